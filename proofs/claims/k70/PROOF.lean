import PyProof.Rows.All
import Wide.All
import OpenK.AllK
import Wide.FinOn
import HandS.ForMost
import HandS.ForExc
import HandS.More
import HandS.TupAny
import HandS.Zip
import HandS.Deep
import HandS.Wide
import HandS.Style
import HandS.Rev
import HandS.TryMany
import HandS.IsInst
import HandS.DictComp
import KE.DataEq
import KE.SortData
import KE.GoesEnum
import HandS.Defaults
import HandS.HeadHook1
import KE.DataFind
import HandS.Small
import KE.KDictSum
import HandS.TupSets
import HandS.HeadHook4
import HandS.HeadEnd
import KE.DataCmp
import KE.KeyNested
import KE.KDictCopyH
import HandS.Head2
import KE.KStateDown
import KE.KDictZip
import KE.GoesMore
import KE.GoesZip
import HandS.TupMul
import HandS.WideBits
import HandS.TryOnly
import HandS.SetFor
import HandS.WordsDict
import PySem.Challenge.RW_fewplaces_k70_whole_turns
set_option Elab.async false
set_option linter.all false
set_option maxRecDepth 100000
set_option maxHeartbeats 4000000
/-! EL: values, results, and how the hand layer's heap bears them. -/
namespace EL
open PySem L2

/-- a value: pure data (never a dict), a dict that is not written any more, a thing that may be written, a tuple that holds such -/
inductive PV where
  | d (x : PyData)
  | dct (kvs : List (PyData × PV))
  | ref (n : Nat)
  | tup (l : List PV)
  /-- the script -/
  | scr (ns : List Int)
/-- a thing that may be written -/
inductive MO where
  | lst (l : List PV)
  | dct (kvs : List (PyData × PV))
  | ins (c : Nat) (fs : List (Str × PV))
abbrev Mh := List MO
abbrev Lo := List (Option PV)
inductive Res (α : Type) where
  | ok (v : α) (mh : Mh)
  | exc (c : Nat) (mh : Mh)
  | bad
namespace Res
def bind {α β : Type} (r : Res α) (f : α → Mh → Res β) : Res β :=
  match r with
  | .ok v mh => f v mh
  | .exc c mh => .exc c mh
  | .bad => .bad
@[simp] theorem bind_ok {α β : Type} (v : α) (mh : Mh) (f : α → Mh → Res β) : (Res.ok v mh).bind f = f v mh := rfl
@[simp] theorem bind_exc {α β : Type} (c : Nat) (mh : Mh) (f : α → Mh → Res β) : (Res.exc c mh).bind f = .exc c mh := rfl
@[simp] theorem bind_bad {α β : Type} (f : α → Mh → Res β) : (Res.bad : Res α).bind f = .bad := rfl
end Res
/-- a key of the hand layer as data -/
def kD : Key → PyData
  | .inl i => .int i
  | .inr x => .str x
theorem kD_inj {a b : Key} (h : kD a = kD b) : a = b := by
  cases a <;> cases b <;> simp [kD] at h <;> rw [h]

/-! ### how the heap bears them -/
/-- not claimed by a thing that may be written, nor put aside -/
def Fz (Z ρ : List Addr) (a : Addr) : Prop := a ∉ Z ∧ a ∉ ρ
/-- a tuple: tracked (or locked) and not claimed, or of the written part -/
def TupS (K : PySem.W.Frag) (Z ρ : List Addr) (H : Hp) (a : Addr) (xs : List V) : Prop :=
  (∃ o : Obj, (o.cls = .type "tuple" ∧ o.dict = none) ∧ H a = some (.frz o (.tup xs)) ∧ Fz Z ρ a) ∨
    ∃ (o : Obj) (its : Array Value) (n : Nat), K.lookup a = some o ∧ o.cls = .type "tuple" ∧ o.dict = none ∧ o.data = .seq its n ∧ its.size ≤ sizeLine ∧ Vals xs its.toList
def TupAt (K : PySem.W.Frag) (Z ρ : List Addr) (H : Hp) (a : Addr) (xs : List V) : Prop :=
  (Rd H a (.tup xs) ∧ Fz Z ρ a) ∨
    ∃ (o : Obj) (its : Array Value) (n : Nat), K.lookup a = some o ∧ o.cls = .type "tuple" ∧ o.data = .seq its n ∧ its.size ≤ sizeLine ∧ Vals xs its.toList
theorem TupS.at {K : PySem.W.Frag} {Z ρ : List Addr} {H : Hp} {a : Addr} {xs : List V} (h : TupS K Z ρ H a xs) : TupAt K Z ρ H a xs := by
  rcases h with ⟨o, -, h, z⟩ | ⟨o, its, n, h1, h2, -, h3⟩
  · exact .inl ⟨.inr ⟨o, h⟩, z⟩
  · exact .inr ⟨o, its, n, h1, h2, h3⟩
theorem TupAt.sq {K : PySem.W.Frag} {Z ρ : List Addr} {H : Hp} {a : Addr} {xs : List V} (h : TupAt K Z ρ H a xs) : SqT K H a xs := by
  rcases h with ⟨h, _⟩ | h
  · exact .inl h
  · exact .inr h
theorem TupS.sq {K : PySem.W.Frag} {Z ρ : List Addr} {H : Hp} {a : Addr} {xs : List V} (h : TupS K Z ρ H a xs) : SqT K H a xs := h.at.sq
/-- a list of ints that is not written -/
def ScrAt (K : PySem.W.Frag) (Z ρ : List Addr) (H : Hp) (a : Addr) (xs : List V) : Prop :=
  (Rd H a (.lst xs) ∧ Fz Z ρ a) ∨
    ∃ (o : Obj) (its : Array Value) (n : Nat), K.lookup a = some o ∧ o.cls = .type "list" ∧ o.dict = none ∧ o.data = .seq its n ∧ its.size ≤ sizeLine ∧ Vals xs its.toList
theorem ScrAt.sq {K : PySem.W.Frag} {Z ρ : List Addr} {H : Hp} {a : Addr} {xs : List V} (h : ScrAt K Z ρ H a xs) : SqL K H a xs := h.imp (·.1) id
mutual
inductive RD (K : PySem.W.Frag) (Z ρ : List Addr) (H : Hp) : PyData → V → Prop
  | non : RD K Z ρ H .none .non
  | bl (b : Bool) : RD K Z ρ H (.bool b) (.bl b)
  | int (i : Int) : RD K Z ρ H (.int i) (.int i)
  | str (x : Str) : RD K Z ρ H (.str x) (.str x)
  | lst {a : Addr} {xs : List V} {ds : List PyData} : H a = some (.lst xs) → Fz Z ρ a → RDs K Z ρ H ds xs → RD K Z ρ H (.list ds) (.ref a)
  | tup {a : Addr} {xs : List V} {ds : List PyData} : TupS K Z ρ H a xs → RDs K Z ρ H ds xs → RD K Z ρ H (.tuple ds) (.ref a)
inductive RDs (K : PySem.W.Frag) (Z ρ : List Addr) (H : Hp) : List PyData → List V → Prop
  | nil : RDs K Z ρ H [] []
  | cons {x : PyData} {v : V} {xs : List PyData} {vs : List V} : RD K Z ρ H x v → RDs K Z ρ H xs vs → RDs K Z ρ H (x :: xs) (v :: vs)
end
mutual
inductive RV (K : PySem.W.Frag) (Z ρ : List Addr) (H : Hp) : PV → V → Prop
  | d {x : PyData} {v : V} : RD K Z ρ H x v → RV K Z ρ H (.d x) v
  | dct {a : Addr} {kvs : List (PyData × PV)} {ks : List (Key × V)} : H a = some (.dK ks) → Fz Z ρ a → RVk K Z ρ H kvs ks → RV K Z ρ H (.dct kvs) (.ref a)
  | ref {n : Nat} {a : Addr} : ρ[n]? = some a → RV K Z ρ H (.ref n) (.ref a)
  | tup {a : Addr} {xs : List V} {l : List PV} : TupAt K Z ρ H a xs → RVs K Z ρ H l xs → RV K Z ρ H (.tup l) (.ref a)
  | scr {a : Addr} {ns : List Int} : ScrAt K Z ρ H a (ns.map V.int) → RV K Z ρ H (.scr ns) (.ref a)
inductive RVs (K : PySem.W.Frag) (Z ρ : List Addr) (H : Hp) : List PV → List V → Prop
  | nil : RVs K Z ρ H [] []
  | cons {x : PV} {v : V} {xs : List PV} {vs : List V} : RV K Z ρ H x v → RVs K Z ρ H xs vs → RVs K Z ρ H (x :: xs) (v :: vs)
inductive RVk (K : PySem.W.Frag) (Z ρ : List Addr) (H : Hp) : List (PyData × PV) → List (Key × V) → Prop
  | nil : RVk K Z ρ H [] []
  | cons {k : Key} {x : PV} {v : V} {r : List (PyData × PV)} {vs : List (Key × V)} : RV K Z ρ H x v → RVk K Z ρ H r vs → RVk K Z ρ H ((kD k, x) :: r) ((k, v) :: vs)
end
inductive RF (K : PySem.W.Frag) (Z ρ : List Addr) (H : Hp) : List (Str × PV) → List (Str × V) → Prop
  | nil : RF K Z ρ H [] []
  | cons {f : Str} {x : PV} {v : V} {r : List (Str × PV)} {vs : List (Str × V)} : RV K Z ρ H x v → RF K Z ρ H r vs → RF K Z ρ H ((f, x) :: r) ((f, v) :: vs)

/-- from one state to a later one -/
structure Ext (ρ : List Addr) (H : Hp) (ρ' : List Addr) (H' : Hp) : Prop where
  pre : ρ <+: ρ'
  keep : ∀ a o, H a = some o → a ∉ ρ → H' a = some o
  fresh : ∀ a, a ∈ ρ' → a ∉ ρ → H a = none
theorem Ext.refl (ρ : List Addr) (H : Hp) : Ext ρ H ρ H := ⟨List.prefix_refl _, fun _ _ h _ => h, fun _ h n => absurd h n⟩
theorem Ext.sub {ρ ρ' : List Addr} {H H' : Hp} (e : Ext ρ H ρ' H') {a : Addr} (h : a ∈ ρ) : a ∈ ρ' := e.pre.subset h
theorem Ext.out {ρ ρ' : List Addr} {H H' : Hp} (e : Ext ρ H ρ' H') {a : Addr} {o : HO} (h : H a = some o) (n : a ∉ ρ) : a ∉ ρ' := fun m => by
  rw [e.fresh a m n] at h; cases h
theorem Ext.trans {ρ ρ1 ρ2 : List Addr} {H H1 H2 : Hp} (e : Ext ρ H ρ1 H1) (f : Ext ρ1 H1 ρ2 H2) : Ext ρ H ρ2 H2 where
  pre := e.pre.trans f.pre
  keep := fun a o h n => f.keep a o (e.keep a o h n) (e.out h n)
  fresh := fun a m n => by
    cases q : H a with
    | none => rfl
    | some o =>
      have := f.fresh a m (e.out q n)
      rw [e.keep a o q n] at this; cases this
theorem Ext.fz {Z ρ ρ' : List Addr} {H H' : Hp} (e : Ext ρ H ρ' H') {a : Addr} {o : HO} (h : H a = some o) (z : Fz Z ρ a) : Fz Z ρ' a := ⟨z.1, e.out h z.2⟩
theorem Ext.at {ρ ρ' : List Addr} {H H' : Hp} (e : Ext ρ H ρ' H') {n : Nat} {a : Addr} (h : ρ[n]? = some a) : ρ'[n]? = some a := by
  obtain ⟨t, rfl⟩ := e.pre
  have hl : n < ρ.length := (List.getElem?_eq_some_iff.mp h).1
  rw [List.getElem?_append_left hl]; exact h
section
variable {K : PySem.W.Frag} {Z ρ ρ' : List Addr} {H H' : Hp}
theorem TupS.mono (e : Ext ρ H ρ' H') {a : Addr} {xs : List V} (h : TupS K Z ρ H a xs) : TupS K Z ρ' H' a xs := by
  rcases h with ⟨o, d, h, z⟩ | h
  · exact .inl ⟨o, d, e.keep a _ h z.2, e.fz h z⟩
  · exact .inr h
theorem TupAt.mono (e : Ext ρ H ρ' H') {a : Addr} {xs : List V} (h : TupAt K Z ρ H a xs) : TupAt K Z ρ' H' a xs := by
  rcases h with ⟨h | ⟨o, h⟩, z⟩ | h
  · exact .inl ⟨.inl (e.keep a _ h z.2), e.fz h z⟩
  · exact .inl ⟨.inr ⟨o, e.keep a _ h z.2⟩, e.fz h z⟩
  · exact .inr h
theorem ScrAt.mono (e : Ext ρ H ρ' H') {a : Addr} {xs : List V} (h : ScrAt K Z ρ H a xs) : ScrAt K Z ρ' H' a xs := by
  rcases h with ⟨h | ⟨o, h⟩, z⟩ | h
  · exact .inl ⟨.inl (e.keep a _ h z.2), e.fz h z⟩
  · exact .inl ⟨.inr ⟨o, e.keep a _ h z.2⟩, e.fz h z⟩
  · exact .inr h
mutual
theorem RD.mono (e : Ext ρ H ρ' H') : ∀ {x : PyData} {v : V}, RD K Z ρ H x v → RD K Z ρ' H' x v
  | _, _, .non => .non
  | _, _, .bl b => .bl b
  | _, _, .int i => .int i
  | _, _, .str x => .str x
  | _, _, .lst h z r => .lst (e.keep _ _ h z.2) (e.fz h z) (RDs.mono e r)
  | _, _, .tup h r => .tup (h.mono e) (RDs.mono e r)
theorem RDs.mono (e : Ext ρ H ρ' H') : ∀ {x : List PyData} {v : List V}, RDs K Z ρ H x v → RDs K Z ρ' H' x v
  | _, _, .nil => .nil
  | _, _, .cons h r => .cons (RD.mono e h) (RDs.mono e r)
end
mutual
theorem RV.mono (e : Ext ρ H ρ' H') : ∀ {x : PV} {v : V}, RV K Z ρ H x v → RV K Z ρ' H' x v
  | _, _, .d h => .d (h.mono e)
  | _, _, .dct h z r => .dct (e.keep _ _ h z.2) (e.fz h z) (RVk.mono e r)
  | _, _, .ref h => .ref (e.at h)
  | _, _, .tup h r => .tup (h.mono e) (RVs.mono e r)
  | _, _, .scr h => .scr (h.mono e)
theorem RVs.mono (e : Ext ρ H ρ' H') : ∀ {x : List PV} {v : List V}, RVs K Z ρ H x v → RVs K Z ρ' H' x v
  | _, _, .nil => .nil
  | _, _, .cons h r => .cons (RV.mono e h) (RVs.mono e r)
theorem RVk.mono (e : Ext ρ H ρ' H') : ∀ {x : List (PyData × PV)} {v : List (Key × V)}, RVk K Z ρ H x v → RVk K Z ρ' H' x v
  | _, _, .nil => .nil
  | _, _, .cons h r => .cons (RV.mono e h) (RVk.mono e r)
end
theorem RF.mono (e : Ext ρ H ρ' H') : ∀ {x : List (Str × PV)} {v : List (Str × V)}, RF K Z ρ H x v → RF K Z ρ' H' x v
  | _, _, .nil => .nil
  | _, _, .cons h r => .cons (h.mono e) (RF.mono e r)
/-- fewer things put aside -/
theorem Fz.less {Z' : List Addr} (hs : ∀ a, a ∈ Z' → a ∈ Z) {a : Addr} (z : Fz Z ρ a) : Fz Z' ρ a := ⟨fun m => z.1 (hs a m), z.2⟩
theorem TupS.less {Z' : List Addr} (hs : ∀ a, a ∈ Z' → a ∈ Z) {a : Addr} {xs : List V} (h : TupS K Z ρ H a xs) : TupS K Z' ρ H a xs := by
  rcases h with ⟨o, d, h, z⟩ | h
  · exact .inl ⟨o, d, h, z.less hs⟩
  · exact .inr h
theorem TupAt.less {Z' : List Addr} (hs : ∀ a, a ∈ Z' → a ∈ Z) {a : Addr} {xs : List V} (h : TupAt K Z ρ H a xs) : TupAt K Z' ρ H a xs := by
  rcases h with ⟨h, z⟩ | h
  · exact .inl ⟨h, z.less hs⟩
  · exact .inr h
theorem ScrAt.less {Z' : List Addr} (hs : ∀ a, a ∈ Z' → a ∈ Z) {a : Addr} {xs : List V} (h : ScrAt K Z ρ H a xs) : ScrAt K Z' ρ H a xs := by
  rcases h with ⟨h, z⟩ | h
  · exact .inl ⟨h, z.less hs⟩
  · exact .inr h
mutual
theorem RD.less {Z' : List Addr} (hs : ∀ a, a ∈ Z' → a ∈ Z) : ∀ {x : PyData} {v : V}, RD K Z ρ H x v → RD K Z' ρ H x v
  | _, _, .non => .non
  | _, _, .bl b => .bl b
  | _, _, .int i => .int i
  | _, _, .str x => .str x
  | _, _, .lst h z r => .lst h (z.less hs) (RDs.less hs r)
  | _, _, .tup h r => .tup (h.less hs) (RDs.less hs r)
theorem RDs.less {Z' : List Addr} (hs : ∀ a, a ∈ Z' → a ∈ Z) : ∀ {x : List PyData} {v : List V}, RDs K Z ρ H x v → RDs K Z' ρ H x v
  | _, _, .nil => .nil
  | _, _, .cons h r => .cons (RD.less hs h) (RDs.less hs r)
end
mutual
theorem RV.less {Z' : List Addr} (hs : ∀ a, a ∈ Z' → a ∈ Z) : ∀ {x : PV} {v : V}, RV K Z ρ H x v → RV K Z' ρ H x v
  | _, _, .d h => .d (h.less hs)
  | _, _, .dct h z r => .dct h (z.less hs) (RVk.less hs r)
  | _, _, .ref h => .ref h
  | _, _, .tup h r => .tup (h.less hs) (RVs.less hs r)
  | _, _, .scr h => .scr (h.less hs)
theorem RVs.less {Z' : List Addr} (hs : ∀ a, a ∈ Z' → a ∈ Z) : ∀ {x : List PV} {v : List V}, RVs K Z ρ H x v → RVs K Z' ρ H x v
  | _, _, .nil => .nil
  | _, _, .cons h r => .cons (RV.less hs h) (RVs.less hs r)
theorem RVk.less {Z' : List Addr} (hs : ∀ a, a ∈ Z' → a ∈ Z) : ∀ {x : List (PyData × PV)} {v : List (Key × V)}, RVk K Z ρ H x v → RVk K Z' ρ H x v
  | _, _, .nil => .nil
  | _, _, .cons h r => .cons (RV.less hs h) (RVk.less hs r)
end
theorem RF.less {Z' : List Addr} (hs : ∀ a, a ∈ Z' → a ∈ Z) : ∀ {x : List (Str × PV)} {v : List (Str × V)}, RF K Z ρ H x v → RF K Z' ρ H x v
  | _, _, .nil => .nil
  | _, _, .cons h r => .cons (h.less hs) (RF.less hs r)
/-- one more thing put aside, which is new -/
theorem Fz.more {p a : Addr} {o : HO} (hp : H p = none) (h : H a = some o) (z : Fz Z ρ a) : Fz (p :: Z) ρ a :=
  ⟨fun m => (List.mem_cons.mp m).elim (fun e => by rw [e, hp] at h; cases h) z.1, z.2⟩
theorem TupS.more {p a : Addr} (hp : H p = none) {xs : List V} (h : TupS K Z ρ H a xs) : TupS K (p :: Z) ρ H a xs := by
  rcases h with ⟨o, d, h, z⟩ | h
  · exact .inl ⟨o, d, h, z.more hp h⟩
  · exact .inr h
theorem TupAt.more {p a : Addr} (hp : H p = none) {xs : List V} (h : TupAt K Z ρ H a xs) : TupAt K (p :: Z) ρ H a xs := by
  rcases h with ⟨h | ⟨o, h⟩, z⟩ | h
  · exact .inl ⟨.inl h, z.more hp h⟩
  · exact .inl ⟨.inr ⟨o, h⟩, z.more hp h⟩
  · exact .inr h
theorem ScrAt.more {p a : Addr} (hp : H p = none) {xs : List V} (h : ScrAt K Z ρ H a xs) : ScrAt K (p :: Z) ρ H a xs := by
  rcases h with ⟨h | ⟨o, h⟩, z⟩ | h
  · exact .inl ⟨.inl h, z.more hp h⟩
  · exact .inl ⟨.inr ⟨o, h⟩, z.more hp h⟩
  · exact .inr h
mutual
theorem RD.more {p : Addr} (hp : H p = none) : ∀ {x : PyData} {v : V}, RD K Z ρ H x v → RD K (p :: Z) ρ H x v
  | _, _, .non => .non
  | _, _, .bl b => .bl b
  | _, _, .int i => .int i
  | _, _, .str x => .str x
  | _, _, .lst h z r => .lst h (z.more hp h) (RDs.more hp r)
  | _, _, .tup h r => .tup (h.more hp) (RDs.more hp r)
theorem RDs.more {p : Addr} (hp : H p = none) : ∀ {x : List PyData} {v : List V}, RDs K Z ρ H x v → RDs K (p :: Z) ρ H x v
  | _, _, .nil => .nil
  | _, _, .cons h r => .cons (RD.more hp h) (RDs.more hp r)
end
mutual
theorem RV.more {p : Addr} (hp : H p = none) : ∀ {x : PV} {v : V}, RV K Z ρ H x v → RV K (p :: Z) ρ H x v
  | _, _, .d h => .d (h.more hp)
  | _, _, .dct h z r => .dct h (z.more hp h) (RVk.more hp r)
  | _, _, .ref h => .ref h
  | _, _, .tup h r => .tup (h.more hp) (RVs.more hp r)
  | _, _, .scr h => .scr (h.more hp)
theorem RVs.more {p : Addr} (hp : H p = none) : ∀ {x : List PV} {v : List V}, RVs K Z ρ H x v → RVs K (p :: Z) ρ H x v
  | _, _, .nil => .nil
  | _, _, .cons h r => .cons (RV.more hp h) (RVs.more hp r)
theorem RVk.more {p : Addr} (hp : H p = none) : ∀ {x : List (PyData × PV)} {v : List (Key × V)}, RVk K Z ρ H x v → RVk K (p :: Z) ρ H x v
  | _, _, .nil => .nil
  | _, _, .cons h r => .cons (RV.more hp h) (RVk.more hp r)
end
theorem RF.more {p : Addr} (hp : H p = none) : ∀ {x : List (Str × PV)} {v : List (Str × V)}, RF K Z ρ H x v → RF K (p :: Z) ρ H x v
  | _, _, .nil => .nil
  | _, _, .cons h r => .cons (h.more hp) (RF.more hp r)
theorem RVs.length : ∀ {x : List PV} {v : List V}, RVs K Z ρ H x v → x.length = v.length
  | _, _, .nil => rfl
  | _, _, .cons _ r => by simp [RVs.length r]
theorem RDs.length : ∀ {x : List PyData} {v : List V}, RDs K Z ρ H x v → x.length = v.length
  | _, _, .nil => rfl
  | _, _, .cons _ r => by simp [RDs.length r]
theorem RVs.ofD : ∀ {x : List PyData} {v : List V}, RDs K Z ρ H x v → RVs K Z ρ H (x.map .d) v
  | _, _, .nil => .nil
  | _, _, .cons h r => .cons (.d h) (RVs.ofD r)
theorem RVs.append : ∀ {x y : List PV} {v w : List V}, RVs K Z ρ H x v → RVs K Z ρ H y w → RVs K Z ρ H (x ++ y) (v ++ w)
  | _, _, _, _, .nil, s => s
  | _, _, _, _, .cons h r, s => .cons h (RVs.append r s)
theorem RDs.append : ∀ {x y : List PyData} {v w : List V}, RDs K Z ρ H x v → RDs K Z ρ H y w → RDs K Z ρ H (x ++ y) (v ++ w)
  | _, _, _, _, .nil, s => s
  | _, _, _, _, .cons h r, s => .cons h (RDs.append r s)
theorem RVs.get : ∀ {x : List PV} {v : List V} {i : Nat} {y : PV}, RVs K Z ρ H x v → x[i]? = some y → ∃ w, v[i]? = some w ∧ RV K Z ρ H y w
  | _, _, _, _, .nil, e => by simp at e
  | _, _, 0, _, .cons h _, e => by simp at e; subst e; exact ⟨_, rfl, h⟩
  | _, _, i + 1, _, .cons _ r, e => by simpa using RVs.get r (by simpa using e)
theorem RDs.get : ∀ {x : List PyData} {v : List V} {i : Nat} {y : PyData}, RDs K Z ρ H x v → x[i]? = some y → ∃ w, v[i]? = some w ∧ RD K Z ρ H y w
  | _, _, _, _, .nil, e => by simp at e
  | _, _, 0, _, .cons h _, e => by simp at e; subst e; exact ⟨_, rfl, h⟩
  | _, _, i + 1, _, .cons _ r, e => by simpa using RDs.get r (by simpa using e)
theorem RDs.get' : ∀ {x : List PyData} {v : List V} {i : Nat} {w : V}, RDs K Z ρ H x v → v[i]? = some w → ∃ y, x[i]? = some y ∧ RD K Z ρ H y w
  | _, _, _, _, .nil, e => by simp at e
  | _, _, 0, _, .cons h _, e => by simp at e; subst e; exact ⟨_, rfl, h⟩
  | _, _, i + 1, _, .cons _ r, e => by simpa using RDs.get' r (by simpa using e)
theorem RVs.get' : ∀ {x : List PV} {v : List V} {i : Nat} {w : V}, RVs K Z ρ H x v → v[i]? = some w → ∃ y, x[i]? = some y ∧ RV K Z ρ H y w
  | _, _, _, _, .nil, e => by simp at e
  | _, _, 0, _, .cons h _, e => by simp at e; subst e; exact ⟨_, rfl, h⟩
  | _, _, i + 1, _, .cons _ r, e => by simpa using RVs.get' r (by simpa using e)
theorem RDs.take : ∀ {x : List PyData} {v : List V} (n : Nat), RDs K Z ρ H x v → RDs K Z ρ H (x.take n) (v.take n)
  | _, _, 0, _ => .nil
  | _, _, _ + 1, .nil => .nil
  | _, _, n + 1, .cons h r => .cons h (RDs.take n r)
theorem RDs.drop : ∀ {x : List PyData} {v : List V} (n : Nat), RDs K Z ρ H x v → RDs K Z ρ H (x.drop n) (v.drop n)
  | _, _, 0, r => r
  | _, _, _ + 1, .nil => .nil
  | _, _, n + 1, .cons _ r => RDs.drop n r
theorem RVs.take : ∀ {x : List PV} {v : List V} (n : Nat), RVs K Z ρ H x v → RVs K Z ρ H (x.take n) (v.take n)
  | _, _, 0, _ => .nil
  | _, _, _ + 1, .nil => .nil
  | _, _, n + 1, .cons h r => .cons h (RVs.take n r)
theorem RVs.drop : ∀ {x : List PV} {v : List V} (n : Nat), RVs K Z ρ H x v → RVs K Z ρ H (x.drop n) (v.drop n)
  | _, _, 0, r => r
  | _, _, _ + 1, .nil => .nil
  | _, _, n + 1, .cons _ r => RVs.drop n r
theorem RVs.set : ∀ {x : List PV} {v : List V} (n : Nat) {y : PV} {w : V}, RVs K Z ρ H x v → RV K Z ρ H y w → RVs K Z ρ H (x.set n y) (v.set n w)
  | _, _, _, _, _, .nil, _ => .nil
  | _, _, 0, _, _, .cons _ r, h => .cons h r
  | _, _, n + 1, _, _, .cons h r, h' => .cons h (RVs.set n r h')
theorem RVs.reverse : ∀ {x : List PV} {v : List V}, RVs K Z ρ H x v → RVs K Z ρ H x.reverse v.reverse
  | _, _, .nil => .nil
  | _, _, .cons h r => by rw [List.reverse_cons, List.reverse_cons]; exact RVs.append (RVs.reverse r) (.cons h .nil)
end
/-- all of them data -/
def allD : List PV → Option (List PyData)
  | [] => some []
  | .d x :: r => (allD r).map (x :: ·)
  | _ :: _ => none
@[simp] theorem allD_nil : allD [] = some [] := rfl
@[simp] theorem allD_cons (x : PyData) (r : List PV) : allD (.d x :: r) = (allD r).map (x :: ·) := rfl
@[simp] theorem allD_map (l : List PyData) : allD (l.map .d) = some l := by
  induction l with
  | nil => rfl
  | cons x r ih => simp [ih]
theorem allD_map' {α : Type} (f : α → PyData) (l : List α) : allD (l.map fun x => .d (f x)) = some (l.map f) := by
  rw [← allD_map, List.map_map]; rfl
theorem allD_ok : ∀ {l : List PV} {ds : List PyData}, allD l = some ds → l = ds.map .d
  | [], _, h => by simp [allD] at h; subst h; rfl
  | .d x :: r, _, h => by
    simp [allD] at h
    obtain ⟨t, h1, rfl⟩ := h
    rw [allD_ok h1]; rfl
  | .dct _ :: _, _, h => by simp [allD] at h
  | .scr _ :: _, _, h => by simp [allD] at h
  | .ref _ :: _, _, h => by simp [allD] at h
  | .tup _ :: _, _, h => by simp [allD] at h
theorem RVs.toD {K : PySem.W.Frag} {Z ρ : List Addr} {H : Hp} : ∀ {ds : List PyData} {v : List V}, RVs K Z ρ H (ds.map .d) v → RDs K Z ρ H ds v
  | [], _, .nil => .nil
  | _ :: _, _, .cons (.d h) r => .cons h (RVs.toD r)

/-- a thing that may be written, as it stands at a -/
inductive RO (K : PySem.W.Frag) (cls : Nat → Addr) (Z ρ : List Addr) (H : Hp) : MO → Addr → Prop
  | lst {l : List PV} {xs : List V} {a : Addr} : H a = some (.lst xs) → RVs K Z ρ H l xs → RO K cls Z ρ H (.lst l) a
  | dct {kvs : List (PyData × PV)} {ks : List (Key × V)} {a : Addr} : H a = some (.dK ks) → RVk K Z ρ H kvs ks → RO K cls Z ρ H (.dct kvs) a
  | ins {c : Nat} {fs : List (Str × PV)} {gs : List (Str × V)} {dx a : Addr} : H a = some (.ins (cls c) dx gs) → RF K Z ρ H fs gs → RO K cls Z ρ H (.ins c fs) a
structure RH (K : PySem.W.Frag) (cls : Nat → Addr) (Z ρ : List Addr) (mh : Mh) (H : Hp) : Prop where
  len : ρ.length = mh.length
  nd : ρ.Nodup
  zs : ∀ z ∈ Z, z ∉ ρ ∧ (H z).isSome = true
  objs : ∀ (n : Nat) (o : MO) (a : Addr), mh[n]? = some o → ρ[n]? = some a → RO K cls Z ρ H o a
section
variable {K : PySem.W.Frag} {cls : Nat → Addr} {Z ρ ρ' : List Addr} {H H' : Hp} {mh : Mh}
theorem RO.there {o : MO} {a : Addr} (h : RO K cls Z ρ H o a) : ∃ u, H a = some u := by cases h <;> exact ⟨_, ‹_›⟩
theorem RO.mono (e : Ext ρ H ρ' H') {o : MO} {a : Addr} (k : H' a = H a) (h : RO K cls Z ρ H o a) : RO K cls Z ρ' H' o a := by
  cases h with
  | lst h r => exact .lst (k.trans h) (r.mono e)
  | dct h r => exact .dct (k.trans h) (r.mono e)
  | ins h r => exact .ins (k.trans h) (r.mono e)
theorem RO.less {Z' : List Addr} (hs : ∀ a, a ∈ Z' → a ∈ Z) {o : MO} {a : Addr} (h : RO K cls Z ρ H o a) : RO K cls Z' ρ H o a := by
  cases h with
  | lst h r => exact .lst h (r.less hs)
  | dct h r => exact .dct h (r.less hs)
  | ins h r => exact .ins h (r.less hs)
theorem RO.more {p : Addr} (hp : H p = none) {o : MO} {a : Addr} (h : RO K cls Z ρ H o a) : RO K cls (p :: Z) ρ H o a := by
  cases h with
  | lst h r => exact .lst h (r.more hp)
  | dct h r => exact .dct h (r.more hp)
  | ins h r => exact .ins h (r.more hp)
theorem RH.get (h : RH K cls Z ρ mh H) {n : Nat} {o : MO} (e : mh[n]? = some o) : ∃ a, ρ[n]? = some a ∧ RO K cls Z ρ H o a := by
  have hl : n < mh.length := (List.getElem?_eq_some_iff.mp e).1
  rw [← h.len] at hl
  exact ⟨ρ[n], List.getElem?_eq_getElem hl, h.objs n o _ e (List.getElem?_eq_getElem hl)⟩
theorem RH.there (h : RH K cls Z ρ mh H) {a : Addr} (m : a ∈ ρ) : ∃ u, H a = some u := by
  obtain ⟨n, hn, e⟩ := List.mem_iff_getElem.mp m
  have hl : n < mh.length := by rw [← h.len]; exact hn
  exact (h.objs n _ a (List.getElem?_eq_getElem hl) (by rw [List.getElem?_eq_getElem hn, e])).there
theorem RH.fresh (h : RH K cls Z ρ mh H) {p : Addr} (hp : H p = none) : p ∉ ρ ∧ p ∉ Z := by
  refine ⟨fun m => ?_, fun m => ?_⟩
  · obtain ⟨u, e⟩ := h.there m
    rw [hp] at e; cases e
  · have := (h.zs p m).2
    rw [hp] at this; cases this
theorem RH.fz (h : RH K cls Z ρ mh H) {p : Addr} (hp : H p = none) : Fz Z ρ p := ⟨(h.fresh hp).2, (h.fresh hp).1⟩
/-- a new thing that is never written -/
theorem Ext.new {p : Addr} {o : HO} (hp : H p = none) : Ext ρ H ρ (upd H p o) :=
  ⟨List.prefix_refl _, fun a u h _ => by rw [upd_ne (ne_of_none h hp)]; exact h, fun _ m n => absurd m n⟩
theorem RH.new (h : RH K cls Z ρ mh H) {p : Addr} {o : HO} (hp : H p = none) : RH K cls Z ρ mh (upd H p o) where
  len := h.len
  nd := h.nd
  zs := fun z m => ⟨(h.zs z m).1, by
    have hz := (h.zs z m).2
    have : z ≠ p := fun e => by rw [e, hp] at hz; cases hz
    rw [upd_ne this]; exact hz⟩
  objs := fun n u a e1 e2 => by
    have q := h.objs n u a e1 e2
    obtain ⟨w, hw⟩ := q.there
    exact q.mono (Ext.new hp) (by rw [upd_ne (ne_of_none hw hp)])
/-- a new thing that may be written -/
theorem Ext.alloc {p : Addr} {o : HO} (hp : H p = none) : Ext ρ H (ρ ++ [p]) (upd H p o) :=
  ⟨List.prefix_append _ _, fun a u h _ => by rw [upd_ne (ne_of_none h hp)]; exact h, fun a m n => by
    rcases List.mem_append.mp m with m | m
    · exact absurd m n
    · rw [List.mem_singleton.mp m]; exact hp⟩
theorem at_last (ρ : List Addr) (p : Addr) : (ρ ++ [p])[ρ.length]? = some p := by simp
theorem RH.alloc (h : RH K cls Z ρ mh H) {p : Addr} {o : HO} {m : MO} (hp : H p = none) (hm : RO K cls Z (ρ ++ [p]) (upd H p o) m p) : RH K cls Z (ρ ++ [p]) (mh ++ [m]) (upd H p o) where
  len := by simp [h.len]
  nd := by
    rw [List.nodup_append]
    refine ⟨h.nd, by simp, fun a ha b hb => ?_⟩
    rw [List.mem_singleton.mp hb]
    intro e; rw [e] at ha; exact (h.fresh hp).1 ha
  zs := fun z hz => by
    refine ⟨fun q => ?_, ((h.new (o := o) hp).zs z hz).2⟩
    rcases List.mem_append.mp q with q | q
    · exact (h.zs z hz).1 q
    · have := (h.zs z hz).2
      rw [List.mem_singleton.mp q, hp] at this; cases this
  objs := fun n u a e1 e2 => by
    by_cases hn : n < mh.length
    · rw [List.getElem?_append_left hn] at e1
      rw [List.getElem?_append_left (by rw [h.len]; exact hn)] at e2
      have q := h.objs n u a e1 e2
      obtain ⟨w, hw⟩ := q.there
      exact q.mono (Ext.alloc hp) (by rw [upd_ne (ne_of_none hw hp)])
    · have hn' : n = mh.length := by
        have := (List.getElem?_eq_some_iff.mp e1).1
        simp at this; omega
      subst hn'
      simp at e1; subst e1
      rw [← h.len, at_last] at e2
      cases e2; exact hm
/-- a thing is written -/
theorem Ext.write {a : Addr} {o : HO} (m : a ∈ ρ) : Ext ρ H ρ (upd H a o) :=
  ⟨List.prefix_refl _, fun b u h n => by rw [upd_ne (fun e => n (by rw [e]; exact m))]; exact h, fun _ m n => absurd m n⟩
theorem RH.write (h : RH K cls Z ρ mh H) {n : Nat} {a : Addr} {o : HO} {m : MO} (e : ρ[n]? = some a) (hm : RO K cls Z ρ (upd H a o) m a) : RH K cls Z ρ (mh.set n m) (upd H a o) where
  len := by simp [h.len]
  nd := h.nd
  zs := fun z hz => ⟨(h.zs z hz).1, by
    have : z ≠ a := fun q => (h.zs z hz).1 (by rw [q]; exact List.mem_of_getElem? e)
    rw [upd_ne this]; exact (h.zs z hz).2⟩
  objs := fun k u b e1 e2 => by
    by_cases hk : n = k
    · subst hk
      rw [e] at e2; cases e2
      have hl : n < mh.length := by
        have := (List.getElem?_eq_some_iff.mp e1).1
        simpa using this
      rw [List.getElem?_set_self hl] at e1
      cases e1; exact hm
    · rw [List.getElem?_set_ne hk] at e1
      have q := h.objs k u b e1 e2
      have hb : b ≠ a := fun z => by
        subst z
        obtain ⟨i1, j1⟩ := List.getElem?_eq_some_iff.mp e
        obtain ⟨i2, j2⟩ := List.getElem?_eq_some_iff.mp e2
        exact hk ((List.getElem_inj h.nd).mp (j1.trans j2.symm))
      exact q.mono (Ext.write (List.mem_of_getElem? e)) (by rw [upd_ne hb])
theorem RH.less {Z' : List Addr} (hs : ∀ a, a ∈ Z' → a ∈ Z) (h : RH K cls Z ρ mh H) : RH K cls Z' ρ mh H :=
  ⟨h.len, h.nd, fun z m => h.zs z (hs z m), fun n o a e1 e2 => (h.objs n o a e1 e2).less hs⟩
end
/-- the slots -/
structure RS (K : PySem.W.Frag) (cls : Nat → Addr) (Z ρ : List Addr) (lo : Lo) (mh : Mh) (σ : L2.St) (H : Hp) : Prop where
  hp : RH K cls Z ρ mh H
  len : lo.length = σ.length
  loc : ∀ (i : Nat) (v : PV), lo[i]? = some (some v) → ∃ x, σ[i]? = some (some x) ∧ RV K Z ρ H v x
theorem RS.to {K : PySem.W.Frag} {cls : Nat → Addr} {Z ρ ρ' : List Addr} {lo : Lo} {mh mh' : Mh} {σ : L2.St} {H H' : Hp} (s : RS K cls Z ρ lo mh σ H) (e : Ext ρ H ρ' H') (h : RH K cls Z ρ' mh' H') : RS K cls Z ρ' lo mh' σ H' :=
  ⟨h, s.len, fun i v q => let ⟨x, q1, q2⟩ := s.loc i v q; ⟨x, q1, q2.mono e⟩⟩
theorem RS.set {K : PySem.W.Frag} {cls : Nat → Addr} {Z ρ : List Addr} {lo : Lo} {mh : Mh} {σ : L2.St} {H : Hp} (s : RS K cls Z ρ lo mh σ H) {i : Nat} {v : PV} {x : V} (r : RV K Z ρ H v x) : RS K cls Z ρ (lo.set i (some v)) mh (σ.set i (some x)) H :=
  ⟨s.hp, by simp [s.len], fun j w q => by
    by_cases hj : i = j
    · subst hj
      have hl : i < lo.length := by
        have := (List.getElem?_eq_some_iff.mp q).1
        simpa using this
      rw [List.getElem?_set_self hl] at q
      cases q
      exact ⟨x, by rw [List.getElem?_set_self (by rw [← s.len]; exact hl)], r⟩
    · rw [List.getElem?_set_ne hj] at q
      obtain ⟨y, q1, q2⟩ := s.loc j w q
      exact ⟨y, by rw [List.getElem?_set_ne hj]; exact q1, q2⟩⟩

/-! ### what is to hold behind a result -/
section
variable (K : PySem.W.Frag) (cls : Nat → Addr)
def Post (E : XK) (Z ρ : List Addr) (H : Hp) {α : Type} (r : Res α) (Kt : α → List Addr → Mh → Hp → Prop) : Prop :=
  match r with
  | .ok v mh' => ∀ ρ' H', Ext ρ H ρ' H' → RH K cls Z ρ' mh' H' → Kt v ρ' mh' H'
  | .exc c mh' => ∀ ρ' H', Ext ρ H ρ' H' → RH K cls Z ρ' mh' H' → E (.ref (cls c)) none H'
  | .bad => False
/-- the reading of a piece of text: m tells what it gives, Rp how a value is borne -/
def tG {α β : Type} (Rp : List Addr → List Addr → Hp → α → β → Prop) (E : XK) (m : Lo → Mh → Res α) : L2.St → Hp → (β → Hp → Prop) → Prop := fun σ H Q =>
  ∃ Z ρ lo mh, RS K cls Z ρ lo mh σ H ∧ Post K cls E Z ρ H (m lo mh) fun v ρ' _ H' => ∀ x, Rp Z ρ' H' v x → Q x H'
abbrev EM := Lo → Mh → Res PV
def tE (E : XK) (m : EM) : TE := tG K cls (RV K) E m
def tA (E : XK) (m : Lo → Mh → Res (List PV)) : TA := tG K cls (RVs K) E m
def tT (E : XK) (m : Lo → Mh → Res Bool) : TT := tG K cls (fun _ _ _ b c => b = c) E m
end
section
variable {K : PySem.W.Frag} {cls : Nat → Addr} {E : XK} {Z ρ ρ' : List Addr} {H H' : Hp} {α β γ : Type}
theorem Post.imp {r : Res α} {Kt Kt' : α → List Addr → Mh → Hp → Prop} (h : Post K cls E Z ρ H r Kt) (f : ∀ v ρ' mh' H', Ext ρ H ρ' H' → RH K cls Z ρ' mh' H' → Kt v ρ' mh' H' → Kt' v ρ' mh' H') : Post K cls E Z ρ H r Kt' := by
  cases r with
  | ok v mh' => exact fun ρ' H' e r => f v ρ' mh' H' e r (h ρ' H' e r)
  | exc c mh' => exact h
  | bad => exact h
theorem Post.later {r : Res α} {Kt : α → List Addr → Mh → Hp → Prop} (h : Post K cls E Z ρ H r Kt) (e : Ext ρ H ρ' H') : Post K cls E Z ρ' H' r Kt := by
  cases r with
  | ok v mh' => exact fun ρ2 H2 e2 r => h ρ2 H2 (e.trans e2) r
  | exc c mh' => exact fun ρ2 H2 e2 r => h ρ2 H2 (e.trans e2) r
  | bad => exact h
theorem Post.bind {r : Res α} {f : α → Mh → Res β} {Kt : β → List Addr → Mh → Hp → Prop} (h : Post K cls E Z ρ H (r.bind f) Kt) :
    Post K cls E Z ρ H r fun v ρ1 mh1 H1 => Post K cls E Z ρ1 H1 (f v mh1) Kt := by
  cases r with
  | ok v mh' => exact fun ρ' H' e r => h.later e
  | exc c mh' => exact h
  | bad => exact h
/-- a value that is there at once -/
theorem Post.now {v : α} {mh : Mh} {Kt : α → List Addr → Mh → Hp → Prop} (h : Post K cls E Z ρ H (.ok v mh) Kt) (r : RH K cls Z ρ mh H) : Kt v ρ mh H := h ρ H (Ext.refl _ _) r
end
end EL


set_option Elab.async false
set_option linter.all false
set_option maxRecDepth 100000
set_option maxHeartbeats 4000000
/-! EL: judgements, and the rules of expressions. -/
namespace EL
open PySem L2

/-! ### what a context must be -/
structure COk (X : Cx) : Prop where
  nd : X.N.Nodup
  calm : X.calm = true
  un : X.A.units + 200 < cLine
theorem COk.blk {X : Cx} (c : COk X) (s : Shared) (H : Hp) (scope : Scope) (cenv : Env) (fp : List Addr) : COk (X.blk s H scope cenv fp) := ⟨c.nd, c.calm, c.un⟩
/-- an expression, and it given to a name -/
structure PEs (X : Cx) (e : Expr) (t : TE) : Prop where
  pe : PE X e t
  set : ∀ (y : Str) (i : Nat) (py spos : Pos), X.N[i]? = some y → Loc X.env.scope y → (X.fn y = true ∨ X.env.scope.names.lookup y = some .local) → PS X (.Assign [.Name y py] e spos) (tAsg t (gName i))
def JE (X : Cx) (cls : Nat → Addr) (e : Expr) (m : EM) : Prop := ∀ E, Passes (L2.CX X.prog X.w) X E → PEs X e (tE X.K cls E m)
def JA (X : Cx) (cls : Nat → Addr) (es : List Expr) (m : Lo → Mh → Res (List PV)) : Prop := ∀ E, Passes (L2.CX X.prog X.w) X E → PA X es (tA X.K cls E m)
def JT (X : Cx) (cls : Nat → Addr) (e : Expr) (m : Lo → Mh → Res Bool) : Prop := ∀ E, Passes (L2.CX X.prog X.w) X E → PT X e (tT X.K cls E m)
def JW (X : Cx) (cls : Nat → Addr) (e : Expr) (m : Lo → Mh → Res Bool) : Prop := ∀ E, Passes (L2.CX X.prog X.w) X E → PW X e (tT X.K cls E m)

section
variable {X : Cx} {cls : Nat → Addr} {e a b : Expr} {pos : Pos}
theorem _root_.L2.PE.imp {t t' : TE} (h : PE X e t) (f : ∀ σ H Q, t' σ H Q → t σ H Q) : PE X e t' := ⟨fun pins s σ H Q I q => h.run pins s σ H Q I (f _ _ _ q)⟩
theorem _root_.L2.PT.imp {t t' : TT} (h : PT X e t) (f : ∀ σ H Q, t' σ H Q → t σ H Q) : PT X e t' := ⟨fun pins s σ H Q I q => h.run pins s σ H Q I (f _ _ _ q)⟩
theorem _root_.L2.PW.imp {t t' : TT} (h : PW X e t) (f : ∀ σ H Q, t' σ H Q → t σ H Q) : PW X e t' := ⟨fun wh pins s σ H Q I q => h.run wh pins s σ H Q I (f _ _ _ q)⟩
theorem _root_.L2.PA.imp {es : List Expr} {t t' : TA} (h : PA X es t) (f : ∀ σ H Q, t' σ H Q → t σ H Q) : PA X es t' := ⟨fun p pins s σ H Q I q => h.run p pins s σ H Q I (f _ _ _ q)⟩
theorem _root_.L2.PS.imp {st : Stmt} {t t' : TS} (h : PS X st t) (f : ∀ D σ H, t' D σ H → t D σ H) : PS X st t' := ⟨fun pins s σ H D I q => h.run pins s σ H D I (f _ _ _ q)⟩
theorem _root_.L2.PSs.imp {st : List Stmt} {t t' : TS} (h : PSs X st t) (f : ∀ D σ H, t' D σ H → t D σ H) : PSs X st t' := ⟨fun pins s σ H D I q => h.run pins s σ H D I (f _ _ _ q)⟩
theorem PEs.imp {t t' : TE} (h : PEs X e t) (f : ∀ σ H Q, t' σ H Q → t σ H Q) : PEs X e t' :=
  ⟨h.pe.imp f, fun y i py spos hi hl hf => (h.set y i py spos hi hl hf).imp fun D σ H q => f _ _ _ q⟩
/-- no comprehension -/
def NoComp (X : Cx) (e : Expr) : Prop := ∀ (y : Str) (py : Pos) (l : Nat), swapsWith e (some (.Name y py)) l X.env = pure false
theorem PEs.of {t : TE} (c : COk X) (h : PE X e t) (n : NoComp X e) : PEs X e t :=
  ⟨h, fun y i py spos hi hl hf => ps_set c.nd hi hl h (n _ _ _) hf⟩
/-! ### binds of readings -/
variable {α β γ δ : Type} {E : XK}
theorem tG_step {K : PySem.W.Frag} {R1 : List Addr → List Addr → Hp → α → β → Prop} {R2 : List Addr → List Addr → Hp → γ → δ → Prop} {m : Lo → Mh → Res α} {f : Lo → α → Mh → Res γ} {σ : L2.St} {H : Hp} {Q : δ → Hp → Prop}
    (h : tG K cls R2 E (fun lo mh => (m lo mh).bind fun v mh1 => f lo v mh1) σ H Q) :
    tG K cls R1 E m σ H fun x H1 => ∃ Z ρ lo mh v, RS K cls Z ρ lo mh σ H1 ∧ R1 Z ρ H1 v x ∧ Post K cls E Z ρ H1 (f lo v mh) fun w ρ' _ H' => ∀ y, R2 Z ρ' H' w y → Q y H' := by
  obtain ⟨Z, ρ, lo, mh, s, p⟩ := h
  refine ⟨Z, ρ, lo, mh, s, (Post.bind p).imp ?_⟩
  intro v ρ1 mh1 H1 e r q x rx
  exact ⟨Z, ρ1, lo, mh1, v, s.to e r, rx, q⟩
/-- two expressions, the second behind the first -/
def bind2 (ma mb : EM) (f : PV → PV → Mh → Res PV) : EM := fun lo mh => (ma lo mh).bind fun v mh1 => (mb lo mh1).bind fun u mh2 => f v u mh2
theorem tE_two {K : PySem.W.Frag} {ma mb : EM} {f : PV → PV → Mh → Res α} {R2 : List Addr → List Addr → Hp → α → β → Prop} {σ : L2.St} {H : Hp} {Q : β → Hp → Prop}
    (h : tG K cls R2 E (fun lo mh => (ma lo mh).bind fun v mh1 => (mb lo mh1).bind fun u mh2 => f v u mh2) σ H Q) :
    tE K cls E ma σ H fun x H1 => tE K cls E mb σ H1 fun y H2 => ∃ Z ρ mh v u, RH K cls Z ρ mh H2 ∧ RV K Z ρ H2 v x ∧ RV K Z ρ H2 u y ∧ Post K cls E Z ρ H2 (f v u mh) fun w ρ' _ H' => ∀ z, R2 Z ρ' H' w z → Q z H' := by
  obtain ⟨Z, ρ, lo, mh, s, p⟩ := h
  refine ⟨Z, ρ, lo, mh, s, (Post.bind p).imp ?_⟩
  intro v ρ1 mh1 H1 e r q x rx
  refine ⟨Z, ρ1, lo, mh1, s.to e r, (Post.bind q).imp ?_⟩
  intro u ρ2 mh2 H2 e2 r2 q2 y ry
  exact ⟨Z, ρ2, mh2, v, u, r2, rx.mono e2, ry, q2⟩
/-! ### names and constants -/
def mV (i : Nat) : EM := fun lo mh => match lo[i]? with
  | some (some v) => .ok v mh
  | _ => .bad
def mC (x : PyData) : EM := fun _ mh => .ok (.d x) mh
def mPV (x : PV) : EM := fun _ mh => .ok x mh
theorem JE_var (c : COk X) {i : Nat} {x : Str} (hN : X.N[i]? = some x) (hv : Vis X.env.scope x) (hd : (x == ("__debug__" : Str)) = false := by decide) (hcd : (x == ("__classdict__" : Str)) = false := by decide) : JE X cls (.Name x pos) (mV i) := fun E _ =>
  .of c ((pe_var hN hv hd hcd).imp fun σ H Q ⟨Z, ρ, lo, mh, s, p⟩ => by
    unfold mV at p
    split at p
    · rename_i v q
      obtain ⟨y, h1, h2⟩ := s.loc i v q
      exact ⟨y, h1, p.now s.hp y h2⟩
    · exact p.elim) fun _ _ _ => rfl
theorem JE_of_tC (c : COk X) {v : V} {x : PyData} (h : PE X e (tC v)) (n : NoComp X e) (r : ∀ Z ρ H, RD X.K Z ρ H x v) : JE X cls e (mC x) := fun E _ =>
  .of c (h.imp fun σ H Q ⟨Z, ρ, lo, mh, s, p⟩ => p.now s.hp v (.d (r _ _ _))) n
theorem JE_int (c : COk X) {i j} : JE X cls (.Constant (.int i) j pos) (mC (.int i)) := JE_of_tC c pe_int (fun _ _ _ => rfl) fun _ _ _ => .int i
theorem JE_bl (c : COk X) {b j} : JE X cls (.Constant (.bool b) j pos) (mC (.bool b)) := JE_of_tC c pe_bl (fun _ _ _ => rfl) fun _ _ _ => .bl b
theorem JE_non (c : COk X) {j} : JE X cls (.Constant .none j pos) (mC .none) := JE_of_tC c pe_non (fun _ _ _ => rfl) fun _ _ _ => .non
theorem JE_str (c : COk X) {x j} : JE X cls (.Constant (.str x) j pos) (mC (.str x)) := JE_of_tC c pe_str (fun _ _ _ => rfl) fun _ _ _ => .str x
/-- a constant of the module -/
def KD (K : PySem.W.Frag) (u : Value) (x : PyData) : Prop := ∃ v, RelV v u ∧ ∀ Z ρ H, RD K Z ρ H x v
theorem JE_glob (c : COk X) {x : Str} {u : Value} {d : PyData} (hg : Gl X x) (hm : X.mg x = some u) (k : KD X.K u d) (hd : (x == ("__debug__" : Str)) = false := by decide) : JE X cls (.Name x pos) (mC d) := by
  obtain ⟨v, r, q⟩ := k
  exact JE_of_tC c (pe_glob hg hm r hd) (fun _ _ _ => rfl) q
/-! ### operators by values -/
abbrev Op2 := PV → PV → Mh → Res PV
def OpV (X : Cx) (cls : Nat → Addr) (f : Value → Value → Sem Value) (op : Op2) : Prop :=
  ∀ E, OpR X f fun x y H Q => ∃ Z ρ mh v u, RH X.K cls Z ρ mh H ∧ RV X.K Z ρ H v x ∧ RV X.K Z ρ H u y ∧ Post X.K cls E Z ρ H (op v u mh) fun w ρ' _ H' => ∀ z, RV X.K Z ρ' H' w z → Q z H'
theorem OpR_imp {f : Value → Value → Sem Value} {r r' : R2} (h : OpR X f r) (g : ∀ x y H Q, r' x y H Q → r x y H Q) : OpR X f r' := fun pins s σ H x y v u Q I rx ry q => h pins s σ H x y v u Q I rx ry (g _ _ _ _ q)
def alt2 (f g : Op2) : Op2 := fun v u mh => match f v u mh with
  | .bad => g v u mh
  | r => r
theorem OpV.alt {f : Value → Value → Sem Value} {o p : Op2} (h : OpV X cls f o) (h' : OpV X cls f p) : OpV X cls f (alt2 o p) := fun E =>
  OpR_imp (OpR.or (h E) (h' E)) fun x y H Q ⟨Z, ρ, mh, v, u, rh, rv, ru, q⟩ => by
    unfold alt2 at q
    cases k : o v u mh with
    | bad => rw [k] at q; exact .inr ⟨Z, ρ, mh, v, u, rh, rv, ru, q⟩
    | ok a m => rw [k] at q; exact .inl ⟨Z, ρ, mh, v, u, rh, rv, ru, by rw [k]; exact q⟩
    | exc a m => rw [k] at q; exact .inl ⟨Z, ρ, mh, v, u, rh, rv, ru, by rw [k]; exact q⟩
theorem JE_bin (c : COk X) {op : Operator} {o : Op2} {ma mb : EM} (ha : JE X cls a ma) (hb : JE X cls b mb) (ho : OpV X cls (binaryOp op) o) : JE X cls (.BinOp a op b pos) (bind2 ma mb o) := fun E hx =>
  .of c ((pe_op (ho E) (ha E hx).pe (hb E hx).pe).imp fun σ H Q h => tE_two h) fun _ _ _ => rfl
/-- two ints -/
def oI (g : Int → Int → Option PyData) : Op2 := fun v u mh => match v, u with
  | .d (.int i), .d (.int j) => match g i j with
    | some x => .ok (.d x) mh
    | none => .bad
  | _, _ => .bad
theorem oI_ok {f : Value → Value → Sem Value} {C : Int → Int → Prop} {g : Int → Int → Option PyData} {k : Int → Int → V} (h : OpR X f (rI C k)) (hg : ∀ i j x, g i j = some x → C i j ∧ ∀ K Z ρ H v, RD K Z ρ H x v → v = k i j)
    (hk : ∀ i j x, g i j = some x → ∀ K Z ρ H, RD K Z ρ H x (k i j)) : OpV X cls f (oI g) := fun E => OpR_imp h fun x y H Q ⟨Z, ρ, mh, v, u, rh, rv, ru, q⟩ => by
  cases v with
  | d x1 =>
    cases u with
    | d y1 =>
      cases x1 <;> cases y1 <;> try exact q.elim
      rename_i i j
      cases rv with
      | d rv =>
        cases ru with
        | d ru =>
          cases rv; cases ru
          refine ⟨i, j, rfl, rfl, ?_⟩
          show _
          have q' : Post X.K cls E Z ρ H (match g i j with | some x => Res.ok (PV.d x) mh | none => Res.bad) _ := q
          cases e : g i j with
          | none => rw [e] at q'; exact q'.elim
          | some z => rw [e] at q'; exact ⟨(hg i j z e).1, q'.now rh _ (.d (hk i j z e _ _ _ _))⟩
    | _ => cases x1 <;> exact q.elim
  | _ => exact q.elim
theorem opR_rI0 {f : Value → Value → Sem Value} {k : Int → Int → V} (h : OpR X f (rI0 k)) : OpR X f (rI (fun _ _ => True) k) := OpR_imp h fun x y H Q ⟨i, j, a, b, _, q⟩ => ⟨i, j, a, b, q⟩
theorem oI_int {f : Value → Value → Sem Value} {C : Int → Int → Prop} [∀ i j, Decidable (C i j)] {k : Int → Int → Int} (h : OpR X f (rI C fun i j => .int (k i j))) : OpV X cls f (oI fun i j => if C i j then some (.int (k i j)) else none) :=
  oI_ok h (fun i j x e => by
    by_cases hc : C i j
    · rw [if_pos hc] at e; cases e
      exact ⟨hc, fun _ _ _ _ v r => by cases r; rfl⟩
    · rw [if_neg hc] at e; cases e) fun i j x e _ _ _ _ => by
    by_cases hc : C i j
    · rw [if_pos hc] at e; cases e; exact .int _
    · rw [if_neg hc] at e; cases e
theorem oI_int0 {f : Value → Value → Sem Value} {k : Int → Int → Int} (h : OpR X f (rI0 fun i j => .int (k i j))) : OpV X cls f (oI fun i j => some (.int (k i j))) :=
  oI_ok (opR_rI0 h) (fun i j x e => by cases e; exact ⟨trivial, fun _ _ _ _ v r => by cases r; rfl⟩) fun i j x e _ _ _ _ => by cases e; exact .int _
theorem oI_bl0 {f : Value → Value → Sem Value} {k : Int → Int → Bool} (h : OpR X f (rI0 fun i j => .bl (k i j))) : OpV X cls f (oI fun i j => some (.bool (k i j))) :=
  oI_ok (opR_rI0 h) (fun i j x e => by cases e; exact ⟨trivial, fun _ _ _ _ v r => by cases r; rfl⟩) fun i j x e _ _ _ _ => by cases e; exact .bl _
def oAddI : Op2 := oI fun i j => some (.int (i + j))
def oSubI : Op2 := oI fun i j => some (.int (i - j))
instance (i j : Int) : Decidable (CMul i j) := by unfold CMul; infer_instance
instance (i j : Int) : Decidable (CDiv i j) := by unfold CDiv; infer_instance
instance (i j : Int) : Decidable (CPow i j) := by unfold CPow; infer_instance
def oMulI : Op2 := oI fun i j => if CMul i j then some (.int (i * j)) else none
def oDivI : Op2 := oI fun i j => if CDiv i j then some (.int (i / j)) else none
def oModI : Op2 := oI fun i j => if 0 < j then some (.int (i % j)) else none
def oPowI : Op2 := oI fun i j => if CPow i j then some (.int (i ^ j.toNat)) else none
theorem vAddI : OpV X cls (binaryOp .Add) oAddI := oI_int0 op_add
theorem vSubI : OpV X cls (binaryOp .Sub) oSubI := oI_int0 op_sub
theorem vMulI : OpV X cls (binaryOp .Mult) oMulI := oI_int op_mul
theorem vDivI : OpV X cls (binaryOp .FloorDiv) oDivI := oI_int op_fdiv
theorem vModI : OpV X cls (binaryOp .Mod) oModI := oI_int op_mod
theorem vPowI : OpV X cls (binaryOp .Pow) oPowI := oI_int op_pow
def oLtI : Op2 := oI fun i j => some (.bool (decide (i < j)))
def oLeI : Op2 := oI fun i j => some (.bool (decide (i ≤ j)))
def oGtI : Op2 := oI fun i j => some (.bool (decide (j < i)))
def oGeI : Op2 := oI fun i j => some (.bool (decide (j ≤ i)))
theorem vLtI : OpV X cls (compareOp .Lt) oLtI := oI_bl0 op_lt
theorem vLeI : OpV X cls (compareOp .LtE) oLeI := oI_bl0 op_le
theorem vGtI : OpV X cls (compareOp .Gt) oGtI := oI_bl0 op_gt
theorem vGeI : OpV X cls (compareOp .GtE) oGeI := oI_bl0 op_ge
end
/-! ### data as the library has them -/
section
variable {K : PySem.W.Frag} {cls : Nat → Addr} {Z ρ : List Addr} {H : Hp} {mh : Mh}
mutual
theorem RD.dp : ∀ {x : PyData} {v : V}, RD K Z ρ H x v → Dp K H v x
  | _, _, .non => .non
  | _, _, .bl b => .bl b
  | _, _, .int i => .int i
  | _, _, .str x => .str x
  | _, _, .lst h _ r => .lst (.of h) (RDs.dp r)
  | _, _, .tup h r => .tup h.sq (RDs.dp r)
theorem RDs.dp : ∀ {x : List PyData} {v : List V}, RDs K Z ρ H x v → DpAll K H v x
  | _, _, .nil => .nil
  | _, _, .cons h r => .cons (RD.dp h) (RDs.dp r)
end
mutual
theorem RD.plain : ∀ {x : PyData} {v : V}, RD K Z ρ H x v → x.plain = true
  | _, _, .non => rfl
  | _, _, .bl b => rfl
  | _, _, .int i => rfl
  | _, _, .str x => rfl
  | _, _, .lst _ _ r => by rw [PyData.plain]; exact RDs.plain r
  | _, _, .tup _ r => by rw [PyData.plain]; exact RDs.plain r
theorem RDs.plain : ∀ {x : List PyData} {v : List V}, RDs K Z ρ H x v → PyData.plainAll x = true
  | _, _, .nil => rfl
  | _, _, .cons h r => by rw [PyData.plainAll, RD.plain h, RDs.plain r]; rfl
end
/-- what is pure data, a list that may be written among them -/
def dataOf (mh : Mh) : PV → Option PyData
  | .d x => some x
  | .ref n => match mh[n]? with
    | some (.lst l) => (allD l).map .list
    | _ => none
  | _ => none
@[simp] theorem dataOf_d (x : PyData) : dataOf mh (.d x) = some x := rfl
theorem dataOf_ok (rh : RH K cls Z ρ mh H) {v : PV} {x : V} {d : PyData} (r : RV K Z ρ H v x) (e : dataOf mh v = some d) : Dp K H x d ∧ d.plain = true := by
  cases r with
  | d r => cases e; exact ⟨r.dp, r.plain⟩
  | dct _ _ _ => cases e
  | tup _ _ => cases e
  | scr _ => cases e
  | @ref n a h =>
    unfold dataOf at e
    dsimp only at e
    split at e
    · rename_i l q
      have o := rh.objs n _ a q h
      cases o with
      | lst ho ro =>
        cases k : allD l with
        | none => rw [k] at e; cases e
        | some ds =>
          rw [k] at e; cases e
          have := allD_ok k; subst this
          have ro := ro.toD
          exact ⟨.lst (.of ho) ro.dp, by rw [PyData.plain]; exact ro.plain⟩
    · cases e
end
section
variable {X : Cx} {cls : Nat → Addr} {e a b : Expr} {pos : Pos}
theorem op_eqP (c : COk X) : OpR X (compareOp .Eq) (fun x y H Q => ∃ d e, Dp X.K H x d ∧ Dp X.K H y e ∧ d.plain = true ∧ e.plain = true ∧ min d.depth e.depth ≤ 64 ∧ Q (.bl (PyData.eqv d e)) H) := fun pins s σ H x y v u Q I rx ry ⟨d, e, h1, h2, p1, p2, hd, q⟩ => by
  obtain ⟨as, r1⟩ := Dp.reads I d x v h1 rx
  obtain ⟨bs, r2⟩ := Dp.reads I e y u h2 ry
  have := c.un
  exact PySem.SeqAt.eq_plain r1 r2 p1 p2 (by omega) ⟨.bl _, H, I, rfl, q⟩
theorem op_neP (c : COk X) : OpR X (compareOp .NotEq) (fun x y H Q => ∃ d e, Dp X.K H x d ∧ Dp X.K H y e ∧ d.plain = true ∧ e.plain = true ∧ min d.depth e.depth ≤ 64 ∧ Q (.bl (!PyData.eqv d e)) H) := fun pins s σ H x y v u Q I rx ry ⟨d, e, h1, h2, p1, p2, hd, q⟩ => by
  obtain ⟨as, r1⟩ := Dp.reads I d x v h1 rx
  obtain ⟨bs, r2⟩ := Dp.reads I e y u h2 ry
  have := c.un
  exact PySem.SeqAt.ne_plain r1 r2 p1 p2 (by omega) ⟨.bl _, H, I, rfl, q⟩
/-- two data -/
def oD (g : PyData → PyData → Option PyData) : Op2 := fun v u mh => match dataOf mh v, dataOf mh u with
  | some x, some y => match g x y with
    | some z => .ok (.d z) mh
    | none => .bad
  | _, _ => .bad
theorem oD_ok {f : Value → Value → Sem Value} {C : PyData → PyData → Prop} {g : PyData → PyData → Option PyData} {k : PyData → PyData → Bool}
    (h : OpR X f (fun x y H Q => ∃ d e, Dp X.K H x d ∧ Dp X.K H y e ∧ d.plain = true ∧ e.plain = true ∧ C d e ∧ Q (.bl (k d e)) H)) (hg : ∀ x y z, g x y = some z → C x y ∧ z = .bool (k x y)) : OpV X cls f (oD g) := fun E => OpR_imp h fun x y H Q ⟨Z, ρ, mh, v, u, rh, rv, ru, q⟩ => by
  unfold oD at q
  cases e1 : dataOf mh v with
  | none => rw [e1] at q; exact q.elim
  | some d =>
    cases e2 : dataOf mh u with
    | none => rw [e1, e2] at q; exact q.elim
    | some d2 =>
      rw [e1, e2] at q
      obtain ⟨h1, p1⟩ := dataOf_ok rh rv e1
      obtain ⟨h2, p2⟩ := dataOf_ok rh ru e2
      dsimp only at q
      cases e3 : g d d2 with
      | none => rw [e3] at q; exact q.elim
      | some z =>
        rw [e3] at q
        obtain ⟨hc, rfl⟩ := hg _ _ _ e3
        exact ⟨d, d2, h1, h2, p1, p2, hc, q.now rh _ (.d (.bl _))⟩
def oEq : Op2 := oD fun x y => if min x.depth y.depth ≤ 64 then some (.bool (PyData.eqv x y)) else none
def oNe : Op2 := oD fun x y => if min x.depth y.depth ≤ 64 then some (.bool (!PyData.eqv x y)) else none
theorem vEq (c : COk X) : OpV X cls (compareOp .Eq) oEq := oD_ok (op_eqP c) fun x y z e => by
  split at e
  · rename_i h; cases e; exact ⟨h, rfl⟩
  · cases e
theorem vNe (c : COk X) : OpV X cls (compareOp .NotEq) oNe := oD_ok (k := fun x y => !PyData.eqv x y) (op_neP c) fun x y z e => by
  split at e
  · rename_i h; cases e; exact ⟨h, rfl⟩
  · cases e
theorem op_inP (c : COk X) : OpR X (compareOp .In) (fun x y H Q => ∃ d e, Dp X.K H x d ∧ Dp X.K H y e ∧ d.plain = true ∧ e.plain = true ∧ (∃ ys, (e = .list ys ∨ e = .tuple ys) ∧ min (PyData.depthAll ys) d.depth ≤ 64 ∧ Q (.bl (ys.any fun z => PyData.eqv z d)) H)) := fun pins s σ H x y v u Q I rx ry ⟨d, e, h1, h2, p1, p2, ys, hy, hd, q⟩ => by
  obtain ⟨as, r1⟩ := Dp.reads I d x v h1 rx
  obtain ⟨bs, r2⟩ := Dp.reads I e y u h2 ry
  have := c.un
  rcases hy with rfl | rfl
  · exact PySem.SeqAt.in_list_data r2 r1 (by rw [PyData.plain] at p2; exact p2) p1 (by omega) ⟨.bl _, H, I, rfl, q⟩
  · exact PySem.SeqAt.in_tuple_data r2 r1 (by rw [PyData.plain] at p2; exact p2) p1 (by omega) ⟨.bl _, H, I, rfl, q⟩
theorem op_ninP (c : COk X) : OpR X (compareOp .NotIn) (fun x y H Q => ∃ d e, Dp X.K H x d ∧ Dp X.K H y e ∧ d.plain = true ∧ e.plain = true ∧ (∃ ys, (e = .list ys ∨ e = .tuple ys) ∧ min (PyData.depthAll ys) d.depth ≤ 64 ∧ Q (.bl (!ys.any fun z => PyData.eqv z d)) H)) := fun pins s σ H x y v u Q I rx ry ⟨d, e, h1, h2, p1, p2, ys, hy, hd, q⟩ => by
  obtain ⟨as, r1⟩ := Dp.reads I d x v h1 rx
  obtain ⟨bs, r2⟩ := Dp.reads I e y u h2 ry
  have := c.un
  rcases hy with rfl | rfl
  · exact PySem.SeqAt.notIn_list_data r2 r1 (by rw [PyData.plain] at p2; exact p2) p1 (by omega) ⟨.bl _, H, I, rfl, q⟩
  · exact PySem.SeqAt.notIn_tuple_data r2 r1 (by rw [PyData.plain] at p2; exact p2) p1 (by omega) ⟨.bl _, H, I, rfl, q⟩
def seqItems : PyData → Option (List PyData)
  | .list ys => some ys
  | .tuple ys => some ys
  | _ => none
def inSeq (d e : PyData) : Option Bool := match seqItems e with
  | some ys => if min (PyData.depthAll ys) d.depth ≤ 64 then some (ys.any fun z => PyData.eqv z d) else none
  | none => none
def oInS : Op2 := oD fun x y => (inSeq x y).map .bool
def oNinS : Op2 := oD fun x y => (inSeq x y).map fun b => .bool (!b)
theorem seqItems_ok {e : PyData} {ys : List PyData} (h : seqItems e = some ys) : e = .list ys ∨ e = .tuple ys := by
  cases e <;> simp [seqItems] at h
  · exact .inl (by rw [h])
  · exact .inr (by rw [h])
theorem inSeq_ok {d e : PyData} {b : Bool} (h : inSeq d e = some b) : ∃ ys, (e = .list ys ∨ e = .tuple ys) ∧ min (PyData.depthAll ys) d.depth ≤ 64 ∧ b = ys.any fun z => PyData.eqv z d := by
  unfold inSeq at h
  split at h
  · rename_i ys q
    split at h
    · rename_i hd
      cases h
      exact ⟨ys, seqItems_ok q, hd, rfl⟩
    · cases h
  · cases h
theorem vInS (c : COk X) : OpV X cls (compareOp .In) oInS := fun E => OpR_imp (op_inP c) fun x y H Q ⟨Z, ρ, mh, v, u, rh, rv, ru, q⟩ => by
  unfold oInS oD at q
  cases e1 : dataOf mh v with
  | none => rw [e1] at q; exact q.elim
  | some d =>
    cases e2 : dataOf mh u with
    | none => rw [e1, e2] at q; exact q.elim
    | some d2 =>
      rw [e1, e2] at q
      obtain ⟨h1, p1⟩ := dataOf_ok rh rv e1
      obtain ⟨h2, p2⟩ := dataOf_ok rh ru e2
      dsimp only at q
      cases e3 : inSeq d d2 with
      | none => rw [e3] at q; exact q.elim
      | some z =>
        rw [e3] at q
        obtain ⟨ys, hy, hd, rfl⟩ := inSeq_ok e3
        exact ⟨d, d2, h1, h2, p1, p2, ys, hy, hd, q.now rh _ (.d (.bl _))⟩
theorem vNinS (c : COk X) : OpV X cls (compareOp .NotIn) oNinS := fun E => OpR_imp (op_ninP c) fun x y H Q ⟨Z, ρ, mh, v, u, rh, rv, ru, q⟩ => by
  unfold oNinS oD at q
  cases e1 : dataOf mh v with
  | none => rw [e1] at q; exact q.elim
  | some d =>
    cases e2 : dataOf mh u with
    | none => rw [e1, e2] at q; exact q.elim
    | some d2 =>
      rw [e1, e2] at q
      obtain ⟨h1, p1⟩ := dataOf_ok rh rv e1
      obtain ⟨h2, p2⟩ := dataOf_ok rh ru e2
      dsimp only at q
      cases e3 : inSeq d d2 with
      | none => rw [e3] at q; exact q.elim
      | some z =>
        rw [e3] at q
        obtain ⟨ys, hy, hd, rfl⟩ := inSeq_ok e3
        exact ⟨d, d2, h1, h2, p1, p2, ys, hy, hd, q.now rh _ (.d (.bl _))⟩
/-- a sign in a text -/
def oInT (neg : Bool) : Op2 := fun v u mh => match v, u with
  | .d (.str x), .d (.str z) => match x.cps.toList with
    | [c] => .ok (.d (.bool (neg ^^ decide (c ∈ z.cps.toList)))) mh
    | _ => .bad
  | _, _ => .bad
theorem str_one {x : Str} {c : Nat} (h : x.cps.toList = [c]) : x = ⟨#[c]⟩ := by
  cases x with
  | mk a =>
    have h' : a.toList = [c] := h
    have : a = #[c] := by
      apply Array.ext'
      simpa using h'
    rw [this]
theorem oInT_ok {neg : Bool} {f : Value → Value → Sem Value} (h : OpR X f (fun x y H Q => ∃ (c : Nat) (z : Str), x = .str ⟨#[c]⟩ ∧ y = .str z ∧ Q (.bl (neg ^^ decide (c ∈ z.cps.toList))) H)) : OpV X cls f (oInT neg) := fun E => OpR_imp h fun x y H Q ⟨Z, ρ, mh, v, u, rh, rv, ru, q⟩ => by
  cases v with
  | d x1 =>
    cases u with
    | d y1 =>
      cases x1 <;> cases y1 <;> try exact q.elim
      rename_i x2 y2
      cases rv with
      | d rv =>
        cases ru with
        | d ru =>
          cases rv; cases ru
          unfold oInT at q
          dsimp only at q
          split at q
          · rename_i c e
            have := str_one e; subst this
            exact ⟨c, y2, rfl, rfl, q.now rh _ (.d (.bl _))⟩
          · exact q.elim
    | _ => cases x1 <;> exact q.elim
  | _ => exact q.elim
theorem vInT : OpV X cls (compareOp .In) (oInT false) := oInT_ok (OpR_imp op_in_sign fun x y H Q ⟨c, z, a, b, q⟩ => ⟨c, z, a, b, by simpa using q⟩)
theorem vNinT : OpV X cls (compareOp .NotIn) (oInT true) := oInT_ok (OpR_imp op_notIn_sign fun x y H Q ⟨c, z, a, b, q⟩ => ⟨c, z, a, b, by simpa using q⟩)
/-- is None, is not None -/
def pvNone : PV → Bool
  | .d .none => true
  | _ => false
def isNone (neg : Bool) : Op2 := fun v u mh => match u with
  | .d .none => .ok (.d (.bool (neg ^^ pvNone v))) mh
  | _ => .bad
theorem none_iff {K : PySem.W.Frag} {Z ρ : List Addr} {H : Hp} {v : PV} {x : V} (r : RV K Z ρ H v x) : pvNone v = decide (x = .non) := by
  cases r with
  | d r => cases r <;> simp [pvNone]
  | dct _ _ _ => simp [pvNone]
  | ref _ => simp [pvNone]
  | tup _ _ => simp [pvNone]
  | scr _ => simp [pvNone]
theorem isNone_ok {neg : Bool} {f : Value → Value → Sem Value} (h : OpR X f (fun x y H Q => y = .non ∧ Q (.bl (neg ^^ decide (x = .non))) H)) : OpV X cls f (isNone neg) := fun E => OpR_imp h fun x y H Q ⟨Z, ρ, mh, v, u, rh, rv, ru, q⟩ => by
  unfold isNone at q
  split at q
  · cases ru with
    | d ru =>
      cases ru
      rw [none_iff rv] at q
      exact ⟨rfl, q.now rh _ (.d (.bl _))⟩
  · exact q.elim
theorem vIs : OpV X cls (compareOp .Is) (isNone false) := isNone_ok (OpR_imp op_isN fun x y H Q ⟨a, q⟩ => ⟨a, by simpa using q⟩)
theorem vIsNot : OpV X cls (compareOp .IsNot) (isNone true) := isNone_ok (OpR_imp op_notN fun x y H Q ⟨a, q⟩ => ⟨a, by simpa using q⟩)
/-! ### comparisons -/
theorem JE_cmp (c : COk X) {op : CmpOp} {o : Op2} {ma mb : EM} (ha : JE X cls a ma) (hb : JE X cls b mb) (ho : OpV X cls (compareOp op) o) (hm : behindInMarks op b = false) : JE X cls (.Compare a [op] [b] pos) (bind2 ma mb o) := fun E hx =>
  .of c ((pe_cmpR (ho E) (ha E hx).pe (hb E hx).pe hm).imp fun σ H Q h => tE_two h) fun _ _ _ => rfl
/-- a value that is a truth value -/
def mB (m : EM) : Lo → Mh → Res Bool := fun lo mh => (m lo mh).bind fun v mh1 => match v with
  | .d (.bool b) => .ok b mh1
  | _ => .bad
theorem tT_of_bl {K : PySem.W.Frag} {E : XK} {m : EM} {σ : L2.St} {H : Hp} {Q : Bool → Hp → Prop} (h : tT K cls E (mB m) σ H Q) : tE K cls E m σ H fun x H1 => ∃ k, x = .bl k ∧ Q k H1 := by
  obtain ⟨Z, ρ, lo, mh, s, p⟩ := h
  refine ⟨Z, ρ, lo, mh, s, (Post.bind p).imp ?_⟩
  intro v ρ1 mh1 H1 e r q x rx
  cases v with
  | d y =>
    cases y <;> try exact q.elim
    rename_i k
    cases rx with
    | d rx => cases rx; exact ⟨k, rfl, q.now r k rfl⟩
  | _ => exact q.elim
theorem JT_cmp (c : COk X) {op : CmpOp} {o : Op2} {ma mb : EM} (ha : JE X cls a ma) (hb : JE X cls b mb) (ho : OpV X cls (compareOp op) o) (hm : behindInMarks op b = false) : JT X cls (.Compare a [op] [b] pos) (mB (bind2 ma mb o)) := fun E hx =>
  (pt_cmpR (ho E) (ha E hx).pe (hb E hx).pe hm).imp fun σ H Q h => by
    have h2 := tT_of_bl h
    show tOp _ (tE X.K cls E ma) (tE X.K cls E mb) σ H _
    exact tE_two h2
/-- a op1 b op2 c -/
def chain3 (ma mb mc : EM) (f g : Op2) : EM := fun lo mh => (ma lo mh).bind fun v mh1 => (mb lo mh1).bind fun u mh2 => (f v u mh2).bind fun t mh3 => match t with
  | .d (.bool true) => (mc lo mh3).bind fun w mh4 => g u w mh4
  | .d (.bool false) => .ok (.d (.bool false)) mh3
  | _ => .bad
theorem tE_chain {K : PySem.W.Frag} {E : XK} {ma mb mc : EM} {f g : Op2} {r r' : R2} {σ : L2.St} {H : Hp} {Q : VK}
    (hr : ∀ x y H Q, (∃ Z ρ mh v u, RH K cls Z ρ mh H ∧ RV K Z ρ H v x ∧ RV K Z ρ H u y ∧ Post K cls E Z ρ H (f v u mh) fun w ρ' _ H' => ∀ z, RV K Z ρ' H' w z → Q z H') → r x y H Q)
    (hr' : ∀ x y H Q, (∃ Z ρ mh v u, RH K cls Z ρ mh H ∧ RV K Z ρ H v x ∧ RV K Z ρ H u y ∧ Post K cls E Z ρ H (g v u mh) fun w ρ' _ H' => ∀ z, RV K Z ρ' H' w z → Q z H') → r' x y H Q)
    (h : tE K cls E (chain3 ma mb mc f g) σ H Q) : tChain r r' (tE K cls E ma) (tE K cls E mb) (tE K cls E mc) σ H Q := by
  obtain ⟨Z, ρ, lo, mh, s, p⟩ := h
  refine ⟨Z, ρ, lo, mh, s, (Post.bind p).imp ?_⟩
  intro v ρ1 mh1 H1 e r1 q x rx
  refine ⟨Z, ρ1, lo, mh1, s.to e r1, (Post.bind q).imp ?_⟩
  intro u ρ2 mh2 H2 e2 r2 q2 y ry
  refine hr _ _ _ _ ⟨Z, ρ2, mh2, v, u, r2, rx.mono e2, ry, (Post.bind q2).imp ?_⟩
  intro t ρ3 mh3 H3 e3 r3 q3 z rz
  cases t with
  | d t1 =>
    cases t1 <;> try exact q3.elim
    rename_i k
    cases rz with
    | d rz =>
      cases rz
      refine ⟨k, rfl, ?_⟩
      cases k with
      | true =>
        rw [if_pos rfl]
        refine ⟨Z, ρ3, lo, mh3, ((s.to e r1).to e2 r2).to e3 r3, (Post.bind q3).imp ?_⟩
        intro w ρ4 mh4 H4 e4 r4 q4 w' rw'
        exact hr' _ _ _ _ ⟨Z, ρ4, mh4, u, w, r4, (ry.mono e3).mono e4, rw', q4⟩
      | false =>
        rw [if_neg (by decide)]
        exact q3.now r3 _ (.d (.bl _))
  | _ => exact q3.elim
theorem JE_chain (c : COk X) {op op' : CmpOp} {o o' : Op2} {ec : Expr} {ma mb mc : EM} (ha : JE X cls a ma) (hb : JE X cls b mb) (hc : JE X cls ec mc) (ho : OpV X cls (compareOp op) o) (ho' : OpV X cls (compareOp op') o') (hm : lastMarks [op, op'] [b, ec] = false) :
    JE X cls (.Compare a [op, op'] [b, ec] pos) (chain3 ma mb mc o o') := fun E hx =>
  .of c ((pe_chain (ho E) (ho' E) (ha E hx).pe (hb E hx).pe (hc E hx).pe hm).imp fun σ H Q h => tE_chain (fun _ _ _ _ q => q) (fun _ _ _ _ q => q) h) fun _ _ _ => rfl
theorem JT_chain (c : COk X) {op op' : CmpOp} {o o' : Op2} {ec : Expr} {ma mb mc : EM} (ha : JE X cls a ma) (hb : JE X cls b mb) (hc : JE X cls ec mc) (ho : OpV X cls (compareOp op) o) (ho' : OpV X cls (compareOp op') o') (hm : lastMarks [op, op'] [b, ec] = false) :
    JT X cls (.Compare a [op, op'] [b, ec] pos) (mB (chain3 ma mb mc o o')) := fun E hx =>
  (pt_chain (ho E) (ho' E) (ha E hx).pe (hb E hx).pe (hc E hx).pe hm).imp fun σ H Q h => tE_chain (fun _ _ _ _ q => q) (fun _ _ _ _ q => q) (tT_of_bl h)
/-! ### truth -/
def truD : PyData → Option Bool
  | .none => some false
  | .bool b => some b
  | .int i => some (i != 0)
  | .list l => some (!l.isEmpty)
  | .tuple l => some (!l.isEmpty)
  | _ => none
def mTru (m : EM) : Lo → Mh → Res Bool := fun lo mh => (m lo mh).bind fun v mh1 => match v with
  | .d y => match truD y with
    | some b => .ok b mh1
    | none => .bad
  | _ => .bad
theorem RDs.isEmpty {K : PySem.W.Frag} {Z ρ : List Addr} {H : Hp} {l : List PyData} {xs : List V} (r : RDs K Z ρ H l xs) : l.isEmpty = xs.isEmpty := by cases r <;> rfl
theorem JT_tru {ma : EM} (ha : JE X cls a ma) (he : ∀ whole, isTrue a X.env whole = (do let v ← whole; standAt a.pos; holding [v] (truthy v))) : JT X cls a (mTru ma) := fun E hx =>
  (pt_truth (ha E hx).pe he).imp fun σ H Q ⟨Z, ρ, lo, mh, s, p⟩ => by
    refine ⟨Z, ρ, lo, mh, s, (Post.bind p).imp ?_⟩
    intro v ρ1 mh1 H1 e r q x rx
    cases v with
    | d y =>
      dsimp only at q
      split at q
      · rename_i k hk
        refine ⟨k, ?_, q.now r k rfl⟩
        cases rx with
        | d rx =>
          cases rx with
          | non => simp only [truD, Option.some.injEq] at hk; exact hk.symm
          | bl _ => simp only [truD, Option.some.injEq] at hk; exact hk.symm
          | int _ => simp only [truD, Option.some.injEq] at hk; exact hk.symm
          | str _ => simp [truD] at hk
          | lst h z r => simp only [truD, Option.some.injEq] at hk; exact .inl ⟨_, .of h, by rw [← hk, r.isEmpty]⟩
          | tup h r => simp only [truD, Option.some.injEq] at hk; exact .inr (.inl ⟨_, h.sq, by rw [← hk, r.isEmpty]⟩)
      · exact q.elim
    | _ => exact q.elim
/-! ### and, or, not -/
abbrev BM := Lo → Mh → Res Bool
def bAnd (ma mb : BM) : BM := fun lo mh => (ma lo mh).bind fun c mh1 => if c = true then mb lo mh1 else .ok false mh1
def bOr (ma mb : BM) : BM := fun lo mh => (ma lo mh).bind fun c mh1 => if c = true then .ok true mh1 else mb lo mh1
def bNot (ma : BM) : BM := fun lo mh => (ma lo mh).bind fun c mh1 => .ok (!c) mh1
variable {rest : List Expr} {mA mB' : BM}
theorem JW.t (h : JW X cls e mA) : JT X cls e mA := fun E hx => (h E hx).pt
theorem JW_and1 (ha : JT X cls a mA) : JW X cls (.BoolOp .And [a] pos) mA := fun E hx => pw_and1 (ha E hx)
theorem JW_or1 (ha : JT X cls a mA) : JW X cls (.BoolOp .Or [a] pos) mA := fun E hx => pw_or1 (ha E hx)
theorem JW_and (ha : JT X cls a mA) (hb : JW X cls (.BoolOp .And (b :: rest) pos) mB') : JW X cls (.BoolOp .And (a :: b :: rest) pos) (bAnd mA mB') := fun E hx =>
  (pw_and (ha E hx) (hb E hx)).imp fun σ H Q ⟨Z, ρ, lo, mh, s, p⟩ => by
    refine ⟨Z, ρ, lo, mh, s, (Post.bind p).imp ?_⟩
    intro v ρ1 mh1 H1 e r q x rx
    subst rx
    cases v with
    | true => rw [if_pos rfl]; exact ⟨Z, ρ1, lo, mh1, s.to e r, q⟩
    | false => rw [if_neg (by decide)]; exact q.now r _ rfl
theorem JW_or (ha : JT X cls a mA) (hb : JW X cls (.BoolOp .Or (b :: rest) pos) mB') : JW X cls (.BoolOp .Or (a :: b :: rest) pos) (bOr mA mB') := fun E hx =>
  (pw_or (ha E hx) (hb E hx)).imp fun σ H Q ⟨Z, ρ, lo, mh, s, p⟩ => by
    refine ⟨Z, ρ, lo, mh, s, (Post.bind p).imp ?_⟩
    intro v ρ1 mh1 H1 e r q x rx
    subst rx
    cases v with
    | true => rw [if_pos rfl]; exact q.now r _ rfl
    | false => rw [if_neg (by decide)]; exact ⟨Z, ρ1, lo, mh1, s.to e r, q⟩
theorem JT_not (ha : JT X cls a mA) : JT X cls (.UnaryOp .Not a pos) (bNot mA) := fun E hx =>
  (pt_not (ha E hx)).imp fun σ H Q ⟨Z, ρ, lo, mh, s, p⟩ => by
    refine ⟨Z, ρ, lo, mh, s, (Post.bind p).imp ?_⟩
    intro v ρ1 mh1 H1 e r q x rx
    subst rx
    exact q.now r _ rfl
/-- .. as values -/
def mOfB (m : BM) : EM := fun lo mh => (m lo mh).bind fun b mh1 => .ok (.d (.bool b)) mh1
def eAnd (ma mb : EM) : EM := fun lo mh => (ma lo mh).bind fun v mh1 => match v with
  | .d (.bool true) => mb lo mh1
  | .d (.bool false) => .ok (.d (.bool false)) mh1
  | _ => .bad
def eOr (ma mb : EM) : EM := fun lo mh => (ma lo mh).bind fun v mh1 => match v with
  | .d (.bool true) => .ok (.d (.bool true)) mh1
  | .d (.bool false) => mb lo mh1
  | _ => .bad
def eNot (ma : EM) : EM := fun lo mh => (ma lo mh).bind fun v mh1 => match v with
  | .d (.bool b) => .ok (.d (.bool (!b))) mh1
  | _ => .bad
theorem JE_one (c : COk X) {op : BoolOp} {ma : EM} (ha : JE X cls a ma) : JE X cls (.BoolOp op [a] pos) ma := fun E hx => .of c (pe_one (ha E hx).pe) fun _ _ _ => rfl
theorem JE_and (c : COk X) {ma mb : EM} (ha : JE X cls a ma) (hb : JE X cls (.BoolOp .And (b :: rest) pos) mb) : JE X cls (.BoolOp .And (a :: b :: rest) pos) (eAnd ma mb) := fun E hx =>
  .of c ((pe_and (ha E hx).pe (hb E hx).pe).imp fun σ H Q ⟨Z, ρ, lo, mh, s, p⟩ => by
    refine ⟨Z, ρ, lo, mh, s, (Post.bind p).imp ?_⟩
    intro v ρ1 mh1 H1 e r q x rx
    cases v with
    | d y =>
      cases y <;> try exact q.elim
      rename_i k
      cases rx with
      | d rx =>
        cases rx
        refine ⟨k, rfl, ?_⟩
        cases k with
        | true => rw [if_pos rfl]; exact ⟨Z, ρ1, lo, mh1, s.to e r, q⟩
        | false => rw [if_neg (by decide)]; exact q.now r _ (.d (.bl _))
    | _ => exact q.elim) fun _ _ _ => rfl
theorem JE_or (c : COk X) {ma mb : EM} (ha : JE X cls a ma) (hb : JE X cls (.BoolOp .Or (b :: rest) pos) mb) : JE X cls (.BoolOp .Or (a :: b :: rest) pos) (eOr ma mb) := fun E hx =>
  .of c ((pe_or (ha E hx).pe (hb E hx).pe).imp fun σ H Q ⟨Z, ρ, lo, mh, s, p⟩ => by
    refine ⟨Z, ρ, lo, mh, s, (Post.bind p).imp ?_⟩
    intro v ρ1 mh1 H1 e r q x rx
    cases v with
    | d y =>
      cases y <;> try exact q.elim
      rename_i k
      cases rx with
      | d rx =>
        cases rx
        refine ⟨k, rfl, ?_⟩
        cases k with
        | true => rw [if_pos rfl]; exact q.now r _ (.d (.bl _))
        | false => rw [if_neg (by decide)]; exact ⟨Z, ρ1, lo, mh1, s.to e r, q⟩
    | _ => exact q.elim) fun _ _ _ => rfl
theorem JE_not (c : COk X) {ma : EM} (ha : JE X cls a ma) : JE X cls (.UnaryOp .Not a pos) (eNot ma) := fun E hx =>
  .of c ((pe_not (ha E hx).pe).imp fun σ H Q ⟨Z, ρ, lo, mh, s, p⟩ => by
    refine ⟨Z, ρ, lo, mh, s, (Post.bind p).imp ?_⟩
    intro v ρ1 mh1 H1 e r q x rx
    cases v with
    | d y =>
      cases y <;> try exact q.elim
      rename_i k
      cases rx with
      | d rx => cases rx; exact ⟨k, rfl, q.now r _ (.d (.bl _))⟩
    | _ => exact q.elim) fun _ _ _ => rfl
/-- a if t else b -/
def mIf (mt : BM) (ma mb : EM) : EM := fun lo mh => (mt lo mh).bind fun c mh1 => if c = true then ma lo mh1 else mb lo mh1
theorem JE_if (c : COk X) {t : Expr} {ma mb : EM} (ht : JT X cls t mA) (ha : JE X cls a ma) (hb : JE X cls b mb) : JE X cls (.IfExp t a b pos) (mIf mA ma mb) := fun E hx =>
  .of c ((pe_ifExp (ht E hx) (ha E hx).pe (hb E hx).pe).imp fun σ H Q ⟨Z, ρ, lo, mh, s, p⟩ => by
    refine ⟨Z, ρ, lo, mh, s, (Post.bind p).imp ?_⟩
    intro v ρ1 mh1 H1 e r q x rx
    subst rx
    cases v with
    | true => rw [if_pos rfl]; rw [if_pos rfl] at q; exact ⟨Z, ρ1, lo, mh1, s.to e r, q⟩
    | false => rw [if_neg (by decide)]; rw [if_neg (by decide)] at q; exact ⟨Z, ρ1, lo, mh1, s.to e r, q⟩) fun _ _ _ => rfl
/-- -i -/
def mNeg (ma : EM) : EM := fun lo mh => (ma lo mh).bind fun v mh1 => match v with
  | .d (.int i) => .ok (.d (.int (-i))) mh1
  | _ => .bad
theorem JE_neg (c : COk X) {ma : EM} (ha : JE X cls a ma) : JE X cls (.UnaryOp .USub a pos) (mNeg ma) := fun E hx =>
  .of c ((pe_un un_neg (ha E hx).pe).imp fun σ H Q ⟨Z, ρ, lo, mh, s, p⟩ => by
    refine ⟨Z, ρ, lo, mh, s, (Post.bind p).imp ?_⟩
    intro v ρ1 mh1 H1 e r q x rx
    cases v with
    | d y =>
      cases y <;> try exact q.elim
      rename_i k
      cases rx with
      | d rx => cases rx; exact ⟨k, rfl, q.now r _ (.d (.int _))⟩
    | _ => exact q.elim) fun _ _ _ => rfl
/-! ### argument lists -/
abbrev AM := Lo → Mh → Res (List PV)
def aNil : AM := fun _ mh => .ok [] mh
def aCons (ma : EM) (mr : AM) : AM := fun lo mh => (ma lo mh).bind fun v mh1 => (mr lo mh1).bind fun vs mh2 => .ok (v :: vs) mh2
variable {es : List Expr}
theorem JA_nil : JA X cls [] aNil := fun E _ => pa_nil.imp fun σ H Q ⟨Z, ρ, lo, mh, s, p⟩ => p.now s.hp _ .nil
theorem JA_cons {ma : EM} {mr : AM} (ha : JE X cls e ma) (hr : JA X cls es mr) (hs : starEach (e :: es) X.env = (false, eval e X.env) :: starEach es X.env := by rfl) : JA X cls (e :: es) (aCons ma mr) := fun E hx =>
  (pa_cons (ha E hx).pe (hr E hx) hs).imp fun σ H Q ⟨Z, ρ, lo, mh, s, p⟩ => by
    refine ⟨Z, ρ, lo, mh, s, (Post.bind p).imp ?_⟩
    intro v ρ1 mh1 H1 e r q x rx
    refine ⟨Z, ρ1, lo, mh1, s.to e r, (Post.bind q).imp ?_⟩
    intro vs ρ2 mh2 H2 e2 r2 q2 xs rxs
    exact q2.now r2 _ (.cons (rx.mono e2) rxs)
/-! ### displays -/
def mTup (m : AM) : EM := fun lo mh => (m lo mh).bind fun vs mh1 => if vs.length ≤ sizeLine then (match allD vs with
  | some ds => .ok (.d (.tuple ds)) mh1
  | none => .ok (.tup vs) mh1) else .bad
/-! ### tuples that are known to have no dict -/
def IsT (o : Obj) : Prop := o.cls = .type "tuple" ∧ o.dict = none
theorem laidF {pins : List (Addr × Obj)} {σ : L2.St} {H : Hp} {s : Shared} {xs : List V} {us : List Value} {Q : VK} {k : Nat} (I : L2.Inv X pins σ H s) (r : Vals xs us) (hz : xs.length ≤ sizeLine) (h : ∀ p o, IsT o → H p = none → Q (.ref p) (upd H p (.frz o (.tup xs)))) :
    EP X pins σ Q (.ref s.heap.objs.size) { s with toks := k, heap := s.heap.push { cls := .type "tuple", data := .seq us.toArray } } :=
  ⟨.ref s.heap.objs.size, upd H s.heap.objs.size (.frz { cls := .type "tuple", data := .seq us.toArray } (.tup xs)), I.laid (fun _ _ e => Heap.get?_push_of_some _ e) (Nat.le_refl _) ⟨Heap.get?_push_size _ rfl, hz, us, r, PyProof.Rows.IsTup.new _ _⟩, rfl, h _ _ ⟨rfl, rfl⟩ (I.hok.fresh (Nat.le_refl _))⟩
def tTupF (t : TA) : TE := fun σ H Q => t σ H fun xs H1 => xs.length ≤ sizeLine ∧ ∀ p o, IsT o → H1 p = none → Q (.ref p) (upd H1 p (.frz o (.tup xs)))
theorem pe_tupF {x1} {t : TA} (h : PA X es t) : PE X (.Tuple es x1 pos) (tTupF t) :=
  ⟨fun pins s σ H Q I hq => wpAny_Tuple_spliced (thn (h.run pos pins s σ H _ I hq) fun us s1 ⟨xs, H1, I1, r, z, q⟩ => ⟨by rw [← r.length]; exact z, laidF (k := s1.toks) I1 r z q⟩)⟩
theorem tupS_new {K : PySem.W.Frag} {Z ρ : List Addr} {H : Hp} {mh : Mh} (rh : RH K cls Z ρ mh H) {p : Addr} {o : Obj} (ho : IsT o) (hp : H p = none) (xs : List V) : TupS K Z ρ (upd H p (.frz o (.tup xs))) p xs := .inl ⟨o, ho, upd_same, rh.fz hp⟩
theorem tupAt_new {K : PySem.W.Frag} {Z ρ : List Addr} {H : Hp} {mh : Mh} (rh : RH K cls Z ρ mh H) {p : Addr} (hp : H p = none) (xs : List V) : TupAt K Z ρ (upd H p (.tup xs)) p xs := .inl ⟨.inl upd_same, rh.fz hp⟩
theorem JE_tup (c : COk X) {x1} {m : AM} (h : JA X cls es m) : JE X cls (.Tuple es x1 pos) (mTup m) := fun E hx =>
  .of c ((pe_tupF (h E hx)).imp fun σ H Q ⟨Z, ρ, lo, mh, s, p⟩ => by
    refine ⟨Z, ρ, lo, mh, s, (Post.bind p).imp ?_⟩
    intro vs ρ1 mh1 H1 e r q xs rx
    by_cases hl : vs.length ≤ sizeLine
    · rw [if_pos hl] at q
      refine ⟨by rw [← rx.length]; exact hl, fun p o ho hp => ?_⟩
      have e2 : Ext ρ1 H1 ρ1 (upd H1 p (.frz o (.tup xs))) := Ext.new hp
      have r2 := r.new (o := .frz o (.tup xs)) hp
      cases k : allD vs with
      | none =>
        rw [k] at q
        exact (q.later e2).now r2 _ (.tup (tupS_new r ho hp xs).at (rx.mono e2))
      | some ds =>
        rw [k] at q
        have := allD_ok k; subst this
        exact (q.later e2).now r2 _ (.d (.tup (tupS_new r ho hp xs) (rx.toD.mono e2)))
    · rw [if_neg hl] at q; exact q.elim) fun _ _ _ => rfl
end
end EL


set_option Elab.async false
set_option linter.all false
set_option maxRecDepth 100000
set_option maxHeartbeats 4000000
/-! EL: new lists, sequences, calls. -/
namespace EL
open PySem L2

/-! ### carrying over -/
section
variable {K : PySem.W.Frag} {cls : Nat → Addr} {Z ρ Z' ρ' : List Addr} {H H' : Hp} {mh : Mh}
/-- a change of what is claimed -/
structure Sh (Z ρ : List Addr) (H : Hp) (Z' ρ' : List Addr) (H' : Hp) : Prop where
  ob : ∀ a o, H a = some o → Fz Z ρ a → H' a = some o ∧ Fz Z' ρ' a
  at_ : ∀ (n : Nat) (a : Addr), ρ[n]? = some a → ρ'[n]? = some a
theorem TupS.sh (s : Sh Z ρ H Z' ρ' H') {a : Addr} {xs : List V} (h : TupS K Z ρ H a xs) : TupS K Z' ρ' H' a xs := by
  rcases h with ⟨o, d, h, z⟩ | h
  · exact .inl ⟨o, d, (s.ob _ _ h z).1, (s.ob _ _ h z).2⟩
  · exact .inr h
theorem TupAt.sh (s : Sh Z ρ H Z' ρ' H') {a : Addr} {xs : List V} (h : TupAt K Z ρ H a xs) : TupAt K Z' ρ' H' a xs := by
  rcases h with ⟨h | ⟨o, h⟩, z⟩ | h
  · exact .inl ⟨.inl (s.ob _ _ h z).1, (s.ob _ _ h z).2⟩
  · exact .inl ⟨.inr ⟨o, (s.ob _ _ h z).1⟩, (s.ob _ _ h z).2⟩
  · exact .inr h
theorem ScrAt.sh (s : Sh Z ρ H Z' ρ' H') {a : Addr} {xs : List V} (h : ScrAt K Z ρ H a xs) : ScrAt K Z' ρ' H' a xs := by
  rcases h with ⟨h | ⟨o, h⟩, z⟩ | h
  · exact .inl ⟨.inl (s.ob _ _ h z).1, (s.ob _ _ h z).2⟩
  · exact .inl ⟨.inr ⟨o, (s.ob _ _ h z).1⟩, (s.ob _ _ h z).2⟩
  · exact .inr h
mutual
theorem RD.sh (s : Sh Z ρ H Z' ρ' H') : ∀ {x : PyData} {v : V}, RD K Z ρ H x v → RD K Z' ρ' H' x v
  | _, _, .non => .non
  | _, _, .bl b => .bl b
  | _, _, .int i => .int i
  | _, _, .str x => .str x
  | _, _, .lst h z r => .lst (s.ob _ _ h z).1 (s.ob _ _ h z).2 (RDs.sh s r)
  | _, _, .tup h r => .tup (h.sh s) (RDs.sh s r)
theorem RDs.sh (s : Sh Z ρ H Z' ρ' H') : ∀ {x : List PyData} {v : List V}, RDs K Z ρ H x v → RDs K Z' ρ' H' x v
  | _, _, .nil => .nil
  | _, _, .cons h r => .cons (RD.sh s h) (RDs.sh s r)
end
mutual
theorem RV.sh (s : Sh Z ρ H Z' ρ' H') : ∀ {x : PV} {v : V}, RV K Z ρ H x v → RV K Z' ρ' H' x v
  | _, _, .d h => .d (h.sh s)
  | _, _, .dct h z r => .dct (s.ob _ _ h z).1 (s.ob _ _ h z).2 (RVk.sh s r)
  | _, _, .ref h => .ref (s.at_ _ _ h)
  | _, _, .tup h r => .tup (h.sh s) (RVs.sh s r)
  | _, _, .scr h => .scr (h.sh s)
theorem RVs.sh (s : Sh Z ρ H Z' ρ' H') : ∀ {x : List PV} {v : List V}, RVs K Z ρ H x v → RVs K Z' ρ' H' x v
  | _, _, .nil => .nil
  | _, _, .cons h r => .cons (RV.sh s h) (RVs.sh s r)
theorem RVk.sh (s : Sh Z ρ H Z' ρ' H') : ∀ {x : List (PyData × PV)} {v : List (Key × V)}, RVk K Z ρ H x v → RVk K Z' ρ' H' x v
  | _, _, .nil => .nil
  | _, _, .cons h r => .cons (RV.sh s h) (RVk.sh s r)
end
theorem RF.sh (s : Sh Z ρ H Z' ρ' H') : ∀ {x : List (Str × PV)} {v : List (Str × V)}, RF K Z ρ H x v → RF K Z' ρ' H' x v
  | _, _, .nil => .nil
  | _, _, .cons h r => .cons (h.sh s) (RF.sh s r)
theorem RO.sh (s : Sh Z ρ H Z' ρ' H') {o : MO} {a : Addr} (k : H' a = H a) (h : RO K cls Z ρ H o a) : RO K cls Z' ρ' H' o a := by
  cases h with
  | lst h r => exact .lst (k.trans h) (r.sh s)
  | dct h r => exact .dct (k.trans h) (r.sh s)
  | ins h r => exact .ins (k.trans h) (r.sh s)
/-- what was put aside is taken among the things that may be written -/
theorem Sh.taken {p : Addr} : Sh (p :: Z) ρ H Z (ρ ++ [p]) H :=
  ⟨fun a o h z => ⟨h, fun m => z.1 (List.mem_cons_of_mem _ m), fun m => (List.mem_append.mp m).elim z.2 fun m => z.1 (by rw [List.mem_singleton.mp m]; exact List.mem_cons_self)⟩,
    fun n a h => by rw [List.getElem?_append_left (List.getElem?_eq_some_iff.mp h).1]; exact h⟩
theorem RH.taken {p : Addr} {o : MO} (hz' : p ∉ Z) (h : RH K cls (p :: Z) ρ mh H) (ho : RO K cls Z (ρ ++ [p]) H o p) : RH K cls Z (ρ ++ [p]) (mh ++ [o]) H where
  len := by simp [h.len]
  nd := by
    rw [List.nodup_append]
    refine ⟨h.nd, by simp, fun a ha b hb => ?_⟩
    rw [List.mem_singleton.mp hb]
    intro e; rw [e] at ha; exact (h.zs p List.mem_cons_self).1 ha
  zs := fun z hz => by
    refine ⟨fun q => ?_, (h.zs z (List.mem_cons_of_mem _ hz)).2⟩
    rcases List.mem_append.mp q with q | q
    · exact (h.zs z (List.mem_cons_of_mem _ hz)).1 q
    · rw [List.mem_singleton.mp q] at hz; exact hz' hz
  objs := fun n u a e1 e2 => by
    by_cases hn : n < mh.length
    · rw [List.getElem?_append_left hn] at e1
      rw [List.getElem?_append_left (by rw [h.len]; exact hn)] at e2
      exact (h.objs n u a e1 e2).sh Sh.taken rfl
    · have hn' : n = mh.length := by
        have := (List.getElem?_eq_some_iff.mp e1).1
        simp at this; omega
      subst hn'
      simp at e1; subst e1
      rw [← h.len, at_last] at e2
      cases e2; exact ho
/-- a new thing put aside -/
theorem RH.aside (h : RH K cls Z ρ mh H) {p : Addr} {o : HO} (hp : H p = none) : RH K cls (p :: Z) ρ mh (upd H p o) where
  len := h.len
  nd := h.nd
  zs := fun z hz => by
    rcases List.mem_cons.mp hz with rfl | hz
    · exact ⟨(h.fresh hp).1, by rw [upd_same]; rfl⟩
    · exact (h.new hp).zs z hz
  objs := fun n u a e1 e2 => by
    have q := (h.objs n u a e1 e2).more hp
    obtain ⟨w, hw⟩ := q.there
    exact q.mono (Ext.new hp) (by rw [upd_ne (ne_of_none hw hp)])
theorem Ext.none {mh' : Mh} (e : Ext ρ H ρ' H') (r : RH K cls Z ρ' mh' H') {p : Addr} (hp : H' p = none) : H p = none := by
  cases q : H p with
  | none => rfl
  | some o =>
    by_cases m : p ∈ ρ
    · obtain ⟨u, hu⟩ := r.there (e.sub m)
      rw [hp] at hu; cases hu
    · rw [e.keep p o q m] at hp; cases hp
/-! ### a new list -/
/-- what is to hold of a new list: it stands at p, put aside -/
def KL (K : PySem.W.Frag) (cls : Nat → Addr) (Z : List Addr) (H0 : Hp) (Q : VK) : List PV → List Addr → Mh → Hp → Prop := fun l ρ' mh' H' =>
  ∀ p xs, H0 p = none → H' p = some (.lst xs) → p ∉ Z → p ∉ ρ' → RH K cls (p :: Z) ρ' mh' H' → RVs K (p :: Z) ρ' H' l xs → Q (.ref p) H'
def tL (K : PySem.W.Frag) (cls : Nat → Addr) (E : XK) (m : AM) : TE := fun σ H Q => ∃ Z ρ lo mh, RS K cls Z ρ lo mh σ H ∧ Post K cls E Z ρ H (m lo mh) (KL K cls Z H Q)
variable {E : XK}
theorem KL.new {H0 : Hp} {Q : VK} {l : List PV} {xs : List V} (q : Post K cls E Z ρ H (.ok l mh) (KL K cls Z H0 Q)) (h0 : ∀ p, H p = none → H0 p = none) (r : RH K cls Z ρ mh H) (rx : RVs K Z ρ H l xs) {p : Addr} (hp : H p = none) : Q (.ref p) (upd H p (.lst xs)) :=
  q ρ _ (Ext.new hp) (r.new hp) p xs (h0 p hp) upd_same (r.fresh hp).2 (r.fresh hp).1 (r.aside hp) ((rx.more hp).mono (Ext.new hp))
/-- a new list as a value that is not written any more; with things in it that may be written: as such a thing -/
def frzL (l : List PV) (mh : Mh) : Res PV := match allD l with
  | some ds => .ok (.d (.list ds)) mh
  | none => .ok (.ref mh.length) (mh ++ [.lst l])
def objL (l : List PV) (mh : Mh) : Res PV := .ok (.ref mh.length) (mh ++ [.lst l])
theorem Sh.dropZ {p : Addr} : Sh (p :: Z) ρ H Z ρ H := ⟨fun a o h z => ⟨h, z.less fun b m => List.mem_cons_of_mem _ m⟩, fun _ _ h => h⟩
theorem KL.obj {Q : VK} {l : List PV} {ρ0 : List Addr} {H0 : Hp} (e : Ext ρ0 H0 ρ H) (q : Post K cls E Z ρ0 H0 (objL l mh) fun w ρ' _ H' => ∀ z, RV K Z ρ' H' w z → Q z H') : KL K cls Z H0 Q l ρ mh H := fun p xs h0 hp nz nr r rx => by
  have ho : RO K cls Z (ρ ++ [p]) H (.lst l) p := .lst hp (rx.sh Sh.taken)
  have r2 := RH.taken nz r ho
  refine q (ρ ++ [p]) H ⟨e.pre.trans (List.prefix_append _ _), e.keep, fun a m n => ?_⟩ r2 _ (.ref ?_)
  · rcases List.mem_append.mp m with m | m
    · exact e.fresh a m n
    · rw [List.mem_singleton.mp m]; exact h0
  · rw [← r.len]; exact at_last _ _
theorem KL.frz {Q : VK} {l : List PV} {ρ0 : List Addr} {H0 : Hp} (e : Ext ρ0 H0 ρ H) (q : Post K cls E Z ρ0 H0 (frzL l mh) fun w ρ' _ H' => ∀ z, RV K Z ρ' H' w z → Q z H') : KL K cls Z H0 Q l ρ mh H := by
  cases k : allD l with
  | none =>
    have hk : frzL l mh = objL l mh := by unfold frzL objL; rw [k]
    rw [hk] at q
    exact KL.obj e q
  | some ds =>
    have hk : frzL l mh = .ok (.d (.list ds)) mh := by unfold frzL; rw [k]
    rw [hk] at q
    intro p xs h0 hp nz nr r rx
    have := allD_ok k; subst this
    exact q ρ H e (r.less fun _ m => List.mem_cons_of_mem _ m) _ (.d (.lst hp ⟨nz, nr⟩ (rx.toD.sh Sh.dropZ)))
end
section
variable {X : Cx} {cls : Nat → Addr} {e a b : Expr} {es : List Expr} {pos : Pos}
def JL (X : Cx) (cls : Nat → Addr) (e : Expr) (m : AM) : Prop := ∀ E, Passes (L2.CX X.prog X.w) X E → PEs X e (tL X.K cls E m)
def mFrz (m : AM) : EM := fun lo mh => (m lo mh).bind frzL
def mObj (m : AM) : EM := fun lo mh => (m lo mh).bind objL
theorem JE_frz {m : AM} (h : JL X cls e m) : JE X cls e (mFrz m) := fun E hx => (h E hx).imp fun σ H Q ⟨Z, ρ, lo, mh, s, p⟩ => by
  refine ⟨Z, ρ, lo, mh, s, ?_⟩
  unfold mFrz at p
  cases k : m lo mh with
  | bad => rw [k] at p; exact p.elim
  | exc c m1 => rw [k] at p; exact p
  | ok l mh1 => rw [k] at p; exact fun ρ' H' e r => KL.frz e p
theorem JE_obj {m : AM} (h : JL X cls e m) : JE X cls e (mObj m) := fun E hx => (h E hx).imp fun σ H Q ⟨Z, ρ, lo, mh, s, p⟩ => by
  refine ⟨Z, ρ, lo, mh, s, ?_⟩
  unfold mObj at p
  cases k : m lo mh with
  | bad => rw [k] at p; exact p.elim
  | exc c m1 => rw [k] at p; exact p
  | ok l mh1 => rw [k] at p; exact fun ρ' H' e r => KL.obj e p
/-- [a, b, ..] -/
def lDisp (m : AM) : AM := fun lo mh => (m lo mh).bind fun vs mh1 => if vs.length ≤ sizeLine then .ok vs mh1 else .bad
theorem JL_disp (c : COk X) {m : AM} (h : JA X cls es m) : JL X cls (.List es pos) (lDisp m) := fun E hx =>
  .of c ((pe_lst (h E hx)).imp fun σ H Q ⟨Z, ρ, lo, mh, s, p⟩ => by
    refine ⟨Z, ρ, lo, mh, s, (Post.bind p).imp ?_⟩
    intro vs ρ1 mh1 H1 e r q xs rx
    by_cases hl : vs.length ≤ sizeLine
    · rw [if_pos hl] at q
      exact ⟨by rw [← rx.length]; exact hl, fun p hp => KL.new q (fun p hp => e.none r hp) r rx hp⟩
    · rw [if_neg hl] at q; exact q.elim) fun _ _ _ => rfl
end
/-! ### sequences -/
def listOf (mh : Mh) : PV → Option (List PV)
  | .d (.list ds) => some (ds.map .d)
  | .ref n => match mh[n]? with
    | some (.lst l) => some l
    | _ => none
  | _ => none
def tupOf : PV → Option (List PV)
  | .d (.tuple ds) => some (ds.map .d)
  | .tup l => some l
  | _ => none
section
variable {K : PySem.W.Frag} {cls : Nat → Addr} {Z ρ : List Addr} {H : Hp} {mh : Mh}
theorem listOf_ok (rh : RH K cls Z ρ mh H) {v : PV} {x : V} {l : List PV} (r : RV K Z ρ H v x) (e : listOf mh v = some l) : ∃ a xs, x = .ref a ∧ H a = some (.lst xs) ∧ RVs K Z ρ H l xs := by
  cases r with
  | d r =>
    cases r with
    | lst h z r => simp only [listOf, Option.some.injEq] at e; subst e; exact ⟨_, _, rfl, h, .ofD r⟩
    | _ => cases e
  | scr _ => cases e
  | dct _ _ _ => cases e
  | tup _ _ => cases e
  | @ref n a h =>
    unfold listOf at e
    dsimp only at e
    split at e
    · rename_i l' q
      cases e
      cases rh.objs n _ a q h with
      | lst ho ro => exact ⟨a, _, rfl, ho, ro⟩
    · cases e
theorem tupOf_ok {v : PV} {x : V} {l : List PV} (r : RV K Z ρ H v x) (e : tupOf v = some l) : ∃ a xs, x = .ref a ∧ TupAt K Z ρ H a xs ∧ RVs K Z ρ H l xs := by
  cases r with
  | d r =>
    cases r with
    | tup h r => simp only [tupOf, Option.some.injEq] at e; subst e; exact ⟨_, _, rfl, h.at, .ofD r⟩
    | _ => cases e
  | scr _ => cases e
  | dct _ _ _ => cases e
  | tup h r => cases e; exact ⟨_, _, rfl, h, r⟩
  | ref h => cases e
/-- a list's or a tuple's items -/
def seqOf (mh : Mh) (v : PV) : Option (List PV) := match listOf mh v with
  | some l => some l
  | none => tupOf v
theorem seqOf_ok (rh : RH K cls Z ρ mh H) {v : PV} {x : V} {l : List PV} (r : RV K Z ρ H v x) (e : seqOf mh v = some l) : ∃ a xs, x = .ref a ∧ (H a = some (.lst xs) ∨ TupAt K Z ρ H a xs) ∧ RVs K Z ρ H l xs := by
  unfold seqOf at e
  split at e
  · rename_i l' q
    cases e
    obtain ⟨a, xs, h1, h2, h3⟩ := listOf_ok rh r q
    exact ⟨a, xs, h1, .inl h2, h3⟩
  · obtain ⟨a, xs, h1, h2, h3⟩ := tupOf_ok r e
    exact ⟨a, xs, h1, .inr h2, h3⟩
theorem seq_sq {a : Addr} {xs : List V} (h : H a = some (.lst xs) ∨ TupAt K Z ρ H a xs) : SqL K H a xs ∨ SqT K H a xs := h.imp .of TupAt.sq
end
section
variable {X : Cx} {cls : Nat → Addr} {e a b : Expr} {es : List Expr} {pos : Pos}
/-! ### + of texts, tuples, lists; * -/
def oAddT : Op2 := fun v u mh => match v, u with
  | .d (.str x), .d (.str y) => if x.length + y.length ≤ sizeLine then .ok (.d (.str (x ++ y))) mh else .bad
  | _, _ => .bad
theorem vAddT : OpV X cls (binaryOp .Add) oAddT := fun E => OpR_imp op_add_str fun x y H Q ⟨Z, ρ, mh, v, u, rh, rv, ru, q⟩ => by
  unfold oAddT at q
  split at q
  · rename_i x1 y1
    cases rv with
    | d rv =>
      cases ru with
      | d ru =>
        cases rv; cases ru
        split at q
        · rename_i hl
          exact ⟨x1, y1, rfl, rfl, hl, q.now rh _ (.d (.str _))⟩
        · exact q.elim
  · exact q.elim
def oCatT : Op2 := fun v u mh => match v, u with
  | .d (.tuple x), .d (.tuple y) => if x.length + y.length ≤ sizeLine then .ok (.d (.tuple (x ++ y))) mh else .bad
  | _, _ => .bad
def rCatF (K : PySem.W.Frag) : R2 := fun x y H Q => ∃ a b xs ys, x = .ref a ∧ y = .ref b ∧ SqT K H a xs ∧ SqT K H b ys ∧ xs.length + ys.length ≤ sizeLine ∧
  (xs = [] → Q (.ref b) H) ∧ (xs ≠ [] → ys = [] → Q (.ref a) H) ∧ (xs ≠ [] → ys ≠ [] → ∀ p o, IsT o → H p = none → Q (.ref p) (upd H p (.frz o (.tup (xs ++ ys)))))
theorem op_catF : OpR X (binaryOp .Add) (rCatF X.K) := by
  intro pins s σ H x y v u Q I rx ry ⟨a, b, xs, ys, e1, e2, ha, hb, hz, q0, q1, q2⟩
  subst e1 e2
  by_cases hx : xs = []
  · exact op_catA pins s σ H _ _ v u Q I rx ry ⟨a, b, xs, ys, rfl, rfl, ha, hb, hz, q0, q1, fun h => absurd hx h⟩
  · by_cases hy : ys = []
    · exact op_catA pins s σ H _ _ v u Q I rx ry ⟨a, b, xs, ys, rfl, rfl, ha, hb, hz, q0, q1, fun _ h => absurd hy h⟩
    · cases rx
      cases ry
      obtain ⟨as, ra, pa, -⟩ := I.tuple ha
      obtain ⟨bs, rb, pb, -⟩ := I.tuple hb
      have hl : (xs ++ ys).length ≤ sizeLine := by rw [List.length_append]; exact hz
      exact HT.cat_tup pa pb (fun z => hx (ra.nil_iff.mp z)) (fun z => absurd (rb.nil_iff.mp z) hy) (fun _ => by
        have := laidF (k := s.toks) I (ra.append rb) hl (q2 hx hy)
        simpa using this) (by rw [← ra.length, ← rb.length]; exact hz)
theorem vCatT : OpV X cls (binaryOp .Add) oCatT := fun E => OpR_imp op_catF fun x y H Q ⟨Z, ρ, mh, v, u, rh, rv, ru, q⟩ => by
  unfold oCatT at q
  split at q
  · rename_i x1 y1
    cases rv with
    | d rv =>
      cases ru with
      | d ru =>
        cases rv with
        | @tup a xs _ h1 r1 =>
          cases ru with
          | @tup b ys _ h2 r2 =>
            split at q
            · rename_i hl
              refine ⟨a, b, xs, ys, rfl, rfl, h1.sq, h2.sq, by rw [← r1.length, ← r2.length]; exact hl, fun e => ?_, fun _ e => ?_, fun _ _ p o ho hp => ?_⟩
              · subst e
                cases r1
                exact q.now rh _ (.d (.tup h2 r2))
              · subst e
                cases r2
                rw [List.append_nil] at q
                exact q.now rh _ (.d (.tup h1 r1))
              · exact (q.later (Ext.new hp)).now (rh.new hp) _ (.d (.tup (tupS_new rh ho hp _) ((RDs.append r1 r2).mono (Ext.new hp))))
            · exact q.elim
  · exact q.elim
/-- list + list -/
def catL (mh : Mh) (v u : PV) : Option (List PV) := match listOf mh v, listOf mh u with
  | some l, some l' => if l.length + l'.length ≤ sizeLine then some (l ++ l') else none
  | _, _ => none
def oCatL : Op2 := fun v u mh => match catL mh v u with
  | some l => frzL l mh
  | none => .bad
theorem catL_ok {K : PySem.W.Frag} {Z ρ : List Addr} {H : Hp} {mh : Mh} {v u : PV} {x y : V} {l : List PV} (rh : RH K cls Z ρ mh H) (rv : RV K Z ρ H v x) (ru : RV K Z ρ H u y) (e : catL mh v u = some l) :
    ∃ a b xs ys, x = .ref a ∧ y = .ref b ∧ H a = some (.lst xs) ∧ H b = some (.lst ys) ∧ xs.length + ys.length ≤ sizeLine ∧ RVs K Z ρ H l (xs ++ ys) := by
  unfold catL at e
  split at e
  · rename_i l1 l2 e1 e2
    obtain ⟨a, xs, rfl, h1, r1⟩ := listOf_ok rh rv e1
    obtain ⟨b, ys, rfl, h2, r2⟩ := listOf_ok rh ru e2
    split at e
    · rename_i hl
      cases e
      exact ⟨a, b, xs, ys, rfl, rfl, h1, h2, by rw [← r1.length, ← r2.length]; exact hl, r1.append r2⟩
    · cases e
  · cases e
theorem new_frz {K : PySem.W.Frag} {E : XK} {Z ρ : List Addr} {H : Hp} {mh : Mh} {l : List PV} {xs : List V} {Q : VK} (rh : RH K cls Z ρ mh H) (rx : RVs K Z ρ H l xs) (q : Post K cls E Z ρ H (frzL l mh) fun w ρ' _ H' => ∀ z, RV K Z ρ' H' w z → Q z H') {p : Addr} (hp : H p = none) :
    Q (.ref p) (upd H p (.lst xs)) :=
  KL.new (E := E) (H0 := H) (fun ρ' H' e r => KL.frz e q) (fun _ h => h) rh rx hp
theorem vCatL : OpV X cls (binaryOp .Add) oCatL := fun E => OpR_imp op_cat fun x y H Q ⟨Z, ρ, mh, v, u, rh, rv, ru, q⟩ => by
  unfold oCatL at q
  split at q
  · rename_i l e
    obtain ⟨a, b, xs, ys, rfl, rfl, h1, h2, hl, rx⟩ := catL_ok rh rv ru e
    exact ⟨a, b, xs, ys, rfl, rfl, h1, h2, hl, fun p hp => new_frz rh rx q hp⟩
  · exact q.elim
def oAdd : Op2 := alt2 oAddI (alt2 oCatT (alt2 oCatL oAddT))
theorem vAdd : OpV X cls (binaryOp .Add) oAdd := vAddI.alt (vCatT.alt (vCatL.alt vAddT))
def lCat (ma mb : EM) : AM := fun lo mh => (ma lo mh).bind fun v mh1 => (mb lo mh1).bind fun u mh2 => match catL mh2 v u with
  | some l => .ok l mh2
  | none => .bad
theorem JL_cat (c : COk X) {ma mb : EM} (ha : JE X cls a ma) (hb : JE X cls b mb) : JL X cls (.BinOp a .Add b pos) (lCat ma mb) := fun E hx =>
  .of c ((pe_op op_cat (ha E hx).pe (hb E hx).pe).imp fun σ H Q ⟨Z, ρ, lo, mh, s, p⟩ => by
    refine ⟨Z, ρ, lo, mh, s, (Post.bind p).imp ?_⟩
    intro v ρ1 mh1 H1 e1 r1 q x rx
    refine ⟨Z, ρ1, lo, mh1, s.to e1 r1, (Post.bind q).imp ?_⟩
    intro u ρ2 mh2 H2 e2 r2 q2 y ry
    split at q2
    · rename_i l e
      obtain ⟨a, b, xs, ys, rfl, rfl, h1, h2, hl, rx⟩ := catL_ok r2 (rx.mono e2) ry e
      exact ⟨a, b, xs, ys, rfl, rfl, h1, h2, hl, fun p hp => KL.new q2 (fun p hp => (e1.trans e2).none r2 hp) r2 rx hp⟩
    · exact q2.elim) fun _ _ _ => rfl
/-- list * int -/
def oRepL : Op2 := fun v u mh => match listOf mh v, u with
  | some l, .d (.int k) => if -(2 ^ 63) ≤ k ∧ k < 2 ^ 63 ∧ l.length * k.toNat ≤ sizeLine then frzL (List.replicate k.toNat l).flatten mh else .bad
  | _, _ => .bad
theorem RVs.rep {K : PySem.W.Frag} {Z ρ : List Addr} {H : Hp} {l : List PV} {xs : List V} (r : RVs K Z ρ H l xs) : ∀ n : Nat, RVs K Z ρ H (List.replicate n l).flatten (List.replicate n xs).flatten
  | 0 => .nil
  | n + 1 => by rw [List.replicate_succ, List.replicate_succ, List.flatten_cons, List.flatten_cons]; exact r.append (RVs.rep r n)
theorem vRepL : OpV X cls (binaryOp .Mult) oRepL := fun E => OpR_imp op_rep fun x y H Q ⟨Z, ρ, mh, v, u, rh, rv, ru, q⟩ => by
  unfold oRepL at q
  split at q
  · rename_i l k e
    obtain ⟨a, xs, rfl, h1, r1⟩ := listOf_ok rh rv e
    cases ru with
    | d ru =>
      cases ru
      split at q
      · rename_i hl
        exact ⟨a, k, xs, rfl, rfl, h1, hl.1, hl.2.1, by rw [← r1.length]; exact hl.2.2, fun p hp => new_frz rh (r1.rep _) q hp⟩
      · exact q.elim
  · exact q.elim
def oMul : Op2 := alt2 oMulI oRepL
theorem vMul : OpV X cls (binaryOp .Mult) oMul := vMulI.alt vRepL
/-! ### subscripts -/
def IxV (X : Cx) (cls : Nat → Addr) (op : Op2) : Prop :=
  ∀ E, IxR X fun x y H Q => ∃ Z ρ mh v u, RH X.K cls Z ρ mh H ∧ RV X.K Z ρ H v x ∧ RV X.K Z ρ H u y ∧ Post X.K cls E Z ρ H (op v u mh) fun w ρ' _ H' => ∀ z, RV X.K Z ρ' H' w z → Q z H'
theorem IxR_imp {r r' : R2} (h : IxR X r) (g : ∀ x y H Q, r' x y H Q → r x y H Q) : IxR X r' := fun va sl pins s σ H x y v u Q I rx ry q k => h va sl pins s σ H x y v u Q I rx ry (g _ _ _ _ q) k
def oIx : Op2 := fun v u mh => match seqOf mh v, u with
  | some l, .d (.int i) => match atI l i with
    | some w => .ok w mh
    | none => .bad
  | none, .d (.int i) => match v with
    | .d (.str z) => if z.length ≤ sizeLine then (match atI z.cps.toList i with
      | some c => .ok (.d (.str ⟨#[c]⟩)) mh
      | none => .bad) else .bad
    | _ => .bad
  | _, _ => .bad
theorem atI_len {α β : Type} {xs : List α} {ys : List β} (h : xs.length = ys.length) {i : Int} {v : α} (e : atI xs i = some v) : ∃ j : Nat, xs[j]? = some v ∧ atI ys i = ys[j]? := by
  unfold atI at e ⊢
  rw [← h]
  cases k : ixN xs.length i with
  | none => rw [k] at e; cases e
  | some j => rw [k] at e; exact ⟨j, e, rfl⟩
theorem vIx : IxV X cls oIx := fun E => IxR_imp ix_seq fun x y H Q ⟨Z, ρ, mh, v, u, rh, rv, ru, q⟩ => by
  unfold oIx at q
  split at q
  · rename_i l i e
    obtain ⟨a, xs, rfl, h1, r1⟩ := seqOf_ok rh rv e
    cases ru with
    | d ru =>
      cases ru
      split at q
      · rename_i w hw
        obtain ⟨j, e1, e2⟩ := atI_len (ys := xs) r1.length hw
        obtain ⟨z, e3, rz⟩ := r1.get e1
        rcases h1 with h1 | h1
        · exact .inl ⟨a, xs, i, z, rfl, rfl, .of h1, e2.trans e3, q.now rh _ rz⟩
        · exact .inr (.inl ⟨a, xs, i, z, rfl, rfl, h1.sq, e2.trans e3, q.now rh _ rz⟩)
      · exact q.elim
  · rename_i i e
    split at q
    · rename_i z
      cases rv with
      | d rv =>
        cases rv
        cases ru with
        | d ru =>
          cases ru
          split at q
          · rename_i hl
            split at q
            · rename_i c hc
              exact .inr (.inr ⟨z, i, c, rfl, rfl, hl, hc, q.now rh _ (.d (.str _))⟩)
            · exact q.elim
          · exact q.elim
    · exact q.elim
  · exact q.elim
theorem JE_ix (c : COk X) {o : Op2} {ma mb : EM} (ha : JE X cls a ma) (hb : JE X cls b mb) (ho : IxV X cls o) (hs : PlainIx b) : JE X cls (.Subscript a b pos) (bind2 ma mb o) := fun E hx =>
  .of c ((pe_ix (ho E) (ha E hx).pe (hb E hx).pe hs).imp fun σ H Q h => tE_two h) fun _ _ _ => rfl
/-! ### slices -/
abbrev PM := Lo → Mh → Res (Option Int)
def JO (X : Cx) (cls : Nat → Addr) (e : Option Expr) (m : PM) : Prop := ∀ E, Passes (L2.CX X.prog X.w) X E → PO X e (tG X.K cls (fun _ _ _ a b => b = a) E m)
theorem PO_imp {e : Option Expr} {t t' : TO} (h : PO X e t) (f : ∀ σ H Q, t' σ H Q → t σ H Q) : PO X e t' := ⟨fun pins s σ H Q I q => h.run pins s σ H Q I (f _ _ _ q)⟩
def pNo : PM := fun _ mh => .ok none mh
def pSome (m : EM) : PM := fun lo mh => (m lo mh).bind fun v mh1 => match v with
  | .d (.int i) => .ok (some i) mh1
  | _ => .bad
theorem JO_no : JO X cls none pNo := fun E _ => PO_imp po_none fun σ H Q ⟨Z, ρ, lo, mh, s, p⟩ => p.now s.hp _ rfl
theorem JO_some {m : EM} (h : JE X cls e m) : JO X cls (some e) (pSome m) := fun E hx => PO_imp (po_some (h E hx).pe) fun σ H Q ⟨Z, ρ, lo, mh, s, p⟩ => by
  refine ⟨Z, ρ, lo, mh, s, (Post.bind p).imp ?_⟩
  intro v ρ1 mh1 H1 e r q x rx
  split at q
  · rename_i i
    cases rx with
    | d rx => cases rx; exact ⟨i, rfl, q.now r _ rfl⟩
  · exact q.elim
def cutP {α : Type} (xs : List α) (lo hi : Option Int) : List α := (xs.drop (HT.sIx xs.length 0 lo)).take (HT.sIx xs.length xs.length hi - HT.sIx xs.length 0 lo)
theorem cutP_map {α β : Type} (f : α → β) (xs : List α) (lo hi : Option Int) : cutP (xs.map f) lo hi = (cutP xs lo hi).map f := by
  unfold cutP; rw [List.length_map, List.map_take, List.map_drop]
theorem RVs.cut {K : PySem.W.Frag} {Z ρ : List Addr} {H : Hp} {l : List PV} {xs : List V} (r : RVs K Z ρ H l xs) (lo hi : Option Int) : RVs K Z ρ H (cutP l lo hi) (cutV xs lo hi) := by
  unfold cutP cutV
  rw [r.length]
  exact (r.drop _).take _
theorem RDs.cut {K : PySem.W.Frag} {Z ρ : List Addr} {H : Hp} {l : List PyData} {xs : List V} (r : RDs K Z ρ H l xs) (lo hi : Option Int) : RDs K Z ρ H (cutP l lo hi) (cutV xs lo hi) := by
  unfold cutP cutV
  rw [r.length]
  exact (r.drop _).take _
theorem SlR_imp {r r' : V → Option Int → Option Int → Hp → VK → Prop} (h : SlR X r) (g : ∀ x l u H Q, r' x l u H Q → r x l u H Q) : SlR X r' := fun pins s σ H x v vl vu lo hi sl Q I rx hs pl pu q => h pins s σ H x v vl vu lo hi sl Q I rx hs pl pu (g _ _ _ _ _ q)
/-- a part of a list: a new list -/
def lSl (ma : EM) (ml mh' : PM) : AM := fun lo mh => (ma lo mh).bind fun v mh1 => (ml lo mh1).bind fun l mh2 => (mh' lo mh2).bind fun h mh3 => match listOf mh3 v with
  | some xs => .ok (cutP xs l h) mh3
  | none => .bad
theorem JL_sl (c : COk X) {lo hi : Option Expr} {p2 : Pos} {ma : EM} {ml mu : PM} (ha : JE X cls a ma) (hl : JO X cls lo ml) (hu : JO X cls hi mu) : JL X cls (.Subscript a (.Slice lo hi none p2) pos) (lSl ma ml mu) := fun E hx =>
  .of c ((pe_slice sl_list (ha E hx).pe (hl E hx) (hu E hx)).imp fun σ H Q ⟨Z, ρ, lo, mh, s, p⟩ => by
    refine ⟨Z, ρ, lo, mh, s, (Post.bind p).imp ?_⟩
    intro v ρ1 mh1 H1 e1 r1 q x rx
    refine ⟨Z, ρ1, lo, mh1, s.to e1 r1, (Post.bind q).imp ?_⟩
    intro l ρ2 mh2 H2 e2 r2 q2 y ry
    subst ry
    refine ⟨Z, ρ2, lo, mh2, (s.to e1 r1).to e2 r2, (Post.bind q2).imp ?_⟩
    intro h ρ3 mh3 H3 e3 r3 q3 y ry
    subst ry
    split at q3
    · rename_i xs e
      obtain ⟨a, ys, rfl, h1, rr⟩ := listOf_ok r3 ((rx.mono e2).mono e3) e
      exact ⟨a, ys, rfl, .of h1, fun p hp => KL.new q3 (fun p hp => ((e1.trans e2).trans e3).none r3 hp) r3 (rr.cut _ _) hp⟩
    · exact q3.elim) fun _ _ _ => rfl
/-- a part of a tuple or of a list -/
def mSl (ma : EM) (ml mh' : PM) : EM := fun lo mh => (ma lo mh).bind fun v mh1 => (ml lo mh1).bind fun l mh2 => (mh' lo mh2).bind fun h mh3 => match v with
  | .d (.tuple ds) => .ok (.d (.tuple (cutP ds l h))) mh3
  | .scr ns => .ok (.d (.list (cutP (ns.map .int) l h))) mh3
  | _ => match listOf mh3 v with
    | some xs => frzL (cutP xs l h) mh3
    | none => .bad
theorem RDs.ints {K : PySem.W.Frag} {Z ρ : List Addr} {H : Hp} : ∀ ns : List Int, RDs K Z ρ H (ns.map .int) (ns.map V.int)
  | [] => .nil
  | n :: ns => .cons (.int n) (RDs.ints ns)
theorem cut_whole {α : Type} {xs : List α} {lo hi : Option Int} (h : HT.sIx xs.length 0 lo = 0 ∧ HT.sIx xs.length xs.length hi = xs.length) : cutP xs lo hi = xs := by
  unfold cutP; rw [h.1, h.2]; simp
def rSlF (K : PySem.W.Frag) : V → Option Int → Option Int → Hp → VK → Prop := fun x lo hi H Q => ∃ a xs, x = .ref a ∧ SqT K H a xs ∧
  (HT.sIx xs.length 0 lo = 0 ∧ HT.sIx xs.length xs.length hi = xs.length → Q (.ref a) H) ∧ (¬ (HT.sIx xs.length 0 lo = 0 ∧ HT.sIx xs.length xs.length hi = xs.length) → ∀ p o, IsT o → H p = none → Q (.ref p) (upd H p (.frz o (.tup (cutV xs lo hi)))))
theorem sl_tupF : SlR X (rSlF X.K) := by
  intro pins s σ H x v vl vu lo hi sl Q I rx hs pl pu ⟨a, xs, e1, hx, q1, q2⟩
  subst e1
  by_cases hw : HT.sIx xs.length 0 lo = 0 ∧ HT.sIx xs.length xs.length hi = xs.length
  · exact sl_tupA pins s σ H _ v vl vu lo hi sl Q I rx hs pl pu ⟨a, xs, rfl, hx, q1, fun h => absurd hw h⟩
  · cases rx
    obtain ⟨as, ra, pa, hz⟩ := I.tuple hx
    have hn : as.toArray.size = xs.length := by rw [List.size_toArray, ra.length]
    refine ⟨"tuple", _, PyProof.Rows.slot_tuple_getitem.lookup, pa.typeIs, HT.getItem_tuple_cut pa hs pl pu (by rw [hn]; exact hw) ?_ (by rw [hn]; exact hz)⟩
    rw [hn]
    exact laidF (k := s.toks) I ((ra.drop (HT.sIx xs.length 0 lo)).take (HT.sIx xs.length xs.length hi - HT.sIx xs.length 0 lo)) (Nat.le_trans (cutV_length xs lo hi) hz) (q2 hw)
theorem JE_sl (c : COk X) {lo hi : Option Expr} {p2 : Pos} {ma : EM} {ml mu : PM} (ha : JE X cls a ma) (hl : JO X cls lo ml) (hu : JO X cls hi mu) : JE X cls (.Subscript a (.Slice lo hi none p2) pos) (mSl ma ml mu) := fun E hx =>
  .of c ((pe_slice (SlR.or sl_tupF sl_list) (ha E hx).pe (hl E hx) (hu E hx)).imp fun σ H Q ⟨Z, ρ, lo, mh, s, p⟩ => by
    refine ⟨Z, ρ, lo, mh, s, (Post.bind p).imp ?_⟩
    intro v ρ1 mh1 H1 e1 r1 q x rx
    refine ⟨Z, ρ1, lo, mh1, s.to e1 r1, (Post.bind q).imp ?_⟩
    intro l ρ2 mh2 H2 e2 r2 q2 y ry
    subst ry
    refine ⟨Z, ρ2, lo, mh2, (s.to e1 r1).to e2 r2, (Post.bind q2).imp ?_⟩
    intro h ρ3 mh3 H3 e3 r3 q3 y ry
    subst ry
    have rx3 := (rx.mono e2).mono e3
    split at q3
    · rename_i ds
      cases rx3 with
      | d rx3 =>
        cases rx3 with
        | @tup a xs _ h1 rr =>
          refine .inl ⟨a, xs, rfl, h1.sq, fun hw => ?_, fun hw p o ho hp => ?_⟩
          · rw [← rr.length] at hw
            rw [cut_whole hw] at q3
            exact q3.now r3 _ (.d (.tup h1 rr))
          · exact (q3.later (Ext.new hp)).now (r3.new hp) _ (.d (.tup (tupS_new r3 ho hp _) ((rr.cut _ _).mono (Ext.new hp))))
    · rename_i ns
      cases rx3 with
      | @scr a _ h1 =>
        exact .inr ⟨a, _, rfl, h1.sq, fun p hp => (q3.later (Ext.new hp)).now (r3.new hp) _ (.d (.lst upd_same (r3.fz hp) (((RDs.ints ns).cut _ _).mono (Ext.new hp))))⟩
    · split at q3
      · rename_i xs e
        obtain ⟨a, ys, rfl, h1, rr⟩ := listOf_ok r3 rx3 e
        exact .inr ⟨a, ys, rfl, .of h1, fun p hp => new_frz r3 (rr.cut _ _) q3 hp⟩
      · exact q3.elim) fun _ _ _ => rfl
/-! ### built-in functions by values -/
abbrev OpN := List PV → Mh → Res PV
def CaV (X : Cx) (cls : Nat → Addr) (f : Value) (op : OpN) : Prop :=
  ∀ E, CallR X f fun xs H Q => ∃ Z ρ mh vs, RH X.K cls Z ρ mh H ∧ RVs X.K Z ρ H vs xs ∧ Post X.K cls E Z ρ H (op vs mh) fun w ρ' _ H' => ∀ z, RV X.K Z ρ' H' w z → Q z H'
theorem CallR_imp {f : Value} {r r' : List V → Hp → VK → Prop} (h : CallR X f r) (g : ∀ xs H Q, r' xs H Q → r xs H Q) : CallR X f r' := fun pins s σ H xs us Q I r q => h pins s σ H xs us Q I r (g _ _ _ q)
def altN (f g : OpN) : OpN := fun vs mh => match f vs mh with
  | .bad => g vs mh
  | r => r
theorem CaV.alt {f : Value} {o p : OpN} (h : CaV X cls f o) (h' : CaV X cls f p) : CaV X cls f (altN o p) := fun E =>
  CallR_imp (CallR.or (h E) (h' E)) fun xs H Q ⟨Z, ρ, mh, vs, rh, rv, q⟩ => by
    unfold altN at q
    cases k : o vs mh with
    | bad => rw [k] at q; exact .inr ⟨Z, ρ, mh, vs, rh, rv, q⟩
    | ok a m => rw [k] at q; exact .inl ⟨Z, ρ, mh, vs, rh, rv, by rw [k]; exact q⟩
    | exc a m => rw [k] at q; exact .inl ⟨Z, ρ, mh, vs, rh, rv, by rw [k]; exact q⟩
def mCB (op : OpN) (ma : AM) : EM := fun lo mh => (ma lo mh).bind op
theorem tE_CB {K : PySem.W.Frag} {E : XK} {op : OpN} {ma : AM} {σ : L2.St} {H : Hp} {Q : VK} (h : tE K cls E (mCB op ma) σ H Q) :
    tA K cls E ma σ H fun xs H1 => ∃ Z ρ mh vs, RH K cls Z ρ mh H1 ∧ RVs K Z ρ H1 vs xs ∧ Post K cls E Z ρ H1 (op vs mh) fun w ρ' _ H' => ∀ z, RV K Z ρ' H' w z → Q z H' := by
  obtain ⟨Z, ρ, lo, mh, s, p⟩ := h
  refine ⟨Z, ρ, lo, mh, s, (Post.bind p).imp ?_⟩
  intro v ρ1 mh1 H1 e r q x rx
  exact ⟨Z, ρ1, mh1, v, r, rx, q⟩
theorem JE_callB (c : COk X) {id : String} {op : OpN} {x : Str} {p : Pos} {m : AM} (hc : CaV X cls (.builtin id) op) (hg : Gl X x) (hm : X.mg x = none) (hv : bootBuiltins x = some (.builtin id)) (ha : JA X cls (e :: es) m) (hn : x ≠ "__name__") (hdb : (x == ("__debug__" : Str)) = false)
    (he : starEach (e :: es) X.env = (false, eval e X.env) :: starEach es X.env) (hpl : (backTo pos (starEach es X.env)).any (·.1) = false) : JE X cls (.Call (.Name x p) (e :: es) [] pos) (mCB op m) := fun E hx =>
  .of c ((pe_callB (hc E) hg hm hv (ha E hx) hn hdb he hpl).imp fun σ H Q h => tE_CB h) fun _ _ _ => rfl
theorem JE_callTy (c : COk X) {T : String} {op : OpN} {x : Str} {p : Pos} {m : AM} (hc : CaV X cls (.type T) op) (hg : Gl X x) (hm : X.mg x = none) (hv : bootBuiltins x = some (.type T)) (ha : JA X cls (e :: es) m) (hn : x ≠ "__name__") (hdb : (x == ("__debug__" : Str)) = false)
    (he : starEach (e :: es) X.env = (false, eval e X.env) :: starEach es X.env) (hpl : (backTo pos (starEach es X.env)).any (·.1) = false) : JE X cls (.Call (.Name x p) (e :: es) [] pos) (mCB op m) := fun E hx =>
  .of c ((pe_callTy (hc E) hg hm hv (ha E hx) hn hdb he hpl).imp fun σ H Q h => tE_CB h) fun _ _ _ => rfl
/-- len -/
def nLen : OpN := fun vs mh => match vs with
  | [v] => match seqOf mh v with
    | some l => .ok (.d (.int l.length)) mh
    | none => match v with
      | .d (.str z) => if z.length ≤ sizeLine then .ok (.d (.int z.length)) mh else .bad
      | _ => .bad
  | _ => .bad
theorem cLen : CaV X cls (.builtin "len") nLen := fun E => CallR_imp (CallR.or call_len_seq call_len_str) fun xs H Q ⟨Z, ρ, mh, vs, rh, rv, q⟩ => by
  unfold nLen at q
  split at q
  · rename_i v
    cases rv with
    | cons rv rn =>
      cases rn
      split at q
      · rename_i l e
        obtain ⟨a, ys, rfl, h1, r1⟩ := seqOf_ok rh rv e
        rw [r1.length] at q
        exact .inl ⟨a, ys, rfl, seq_sq h1, q.now rh _ (.d (.int _))⟩
      · split at q
        · rename_i z _
          cases rv with
          | d rv =>
            cases rv
            split at q
            · rename_i hl
              exact .inr ⟨z, rfl, hl, q.now rh _ (.d (.int _))⟩
            · exact q.elim
        · exact q.elim
  · exact q.elim
/-- int(i), abs(i) -/
def nInt : OpN := fun vs mh => match vs with
  | [.d (.int i)] => .ok (.d (.int i)) mh
  | [.d (.bool b)] => .ok (.d (.int (if b then 1 else 0))) mh
  | _ => .bad
theorem cInt : CaV X cls (.type "int") nInt := fun E => CallR_imp call_int1 fun xs H Q ⟨Z, ρ, mh, vs, rh, rv, q⟩ => by
  unfold nInt at q
  split at q
  · rename_i i
    cases rv with
    | cons rv rn =>
      cases rn
      cases rv with
      | d rv => cases rv; exact .inl ⟨i, rfl, q.now rh _ (.d (.int _))⟩
  · rename_i i
    cases rv with
    | cons rv rn =>
      cases rn
      cases rv with
      | d rv => cases rv; exact .inr ⟨i, rfl, q.now rh _ (.d (.int _))⟩
  · exact q.elim
def nAbs : OpN := fun vs mh => match vs with
  | [.d (.int i)] => .ok (.d (.int (if i < 0 then -i else i))) mh
  | _ => .bad
theorem cAbs : CaV X cls (.builtin "abs") nAbs := fun E => CallR_imp call_abs fun xs H Q ⟨Z, ρ, mh, vs, rh, rv, q⟩ => by
  unfold nAbs at q
  split at q
  · rename_i i
    cases rv with
    | cons rv rn =>
      cases rn
      cases rv with
      | d rv => cases rv; exact ⟨i, rfl, q.now rh _ (.d (.int _))⟩
  · exact q.elim
def nMax2 : OpN := fun vs mh => match vs with
  | [.d (.int i), .d (.int j)] => .ok (.d (.int (if j > i then j else i))) mh
  | _ => .bad
def nMin2 : OpN := fun vs mh => match vs with
  | [.d (.int i), .d (.int j)] => .ok (.d (.int (if j < i then j else i))) mh
  | _ => .bad
theorem cMax2 (c : COk X) : CaV X cls (.builtin "max") nMax2 := fun E => CallR_imp (call_max2 c.calm) fun xs H Q ⟨Z, ρ, mh, vs, rh, rv, q⟩ => by
  unfold nMax2 at q
  split at q
  · rename_i i j
    cases rv with
    | cons rv rn =>
      cases rn with
      | cons ru rn =>
        cases rn
        cases rv with
        | d rv =>
          cases rv
          cases ru with
          | d ru => cases ru; exact ⟨i, j, rfl, q.now rh _ (.d (.int _))⟩
  · exact q.elim
theorem cMin2 (c : COk X) : CaV X cls (.builtin "min") nMin2 := fun E => CallR_imp (call_min2 c.calm) fun xs H Q ⟨Z, ρ, mh, vs, rh, rv, q⟩ => by
  unfold nMin2 at q
  split at q
  · rename_i i j
    cases rv with
    | cons rv rn =>
      cases rn with
      | cons ru rn =>
        cases rn
        cases rv with
        | d rv =>
          cases rv
          cases ru with
          | d ru => cases ru; exact ⟨i, j, rfl, q.now rh _ (.d (.int _))⟩
  · exact q.elim
/-- tuple(xs) -/
def mkTup (l : List PV) : PV := match allD l with
  | some ds => .d (.tuple ds)
  | none => .tup l
theorem mkTup_ok {K : PySem.W.Frag} {Z ρ : List Addr} {H : Hp} {l : List PV} {xs : List V} {a : Addr} (h : TupS K Z ρ H a xs) (r : RVs K Z ρ H l xs) : RV K Z ρ H (mkTup l) (.ref a) := by
  unfold mkTup
  cases k : allD l with
  | none => exact .tup h.at r
  | some ds => have := allD_ok k; subst this; exact .d (.tup h r.toD)
def nTuple : OpN := fun vs mh => match vs with
  | [v] => match listOf mh v with
    | some l => .ok (mkTup l) mh
    | none => match v with
      | .d (.tuple ds) => .ok (.d (.tuple ds)) mh
      | _ => .bad
  | _ => .bad
theorem call_tupleF : CallR X (.type "tuple") (fun xs H Q => ∃ p ys, xs = [.ref p] ∧ ((SqL X.K H p ys ∧ ∀ l o, IsT o → H l = none → Q (.ref l) (upd H l (.frz o (.tup ys)))) ∨ (SqT X.K H p ys ∧ Q (.ref p) H))) := by
  intro pins s σ H xs us Q I r ⟨p, ys, e1, h⟩
  rcases h with ⟨hq, q⟩ | hq
  · subst e1
    cases r with
    | cons rx rn =>
      cases rn
      cases rx
      obtain ⟨as, ra, pa, hz⟩ := I.list hq
      have hn := ra.length
      refine call_tuple_list pa.isList (fun h' kp => ?_) (by simp only [List.size_toArray] <;> omega)
      have I1 : L2.Inv X pins σ H { s with heap := h' } := I.kept (t' := s.toks) kp
      exact laidF (k := s.toks) I1 ra hz q
  · exact call_tuple_of pins s σ H xs us Q I r ⟨p, ys, e1, .inr hq⟩
theorem cTuple : CaV X cls (.type "tuple") nTuple := fun E => CallR_imp call_tupleF fun xs H Q ⟨Z, ρ, mh, vs, rh, rv, q⟩ => by
  unfold nTuple at q
  split at q
  · rename_i v
    cases rv with
    | cons rv rn =>
      cases rn
      split at q
      · rename_i l e
        obtain ⟨a, ys, rfl, h1, r1⟩ := listOf_ok rh rv e
        refine ⟨a, ys, rfl, .inl ⟨.of h1, fun p o ho hp => ?_⟩⟩
        exact (q.later (Ext.new hp)).now (rh.new hp) _ (mkTup_ok (tupS_new rh ho hp _) (r1.mono (Ext.new hp)))
      · split at q
        · rename_i ds
          cases rv with
          | d rv =>
            cases rv with
            | @tup a ys _ h1 r1 => exact ⟨a, ys, rfl, .inr ⟨h1.sq, q.now rh _ (.d (.tup h1 r1))⟩⟩
        · exact q.elim
  · exact q.elim
/-- list(xs): a new list -/
def lList (ma : EM) : AM := fun lo mh => (ma lo mh).bind fun v mh1 => match seqOf mh1 v with
  | some l => .ok l mh1
  | none => .bad
theorem JL_list (c : COk X) {x : Str} {p : Pos} {ma : EM} (hg : Gl X x) (hm : X.mg x = none) (hv : bootBuiltins x = some (.type "list")) (ha : JE X cls a ma) (hn : x ≠ "__name__") (hdb : (x == ("__debug__" : Str)) = false)
    (he : starEach [a] X.env = (false, eval a X.env) :: starEach [] X.env) (hpl : (backTo pos (starEach [] X.env)).any (·.1) = false) : JL X cls (.Call (.Name x p) [a] [] pos) (lList ma) := fun E hx =>
  .of c ((pe_callTy call_list_of hg hm hv (pa_cons (ha E hx).pe pa_nil he) hn hdb he hpl).imp fun σ H Q ⟨Z, ρ, lo, mh, s, p⟩ => by
    refine ⟨Z, ρ, lo, mh, s, (Post.bind p).imp ?_⟩
    intro v ρ1 mh1 H1 e1 r1 q x rx
    split at q
    · rename_i l e
      obtain ⟨a, ys, rfl, h1, rr⟩ := seqOf_ok r1 rx e
      exact ⟨a, ys, rfl, seq_sq h1, fun p hp => KL.new q (fun p hp => e1.none r1 hp) r1 rr hp⟩
    · exact q.elim) fun _ _ _ => rfl
/-- all, any of a list of truth values -/
def allB : List PV → Option (List Bool)
  | [] => some []
  | .d (.bool b) :: r => (allB r).map (b :: ·)
  | _ :: _ => none
@[simp] theorem allB_nil : allB [] = some [] := rfl
@[simp] theorem allB_cons (b : Bool) (r : List PV) : allB (.d (.bool b) :: r) = (allB r).map (b :: ·) := rfl
@[simp] theorem allB_map (l : List Bool) : allB (l.map fun b => .d (.bool b)) = some l := by
  induction l with
  | nil => rfl
  | cons x r ih => simp [ih]
theorem allB_ok : ∀ {l : List PV} {bs : List Bool}, allB l = some bs → ∀ {K : PySem.W.Frag} {Z ρ : List Addr} {H : Hp} {xs : List V}, RVs K Z ρ H l xs → xs = bs.map V.bl
  | [], _, h, _, _, _, _, _, r => by simp [allB] at h; subst h; cases r; rfl
  | .d (.bool b) :: l, _, h, _, _, _, _, _, r => by
    simp [allB] at h
    obtain ⟨t, h1, rfl⟩ := h
    cases r with
    | cons r rr =>
      cases r with
      | d r => cases r; rw [allB_ok h1 rr]; rfl
  | .d .none :: _, _, h, _, _, _, _, _, _ => by simp [allB] at h
  | .d (.int _) :: _, _, h, _, _, _, _, _, _ => by simp [allB] at h
  | .d (.str _) :: _, _, h, _, _, _, _, _, _ => by simp [allB] at h
  | .d (.list _) :: _, _, h, _, _, _, _, _, _ => by simp [allB] at h
  | .d (.tuple _) :: _, _, h, _, _, _, _, _, _ => by simp [allB] at h
  | .d (.dict _) :: _, _, h, _, _, _, _, _, _ => by simp [allB] at h
  | .dct _ :: _, _, h, _, _, _, _, _, _ => by simp [allB] at h
  | .scr _ :: _, _, h, _, _, _, _, _, _ => by simp [allB] at h
  | .ref _ :: _, _, h, _, _, _, _, _, _ => by simp [allB] at h
  | .tup _ :: _, _, h, _, _, _, _, _, _ => by simp [allB] at h
def nBools (g : List Bool → Bool) : OpN := fun vs mh => match vs with
  | [v] => match (listOf mh v).bind allB with
    | some bs => .ok (.d (.bool (g bs))) mh
    | none => .bad
  | _ => .bad
theorem nBools_ok {f : Value} {g : List Bool → Bool} (h : CallR X f fun vs H Q => ∃ (a : Addr) (bs : List Bool), vs = [V.ref a] ∧ SqL X.K H a (bs.map V.bl) ∧ Q (.bl (g bs)) H) : CaV X cls f (nBools g) := fun E => CallR_imp h fun xs H Q ⟨Z, ρ, mh, vs, rh, rv, q⟩ => by
  unfold nBools at q
  split at q
  · rename_i v
    cases rv with
    | cons rv rn =>
      cases rn
      cases e : listOf mh v with
      | none => rw [e] at q; exact q.elim
      | some l =>
        rw [e] at q
        obtain ⟨a, ys, rfl, h1, r1⟩ := listOf_ok rh rv e
        cases e2 : allB l with
        | none => simp only [Option.bind_some, e2] at q; exact q.elim
        | some bs =>
          simp only [Option.bind_some, e2] at q
          have := allB_ok e2 r1; subst this
          exact ⟨a, bs, rfl, .of h1, q.now rh _ (.d (.bl _))⟩
  · exact q.elim
theorem cAll (c : COk X) : CaV X cls (.builtin "all") (nBools (·.all id)) := nBools_ok (cr_all c.calm)
theorem cAny (c : COk X) : CaV X cls (.builtin "any") (nBools (·.any id)) := nBools_ok (cr_any c.calm)
end
end EL


set_option Elab.async false
set_option linter.all false
set_option maxRecDepth 100000
set_option maxHeartbeats 4000000
/-! EL: what is walked, targets, comprehensions. -/
namespace EL
open PySem L2

/-! ### targets -/
inductive Tg where
  | nm (i : Nat)
  | tp (l : List Tg)
mutual
def tgt : Tg → PV → Option (List (Nat × PV))
  | .nm i, v => some [(i, v)]
  | .tp l, v => match tupOf v with
    | some xs => tgts l xs
    | none => none
def tgts : List Tg → List PV → Option (List (Nat × PV))
  | [], [] => some []
  | t :: ts, x :: xs => match tgt t x with
    | some a => match tgts ts xs with
      | some b => some (a ++ b)
      | none => none
    | none => none
  | _, _ => none
end
mutual
def slotsT : Tg → List Nat
  | .nm i => [i]
  | .tp l => slotsTs l
def slotsTs : List Tg → List Nat
  | [] => []
  | t :: ts => slotsT t ++ slotsTs ts
end
def upL (lo : Lo) : List (Nat × PV) → Lo
  | [] => lo
  | (i, v) :: r => upL (lo.set i (some v)) r
def upS (σ : L2.St) : List (Nat × V) → L2.St
  | [] => σ
  | (i, v) :: r => upS (σ.set i (some v)) r
inductive RU (K : PySem.W.Frag) (Z ρ : List Addr) (H : Hp) : List (Nat × PV) → List (Nat × V) → Prop
  | nil : RU K Z ρ H [] []
  | cons {i : Nat} {x : PV} {v : V} {r : List (Nat × PV)} {vs : List (Nat × V)} : RV K Z ρ H x v → RU K Z ρ H r vs → RU K Z ρ H ((i, x) :: r) ((i, v) :: vs)
section
variable {K : PySem.W.Frag} {cls : Nat → Addr} {Z ρ : List Addr} {H : Hp} {mh : Mh}
theorem RU.append : ∀ {x y : List (Nat × PV)} {v w : List (Nat × V)}, RU K Z ρ H x v → RU K Z ρ H y w → RU K Z ρ H (x ++ y) (v ++ w)
  | _, _, _, _, .nil, s => s
  | _, _, _, _, .cons h r, s => .cons h (RU.append r s)
theorem upL_append (lo : Lo) : ∀ a b : List (Nat × PV), upL lo (a ++ b) = upL (upL lo a) b
  | [], _ => rfl
  | (i, v) :: a, b => upL_append _ a b
theorem upS_append (σ : L2.St) : ∀ a b : List (Nat × V), upS σ (a ++ b) = upS (upS σ a) b
  | [], _ => rfl
  | (i, v) :: a, b => upS_append _ a b
theorem RS.ups' {us : List (Nat × PV)} {ws : List (Nat × V)} (r : RU K Z ρ H us ws) : ∀ (lo : Lo) (σ : L2.St), RS K cls Z ρ lo mh σ H → RS K cls Z ρ (upL lo us) mh (upS σ ws) H := by
  induction r with
  | nil => exact fun _ _ s => s
  | cons h r ih => exact fun lo σ s => ih _ _ (s.set h)
theorem RS.ups {lo : Lo} {σ : L2.St} {us : List (Nat × PV)} {ws : List (Nat × V)} (s : RS K cls Z ρ lo mh σ H) (r : RU K Z ρ H us ws) : RS K cls Z ρ (upL lo us) mh (upS σ ws) H := RS.ups' r lo σ s
mutual
theorem tgt_slots : ∀ (t : Tg) (v : PV) (us : List (Nat × PV)), tgt t v = some us → us.map (·.1) = slotsT t
  | .nm i, v, us, h => by simp only [tgt, Option.some.injEq] at h; subst h; rfl
  | .tp l, v, us, h => by
    simp only [tgt] at h
    split at h
    · exact tgts_slots l _ us h
    · cases h
theorem tgts_slots : ∀ (t : List Tg) (v : List PV) (us : List (Nat × PV)), tgts t v = some us → us.map (·.1) = slotsTs t
  | [], [], us, h => by simp only [tgts, Option.some.injEq] at h; subst h; rfl
  | [], _ :: _, us, h => by simp [tgts] at h
  | _ :: _, [], us, h => by simp [tgts] at h
  | t :: ts, x :: xs, us, h => by
    simp only [tgts] at h
    split at h
    · rename_i a ha
      split at h
      · rename_i b hb
        cases h
        rw [List.map_append, tgt_slots t x a ha, tgts_slots ts xs b hb]; rfl
      · cases h
    · cases h
end
end
/-- the reading of a target -/
def tgM (K : PySem.W.Frag) (cls : Nat → Addr) (t : Tg) : TG := fun v σ H Q => ∃ Z ρ mh pv us, RH K cls Z ρ mh H ∧ RV K Z ρ H pv v ∧ tgt t pv = some us ∧ ∀ ws, RU K Z ρ H us ws → Q (upS σ ws) H
def tgsM (K : PySem.W.Frag) (cls : Nat → Addr) (t : List Tg) : TGs := fun v σ H Q => ∃ Z ρ mh pv us, RH K cls Z ρ mh H ∧ RVs K Z ρ H pv v ∧ tgts t pv = some us ∧ ∀ ws, RU K Z ρ H us ws → Q (upS σ ws) H
def JG (X : Cx) (cls : Nat → Addr) (e : Expr) (t : Tg) : Prop := PG X e (tgM X.K cls t)
def JGs (X : Cx) (cls : Nat → Addr) (e : List Expr) (t : List Tg) : Prop := PGs X e (tgsM X.K cls t)
section
variable {X : Cx} {cls : Nat → Addr} {e : Expr} {es : List Expr} {pos : Pos}
theorem PG_imp {t t' : TG} (h : PG X e t) (f : ∀ v σ H Q, t' v σ H Q → t v σ H Q) : PG X e t' := ⟨fun pins s σ H v u Q I r q => h.run pins s σ H v u Q I r (f _ _ _ _ q)⟩
theorem PGs_imp {t t' : TGs} (h : PGs X es t) (f : ∀ v σ H Q, t' v σ H Q → t v σ H Q) : PGs X es t' := ⟨fun pins s σ H v u Q I r q => h.run pins s σ H v u Q I r (f _ _ _ _ q)⟩
theorem JG_name (c : COk X) {i : Nat} {x : Str} (hi : X.N[i]? = some x) (hx : Loc X.env.scope x) (hf : X.fn x = true ∨ X.env.scope.names.lookup x = some .local) : JG X cls (.Name x pos) (.nm i) := PG_imp (pg_name c.nd hi hx hf) fun v σ H Q ⟨Z, ρ, mh, pv, us, rh, rv, ht, q⟩ => by
  simp only [tgt, Option.some.injEq] at ht; subst ht
  exact q [(i, v)] (.cons rv .nil)
theorem JGs_nil : JGs X cls [] [] := PGs_imp pgs_nil fun v σ H Q ⟨Z, ρ, mh, pv, us, rh, rv, ht, q⟩ => by
  cases rv with
  | nil => simp only [tgts, Option.some.injEq] at ht; subst ht; exact ⟨rfl, q [] .nil⟩
  | cons _ _ => simp [tgts] at ht
theorem JGs_cons {t : Tg} {ts : List Tg} (h1 : JG X cls e t) (h2 : JGs X cls es ts) (hs : (assignEach (e :: es) X.env).map (·.2) = assign e X.env :: (assignEach es X.env).map (·.2)) : JGs X cls (e :: es) (t :: ts) := PGs_imp (pgs_cons h1 h2 hs) fun v σ H Q ⟨Z, ρ, mh, pv, us, rh, rv, ht, q⟩ => by
  cases rv with
  | nil => simp [tgts] at ht
  | @cons x y xs ys r rr =>
    simp only [tgts] at ht
    split at ht
    · rename_i a ha
      split at ht
      · rename_i b hb
        cases ht
        refine ⟨y, ys, rfl, Z, ρ, mh, x, a, rh, r, ha, fun wa ra => ⟨Z, ρ, mh, xs, b, rh, rr, hb, fun wb rb => ?_⟩⟩
        have := q (wa ++ wb) (ra.append rb)
        rwa [upS_append] at this
      · cases ht
    · cases ht
theorem tgts_len : ∀ {t : List Tg} {v : List PV} {us : List (Nat × PV)}, tgts t v = some us → v.length = t.length
  | [], [], _, _ => rfl
  | [], _ :: _, _, h => by simp [tgts] at h
  | _ :: _, [], _, h => by simp [tgts] at h
  | t :: ts, x :: xs, us, h => by
    simp only [tgts] at h
    split at h
    · split at h
      · rename_i b hb
        simp [tgts_len hb]
      · cases h
    · cases h
theorem JG_tup (c : COk X) {k : Nat} {ts : List Tg} (h : JGs X cls es ts) (hn : (assignEach es X.env).length = ts.length) (hst : (assignEach es X.env).findIdx? (·.1) = none) : JG X cls (.Tuple es k pos) (.tp ts) := PG_imp (pg_tup c.calm h hn hst) fun v σ H Q ⟨Z, ρ, mh, pv, us, rh, rv, ht, q⟩ => by
  simp only [tgt] at ht
  split at ht
  · rename_i l hl
    obtain ⟨a, xs, rfl, h1, r1⟩ := tupOf_ok rv hl
    exact ⟨a, xs, rfl, h1.sq, by rw [← r1.length]; exact tgts_len ht, Z, ρ, mh, l, us, rh, r1, ht, q⟩
  · cases ht
end
/-! ### what is walked -/
/-- the iterator J gives the items l, as long as g holds -/
def ItOk (K : PySem.W.Frag) (cls : Nat → Addr) (Z ρ0 : List Addr) (H0 : Hp) (J : It) (l : List PV) (g : Mh → Prop) : Prop :=
  ∀ (i : Nat) (Z' ρ' : List Addr) (mh' : Mh) (H' : Hp), (∀ z ∈ Z', z ∈ Z ∨ H0 z = none) → Ext ρ0 H0 ρ' H' → RH K cls Z' ρ' mh' H' → g mh' →
    (l.length ≤ i → J.stop i H') ∧ ∀ v, l[i]? = some v → J.go i H' ∧ ∀ x H'', J.yld i H' x H'' → Ext ρ' H' ρ' H'' ∧ RH K cls Z' ρ' mh' H'' ∧ (∀ z ∈ Z', H'' z = H' z) ∧ RV K Z' ρ' H'' v x
abbrev IM := Lo → Mh → Res (List PV × (Mh → Prop))
def tI (K : PySem.W.Frag) (cls : Nat → Addr) (E : XK) (m : IM) : TI := fun σ H R => ∃ Z ρ lo mh, RS K cls Z ρ lo mh σ H ∧ Post K cls E Z ρ H (m lo mh) fun lg ρ' mh' H' => lg.2 mh' ∧ ∀ J, ItOk K cls Z ρ' H' J lg.1 lg.2 → R J H'
def JI (X : Cx) (cls : Nat → Addr) (tg iter : Expr) (m : IM) : Prop := ∀ E, Passes (L2.CX X.prog X.w) X E → PI X tg iter (tI X.K cls E m)
section
variable {X : Cx} {cls : Nat → Addr} {tg e : Expr} {es : List Expr} {pos : Pos}
theorem PI_imp {w w' : TI} (h : PI X tg e w) (f : ∀ σ H R, w' σ H R → w σ H R) : PI X tg e w' := ⟨fun pins s σ H R I q => h.run pins s σ H R I (f _ _ _ q)⟩
theorem PI_or {w w' : TI} (h : PI X tg e w) (h' : PI X tg e w') : PI X tg e fun σ H R => w σ H R ∨ w' σ H R := ⟨fun pins s σ H R I q => q.elim (h.run pins s σ H R I) (h'.run pins s σ H R I)⟩
def always : Mh → Prop := fun _ => True
/-- what stands still -/
theorem Sh.later {Z Z' ρ0 ρ' : List Addr} {H0 H' : Hp} (e : Ext ρ0 H0 ρ' H') (hz : ∀ z ∈ Z', z ∈ Z ∨ H0 z = none) : Sh Z ρ0 H0 Z' ρ' H' :=
  ⟨fun a o h z => ⟨e.keep a o h z.2, (fun m => (hz a m).elim z.1 (fun q => by rw [q] at h; cases h)), e.out h z.2⟩, fun n a h => e.at h⟩
theorem itok_list {K : PySem.W.Frag} {Z ρ : List Addr} {H : Hp} {a : Addr} {xs : List V} {l : List PV} (h : H a = some (.lst xs)) (n : a ∉ ρ) (r : RVs K Z ρ H l xs) : ItOk K cls Z ρ H (Itl K a) l always := fun i Z' ρ' mh' H' hz e rh _ => by
  have h' := e.keep a _ h n
  have r' := r.sh (Sh.later e hz)
  refine ⟨fun hl => ⟨xs, .of h', by rw [← r.length]; exact hl⟩, fun v hv => ?_⟩
  obtain ⟨x, hx, rx⟩ := r'.get hv
  refine ⟨⟨xs, x, .of h', hx⟩, fun y H'' ⟨q1, q2⟩ => ?_⟩
  subst q1
  have := q2 xs (.of h')
  rw [hx] at this; cases this
  exact ⟨Ext.refl _ _, rh, fun _ _ => rfl, rx⟩
theorem itok_ref {K : PySem.W.Frag} {Z ρ : List Addr} {H : Hp} {n : Nat} {a : Addr} {l : List PV} (ha : ρ[n]? = some a) : ItOk K cls Z ρ H (Itl K a) l fun mh => mh[n]? = some (.lst l) := fun i Z' ρ' mh' H' hz e rh hg => by
  have ha' := e.at ha
  cases rh.objs n _ a hg ha' with
  | @lst _ xs _ h' r' =>
    refine ⟨fun hl => ⟨xs, .of h', by rw [← r'.length]; exact hl⟩, fun v hv => ?_⟩
    obtain ⟨x, hx, rx⟩ := r'.get hv
    refine ⟨⟨xs, x, .of h', hx⟩, fun y H'' ⟨q1, q2⟩ => ?_⟩
    subst q1
    have := q2 xs (.of h')
    rw [hx] at this; cases this
    exact ⟨Ext.refl _ _, rh, fun _ _ => rfl, rx⟩
theorem itok_tup {K : PySem.W.Frag} {Z ρ : List Addr} {H : Hp} {a : Addr} {xs : List V} {l : List PV} (h : TupAt K Z ρ H a xs) (r : RVs K Z ρ H l xs) : ItOk K cls Z ρ H (Itt K a) l always := fun i Z' ρ' mh' H' hz e rh _ => by
  have h' : SqT K H' a xs := (h.sh (Sh.later e hz)).sq
  have r' := r.sh (Sh.later e hz)
  refine ⟨fun hl => ⟨xs, h', by rw [← r.length]; exact hl⟩, fun v hv => ?_⟩
  obtain ⟨x, hx, rx⟩ := r'.get hv
  refine ⟨⟨xs, x, h', hx⟩, fun y H'' ⟨q1, q2⟩ => ?_⟩
  subst q1
  have := q2 xs h'
  rw [hx] at this; cases this
  exact ⟨Ext.refl _ _, rh, fun _ _ => rfl, rx⟩
/-- the signs of a text -/
def signs (z : Str) : List PV := z.cps.toList.map fun c => .d (.str ⟨#[c]⟩)
theorem itok_str {K : PySem.W.Frag} {Z ρ : List Addr} {H : Hp} (z : Str) : ItOk K cls Z ρ H (Its z) (signs z) always := fun i Z' ρ' mh' H' hz e rh _ => by
  refine ⟨fun hl => by show z.cps.size ≤ i; simpa [signs] using hl, fun v hv => ?_⟩
  have hv' : z.cps[i]?.map (fun c => PV.d (.str ⟨#[c]⟩)) = some v := by simpa [signs] using hv
  cases hc : z.cps[i]? with
  | none => rw [hc] at hv'; cases hv'
  | some c =>
    rw [hc] at hv'; cases hv'
    refine ⟨(Array.getElem?_eq_some_iff.mp hc).1, fun x H'' ⟨q1, c', q2, q3⟩ => ?_⟩
    subst q1
    rw [hc] at q2; cases q2
    subst q3
    exact ⟨Ext.refl _ _, rh, fun _ _ => rfl, .d (.str _)⟩
/-- a list, a tuple, a text -/
def iSeq (ma : EM) : IM := fun lo mh => (ma lo mh).bind fun v mh1 => match v with
  | .d (.list ds) => .ok (ds.map .d, always) mh1
  | .d (.tuple ds) => .ok (ds.map .d, always) mh1
  | .tup l => .ok (l, always) mh1
  | .ref n => match mh1[n]? with
    | some (.lst l) => .ok (l, fun mh => mh[n]? = some (.lst l)) mh1
    | _ => .bad
  | .d (.str z) => .ok (signs z, always) mh1
  | _ => .bad
theorem JI_seq {ma : EM} (ha : JE X cls e ma) : JI X cls tg e (iSeq ma) := fun E hx =>
  PI_imp (PI_or (pi_list (ha E hx).pe) (PI_or (pi_tup (ha E hx).pe) (pi_str (ha E hx).pe))) fun σ H R ⟨Z, ρ, lo, mh, s, p⟩ => by
    unfold iSeq at p
    cases k : ma lo mh with
    | bad => rw [k] at p; exact p.elim
    | exc c m => rw [k] at p; exact .inl ⟨Z, ρ, lo, mh, s, by rw [k]; exact p⟩
    | ok v mh1 =>
      rw [k] at p
      simp only [Res.bind_ok] at p
      cases v with
      | dct _ => exact p.elim
      | scr _ => exact p.elim
      | tup l =>
        refine .inr (.inl ⟨Z, ρ, lo, mh, s, ?_⟩)
        rw [k]
        intro ρ' H' e r x rx
        cases rx with
        | tup h1 r1 => exact ⟨_, rfl, ⟨_, h1.sq⟩, (p ρ' H' e r).2 _ (itok_tup h1 r1)⟩
      | ref n =>
        dsimp only at p
        split at p
        · rename_i l hl
          refine .inl ⟨Z, ρ, lo, mh, s, ?_⟩
          rw [k]
          intro ρ' H' e r x rx
          cases rx with
          | @ref _ a ha =>
            cases r.objs n _ a hl ha with
            | lst h1 r1 => exact ⟨a, rfl, ⟨_, .of h1⟩, (p ρ' H' e r).2 _ (itok_ref ha)⟩
        · exact p.elim
      | d y =>
        cases y with
        | list ds =>
          refine .inl ⟨Z, ρ, lo, mh, s, ?_⟩
          rw [k]
          intro ρ' H' e r x rx
          cases rx with
          | d rx => cases rx with
            | lst h1 z1 r1 => exact ⟨_, rfl, ⟨_, .of h1⟩, (p ρ' H' e r).2 _ (itok_list h1 z1.2 (.ofD r1))⟩
        | tuple ds =>
          refine .inr (.inl ⟨Z, ρ, lo, mh, s, ?_⟩)
          rw [k]
          intro ρ' H' e r x rx
          cases rx with
          | d rx => cases rx with
            | tup h1 r1 => exact ⟨_, rfl, ⟨_, h1.sq⟩, (p ρ' H' e r).2 _ (itok_tup h1.at (.ofD r1))⟩
        | str z =>
          refine .inr (.inr ⟨Z, ρ, lo, mh, s, ?_⟩)
          rw [k]
          intro ρ' H' e r x rx
          cases rx with
          | d rx => cases rx; exact ⟨z, rfl, (p ρ' H' e r).2 _ (itok_str z)⟩
        | none => exact p.elim
        | bool _ => exact p.elim
        | int _ => exact p.elim
        | dict _ => exact p.elim
/-- range(n), range(i, j) -/
def intsP (lo : Int) (n : Nat) : List PV := (List.range n).map fun (i : Nat) => .d (.int (lo + i))
theorem itok_range {K : PySem.W.Frag} {Z ρ : List Addr} {H : Hp} (lo : Int) (n : Nat) : ItOk K cls Z ρ H (Itr lo n) (intsP lo n) always := fun i Z' ρ' mh' H' hz e rh _ => by
  refine ⟨fun hl => by show n ≤ i; simpa [intsP] using hl, fun v hv => ?_⟩
  have hi : i < n := by
    have := (List.getElem?_eq_some_iff.mp hv).1
    simpa [intsP] using this
  have hv' : v = .d (.int (lo + i)) := by
    simp only [intsP, List.getElem?_map, List.getElem?_range hi, Option.map_some, Option.some.injEq] at hv
    exact hv.symm
  subst hv'
  refine ⟨hi, fun x H'' ⟨q1, q2⟩ => ?_⟩
  subst q1 q2
  exact ⟨Ext.refl _ _, rh, fun _ _ => rfl, .d (.int _)⟩
def big (i : Int) : Prop := -(2 ^ 62) ≤ i ∧ i < 2 ^ 62
instance (i : Int) : Decidable (big i) := by unfold big; infer_instance
def iRg1 (ma : AM) : IM := fun lo mh => (ma lo mh).bind fun vs mh1 => match vs with
  | [.d (.int j)] => if big j then .ok (intsP 0 j.toNat, always) mh1 else .bad
  | _ => .bad
def iRg2 (ma : AM) : IM := fun lo mh => (ma lo mh).bind fun vs mh1 => match vs with
  | [.d (.int i), .d (.int j)] => if big i ∧ big j then .ok (intsP i (j - i).toNat, always) mh1 else .bad
  | _ => .bad
theorem JI_rg1 {a : Expr} {m : AM} {p : Pos} (hg : Gl X "range") (hm : X.mg "range" = none) (ha : JA X cls [a] m) (hs : starEach [a] X.env = [(false, eval a X.env)] := by rfl) : JI X cls tg (.Call (.Name "range" p) [a] [] pos) (iRg1 m) := fun E hx =>
  PI_imp (pi_range1 hg hm (ha E hx) hs) fun σ H R ⟨Z, ρ, lo, mh, s, p⟩ => by
    refine ⟨Z, ρ, lo, mh, s, (Post.bind p).imp ?_⟩
    intro vs ρ1 mh1 H1 e r q x rx
    split at q
    · rename_i j
      split at q
      · rename_i hb
        cases rx with
        | cons r1 r2 =>
          cases r2
          cases r1 with
          | d r1 => cases r1; exact ⟨j, rfl, hb.1, hb.2, (q.now r).2 _ (itok_range 0 _)⟩
      · exact q.elim
    · exact q.elim
theorem JI_rg2 {a b : Expr} {m : AM} {p : Pos} (hg : Gl X "range") (hm : X.mg "range" = none) (ha : JA X cls [a, b] m) (hs : starEach [a, b] X.env = [(false, eval a X.env), (false, eval b X.env)] := by rfl) (hs2 : starEach [b] X.env = [(false, eval b X.env)] := by rfl) : JI X cls tg (.Call (.Name "range" p) [a, b] [] pos) (iRg2 m) := fun E hx =>
  PI_imp (pi_range2 hg hm (ha E hx) hs hs2) fun σ H R ⟨Z, ρ, lo, mh, s, p⟩ => by
    refine ⟨Z, ρ, lo, mh, s, (Post.bind p).imp ?_⟩
    intro vs ρ1 mh1 H1 e r q x rx
    split at q
    · rename_i i j
      split at q
      · rename_i hb
        cases rx with
        | cons r1 r2 =>
          cases r2 with
          | cons r2 r3 =>
            cases r3
            cases r1 with
            | d r1 =>
              cases r1
              cases r2 with
              | d r2 => cases r2; exact ⟨i, j, rfl, ⟨hb.1.1, hb.1.2, hb.2.1, hb.2.2⟩, (q.now r).2 _ (itok_range i _)⟩
      · exact q.elim
    · exact q.elim
end
/-! ### enumerate of a tuple -/
section
variable {prog : Program} {w : World} {A : Around} {E : Value → Shared → Prop} {s : Shared}
set_option maxHeartbeats 8000000 in
theorem enumT_meets (l : Addr) (items : Array Value) (n : Nat) (dd : Option Addr) (sl : Array (Option Value)) :
    Meets (Builtin.«enumerate.__new__» ⟨[.type "enumerate", .ref l], []⟩) (fun _ R s => s.heap.get? l = some ⟨.type "tuple", dd, .seq items n, sl⟩ ∧
      R (.ok (.ret (.ref (s.heap.push ⟨.type "tuple_iterator", none, .fields #[.ref l, .int 0 0], #[]⟩).objs.size)))
        { s with heap := (s.heap.push ⟨.type "tuple_iterator", none, .fields #[.ref l, .int 0 0], #[]⟩).push ⟨.type "enumerate", none, .fields #[.none, .bool false, .ref s.heap.objs.size, rawInt 0, .none, .none], #[]⟩ }) :=
  .of_wp fun prog w A R s h => by
    obtain ⟨hp, gg, dr, tk, oo⟩ := s
    obtain ⟨hl, h⟩ := h
    have hsub := sub_enumerate
    have hT : Heap.IsTuple (Shared.heap ⟨hp, gg, dr, tk, oo⟩) l items := ⟨_, hl, rfl, n, rfl⟩
    wp_walk using AutoSeq1.wpAny_loadPart' hl
    refine wpAny_stack_any fun st => wpAny_pure ?_
    split
    · rename_i c _ _ _ _ _
      cases (c == Value.type "enumerate")
      · wp_walk using AutoSeq1.wpAny_loadPart' hl, wpAny_pyIter_tuple hT
        exact ⟨_, rfl, h⟩
      · wp_walk using AutoSeq1.wpAny_loadPart' hl, wpAny_pyIter_tuple hT
        exact ⟨_, rfl, h⟩
    · wp_walk using AutoSeq1.wpAny_loadPart' hl, wpAny_pyIter_tuple hT
      exact ⟨_, rfl, h⟩
theorem enumT_call {l : Addr} {items : Array Value} {Q : Value → Shared → Prop} (hL : s.heap.IsTuple l items)
    (h : ∀ h', IsEnum h' (s.heap.objs.size + 1) s.heap.objs.size 0 .none → h'.IsTupleIter s.heap.objs.size l 0 → h'.objs.size = s.heap.objs.size + 2 →
      (∀ b o, s.heap.get? b = some o → h'.get? b = some o) → Q (.ref (s.heap.objs.size + 1)) { s with heap := h' }) :
    wpAny (model prog w) A (call (.type "enumerate") [.ref l]) Q E s := by
  obtain ⟨⟨c, dd, dt, sl⟩, hl, hc, n, hd⟩ := hL
  dsimp only at hc hd
  subst hc hd
  refine callType_new F.called_enumerate (by decide) (F.typeCall_enumerate_1 _) (F.newCall_enumerate_1 _) (fun obj => F.args_object_init_2 obj _) F.entry_enumerate_new (enumT_meets l items n dd sl) ⟨hl, ?_⟩
  generalize ho : (⟨.type "tuple_iterator", none, .fields #[.ref l, .int 0 0], #[]⟩ : Obj) = oi
  have hfree : oi.isFreed = false := by rw [← ho]; rfl
  have hz : (s.heap.push oi).objs.size = s.heap.objs.size + 1 := Heap.size_push ..
  show _ ∧ _
  rw [hz]
  generalize hq : (⟨.type "enumerate", none, .fields #[.none, .bool false, .ref s.heap.objs.size, rawInt 0, .none, .none], #[]⟩ : Obj) = oe
  have hfree2 : oe.isFreed = false := by rw [← hq]; rfl
  have he := Heap.get?_push_size (s.heap.push oi) hfree2
  rw [hz] at he
  have hi : ((s.heap.push oi).push oe).get? s.heap.objs.size = some oi := Heap.get?_push_of_some _ (Heap.get?_push_size _ hfree)
  refine ⟨⟨oe, he, by rw [← hq]⟩, h _ (by rw [← hq] at he; rw [← hq]; exact he) ⟨oi, hi, by rw [← ho], by rw [← ho]; rfl⟩ (by rw [Heap.size_push, hz]) fun b o x => Heap.get?_push_of_some _ (Heap.get?_push_of_some _ x)⟩
end
end EL


set_option Elab.async false
set_option linter.all false
set_option maxRecDepth 100000
set_option maxHeartbeats 4000000
/-! EL: enumerate, zip; list and dict comprehensions. -/
namespace EL
open PySem L2

/-! ### enumerate(tuple), walked -/
def ItEn (K : PySem.W.Frag) (a : Addr) : It :=
  ⟨fun i H => ∃ (xs : List V) (x : V), SqT K H a xs ∧ xs[i]? = some x,
   fun i H v H' => ∃ T x o, v = .ref T ∧ IsT o ∧ H T = none ∧ H' = upd H T (.frz o (.tup [.int (i : Nat), x])) ∧ ∀ xs, SqT K H a xs → xs[i]? = some x,
   fun i H => ∃ xs : List V, SqT K H a xs ∧ xs.length ≤ i⟩
theorem mem2 {a b c : Addr} (h : c ∈ [a, b]) : c = a ∨ c = b := by simpa using h
theorem turnEn {P : Program} {w : World} {K : PySem.W.Frag} {elts : List Expr} {kk : Nat} {tp : Pos} (a e it : Addr) (hat : True) :
    Turn P w K (.Tuple elts kk tp) (ItEn K a) [e, it] e (fun i h => (∃ old, IsEnum h e it ((i : Nat) : Int) old) ∧ h.IsTupleIter it a i ∧ e ≠ it ∧ a ≠ it) where
  mem := List.mem_cons_self
  obj := fun i h ⟨⟨old, he⟩, ⟨o, ho, hc, hd⟩, _, _⟩ b hb => by
    rcases mem2 hb with rfl | rfl
    · exact ⟨_, he, fun v q => nomatch q⟩
    · exact ⟨o, ho, fun v q => by rw [hd] at q; cases q⟩
  keep := fun i h h' ⟨⟨old, he⟩, hi, n1, n2⟩ k => ⟨⟨old, k e (by simp) _ he⟩, hi.at fun o q => k it (by simp) o q, n1, n2⟩
  item := fun X hP hw hK hc i pins s σ H E I hf ⟨⟨old, he⟩, hit, n1, n2⟩ ⟨xs, x, hq, hx⟩ => by
    subst hP hw hK
    obtain ⟨its, rv, p, hz⟩ := I.tuple hq
    obtain ⟨u, hu, ru⟩ := rv.get hx
    have hel := Heap.lt_size he
    have hil : it < s.heap.objs.size := hit.elim fun _ q => Heap.lt_size q.1
    have hni : i < its.toArray.size := by
      have := (List.getElem?_eq_some_iff.mp hu).1
      simpa using this
    have D : Draws X.prog X.w X.A.in1 it [it, a] its.toArray.size (fun i v => its.toArray[i]? = some v) (fun i h => h.IsTupleIter it a i ∧ h.IsTuple a its.toArray) := Draws.tuple (A := X.A.in1) (I.ok.hd hc) it a n2 _
    have hea : e ≠ a := fun z => by
      obtain ⟨o1, q1, q2, _⟩ := p
      rw [← z] at q1
      rw [show s.heap.get? e = _ from he] at q1
      cases q1; simp at q2
    refine wpAny_pyNext_enum_itemC D he ⟨hit, p⟩ hni n1 (by simp [n1, hea]) fun x' h' tk hP ho hst hT hsz hk => ?_
    have hP' : its[i]? = some x' := by simpa using hP
    rw [hu] at hP'
    cases hP'
    refine ⟨_, rfl, wpAny_letOwnedTupleGo_enum (s := { s with heap := h', toks := tk + 1 }) ho fun h'' he' sb => ?_⟩
    have hT2 : h''.get? s.heap.objs.size = some ⟨.type "tuple", none, .seq #[.int i tk, u], #[]⟩ := (sb.2 _ (Nat.ne_of_gt hel)).trans hT
    have new : ObjOk X.prog X.w (upd H s.heap.objs.size (.frz ⟨.type "tuple", none, .seq #[.int i tk, u], #[]⟩ (.tup [.int (i : Nat), x]))) h'' s.heap.objs.size (.frz ⟨.type "tuple", none, .seq #[.int i tk, u], #[]⟩ (.tup [.int (i : Nat), x])) :=
      ⟨hT2, by show 2 ≤ sizeLine; decide, [.int i tk, u], .cons ⟨_, rfl⟩ (.cons ru .nil), _, hT2, rfl, _, rfl⟩
    have I1 : L2.Inv X pins σ (upd H s.heap.objs.size (.frz ⟨.type "tuple", none, .seq #[.int i tk, u], #[]⟩ (.tup [.int (i : Nat), x]))) { s with heap := h'', toks := tk + 1 } :=
      I.turnedNew (ch := [e, it]) (fun b ob hb q => (sb.2 b (fun z => hb (by simp [z]))).trans (hk b ob (fun z => hb (by simp [z])) (fun z => hb (by simp [z])) q)) hf (Nat.le_refl _) new
    refine ⟨.ref s.heap.objs.size, _, I1, rfl, ⟨_, x, _, rfl, ⟨rfl, rfl⟩, I.hok.fresh (Nat.le_refl _), rfl, fun ys hy => by rw [I.tuple_inj hy hq]; exact hx⟩, ⟨⟨u, ?_⟩, hst.1.at fun o q => (sb.2 it (Ne.symm n1)).trans q, n1, n2⟩, fun b hb => ?_⟩
    · rw [show ((i + 1 : Nat) : Int) = (i : Int) + 1 by omega]; exact he'
    · have hb' : b < s.heap.objs.size := (mem2 hb).elim (fun z => z ▸ hel) fun z => z ▸ hil
      rw [upd_ne (Nat.ne_of_lt hb')]
      exact (hf b hb).1
  done := fun X hP hw hK hc i pins s σ H E I hf ⟨⟨old, he⟩, hit, n1, n2⟩ ⟨xs, hq, hx⟩ => by
    subst hP hw hK
    obtain ⟨its, rv, p, hz⟩ := I.tuple hq
    obtain ⟨f0, f1, f2, f3, f4, f5⟩ := hf it (by simp)
    have D : Draws X.prog X.w X.A.in1 it [it, a] i (fun _ _ => True) (fun j h => j = i ∧ h.IsTupleIter it a i ∧ h.IsTuple a its.toArray) := {
      live := fun _ _ st => st.2.1.elim fun o q => ⟨o, q.1⟩
      frame := fun _ _ _ st hk => ⟨st.1, st.2.1.at fun o e => hk it (by simp) o e, st.2.2.at fun o e => hk a (by simp) o e⟩
      item := fun j s Q E hj st hQ => absurd st.1 (Nat.ne_of_lt hj)
      done := fun s Q E st hE => wpAny_nextOf_tuple_end (A := X.A.in1) (I.ok.hd hc) st.2.1 st.2.2 (by have := rv.length; simp; omega) hE }
    exact wpAny_pyNext_enum_endD D he ⟨rfl, hit, p⟩ fun h' eb => ⟨rfl, I.turned (t' := s.toks) (fun b o hb q => eb b o hb q) f0 f1 f3 f4 f5⟩
  self := fun A i s Q E ⟨⟨_, he⟩, _⟩ h => wpAny_pyIter_enum he h
/-- the pairs (i, x) -/
def pairP (a b : PV) : PV := mkTup [a, b]
def pairW (a b : PV) : PV := .tup [a, b]
def enumP (l : List PV) : List PV := l.zipIdx.map fun p => pairP (.d (.int (p.2 : Nat))) p.1
def iEnTup (K : PySem.W.Frag) (ta : TA) : TI := fun σ H R => ta σ H fun vs H1 => ∃ a xs, vs = [.ref a] ∧ SqT K H1 a xs ∧ R (ItEn K a) H1
section
variable {X : Cx} {cls : Nat → Addr} {e : Expr} {es : List Expr} {pos : Pos}
theorem pi_enTup {ta : TA} {p tpos : Pos} {elts : List Expr} {kk : Nat} (hg : Gl X "enumerate") (hm : X.mg "enumerate" = none) (ha : PA X [e] ta) (hs : starEach [e] X.env = [(false, eval e X.env)] := by rfl) : PI X (.Tuple elts kk tpos) (.Call (.Name "enumerate" p) [e] [] pos) (iEnTup X.K ta) := by
  refine ⟨fun pins s σ H R I h => ?_⟩
  refine PyProof.Rows.Call_ (ld_blt I hg hm PyProof.Rows.boot_enumerate (PyProof.Rows.callWith_type1 (thn (ha.run pos pins s σ H _ I h) fun us s1 q => ?_) hs rfl))
  obtain ⟨vs, H1, I1, r1, a, xs, rfl, hq, q⟩ := q
  cases r1 with
  | cons r rr =>
    cases rr
    cases r
    obtain ⟨its, rv, p', hz⟩ := I1.tuple hq
    have hlt : a < s1.heap.objs.size := p'.lt
    refine enumT_call (show s1.heap.IsTuple a its.toArray from p') fun h' he hit hsz hk => wpAny_pyIter_enum he ?_
    have I2 : L2.Inv X pins σ H1 { s1 with heap := h' } := I1.kept (t' := s1.toks) hk
    refine ⟨s1.heap.objs.size + 1, [s1.heap.objs.size + 1, s1.heap.objs.size], _, _, H1, rfl, I2, turnEn a _ _ trivial, ⟨⟨.none, he⟩, hit, Nat.succ_ne_self _, Nat.ne_of_lt hlt⟩, fun b hb => ?_, q⟩
    have hle : s1.heap.objs.size ≤ b := (mem2 hb).elim (fun z => z ▸ Nat.le_succ _) fun z => z ▸ Nat.le_refl _
    exact I1.fpOk hle (I1.hok.fresh hle)
theorem enumP_get {l : List PV} {i : Nat} {v : PV} (h : (enumP l)[i]? = some v) : ∃ x, l[i]? = some x ∧ v = pairP (.d (.int (i : Nat))) x := by
  simp only [enumP, List.getElem?_map, List.getElem?_zipIdx, Option.map_map] at h
  cases k : l[i]? with
  | none => rw [k] at h; cases h
  | some x => rw [k] at h; simp at h; exact ⟨x, rfl, h.symm⟩
theorem pair_newF {K : PySem.W.Frag} {Z ρ : List Addr} {H : Hp} {mh : Mh} {a b : PV} {x y : V} {T : Addr} {o : Obj} (ho : IsT o) (rh : RH K cls Z ρ mh H) (hT : H T = none) (ra : RV K Z ρ H a x) (rb : RV K Z ρ H b y) :
    Ext ρ H ρ (upd H T (.frz o (.tup [x, y]))) ∧ RH K cls Z ρ mh (upd H T (.frz o (.tup [x, y]))) ∧ (∀ z ∈ Z, upd H T (.frz o (.tup [x, y])) z = H z) ∧ RV K Z ρ (upd H T (.frz o (.tup [x, y]))) (pairP a b) (.ref T) :=
  ⟨Ext.new hT, rh.new hT, (fun z hz => upd_ne (by
    intro q
    have := (rh.zs z hz).2
    rw [q, hT] at this; cases this)), mkTup_ok (tupS_new rh ho hT _) (.cons (ra.mono (Ext.new hT)) (.cons (rb.mono (Ext.new hT)) .nil))⟩
theorem pair_new {K : PySem.W.Frag} {Z ρ : List Addr} {H : Hp} {mh : Mh} {a b : PV} {x y : V} {T : Addr} (rh : RH K cls Z ρ mh H) (hT : H T = none) (ra : RV K Z ρ H a x) (rb : RV K Z ρ H b y) :
    Ext ρ H ρ (upd H T (.tup [x, y])) ∧ RH K cls Z ρ mh (upd H T (.tup [x, y])) ∧ (∀ z ∈ Z, upd H T (.tup [x, y]) z = H z) ∧ RV K Z ρ (upd H T (.tup [x, y])) (pairW a b) (.ref T) :=
  ⟨Ext.new hT, rh.new hT, (fun z hz => upd_ne (by
    intro q
    have := (rh.zs z hz).2
    rw [q, hT] at this; cases this)), .tup (tupAt_new rh hT _) (.cons (ra.mono (Ext.new hT)) (.cons (rb.mono (Ext.new hT)) .nil))⟩
theorem enumP_length (l : List PV) : (enumP l).length = l.length := by simp [enumP]
theorem itok_enT {K : PySem.W.Frag} {Z ρ : List Addr} {H : Hp} {l : List PV} {g : Mh → Prop} {a : Addr} (h : ItOk K cls Z ρ H (Itt K a) l g) : ItOk K cls Z ρ H (ItEn K a) (enumP l) g := fun i Z' ρ' mh' H' hz e rh hg => by
  obtain ⟨h1, h2⟩ := h i Z' ρ' mh' H' hz e rh hg
  refine ⟨fun hl => h1 (by rwa [enumP_length] at hl), fun v hv => ?_⟩
  obtain ⟨x, hx, rfl⟩ := enumP_get hv
  obtain ⟨go, yl⟩ := h2 x hx
  refine ⟨go, fun w H'' ⟨T, y, o, q1, ho, q2, q3, q4⟩ => ?_⟩
  subst q1 q3
  obtain ⟨_, _, _, r⟩ := yl y H' ⟨rfl, q4⟩
  exact pair_newF ho rh q2 (.d (.int _)) r
/-- enumerate(x), x a list or a tuple -/
def iEnum (ma : EM) : IM := fun lo mh => (ma lo mh).bind fun v mh1 => match v with
  | .d (.tuple ds) => .ok (enumP (ds.map .d), always) mh1
  | _ => .bad
theorem tA_one {K : PySem.W.Frag} {E : XK} {ma : EM} {σ : L2.St} {H : Hp} {Q : List V → Hp → Prop} (h : tE K cls E ma σ H fun x H1 => Q [x] H1) : tCons (tE K cls E ma) tNil σ H Q := h
theorem JI_enum {ma : EM} {p tpos : Pos} {elts : List Expr} {kk : Nat} (hg : Gl X "enumerate") (hm : X.mg "enumerate" = none) (ha : JE X cls e ma) (hs : starEach [e] X.env = [(false, eval e X.env)] := by rfl) : JI X cls (.Tuple elts kk tpos) (.Call (.Name "enumerate" p) [e] [] pos) (iEnum ma) := fun E hx =>
  PI_imp (pi_enTup hg hm (pa_cons (ha E hx).pe pa_nil hs) hs) fun σ H R ⟨Z, ρ, lo, mh, s, p⟩ => tA_one (cls := cls) (E := E) ⟨Z, ρ, lo, mh, s, (Post.bind p).imp fun v ρ' mh' H' e r q x rx => by
    split at q
    · cases rx with
      | d rx => cases rx with
        | tup h1 r1 => exact ⟨_, _, rfl, h1.sq, (q.now r).2 _ (itok_enT (itok_tup h1.at (.ofD r1)))⟩
    · exact q.elim⟩
/-! ### zip -/
def zipP (l k : List PV) : List PV := (l.zip k).map fun p => pairW p.1 p.2
theorem zipP_get {l k : List PV} {i : Nat} {v : PV} (h : (zipP l k)[i]? = some v) : ∃ x y, l[i]? = some x ∧ k[i]? = some y ∧ v = pairW x y := by
  simp only [zipP, List.getElem?_map] at h
  cases q : (l.zip k)[i]? with
  | none => rw [q] at h; cases h
  | some p =>
    rw [q] at h
    simp at h
    rw [List.getElem?_zip_eq_some] at q
    exact ⟨p.1, p.2, q.1, q.2, h.symm⟩
theorem zipP_length (l k : List PV) : (zipP l k).length = min l.length k.length := by simp [zipP]
theorem itok_zipL {K : PySem.W.Frag} {Z ρ : List Addr} {H : Hp} {l k : List PV} {a b : Addr} {xs ys : List V} (ha : H a = some (.lst xs)) (na : a ∉ ρ) (ra : RVs K Z ρ H l xs) (hb : H b = some (.lst ys)) (nb : b ∉ ρ) (rb : RVs K Z ρ H k ys) : ItOk K cls Z ρ H (Itz K a b) (zipP l k) always := fun i Z' ρ' mh' H' hz e rh _ => by
  have ha' := e.keep a _ ha na
  have hb' := e.keep b _ hb nb
  have ra' := ra.sh (Sh.later e hz)
  have rb' := rb.sh (Sh.later e hz)
  refine ⟨fun hl => ⟨xs, ys, .of ha', .of hb', ?_⟩, fun v hv => ?_⟩
  · rw [zipP_length, ra.length, rb.length] at hl; omega
  · obtain ⟨x, y, hx, hy, rfl⟩ := zipP_get hv
    obtain ⟨x', hx', rx⟩ := ra'.get hx
    obtain ⟨y', hy', ry⟩ := rb'.get hy
    refine ⟨⟨xs, ys, x', y', .of ha', .of hb', hx', hy'⟩, fun w H'' ⟨T, x2, y2, q1, q2, q3, q4, q5⟩ => ?_⟩
    subst q1 q3
    have e1 := q4 xs (.of ha'); rw [hx'] at e1; cases e1
    have e2 := q5 ys (.of hb'); rw [hy'] at e2; cases e2
    exact pair_new rh q2 rx ry
theorem itok_zipT {K : PySem.W.Frag} {Z ρ : List Addr} {H : Hp} {l k : List PV} {a b : Addr} {xs ys : List V} (ha : TupAt K Z ρ H a xs) (ra : RVs K Z ρ H l xs) (hb : TupAt K Z ρ H b ys) (rb : RVs K Z ρ H k ys) : ItOk K cls Z ρ H (RZ.ItzT K a b) (zipP l k) always := fun i Z' ρ' mh' H' hz e rh _ => by
  have ha' : SqT K H' a xs := (ha.sh (Sh.later e hz)).sq
  have hb' : SqT K H' b ys := (hb.sh (Sh.later e hz)).sq
  have ra' := ra.sh (Sh.later e hz)
  have rb' := rb.sh (Sh.later e hz)
  refine ⟨fun hl => ⟨xs, ys, ha', hb', ?_⟩, fun v hv => ?_⟩
  · rw [zipP_length, ra.length, rb.length] at hl; omega
  · obtain ⟨x, y, hx, hy, rfl⟩ := zipP_get hv
    obtain ⟨x', hx', rx⟩ := ra'.get hx
    obtain ⟨y', hy', ry⟩ := rb'.get hy
    refine ⟨⟨xs, ys, x', y', ha', hb', hx', hy'⟩, fun w H'' ⟨T, x2, y2, q1, q2, q3, q4, q5⟩ => ?_⟩
    subst q1 q3
    have e1 := q4 xs ha'; rw [hx'] at e1; cases e1
    have e2 := q5 ys hb'; rw [hy'] at e2; cases e2
    exact pair_new rh q2 rx ry
/-- zip of two lists that stand still, or of two tuples -/
def iZip (ma : AM) : IM := fun lo mh => (ma lo mh).bind fun vs mh1 => match vs with
  | [.d (.list xs), .d (.list ys)] => .ok (zipP (xs.map .d) (ys.map .d), always) mh1
  | [.d (.tuple xs), .d (.tuple ys)] => .ok (zipP (xs.map .d) (ys.map .d), always) mh1
  | _ => .bad
theorem JI_zip {e2 : Expr} {m : AM} {p tpos : Pos} {elts : List Expr} {kk : Nat} (hg : Gl X "zip") (hm : X.mg "zip" = none) (ha : JA X cls [e, e2] m) (hs : starEach [e, e2] X.env = (false, eval e X.env) :: starEach [e2] X.env := by rfl) (hpl : (backTo pos (starEach [e2] X.env)).any (·.1) = false := by rfl) :
    JI X cls (.Tuple elts kk tpos) (.Call (.Name "zip" p) [e, e2] [] pos) (iZip m) := fun E hx =>
  PI_imp (RZ.pi_zipA hg hm (ha E hx) hs hpl) fun σ H R ⟨Z, ρ, lo, mh, s, p⟩ => by
    refine ⟨Z, ρ, lo, mh, s, (Post.bind p).imp ?_⟩
    intro vs ρ1 mh1 H1 e r q x rx
    split at q
    · cases rx with
      | cons r1 r2 =>
        cases r2 with
        | cons r2 r3 =>
          cases r3
          cases r1 with
          | d r1 =>
            cases r1 with
            | lst h1 z1 k1 =>
              cases r2 with
              | d r2 => cases r2 with
                | lst h2 z2 k2 => exact ⟨_, _, _, _, rfl, .inl ⟨.of h1, .of h2, (q.now r).2 _ (itok_zipL h1 z1.2 (.ofD k1) h2 z2.2 (.ofD k2))⟩⟩
    · cases rx with
      | cons r1 r2 =>
        cases r2 with
        | cons r2 r3 =>
          cases r3
          cases r1 with
          | d r1 =>
            cases r1 with
            | tup h1 k1 =>
              cases r2 with
              | d r2 => cases r2 with
                | tup h2 k2 => exact ⟨_, _, _, _, rfl, .inr ⟨h1.sq, h2.sq, (q.now r).2 _ (itok_zipT h1.at (.ofD k1) h2.at (.ofD k2))⟩⟩
    · exact q.elim
end
end EL


set_option Elab.async false
set_option linter.all false
set_option maxRecDepth 100000
set_option maxHeartbeats 4000000
/-! EL: list comprehensions. -/
namespace EL
open PySem L2

def wipeL (lo : Lo) : List Nat → Lo
  | [] => lo
  | v :: vs => (wipeL lo vs).set v none
theorem wipeL_length (lo : Lo) : ∀ vs, (wipeL lo vs).length = lo.length
  | [] => rfl
  | v :: vs => by unfold wipeL; rw [List.length_set, wipeL_length lo vs]
theorem wipeL_some {lo : Lo} {i : Nat} {x : PV} : ∀ {vs : List Nat}, (wipeL lo vs)[i]? = some (some x) → lo[i]? = some (some x) ∧ i ∉ vs
  | [], h => ⟨h, by simp⟩
  | v :: vs, h => by
    unfold wipeL at h
    by_cases hi : v = i
    · subst hi
      by_cases hv : v < (wipeL lo vs).length
      · rw [List.getElem?_set_self hv] at h; cases h
      · rw [List.getElem?_eq_none (by simpa using hv)] at h; cases h
    · rw [List.getElem?_set_ne hi] at h
      obtain ⟨h1, h2⟩ := wipeL_some h
      exact ⟨h1, by simp [Ne.symm hi, h2]⟩
theorem wipe_at {σ : L2.St} {i : Nat} : ∀ {vs : List Nat}, i ∉ vs → (wipe σ vs)[i]? = σ[i]?
  | [], _ => rfl
  | v :: vs, h => by
    unfold wipe
    rw [List.getElem?_set_ne (fun e => h (by simp [e]))]
    exact wipe_at fun m => h (List.mem_cons_of_mem _ m)
theorem wipe_in {σ : L2.St} {i : Nat} : ∀ {vs : List Nat}, i ∈ vs → i < σ.length → (wipe σ vs)[i]? = some none
  | v :: vs, h, hl => by
    unfold wipe
    by_cases e : v = i
    · subst e; rw [List.getElem?_set_self (by rw [wipe_length]; exact hl)]
    · rw [List.getElem?_set_ne e]
      exact wipe_in ((List.mem_cons.mp h).resolve_left (Ne.symm e)) hl
theorem wipe_ext {σ τ : L2.St} {vs : List Nat} (hl : σ.length = τ.length) (h : ∀ i, i ∉ vs → σ[i]? = τ[i]?) : wipe σ vs = wipe τ vs := by
  apply List.ext_getElem?
  intro i
  by_cases m : i ∈ vs
  · by_cases hi : i < σ.length
    · rw [wipe_in m hi, wipe_in m (hl ▸ hi)]
    · rw [List.getElem?_eq_none (by rw [wipe_length]; omega), List.getElem?_eq_none (by rw [wipe_length]; omega)]
  · rw [wipe_at m, wipe_at m, h i m]
theorem upS_length (σ : L2.St) : ∀ ws, (upS σ ws).length = σ.length
  | [] => rfl
  | (i, v) :: r => by unfold upS; rw [upS_length, List.length_set]
theorem upS_at {i : Nat} : ∀ {ws : List (Nat × V)} {σ : L2.St}, i ∉ ws.map (·.1) → (upS σ ws)[i]? = σ[i]?
  | [], _, _ => rfl
  | (j, v) :: r, σ, h => by
    unfold upS
    rw [upS_at (fun m => h (by simp at m ⊢; exact .inr m)), List.getElem?_set_ne (fun e => h (by simp [e]))]
theorem upS_wipe {σ : L2.St} {vs : List Nat} {ws : List (Nat × V)} (h : ∀ i ∈ ws.map (·.1), i ∈ vs) : wipe (upS (wipe σ vs) ws) vs = wipe σ vs := by
  refine wipe_ext (by rw [upS_length, wipe_length]) fun i hi => ?_
  rw [upS_at (fun m => hi (h i m)), wipe_at hi]
section
variable {K : PySem.W.Frag} {cls : Nat → Addr} {Z ρ : List Addr} {H : Hp} {mh : Mh}
theorem RU.slots : ∀ {us : List (Nat × PV)} {ws : List (Nat × V)}, RU K Z ρ H us ws → ws.map (·.1) = us.map (·.1)
  | _, _, .nil => rfl
  | _, _, .cons _ r => by simp [RU.slots r]
theorem RS.wipe {lo : Lo} {σ : L2.St} (s : RS K cls Z ρ lo mh σ H) (vs : List Nat) : RS K cls Z ρ (wipeL lo vs) mh (L2.wipe σ vs) H :=
  ⟨s.hp, by rw [wipeL_length, wipe_length, s.len], fun i v h => by
    obtain ⟨h1, h2⟩ := wipeL_some h
    obtain ⟨x, e, r⟩ := s.loc i v h1
    exact ⟨x, by rw [wipe_at h2]; exact e, r⟩⟩
/-- an exception within a comprehension is not served -/
def noX {α : Type} (r : Res α) : Res α := match r with
  | .exc _ _ => .bad
  | r => r
@[simp] theorem noX_ok {α : Type} (v : α) (mh : Mh) : noX (.ok v mh) = .ok v mh := rfl
@[simp] theorem noX_exc {α : Type} (c : Nat) (mh : Mh) : noX (.exc c mh : Res α) = .bad := rfl
@[simp] theorem noX_bad {α : Type} : noX (.bad : Res α) = .bad := rfl
theorem Post.noX {E E' : XK} {H : Hp} {α : Type} {r : Res α} {Kt : α → List Addr → Mh → Hp → Prop} (h : Post K cls E Z ρ H (noX r) Kt) : Post K cls E' Z ρ H r Kt := by
  cases r with
  | ok v m => exact h
  | exc c m => exact h.elim
  | bad => exact h.elim
/-- what is put aside besides -/
theorem Post.moreZ {E : XK} {H : Hp} {α : Type} {p : Addr} {r : Res α} {Kt Kt' : α → List Addr → Mh → Hp → Prop} (h : Post K cls E Z ρ H r Kt) (f : ∀ v ρ' mh' H', Ext ρ H ρ' H' → RH K cls (p :: Z) ρ' mh' H' → Kt v ρ' mh' H' → Kt' v ρ' mh' H') : Post K cls E (p :: Z) ρ H r Kt' := by
  cases r with
  | ok v m => exact fun ρ' H' e rh => f v ρ' m H' e rh (h ρ' H' e (rh.less fun _ m => List.mem_cons_of_mem _ m))
  | exc c m => exact fun ρ' H' e rh => h ρ' H' e (rh.less fun _ m => List.mem_cons_of_mem _ m)
  | bad => exact h
/-- the list that grows is changed, put aside as it is -/
theorem Sh.updZ {p : Addr} {o : HO} : Sh (p :: Z) ρ H (p :: Z) ρ (upd H p o) := ⟨fun a u h z => ⟨by rw [upd_ne (fun e => z.1 (by rw [e]; exact List.mem_cons_self))]; exact h, z⟩, fun _ _ h => h⟩
theorem RH.updZ {p : Addr} {o : HO} (h : RH K cls (p :: Z) ρ mh H) : RH K cls (p :: Z) ρ mh (upd H p o) where
  len := h.len
  nd := h.nd
  zs := fun z hz => ⟨(h.zs z hz).1, by
    by_cases e : z = p
    · rw [e, upd_same]; rfl
    · rw [upd_ne e]; exact (h.zs z hz).2⟩
  objs := fun n u a e1 e2 => (h.objs n u a e1 e2).sh Sh.updZ (upd_ne fun e => (h.zs p List.mem_cons_self).1 (by rw [← e]; exact List.mem_of_getElem? e2))
theorem Ext.updZ {ρ0 : List Addr} {H0 : Hp} {p : Addr} {o : HO} (e : Ext ρ0 H0 ρ H) (h : H0 p = Option.none) : Ext ρ0 H0 ρ (upd H p o) :=
  ⟨e.pre, fun a u q n => by rw [upd_ne (ne_of_none q h)]; exact e.keep a u q n, e.fresh⟩
end
theorem Res.bind_assoc {α β γ : Type} (r : Res α) (f : α → Mh → Res β) (g : β → Mh → Res γ) : (r.bind f).bind g = r.bind fun v m => (f v m).bind g := by cases r <;> rfl
open Classical in
/-- the turns of a comprehension -/
noncomputable def lcL (g : Mh → Prop) (t : Tg) (mt : BM) (me : EM) (lo0 : Lo) : List PV → Mh → Res (List PV)
  | [], mh => if g mh then .ok [] mh else .bad
  | v :: vs, mh => if g mh then (match tgt t v with
    | some us => (noX (mt (upL lo0 us) mh)).bind fun b mh1 => if b = true then (noX (me (upL lo0 us) mh1)).bind fun y mh2 => (lcL g t mt me lo0 vs mh2).bind fun ys mh3 => .ok (y :: ys) mh3 else lcL g t mt me lo0 vs mh1
    | none => .bad) else .bad
theorem lcL_ne (g : Mh → Prop) (t : Tg) (mt : BM) (me : EM) (lo0 : Lo) : ∀ (l : List PV) (mh : Mh) (c : Nat) (m : Mh), lcL g t mt me lo0 l mh ≠ .exc c m
  | [], mh, c, m, h => by
    unfold lcL at h
    split at h <;> cases h
  | v :: vs, mh, c, m, h => by
    unfold lcL at h
    split at h
    · split at h
      · rename_i us _
        cases k1 : mt (upL lo0 us) mh with
        | bad => rw [k1] at h; cases h
        | exc _ _ => rw [k1] at h; cases h
        | ok b m1 =>
          rw [k1] at h
          simp only [noX_ok, Res.bind_ok] at h
          split at h
          · cases k2 : me (upL lo0 us) m1 with
            | bad => rw [k2] at h; cases h
            | exc _ _ => rw [k2] at h; cases h
            | ok y m2 =>
              rw [k2] at h
              simp only [noX_ok, Res.bind_ok] at h
              cases k3 : lcL g t mt me lo0 vs m2 with
              | bad => rw [k3] at h; cases h
              | exc c' m' => exact lcL_ne g t mt me lo0 vs m2 c' m' k3
              | ok ys m3 => rw [k3] at h; cases h
          · exact lcL_ne g t mt me lo0 vs m1 c m h
      · cases h
    · cases h
noncomputable def mLC (mi : IM) (t : Tg) (mt : BM) (me : EM) (vs : List Nat) : AM := fun lo mh => (mi lo mh).bind fun lg mh1 => (lcL lg.2 t mt me (wipeL lo vs) lg.1 mh1).bind fun ys mh2 => if ys.length ≤ sizeLine then .ok ys mh2 else .bad
def JTs (X : Cx) (cls : Nat → Addr) (ifs : List Expr) (m : BM) : Prop := ∀ E, Passes (L2.CX X.prog X.w) X E → PTs X ifs (tT X.K cls E m)
def bYes : BM := fun _ mh => .ok true mh
section
variable {X : Cx} {cls : Nat → Addr} {e a b : Expr} {es : List Expr} {pos : Pos}
theorem PTs_imp {ifs : List Expr} {t t' : TT} (h : PTs X ifs t) (f : ∀ σ H Q, t' σ H Q → t σ H Q) : PTs X ifs t' := ⟨fun pins s σ H Q I q => h.run pins s σ H Q I (f _ _ _ q)⟩
theorem JTs_nil : JTs X cls [] bYes := fun E _ => PTs_imp pts_nil fun σ H Q ⟨Z, ρ, lo, mh, s, p⟩ => p.now s.hp _ rfl
theorem JTs_one {m : BM} (h : JT X cls e m) : JTs X cls [e] m := fun E hx => pts_one (h E hx)
/-- no exception leaves a comprehension -/
theorem blk_pass (s : Shared) (H : Hp) (scope : Scope) (cenv : Env) (fp : List Addr) : Passes (L2.CX X.prog X.w) (X.blk s H scope cenv fp) E0 := fun _ _ _ _ _ _ _ ⟨_, _, _, _, _, _, _, _, _, _, _, _, z⟩ => z
theorem lc_tE {K : PySem.W.Frag} {E : XK} {mi : IM} {t : Tg} {mt : BM} {me : EM} {vs : List Nat} (hv : ∀ i ∈ slotsT t, i ∈ vs) {σ : L2.St} {H : Hp} {Q : VK} (h : tL K cls E (mLC mi t mt me vs) σ H Q) :
    tLc (tI K cls E mi) (tgM K cls t) (tT K cls E0 mt) (tE K cls E0 me) vs σ H Q := by
  obtain ⟨Z, ρ, lo, mh, s, p⟩ := h
  refine ⟨Z, ρ, lo, mh, s, (Post.bind p).imp ?_⟩
  rintro ⟨l, g⟩ ρ1 mh1 H1 e1 r1 q
  dsimp only at q ⊢
  have hg0 : g mh1 := by
    cases l with
    | nil => by_cases hg : g mh1
             · exact hg
             · simp only [lcL, if_neg hg, Res.bind_bad] at q; exact q.elim
    | cons v vs' => by_cases hg : g mh1
                    · exact hg
                    · simp only [lcL, if_neg hg, Res.bind_bad] at q; exact q.elim
  refine ⟨hg0, fun J hJ D hD => ?_⟩
  have hD0 : H D = none := e1.none r1 hD
  have hDZ : D ∉ Z := (r1.fresh hD).2
  refine ⟨fun i m H' => ∃ ρ' mh' acc xs, m + i = l.length ∧ H' D = some (.lst xs) ∧ Ext ρ1 H1 ρ' H' ∧ RH K cls (D :: Z) ρ' mh' H' ∧ RVs K (D :: Z) ρ' H' acc xs ∧
    Post K cls E Z ρ1 H1 ((lcL g t mt me (wipeL lo vs) (l.drop i) mh').bind fun ys mh2 => if (acc ++ ys).length ≤ sizeLine then .ok (acc ++ ys) mh2 else .bad) (KL K cls Z H Q), ?_, ?_⟩
  · exact ⟨l.length, ρ1, mh1, [], [], rfl, upd_same, Ext.new hD, r1.aside hD, .nil, by simpa using q⟩
  · rintro i m H' ⟨ρ', mh', acc, xs, hm, hDx, e2, r2, rx, q2⟩
    have hg : g mh' := by
      by_cases hg : g mh'
      · exact hg
      · cases k : l.drop i with
        | nil => rw [k] at q2; simp only [lcL, if_neg hg, Res.bind_bad] at q2; exact q2.elim
        | cons v vs' => rw [k] at q2; simp only [lcL, if_neg hg, Res.bind_bad] at q2; exact q2.elim
    obtain ⟨hstop, hgo⟩ := hJ i (D :: Z) ρ' mh' H' (fun z hz => (List.mem_cons.mp hz).elim (fun e => .inr (e ▸ hD)) .inl) e2 r2 hg
    by_cases hi : i < l.length
    · right
      have hv' : l[i]? = some l[i] := List.getElem?_eq_getElem hi
      obtain ⟨go, yl⟩ := hgo _ hv'
      have hdrop : l.drop i = l[i] :: l.drop (i + 1) := by rw [List.drop_eq_getElem_cons hi]
      rw [hdrop] at q2
      simp only [lcL, if_pos hg] at q2
      refine ⟨go, fun H'' => ∃ m', m' < m ∧ ∃ ρ' mh' acc xs, m' + (i + 1) = l.length ∧ H'' D = some (.lst xs) ∧ Ext ρ1 H1 ρ' H'' ∧ RH K cls (D :: Z) ρ' mh' H'' ∧ RVs K (D :: Z) ρ' H'' acc xs ∧
        Post K cls E Z ρ1 H1 ((lcL g t mt me (wipeL lo vs) (l.drop (i + 1)) mh').bind fun ys mh2 => if (acc ++ ys).length ≤ sizeLine then .ok (acc ++ ys) mh2 else .bad) (KL K cls Z H Q), fun H'' h => h, ?_⟩
      intro x H3 hy
      obtain ⟨e3, r3, hz3, rv3⟩ := yl x H3 hy
      cases ht : tgt t l[i] with
      | none => rw [ht] at q2; exact q2.elim
      | some us =>
        rw [ht] at q2
        dsimp only at q2
        refine ⟨D :: Z, ρ', mh', _, us, r3, rv3, ht, fun ws ru => ⟨upS_wipe fun j hj => hv j ?_, ?_⟩⟩
        · rw [ru.slots, tgt_slots t _ us ht] at hj; exact hj
        have hDx3 : H3 D = some (.lst xs) := by rw [hz3 D List.mem_cons_self]; exact hDx
        have e13 : Ext ρ1 H1 ρ' H3 := e2.trans e3
        -- the slots there
        have s3 : RS K cls (D :: Z) ρ' (wipeL lo vs) mh' (L2.wipe σ vs) H3 := by
          refine ⟨r3, ?_, fun j v hj => ?_⟩
          · rw [wipeL_length, wipe_length, s.len]
          · obtain ⟨x, hx, rr⟩ := (s.wipe vs).loc j v hj
            exact ⟨x, hx, rr.sh (Sh.later (e1.trans e13) fun z hz => (List.mem_cons.mp hz).elim (fun e => .inr (e ▸ hD0)) .inl)⟩
        have s4 := s3.ups ru
        have hDn : D ∉ ρ' := (r3.zs D List.mem_cons_self).1
        cases k1 : mt (upL (wipeL lo vs) us) mh' with
        | bad => rw [k1] at q2; exact q2.elim
        | exc c m => rw [k1] at q2; exact q2.elim
        | ok b mh4 =>
          rw [k1] at q2
          simp only [noX_ok, Res.bind_ok] at q2
          refine ⟨D :: Z, ρ', _, mh', s4, ?_⟩
          rw [k1]
          intro ρ4 H4 e4 r4 b' hb'
          subst hb'
          have hDx4 : H4 D = some (.lst xs) := e4.keep D _ hDx3 hDn
          have e14 : Ext ρ1 H1 ρ4 H4 := e13.trans e4
          have rx4 : RVs K (D :: Z) ρ4 H4 acc xs := (rx.mono e3).mono e4
          cases b with
          | false =>
            rw [if_neg (by decide)] at q2 ⊢
            exact ⟨l.length - (i + 1), by omega, ρ4, mh4, acc, xs, by omega, hDx4, e14, r4, rx4, q2⟩
          | true =>
            rw [if_pos rfl] at q2 ⊢
            cases k2 : me (upL (wipeL lo vs) us) mh4 with
            | bad => rw [k2] at q2; exact q2.elim
            | exc c m => rw [k2] at q2; exact q2.elim
            | ok y mh5 =>
              rw [k2] at q2
              simp only [noX_ok, Res.bind_ok, Res.bind_assoc] at q2
              have hlen : xs.length < sizeLine := by
                cases k3 : lcL g t mt me (wipeL lo vs) (l.drop (i + 1)) mh5 with
                | bad => rw [k3] at q2; exact q2.elim
                | exc c m => exact (lcL_ne g t mt me _ _ _ _ _ k3).elim
                | ok ys m2 =>
                  rw [k3] at q2
                  simp only [Res.bind_ok] at q2
                  by_cases hh : (acc ++ y :: ys).length ≤ sizeLine
                  · rw [List.length_append, List.length_cons, rx4.length] at hh; omega
                  · rw [if_neg hh] at q2; exact q2.elim
              refine ⟨D :: Z, ρ4, _, mh4, s4.to e4 r4, ?_⟩
              rw [k2]
              intro ρ5 H5 e5 r5 z rz
              have hDx5 : H5 D = some (.lst xs) := e5.keep D _ hDx4 (r4.zs D List.mem_cons_self).1
              refine ⟨xs, hDx5, hlen, l.length - (i + 1), by omega, ρ5, mh5, acc ++ [y], xs ++ [z], by omega, upd_same, (e14.trans e5).updZ hD, r5.updZ, ((rx4.mono e5).append (.cons rz .nil)).sh Sh.updZ, ?_⟩
              simpa only [List.append_assoc, List.singleton_append] using q2
    · left
      have hi' : l.length ≤ i := by omega
      refine ⟨hstop hi', ?_⟩
      rw [List.drop_eq_nil_of_le hi'] at q2
      simp only [lcL, if_pos hg, Res.bind_ok, List.append_nil] at q2
      by_cases hl : acc.length ≤ sizeLine
      · rw [if_pos hl] at q2
        exact q2 ρ' H' e2 (r2.less fun _ m => List.mem_cons_of_mem _ m) D xs hD0 hDx hDZ (r2.zs D List.mem_cons_self).1 r2 rx
      · rw [if_neg hl] at q2; exact q2.elim
/-- does it swap: with a local name alone -/
theorem sw_list {elt : Expr} {gs : List Comprehension} {scope : Scope} {pos py : Pos} {y : Str} {l : Nat} {env : Env} : ∃ b, swapsWith (.ListComp elt gs scope pos) (some (.Name y py)) l env = pure b ∧ (b = true → env.scope.names.lookup y = some .local) := by
  refine ⟨_, rfl, fun h => ?_⟩
  simp only [Bool.and_eq_true] at h
  have := h.1.1.2
  simpa [Env.kindOf] using this
theorem sw_dict {k v : Expr} {gs : List Comprehension} {scope : Scope} {pos py : Pos} {y : Str} {l : Nat} {env : Env} : ∃ b, swapsWith (.DictComp k v gs scope pos) (some (.Name y py)) l env = pure b ∧ (b = true → env.scope.names.lookup y = some .local) := by
  refine ⟨_, rfl, fun h => ?_⟩
  simp only [Bool.and_eq_true] at h
  have := h.1.1.2
  simpa [Env.kindOf] using this
/-- [elt for tg in iter if ..] -/
theorem JL_lc (c : COk X) {elt tg iter : Expr} {ifs : List Expr} {scope : Scope} {own : List (Str × Nat)} {mi : IM} {t : Tg} {mt : BM} {me : EM} (hi : JI X cls tg iter mi) (ok : BlkOk X.N X.env.scope scope own)
    (hg : ∀ (s : Shared) (H : Hp) (C : Addr) (cl : List (Str × Addr)) (fp : List Addr), JG (X.blk s H scope (compEnvC scope cl C X.env) fp) cls tg t)
    (ht : ∀ (s : Shared) (H : Hp) (C : Addr) (cl : List (Str × Addr)) (fp : List Addr), JTs (X.blk s H scope (compEnvC scope cl C X.env) fp) cls ifs mt)
    (he : ∀ (s : Shared) (H : Hp) (C : Addr) (cl : List (Str × Addr)) (fp : List Addr), JE (X.blk s H scope (compEnvC scope cl C X.env) fp) cls elt me)
    (hs : ∀ x, foldedSetIterable iter X.env x = pure x) (hv : ∀ i ∈ slotsT t, i ∈ own.map (·.2)) : JL X cls (.ListComp elt [⟨tg, iter, ifs, 0⟩] scope pos) (mLC mi t mt me (own.map (·.2))) := fun E hx => by
  have hg' : ∀ (s : Shared) (H : Hp) (C : Addr) (cl : List (Str × Addr)) (fp : List Addr), PG (X.blk s H scope (compEnvC scope cl C X.env) fp) tg (tgM X.K cls t) := hg
  have ht' : ∀ (s : Shared) (H : Hp) (C : Addr) (cl : List (Str × Addr)) (fp : List Addr), PTs (X.blk s H scope (compEnvC scope cl C X.env) fp) ifs (tT X.K cls E0 mt) := fun s H C cl fp => ht s H C cl fp E0 (blk_pass s H scope _ fp)
  have he' : ∀ (s : Shared) (H : Hp) (C : Addr) (cl : List (Str × Addr)) (fp : List Addr), PE (X.blk s H scope (compEnvC scope cl C X.env) fp) elt (tE X.K cls E0 me) := fun s H C cl fp => (he s H C cl fp E0 (blk_pass s H scope _ fp)).pe
  refine ⟨(pe_lc c.calm c.nd (hi E hx) ok hg' ht' he' hs).imp fun σ H Q h => lc_tE hv h, fun y i py spos hy hl hf => ?_⟩
  obtain ⟨b, hb, hloc⟩ := sw_list (elt := elt) (gs := [⟨tg, iter, ifs, 0⟩]) (scope := scope) (pos := pos) (py := py) (y := y) (l := spos.line) (env := X.env)
  cases b with
  | true => exact (ps_setLc c.calm c.nd hy (hloc rfl) hb (hi E hx) ok hg' ht' he' hs).imp fun D σ H h => lc_tE hv h
  | false => exact (ps_set c.nd hy hl (pe_lc c.calm c.nd (hi E hx) ok hg' ht' he' hs) hb hf).imp fun D σ H h => lc_tE hv h
end
end EL


set_option Elab.async false
set_option linter.all false
set_option maxRecDepth 100000
set_option maxHeartbeats 4000000
/-! EL: calls of defs, methods, new instances; attributes. -/
namespace EL
open PySem L2

section
variable {K : PySem.W.Frag} {cls : Nat → Addr} {Z ρ ρ' : List Addr} {H H' : Hp} {mh mh' : Mh}
/-! ### behind a call: what it left is forgotten -/
theorem pre_at (hp : ρ <+: ρ') {n : Nat} {a : Addr} (h : ρ[n]? = some a) : ρ'[n]? = some a := by
  obtain ⟨t, rfl⟩ := hp
  rw [List.getElem?_append_left (List.getElem?_eq_some_iff.mp h).1]; exact h
theorem pre_of (hp : ρ <+: ρ') {n : Nat} {a : Addr} (hn : n < ρ.length) (h : ρ'[n]? = some a) : ρ[n]? = some a := by
  obtain ⟨t, rfl⟩ := hp
  rwa [List.getElem?_append_left hn] at h
theorem TupS.down (hs : ∀ a, a ∈ ρ → a ∈ ρ') {a : Addr} {xs : List V} (h : TupS K Z ρ' H a xs) : TupS K Z ρ H a xs := by
  rcases h with ⟨o, d, h, z⟩ | h
  · exact .inl ⟨o, d, h, z.1, fun m => z.2 (hs a m)⟩
  · exact .inr h
theorem TupAt.down (hs : ∀ a, a ∈ ρ → a ∈ ρ') {a : Addr} {xs : List V} (h : TupAt K Z ρ' H a xs) : TupAt K Z ρ H a xs := by
  rcases h with ⟨h, z⟩ | h
  · exact .inl ⟨h, z.1, fun m => z.2 (hs a m)⟩
  · exact .inr h
theorem ScrAt.down (hs : ∀ a, a ∈ ρ → a ∈ ρ') {a : Addr} {xs : List V} (h : ScrAt K Z ρ' H a xs) : ScrAt K Z ρ H a xs := by
  rcases h with ⟨h, z⟩ | h
  · exact .inl ⟨h, z.1, fun m => z.2 (hs a m)⟩
  · exact .inr h
mutual
theorem RD.down (hs : ∀ a, a ∈ ρ → a ∈ ρ') : ∀ {x : PyData} {v : V}, RD K Z ρ' H x v → RD K Z ρ H x v
  | _, _, .non => .non
  | _, _, .bl b => .bl b
  | _, _, .int i => .int i
  | _, _, .str x => .str x
  | _, _, .lst h z r => .lst h ⟨z.1, fun m => z.2 (hs _ m)⟩ (RDs.down hs r)
  | _, _, .tup h r => .tup (h.down hs) (RDs.down hs r)
theorem RDs.down (hs : ∀ a, a ∈ ρ → a ∈ ρ') : ∀ {x : List PyData} {v : List V}, RDs K Z ρ' H x v → RDs K Z ρ H x v
  | _, _, .nil => .nil
  | _, _, .cons h r => .cons (RD.down hs h) (RDs.down hs r)
end
theorem RVk.inv {d : PyData} {x : PV} {r : List (PyData × PV)} {ks : List (Key × V)} (h : RVk K Z ρ H ((d, x) :: r) ks) : ∃ k v vs, d = kD k ∧ ks = (k, v) :: vs ∧ RV K Z ρ H x v ∧ RVk K Z ρ H r vs := by
  generalize e : (d, x) :: r = l at h
  cases h with
  | nil => cases e
  | cons h1 h2 => cases e; exact ⟨_, _, _, rfl, rfl, h1, h2⟩
theorem RVk.keys {kvs : List (PyData × PV)} {ks : List (Key × V)} (h : RVk K Z ρ H kvs ks) : kvs.map (·.1) = ks.map (fun p => kD p.1) := by
  induction kvs generalizing ks with
  | nil => cases h; rfl
  | cons p r ih =>
    obtain ⟨k, v, vs, h1, h2, _, h4⟩ := RVk.inv (d := p.1) (x := p.2) (r := r) h
    rw [h2]; simp [h1, ih h4]
mutual
/-- what was borne by fewer -/
theorem RV.back (hp : ρ <+: ρ') : ∀ {x : PV} {v w : V}, RV K Z ρ H x v → RV K Z ρ' H' x w → RV K Z ρ H' x w
  | _, _, _, .d _, .d r => .d (r.down fun _ m => hp.subset m)
  | _, _, _, .dct _ _ r, .dct h z r' => .dct h ⟨z.1, fun m => z.2 (hp.subset m)⟩ (RVk.back hp r r')
  | _, _, _, .ref h, .ref h' => by
    rw [pre_at hp h] at h'; cases h'; exact .ref h
  | _, _, _, .tup _ r, .tup h' r' => .tup (h'.down fun _ m => hp.subset m) (RVs.back hp r r')
  | _, _, _, .scr _, .scr h' => .scr (h'.down fun _ m => hp.subset m)
theorem RVs.back (hp : ρ <+: ρ') : ∀ {x : List PV} {v w : List V}, RVs K Z ρ H x v → RVs K Z ρ' H' x w → RVs K Z ρ H' x w
  | _, _, _, .nil, .nil => .nil
  | _, _, _, .cons h r, .cons h' r' => .cons (RV.back hp h h') (RVs.back hp r r')
theorem RVk.back (hp : ρ <+: ρ') : ∀ {x : List (PyData × PV)} {v w : List (Key × V)}, RVk K Z ρ H x v → RVk K Z ρ' H' x w → RVk K Z ρ H' x w
  | _, _, _, .nil, r' => by cases r'; exact .nil
  | _, _, _, .cons h r, r' => by
    obtain ⟨k', v', vs', e1, rfl, h', r''⟩ := r'.inv
    cases kD_inj e1
    exact .cons (RV.back hp h h') (RVk.back hp r r'')
end
theorem RF.back (hp : ρ <+: ρ') : ∀ {x : List (Str × PV)} {v w : List (Str × V)}, RF K Z ρ H x v → RF K Z ρ' H' x w → RF K Z ρ H' x w
  | _, _, _, .nil, .nil => .nil
  | _, _, _, .cons h r, .cons h' r' => .cons (h.back hp h') (RF.back hp r r')
theorem RO.back (hp : ρ <+: ρ') {o : MO} {a : Addr} (h : RO K cls Z ρ H o a) (h' : RO K cls Z ρ' H' o a) : RO K cls Z ρ H' o a := by
  cases h with
  | lst h r => cases h' with
    | lst h' r' => exact .lst h' (r.back hp r')
  | dct h r => cases h' with
    | dct h' r' => exact .dct h' (r.back hp r')
  | ins h r => cases h' with
    | ins h' r' => exact .ins h' (r.back hp r')
theorem RH.back (h : RH K cls Z ρ mh H) (e : Ext ρ H ρ' H') (h' : RH K cls Z ρ' mh' H') (k : mh'.take mh.length = mh) : RH K cls Z ρ mh H' where
  len := h.len
  nd := h.nd
  zs := fun z hz => by
    obtain ⟨h1, h2⟩ := h.zs z hz
    obtain ⟨o, ho⟩ := Option.isSome_iff_exists.mp h2
    exact ⟨h1, by rw [e.keep z o ho h1]; rfl⟩
  objs := fun n o a e1 e2 => by
    have hn : n < mh.length := (List.getElem?_eq_some_iff.mp e1).1
    have e1' : mh'[n]? = some o := by
      rw [← k, List.getElem?_take] at e1
      simpa [hn] using e1
    exact (h.objs n o a e1 e2).back e.pre (h'.objs n o a e1' (pre_at e.pre e2))
/-- a value of which nothing is written any more -/
def allDk (kvs : List (PyData × PV)) : Bool := kvs.all fun p => match p.2 with
  | .d _ => true
  | _ => false
mutual
def frz (b : Nat) (mh : Mh) : PV → Option PV
  | .d x => some (.d x)
  | .dct kvs => if allDk kvs = true then some (.dct kvs) else none
  | .ref n => if n < b then some (.ref n) else match mh[n]? with
    | some (.lst l) => (allD l).map fun ds => .d (.list ds)
    | some (.dct kvs) => if allDk kvs = true then some (.dct kvs) else none
    | _ => none
  | .tup l => (frzs b mh l).map .tup
  | .scr ns => some (.scr ns)
def frzs (b : Nat) (mh : Mh) : List PV → Option (List PV)
  | [] => some []
  | v :: r => match frz b mh v with
    | some w => (frzs b mh r).map (w :: ·)
    | none => none
end
@[simp] theorem frz_d (b : Nat) (mh : Mh) (x : PyData) : frz b mh (.d x) = some (.d x) := by simp [frz]
theorem RVk.downD (hs : ∀ a, a ∈ ρ → a ∈ ρ') {kvs : List (PyData × PV)} {ks : List (Key × V)} (hd : allDk kvs = true) (h : RVk K Z ρ' H kvs ks) : RVk K Z ρ H kvs ks := by
  induction kvs generalizing ks with
  | nil => cases h; exact .nil
  | cons p r ih =>
    obtain ⟨d, x⟩ := p
    obtain ⟨k, v, vs, rfl, rfl, h3, h4⟩ := RVk.inv h
    simp only [allDk, List.all_cons, Bool.and_eq_true] at hd
    cases x with
    | d x => cases h3 with
      | d h3 => exact .cons (.d (h3.down hs)) (ih hd.2 h4)
    | _ => exact absurd hd.1 (by simp)
theorem not_low (h' : RH K cls Z ρ' mh' H') (hp : ρ <+: ρ') {n : Nat} {a : Addr} (hn : ¬ n < ρ.length) (e : ρ'[n]? = some a) : a ∉ ρ := fun m => by
  obtain ⟨j, hj, ej⟩ := List.mem_iff_getElem.mp m
  have e2 : ρ'[j]? = some a := pre_at hp (by rw [List.getElem?_eq_getElem hj, ej])
  obtain ⟨i1, j1⟩ := List.getElem?_eq_some_iff.mp e
  obtain ⟨i2, j2⟩ := List.getElem?_eq_some_iff.mp e2
  have := (List.getElem_inj h'.nd).mp (j1.trans j2.symm)
  omega
mutual
theorem frz_ok (h' : RH K cls Z ρ' mh' H') (hp : ρ <+: ρ') : ∀ {v w : PV} {x : V}, RV K Z ρ' H' v x → frz ρ.length mh' v = some w → RV K Z ρ H' w x
  | _, _, _, .d r, e => by
    simp only [frz, Option.some.injEq] at e; subst e
    exact .d (r.down fun _ m => hp.subset m)
  | _, _, _, .dct h z r, e => by
    simp only [frz] at e
    split at e
    · rename_i hd
      cases e
      exact .dct h ⟨z.1, fun m => z.2 (hp.subset m)⟩ (r.downD (fun _ m => hp.subset m) hd)
    · cases e
  | _, _, _, .ref (n := n) (a := a) h, e => by
    simp only [frz] at e
    split at e
    · rename_i hn
      cases e
      exact .ref (pre_of hp hn h)
    · rename_i hn
      have fz : Fz Z ρ a := ⟨fun m => (h'.zs a m).1 (List.mem_of_getElem? h), not_low h' hp hn h⟩
      split at e
      · rename_i l hl
        cases k : allD l with
        | none => rw [k] at e; cases e
        | some ds =>
          rw [k] at e; cases e
          have := allD_ok k; subst this
          cases h'.objs n _ a hl h with
          | lst ho ro => exact .d (.lst ho fz (ro.toD.down fun _ m => hp.subset m))
      · rename_i kvs hl
        split at e
        · rename_i hd
          cases e
          cases h'.objs n _ a hl h with
          | dct ho ro => exact .dct ho fz (ro.downD (fun _ m => hp.subset m) hd)
        · cases e
      · cases e
  | _, _, _, .tup h r, e => by
    simp only [frz] at e
    cases k : frzs ρ.length mh' _ with
    | none => rw [k] at e; cases e
    | some l' =>
      rw [k] at e; cases e
      exact .tup (h.down fun _ m => hp.subset m) (frzs_ok h' hp r k)
  | _, _, _, .scr h, e => by
    simp only [frz, Option.some.injEq] at e; subst e
    exact .scr (h.down fun _ m => hp.subset m)
theorem frzs_ok (h' : RH K cls Z ρ' mh' H') (hp : ρ <+: ρ') : ∀ {v w : List PV} {x : List V}, RVs K Z ρ' H' v x → frzs ρ.length mh' v = some w → RVs K Z ρ H' w x
  | _, _, _, .nil, e => by simp only [frzs, Option.some.injEq] at e; subst e; exact .nil
  | _, _, _, .cons h r, e => by
    simp only [frzs] at e
    split at e
    · rename_i w hw
      cases k : frzs ρ.length mh' _ with
      | none => rw [k] at e; cases e
      | some l' => rw [k] at e; cases e; exact .cons (frz_ok h' hp h hw) (frzs_ok h' hp r k)
    · cases e
end
open Classical in
/-- behind a call: if nothing that stood was written, only what comes back is kept -/
noncomputable def drop (mh : Mh) (r : Res PV) : Res PV := match r with
  | .ok v mh' => if mh'.take mh.length = mh then (match frz mh.length mh' v with
    | some w => .ok w mh
    | none => .ok v mh') else .ok v mh'
  | .exc c mh' => if mh'.take mh.length = mh then .exc c mh else .exc c mh'
  | .bad => .bad
@[simp] theorem drop_bad (mh : Mh) : drop mh .bad = .bad := rfl
theorem drop_ok {g : List MO} {v w : PV} (h : frz mh.length (mh ++ g) v = some w) : drop mh (.ok v (mh ++ g)) = .ok w mh := by
  unfold drop
  dsimp only
  rw [if_pos List.take_left, h]
@[simp] theorem drop_d {g : List MO} {x : PyData} : drop mh (.ok (.d x) (mh ++ g)) = .ok (.d x) mh := drop_ok (by simp)
@[simp] theorem drop_d0 {x : PyData} : drop mh (.ok (.d x) mh) = .ok (.d x) mh := by
  have := drop_d (mh := mh) (g := []) (x := x)
  simpa using this
@[simp] theorem drop_exc {g : List MO} {c : Nat} : drop mh (.exc c (mh ++ g)) = .exc c mh := by
  unfold drop
  dsimp only
  rw [if_pos List.take_left]
@[simp] theorem drop_exc0 {c : Nat} : drop mh (.exc c mh) = .exc c mh := by
  have := drop_exc (mh := mh) (g := []) (c := c)
  simpa using this
variable {E : XK}
theorem Post.ofDrop {r : Res PV} {Q : VK} (rh : RH K cls Z ρ mh H) (h : Post K cls E Z ρ H (drop mh r) fun w ρ' _ H' => ∀ z, RV K Z ρ' H' w z → Q z H') : Post K cls E Z ρ H r fun w ρ' _ H' => ∀ z, RV K Z ρ' H' w z → Q z H' := by
  cases r with
  | bad => exact h
  | exc c mh' =>
    unfold drop at h
    dsimp only at h
    split at h
    · rename_i k
      exact fun ρ' H' e r => h ρ H' ⟨List.prefix_refl _, e.keep, fun _ m n => absurd m n⟩ (rh.back e r k)
    · exact h
  | ok v mh' =>
    unfold drop at h
    dsimp only at h
    split at h
    · rename_i k
      split at h
      · rename_i w hw
        intro ρ' H' e r z rz
        rw [← rh.len] at hw
        exact h ρ H' ⟨List.prefix_refl _, e.keep, fun _ m n => absurd m n⟩ (rh.back e r k) z (frz_ok r e.pre rz hw)
      · exact h
    · exact h
end
/-! ### calls -/
abbrev FM := List PV → Mh → Res PV
/-- a def's promise: it does what mf tells -/
def spM (K : PySem.W.Frag) (cls : Nat → Addr) (n : Nat) (mf : FM) : Sp := fun vs H Q E => ∃ Z ρ mh args, args.length = n ∧ RH K cls Z ρ mh H ∧ RVs K Z ρ H args vs ∧ Post K cls E Z ρ H (mf args mh) fun w ρ' _ H' => ∀ z, RV K Z ρ' H' w z → Q z H'
noncomputable def mCall (n : Nat) (mf : FM) (ma : AM) : EM := fun lo mh => (ma lo mh).bind fun vs mh1 => if vs.length = n then EL.drop mh1 (mf vs mh1) else .bad
def mCallR (n : Nat) (mf : FM) (ma : AM) : EM := fun lo mh => (ma lo mh).bind fun vs mh1 => if vs.length = n then mf vs mh1 else .bad
section
variable {X : Cx} {cls : Nat → Addr} {e o : Expr} {es : List Expr} {pos p apos : Pos} {k n : Nat} {f : Addr} {fd : FuncData} {ps : List Str} {mf : FM} {x m : Str} {ma : AM}
theorem JE_callR (c : COk X) (F : FnOk X.prog X.w X.K X.mg X.base (L2.CX X.prog X.w) k f fd ps (spM X.K cls n mf)) (hr : Room k X.A) (hg : Gl X x) (hm : X.mg x = some (.ref f)) (hk : PySem.W.keepIn X.K (.ref f) = true) (hb : Binds X.K fd ps [])
    (ha : JA X cls (e :: es) ma) (hdb : (x == ("__debug__" : Str)) = false) (he : starEach (e :: es) X.env = (false, eval e X.env) :: starEach es X.env) (hpl : (backTo pos (starEach es X.env)).any (·.1) = false) : JE X cls (.Call (.Name x p) (e :: es) [] pos) (mCallR n mf ma) := fun E hx =>
  .of c ((pe_call F hr hg hm hk hb .nil hx (ha E hx) hdb he hpl).imp fun σ H Q ⟨Z, ρ, lo, mh, s, q⟩ => by
    refine ⟨Z, ρ, lo, mh, s, (Post.bind q).imp ?_⟩
    intro vs ρ1 mh1 H1 e1 r1 q xs rx
    by_cases hl : vs.length = n
    · rw [if_pos hl] at q
      exact ⟨Z, ρ1, mh1, vs, hl, r1, by rw [List.append_nil]; exact rx, q⟩
    · rw [if_neg hl] at q; exact q.elim) fun _ _ _ => rfl
theorem JE_call (c : COk X) (F : FnOk X.prog X.w X.K X.mg X.base (L2.CX X.prog X.w) k f fd ps (spM X.K cls n mf)) (hr : Room k X.A) (hg : Gl X x) (hm : X.mg x = some (.ref f)) (hk : PySem.W.keepIn X.K (.ref f) = true) (hb : Binds X.K fd ps [])
    (ha : JA X cls (e :: es) ma) (hdb : (x == ("__debug__" : Str)) = false) (he : starEach (e :: es) X.env = (false, eval e X.env) :: starEach es X.env) (hpl : (backTo pos (starEach es X.env)).any (·.1) = false) : JE X cls (.Call (.Name x p) (e :: es) [] pos) (mCall n mf ma) := fun E hx =>
  .of c ((pe_call F hr hg hm hk hb .nil hx (ha E hx) hdb he hpl).imp fun σ H Q ⟨Z, ρ, lo, mh, s, q⟩ => by
    refine ⟨Z, ρ, lo, mh, s, (Post.bind q).imp ?_⟩
    intro vs ρ1 mh1 H1 e1 r1 q xs rx
    by_cases hl : vs.length = n
    · rw [if_pos hl] at q
      exact ⟨Z, ρ1, mh1, vs, hl, r1, by rw [List.append_nil]; exact rx, .ofDrop r1 q⟩
    · rw [if_neg hl] at q; exact q.elim) fun _ _ _ => rfl
theorem JE_call0 (c : COk X) (F : FnOk X.prog X.w X.K X.mg X.base (L2.CX X.prog X.w) k f fd ps (spM X.K cls 0 mf)) (hr : Room k X.A) (hg : Gl X x) (hm : X.mg x = some (.ref f)) (hk : PySem.W.keepIn X.K (.ref f) = true) (hb : Binds X.K fd ps []) (hdb : (x == ("__debug__" : Str)) = false) :
    JE X cls (.Call (.Name x p) [] [] pos) (mCall 0 mf aNil) := fun E hx =>
  .of c ((pe_call0 F hr hg hm hk hb .nil hx hdb).imp fun σ H Q ⟨Z, ρ, lo, mh, s, q⟩ => ⟨Z, ρ, mh, [], rfl, s.hp, .nil, .ofDrop s.hp q⟩) fun _ _ _ => rfl
/-! ### instances -/
theorem RF.look {K : PySem.W.Frag} {Z ρ : List Addr} {H : Hp} {g : Str} : ∀ {fs : List (Str × PV)} {gs : List (Str × V)}, RF K Z ρ H fs gs → (fs.lookup g = none ∧ gs.lookup g = none) ∨ ∃ v w, fs.lookup g = some v ∧ gs.lookup g = some w ∧ RV K Z ρ H v w
  | _, _, .nil => .inl ⟨rfl, rfl⟩
  | _, _, .cons (f := f) h r => by
    rw [List.lookup_cons, List.lookup_cons]
    cases g == f with
    | true => exact .inr ⟨_, _, rfl, rfl, h⟩
    | false => exact RF.look r
/-- o.f, o of one of the classes cs -/
def mAttr (cs : List Nat) (f : Str) (mo : EM) : EM := fun lo mh => (mo lo mh).bind fun v mh1 => match v with
  | .ref n => match mh1[n]? with
    | some (.ins c fs) => if c ∈ cs then (match fs.lookup f with
      | some w => .ok w mh1
      | none => .bad) else .bad
    | _ => .bad
  | _ => .bad
theorem JE_attr (c : COk X) {cs : List Nat} {g : Str} {mo : EM} (ho : JE X cls o mo) (hc : ∀ k, k ∈ cs → Cls X.K (cls k) ∧ NoAttr X.K (cls k) g) (hb : attributeBase o g X.env (eval o X.env) = eval o X.env) : JE X cls (.Attribute o g pos) (mAttr cs g mo) := fun E hx =>
  .of c ((pe_fld (ho E hx).pe hb).imp fun σ H Q ⟨Z, ρ, lo, mh, s, q⟩ => by
    refine ⟨Z, ρ, lo, mh, s, (Post.bind q).imp ?_⟩
    intro v ρ1 mh1 H1 e1 r1 q y ry
    split at q
    · rename_i n
      split at q
      · rename_i ck fs hn
        split at q
        · rename_i hk
          cases ry with
          | @ref _ a ha =>
            cases r1.objs n _ a hn ha with
            | @ins _ _ gs dx _ h2 r2 =>
              rcases r2.look (g := g) with ⟨q1, _⟩ | ⟨w, w', q1, q2, q3⟩
              · rw [q1] at q; exact q.elim
              · rw [q1] at q
                exact ⟨a, _, dx, gs, w', rfl, h2, (hc ck hk).1, (hc ck hk).2, q2, q.now r1 _ q3⟩
        · exact q.elim
      · exact q.elim
    · exact q.elim) fun _ _ _ => rfl
/-- o.m(..), o of the class c -/
noncomputable def mMeth (c n : Nat) (m : Str) (mf : FM) (mo : EM) (ma : AM) : EM := fun lo mh => (mo lo mh).bind fun v mh1 => match v with
  | .ref j => match mh1[j]? with
    | some (.ins c' fs) => if c' = c ∧ (fs.lookup m).isNone = true then (ma lo mh1).bind fun vs mh2 => if vs.length + 1 = n then EL.drop mh2 (mf (.ref j :: vs) mh2) else .bad else .bad
    | _ => .bad
  | _ => .bad
theorem tE_meth {E : XK} {c : Nat} {mo : EM} {σ : L2.St} {H : Hp} {Q : VK} (h : tE X.K cls E (mMeth c n m mf mo ma) σ H Q) : tMeth (cls c) m (spM X.K cls n mf) [] E (tE X.K cls E mo) (tA X.K cls E ma) σ H Q := by
  obtain ⟨Z, ρ, lo, mh, s, q⟩ := h
  have q0 := Post.bind q
  clear q
  refine ⟨Z, ρ, lo, mh, s, q0.imp ?_⟩
  clear q0
  intro v ρ1 mh1 H1 e1 r1 q y ry
  split at q
  · rename_i j
    split at q
    · rename_i ck fs hn
      split at q
      · rename_i hk
        obtain ⟨rfl, hnone⟩ := hk
        cases ry with
        | @ref _ a ha =>
          cases r1.objs j _ a hn ha with
          | @ins _ _ gs dx _ h2 r2 =>
            refine ⟨a, dx, gs, rfl, h2, ?_, Z, ρ1, lo, mh1, s.to e1 r1, (Post.bind q).imp ?_⟩
            · rcases r2.look (g := m) with ⟨_, q2⟩ | ⟨w, w', q1, _, _⟩
              · exact q2
              · rw [q1] at hnone; cases hnone
            · intro vs ρ2 mh2 H2 e2 r3 q2 xs rx
              split at q2
              · rename_i hl
                exact ⟨Z, ρ2, mh2, .ref j :: vs, hl, r3, by rw [List.append_nil]; exact .cons (.ref (e2.at ha)) rx, .ofDrop r3 q2⟩
              · exact q2.elim
      · exact q.elim
    · exact q.elim
  · exact q.elim
theorem JE_meth (c : COk X) {j : Nat} {pl : Sem Bool} {mo : EM} (ho : JE X cls o mo) (hc : Cls X.K (cls j)) (hm : Meth X.K (cls j) m f) (F : FnOk X.prog X.w X.K X.mg X.base (L2.CX X.prog X.w) k f fd ps (spM X.K cls n mf)) (hr : Room k X.A) (hb : Binds X.K fd ps []) (ha : JA X cls (e :: es) ma)
    (hst : starEach (e :: es) X.env = (false, eval e X.env) :: starEach es X.env) (hpl : (backTo pos (starEach es X.env)).any (·.1) = false)
    (ht : eval (.Call (.Attribute o m apos) (e :: es) [] pos) X.env = (do
      let ov ← eval o X.env
      standAt apos.atName
      let (f, first) ← holding [ov] (getMethod ov m pl)
      callWith pos f first (backTo pos (starEach (e :: es) X.env)) (backToKw pos (keywordEach [] X.env)))) :
    JE X cls (.Call (.Attribute o m apos) (e :: es) [] pos) (mMeth j n m mf mo ma) := fun E hx =>
  .of c ((pe_meth (ho E hx).pe hc hm F hr hb .nil hx (ha E hx) hst hpl ht).imp fun σ H Q h => tE_meth h) fun _ _ _ => rfl
theorem tNil_of {K : PySem.W.Frag} {E : XK} {σ : L2.St} {H : Hp} {Q : List V → Hp → Prop} (h : tA K cls E aNil σ H Q) : tNil σ H Q := by
  obtain ⟨Z, ρ, lo, mh, s, q⟩ := h
  exact q.now s.hp _ .nil
theorem JE_meth0 (c : COk X) {j : Nat} {pl : Sem Bool} {mo : EM} (ho : JE X cls o mo) (hc : Cls X.K (cls j)) (hm : Meth X.K (cls j) m f) (F : FnOk X.prog X.w X.K X.mg X.base (L2.CX X.prog X.w) k f fd ps (spM X.K cls n mf)) (hr : Room k X.A) (hb : Binds X.K fd ps [])
    (ht : eval (.Call (.Attribute o m apos) [] [] pos) X.env = (do
      let ov ← eval o X.env
      standAt apos.atName
      let (f, first) ← holding [ov] (getMethod ov m pl)
      callWith pos f first (backTo pos (starEach [] X.env)) (backToKw pos (keywordEach [] X.env)))) :
    JE X cls (.Call (.Attribute o m apos) [] [] pos) (mMeth j n m mf mo aNil) := fun E hx =>
  .of c ((pe_meth0 (ho E hx).pe hc hm F hr hb .nil hx ht).imp fun σ H Q h => by
    have h2 := tE_meth h
    obtain ⟨Z, ρ, lo, mh, s, q⟩ := h2
    refine ⟨Z, ρ, lo, mh, s, q.imp fun v ρ' mh' H' _ _ q x rx => ?_⟩
    obtain ⟨a, dx, fs, e1, e2, e3, q⟩ := q x rx
    exact ⟨a, dx, fs, e1, e2, e3, tNil_of q⟩) fun _ _ _ => rfl
/-- either way -/
def altE (m1 m2 : EM) : EM := fun lo mh => match m1 lo mh with
  | .bad => m2 lo mh
  | r => r
theorem PEs_or {e : Expr} {t t' : TE} (h : PEs X e t) (h' : PEs X e t') : PEs X e fun σ H Q => t σ H Q ∨ t' σ H Q :=
  ⟨⟨fun pins s σ H Q I q => q.elim (h.pe.run pins s σ H Q I) (h'.pe.run pins s σ H Q I)⟩, fun y i py spos hi hl hf => ⟨fun pins s σ H D I q => q.elim ((h.set y i py spos hi hl hf).run pins s σ H D I) ((h'.set y i py spos hi hl hf).run pins s σ H D I)⟩⟩
theorem JE_alt {e : Expr} {m1 m2 : EM} (h : JE X cls e m1) (h' : JE X cls e m2) : JE X cls e (altE m1 m2) := fun E hx =>
  (PEs_or (h E hx) (h' E hx)).imp fun σ H Q ⟨Z, ρ, lo, mh, s, q⟩ => by
    unfold altE at q
    cases k : m1 lo mh with
    | bad => rw [k] at q; exact .inr ⟨Z, ρ, lo, mh, s, q⟩
    | ok v m => rw [k] at q; exact .inl ⟨Z, ρ, lo, mh, s, by rw [k]; exact q⟩
    | exc v m => rw [k] at q; exact .inl ⟨Z, ρ, lo, mh, s, by rw [k]; exact q⟩
/-- C(..) -/
def mkNew (c : Nat) (mf : FM) (vs : List PV) (mh : Mh) : Res PV := (mf (.ref mh.length :: vs) (mh ++ [.ins c []])).bind fun v mh2 => if pvNone v = true then .ok (.ref mh.length) mh2 else .bad
def mNew (c n : Nat) (mf : FM) (ma : AM) : EM := fun lo mh => (ma lo mh).bind fun vs mh1 => if vs.length + 1 = n then mkNew c mf vs mh1 else .bad
theorem JE_new (c : COk X) {j : Nat} (M : Mk X.K (cls j) f) (F : FnOk X.prog X.w X.K X.mg X.base (L2.CX X.prog X.w) k f fd ps (spM X.K cls n mf)) (hr : Room (k + 1) X.A) (hg : Gl X x) (hm : X.mg x = some (.ref (cls j))) (hb : Binds X.K fd ps []) (ha : JA X cls (e :: es) ma)
    (hdb : (x == ("__debug__" : Str)) = false) (he : starEach (e :: es) X.env = (false, eval e X.env) :: starEach es X.env) (hpl : (backTo pos (starEach es X.env)).any (·.1) = false) : JE X cls (.Call (.Name x p) (e :: es) [] pos) (mNew j n mf ma) := fun E hx =>
  .of c ((pe_make M F hr hg hm hb .nil hx (ha E hx) hdb he hpl).imp fun σ H Q ⟨Z, ρ, lo, mh, s, q⟩ => by
    refine ⟨Z, ρ, lo, mh, s, (Post.bind q).imp ?_⟩
    intro vs ρ1 mh1 H1 e1 r1 q xs rx a dx ha hdx hne
    split at q
    · rename_i hl
      have ha2 : (upd H1 dx (.own a)) a = none := by rw [upd_ne (Ne.symm hne)]; exact ha
      have r2 := r1.new (o := .own a) hdx
      have e2 : Ext ρ1 H1 ρ1 (upd H1 dx (.own a)) := Ext.new hdx
      have e3 : Ext ρ1 (upd H1 dx (.own a)) (ρ1 ++ [a]) (upd (upd H1 dx (.own a)) a (.ins (cls j) dx [])) := Ext.alloc ha2
      have r3 : RH X.K cls Z (ρ1 ++ [a]) (mh1 ++ [.ins j []]) (upd (upd H1 dx (.own a)) a (.ins (cls j) dx [])) := r2.alloc ha2 (.ins upd_same .nil)
      refine ⟨Z, ρ1 ++ [a], mh1 ++ [.ins j []], .ref mh1.length :: vs, hl, r3, ?_, ?_⟩
      · rw [List.append_nil]
        exact .cons (.ref (by rw [← r1.len]; exact at_last _ _)) (rx.mono (e2.trans e3))
      · refine (Post.bind (q.later (e2.trans e3))).imp ?_
        intro v ρ4 mh4 H4 e4 r4 q4 z rz
        split at q4
        · rename_i hz
          refine ⟨?_, q4.now r4 _ (.ref (e4.at (by rw [← r1.len]; exact at_last _ _)))⟩
          have := none_iff rz
          rw [hz] at this
          exact of_decide_eq_true this.symm
        · exact q4.elim
    · exact q.elim) fun _ _ _ => rfl
end
end EL


set_option Elab.async false
set_option linter.all false
set_option maxRecDepth 100000
set_option maxHeartbeats 4000000
/-! EL: statements, and a def by its body. -/
namespace EL
open PySem L2

structure SOk (X : Cx) : Prop extends COk X where
  hp : PassesOwn (model X.prog X.w) X.A X.env X.xe
inductive SR where
  | nx (lo : Lo) (mh : Mh)
  | rt (v : PV) (mh : Mh)
  | bk (lo : Lo) (mh : Mh)
  | ct (lo : Lo) (mh : Mh)
  | exc (c : Nat) (mh : Mh)
  | bad
abbrev SM := Lo → Mh → SR
def ofR {α : Type} (r : Res α) (f : α → Mh → SR) : SR := match r with
  | .ok v mh => f v mh
  | .exc c mh => .exc c mh
  | .bad => .bad
@[simp] theorem ofR_ok {α : Type} (v : α) (mh : Mh) (f : α → Mh → SR) : ofR (.ok v mh) f = f v mh := rfl
@[simp] theorem ofR_exc {α : Type} (c : Nat) (mh : Mh) (f : α → Mh → SR) : ofR (.exc c mh : Res α) f = .exc c mh := rfl
@[simp] theorem ofR_bad {α : Type} (f : α → Mh → SR) : ofR (.bad : Res α) f = .bad := rfl
def PostS (K : PySem.W.Frag) (cls : Nat → Addr) (D : Ends) (E : XK) (Z ρ : List Addr) (H : Hp) (r : SR) : Prop := match r with
  | .nx lo mh => ∀ ρ' H' σ', Ext ρ H ρ' H' → RS K cls Z ρ' lo mh σ' H' → D.nx σ' H'
  | .bk lo mh => ∀ ρ' H' σ', Ext ρ H ρ' H' → RS K cls Z ρ' lo mh σ' H' → D.bk σ' H'
  | .ct lo mh => ∀ ρ' H' σ', Ext ρ H ρ' H' → RS K cls Z ρ' lo mh σ' H' → D.ct σ' H'
  | .rt v mh => ∀ ρ' H' x, Ext ρ H ρ' H' → RH K cls Z ρ' mh H' → RV K Z ρ' H' v x → D.rt x H'
  | .exc c mh => ∀ ρ' H', Ext ρ H ρ' H' → RH K cls Z ρ' mh H' → E (.ref (cls c)) none H'
  | .bad => False
def tS (K : PySem.W.Frag) (cls : Nat → Addr) (E : XK) (m : SM) : TS := fun D σ H => ∃ Z ρ lo mh, RS K cls Z ρ lo mh σ H ∧ PostS K cls D E Z ρ H (m lo mh)
abbrev wOf (E : XK) : WX := fun c d _ H => E c d H
def JS (X : Cx) (cls : Nat → Addr) (st : Stmt) (m : SM) : Prop := ∀ E, Takes X (wOf E) → PS X st (tS X.K cls E m)
def JSs (X : Cx) (cls : Nat → Addr) (st : List Stmt) (m : SM) : Prop := ∀ E, Takes X (wOf E) → PSs X st (tS X.K cls E m)
theorem passT {X : Cx} {E : XK} (tk : Takes X (wOf E)) : Passes (L2.CX X.prog X.w) X E := passes_call tk fun _ _ _ _ h => h
section
variable {K : PySem.W.Frag} {cls : Nat → Addr} {E : XK} {D : Ends} {Z ρ ρ' : List Addr} {H H' : Hp} {α : Type}
theorem PostS.later {r : SR} (h : PostS K cls D E Z ρ H r) (e : Ext ρ H ρ' H') : PostS K cls D E Z ρ' H' r := by
  cases r with
  | nx lo mh => exact fun ρ2 H2 σ2 e2 s => h ρ2 H2 σ2 (e.trans e2) s
  | bk lo mh => exact fun ρ2 H2 σ2 e2 s => h ρ2 H2 σ2 (e.trans e2) s
  | ct lo mh => exact fun ρ2 H2 σ2 e2 s => h ρ2 H2 σ2 (e.trans e2) s
  | rt v mh => exact fun ρ2 H2 x e2 s => h ρ2 H2 x (e.trans e2) s
  | exc c mh => exact fun ρ2 H2 e2 s => h ρ2 H2 (e.trans e2) s
  | bad => exact h
theorem PostS.bind {r : Res α} {f : α → Mh → SR} (h : PostS K cls D E Z ρ H (ofR r f)) : Post K cls E Z ρ H r fun v ρ1 mh1 H1 => PostS K cls D E Z ρ1 H1 (f v mh1) := by
  cases r with
  | ok v mh' => exact fun ρ' H' e r => h.later e
  | exc c mh' => exact h
  | bad => exact h
theorem PostS.nxt {lo : Lo} {mh : Mh} {σ : L2.St} (h : PostS K cls D E Z ρ H (.nx lo mh)) (s : RS K cls Z ρ lo mh σ H) : D.nx σ H := h ρ H σ (Ext.refl _ _) s
theorem PostS.ret {v : PV} {mh : Mh} {x : V} (h : PostS K cls D E Z ρ H (.rt v mh)) (s : RH K cls Z ρ mh H) (r : RV K Z ρ H v x) : D.rt x H := h ρ H x (Ext.refl _ _) s r
end
section
variable {X : Cx} {cls : Nat → Addr} {st : Stmt} {rest : List Stmt} {e o i : Expr} {pos : Pos} {m m' : SM}
/-! ### blocks -/
def sNil : SM := fun lo mh => .nx lo mh
def sSeq (m m' : SM) : SM := fun lo mh => match m lo mh with
  | .nx lo' mh' => m' lo' mh'
  | r => r
theorem JSs_nil : JSs X cls [] sNil := fun E _ => pss_nil.imp fun D σ H ⟨Z, ρ, lo, mh, s, p⟩ => p.nxt s
theorem JSs_cons (h : JS X cls st m) (h' : JSs X cls rest m') : JSs X cls (st :: rest) (sSeq m m') := fun E tk =>
  (pss_cons (h E tk) (h' E tk)).imp fun D σ H ⟨Z, ρ, lo, mh, s, p⟩ => by
    refine ⟨Z, ρ, lo, mh, s, ?_⟩
    unfold sSeq at p
    cases k : m lo mh with
    | nx lo' mh' => rw [k] at p; exact fun ρ' H' σ' e s' => ⟨Z, ρ', lo', mh', s', p.later e⟩
    | bk lo' mh' => rw [k] at p; exact p
    | ct lo' mh' => rw [k] at p; exact p
    | rt v mh' => rw [k] at p; exact p
    | exc c mh' => rw [k] at p; exact p
    | bad => rw [k] at p; exact p
theorem JSs_one (h : JS X cls st m) : JSs X cls [st] m := fun E tk => pss_one (h E tk)
theorem JS_pass : JS X cls (.Pass pos) sNil := fun E _ => ps_pass.imp fun D σ H ⟨Z, ρ, lo, mh, s, p⟩ => p.nxt s
def sBrk : SM := fun lo mh => .bk lo mh
def sCnt : SM := fun lo mh => .ct lo mh
theorem JS_break : JS X cls (.Break pos) sBrk := fun E _ => ps_break.imp fun D σ H ⟨Z, ρ, lo, mh, s, p⟩ => p ρ H σ (Ext.refl _ _) s
theorem JS_continue : JS X cls (.Continue pos) sCnt := fun E _ => ps_continue.imp fun D σ H ⟨Z, ρ, lo, mh, s, p⟩ => p ρ H σ (Ext.refl _ _) s
/-- never come to -/
def sNever : SM := fun _ _ => .bad
theorem JS_never : JS X cls st sNever := fun E _ => ps_never.imp fun D σ H ⟨_, _, _, _, _, p⟩ => p
theorem JSs_never : JSs X cls rest sNever := fun E _ => pss_never.imp fun D σ H ⟨_, _, _, _, _, p⟩ => p
/-! ### small statements -/
def sExpr (me : EM) : SM := fun lo mh => ofR (me lo mh) fun _ mh1 => .nx lo mh1
theorem JS_expr {me : EM} (h : JE X cls e me) (hs : swapsWith e none pos.line X.env = pure false) : JS X cls (.Expr e pos) (sExpr me) := fun E tk =>
  (ps_expr (h E (passT tk)).pe hs).imp fun D σ H ⟨Z, ρ, lo, mh, s, p⟩ => ⟨Z, ρ, lo, mh, s, (PostS.bind p).imp fun v ρ1 mh1 H1 e r q x rx => q.nxt (s.to e r)⟩
def sRet (me : EM) : SM := fun lo mh => ofR (me lo mh) fun v mh1 => .rt v mh1
theorem JS_ret {me : EM} (h : JE X cls e me) : JS X cls (.Return (some e) pos) (sRet me) := fun E tk =>
  (ps_ret (h E (passT tk)).pe).imp fun D σ H ⟨Z, ρ, lo, mh, s, p⟩ => ⟨Z, ρ, lo, mh, s, (PostS.bind p).imp fun v ρ1 mh1 H1 e r q x rx => q.ret r rx⟩
def sRetN : SM := fun _ mh => .rt (.d .none) mh
theorem JS_retN : JS X cls (.Return none pos) sRetN := fun E tk => ps_retN.imp fun D σ H ⟨Z, ρ, lo, mh, s, p⟩ => p.ret s.hp (.d .non)
def sIf (mt : BM) (m m' : SM) : SM := fun lo mh => ofR (mt lo mh) fun b mh1 => if b = true then m lo mh1 else m' lo mh1
theorem JS_if {t : Expr} {a b : List Stmt} {mt : BM} (ht : JT X cls t mt) (ha : JSs X cls a m) (hb : JSs X cls b m') : JS X cls (.If t a b pos) (sIf mt m m') := fun E tk =>
  (ps_if (ht E (passT tk)) (ha E tk) (hb E tk)).imp fun D σ H ⟨Z, ρ, lo, mh, s, p⟩ => by
    refine ⟨Z, ρ, lo, mh, s, (PostS.bind p).imp fun v ρ1 mh1 H1 e r q x rx => ?_⟩
    subst rx
    cases v with
    | true => rw [if_pos rfl] at q ⊢; exact ⟨Z, ρ1, lo, mh1, s.to e r, q⟩
    | false => rw [if_neg (by decide)] at q ⊢; exact ⟨Z, ρ1, lo, mh1, s.to e r, q⟩
/-! ### assignments -/
def sSet (i : Nat) (me : EM) : SM := fun lo mh => ofR (me lo mh) fun v mh1 => .nx (lo.set i (some v)) mh1
theorem JS_set {y : Str} {py : Pos} {i : Nat} {me : EM} (h : JE X cls e me) (hi : X.N[i]? = some y) (hl : Loc X.env.scope y) (hf : X.fn y = true ∨ X.env.scope.names.lookup y = some .local) : JS X cls (.Assign [.Name y py] e pos) (sSet i me) := fun E tk =>
  ((h E (passT tk)).set y i py pos hi hl hf).imp fun D σ H ⟨Z, ρ, lo, mh, s, p⟩ => ⟨Z, ρ, lo, mh, s, (PostS.bind p).imp fun v ρ1 mh1 H1 e r q x rx => q.nxt ((s.to e r).set rx)⟩
def sTg (t : Tg) (me : EM) : SM := fun lo mh => ofR (me lo mh) fun v mh1 => match tgt t v with
  | some us => .nx (upL lo us) mh1
  | none => .bad
theorem sw_tup : ∀ (e : Expr) (ts : List Expr) (k : Nat) (p : Pos) (l : Nat) (env : Env), swapsWithSole [.Tuple ts k p] e l env = pure false := by intro e; cases e <;> intros <;> rfl
theorem JS_tg (c : COk X) {tg : Expr} {t : Tg} {me : EM} (h : JE X cls e me) (hg : JG X cls tg t) (hs : swapsWithSole [tg] e pos.line X.env = pure false) (hw : swappedStores [tg] e X.env = pure none)
    (h1 : (assignEach [tg] X.env).map (·.2) = [assign tg X.env]) : JS X cls (.Assign [tg] e pos) (sTg t me) := fun E tk =>
  (ps_asg (h E (passT tk)).pe hg hs hw h1).imp fun D σ H ⟨Z, ρ, lo, mh, s, p⟩ => ⟨Z, ρ, lo, mh, s, (PostS.bind p).imp fun v ρ1 mh1 H1 e r q x rx => by
    try dsimp only at q
    split at q
    · rename_i us hu
      exact ⟨Z, ρ1, mh1, v, us, r, rx, hu, fun ws ru => q.nxt ((s.to e r).ups ru)⟩
    · exact q.elim⟩
/-- a, b = x, y -/
def sPar (is : List Nat) (ma : AM) : SM := fun lo mh => ofR (ma lo mh) fun vs mh1 => if vs.length = is.length then .nx (upL lo (is.zip vs)) mh1 else .bad
theorem JS_par2 (c : COk X) {i j : Nat} {x y : Str} {a b : Expr} {ma : AM} {px py pt : Pos} {kt k2 pt2} (hi : X.N[i]? = some x) (hj : X.N[j]? = some y) (hij : i ≠ j) (hx : X.env.scope.names.lookup x = some .local) (hy : X.env.scope.names.lookup y = some .local) (ha : JA X cls [a, b] ma)
    (hw : swappedStores [.Tuple [.Name x px, .Name y py] kt pt] (.Tuple [a, b] k2 pt2) X.env = pure (some [x, y])) : JS X cls (.Assign [.Tuple [.Name x px, .Name y py] kt pt] (.Tuple [a, b] k2 pt2) pos) (sPar [i, j] ma) := fun E tk =>
  (ps_par c.calm c.nd hi hj hij hx hy (ha E (passT tk)) hw).imp fun D σ H ⟨Z, ρ, lo, mh, s, p⟩ => ⟨Z, ρ, lo, mh, s, (PostS.bind p).imp fun vs ρ1 mh1 H1 e r q xs rx => by
    try dsimp only at q
    split at q
    · rename_i hl
      cases rx with
      | nil => simp at hl
      | cons r1 rx => cases rx with
        | nil => simp at hl
        | cons r2 rx => cases rx with
          | nil => exact ⟨_, _, rfl, q.nxt (((s.to e r).set r1).set r2)⟩
          | cons _ _ => simp at hl
    · exact q.elim⟩
theorem JS_par3 (c : COk X) {i j l : Nat} {x y z : Str} {a b d : Expr} {ma : AM} {px py pz pt : Pos} {kt k2 pt2} (hi : X.N[i]? = some x) (hj : X.N[j]? = some y) (hk : X.N[l]? = some z) (hij : i ≠ j) (hil : i ≠ l) (hjl : j ≠ l) (hx : X.env.scope.names.lookup x = some .local) (hy : X.env.scope.names.lookup y = some .local) (hz : X.env.scope.names.lookup z = some .local) (ha : JA X cls [a, b, d] ma)
    (hw : swappedStores [.Tuple [.Name x px, .Name y py, .Name z pz] kt pt] (.Tuple [a, b, d] k2 pt2) X.env = pure (some [x, y, z])) : JS X cls (.Assign [.Tuple [.Name x px, .Name y py, .Name z pz] kt pt] (.Tuple [a, b, d] k2 pt2) pos) (sPar [i, j, l] ma) := fun E tk =>
  (ps_par3 c.calm c.nd hi hj hk hij hil hjl hx hy hz (ha E (passT tk)) hw).imp fun D σ H ⟨Z, ρ, lo, mh, s, p⟩ => ⟨Z, ρ, lo, mh, s, (PostS.bind p).imp fun vs ρ1 mh1 H1 e r q xs rx => by
    try dsimp only at q
    split at q
    · rename_i hl
      cases rx with
      | nil => simp at hl
      | cons r1 rx => cases rx with
        | nil => simp at hl
        | cons r2 rx => cases rx with
          | nil => simp at hl
          | cons r3 rx => cases rx with
            | nil => exact ⟨_, _, _, rfl, q.nxt ((((s.to e r).set r1).set r2).set r3)⟩
            | cons _ _ => simp at hl
    · exact q.elim⟩
/-- x op= e -/
def sAug (i : Nat) (me : EM) (op : Op2) : SM := fun lo mh => match lo[i]? with
  | some (some v) => ofR (me lo mh) fun u mh1 => ofR (op v u mh1) fun w mh2 => .nx (lo.set i (some w)) mh2
  | _ => .bad
theorem JS_aug (c : COk X) {y : Str} {py : Pos} {i : Nat} {me : EM} {op : Operator} {f : Op2} (hi : X.N[i]? = some y) (hl : Loc X.env.scope y) (hf : X.fn y = true ∨ X.env.scope.names.lookup y = some .local) (h : JE X cls e me) (ho : OpV X cls (inplaceOp op) f) : JS X cls (.AugAssign (.Name y py) op e pos) (sAug i me f) := fun E tk =>
  (ps_aug c.nd hi hl (h E (passT tk)).pe (ho E) hf).imp fun D σ H ⟨Z, ρ, lo, mh, s, p⟩ => by
    unfold sAug at p
    split at p
    · rename_i v hv
      obtain ⟨x, hx, rx⟩ := s.loc i v hv
      refine ⟨x, hx, Z, ρ, lo, mh, s, (PostS.bind p).imp fun u ρ1 mh1 H1 e r q y ry => ?_⟩
      exact ⟨Z, ρ1, mh1, v, u, r, rx.mono e, ry, (PostS.bind q).imp fun w ρ2 mh2 H2 e2 r2 q2 z rz => q2.nxt (((s.to e r).to e2 r2).set rz)⟩
    · exact p.elim
theorem vIAddI : OpV X cls (inplaceOp .Add) oAddI := oI_int0 iop_add
theorem vISubI : OpV X cls (inplaceOp .Sub) oSubI := oI_int0 iop_sub
theorem vIMulI : OpV X cls (inplaceOp .Mult) oMulI := oI_int iop_mul
/-- o.f = e -/
def putP (f : Str) (v : PV) : List (Str × PV) → List (Str × PV)
  | [] => [(f, v)]
  | (g, x) :: r => if g = f then (g, v) :: r else (g, x) :: putP f v r
theorem RF.put {K : PySem.W.Frag} {Z ρ : List Addr} {H : Hp} {f : Str} {v : PV} {x : V} (r : RV K Z ρ H v x) : ∀ {fs : List (Str × PV)} {gs : List (Str × V)}, RF K Z ρ H fs gs → RF K Z ρ H (putP f v fs) (putF f x gs)
  | _, _, .nil => .cons r .nil
  | _, _, .cons (f := g) h t => by
    unfold putP putF
    by_cases e : g = f
    · rw [if_pos e, if_pos e]; exact .cons r t
    · rw [if_neg e, if_neg e]; exact .cons h (RF.put r t)
theorem RF.length {K : PySem.W.Frag} {Z ρ : List Addr} {H : Hp} : ∀ {fs : List (Str × PV)} {gs : List (Str × V)}, RF K Z ρ H fs gs → fs.length = gs.length
  | _, _, .nil => rfl
  | _, _, .cons _ r => by simp [RF.length r]
def sFld' (cs : List Nat) (f : Str) (mo me : EM) : SM := fun lo mh => ofR (me lo mh) fun v mh1 => ofR (mo lo mh1) fun u mh2 => match u with
  | .ref n => match mh2[n]? with
    | some (.ins c fs) => if c ∈ cs ∧ fs.length < 1000 then .nx lo (mh2.set n (.ins c (putP f v fs))) else .bad
    | _ => .bad
  | _ => .bad
theorem sw_fld : ∀ (e o : Expr) (f : Str) (p : Pos) (l : Nat) (env : Env), swapsWith e (some (.Attribute o f p)) l env = pure false := by intro e; cases e <;> intros <;> rfl
theorem sw_sub : ∀ (e o i : Expr) (p : Pos) (l : Nat) (env : Env), swapsWith e (some (.Subscript o i p)) l env = pure false := by intro e; cases e <;> intros <;> rfl
theorem JS_fld {cs : List Nat} {f : Str} {mo me : EM} {pos' : Pos} (ho : JE X cls o mo) (he : JE X cls e me) (hc : ∀ k, k ∈ cs → Cls X.K (cls k) ∧ NoAttr X.K (cls k) f) : JS X cls (.Assign [.Attribute o f pos'] e pos) (sFld' cs f mo me) := fun E tk =>
  (ps_fld (ho E (passT tk)).pe (he E (passT tk)).pe (sw_fld _ _ _ _ _ _)).imp fun D σ H ⟨Z, ρ, lo, mh, s, p⟩ => by
    refine ⟨Z, ρ, lo, mh, s, (PostS.bind p).imp fun v ρ1 mh1 H1 e1 r1 q x rx => ?_⟩
    refine ⟨Z, ρ1, lo, mh1, s.to e1 r1, (PostS.bind q).imp fun u ρ2 mh2 H2 e2 r2 q2 y ry => ?_⟩
    try dsimp only at q2
    split at q2
    · rename_i n
      split at q2
      · rename_i ck fs hn
        split at q2
        · rename_i hk
          cases ry with
          | @ref _ a ha =>
            cases r2.objs n _ a hn ha with
            | @ins _ _ gs dx _ h2 rf =>
              refine ⟨a, _, dx, gs, rfl, h2, (hc ck hk.1).1, (hc ck hk.1).2, by rw [← rf.length]; exact hk.2, ?_⟩
              have ew : Ext ρ2 H2 ρ2 (upd H2 a (.ins (cls ck) dx (putF f x gs))) := Ext.write (List.mem_of_getElem? ha)
              have rw' : RH X.K cls Z ρ2 (mh2.set n (.ins ck (putP f v fs))) (upd H2 a (.ins (cls ck) dx (putF f x gs))) := r2.write ha (.ins upd_same (RF.put ((rx.mono e2).mono ew) (rf.mono ew)))
              exact (q2.later ew).nxt (((s.to e1 r1).to e2 r2).to ew rw')
        · exact q2.elim
      · exact q2.elim
    · exact q2.elim
/-! ### for, while -/
open Classical in
noncomputable def forL (g : Mh → Prop) (t : Tg) (m : SM) : List PV → SM
  | [], lo, mh => if g mh then .nx lo mh else .bad
  | v :: vs, lo, mh => if g mh then (match tgt t v with
    | some us => (match m (upL lo us) mh with
      | .nx lo' mh' => forL g t m vs lo' mh'
      | .ct lo' mh' => forL g t m vs lo' mh'
      | .bk lo' mh' => .nx lo' mh'
      | r => r)
    | none => .bad) else .bad
noncomputable def sFor (mi : IM) (t : Tg) (m : SM) : SM := fun lo mh => ofR (mi lo mh) fun lg mh1 => forL lg.2 t m lg.1 lo mh1
theorem forL_g {g : Mh → Prop} {t : Tg} {m : SM} {l : List PV} {lo : Lo} {mh : Mh} (h : forL g t m l lo mh ≠ .bad) : g mh := by
  by_cases hg : g mh
  · exact hg
  · cases l with
    | nil => simp [forL, hg] at h
    | cons v vs => simp [forL, hg] at h
theorem PostS.ne {K : PySem.W.Frag} {E : XK} {D : Ends} {Z ρ : List Addr} {H : Hp} {r : SR} (h : PostS K cls D E Z ρ H r) : r ≠ .bad := fun e => by rw [e] at h; exact h
theorem JS_for (c : SOk X) {tg iter : Expr} {body : List Stmt} {mi : IM} {t : Tg} (hi : JI X cls tg iter mi) (hg : JG X cls tg t) (hb : JSs X cls body m) (hs : ∀ x, foldedSetIterable iter X.env x = pure x) : JS X cls (.For tg iter body [] pos) (sFor mi t m) := fun E tk =>
  (ps_for c.hp c.calm (hi E (passT tk)) hg (hb E tk) hs).imp fun D σ H ⟨Z, ρ, lo, mh, s, p⟩ => by
    refine ⟨Z, ρ, lo, mh, s, (PostS.bind p).imp ?_⟩
    rintro ⟨l, g⟩ ρ1 mh1 H1 e1 r1 q
    dsimp only at q ⊢
    refine ⟨forL_g q.ne, fun J hJ => ?_⟩
    refine ⟨fun i n σ' H' => ∃ ρ' lo' mh', n + i = l.length ∧ Ext ρ1 H1 ρ' H' ∧ RS X.K cls Z ρ' lo' mh' σ' H' ∧ PostS X.K cls D E Z ρ1 H1 (forL g t m (l.drop i) lo' mh'), ⟨l.length, ρ1, lo, mh1, rfl, Ext.refl _ _, s.to e1 r1, q⟩, ?_⟩
    rintro i n σ' H' ⟨ρ', lo', mh', hn, e2, s2, q2⟩
    have hgm := forL_g q2.ne
    obtain ⟨hstop, hgo⟩ := hJ i Z ρ' mh' H' (fun z hz => .inl hz) e2 s2.hp hgm
    by_cases hil : i < l.length
    · right
      obtain ⟨go, yl⟩ := hgo _ (List.getElem?_eq_getElem hil)
      rw [List.drop_eq_getElem_cons hil] at q2
      simp only [forL, if_pos hgm] at q2
      cases ht : tgt t l[i] with
      | none => rw [ht] at q2; exact q2.elim
      | some us =>
        rw [ht] at q2
        try dsimp only at q2
        refine ⟨go, fun σ2 H2 => ∃ m', m' < n ∧ ∃ ρ' lo' mh', m' + (i + 1) = l.length ∧ Ext ρ1 H1 ρ' H2 ∧ RS X.K cls Z ρ' lo' mh' σ2 H2 ∧ PostS X.K cls D E Z ρ1 H1 (forL g t m (l.drop (i + 1)) lo' mh'), fun _ _ h => h, ?_⟩
        intro x H3 hy
        obtain ⟨e3, r3, _, rv3⟩ := yl x H3 hy
        refine ⟨Z, ρ', mh', _, us, r3, rv3, ht, fun ws ru => ⟨Z, ρ', _, mh', (s2.to e3 r3).ups ru, ?_⟩⟩
        have e13 := e2.trans e3
        cases k : m (upL lo' us) mh' with
        | nx lo2 mh2 => rw [k] at q2; exact fun ρ4 H4 σ4 e4 s4 => ⟨l.length - (i + 1), by omega, ρ4, lo2, mh2, by omega, e13.trans e4, s4, q2⟩
        | ct lo2 mh2 => rw [k] at q2; exact fun ρ4 H4 σ4 e4 s4 => ⟨l.length - (i + 1), by omega, ρ4, lo2, mh2, by omega, e13.trans e4, s4, q2⟩
        | bk lo2 mh2 => rw [k] at q2; exact fun ρ4 H4 σ4 e4 s4 => q2 ρ4 H4 σ4 (e13.trans e4) s4
        | rt v mh2 => rw [k] at q2; exact fun ρ4 H4 x4 e4 r4 => q2 ρ4 H4 x4 (e13.trans e4) r4
        | exc c mh2 => rw [k] at q2; exact fun ρ4 H4 e4 r4 => q2 ρ4 H4 (e13.trans e4) r4
        | bad => rw [k] at q2; exact q2.elim
    · left
      have hil' : l.length ≤ i := by omega
      refine ⟨hstop hil', ?_⟩
      rw [List.drop_eq_nil_of_le hil'] at q2
      simp only [forL, if_pos hgm] at q2
      exact q2 ρ' H' σ' e2 s2
def whL (mt : BM) (m : SM) : Nat → SM
  | 0, _, _ => .bad
  | n + 1, lo, mh => ofR (mt lo mh) fun b mh1 => if b = true then (match m lo mh1 with
    | .nx lo' mh' => whL mt m n lo' mh'
    | .ct lo' mh' => whL mt m n lo' mh'
    | .bk lo' mh' => .nx lo' mh'
    | r => r) else .nx lo mh1
def fuel : Nat := 2 ^ 64
def sWhile (mt : BM) (m : SM) : SM := whL mt m fuel
theorem JS_while (c : SOk X) {t : Expr} {body : List Stmt} {mt : BM} (ht : JT X cls t mt) (hb : JSs X cls body m) : JS X cls (.While t body [] pos) (sWhile mt m) := fun E tk =>
  (ps_while c.hp (ht E (passT tk)) (hb E tk)).imp fun D σ H ⟨Z, ρ, lo, mh, s, p⟩ => by
    refine ⟨fun n σ' H' => ∃ ρ' lo' mh', Ext ρ H ρ' H' ∧ RS X.K cls Z ρ' lo' mh' σ' H' ∧ PostS X.K cls D E Z ρ H (whL mt m n lo' mh'), ⟨fuel, ρ, lo, mh, Ext.refl _ _, s, p⟩, ?_⟩
    rintro n σ' H' ⟨ρ', lo', mh', e1, s1, q⟩
    cases n with
    | zero => exact q.elim
    | succ n =>
      simp only [whL] at q
      refine ⟨Z, ρ', lo', mh', s1, ?_⟩
      cases k : mt lo' mh' with
      | bad => rw [k] at q; exact q.elim
      | exc c mh2 => rw [k] at q; exact fun ρ2 H2 e2 r2 => q ρ2 H2 (e1.trans e2) r2
      | ok b mh1 =>
        rw [k] at q
        simp only [ofR_ok] at q
        intro ρ2 H2 e2 r2 b' hb'
        subst hb'
        cases b with
        | false => rw [if_neg (by decide)] at q ⊢; exact q ρ2 H2 σ' (e1.trans e2) (s1.to e2 r2)
        | true =>
          rw [if_pos rfl] at q ⊢
          refine ⟨fun σ2 H2 => ∃ m', m' < n + 1 ∧ ∃ ρ' lo' mh', Ext ρ H ρ' H2 ∧ RS X.K cls Z ρ' lo' mh' σ2 H2 ∧ PostS X.K cls D E Z ρ H (whL mt m m' lo' mh'), fun _ _ h => h, Z, ρ2, lo', mh1, s1.to e2 r2, ?_⟩
          have e12 := e1.trans e2
          cases k2 : m lo' mh1 with
          | nx lo2 mh2 => rw [k2] at q; exact fun ρ4 H4 σ4 e4 s4 => ⟨n, Nat.lt_succ_self _, ρ4, lo2, mh2, e12.trans e4, s4, q⟩
          | ct lo2 mh2 => rw [k2] at q; exact fun ρ4 H4 σ4 e4 s4 => ⟨n, Nat.lt_succ_self _, ρ4, lo2, mh2, e12.trans e4, s4, q⟩
          | bk lo2 mh2 => rw [k2] at q; exact fun ρ4 H4 σ4 e4 s4 => q ρ4 H4 σ4 (e12.trans e4) s4
          | rt v mh2 => rw [k2] at q; exact fun ρ4 H4 x4 e4 r4 => q ρ4 H4 x4 (e12.trans e4) r4
          | exc c mh2 => rw [k2] at q; exact fun ρ4 H4 e4 r4 => q ρ4 H4 (e12.trans e4) r4
          | bad => rw [k2] at q; exact q.elim
/-! ### raise, try -/
def sRaise (c : Nat) : SM := fun _ mh => .exc c mh
theorem JS_raise (c : COk X) {j : Nat} {x msg : Str} {k : Nat} {p p2 p3 : Pos} (q : PySem.W.excIn X.K (cls j) He.veBase "ValueError.__new__" = true) (kC : PySem.W.keepIn X.K (.ref (cls j)) = true) (hs : PySem.W.subIn X.K (.ref (cls j)) (.type "BaseException") = some true) (ht : PySem.W.typeIn X.K (.ref (cls j)) = some (.type "type"))
    (gC : X.mg x = some (.ref (cls j))) (hg : Gl X x) (hdb : (x == ("__debug__" : Str)) = false) : JS X cls (.Raise (some (.Call (.Name x p) [.Constant (.str msg) k p2] [] p3)) none pos) (sRaise j) := fun E tk =>
  (ps_raise c.calm tk (pmk_own PySem.F.excBase_ValueError q gC kC (raises_own hs ht) hg hdb)).imp fun D σ H ⟨Z, ρ, lo, mh, s, p⟩ => p ρ H (Ext.refl _ _) s.hp
/-- try: .. except C: return 'z' .. -/
def hdL (hd : List (Nat × Str)) (c : Nat) : Option Str := (hd.find? fun p => p.1 == c).map (·.2)
def sTry (hd : List (Nat × Str)) (m : SM) : SM := fun lo mh => match m lo mh with
  | .exc c mh' => match hdL hd c with
    | some z => .rt (.d (.str z)) mh'
    | none => .exc c mh'
  | r => r
/-- the clauses: each names a class, and hands back a text -/
inductive Hds (X : Cx) (cls : Nat → Addr) : List ExceptHandler → List (Nat × Str) → Prop
  | nil : Hds X cls [] []
  | cons {x z : Str} {j k : Nat} {np pos' p1 p2 : Pos} {hds : List ExceptHandler} {l : List (Nat × Str)} (hc : Names X x (.ref (cls j))) (r : Hds X cls hds l) :
      Hds X cls (.ExceptHandler (some (.Name x np)) none [.Return (some (.Constant (.str z) k p1)) p2] pos' :: hds) ((j, z) :: l)
def hdV (cls : Nat → Addr) (l : List (Nat × Str)) : List (Value × (Addr → Value → Option Addr → TS)) := l.map fun p => (.ref (cls p.1), fun _ _ _ => tRet (tC (.str p.2)))
theorem Hds.ok {hds : List ExceptHandler} {l : List (Nat × Str)} (h : Hds X cls hds l) : HdsOk X hds (hdV cls l) := by
  induction h with
  | nil => exact .nil
  | cons hc r ih => exact .cons hc (fun a oe c d pn _ _ => pss_one (ps_ret pe_str)) ih
theorem JS_try (hs : X.stack = X.env :: X.outer) (hf : X.env.frame = some X.env.locals) {body : List Stmt} {h0 : ExceptHandler} {hds : List ExceptHandler} {l : List (Nat × Str)} {cs : List Nat}
    (hm : ∀ c, c ∈ cs → ∀ p, p ∈ l → PySem.W.exmOne X.K (.ref (cls c)) (.ref (cls p.1)) = some (p.1 == c))
    (hcs : ∀ lo mh c mh', m lo mh = .exc c mh' → c ∈ cs)
    (hb : ∀ (pn : List (Addr × Obj)) (xe : Value → Shared → Prop), PassesOwn (model X.prog X.w) X.A X.env xe → JSs (X.tr pn xe) cls body m)
    (hh : Hds X cls (h0 :: hds) l) : JS X cls (.Try body (h0 :: hds) [] [] pos) (sTry l m) := fun E tk => by
  have hb' : ∀ (W : WX) (pn : List (Addr × Obj)) (xe : Value → Shared → Prop), Takes (X.tr pn xe) W → PassesOwn (model X.prog X.w) X.A X.env xe → PSs (X.tr pn xe) body (fun D σ H => ∃ E' : XK, (∀ c d σ H, E' c d H → W c d σ H) ∧ tS X.K cls E' m D σ H) := fun W pn xe tw hp => by
    refine ⟨fun pins s σ H D I ⟨E', hE, h⟩ => ?_⟩
    exact (hb pn xe hp E' (tw.imp fun c d σ H q => hE c d σ H q)).run pins s σ H D I h
  refine (ps_try_many hs hf tk hb' hh.ok).imp fun D σ H ⟨Z, ρ, lo, mh, s, p⟩ => ?_
  refine ⟨fun c d H' => ∀ σ, wMany X.K (wOf E) D (hdV cls l) c d σ H', fun c d σ H q => q σ, Z, ρ, lo, mh, s, ?_⟩
  unfold sTry at p
  cases k : m lo mh with
  | nx lo' mh' => rw [k] at p; exact p
  | bk lo' mh' => rw [k] at p; exact p
  | ct lo' mh' => rw [k] at p; exact p
  | rt v mh' => rw [k] at p; exact p
  | bad => rw [k] at p; exact p
  | exc c mh' =>
    rw [k] at p
    dsimp only at p
    have hc := hcs lo mh c mh' k
    intro ρ' H' e r σ'
    have main : ∀ l' : List (Nat × Str), (∀ q ∈ l', q ∈ l) → (∀ z, hdL l' c = some z → D.rt (.str z) H') → (hdL l' c = none → E (.ref (cls c)) none H') → wMany X.K (wOf E) D (hdV cls l') (.ref (cls c)) none σ' H' := by
      intro l'
      induction l' with
      | nil => exact fun _ _ h2 => h2 rfl
      | cons q l' ih =>
        intro hsub h1 h2
        refine ⟨q.1 == c, hm c hc q (hsub q List.mem_cons_self), fun hq a ha => h1 q.2 ?_, fun hq => ih (fun p hp => hsub p (List.mem_cons_of_mem _ hp)) (fun z hz => h1 z ?_) fun hz => h2 ?_⟩
        · simp [hdL, List.find?_cons, hq]
        · simp only [hdL, List.find?_cons, hq] at hz ⊢; exact hz
        · simp only [hdL, List.find?_cons, hq] at hz ⊢; exact hz
    refine main l (fun _ h => h) (fun z hz => ?_) fun hz => ?_
    · rw [hz] at p; exact p ρ' H' _ e r (.d (.str z))
    · rw [hz] at p; exact p ρ' H' e r
end
/-! ### a def by its body -/
def startL (n : Nat) (args : List PV) : Lo := args.map some ++ List.replicate (n - args.length) none
def fin : SR → Res PV
  | .nx _ mh => .ok (.d .none) mh
  | .rt v mh => .ok v mh
  | .exc c mh => .exc c mh
  | _ => .bad
def dM (n : Nat) (m : SM) : FM := fun args mh => fin (m (startL n args) mh)
theorem RVs.start {K : PySem.W.Frag} {Z ρ : List Addr} {H : Hp} {args : List PV} {vs : List V} (r : RVs K Z ρ H args vs) {N : List Str} : (startL N.length args).length = (L2.start N vs).length ∧ ∀ (i : Nat) (v : PV), (startL N.length args)[i]? = some (some v) → ∃ x, (L2.start N vs)[i]? = some (some x) ∧ RV K Z ρ H v x := by
  have hl := r.length
  refine ⟨by simp [startL, L2.start, hl], fun i v h => ?_⟩
  by_cases hi : i < args.length
  · rw [startL, List.getElem?_append_left (by simpa using hi)] at h
    rw [List.getElem?_map] at h
    cases k : args[i]? with
    | none => rw [k] at h; cases h
    | some w =>
      rw [k] at h; cases h
      obtain ⟨x, hx, rx⟩ := r.get k
      exact ⟨x, by rw [L2.start, List.getElem?_append_left (by simp; omega), List.getElem?_map, hx]; rfl, rx⟩
  · rw [startL, List.getElem?_append_right (by simpa using hi)] at h
    obtain ⟨_, e⟩ := List.getElem?_eq_some_iff.mp h
    simp at e
theorem def_ok {P : Program} {w : World} {K : PySem.W.Frag} {mg : Str → Option Value} {base : Heap} {cls : Nat → Addr} {x qual : Str} {params : Arguments} {body : List Stmt} {scope : Scope} {f : Addr} {fd : FuncData} {N ps : List Str} {k : Nat} {m : SM}
    (F : FunD K x qual params body scope [] [] f fd) (S : FnScope N ps scope)
    (hb : ∀ (X : Cx), X.prog = P → X.w = w → X.K = K → X.mg = mg → X.base = base → X.N = N → X.env.scope = scope → X.fn = (fun _ => true) → Room k X.A → X.stack = X.env :: X.outer → X.env.frame = some X.env.locals → SOk X → JSs X cls body m) :
    FnOk P w K mg base (L2.CX P w) (k + 1) f fd ps (spM K cls ps.length (dM N.length m)) := by
  refine F.ok S (fun vs H Q E ⟨Z, ρ, mh, args, hl, rh, rv, q⟩ => rv.length ▸ hl) fun cdv A outer s H vs Q E hr ⟨Z, ρ, mh, args, hl, rh, rv, q⟩ => ?_
  have hso : SOk (cxOf (L2.CX P w) P w K mg base N qual scope f cdv A outer s H E) := { nd := S.nd, calm := rfl, un := by have := hr.un; show (A.deeper _).units + 200 < cLine; omega, hp := passes_of rfl }
  have hJ := hb (cxOf (L2.CX P w) P w K mg base N qual scope f cdv A outer s H E) rfl rfl rfl rfl rfl rfl rfl rfl hr rfl rfl hso
  refine ⟨_, hJ E (takes_of rfl rfl rfl rfl), Z, ρ, startL N.length args, mh, ⟨rh, rv.start.1, rv.start.2⟩, ?_⟩
  unfold dM at q
  cases k : m (startL N.length args) mh with
  | nx lo' mh' => rw [k] at q; exact fun ρ' H' σ' e s => q ρ' H' e s.hp _ (.d .non)
  | rt v mh' => rw [k] at q; exact fun ρ' H' x e r rx => q ρ' H' e r x rx
  | exc c mh' => rw [k] at q; exact q
  | bk lo' mh' => rw [k] at q; exact q.elim
  | ct lo' mh' => rw [k] at q; exact q.elim
  | bad => rw [k] at q; exact q.elim
end EL


set_option Elab.async false
set_option linter.all false
set_option maxRecDepth 100000
set_option maxHeartbeats 4000000
/-! EL: isinstance, methods of lists. -/
namespace EL
open PySem L2
/-! ### isinstance -/
def pvTy (mh : Mh) : PV → Option String
  | .d .none => some "NoneType"
  | .d (.bool _) => some "bool"
  | .d (.int _) => some "int"
  | .d (.str _) => some "str"
  | .d (.list _) => some "list"
  | .d (.tuple _) => some "tuple"
  | .tup _ => some "tuple"
  | .dct _ => some "dict"
  | .ref n => match mh[n]? with
    | some (.lst _) => some "list"
    | some (.dct _) => some "dict"
    | _ => none
  | _ => none
def tyIs (T a : String) : Bool := a == T || (a == "bool" && T == "int")
section
variable {K : PySem.W.Frag} {cls : Nat → Addr} {Z ρ : List Addr} {H : Hp} {mh : Mh}
theorem TupAt.ty {a : Addr} {xs : List V} (h : TupAt K Z ρ H a xs) : TyX K H (.ref a) (.type "tuple") := by
  rcases h with ⟨h, _⟩ | ⟨o, its, n, h, hc, _⟩
  · rcases h with h | ⟨o, h⟩
    · exact .base (.tup h)
    · exact .fTuple h
  · exact .kTuple h hc
theorem TupS.ty {a : Addr} {xs : List V} (h : TupS K Z ρ H a xs) : TyX K H (.ref a) (.type "tuple") := TupAt.ty h.at
theorem pvTy_ok (rh : RH K cls Z ρ mh H) {v : PV} {x : V} {t : String} (r : RV K Z ρ H v x) (e : pvTy mh v = some t) : TyX K H x (.type t) := by
  cases r with
  | d r =>
    cases r with
    | non => cases e; exact .base .non
    | bl b => cases e; exact .base (.bl b)
    | int i => cases e; exact .base (.int i)
    | str z => cases e; exact .base (.str z)
    | lst h _ _ => cases e; exact .base (.lst h)
    | tup h _ => cases e; exact h.ty
  | dct h _ _ => cases e; exact .base (.dK h)
  | scr _ => cases e
  | tup h _ => cases e; exact h.ty
  | @ref n a h =>
    simp only [pvTy] at e
    split at e
    · rename_i l hn
      cases e
      cases rh.objs n _ a hn h with
      | lst h2 _ => exact .base (.lst h2)
    · rename_i l hn
      cases e
      cases rh.objs n _ a hn h with
      | dct h2 _ => exact .base (.dK h2)
    · cases e
end
theorem pvTy_in {mh : Mh} {v : PV} {t : String} (e : pvTy mh v = some t) : t ∈ ["NoneType", "bool", "int", "str", "list", "tuple", "dict"] := by
  unfold pvTy at e
  split at e
  all_goals first | (cases e; decide) | cases e | (split at e <;> first | (cases e; decide) | cases e)
theorem kitB_is : ∀ a ∈ ["NoneType", "bool", "int", "str", "list", "tuple", "dict"], ∀ T ∈ ["int", "bool", "str", "tuple", "list", "dict"], kitB a T = some (tyIs T a) := by decide +kernel
def mIsi (T : String) (me : EM) : EM := fun lo mh => (me lo mh).bind fun v mh1 => match pvTy mh1 v with
  | some t => .ok (.d (.bool (tyIs T t))) mh1
  | none => .bad
section
variable {X : Cx} {cls : Nat → Addr} {e o : Expr} {es : List Expr} {pos : Pos}
theorem JE_isi (c : COk X) {T : String} {t : Str} {me : EM} {p p2 : Pos} (hT : T ∈ ["int", "bool", "str", "tuple", "list", "dict"]) (he : JE X cls e me) (hg : Gl X "isinstance") (hm : X.mg "isinstance" = none) (hgt : Gl X t) (hmt : X.mg t = none) (hvt : bootBuiltins t = some (.type T)) (hn : t ≠ "__name__") (hdb : (t == ("__debug__" : Str)) = false)
    (hs : starEach [e, .Name t p2] X.env = (false, eval e X.env) :: starEach [.Name t p2] X.env := by rfl) (hpl : (backTo pos (starEach [.Name t p2] X.env)).any (·.1) = false := by rfl) : JE X cls (.Call (.Name "isinstance" p) [e, .Name t p2] [] pos) (mIsi T me) := fun E hx =>
  .of c ((pe_callB call_isi hg hm (by decide +kernel) (pa_cons (he E hx).pe (pa_cons (pe_bltn hgt hmt hvt (v := .ty T) rfl hn hdb) pa_nil) hs) (by decide) (by decide) hs hpl).imp fun σ H Q ⟨Z, ρ, lo, mh, s, q⟩ => by
    refine ⟨Z, ρ, lo, mh, s, (Post.bind q).imp fun v ρ1 mh1 H1 e1 r1 q x rx => ?_⟩
    split at q
    · rename_i tt ht
      exact ⟨x, .ty T, .type tt, .type T, tyIs T tt, rfl, .ty T, pvTy_ok r1 rx ht, kit_ty (kitB_is _ (pvTy_in ht) _ hT), q.now r1 _ (.d (.bl _))⟩
    · exact q.elim) fun _ _ _ => rfl
end
/-! ### methods of lists -/
abbrev OpM := PV → List PV → Mh → Res PV
def MtV (X : Cx) (cls : Nat → Addr) (id : String) (op : OpM) : Prop :=
  ∀ E, MtR X id fun x xs H Q => ∃ Z ρ mh v vs, RH X.K cls Z ρ mh H ∧ RV X.K Z ρ H v x ∧ RVs X.K Z ρ H vs xs ∧ Post X.K cls E Z ρ H (op v vs mh) fun w ρ' _ H' => ∀ z, RV X.K Z ρ' H' w z → Q z H'
theorem MtR_imp {X : Cx} {id : String} {r r' : V → List V → Hp → VK → Prop} (h : MtR X id r) (g : ∀ x xs H Q, r' x xs H Q → r x xs H Q) : MtR X id r' := fun pins s σ H x xs v us Q I rx rs q => h pins s σ H x xs v us Q I rx rs (g _ _ _ _ q)
def altM (f g : OpM) : OpM := fun v vs mh => match f v vs mh with
  | .bad => g v vs mh
  | r => r
theorem MtV.alt {X : Cx} {cls : Nat → Addr} {id : String} {o p : OpM} (h : MtV X cls id o) (h' : MtV X cls id p) : MtV X cls id (altM o p) := fun E =>
  MtR_imp (MtR.or (h E) (h' E)) fun x xs H Q ⟨Z, ρ, mh, v, vs, rh, rv, rs, q⟩ => by
    unfold altM at q
    cases k : o v vs mh with
    | bad => rw [k] at q; exact .inr ⟨Z, ρ, mh, v, vs, rh, rv, rs, q⟩
    | ok a b => rw [k] at q; exact .inl ⟨Z, ρ, mh, v, vs, rh, rv, rs, by rw [k]; exact q⟩
    | exc a b => rw [k] at q; exact .inl ⟨Z, ρ, mh, v, vs, rh, rv, rs, by rw [k]; exact q⟩
/-- the type that a method is looked up at -/
def tyM (mh : Mh) (T : String) (v : PV) : Bool := match v with
  | .d (.str _) => T == "str"
  | .d (.list _) => T == "list"
  | .d (.tuple _) => T == "tuple"
  | .dct _ => T == "dict"
  | .ref n => match mh[n]? with
    | some (.lst _) => T == "list"
    | some (.dct _) => T == "dict"
    | _ => false
  | _ => false
def tyVF (K : PySem.W.Frag) (T : String) (x : V) (H : Hp) : Prop := tyV K T x H ∨ (T = "tuple" ∧ ∃ a o u, x = .ref a ∧ IsT o ∧ H a = some (.frz o u))
theorem tyVF_is {X : Cx} {pins : List (Addr × Obj)} {σ : L2.St} {H : Hp} {s : Shared} {T : String} {x : V} {v : Value} (I : L2.Inv X pins σ H s) (r : RelV x v) (ty : tyVF X.K T x H) :
    s.TypeIs v T ∧ ∀ a, v = .ref a → ∃ ob, s.heap.get? a = some ob ∧ ob.dict = none := by
  rcases ty with ty | ⟨rfl, a, o, u, rfl, ho, ha⟩
  · exact tyV_is I r ty
  · cases r
    have e := (I.hok a _ ha).1
    exact ⟨⟨o, e, ho.1⟩, fun b q => by cases q; exact ⟨o, e, ho.2⟩⟩
def tBM0F (K : PySem.W.Frag) (T : String) (r : V → List V → Hp → VK → Prop) (to : TE) : TE := fun σ H Q => to σ H fun x H1 => tyVF K T x H1 ∧ r x [] H1 Q
def tBMF (K : PySem.W.Frag) (T : String) (r : V → List V → Hp → VK → Prop) (to : TE) (t : TA) : TE := fun σ H Q => to σ H fun x H1 => tyVF K T x H1 ∧ t σ H1 fun xs H2 => r x xs H2 Q
theorem pe_bm0F {X : Cx} {o : Expr} {to : TE} {name : Str} {apos cpos : Pos} {T id : String} {r : V → List V → Hp → VK → Prop} (pa : PlainAttrs T) (slot : Slot T name id) (hty : typeOf (.builtin id) = pure (.type "method_descriptor")) (hm : MtR X id r) (ho : PE X o to)
    (hbase : attributeBase o name X.env (eval o X.env) = eval o X.env) (hline : (apos.endLine == cpos.line) = true) : PE X (.Call (.Attribute o name apos) [] [] cpos) (tBM0F X.K T r to) :=
  ⟨fun pins s σ H Q I h => wpAny_Call_method0_late hbase hline (thn (ho.run pins s σ H _ I h) fun v s1 ⟨x, H1, I1, r1, ty, q1⟩ =>
    let ⟨h1, h2⟩ := tyVF_is I1 r1 ty
    ⟨T, id, pa, slot, hty, h1, h2, Calls.callWith_builtin rfl (PySem.evalArgs_none (hm pins s1 σ H1 x [] v [] Q I1 r1 .nil q1))⟩)⟩
theorem pe_bmF {X : Cx} {o e : Expr} {es : List Expr} {to : TE} {t : TA} {name : Str} {apos cpos : Pos} {T id : String} {r : V → List V → Hp → VK → Prop} (pa : PlainAttrs T) (slot : Slot T name id) (hty : typeOf (.builtin id) = pure (.type "method_descriptor")) (hm : MtR X id r) (ho : PE X o to) (ha : PA X (e :: es) t)
    (hbase : attributeBase o name X.env (eval o X.env) = eval o X.env)
    (hfew : ((backTo cpos (starEach (e :: es) X.env)).all (fun x => !x.1) && (backToKw cpos (keywordEach [] X.env)).all (fun x => x.1.isSome)
      && decide ((e :: es).length + ([] : List Keyword).length + (if ([] : List Keyword).isEmpty then 0 else 1) < 30)) = true)
    (hline : (apos.endLine == cpos.line) = true) (hs : starEach (e :: es) X.env = (false, eval e X.env) :: starEach es X.env) (hplain : (backTo cpos (starEach es X.env)).any (·.1) = false) :
    PE X (.Call (.Attribute o name apos) (e :: es) [] cpos) (tBMF X.K T r to t) :=
  ⟨fun pins s σ H Q I h => wpAny_Call_method_late hbase hfew hline rfl (thn (ho.run pins s σ H _ I h) fun v s1 ⟨x, H1, I1, r1, ty, q1⟩ => by
    have hw := tyVF_is I1 r1 ty
    refine ⟨T, id, pa, slot, hty, hw.1, hw.2, ?_⟩
    have hA := ha.run cpos pins s1 σ H1 _ I1 q1
    rw [hs] at hA ⊢
    exact Calls.callWith_builtin (by show (false || (backTo cpos (starEach es X.env)).any (·.1)) = false; rw [hplain]; rfl) (Calls.evalArgs_plain (thn hA fun us s2 ⟨vs, H2, I2, r2, q2⟩ => hm pins s2 σ H2 x vs v us Q I2 r1 r2 q2)))⟩
theorem tyM_ok {K : PySem.W.Frag} {cls : Nat → Addr} {Z ρ : List Addr} {H : Hp} {mh : Mh} (rh : RH K cls Z ρ mh H) {v : PV} {x : V} {T : String} (r : RV K Z ρ H v x) (e : tyM mh T v = true) : tyVF K T x H := by
  cases r with
  | d r =>
    cases r with
    | str z => exact .inl (eq_of_beq e)
    | lst h _ _ => exact .inl (.inl ⟨eq_of_beq e, _, .of h⟩)
    | non => cases e
    | bl b => cases e
    | int i => cases e
    | tup h _ =>
      rcases h with ⟨o, ho, h, _⟩ | ⟨o, its, n, h, h2, h3, _⟩
      · exact .inr ⟨eq_of_beq e, _, o, _, rfl, ho, h⟩
      · exact .inl (.inr (.inl ⟨eq_of_beq e, o, h, h2, h3⟩))
  | dct h _ _ => exact .inl (.inr (.inr (.inl ⟨eq_of_beq e, .inl ⟨_, h⟩⟩)))
  | scr _ => cases e
  | tup h _ => cases e
  | @ref n a h =>
    simp only [tyM] at e
    split at e
    · rename_i l hn
      cases rh.objs n _ a hn h with
      | lst h2 _ => exact .inl (.inl ⟨eq_of_beq e, _, .of h2⟩)
    · rename_i l hn
      cases rh.objs n _ a hn h with
      | dct h2 _ => exact .inl (.inr (.inr (.inl ⟨eq_of_beq e, .inl ⟨_, h2⟩⟩)))
    · cases e
def mBM (T : String) (op : OpM) (mo : EM) (ma : AM) : EM := fun lo mh => (mo lo mh).bind fun v mh1 => if tyM mh1 T v = true then (ma lo mh1).bind fun vs mh2 => op v vs mh2 else .bad
section
variable {X : Cx} {cls : Nat → Addr} {e o : Expr} {es : List Expr} {apos cpos : Pos} {T id : String} {name : Str}
theorem JE_bm (c : COk X) {op : OpM} {mo : EM} {ma : AM} (pa : PlainAttrs T) (slot : Slot T name id) (hty : typeOf (.builtin id) = pure (.type "method_descriptor")) (hm : MtV X cls id op) (ho : JE X cls o mo) (ha : JA X cls (e :: es) ma)
    (hbase : attributeBase o name X.env (eval o X.env) = eval o X.env)
    (hfew : ((backTo cpos (starEach (e :: es) X.env)).all (fun x => !x.1) && (backToKw cpos (keywordEach [] X.env)).all (fun x => x.1.isSome)
      && decide ((e :: es).length + ([] : List Keyword).length + (if ([] : List Keyword).isEmpty then 0 else 1) < 30)) = true)
    (hline : (apos.endLine == cpos.line) = true) (hs : starEach (e :: es) X.env = (false, eval e X.env) :: starEach es X.env) (hplain : (backTo cpos (starEach es X.env)).any (·.1) = false) :
    JE X cls (.Call (.Attribute o name apos) (e :: es) [] cpos) (mBM T op mo ma) := fun E hx =>
  .of c ((pe_bmF pa slot hty (hm E) (ho E hx).pe (ha E hx) hbase hfew hline hs hplain).imp fun σ H Q ⟨Z, ρ, lo, mh, s, q⟩ => by
    refine ⟨Z, ρ, lo, mh, s, (Post.bind q).imp fun v ρ1 mh1 H1 e1 r1 q x rx => ?_⟩
    split at q
    · rename_i ht
      exact ⟨tyM_ok r1 rx ht, Z, ρ1, lo, mh1, s.to e1 r1, (Post.bind q).imp fun vs ρ2 mh2 H2 e2 r2 q2 ys ry => ⟨Z, ρ2, mh2, v, vs, r2, rx.mono e2, ry, q2⟩⟩
    · exact q.elim) fun _ _ _ => rfl
theorem JE_bm0 (c : COk X) {op : OpM} {mo : EM} (pa : PlainAttrs T) (slot : Slot T name id) (hty : typeOf (.builtin id) = pure (.type "method_descriptor")) (hm : MtV X cls id op) (ho : JE X cls o mo)
    (hbase : attributeBase o name X.env (eval o X.env) = eval o X.env) (hline : (apos.endLine == cpos.line) = true) :
    JE X cls (.Call (.Attribute o name apos) [] [] cpos) (mBM T op mo aNil) := fun E hx =>
  .of c ((pe_bm0F pa slot hty (hm E) (ho E hx).pe hbase hline).imp fun σ H Q ⟨Z, ρ, lo, mh, s, q⟩ => by
    refine ⟨Z, ρ, lo, mh, s, (Post.bind q).imp fun v ρ1 mh1 H1 e1 r1 q x rx => ?_⟩
    split at q
    · rename_i ht
      exact ⟨tyM_ok r1 rx ht, Z, ρ1, mh1, v, [], r1, rx, .nil, q⟩
    · exact q.elim) fun _ _ _ => rfl
end
section
variable {X : Cx} {cls : Nat → Addr}
theorem RH.wr {K : PySem.W.Frag} {Z ρ : List Addr} {H : Hp} {mh : Mh} {n : Nat} {a : Addr} {l : List PV} {ys : List V} (rh : RH K cls Z ρ mh H) (ha : ρ[n]? = some a) (ry : RVs K Z ρ H l ys) : RH K cls Z ρ (mh.set n (.lst l)) (upd H a (.lst ys)) ∧ Ext ρ H ρ (upd H a (.lst ys)) :=
  have e : Ext ρ H ρ (upd H a (.lst ys)) := Ext.write (List.mem_of_getElem? ha)
  ⟨rh.write ha (.lst upd_same (ry.mono e)), e⟩
def oAppend : OpM := fun v vs mh => match v, vs with
  | .ref n, [w] => match mh[n]? with
    | some (.lst l) => if l.length < sizeLine then .ok (.d .none) (mh.set n (.lst (l ++ [w]))) else .bad
    | _ => .bad
  | _, _ => .bad
theorem tAppend : MtV X cls "list.append" oAppend := fun E => MtR_imp mt_append fun x xs H Q ⟨Z, ρ, mh, v, vs, rh, rv, rs, q⟩ => by
  unfold oAppend at q
  split at q
  · rename_i n w
    split at q
    · rename_i l hn
      split at q
      · rename_i hl
        cases rv with
        | @ref _ a ha =>
          cases rs with
          | cons rw' rn =>
            cases rn
            cases rh.objs n _ a hn ha with
            | @lst _ xs' _ h2 r2 =>
              have z := rh.wr (l := l ++ [w]) ha (r2.append (.cons rw' .nil))
              exact ⟨a, xs', _, rfl, rfl, h2, by rw [← r2.length]; exact hl, (q.later z.2).now z.1 _ (.d .non)⟩
      · exact q.elim
    · exact q.elim
  · exact q.elim
def oExtend : OpM := fun v vs mh => match v, vs with
  | .ref n, [u] => match mh[n]?, listOf mh u with
    | some (.lst l), some l' => if l.length + l'.length ≤ sizeLine then .ok (.d .none) (mh.set n (.lst (l ++ l'))) else .bad
    | _, _ => .bad
  | _, _ => .bad
theorem tExtend : MtV X cls "list.extend" oExtend := fun E => MtR_imp mt_extend fun x xs H Q ⟨Z, ρ, mh, v, vs, rh, rv, rs, q⟩ => by
  unfold oExtend at q
  split at q
  · rename_i n u
    split at q
    · rename_i l l' hn hu
      split at q
      · rename_i hl
        cases rv with
        | @ref _ a ha =>
          cases rs with
          | cons ru rn =>
            cases rn
            obtain ⟨b, zs, e, hb, rz⟩ := listOf_ok rh ru hu
            subst e
            cases rh.objs n _ a hn ha with
            | @lst _ xs' _ h2 r2 =>
              have z := rh.wr (l := l ++ l') ha (r2.append rz)
              exact ⟨a, b, xs', zs, rfl, rfl, h2, hb, by rw [← r2.length, ← rz.length]; exact hl, (q.later z.2).now z.1 _ (.d .non)⟩
      · exact q.elim
    · exact q.elim
  · exact q.elim
theorem RVs.dropLast {K : PySem.W.Frag} {Z ρ : List Addr} {H : Hp} {l : List PV} {xs : List V} (r : RVs K Z ρ H l xs) : RVs K Z ρ H l.dropLast xs.dropLast := by
  rw [List.dropLast_eq_take, List.dropLast_eq_take, ← r.length]; exact r.take _
def oPop : OpM := fun v vs mh => match v, vs with
  | .ref n, [] => match mh[n]? with
    | some (.lst l) => match l.getLast? with
      | some w => .ok w (mh.set n (.lst l.dropLast))
      | none => .bad
    | _ => .bad
  | _, _ => .bad
theorem tPop : MtV X cls "list.pop" oPop := fun E => MtR_imp mt_pop fun x xs H Q ⟨Z, ρ, mh, v, vs, rh, rv, rs, q⟩ => by
  unfold oPop at q
  split at q
  · rename_i n
    split at q
    · rename_i l hn
      split at q
      · rename_i w hw
        cases rv with
        | @ref _ a ha =>
          cases rs
          cases rh.objs n _ a hn ha with
          | @lst _ xs' _ h2 r2 =>
            have z := rh.wr (l := l.dropLast) ha r2.dropLast
            rw [List.getLast?_eq_getElem?] at hw
            obtain ⟨y, hy, ry⟩ := r2.get hw
            exact ⟨a, xs', y, rfl, rfl, h2, by rw [← r2.length]; exact hy, (q.later z.2).now z.1 _ (ry.mono z.2)⟩
      · exact q.elim
    · exact q.elim
  · exact q.elim
/-! ### l.index(x), l.count(x), l.remove(x) of data -/
def oIndex : OpM := fun v vs mh => match vs with
  | [u] => match dataOf mh v, dataOf mh u with
    | some (.list ds), some d => if min (PyData.depthAll ds) d.depth ≤ 64 then (match SeqAt.dataPlace ds d with
      | some j => .ok (.d (.int (j : Nat))) mh
      | none => .bad) else .bad
    | _, _ => .bad
  | _ => .bad
theorem plain_list {ds : List PyData} (h : (PyData.list ds).plain = true) : PyData.plainAll ds = true := by simpa [PyData.plain] using h
theorem plain_tuple {ds : List PyData} (h : (PyData.tuple ds).plain = true) : PyData.plainAll ds = true := by simpa [PyData.plain] using h
theorem tIndex (c : COk X) : MtV X cls "list.index" oIndex := fun E => fun pins s σ H x xs v us Q I rx rxs ⟨Z, ρ, mh, pv, pvs, rh, rv, rs, q⟩ => by
  unfold oIndex at q
  split at q
  · rename_i u
    split at q
    · rename_i ds d hv hu
      split at q
      · rename_i hd
        split at q
        · rename_i j hj
          cases rs with
          | @cons _ yu _ _ ru rn =>
            cases rn
            obtain ⟨D1, p1⟩ := dataOf_ok rh rv hv
            obtain ⟨D2, p2⟩ := dataOf_ok rh ru hu
            cases rxs with
            | cons ry rt =>
              cases rt
              obtain ⟨bs, r1⟩ := Dp.reads I d _ _ D2 ry
              cases D1 with
              | @lst a xs' _ hs ha =>
                cases rx
                obtain ⟨its, rv', ⟨⟨cl, dd, data, sls⟩, n, ho, hc, hdn, hdt⟩, hlen⟩ := I.list hs
                simp only at hc hdt
                subst hc hdt
                obtain ⟨as, h4⟩ := Dp.readsAll I ds _ its ha rv'
                obtain ⟨hj', hit, hno⟩ := SeqAt.hit_at (vs := its.toArray) h4 (plain_list p1) hj
                have hu2 : X.A.units + 1 + min (PyData.depthAll ds) d.depth < cLine := by have := c.un; omega
                have hsl := sizeLine_eq
                have hvl := rv'.length
                exact call_meets PySem.F.slot_list_index ⟨_, ho, rfl⟩ PySem.F.entry_list_index (PySem.F.args_list_index_2 _ _)
                  (SeqAt.list_indexAt a its.toArray n dd sls _ _ j hj' (by have hj2 := hj'; rw [List.size_toArray] at hj2; omega) hit hno) ⟨ho, SeqAt.items_plain h4 r1 (plain_list p1) p2 hu2, .int (j : Nat), H, I.tok _, ⟨_, rfl⟩, q.now rh _ (.d (.int _))⟩
        · exact q.elim
      · exact q.elim
    · exact q.elim
  · exact q.elim
def oCount : OpM := fun v vs mh => match vs with
  | [u] => match dataOf mh v, dataOf mh u with
    | some (.list ds), some d => if min (PyData.depthAll ds) d.depth ≤ 64 then .ok (.d (.int ((ds.countP fun y => PyData.eqv y d : Nat) : Int))) mh else .bad
    | _, _ => .bad
  | _ => .bad
theorem tCount (c : COk X) : MtV X cls "list.count" oCount := fun E => fun pins s σ H x xs v us Q I rx rxs ⟨Z, ρ, mh, pv, pvs, rh, rv, rs, q⟩ => by
  unfold oCount at q
  split at q
  · rename_i u
    split at q
    · rename_i ds d hv hu
      split at q
      · rename_i hd
        cases rs with
        | @cons _ yu _ _ ru rn =>
          cases rn
          obtain ⟨D1, p1⟩ := dataOf_ok rh rv hv
          obtain ⟨D2, p2⟩ := dataOf_ok rh ru hu
          cases rxs with
          | cons ry rt =>
            cases rt
            obtain ⟨bs, r1⟩ := Dp.reads I d _ _ D2 ry
            cases D1 with
            | @lst a xs' _ hs ha =>
              cases rx
              obtain ⟨its, rv', hl, hlen⟩ := I.list hs
              obtain ⟨as, h4⟩ := Dp.readsAll I ds _ its ha rv'
              have hu2 : X.A.units + 1 + min (PyData.depthAll ds) d.depth < cLine := by have := c.un; omega
              exact SeqAt.count_list_data (vs := its.toArray) hl.isList h4 r1 (plain_list p1) p2 hu2 ⟨.int _, H, I.tok _, ⟨_, rfl⟩, q.now rh _ (.d (.int _))⟩
      · exact q.elim
    · exact q.elim
  · exact q.elim
end
end EL


set_option Elab.async false
set_option linter.all false
set_option maxRecDepth 100000
set_option maxHeartbeats 4000000
/-! EL: dicts whose keys are ints and texts. -/
namespace EL
open PySem L2
open PyProof.Rows (tail_any)
def kOf : PyData → Option Key
  | .int i => some (.inl i)
  | .str x => some (.inr x)
  | _ => none
def keyEq : PyData → PyData → Bool
  | .int i, .int j => decide (i = j)
  | .str x, .str y => decide (x = y)
  | _, _ => false
def look (d : PyData) (kvs : List (PyData × PV)) : Option PV := (kvs.find? fun p => keyEq p.1 d).map (·.2)
def putD (kvs : List (PyData × PV)) (d : PyData) (v : PV) : List (PyData × PV) :=
  if (kvs.any fun p => keyEq p.1 d) = true then kvs.map (fun p => if keyEq p.1 d = true then (p.1, v) else p) else kvs ++ [(d, v)]
theorem kOf_kD {d : PyData} {k : Key} (h : kOf d = some k) : d = kD k := by
  cases d <;> cases h <;> rfl
theorem keyEq_kD (a b : Key) : keyEq (kD a) (kD b) = decide (a = b) := by
  cases a <;> cases b <;> simp [kD, keyEq]
def dOf (mh : Mh) : PV → Option (List (PyData × PV))
  | .dct kvs => some kvs
  | .ref n => match mh[n]? with
    | some (.dct kvs) => some kvs
    | _ => none
  | _ => none
section
variable {K : PySem.W.Frag} {cls : Nat → Addr} {Z ρ : List Addr} {H : Hp} {mh : Mh}
theorem dOf_ok (rh : RH K cls Z ρ mh H) {v : PV} {x : V} {kvs : List (PyData × PV)} (r : RV K Z ρ H v x) (e : dOf mh v = some kvs) : ∃ a ks, x = .ref a ∧ H a = some (.dK ks) ∧ RVk K Z ρ H kvs ks := by
  cases r with
  | d _ => cases e
  | tup _ _ => cases e
  | scr _ => cases e
  | dct h _ r => cases e; exact ⟨_, _, rfl, h, r⟩
  | @ref n a h =>
    simp only [dOf] at e
    split at e
    · rename_i l hn
      cases e
      cases rh.objs n _ a hn h with
      | dct h2 r => exact ⟨_, _, rfl, h2, r⟩
    · cases e
theorem RVk.look {k : Key} : ∀ {kvs : List (PyData × PV)} {ks : List (Key × V)}, RVk K Z ρ H kvs ks → (look (kD k) kvs = none ∧ valV ks k = none) ∨ ∃ v x, look (kD k) kvs = some v ∧ valV ks k = some x ∧ RV K Z ρ H v x
  | _, _, .nil => .inl ⟨rfl, rfl⟩
  | _, _, .cons (k := j) h r => by
    unfold EL.look
    rw [List.find?_cons, keyEq_kD]
    by_cases e : j = k
    · subst e
      rw [valV_pos (p := (j, _)) rfl, decide_eq_true rfl]
      exact .inr ⟨_, _, rfl, rfl, h⟩
    · rw [valV_neg (p := (j, _)) e, decide_eq_false e]
      exact RVk.look r
theorem RVk.any {k : Key} : ∀ {kvs : List (PyData × PV)} {ks : List (Key × V)}, RVk K Z ρ H kvs ks → (kvs.any fun p => keyEq p.1 (kD k)) = ks.any fun kv => decide (kv.1 = k)
  | _, _, .nil => rfl
  | _, _, .cons h r => by rw [List.any_cons, List.any_cons, keyEq_kD, RVk.any r]
theorem RVk.repl {k : Key} {v : PV} {x : V} (rv : RV K Z ρ H v x) : ∀ {kvs : List (PyData × PV)} {ks : List (Key × V)}, RVk K Z ρ H kvs ks → RVk K Z ρ H (kvs.map fun p => if keyEq p.1 (kD k) = true then (p.1, v) else p) (ks.map fun kv => if kv.1 = k then (kv.1, x) else kv)
  | _, _, .nil => .nil
  | _, _, .cons (k := j) h r => by
    rw [List.map_cons, List.map_cons, keyEq_kD]
    by_cases e : j = k
    · rw [if_pos (by simpa using e), if_pos e]; exact .cons rv (RVk.repl rv r)
    · rw [if_neg (by simpa using e), if_neg e]; exact .cons h (RVk.repl rv r)
theorem RVk.append : ∀ {a b : List (PyData × PV)} {x y : List (Key × V)}, RVk K Z ρ H a x → RVk K Z ρ H b y → RVk K Z ρ H (a ++ b) (x ++ y)
  | _, _, _, _, .nil, s => s
  | _, _, _, _, .cons h r, s => .cons h (RVk.append r s)
theorem RVk.put {k : Key} {v : PV} {x : V} (rv : RV K Z ρ H v x) {kvs : List (PyData × PV)} {ks : List (Key × V)} (r : RVk K Z ρ H kvs ks) : RVk K Z ρ H (putD kvs (kD k) v) (putK ks k x) := by
  unfold putD putK
  rw [r.any]
  split
  · exact r.repl rv
  · exact r.append (.cons rv .nil)
theorem RVk.length : ∀ {kvs : List (PyData × PV)} {ks : List (Key × V)}, RVk K Z ρ H kvs ks → kvs.length = ks.length
  | _, _, .nil => rfl
  | _, _, .cons h r => by simp [RVk.length r]
theorem RD.key {d : PyData} {x : V} {k : Key} (h : kOf d = some k) (r : RD K Z ρ H d x) : x = kV k := by
  cases d <;> cases h <;> cases r <;> rfl
end
section
variable {X : Cx} {cls : Nat → Addr} {e o i : Expr} {es : List Expr} {pos : Pos}
/-! ### d[k], k in d, d.get -/
theorem dget_of {H : Hp} {a : Addr} {ks : List (Key × V)} {k : Key} {x : Option V} (h : H a = some (.dK ks)) (e : valV ks k = x) : DGet H a (kV k) x := e ▸ DGet.k h
def rIxDk : R2 := fun x y H Q => ∃ a k v, x = V.ref a ∧ y = kV k ∧ DGet H a (kV k) (some v) ∧ Q v H
theorem ix_dK (c : COk X) : IxR X rIxDk := by
  intro value slice pins s σ H x y v u Q I rx ry ⟨a, k, w, ex, ey, g, q⟩ hs
  subst ex ey
  obtain rfl : v = Value.ref a := rx
  exact tail_any (dict_typeIs I g) slot_dict_getitem.lookup (d_getItem (by have := c.un; omega) I g ry fun w' s' I' r' => ⟨w, H, I', r', q⟩) hs
def oDix : Op2 := fun v u mh => match dOf mh v, u with
  | some kvs, .d d => match kOf d with
    | some _ => match look d kvs with
      | some w => .ok w mh
      | none => .bad
    | none => .bad
  | _, _ => .bad
theorem vDix (c : COk X) : IxV X cls oDix := fun E => IxR_imp (ix_dK c) fun x y H Q ⟨Z, ρ, mh, v, u, rh, rv, ru, q⟩ => by
  unfold oDix at q
  split at q
  · rename_i kvs d hd
    split at q
    · rename_i k hk
      split at q
      · rename_i w hw
        obtain ⟨a, ks, rfl, ha, rk⟩ := dOf_ok rh rv hd
        cases ru with
        | d ru =>
          obtain rfl := ru.key hk
          rw [kOf_kD hk] at hw
          rcases rk.look (k := k) with ⟨h1, _⟩ | ⟨v1, x1, h1, h2, r1⟩
          · rw [h1] at hw; cases hw
          · rw [h1] at hw; cases hw
            exact ⟨a, k, x1, rfl, rfl, dget_of ha h2, q.now rh _ r1⟩
      · exact q.elim
    · exact q.elim
  · exact q.elim
def dHas (d : PyData) (kvs : List (PyData × PV)) : Bool := (look d kvs).isSome
def oDin (b : Bool) : Op2 := fun u v mh => match dOf mh v, u with
  | some kvs, .d d => match kOf d with
    | some _ => .ok (.d (.bool (dHas d kvs == b))) mh
    | none => .bad
  | _, _ => .bad
theorem op_inDk (c : COk X) : OpR X (compareOp .In) fun y x H Q => ∃ a k o, x = V.ref a ∧ y = kV k ∧ DGet H a (kV k) o ∧ Q (.bl o.isSome) H := by
  intro pins s σ H y x u v Q I ry rx ⟨a, k, o, ex, ey, g, q⟩
  subst ex ey
  obtain rfl : v = Value.ref a := rx
  exact d_in (by have := c.un; omega) I g ry fun s' I' => ⟨.bl _, H, I', rfl, q⟩
theorem op_ninDk (c : COk X) : OpR X (compareOp .NotIn) fun y x H Q => ∃ a k o, x = V.ref a ∧ y = kV k ∧ DGet H a (kV k) o ∧ Q (.bl (!o.isSome)) H := by
  intro pins s σ H y x u v Q I ry rx ⟨a, k, o, ex, ey, g, q⟩
  subst ex ey
  obtain rfl : v = Value.ref a := rx
  exact d_notIn (by have := c.un; omega) I g ry fun s' I' => ⟨.bl _, H, I', rfl, q⟩
theorem din_of {K : PySem.W.Frag} {E : XK} {Z ρ : List Addr} {H : Hp} {mh : Mh} {u v : PV} {y x : V} {Q : VK} {b : Bool} (rh : RH K cls Z ρ mh H) (ru : RV K Z ρ H u y) (rv : RV K Z ρ H v x) (q : Post K cls E Z ρ H (oDin b u v mh) fun w ρ' _ H' => ∀ z, RV K Z ρ' H' w z → Q z H') :
    ∃ a k o, x = V.ref a ∧ y = kV k ∧ DGet H a (kV k) o ∧ Q (.bl (o.isSome == b)) H := by
  unfold oDin at q
  split at q
  · rename_i kvs d hd
    split at q
    · rename_i k hk
      obtain ⟨a, ks, rfl, ha, rk⟩ := dOf_ok rh rv hd
      cases ru with
      | d ru =>
        obtain rfl := ru.key hk
        unfold dHas at q
        rw [kOf_kD hk] at q
        rcases rk.look (k := k) with ⟨h1, h2⟩ | ⟨v1, x1, h1, h2, r1⟩
        · rw [h1] at q; exact ⟨a, k, none, rfl, rfl, dget_of ha h2, q.now rh _ (.d (.bl _))⟩
        · rw [h1] at q; exact ⟨a, k, some x1, rfl, rfl, dget_of ha h2, q.now rh _ (.d (.bl _))⟩
    · exact q.elim
  · exact q.elim
theorem vDin (c : COk X) : OpV X cls (compareOp .In) (oDin true) := fun E => OpR_imp (op_inDk c) fun y x H Q ⟨Z, ρ, mh, u, v, rh, ru, rv, q⟩ => by
  obtain ⟨a, k, o, h1, h2, h3, h4⟩ := din_of rh ru rv q
  exact ⟨a, k, o, h1, h2, h3, by simpa using h4⟩
theorem vDnin (c : COk X) : OpV X cls (compareOp .NotIn) (oDin false) := fun E => OpR_imp (op_ninDk c) fun y x H Q ⟨Z, ρ, mh, u, v, rh, ru, rv, q⟩ => by
  obtain ⟨a, k, o, h1, h2, h3, h4⟩ := din_of rh ru rv q
  exact ⟨a, k, o, h1, h2, h3, by cases o <;> simpa using h4⟩
def oDget : OpM := fun v vs mh => match dOf mh v, vs with
  | some kvs, [.d d] => match kOf d with
    | some _ => .ok ((look d kvs).getD (.d .none)) mh
    | none => .bad
  | some kvs, [.d d, w] => match kOf d with
    | some _ => .ok ((look d kvs).getD w) mh
    | none => .bad
  | _, _ => .bad
theorem tDget (c : COk X) : MtV X cls "dict.get" oDget := fun E => fun pins s σ H x xs v us Q I rx rxs ⟨Z, ρ, mh, pv, pvs, rh, rv, rs, q⟩ => by
  have hu : X.A.units + 1 < cLine := by have := c.un; omega
  unfold oDget at q
  split at q
  · rename_i kvs d hd
    split at q
    · rename_i k hk
      obtain ⟨a, ks, rfl, ha, rk⟩ := dOf_ok rh rv hd
      obtain rfl : v = Value.ref a := rx
      cases rs with
      | cons ru rn =>
        cases rn
        cases ru with
        | d ru =>
          obtain rfl := ru.key hk
          rw [kOf_kD hk] at q
          obtain ⟨u1, rfl, ru1⟩ := rxs.one
          rcases rk.look (k := k) with ⟨h1, h2⟩ | ⟨v1, x1, h1, h2, r1⟩
          · rw [h1] at q
            exact d_get1 hu I (dget_of ha h2) ru1 fun w' s' I' r' => ⟨.non, H, I', r', q.now rh _ (.d .non)⟩
          · rw [h1] at q
            exact d_get1 hu I (dget_of ha h2) ru1 fun w' s' I' r' => ⟨x1, H, I', r', q.now rh _ r1⟩
    · exact q.elim
  · rename_i kvs d w hd
    split at q
    · rename_i k hk
      obtain ⟨a, ks, rfl, ha, rk⟩ := dOf_ok rh rv hd
      obtain rfl : v = Value.ref a := rx
      cases rs with
      | cons ru rn =>
        cases rn with
        | @cons _ xw _ _ rw' rn =>
          cases rn
          cases ru with
          | d ru =>
            obtain rfl := ru.key hk
            rw [kOf_kD hk] at q
            obtain ⟨u1, u2, rfl, ru1, ru2⟩ := rxs.two
            rcases rk.look (k := k) with ⟨h1, h2⟩ | ⟨v1, x1, h1, h2, r1⟩
            · rw [h1] at q
              exact d_get2 hu I (dget_of ha h2) ru1 ru2 fun w' s' I' r' => ⟨xw, H, I', r', q.now rh _ rw'⟩
            · rw [h1] at q
              exact d_get2 hu I (dget_of ha h2) ru1 ru2 fun w' s' I' r' => ⟨x1, H, I', r', q.now rh _ r1⟩
    · exact q.elim
  · exact q.elim
/-! ### a module's dict of ints -/
def TabK (K : PySem.W.Frag) (w : World) (a : Addr) (tab : List (Str × Int)) : Prop := ∃ es n, KDict K w a es n ∧ ∀ z, ∃ r, PySem.W.nsIn K a z = some r ∧ match tab.lookup z with
  | none => r = none
  | some i => ∃ t, r = some (.int i t)
def mTabIn (b : Bool) (tab : List (Str × Int)) (me : EM) : EM := fun lo mh => (me lo mh).bind fun v mh1 => match v with
  | .d (.str z) => .ok (.d (.bool ((tab.lookup z).isSome == b))) mh1
  | _ => .bad
def mTabIx (tab : List (Str × Int)) (me : EM) : EM := fun lo mh => (me lo mh).bind fun v mh1 => match v with
  | .d (.str z) => match tab.lookup z with
    | some i => .ok (.d (.int i)) mh1
    | none => .bad
  | _ => .bad
theorem tab_get {K : PySem.W.Frag} {w : World} {d : Addr} {tab : List (Str × Int)} (T : TabK K w d tab) (z : Str) : ∃ es n r, KDict K w d es n ∧ PySem.W.nsIn K d z = some r ∧ r.isSome = (tab.lookup z).isSome ∧ ∀ i, tab.lookup z = some i → ∃ t, r = some (.int i t) := by
  obtain ⟨es, n, D, h⟩ := T
  obtain ⟨r, h1, h2⟩ := h z
  refine ⟨es, n, r, D, h1, ?_, fun i hi => ?_⟩
  · cases k : tab.lookup z with
    | none => rw [k] at h2; rw [h2]; rfl
    | some i => rw [k] at h2; obtain ⟨t, rfl⟩ := h2; rfl
  · rw [hi] at h2; exact h2
theorem tabIn_pe {E : XK} {d : Addr} {tab : List (Str × Int)} {a : Expr} {ma : EM} {b : Bool} {σ : L2.St} {H : Hp} {Q : VK} (T : TabK X.K X.w d tab) (h : tE X.K cls E (mTabIn b tab ma) σ H Q) :
    tOp (fun x y H Q => ∃ (z : Str) (r : Option Value), x = .str z ∧ y = .ref d ∧ PySem.W.nsIn X.K d z = some r ∧ Q (.bl (r.isSome == b)) H) (tE X.K cls E ma) (tC (.ref d)) σ H Q := by
  obtain ⟨Z, ρ, lo, mh, s, q⟩ := h
  refine ⟨Z, ρ, lo, mh, s, (Post.bind q).imp fun v ρ1 mh1 H1 e1 r1 q x rx => ?_⟩
  split at q
  · rename_i z
    obtain ⟨es, n, r, D, h1, h2, _⟩ := tab_get T z
    cases rx with
    | d rx => cases rx; exact ⟨z, r, rfl, rfl, h1, by rw [h2]; exact q.now r1 _ (.d (.bl _))⟩
  · exact q.elim
theorem OpR_imp' {f : Value → Value → Sem Value} {r r' : R2} (h : OpR X f r) (g : ∀ x y H Q, r' x y H Q → r x y H Q) : OpR X f r' := OpR_imp h g
theorem JE_tabIn (c : COk X) {d : Addr} {tab : List (Str × Int)} {a : Expr} {ma : EM} {t : Str} {p : Pos} (T : TabK X.K X.w d tab) (ha : JE X cls a ma) (hg : Gl X t) (hm : X.mg t = some (.ref d)) (hdb : (t == ("__debug__" : Str)) = false) (hk : behindInMarks .In (.Name t p) = false) :
    JE X cls (.Compare a [.In] [.Name t p] pos) (mTabIn true tab ma) := fun E hx =>
  have ⟨_, _, D, _⟩ := T
  .of c ((pe_cmpR (op_in_kd D) (ha E hx).pe (pe_glob hg hm (v := .ref d) rfl hdb) hk).imp fun σ H Q h => (by
    have h2 := tabIn_pe (a := a) T h
    simpa [tOp] using h2)) fun _ _ _ => rfl
theorem JE_tabNin (c : COk X) {d : Addr} {tab : List (Str × Int)} {a : Expr} {ma : EM} {t : Str} {p : Pos} (T : TabK X.K X.w d tab) (ha : JE X cls a ma) (hg : Gl X t) (hm : X.mg t = some (.ref d)) (hdb : (t == ("__debug__" : Str)) = false) (hk : behindInMarks .NotIn (.Name t p) = false) :
    JE X cls (.Compare a [.NotIn] [.Name t p] pos) (mTabIn false tab ma) := fun E hx =>
  have ⟨_, _, D, _⟩ := T
  .of c ((pe_cmpR (op_notIn_kd D) (ha E hx).pe (pe_glob hg hm (v := .ref d) rfl hdb) hk).imp fun σ H Q h => (by
    have h2 := tabIn_pe (a := a) T h
    simpa [tOp] using h2)) fun _ _ _ => rfl
theorem JT_tabIn (c : COk X) {d : Addr} {tab : List (Str × Int)} {a : Expr} {ma : EM} {t : Str} {p : Pos} (T : TabK X.K X.w d tab) (ha : JE X cls a ma) (hg : Gl X t) (hm : X.mg t = some (.ref d)) (hdb : (t == ("__debug__" : Str)) = false) (hk : behindInMarks .In (.Name t p) = false) :
    JT X cls (.Compare a [.In] [.Name t p] pos) (mB (mTabIn true tab ma)) := fun E hx =>
  have ⟨_, _, D, _⟩ := T
  (pt_cmpR (op_in_kd D) (ha E hx).pe (pe_glob hg hm (v := .ref d) rfl hdb) hk).imp fun σ H Q h => by
    have h2 := tabIn_pe (a := a) T (tT_of_bl h)
    simpa [tOp, tTest] using h2
theorem JT_tabNin (c : COk X) {d : Addr} {tab : List (Str × Int)} {a : Expr} {ma : EM} {t : Str} {p : Pos} (T : TabK X.K X.w d tab) (ha : JE X cls a ma) (hg : Gl X t) (hm : X.mg t = some (.ref d)) (hdb : (t == ("__debug__" : Str)) = false) (hk : behindInMarks .NotIn (.Name t p) = false) :
    JT X cls (.Compare a [.NotIn] [.Name t p] pos) (mB (mTabIn false tab ma)) := fun E hx =>
  have ⟨_, _, D, _⟩ := T
  (pt_cmpR (op_notIn_kd D) (ha E hx).pe (pe_glob hg hm (v := .ref d) rfl hdb) hk).imp fun σ H Q h => by
    have h2 := tabIn_pe (a := a) T (tT_of_bl h)
    simpa [tOp, tTest] using h2
theorem JE_tabIx (c : COk X) {d : Addr} {tab : List (Str × Int)} {b : Expr} {mb : EM} {t : Str} {p : Pos} (T : TabK X.K X.w d tab) (hb : JE X cls b mb) (hg : Gl X t) (hm : X.mg t = some (.ref d)) (hdb : (t == ("__debug__" : Str)) = false) (hs : PlainIx b) :
    JE X cls (.Subscript (.Name t p) b pos) (mTabIx tab mb) := fun E hx =>
  .of c ((pe_ix ix_kdict (pe_glob hg hm (v := .ref d) rfl hdb) (hb E hx).pe hs).imp fun σ H Q ⟨Z, ρ, lo, mh, s, q⟩ => by
    refine ⟨Z, ρ, lo, mh, s, (Post.bind q).imp fun v ρ1 mh1 H1 e1 r1 q x rx => ?_⟩
    split at q
    · rename_i z
      split at q
      · rename_i i hi
        obtain ⟨es, n, r, D, h1, _, h3⟩ := tab_get T z
        obtain ⟨tk, rfl⟩ := h3 i hi
        cases rx with
        | d rx => cases rx; exact ⟨d, z, .int i, rfl, rfl, ⟨es, n, _, D.at_, D.lit, h1, ⟨tk, rfl⟩⟩, q.now r1 _ (.d (.int _))⟩
      · exact q.elim
    · exact q.elim) fun _ _ _ => rfl
/-! ### stores -/
def setP : PV → PV → PV → Mh → Option Mh := fun o i v mh => match o with
  | .ref n => match mh[n]?, i with
    | some (.lst l), .d (.int k) => match ixN l.length k with
      | some j => some (mh.set n (.lst (l.set j v)))
      | none => none
    | some (.dct kvs), .d d => match kOf d with
      | some _ => if kvs.length < sizeLine then some (mh.set n (.dct (putD kvs d v))) else none
      | none => none
    | _, _ => none
  | _ => none
theorem RH.wrD {K : PySem.W.Frag} {Z ρ : List Addr} {H : Hp} {mh : Mh} {n : Nat} {a : Addr} {l : List (PyData × PV)} {ys : List (Key × V)} (rh : RH K cls Z ρ mh H) (ha : ρ[n]? = some a) (ry : RVk K Z ρ H l ys) : RH K cls Z ρ (mh.set n (.dct l)) (upd H a (.dK ys)) ∧ Ext ρ H ρ (upd H a (.dK ys)) :=
  have e : Ext ρ H ρ (upd H a (.dK ys)) := Ext.write (List.mem_of_getElem? ha)
  ⟨rh.write ha (.dct upd_same (ry.mono e)), e⟩
def rSetE (K : PySem.W.Frag) (cls : Nat → Addr) : TSet := fun o i v H Q => ∃ Z ρ mh po pi pv, RH K cls Z ρ mh H ∧ RV K Z ρ H po o ∧ RV K Z ρ H pi i ∧ RV K Z ρ H pv v ∧ ∃ mh', setP po pi pv mh = some mh' ∧ ∀ H', Ext ρ H ρ H' → RH K cls Z ρ mh' H' → Q H'
theorem setE_ok (c : COk X) : PSet X (rSetE X.K cls) := by
  intro pins s σ H o i v ov iv u Q I ro ri rv ⟨Z, ρ, mh, po, pi, pv, rh, r1, r2, r3, mh', e, q⟩
  unfold setP at e
  split at e
  · rename_i n
    split at e
    · rename_i l k hn
      split at e
      · rename_i j hj
        cases e
        cases r1 with
        | @ref _ a ha =>
          cases r2 with
          | d r2 =>
            cases r2
            cases rh.objs n _ a hn ha with
            | @lst _ xs _ h2 rx =>
              have z := rh.wr (l := l.set j pv) ha (rx.set j r3)
              exact set_list pins s σ H _ _ v ov iv u Q I ro ri rv ⟨a, xs, k, j, rfl, rfl, h2, by rw [← rx.length]; exact hj, q _ z.2 z.1⟩
      · cases e
    · rename_i kvs d hn
      split at e
      · rename_i k hk
        split at e
        · rename_i hl
          cases e
          cases r1 with
          | @ref _ a ha =>
            cases r2 with
            | d r2 =>
              obtain rfl := r2.key hk
              cases rh.objs n _ a hn ha with
              | @dct _ ks _ h2 rk =>
                obtain rfl := kOf_kD hk
                have z := rh.wrD (l := putD kvs (kD k) pv) ha (rk.put r3)
                exact set_dict (by have := c.un; omega) pins s σ H _ _ v ov iv u Q I ro ri rv ⟨a, _, rfl, DPut.k h2 (by rw [← rk.length]; exact hl), q _ z.2 z.1⟩
        · cases e
      · cases e
    · cases e
  · cases e
/-- o[i] = e -/
def sSub (me mo mi : EM) : SM := fun lo mh => ofR (me lo mh) fun v mh1 => ofR (mo lo mh1) fun o mh2 => ofR (mi lo mh2) fun i mh3 => match setP o i v mh3 with
  | some mh4 => .nx lo mh4
  | none => .bad
theorem JS_sub (c : COk X) {v : Expr} {me mo mi : EM} {pos' : Pos} (he : JE X cls v me) (ho : JE X cls o mo) (hi : JE X cls i mi)
    (ha : ∀ v, assign (.Subscript o i pos') X.env v = (do
      let ov ← holding [v] (eval o X.env)
      let iv ← holding [v, ov] (eval i X.env)
      standAt pos'
      holding [v, ov, iv] (setItem ov iv v)
      release [v, ov, iv] []))
    (hs : swapsWithSole [.Subscript o i pos'] v pos.line X.env = pure false) (hw : swappedStores [.Subscript o i pos'] v X.env = pure none) (h1 : (assignEach [.Subscript o i pos'] X.env).map (·.2) = [assign (.Subscript o i pos') X.env]) :
    JS X cls (.Assign [.Subscript o i pos'] v pos) (sSub me mo mi) := fun E tk =>
  (ps_asg (he E (passT tk)).pe (pg_sub (ho E (passT tk)).pe (hi E (passT tk)).pe (setE_ok c) ha) hs hw h1).imp fun D σ H ⟨Z, ρ, lo, mh, s, p⟩ => by
    refine ⟨Z, ρ, lo, mh, s, (PostS.bind p).imp fun pv ρ1 mh1 H1 e1 r1 q x rx => ?_⟩
    refine ⟨Z, ρ1, lo, mh1, s.to e1 r1, (PostS.bind q).imp fun po ρ2 mh2 H2 e2 r2 q2 y ry => ?_⟩
    refine ⟨Z, ρ2, lo, mh2, (s.to e1 r1).to e2 r2, (PostS.bind q2).imp fun pi ρ3 mh3 H3 e3 r3 q3 z rz => ?_⟩
    split at q3
    · rename_i mh4 h4
      exact ⟨Z, ρ3, mh3, po, pi, pv, r3, ry.mono e3, rz, (rx.mono e2).mono e3, mh4, h4, fun H' e4 r4 => (q3.later e4).nxt ((((s.to e1 r1).to e2 r2).to e3 r3).to e4 r4)⟩
    · exact q3.elim
end
end EL


set_option Elab.async false
set_option linter.all false
set_option maxRecDepth 100000
set_option maxHeartbeats 4000000
/-! EL: sorted. -/
namespace EL
open PySem L2 PySem.W
open PyProof.Rows (seqObj size_push')
/-- what may be gone through at once -/
def Coll (K : PySem.W.Frag) (H : Hp) (a : Addr) (xs : List V) : Prop := SqL K H a xs ∨ SqT K H a xs ∨ ∃ kvs : List (Key × V), Rd H a (.dK kvs) ∧ xs = kvs.map fun kv => kV kv.1
/-- it can be gone through at once: these items -/
def Colls (X : Cx) (H : Hp) (a : Addr) (xs : List V) : Prop := ∀ (pins : List (Addr × Obj)) (σ : L2.St) (s : Shared) (A : Around) (E : Value → Shared → Prop) (R : List Value → Shared → Prop), A.handled = none → L2.Inv X pins σ H s →
  (∀ h' tk its, (∀ b o, s.heap.get? b = some o → h'.get? b = some o) → Vals xs its → xs.length ≤ sizeLine → R its { s with heap := h', toks := tk }) → wpAny (model X.prog X.w) A (collect (.ref a)) R E s
section
variable {X : Cx} {cls : Nat → Addr}
theorem coll_run (c : COk X) {pins : List (Addr × Obj)} {σ : L2.St} {H : Hp} {s : Shared} {a : Addr} {xs : List V} {A : Around} {E : Value → Shared → Prop} {R : List Value → Shared → Prop} (hh : A.handled = none) (I : L2.Inv X pins σ H s) (h : Coll X.K H a xs)
    (hR : ∀ h' tk its, (∀ b o, s.heap.get? b = some o → h'.get? b = some o) → Vals xs its → xs.length ≤ sizeLine → R its { s with heap := h', toks := tk }) : wpAny (model X.prog X.w) A (collect (.ref a)) R E s := by
  rcases h with h | h | ⟨kvs, h, e⟩
  · obtain ⟨its, rv, ⟨o, n, ho, hc, hdn, hdt⟩, hz⟩ := I.list h
    refine wpAny_collect_seq a (.inl rfl) ho hc hdt (fun h' hk => ?_) (by rw [List.size_toArray, ← rv.length]; exact hz)
    exact hR h' s.toks its hk rv hz
  · obtain ⟨its, rv, ⟨o, ho, hc, n, hdt⟩, hz⟩ := I.tuple h
    have hl := rv.length
    refine wpAny_collect_seq a (.inr rfl) ho hc hdt (fun h' hk => ?_) (by rw [List.size_toArray, ← hl]; exact hz)
    exact hR h' s.toks _ hk rv hz
  · obtain ⟨z, lo, vs, rel, dd⟩ := dk_rd I.hok h
    obtain ⟨ep, hat⟩ := dd.dictAt
    have hl := rel.length
    refine PySem.W.kdu_collect (PySem.W.kdl_dict (knd := mixKind X.prog X.w) (kvs := vs) (ep := ep) lo) hh hat (by rw [← hl]; exact z) fun h' tk acc hk hacc => ?_
    have hv : Vals (vs.map fun p => kV p.1) acc.toList := keys_at (by rw [Array.length_toList]; exact hacc.1) fun j v e => hacc.2 j v (by rw [← Array.getElem?_toList]; exact e)
    have ek : (kvs.map fun kv => kV kv.1) = vs.map fun p => kV p.1 := by
      have e := congrArg (List.map kV) rel.keys
      rw [List.map_map, List.map_map] at e
      exact e
    subst e
    exact hR h' tk _ hk (by rw [ek]; exact hv) (by rw [List.length_map]; exact z)
theorem each_zip {h : Heap} : ∀ {xs : List V} {its : List Value} {ds : List PyData} {as : List Addr}, Vals xs its → ReadsAll h its ds as →
    EachIs (fun (v : Value) (b : V × PyData) => RelV b.1 v) its (xs.zip ds) ∧ EachIs (fun (v : Value) (b : V × PyData) => ∃ as, Reads h v b.2 as) its (xs.zip ds)
  | _, _, [], _, .nil, r => by cases r; exact ⟨.nil, .nil⟩
  | _, _, d :: ds, _, .cons h1 t1, r => by
    cases r with
    | cons h2 t2 =>
      obtain ⟨a, b⟩ := each_zip t1 t2
      exact ⟨.cons h1 a, .cons ⟨_, h2⟩ b⟩
theorem vals_each : ∀ {zs : List (V × PyData)} {out : List Value}, EachIs (fun (v : Value) (b : V × PyData) => RelV b.1 v) out zs → Vals (zs.map (·.1)) out
  | _, _, .nil => .nil
  | _, _, .cons h t => .cons h (vals_each t)
theorem zip_snd : ∀ {xs : List V} {ds : List PyData}, xs.length = ds.length → (xs.zip ds).map (·.2) = ds
  | [], [], _ => rfl
  | _ :: xs, _ :: ds, h => by simp at h; simp [zip_snd h]
def srtOk (ds : List PyData) : Prop := AllAlike ds ∧ Sortable ds ∧ ∀ d, d ∈ ds → d.depth ≤ 64
def srt (zs : List (V × PyData)) : List (V × PyData) := zs.mergeSort (dataLe false Prod.snd)
def rSrt (X : Cx) : List V → Hp → VK → Prop := fun vs H Q => ∃ a xs ds, vs = [V.ref a] ∧ Colls X H a xs ∧ DpAll X.K H xs ds ∧ xs.length = ds.length ∧ srtOk ds ∧ ∀ p, H p = none → Q (.ref p) (upd H p (.lst ((srt (xs.zip ds)).map (·.1))))
theorem cr_srt (c : COk X) : CallR X (.builtin "sorted") (rSrt X) := by
  intro pins s σ H vs us Q I r ⟨a, xs, ds, ev, hcoll, hda, hxd, ⟨hal, hso, hde⟩, q⟩
  subst ev
  obtain ⟨u, eu, rx⟩ := vals1 r
  subst eu
  cases rx
  refine Calls.call_function_entry PyProof.Rows.kind_sorted PyProof.Rows.plain_sorted PyProof.Rows.entry_sorted (PyProof.Rows.args_sorted1 _) ?_
  unfold Builtin.«sorted»
  refine wpAny_bind (m := checkCount "sorted" 1 1 _) (wpAny_pure ?_)
  refine wpAny_bind (hcoll _ _ _ X.A.in1 _ _ (I.ok.hd c.calm) I fun h' tk its hk rv hz => ?_)
  have I1 : L2.Inv X pins σ H { s with heap := h', toks := tk } := I.kept hk
  obtain ⟨as, rs⟩ := Dp.readsAll I1 ds xs its hda rv
  obtain ⟨e1, e2⟩ := each_zip rv rs
  have hlen := rv.length
  refine wpAny_bind (wpAny_newList ?_ (by rw [← hlen]; exact hz))
  have hoL : (h'.push (seqObj "list" its.toArray 0)).get? h'.objs.size = some (seqObj "list" its.toArray 0) := Heap.get?_push_size _ rfl
  show wpAny _ _ _ _ _ { s with heap := h'.push (seqObj "list" its.toArray 0), toks := tk }
  have hmap : (xs.zip ds).map (Prod.snd : V × PyData → PyData) = ds := zip_snd hxd
  have hal' : AllAlike ((xs.zip ds).map Prod.snd) := by rw [hmap]; exact hal
  have hso' : Sortable ((xs.zip ds).map Prod.snd) := by rw [hmap]; exact hso
  have er' : EachIs (fun (v : Value) (b : V × PyData) => ∃ as, Reads (sortingHeap (h'.push (seqObj "list" its.toArray 0)) h'.objs.size its) v b.2 as) its (xs.zip ds) := e2.mono fun v b ⟨as, r⟩ => ⟨as, PyProof.Rows.Reads.keeps (fun b' o q => sortingHeap_old (Nat.ne_of_lt (Heap.lt_size q)) (Heap.get?_push_of_some _ q)) r⟩
  have hfin := sortVals_data (R := fun (v : Value) (b : V × PyData) => RelV b.1 v) (enc := Prod.snd) false e1 er' hal'
  refine wpAny_bind (wpAny_holding (wpAny_call_entry PyProof.Rows.slot_list_sort ⟨_, hoL, rfl⟩ PyProof.Rows.entry_list_sort
    (list_sort_vals (s := { s with heap := h'.push (seqObj "list" its.toArray 0), toks := tk }) (κ := dataKind (sortingHeap (h'.push (seqObj "list" its.toArray 0)) h'.objs.size its) ((xs.zip ds).map Prod.snd)) hoL
      (SortsAt.data (s := { s with heap := sortingHeap (h'.push (seqObj "list" its.toArray 0)) h'.objs.size its, toks := tk }) (each_map (R := fun v d => ∃ as, Reads _ v d as) Prod.snd er') hal' hso' ?_) (by rw [← hlen]; exact hz) ⟨.none, rfl, ?_⟩) (PyProof.Rows.args_list_sort _)))
  · intro d hd
    rw [hmap] at hd
    have h1 := hde d hd
    have h2 := c.un
    show X.A.units + 1 + 1 + _ < _
    omega
  · obtain ⟨ep, he'⟩ := PyProof.Rows.sortedHeap_at (vs := its) (out := (sortVals (dataKind (sortingHeap (h'.push (seqObj "list" its.toArray 0)) h'.objs.size its) ((xs.zip ds).map Prod.snd)) false its its).toArray) hoL
    have hv := vals_each hfin
    have hlz : ((srt (xs.zip ds)).map (·.1)).length ≤ sizeLine := by rw [List.length_map, srt, List.length_mergeSort, List.length_zip, ← hxd, Nat.min_self]; exact hz
    refine wpAny_pure ⟨_, rfl, .ref h'.objs.size, upd H h'.objs.size (.lst ((srt (xs.zip ds)).map (·.1))), I1.laid (t' := tk) (fun b u e => ?_) (Nat.le_refl _)
      (show L2.ObjOk X.prog X.w _ _ _ (.lst ((srt (xs.zip ds)).map (·.1))) from ⟨hlz, _, ep, hv, he'⟩), rfl, q _ (I1.hok.fresh (Nat.le_refl _))⟩
    have hb : b < h'.objs.size := Heap.lt_size e
    rw [PyProof.Rows.sortedHeap_old (Nat.ne_of_lt hb) (by rw [size_push']; exact Nat.lt_succ_of_lt hb)]
    exact Heap.get?_push_of_some _ e
end
/-- the items as data: of a list, of a tuple, the keys of a dict -/
def itemsD (mh : Mh) (v : PV) : Option (List PyData) := match seqOf mh v with
  | some l => allD l
  | none => (dOf mh v).map fun kvs => kvs.map (·.1)
theorem RVk.keysD {K : PySem.W.Frag} {Z ρ : List Addr} {H : Hp} : ∀ {kvs : List (PyData × PV)} {ks : List (Key × V)}, RVk K Z ρ H kvs ks → RDs K Z ρ H (kvs.map (·.1)) (ks.map fun kv => kV kv.1)
  | _, _, .nil => .nil
  | _, _, .cons (k := k) h r => .cons (by cases k; exact .int _; exact .str _) (RVk.keysD r)
theorem itemsD_ok {K : PySem.W.Frag} {cls : Nat → Addr} {Z ρ : List Addr} {H : Hp} {mh : Mh} (rh : RH K cls Z ρ mh H) {v : PV} {x : V} {ds : List PyData} (r : RV K Z ρ H v x) (e : itemsD mh v = some ds) : ∃ a xs, x = .ref a ∧ Coll K H a xs ∧ RDs K Z ρ H ds xs := by
  unfold itemsD at e
  split at e
  · rename_i l hl
    obtain ⟨a, xs, rfl, h, rr⟩ := seqOf_ok rh r hl
    have := allD_ok e
    subst this
    refine ⟨a, xs, rfl, ?_, rr.toD⟩
    rcases h with h | h
    · exact .inl (.of h)
    · exact .inr (.inl h.sq)
  · cases k : dOf mh v with
    | none => rw [k] at e; cases e
    | some kvs =>
      rw [k] at e
      cases e
      obtain ⟨a, ks, rfl, ha, rk⟩ := dOf_ok rh r k
      exact ⟨a, _, rfl, .inr (.inr ⟨ks, .inl ha, rfl⟩), rk.keysD⟩
def mSrt (ds : List PyData) : List PyData := ds.mergeSort (dataLe false id)
theorem srt_snd {xs : List V} {ds : List PyData} (h : xs.length = ds.length) : (srt (xs.zip ds)).map (·.2) = mSrt ds := by
  unfold srt mSrt
  rw [List.map_mergeSort (r := dataLe false Prod.snd) (s := dataLe false id) (f := fun x : V × PyData => x.2) (fun a _ b _ => rfl), zip_snd h]
theorem RDs.mem {K : PySem.W.Frag} {Z ρ : List Addr} {H : Hp} : ∀ {ds : List PyData} {xs : List V}, RDs K Z ρ H ds xs → ∀ p, p ∈ xs.zip ds → RD K Z ρ H p.2 p.1
  | _, _, .nil, p, h => by cases h
  | _, _, .cons h r, p, hp => by
    rcases List.mem_cons.mp hp with e | e
    · subst e; exact h
    · exact RDs.mem r p e
theorem RDs.ofMem {K : PySem.W.Frag} {Z ρ : List Addr} {H : Hp} : ∀ {zs : List (V × PyData)}, (∀ p, p ∈ zs → RD K Z ρ H p.2 p.1) → RDs K Z ρ H (zs.map (·.2)) (zs.map (·.1))
  | [], _ => .nil
  | z :: zs, h => .cons (h z List.mem_cons_self) (RDs.ofMem fun p hp => h p (List.mem_cons_of_mem _ hp))
theorem RDs.srt {K : PySem.W.Frag} {Z ρ : List Addr} {H : Hp} {ds : List PyData} {xs : List V} (r : RDs K Z ρ H ds xs) : RDs K Z ρ H (mSrt ds) ((srt (xs.zip ds)).map (·.1)) := by
  rw [← srt_snd r.length.symm]
  exact RDs.ofMem fun p hp => r.mem p ((List.mergeSort_perm _ _).mem_iff.mp hp)
open Classical in
noncomputable def lSrt (me : EM) : AM := fun lo mh => (me lo mh).bind fun v mh1 => match itemsD mh1 v with
  | some ds => if srtOk ds then .ok ((mSrt ds).map .d) mh1 else .bad
  | none => .bad
section
variable {X : Cx} {cls : Nat → Addr} {a : Expr} {pos : Pos}
theorem JL_srt (c : COk X) {p : Pos} {ma : EM} (hg : Gl X "sorted") (hm : X.mg "sorted" = none) (ha : JE X cls a ma)
    (he : starEach [a] X.env = (false, eval a X.env) :: starEach [] X.env := by rfl) (hpl : (backTo pos (starEach [] X.env)).any (·.1) = false := by rfl) : JL X cls (.Call (.Name "sorted" p) [a] [] pos) (lSrt ma) := fun E hx =>
  .of c ((pe_callB (cr_srt c) hg hm (by decide +kernel) (pa_cons (ha E hx).pe pa_nil he) (by decide) (by decide) he hpl).imp fun σ H Q ⟨Z, ρ, lo, mh, s, q⟩ => by
    refine ⟨Z, ρ, lo, mh, s, (Post.bind q).imp fun v ρ1 mh1 H1 e1 r1 q x rx => ?_⟩
    split at q
    · rename_i ds hd
      split at q
      · rename_i ho
        obtain ⟨a, xs, rfl, hc, rd⟩ := itemsD_ok r1 rx hd
        exact ⟨a, xs, ds, rfl, fun _ _ _ _ _ _ hh I hR => coll_run c hh I hc hR, rd.dp, rd.length.symm, ho, fun p hp => KL.new q (fun p hp => e1.none r1 hp) r1 (RVs.ofD rd.srt) hp⟩
      · exact q.elim
    · exact q.elim) fun _ _ _ => rfl
end
/-! ### sorted(set(xs)), pairs of small ints -/
def prsOf : List PyData → Option (List (Int × Int))
  | [] => some []
  | .tuple [.int x, .int y] :: r => if 0 ≤ x ∧ x < 64 ∧ 0 ≤ y ∧ y < 64 then (prsOf r).map ((x, y) :: ·) else none
  | _ :: _ => none
def prD (p : Int × Int) : PyData := .tuple [.int p.1, .int p.2]
def ddp : List (Int × Int) → List (Int × Int)
  | [] => []
  | x :: r => if x ∈ r then ddp r else x :: ddp r
def prLe (a b : Int × Int) : Bool := decide (a.1 < b.1 ∨ (a.1 = b.1 ∧ a.2 ≤ b.2))
def srtP (l : List (Int × Int)) : List (Int × Int) := (ddp l).mergeSort prLe
theorem mem_ddp {x : Int × Int} : ∀ {l : List (Int × Int)}, x ∈ ddp l ↔ x ∈ l
  | [] => Iff.rfl
  | y :: r => by
    unfold ddp
    split
    · rename_i h
      rw [mem_ddp, List.mem_cons]
      exact ⟨.inr, fun k => k.elim (fun e => e ▸ h) id⟩
    · rw [List.mem_cons, List.mem_cons, mem_ddp]
theorem nodup_ddp : ∀ l : List (Int × Int), (ddp l).Nodup
  | [] => List.nodup_nil
  | y :: r => by
    unfold ddp
    split
    · exact nodup_ddp r
    · rename_i h
      exact List.nodup_cons.mpr ⟨fun k => h (mem_ddp.mp k), nodup_ddp r⟩
theorem prLe_trans (a b c : Int × Int) (h1 : prLe a b = true) (h2 : prLe b c = true) : prLe a c = true := by
  simp only [prLe, decide_eq_true_eq] at *; omega
theorem prLe_total (a b : Int × Int) : (prLe a b || prLe b a) = true := by
  simp only [prLe, Bool.or_eq_true, decide_eq_true_eq]; omega
theorem prLe_anti (a b : Int × Int) (h1 : prLe a b = true) (h2 : prLe b a = true) : a = b := by
  simp only [prLe, decide_eq_true_eq] at *
  exact Prod.ext (by omega) (by omega)
/-- strictly ascending with the same members: the same -/
theorem srtP_eq {l m : List (Int × Int)} (hm : ∀ x, x ∈ m ↔ x ∈ l) (hn : m.Nodup) (hs : m.Pairwise fun a b => prLe a b = true) : m = srtP l := by
  refine List.Perm.eq_of_pairwise (le := fun a b => prLe a b = true) (fun a b _ _ => prLe_anti a b) hs (List.pairwise_mergeSort prLe_trans prLe_total _) ?_
  refine (List.perm_ext_iff_of_nodup hn (nodup_ddp l)).mpr (fun x => ?_) |>.trans (List.mergeSort_perm _ _).symm
  rw [mem_ddp]; exact hm x
theorem prsOf_ok : ∀ {ds : List PyData} {ps : List (Int × Int)}, prsOf ds = some ps → ds = ps.map prD ∧ ∀ p, p ∈ ps → (0 ≤ p.1 ∧ p.1 < 64) ∧ (0 ≤ p.2 ∧ p.2 < 64) := by
  intro ds
  induction ds with
  | nil => intro ps h; cases h; exact ⟨rfl, fun p hp => by cases hp⟩
  | cons d r ih =>
    intro ps h
    unfold prsOf at h
    split at h
    · rename_i e; cases e
    · rename_i x y r' e
      cases e
      split at h
      · rename_i hb
        cases k : prsOf r with
        | none => rw [k] at h; cases h
        | some q =>
          rw [k] at h; cases h
          obtain ⟨h1, h2⟩ := ih k
          refine ⟨by rw [List.map_cons, ← h1]; rfl, fun p hp => ?_⟩
          rcases List.mem_cons.mp hp with e | e
          · subst e; exact ⟨⟨hb.1, hb.2.1⟩, hb.2.2⟩
          · exact h2 p e
      · cases h
    · cases h
def lSrtSet (me : EM) : AM := fun lo mh => (me lo mh).bind fun v mh1 => match listOf mh1 v with
  | some l => match allD l with
    | some ds => match prsOf ds with
      | some ps => if ps.length < 64 then .ok ((srtP ps).map fun p => .d (prD p)) mh1 else .bad
      | none => .bad
    | none => .bad
  | none => .bad
end EL



set_option Elab.async false
set_option linter.all false
set_option maxRecDepth 100000
set_option maxHeartbeats 4000000
/-! EL: the rules as a printed proof names them. -/
namespace EL
open PySem L2
/-- a comprehension's names, looked at by reckoning -/
def blkB (N : List Str) (sc scope : Scope) (own : List (Str × Nat)) : Bool :=
  (match scope.kind with | .function => true | _ => false) &&
  (scope.names.all fun y => decide (scope.names.lookup y.1 = some y.2)) && (own.all fun p => decide (N[p.2]? = some p.1)) &&
  (scope.names.all fun y => !decide (y.2 = .free) || (decide (sc.names.lookup y.1 = some .cell) || decide (sc.names.lookup y.1 = some .free))) &&
  (scope.names.all fun y => !(decide (y.2 = .local) || decide (y.2 = .cell)) || (decide (y.1 ∈ own.map (·.1)) || decide (y.1 ∉ N)))
theorem blkB_ok {N : List Str} {sc scope : Scope} {own : List (Str × Nat)} (h : blkB N sc scope own = true) : BlkOk N sc scope own := by
  unfold blkB at h
  simp only [Bool.and_eq_true, List.all_eq_true, Bool.or_eq_true, Bool.not_eq_true', decide_eq_true_eq, decide_eq_false_iff_not] at h
  obtain ⟨⟨⟨⟨h0, h1⟩, h2⟩, h3⟩, h4⟩ := h
  refine ⟨?_, h1, h2, fun y hy e => ?_, fun y hy e => ?_⟩
  · split at h0
    · assumption
    · cases h0
  · rcases h3 y hy with k | k
    · exact absurd e k
    · exact k
  · rcases h4 y hy with k | k
    · rcases e with e | e
      · simp [e] at k
      · simp [e] at k
    · exact k
section
variable {X : Cx} {cls : Nat → Addr} {e a b d o : Expr} {es : List Expr} {st : Stmt} {rest : List Stmt} {pos p p1 p2 p3 pos' : Pos} {x y : Str} {ma mb mc me mo mi : EM} {mt mt' : BM} {m m' : SM}
theorem VR (c : COk X) (i : Nat) (hN : X.N[i]? = some x := by rfl) (hv : Vis X.env.scope x := by first | exact .inl rfl | exact .inr (.inl rfl) | exact .inr (.inr rfl)) (hd : (x == ("__debug__" : Str)) = false := by decide) (hcd : (x == ("__classdict__" : Str)) = false := by decide) :
    JE X cls (.Name x pos) (mV i) := JE_var c hN hv hd hcd
theorem GC (c : COk X) {u : Value} {k : PyData} (h : X.mg x = some u ∧ KD X.K u k) (hg : Gl X x := by rfl) (hd : (x == ("__debug__" : Str)) = false := by decide) : JE X cls (.Name x pos) (mC k) := JE_glob c hg h.1 h.2 hd
theorem BO (c : COk X) {op : Operator} {f : Op2} (ho : OpV X cls (binaryOp op) f) (ha : JE X cls a ma) (hb : JE X cls b mb) : JE X cls (.BinOp a op b pos) (bind2 ma mb f) := JE_bin c ha hb ho
theorem CM (c : COk X) {op : CmpOp} {f : Op2} (ho : OpV X cls (compareOp op) f) (ha : JE X cls a ma) (hb : JE X cls b mb) (hm : behindInMarks op b = false := by rfl) : JE X cls (.Compare a [op] [b] pos) (bind2 ma mb f) := JE_cmp c ha hb ho hm
theorem CMT (c : COk X) {op : CmpOp} {f : Op2} (ho : OpV X cls (compareOp op) f) (ha : JE X cls a ma) (hb : JE X cls b mb) (hm : behindInMarks op b = false := by rfl) : JT X cls (.Compare a [op] [b] pos) (mB (bind2 ma mb f)) := JT_cmp c ha hb ho hm
theorem CH (c : COk X) {op op' : CmpOp} {f f' : Op2} (ho : OpV X cls (compareOp op) f) (ho' : OpV X cls (compareOp op') f') (ha : JE X cls a ma) (hb : JE X cls b mb) (hc : JE X cls d mc) (hm : lastMarks [op, op'] [b, d] = false := by rfl) :
    JE X cls (.Compare a [op, op'] [b, d] pos) (chain3 ma mb mc f f') := JE_chain c ha hb hc ho ho' hm
theorem CHT (c : COk X) {op op' : CmpOp} {f f' : Op2} (ho : OpV X cls (compareOp op) f) (ho' : OpV X cls (compareOp op') f') (ha : JE X cls a ma) (hb : JE X cls b mb) (hc : JE X cls d mc) (hm : lastMarks [op, op'] [b, d] = false := by rfl) :
    JT X cls (.Compare a [op, op'] [b, d] pos) (mB (chain3 ma mb mc f f')) := JT_chain c ha hb hc ho ho' hm
theorem TR (ha : JE X cls a ma) (he : ∀ whole, isTrue a X.env whole = (do let v ← whole; standAt a.pos; holding [v] (truthy v)) := by intro _; rfl) : JT X cls a (mTru ma) := JT_tru ha he
theorem IX (c : COk X) {f : Op2} (ho : IxV X cls f) (ha : JE X cls a ma) (hb : JE X cls b mb) (hs : PlainIx b := by intro _ _; rfl) : JE X cls (.Subscript a b pos) (bind2 ma mb f) := JE_ix c ha hb ho hs
theorem AT (c : COk X) (cs : List Nat) (ho : JE X cls o mo) (hc : ∀ k, k ∈ cs → Cls X.K (cls k) ∧ NoAttr X.K (cls k) x) (hb : attributeBase o x X.env (eval o X.env) = eval o X.env := by rfl) : JE X cls (.Attribute o x pos) (mAttr cs x mo) := JE_attr c ho hc hb
theorem CB (c : COk X) {id : String} {op : OpN} {mm : AM} (hc : CaV X cls (.builtin id) op) (hm : X.mg x = none) (ha : JA X cls (e :: es) mm) (hg : Gl X x := by rfl) (hv : bootBuiltins x = some (.builtin id) := by decide +kernel) (hn : x ≠ "__name__" := by decide) (hdb : (x == ("__debug__" : Str)) = false := by decide)
    (he : starEach (e :: es) X.env = (false, eval e X.env) :: starEach es X.env := by rfl) (hpl : (backTo pos (starEach es X.env)).any (·.1) = false := by rfl) : JE X cls (.Call (.Name x p) (e :: es) [] pos) (mCB op mm) := JE_callB c hc hg hm hv ha hn hdb he hpl
theorem CT (c : COk X) {T : String} {op : OpN} {mm : AM} (hc : CaV X cls (.type T) op) (hm : X.mg x = none) (ha : JA X cls (e :: es) mm) (hg : Gl X x := by rfl) (hv : bootBuiltins x = some (.type T) := by decide +kernel) (hn : x ≠ "__name__" := by decide) (hdb : (x == ("__debug__" : Str)) = false := by decide)
    (he : starEach (e :: es) X.env = (false, eval e X.env) :: starEach es X.env := by rfl) (hpl : (backTo pos (starEach es X.env)).any (·.1) = false := by rfl) : JE X cls (.Call (.Name x p) (e :: es) [] pos) (mCB op mm) := JE_callTy c hc hg hm hv ha hn hdb he hpl
theorem ISI (c : COk X) (T : String) (hm : X.mg "isinstance" = none) (hmt : X.mg x = none) (he : JE X cls e me) (hT : T ∈ ["int", "bool", "str", "tuple", "list", "dict"] := by decide) (hg : Gl X "isinstance" := by rfl) (hgt : Gl X x := by rfl) (hvt : bootBuiltins x = some (.type T) := by decide +kernel)
    (hn : x ≠ "__name__" := by decide) (hdb : (x == ("__debug__" : Str)) = false := by decide) (hs : starEach [e, .Name x p2] X.env = (false, eval e X.env) :: starEach [.Name x p2] X.env := by rfl) (hpl : (backTo pos (starEach [.Name x p2] X.env)).any (·.1) = false := by rfl) :
    JE X cls (.Call (.Name "isinstance" p) [e, .Name x p2] [] pos) (mIsi T me) := JE_isi c hT he hg hm hgt hmt hvt hn hdb hs hpl
theorem LI (c : COk X) (hm : X.mg "list" = none) (ha : JE X cls a ma) (hg : Gl X "list" := by rfl) (he : starEach [a] X.env = (false, eval a X.env) :: starEach [] X.env := by rfl) (hpl : (backTo pos (starEach [] X.env)).any (·.1) = false := by rfl) :
    JL X cls (.Call (.Name "list" p) [a] [] pos) (lList ma) := JL_list c hg hm (by decide +kernel) ha (by decide) (by decide) he hpl
theorem SRT (c : COk X) (hm : X.mg "sorted" = none) (ha : JE X cls a ma) (hg : Gl X "sorted" := by rfl) (he : starEach [a] X.env = (false, eval a X.env) :: starEach [] X.env := by rfl) (hpl : (backTo pos (starEach [] X.env)).any (·.1) = false := by rfl) :
    JL X cls (.Call (.Name "sorted" p) [a] [] pos) (lSrt ma) := JL_srt c hg hm ha he hpl
theorem MB (c : COk X) {T id : String} {op : OpM} {mm : AM} {name : Str} {apos : Pos} (pa : PlainAttrs T) (slot : Slot T name id) (hm : MtV X cls id op) (ho : JE X cls o mo) (ha : JA X cls (e :: es) mm) (hty : typeOf (.builtin id) = pure (.type "method_descriptor") := by rfl)
    (hbase : attributeBase o name X.env (eval o X.env) = eval o X.env := by rfl)
    (hfew : ((backTo pos (starEach (e :: es) X.env)).all (fun x => !x.1) && (backToKw pos (keywordEach [] X.env)).all (fun x => x.1.isSome)
      && decide ((e :: es).length + ([] : List Keyword).length + (if ([] : List Keyword).isEmpty then 0 else 1) < 30)) = true := by rfl)
    (hline : (apos.endLine == pos.line) = true := by rfl) (hs : starEach (e :: es) X.env = (false, eval e X.env) :: starEach es X.env := by rfl) (hplain : (backTo pos (starEach es X.env)).any (·.1) = false := by rfl) :
    JE X cls (.Call (.Attribute o name apos) (e :: es) [] pos) (mBM T op mo mm) := JE_bm c pa slot hty hm ho ha hbase hfew hline hs hplain
theorem MB0 (c : COk X) {T id : String} {op : OpM} {name : Str} {apos : Pos} (pa : PlainAttrs T) (slot : Slot T name id) (hm : MtV X cls id op) (ho : JE X cls o mo) (hty : typeOf (.builtin id) = pure (.type "method_descriptor") := by rfl)
    (hbase : attributeBase o name X.env (eval o X.env) = eval o X.env := by rfl) (hline : (apos.endLine == pos.line) = true := by rfl) :
    JE X cls (.Call (.Attribute o name apos) [] [] pos) (mBM T op mo aNil) := JE_bm0 c pa slot hty hm ho hbase hline
theorem AC {mr : AM} (ha : JE X cls e ma) (hr : JA X cls es mr) (hs : starEach (e :: es) X.env = (false, eval e X.env) :: starEach es X.env := by rfl) : JA X cls (e :: es) (aCons ma mr) := JA_cons ha hr hs
theorem LC (c : COk X) {elt tg iter : Expr} {ifs : List Expr} {scope : Scope} (own : List (Str × Nat)) {mI : IM} {t : Tg} (hi : JI X cls tg iter mI)
    (hg : ∀ (s : Shared) (H : Hp) (C : Addr) (cl : List (Str × Addr)) (fp : List Addr), JG (X.blk s H scope (compEnvC scope cl C X.env) fp) cls tg t)
    (ht : ∀ (s : Shared) (H : Hp) (C : Addr) (cl : List (Str × Addr)) (fp : List Addr), JTs (X.blk s H scope (compEnvC scope cl C X.env) fp) cls ifs mt)
    (he : ∀ (s : Shared) (H : Hp) (C : Addr) (cl : List (Str × Addr)) (fp : List Addr), JE (X.blk s H scope (compEnvC scope cl C X.env) fp) cls elt me)
    (ok : blkB X.N X.env.scope scope own = true := by rfl)
    (hs : ∀ x, foldedSetIterable iter X.env x = pure x := by intro _; rfl) (hv : ∀ i ∈ slotsT t, i ∈ own.map (·.2) := by decide +kernel) : JL X cls (.ListComp elt [⟨tg, iter, ifs, 0⟩] scope pos) (mLC mI t mt me (own.map (·.2))) := JL_lc c hi (blkB_ok ok) hg ht he hs hv
theorem NM (c : COk X) (i : Nat) (hi : X.N[i]? = some x := by rfl) (hx : Loc X.env.scope x := by first | exact .inl rfl | exact .inr rfl) (hf : X.fn x = true ∨ X.env.scope.names.lookup x = some .local := by first | exact .inl rfl | exact .inr rfl) : JG X cls (.Name x pos) (.nm i) := JG_name c hi hx hf
theorem TC {t : Tg} {ts : List Tg} (h1 : JG X cls e t) (h2 : JGs X cls es ts) (hs : (assignEach (e :: es) X.env).map (·.2) = assign e X.env :: (assignEach es X.env).map (·.2) := by rfl) : JGs X cls (e :: es) (t :: ts) := JGs_cons h1 h2 hs
theorem TU (c : COk X) {k : Nat} {ts : List Tg} (h : JGs X cls es ts) (hn : (assignEach es X.env).length = ts.length := by rfl) (hst : (assignEach es X.env).findIdx? (·.1) = none := by rfl) : JG X cls (.Tuple es k pos) (.tp ts) := JG_tup c h hn hst
theorem R1 {mm : AM} (hm : X.mg "range" = none) (ha : JA X cls [a] mm) {tg : Expr} (hg : Gl X "range" := by rfl) (hs : starEach [a] X.env = [(false, eval a X.env)] := by rfl) : JI X cls tg (.Call (.Name "range" p) [a] [] pos) (iRg1 mm) := JI_rg1 hg hm ha hs
theorem R2 {mm : AM} (hm : X.mg "range" = none) (ha : JA X cls [a, b] mm) {tg : Expr} (hg : Gl X "range" := by rfl) (hs : starEach [a, b] X.env = [(false, eval a X.env), (false, eval b X.env)] := by rfl) (hs2 : starEach [b] X.env = [(false, eval b X.env)] := by rfl) : JI X cls tg (.Call (.Name "range" p) [a, b] [] pos) (iRg2 mm) := JI_rg2 hg hm ha hs hs2
theorem EN {p tpos : Pos} {elts : List Expr} {kk : Nat} (hm : X.mg "enumerate" = none) (ha : JE X cls e ma) (hg : Gl X "enumerate" := by rfl) (hs : starEach [e] X.env = [(false, eval e X.env)] := by rfl) : JI X cls (.Tuple elts kk tpos) (.Call (.Name "enumerate" p) [e] [] pos) (iEnum ma) := JI_enum hg hm ha hs
theorem ZP {mm : AM} {tpos : Pos} {elts : List Expr} {kk : Nat} (hm : X.mg "zip" = none) (ha : JA X cls [a, b] mm) (hg : Gl X "zip" := by rfl) (hs : starEach [a, b] X.env = (false, eval a X.env) :: starEach [b] X.env := by rfl) (hpl : (backTo pos (starEach [b] X.env)).any (·.1) = false := by rfl) :
    JI X cls (.Tuple elts kk tpos) (.Call (.Name "zip" p) [a, b] [] pos) (iZip mm) := JI_zip hg hm ha hs hpl
/-! statements -/
theorem XP (h : JE X cls e me) (hs : swapsWith e none pos.line X.env = pure false := by rfl) : JS X cls (.Expr e pos) (sExpr me) := JS_expr h hs
theorem ST (i : Nat) (h : JE X cls e me) (hi : X.N[i]? = some y := by rfl) (hl : Loc X.env.scope y := by first | exact .inl rfl | exact .inr rfl) (hf : X.fn y = true ∨ X.env.scope.names.lookup y = some .local := by first | exact .inl rfl | exact .inr rfl) : JS X cls (.Assign [.Name y p] e pos) (sSet i me) := JS_set h hi hl hf
theorem SG (c : COk X) {tg : Expr} {t : Tg} (h : JE X cls e me) (hg : JG X cls tg t) (hs : swapsWithSole [tg] e pos.line X.env = pure false := by rfl) (hw : swappedStores [tg] e X.env = pure none := by rfl)
    (h1 : (assignEach [tg] X.env).map (·.2) = [assign tg X.env] := by rfl) : JS X cls (.Assign [tg] e pos) (sTg t me) := JS_tg c h hg hs hw h1
theorem P2 (c : COk X) (i j : Nat) {kt k2 pt2} {ma : AM} (ha : JA X cls [a, b] ma) (hi : X.N[i]? = some x := by rfl) (hj : X.N[j]? = some y := by rfl) (hij : i ≠ j := by decide) (hx : X.env.scope.names.lookup x = some .local := by rfl) (hy : X.env.scope.names.lookup y = some .local := by rfl)
    (hw : swappedStores [.Tuple [.Name x p, .Name y p1] kt p2] (.Tuple [a, b] k2 pt2) X.env = pure (some [x, y]) := by rfl) : JS X cls (.Assign [.Tuple [.Name x p, .Name y p1] kt p2] (.Tuple [a, b] k2 pt2) pos) (sPar [i, j] ma) := JS_par2 c hi hj hij hx hy ha hw
theorem P3 (c : COk X) (i j l : Nat) {z : Str} {kt k2 pt2} {ma : AM} (ha : JA X cls [a, b, d] ma) (hi : X.N[i]? = some x := by rfl) (hj : X.N[j]? = some y := by rfl) (hk : X.N[l]? = some z := by rfl) (hij : i ≠ j := by decide) (hil : i ≠ l := by decide) (hjl : j ≠ l := by decide) (hx : X.env.scope.names.lookup x = some .local := by rfl) (hy : X.env.scope.names.lookup y = some .local := by rfl) (hz : X.env.scope.names.lookup z = some .local := by rfl)
    (hw : swappedStores [.Tuple [.Name x p, .Name y p1, .Name z p3] kt p2] (.Tuple [a, b, d] k2 pt2) X.env = pure (some [x, y, z]) := by rfl) : JS X cls (.Assign [.Tuple [.Name x p, .Name y p1, .Name z p3] kt p2] (.Tuple [a, b, d] k2 pt2) pos) (sPar [i, j, l] ma) := JS_par3 c hi hj hk hij hil hjl hx hy hz ha hw
theorem AU (c : COk X) (i : Nat) {op : Operator} {f : Op2} (ho : OpV X cls (inplaceOp op) f) (h : JE X cls e me) (hi : X.N[i]? = some y := by rfl) (hl : Loc X.env.scope y := by first | exact .inl rfl | exact .inr rfl) (hf : X.fn y = true ∨ X.env.scope.names.lookup y = some .local := by first | exact .inl rfl | exact .inr rfl) :
    JS X cls (.AugAssign (.Name y p) op e pos) (sAug i me f) := JS_aug c hi hl hf h ho
theorem FD (cs : List Nat) (ho : JE X cls o mo) (he : JE X cls e me) (hc : ∀ k, k ∈ cs → Cls X.K (cls k) ∧ NoAttr X.K (cls k) x) : JS X cls (.Assign [.Attribute o x pos'] e pos) (sFld' cs x mo me) := JS_fld ho he hc
theorem SB (c : COk X) {i : Expr} (he : JE X cls e me) (ho : JE X cls o mo) (hi : JE X cls i mi)
    (ha : ∀ v, assign (.Subscript o i pos') X.env v = (do
      let ov ← holding [v] (eval o X.env)
      let iv ← holding [v, ov] (eval i X.env)
      standAt pos'
      holding [v, ov, iv] (setItem ov iv v)
      release [v, ov, iv] []) := by intro _; rfl)
    (hs : swapsWithSole [.Subscript o i pos'] e pos.line X.env = pure false := by rfl) (hw : swappedStores [.Subscript o i pos'] e X.env = pure none := by rfl) (h1 : (assignEach [.Subscript o i pos'] X.env).map (·.2) = [assign (.Subscript o i pos') X.env] := by rfl) :
    JS X cls (.Assign [.Subscript o i pos'] e pos) (sSub me mo mi) := JS_sub c he ho hi ha hs hw h1
theorem FO (c : SOk X) {tg iter : Expr} {body : List Stmt} {mI : IM} {t : Tg} (hi : JI X cls tg iter mI) (hg : JG X cls tg t) (hb : JSs X cls body m) (hs : ∀ x, foldedSetIterable iter X.env x = pure x := by intro _; rfl) : JS X cls (.For tg iter body [] pos) (sFor mI t m) := JS_for c hi hg hb hs
/-! exceptions -/
/-- an own exception: a class that may be raised -/
structure ExC (X : Cx) (cls : Nat → Addr) (j : Nat) (x : Str) : Prop where
  q : PySem.W.excIn X.K (cls j) He.veBase "ValueError.__new__" = true
  k : PySem.W.keepIn X.K (.ref (cls j)) = true
  s : PySem.W.subIn X.K (.ref (cls j)) (.type "BaseException") = some true
  t : PySem.W.typeIn X.K (.ref (cls j)) = some (.type "type")
  g : X.mg x = some (.ref (cls j))
theorem RS1 (c : COk X) (j : Nat) {msg : Str} {k : Nat} (h : ExC X cls j x) (hg : Gl X x := by rfl) (hdb : (x == ("__debug__" : Str)) = false := by decide) : JS X cls (.Raise (some (.Call (.Name x p) [.Constant (.str msg) k p2] [] p3)) none pos) (sRaise j) := JS_raise c h.q h.k h.s h.t h.g hg hdb
def grd (cs : List Nat) (m : SM) : SM := fun lo mh => match m lo mh with
  | .exc c mh' => if c ∈ cs then .exc c mh' else .bad
  | r => r
theorem JSs.grd (cs : List Nat) (h : JSs X cls rest m) : JSs X cls rest (grd cs m) := fun E tk => (h E tk).imp fun D σ H ⟨Z, ρ, lo, mh, s, p⟩ => by
  refine ⟨Z, ρ, lo, mh, s, ?_⟩
  unfold EL.grd at p
  split at p
  · rename_i c mh' k
    rw [k]
    split at p
    · exact p
    · exact p.elim
  · exact p
theorem TY (cs : List Nat) {h0 : ExceptHandler} {hds : List ExceptHandler} {l : List (Nat × Str)}
    (hm : ∀ c, c ∈ cs → ∀ p, p ∈ l → PySem.W.exmOne X.K (.ref (cls c)) (.ref (cls p.1)) = some (p.1 == c))
    (hb : ∀ (pn : List (Addr × Obj)) (xe : Value → Shared → Prop), PassesOwn (model X.prog X.w) X.A X.env xe → JSs (X.tr pn xe) cls rest m)
    (hh : Hds X cls (h0 :: hds) l) (hs : X.stack = X.env :: X.outer := by rfl) (hf : X.env.frame = some X.env.locals := by rfl) : JS X cls (.Try rest (h0 :: hds) [] [] pos) (sTry l (grd cs m)) :=
  JS_try hs hf (cs := cs) hm (fun lo mh c mh' h => by
    unfold EL.grd at h
    split at h
    · split at h
      · cases h; assumption
      · cases h
    · rename_i k; exact absurd h (k _ _)) (fun pn xe hp => (hb pn xe hp).grd cs) hh
theorem HD {z : Str} {j k : Nat} {hds : List ExceptHandler} {l : List (Nat × Str)} (h : ExC X cls j x) (r : Hds X cls hds l) (hg : Gl X x := by rfl) (hdb : (x == ("__debug__" : Str)) = false := by decide) :
    Hds X cls (.ExceptHandler (some (.Name x p)) none [.Return (some (.Constant (.str z) k p1)) p2] pos' :: hds) ((j, z) :: l) := .cons ⟨hg, hdb, .inl h.g⟩ r
end
/-! calls of own defs -/
def Ok (P : Program) (w : World) (K : PySem.W.Frag) (mg : Str → Option Value) (base : Heap) (cls : Nat → Addr) (k : Nat) (f : Addr) (ps : List Str) (mf : FM) : Prop :=
  ∃ fd, FnOk P w K mg base (L2.CX P w) k f fd ps (spM K cls ps.length mf) ∧ Binds K fd ps [] ∧ PySem.W.keepIn K (.ref f) = true ∧ (∀ (s : Shared) (us : List Value), us.length = ps.length → BindsTo s fd ⟨us, []⟩ (ps.zip us)) ∧ ∃ oc od sl, K.lookup f = some ⟨oc, od, .func fd, sl⟩
section
variable {X : Cx} {cls : Nat → Addr} {e a b d o : Expr} {es : List Expr} {pos p p1 p2 p3 pos' : Pos} {x y : Str} {mo : EM} {f : Addr} {ps : List Str} {mf : FM} {k j : Nat} {ma : AM}
theorem CL (c : COk X) (hr : Room k X.A) (h : Ok X.prog X.w X.K X.mg X.base cls j f ps mf) (hm : X.mg x = some (.ref f)) (ha : JA X cls (e :: es) ma) (hj : j ≤ k := by decide) (hg : Gl X x := by rfl) (hdb : (x == ("__debug__" : Str)) = false := by decide)
    (he : starEach (e :: es) X.env = (false, eval e X.env) :: starEach es X.env := by rfl) (hpl : (backTo pos (starEach es X.env)).any (·.1) = false := by rfl) : JE X cls (.Call (.Name x p) (e :: es) [] pos) (mCall ps.length mf ma) := by
  obtain ⟨fd, F, b, kp, _⟩ := h
  exact JE_call c F (hr.mono hj) hg hm kp b ha hdb he hpl
theorem CLR (c : COk X) (hr : Room k X.A) (h : Ok X.prog X.w X.K X.mg X.base cls j f ps mf) (hm : X.mg x = some (.ref f)) (ha : JA X cls (e :: es) ma) (hj : j ≤ k := by decide) (hg : Gl X x := by rfl) (hdb : (x == ("__debug__" : Str)) = false := by decide)
    (he : starEach (e :: es) X.env = (false, eval e X.env) :: starEach es X.env := by rfl) (hpl : (backTo pos (starEach es X.env)).any (·.1) = false := by rfl) : JE X cls (.Call (.Name x p) (e :: es) [] pos) (mCallR ps.length mf ma) := by
  obtain ⟨fd, F, b, kp, _⟩ := h
  exact JE_callR c F (hr.mono hj) hg hm kp b ha hdb he hpl
theorem NW (c : COk X) (hr : Room k X.A) (i : Nat) (M : Mk X.K (cls i) f) (h : Ok X.prog X.w X.K X.mg X.base cls j f ps mf) (hm : X.mg x = some (.ref (cls i))) (ha : JA X cls (e :: es) ma) (hj : j + 1 ≤ k := by decide) (hg : Gl X x := by rfl) (hdb : (x == ("__debug__" : Str)) = false := by decide)
    (he : starEach (e :: es) X.env = (false, eval e X.env) :: starEach es X.env := by rfl) (hpl : (backTo pos (starEach es X.env)).any (·.1) = false := by rfl) : JE X cls (.Call (.Name x p) (e :: es) [] pos) (mNew i ps.length mf ma) := by
  obtain ⟨fd, F, b, kp, _⟩ := h
  exact JE_new c M F (hr.mono hj) hg hm b ha hdb he hpl
end
theorem Ok.of {P : Program} {w : World} {K : PySem.W.Frag} {mg : Str → Option Value} {base : Heap} {cls : Nat → Addr} {x qual : Str} {params : Arguments} {body : List Stmt} {scope : Scope} {f : Addr} {N ps : List Str} {k : Nat} {m : SM}
    (F : ∃ fd, FunD K x qual params body scope [] [] f fd) (S : FnScope N ps scope)
    (hbd : ∀ (kV doc pm : Value) (an : Option Addr) (cdv ct : Value) (us : List Value), us.length = ps.length → bindArgs (PySem.W.fnOf x qual params body scope .none kV doc pm an cdv ct) ⟨us, []⟩ = pure (ps.zip us))
    (hb : ∀ (cdv : Value) (A : Around) (outer : List Env) (s : Shared) (H : Hp) (E : XK), Room k (cxOf (L2.CX P w) P w K mg base N qual scope f cdv A outer s H E).A → SOk (cxOf (L2.CX P w) P w K mg base N qual scope f cdv A outer s H E) → JSs (cxOf (L2.CX P w) P w K mg base N qual scope f cdv A outer s H E) cls body m) :
    Ok P w K mg base cls (k + 1) f ps (dM N.length m) := by
  obtain ⟨fd, F⟩ := F
  refine ⟨fd, F.ok S (fun vs H Q E ⟨Z, ρ, mh, args, hl, rh, rv, q⟩ => rv.length ▸ hl) fun cdv A outer s H vs Q E hr ⟨Z, ρ, mh, args, hl, rh, rv, q⟩ => ?_, F.bindsN hbd, F.kp, F.bindsA hbd, by obtain ⟨oc, od, _, _, _, _, _, _, _, osl, _, lk, _⟩ := F.ex; exact ⟨oc, od, osl, lk⟩⟩
  have hso : SOk (cxOf (L2.CX P w) P w K mg base N qual scope f cdv A outer s H E) := { nd := S.nd, calm := rfl, un := by have := hr.un; show (A.deeper _).units + 200 < cLine; omega, hp := passes_of rfl }
  refine ⟨_, hb cdv A outer s H E hr hso E (takes_of rfl rfl rfl rfl), Z, ρ, startL N.length args, mh, ⟨rh, rv.start.1, rv.start.2⟩, ?_⟩
  unfold dM at q
  cases k : m (startL N.length args) mh with
  | nx lo' mh' => rw [k] at q; exact fun ρ' H' σ' e s => q ρ' H' e s.hp _ (.d .non)
  | rt v mh' => rw [k] at q; exact fun ρ' H' x e r rx => q ρ' H' e r x rx
  | exc c mh' => rw [k] at q; exact q
  | bk lo' mh' => rw [k] at q; exact q.elim
  | ct lo' mh' => rw [k] at q; exact q.elim
  | bad => rw [k] at q; exact q.elim
end EL


set_option Elab.async false
set_option linter.all false
set_option maxRecDepth 100000
set_option maxHeartbeats 4000000
/-! EL: comparisons of data, all-round operators, dict displays. -/
namespace EL
open PySem L2 PySem.W
def isNn : PyData → Bool
  | .none => true
  | _ => false
section
variable {X : Cx} {cls : Nat → Addr}
def oLtD : Op2 := fun v u mh => match dataOf mh v, dataOf mh u with
  | some d, some e => if alike d e = true ∧ isNn d = false ∧ min d.depth e.depth ≤ 64 then .ok (.d (.bool (dataLt d e))) mh else .bad
  | _, _ => .bad
theorem vLtD (c : COk X) : OpV X cls (compareOp .Lt) oLtD := fun E pins s σ H x y v u Q I rx ry ⟨Z, ρ, mh, pv, pu, rh, rv, ru, q⟩ => by
  unfold oLtD at q
  split at q
  · rename_i d e hv hu
    split at q
    · rename_i h
      obtain ⟨D1, p1⟩ := dataOf_ok rh rv hv
      obtain ⟨D2, p2⟩ := dataOf_ok rh ru hu
      obtain ⟨as, r1⟩ := Dp.reads I d _ _ D1 rx
      obtain ⟨bs, r2⟩ := Dp.reads I e _ _ D2 ry
      exact lt_data r1 r2 h.1 (fun z => by rw [z] at h; exact absurd h.2.1 (by decide)) (by have := c.un; omega) ⟨.bl _, H, I, rfl, q.now rh _ (.d (.bl _))⟩
    · exact q.elim
  · exact q.elim
def oLt : Op2 := alt2 oLtI oLtD
theorem vLt (c : COk X) : OpV X cls (compareOp .Lt) oLt := vLtI.alt (vLtD c)
def oIn : Op2 := alt2 oInS (alt2 (oDin true) (oInT false))
theorem vIn (c : COk X) : OpV X cls (compareOp .In) oIn := (vInS c).alt ((vDin c).alt vInT)
def oNin : Op2 := alt2 oNinS (alt2 (oDin false) (oInT true))
theorem vNin (c : COk X) : OpV X cls (compareOp .NotIn) oNin := (vNinS c).alt ((vDnin c).alt vNinT)
def oIxA : Op2 := alt2 oIx oDix
theorem IxV.alt {o p : Op2} (h : IxV X cls o) (h' : IxV X cls p) : IxV X cls (alt2 o p) := fun E =>
  IxR_imp (IxR.or (h E) (h' E)) fun x y H Q ⟨Z, ρ, mh, v, u, rh, rv, ru, q⟩ => by
    unfold alt2 at q
    cases k : o v u mh with
    | bad => rw [k] at q; exact .inr ⟨Z, ρ, mh, v, u, rh, rv, ru, q⟩
    | ok a m => rw [k] at q; exact .inl ⟨Z, ρ, mh, v, u, rh, rv, ru, by rw [k]; exact q⟩
    | exc a m => rw [k] at q; exact .inl ⟨Z, ρ, mh, v, u, rh, rv, ru, by rw [k]; exact q⟩
theorem vIxA (c : COk X) : IxV X cls oIxA := vIx.alt (vDix c)
end
/-! ### {}, {k: v, ..} -/
section
variable {X : Cx} {cls : Nat → Addr} {pos : Pos}
def mNewD : EM := fun _ mh => .ok (.ref mh.length) (mh ++ [.dct []])
theorem JE_newD (c : COk X) : JE X cls (.Dict [] [] pos) mNewD := fun E hx =>
  .of c (pe_dnewK.imp fun σ H Q ⟨Z, ρ, lo, mh, s, q⟩ => by
    intro p hp
    have e : Ext ρ H (ρ ++ [p]) (upd H p (.dK [])) := Ext.alloc hp
    have r := s.hp.alloc (o := .dK []) (m := .dct []) hp (.dct upd_same .nil)
    exact q (ρ ++ [p]) _ e r _ (.ref (by rw [← s.hp.len]; simp))) fun _ _ _ => rfl
/-- the pairs of a display: keys that are texts written out -/
def dPairs : List (Str × EM) → Lo → Mh → Res (List (PyData × PV))
  | [], _, mh => .ok [] mh
  | (k, m) :: r, lo, mh => (m lo mh).bind fun v mh1 => (dPairs r lo mh1).bind fun kvs mh2 => .ok ((.str k, v) :: kvs) mh2
def mDisp (l : List (Str × EM)) : EM := fun lo mh => (dPairs l lo mh).bind fun kvs mh1 => if l.length ≤ 15 then .ok (.dct (kvs.foldl (fun acc p => putD acc p.1 p.2) [])) mh1 else .bad
/-- the texts and the pieces of text of a display -/
inductive JDs (X : Cx) (cls : Nat → Addr) : List (Option Expr) → List Expr → List (Str × EM) → Prop
  | nil : JDs X cls [] [] []
  | cons {k : Str} {i : Nat} {p : Pos} {e : Expr} {m : EM} {ks : List (Option Expr)} {es : List Expr} {l : List (Str × EM)} (h : JE X cls e m) (r : JDs X cls ks es l) : JDs X cls (some (.Constant (.str k) i p) :: ks) (e :: es) ((k, m) :: l)
theorem RVk.merge {K : PySem.W.Frag} {Z ρ : List Addr} {H : Hp} : ∀ {more : List (PyData × PV)} {ms : List (Key × V)} {kvs : List (PyData × PV)} {ks : List (Key × V)}, RVk K Z ρ H more ms → RVk K Z ρ H kvs ks → RVk K Z ρ H (more.foldl (fun acc p => putD acc p.1 p.2) kvs) (mergeK ks ms)
  | _, _, _, _, .nil, r => r
  | _, _, _, _, .cons (k := k) h t, r => by have := RVk.merge t (r.put (k := k) h); exact this
def trsOf (K : PySem.W.Frag) (cls : Nat → Addr) (E : XK) (l : List (Str × EM)) : List (TE × TE) := l.map fun p => (tC (.str p.1), tE K cls E p.2)
theorem JDs.pps {E : XK} (hx : Passes (L2.CX X.prog X.w) X E) : ∀ {ks : List (Option Expr)} {es : List Expr} {l : List (Str × EM)}, JDs X cls ks es l → PPs X pos ks es (trsOf X.K cls E l)
  | _, _, _, .nil => pps_nil
  | _, _, _, .cons h r => pps_cons pe_str (h E hx).pe (JDs.pps hx r)
theorem JDs.len {ks : List (Option Expr)} {es : List Expr} {l : List (Str × EM)} (h : JDs X cls ks es l) : ks.length = l.length ∧ es.length = l.length ∧ ks.all (·.isSome) = true := by
  induction h with
  | nil => exact ⟨rfl, rfl, rfl⟩
  | cons h r ih => exact ⟨by simp [ih.1], by simp [ih.2.1], by simpa using ih.2.2⟩
theorem tPairs_of {K : PySem.W.Frag} {E : XK} {σ : L2.St} : ∀ {l : List (Str × EM)} {Z ρ : List Addr} {lo : Lo} {mh : Mh} {H : Hp} {Q : List (V × V) → Hp → Prop}, RS K cls Z ρ lo mh σ H →
    Post K cls E Z ρ H (dPairs l lo mh) (fun kvs ρ' mh' H' => ∀ ks : List (Key × V), RVk K Z ρ' H' kvs ks → ks.length = l.length → Q (ks.map fun kv => (kV kv.1, kv.2)) H') → tPairs (trsOf K cls E l) σ H Q
  | [], Z, ρ, lo, mh, H, Q, s, q => q.now s.hp [] .nil rfl
  | (k, m) :: l, Z, ρ, lo, mh, H, Q, s, q => by
    show tE K cls E m σ H _
    refine ⟨Z, ρ, lo, mh, s, (Post.bind q).imp fun v ρ1 mh1 H1 e1 r1 q1 x rx => ?_⟩
    refine tPairs_of (s.to e1 r1) ((Post.bind q1).imp fun kvs ρ2 mh2 H2 e2 r2 q2 ks rk hl => ?_)
    have := q2.now r2 ((.inr k, x) :: ks) (.cons (k := .inr k) (rx.mono e2) rk) (by simp [hl])
    exact this
theorem RS.aside {K : PySem.W.Frag} {Z ρ : List Addr} {lo : Lo} {mh : Mh} {σ : L2.St} {H : Hp} {p : Addr} {o : HO} (s : RS K cls Z ρ lo mh σ H) (hp : H p = none) : RS K cls (p :: Z) ρ lo mh σ (upd H p o) :=
  ⟨s.hp.aside hp, s.len, fun j v hj => by
    obtain ⟨x, hx, rr⟩ := s.loc j v hj
    exact ⟨x, hx, (rr.more hp).mono (Ext.new hp)⟩⟩
/-- with a new thing put aside -/
theorem Post.aside {α β : Type} {K : PySem.W.Frag} {E : XK} {Z ρ : List Addr} {H : Hp} {p : Addr} {o : HO} {r : Res α} {f : α → Mh → Res β} {Kt : α → List Addr → Mh → Hp → Prop} {Kf : β → List Addr → Mh → Hp → Prop} (hp : H p = none) (h : Post K cls E Z ρ H (r.bind f) Kf)
    (g : ∀ v mh', r = .ok v mh' → ∀ ρ' H', Ext ρ (upd H p o) ρ' H' → RH K cls (p :: Z) ρ' mh' H' → Kt v ρ' mh' H') : Post K cls E (p :: Z) ρ (upd H p o) r Kt := by
  cases r with
  | ok v mh' => exact g v mh' rfl
  | exc c mh' => exact fun ρ' H' e rh => h ρ' H' ((Ext.new hp).trans e) (rh.less fun _ m => List.mem_cons_of_mem _ m)
  | bad => exact h
theorem JE_disp (c : COk X) {k0 : Option Expr} {ks : List (Option Expr)} {es : List Expr} {l : List (Str × EM)} (h : JDs X cls (k0 :: ks) es l) (h15 : (k0 :: ks).length ≤ 15) : JE X cls (.Dict (k0 :: ks) es pos) (mDisp l) := fun E hx => by
  obtain ⟨h1, h2, h3⟩ := h.len
  refine .of c ((pe_disp (h.pps hx) h3 (by rw [h1, h2]) (by simp) h15).imp fun σ H Q ⟨Z, ρ, lo, mh, s, q⟩ => ?_) fun _ _ _ => rfl
  intro p hp
  have hl15 : l.length ≤ 15 := by rw [← h1]; exact h15
  have hpρ := (s.hp.fresh hp).1
  have hpZ := (s.hp.fresh hp).2
  refine tPairs_of (s.aside hp) (Post.aside hp q fun kvs mh' hr ρ' H' e rh ks rk hl => ?_)
  unfold mDisp at q
  rw [hr, Res.bind_ok, if_pos hl15] at q
  have hpρ' : p ∉ ρ' := e.out upd_same hpρ
  refine ⟨e.keep p _ upd_same hpρ, ks, rfl, by rw [hl]; exact hl15, ?_⟩
  have e2 : Ext ρ H ρ' (upd H' p (.dK (mergeK [] ks))) := ((Ext.new hp).trans e).updZ hp
  have r2 : RH X.K cls Z ρ' mh' (upd H' p (.dK (mergeK [] ks))) := (rh.updZ).less fun _ m => List.mem_cons_of_mem _ m
  have rk2 : RVk X.K Z ρ' (upd H' p (.dK (mergeK [] ks))) kvs ks := (rk.sh Sh.updZ).less fun _ m => List.mem_cons_of_mem _ m
  exact q ρ' _ e2 r2 _ (.dct upd_same ⟨hpZ, hpρ'⟩ (rk2.merge .nil))
end
end EL


set_option Elab.async false
set_option linter.all false
set_option maxRecDepth 100000
set_option maxHeartbeats 4000000
/-! EL: more of the rules as a printed proof names them. -/
namespace EL
open PySem L2
/-- a class's own statements -/
def clB (s : Stmt) : List Stmt := match s with
  | .ClassDef _ _ _ b _ _ _ _ _ _ _ => b
  | _ => []
theorem one {P : Nat → Prop} {j : Nat} (h : P j) : ∀ k, k ∈ [j] → P k := fun k hk => by rcases List.mem_singleton.mp hk with rfl; exact h
structure ExCK (K : PySem.W.Frag) (mg : Str → Option Value) (cls : Nat → Addr) (j : Nat) (x : Str) : Prop where
  q : PySem.W.excIn K (cls j) He.veBase "ValueError.__new__" = true
  k : PySem.W.keepIn K (.ref (cls j)) = true
  s : PySem.W.subIn K (.ref (cls j)) (.type "BaseException") = some true
  t : PySem.W.typeIn K (.ref (cls j)) = some (.type "type")
  g : mg x = some (.ref (cls j))
theorem ExCK.ex {X : Cx} {cls : Nat → Addr} {j : Nat} {x : Str} (h : ExCK X.K X.mg cls j x) : ExC X cls j x := ⟨h.q, h.k, h.s, h.t, h.g⟩
theorem COk.tr {X : Cx} (c : COk X) (pn : List (Addr × Obj)) (xe : Value → Shared → Prop) : COk (X.tr pn xe) := ⟨c.nd, c.calm, c.un⟩
theorem SOk.tr {X : Cx} (c : SOk X) (pn : List (Addr × Obj)) (xe : Value → Shared → Prop) (hp : PassesOwn (model X.prog X.w) X.A X.env xe) : SOk (X.tr pn xe) := { nd := c.nd, calm := c.calm, un := c.un, hp := hp }
section
variable {X : Cx} {cls : Nat → Addr} {e a b d o : Expr} {es : List Expr} {st : Stmt} {rest : List Stmt} {pos p p1 p2 p3 pos' : Pos} {x y : Str} {ma mb mc me mo mi : EM} {mt mt' : BM} {m m' : SM} {f : Addr} {ps : List Str} {mf : FM} {k j : Nat}
theorem GK (c : COk X) {k : PyData} (h : ∃ u, X.mg x = some u ∧ KD X.K u k) (hg : Gl X x := by rfl) (hd : (x == ("__debug__" : Str)) = false := by decide) : JE X cls (.Name x pos) (mC k) := by
  obtain ⟨u, h1, h2⟩ := h
  exact JE_glob c hg h1 h2 hd
theorem RZ (c : COk X) (j : Nat) {msg : Str} {k : Nat} (h : ExCK X.K X.mg cls j x) (hg : Gl X x := by rfl) (hdb : (x == ("__debug__" : Str)) = false := by decide) : JS X cls (.Raise (some (.Call (.Name x p) [.Constant (.str msg) k p2] [] p3)) none pos) (sRaise j) := RS1 c j h.ex hg hdb
theorem HE {z : Str} {j k : Nat} {hds : List ExceptHandler} {l : List (Nat × Str)} (h : ExCK X.K X.mg cls j x) (r : Hds X cls hds l) (hg : Gl X x := by rfl) (hdb : (x == ("__debug__" : Str)) = false := by decide) :
    Hds X cls (.ExceptHandler (some (.Name x p)) none [.Return (some (.Constant (.str z) k p1)) p2] pos' :: hds) ((j, z) :: l) := HD h.ex r hg hdb
theorem TZ (cs : List Nat) {h0 : ExceptHandler} {hds : List ExceptHandler} {l : List (Nat × Str)}
    (hm : ∀ c, c ∈ cs → ∀ p : Nat × Str, p.1 ∈ cs → PySem.W.exmOne X.K (.ref (cls c)) (.ref (cls p.1)) = some (p.1 == c))
    (hb : ∀ (pn : List (Addr × Obj)) (xe : Value → Shared → Prop), PassesOwn (model X.prog X.w) X.A X.env xe → JSs (X.tr pn xe) cls rest m)
    (hh : Hds X cls (h0 :: hds) l) (hl : ∀ p, p ∈ l → p.1 ∈ cs := by decide) (hs : X.stack = X.env :: X.outer := by rfl) (hf : X.env.frame = some X.env.locals := by rfl) : JS X cls (.Try rest (h0 :: hds) [] [] pos) (sTry l (grd cs m)) :=
  TY cs (fun c hc p hp => hm c hc p (hl p hp)) hb hh hs hf
theorem ME (c : COk X) (hr : Room k X.A) (i : Nat) {mm : AM} {name : Str} {apos : Pos} {pl : Sem Bool} (hc : Cls X.K (cls i)) (hm : Meth X.K (cls i) name f) (h : Ok X.prog X.w X.K X.mg X.base cls j f ps mf) (ho : JE X cls o mo) (ha : JA X cls (e :: es) mm) (hj : j ≤ k := by decide)
    (hst : starEach (e :: es) X.env = (false, eval e X.env) :: starEach es X.env := by rfl) (hpl : (backTo pos (starEach es X.env)).any (·.1) = false := by rfl)
    (ht : eval (.Call (.Attribute o name apos) (e :: es) [] pos) X.env = (do
      let ov ← eval o X.env
      standAt apos.atName
      let (f, first) ← holding [ov] (getMethod ov name pl)
      callWith pos f first (backTo pos (starEach (e :: es) X.env)) (backToKw pos (keywordEach [] X.env))) := by rfl) :
    JE X cls (.Call (.Attribute o name apos) (e :: es) [] pos) (mMeth i ps.length name mf mo mm) := by
  obtain ⟨fd, F, b, kp, _⟩ := h
  exact JE_meth c ho hc hm F (hr.mono hj) b ha hst hpl ht
theorem ME0 (c : COk X) (hr : Room k X.A) (i : Nat) {name : Str} {apos : Pos} {pl : Sem Bool} (hc : Cls X.K (cls i)) (hm : Meth X.K (cls i) name f) (h : Ok X.prog X.w X.K X.mg X.base cls j f ps mf) (ho : JE X cls o mo) (hj : j ≤ k := by decide)
    (ht : eval (.Call (.Attribute o name apos) [] [] pos) X.env = (do
      let ov ← eval o X.env
      standAt apos.atName
      let (f, first) ← holding [ov] (getMethod ov name pl)
      callWith pos f first (backTo pos (starEach [] X.env)) (backToKw pos (keywordEach [] X.env))) := by rfl) :
    JE X cls (.Call (.Attribute o name apos) [] [] pos) (mMeth i ps.length name mf mo aNil) := by
  obtain ⟨fd, F, b, kp, _⟩ := h
  exact JE_meth0 c ho hc hm F (hr.mono hj) b ht
end
end EL


set_option Elab.async false
set_option linter.all false
set_option maxRecDepth 100000
set_option maxHeartbeats 4000000
/-! EL: dicts whose keys are tuples without texts; comprehensions that make a dict, of any kind of key (the steps of HandS.DictComp's dc_core, the store left open). -/
namespace EL
open PySem L2
/-! ### keys that are tuples without texts -/
mutual
def noTx : NestedKey → Bool
  | .none => true
  | .num _ => true
  | .text _ => false
  | .tup ks => noTxs ks
def noTxs : List NestedKey → Bool
  | [] => true
  | k :: ks => noTx k && noTxs ks
end
mutual
theorem hash_noTx (w w' : World) : ∀ k : NestedKey, noTx k = true → k.hash w = k.hash w'
  | .none, _ => rfl
  | .num _, _ => rfl
  | .text _, h => by simp [noTx] at h
  | .tup ks, h => by simp only [NestedKey.hash]; rw [hashes_noTx w w' ks (by simpa [noTx] using h)]
theorem hashes_noTx (w w' : World) : ∀ ks : List NestedKey, noTxs ks = true → NestedKey.hashes w ks = NestedKey.hashes w' ks
  | [], _ => rfl
  | k :: ks, h => by
    simp only [noTxs, Bool.and_eq_true] at h
    simp only [NestedKey.hashes]
    rw [hash_noTx w w' k h.1, hashes_noTx w w' ks h.2]
end
mutual
def nkOf : PyData → Option NestedKey
  | .none => some .none
  | .bool b => some (.num (if b = true then 1 else 0))
  | .int i => some (.num i)
  | .tuple ds => (nksOf ds).map .tup
  | _ => none
def nksOf : List PyData → Option (List NestedKey)
  | [] => some []
  | d :: ds => match nkOf d, nksOf ds with
    | some k, some ks => some (k :: ks)
    | _, _ => none
end
mutual
theorem nkOf_noTx : ∀ {d : PyData} {k : NestedKey}, nkOf d = some k → noTx k = true
  | .none, _, h => by simp only [nkOf, Option.some.injEq] at h; subst h; rfl
  | .bool b, _, h => by simp only [nkOf, Option.some.injEq] at h; subst h; rfl
  | .int i, _, h => by simp only [nkOf, Option.some.injEq] at h; subst h; rfl
  | .tuple ds, _, h => by
    simp only [nkOf, Option.map_eq_some_iff] at h
    obtain ⟨ks, h1, rfl⟩ := h
    exact nksOf_noTx h1
  | .str _, _, h => by simp [nkOf] at h
  | .list _, _, h => by simp [nkOf] at h
  | .dict _, _, h => by simp [nkOf] at h
theorem nksOf_noTx : ∀ {ds : List PyData} {ks : List NestedKey}, nksOf ds = some ks → noTxs ks = true
  | [], _, h => by simp only [nksOf, Option.some.injEq] at h; subst h; rfl
  | d :: ds, _, h => by
    simp only [nksOf] at h
    split at h
    · rename_i k ks h1 h2
      cases h
      simp only [noTxs, Bool.and_eq_true]
      exact ⟨nkOf_noTx h1, nksOf_noTx h2⟩
    · cases h
end
mutual
theorem nested_of {h : Heap} : ∀ {d : PyData} {k : NestedKey} {v : Value} {as : List Addr}, nkOf d = some k → Reads h v d as → NestedIs h k v
  | .none, _, _, _, e, r => by simp only [nkOf, Option.some.injEq] at e; subst e; cases r; exact .none
  | .bool b, _, _, _, e, r => by simp only [nkOf, Option.some.injEq] at e; subst e; cases r; exact .bool rfl
  | .int i, _, _, _, e, r => by simp only [nkOf, Option.some.injEq] at e; subst e; cases r; exact .int _ _
  | .tuple ds, _, _, _, e, r => by
    simp only [nkOf, Option.map_eq_some_iff] at e
    obtain ⟨ks, h1, rfl⟩ := e
    cases r with
    | tuple a b c d => exact .tup a b c (nesteds_of h1 d)
  | .str _, _, _, _, e, _ => by simp [nkOf] at e
  | .list _, _, _, _, e, _ => by simp [nkOf] at e
  | .dict _, _, _, _, e, _ => by simp [nkOf] at e
theorem nesteds_of {h : Heap} : ∀ {ds : List PyData} {ks : List NestedKey} {vs : List Value} {as : List Addr}, nksOf ds = some ks → ReadsAll h vs ds as → NestedAll h ks vs
  | [], _, _, _, e, r => by simp only [nksOf, Option.some.injEq] at e; subst e; cases r; exact .nil
  | d :: ds, _, _, _, e, r => by
    simp only [nksOf] at e
    split at e
    · rename_i k ks h1 h2
      cases e
      cases r with
      | cons r1 r2 => exact .cons (nested_of h1 r1) (nesteds_of h2 r2)
    · cases e
end
abbrev NX := List (NestedKey × Addr × Value)
structure NdOk (a : Addr) (xs : NX) : Prop where
  low : (a == sysModules) = false
  len : xs.length ≤ sizeLine
  nd : (xs.map (·.1)).Nodup
  key : ∀ x, x ∈ xs → noTx x.1 = true ∧ x.1.depth ≤ 8
def ndP (a : Addr) (xs : NX) (h : Heap) : Prop := ∃ (P' : Program) (w' : World) (o : Obj) (es : Array DictEntry) (ep : Nat), h.get? a = some o ∧ o.ExactDict ∧ o.data = .dict es ep ∧ es.toList = xs.map (entryOfKey (nestedKind P' w'))
/-- such a dict -/
def ndO (a : Addr) (xs : NX) : HO := .ext fun h => NdOk a xs ∧ ndP a xs h
theorem ndP_keep {a : Addr} {xs : NX} {h h' : Heap} (k : ∀ o, h.get? a = some o → h'.get? a = some o) (p : ndP a xs h) : ndP a xs h' := by
  obtain ⟨P', w', o, es, ep, h1, h2⟩ := p
  exact ⟨P', w', o, es, ep, k _ h1, h2⟩
theorem ndP_to {a : Addr} {xs : NX} {h : Heap} (hk : ∀ x, x ∈ xs → noTx x.1 = true) (P : Program) (w : World) (p : ndP a xs h) : ∃ (o : Obj) (es : Array DictEntry) (ep : Nat), h.get? a = some o ∧ o.ExactDict ∧ o.data = .dict es ep ∧ es.toList = xs.map (entryOfKey (nestedKind P w)) := by
  obtain ⟨P', w', o, es, ep, h1, h2, h3, h4⟩ := p
  refine ⟨o, es, ep, h1, h2, h3, h4.trans (List.map_congr_left fun x hx => ?_)⟩
  have e : x.1.hash w' = x.1.hash w := hash_noTx w' w x.1 (hk x hx)
  show (⟨x.1.hash w', _, _⟩ : DictEntry) = ⟨x.1.hash w, _, _⟩
  rw [e]
/-- the keys' tuples -/
def KeyD (K : PySem.W.Frag) (H : Hp) (xs : NX) : Prop := ∀ x, x ∈ xs → ∃ d, nkOf d = some x.1 ∧ Dp K H (.ref x.2.1) d
section
variable {X : Cx} {pins : List (Addr × Obj)} {σ : L2.St} {H : Hp} {s : Shared} {a b : Addr} {xs : NX}
theorem nd_at (I : L2.Inv X pins σ H s) (h : H a = some (ndO a xs)) (hk : KeyD X.K H xs) : NdOk a xs ∧ s.heap.DictOfH (nestedKind X.prog X.w) a xs := by
  obtain ⟨⟨ok, p⟩, _⟩ := (show L2.ObjOk X.prog X.w H s.heap a (ndO a xs) from I.hok a _ h)
  obtain ⟨o, es, ep, h1, h2, h3, h4⟩ := ndP_to (fun x hx => (ok.key x hx).1) X.prog X.w p
  refine ⟨ok, o, es, ep, h1, h2, h3, h4, fun x hx => ?_, ok.nd⟩
  obtain ⟨d, e, D⟩ := hk x hx
  obtain ⟨as, r⟩ := Dp.reads I d _ (.ref x.2.1) D rfl
  exact ⟨nested_of e r, (ok.key x hx).2⟩
theorem nd_new {P : Program} {w : World} {H' : Hp} {h' : Heap} (ok : NdOk a xs) (p : h'.DictOfH (nestedKind P w) a xs) : L2.ObjOk P w H' h' a (ndO a xs) := by
  obtain ⟨o, es, ep, h1, h2, h3, h4, _⟩ := p
  refine ⟨⟨ok, P, w, o, es, ep, h1, h2, h3, h4⟩, ⟨o, h1⟩, fun h1 h2 ⟨a1, a2⟩ k => ⟨a1, ndP_keep k a2⟩⟩
/-- d[k] = v -/
theorem nd_set {E : Value → Shared → Prop} {A : Around} {k : NestedKey} {d : PyData} {r : Value} {Q : Unit → Shared → Prop} (hu : A.units + 8 < cLine) (I : L2.Inv X pins σ H s) (h : H a = some (ndO a xs)) (hk : KeyD X.K H xs) (hd : nkOf d = some k) (hp : k.depth ≤ 8) (hb : Dp X.K H (.ref b) d) (hz : xs.length < sizeLine)
    (q : ∀ s', L2.Inv X pins σ (upd H a (ndO a (storedH xs k b r))) s' → Q () s') : wpAny (model X.prog X.w) A (dictSet a (.ref b) r) Q E s := by
  obtain ⟨ok, dd⟩ := nd_at I h hk
  obtain ⟨as, rd⟩ := Dp.reads I d _ (.ref b) hb rfl
  refine wpAny_dictSet_heap (hsz := ok.len) (knd := nestedKind X.prog X.w) hu ⟨nested_of hd rd, hp⟩ dd fun h' dd' hs => q _ ?_
  have hmem : ∀ x, x ∈ storedH xs k b r → x.1 = k ∨ ∃ y, y ∈ xs ∧ y.1 = x.1 := fun x hx => by
    unfold storedH at hx
    split at hx
    · obtain ⟨y, hy, e⟩ := List.mem_map.mp hx
      refine .inr ⟨y, hy, ?_⟩
      rw [← e]; unfold putAt; split <;> rfl
    · rcases List.mem_append.mp hx with hx | hx
      · exact .inr ⟨x, hx, rfl⟩
      · rw [List.mem_singleton] at hx; subst hx; exact .inl rfl
  have hlen : (storedH xs k b r).length ≤ sizeLine := by
    unfold storedH
    split
    · rw [List.length_map]; exact ok.len
    · rw [List.length_append]; simp; omega
  have ok' : NdOk a (storedH xs k b r) := ⟨ok.low, hlen, (by obtain ⟨_, _, _, _, _, _, _, _, hn⟩ := dd'; exact hn), fun x hx => by
    rcases hmem x hx with e | ⟨y, hy, e⟩
    · rw [e]; exact ⟨nkOf_noTx hd, hp⟩
    · rw [← e]; exact ok.key y hy⟩
  have hat : ∃ z, h'.get? a = some z := by
    obtain ⟨o, _, _, ho, _⟩ := dd'
    exact ⟨o, ho⟩
  exact d_write I (by rw [h]; trivial) hs hat (nd_new ok' dd')
end
/-! ### comprehensions that make a dict -/
/-- what a store of the pair y: z into the thing at D asks -/
abbrev DSt := V → V → Addr → Hp → (Hp → Prop) → Prop
/-- .. and that it does so -/
def DSet (X : Cx) (t : DSt) : Prop := ∀ (Y : Cx) (pins : List (Addr × Obj)) (σ : L2.St) (H : Hp) (s : Shared) (y z : V) (D : Addr) (u r : Value) (Nx : Hp → Prop) (E : Value → Shared → Prop), Y.prog = X.prog → Y.w = X.w → Y.K = X.K → Y.A = X.A → L2.Inv Y pins σ H s → RelV y u → RelV z r → t y z D H Nx →
  wpAny (model X.prog X.w) X.A (dictSet D u r) (fun _ s' => ∃ H', L2.Inv Y pins σ H' s' ∧ Nx H') E s
def tDg (O : Addr → HO) (dst : DSt) (wi : TI) (g : TG) (tt : TT) (tk tv : TE) (vs : List Nat) : TE := fun σ H Q => wi σ H fun J H1 => ∀ D, H1 D = none → (D == sysModules) = false → ∃ W : Nat → Nat → Hp → Prop, (∃ m, W 0 m (upd H1 D (O D))) ∧ ∀ i m H, W i m H →
  (J.stop i H ∧ Q (.ref D) H) ∨ (J.go i H ∧ ∃ Nx : Hp → Prop, (∀ H', Nx H' → ∃ m', m' < m ∧ W (i + 1) m' H') ∧ ∀ x H', J.yld i H x H' → g x (wipe σ vs) H' fun σ2 H2 => wipe σ2 vs = wipe σ vs ∧ tt σ2 H2 fun b H3 =>
    if b = true then tk σ2 H3 fun y H4 => tv σ2 H4 fun z H5 => dst y z D H5 Nx else Nx H3)
theorem dg_core {X : Cx} {O : Addr → HO} {dst : DSt} {pins : List (Addr × Obj)} {s : Shared} {σ : L2.St} {H : Hp} {Q : VK} {kx vx tg iter : Expr} {ifs : List Expr} {scope : Scope} {own : List (Str × Nat)} {pos pos' : Pos} {wi : TI} {g : TG} {tt : TT} {tk tv : TE} {use : Option (Value → Sem Unit)} {Qf : Value → Shared → Prop}
    (hO : ∀ (H : Hp) (h : Heap), sysModules < h.objs.size → L2.ObjOk X.prog X.w H (h.push { cls := .type "dict", data := .dict #[] }) h.objs.size (O h.objs.size)) (hst : DSet X dst)
    (hc : X.calm = true) (hN : X.N.Nodup) (I : L2.Inv X pins σ H s) (hi : PI X tg iter wi) (ok : BlkOk X.N X.env.scope scope own)
    (hg : ∀ (s : Shared) (H : Hp) (C : Addr) (cl : List (Str × Addr)) (fp : List Addr), PG (X.blk s H scope (compEnvC scope cl C X.env) fp) tg g) (ht : ∀ (s : Shared) (H : Hp) (C : Addr) (cl : List (Str × Addr)) (fp : List Addr), PTs (X.blk s H scope (compEnvC scope cl C X.env) fp) ifs tt)
    (hk : ∀ (s : Shared) (H : Hp) (C : Addr) (cl : List (Str × Addr)) (fp : List Addr), PE (X.blk s H scope (compEnvC scope cl C X.env) fp) kx tk)
    (he : ∀ (s : Shared) (H : Hp) (C : Addr) (cl : List (Str × Addr)) (fp : List Addr), PE (X.blk s H scope (compEnvC scope cl C X.env) fp) vx tv) (hs : ∀ x, foldedSetIterable iter X.env x = pure x)
    (h : tDg O dst wi g tt tk tv (own.map (·.2)) σ H Q)
    (hRR : ∀ D C s' m H', L2.Inv X pins σ H' s' → Q (.ref D) H' → s'.heap.Ns C m → FpOk X pins H' C → compPost (model X.prog X.w) X.A X.xe use Qf (.ref D) C (.ok .next) s') :
    wpAny (model X.prog X.w) X.A (comprehension (.DictComp kx vx [⟨tg, iter, ifs, 0⟩] scope pos) scope X.env pos' newDict false (eval iter X.env) use) Qf X.xe s := by
  have cells : ∀ y ∈ scope.names, y.2 = .free → ∃ c, X.env.cells.lookup y.1 = some c := fun y my e => (ok.free y my e).elim (fun z => I.ok.has _ (.inl z)) fun z => I.ok.has _ (.inr z)
  refine wpAny_comprehension_free (use := use) rfl hs (closure_ok cells) ok.kind (fun y my e => by rw [ok.uniq y my, e]) (thn (hi.run pins s σ H _ I h) fun _ sA hA => thn hA fun _ sB hB => ?_)
  obtain ⟨it, fp, tn, J, HB, rfl, IB, T, stB, fB, q⟩ := hB
  refine wpAny_newObj_type (newEnv_comp ?_)
  generalize hD : sB.heap.objs.size = D
  have emp : HB D = none := IB.hok.fresh (Nat.le_of_eq hD)
  have low : (D == sysModules) = false := by rw [← hD]; exact beq_eq_false_iff_ne.mpr (Nat.ne_of_gt IB.big)
  obtain ⟨W, ⟨n0, w0⟩, turn⟩ := q D emp low
  generalize hC : ({ sB with heap := sB.heap.push { cls := .type "dict", data := .dict #[] } } : Shared) = sC
  have IC : L2.Inv X pins σ (upd HB D (O D)) sC := by
    subst hC; subst hD
    exact IB.laid (t' := sB.toks) (fun _ _ e => Heap.get?_push_of_some _ e) (Nat.le_refl _) (hO _ sB.heap IB.big)
  have hpC : sC.heap = sB.heap.push { cls := .type "dict", data := .dict #[] } := by rw [← hC]
  have sizes : ∀ b ∈ fp, b < sB.heap.objs.size := fun b mb => let ⟨_, e, _⟩ := T.obj _ _ stB b mb; Heap.lt_size e
  have fC : ∀ b ∈ fp, FpOk X pins (upd HB D (O D)) b ∧ b < sC.heap.objs.size := fun b mb => by
    refine ⟨⟨?_, (fB b mb).2⟩, by rw [hpC, Heap.size_push]; exact Nat.lt_succ_of_lt (sizes b mb)⟩
    rw [upd_ne (by rw [← hD]; exact Nat.ne_of_lt (sizes b mb))]; exact (fB b mb).1
  have stC : tn 0 sC.heap := T.keep _ _ _ stB fun _ _ _ e => by rw [hpC]; exact Heap.get?_push_of_some _ e
  have ID := block_start IC ok hN fC
  obtain ⟨cl, hcl⟩ : ∃ cl, cellsFrom (sC.heap.objs.size + 1) scope.names (cloFrom X.env.cells scope.names []) = cl := ⟨_, rfl⟩
  rw [hcl] at ID
  have PGx := hg sC (upd HB D (O D)) sC.heap.objs.size cl fp
  have PTx := ht sC (upd HB D (O D)) sC.heap.objs.size cl fp
  have PKx := hk sC (upd HB D (O D)) sC.heap.objs.size cl fp
  have PVx := he sC (upd HB D (O D)) sC.heap.objs.size cl fp
  show codeAny _ _ (.compStart (.DictComp kx vx [⟨tg, iter, ifs, 0⟩] scope pos) 0 (.ref it) (.ref D) (compEnvC scope (cellsFrom (sC.heap.objs.size + 1) scope.names (cloFrom X.env.cells scope.names [])) sC.heap.objs.size X.env)) (compPost (model X.prog X.w) X.A X.xe use Qf (.ref D) sC.heap.objs.size) { sC with heap := pushCells (sC.heap.push { cls := .type "dict", data := .dict #[] }) scope.names }
  rw [hcl]
  have away : ∀ b ∈ fp, (upd HB D (O D)) b = none := fun b mb => (fC b mb).1.1
  obtain ⟨ce, hce⟩ : ∃ ce, compEnvC scope cl sC.heap.objs.size X.env = ce := ⟨_, rfl⟩
  have loc : ce.locals = sC.heap.objs.size := by subst hce; rfl
  rw [hce] at ID PGx PTx PKx PVx ⊢
  obtain ⟨HC, hHC⟩ : ∃ HC, upd HB D (O D) = HC := ⟨_, rfl⟩
  rw [hHC] at IC ID PGx PTx PKx PVx w0 away fC
  obtain ⟨sD, hsD⟩ : ∃ sD : Shared, ({ sC with heap := pushCells (sC.heap.push { cls := .type "dict", data := .dict #[] }) scope.names } : Shared) = sD := ⟨_, rfl⟩
  rw [hsD] at ID ⊢
  have stD : tn 0 sD.heap := T.keep _ _ _ stC fun _ _ _ e => by rw [← hsD]; exact pushCells_keeps _ _ _ _ (Heap.get?_push_of_some _ e)
  have still : ∀ {τ : L2.St} {G : Hp} {t : Shared}, L2.Inv (X.blk sC HC scope ce fp) [] τ G t → (∀ b ∈ fp, G b = none) → ∀ b ∈ fp, FpOk (X.blk sC HC scope ce fp) [] G b := fun {τ G t} J' nn b mb =>
    ⟨nn b mb, (J'.ok.exf b mb).1, J'.ok.exfs b mb, .inl mb, fun x c e => (J'.ok.exf b mb).2 x c e, fun p mp => absurd (show p ∈ ([] : List (Addr × Obj)) ++ [] from mp) (by simp)⟩
  have whole : codeAny (model X.prog X.w) X.A (.compLoop (.DictComp kx vx [⟨tg, iter, ifs, 0⟩] scope pos) 0 (.ref it) (.ref D) ce) (compPost (model X.prog X.w) X.A X.xe use Qf (.ref D) sC.heap.objs.size) sD := by
    refine compLoop_anyD (fun n t => ∃ i G, L2.Inv (X.blk sC HC scope ce fp) [] (wipe σ (own.map (·.2))) G t ∧ tn i t.heap ∧ (∀ b ∈ fp, G b = none) ∧ W i n G) ?_ n0 ⟨0, HC, ID, stD, away, w0⟩
    rintro n tE ⟨i, GE, IE, stE, nE, wE⟩
    rcases turn i n GE wE with ⟨halt, fin⟩ | ⟨goes, Nx, hNx, step⟩
    · refine thnF (T.done (X.blk sC HC scope ce fp) rfl rfl rfl hc i [] tE _ GE (fun _ _ => False) IE (still IE nE) stE halt) fun r tF ⟨hr, IF⟩ => ?_
      subst hr
      have IG : L2.Inv X pins σ GE tF := IC.call' (ch := fp) IF.os IF.base IF.hok IF.bare fun b mb => let z := (fC b mb).1.2; ⟨z.2.2.1, z.1, z.2.2.2.1, z.2.2.2.2⟩
      have nC : GE sC.heap.objs.size = none := by have z : GE ce.locals = none := IF.free; rwa [loc] at z
      obtain ⟨mm, hn, _⟩ := IF.loc
      have hn : tF.heap.Ns ce.locals mm := hn
      rw [loc] at hn
      exact hRR D _ tF mm GE IG fin hn (IC.fpOk (Nat.le_refl _) nC)
    · refine thnF (T.item (X.blk sC HC scope ce fp) rfl rfl rfl hc i [] tE _ GE (fun _ _ => False) IE (still IE nE) stE goes) fun r tF ⟨u, hr, hF⟩ => ?_
      subst hr
      refine thnF hF fun _ tG ⟨x, GG, IG, rG, yG, stG, nG⟩ => ?_
      refine thnF (PGx.run _ tG _ GG x u _ (IG.pinned (still IG nG) (T.obj _ _ stG)) rG (step x GG yG)) fun _ tH ⟨τH, GH, IH, hw, qH⟩ => ?_
      refine thnF (PTx.run _ tH τH GH _ IH qH) fun b tI ⟨GI, II, qI⟩ => ?_
      have back : ∀ {t' : Shared} {G' : Hp}, L2.Inv (X.blk sC HC scope ce fp) ([] ++ pinsAt fp tG.heap) τH G' t' → Nx G' → ∃ m, m < n ∧ ∃ i G, L2.Inv (X.blk sC HC scope ce fp) [] (wipe σ (own.map (·.2))) G t' ∧ tn i t'.heap ∧ (∀ b ∈ fp, G b = none) ∧ W i m G := fun {t' G'} J' nx => by
        obtain ⟨m', lt, w'⟩ := hNx G' nx
        have pins' : ∀ b ∈ fp, ∀ o, tG.heap.get? b = some o → t'.heap.get? b = some o ∧ G' b = none := fun b mb o e => have z := J'.pin (b, o) (List.mem_append_right _ (List.mem_append_right _ (mem_pinsAt mb e))); ⟨z.1, z.2.1⟩
        refine ⟨m', lt, i + 1, G', (J'.unpinned (pins := [])).weak (by rw [← hw, wipe_length]) (fun j v e => by rw [← hw] at e; exact (wipe_some e).1), T.keep _ _ _ stG fun b mb o e => (pins' b mb o e).1, fun b mb => ?_, w'⟩
        obtain ⟨o, e, _⟩ := T.obj _ _ stG b mb
        exact (pins' b mb o e).2
      cases b with
      | false => simp only [Bool.false_eq_true, if_false] at qI ⊢; exact back II qI
      | true =>
        simp only [if_true] at qI ⊢
        refine thnF (PKx.run _ tI τH GI _ II qI) fun u1 tJ ⟨y, GJ, IJ, rJ, qJ⟩ => ?_
        refine thnF (PVx.run _ tJ τH GJ _ IJ qJ) fun u2 tK ⟨z, GK, IK, rK, qK⟩ => ?_
        exact thnF (hst (X.blk sC HC scope ce fp) _ τH GK tK y z D u1 u2 Nx _ rfl rfl rfl rfl IK rJ rK qK) fun _ tL ⟨GL, IL, nx⟩ => back IL nx
  exact codeAny_compStart_dict whole (T.self X.A 0 _ _ _ stD whole)
theorem pe_dg {X : Cx} {O : Addr → HO} {dst : DSt} {kx vx tg iter : Expr} {ifs : List Expr} {scope : Scope} {own : List (Str × Nat)} {pos : Pos} {wi : TI} {g : TG} {tt : TT} {tk tv : TE}
    (hO : ∀ (H : Hp) (h : Heap), sysModules < h.objs.size → L2.ObjOk X.prog X.w H (h.push { cls := .type "dict", data := .dict #[] }) h.objs.size (O h.objs.size)) (hst : DSet X dst)
    (hc : X.calm = true) (hN : X.N.Nodup) (hi : PI X tg iter wi) (ok : BlkOk X.N X.env.scope scope own)
    (hg : ∀ (s : Shared) (H : Hp) (C : Addr) (cl : List (Str × Addr)) (fp : List Addr), PG (X.blk s H scope (compEnvC scope cl C X.env) fp) tg g) (ht : ∀ (s : Shared) (H : Hp) (C : Addr) (cl : List (Str × Addr)) (fp : List Addr), PTs (X.blk s H scope (compEnvC scope cl C X.env) fp) ifs tt)
    (hk : ∀ (s : Shared) (H : Hp) (C : Addr) (cl : List (Str × Addr)) (fp : List Addr), PE (X.blk s H scope (compEnvC scope cl C X.env) fp) kx tk)
    (he : ∀ (s : Shared) (H : Hp) (C : Addr) (cl : List (Str × Addr)) (fp : List Addr), PE (X.blk s H scope (compEnvC scope cl C X.env) fp) vx tv) (hs : ∀ x, foldedSetIterable iter X.env x = pure x) :
    PE X (.DictComp kx vx [⟨tg, iter, ifs, 0⟩] scope pos) (tDg O dst wi g tt tk tv (own.map (·.2))) := ⟨fun pins s σ H Q I h => by
  rw [arm_eval_DictComp]
  exact dg_core hO hst hc hN I hi ok hg ht hk he hs h fun D C s' m H' I' q hn ⟨f0, f1, _, f3, f4, f5⟩ => ⟨m, hn, fun h'' sb => ⟨.ref D, H', I'.turned (t' := s'.toks) (fun b o hb e => (sb.2 b hb).trans e) f0 f1 f3 f4 f5, rfl, q⟩⟩⟩
end EL


set_option Elab.async false
set_option linter.all false
set_option maxRecDepth 100000
set_option maxHeartbeats 4000000
/-! EL: comprehensions that make a dict. -/
namespace EL
open PySem L2 PySem.W
/-- key and value, one behind the other -/
def pairE (mk mv : EM) : EM := fun lo mh => (mk lo mh).bind fun y mh1 => (mv lo mh1).bind fun z mh2 => .ok (.tup [y, z]) mh2
/-- the whole, its end left open -/
noncomputable def dcM {β : Type} (mi : IM) (t : Tg) (mt : BM) (mk mv : EM) (vs : List Nat) (fin : List PV → Mh → Res β) (lo : Lo) (mh : Mh) : Res β :=
  (mi lo mh).bind fun lg mh1 => (lcL lg.2 t mt (pairE mk mv) (wipeL lo vs) lg.1 mh1).bind fin
section
variable {K : PySem.W.Frag} {cls : Nat → Addr}
theorem dg_tE {β : Type} {E : XK} {O : Addr → HO} {dst : DSt} {mi : IM} {t : Tg} {mt : BM} {mk mv : EM} {vs : List Nat} {fin : List PV → Mh → Res β} {Kf : β → List Addr → Mh → Hp → Prop} (At : List Addr → List Addr → Hp → Addr → List PV → Prop) {ok : List PV → Prop}
    (hv : ∀ i ∈ slotsT t, i ∈ vs) {σ : L2.St} {H : Hp} {Q : VK} {Z ρ : List Addr} {lo : Lo} {mh : Mh} (s : RS K cls Z ρ lo mh σ H) (p : Post K cls E Z ρ H (dcM mi t mt mk mv vs fin lo mh) Kf)
    (hok : ∀ acc m, fin acc m ≠ .bad → ok acc)
    (h0 : ∀ Z' ρ' H' D, (D == sysModules) = false → H' D = some (O D) → At Z' ρ' H' D [])
    (hmono : ∀ Z' ρ' ρ2 H' H2 D acc, Ext ρ' H' ρ2 H2 → D ∉ ρ' → At Z' ρ' H' D acc → At Z' ρ2 H2 D acc)
    (hstep : ∀ Z' ρ' mh' H' D acc y z py pz ys Nx, D ∈ Z' → RH K cls Z' ρ' mh' H' → ok (acc ++ .tup [py, pz] :: ys) → At Z' ρ' H' D acc → RV K Z' ρ' H' py y → RV K Z' ρ' H' pz z → (∀ o, At Z' ρ' (upd H' D o) D (acc ++ [.tup [py, pz]]) → Nx (upd H' D o)) → dst y z D H' Nx)
    (hfin : ∀ ρ1 H1 ρ' mh' H' D acc, Ext ρ H ρ1 H1 → Ext ρ1 H1 ρ' H' → H1 D = none → RH K cls (D :: Z) ρ' mh' H' → At (D :: Z) ρ' H' D acc → Post K cls E Z ρ1 H1 (fin acc mh') Kf → Q (.ref D) H') :
    tDg O dst (tI K cls E mi) (tgM K cls t) (tT K cls E0 mt) (tE K cls E0 mk) (tE K cls E0 mv) vs σ H Q := by
  refine ⟨Z, ρ, lo, mh, s, (Post.bind p).imp ?_⟩
  rintro ⟨l, g⟩ ρ1 mh1 H1 e1 r1 q
  dsimp only at q ⊢
  have hg0 : g mh1 := by
    by_cases hg : g mh1
    · exact hg
    · cases l with
      | nil => simp only [lcL, if_neg hg, Res.bind_bad] at q; exact q.elim
      | cons v vs' => simp only [lcL, if_neg hg, Res.bind_bad] at q; exact q.elim
  refine ⟨hg0, fun J hJ D hD low => ?_⟩
  have hD0 : H D = none := e1.none r1 hD
  have hDZ : D ∉ Z := (r1.fresh hD).2
  refine ⟨fun i m H' => ∃ ρ' mh' acc, m + i = l.length ∧ Ext ρ1 H1 ρ' H' ∧ RH K cls (D :: Z) ρ' mh' H' ∧ At (D :: Z) ρ' H' D acc ∧
    Post K cls E Z ρ1 H1 ((lcL g t mt (pairE mk mv) (wipeL lo vs) (l.drop i) mh').bind fun ys mh2 => fin (acc ++ ys) mh2) Kf, ?_, ?_⟩
  · exact ⟨l.length, ρ1, mh1, [], rfl, Ext.new hD, r1.aside hD, h0 _ _ _ _ low upd_same, by simpa using q⟩
  · rintro i m H' ⟨ρ', mh', acc, hm, e2, r2, ha, q2⟩
    have hg : g mh' := by
      by_cases hg : g mh'
      · exact hg
      · cases k : l.drop i with
        | nil => rw [k] at q2; simp only [lcL, if_neg hg, Res.bind_bad] at q2; exact q2.elim
        | cons v vs' => rw [k] at q2; simp only [lcL, if_neg hg, Res.bind_bad] at q2; exact q2.elim
    obtain ⟨hstop, hgo⟩ := hJ i (D :: Z) ρ' mh' H' (fun z hz => (List.mem_cons.mp hz).elim (fun e => .inr (e ▸ hD)) .inl) e2 r2 hg
    by_cases hi : i < l.length
    · right
      obtain ⟨go, yl⟩ := hgo _ (List.getElem?_eq_getElem hi)
      rw [List.drop_eq_getElem_cons hi] at q2
      simp only [lcL, if_pos hg] at q2
      refine ⟨go, fun H'' => ∃ m', m' < m ∧ ∃ ρ' mh' acc, m' + (i + 1) = l.length ∧ Ext ρ1 H1 ρ' H'' ∧ RH K cls (D :: Z) ρ' mh' H'' ∧ At (D :: Z) ρ' H'' D acc ∧
        Post K cls E Z ρ1 H1 ((lcL g t mt (pairE mk mv) (wipeL lo vs) (l.drop (i + 1)) mh').bind fun ys mh2 => fin (acc ++ ys) mh2) Kf, fun H'' h => h, ?_⟩
      intro x H3 hy
      obtain ⟨e3, r3, hz3, rv3⟩ := yl x H3 hy
      cases ht : tgt t l[i] with
      | none => rw [ht] at q2; exact q2.elim
      | some us =>
        rw [ht] at q2
        dsimp only at q2
        refine ⟨D :: Z, ρ', mh', _, us, r3, rv3, ht, fun ws ru => ⟨upS_wipe fun j hj => hv j ?_, ?_⟩⟩
        · rw [ru.slots, tgt_slots t _ us ht] at hj; exact hj
        have hDn : D ∉ ρ' := (r3.zs D List.mem_cons_self).1
        have ha3 : At (D :: Z) ρ' H3 D acc := hmono _ _ _ _ _ _ _ e3 ((r2.zs D List.mem_cons_self).1) ha
        have e13 : Ext ρ1 H1 ρ' H3 := e2.trans e3
        have s3 : RS K cls (D :: Z) ρ' (wipeL lo vs) mh' (L2.wipe σ vs) H3 := by
          refine ⟨r3, ?_, fun j v hj => ?_⟩
          · rw [wipeL_length, wipe_length, s.len]
          · obtain ⟨x, hx, rr⟩ := (s.wipe vs).loc j v hj
            exact ⟨x, hx, rr.sh (Sh.later (e1.trans e13) fun z hz => (List.mem_cons.mp hz).elim (fun e => .inr (e ▸ hD0)) .inl)⟩
        have s4 := s3.ups ru
        cases k1 : mt (upL (wipeL lo vs) us) mh' with
        | bad => rw [k1] at q2; exact q2.elim
        | exc c m => rw [k1] at q2; exact q2.elim
        | ok b mh4 =>
          rw [k1] at q2
          simp only [noX_ok, Res.bind_ok] at q2
          refine ⟨D :: Z, ρ', _, mh', s4, ?_⟩
          rw [k1]
          intro ρ4 H4 e4 r4 b' hb'
          subst hb'
          have e14 : Ext ρ1 H1 ρ4 H4 := e13.trans e4
          have ha4 := hmono _ _ _ _ _ _ _ e4 hDn ha3
          cases b with
          | false =>
            rw [if_neg (by decide)] at q2 ⊢
            exact ⟨l.length - (i + 1), by omega, ρ4, mh4, acc, by omega, e14, r4, ha4, q2⟩
          | true =>
            rw [if_pos rfl] at q2 ⊢
            cases k2 : mk (upL (wipeL lo vs) us) mh4 with
            | bad => simp only [pairE, k2] at q2; exact q2.elim
            | exc c m => simp only [pairE, k2] at q2; exact q2.elim
            | ok py mh5 =>
              cases k3 : mv (upL (wipeL lo vs) us) mh5 with
              | bad => simp only [pairE, k2, k3, Res.bind_ok] at q2; exact q2.elim
              | exc c m => simp only [pairE, k2, k3, Res.bind_ok] at q2; exact q2.elim
              | ok pz mh6 =>
                simp only [pairE, k2, k3, Res.bind_ok, noX_ok, Res.bind_assoc] at q2
                have hkk : ∃ ys, ok (acc ++ .tup [py, pz] :: ys) := by
                  cases k4 : lcL g t mt (pairE mk mv) (wipeL lo vs) (l.drop (i + 1)) mh6 with
                  | bad => rw [show lcL g t mt (pairE mk mv) (wipeL lo vs) (l.drop (i + 1)) mh6 = .bad from k4] at q2; exact q2.elim
                  | exc c m => exact (lcL_ne g t mt (pairE mk mv) _ _ _ _ _ k4).elim
                  | ok ys m2 =>
                    rw [show lcL g t mt (pairE mk mv) (wipeL lo vs) (l.drop (i + 1)) mh6 = .ok ys m2 from k4] at q2
                    simp only [Res.bind_ok] at q2
                    exact ⟨ys, hok _ m2 fun e => by rw [e] at q2; exact q2.elim⟩
                obtain ⟨ys, hoky⟩ := hkk
                refine ⟨D :: Z, ρ4, _, mh4, s4.to e4 r4, ?_⟩
                rw [k2]
                intro ρ5 H5 e5 r5 y ry
                refine ⟨D :: Z, ρ5, _, mh5, (s4.to e4 r4).to e5 r5, ?_⟩
                rw [k3]
                intro ρ6 H6 e6 r6 z rz
                have hD4 : D ∉ ρ4 := (r4.zs D List.mem_cons_self).1
                have hD5 : D ∉ ρ5 := (r5.zs D List.mem_cons_self).1
                have ha6 := hmono _ _ _ _ _ _ _ e6 hD5 (hmono _ _ _ _ _ _ _ e5 hD4 ha4)
                refine hstep (D :: Z) ρ6 mh6 H6 D acc y z py pz ys _ List.mem_cons_self r6 hoky ha6 (ry.mono e6) rz fun o hao => ?_
                exact ⟨l.length - (i + 1), by omega, ρ6, mh6, acc ++ [.tup [py, pz]], by omega, ((e14.trans e5).trans e6).updZ hD, r6.updZ, hao, by simpa only [List.append_assoc, List.singleton_append] using q2⟩
    · left
      have hi' : l.length ≤ i := by omega
      refine ⟨hstop hi', ?_⟩
      rw [List.drop_eq_nil_of_le hi'] at q2
      simp only [lcL, if_pos hg, Res.bind_ok, List.append_nil] at q2
      exact hfin ρ1 H1 ρ' mh' H' D acc e1 e2 hD r2 ha q2
end
/-! ### sorted({k: True for ..}), the keys tuples without texts -/
def pkeys : List PV → Option (List PyData)
  | [] => some []
  | .tup [.d d, _] :: r => (pkeys r).map (d :: ·)
  | _ :: _ => none
def keyB : PyData → Bool
  | .tuple ds => match nkOf (.tuple ds) with
    | some k => decide (k.depth ≤ 8)
    | none => false
  | _ => false
def addK (acc : List PyData) (d : PyData) : List PyData := if (acc.any fun e => decide (nkOf e = nkOf d)) = true then acc else acc ++ [d]
def ddK (ds : List PyData) : List PyData := ds.foldl addK []
theorem ddK_snoc (ds : List PyData) (d : PyData) : ddK (ds ++ [d]) = addK (ddK ds) d := by unfold ddK; rw [List.foldl_append]; rfl
theorem pkeys_append : ∀ {a b : List PV} {ds : List PyData}, pkeys (a ++ b) = some ds → ∃ x y, pkeys a = some x ∧ pkeys b = some y ∧ ds = x ++ y
  | [], b, ds, h => ⟨[], ds, rfl, h, rfl⟩
  | p :: a, b, ds, h => by
    rw [List.cons_append] at h
    unfold pkeys at h
    split at h
    · rename_i e; cases e
    · rename_i d z r e
      injection e with e1 e2
      subst e1 e2
      cases k : pkeys (a ++ b) with
      | none => rw [k] at h; cases h
      | some ds' =>
        rw [k] at h; cases h
        obtain ⟨x, y, h1, h2, rfl⟩ := pkeys_append k
        exact ⟨d :: x, y, by simp [pkeys, h1], h2, rfl⟩
    · cases h
theorem pkeys_cons {py pz : PV} {ys : List PV} {ds : List PyData} (h : pkeys (.tup [py, pz] :: ys) = some ds) : ∃ d r, py = .d d ∧ ds = d :: r := by
  unfold pkeys at h
  split at h
  · rename_i e; cases e
  · rename_i d z r e
    injection e with e1 e2
    injection e1 with e1
    injection e1 with e1 e3
    subst e1 e2
    cases k : pkeys ys with
    | none => rw [k] at h; cases h
    | some r => rw [k] at h; cases h; exact ⟨d, r, rfl, rfl⟩
  · cases h
theorem keyB_ok {d : PyData} (h : keyB d = true) : ∃ ds k, d = .tuple ds ∧ nkOf d = some k ∧ k.depth ≤ 8 := by
  unfold keyB at h
  split at h
  · rename_i ds
    split at h
    · rename_i k hk
      exact ⟨ds, k, rfl, hk, by simpa using h⟩
    · cases h
  · cases h
theorem Sh.updM {Z ρ : List Addr} {H : Hp} {D : Addr} {o : HO} (hD : D ∈ Z) : Sh Z ρ H Z ρ (upd H D o) := ⟨fun a u h z => ⟨by rw [upd_ne (fun e => z.1 (by rw [e]; exact hD))]; exact h, z⟩, fun _ _ h => h⟩
def dNd (K : PySem.W.Frag) : DSt := fun y z D H Nx => ∃ b xs d k, y = .ref b ∧ H D = some (ndO D xs) ∧ KeyD K H xs ∧ nkOf d = some k ∧ k.depth ≤ 8 ∧ Dp K H (.ref b) d ∧ xs.length < sizeLine ∧ ∀ r, RelV z r → Nx (upd H D (ndO D (storedH xs k b r)))
theorem nx_vals : ∀ xs : NX, Vals (xs.map fun x => V.ref x.2.1) (xs.map fun x => Value.ref x.2.1)
  | [] => .nil
  | _ :: xs => .cons rfl (nx_vals xs)
section
variable {X : Cx} {cls : Nat → Addr}
theorem dNd_set (c : COk X) : DSet X (dNd X.K) := by
  intro Y pins σ H s y z D u r Nx E e1 e2 e3 e4 I ry rz ⟨b, xs, d, k, ey, hD, hk, hd, hp, hb, hl, q⟩
  subst ey
  obtain rfl : u = Value.ref b := ry
  rw [← e3] at hk hb
  rw [← e1, ← e2]
  exact nd_set (X := Y) (by have := c.un; omega) I hD hk hd hp hb hl fun s' I' => ⟨_, I', q r rz⟩
theorem nd_empty {P : Program} {w : World} (H : Hp) (h : Heap) (hb : sysModules < h.objs.size) : L2.ObjOk P w H (h.push { cls := .type "dict", data := .dict #[] }) h.objs.size (ndO h.objs.size []) := by
  have hs : (h.push { cls := .type "dict", data := .dict #[] }).get? h.objs.size = some { cls := .type "dict", data := .dict #[] } := Heap.get?_push_size _ rfl
  exact nd_new (P := P) (w := w) ⟨beq_eq_false_iff_ne.mpr (Nat.ne_of_gt hb), Nat.zero_le _, List.nodup_nil, fun x hx => by cases hx⟩ ⟨_, #[], _, hs, ⟨rfl, rfl, rfl⟩, rfl, rfl, fun x hx => (by cases hx), List.nodup_nil⟩
theorem nd_colls {H : Hp} {a : Addr} {xs : NX} (h : H a = some (ndO a xs)) : Colls X H a (xs.map fun x => V.ref x.2.1) := by
  intro pins σ s A E R hh I hR
  obtain ⟨⟨ok, P', w', o, es, ep, h1, h2, h3, h4⟩, _⟩ := (show L2.ObjOk X.prog X.w H s.heap a (ndO a xs) from I.hok a _ h)
  have hsz : es.size = xs.length := by rw [← Array.length_toList, h4, List.length_map]
  refine PySem.W.kdu_collect (KdlSrc.rawDict (es := es) (ep := ep) ok.low) hh ⟨o, h1, h2, h3⟩ (by rw [hsz]; exact ok.len) fun h' tk acc hk hacc => ?_
  have hv : acc.toList = xs.map fun x => Value.ref x.2.1 := by
    refine List.ext_getElem? fun j => ?_
    by_cases hj : j < acc.toList.length
    · have hj2 : j < xs.length := by rw [Array.length_toList, hacc.1, hsz] at hj; exact hj
      obtain ⟨hi, e⟩ := hacc.2 j acc.toList[j] (by rw [← Array.getElem?_toList]; exact List.getElem?_eq_getElem hj)
      rw [List.getElem?_eq_getElem hj, e, List.getElem?_map, List.getElem?_eq_getElem hj2]
      have e5 : es.toList[j]? = some (entryOfKey (nestedKind P' w') xs[j]) := by rw [h4, List.getElem?_map, List.getElem?_eq_getElem hj2]; rfl
      rw [Array.getElem?_toList, Array.getElem?_eq_getElem hi] at e5
      rw [Option.some.inj e5]; rfl
    · have hj2 : ¬ j < xs.length := by rw [Array.length_toList, hacc.1, hsz] at hj; exact hj
      rw [List.getElem?_eq_none (by omega), List.getElem?_eq_none (by rw [List.length_map]; omega)]
  have rel : Vals (xs.map fun x => V.ref x.2.1) acc.toList := by
    rw [hv]; exact nx_vals xs
  exact hR h' tk _ hk rel (by rw [List.length_map]; exact ok.len)
/-- the dict so far -/
def AtN (K : PySem.W.Frag) (Z ρ : List Addr) (H : Hp) (D : Addr) (acc : List PV) : Prop := ∃ xs ds, H D = some (ndO D xs) ∧ pkeys acc = some ds ∧ RDs K Z ρ H (ddK ds) (xs.map fun x => V.ref x.2.1) ∧ (xs.map fun x => some x.1) = (ddK ds).map nkOf ∧ xs.length ≤ ds.length
open Classical in
noncomputable def finS (acc : List PV) (mh : Mh) : Res (List PV) := match pkeys acc with
  | some ds => if (∀ d, d ∈ ds → keyB d = true) ∧ ds.length ≤ sizeLine ∧ srtOk (ddK ds) then .ok ((mSrt (ddK ds)).map .d) mh else .bad
  | none => .bad
def okS (acc : List PV) : Prop := ∃ ds, pkeys acc = some ds ∧ (∀ d, d ∈ ds → keyB d = true) ∧ ds.length ≤ sizeLine ∧ srtOk (ddK ds)
theorem finS_ok {acc : List PV} {m : Mh} (h : finS acc m ≠ .bad) : okS acc := by
  unfold finS at h
  split at h
  · rename_i ds hd
    split at h
    · rename_i hh; exact ⟨ds, hd, hh⟩
    · exact absurd rfl h
  · exact absurd rfl h
theorem keyD_of {K : PySem.W.Frag} {Z ρ : List Addr} {H : Hp} : ∀ {xs : NX} {ds : List PyData}, RDs K Z ρ H ds (xs.map fun x => V.ref x.2.1) → (xs.map fun x => some x.1) = ds.map nkOf → KeyD K H xs
  | [], _, _, _ => fun x hx => by cases hx
  | x :: xs, d :: ds, r, e => by
    rw [List.map_cons, List.map_cons] at e
    injection e with e1 e2
    cases r with
    | cons r1 r2 =>
      intro y hy
      rcases List.mem_cons.mp hy with h | h
      · subst h; exact ⟨d, e1.symm, r1.dp⟩
      · exact keyD_of r2 e2 y h
theorem any_key {xs : NX} {ds : List PyData} {k : NestedKey} (e : (xs.map fun x => some x.1) = ds.map nkOf) : (ds.any fun e => decide (nkOf e = some k)) = (atKey xs k).isSome := by
  have h1 : (ds.any fun e => decide (nkOf e = some k)) = ((ds.map nkOf).any fun o => decide (o = some k)) := by rw [List.any_map]; rfl
  rw [h1, ← e, List.any_map]
  unfold atKey
  rw [Option.isSome_map, Bool.eq_iff_iff, List.find?_isSome, List.any_eq_true]
  simp
theorem stored_snd {xs : NX} {k : NestedKey} {b : Addr} {r : Value} (h : (atKey xs k).isSome = true) : (storedH xs k b r).map (fun x => V.ref x.2.1) = xs.map (fun x => V.ref x.2.1) ∧ (storedH xs k b r).map (fun x => some x.1) = xs.map (fun x => some x.1) ∧ (storedH xs k b r).length = xs.length := by
  unfold storedH
  rw [if_pos h]
  refine ⟨?_, ?_, by rw [List.length_map]⟩
  · rw [List.map_map]; refine List.map_congr_left fun x _ => ?_
    show V.ref (putAt k r x).2.1 = _
    unfold putAt; split <;> rfl
  · rw [List.map_map]; refine List.map_congr_left fun x _ => ?_
    show some (putAt k r x).1 = _
    unfold putAt; split <;> rfl
noncomputable def lSrtDc (mi : IM) (t : Tg) (mt : BM) (mk : EM) (own : List (Str × Nat)) : AM := fun lo mh => dcM mi t mt mk (mC (.bool true)) (own.map (·.2)) finS lo mh
theorem srtDc_tE {K : PySem.W.Frag} {E : XK} {mi : IM} {t : Tg} {mt : BM} {mk : EM} {own : List (Str × Nat)} (hv : ∀ i ∈ slotsT t, i ∈ own.map (·.2)) {σ : L2.St} {H : Hp} {Q : VK} (h : tL X.K cls E (lSrtDc mi t mt mk own) σ H Q) :
    tDg (fun D => ndO D []) (dNd X.K) (tI X.K cls E mi) (tgM X.K cls t) (tT X.K cls E0 mt) (tE X.K cls E0 mk) (tE X.K cls E0 (mC (.bool true))) (own.map (·.2)) σ H fun x H1 => rSrt X [x] H1 Q := by
  obtain ⟨Z, ρ, lo, mh, s, p⟩ := h
  refine dg_tE (AtN X.K) (ok := okS) hv s p (fun acc m h => finS_ok h) ?_ ?_ ?_ ?_
  · intro Z' ρ' H' D _ hD
    exact ⟨[], [], hD, rfl, .nil, rfl, Nat.le_refl _⟩
  · rintro Z' ρ' ρ2 H' H2 D acc e hn ⟨xs, ds, h1, h2, h3, h4, h5⟩
    exact ⟨xs, ds, e.keep D _ h1 hn, h2, h3.mono e, h4, h5⟩
  · rintro Z' ρ' mh' H' D acc y z py pz ys Nx hDZ rh ⟨ds0, k1, k2, k3, k4⟩ ⟨xs, ds, h1, h2, h3, h4, h5⟩ ry rz q
    obtain ⟨ds1, ds2, e1, e2, rfl⟩ := pkeys_append k1
    rw [h2] at e1; cases e1
    obtain ⟨d, r2, rfl, rfl⟩ := pkeys_cons e2
    obtain ⟨its, k, rfl, hk, hp⟩ := keyB_ok (k2 d (List.mem_append_right _ List.mem_cons_self))
    cases ry with
    | d ry =>
      cases ry with
      | @tup b vs _ ht hr =>
        have hb : RD X.K Z' ρ' H' (.tuple its) (.ref b) := .tup ht hr
        refine ⟨b, xs, .tuple its, k, rfl, h1, keyD_of h3 h4, hk, hp, hb.dp, ?_, fun r rr => q _ ?_⟩
        · rw [List.length_append, List.length_cons] at k3; omega
        · have hs : Sh Z' ρ' H' Z' ρ' (upd H' D (ndO D (storedH xs k b r))) := Sh.updM hDZ
          refine ⟨_, ds ++ [.tuple its], upd_same, ?_, ?_, ?_, ?_⟩
          · clear q k1 k2 k3 k4 e2
            have : ∀ (a : List PV) (x : List PyData), pkeys a = some x → pkeys (a ++ [.tup [.d (.tuple its), pz]]) = some (x ++ [.tuple its]) := by
              intro a
              induction a with
              | nil => intro x hx; cases hx; rfl
              | cons p a ih =>
                intro x hx
                unfold pkeys at hx
                split at hx
                · rename_i e; cases e
                · rename_i d' z' r' e
                  injection e with e1 e2
                  subst e1 e2
                  cases kk : pkeys a with
                  | none => rw [kk] at hx; cases hx
                  | some x' => rw [kk] at hx; cases hx; simp [pkeys, ih x' kk]
                · cases hx
            exact this acc ds h2
          · rw [ddK_snoc]
            unfold addK
            rw [hk, any_key h4]
            split
            · rename_i hh
              rw [(stored_snd hh).1]; exact h3.sh hs
            · rename_i hh
              have e3 : (storedH xs k b r).map (fun x => V.ref x.2.1) = xs.map (fun x => V.ref x.2.1) ++ [V.ref b] := by
                unfold storedH; rw [if_neg hh, List.map_append]; rfl
              rw [e3]
              exact (h3.sh hs).append (.cons (hb.sh hs) .nil)
          · rw [ddK_snoc]
            unfold addK
            rw [hk, any_key h4]
            split
            · rename_i hh
              rw [(stored_snd hh).2.1]; exact h4
            · rename_i hh
              unfold storedH
              rw [if_neg hh, List.map_append, List.map_append, h4]
              simp [hk]
          · by_cases hh : (atKey xs k).isSome = true
            · rw [(stored_snd hh).2.2, List.length_append]; omega
            · unfold storedH
              rw [if_neg hh, List.length_append, List.length_append]; simp; omega
  · rintro ρ1 H1 ρ' mh' H' D acc e1 e2 hD rh ⟨xs, ds, h1, h2, h3, h4, h5⟩ q
    have hl : (xs.map fun x => V.ref x.2.1).length = (ddK ds).length := h3.length.symm
    unfold finS at q
    rw [h2] at q
    dsimp only at q
    split at q
    · rename_i hh
      refine ⟨D, _, ddK ds, rfl, nd_colls h1, h3.dp, hl, hh.2.2, fun p hp => ?_⟩
      have r0 : RH X.K cls Z ρ' mh' H' := rh.less fun _ m => List.mem_cons_of_mem _ m
      have rd : RDs X.K Z ρ' H' (ddK ds) _ := h3.less fun _ m => List.mem_cons_of_mem _ m
      exact KL.new (q.later e2) (fun z hz => (e1.trans e2).none r0 hz) r0 (RVs.ofD rd.srt) hp
    · exact q.elim
theorem SRD (c : COk X) {kx tg iter : Expr} {ifs : List Expr} {scope : Scope} {pos p p2 p3 : Pos} {j : Nat} (own : List (Str × Nat)) {mI : IM} {t : Tg} {mt : BM} {mk : EM} (hm : X.mg "sorted" = none) (hi : JI X cls tg iter mI)
    (hg : ∀ (s : Shared) (H : Hp) (C : Addr) (cl : List (Str × Addr)) (fp : List Addr), JG (X.blk s H scope (compEnvC scope cl C X.env) fp) cls tg t)
    (ht : ∀ (s : Shared) (H : Hp) (C : Addr) (cl : List (Str × Addr)) (fp : List Addr), JTs (X.blk s H scope (compEnvC scope cl C X.env) fp) cls ifs mt)
    (hk : ∀ (s : Shared) (H : Hp) (C : Addr) (cl : List (Str × Addr)) (fp : List Addr), JE (X.blk s H scope (compEnvC scope cl C X.env) fp) cls kx mk)
    (ok : blkB X.N X.env.scope scope own = true := by rfl) (hs : ∀ x, foldedSetIterable iter X.env x = pure x := by intro _; rfl) (hv : ∀ i ∈ slotsT t, i ∈ own.map (·.2) := by decide +kernel) (hgl : Gl X "sorted" := by rfl)
    (hse : starEach [.DictComp kx (.Constant (.bool true) j p3) [⟨tg, iter, ifs, 0⟩] scope p2] X.env = (false, eval (.DictComp kx (.Constant (.bool true) j p3) [⟨tg, iter, ifs, 0⟩] scope p2) X.env) :: starEach [] X.env := by rfl) (hpl : (backTo pos (starEach [] X.env)).any (·.1) = false := by rfl) :
    JL X cls (.Call (.Name "sorted" p) [.DictComp kx (.Constant (.bool true) j p3) [⟨tg, iter, ifs, 0⟩] scope p2] [] pos) (lSrtDc mI t mt mk own) := fun E hx => by
  have hg' : ∀ (s : Shared) (H : Hp) (C : Addr) (cl : List (Str × Addr)) (fp : List Addr), PG (X.blk s H scope (compEnvC scope cl C X.env) fp) tg (tgM X.K cls t) := hg
  have ht' : ∀ (s : Shared) (H : Hp) (C : Addr) (cl : List (Str × Addr)) (fp : List Addr), PTs (X.blk s H scope (compEnvC scope cl C X.env) fp) ifs (tT X.K cls E0 mt) := fun s H C cl fp => ht s H C cl fp E0 (blk_pass s H scope _ fp)
  have hk' : ∀ (s : Shared) (H : Hp) (C : Addr) (cl : List (Str × Addr)) (fp : List Addr), PE (X.blk s H scope (compEnvC scope cl C X.env) fp) kx (tE X.K cls E0 mk) := fun s H C cl fp => (hk s H C cl fp E0 (blk_pass s H scope _ fp)).pe
  have he' : ∀ (s : Shared) (H : Hp) (C : Addr) (cl : List (Str × Addr)) (fp : List Addr), PE (X.blk s H scope (compEnvC scope cl C X.env) fp) (.Constant (.bool true) j p3) (tE X.K cls E0 (mC (.bool true))) := fun s H C cl fp => (JE_bl (c.blk s H scope _ fp) E0 (blk_pass s H scope _ fp)).pe
  exact .of c ((pe_callB (cr_srt c) hgl hm (by decide +kernel) (pa_cons (pe_dg (X := X) (O := fun D => ndO D []) nd_empty (dNd_set c) c.calm c.nd (hi E hx) (blkB_ok ok) hg' ht' hk' he' hs) pa_nil hse) (by decide) (by decide) hse hpl).imp fun σ H Q h => srtDc_tE (X := X) (K := X.K) hv h) fun _ _ _ => rfl
end
end EL


set_option Elab.async false
set_option linter.all false
set_option maxRecDepth 100000
set_option maxHeartbeats 4000000
/-! EL: what the head's facts give, and the law's end. -/
namespace EL
open PySem L2
section
variable {K : PySem.W.Frag} {w : World} {h : Heap} {mg : Str → Option Value}
def DvD : He.Dv → Option PyData
  | .non => some .none
  | .bl b => some (.bool b)
  | .int i => some (.int i)
  | .str x => some (.str x)
  | _ => none
def DvDs : List He.Dv → Option (List PyData)
  | [] => some []
  | d :: r => match DvD d, DvDs r with
    | some x, some xs => some (x :: xs)
    | _, _ => none
theorem dvD_ok {d : He.Dv} {x : PyData} (e : DvD d = some x) (Z ρ : List Addr) (H : Hp) : RD K Z ρ H x (d.v K) := by
  cases d <;> cases e
  · exact .non
  · exact .bl _
  · exact .int _
  · exact .str _
theorem dvDs_ok : ∀ {ds : List He.Dv} {xs : List PyData}, DvDs ds = some xs → ∀ (Z ρ : List Addr) (H : Hp), RDs K Z ρ H xs (ds.map (He.Dv.v K))
  | [], _, e, _, _, _ => by cases e; exact .nil
  | d :: r, _, e, Z, ρ, H => by
    unfold DvDs at e
    split at e
    · rename_i x xs h1 h2
      cases e
      exact .cons (dvD_ok h1 Z ρ H) (dvDs_ok h2 Z ρ H)
    · cases e
def tupBN (K : PySem.W.Frag) (x : Str) (vs : List He.Dv) : Bool := He.tupB K x vs && (match K.lookup (He.ga K x) with
  | some o => o.dict.isNone
  | none => false)
theorem tupAt_of {x : Str} {vs : List He.Dv} (e : tupBN K x vs = true) (Z ρ : List Addr) (H : Hp) : TupS K Z ρ H (He.ga K x) (vs.map (He.Dv.v K)) := by
  unfold tupBN at e
  rw [Bool.and_eq_true] at e
  obtain ⟨e, en⟩ := e
  unfold He.tupB at e
  split at e
  · rename_i c dd its n sl hl
    rw [hl] at en
    have hdd : dd = none := Option.isNone_iff_eq_none.mp en
    subst hdd
    obtain ⟨h1, h2⟩ := He.ba e
    obtain ⟨h2, h3⟩ := He.ba h2
    have hc : c = "tuple" := of_decide_eq_true h1
    subst hc
    exact .inr ⟨_, its, n, hl, rfl, rfl, rfl, of_decide_eq_true h2, He.relAll_ok h3⟩
  · cases e
theorem kd_tup (X : K.In h) (G : h.Ns mainGlobals mg) {x : Str} {vs : List He.Dv} {ds : List PyData} (c : (He.Fa.glo x).ok K = true) (e : tupBN K x vs = true) (hd : DvDs vs = some ds) : ∃ u, mg x = some u ∧ KD K u (.tuple ds) :=
  ⟨_, He.glo_ok X G c, .ref (He.ga K x), rfl, fun Z ρ H => .tup (tupAt_of e Z ρ H) (dvDs_ok hd Z ρ H)⟩
theorem kd_int (X : K.In h) (G : h.Ns mainGlobals mg) {x : Str} {i : Int} (c : (He.Fa.int x i).ok K = true) : ∃ u, mg x = some u ∧ KD K u (.int i) := by
  obtain ⟨t, e⟩ := He.int_ok X G c
  exact ⟨_, e, .int i, ⟨t, rfl⟩, fun _ _ _ => .int i⟩
theorem kd_str (X : K.In h) (G : h.Ns mainGlobals mg) {x z : Str} (c : (He.Fa.str x z).ok K = true) : ∃ u, mg x = some u ∧ KD K u (.str z) := by
  obtain ⟨t, e⟩ := He.str_ok X G c
  exact ⟨_, e, .str z, ⟨t, rfl⟩, fun _ _ _ => .str z⟩
/-- no other keys -/
theorem keys_none {P : Params} : ∀ {l : List DictEntry} {ks : List Str}, l.map He.keyOf = He.keysIn P ks → ∀ z, z ∉ ks → (l.find? fun e => e.key.isStr z) = none ∧ (l.any fun e => e.key.isStr z) = false
  | [], _, _, _, _ => ⟨rfl, rfl⟩
  | e :: r, [], h, _, _ => by cases h
  | e :: r, k :: ks, h, z, hz => by
    injection (show He.keyOf e :: r.map He.keyOf = some (k, PyData.keyHash P k) :: He.keysIn P ks from h) with h1 h2
    obtain ⟨a, b⟩ := keys_none h2 z (fun m => hz (List.mem_cons_of_mem _ m))
    have he : e.key.isStr z = false := by
      unfold He.keyOf at h1
      split at h1
      · rename_i x t hx
        injection h1 with h1
        injection h1 with h1 _
        rw [hx]
        have hne : x ≠ z := fun q => hz (by rw [← q, h1]; exact List.mem_cons_self)
        simpa [Value.isStr] using hne
      · cases h1
    exact ⟨by rw [List.find?_cons, he]; exact a, by rw [List.any_cons, he]; exact b⟩
theorem keys_noref {P : Params} : ∀ {l : List DictEntry} {ks : List Str}, l.map He.keyOf = He.keysIn P ks → (l.any (·.refKey)) = false
  | [], _, _ => rfl
  | e :: r, [], h => by cases h
  | e :: r, k :: ks, h => by
    injection (show He.keyOf e :: r.map He.keyOf = some (k, PyData.keyHash P k) :: He.keysIn P ks from h) with h1 h2
    rw [List.any_cons, keys_noref h2]
    unfold He.keyOf at h1
    split at h1
    · rename_i x t hx
      simp [DictEntry.refKey, hx]
    · cases h1
theorem lookup_mem {tab : List (Str × Int)} {z : Str} {i : Int} (h : tab.lookup z = some i) : (z, i) ∈ tab := by
  induction tab with
  | nil => cases h
  | cons p r ih =>
    rw [List.lookup_cons] at h
    split at h
    · rename_i hb
      cases h
      have := eq_of_beq hb
      subst this; exact List.mem_cons_self
    · exact List.mem_cons_of_mem _ (ih h)
theorem lookup_none {tab : List (Str × Int)} {z : Str} (h : tab.lookup z = none) : z ∉ tab.map (·.1) := by
  induction tab with
  | nil => simp
  | cons p r ih =>
    rw [List.lookup_cons] at h
    split at h
    · cases h
    · rename_i hb
      intro m
      rcases List.mem_cons.mp m with e | e
      · rw [e] at hb; simp at hb
      · exact ih h e
def tabDv (tab : List (Str × Int)) : List (Str × He.Dv) := tab.map fun p => (p.1, .int p.2)
theorem tabK_of {x : Str} {tab : List (Str × Int)} (e : He.dicW K (He.ga K x) = some (He.keysIn w.params (tab.map (·.1)))) (v : He.valsB K (He.ga K x) (tabDv tab) = true) : TabK K w (He.ga K x) tab := by
  obtain ⟨es, n, D⟩ := He.dicW_ok e
  refine ⟨es, n, D, fun z => ?_⟩
  cases hz : tab.lookup z with
  | some i =>
    obtain ⟨u, h1, h2⟩ := He.valsB_ok v (q := (z, .int i)) (List.mem_map.mpr ⟨_, lookup_mem hz, rfl⟩)
    obtain ⟨t, rfl⟩ := (show ∃ t, u = Value.int i t from h2)
    exact ⟨_, h1, t, rfl⟩
  | none =>
    refine ⟨none, ?_, rfl⟩
    have hk : es.toList.map He.keyOf = He.keysIn w.params (tab.map (·.1)) := by
      unfold He.dicW at e
      rw [D.at_] at e
      dsimp only at e
      split at e
      · injection e
      · cases e
    obtain ⟨a, _⟩ := keys_none hk z (lookup_none hz)
    unfold PySem.W.nsIn
    rw [D.at_]
    dsimp only
    rw [a]
    dsimp only
    rw [if_neg (by rw [keys_noref hk]; decide)]
end
/-- the law's end: what is left is plain -/
theorem scrAt_of {K : PySem.W.Frag} {H : Hp} {a : Addr} {xs : List V} (h : SqL K H a xs) : ScrAt K [] [] H a xs := h.imp (fun h => ⟨h, by simp, by simp⟩) id
theorem law_sp {K : PySem.W.Frag} {cls : Nat → Addr} {m : FM} {H : Hp} {a : Addr} {ns : List Int} {mh' : Mh} (hS : SqL K H a (ns.map V.int)) (h : m [.scr ns] [] = .ok (.d (.bool true)) mh') :
    spM K cls 1 m [.ref a] H (fun v _ => v = .bl true) fun _ _ _ => False := by
  refine ⟨[], [], [], [.scr ns], rfl, ⟨rfl, List.nodup_nil, (fun z hz => by cases hz), (fun n o a h => by simp at h)⟩, .cons (.scr (scrAt_of hS)) .nil, ?_⟩
  rw [h]
  intro ρ' H' e r z rz
  cases rz with
  | d rz => cases rz; rfl
/-- nothing is let out -/
theorem fn_nox {P : Program} {w : World} {K : PySem.W.Frag} {mg : Str → Option Value} {base : Heap} {k : Nat} {f : Addr} {fd : FuncData} {ps : List Str} {sp : Sp} (F : FnOk P w K mg base (L2.CX P w) k f fd ps sp) :
    FnOk P w K mg base L2.CX0 k f fd ps (fun vs H Q _ => sp vs H Q fun _ _ _ => False) :=
  ⟨fun vs H Q E q => F.len vs H Q _ q, fun A outer s H args us vs Q E hr he hb hv hs => codeAny_mono (F.run A outer s H args us vs Q _ hr he hb hv hs) fun r s' h => by
    unfold CR at h ⊢
    split at h
    · exact h
    · exact h.elim
    · obtain ⟨_, _, _, _, _, _, _, _, _, _, _, _, z⟩ := h
      exact z.elim⟩
/-- the law's def, at every base -/
theorem ok_all {P : Program} {w : World} {K : PySem.W.Frag} {mg : Str → Option Value} {cls : Nat → Addr} {k : Nat} {f : Addr} {ps : List Str} {mf : FM} (h : ∀ base : Heap, Ok P w K mg base cls k f ps mf) :
    ∃ fd, (∀ (s : Shared) (us : List Value), us.length = ps.length → BindsTo s fd ⟨us, []⟩ (ps.zip us)) ∧ ∀ base : Heap, FnOk P w K mg base L2.CX0 k f fd ps (fun vs H Q _ => spM K cls ps.length mf vs H Q fun _ _ _ => False) := by
  obtain ⟨fd, _, _, _, hb, oc, od, sl, lk⟩ := h default
  refine ⟨fd, hb, fun base => ?_⟩
  obtain ⟨fd', F, _, _, _, oc', od', sl', lk'⟩ := h base
  have e := lk.symm.trans lk'
  injection e with e
  injection e with _ _ e _
  injection e with e
  subst e
  exact fn_nox F
end EL


set_option Elab.async false
set_option linter.all false
set_option maxRecDepth 100000
set_option maxHeartbeats 4000000
/-! EL: what a program gives, step by step (for simp): nothing is opened before its turn comes. -/
namespace EL
open PySem L2 PySem.W
section
variable {α β : Type} {lo : Lo} {mh mh1 mh2 : Mh} {ma mb mc me mo mi : EM} {mt mt' : BM} {m m' : SM} {v u w : PV} {f g : Op2}
/-! expressions -/
def gV (o : Option (Option PV)) (mh : Mh) : Res PV := match o with
  | some (some v) => .ok v mh
  | _ => .bad
@[simp] theorem mV_ap (i : Nat) : mV i lo mh = gV lo[i]? mh := by unfold mV gV; rfl
@[simp] theorem gV_some : gV (some (some v)) mh = .ok v mh := rfl
@[simp] theorem mC_ap (x : PyData) : mC x lo mh = .ok (.d x) mh := rfl
def k2b (f : Op2) (v : PV) : PV → Mh → Res PV := fun u mh2 => f v u mh2
def k2a (mb : EM) (f : Op2) (lo : Lo) : PV → Mh → Res PV := fun v mh1 => (mb lo mh1).bind (k2b f v)
@[simp] theorem bind2_ap : bind2 ma mb f lo mh = (ma lo mh).bind (k2a mb f lo) := rfl
@[simp] theorem k2a_ap : k2a mb f lo v mh = (mb lo mh).bind (k2b f v) := rfl
@[simp] theorem k2b_ap : k2b f v u mh = f v u mh := rfl
def kB : PV → Mh → Res Bool := fun v mh1 => match v with
  | .d (.bool b) => .ok b mh1
  | _ => .bad
@[simp] theorem mB_ap : mB ma lo mh = (ma lo mh).bind kB := rfl
@[simp] theorem kB_b (b : Bool) : kB (.d (.bool b)) mh = .ok b mh := rfl
def kTru : PV → Mh → Res Bool := fun v mh1 => match v with
  | .d y => match truD y with
    | some b => .ok b mh1
    | none => .bad
  | _ => .bad
@[simp] theorem mTru_ap : mTru ma lo mh = (ma lo mh).bind kTru := by
  unfold mTru
  congr 1
@[simp] theorem kTru_b (b : Bool) : kTru (.d (.bool b)) mh = .ok b mh := rfl
@[simp] theorem kTru_n : kTru (.d .none) mh = .ok false mh := rfl
def kAnd (mt : BM) (lo : Lo) : Bool → Mh → Res Bool := fun c mh1 => if c = true then mt lo mh1 else .ok false mh1
def kOr (mt : BM) (lo : Lo) : Bool → Mh → Res Bool := fun c mh1 => if c = true then .ok true mh1 else mt lo mh1
@[simp] theorem bAnd_ap : bAnd mt mt' lo mh = (mt lo mh).bind (kAnd mt' lo) := rfl
@[simp] theorem bOr_ap : bOr mt mt' lo mh = (mt lo mh).bind (kOr mt' lo) := rfl
@[simp] theorem kAnd_t : kAnd mt lo true mh = mt lo mh := rfl
@[simp] theorem kAnd_f : kAnd mt lo false mh = .ok false mh := rfl
@[simp] theorem kOr_t : kOr mt lo true mh = .ok true mh := rfl
@[simp] theorem kOr_f : kOr mt lo false mh = mt lo mh := rfl
def kNot : Bool → Mh → Res Bool := fun c mh1 => .ok (!c) mh1
@[simp] theorem bNot_ap : bNot mt lo mh = (mt lo mh).bind kNot := rfl
@[simp] theorem kNot_ap (b : Bool) : kNot b mh = .ok (!b) mh := rfl
@[simp] theorem bYes_ap : bYes lo mh = .ok true mh := rfl
def kEAnd (mb : EM) (lo : Lo) : PV → Mh → Res PV := fun v mh1 => match v with
  | .d (.bool true) => mb lo mh1
  | .d (.bool false) => .ok (.d (.bool false)) mh1
  | _ => .bad
def kEOr (mb : EM) (lo : Lo) : PV → Mh → Res PV := fun v mh1 => match v with
  | .d (.bool true) => .ok (.d (.bool true)) mh1
  | .d (.bool false) => mb lo mh1
  | _ => .bad
@[simp] theorem eAnd_ap : eAnd ma mb lo mh = (ma lo mh).bind (kEAnd mb lo) := rfl
@[simp] theorem eOr_ap : eOr ma mb lo mh = (ma lo mh).bind (kEOr mb lo) := rfl
@[simp] theorem kEAnd_t : kEAnd mb lo (.d (.bool true)) mh = mb lo mh := rfl
@[simp] theorem kEAnd_f : kEAnd mb lo (.d (.bool false)) mh = .ok (.d (.bool false)) mh := rfl
@[simp] theorem kEOr_t : kEOr mb lo (.d (.bool true)) mh = .ok (.d (.bool true)) mh := rfl
@[simp] theorem kEOr_f : kEOr mb lo (.d (.bool false)) mh = mb lo mh := rfl
def kENot : PV → Mh → Res PV := fun v mh1 => match v with
  | .d (.bool b) => .ok (.d (.bool (!b))) mh1
  | _ => .bad
@[simp] theorem eNot_ap : eNot ma lo mh = (ma lo mh).bind kENot := rfl
@[simp] theorem kENot_b (b : Bool) : kENot (.d (.bool b)) mh = .ok (.d (.bool (!b))) mh := rfl
def kNeg : PV → Mh → Res PV := fun v mh1 => match v with
  | .d (.int i) => .ok (.d (.int (-i))) mh1
  | _ => .bad
@[simp] theorem mNeg_ap : mNeg ma lo mh = (ma lo mh).bind kNeg := rfl
@[simp] theorem kNeg_i (i : Int) : kNeg (.d (.int i)) mh = .ok (.d (.int (-i))) mh := rfl
def kIf (ma mb : EM) (lo : Lo) : Bool → Mh → Res PV := fun c mh1 => if c = true then ma lo mh1 else mb lo mh1
@[simp] theorem mIf_ap : mIf mt ma mb lo mh = (mt lo mh).bind (kIf ma mb lo) := rfl
@[simp] theorem kIf_t : kIf ma mb lo true mh = ma lo mh := rfl
@[simp] theorem kIf_f : kIf ma mb lo false mh = mb lo mh := rfl
def kc3 (mc : EM) (g : Op2) (u : PV) (lo : Lo) : PV → Mh → Res PV := fun t mh3 => match t with
  | .d (.bool true) => (mc lo mh3).bind fun w mh4 => g u w mh4
  | .d (.bool false) => .ok (.d (.bool false)) mh3
  | _ => .bad
def kc2 (mc : EM) (f g : Op2) (v : PV) (lo : Lo) : PV → Mh → Res PV := fun u mh2 => (f v u mh2).bind (kc3 mc g u lo)
def kc1 (mb mc : EM) (f g : Op2) (lo : Lo) : PV → Mh → Res PV := fun v mh1 => (mb lo mh1).bind (kc2 mc f g v lo)
@[simp] theorem chain3_ap : chain3 ma mb mc f g lo mh = (ma lo mh).bind (kc1 mb mc f g lo) := rfl
@[simp] theorem kc1_ap : kc1 mb mc f g lo v mh = (mb lo mh).bind (kc2 mc f g v lo) := rfl
@[simp] theorem kc2_ap : kc2 mc f g v lo u mh = (f v u mh).bind (kc3 mc g u lo) := rfl
@[simp] theorem kc3_t : kc3 mc g u lo (.d (.bool true)) mh = (mc lo mh).bind fun w mh4 => g u w mh4 := rfl
@[simp] theorem kc3_f : kc3 mc g u lo (.d (.bool false)) mh = .ok (.d (.bool false)) mh := rfl
/-! rows of expressions -/
variable {mr : AM} {vs : List PV}
def ka2 (v : PV) : List PV → Mh → Res (List PV) := fun vs mh2 => .ok (v :: vs) mh2
def ka1 (mr : AM) (lo : Lo) : PV → Mh → Res (List PV) := fun v mh1 => (mr lo mh1).bind (ka2 v)
@[simp] theorem aNil_ap : aNil lo mh = .ok [] mh := rfl
@[simp] theorem aCons_ap : aCons ma mr lo mh = (ma lo mh).bind (ka1 mr lo) := rfl
@[simp] theorem ka1_ap : ka1 mr lo v mh = (mr lo mh).bind (ka2 v) := rfl
@[simp] theorem ka2_ap : ka2 v vs mh = .ok (v :: vs) mh := rfl
def kTup : List PV → Mh → Res PV := fun vs mh1 => if vs.length ≤ sizeLine then (match allD vs with
  | some ds => .ok (.d (.tuple ds)) mh1
  | none => .ok (.tup vs) mh1) else .bad
@[simp] theorem mTup_ap : mTup mr lo mh = (mr lo mh).bind kTup := rfl
theorem sz {n : Nat} (h : n ≤ 16777216) : n ≤ sizeLine := by rw [sizeLine_eq]; exact h
theorem kTup_d {ds : List PyData} (h : ds.length ≤ 16777216) : kTup (ds.map .d) mh = .ok (.d (.tuple ds)) mh := by
  unfold kTup
  rw [if_pos (sz (by simpa using h)), allD_map]
@[simp] theorem kTup_0 : kTup [] mh = .ok (.d (.tuple [])) mh := rfl
@[simp] theorem kTup_1 (a : PyData) : kTup [.d a] mh = .ok (.d (.tuple [a])) mh := rfl
@[simp] theorem kTup_2 (a b : PyData) : kTup [.d a, .d b] mh = .ok (.d (.tuple [a, b])) mh := rfl
@[simp] theorem kTup_3 (a b c : PyData) : kTup [.d a, .d b, .d c] mh = .ok (.d (.tuple [a, b, c])) mh := rfl
@[simp] theorem kTup_4 (a b c d : PyData) : kTup [.d a, .d b, .d c, .d d] mh = .ok (.d (.tuple [a, b, c, d])) mh := rfl
@[simp] theorem kTup_5 (a b c d e : PyData) : kTup [.d a, .d b, .d c, .d d, .d e] mh = .ok (.d (.tuple [a, b, c, d, e])) mh := rfl
/-! lists -/
@[simp] theorem mFrz_ap : mFrz mr lo mh = (mr lo mh).bind frzL := rfl
@[simp] theorem mObj_ap : mObj mr lo mh = (mr lo mh).bind objL := rfl
@[simp] theorem frzL_d (ds : List PyData) : frzL (ds.map .d) mh = .ok (.d (.list ds)) mh := by unfold frzL; rw [allD_map]
theorem frzL_f {γ : Type} (h : γ → PyData) (l : List γ) : frzL (l.map fun x => .d (h x)) mh = .ok (.d (.list (l.map h))) mh := by unfold frzL; rw [allD_map']
@[simp] theorem frzL_0 : frzL [] mh = .ok (.d (.list [])) mh := rfl
@[simp] theorem frzL_1 (a : PyData) : frzL [.d a] mh = .ok (.d (.list [a])) mh := rfl
@[simp] theorem frzL_2 (a b : PyData) : frzL [.d a, .d b] mh = .ok (.d (.list [a, b])) mh := rfl
@[simp] theorem frzL_3 (a b c : PyData) : frzL [.d a, .d b, .d c] mh = .ok (.d (.list [a, b, c])) mh := rfl
@[simp] theorem objL_ap {l : List PV} : objL l mh = .ok (.ref mh.length) (mh ++ [.lst l]) := rfl
def kDisp : List PV → Mh → Res (List PV) := fun vs mh1 => if vs.length ≤ sizeLine then .ok vs mh1 else .bad
@[simp] theorem lDisp_ap : lDisp mr lo mh = (mr lo mh).bind kDisp := rfl
theorem kDisp_ok {l : List PV} (h : l.length ≤ 16777216) : kDisp l mh = .ok l mh := if_pos (sz h)
@[simp] theorem kDisp_0 : kDisp [] mh = .ok [] mh := rfl
@[simp] theorem kDisp_1 : kDisp [v] mh = .ok [v] mh := rfl
@[simp] theorem kDisp_2 : kDisp [v, u] mh = .ok [v, u] mh := rfl
@[simp] theorem kDisp_3 : kDisp [v, u, w] mh = .ok [v, u, w] mh := rfl
def kList : PV → Mh → Res (List PV) := fun v mh1 => match seqOf mh1 v with
  | some l => .ok l mh1
  | none => .bad
@[simp] theorem lList_ap : lList ma lo mh = (ma lo mh).bind kList := rfl
@[simp] theorem kList_t (ds : List PyData) : kList (.d (.tuple ds)) mh = .ok (ds.map .d) mh := rfl
@[simp] theorem kList_l (ds : List PyData) : kList (.d (.list ds)) mh = .ok (ds.map .d) mh := rfl
open Classical in
noncomputable def kSrt : PV → Mh → Res (List PV) := fun v mh1 => match itemsD mh1 v with
  | some ds => if srtOk ds then .ok ((mSrt ds).map .d) mh1 else .bad
  | none => .bad
@[simp] theorem lSrt_ap : lSrt ma lo mh = (ma lo mh).bind kSrt := rfl
theorem kSrt_t {ds : List PyData} (h : srtOk ds) : kSrt (.d (.tuple ds)) mh = .ok ((mSrt ds).map .d) mh := by
  unfold kSrt
  have e : itemsD mh (.d (.tuple ds)) = some ds := by unfold itemsD seqOf listOf tupOf; simp
  rw [e]; exact if_pos h
theorem kSrt_l {ds : List PyData} (h : srtOk ds) : kSrt (.d (.list ds)) mh = .ok ((mSrt ds).map .d) mh := by
  unfold kSrt
  have e : itemsD mh (.d (.list ds)) = some ds := by unfold itemsD seqOf listOf; simp
  rw [e]; exact if_pos h
def kSrtSet : PV → Mh → Res (List PV) := fun v mh1 => match listOf mh1 v with
  | some l => match allD l with
    | some ds => match prsOf ds with
      | some ps => if ps.length < 64 then .ok ((srtP ps).map fun p => .d (prD p)) mh1 else .bad
      | none => .bad
    | none => .bad
  | none => .bad
@[simp] theorem lSrtSet_ap : lSrtSet ma lo mh = (ma lo mh).bind kSrtSet := rfl
theorem kSrtSet_l {ds : List PyData} {ps : List (Int × Int)} (h : prsOf ds = some ps) (hl : ps.length < 64) : kSrtSet (.d (.list ds)) mh = .ok ((srtP ps).map fun p => .d (prD p)) mh := by
  unfold kSrtSet listOf
  dsimp only
  rw [allD_map]; dsimp only; rw [h]; exact if_pos hl
/-! calls -/
@[simp] theorem mCB_ap (op : OpN) : mCB op mr lo mh = (mr lo mh).bind op := rfl
noncomputable def kCall (n : Nat) (mf : FM) : List PV → Mh → Res PV := fun vs mh1 => if vs.length = n then EL.drop mh1 (mf vs mh1) else .bad
@[simp] theorem mCall_ap (n : Nat) (mf : FM) : mCall n mf mr lo mh = (mr lo mh).bind (kCall n mf) := rfl
/-- a call whose result and heap are told -/
theorem kCall_ok {n : Nat} {mf : FM} (hn : vs.length = n) {gb : List MO} {v w : PV} (h : mf vs mh = .ok v (mh ++ gb)) (hf : frz mh.length (mh ++ gb) v = some w) : kCall n mf vs mh = .ok w mh := by
  unfold kCall
  rw [if_pos hn, h]
  exact drop_ok hf
theorem kCall_d {n : Nat} {mf : FM} (hn : vs.length = n) {gb : List MO} {x : PyData} (h : mf vs mh = .ok (.d x) (mh ++ gb)) : kCall n mf vs mh = .ok (.d x) mh := kCall_ok hn h (by simp [frz])
theorem kCall_d0 {n : Nat} {mf : FM} (hn : vs.length = n) {x : PyData} (h : mf vs mh = .ok (.d x) mh) : kCall n mf vs mh = .ok (.d x) mh := kCall_d (gb := []) hn (by simpa using h)
theorem kCall_x {n : Nat} {mf : FM} (hn : vs.length = n) {gb : List MO} {c : Nat} (h : mf vs mh = .exc c (mh ++ gb)) : kCall n mf vs mh = .exc c mh := by
  unfold kCall
  rw [if_pos hn, h]
  simp [EL.drop]
def kIsi (T : String) : PV → Mh → Res PV := fun v mh1 => match pvTy mh1 v with
  | some t => .ok (.d (.bool (tyIs T t))) mh1
  | none => .bad
@[simp] theorem mIsi_ap (T : String) : mIsi T me lo mh = (me lo mh).bind (kIsi T) := rfl
/-- a value's type, by name -/
def pdTy : PyData → String
  | .none => "NoneType"
  | .bool _ => "bool"
  | .int _ => "int"
  | .str _ => "str"
  | .list _ => "list"
  | .tuple _ => "tuple"
  | .dict _ => ""
def isInt : PyData → Bool
  | .int _ => true
  | .bool _ => true
  | _ => false
def isBool : PyData → Bool
  | .bool _ => true
  | _ => false
def isStr : PyData → Bool
  | .str _ => true
  | _ => false
def isTup : PyData → Bool
  | .tuple _ => true
  | _ => false
def isDic : PyData → Bool
  | .dict _ => true
  | _ => false
theorem kIsi_int {x : PyData} (h : isDic x = false) : kIsi "int" (.d x) mh = .ok (.d (.bool (isInt x))) mh := by cases x <;> first | rfl | cases h
theorem kIsi_bool {x : PyData} (h : isDic x = false) : kIsi "bool" (.d x) mh = .ok (.d (.bool (isBool x))) mh := by cases x <;> first | rfl | cases h
theorem kIsi_str {x : PyData} (h : isDic x = false) : kIsi "str" (.d x) mh = .ok (.d (.bool (isStr x))) mh := by cases x <;> first | rfl | cases h
theorem kIsi_tup {x : PyData} (h : isDic x = false) : kIsi "tuple" (.d x) mh = .ok (.d (.bool (isTup x))) mh := by cases x <;> first | rfl | cases h
def kBM2 (op : OpM) (v : PV) : List PV → Mh → Res PV := fun vs mh2 => op v vs mh2
def kBM (T : String) (op : OpM) (mr : AM) (lo : Lo) : PV → Mh → Res PV := fun v mh1 => if tyM mh1 T v = true then (mr lo mh1).bind (kBM2 op v) else .bad
@[simp] theorem mBM_ap (T : String) (op : OpM) : mBM T op mo mr lo mh = (mo lo mh).bind (kBM T op mr lo) := rfl
theorem kBM_ap (T : String) (op : OpM) : kBM T op mr lo v mh = if tyM mh T v = true then (mr lo mh).bind (kBM2 op v) else .bad := rfl
@[simp] theorem kBM2_ap (op : OpM) : kBM2 op v vs mh = op v vs mh := rfl
def kAttr (cs : List Nat) (f : Str) : PV → Mh → Res PV := fun v mh1 => match v with
  | .ref n => match mh1[n]? with
    | some (.ins c fs) => if c ∈ cs then (match fs.lookup f with
      | some w => .ok w mh1
      | none => .bad) else .bad
    | _ => .bad
  | _ => .bad
@[simp] theorem mAttr_ap (cs : List Nat) (f : Str) : mAttr cs f mo lo mh = (mo lo mh).bind (kAttr cs f) := rfl
theorem kAttr_ok {cs : List Nat} {n c : Nat} {fs : List (Str × PV)} {a : Str} (h : mh[n]? = some (.ins c fs)) (hc : c ∈ cs) (hf : fs.lookup a = some w) : kAttr cs a (.ref n) mh = .ok w mh := by
  unfold kAttr
  dsimp only
  rw [h]; dsimp only; rw [if_pos hc, hf]
noncomputable def kMeth2 (n j : Nat) (mf : FM) : List PV → Mh → Res PV := fun vs mh2 => if vs.length + 1 = n then EL.drop mh2 (mf (.ref j :: vs) mh2) else .bad
noncomputable def kMeth (c n : Nat) (m : Str) (mf : FM) (ma : AM) (lo : Lo) : PV → Mh → Res PV := fun v mh1 => match v with
  | .ref j => match mh1[j]? with
    | some (.ins c' fs) => if c' = c ∧ (fs.lookup m).isNone = true then (ma lo mh1).bind (kMeth2 n j mf) else .bad
    | _ => .bad
  | _ => .bad
@[simp] theorem mMeth_ap (c n : Nat) (m : Str) (mf : FM) : mMeth c n m mf mo mr lo mh = (mo lo mh).bind (kMeth c n m mf mr lo) := rfl
theorem kMeth_ok {c n j : Nat} {m : Str} {mf : FM} {fs : List (Str × PV)} (h : mh[j]? = some (.ins c fs)) (hf : (fs.lookup m).isNone = true) : kMeth c n m mf mr lo (.ref j) mh = (mr lo mh).bind (kMeth2 n j mf) := by
  unfold kMeth
  dsimp only
  rw [h]; exact if_pos ⟨rfl, hf⟩
theorem kMeth2_ok {n j : Nat} {mf : FM} (hn : vs.length + 1 = n) {gb : List MO} {v w : PV} (h : mf (.ref j :: vs) mh = .ok v (mh ++ gb)) (hf : frz mh.length (mh ++ gb) v = some w) : kMeth2 n j mf vs mh = .ok w mh := by
  unfold kMeth2
  rw [if_pos hn, h]
  exact drop_ok hf
theorem kMeth2_d {n j : Nat} {mf : FM} (hn : vs.length + 1 = n) {gb : List MO} {x : PyData} (h : mf (.ref j :: vs) mh = .ok (.d x) (mh ++ gb)) : kMeth2 n j mf vs mh = .ok (.d x) mh := kMeth2_ok hn h (by simp [frz])
def kNew (c n : Nat) (mf : FM) : List PV → Mh → Res PV := fun vs mh1 => if vs.length + 1 = n then mkNew c mf vs mh1 else .bad
@[simp] theorem mNew_ap (c n : Nat) (mf : FM) : mNew c n mf mr lo mh = (mr lo mh).bind (kNew c n mf) := rfl
def kTabIn (b : Bool) (tab : List (Str × Int)) : PV → Mh → Res PV := fun v mh1 => match v with
  | .d (.str z) => .ok (.d (.bool ((tab.lookup z).isSome == b))) mh1
  | _ => .bad
def kTabIx (tab : List (Str × Int)) : PV → Mh → Res PV := fun v mh1 => match v with
  | .d (.str z) => match tab.lookup z with
    | some i => .ok (.d (.int i)) mh1
    | none => .bad
  | _ => .bad
@[simp] theorem mTabIn_ap (b : Bool) (tab : List (Str × Int)) : mTabIn b tab me lo mh = (me lo mh).bind (kTabIn b tab) := rfl
@[simp] theorem mTabIx_ap (tab : List (Str × Int)) : mTabIx tab me lo mh = (me lo mh).bind (kTabIx tab) := rfl
@[simp] theorem kTabIn_ap (b : Bool) (tab : List (Str × Int)) (z : Str) : kTabIn b tab (.d (.str z)) mh = .ok (.d (.bool ((tab.lookup z).isSome == b))) mh := rfl
theorem kTabIx_ok {tab : List (Str × Int)} {z : Str} {i : Int} (h : tab.lookup z = some i) : kTabIx tab (.d (.str z)) mh = .ok (.d (.int i)) mh := by unfold kTabIx; dsimp only; rw [h]
/-! slices -/
def kO : PV → Mh → Res (Option Int) := fun v mh1 => match v with
  | .d (.int i) => .ok (some i) mh1
  | _ => .bad
@[simp] theorem pNo_ap : pNo lo mh = .ok none mh := rfl
@[simp] theorem pSome_ap : pSome ma lo mh = (ma lo mh).bind kO := rfl
@[simp] theorem kO_ap (i : Int) : kO (.d (.int i)) mh = .ok (some i) mh := rfl
variable {ml mu : PM}
def kSl3 (v : PV) (l : Option Int) : Option Int → Mh → Res PV := fun h mh3 => match v with
  | .d (.tuple ds) => .ok (.d (.tuple (cutP ds l h))) mh3
  | .scr ns => .ok (.d (.list (cutP (ns.map .int) l h))) mh3
  | _ => match listOf mh3 v with
    | some xs => frzL (cutP xs l h) mh3
    | none => .bad
def kSl2 (mu : PM) (v : PV) (lo : Lo) : Option Int → Mh → Res PV := fun l mh2 => (mu lo mh2).bind (kSl3 v l)
def kSl1 (ml mu : PM) (lo : Lo) : PV → Mh → Res PV := fun v mh1 => (ml lo mh1).bind (kSl2 mu v lo)
@[simp] theorem mSl_ap : mSl ma ml mu lo mh = (ma lo mh).bind (kSl1 ml mu lo) := rfl
@[simp] theorem kSl1_ap : kSl1 ml mu lo v mh = (ml lo mh).bind (kSl2 mu v lo) := rfl
@[simp] theorem kSl2_ap (l : Option Int) : kSl2 mu v lo l mh = (mu lo mh).bind (kSl3 v l) := rfl
@[simp] theorem kSl3_t (ds : List PyData) (l h : Option Int) : kSl3 (.d (.tuple ds)) l h mh = .ok (.d (.tuple (cutP ds l h))) mh := rfl
@[simp] theorem kSl3_s (ns : List Int) (l h : Option Int) : kSl3 (.scr ns) l h mh = .ok (.d (.list (cutP (ns.map .int) l h))) mh := rfl
@[simp] theorem kSl3_l (ds : List PyData) (l h : Option Int) : kSl3 (.d (.list ds)) l h mh = .ok (.d (.list (cutP ds l h))) mh := by
  unfold kSl3 listOf
  dsimp only
  rw [cutP_map, frzL_d]
theorem kSl3_r {n : Nat} {xs : List PV} (l h : Option Int) (e : mh[n]? = some (.lst xs)) : kSl3 (.ref n) l h mh = frzL (cutP xs l h) mh := by
  unfold kSl3 listOf
  dsimp only
  rw [e]
/-! statements -/
variable {sr : SR}
def sq (m' : SM) : SR → SR
  | .nx lo' mh' => m' lo' mh'
  | r => r
@[simp] theorem sNil_ap : sNil lo mh = .nx lo mh := rfl
@[simp] theorem sSeq_ap : sSeq m m' lo mh = sq m' (m lo mh) := by unfold sSeq sq; cases m lo mh <;> rfl
@[simp] theorem sq_nx : sq m' (.nx lo mh) = m' lo mh := rfl
@[simp] theorem sq_rt : sq m' (.rt v mh) = .rt v mh := rfl
@[simp] theorem sq_bk : sq m' (.bk lo mh) = .bk lo mh := rfl
@[simp] theorem sq_ct : sq m' (.ct lo mh) = .ct lo mh := rfl
@[simp] theorem sq_exc (c : Nat) : sq m' (.exc c mh) = .exc c mh := rfl
@[simp] theorem sq_bad : sq m' .bad = .bad := rfl
@[simp] theorem sBrk_ap : sBrk lo mh = .bk lo mh := rfl
@[simp] theorem sCnt_ap : sCnt lo mh = .ct lo mh := rfl
@[simp] theorem sRetN_ap : sRetN lo mh = .rt (.d .none) mh := rfl
@[simp] theorem sRaise_ap (c : Nat) : sRaise c lo mh = .exc c mh := rfl
def kX (lo : Lo) : PV → Mh → SR := fun _ mh1 => .nx lo mh1
@[simp] theorem sExpr_ap : sExpr me lo mh = ofR (me lo mh) (kX lo) := rfl
@[simp] theorem kX_ap : kX lo v mh = .nx lo mh := rfl
@[simp] theorem sRet_ap : sRet me lo mh = ofR (me lo mh) .rt := rfl
def kSIf (m m' : SM) (lo : Lo) : Bool → Mh → SR := fun b mh1 => if b = true then m lo mh1 else m' lo mh1
@[simp] theorem sIf_ap : sIf mt m m' lo mh = ofR (mt lo mh) (kSIf m m' lo) := rfl
@[simp] theorem kSIf_t : kSIf m m' lo true mh = m lo mh := rfl
@[simp] theorem kSIf_f : kSIf m m' lo false mh = m' lo mh := rfl
def kSet (i : Nat) (lo : Lo) : PV → Mh → SR := fun v mh1 => .nx (lo.set i (some v)) mh1
@[simp] theorem sSet_ap (i : Nat) : sSet i me lo mh = ofR (me lo mh) (kSet i lo) := rfl
@[simp] theorem kSet_ap (i : Nat) : kSet i lo v mh = .nx (lo.set i (some v)) mh := rfl
def nxO (o : Option Lo) (mh : Mh) : SR := match o with
  | some lo => .nx lo mh
  | none => .bad
@[simp] theorem nxO_some : nxO (some lo) mh = .nx lo mh := rfl
def kTg (t : Tg) (lo : Lo) : PV → Mh → SR := fun v mh1 => nxO ((tgt t v).map (upL lo)) mh1
@[simp] theorem sTg_ap (t : Tg) : sTg t me lo mh = ofR (me lo mh) (kTg t lo) := by
  unfold sTg kTg nxO
  congr 1
  funext v mh1
  cases tgt t v <;> rfl
@[simp] theorem kTg_ap (t : Tg) : kTg t lo v mh = nxO ((tgt t v).map (upL lo)) mh := rfl
def kPar (is : List Nat) (lo : Lo) : List PV → Mh → SR := fun vs mh1 => if vs.length = is.length then .nx (upL lo (is.zip vs)) mh1 else .bad
@[simp] theorem sPar_ap (is : List Nat) : sPar is mr lo mh = ofR (mr lo mh) (kPar is lo) := rfl
@[simp] theorem kPar_2 (i j : Nat) : kPar [i, j] lo [v, u] mh = .nx ((lo.set i (some v)).set j (some u)) mh := rfl
@[simp] theorem kPar_3 (i j k : Nat) : kPar [i, j, k] lo [v, u, w] mh = .nx (((lo.set i (some v)).set j (some u)).set k (some w)) mh := rfl
@[simp] theorem upL_nil : upL lo [] = lo := rfl
@[simp] theorem upL_cons (i : Nat) (r : List (Nat × PV)) : upL lo ((i, v) :: r) = upL (lo.set i (some v)) r := rfl
@[simp] theorem tgt_nm (i : Nat) : tgt (.nm i) v = some [(i, v)] := rfl
/-- a tuple taken apart -/
@[simp] theorem tgt_2 (i j : Nat) (a b : PyData) : tgt (.tp [.nm i, .nm j]) (.d (.tuple [a, b])) = some [(i, .d a), (j, .d b)] := by simp [tgt, tgts, tupOf]
@[simp] theorem tgt_3 (i j k : Nat) (a b c : PyData) : tgt (.tp [.nm i, .nm j, .nm k]) (.d (.tuple [a, b, c])) = some [(i, .d a), (j, .d b), (k, .d c)] := by simp [tgt, tgts, tupOf]
@[simp] theorem tgt_p2 (i j : Nat) (a b : PV) : tgt (.tp [.nm i, .nm j]) (.tup [a, b]) = some [(i, a), (j, b)] := by simp [tgt, tgts, tupOf]
@[simp] theorem sFor_ap (mi : IM) (t : Tg) : sFor mi t m lo mh = ofR (mi lo mh) fun lg mh1 => forL lg.2 t m lg.1 lo mh1 := rfl
def trR (hd : List (Nat × Str)) : SR → SR
  | .exc c mh' => match hdL hd c with
    | some z => .rt (.d (.str z)) mh'
    | none => .exc c mh'
  | r => r
@[simp] theorem sTry_ap (hd : List (Nat × Str)) : sTry hd m lo mh = trR hd (m lo mh) := by unfold sTry trR; cases m lo mh <;> rfl
@[simp] theorem trR_nx (hd : List (Nat × Str)) : trR hd (.nx lo mh) = .nx lo mh := rfl
@[simp] theorem trR_rt (hd : List (Nat × Str)) : trR hd (.rt v mh) = .rt v mh := rfl
def grR (cs : List Nat) : SR → SR
  | .exc c mh' => if c ∈ cs then .exc c mh' else .bad
  | r => r
@[simp] theorem grd_ap (cs : List Nat) : grd cs m lo mh = grR cs (m lo mh) := by unfold grd grR; cases m lo mh <;> rfl
@[simp] theorem grR_nx (cs : List Nat) : grR cs (.nx lo mh) = .nx lo mh := rfl
@[simp] theorem grR_rt (cs : List Nat) : grR cs (.rt v mh) = .rt v mh := rfl
/-! what is gone through -/
def kSeq : PV → Mh → Res (List PV × (Mh → Prop)) := fun v mh1 => match v with
  | .d (.list ds) => .ok (ds.map .d, always) mh1
  | .d (.tuple ds) => .ok (ds.map .d, always) mh1
  | .tup l => .ok (l, always) mh1
  | .ref n => match mh1[n]? with
    | some (.lst l) => .ok (l, fun mh => mh[n]? = some (.lst l)) mh1
    | _ => .bad
  | .d (.str z) => .ok (signs z, always) mh1
  | _ => .bad
@[simp] theorem iSeq_ap : iSeq ma lo mh = (ma lo mh).bind kSeq := rfl
@[simp] theorem kSeq_l (ds : List PyData) : kSeq (.d (.list ds)) mh = .ok (ds.map .d, always) mh := rfl
@[simp] theorem kSeq_t (ds : List PyData) : kSeq (.d (.tuple ds)) mh = .ok (ds.map .d, always) mh := rfl
@[simp] theorem kSeq_s (z : Str) : kSeq (.d (.str z)) mh = .ok (signs z, always) mh := rfl
def kEnum : PV → Mh → Res (List PV × (Mh → Prop)) := fun v mh1 => match v with
  | .d (.tuple ds) => .ok (enumP (ds.map .d), always) mh1
  | _ => .bad
@[simp] theorem iEnum_ap : iEnum ma lo mh = (ma lo mh).bind kEnum := rfl
@[simp] theorem kEnum_t (ds : List PyData) : kEnum (.d (.tuple ds)) mh = .ok (enumP (ds.map .d), always) mh := rfl
def kRg1 : List PV → Mh → Res (List PV × (Mh → Prop)) := fun vs mh1 => match vs with
  | [.d (.int j)] => if big j then .ok (intsP 0 j.toNat, always) mh1 else .bad
  | _ => .bad
@[simp] theorem iRg1_ap : iRg1 mr lo mh = (mr lo mh).bind kRg1 := rfl
theorem kRg1_ok {j : Int} (h : big j) : kRg1 [.d (.int j)] mh = .ok (intsP 0 j.toNat, always) mh := if_pos h
def kRg2 : List PV → Mh → Res (List PV × (Mh → Prop)) := fun vs mh1 => match vs with
  | [.d (.int i), .d (.int j)] => if big i ∧ big j then .ok (intsP i (j - i).toNat, always) mh1 else .bad
  | _ => .bad
@[simp] theorem iRg2_ap : iRg2 mr lo mh = (mr lo mh).bind kRg2 := rfl
theorem kRg2_ok {i j : Int} (h : big i ∧ big j) : kRg2 [.d (.int i), .d (.int j)] mh = .ok (intsP i (j - i).toNat, always) mh := if_pos h
def kZip : List PV → Mh → Res (List PV × (Mh → Prop)) := fun vs mh1 => match vs with
  | [.d (.list xs), .d (.list ys)] => .ok (zipP (xs.map .d) (ys.map .d), always) mh1
  | [.d (.tuple xs), .d (.tuple ys)] => .ok (zipP (xs.map .d) (ys.map .d), always) mh1
  | _ => .bad
@[simp] theorem iZip_ap : iZip mr lo mh = (mr lo mh).bind kZip := rfl
@[simp] theorem kZip_l (xs ys : List PyData) : kZip [.d (.list xs), .d (.list ys)] mh = .ok (zipP (xs.map .d) (ys.map .d), always) mh := rfl
@[simp] theorem kZip_t (xs ys : List PyData) : kZip [.d (.tuple xs), .d (.tuple ys)] mh = .ok (zipP (xs.map .d) (ys.map .d), always) mh := rfl
def kLen : List PV → Mh → Res (List PV) := fun ys mh2 => if ys.length ≤ sizeLine then .ok ys mh2 else .bad
theorem kLen_ok {l : List PV} (h : l.length ≤ 16777216) : kLen l mh = .ok l mh := if_pos (sz h)
noncomputable def kLC (t : Tg) (mt : BM) (me : EM) (lo0 : Lo) : (List PV × (Mh → Prop)) → Mh → Res (List PV) := fun lg mh1 => (lcL lg.2 t mt me lo0 lg.1 mh1).bind kLen
@[simp] theorem mLC_ap (mi : IM) (t : Tg) (is : List Nat) : mLC mi t mt me is lo mh = (mi lo mh).bind (kLC t mt me (wipeL lo is)) := rfl
@[simp] theorem kLC_ap (t : Tg) (l : List PV) (gg : Mh → Prop) : kLC t mt me lo (l, gg) mh = (lcL gg t mt me lo l mh).bind kLen := rfl
@[simp] theorem wipeL_nil : wipeL lo [] = lo := rfl
@[simp] theorem wipeL_cons (i : Nat) (is : List Nat) : wipeL lo (i :: is) = (wipeL lo is).set i none := rfl
end
end EL


set_option Elab.async false
set_option linter.all false
set_option maxRecDepth 100000
set_option maxHeartbeats 4000000
/-! EL: what operators give by values; loops and comprehensions as wholes. -/
namespace EL
open PySem L2 PySem.W
section
variable {lo : Lo} {mh mh1 mh2 : Mh} {v u w : PV}
/-! operators -/
@[simp] theorem oI_ap (g : Int → Int → Option PyData) (i j : Int) : oI g (.d (.int i)) (.d (.int j)) mh = (match g i j with | some x => .ok (.d x) mh | none => .bad) := rfl
@[simp] theorem oAddI_ap (i j : Int) : oAddI (.d (.int i)) (.d (.int j)) mh = .ok (.d (.int (i + j))) mh := rfl
@[simp] theorem oSubI_ap (i j : Int) : oSubI (.d (.int i)) (.d (.int j)) mh = .ok (.d (.int (i - j))) mh := rfl
@[simp] theorem oAdd_i (i j : Int) : oAdd (.d (.int i)) (.d (.int j)) mh = .ok (.d (.int (i + j))) mh := rfl
theorem oMul_i {i j : Int} (h : CMul i j) : oMul (.d (.int i)) (.d (.int j)) mh = .ok (.d (.int (i * j))) mh := by
  unfold oMul alt2 oMulI
  rw [oI_ap, if_pos h]
theorem oDivI_ok {i j : Int} (h : CDiv i j) : oDivI (.d (.int i)) (.d (.int j)) mh = .ok (.d (.int (i / j))) mh := by
  unfold oDivI
  rw [oI_ap, if_pos h]
theorem oModI_ok {i j : Int} (h : 0 < j) : oModI (.d (.int i)) (.d (.int j)) mh = .ok (.d (.int (i % j))) mh := by
  unfold oModI
  rw [oI_ap, if_pos h]
theorem oPowI_ok {i j : Int} (h : CPow i j) : oPowI (.d (.int i)) (.d (.int j)) mh = .ok (.d (.int (i ^ j.toNat))) mh := by
  unfold oPowI
  rw [oI_ap, if_pos h]
@[simp] theorem oLtI_ap (i j : Int) : oLtI (.d (.int i)) (.d (.int j)) mh = .ok (.d (.bool (decide (i < j)))) mh := rfl
@[simp] theorem oLeI_ap (i j : Int) : oLeI (.d (.int i)) (.d (.int j)) mh = .ok (.d (.bool (decide (i ≤ j)))) mh := rfl
@[simp] theorem oGtI_ap (i j : Int) : oGtI (.d (.int i)) (.d (.int j)) mh = .ok (.d (.bool (decide (j < i)))) mh := rfl
@[simp] theorem oGeI_ap (i j : Int) : oGeI (.d (.int i)) (.d (.int j)) mh = .ok (.d (.bool (decide (j ≤ i)))) mh := rfl
@[simp] theorem oLt_i (i j : Int) : oLt (.d (.int i)) (.d (.int j)) mh = .ok (.d (.bool (decide (i < j)))) mh := rfl
theorem oLt_d {x y : PyData} (h : alike x y = true) (hn : isNn x = false) (hd : min x.depth y.depth ≤ 64) (hi : oLtI (.d x) (.d y) mh = .bad) : oLt (.d x) (.d y) mh = .ok (.d (.bool (dataLt x y))) mh := by
  unfold oLt alt2
  rw [hi]
  unfold oLtD
  rw [dataOf_d, dataOf_d]
  exact if_pos ⟨h, hn, hd⟩
theorem oCat_t {x y : List PyData} (h : x.length + y.length ≤ 16777216) : oAdd (.d (.tuple x)) (.d (.tuple y)) mh = .ok (.d (.tuple (x ++ y))) mh := by
  show (if x.length + y.length ≤ sizeLine then Res.ok (PV.d (.tuple (x ++ y))) mh else .bad) |> fun r => (match r with | .bad => alt2 oCatL oAddT (.d (.tuple x)) (.d (.tuple y)) mh | r => r) = _
  rw [if_pos (sz h)]
theorem oCat_l {x y : List PyData} (h : x.length + y.length ≤ 16777216) : oAdd (.d (.list x)) (.d (.list y)) mh = .ok (.d (.list (x ++ y))) mh := by
  have e : oCatL (.d (.list x)) (.d (.list y)) mh = .ok (.d (.list (x ++ y))) mh := by
    unfold oCatL catL listOf
    dsimp only
    rw [if_pos (by rw [List.length_map, List.length_map]; exact sz h)]
    dsimp only
    rw [← List.map_append, frzL_d]
  show (match oCatL (.d (.list x)) (.d (.list y)) mh with | .bad => oAddT (.d (.list x)) (.d (.list y)) mh | r => r) = _
  rw [e]
@[simp] theorem oEq_ap (x y : PyData) : oEq (.d x) (.d y) mh = if min x.depth y.depth ≤ 64 then .ok (.d (.bool (PyData.eqv x y))) mh else .bad := by
  unfold oEq oD
  rw [dataOf_d, dataOf_d]
  by_cases h : min x.depth y.depth ≤ 64 <;> simp [h]
@[simp] theorem oNe_ap (x y : PyData) : oNe (.d x) (.d y) mh = if min x.depth y.depth ≤ 64 then .ok (.d (.bool (!PyData.eqv x y))) mh else .bad := by
  unfold oNe oD
  rw [dataOf_d, dataOf_d]
  by_cases h : min x.depth y.depth ≤ 64 <;> simp [h]
theorem oIn_l {x : PyData} {ys : List PyData} (h : min (PyData.depthAll ys) x.depth ≤ 64) : oIn (.d x) (.d (.list ys)) mh = .ok (.d (.bool (ys.any fun z => PyData.eqv z x))) mh := by
  unfold oIn alt2 oInS oD
  rw [dataOf_d, dataOf_d]
  unfold inSeq seqItems
  dsimp only
  rw [if_pos h]; rfl
theorem oIn_t {x : PyData} {ys : List PyData} (h : min (PyData.depthAll ys) x.depth ≤ 64) : oIn (.d x) (.d (.tuple ys)) mh = .ok (.d (.bool (ys.any fun z => PyData.eqv z x))) mh := by
  unfold oIn alt2 oInS oD
  rw [dataOf_d, dataOf_d]
  unfold inSeq seqItems
  dsimp only
  rw [if_pos h]; rfl
theorem oNin_l {x : PyData} {ys : List PyData} (h : min (PyData.depthAll ys) x.depth ≤ 64) : oNin (.d x) (.d (.list ys)) mh = .ok (.d (.bool (!(ys.any fun z => PyData.eqv z x)))) mh := by
  unfold oNin alt2 oNinS oD
  rw [dataOf_d, dataOf_d]
  unfold inSeq seqItems
  dsimp only
  rw [if_pos h]; rfl
theorem oNin_t {x : PyData} {ys : List PyData} (h : min (PyData.depthAll ys) x.depth ≤ 64) : oNin (.d x) (.d (.tuple ys)) mh = .ok (.d (.bool (!(ys.any fun z => PyData.eqv z x)))) mh := by
  unfold oNin alt2 oNinS oD
  rw [dataOf_d, dataOf_d]
  unfold inSeq seqItems
  dsimp only
  rw [if_pos h]; rfl
@[simp] theorem oIn_s (c : Nat) (z : Str) : oIn (.d (.str ⟨#[c]⟩)) (.d (.str z)) mh = .ok (.d (.bool (decide (c ∈ z.cps.toList)))) mh := by
  unfold oIn alt2 oInS oD
  rw [dataOf_d, dataOf_d]
  simp [inSeq, seqItems, oDin, dOf, oInT]
@[simp] theorem isNone_ap (neg : Bool) : isNone neg v (.d .none) mh = .ok (.d (.bool (neg ^^ pvNone v))) mh := rfl
theorem atI_nn {α : Type} {l : List α} {i : Nat} : atI l (i : Int) = l[i]? := by
  unfold atI ixN
  rw [if_pos (by omega)]
  by_cases h : i < l.length
  · rw [if_pos (by omega)]; simp
  · rw [if_neg (by omega)]; simp [List.getElem?_eq_none (by omega : l.length ≤ i)]
theorem oIx_dt {ds : List PyData} {i : Int} {x : PyData} (h : atI ds i = some x) : oIxA (.d (.tuple ds)) (.d (.int i)) mh = .ok (.d x) mh := by
  have e : atI (ds.map PV.d) i = some (.d x) := by
    unfold atI at h ⊢
    rw [List.length_map]
    cases k : ixN ds.length i with
    | none => rw [k] at h; cases h
    | some j => rw [k] at h; simp only [Option.bind_some] at h ⊢; rw [List.getElem?_map, h]; rfl
  unfold oIxA alt2 oIx seqOf listOf tupOf
  dsimp only
  rw [e]
theorem oIx_dl {ds : List PyData} {i : Int} {x : PyData} (h : atI ds i = some x) : oIxA (.d (.list ds)) (.d (.int i)) mh = .ok (.d x) mh := by
  have e : atI (ds.map PV.d) i = some (.d x) := by
    unfold atI at h ⊢
    rw [List.length_map]
    cases k : ixN ds.length i with
    | none => rw [k] at h; cases h
    | some j => rw [k] at h; simp only [Option.bind_some] at h ⊢; rw [List.getElem?_map, h]; rfl
  unfold oIxA alt2 oIx seqOf listOf
  dsimp only
  rw [e]
@[simp] theorem oIx_t0 (a : PyData) (r : List PyData) : oIxA (.d (.tuple (a :: r))) (.d (.int 0)) mh = .ok (.d a) mh := oIx_dt (by rw [show (0 : Int) = ((0 : Nat) : Int) from rfl, atI_nn]; rfl)
@[simp] theorem oIx_t1 (a b : PyData) (r : List PyData) : oIxA (.d (.tuple (a :: b :: r))) (.d (.int 1)) mh = .ok (.d b) mh := oIx_dt (by rw [show (1 : Int) = ((1 : Nat) : Int) from rfl, atI_nn]; rfl)
@[simp] theorem oIx_t2 (a b c : PyData) (r : List PyData) : oIxA (.d (.tuple (a :: b :: c :: r))) (.d (.int 2)) mh = .ok (.d c) mh := oIx_dt (by rw [show (2 : Int) = ((2 : Nat) : Int) from rfl, atI_nn]; rfl)
@[simp] theorem oIx_l0 (a : PyData) (r : List PyData) : oIxA (.d (.list (a :: r))) (.d (.int 0)) mh = .ok (.d a) mh := oIx_dl (by rw [show (0 : Int) = ((0 : Nat) : Int) from rfl, atI_nn]; rfl)
/-! builtins -/
@[simp] theorem nLen_t (ds : List PyData) : nLen [.d (.tuple ds)] mh = .ok (.d (.int ds.length)) mh := by simp [nLen, seqOf, listOf, tupOf]
@[simp] theorem nLen_l (ds : List PyData) : nLen [.d (.list ds)] mh = .ok (.d (.int ds.length)) mh := by simp [nLen, seqOf, listOf]
theorem nLen_s {z : Str} (h : z.length ≤ 16777216) : nLen [.d (.str z)] mh = .ok (.d (.int z.length)) mh := by
  unfold nLen seqOf listOf tupOf
  dsimp only
  exact if_pos (sz h)
theorem nLen_r {n : Nat} {l : List PV} (h : mh[n]? = some (.lst l)) : nLen [.ref n] mh = .ok (.d (.int l.length)) mh := by simp [nLen, seqOf, listOf, h]
@[simp] theorem nInt_i (i : Int) : nInt [.d (.int i)] mh = .ok (.d (.int i)) mh := rfl
@[simp] theorem nAbs_i (i : Int) : nAbs [.d (.int i)] mh = .ok (.d (.int (if i < 0 then -i else i))) mh := rfl
@[simp] theorem nTuple_l (ds : List PyData) : nTuple [.d (.list ds)] mh = .ok (.d (.tuple ds)) mh := by simp [nTuple, listOf, mkTup]
@[simp] theorem nTuple_t (ds : List PyData) : nTuple [.d (.tuple ds)] mh = .ok (.d (.tuple ds)) mh := rfl
theorem nTuple_r {n : Nat} {ds : List PyData} (h : mh[n]? = some (.lst (ds.map .d))) : nTuple [.ref n] mh = .ok (.d (.tuple ds)) mh := by simp [nTuple, listOf, h, mkTup]
theorem nBools_l (g : List Bool → Bool) (bs : List Bool) : nBools g [.d (.list (bs.map .bool))] mh = .ok (.d (.bool (g bs))) mh := by
  unfold nBools listOf
  dsimp only
  rw [Option.bind_some, List.map_map]
  have e : allB (bs.map (PV.d ∘ PyData.bool)) = some bs := allB_map bs
  rw [e]
/-! ### a comprehension that looks at its items alone -/
theorem lcL_eq {gg : Mh → Prop} {t : Tg} {mt : BM} {me : EM} {lo0 : Lo} {l : List PV} {mh : Mh} (c : PV → Bool) (e : PV → PV) (hg : gg mh)
    (h : ∀ v, v ∈ l → ∃ us, tgt t v = some us ∧ mt (upL lo0 us) mh = .ok (c v) mh ∧ (c v = true → me (upL lo0 us) mh = .ok (e v) mh)) :
    lcL gg t mt me lo0 l mh = .ok ((l.filter c).map e) mh := by
  induction l with
  | nil => simp only [lcL, if_pos hg, List.filter_nil, List.map_nil]
  | cons v l ih =>
    obtain ⟨us, h1, h2, h3⟩ := h v List.mem_cons_self
    have ih' := ih fun x hx => h x (List.mem_cons_of_mem _ hx)
    simp only [lcL, if_pos hg, h1, h2, noX_ok, Res.bind_ok]
    cases hc : c v with
    | false => rw [if_neg (by decide), List.filter_cons, hc]; exact ih'
    | true => rw [if_pos rfl, h3 hc, noX_ok, Res.bind_ok, ih', Res.bind_ok, List.filter_cons, hc]; rfl
/-- over data, to data, no condition -/
theorem lcL_d {gg : Mh → Prop} {t : Tg} {me : EM} {lo0 : Lo} {mh : Mh} {γ : Type} (xs : List γ) (f e : γ → PyData) (hg : gg mh)
    (h : ∀ x, x ∈ xs → ∃ us, tgt t (.d (f x)) = some us ∧ me (upL lo0 us) mh = .ok (.d (e x)) mh) :
    lcL gg t bYes me lo0 ((xs.map f).map .d) mh = .ok ((xs.map e).map .d) mh := by
  induction xs with
  | nil => simp only [List.map_nil, lcL, if_pos hg]
  | cons v l ih =>
    obtain ⟨us, h1, h2⟩ := h v List.mem_cons_self
    have ih' := ih fun x hx => h x (List.mem_cons_of_mem _ hx)
    simp only [List.map_cons, lcL, if_pos hg, h1, bYes_ap, noX_ok, Res.bind_ok, if_true, h2, ih']
/-- with a condition -/
theorem lcL_f {gg : Mh → Prop} {t : Tg} {mt : BM} {me : EM} {lo0 : Lo} {mh : Mh} {γ : Type} (xs : List γ) (f e : γ → PyData) (c : γ → Bool) (hg : gg mh)
    (h : ∀ x, x ∈ xs → ∃ us, tgt t (.d (f x)) = some us ∧ mt (upL lo0 us) mh = .ok (c x) mh ∧ (c x = true → me (upL lo0 us) mh = .ok (.d (e x)) mh)) :
    lcL gg t mt me lo0 ((xs.map f).map .d) mh = .ok (((xs.filter c).map e).map .d) mh := by
  induction xs with
  | nil => simp only [List.filter_nil, List.map_nil, lcL, if_pos hg]
  | cons v l ih =>
    obtain ⟨us, h1, h2, h3⟩ := h v List.mem_cons_self
    have ih' := ih fun x hx => h x (List.mem_cons_of_mem _ hx)
    simp only [List.map_cons, lcL, if_pos hg, h1, h2, noX_ok, Res.bind_ok]
    cases hc : c v with
    | false => rw [if_neg (by decide), List.filter_cons, hc]; exact ih'
    | true => rw [if_pos rfl, h3 hc, noX_ok, Res.bind_ok, ih', Res.bind_ok, List.filter_cons, hc]; rfl
/-! ### loops -/
/-- a loop that comes to its end: R what holds of the slots and the heap, s what is reckoned -/
theorem forL_to {gg : Mh → Prop} {t : Tg} {m : SM} {σ : Type} (R : σ → Lo → Mh → Prop) {γ : Type} (fv : γ → PV) (f : σ → γ → σ) (hg : ∀ s lo mh, R s lo mh → gg mh) :
    ∀ (l : List γ) (s : σ) (lo : Lo) (mh : Mh), (∀ s x lo mh, x ∈ l → R s lo mh → ∃ us lo' mh', tgt t (fv x) = some us ∧ (m (upL lo us) mh = .nx lo' mh' ∨ m (upL lo us) mh = .ct lo' mh') ∧ R (f s x) lo' mh') → R s lo mh →
      ∃ lo' mh', forL gg t m (l.map fv) lo mh = .nx lo' mh' ∧ R (l.foldl f s) lo' mh'
  | [], s, lo, mh, _, r => ⟨lo, mh, by simp only [List.map_nil, forL, if_pos (hg s lo mh r)], r⟩
  | x :: l, s, lo, mh, h, r => by
    obtain ⟨us, lo1, mh1, h1, h2, r1⟩ := h s x lo mh List.mem_cons_self r
    obtain ⟨lo2, mh2, h3, r2⟩ := forL_to R fv f hg l (f s x) lo1 mh1 (fun s y lo mh hy r => h s y lo mh (List.mem_cons_of_mem _ hy) r) r1
    refine ⟨lo2, mh2, ?_, r2⟩
    simp only [List.map_cons, forL, if_pos (hg s lo mh r), h1]
    rcases h2 with h2 | h2 <;> rw [h2] <;> exact h3
end
end EL


set_option Elab.async false
set_option linter.all false
set_option maxRecDepth 100000
set_option maxHeartbeats 4000000
/-! EL: rows of pairs of ints, sorted; list methods by values. -/
namespace EL
open PySem L2 PySem.W
theorem dataLt_intE (i j : Int) : dataLt (.int i) (.int j) = decide (i < j) := dataLt_int i j
theorem dataLt_prE (a b : Int × Int) : dataLt (prD a) (prD b) = decide (a.1 < b.1 ∨ (a.1 = b.1 ∧ a.2 < b.2)) := by
  unfold prD
  rw [dataLt_tuple, dataLt_cons rfl, dataLt_cons rfl]
  simp only [PyData.eqv, dataLt_int]
  by_cases h1 : a.1 = b.1
  · simp only [h1, decide_true, if_true, Int.lt_irrefl, false_or, true_and]
    by_cases h2 : a.2 = b.2
    · simp [h2, keyToksAll, PyProof.Rows.lexLt]
      rfl
    · simp [h2]
  · simp [h1]
abbrev prLt (a b : Int × Int) : Prop := a.1 < b.1 ∨ (a.1 = b.1 ∧ a.2 < b.2)
theorem dataLe_pr (a b : Int × Int) : dataLe false id (prD a) (prD b) = prLe a b := by
  show (!dataLt (prD b) (prD a)) = prLe a b
  rw [dataLt_prE]
  unfold prLe
  rw [Bool.eq_iff_iff]
  simp only [Bool.not_eq_true', decide_eq_false_iff_not, decide_eq_true_eq]
  omega
theorem dataLe_int (a b : Int) : dataLe false id (.int a) (.int b) = decide (a ≤ b) := by
  show (!dataLt (.int b) (.int a)) = _
  rw [dataLt_intE, Bool.eq_iff_iff]
  simp
theorem alike_pr (a b : Int × Int) : alike (prD a) (prD b) = true := rfl
theorem srtOk_prs (l : List (Int × Int)) : srtOk (l.map prD) := by
  refine ⟨AllAlike.of fun a b => rfl, .inl fun d h => ?_, fun d h => ?_⟩
  · obtain ⟨p, -, rfl⟩ := List.mem_map.mp h; exact ⟨_, _, rfl⟩
  · obtain ⟨p, -, rfl⟩ := List.mem_map.mp h
    simp [prD, PyData.depth, PyData.depthAll]
theorem srtOk_ints (l : List Int) : srtOk (l.map .int) := by
  refine ⟨AllAlike.of fun a b => rfl, .inr fun d h => ?_, fun d h => ?_⟩
  · obtain ⟨p, -, rfl⟩ := List.mem_map.mp h; exact ⟨by simp, by simp⟩
  · obtain ⟨p, -, rfl⟩ := List.mem_map.mp h
    simp [PyData.depth]
theorem mSrt_prs (l : List (Int × Int)) : mSrt (l.map prD) = (l.mergeSort prLe).map prD := by
  unfold mSrt
  exact (List.map_mergeSort fun a _ b _ => (dataLe_pr a b).symm).symm
theorem mSrt_ints (l : List Int) : mSrt (l.map .int) = (l.mergeSort fun a b => decide (a ≤ b)).map .int := by
  unfold mSrt
  exact (List.map_mergeSort fun a _ b _ => (dataLe_int a b).symm).symm
/-- sorted, of different pairs -/
theorem sort_prs {l : List (Int × Int)} (h : l.Nodup) : (l.mergeSort prLe).Pairwise prLt := by
  have p := List.mergeSort_perm l prLe
  have n : (l.mergeSort prLe).Nodup := p.nodup_iff.mpr h
  have s : (l.mergeSort prLe).Pairwise fun a b => prLe a b = true := List.pairwise_mergeSort prLe_trans prLe_total l
  exact (n.and s).imp fun {a b} ⟨h1, h2⟩ => by
    unfold prLe at h2
    unfold prLt
    simp only [decide_eq_true_eq] at h2
    rcases h2 with h2 | ⟨h2, h3⟩
    · exact .inl h2
    · exact .inr ⟨h2, by rcases Int.lt_or_eq_of_le h3 with h | h
                         · exact h
                         · exact absurd (Prod.ext h2 h) h1⟩
theorem sort_ints {l : List Int} (h : l.Nodup) : (l.mergeSort fun a b => decide (a ≤ b)).Pairwise (· < ·) := by
  have p := List.mergeSort_perm l fun a b => decide (a ≤ b)
  have n := p.nodup_iff.mpr h
  have s : (l.mergeSort fun a b => decide (a ≤ b)).Pairwise fun a b => decide (a ≤ b) = true := List.pairwise_mergeSort (fun a b c h1 h2 => by simp at *; omega) (fun a b => by simp; omega) l
  exact (n.and s).imp fun {a b} ⟨h1, h2⟩ => by simp at h2; omega
theorem prLt_irrefl (a : Int × Int) : ¬ prLt a a := by unfold prLt; omega
theorem nodup_of_prLt {l : List (Int × Int)} (h : l.Pairwise prLt) : l.Nodup := List.Pairwise.imp (R := prLt) (fun {a b} h => by rintro rfl; exact prLt_irrefl a h) h
theorem nodup_of_lt {l : List Int} (h : l.Pairwise (· < ·)) : l.Nodup := List.Pairwise.imp (R := fun a b : Int => a < b) (fun {a b} h => by omega) h
theorem pr_eqv (a b : Int × Int) : PyData.eqv (prD a) (prD b) = decide (a = b) := by
  unfold prD
  rw [Bool.eq_iff_iff]
  simp [PyData.eqv, PyData.eqvAll, Prod.ext_iff]
theorem pr_any (l : List (Int × Int)) (p : Int × Int) : ((l.map prD).any fun z => PyData.eqv z (prD p)) = decide (p ∈ l) := by
  rw [List.any_map, Bool.eq_iff_iff, List.any_eq_true]
  simp only [Function.comp, pr_eqv, decide_eq_true_eq]
  exact ⟨fun ⟨x, h1, h2⟩ => h2 ▸ h1, fun h => ⟨p, h, rfl⟩⟩
theorem int_any (l : List Int) (p : Int) : ((l.map PyData.int).any fun z => PyData.eqv z (.int p)) = decide (p ∈ l) := by
  rw [List.any_map, Bool.eq_iff_iff, List.any_eq_true]
  simp only [Function.comp, PyData.eqv, decide_eq_true_eq, beq_iff_eq]
  exact ⟨fun ⟨x, h1, h2⟩ => h2 ▸ h1, fun h => ⟨p, h, rfl⟩⟩
section
variable {lo : Lo} {mh : Mh} {v u w : PV}
theorem pr_depth (p : Int × Int) : (prD p).depth = 1 ∨ (prD p).depth = 2 := by
  simp [prD, PyData.depth, PyData.depthAll]
theorem pr_dle (x : Nat) (p : Int × Int) : min x (prD p).depth ≤ 64 := by rcases pr_depth p with h | h <;> rw [h] <;> omega
theorem prIn_t (l : List (Int × Int)) (p : Int × Int) : oIn (.d (prD p)) (.d (.tuple (l.map prD))) mh = .ok (.d (.bool (decide (p ∈ l)))) mh := by rw [oIn_t (pr_dle _ p), pr_any]
theorem prIn_l (l : List (Int × Int)) (p : Int × Int) : oIn (.d (prD p)) (.d (.list (l.map prD))) mh = .ok (.d (.bool (decide (p ∈ l)))) mh := by rw [oIn_l (pr_dle _ p), pr_any]
theorem int_dle (x : Nat) (p : Int) : min x (PyData.int p).depth ≤ 64 := by simp [PyData.depth]
theorem intIn_t (l : List Int) (p : Int) : oIn (.d (.int p)) (.d (.tuple (l.map .int))) mh = .ok (.d (.bool (decide (p ∈ l)))) mh := by rw [oIn_t (int_dle _ p), int_any]
theorem intNin_t (l : List Int) (p : Int) : oNin (.d (.int p)) (.d (.tuple (l.map .int))) mh = .ok (.d (.bool (!decide (p ∈ l)))) mh := by rw [oNin_t (int_dle _ p), int_any]
theorem prNe (a b : Int × Int) : oNe (.d (prD a)) (.d (prD b)) mh = .ok (.d (.bool (!decide (a = b)))) mh := by
  rw [oNe_ap, if_pos (pr_dle _ b), pr_eqv]
theorem prLt_ap (a b : Int × Int) : oLt (.d (prD a)) (.d (prD b)) mh = .ok (.d (.bool (decide (prLt a b)))) mh := by
  rw [oLt_d rfl rfl (pr_dle _ b) rfl, dataLt_prE]
/-! list methods -/
@[simp] theorem tyM_l (ds : List PyData) : tyM mh "list" (.d (.list ds)) = true := rfl
theorem tyM_r {n : Nat} {l : List PV} (h : mh[n]? = some (.lst l)) : tyM mh "list" (.ref n) = true := by simp [tyM, h]
theorem app_ok {n : Nat} {l : List PV} (h : mh[n]? = some (.lst l)) (hl : l.length < 16777216) : oAppend (.ref n) [w] mh = .ok (.d .none) (mh.set n (.lst (l ++ [w]))) := by
  unfold oAppend; dsimp only; rw [h]; exact if_pos (by rw [sizeLine_eq]; exact hl)
@[simp] theorem app_last {mh0 : Mh} {l : List PV} (hl : l.length < 16777216) : oAppend (.ref mh0.length) [w] (mh0 ++ [.lst l]) = .ok (.d .none) (mh0 ++ [.lst (l ++ [w])]) := by
  rw [app_ok (l := l) (by simp) hl]; simp
theorem idx_ok {ds : List PyData} {d : PyData} {j : Nat} (h : SeqAt.dataPlace ds d = some j) (hd : min (PyData.depthAll ds) d.depth ≤ 64) : oIndex (.d (.list ds)) [.d d] mh = .ok (.d (.int (j : Nat))) mh := by
  simp [oIndex, dataOf, hd, h]
end
theorem atI_map {α β : Type} (f : α → β) (l : List α) (i : Int) : atI (l.map f) i = (atI l i).map f := by
  unfold atI
  rw [List.length_map]
  cases ixN l.length i <;> simp
theorem cut_to {α : Type} (l : List α) (k : Nat) : cutP l none (some (k : Int)) = l.take k := by
  unfold cutP
  rw [HT.sIx_none, HT.sIx_nat]
  simp only [List.drop_zero, Nat.sub_zero]
  rw [List.take_eq_take_iff]; omega
theorem cut_from {α : Type} (l : List α) (k : Nat) : cutP l (some (k : Int)) none = l.drop k := by
  unfold cutP
  rw [HT.sIx_none, HT.sIx_nat]
  by_cases h : k ≤ l.length
  · rw [Nat.min_eq_left h]
    exact List.take_of_length_le (by simp)
  · rw [Nat.min_eq_right (by omega), List.drop_length, List.drop_of_length_le (by omega)]; simp
theorem enumP_f {α : Type} (f : α → PyData) (l : List α) : enumP ((l.map f).map .d) = l.zipIdx.map fun p => .d (.tuple [.int (p.2 : Nat), f p.1]) := by
  unfold enumP
  rw [List.map_map, List.zipIdx_map, List.map_map]
  rfl
theorem enumP_r {f : Nat → PyData} (n : Nat) : enumP (((List.range n).map f).map .d) = (List.range n).map fun k : Nat => PV.d (.tuple [.int (k : Nat), f k]) := by
  unfold enumP
  rw [List.map_map]
  refine List.ext_getElem (by simp) fun i h1 h2 => ?_
  simp [pairP, mkTup, allD]
theorem zipP_f {α β : Type} (f : α → PyData) (g : β → PyData) (l : List α) (k : List β) : zipP ((l.map f).map .d) ((k.map g).map .d) = (l.zip k).map fun p => PV.tup [.d (f p.1), .d (g p.2)] := by
  unfold zipP
  rw [List.map_map, List.map_map, List.zip_map, List.map_map]
  rfl
theorem map_d {α : Type} (f : α → PyData) (l : List α) : (l.map f).map PV.d = l.map fun x => PV.d (f x) := by rw [List.map_map]; rfl
/-- neighbours: a strictly rising row -/
theorem zip_tail {α : Type} {R : α → α → Prop} [DecidableRel R] : ∀ {l : List α}, l.Pairwise R → ((l.zip (l.drop 1)).map fun p => decide (R p.1 p.2)).all id = true
  | [], _ => rfl
  | [a], _ => rfl
  | a :: b :: l, h => by
    have h1 := List.rel_of_pairwise_cons h (a' := b) (by simp)
    have ih := zip_tail (R := R) (List.pairwise_cons.mp h).2
    simp only [List.drop_succ_cons, List.drop_zero, List.zip_cons_cons, List.map_cons, List.all_cons, id, decide_eq_true h1, Bool.true_and] at ih ⊢
    exact ih
end EL


set_option Elab.async false
set_option linter.all false
set_option maxRecDepth 100000
set_option maxHeartbeats 4000000
/-! EL: attributes set, objects made, by values. -/
namespace EL
open PySem L2 PySem.W
section
variable {lo : Lo} {mh mh1 mh2 : Mh} {v u w : PV} {mo me : EM}
def kF2 (cs : List Nat) (f : Str) (lo : Lo) (v : PV) : PV → Mh → SR := fun u mh2 => match u with
  | .ref n => match mh2[n]? with
    | some (.ins c fs) => if c ∈ cs ∧ fs.length < 1000 then .nx lo (mh2.set n (.ins c (putP f v fs))) else .bad
    | _ => .bad
  | _ => .bad
def kF1 (cs : List Nat) (f : Str) (mo : EM) (lo : Lo) : PV → Mh → SR := fun v mh1 => ofR (mo lo mh1) (kF2 cs f lo v)
@[simp] theorem sFld_ap (cs : List Nat) (f : Str) : sFld' cs f mo me lo mh = ofR (me lo mh) (kF1 cs f mo lo) := rfl
@[simp] theorem kF1_ap (cs : List Nat) (f : Str) : kF1 cs f mo lo v mh = ofR (mo lo mh) (kF2 cs f lo v) := rfl
theorem kF2_last {cs : List Nat} {f : Str} {mh0 : Mh} {c : Nat} {fs : List (Str × PV)} (hc : c ∈ cs) (hl : fs.length < 1000) : kF2 cs f lo v (.ref mh0.length) (mh0 ++ [.ins c fs]) = .nx lo (mh0 ++ [.ins c (putP f v fs)]) := by
  unfold kF2
  dsimp only
  rw [show (mh0 ++ [MO.ins c fs])[mh0.length]? = some (.ins c fs) by simp]
  dsimp only
  rw [if_pos ⟨hc, hl⟩]
  simp
theorem kNew_ok {c n : Nat} {mf : FM} {vs : List PV} (hn : vs.length + 1 = n) {o : MO} (h : mf (.ref mh.length :: vs) (mh ++ [.ins c []]) = .ok (.d .none) (mh ++ [o])) : kNew c n mf vs mh = .ok (.ref mh.length) (mh ++ [o]) := by
  unfold kNew
  rw [if_pos hn]
  unfold mkNew
  rw [h]
  rfl
end
end EL


set_option Elab.async false
set_option linter.all false
set_option maxRecDepth 100000
set_option maxHeartbeats 4000000
/-! EL: sorted({pair: True for ..}) of pairs of ints, by values. -/
namespace EL
open PySem L2 PySem.W
theorem nk_pr (p : Int × Int) : nkOf (prD p) = some (.tup [.num p.1, .num p.2]) := by simp [prD, nkOf, nksOf]
theorem nk_pr_eq (a b : Int × Int) : decide (nkOf (prD a) = nkOf (prD b)) = decide (a = b) := by
  rw [nk_pr, nk_pr, Bool.eq_iff_iff]
  simp [Prod.ext_iff]
theorem keyB_pr (p : Int × Int) : keyB (prD p) = true := by
  unfold prD keyB
  have := nk_pr p
  unfold prD at this
  dsimp only
  rw [this]
  simp [NestedKey.depth, NestedKey.depthAll]
def addI (acc : List (Int × Int)) (p : Int × Int) : List (Int × Int) := if p ∈ acc then acc else acc ++ [p]
theorem addK_pr (acc : List (Int × Int)) (p : Int × Int) : addK (acc.map prD) (prD p) = (addI acc p).map prD := by
  unfold addK addI
  have : ((acc.map prD).any fun e => decide (nkOf e = nkOf (prD p))) = decide (p ∈ acc) := by
    rw [List.any_map, Bool.eq_iff_iff, List.any_eq_true]
    simp only [Function.comp, nk_pr_eq, decide_eq_true_eq]
    exact ⟨fun ⟨x, h1, h2⟩ => h2 ▸ h1, fun h => ⟨p, h, rfl⟩⟩
  rw [this]
  by_cases h : p ∈ acc <;> simp [h]
theorem ddK_fold : ∀ (ps acc : List (Int × Int)), (ps.map prD).foldl addK (acc.map prD) = (ps.foldl addI acc).map prD
  | [], _ => rfl
  | p :: ps, acc => by rw [List.map_cons, List.foldl_cons, List.foldl_cons, addK_pr, ddK_fold ps]
theorem addI_mem (acc : List (Int × Int)) (p x : Int × Int) : x ∈ addI acc p ↔ x ∈ acc ∨ x = p := by
  unfold addI
  split
  · rename_i h; exact ⟨.inl, fun k => k.elim id fun e => e ▸ h⟩
  · simp
theorem addI_nodup {acc : List (Int × Int)} {p : Int × Int} (h : acc.Nodup) : (addI acc p).Nodup := by
  unfold addI
  split
  · exact h
  · rename_i k
    rw [List.nodup_append]
    exact ⟨h, by simp, fun a ha b hb => by rintro rfl; rw [List.mem_singleton.mp hb] at ha; exact k ha⟩
theorem fold_mem : ∀ (ps acc : List (Int × Int)) (x : Int × Int), x ∈ ps.foldl addI acc ↔ x ∈ acc ∨ x ∈ ps
  | [], acc, x => by simp
  | p :: ps, acc, x => by rw [List.foldl_cons, fold_mem ps, addI_mem, List.mem_cons, or_assoc]
theorem fold_nodup : ∀ (ps acc : List (Int × Int)), acc.Nodup → (ps.foldl addI acc).Nodup
  | [], _, h => h
  | p :: ps, acc, h => fold_nodup ps _ (addI_nodup h)
theorem srtD_prs (ps : List (Int × Int)) : mSrt (ddK (ps.map prD)) = (srtP ps).map prD := by
  have e : ddK (ps.map prD) = (ps.foldl addI []).map prD := ddK_fold ps []
  rw [e, mSrt_prs]
  congr 1
  refine srtP_eq (fun x => ?_) ((List.mergeSort_perm _ _).nodup_iff.mpr (fold_nodup ps [] List.nodup_nil)) (List.pairwise_mergeSort prLe_trans prLe_total _)
  rw [List.mem_mergeSort, fold_mem]
  simp only [List.not_mem_nil, false_or]
theorem pkeys_prs (ps : List (Int × Int)) : pkeys (ps.map fun p => .tup [.d (prD p), .d (.bool true)]) = some (ps.map prD) := by
  induction ps with
  | nil => rfl
  | cons p ps ih => rw [List.map_cons, pkeys, ih]; rfl
theorem finS_prs {ps : List (Int × Int)} {mh : Mh} (h : ps.length ≤ 16777216) : finS (ps.map fun p => .tup [.d (prD p), .d (.bool true)]) mh = .ok (((srtP ps).map prD).map .d) mh := by
  unfold finS
  rw [pkeys_prs]
  dsimp only
  have h1 : ∀ d, d ∈ ps.map prD → keyB d = true := fun d hd => by
    obtain ⟨p, -, rfl⟩ := List.mem_map.mp hd; exact keyB_pr p
  have h2 : srtOk (ddK (ps.map prD)) := by
    have e : ddK (ps.map prD) = (ps.foldl addI []).map prD := ddK_fold ps []
    rw [e]; exact srtOk_prs _
  rw [if_pos ⟨h1, by rw [List.length_map, sizeLine_eq]; exact h, h2⟩, srtD_prs]
theorem srtP_mem {ps : List (Int × Int)} {x : Int × Int} : x ∈ srtP ps ↔ x ∈ ps := by
  unfold srtP
  rw [List.mem_mergeSort, mem_ddp]
theorem srtP_lt (ps : List (Int × Int)) : (srtP ps).Pairwise prLt := sort_prs (nodup_ddp ps)
theorem ddp_len : ∀ l : List (Int × Int), (ddp l).length ≤ l.length
  | [] => Nat.le_refl _
  | x :: r => by
    unfold ddp
    have := ddp_len r
    split <;> simp <;> omega
theorem srtP_len (l : List (Int × Int)) : (srtP l).length ≤ l.length := by
  unfold srtP; rw [List.length_mergeSort]; exact ddp_len l
section
variable {lo : Lo} {mh mh1 mh2 : Mh} {v u w : PV} {mi : IM} {mt : BM} {me : EM}
/-- the whole display, over pairs that its items give -/
theorem srtDc_prs {γ : Type} {t : Tg} {mk : EM} {own : List (Str × Nat)} (xs : List γ) (f : γ → PyData) (e : γ → Int × Int) {gg : Mh → Prop} (hg : gg mh) (hi : mi lo mh = .ok ((xs.map f).map .d, gg) mh) (hl : xs.length ≤ 16777216)
    (h : ∀ x, x ∈ xs → ∃ us, tgt t (.d (f x)) = some us ∧ mk (upL (wipeL lo (own.map (·.2))) us) mh = .ok (.d (prD (e x))) mh) :
    lSrtDc mi t bYes mk own lo mh = .ok (((srtP (xs.map e)).map prD).map .d) mh := by
  unfold lSrtDc dcM
  rw [hi]
  simp only [Res.bind_ok]
  have e1 : lcL gg t bYes (pairE mk (mC (.bool true))) (wipeL lo (own.map (·.2))) ((xs.map f).map .d) mh = .ok ((xs.map e).map fun p => .tup [.d (prD p), .d (.bool true)]) mh := by
    clear hi hl
    induction xs with
    | nil => simp only [List.map_nil, lcL, if_pos hg]
    | cons v l ih =>
      obtain ⟨us, h1, h2⟩ := h v List.mem_cons_self
      have ih' := ih fun x hx => h x (List.mem_cons_of_mem _ hx)
      simp only [List.map_cons, lcL, if_pos hg, h1, bYes_ap, noX_ok, Res.bind_ok, if_true, pairE, h2, ih', mC_ap]
  rw [e1, Res.bind_ok, finS_prs (by rw [List.length_map]; exact hl)]
end
end EL


set_option Elab.async false
set_option linter.all false
set_option maxRecDepth 100000
set_option maxHeartbeats 4000000
/-! EL: range(n) by values, told once (simp through iRg1_ap makes the kernel unfold the bound). -/
namespace EL
open PySem L2 PySem.W
section
variable {lo : Lo} {mh : Mh} {mr : AM}
theorem big_nn {n : Nat} (h : n ≤ 1000000) : big (n : Int) := ⟨by omega, by omega⟩
theorem big_ii {i : Int} (h : -1000000 ≤ i ∧ i ≤ 1000000) : big i := ⟨by omega, by omega⟩
theorem intsP0 (n : Nat) : intsP 0 n = (List.range n).map fun i : Nat => PV.d (.int (i : Nat)) := by
  unfold intsP
  exact List.map_congr_left fun i _ => by simp
theorem kRg1_n {n : Nat} (h : n ≤ 1000000) : kRg1 [.d (.int (n : Nat))] mh = .ok (intsP 0 n, always) mh := by
  rw [kRg1_ok (big_nn h), Int.toNat_natCast]
theorem iRg1_n {n : Nat} (h : n ≤ 1000000) (hm : mr lo mh = .ok [.d (.int (n : Nat))] mh) : iRg1 mr lo mh = .ok ((List.range n).map fun i : Nat => PV.d (.int (i : Nat)), always) mh := by
  rw [iRg1_ap, hm, Res.bind_ok, kRg1_n h, intsP0]
theorem iRg2_n {i : Int} {n : Nat} {j : Int} (h : -1000000 ≤ i ∧ i ≤ 1000000 ∧ -1000000 ≤ j ∧ j ≤ 1000000) (hj : j = i + n) (hm : mr lo mh = .ok [.d (.int i), .d (.int j)] mh) : iRg2 mr lo mh = .ok ((List.range n).map fun k : Nat => PV.d (.int (i + k)), always) mh := by
  rw [iRg2_ap, hm, Res.bind_ok, kRg2_ok ⟨big_ii ⟨h.1, h.2.1⟩, big_ii ⟨h.2.2.1, h.2.2.2⟩⟩, show (j - i).toNat = n by omega]
  rfl
end
end EL


set_option Elab.async false
set_option linter.all false
set_option maxRecDepth 100000
set_option maxHeartbeats 4000000
/-! EL: plain data of a small depth; loops item by item. -/
namespace EL
open PySem L2 PySem.W
def GD (n : Nat) (x : PyData) : Prop := x.plain = true ∧ x.depth ≤ n
theorem GD.none (n : Nat) : GD (n + 1) .none := ⟨rfl, by simp [PyData.depth]⟩
theorem GD.bool (n : Nat) (b : Bool) : GD (n + 1) (.bool b) := ⟨rfl, by simp [PyData.depth]⟩
theorem GD.int (n : Nat) (i : Int) : GD (n + 1) (.int i) := ⟨rfl, by simp [PyData.depth]⟩
theorem GD.str (n : Nat) (z : Str) : GD (n + 1) (.str z) := ⟨rfl, by simp [PyData.depth]⟩
theorem GD.all {n : Nat} {xs : List PyData} (h : ∀ x, x ∈ xs → GD n x) : PyData.plainAll xs = true ∧ PyData.depthAll xs ≤ n := by
  induction xs with
  | nil => exact ⟨rfl, by simp [PyData.depthAll]⟩
  | cons x xs ih =>
    have h1 := h x List.mem_cons_self
    have h2 := ih fun y hy => h y (List.mem_cons_of_mem _ hy)
    exact ⟨by rw [PyData.plainAll, h1.1, h2.1]; rfl, by rw [PyData.depthAll]; exact Nat.max_le.mpr ⟨h1.2, h2.2⟩⟩
theorem GD.tuple {n : Nat} {xs : List PyData} (h : ∀ x, x ∈ xs → GD n x) : GD (n + 1) (.tuple xs) := ⟨by rw [PyData.plain]; exact (GD.all h).1, by rw [PyData.depth]; have := (GD.all h).2; omega⟩
theorem GD.list {n : Nat} {xs : List PyData} (h : ∀ x, x ∈ xs → GD n x) : GD (n + 1) (.list xs) := ⟨by rw [PyData.plain]; exact (GD.all h).1, by rw [PyData.depth]; have := (GD.all h).2; omega⟩
theorem GD.up {n m : Nat} {x : PyData} (h : GD n x) (hm : n ≤ m) : GD m x := ⟨h.1, Nat.le_trans h.2 hm⟩
theorem GD.refl {n : Nat} {x : PyData} (h : GD n x) : PyData.eqv x x = true := SeqAt.eqv_refl_plain x h.1
theorem GD.nil {n : Nat} : ∀ x, x ∈ ([] : List PyData) → GD n x := fun x hx => by cases hx
theorem GD.cons {n : Nat} {a : PyData} {l : List PyData} (h : GD n a) (hl : ∀ x, x ∈ l → GD n x) : ∀ x, x ∈ a :: l → GD n x := fun x hx => by
  rcases List.mem_cons.mp hx with rfl | hx
  · exact h
  · exact hl x hx
theorem GD.map {γ : Type} {n : Nat} {f : γ → PyData} {l : List γ} (h : ∀ x, x ∈ l → GD n (f x)) : ∀ x, x ∈ l.map f → GD n x := fun x hx => by
  obtain ⟨y, hy, rfl⟩ := List.mem_map.mp hx
  exact h y hy
section
variable {mh : Mh}
theorem oEq_GD {n : Nat} {x y : PyData} (h : GD n x) (hn : n ≤ 64) : oEq (.d x) (.d y) mh = .ok (.d (.bool (PyData.eqv x y))) mh := by rw [oEq_ap, if_pos (by have := h.2; omega)]
theorem oNe_GD {n : Nat} {x y : PyData} (h : GD n x) (hn : n ≤ 64) : oNe (.d x) (.d y) mh = .ok (.d (.bool (!PyData.eqv x y))) mh := by rw [oNe_ap, if_pos (by have := h.2; omega)]
theorem oNe_same {n : Nat} {x : PyData} (h : GD n x) (hn : n ≤ 64) : oNe (.d x) (.d x) mh = .ok (.d (.bool false)) mh := by rw [oNe_GD h hn, h.refl]; rfl
theorem oEq_same {n : Nat} {x : PyData} (h : GD n x) (hn : n ≤ 64) : oEq (.d x) (.d x) mh = .ok (.d (.bool true)) mh := by rw [oEq_GD h hn, h.refl]
theorem alt2_bad {o p : Op2} {v u : PV} (h : o v u mh = .bad) : alt2 o p v u mh = p v u mh := by unfold alt2; rw [h]
theorem oRepL_ok {v : PV} {l : List PV} {k : Int} (hl : listOf mh v = some l) (h : -(2 ^ 63) ≤ k ∧ k < 2 ^ 63 ∧ l.length * k.toNat ≤ sizeLine) : oRepL v (.d (.int k)) mh = frzL (List.replicate k.toNat l).flatten mh := by
  unfold oRepL
  rw [hl]
  exact if_pos h
theorem rep_flat {α : Type} (x : α) : ∀ k : Nat, (List.replicate k [x]).flatten = List.replicate k x
  | 0 => rfl
  | k + 1 => by rw [List.replicate_succ, List.flatten_cons, rep_flat x k, List.replicate_succ]; rfl
theorem oMul_rep {x : PyData} {k : Nat} (hk : k ≤ 1000000) : oMul (.d (.list [x])) (.d (.int (k : Nat))) mh = .ok (.d (.list (List.replicate k x))) mh := by
  have hs := sizeLine_eq
  have h2 := oRepL_ok (mh := mh) (v := .d (.list [x])) (l := [.d x]) (k := (k : Nat)) rfl ⟨by omega, by omega, by rw [List.length_singleton, Int.toNat_natCast, Nat.one_mul]; omega⟩
  have h3 : oMul (.d (.list [x])) (.d (.int (k : Nat))) mh = oRepL (.d (.list [x])) (.d (.int (k : Nat))) mh := alt2_bad rfl
  rw [h3, h2, Int.toNat_natCast, rep_flat, ← List.map_replicate, frzL_d]
theorem map_const {α β : Type} (l : List α) (b : β) : (l.map fun _ => b) = List.replicate l.length b := by
  induction l with
  | nil => rfl
  | cons a l ih => rw [List.map_cons, ih]; rfl
end
/-! loops, item by item -/
theorem forL_nl {gg : Mh → Prop} {t : Tg} {m : SM} {lo : Lo} {mh : Mh} (hg : gg mh) : forL gg t m [] lo mh = .nx lo mh := by simp only [forL, if_pos hg]
theorem forL_cn {gg : Mh → Prop} {t : Tg} {m : SM} {lo lo' : Lo} {mh mh' : Mh} {v : PV} {l : List PV} {us : List (Nat × PV)} (hg : gg mh) (h1 : tgt t v = some us) (h2 : m (upL lo us) mh = .nx lo' mh') : forL gg t m (v :: l) lo mh = forL gg t m l lo' mh' := by
  simp only [forL, if_pos hg, h1, h2]
theorem forL_i {gg : Mh → Prop} {t : Tg} {m : SM} {γ : Type} (R : Nat → Lo → Mh → Prop) (fv : γ → PV) (hg : ∀ i lo mh, R i lo mh → gg mh) :
    ∀ (l : List γ) (d : Nat) (lo : Lo) (mh : Mh), (∀ i x lo mh, l[i]? = some x → R (d + i) lo mh → ∃ us lo' mh', tgt t (fv x) = some us ∧ (m (upL lo us) mh = .nx lo' mh' ∨ m (upL lo us) mh = .ct lo' mh') ∧ R (d + i + 1) lo' mh') → R d lo mh →
      ∃ lo' mh', forL gg t m (l.map fv) lo mh = .nx lo' mh' ∧ R (d + l.length) lo' mh'
  | [], d, lo, mh, _, r => ⟨lo, mh, by simp only [List.map_nil, forL, if_pos (hg d lo mh r)], r⟩
  | x :: l, d, lo, mh, h, r => by
    obtain ⟨us, lo1, mh1, h1, h2, r1⟩ := h 0 x lo mh rfl r
    obtain ⟨lo2, mh2, h3, r2⟩ := forL_i R fv hg l (d + 1) lo1 mh1 (fun i y lo mh hy r => by
      have := h (i + 1) y lo mh (by simpa using hy) (by rw [show d + (i + 1) = d + 1 + i by omega]; exact r)
      rw [show d + (i + 1) + 1 = d + 1 + i + 1 by omega] at this
      exact this) r1
    refine ⟨lo2, mh2, ?_, by rw [List.length_cons, show d + (l.length + 1) = d + 1 + l.length by omega]; exact r2⟩
    simp only [List.map_cons, forL, if_pos (hg d lo mh r), h1]
    rcases h2 with h2 | h2 <;> rw [h2] <;> exact h3
theorem app_mid {mh : Mh} {l : List PV} {gb : List MO} {w : PV} (hl : l.length < 16777216) : oAppend (.ref mh.length) [w] (mh ++ .lst l :: gb) = .ok (.d .none) (mh ++ .lst (l ++ [w]) :: gb) := by
  rw [app_ok (l := l) (by simp) hl]; simp
theorem tyM_mid {mh : Mh} {l : List PV} {gb : List MO} : tyM (mh ++ .lst l :: gb) "list" (.ref mh.length) = true := tyM_r (l := l) (by simp)
end EL


set_option Elab.async false
set_option linter.all false
set_option maxRecDepth 100000
set_option maxHeartbeats 4000000
/-! EL: what is never reached; comprehensions that make a dict whose keys are ints or texts; dict(pairs); d[k] += e; sum; counts in tuples; x[::-1]; texts put together. -/
namespace EL
open PySem L2 PySem.W
/-! ### never reached -/
def sBad : SM := fun _ _ => .bad
def eBad : EM := fun _ _ => .bad
section
variable {X : Cx} {cls : Nat → Addr} {e a b : Expr} {st : Stmt} {pos : Pos}
theorem JS_bad : JS X cls st sBad := fun E tk => PS.imp (t := tNever) ps_never fun D σ H ⟨_, _, _, _, _, q⟩ => q
theorem JE_bad (c : COk X) (n : NoComp X e := by intro _ _ _; rfl) : JE X cls e eBad := fun E hx =>
  .of c ⟨fun pins s σ H Q I ⟨_, _, _, _, _, q⟩ => q.elim⟩ n
@[simp] theorem sBad_ap (lo : Lo) (mh : Mh) : sBad lo mh = .bad := rfl
@[simp] theorem eBad_ap (lo : Lo) (mh : Mh) : eBad lo mh = .bad := rfl
/-! ### texts put together -/
def oAddStr : Op2 := fun v u mh => match v, u with
  | .d (.str x), .d (.str y) => if x.length + y.length ≤ sizeLine then .ok (.d (.str (x ++ y))) mh else .bad
  | _, _ => .bad
theorem vAddStr : OpV X cls (binaryOp .Add) oAddStr := fun E => OpR_imp op_add_str fun x y H Q ⟨Z, ρ, mh, v, u, rh, rv, ru, q⟩ => by
  unfold oAddStr at q
  split at q
  · rename_i z w
    split at q
    · rename_i hl
      cases rv with
      | d rv => cases rv; cases ru with
        | d ru => cases ru; exact ⟨z, w, rfl, rfl, hl, q.now rh _ (.d (.str _))⟩
    · exact q.elim
  · exact q.elim
def oAddS : Op2 := alt2 oAdd oAddStr
theorem vAddS : OpV X cls (binaryOp .Add) oAddS := vAdd.alt vAddStr
/-! ### sum of a list of ints -/
def intsOf : List PyData → Option (List Int)
  | [] => some []
  | .int i :: r => (intsOf r).map (i :: ·)
  | _ :: _ => none
theorem intsOf_ok : ∀ {ds : List PyData} {ns : List Int}, intsOf ds = some ns → ds = ns.map .int
  | [], _, h => by cases h; rfl
  | d :: r, ns, h => by
    cases d <;> simp only [intsOf] at h <;> try cases h
    rename_i i
    cases k : intsOf r with
    | none => rw [k] at h; cases h
    | some t => rw [k] at h; cases h; rw [intsOf_ok k]; rfl
theorem intsOf_map (ns : List Int) : intsOf (ns.map .int) = some ns := by
  induction ns with
  | nil => rfl
  | cons n r ih => rw [List.map_cons, intsOf, ih]; rfl
def nSum : OpN := fun vs mh => match vs with
  | [v] => match listOf mh v with
    | some l => match allD l with
      | some ds => match intsOf ds with
        | some ns => .ok (.d (.int ns.sum)) mh
        | none => .bad
      | none => .bad
    | none => .bad
  | _ => .bad
theorem RDs.intsV {K : PySem.W.Frag} {Z ρ : List Addr} {H : Hp} : ∀ {ns : List Int} {xs : List V}, RDs K Z ρ H (ns.map .int) xs → xs = ns.map V.int
  | [], _, .nil => rfl
  | n :: ns, _, .cons (.int _) r => by rw [RDs.intsV r]; rfl
theorem cSum (c : COk X) : CaV X cls (.builtin "sum") nSum := fun E => CallR_imp (cr_sum c.calm) fun xs H Q ⟨Z, ρ, mh, vs, rh, rv, q⟩ => by
  unfold nSum at q
  split at q
  · rename_i v
    split at q
    · rename_i l hl
      split at q
      · rename_i ds hd
        split at q
        · rename_i ns hn
          cases rv with
          | cons r rn =>
            cases rn
            obtain ⟨p, ys, rfl, h1, r1⟩ := listOf_ok rh r hl
            rw [allD_ok hd, intsOf_ok hn] at r1
            have e := RDs.intsV (RVs.toD r1)
            rw [e] at h1
            exact ⟨p, ns, rfl, .of h1, q.now rh _ (.d (.int _))⟩
        · exact q.elim
      · exact q.elim
    · exact q.elim
  · exact q.elim
/-! ### t.count(x) -/
def oCountT : OpM := fun v vs mh => match vs with
  | [u] => match dataOf mh v, dataOf mh u with
    | some (.tuple ds), some d => if min (PyData.depthAll ds) d.depth ≤ 64 then .ok (.d (.int ((ds.countP fun y => PyData.eqv y d : Nat) : Int))) mh else .bad
    | _, _ => .bad
  | _ => .bad
theorem tCountT (c : COk X) : MtV X cls "tuple.count" oCountT := fun E => fun pins s σ H x xs v us Q I rx rxs ⟨Z, ρ, mh, pv, pvs, rh, rv, rs, q⟩ => by
  unfold oCountT at q
  split at q
  · rename_i u
    split at q
    · rename_i ds d hv hu
      split at q
      · rename_i hd
        cases rs with
        | @cons _ yu _ _ ru rn =>
          cases rn
          obtain ⟨D1, p1⟩ := dataOf_ok rh rv hv
          obtain ⟨D2, p2⟩ := dataOf_ok rh ru hu
          cases rxs with
          | cons ry rt =>
            cases rt
            obtain ⟨bs, k1⟩ := Dp.reads I d _ _ D2 ry
            cases D1 with
            | @tup a xs' _ hs ha =>
              cases rx
              obtain ⟨its, rw', hl, hlen⟩ := I.tuple hs
              obtain ⟨as, k2⟩ := Dp.readsAll I ds _ its ha rw'
              have hun : X.A.units + 1 + min (PyData.depthAll ds) d.depth < cLine := by have := c.un; omega
              exact SeqAt.count_tuple_data (vs := its.toArray) hl k2 k1 (plain_list p1) p2 hun ⟨.int _, H, I.tok _, ⟨_, rfl⟩, q.now rh _ (.d (.int _))⟩
      · exact q.elim
    · exact q.elim
  · exact q.elim
end
end EL


set_option Elab.async false
set_option linter.all false
set_option maxRecDepth 100000
set_option maxHeartbeats 4000000
/-! EL: comprehensions that make a dict whose keys are ints or texts. -/
namespace EL
open PySem L2 PySem.W
def dkP : List PV → Option (List (PyData × PV))
  | [] => some []
  | .tup [.d k, v] :: r => if (kOf k).isSome = true then (dkP r).map ((k, v) :: ·) else none
  | _ :: _ => none
def foldD (ps : List (PyData × PV)) : List (PyData × PV) := ps.foldl (fun acc p => putD acc p.1 p.2) []
theorem foldD_snoc (ps : List (PyData × PV)) (p : PyData × PV) : foldD (ps ++ [p]) = putD (foldD ps) p.1 p.2 := by unfold foldD; rw [List.foldl_append]; rfl
theorem putD_len (kvs : List (PyData × PV)) (d : PyData) (v : PV) : (putD kvs d v).length ≤ kvs.length + 1 := by
  unfold putD
  split
  · rw [List.length_map]; omega
  · rw [List.length_append, List.length_singleton]; exact Nat.le_refl _
theorem dkP_cons {p : PV} {r : List PV} {ps : List (PyData × PV)} (h : dkP (p :: r) = some ps) : ∃ k v ps', p = .tup [.d k, v] ∧ (kOf k).isSome = true ∧ dkP r = some ps' ∧ ps = (k, v) :: ps' := by
  unfold dkP at h
  split at h
  · rename_i e; cases e
  · rename_i k v r' e
    injection e with e1 e2
    subst e1 e2
    split at h
    · rename_i hk
      cases q : dkP r with
      | none => rw [q] at h; cases h
      | some ps' => rw [q] at h; cases h; exact ⟨k, v, ps', rfl, hk, rfl, rfl⟩
    · cases h
  · cases h
theorem dkP_append : ∀ {a b : List PV} {ps : List (PyData × PV)}, dkP (a ++ b) = some ps → ∃ x y, dkP a = some x ∧ dkP b = some y ∧ ps = x ++ y
  | [], b, ps, h => ⟨[], ps, rfl, h, rfl⟩
  | p :: a, b, ps, h => by
    rw [List.cons_append] at h
    obtain ⟨k, v, ps', rfl, hk, h2, rfl⟩ := dkP_cons h
    obtain ⟨x, y, h3, h4, rfl⟩ := dkP_append h2
    exact ⟨(k, v) :: x, y, by simp [dkP, hk, h3], h4, rfl⟩
theorem dkP_snoc : ∀ {a : List PV} {ps : List (PyData × PV)} {k : PyData} {v : PV}, dkP a = some ps → (kOf k).isSome = true → dkP (a ++ [.tup [.d k, v]]) = some (ps ++ [(k, v)])
  | [], ps, k, v, h, hk => by cases h; simp [dkP, hk]
  | p :: a, ps, k, v, h, hk => by
    obtain ⟨k', v', ps', rfl, hk', h2, rfl⟩ := dkP_cons h
    simp [dkP, hk', dkP_snoc h2 hk]
def finD (acc : List PV) (mh : Mh) : Res (List (PyData × PV)) := match dkP acc with
  | some ps => if ps.length ≤ sizeLine then .ok (foldD ps) mh else .bad
  | none => .bad
def frzD (kvs : List (PyData × PV)) (mh : Mh) : Res PV := .ok (.dct kvs) mh
def objD (kvs : List (PyData × PV)) (mh : Mh) : Res PV := .ok (.ref mh.length) (mh ++ [.dct kvs])
def okD (acc : List PV) : Prop := ∃ ps, dkP acc = some ps ∧ ps.length ≤ sizeLine
theorem finD_ok {β : Type} {f : List (PyData × PV) → Mh → Res β} {acc : List PV} {m : Mh} (h : (finD acc m).bind f ≠ .bad) : okD acc := by
  unfold finD at h
  split at h
  · rename_i ps hp
    split at h
    · rename_i hh; exact ⟨ps, hp, hh⟩
    · exact absurd rfl h
  · exact absurd rfl h
def dKy : DSt := fun y z D H Nx => ∃ k ks, y = kV k ∧ H D = some (.dK ks) ∧ ks.length < sizeLine ∧ Nx (upd H D (.dK (putK ks k z)))
def AtD (K : PySem.W.Frag) (Z ρ : List Addr) (H : Hp) (D : Addr) (acc : List PV) : Prop := ∃ ps ks, H D = some (.dK ks) ∧ dkP acc = some ps ∧ RVk K Z ρ H (foldD ps) ks ∧ (foldD ps).length ≤ ps.length
section
variable {X : Cx} {cls : Nat → Addr}
theorem dKy_set (X : Cx) : DSet X dKy := by
  intro Y pins σ H s y z D u r Nx E e1 e2 e3 e4 I ry rz ⟨k, ks, ey, hD, hl, q⟩
  subst ey
  rw [← e1, ← e2, ← e4]
  exact d_dictSet (X := Y) I hD hl ry rz fun s' I' => ⟨_, I', q⟩
theorem Sh.updD {Z ρ : List Addr} {H : Hp} {D : Addr} {o : HO} (hD : D ∈ Z) : Sh Z ρ H Z ρ (upd H D o) := Sh.updM hD
theorem dc_tE {E : XK} {mi : IM} {t : Tg} {mt : BM} {mk mv : EM} {own : List (Str × Nat)} {f : List (PyData × PV) → Mh → Res PV} (hv : ∀ i ∈ slotsT t, i ∈ own.map (·.2))
    (hf : ∀ (Z ρ1 ρ' : List Addr) (H1 H' : Hp) (mh' : Mh) (D : Addr) (kvs : List (PyData × PV)) (ks : List (Key × V)) (Q : VK), Ext ρ1 H1 ρ' H' → H1 D = none → D ∉ Z → RH X.K cls (D :: Z) ρ' mh' H' → H' D = some (.dK ks) → RVk X.K (D :: Z) ρ' H' kvs ks →
      Post X.K cls E Z ρ1 H1 (f kvs mh') (fun w ρ' _ H' => ∀ z, RV X.K Z ρ' H' w z → Q z H') → Q (.ref D) H')
    {σ : L2.St} {H : Hp} {Q : VK} (h : tE X.K cls E (dcM mi t mt mk mv (own.map (·.2)) fun acc mh => (finD acc mh).bind f) σ H Q) :
    tDg (fun _ => .dK []) dKy (tI X.K cls E mi) (tgM X.K cls t) (tT X.K cls E0 mt) (tE X.K cls E0 mk) (tE X.K cls E0 mv) (own.map (·.2)) σ H Q := by
  obtain ⟨Z, ρ, lo, mh, s, p⟩ := h
  refine dg_tE (AtD X.K) (ok := okD) hv s p (fun acc m h => finD_ok h) ?_ ?_ ?_ ?_
  · intro Z' ρ' H' D _ hD
    exact ⟨[], [], hD, rfl, .nil, Nat.le_refl _⟩
  · rintro Z' ρ' ρ2 H' H2 D acc e hn ⟨ps, ks, h1, h2, h3, h4⟩
    exact ⟨ps, ks, e.keep D _ h1 hn, h2, h3.mono e, h4⟩
  · rintro Z' ρ' mh' H' D acc y z py pz ys Nx hDZ rh ⟨ps0, k1, k2⟩ ⟨ps, ks, h1, h2, h3, h4⟩ ry rz q
    obtain ⟨ps1, ps2, e1, e2, rfl⟩ := dkP_append k1
    rw [h2] at e1; cases e1
    obtain ⟨k, v, ps3, e3, hk, e4, rfl⟩ := dkP_cons e2
    injection e3 with e3
    injection e3 with e5 e6
    injection e6 with e6 _
    subst e5 e6
    obtain ⟨kk, hkk⟩ := Option.isSome_iff_exists.mp hk
    cases ry with
    | d ry =>
      obtain rfl := ry.key hkk
      have hl3 := h3.length
      rw [List.length_append, List.length_cons] at k2
      refine ⟨kk, ks, rfl, h1, by omega, q _ ⟨ps ++ [(k, pz)], putK ks kk z, upd_same, dkP_snoc h2 hk, ?_, ?_⟩⟩
      · rw [foldD_snoc]
        obtain rfl := kOf_kD hkk
        exact (h3.put rz).sh (Sh.updD hDZ)
      · rw [foldD_snoc, List.length_append, List.length_singleton]
        exact Nat.le_trans (putD_len _ _ _) (by omega)
  · rintro ρ1 H1 ρ' mh' H' D acc e1 e2 hD rh ⟨ps, ks, h1, h2, h3, h4⟩ q
    have hDZ : D ∉ Z := fun m => by
      have z := s.hp.zs D m
      cases hh : H D with
      | none => rw [hh] at z; exact absurd z.2 (by decide)
      | some o => rw [e1.keep D o hh z.1] at hD; cases hD
    unfold finD at q
    rw [h2] at q
    dsimp only at q
    split at q
    · exact hf Z ρ1 ρ' H1 H' mh' D _ ks Q e2 hD hDZ rh h1 h3 q
    · exact q.elim
theorem frzD_to {E : XK} {Z ρ1 ρ' : List Addr} {H1 H' : Hp} {mh' : Mh} {D : Addr} {kvs : List (PyData × PV)} {ks : List (Key × V)} {Q : VK} (e : Ext ρ1 H1 ρ' H') (h0 : H1 D = none) (hz : D ∉ Z) (rh : RH X.K cls (D :: Z) ρ' mh' H') (hD : H' D = some (.dK ks)) (rk : RVk X.K (D :: Z) ρ' H' kvs ks)
    (q : Post X.K cls E Z ρ1 H1 (frzD kvs mh') (fun w ρ' _ H' => ∀ z, RV X.K Z ρ' H' w z → Q z H')) : Q (.ref D) H' :=
  q ρ' H' e (rh.less fun _ m => List.mem_cons_of_mem _ m) _ (.dct hD ⟨hz, (rh.zs D List.mem_cons_self).1⟩ (rk.sh Sh.dropZ))
theorem objD_to {E : XK} {Z ρ1 ρ' : List Addr} {H1 H' : Hp} {mh' : Mh} {D : Addr} {kvs : List (PyData × PV)} {ks : List (Key × V)} {Q : VK} (e : Ext ρ1 H1 ρ' H') (h0 : H1 D = none) (hz : D ∉ Z) (rh : RH X.K cls (D :: Z) ρ' mh' H') (hD : H' D = some (.dK ks)) (rk : RVk X.K (D :: Z) ρ' H' kvs ks)
    (q : Post X.K cls E Z ρ1 H1 (objD kvs mh') (fun w ρ' _ H' => ∀ z, RV X.K Z ρ' H' w z → Q z H')) : Q (.ref D) H' := by
  have ho : RO X.K cls Z (ρ' ++ [D]) H' (.dct kvs) D := .dct hD (rk.sh Sh.taken)
  have r2 := RH.taken hz rh ho
  refine q (ρ' ++ [D]) H' ⟨e.pre.trans (List.prefix_append _ _), e.keep, fun a m n => ?_⟩ r2 _ (.ref ?_)
  · rcases List.mem_append.mp m with m | m
    · exact e.fresh a m n
    · rw [List.mem_singleton.mp m]; exact h0
  · rw [← rh.len]; exact at_last _ _
/-- {k: v for ..}, not written any more; one that is written -/
noncomputable def mDcF (mi : IM) (t : Tg) (mt : BM) (mk mv : EM) (own : List (Str × Nat)) : EM := dcM mi t mt mk mv (own.map (·.2)) fun acc mh => (finD acc mh).bind frzD
noncomputable def mDcO (mi : IM) (t : Tg) (mt : BM) (mk mv : EM) (own : List (Str × Nat)) : EM := dcM mi t mt mk mv (own.map (·.2)) fun acc mh => (finD acc mh).bind objD
/-- name = {..} on one line, the name a local -/
theorem ps_setDg {O : Addr → HO} {dst : DSt} {i : Nat} {y : Str} {py : Pos} {kx vx tg iter : Expr} {ifs : List Expr} {scope : Scope} {own : List (Str × Nat)} {pos spos : Pos} {wi : TI} {g : TG} {tt : TT} {tk tv : TE}
    (hO : ∀ (H : Hp) (h : Heap), sysModules < h.objs.size → L2.ObjOk X.prog X.w H (h.push { cls := .type "dict", data := .dict #[] }) h.objs.size (O h.objs.size)) (hst : DSet X dst)
    (hc : X.calm = true) (hN : X.N.Nodup) (hy : X.N[i]? = some y) (hyl : X.env.scope.names.lookup y = some .local) (hsw : swapsWith (.DictComp kx vx [⟨tg, iter, ifs, 0⟩] scope pos) (some (.Name y py)) spos.line X.env = pure true)
    (hi : PI X tg iter wi) (ok : BlkOk X.N X.env.scope scope own)
    (hg : ∀ (s : Shared) (H : Hp) (C : Addr) (cl : List (Str × Addr)) (fp : List Addr), PG (X.blk s H scope (compEnvC scope cl C X.env) fp) tg g) (ht : ∀ (s : Shared) (H : Hp) (C : Addr) (cl : List (Str × Addr)) (fp : List Addr), PTs (X.blk s H scope (compEnvC scope cl C X.env) fp) ifs tt)
    (hk : ∀ (s : Shared) (H : Hp) (C : Addr) (cl : List (Str × Addr)) (fp : List Addr), PE (X.blk s H scope (compEnvC scope cl C X.env) fp) kx tk)
    (he : ∀ (s : Shared) (H : Hp) (C : Addr) (cl : List (Str × Addr)) (fp : List Addr), PE (X.blk s H scope (compEnvC scope cl C X.env) fp) vx tv) (hs : ∀ x, foldedSetIterable iter X.env x = pure x) :
    PS X (.Assign [.Name y py] (.DictComp kx vx [⟨tg, iter, ifs, 0⟩] scope pos) spos) (tAsg (tDg O dst wi g tt tk tv (own.map (·.2))) (gName i)) := by
  refine ⟨fun pins s σ H D I h0 => ?_⟩
  rw [exec_Assign_Name_used _ _ _ _ hsw]
  refine wpAny_bind (wpAny_standAt (wpAny_bind ?_))
  show wpAny _ X.A (do let _ ← comprehension (.DictComp kx vx [⟨tg, iter, ifs, 0⟩] scope pos) scope X.env (firstIterPos [⟨tg, iter, ifs, 0⟩] pos) newDict false (eval iter X.env) (some (assign (.Name y py) X.env))) _ _ s
  have h1 : tDg O dst wi g tt tk tv (own.map (·.2)) σ H (fun x H1 => gName i x σ H1 D.nx) := h0
  refine wpAny_bind (thn (dg_core (Qf := fun _ s' => SP X pins D .next s') hO hst hc hN I hi ok hg ht hk he hs h1 fun L C s' m H' I' q hn ⟨f0, f1, _, f3, f4, f5⟩ => ?_) fun _ s' hq => wpAny_pure (wpAny_pure hq))
  show wpAny _ _ (assign (.Name y py) X.env (.ref L)) _ _ _
  refine wpAny_assign_Name (store_ok2 (v := V.ref L) I' hN hy (.inl hyl) rfl (fun s2 I2 ⟨a, sb, ha⟩ => ?_) (.inr hyl))
  have haC : C ≠ a := ha.elim (fun z => by rw [z]; exact f1) fun z e => f4 y a z e.symm
  exact ⟨m, hn.sameBut sb haC, fun h3 sb3 => ⟨_, H', I2.turned (t' := s2.toks) (fun b o hb e => (sb3.2 b hb).trans e) f0 f1 f3 f4 f5, q⟩⟩
theorem JE_dc (c : COk X) {kx vx tg iter : Expr} {ifs : List Expr} {scope : Scope} {pos : Pos} {own : List (Str × Nat)} {mi : IM} {t : Tg} {mt : BM} {mk mv : EM} {f : List (PyData × PV) → Mh → Res PV}
    (hf : ∀ E (Z ρ1 ρ' : List Addr) (H1 H' : Hp) (mh' : Mh) (D : Addr) (kvs : List (PyData × PV)) (ks : List (Key × V)) (Q : VK), Ext ρ1 H1 ρ' H' → H1 D = none → D ∉ Z → RH X.K cls (D :: Z) ρ' mh' H' → H' D = some (.dK ks) → RVk X.K (D :: Z) ρ' H' kvs ks →
      Post X.K cls E Z ρ1 H1 (f kvs mh') (fun w ρ' _ H' => ∀ z, RV X.K Z ρ' H' w z → Q z H') → Q (.ref D) H')
    (hi : JI X cls tg iter mi)
    (hg : ∀ (s : Shared) (H : Hp) (C : Addr) (cl : List (Str × Addr)) (fp : List Addr), JG (X.blk s H scope (compEnvC scope cl C X.env) fp) cls tg t)
    (ht : ∀ (s : Shared) (H : Hp) (C : Addr) (cl : List (Str × Addr)) (fp : List Addr), JTs (X.blk s H scope (compEnvC scope cl C X.env) fp) cls ifs mt)
    (hk : ∀ (s : Shared) (H : Hp) (C : Addr) (cl : List (Str × Addr)) (fp : List Addr), JE (X.blk s H scope (compEnvC scope cl C X.env) fp) cls kx mk)
    (he : ∀ (s : Shared) (H : Hp) (C : Addr) (cl : List (Str × Addr)) (fp : List Addr), JE (X.blk s H scope (compEnvC scope cl C X.env) fp) cls vx mv)
    (ok : BlkOk X.N X.env.scope scope own) (hs : ∀ x, foldedSetIterable iter X.env x = pure x) (hv : ∀ i ∈ slotsT t, i ∈ own.map (·.2)) :
    JE X cls (.DictComp kx vx [⟨tg, iter, ifs, 0⟩] scope pos) (dcM mi t mt mk mv (own.map (·.2)) fun acc mh => (finD acc mh).bind f) := fun E hx => by
  have hg' : ∀ (s : Shared) (H : Hp) (C : Addr) (cl : List (Str × Addr)) (fp : List Addr), PG (X.blk s H scope (compEnvC scope cl C X.env) fp) tg (tgM X.K cls t) := hg
  have ht' : ∀ (s : Shared) (H : Hp) (C : Addr) (cl : List (Str × Addr)) (fp : List Addr), PTs (X.blk s H scope (compEnvC scope cl C X.env) fp) ifs (tT X.K cls E0 mt) := fun s H C cl fp => ht s H C cl fp E0 (blk_pass s H scope _ fp)
  have hk' : ∀ (s : Shared) (H : Hp) (C : Addr) (cl : List (Str × Addr)) (fp : List Addr), PE (X.blk s H scope (compEnvC scope cl C X.env) fp) kx (tE X.K cls E0 mk) := fun s H C cl fp => (hk s H C cl fp E0 (blk_pass s H scope _ fp)).pe
  have he' : ∀ (s : Shared) (H : Hp) (C : Addr) (cl : List (Str × Addr)) (fp : List Addr), PE (X.blk s H scope (compEnvC scope cl C X.env) fp) vx (tE X.K cls E0 mv) := fun s H C cl fp => (he s H C cl fp E0 (blk_pass s H scope _ fp)).pe
  have hO : ∀ (H : Hp) (h : Heap), sysModules < h.objs.size → L2.ObjOk X.prog X.w H (h.push { cls := .type "dict", data := .dict #[] }) h.objs.size (.dK []) := fun H h hb => dk_empty h hb
  have pe := pe_dg (X := X) (O := fun _ => .dK []) (pos := pos) hO (dKy_set X) c.calm c.nd (hi E hx) ok hg' ht' hk' he' hs
  refine ⟨pe.imp fun σ H Q h => dc_tE hv (hf E) h, fun y i py spos hy hl hff => ?_⟩
  obtain ⟨b, hb, hloc⟩ := sw_dict (k := kx) (v := vx) (gs := [⟨tg, iter, ifs, 0⟩]) (scope := scope) (pos := pos) (py := py) (y := y) (l := spos.line) (env := X.env)
  cases b with
  | true => exact (ps_setDg (X := X) (O := fun _ => .dK []) hO (dKy_set X) c.calm c.nd hy (hloc rfl) hb (hi E hx) ok hg' ht' hk' he' hs).imp fun D σ H h => dc_tE hv (hf E) h
  | false => exact (ps_set c.nd hy hl pe hb hff).imp fun D σ H h => dc_tE hv (hf E) h
theorem DCF (c : COk X) {kx vx tg iter : Expr} {ifs : List Expr} {scope : Scope} {pos : Pos} (own : List (Str × Nat)) {mi : IM} {t : Tg} {mt : BM} {mk mv : EM} (hi : JI X cls tg iter mi)
    (hg : ∀ (s : Shared) (H : Hp) (C : Addr) (cl : List (Str × Addr)) (fp : List Addr), JG (X.blk s H scope (compEnvC scope cl C X.env) fp) cls tg t)
    (ht : ∀ (s : Shared) (H : Hp) (C : Addr) (cl : List (Str × Addr)) (fp : List Addr), JTs (X.blk s H scope (compEnvC scope cl C X.env) fp) cls ifs mt)
    (hk : ∀ (s : Shared) (H : Hp) (C : Addr) (cl : List (Str × Addr)) (fp : List Addr), JE (X.blk s H scope (compEnvC scope cl C X.env) fp) cls kx mk)
    (he : ∀ (s : Shared) (H : Hp) (C : Addr) (cl : List (Str × Addr)) (fp : List Addr), JE (X.blk s H scope (compEnvC scope cl C X.env) fp) cls vx mv)
    (ok : blkB X.N X.env.scope scope own = true := by rfl) (hs : ∀ x, foldedSetIterable iter X.env x = pure x := by intro _; rfl) (hv : ∀ i ∈ slotsT t, i ∈ own.map (·.2) := by decide +kernel) :
    JE X cls (.DictComp kx vx [⟨tg, iter, ifs, 0⟩] scope pos) (mDcF mi t mt mk mv own) := JE_dc c (fun E Z ρ1 ρ' H1 H' mh' D kvs ks Q e h0 hz rh hD rk q => frzD_to e h0 hz rh hD rk q) hi hg ht hk he (blkB_ok ok) hs hv
theorem DCO (c : COk X) {kx vx tg iter : Expr} {ifs : List Expr} {scope : Scope} {pos : Pos} (own : List (Str × Nat)) {mi : IM} {t : Tg} {mt : BM} {mk mv : EM} (hi : JI X cls tg iter mi)
    (hg : ∀ (s : Shared) (H : Hp) (C : Addr) (cl : List (Str × Addr)) (fp : List Addr), JG (X.blk s H scope (compEnvC scope cl C X.env) fp) cls tg t)
    (ht : ∀ (s : Shared) (H : Hp) (C : Addr) (cl : List (Str × Addr)) (fp : List Addr), JTs (X.blk s H scope (compEnvC scope cl C X.env) fp) cls ifs mt)
    (hk : ∀ (s : Shared) (H : Hp) (C : Addr) (cl : List (Str × Addr)) (fp : List Addr), JE (X.blk s H scope (compEnvC scope cl C X.env) fp) cls kx mk)
    (he : ∀ (s : Shared) (H : Hp) (C : Addr) (cl : List (Str × Addr)) (fp : List Addr), JE (X.blk s H scope (compEnvC scope cl C X.env) fp) cls vx mv)
    (ok : blkB X.N X.env.scope scope own = true := by rfl) (hs : ∀ x, foldedSetIterable iter X.env x = pure x := by intro _; rfl) (hv : ∀ i ∈ slotsT t, i ∈ own.map (·.2) := by decide +kernel) :
    JE X cls (.DictComp kx vx [⟨tg, iter, ifs, 0⟩] scope pos) (mDcO mi t mt mk mv own) := JE_dc c (fun E Z ρ1 ρ' H1 H' mh' D kvs ks Q e h0 hz rh hD rk q => objD_to e h0 hz rh hD rk q) hi hg ht hk he (blkB_ok ok) hs hv
end
end EL


set_option Elab.async false
set_option linter.all false
set_option maxRecDepth 100000
set_option maxHeartbeats 4000000
/-! EL: x[::-1] of a tuple. -/
namespace EL
open PySem PySem.Spec L2 PySem.W PyProof.Rows
section
variable {prog : Program} {w : World} {A : Around} {E : Value → Shared → Prop} {s : Shared}
theorem adj_rev (n : Nat) : Builtin.Slice.sliceAdjust none none (-1) (n : Int) = ((n : Int) - 1, -1) := by
  unfold Builtin.Slice.sliceAdjust
  simp
theorem plc_rev (n : Nat) : Builtin.Slice.slicePlaces ((n : Int) - 1) (-1) (-1) = n := by
  unfold Builtin.Slice.slicePlaces
  simp
  omega
theorem apl_rev {sl : Addr} {vl vu vs : Value} {n : Nat} {Q : Int × Int × Nat → Shared → Prop} (hs : s.heap.IsSliceOf sl vl vu vs) (pl : IsPart vl none) (pu : IsPart vu none) (pz : IsPart vs (some (-1)))
    (h : Q ((n : Int) - 1, -1, n) s) : wpAny (model prog w) A (Builtin.Slice.sliceApplied (.ref sl) (pure (n : Int))) Q E s := by
  obtain ⟨os, k1, k2, k3⟩ := id hs
  unfold Builtin.Slice.sliceApplied Builtin.Slice.sliceFields
  refine wpAny_bind (wpAny_bind (wpAny_field k1 k3 (x := vl) rfl (wpAny_bind (wpAny_field k1 k3 (x := vu) rfl (wpAny_bind (wpAny_field k1 k3 (x := vs) rfl (wpAny_pure ?_)))))))
  refine wpAny_bind (HT.slicePart_ pz ?_)
  show wpAny _ _ (if ((-1 : Int) == 0) = true then _ else _) _ _ s
  rw [if_neg (by decide)]
  refine wpAny_bind (HT.slicePart_ pl (wpAny_bind (HT.slicePart_ pu (wpAny_bind (wpAny_pure ?_)))))
  show wpAny _ _ (match Builtin.Slice.sliceAdjust none none (-1) (n : Int) with | (lo, hi) => pure (lo, (-1 : Int), Builtin.Slice.slicePlaces lo hi (-1))) _ _ s
  rw [adj_rev n]
  show wpAny _ _ (pure ((n : Int) - 1, (-1 : Int), Builtin.Slice.slicePlaces ((n : Int) - 1) (-1) (-1))) _ _ s
  rw [plc_rev]
  exact wpAny_pure h
theorem fm_congr {α β : Type} {f g : α → Option β} : ∀ {l : List α}, (∀ x, x ∈ l → f x = g x) → l.filterMap f = l.filterMap g
  | [], _ => rfl
  | a :: l, h => by rw [List.filterMap_cons, List.filterMap_cons, h a List.mem_cons_self, fm_congr fun x hx => h x (List.mem_cons_of_mem _ hx)]
theorem pick_rev (xs : Array Value) : ((List.range xs.size).filterMap fun (m : Nat) => xs[(((xs.size : Int) - 1) + (m : Int) * -1).toNat]?).toArray = xs.toList.reverse.toArray := by
  congr 1
  have e : (List.range xs.size).filterMap (fun (m : Nat) => xs[(((xs.size : Int) - 1) + (m : Int) * -1).toNat]?) = (List.range xs.size).filterMap fun m => xs.toList.reverse[m]? := by
    refine fm_congr fun m hm => ?_
    have hm := List.mem_range.mp hm
    rw [List.getElem?_reverse (by simpa using hm)]
    have : (((xs.size : Int) - 1) + (m : Int) * -1).toNat = xs.toList.length - 1 - m := by simp; omega
    rw [this]; simp
  rw [e]
  have l : xs.size = xs.toList.reverse.length := by simp
  rw [l]
  generalize xs.toList.reverse = ys
  induction ys with
  | nil => rfl
  | cons y ys ih =>
    rw [List.length_cons, List.range_succ_eq_map, List.filterMap_cons, List.filterMap_map]
    simp only [List.getElem?_cons_zero]
    congr 1
theorem get_rev {t sl : Addr} {items : Array Value} {vl vu vs : Value} {Q : Value → Shared → Prop} (ht : IsTup s.heap t items) (hs : s.heap.IsSliceOf sl vl vu vs) (pl : IsPart vl none) (pu : IsPart vu none) (pz : IsPart vs (some (-1)))
    (h : Q (.ref s.heap.objs.size) { s with heap := s.heap.push { cls := .type "tuple", data := .seq items.toList.reverse.toArray } }) (hsz : items.size ≤ sizeLine) : wpAny (model prog w) A (getItem (.ref t) (.ref sl)) Q E s := by
  have hok : sizeOk (.seq items.toList.reverse.toArray) := by
    show items.toList.reverse.toArray.size ≤ sizeLine
    simp; exact hsz
  obtain ⟨os, k1, k2, k3⟩ := id hs
  have hTs : s.TypeIs (.ref sl) "slice" := ⟨os, k1, k2⟩
  unfold getItem
  try with_reducible refine wpAny_holding ?_
  first | refine wpAny_bind (wpAny_pure ?_) | skip
  refine wpAny_bind (wpAny_sequenceKey ht.typeIs (by decide) ?_)
  refine wpAny_bind (wpAny_callSpecial?_slot (name := Str.ofString "__getitem__") ht.typeIs PyProof.Rows.slot_tuple_getitem (wpAny_call_entry PyProof.Rows.slot_tuple_getitem ht.typeIs PyProof.Rows.entry_tuple_getitem ?_ (PyProof.Rows.args_tuple_getitem _ _)))
  show wpAny _ _ (Builtin.Tuple.tupleItemsOf (.ref t) >>= _) _ _ s
  refine wpAny_bind (tupleItemsOf_ ht ?_)
  refine wpAny_bind (wpAny_typeOf hTs ?_)
  rw [if_pos (by decide)]
  refine wpAny_bind (apl_rev hs pl pu pz ?_)
  have hno : ¬ ((((items.size : Int) - 1) == 0 && (-1 : Int) == 1 && items.size == items.size) = true) := by simp
  show wpAny _ _ (if (((items.size : Int) - 1) == 0 && (-1 : Int) == 1 && items.size == items.size) = true then _ else _) _ _ s
  rw [if_neg hno, pick_rev]
  first
    | exact wpAny_bind (m := Builtin.Tuple.tupleExact _) (wpAny_newObj_type (wpAny_pure ⟨_, rfl, wpAny_pure h⟩) hok)
    | exact wpAny_bind (m := Builtin.Tuple.tupleExact _) (wpAny_newObj_type (wpAny_bind (wpAny_pure (wpAny_pure ⟨_, rfl, wpAny_pure h⟩))) hok)
    | exact wpAny_bind (wpAny_bind (m := Builtin.Tuple.tupleExact _) (wpAny_newObj_type (wpAny_pure (wpAny_pure ⟨_, rfl, wpAny_pure h⟩)) hok))
    | exact wpAny_bind (wpAny_bind (m := Builtin.Tuple.tupleExact _) (wpAny_newObj_type (wpAny_pure ⟨_, rfl, wpAny_pure h⟩) hok))
end
end EL


set_option Elab.async false
set_option linter.all false
set_option maxRecDepth 100000
set_option maxHeartbeats 4000000
/-! EL: x[::-1], dict(pairs), d[k] += e. -/
namespace EL
open PySem PySem.Spec L2 PySem.W PyProof.Rows
section
variable {X : Cx} {cls : Nat → Addr} {e a b o i : Expr} {me ma mo mi : EM} {pos pos' tpos : Pos}
/-! ### x[::-1] -/
def tRevT (K : PySem.W.Frag) (te : TE) : TE := fun σ H Q => te σ H fun x H1 => ∃ a xs, x = .ref a ∧ SqT K H1 a xs ∧ ∀ p o, IsT o → H1 p = none → Q (.ref p) (upd H1 p (.frz o (.tup xs.reverse)))
theorem pe_revT {te : TE} {k : Nat} {p1 p2 p3 : Pos} (he : PE X e te) : PE X (.Subscript e (.Slice none none (some (.UnaryOp .USub (.Constant (.int 1) k p1) p2)) p3) pos) (tRevT X.K te) := by
  refine ⟨fun pins s σ H Q I h => Subscript_ (thn (he.run pins s σ H _ I h) fun v s1 ⟨x, H1, I1, rx, q1⟩ => ?_)⟩
  obtain ⟨t, xs, ex, hx, q⟩ := q1
  subst ex
  cases rx
  have stp : PO X (some (.UnaryOp .USub (.Constant (.int 1) k p1) p2)) (tPart (tUn (rU fun i => .int (-i)) (tC (.int 1)))) := po_some (pe_un un_neg pe_int)
  refine wpAny_Slice (thn (po_none.run pins s1 σ H1 (fun o G => o = none ∧ G = H1) I1 ⟨rfl, rfl⟩) fun vl s2 ⟨l, G2, I2, pl, el, g2⟩ => ?_)
  subst el g2
  refine thn (po_none.run pins s2 σ G2 (fun o G => o = none ∧ G = G2) I2 ⟨rfl, rfl⟩) fun vu s3 ⟨u, G3, I3, pu, eu, g3⟩ => ?_
  subst eu g3
  refine thn (stp.run pins s3 σ G3 (fun o G => o = some (-1) ∧ G = G3) I3 ⟨1, rfl, -1, rfl, rfl, rfl⟩) fun vs s4 ⟨z, G4, I4, pz, ez, g4⟩ => ?_
  subst ez g4
  have I5 : Inv X pins σ G4 { s4 with heap := s4.heap.push { cls := .type "slice", data := .fields #[vl, vu, vs] } } := I4.kept (t' := s4.toks) fun b ob q => Heap.get?_push_of_some _ q
  obtain ⟨its, rv, ht, hz⟩ := I5.tuple hx
  have hlen := rv.length
  show wpAny (model X.prog X.w) X.A (subscriptTail e (.Slice none none (some (.UnaryOp .USub (.Constant (.int 1) k p1) p2)) p3) (.ref t) (.ref s4.heap.objs.size)) (EP X pins σ Q) X.xe { s4 with heap := s4.heap.push { cls := .type "slice", data := .fields #[vl, vu, vs] } }
  refine tail_any (ops := [.ref t, .ref s4.heap.objs.size]) ht.typeIs (PyProof.Rows.slot_tuple_getitem.lookup) ?_ (by with_unfolding_all rfl)
  refine get_rev ht (Heap.IsSliceOf.new _ vl vu vs) pl pu pz ?_ (by rw [List.size_toArray]; omega)
  have hr := laidF (k := s4.toks) I5 rv.reverse (by rw [List.length_reverse]; exact hz) q
  simpa using hr
theorem RDs.reverse {K : PySem.W.Frag} {Z ρ : List Addr} {H : Hp} : ∀ {x : List PyData} {v : List V}, RDs K Z ρ H x v → RDs K Z ρ H x.reverse v.reverse
  | _, _, .nil => .nil
  | _, _, .cons h r => by rw [List.reverse_cons, List.reverse_cons]; exact RDs.append (RDs.reverse r) (.cons h .nil)
def kRev : PV → Mh → Res PV := fun v mh => match v with
  | .d (.tuple ds) => .ok (.d (.tuple ds.reverse)) mh
  | .d (.list ds) => .ok (.d (.list ds.reverse)) mh
  | .ref n => match mh[n]? with
    | some (.lst l) => frzL l.reverse mh
    | _ => .bad
  | _ => .bad
def mRev (me : EM) : EM := fun lo mh => (me lo mh).bind kRev
theorem JE_rev (c : COk X) {k : Nat} {p1 p2 p3 : Pos} (he : JE X cls e me) : JE X cls (.Subscript e (.Slice none none (some (.UnaryOp .USub (.Constant (.int 1) k p1) p2)) p3) pos) (mRev me) := fun E hx =>
  (PEs_or (.of c (pe_revT (he E hx).pe) fun _ _ _ => rfl) (.of c (pe_revL (he E hx).pe) fun _ _ _ => rfl)).imp fun σ H Q ⟨Z, ρ, lo, mh, s, p⟩ => by
    unfold mRev at p
    cases kk : me lo mh with
    | bad => rw [kk] at p; exact p.elim
    | exc c m => rw [kk] at p; exact .inl ⟨Z, ρ, lo, mh, s, by rw [kk]; exact p⟩
    | ok v mh1 =>
      rw [kk] at p
      simp only [Res.bind_ok] at p
      cases v with
      | dct _ => exact p.elim
      | scr _ => exact p.elim
      | tup l => exact p.elim
      | ref n =>
        dsimp only [kRev] at p
        split at p
        · rename_i l hl
          refine .inr ⟨Z, ρ, lo, mh, s, ?_⟩
          rw [kk]
          intro ρ' H' e r x rx
          cases rx with
          | @ref _ a ha =>
            cases r.objs n _ a hl ha with
            | lst h1 r1 => exact ⟨a, _, rfl, .of h1, fun q hq => new_frz r r1.reverse (p.later e) hq⟩
        · exact p.elim
      | d y =>
        cases y with
        | tuple ds =>
          refine .inl ⟨Z, ρ, lo, mh, s, ?_⟩
          rw [kk]
          intro ρ' H' e r x rx
          cases rx with
          | d rx => cases rx with
            | tup h1 r1 =>
              refine ⟨_, _, rfl, h1.sq, fun q o ho hq => ?_⟩
              have p' := p.later e
              exact (p'.later (Ext.new hq)).now (r.new hq) _ (.d (.tup (tupS_new r ho hq _) (r1.reverse.mono (Ext.new hq))))
        | list ds =>
          refine .inr ⟨Z, ρ, lo, mh, s, ?_⟩
          rw [kk]
          intro ρ' H' e r x rx
          cases rx with
          | d rx => cases rx with
            | lst h1 z1 r1 =>
              refine ⟨_, _, rfl, .of h1, fun q hq => ?_⟩
              have p' := p.later e
              exact (p'.later (Ext.new hq)).now (r.new hq) _ (.d (.lst upd_same (r.fz hq) (r1.reverse.mono (Ext.new hq))))
        | str z => exact p.elim
        | none => exact p.elim
        | bool _ => exact p.elim
        | int _ => exact p.elim
        | dict _ => exact p.elim
/-! ### dict(pairs), not written any more -/
def prOf : List PyData → Option (List (PyData × PV))
  | [] => some []
  | .tuple [k, x] :: r => if (kOf k).isSome = true then (prOf r).map ((k, .d x) :: ·) else none
  | _ :: _ => none
def nDict : OpN := fun vs mh => match vs with
  | [v] => match listOf mh v with
    | some l => match allD l with
      | some ds => match prOf ds with
        | some ps => .ok (.dct (foldD ps)) mh
        | none => .bad
      | none => .bad
    | none => .bad
  | _ => .bad
theorem prOf_ok {K : PySem.W.Frag} {Z ρ : List Addr} {H : Hp} : ∀ {ds : List PyData} {ps : List (PyData × PV)} {xs : List V}, prOf ds = some ps → RDs K Z ρ H ds xs →
    ∃ (as : List Addr) (kvs : List (Key × V)), xs = as.map V.ref ∧ Paired (fun p kv => SqT K H p [kV kv.1, kv.2]) as kvs ∧ RVk K Z ρ H ps kvs
  | [], ps, xs, h, r => by cases h; cases r; exact ⟨[], [], rfl, .nil, .nil⟩
  | d :: ds, ps, xs, h, r => by
    unfold prOf at h
    split at h
    · rename_i e; cases e
    · rename_i k x r' e
      injection e with e1 e2
      subst e1 e2
      split at h
      · rename_i hk
        cases q : prOf ds with
        | none => rw [q] at h; cases h
        | some ps' =>
          rw [q] at h; cases h
          obtain ⟨kk, hkk⟩ := Option.isSome_iff_exists.mp hk
          obtain rfl := kOf_kD hkk
          cases r with
          | cons r1 r2 =>
            obtain ⟨as, kvs, rfl, h2, h3⟩ := prOf_ok q r2
            cases r1 with
            | @tup t ts _ ht hr =>
              cases hr with
              | cons ra rb =>
                cases rb with
                | cons rb rc =>
                  cases rc
                  obtain rfl := ra.key hkk
                  exact ⟨t :: as, (kk, _) :: kvs, rfl, .cons ht.sq h2, .cons (.d rb) h3⟩
      · cases h
    · cases h
theorem cDict (c : COk X) : CaV X cls (.type "dict") nDict := fun E => CallR_imp (call_dictP c.calm) fun xs H Q ⟨Z, ρ, mh, vs, rh, rv, q⟩ => by
  unfold nDict at q
  split at q
  · rename_i v
    split at q
    · rename_i l hl
      split at q
      · rename_i ds hd
        split at q
        · rename_i ps hp
          cases rv with
          | cons r rn =>
            cases rn
            obtain ⟨t, ys, rfl, h1, r1⟩ := listOf_ok rh r hl
            rw [allD_ok hd] at r1
            obtain ⟨as, kvs, rfl, h2, h3⟩ := prOf_ok hp (RVs.toD r1)
            refine ⟨t, as, kvs, rfl, .of h1, h2, fun p hp => ?_⟩
            have h4 : RVk X.K Z ρ (upd H p (.dK (mergeK [] kvs))) (foldD ps) (mergeK [] kvs) := RVk.merge (h3.mono (Ext.new hp)) .nil
            exact (q.later (Ext.new hp)).now (rh.new hp) _ (.dct upd_same (rh.fz hp) h4)
        · exact q.elim
      · exact q.elim
    · exact q.elim
  · exact q.elim
/-! ### d[k] += e -/
def kDaug3 (lo : Lo) (o i : PV) (n : Int) : PV → Mh → SR := fun v mh3 => match v with
  | .d (.int m) => match o, i with
    | .ref r, .d d => match mh3[r]?, kOf d with
      | some (.dct kvs), some _ => if kvs.length < sizeLine then .nx lo (mh3.set r (.dct (putD kvs d (.d (.int (n + m)))))) else .bad
      | _, _ => .bad
    | _, _ => .bad
  | _ => .bad
def kDaug2 (me : EM) (lo : Lo) (o : PV) : PV → Mh → SR := fun i mh2 => match oDix o i mh2 with
  | .ok (.d (.int n)) _ => ofR (me lo mh2) (kDaug3 lo o i n)
  | _ => .bad
def kDaug1 (mi me : EM) (lo : Lo) : PV → Mh → SR := fun o mh1 => ofR (mi lo mh1) (kDaug2 me lo o)
def sDaug (mo mi me : EM) : SM := fun lo mh => ofR (mo lo mh) (kDaug1 mi me lo)
theorem kDaug3_inv {lo : Lo} {o i v : PV} {n : Int} {mh3 : Mh} (h : kDaug3 lo o i n v mh3 ≠ .bad) : ∃ m rr d kvs k, v = .d (.int m) ∧ o = .ref rr ∧ i = .d d ∧ mh3[rr]? = some (.dct kvs) ∧ kOf d = some k ∧ kvs.length < sizeLine ∧ kDaug3 lo o i n v mh3 = .nx lo (mh3.set rr (.dct (putD kvs d (.d (.int (n + m)))))) := by
  cases v with
  | d x =>
    cases x with
    | int m =>
      cases o with
      | ref rr =>
        cases i with
        | d d =>
          simp only [kDaug3] at h ⊢
          cases h1 : mh3[rr]? with
          | none => rw [h1] at h; exact absurd rfl h
          | some z =>
            cases z with
            | dct kvs =>
              rw [h1] at h
              cases h2 : kOf d with
              | none => rw [h2] at h; exact absurd rfl h
              | some k =>
                rw [h2] at h
                dsimp only at h ⊢
                by_cases h3 : kvs.length < sizeLine
                · refine ⟨m, rr, d, kvs, k, rfl, rfl, rfl, h1, h2, h3, ?_⟩
                  rw [if_pos h3]
                · rw [if_neg h3] at h; exact absurd rfl h
            | lst l => rw [h1] at h; exact absurd rfl h
            | ins a b => rw [h1] at h; exact absurd rfl h
        | _ => exact absurd rfl h
      | _ => exact absurd rfl h
    | _ => exact absurd rfl h
  | _ => exact absurd rfl h
theorem JS_daug (c : COk X) (ho : JE X cls o mo) (hi : JE X cls i mi) (he : JE X cls e me)
    (ha : ∀ ov iv new, augStore i ov iv new = (do holding [new, ov, iv] (setItem ov iv new); release [new, ov, iv] []; pure .next) := by intro _ _ _; rfl) :
    JS X cls (.AugAssign (.Subscript o i tpos) .Add e pos) (sDaug mo mi me) := fun E tk =>
  (ps_daug (by have := c.un; omega) (ho E (passT tk)).pe (hi E (passT tk)).pe (he E (passT tk)).pe in_add ha).imp fun D σ H ⟨Z, ρ, lo, mh, s, p⟩ => by
    refine ⟨Z, ρ, lo, mh, s, (PostS.bind p).imp fun po ρ1 mh1 H1 e1 r1 q x rx => ?_⟩
    refine ⟨Z, ρ1, lo, mh1, s.to e1 r1, (PostS.bind q).imp fun pi ρ2 mh2 H2 e2 r2 q2 y ry => ?_⟩
    unfold kDaug2 at q2
    split at q2
    · rename_i n mh0 hdx
      cases hm : me lo mh2 with
      | bad => rw [hm] at q2; exact q2.elim
      | exc cc mm =>
        obtain ⟨kvs, d, k, ha', rfl, hk, hlk⟩ : ∃ kvs d k, dOf mh2 po = some kvs ∧ pi = .d d ∧ kOf d = some k ∧ look d kvs = some (.d (.int n)) := by
          unfold oDix at hdx
          split at hdx
          · rename_i kvs d h1
            split at hdx
            · rename_i k h2
              split at hdx
              · rename_i w h3
                cases hdx
                exact ⟨kvs, d, k, h1, rfl, h2, h3⟩
              · cases hdx
            · cases hdx
          · cases hdx
        obtain ⟨a1, ks, rfl, hH, rk⟩ := dOf_ok r2 (rx.mono e2) ha'
        cases ry with
        | d ry =>
          obtain rfl := ry.key hk
          have hlk2 := hlk
          rw [kOf_kD hk] at hlk2
          rcases rk.look (k := k) with ⟨h1, _⟩ | ⟨v1, x1, h1, h2, r3⟩
          · rw [h1] at hlk2; cases hlk2
          · rw [h1] at hlk2; cases hlk2
            refine ⟨a1, x1, rfl, dget_of hH h2, Z, ρ2, lo, mh2, (s.to e1 r1).to e2 r2, ?_⟩
            rw [hm] at q2 ⊢
            exact q2
      | ok pv mh3 =>
        rw [hm] at q2
        obtain ⟨kvs, d, k, ha', rfl, hk, hlk⟩ : ∃ kvs d k, dOf mh2 po = some kvs ∧ pi = .d d ∧ kOf d = some k ∧ look d kvs = some (.d (.int n)) := by
          unfold oDix at hdx
          split at hdx
          · rename_i kvs d h1
            split at hdx
            · rename_i k h2
              split at hdx
              · rename_i w h3
                cases hdx
                exact ⟨kvs, d, k, h1, rfl, h2, h3⟩
              · cases hdx
            · cases hdx
          · cases hdx
        obtain ⟨a1, ks, rfl, hH, rk⟩ := dOf_ok r2 (rx.mono e2) ha'
        cases ry with
        | d ry =>
          obtain rfl := ry.key hk
          have hlk2 := hlk
          rw [kOf_kD hk] at hlk2
          rcases rk.look (k := k) with ⟨h1, _⟩ | ⟨v1, x1, h1, h2, r3⟩
          · rw [h1] at hlk2; cases hlk2
          · rw [h1] at hlk2; cases hlk2
            refine ⟨a1, x1, rfl, dget_of hH h2, Z, ρ2, lo, mh2, (s.to e1 r1).to e2 r2, ?_⟩
            rw [hm]
            intro ρ3 H3 e3 r4 z rz
            have q3 : PostS X.K cls D E Z ρ2 H2 (kDaug3 lo po (.d d) n pv mh3) := q2
            obtain ⟨m, rr, d', kvs3, k3, rfl, rfl, e5, hr3, hk3, hl3, e6⟩ := kDaug3_inv q3.ne
            cases e5
            rw [e6] at q3
            cases rz with
            | d rz =>
              cases rz
              cases r3 with
              | d r3 =>
                cases r3
                refine ⟨n, m, rfl, rfl, ?_⟩
                have hdd := kOf_kD hk
                cases rx with
                | @ref _ a2 hat =>
                  have hat3 := e3.at (e2.at hat)
                  cases r4.objs rr _ _ hr3 hat3 with
                  | @dct _ ks3 _ h5 rk3 =>
                    have rk4 := rk3.put (k := k) (v := .d (.int (n + m))) (x := .int (n + m)) (.d (.int _))
                    have w := r4.wrD (l := putD kvs3 (kD k) (.d (.int (n + m)))) hat3 rk4
                    refine ⟨_, DPut.k h5 (by rw [← rk3.length]; exact hl3), ?_⟩
                    have q5 := q3.later (e3.trans w.2)
                    rw [hdd] at q5
                    exact q5.nxt ((((s.to e1 r1).to e2 r2).to e3 r4).to w.2 w.1)
    · exact q2.elim
end
end EL


set_option Elab.async false
set_option linter.all false
set_option maxRecDepth 100000
set_option maxHeartbeats 4000000
/-! EL: dicts, reversed things, whiles, by values. -/
namespace EL
open PySem L2 PySem.W
section
variable {lo : Lo} {mh mh1 mh2 : Mh} {v u w : PV} {me mo mi mk mv : EM} {mt : BM} {m : SM}
theorem alt2_ok {o p : Op2} {r : PV} (h : o v u mh = .ok r mh1) : alt2 o p v u mh = .ok r mh1 := by unfold alt2; rw [h]
theorem alt2_bd {o p : Op2} (h : o v u mh = .bad) : alt2 o p v u mh = p v u mh := by unfold alt2; rw [h]
theorem eqv_str (a b : Str) : PyData.eqv (.str a) (.str b) = decide (a = b) := by
  simp only [PyData.eqv]
  by_cases h : a = b
  · subst h; simp
  · simp [h]
/-- a dict as it stands: frozen, or one that may be written -/
structure IsDc (mh : Mh) (v : PV) (kvs : List (PyData × PV)) : Prop where
  d : dOf mh v = some kvs
  n : dataOf mh v = none
  s : seqOf mh v = none
theorem IsDc.dct (kvs : List (PyData × PV)) : IsDc mh (.dct kvs) kvs := ⟨rfl, rfl, rfl⟩
theorem IsDc.ref {n : Nat} {kvs : List (PyData × PV)} (h : mh[n]? = some (.dct kvs)) : IsDc mh (.ref n) kvs := by
  refine ⟨?_, ?_, ?_⟩
  · simp only [dOf, h]
  · simp only [dataOf, h]
  · simp only [seqOf, listOf, h, tupOf]
theorem in_dc {x : PyData} {k : Key} {kvs : List (PyData × PV)} (h : IsDc mh v kvs) (hk : kOf x = some k) : oIn (.d x) v mh = .ok (.d (.bool (dHas x kvs))) mh := by
  have e1 : oInS (.d x) v mh = .bad := by unfold oInS oD; rw [dataOf_d, h.n]
  have e2 : oDin true (.d x) v mh = .ok (.d (.bool (dHas x kvs))) mh := by
    unfold oDin
    rw [h.d]
    dsimp only
    rw [hk]
    simp
  show alt2 oInS (alt2 (oDin true) (oInT false)) (.d x) v mh = _
  rw [alt2_bd e1]
  exact alt2_ok e2
theorem nin_dc {x : PyData} {k : Key} {kvs : List (PyData × PV)} (h : IsDc mh v kvs) (hk : kOf x = some k) : oNin (.d x) v mh = .ok (.d (.bool (!dHas x kvs))) mh := by
  have e1 : oNinS (.d x) v mh = .bad := by unfold oNinS oD; rw [dataOf_d, h.n]
  have e2 : oDin false (.d x) v mh = .ok (.d (.bool (!dHas x kvs))) mh := by
    unfold oDin
    rw [h.d]
    dsimp only
    rw [hk]
    simp
  show alt2 oNinS (alt2 (oDin false) (oInT true)) (.d x) v mh = _
  rw [alt2_bd e1]
  exact alt2_ok e2
theorem ix_dc {x : PyData} {k : Key} {kvs : List (PyData × PV)} (h : IsDc mh v kvs) (hk : kOf x = some k) (hl : look x kvs = some w) : oIxA v (.d x) mh = .ok w mh := by
  have e1 : oIx v (.d x) mh = .bad := by
    have hs := h.s
    have hd := h.d
    unfold oIx
    rw [hs]
    cases v <;> cases x <;> first | rfl | (simp [dOf] at hd)
  have e2 : oDix v (.d x) mh = .ok w mh := by
    unfold oDix
    rw [h.d]
    dsimp only
    rw [hk]
    dsimp only
    rw [hl]
  show alt2 oIx oDix v (.d x) mh = _
  rw [alt2_bd e1]
  exact e2
theorem get_dc {x : PyData} {k : Key} {kvs : List (PyData × PV)} (h : IsDc mh v kvs) (hk : kOf x = some k) : oDget v [.d x, w] mh = .ok ((look x kvs).getD w) mh := by
  unfold oDget
  rw [h.d]
  dsimp only
  rw [hk]
theorem tyM_dct {n : Nat} {kvs : List (PyData × PV)} (h : mh[n]? = some (.dct kvs)) : tyM mh "dict" (.ref n) = true := by simp [tyM, h]
@[simp] theorem mNewD_ap : mNewD lo mh = .ok (.ref mh.length) (mh ++ [.dct []]) := rfl
def kSub3 (lo : Lo) (v o : PV) : PV → Mh → SR := fun i mh3 => match setP o i v mh3 with
  | some mh4 => .nx lo mh4
  | none => .bad
def kSub2 (mi : EM) (lo : Lo) (v : PV) : PV → Mh → SR := fun o mh2 => ofR (mi lo mh2) (kSub3 lo v o)
def kSub1 (mo mi : EM) (lo : Lo) : PV → Mh → SR := fun v mh1 => ofR (mo lo mh1) (kSub2 mi lo v)
@[simp] theorem sSub_ap : sSub me mo mi lo mh = ofR (me lo mh) (kSub1 mo mi lo) := rfl
@[simp] theorem kSub1_ap : kSub1 mo mi lo v mh = ofR (mo lo mh) (kSub2 mi lo v) := rfl
@[simp] theorem kSub2_ap : kSub2 mi lo v u mh = ofR (mi lo mh) (kSub3 lo v u) := rfl
theorem kSub3_dct {n : Nat} {x : PyData} {k : Key} {kvs : List (PyData × PV)} (h : mh[n]? = some (.dct kvs)) (hk : kOf x = some k) (hl : kvs.length < 16777216) : kSub3 lo v (.ref n) (.d x) mh = .nx lo (mh.set n (.dct (putD kvs x v))) := by
  unfold kSub3 setP
  dsimp only
  rw [h]
  dsimp only
  rw [hk]
  dsimp only
  rw [if_pos (by rw [sizeLine_eq]; exact hl)]
@[simp] theorem sDaug_ap : sDaug mo mi me lo mh = ofR (mo lo mh) (kDaug1 mi me lo) := rfl
@[simp] theorem kDaug1_ap : kDaug1 mi me lo v mh = ofR (mi lo mh) (kDaug2 me lo v) := rfl
theorem kDaug2_ok {n : Int} {r : Nat} {x : PyData} {k : Key} {kvs : List (PyData × PV)} {j : Int} (h : mh[r]? = some (.dct kvs)) (hk : kOf x = some k) (hl : look x kvs = some (.d (.int n))) (hz : kvs.length < 16777216) (he : me lo mh = .ok (.d (.int j)) mh) :
    kDaug2 me lo (.ref r) (.d x) mh = .nx lo (mh.set r (.dct (putD kvs x (.d (.int (n + j)))))) := by
  have e2 : oDix (.ref r) (.d x) mh = .ok (.d (.int n)) mh := by
    unfold oDix
    rw [(IsDc.ref h).d]
    dsimp only
    rw [hk]
    dsimp only
    rw [hl]
  unfold kDaug2
  rw [e2]
  show ofR (me lo mh) _ = _
  rw [he]
  show kDaug3 lo (.ref r) (.d x) n (.d (.int j)) mh = _
  simp only [kDaug3, h, hk]
  exact if_pos (by rw [sizeLine_eq]; exact hz)
@[simp] theorem mRev_ap : mRev me lo mh = (me lo mh).bind kRev := rfl
@[simp] theorem kRev_t (ds : List PyData) : kRev (.d (.tuple ds)) mh = .ok (.d (.tuple ds.reverse)) mh := rfl
@[simp] theorem kRev_l (ds : List PyData) : kRev (.d (.list ds)) mh = .ok (.d (.list ds.reverse)) mh := rfl
theorem addStr_ok {a b : Str} (h : a.length + b.length ≤ 16777216) : oAddStr (.d (.str a)) (.d (.str b)) mh = .ok (.d (.str (a ++ b))) mh := by
  unfold oAddStr
  dsimp only
  rw [if_pos (by rw [sizeLine_eq]; exact h)]
theorem nSum_l (ns : List Int) : nSum [.d (.list (ns.map .int))] mh = .ok (.d (.int ns.sum)) mh := by
  unfold nSum listOf
  dsimp only
  rw [allD_map]
  dsimp only
  rw [intsOf_map]
theorem cnt_t {ds : List PyData} {x : PyData} (h : min (PyData.depthAll ds) x.depth ≤ 64) : oCountT (.d (.tuple ds)) [.d x] mh = .ok (.d (.int ((ds.countP fun y => PyData.eqv y x : Nat) : Int))) mh := by
  show (match dataOf mh (.d (.tuple ds)), dataOf mh (.d x) with
    | some (.tuple ds), some d => if min (PyData.depthAll ds) d.depth ≤ 64 then Res.ok (PV.d (.int ((ds.countP fun y => PyData.eqv y d : Nat) : Int))) mh else .bad
    | _, _ => .bad) = _
  rw [dataOf_d, dataOf_d]
  exact if_pos h
/-! dict comprehensions -/
theorem dcF_to {γ : Type} {t : Tg} {own : List (Str × Nat)} {gg : Mh → Prop} {mi : IM} (xs : List γ) (fv : γ → PV) (kf : γ → PyData) (vf : γ → PV) (hi : mi lo mh = .ok (xs.map fv, gg) mh) (hg : gg mh) (hk : ∀ x, x ∈ xs → (kOf (kf x)).isSome = true) (hl : xs.length ≤ 16777216)
    (h : ∀ x, x ∈ xs → ∃ us, tgt t (fv x) = some us ∧ mk (upL (wipeL lo (own.map (·.2))) us) mh = .ok (.d (kf x)) mh ∧ mv (upL (wipeL lo (own.map (·.2))) us) mh = .ok (vf x) mh) :
    mDcF mi t bYes mk mv own lo mh = .ok (.dct (foldD (xs.map fun x => (kf x, vf x)))) mh := by
  have e : ∀ ys : List γ, (∀ x, x ∈ ys → x ∈ xs) → lcL gg t bYes (pairE mk mv) (wipeL lo (own.map (·.2))) (ys.map fv) mh = .ok (ys.map fun x => .tup [.d (kf x), vf x]) mh := by
    intro ys
    induction ys with
    | nil => intro _; simp only [List.map_nil, lcL, if_pos hg]
    | cons y ys ih =>
      intro hy
      obtain ⟨us, h1, h2, h3⟩ := h y (hy y List.mem_cons_self)
      have ih' := ih fun x hx => hy x (List.mem_cons_of_mem _ hx)
      simp only [List.map_cons, lcL, if_pos hg, h1, bYes_ap, noX_ok, Res.bind_ok, if_true, pairE, h2, h3, ih']
  have hp : ∀ ys : List γ, (∀ x, x ∈ ys → x ∈ xs) → dkP (ys.map fun x => .tup [.d (kf x), vf x]) = some (ys.map fun x => (kf x, vf x)) := by
    intro ys
    induction ys with
    | nil => intro _; rfl
    | cons y ys ih =>
      intro hy
      rw [List.map_cons, dkP, if_pos (hk y (hy y List.mem_cons_self)), ih fun x hx => hy x (List.mem_cons_of_mem _ hx)]
      rfl
  unfold mDcF dcM
  rw [hi, Res.bind_ok]
  dsimp only
  rw [e xs fun _ h => h, Res.bind_ok]
  unfold finD
  rw [hp xs fun _ h => h]
  dsimp only
  rw [if_pos (by rw [List.length_map, sizeLine_eq]; exact hl)]
  rfl
theorem dcO_to {γ : Type} {t : Tg} {own : List (Str × Nat)} {gg : Mh → Prop} {mi : IM} (xs : List γ) (fv : γ → PV) (kf : γ → PyData) (vf : γ → PV) (hi : mi lo mh = .ok (xs.map fv, gg) mh) (hg : gg mh) (hk : ∀ x, x ∈ xs → (kOf (kf x)).isSome = true) (hl : xs.length ≤ 16777216)
    (h : ∀ x, x ∈ xs → ∃ us, tgt t (fv x) = some us ∧ mk (upL (wipeL lo (own.map (·.2))) us) mh = .ok (.d (kf x)) mh ∧ mv (upL (wipeL lo (own.map (·.2))) us) mh = .ok (vf x) mh) :
    mDcO mi t bYes mk mv own lo mh = .ok (.ref mh.length) (mh ++ [.dct (foldD (xs.map fun x => (kf x, vf x)))]) := by
  have e : ∀ ys : List γ, (∀ x, x ∈ ys → x ∈ xs) → lcL gg t bYes (pairE mk mv) (wipeL lo (own.map (·.2))) (ys.map fv) mh = .ok (ys.map fun x => .tup [.d (kf x), vf x]) mh := by
    intro ys
    induction ys with
    | nil => intro _; simp only [List.map_nil, lcL, if_pos hg]
    | cons y ys ih =>
      intro hy
      obtain ⟨us, h1, h2, h3⟩ := h y (hy y List.mem_cons_self)
      have ih' := ih fun x hx => hy x (List.mem_cons_of_mem _ hx)
      simp only [List.map_cons, lcL, if_pos hg, h1, bYes_ap, noX_ok, Res.bind_ok, if_true, pairE, h2, h3, ih']
  have hp : ∀ ys : List γ, (∀ x, x ∈ ys → x ∈ xs) → dkP (ys.map fun x => .tup [.d (kf x), vf x]) = some (ys.map fun x => (kf x, vf x)) := by
    intro ys
    induction ys with
    | nil => intro _; rfl
    | cons y ys ih =>
      intro hy
      rw [List.map_cons, dkP, if_pos (hk y (hy y List.mem_cons_self)), ih fun x hx => hy x (List.mem_cons_of_mem _ hx)]
      rfl
  unfold mDcO dcM
  rw [hi, Res.bind_ok]
  dsimp only
  rw [e xs fun _ h => h, Res.bind_ok]
  unfold finD
  rw [hp xs fun _ h => h]
  dsimp only
  rw [if_pos (by rw [List.length_map, sizeLine_eq]; exact hl)]
  rfl
/-- dict(pairs) -/
theorem prOf_map {γ : Type} (xs : List γ) (kf vf : γ → PyData) (hk : ∀ x, x ∈ xs → (kOf (kf x)).isSome = true) : prOf (xs.map fun x => .tuple [kf x, vf x]) = some (xs.map fun x => (kf x, .d (vf x))) := by
  induction xs with
  | nil => rfl
  | cons x xs ih =>
    rw [List.map_cons, prOf, if_pos (hk x List.mem_cons_self), ih fun y hy => hk y (List.mem_cons_of_mem _ hy)]
    rfl
theorem nDict_l {γ : Type} (xs : List γ) (kf vf : γ → PyData) (hk : ∀ x, x ∈ xs → (kOf (kf x)).isSome = true) : nDict [.d (.list (xs.map fun x => .tuple [kf x, vf x]))] mh = .ok (.dct (foldD (xs.map fun x => (kf x, .d (vf x))))) mh := by
  unfold nDict listOf
  dsimp only
  rw [allD_map]
  dsimp only
  rw [prOf_map xs kf vf hk]
/-! while -/
theorem fuel_ge (k : Nat) (h : k ≤ 1000000) : fuel = (fuel - k) + k := by
  have : (1000000 : Nat) ≤ fuel := by decide +kernel
  omega
theorem whL_f {n : Nat} (h : mt lo mh = .ok false mh1) : whL mt m (n + 1) lo mh = .nx lo mh1 := by
  unfold whL
  rw [h]
  rfl
theorem whL_t {n : Nat} {lo' : Lo} (h : mt lo mh = .ok true mh1) (h2 : m lo mh1 = .nx lo' mh2 ∨ m lo mh1 = .ct lo' mh2) : whL mt m (n + 1) lo mh = whL mt m n lo' mh2 := by
  rw [whL]
  rw [h]
  simp only [ofR_ok, if_true]
  rcases h2 with h2 | h2 <;> rw [h2]
end
/-! dicts whose keys are texts -/
abbrev SKv := List (Str × PV)
def kvS (ps : SKv) : List (PyData × PV) := ps.map fun p => (.str p.1, p.2)
def lookS (ps : SKv) (z : Str) : Option PV := (ps.find? fun p => decide (p.1 = z)).map (·.2)
def putS (ps : SKv) (z : Str) (v : PV) : SKv := if (ps.any fun p => decide (p.1 = z)) = true then ps.map (fun p => if p.1 = z then (p.1, v) else p) else ps ++ [(z, v)]
theorem kvS_len (ps : SKv) : (kvS ps).length = ps.length := by unfold kvS; simp
theorem look_kvS (ps : SKv) (z : Str) : look (.str z) (kvS ps) = lookS ps z := by
  unfold look lookS kvS
  rw [List.find?_map, Option.map_map]
  rfl
theorem has_kvS (ps : SKv) (z : Str) : dHas (.str z) (kvS ps) = decide (z ∈ ps.map (·.1)) := by
  unfold dHas
  rw [look_kvS]
  unfold lookS
  rw [Option.isSome_map, Bool.eq_iff_iff, List.find?_isSome, decide_eq_true_eq, List.mem_map]
  simp only [decide_eq_true_eq]
theorem any_kvS (ps : SKv) (z : Str) : ((kvS ps).any fun p => keyEq p.1 (.str z)) = ps.any fun p => decide (p.1 = z) := by
  unfold kvS
  rw [List.any_map]
  rfl
theorem put_kvS (ps : SKv) (z : Str) (v : PV) : putD (kvS ps) (.str z) v = kvS (putS ps z v) := by
  unfold putD putS
  rw [any_kvS]
  split
  · unfold kvS
    rw [List.map_map, List.map_map]
    refine List.map_congr_left fun p _ => ?_
    show (if keyEq (.str p.1) (.str z) = true then _ else _) = _
    by_cases h : p.1 = z
    · simp [keyEq, h]
    · simp [keyEq, h]
  · unfold kvS
    rw [List.map_append]
    rfl
theorem putS_new {ps : SKv} {z : Str} {v : PV} (h : z ∉ ps.map (·.1)) : putS ps z v = ps ++ [(z, v)] := by
  unfold putS
  rw [if_neg]
  intro q
  obtain ⟨p, hp, e⟩ := List.any_eq_true.mp q
  exact h (List.mem_map.mpr ⟨p, hp, of_decide_eq_true e⟩)
theorem foldD_kvS : ∀ {ps qs : SKv}, ((qs ++ ps).map (·.1)).Nodup → (kvS ps).foldl (fun acc p => putD acc p.1 p.2) (kvS qs) = kvS (qs ++ ps)
  | [], qs, _ => by simp [kvS]
  | p :: ps, qs, h => by
    have h1 : p.1 ∉ qs.map (·.1) := by
      rw [List.map_append, List.map_cons, List.nodup_append] at h
      intro hm
      exact h.2.2 _ hm _ List.mem_cons_self rfl
    show (kvS ps).foldl _ (putD (kvS qs) (.str p.1) p.2) = _
    rw [put_kvS, putS_new h1]
    have := foldD_kvS (ps := ps) (qs := qs ++ [p]) (by simpa using h)
    rw [this]
    simp
theorem foldD_S {γ : Type} (xs : List γ) (nf : γ → Str) (vf : γ → PV) (h : (xs.map nf).Nodup) : foldD (xs.map fun x => (.str (nf x), vf x)) = kvS (xs.map fun x => (nf x, vf x)) := by
  have e : (xs.map fun x => ((.str (nf x) : PyData), vf x)) = kvS (xs.map fun x => (nf x, vf x)) := by unfold kvS; rw [List.map_map]; rfl
  rw [e]
  have := foldD_kvS (ps := xs.map fun x => (nf x, vf x)) (qs := []) (by rw [List.nil_append, List.map_map]; exact h)
  rw [List.nil_append] at this
  exact this
theorem lookS_map {γ : Type} {xs : List γ} {nf : γ → Str} {vf : γ → PV} (h : (xs.map nf).Nodup) {x : γ} (hx : x ∈ xs) : lookS (xs.map fun x => (nf x, vf x)) (nf x) = some (vf x) := by
  unfold lookS
  rw [List.find?_map, Option.map_map]
  induction xs with
  | nil => cases hx
  | cons y ys ih =>
    rw [List.map_cons, List.nodup_cons] at h
    rw [List.find?_cons]
    by_cases e : nf y = nf x
    · have : y = x := by
        rcases List.mem_cons.mp hx with rfl | hx
        · rfl
        · exact absurd (by rw [e]; exact List.mem_map_of_mem hx) h.1
      subst this
      simp
    · have hx' : x ∈ ys := by
        rcases List.mem_cons.mp hx with rfl | hx
        · exact absurd rfl e
        · exact hx
      simp only [Function.comp, decide_eq_false e]
      exact ih h.2 hx'
end EL


set_option Elab.async false
set_option linter.all false
set_option maxRecDepth 100000
set_option maxHeartbeats 4000000
/-! EL: dict(zip(x, y)), x and y walked by iterators of any kind (KE.KDictZip tells it for two lists; its steps, over Draws). -/
namespace EL
open PySem PySem.Spec PySem.W
section
variable {prog : Program} {w : World} {A : Around} {E : Value → Shared → Prop} {s : Shared} {z TI TO T i1 i2 : Addr} {fp1 fp2 : List Addr} {n1 n2 i : Nat} {P1 P2 : Nat → Value → Prop} {St1 St2 : Nat → Heap → Prop} {f : Bool} {oT : Obj}
theorem zh_item {Q : Value → Shared → Prop} (S : ZipSep2 z TI TO i1 i2 fp1 fp2) (D1 : Draws prog w A i1 fp1 n1 P1 St1) (D2 : Draws prog w A i2 fp2 n2 P2 St2)
    (hz : IsZipHeld s.heap z TI TO T f) (hT : s.heap.get? T = some oT) (hTI : IsTupOf2 s.heap TI (.ref i1) (.ref i2)) (st1 : St1 i s.heap) (st2 : St2 i s.heap) (l1 : i < n1) (l2 : i < n2)
    (hQ : ∀ x1 x2 h' tk, P1 i x1 → P2 i x2 → IsZipHeld h' z TI TO T true → St1 (i + 1) h' → St2 (i + 1) h' → IsTupOf2 h' s.heap.objs.size x1 x2 → h'.objs.size = s.heap.objs.size + 1 →
      (∀ c o, c ≠ z → c ≠ i1 → c ≠ i2 → s.heap.get? c = some o → h'.get? c = some o) → Q (.ref s.heap.objs.size) { s with heap := h', toks := tk }) :
    wpAny (model prog w) A (Builtin.«zip.__next__» ⟨[.ref z], []⟩) (fun fin s' => ∃ v, fin = .done (.ret v) ∧ Q v s') E s := by
  obtain ⟨hp, g, d, tk0, os⟩ := s
  show wpAny _ _ (field (.ref z) 2 >>= _) _ _ _
  refine wpAny_bind (wpAny_field hz rfl (x := .bool false) rfl ?_)
  show wpAny _ _ (field (.ref z) 3 >>= _) _ _ _
  refine wpAny_bind (wpAny_field hz rfl (x := .ref TI) rfl ?_)
  refine wpAny_bind (wpAny_seqItems hTI rfl ?_)
  show wpAny _ _ (Builtin.SmallTypes.ownedTupleIsFree (.ref z) >>= _) _ _ _
  refine wpAny_bind (wpAny_tupleHeld_zip hz hT fun g0 hz0 hs0 => ?_)
  replace hs0 : Heap.SameBut z hp g0 := hs0
  simp only [Bool.false_eq_true, if_false]
  refine wpAny_bind ?_
  rw [← Array.forIn_toList]
  simp only [List.forIn_cons, List.forIn_nil]
  refine wpAny_bind (wpAny_bind (wpAny_holding ?_))
  show wpAny _ _ (Builtin.SmallTypes.nextOf (.ref i1) >>= _) _ _ ⟨g0, g, d, tk0, os⟩
  refine wpAny_bind (D1.item i _ _ _ l1 (D1.over st1 hs0 S.zf1) fun x1 p1 tk1 hx1 sn1 hp1 => wpAny_pure (wpAny_pure ?_))
  replace hp1 : Heap.SameBut i1 g0 p1 := hp1
  refine wpAny_bind (wpAny_bind (wpAny_holding ?_))
  show wpAny _ _ (Builtin.SmallTypes.nextOf (.ref i2) >>= _) _ _ ⟨p1, g, d, tk1, os⟩
  refine wpAny_bind (D2.item i _ _ _ l2 (D2.over (D2.over st2 hs0 S.zf2) hp1 S.sep1_2) fun x2 p2 tk2 hx2 sn2 hp2 => wpAny_pure (wpAny_pure (wpAny_pure ?_)))
  replace hp2 : Heap.SameBut i2 p1 p2 := hp2
  show wpAny _ _ (newTuple [x1, x2] >>= _) _ _ _
  refine wpAny_bind (wpAny_newTuple ?_)
  have hsz : p2.objs.size = hp.objs.size := by rw [hp2.1, hp1.1, hs0.1]
  have hz3 : IsZipHeld p2 z TI TO T true := hp2.extBut _ _ S.zi2 (hp1.extBut _ _ S.zi1 hz0)
  have hk : ∀ c o, c ≠ z → c ≠ i1 → c ≠ i2 → hp.get? c = some o → p2.get? c = some o := fun c o c1 c2 c3 e => hp2.extBut _ _ c3 (hp1.extBut _ _ c2 (hs0.extBut _ _ c1 e))
  have sn1' : St1 (i + 1) p2 := D1.over sn1 hp2 S.sep2_1
  refine wpAny_pure ⟨_, rfl, ?_⟩
  show Q (.ref p2.objs.size) ⟨p2.push { cls := .type "tuple", data := .seq #[x1, x2] }, g, d, tk2, os⟩
  have h5 : IsTupOf2 (p2.push { cls := .type "tuple", data := .seq #[x1, x2] }) p2.objs.size x1 x2 := Heap.get?_push_size _ rfl
  have h6 : (p2.push { cls := .type "tuple", data := .seq #[x1, x2] }).objs.size = p2.objs.size + 1 := Heap.size_push ..
  rw [hsz] at h5 h6 ⊢
  exact hQ x1 x2 _ tk2 hx1 hx2 (Heap.get?_push_of_some _ hz3) (D1.frame _ _ _ sn1' fun b _ o e => Heap.get?_push_of_some _ e) (D2.frame _ _ _ sn2 fun b _ o e => Heap.get?_push_of_some _ e) h5 h6 fun c o c1 c2 c3 e => Heap.get?_push_of_some _ (hk c o c1 c2 c3 e)
theorem zh_end {Q : Fin → Shared → Prop} (S : ZipSep2 z TI TO i1 i2 fp1 fp2) (D1 : Draws prog w A i1 fp1 n1 P1 St1) (D2 : Draws prog w A i2 fp2 n2 P2 St2)
    (hz : IsZipHeld s.heap z TI TO T f) (hT : s.heap.get? T = some oT) (hTI : IsTupOf2 s.heap TI (.ref i1) (.ref i2)) (st1 : St1 i s.heap) (st2 : St2 i s.heap) (l1 : i ≤ n1) (l2 : i ≤ n2) (hend : i = n1 ∨ i = n2)
    (hE : ∀ h' tk e, (∀ c o, c ≠ z → c ≠ i1 → c ≠ i2 → s.heap.get? c = some o → h'.get? c = some o) → (∃ o, h'.get? e = some o ∧ o.cls = .type "StopIteration") → E (.ref e) { s with heap := h', toks := tk }) :
    wpAny (model prog w) A (Builtin.«zip.__next__» ⟨[.ref z], []⟩) Q E s := by
  obtain ⟨hp, g, d, tk0, os⟩ := s
  show wpAny _ _ (field (.ref z) 2 >>= _) _ _ _
  refine wpAny_bind (wpAny_field hz rfl (x := .bool false) rfl ?_)
  show wpAny _ _ (field (.ref z) 3 >>= _) _ _ _
  refine wpAny_bind (wpAny_field hz rfl (x := .ref TI) rfl ?_)
  refine wpAny_bind (wpAny_seqItems hTI rfl ?_)
  show wpAny _ _ (Builtin.SmallTypes.ownedTupleIsFree (.ref z) >>= _) _ _ _
  refine wpAny_bind (wpAny_tupleHeld_zip hz hT fun g0 hz0 hs0 => ?_)
  replace hs0 : Heap.SameBut z hp g0 := hs0
  simp only [Bool.false_eq_true, if_false]
  refine wpAny_bind ?_
  rw [← Array.forIn_toList]
  simp only [List.forIn_cons, List.forIn_nil]
  refine wpAny_bind (wpAny_bind (wpAny_holding ?_))
  show wpAny _ _ (Builtin.SmallTypes.nextOf (.ref i1) >>= _) _ _ ⟨g0, g, d, tk0, os⟩
  by_cases q1 : i < n1
  · refine wpAny_bind (D1.item i _ _ _ q1 (D1.over st1 hs0 S.zf1) fun x1 p1 tk1 hx1 sn1 hp1 => wpAny_pure (wpAny_pure ?_))
    replace hp1 : Heap.SameBut i1 g0 p1 := hp1
    have e2 : i = n2 := by omega
    refine wpAny_bind (wpAny_bind (wpAny_holding ?_))
    show wpAny _ _ (Builtin.SmallTypes.nextOf (.ref i2) >>= _) _ _ ⟨p1, g, d, tk1, os⟩
    refine wpAny_bind (D2.done ⟨p1, g, d, tk1, os⟩ _ _ (by rw [← e2]; exact D2.over (D2.over st2 hs0 S.zf2) hp1 S.sep1_2) fun q e hq he => ?_)
    exact hE q tk1 e (fun c o c1 c2 c3 x => hq _ _ c3 (hp1.extBut _ _ c2 (hs0.extBut _ _ c1 x))) he
  · have e1 : i = n1 := by omega
    refine wpAny_bind (D1.done ⟨g0, g, d, tk0, os⟩ _ _ (by rw [← e1]; exact D1.over st1 hs0 S.zf1) fun q e hq he => ?_)
    exact hE q tk0 e (fun c o c1 c2 _ x => hq _ _ c2 (hs0.extBut _ _ c1 x)) he
theorem zh_next_item {Q : Option Value → Shared → Prop} (S : ZipSep2 z TI TO i1 i2 fp1 fp2) (D1 : Draws prog w A.in1 i1 fp1 n1 P1 St1) (D2 : Draws prog w A.in1 i2 fp2 n2 P2 St2)
    (hz : IsZipHeld s.heap z TI TO T f) (hT : s.heap.get? T = some oT) (hTI : IsTupOf2 s.heap TI (.ref i1) (.ref i2)) (st1 : St1 i s.heap) (st2 : St2 i s.heap) (l1 : i < n1) (l2 : i < n2)
    (hQ : ∀ x1 x2 h' tk, P1 i x1 → P2 i x2 → IsZipHeld h' z TI TO T true → St1 (i + 1) h' → St2 (i + 1) h' → IsTupOf2 h' s.heap.objs.size x1 x2 → h'.objs.size = s.heap.objs.size + 1 →
      (∀ c o, c ≠ z → c ≠ i1 → c ≠ i2 → s.heap.get? c = some o → h'.get? c = some o) → Q (some (.ref s.heap.objs.size)) { s with heap := h', toks := tk }) : wpAny (model prog w) A (pyNext (.ref z)) Q E s := by
  have ty : s.TypeIs (.ref z) "zip" := ⟨_, hz, rfl⟩
  unfold pyNext
  exact wpAny_bind (wpAny_attempt (wpAny_callSpecial?_slot (name := Str.ofString "__next__") ty F.slot_zip_next (wpAny_call_entry F.slot_zip_next ty F.entry_zip_next
    (zh_item S D1 D2 hz hT hTI st1 st2 l1 l2 fun x1 x2 h' tk y1 y2 a1 a2 a3 a4 a5 a6 => wpAny_pure (hQ x1 x2 h' tk y1 y2 a1 a2 a3 a4 a5 a6)) (F.args_zip_next_1 _))))
theorem zh_next_end {Q : Option Value → Shared → Prop} (S : ZipSep2 z TI TO i1 i2 fp1 fp2) (D1 : Draws prog w A.in1 i1 fp1 n1 P1 St1) (D2 : Draws prog w A.in1 i2 fp2 n2 P2 St2)
    (hz : IsZipHeld s.heap z TI TO T f) (hT : s.heap.get? T = some oT) (hTI : IsTupOf2 s.heap TI (.ref i1) (.ref i2)) (st1 : St1 i s.heap) (st2 : St2 i s.heap) (l1 : i ≤ n1) (l2 : i ≤ n2) (hend : i = n1 ∨ i = n2)
    (hQ : ∀ h' tk, (∀ c o, c ≠ z → c ≠ i1 → c ≠ i2 → s.heap.get? c = some o → h'.get? c = some o) → Q none { s with heap := h', toks := tk }) : wpAny (model prog w) A (pyNext (.ref z)) Q E s := by
  have ty : s.TypeIs (.ref z) "zip" := ⟨_, hz, rfl⟩
  unfold pyNext
  refine wpAny_bind (wpAny_attempt (wpAny_callSpecial?_slot (name := Str.ofString "__next__") ty F.slot_zip_next (wpAny_call_entry F.slot_zip_next ty F.entry_zip_next
    (zh_end S D1 D2 hz hT hTI st1 st2 l1 l2 hend fun h' tk e hk ⟨o, ho, hc⟩ => ?_) (F.args_zip_next_1 _))))
  refine wpAny_bind (wpAny_isInstance (T := "StopIteration") (b := true) ⟨o, ho, hc⟩ isSubtype_stop ?_)
  exact wpAny_pure (hQ _ _ hk)
end
section
variable {prog : Program} {w : World} {z TI TO i1 i2 : Addr} {fp1 fp2 : List Addr} {n1 n2 : Nat} {P1 P2 : Nat → Value → Prop} {St1 St2 : Nat → Heap → Prop}
/-- zip over two iterators of any kind, as what dict() reads -/
theorem zipArg (S : ZipSep2 z TI TO i1 i2 fp1 fp2) (D1 : ∀ A : Around, A.handled = none → Draws prog w A i1 fp1 n1 P1 St1) (D2 : ∀ A : Around, A.handled = none → Draws prog w A i2 fp2 n2 P2 St2)
    (ht1 : ∀ h, St1 0 h → ∀ b, b ∈ fp1 → ∃ o, h.get? b = some o) (ht2 : ∀ h, St2 0 h → ∀ b, b ∈ fp2 → ∃ o, h.get? b = some o) (A0 : Around) (hA0 : A0.handled = none) :
    PairArg prog w "zip" z (z :: TI :: TO :: (fp1 ++ fp2)) [z, TO, i1, i2] (min n1 n2) (fun i k v => P1 i k ∧ P2 i v)
      (fun h => IsZip h z TI TO .none ∧ IsTupOf2 h TI (.ref i1) (.ref i2) ∧ (∃ a b, IsTupOf2 h TO a b) ∧ St1 0 h ∧ St2 0 h) where
  type := fun s ok => ⟨_, ok.1, rfl⟩
  notDict := by decide
  keep := fun h h' ⟨a1, a2, ⟨x, y, a3⟩, a4, a5⟩ hk => ⟨hk _ _ a1, hk _ _ a2, ⟨x, y, hk _ _ a3⟩, (D1 A0 hA0).frame _ _ _ a4 fun b _ o e => hk b o e, (D2 A0 hA0).frame _ _ _ a5 fun b _ o e => hk b o e⟩
  there := fun h ⟨a1, a2, ⟨x, y, a3⟩, a4, a5⟩ b hb => by
    simp only [List.mem_cons, List.mem_append] at hb
    rcases hb with rfl | rfl | rfl | hb | hb
    · exact ⟨_, a1⟩
    · exact ⟨_, a2⟩
    · exact ⟨_, a3⟩
    · exact ht1 h a4 b hb
    · exact ht2 h a5 b hb
  sub := fun b hb => by
    have m1 := S.mem1
    have m2 := S.mem2
    simp only [List.mem_cons, List.mem_append, List.not_mem_nil, or_false] at hb ⊢
    rcases hb with rfl | rfl | rfl | rfl
    · exact .inl rfl
    · exact .inr (.inr (.inl rfl))
    · exact .inr (.inr (.inr (.inl m1)))
    · exact .inr (.inr (.inr (.inr m2)))
  noKeys := fun A s Q E hA ok h => getAttrOr_miss_zip ok.1 rfl rfl rfl zip_no_keys (by decide +kernel) hA h
  iter := fun A s d Q E hA ⟨hz, hTI, ⟨a, b, hTO⟩, q1, q2⟩ hd hdf h => by
    simp only [List.mem_cons, List.mem_append, not_or] at hdf
    obtain ⟨dz, dTI, dTO, df1, df2⟩ := hdf
    have di1 : d ≠ i1 := fun e => df1 (e ▸ S.mem1)
    have di2 : d ≠ i2 := fun e => df2 (e ▸ S.mem2)
    refine wpAny_pyIter_zip hz (h z [z, TO, i1, i2] (fun i h => IsTupOf2 h TI (.ref i1) (.ref i2) ∧ St1 i h ∧ St2 i h ∧
      ((IsZip h z TI TO .none ∧ ∃ a b, IsTupOf2 h TO a b) ∨ ∃ T f oT, IsZipHeld h z TI TO T f ∧ h.get? T = some oT ∧ T ≠ z ∧ T ≠ i1 ∧ T ≠ i2 ∧ T ≠ d)) s.heap s.toks ?_ ⟨hTI, q1, q2, .inl ⟨hz, a, b, hTO⟩⟩ (fun _ _ e => e) fun b hb => .inl hb)
    exact {
      off := fun hm => by
        simp only [List.mem_cons, List.not_mem_nil, or_false] at hm
        rcases hm with e | e | e | e
        · exact dz e
        · exact dTO e
        · exact di1 e
        · exact di2 e
      frame := fun i g1 g2 ⟨k1, k2, k3, k4⟩ hk => by
        refine ⟨hk _ _ (Ne.symm dTI) k1, (D1 A hA).frame _ _ _ k2 fun b hb o e => hk b o (fun x => df1 (x ▸ hb)) e, (D2 A hA).frame _ _ _ k3 fun b hb o e => hk b o (fun x => df2 (x ▸ hb)) e, ?_⟩
        rcases k4 with ⟨u1, x, y, u2⟩ | ⟨T, f, oT, u1, u2, r1, r2, r3, r4⟩
        · exact .inl ⟨hk _ _ (Ne.symm dz) u1, x, y, hk _ _ (Ne.symm dTO) u2⟩
        · exact .inr ⟨T, f, oT, hk _ _ (Ne.symm dz) u1, hk _ _ r4 u2, r1, r2, r3, r4⟩
      item := fun i t Q1 E1 hi ⟨k1, k2, k3, k4⟩ hds hQ => by
        have l1 : i < n1 := Nat.lt_of_lt_of_le hi (Nat.min_le_left ..)
        have l2 : i < n2 := Nat.lt_of_lt_of_le hi (Nat.min_le_right ..)
        have lt : ∀ {c o}, t.heap.get? c = some o → t.heap.objs.size ≠ c := fun e => Nat.ne_of_gt (Heap.lt_size e)
        have m1 : t.heap.objs.size ≠ i1 := let ⟨_, e⟩ := (D1 A hA).live _ _ k2; lt e
        have m2 : t.heap.objs.size ≠ i2 := let ⟨_, e⟩ := (D2 A hA).live _ _ k3; lt e
        rcases k4 with ⟨u1, x, y, u2⟩ | ⟨T, f, oT, u1, u2, r1, r2, r3, r4⟩
        · refine wpAny_pyNext_zipD2_item S (D1 A.in1 hA) (D2 A.in1 hA) u1 k1 u2 k2 k3 l1 l2 fun x1 x2 h' tk y1 y2 a1 a2 a3 a4 a5 a6 hk => ?_
          exact hQ t.heap.objs.size x1 x2 h' tk ⟨y1, y2⟩ (.inl ⟨_, a5, rfl, _, rfl⟩) ⟨hk _ _ S.TIz S.TITO S.TIi1 S.TIi2 k1, a3, a4, .inr ⟨t.heap.objs.size, false, _, a1, a5, lt u1, m1, m2, Nat.ne_of_gt hds⟩⟩
            fun c o hc e => hk c o (fun x => hc (by simp [x])) (fun x => hc (by simp [x])) (fun x => hc (by simp [x])) (fun x => hc (by simp [x])) e
        · refine zh_next_item S (D1 A.in1 hA) (D2 A.in1 hA) u1 u2 k1 k2 k3 l1 l2 fun x1 x2 h' tk y1 y2 a1 a3 a4 a5 a6 hk => ?_
          exact hQ t.heap.objs.size x1 x2 h' tk ⟨y1, y2⟩ (.inl ⟨_, a5, rfl, _, rfl⟩) ⟨hk _ _ S.TIz S.TIi1 S.TIi2 k1, a3, a4, .inr ⟨T, true, oT, a1, hk _ _ r1 r2 r3 u2, r1, r2, r3, r4⟩⟩
            fun c o hc e => hk c o (fun x => hc (by simp [x])) (fun x => hc (by simp [x])) (fun x => hc (by simp [x])) e
      done := fun t Q1 E1 ⟨k1, k2, k3, k4⟩ hQ => by
        have b1 : min n1 n2 ≤ n1 := Nat.min_le_left ..
        have b2 : min n1 n2 ≤ n2 := Nat.min_le_right ..
        have b3 : min n1 n2 = n1 ∨ min n1 n2 = n2 := by omega
        rcases k4 with ⟨u1, x, y, u2⟩ | ⟨T, f, oT, u1, u2, r1, r2, r3, r4⟩
        · exact wpAny_pyNext_zipD2_end S (D1 A.in1 hA) (D2 A.in1 hA) u1 k1 u2 k2 k3 b1 b2 b3 fun h' tk hk => hQ h' tk fun c o hc e => hk c o (fun x => hc (by simp [x])) (fun x => hc (by simp [x])) (fun x => hc (by simp [x])) (fun x => hc (by simp [x])) e
        · exact zh_next_end S (D1 A.in1 hA) (D2 A.in1 hA) u1 u2 k1 k2 k3 b1 b2 b3 fun h' tk hk => hQ h' tk fun c o hc e => hk c o (fun x => hc (by simp [x])) (fun x => hc (by simp [x])) (fun x => hc (by simp [x])) e }
end
end EL


set_option Elab.async false
set_option linter.all false
set_option maxRecDepth 100000
set_option maxHeartbeats 4000000
/-! EL: dict(zip(x, y)), x and y lists or tuples. -/
namespace EL
open PySem PySem.Spec L2 PySem.W PyProof.Rows
section
variable {X : Cx} {cls : Nat → Addr} {e a b o i : Expr} {me ma mb mo mi : EM} {pos : Pos}
def SqA (K : PySem.W.Frag) (H : Hp) (a : Addr) (xs : List V) : Prop := SqL K H a xs ∨ SqT K H a xs
theorem wk_of {pins : List (Addr × Obj)} {σ : L2.St} {H : Hp} {s : Shared} {a : Addr} {xs : List V} (I : Inv X pins σ H s) (h : SqA X.K H a xs) :
    ∃ (its : List Value) (o : Obj) (HH : Heap → Prop) (St : Addr → Nat → Heap → Prop), Vals xs its ∧ xs.length ≤ sizeLine ∧ a < s.heap.objs.size ∧ Begins (.ref a) o HH ∧ HH s.heap ∧
      (∀ i1 A, A.handled = none → a ≠ i1 → Draws X.prog X.w A i1 [i1, a] its.toArray.size (fun i v => its.toArray[i]? = some v) (St i1)) ∧
      (∀ i1 h', (∀ c o, s.heap.get? c = some o → h'.get? c = some o) → h'.get? i1 = some o → St i1 0 h') ∧ (∀ i1 h, St i1 0 h → ∀ b, b ∈ [i1, a] → ∃ o, h.get? b = some o) := by
  rcases h with h | h
  · obtain ⟨its, rv, p, hz⟩ := I.list h
    refine ⟨its, _, _, fun i1 i h => h.IsListIter i1 a i ∧ h.IsList a its.toArray, rv, hz, p.lt, begins_list a its.toArray, p.isList, fun i1 A hA ne => Draws.list hA i1 a ne its.toArray, fun i1 h' hk ho => ⟨⟨_, ho, rfl, rfl⟩, (p.isList).at fun o e => hk _ o e⟩, fun i1 h st b hb => ?_⟩
    simp only [List.mem_cons, List.not_mem_nil, or_false] at hb
    rcases hb with rfl | rfl
    · obtain ⟨⟨o, ho, _⟩, _⟩ := st; exact ⟨o, ho⟩
    · obtain ⟨_, ⟨o, ho, _⟩⟩ := st; exact ⟨o, ho⟩
  · obtain ⟨its, rv, p, hz⟩ := I.tuple h
    have p' : s.heap.IsTuple a its.toArray := p
    have hl : a < s.heap.objs.size := by obtain ⟨o, ho, _⟩ := p'; exact Heap.lt_size ho
    refine ⟨its, _, _, fun i1 i h => h.IsTupleIter i1 a i ∧ h.IsTuple a its.toArray, rv, hz, hl, begins_tuple a its.toArray, p', fun i1 A hA ne => Draws.tuple hA i1 a ne its.toArray, fun i1 h' hk ho => ⟨⟨_, ho, rfl, rfl⟩, p'.at fun o e => hk _ o e⟩, fun i1 h st b hb => ?_⟩
    simp only [List.mem_cons, List.not_mem_nil, or_false] at hb
    rcases hb with rfl | rfl
    · obtain ⟨⟨o, ho, _⟩, _⟩ := st; exact ⟨o, ho⟩
    · obtain ⟨_, ⟨o, ho, _⟩⟩ := st; exact ⟨o, ho⟩
/-- the pairs -/
theorem kv_zip : ∀ {ks : List Key} {ys : List V} {us vs : List Value}, Vals (ks.map kV) us → Vals ys vs → KV (ks.zip ys) (ks.zip vs)
  | [], _, _, _, _, _ => by rw [List.zip_nil_left, List.zip_nil_left]; exact .nil
  | k :: ks, [], _, _, _, .nil => by rw [List.zip_nil_right, List.zip_nil_right]; exact .nil
  | k :: ks, y :: ys, _, _, r, .cons h t => by
    rw [List.map_cons] at r
    cases r with
    | cons h1 t1 => exact .cons ⟨rfl, h⟩ (kv_zip t1 t)
theorem key_at {P : Program} {w : World} : ∀ {ks : List Key} {us : List Value} {i : Nat} {u : Value}, Vals (ks.map kV) us → us[i]? = some u → ∃ k, ks[i]? = some k ∧ (mixKind P w).is k u = true
  | [], us, i, u, r, h => by rw [List.map_nil] at r; cases r; simp at h
  | k :: ks, us, i, u, r, h => by
    rw [List.map_cons] at r
    cases r with
    | cons h1 t1 =>
      cases i with
      | zero => simp only [List.getElem?_cons_zero, Option.some.injEq] at h; subst h; exact ⟨k, rfl, kV_is h1⟩
      | succ i => simp only [List.getElem?_cons_succ] at h ⊢; exact key_at t1 h
def tDZ (K : PySem.W.Frag) (ta : TA) : TE := fun σ H Q => ta σ H fun vs H1 => ∃ (a b : Addr) (ks : List Key) (ys : List V), vs = [.ref a, .ref b] ∧ SqA K H1 a (ks.map kV) ∧ SqA K H1 b ys ∧ ∀ p, H1 p = none → Q (.ref p) (upd H1 p (.dK (mergeK [] (ks.zip ys))))
theorem pe_dictzip {e1 e2 : Expr} {ta : TA} {p p2 pos2 : Pos} (hcalm : X.calm = true) (hgD : Gl X "dict") (hmD : X.mg "dict" = none) (hgZ : Gl X "zip") (hmZ : X.mg "zip" = none) (ha : PA X [e1, e2] ta)
    (hsZ : starEach [e1, e2] X.env = (false, eval e1 X.env) :: starEach [e2] X.env) (hplZ : (backTo pos2 (starEach [e2] X.env)).any (·.1) = false)
    (hsD : starEach [.Call (.Name "zip" p2) [e1, e2] [] pos2] X.env = (false, eval (.Call (.Name "zip" p2) [e1, e2] [] pos2) X.env) :: starEach [] X.env) (hplD : (backTo pos (starEach [] X.env)).any (·.1) = false) :
    PE X (.Call (.Name "dict" p) [.Call (.Name "zip" p2) [e1, e2] [] pos2] [] pos) (tDZ X.K ta) := by
  refine ⟨fun pins s σ H Q I h => ?_⟩
  refine Call_ (ld_blt I hgD hmD PyProof.Rows.boot_dict (PyProof.Rows.callWith_type1 (args_cons ?_ hsD) hsD hplD))
  refine Call_ (ld_blt I hgZ hmZ PyProof.Rows.boot_zip (PyProof.Rows.callWith_type1 (thn (ha.run pos2 pins s σ H _ I h) fun us s1 ⟨vs, H1, I1, r1, q1⟩ => ?_) hsZ hplZ))
  obtain ⟨a, b, ks, ys, rfl, hqa, hqb, q⟩ := q1
  cases r1 with
  | cons r r1 =>
    cases r1 with
    | cons r' r1 =>
      cases r1
      cases r
      cases r'
      obtain ⟨us, o1, HH1, St1, rv1, hz1, la, B1, hh1, D1, start1, th1⟩ := wk_of I1 hqa
      obtain ⟨ws, o2, HH2, St2, rv2, hz2, lb, B2, hh2, D2, start2, th2⟩ := wk_of I1 hqb
      have hs := I1.ok.hd hcalm
      refine zip_begins2 B1 B2 hh1 hh2 fun h' hz hTI hTO hi1 hi2 hsz hk => args_nil ?_
      have S := zip_sep2 (N := s1.heap.objs.size) (fp1 := [a]) (fp2 := [b]) (by simpa using la) (by simpa using lb)
      have P := zipArg (prog := X.prog) (w := X.w) S (fun A hA => D1 _ A hA (Nat.ne_of_lt la)) (fun A hA => D2 _ A hA (Nat.ne_of_lt (Nat.lt_succ_of_lt lb))) (th1 _) (th2 _) X.A hs
      refine call_dict_pairs (knd := mixKind X.prog X.w) (kvs := ks.zip ws) P hs ⟨hz, hTI, ⟨_, _, hTO⟩, start1 _ _ hk hi1, start2 _ _ hk hi2⟩ ⟨?_, ?_⟩ ?_ fun h'' tk hd' hk' => ?_
      · have l1 := rv1.length
        simp only [List.length_map] at l1
        simp only [List.length_zip, List.size_toArray]
        omega
      · intro i key v hrel
        obtain ⟨h1, h2⟩ := hrel
        obtain ⟨k, hk1, hk2⟩ := key_at (P := X.prog) (w := X.w) rv1 (by simpa using h1)
        refine ⟨k, ?_, hk2⟩
        have h2' : ws[i]? = some v := by simpa using h2
        rw [List.getElem?_zip_eq_some]
        exact ⟨hk1, h2'⟩
      · have l1 := rv1.length
        simp only [List.size_toArray]
        refine Nat.le_trans (Nat.min_le_left ..) ?_
        omega
      · have hle : s1.heap.objs.size ≤ h'.objs.size := by rw [hsz]; omega
        have k2 : ∀ c o, s1.heap.get? c = some o → h''.get? c = some o := fun c o hc => hk' c o (fun hm => by
          have lc := Heap.lt_size hc
          simp only [List.mem_cons, List.not_mem_nil, or_false] at hm
          rcases hm with m | m | m | m <;> (rw [m] at lc; exact absurd lc (Nat.not_lt.mpr (by first | exact Nat.le_refl _ | exact Nat.le_add_right _ _)))) (hk c o hc)
        have rel : KV (ks.zip ys) (ks.zip ws) := kv_zip rv1 rv2
        have hm : (h'.objs.size == sysModules) = false := beq_eq_false_iff_ne.mpr (Nat.ne_of_gt (Nat.lt_of_lt_of_le I1.big hle))
        have hlen : (mergeK [] (ks.zip ys)).length ≤ sizeLine := by
          refine Nat.le_trans (length_mergeK _ []) ?_
          simp only [List.length_nil, Nat.zero_add, List.length_zip, List.length_map] at hz1 ⊢
          omega
        exact ⟨.ref h'.objs.size, upd H1 h'.objs.size (.dK (mergeK [] (ks.zip ys))), I1.laid (t' := tk) k2 hle (show ObjOk X.prog X.w _ _ _ (.dK (mergeK [] (ks.zip ys))) from ⟨hlen, hm, merged [] (ks.zip ws), KV.merge rel .nil, hd'⟩), rfl, q _ (I1.hok.fresh hle)⟩
/-! the value -/
def kOfs : List PyData → Option (List Key)
  | [] => some []
  | d :: r => match kOf d with
    | some k => (kOfs r).map (k :: ·)
    | none => none
theorem kOfs_ok {K : PySem.W.Frag} {Z ρ : List Addr} {H : Hp} : ∀ {ds : List PyData} {ks : List Key} {xs : List V}, kOfs ds = some ks → RDs K Z ρ H ds xs → ds = ks.map kD ∧ xs = ks.map kV
  | [], ks, xs, h, r => by cases h; cases r; exact ⟨rfl, rfl⟩
  | d :: ds, ks, xs, h, r => by
    unfold kOfs at h
    split at h
    · rename_i k hk
      cases q : kOfs ds with
      | none => rw [q] at h; cases h
      | some ks' =>
        rw [q] at h; cases h
        cases r with
        | cons r1 r2 =>
          obtain ⟨e1, e2⟩ := kOfs_ok q r2
          rw [e1, e2, kOf_kD hk, r1.key hk]
          exact ⟨rfl, rfl⟩
    · cases h
theorem rvk_zip {K : PySem.W.Frag} {Z ρ : List Addr} {H : Hp} : ∀ {ks : List Key} {vs : List PV} {ys : List V}, RVs K Z ρ H vs ys → RVk K Z ρ H ((ks.map kD).zip vs) (ks.zip ys)
  | [], _, _, _ => by rw [List.map_nil, List.zip_nil_left, List.zip_nil_left]; exact .nil
  | k :: ks, _, _, .nil => by rw [List.zip_nil_right, List.zip_nil_right]; exact .nil
  | k :: ks, _, _, .cons h r => .cons h (rvk_zip r)
/-- list or tuple of data that stands still -/
def datOf : PV → Option (List PyData)
  | .d (.list l) => some l
  | .d (.tuple l) => some l
  | _ => none
theorem datOf_ok {K : PySem.W.Frag} {Z ρ : List Addr} {H : Hp} {v : PV} {l : List PyData} {x : V} (h : datOf v = some l) (r : RV K Z ρ H v x) : ∃ a xs, x = .ref a ∧ SqA K H a xs ∧ RDs K Z ρ H l xs := by
  unfold datOf at h
  split at h
  · cases h
    cases r with
    | d r => cases r with
      | lst h1 z1 r1 => exact ⟨_, _, rfl, .inl (.of h1), r1⟩
  · cases h
    cases r with
    | d r => cases r with
      | tup h1 r1 => exact ⟨_, _, rfl, .inr h1.sq, r1⟩
  · cases h
def nDZ : OpN := fun vs mh => match vs with
  | [v, u] => match datOf v, datOf u with
    | some l, some r => if (kOfs l).isSome = true then .ok (.dct (foldD (l.zip (r.map .d)))) mh else .bad
    | _, _ => .bad
  | _ => .bad
theorem nDZ_inv {vs : List PV} {mh : Mh} (h : nDZ vs mh ≠ .bad) : ∃ v u l r ks, vs = [v, u] ∧ datOf v = some l ∧ datOf u = some r ∧ kOfs l = some ks ∧ nDZ vs mh = .ok (.dct (foldD (l.zip (r.map .d)))) mh := by
  unfold nDZ at h ⊢
  split at h
  · rename_i v u
    split at h
    · rename_i l r h1 h2
      split at h
      · rename_i hk
        obtain ⟨ks, e⟩ := Option.isSome_iff_exists.mp hk
        exact ⟨v, u, l, r, ks, rfl, h1, h2, e, by simp only [hk, if_true]⟩
      · exact absurd rfl h
    · exact absurd rfl h
  · exact absurd rfl h
theorem DZ (c : COk X) {mm : AM} {p p2 pos2 : Pos} (hmD : X.mg "dict" = none) (hmZ : X.mg "zip" = none) (ha : JA X cls [a, b] mm) (hgD : Gl X "dict" := by rfl) (hgZ : Gl X "zip" := by rfl)
    (hsZ : starEach [a, b] X.env = (false, eval a X.env) :: starEach [b] X.env := by rfl) (hplZ : (backTo pos2 (starEach [b] X.env)).any (·.1) = false := by rfl)
    (hsD : starEach [.Call (.Name "zip" p2) [a, b] [] pos2] X.env = (false, eval (.Call (.Name "zip" p2) [a, b] [] pos2) X.env) :: starEach [] X.env := by rfl) (hplD : (backTo pos (starEach [] X.env)).any (·.1) = false := by rfl) :
    JE X cls (.Call (.Name "dict" p) [.Call (.Name "zip" p2) [a, b] [] pos2] [] pos) (mCB nDZ mm) := fun E hx =>
  .of c ((pe_dictzip c.calm hgD hmD hgZ hmZ (ha E hx) hsZ hplZ hsD hplD).imp fun σ H Q ⟨Z, ρ, lo, mh, s, p⟩ => by
    refine ⟨Z, ρ, lo, mh, s, (Post.bind p).imp ?_⟩
    intro vs ρ1 mh1 H1 e r q x rx
    have q : Post X.K cls E Z ρ1 H1 (nDZ vs mh1) (fun w ρ' _ H' => ∀ z, RV X.K Z ρ' H' w z → Q z H') := q
    have qn : nDZ vs mh1 ≠ .bad := fun e => by rw [e] at q; exact q.elim
    obtain ⟨v, u, l, rr, ks, rfl, h1, h2, h3, h4⟩ := nDZ_inv qn
    rw [h4] at q
    cases rx with
    | cons rx ry =>
      cases ry with
      | cons ry rn =>
        cases rn
        obtain ⟨a1, xs, rfl, s1, r1⟩ := datOf_ok h1 rx
        obtain ⟨a2, ys, rfl, s2, r2⟩ := datOf_ok h2 ry
        obtain ⟨rfl, rfl⟩ := kOfs_ok h3 r1
        refine ⟨a1, a2, ks, ys, rfl, s1, s2, fun p hp => ?_⟩
        have h5 : RVk X.K Z ρ1 (upd H1 p (.dK (mergeK [] (ks.zip ys)))) (foldD ((ks.map kD).zip (rr.map .d))) (mergeK [] (ks.zip ys)) := RVk.merge (rvk_zip (RVs.ofD (r2.mono (Ext.new hp)))) .nil
        exact (q.later (Ext.new hp)).now (r.new hp) _ (.dct upd_same (r.fz hp) h5)) fun _ _ _ => rfl
end
end EL


set_option Elab.async false
set_option linter.all false
set_option maxRecDepth 100000
set_option maxHeartbeats 4000000
/-! EL: targets of all kinds (x[i], y = ..); tuple * int; products of up to 2^27 bits. -/
namespace EL
open PySem PySem.Spec L2 PySem.W PyProof.Rows
abbrev GM := PV → SM
abbrev GMs := List PV → SM
def g2N (i : Nat) : GM := fun v lo mh => .nx (lo.set i (some v)) mh
def g2S (mo mi : EM) : GM := fun v lo mh => ofR (mo lo mh) fun o mh2 => ofR (mi lo mh2) fun i mh3 => match setP o i v mh3 with
  | some mh4 => .nx lo mh4
  | none => .bad
def g2Nil : GMs := fun vs lo mh => if vs.isEmpty then .nx lo mh else .bad
def g2Cons (g : GM) (gs : GMs) : GMs := fun vs lo mh => match vs with
  | v :: r => match g v lo mh with
    | .nx lo' mh' => gs r lo' mh'
    | .exc c m => .exc c m
    | _ => .bad
  | [] => .bad
def g2T (n : Nat) (gs : GMs) : GM := fun v lo mh => match tupOf v with
  | some l => if l.length = n then gs l lo mh else .bad
  | none => .bad
def DQ (Q : L2.St → Hp → Prop) : Ends := { nx := Q, rt := fun _ _ => False }
def tg2 (K : PySem.W.Frag) (cls : Nat → Addr) (E : XK) (g : GM) : TG := fun v σ H Q => ∃ Z ρ lo mh pv, RS K cls Z ρ lo mh σ H ∧ RV K Z ρ H pv v ∧ PostS K cls (DQ Q) E Z ρ H (g pv lo mh)
def tgs2 (K : PySem.W.Frag) (cls : Nat → Addr) (E : XK) (g : GMs) : TGs := fun v σ H Q => ∃ Z ρ lo mh pv, RS K cls Z ρ lo mh σ H ∧ RVs K Z ρ H pv v ∧ PostS K cls (DQ Q) E Z ρ H (g pv lo mh)
def JG2 (X : Cx) (cls : Nat → Addr) (e : Expr) (g : GM) : Prop := ∀ E, Takes X (wOf E) → PG X e (tg2 X.K cls E g)
def JGs2 (X : Cx) (cls : Nat → Addr) (e : List Expr) (g : GMs) : Prop := ∀ E, Takes X (wOf E) → PGs X e (tgs2 X.K cls E g)
section
variable {X : Cx} {cls : Nat → Addr} {e a b o i : Expr} {es : List Expr} {me ma mb mo mi : EM} {pos : Pos} {g : GM} {gs : GMs}
theorem NM2 (c : COk X) {x : Str} (i : Nat) (hi : X.N[i]? = some x := by rfl) (hx : Loc X.env.scope x := by first | exact .inl rfl | exact .inr rfl) (hf : X.fn x = true ∨ X.env.scope.names.lookup x = some .local := by first | exact .inl rfl | exact .inr rfl) : JG2 X cls (.Name x pos) (g2N i) := fun E tk =>
  PG_imp (pg_name c.nd hi hx hf) fun v σ H Q ⟨Z, ρ, lo, mh, pv, s, rv, p⟩ => PostS.nxt (D := DQ Q) p (s.set rv)
theorem SU2 (c : COk X) (ho : JE X cls o mo) (hi : JE X cls i mi)
    (ha : ∀ v, assign (.Subscript o i pos) X.env v = (do
      let ov ← holding [v] (eval o X.env)
      let iv ← holding [v, ov] (eval i X.env)
      standAt pos
      holding [v, ov, iv] (setItem ov iv v)
      release [v, ov, iv] []) := by intro _; rfl) : JG2 X cls (.Subscript o i pos) (g2S mo mi) := fun E tk =>
  PG_imp (pg_sub (ho E (passT tk)).pe (hi E (passT tk)).pe (setE_ok c) ha) fun v σ H Q ⟨Z, ρ, lo, mh, pv, s, rx, p⟩ => by
    refine ⟨Z, ρ, lo, mh, s, (PostS.bind p).imp fun po ρ2 mh2 H2 e2 r2 q2 y ry => ?_⟩
    refine ⟨Z, ρ2, lo, mh2, s.to e2 r2, (PostS.bind q2).imp fun pi ρ3 mh3 H3 e3 r3 q3 z rz => ?_⟩
    split at q3
    · rename_i mh4 h4
      exact ⟨Z, ρ3, mh3, po, pi, pv, r3, ry.mono e3, rz, (rx.mono e2).mono e3, mh4, h4, fun H' e4 r4 => PostS.nxt (D := DQ Q) (q3.later e4) (((s.to e2 r2).to e3 r3).to e4 r4)⟩
    · exact q3.elim
theorem JGs2_nil : JGs2 X cls [] g2Nil := fun E tk => PGs_imp pgs_nil fun v σ H Q ⟨Z, ρ, lo, mh, pv, s, rv, p⟩ => by
  cases rv with
  | nil => exact ⟨rfl, PostS.nxt (D := DQ Q) p s⟩
  | cons _ _ => exact p.elim
theorem TC2 (h1 : JG2 X cls e g) (h2 : JGs2 X cls es gs) (hs : (assignEach (e :: es) X.env).map (·.2) = assign e X.env :: (assignEach es X.env).map (·.2) := by rfl) : JGs2 X cls (e :: es) (g2Cons g gs) := fun E tk =>
  PGs_imp (pgs_cons (h1 E tk) (h2 E tk) hs) fun v σ H Q ⟨Z, ρ, lo, mh, pv, s, rv, p⟩ => by
    cases rv with
    | nil => exact p.elim
    | @cons x y xs ys r rr =>
      refine ⟨y, ys, rfl, Z, ρ, lo, mh, x, s, r, ?_⟩
      unfold g2Cons at p
      dsimp only at p
      cases k : g x lo mh with
      | nx lo' mh' =>
        rw [k] at p
        exact fun ρ' H' σ' e s' => ⟨Z, ρ', lo', mh', xs, s', rr.mono e, PostS.later p e⟩
      | exc c m => rw [k] at p; exact p
      | bk _ _ => rw [k] at p; exact p.elim
      | ct _ _ => rw [k] at p; exact p.elim
      | rt _ _ => rw [k] at p; exact p.elim
      | bad => rw [k] at p; exact p.elim
theorem TU2 (c : COk X) {k n : Nat} (h : JGs2 X cls es gs) (hn : (assignEach es X.env).length = n := by rfl) (hst : (assignEach es X.env).findIdx? (·.1) = none := by rfl) : JG2 X cls (.Tuple es k pos) (g2T n gs) := fun E tk =>
  PG_imp (pg_tup c.calm (h E tk) hn hst) fun v σ H Q ⟨Z, ρ, lo, mh, pv, s, rv, p⟩ => by
    unfold g2T at p
    split at p
    · rename_i l hl
      split at p
      · rename_i hn
        obtain ⟨a, xs, rfl, h1, r1⟩ := tupOf_ok rv hl
        exact ⟨a, xs, rfl, h1.sq, by rw [← r1.length]; exact hn, Z, ρ, lo, mh, l, s, r1, p⟩
      · exact p.elim
    · exact p.elim
def sTg2 (g : GM) (me : EM) : SM := fun lo mh => ofR (me lo mh) fun v mh1 => match g v lo mh1 with
  | .nx lo' mh' => .nx lo' mh'
  | .exc c m => .exc c m
  | _ => .bad
theorem SG2 (c : COk X) {tg : Expr} (h : JE X cls e me) (hg : JG2 X cls tg g) (hs : swapsWithSole [tg] e pos.line X.env = pure false := by rfl) (hw : swappedStores [tg] e X.env = pure none := by rfl)
    (h1 : (assignEach [tg] X.env).map (·.2) = [assign tg X.env] := by rfl) : JS X cls (.Assign [tg] e pos) (sTg2 g me) := fun E tk =>
  (ps_asg (h E (passT tk)).pe (hg E tk) hs hw h1).imp fun D σ H ⟨Z, ρ, lo, mh, s, p⟩ => ⟨Z, ρ, lo, mh, s, (PostS.bind p).imp fun v ρ1 mh1 H1 e r q x rx => by
    refine ⟨Z, ρ1, lo, mh1, v, s.to e r, rx, ?_⟩
    cases k : g v lo mh1 with
    | nx lo' mh' => rw [k] at q; exact q
    | exc c m => rw [k] at q; exact q
    | bk _ _ => rw [k] at q; exact q.elim
    | ct _ _ => rw [k] at q; exact q.elim
    | rt _ _ => rw [k] at q; exact q.elim
    | bad => rw [k] at q; exact q.elim⟩
/-! tuple * int -/
def oRepT : Op2 := fun _ _ _ => .bad
theorem vRepT : OpV X cls (binaryOp .Mult) oRepT := fun E => OpR_imp op_mulX fun x y H Q ⟨Z, ρ, mh, v, u, rh, rv, ru, q⟩ => q.elim
/-! products of up to 2 ^ 27 bits -/
instance (i j : Int) : Decidable (CMulX i j) := inferInstanceAs (Decidable ((Builtin.Int.intBits i : Int) + (Builtin.Int.intBits j : Int) ≤ 134217728))
def oMulXI : Op2 := fun v u mh => match v, u with
  | .d (.int i), .d (.int j) => if CMulX i j then .ok (.d (.int (i * j))) mh else .bad
  | _, _ => .bad
theorem vMulXI : OpV X cls (binaryOp .Mult) oMulXI := fun E => OpR_imp op_mulX fun x y H Q ⟨Z, ρ, mh, v, u, rh, rv, ru, q⟩ => by
  unfold oMulXI at q
  split at q
  · rename_i i j
    split at q
    · rename_i hc
      cases rv with
      | d rv => cases rv; cases ru with
        | d ru => cases ru; exact ⟨i, j, rfl, rfl, hc, q.now rh _ (.d (.int _))⟩
    · exact q.elim
  · exact q.elim
def oMulX : Op2 := alt2 oMulI (alt2 oMulXI (alt2 oRepL oRepT))
theorem vMulX : OpV X cls (binaryOp .Mult) oMulX := vMulI.alt (vMulXI.alt (vRepL.alt vRepT))
end
end EL


set_option Elab.async false
set_option linter.all false
set_option maxRecDepth 100000
set_option maxHeartbeats 4000000
/-! EL: values: wide products, tuple * int, mixed targets, loops that end at the first fault. -/
namespace EL
open PySem L2 PySem.W
section
variable {lo : Lo} {mh mh1 mh2 : Mh} {v u w : PV} {me mo mi : EM}
theorem oMulX_i {i j : Int} (h : CMul i j) : oMulX (.d (.int i)) (.d (.int j)) mh = .ok (.d (.int (i * j))) mh := by
  unfold oMulX
  refine alt2_ok ?_
  unfold oMulI
  rw [oI_ap, if_pos h]
theorem oMulX_x {i j : Int} (h : CMulX i j) : oMulX (.d (.int i)) (.d (.int j)) mh = .ok (.d (.int (i * j))) mh := by
  by_cases hc : CMul i j
  · exact oMulX_i hc
  · unfold oMulX
    rw [alt2_bd (by unfold oMulI; rw [oI_ap, if_neg hc])]
    refine alt2_ok ?_
    unfold oMulXI
    exact if_pos h
theorem oMulX_rep {x : PyData} {k : Nat} (hk : k ≤ 1000000) : oMulX (.d (.list [x])) (.d (.int (k : Nat))) mh = .ok (.d (.list (List.replicate k x))) mh := by
  have hs := sizeLine_eq
  have h2 := oRepL_ok (mh := mh) (v := .d (.list [x])) (l := [.d x]) (k := (k : Nat)) rfl ⟨by omega, by omega, by rw [List.length_singleton, Int.toNat_natCast, Nat.one_mul]; omega⟩
  rw [Int.toNat_natCast, rep_flat, ← List.map_replicate, frzL_d] at h2
  exact (alt2_bd rfl).trans ((alt2_bd rfl).trans (alt2_ok h2))
def kTg2 (g : GM) (lo : Lo) : PV → Mh → SR := fun v mh1 => match g v lo mh1 with
  | .nx lo' mh' => .nx lo' mh'
  | .exc c m => .exc c m
  | _ => .bad
@[simp] theorem sTg2_ap (g : GM) : sTg2 g me lo mh = ofR (me lo mh) (kTg2 g lo) := rfl
theorem kTg2_nx {g : GM} {lo' : Lo} (h : g v lo mh = .nx lo' mh1) : kTg2 g lo v mh = .nx lo' mh1 := by unfold kTg2; rw [h]
theorem g2S_ap : g2S mo mi v lo mh = ofR (mo lo mh) (kSub2 mi lo v) := rfl
/-- x[i], y = a, b -/
theorem g2_sn {a b : PyData} {i : Nat} {lo' : Lo} (h : g2S mo mi (.d a) lo mh = .nx lo' mh1) : g2T 2 (g2Cons (g2S mo mi) (g2Cons (g2N i) g2Nil)) (.d (.tuple [a, b])) lo mh = .nx (lo'.set i (some (.d b))) mh1 := by
  show g2Cons (g2S mo mi) (g2Cons (g2N i) g2Nil) [.d a, .d b] lo mh = _
  unfold g2Cons
  dsimp only
  rw [h]
  rfl
theorem nDZ_lt {l r : List PyData} (h : (kOfs l).isSome = true) : nDZ [.d (.list l), .d (.tuple r)] mh = .ok (.dct (foldD (l.zip (r.map .d)))) mh := if_pos h
end
/-- a loop that ends at the first fault -/
theorem forL_find {gg : Mh → Prop} {t : Tg} {m : SM} {γ : Type} (Inv : Lo → Prop) (fv : γ → PV) (bad : γ → Bool) (val : γ → PV) (mh : Mh) (hg : gg mh) :
    ∀ (l pre : List γ) (lo : Lo), (∀ p x q lo, pre ++ l = p ++ x :: q → (∀ y, y ∈ p → bad y = false) → Inv lo → ∃ us, tgt t (fv x) = some us ∧ ((bad x = true ∧ m (upL lo us) mh = .rt (val x) mh) ∨ (bad x = false ∧ ∃ lo', m (upL lo us) mh = .nx lo' mh ∧ Inv lo'))) →
      (∀ y, y ∈ pre → bad y = false) → Inv lo →
      (∃ x, l.find? bad = some x ∧ forL gg t m (l.map fv) lo mh = .rt (val x) mh) ∨ (l.find? bad = none ∧ ∃ lo', forL gg t m (l.map fv) lo mh = .nx lo' mh ∧ Inv lo')
  | [], pre, lo, _, _, i => .inr ⟨rfl, lo, by simp only [List.map_nil, forL, if_pos hg], i⟩
  | x :: l, pre, lo, h, hp, i => by
    obtain ⟨us, h1, h2⟩ := h pre x l lo rfl hp i
    rcases h2 with ⟨hb, h2⟩ | ⟨hb, lo1, h2, i1⟩
    · refine .inl ⟨x, by rw [List.find?_cons, hb], ?_⟩
      simp only [List.map_cons, forL, if_pos hg, h1, h2]
    · have hp' : ∀ y, y ∈ pre ++ [x] → bad y = false := fun y hy => by
        rcases List.mem_append.mp hy with hy | hy
        · exact hp y hy
        · rw [List.mem_singleton.mp hy]; exact hb
      have e : forL gg t m ((x :: l).map fv) lo mh = forL gg t m (l.map fv) lo1 mh := by simp only [List.map_cons, forL, if_pos hg, h1, h2]
      rcases forL_find Inv fv bad val mh hg l (pre ++ [x]) lo1 (fun p y q lo hpq => h p y q lo (by rw [← hpq]; simp)) hp' i1 with ⟨y, q1, q2⟩ | ⟨q1, lo2, q2, q3⟩
      · exact .inl ⟨y, by rw [List.find?_cons, hb]; exact q1, by rw [e]; exact q2⟩
      · exact .inr ⟨by rw [List.find?_cons, hb]; exact q1, lo2, by rw [e]; exact q2, q3⟩
end EL


set_option Elab.async false
set_option linter.all false
set_option maxRecDepth 100000
set_option maxHeartbeats 4000000
/-! EL: loops with a counted end; what stands last in the heap. -/
namespace EL
open PySem
theorem forL_n {gg : Mh → Prop} {t : Tg} {m : SM} {σ γ : Type} (R : Nat → σ → Lo → Mh → Prop) (fv : γ → PV) (f : σ → γ → σ) (hg : ∀ i s lo mh, R i s lo mh → gg mh) (N : Nat) :
    ∀ (l : List γ) (i : Nat) (s : σ) (lo : Lo) (mh : Mh), i + l.length ≤ N → (∀ i s x lo mh, i < N → x ∈ l → R i s lo mh → ∃ us lo' mh', tgt t (fv x) = some us ∧ (m (upL lo us) mh = .nx lo' mh' ∨ m (upL lo us) mh = .ct lo' mh') ∧ R (i + 1) (f s x) lo' mh') → R i s lo mh →
      ∃ lo' mh', forL gg t m (l.map fv) lo mh = .nx lo' mh' ∧ R (i + l.length) (l.foldl f s) lo' mh'
  | [], i, s, lo, mh, _, _, r => ⟨lo, mh, by simp only [List.map_nil, forL, if_pos (hg i s lo mh r)], r⟩
  | x :: l, i, s, lo, mh, hN, h, r => by
    rw [List.length_cons] at hN
    obtain ⟨us, lo1, mh1, h1, h2, r1⟩ := h i s x lo mh (by omega) List.mem_cons_self r
    obtain ⟨lo2, mh2, h3, r2⟩ := forL_n R fv f hg N l (i + 1) (f s x) lo1 mh1 (by omega) (fun i s y lo mh hi hy r => h i s y lo mh hi (List.mem_cons_of_mem _ hy) r) r1
    refine ⟨lo2, mh2, ?_, by rw [List.length_cons, show i + (l.length + 1) = i + 1 + l.length by omega]; exact r2⟩
    simp only [List.map_cons, forL, if_pos (hg i s lo mh r), h1]
    rcases h2 with h2 | h2 <;> rw [h2] <;> exact h3
section
variable {mh : Mh}
theorem app_s {n : Nat} (s : List PyData) (x : PyData) (hn : n = mh.length) (hl : s.length ≤ 1000000) : oAppend (.ref n) [.d x] (mh ++ [.lst (s.map .d)]) = .ok (.d .none) (mh ++ [.lst ((s ++ [x]).map .d)]) := by
  subst hn
  rw [app_last (by simp; omega), List.map_append]; rfl
theorem tyM_s {n : Nat} (s : List PyData) (hn : n = mh.length) : tyM (mh ++ [.lst (s.map .d)]) "list" (.ref n) = true := by
  subst hn; exact tyM_r (l := s.map .d) (by simp)
end
theorem kLen_s {α : Type} (l : List α) (h : l.length ≤ 100000) (mh : Mh) (f : α → PyData) : kLen ((l.map f).map .d) mh = .ok ((l.map f).map .d) mh := kLen_ok (by simp; omega)
end EL


set_option Elab.async false
set_option linter.all false
set_option maxRecDepth 100000
set_option maxHeartbeats 4000000
/-! EL: a, b = a list or a tuple. -/
namespace EL
open PySem PySem.Spec L2 PySem.W PyProof.Rows
def g2A (n : Nat) (gs : GMs) : GM := fun v lo mh => match tupOf v with
  | some l => if l.length = n then gs l lo mh else .bad
  | none => match listOf mh v with
    | some l => if l.length = n then gs l lo mh else .bad
    | none => .bad
section
variable {X : Cx} {cls : Nat → Addr} {e : Expr} {es : List Expr} {pos : Pos} {g : GM} {gs : GMs}
theorem PG_or {t t' : TG} (h : PG X e t) (h' : PG X e t') : PG X e fun v σ H Q => t v σ H Q ∨ t' v σ H Q :=
  ⟨fun pins s σ H v u Q I r q => q.elim (h.run pins s σ H v u Q I r) (h'.run pins s σ H v u Q I r)⟩
theorem TU3 (c : COk X) {k n : Nat} (h : JGs2 X cls es gs) (hn : (assignEach es X.env).length = n := by rfl) (hst : (assignEach es X.env).findIdx? (·.1) = none := by rfl) : JG2 X cls (.Tuple es k pos) (g2A n gs) := fun E tk =>
  PG_imp (PG_or (pg_tup c.calm (h E tk) hn hst) (pg_lst c.calm (h E tk) hn hst)) fun v σ H Q ⟨Z, ρ, lo, mh, pv, s, rv, p⟩ => by
    unfold g2A at p
    split at p
    · rename_i l hl
      split at p
      · rename_i hn
        obtain ⟨a, xs, rfl, h1, r1⟩ := tupOf_ok rv hl
        exact .inl ⟨a, xs, rfl, h1.sq, by rw [← r1.length]; exact hn, Z, ρ, lo, mh, l, s, r1, p⟩
      · exact p.elim
    · split at p
      · rename_i l hl
        split at p
        · rename_i hn
          obtain ⟨a, xs, rfl, h1, r1⟩ := listOf_ok s.hp rv hl
          exact .inr ⟨a, xs, rfl, .of h1, by rw [← r1.length]; exact hn, Z, ρ, lo, mh, l, s, r1, p⟩
        · exact p.elim
      · exact p.elim
theorem kTg2_l2 {lo : Lo} {mh : Mh} {a b : PyData} (i j : Nat) : kTg2 (g2A 2 (g2Cons (g2N i) (g2Cons (g2N j) g2Nil))) lo (.d (.list [a, b])) mh = .nx ((lo.set i (some (.d a))).set j (some (.d b))) mh := rfl
end
end EL


set_option Elab.async false
set_option linter.all false
set_option maxRecDepth 100000
set_option maxHeartbeats 4000000
/-! EL: len(set(x)), x a tuple of ints. -/
namespace EL
open PySem PySem.Spec L2 PySem.W PyProof.Rows
/-- the ints, each once -/
def ddI : List Int → List Int
  | [] => []
  | x :: r => if x ∈ r then ddI r else x :: ddI r
theorem mem_ddI {y : Int} : ∀ {l : List Int}, y ∈ ddI l ↔ y ∈ l
  | [] => Iff.rfl
  | x :: r => by
    unfold ddI
    split
    · rename_i h
      rw [mem_ddI, List.mem_cons]
      exact ⟨.inr, fun e => e.elim (fun e => e ▸ h) id⟩
    · rw [List.mem_cons, List.mem_cons, mem_ddI]
theorem ddI_nodup : ∀ l : List Int, (ddI l).Nodup
  | [] => List.nodup_nil
  | x :: r => by
    unfold ddI
    split
    · exact ddI_nodup r
    · rename_i h
      exact List.nodup_cons.mpr ⟨fun e => h (mem_ddI.mp e), ddI_nodup r⟩
theorem ddI_id : ∀ {l : List Int}, l.Nodup → ddI l = l
  | [], _ => rfl
  | x :: r, h => by
    have h := List.nodup_cons.mp h
    unfold ddI
    rw [if_neg h.1, ddI_id h.2]
theorem ddI_le : ∀ l : List Int, (ddI l).length ≤ l.length
  | [] => Nat.le_refl _
  | x :: r => by
    have := ddI_le r
    unfold ddI
    split <;> simp <;> omega
theorem ddI_lt : ∀ {l : List Int}, ¬ l.Nodup → (ddI l).length < l.length
  | [], h => absurd List.nodup_nil h
  | x :: r, h => by
    unfold ddI
    by_cases hx : x ∈ r
    · rw [if_pos hx]
      have := ddI_le r
      simp; omega
    · rw [if_neg hx]
      have : ¬ r.Nodup := fun e => h (List.nodup_cons.mpr ⟨hx, e⟩)
      have := ddI_lt this
      simp; omega
theorem same_len : ∀ {a b : List Int}, a.Nodup → b.Nodup → (∀ x, x ∈ a ↔ x ∈ b) → a.length = b.length
  | [], [], _, _, _ => rfl
  | [], y :: b, _, _, h => absurd ((h y).mpr (by simp)) (by simp)
  | x :: a, b, ha, hb, h => by
    have ha' := List.nodup_cons.mp ha
    have hx : x ∈ b := (h x).mp (by simp)
    have hb' : (b.erase x).Nodup := hb.erase x
    have e := same_len (a := a) (b := b.erase x) ha'.2 hb' fun y => by
      rw [hb.mem_erase_iff]
      refine ⟨fun hy => ⟨fun e => ha'.1 (e ▸ hy), (h y).mp (List.mem_cons_of_mem _ hy)⟩, fun ⟨h1, h2⟩ => ?_⟩
      rcases List.mem_cons.mp ((h y).mpr h2) with rfl | h3
      · exact absurd rfl h1
      · exact h3
    have hl : (b.erase x).length = b.length - 1 := by rw [List.length_erase, if_pos hx]
    have hp : 0 < b.length := List.length_pos_of_mem hx
    rw [List.length_cons, e, hl]
    omega
theorem ints_of : ∀ {ns : List Int} {us : List Value}, Vals (ns.map V.int) us → PyProof.Rows.IntsAre us ns
  | [], _, .nil => .nil
  | n :: ns, _, .cons r t => by
    obtain ⟨k, rfl⟩ := r
    exact .cons n k (ints_of t)
section
variable {X : Cx} {cls : Nat → Addr} {a : Expr} {ma : EM} {pos : Pos}
def tLST (K : PySem.W.Frag) (ta : TE) : TE := fun σ H Q => ta σ H fun x H1 => ∃ (l : Addr) (ns : List Int), x = V.ref l ∧ SqT K H1 l (ns.map V.int) ∧ ns.length ≤ 60 ∧ Q (.int ((ddI ns).length : Nat)) H1
theorem pe_lenSetT {ta : TE} {p p2 q : Pos} (hc : X.calm = true) (hg : Gl X "len") (hm : X.mg "len" = none) (hg2 : Gl X "set") (hm2 : X.mg "set" = none) (ha : PE X a ta)
    (na : starEach [a] X.env = (false, eval a X.env) :: starEach [] X.env := by rfl) : PE X (.Call (.Name "len" p) [.Call (.Name "set" p2) [a] [] q] [] pos) (tLST X.K ta) := by
  refine ⟨fun pins s σ H Q I h => ?_⟩
  refine Call_ (ld_blt I hg hm PySem.boot_len ?_)
  refine PyProof.Rows.callWith_builtin1 (PyProof.Rows.args_cons ?_ rfl) rfl rfl
  refine Call_ (ld_blt I hg2 hm2 PyProof.Rows.boot_set ?_)
  refine PyProof.Rows.callWith_type1 (PyProof.Rows.args_cons (thn (ha.run pins s σ H _ I h) fun v s1 ⟨x, H1, I1, r1, q1⟩ => PyProof.Rows.args_nil ?_) na) na rfl
  obtain ⟨l, ns, rfl, hq, h1, q1⟩ := q1
  cases r1
  obtain ⟨its, r, pl, hz⟩ := I1.tuple hq
  refine call_set_tupI (P := X.prog) (w := X.w) ns (I1.ok.hd hc) pl (by simpa using ints_of r) (by unfold scanBound; omega) fun h' tk c hS hc' hk => ?_
  refine PyProof.Rows.args_nil ?_
  obtain ⟨o, es, ep, t, ho, hex, hd, _, hnd, hmem, _, hf, hn, _⟩ := hS
  have I2 : Inv X pins σ H1 { s1 with heap := h', toks := tk } := I1.kept fun b o e => hk b o e
  have hlen : es.size = (ddI ns).length := by
    have e := same_len hnd (ddI_nodup ns) fun x => by
      rw [mem_ddI, ← hmem x, decide_eq_true_eq]
    simpa using e
  refine call_len_set ho hex hd hf (by rw [hn] <;> omega) ⟨.int ((ddI ns).length : Nat), H1, I2.tok _, ⟨_, by rw [hlen]⟩, q1⟩
theorem rds_ints {K : PySem.W.Frag} {Z ρ : List Addr} {H : Hp} : ∀ {ns : List Int} {xs : List V}, RDs K Z ρ H (ns.map .int) xs → xs = ns.map V.int
  | [], xs, r => by rw [List.map_nil] at r; cases r; rfl
  | n :: ns, xs, r => by
    rw [List.map_cons] at r
    cases r with
    | cons r1 r2 =>
      cases r1
      rw [rds_ints r2]; rfl
def kLenSet : PV → Mh → Res PV := fun v mh => match v with
  | .d (.tuple ds) => match intsOf ds with
    | some ns => if ns.length ≤ 60 then .ok (.d (.int ((ddI ns).length : Nat))) mh else .bad
    | none => .bad
  | _ => .bad
def mLenSet (ma : EM) : EM := fun lo mh => (ma lo mh).bind kLenSet
@[simp] theorem mLenSet_ap (lo : Lo) (mh : Mh) : mLenSet ma lo mh = (ma lo mh).bind kLenSet := rfl
theorem kLenSet_i {ns : List Int} (h : ns.length ≤ 60) (mh : Mh) : kLenSet (.d (.tuple (ns.map .int))) mh = .ok (.d (.int ((ddI ns).length : Nat))) mh := by
  unfold kLenSet
  dsimp only
  rw [intsOf_map]
  exact if_pos h
theorem LST (c : COk X) {p p2 q : Pos} (hm : X.mg "len" = none) (hm2 : X.mg "set" = none) (ha : JE X cls a ma) (hg : Gl X "len" := by rfl) (hg2 : Gl X "set" := by rfl) (na : starEach [a] X.env = (false, eval a X.env) :: starEach [] X.env := by rfl) :
    JE X cls (.Call (.Name "len" p) [.Call (.Name "set" p2) [a] [] q] [] pos) (mLenSet ma) := fun E hx =>
  .of c ((pe_lenSetT c.calm hg hm hg2 hm2 (ha E hx).pe na).imp fun σ H Q ⟨Z, ρ, lo, mh, s, p⟩ => by
    refine ⟨Z, ρ, lo, mh, s, (Post.bind p).imp ?_⟩
    intro v ρ1 mh1 H1 e r q x rx
    unfold kLenSet at q
    split at q
    · rename_i ds
      split at q
      · rename_i ns hi
        split at q
        · rename_i hl
          cases rx with
          | d rx => cases rx with
            | tup h1 r1 =>
              obtain rfl := intsOf_ok hi
              obtain rfl := rds_ints r1
              exact ⟨_, ns, rfl, h1.sq, hl, q.now r _ (.d (.int _))⟩
        · exact q.elim
      · exact q.elim
    · exact q.elim) fun _ _ _ => rfl
end
end EL


set_option Elab.async false
set_option linter.all false
set_option maxRecDepth 100000
set_option maxHeartbeats 4000000
/-! EL: products (the name that the printed programs use). -/
namespace EL
open PySem PySem.Spec L2 PySem.W PyProof.Rows
section
variable {X : Cx} {cls : Nat → Addr}
def oMulY : Op2 := oMulX
theorem vMulY : OpV X cls (binaryOp .Mult) oMulY := vMulX
end
section
variable {mh : Mh}
theorem oMulY_i {i j : Int} (h : CMul i j) : oMulY (.d (.int i)) (.d (.int j)) mh = .ok (.d (.int (i * j))) mh := oMulX_i h
theorem oMulY_x {i j : Int} (h : CMulX i j) : oMulY (.d (.int i)) (.d (.int j)) mh = .ok (.d (.int (i * j))) mh := oMulX_x h
theorem oMulY_rep {x : PyData} {k : Nat} (hk : k ≤ 1000000) : oMulY (.d (.list [x])) (.d (.int (k : Nat))) mh = .ok (.d (.list (List.replicate k x))) mh := oMulX_rep hk
end
end EL


set_option Elab.async false
set_option linter.all false
set_option maxRecDepth 100000
set_option maxHeartbeats 4000000
/-! EL: len of a dict. -/
namespace EL
open PySem PySem.Spec L2 PySem.W PyProof.Rows
section
variable {X : Cx} {cls : Nat → Addr}
def nLenD : OpN := fun vs mh => match vs with
  | [v] => match dOf mh v with
    | some kvs => .ok (.d (.int (kvs.length : Nat))) mh
    | none => .bad
  | _ => .bad
theorem cLenD : CaV X cls (.builtin "len") nLenD := fun E => CallR_imp call_lenD fun xs H Q ⟨Z, ρ, mh, vs, rh, rv, q⟩ => by
  unfold nLenD at q
  split at q
  · rename_i v
    split at q
    · rename_i kvs hd
      cases rv with
      | cons r rn =>
        cases rn
        obtain ⟨a, ks, rfl, h1, r1⟩ := dOf_ok rh r hd
        rw [r1.length] at q
        exact ⟨a, ks, rfl, h1, q.now rh _ (.d (.int _))⟩
    · exact q.elim
  · exact q.elim
theorem nLenD_c (kvs : List (PyData × PV)) (mh : Mh) : nLenD [.dct kvs] mh = .ok (.d (.int (kvs.length : Nat))) mh := rfl
end
end EL


set_option Elab.async false
set_option linter.all false
set_option maxRecDepth 100000
set_option maxHeartbeats 4000000
/-! EL: [..] * n, a list to be written. -/
namespace EL
open PySem PySem.Spec L2 PySem.W PyProof.Rows
section
variable {X : Cx} {cls : Nat → Addr} {a b : Expr} {pos : Pos}
def repL (mh : Mh) (v u : PV) : Option (List PV) := match listOf mh v, u with
  | some l, .d (.int k) => if -(2 ^ 63) ≤ k ∧ k < 2 ^ 63 ∧ l.length * k.toNat ≤ sizeLine then some (List.replicate k.toNat l).flatten else none
  | _, _ => none
def kRepL2 (v : PV) : PV → Mh → Res (List PV) := fun u mh2 => match repL mh2 v u with
  | some l => .ok l mh2
  | none => .bad
def kRepL1 (mb : EM) (lo : Lo) : PV → Mh → Res (List PV) := fun v mh1 => (mb lo mh1).bind (kRepL2 v)
def lRep (ma mb : EM) : AM := fun lo mh => (ma lo mh).bind (kRepL1 mb lo)
theorem JL_rep (c : COk X) {ma mb : EM} (ha : JE X cls a ma) (hb : JE X cls b mb) : JL X cls (.BinOp a .Mult b pos) (lRep ma mb) := fun E hx =>
  .of c ((pe_op op_rep (ha E hx).pe (hb E hx).pe).imp fun σ H Q ⟨Z, ρ, lo, mh, s, p⟩ => by
    refine ⟨Z, ρ, lo, mh, s, (Post.bind p).imp ?_⟩
    intro v ρ1 mh1 H1 e1 r1 q x rx
    refine ⟨Z, ρ1, lo, mh1, s.to e1 r1, (Post.bind q).imp ?_⟩
    intro u ρ2 mh2 H2 e2 r2 q2 y ry
    unfold kRepL2 at q2
    split at q2
    · rename_i l e
      unfold repL at e
      split at e
      · rename_i l0 k h0
        split at e
        · rename_i hl
          cases e
          obtain ⟨t, xs, rfl, h1, rr⟩ := listOf_ok r2 (rx.mono e2) h0
          cases ry with
          | d ry =>
            cases ry
            exact ⟨t, k, xs, rfl, rfl, h1, hl.1, hl.2.1, by rw [← rr.length]; exact hl.2.2, fun p hp => KL.new q2 (fun p hp => (e1.trans e2).none r2 hp) r2 (rr.rep _) hp⟩
        · cases e
      · cases e
    · exact q2.elim) fun _ _ _ => rfl
@[simp] theorem lRep_ap {ma mb : EM} {lo : Lo} {mh : Mh} : lRep ma mb lo mh = (ma lo mh).bind (kRepL1 mb lo) := rfl
@[simp] theorem kRepL1_ap {mb : EM} {lo : Lo} {mh : Mh} {v : PV} : kRepL1 mb lo v mh = (mb lo mh).bind (kRepL2 v) := rfl
theorem repL_ok {mh : Mh} {v : PV} {l : List PV} {k : Int} (hl : EL.listOf mh v = some l) (h : -(2 ^ 63) ≤ k ∧ k < 2 ^ 63 ∧ l.length * k.toNat ≤ sizeLine) : repL mh v (.d (.int k)) = some (List.replicate k.toNat l).flatten := by
  unfold repL
  rw [hl]
  exact if_pos h
theorem kRepL2_ok {mh : Mh} {v u : PV} {l : List PV} (h : repL mh v u = some l) : kRepL2 v u mh = .ok l mh := by
  unfold kRepL2
  rw [h]
theorem rep_one (x : PyData) (k : Nat) : (List.replicate ((k : Nat) : Int).toNat [PV.d x]).flatten = (List.replicate k x).map .d := by
  rw [Int.toNat_natCast, rep_flat, ← List.map_replicate]
theorem rep_cond {k : Nat} (hk : k ≤ 1000000) : -(2 ^ 63) ≤ ((k : Nat) : Int) ∧ ((k : Nat) : Int) < 2 ^ 63 ∧ 1 * ((k : Nat) : Int).toNat ≤ sizeLine := by
  have hs := sizeLine_eq
  exact ⟨by omega, by omega, by rw [Int.toNat_natCast, Nat.one_mul]; omega⟩
theorem kRepL2_1 {x : PyData} {k : Nat} (hk : k ≤ 1000000) (mh : Mh) : kRepL2 (.d (.list [x])) (.d (.int (k : Nat))) mh = .ok ((List.replicate k x).map .d) mh := by
  have h2 := repL_ok (mh := mh) (v := .d (.list [x])) (l := [.d x]) (k := (k : Nat)) rfl (rep_cond hk)
  rw [rep_one] at h2
  exact kRepL2_ok h2
end
end EL


set_option Elab.async false
set_option linter.all false
set_option maxRecDepth 100000
set_option maxHeartbeats 4000000
namespace K70
open PySem PySem.Spec PyProof.Rows L2 EL
def top (i : Nat) : Stmt := PySem.Challenge.pw_fewplaces_k70_whole_turns.main.body.getD i (.Pass ⟨0, 0, 0, 0⟩)
def mth (i j : Nat) : Stmt := (clB (top i)).getD j (.Pass ⟨0, 0, 0, 0⟩)
/-- the classes -/
def clsN : List Str := ["PlaceError", "BadMaking", "BadTree", "BadSteps", "Turning"]
def cls (K : PySem.W.Frag) (i : Nat) : Addr := He.ga K (clsN.getD i "")
abbrev k_EITHER : PyData := .tuple [.str "add", .str "times", .str "least", .str "greatest"]
abbrev k_FORM_texts : PyData := .tuple [.str "form"]
abbrev k_FORM_turned : PyData := .tuple [.str "form"]
abbrev k_LEFT : PyData := .str "left"
abbrev k_LETTERS : PyData := .str "abcdefghijklmnopqrstuvwxyz"
abbrev k_MANY_GOALS : PyData := .tuple [.str "goals"]
abbrev k_MOST_GOALS : PyData := .int 6
abbrev k_MOST_LINES : PyData := .int 60
abbrev k_MOST_NAME : PyData := .int 8
abbrev k_MOST_STEPS : PyData := .int 5000
abbrev k_SWAP : PyData := .str "swap"
abbrev t_NEEDS : List (Str × Int) := [("in", 0), ("neg", 1), ("double", 1), ("add", 2), ("sub", 2), ("times", 2), ("least", 2), ("greatest", 2)]
/-- what the head tells -/
structure Fx (w : World) (K : PySem.W.Frag) (mg : Str → Option Value) : Prop where
  f_is_name : ∃ fd, FunD K "is_name" "is_name" (defArgs (top 13)) (defBody (top 13)) (defScope (top 13)) [] [] (He.fAd K ("is_name", none)) fd
  f__is_line : ∃ fd, FunD K "_is_line" "_is_line" (defArgs (top 14)) (defBody (top 14)) (defScope (top 14)) [] [] (He.fAd K ("_is_line", none)) fd
  f__line_fault : ∃ fd, FunD K "_line_fault" "_line_fault" (defArgs (top 15)) (defBody (top 15)) (defScope (top 15)) [] [] (He.fAd K ("_line_fault", none)) fd
  f_text_fault : ∃ fd, FunD K "text_fault" "text_fault" (defArgs (top 16)) (defBody (top 16)) (defScope (top 16)) [] [] (He.fAd K ("text_fault", none)) fd
  f_check_text : ∃ fd, FunD K "check_text" "check_text" (defArgs (top 17)) (defBody (top 17)) (defScope (top 17)) [] [] (He.fAd K ("check_text", none)) fd
  f_numbers_in : ∃ fd, FunD K "numbers_in" "numbers_in" (defArgs (top 18)) (defBody (top 18)) (defScope (top 18)) [] [] (He.fAd K ("numbers_in", none)) fd
  f_needs_by : ∃ fd, FunD K "needs_by" "needs_by" (defArgs (top 19)) (defBody (top 19)) (defScope (top 19)) [] [] (He.fAd K ("needs_by", none)) fd
  f_goals_by : ∃ fd, FunD K "goals_by" "goals_by" (defArgs (top 20)) (defBody (top 20)) (defScope (top 20)) [] [] (He.fAd K ("goals_by", none)) fd
  f_needed_by : ∃ fd, FunD K "needed_by" "needed_by" (defArgs (top 21)) (defBody (top 21)) (defScope (top 21)) [] [] (He.fAd K ("needed_by", none)) fd
  f_fault_by : ∃ fd, FunD K "fault_by" "fault_by" (defArgs (top 25)) (defBody (top 25)) (defScope (top 25)) [] [] (He.fAd K ("fault_by", none)) fd
  f_check_tree : ∃ fd, FunD K "check_tree" "check_tree" (defArgs (top 26)) (defBody (top 26)) (defScope (top 26)) [] [] (He.fAd K ("check_tree", none)) fd
  f_uses_by : ∃ fd, FunD K "uses_by" "uses_by" (defArgs (top 32)) (defBody (top 32)) (defScope (top 32)) [] [] (He.fAd K ("uses_by", none)) fd
  f_put_line : ∃ fd, FunD K "put_line" "put_line" (defArgs (top 33)) (defBody (top 33)) (defScope (top 33)) [] [] (He.fAd K ("put_line", none)) fd
  f_moved_ahead : ∃ fd, FunD K "moved_ahead" "moved_ahead" (defArgs (top 34)) (defBody (top 34)) (defScope (top 34)) [] [] (He.fAd K ("moved_ahead", none)) fd
  f_turn_by : ∃ fd, FunD K "turn_by" "turn_by" (defArgs (top 35)) (defBody (top 35)) (defScope (top 35)) [] [] (He.fAd K ("turn_by", none)) fd
  f_is_turn : ∃ fd, FunD K "is_turn" "is_turn" (defArgs (top 36)) (defBody (top 36)) (defScope (top 36)) [] [] (He.fAd K ("is_turn", none)) fd
  f_turns_fault : ∃ fd, FunD K "turns_fault" "turns_fault" (defArgs (top 37)) (defBody (top 37)) (defScope (top 37)) [] [] (He.fAd K ("turns_fault", none)) fd
  f_turned : ∃ fd, FunD K "turned" "turned" (defArgs (top 38)) (defBody (top 38)) (defScope (top 38)) [] [] (He.fAd K ("turned", none)) fd
  f_worked : ∃ fd, FunD K "worked" "worked" (defArgs (top 41)) (defBody (top 41)) (defScope (top 41)) [] [] (He.fAd K ("worked", none)) fd
  f_best_turns : ∃ fd, FunD K "best_turns" "best_turns" (defArgs (top 42)) (defBody (top 42)) (defScope (top 42)) [] [] (He.fAd K ("best_turns", none)) fd
  f_turned_places : ∃ fd, FunD K "turned_places" "turned_places" (defArgs (top 43)) (defBody (top 43)) (defScope (top 43)) [] [] (He.fAd K ("turned_places", none)) fd
  f__law_draws : ∃ fd, FunD K "_law_draws" "_law_draws" (defArgs (top 45)) (defBody (top 45)) (defScope (top 45)) [] [] (He.fAd K ("_law_draws", none)) fd
  f__law_text : ∃ fd, FunD K "_law_text" "_law_text" (defArgs (top 46)) (defBody (top 46)) (defScope (top 46)) [] [] (He.fAd K ("_law_text", none)) fd
  f__law_tree : ∃ fd, FunD K "_law_tree" "_law_tree" (defArgs (top 47)) (defBody (top 47)) (defScope (top 47)) [] [] (He.fAd K ("_law_tree", none)) fd
  f__law_turned : ∃ fd, FunD K "_law_turned" "_law_turned" (defArgs (top 48)) (defBody (top 48)) (defScope (top 48)) [] [] (He.fAd K ("_law_turned", none)) fd
  f__law_fault : ∃ fd, FunD K "_law_fault" "_law_fault" (defArgs (top 55)) (defBody (top 55)) (defScope (top 55)) [] [] (He.fAd K ("_law_fault", none)) fd
  f__law_error : ∃ fd, FunD K "_law_error" "_law_error" (defArgs (top 56)) (defBody (top 56)) (defScope (top 56)) [] [] (He.fAd K ("_law_error", none)) fd
  f_law : ∃ fd, FunD K "law" "law" (defArgs (top 57)) (defBody (top 57)) (defScope (top 57)) [] [] (He.fAd K ("law", none)) fd
  g__is_line : mg "_is_line" = some (.ref (He.ga K "_is_line"))
  g__law_draws : mg "_law_draws" = some (.ref (He.ga K "_law_draws"))
  g__law_error : mg "_law_error" = some (.ref (He.ga K "_law_error"))
  g__law_fault : mg "_law_fault" = some (.ref (He.ga K "_law_fault"))
  g__law_text : mg "_law_text" = some (.ref (He.ga K "_law_text"))
  g__law_tree : mg "_law_tree" = some (.ref (He.ga K "_law_tree"))
  g__law_turned : mg "_law_turned" = some (.ref (He.ga K "_law_turned"))
  g__line_fault : mg "_line_fault" = some (.ref (He.ga K "_line_fault"))
  g_best_turns : mg "best_turns" = some (.ref (He.ga K "best_turns"))
  g_check_text : mg "check_text" = some (.ref (He.ga K "check_text"))
  g_check_tree : mg "check_tree" = some (.ref (He.ga K "check_tree"))
  g_fault_by : mg "fault_by" = some (.ref (He.ga K "fault_by"))
  g_goals_by : mg "goals_by" = some (.ref (He.ga K "goals_by"))
  g_is_name : mg "is_name" = some (.ref (He.ga K "is_name"))
  g_is_turn : mg "is_turn" = some (.ref (He.ga K "is_turn"))
  g_law : mg "law" = some (.ref (He.ga K "law"))
  g_moved_ahead : mg "moved_ahead" = some (.ref (He.ga K "moved_ahead"))
  g_needed_by : mg "needed_by" = some (.ref (He.ga K "needed_by"))
  g_needs_by : mg "needs_by" = some (.ref (He.ga K "needs_by"))
  g_numbers_in : mg "numbers_in" = some (.ref (He.ga K "numbers_in"))
  g_put_line : mg "put_line" = some (.ref (He.ga K "put_line"))
  g_text_fault : mg "text_fault" = some (.ref (He.ga K "text_fault"))
  g_turn_by : mg "turn_by" = some (.ref (He.ga K "turn_by"))
  g_turned : mg "turned" = some (.ref (He.ga K "turned"))
  g_turned_places : mg "turned_places" = some (.ref (He.ga K "turned_places"))
  g_turns_fault : mg "turns_fault" = some (.ref (He.ga K "turns_fault"))
  g_uses_by : mg "uses_by" = some (.ref (He.ga K "uses_by"))
  g_worked : mg "worked" = some (.ref (He.ga K "worked"))
  b_abs : mg "abs" = none
  b_all : mg "all" = none
  b_dict : mg "dict" = none
  b_enumerate : mg "enumerate" = none
  b_int : mg "int" = none
  b_isinstance : mg "isinstance" = none
  b_len : mg "len" = none
  b_list : mg "list" = none
  b_max : mg "max" = none
  b_range : mg "range" = none
  b_sorted : mg "sorted" = none
  b_str : mg "str" = none
  b_sum : mg "sum" = none
  b_tuple : mg "tuple" = none
  b_zip : mg "zip" = none
  k_EITHER : ∃ u, mg "EITHER" = some u ∧ KD K u k_EITHER
  k_FORM_texts : ∃ u, mg "FORM_texts" = some u ∧ KD K u k_FORM_texts
  k_FORM_turned : ∃ u, mg "FORM_turned" = some u ∧ KD K u k_FORM_turned
  k_LEFT : ∃ u, mg "LEFT" = some u ∧ KD K u k_LEFT
  k_LETTERS : ∃ u, mg "LETTERS" = some u ∧ KD K u k_LETTERS
  k_MANY_GOALS : ∃ u, mg "MANY_GOALS" = some u ∧ KD K u k_MANY_GOALS
  k_MOST_GOALS : ∃ u, mg "MOST_GOALS" = some u ∧ KD K u k_MOST_GOALS
  k_MOST_LINES : ∃ u, mg "MOST_LINES" = some u ∧ KD K u k_MOST_LINES
  k_MOST_NAME : ∃ u, mg "MOST_NAME" = some u ∧ KD K u k_MOST_NAME
  k_MOST_STEPS : ∃ u, mg "MOST_STEPS" = some u ∧ KD K u k_MOST_STEPS
  k_SWAP : ∃ u, mg "SWAP" = some u ∧ KD K u k_SWAP
  g_NEEDS : mg "NEEDS" = some (.ref (He.ga K "NEEDS"))
  t_NEEDS : TabK K w (He.ga K "NEEDS") t_NEEDS
  x_BadMaking : ExCK K mg (cls K) 1 "BadMaking"
  x_BadSteps : ExCK K mg (cls K) 3 "BadSteps"
  x_BadTree : ExCK K mg (cls K) 2 "BadTree"
  em : ∀ c, c ∈ [1, 2, 3] → ∀ p : Nat × Str, p.1 ∈ [1, 2, 3] → PySem.W.exmOne K (.ref (cls K c)) (.ref (cls K p.1)) = some (p.1 == c)
section
variable {P : Program} {w : World} {K : PySem.W.Frag} {mg : Str → Option Value} {base : Heap}
noncomputable def b_is_name : SM := (sSeq (sRet (eAnd (mIsi "str" (mV 0)) (eAnd (chain3 (mC (.int 1)) (mCB nLen (aCons (mV 0) aNil)) (mC k_MOST_NAME) oLeI oLeI) (mCB (nBools (·.all id)) (aCons (mFrz (mLC (iSeq (mV 0)) (.nm 1) bYes (bind2 (mV 1) (mC k_LETTERS) oIn) [1])) aNil)))))
  sNil)
noncomputable def m_is_name : FM := dM 2 b_is_name
theorem ok_is_name (F : Fx w K mg) : Ok P w K mg base (cls K) 1 (He.fAd K ("is_name", none)) ["value"] m_is_name :=
  Ok.of (N := ["value", "sign"]) F.f_is_name ⟨rfl, rfl, rfl, by decide +kernel, rfl, by decide +kernel, by decide +kernel⟩ (fun _ _ _ _ _ _ us hl => match us, hl with | [_], _ => rfl) fun _ _ _ _ _ _ hr k =>
  (JSs_cons (JS_ret (JE_and k.toCOk (ISI k.toCOk "str" F.b_isinstance F.b_str (VR k.toCOk 0)) (JE_and k.toCOk (CH k.toCOk vLeI vLeI (JE_int k.toCOk) (CB k.toCOk cLen F.b_len (AC (VR k.toCOk 0) JA_nil)) (GK k.toCOk F.k_MOST_NAME)) (JE_one k.toCOk (CB k.toCOk (cAll k.toCOk) F.b_all (AC (JE_frz (LC k.toCOk [("sign", 1)] (JI_seq (VR k.toCOk 0)) (fun s1 H1 _ _ fp1 => (NM (k.toCOk.blk s1 H1 _ _ fp1) 1)) (fun s1 H1 _ _ fp1 => JTs_nil) (fun s1 H1 _ _ fp1 => (CM (k.toCOk.blk s1 H1 _ _ fp1) (vIn (k.toCOk.blk s1 H1 _ _ fp1)) (VR (k.toCOk.blk s1 H1 _ _ fp1) 1) (GK (k.toCOk.blk s1 H1 _ _ fp1) F.k_LETTERS))))) JA_nil))))))
  JSs_nil)
noncomputable def b__is_line : SM := (sSeq (sIf (bOr (bNot (mTru (mIsi "tuple" (mV 0)))) (bOr (mB (bind2 (mCB nLen (aCons (mV 0) aNil)) (mC (.int 3)) oNe)) (bOr (bNot (mTru (mCall 1 m_is_name (aCons (bind2 (mV 0) (mC (.int 0)) oIxA) aNil)))) (bNot (mTru (mIsi "str" (bind2 (mV 0) (mC (.int 1)) oIxA))))))) (sSeq (sRet (mC (.bool false)))
  sNil) sNil)
  (sSeq (sIf (bOr (mB (mTabIn false t_NEEDS (bind2 (mV 0) (mC (.int 1)) oIxA))) (bOr (bNot (mTru (mIsi "tuple" (bind2 (mV 0) (mC (.int 2)) oIxA)))) (mB (bind2 (mCB nLen (aCons (bind2 (mV 0) (mC (.int 2)) oIxA) aNil)) (mTabIx t_NEEDS (bind2 (mV 0) (mC (.int 1)) oIxA)) oNe)))) (sSeq (sRet (mC (.bool false)))
  sNil) sNil)
  (sSeq (sRet (mCB (nBools (·.all id)) (aCons (mFrz (mLC (iSeq (bind2 (mV 0) (mC (.int 2)) oIxA)) (.nm 1) bYes (mCall 1 m_is_name (aCons (mV 1) aNil)) [1])) aNil)))
  sNil)))
noncomputable def m__is_line : FM := dM 2 b__is_line
theorem ok__is_line (F : Fx w K mg) : Ok P w K mg base (cls K) 2 (He.fAd K ("_is_line", none)) ["value"] m__is_line :=
  Ok.of (N := ["value", "one"]) F.f__is_line ⟨rfl, rfl, rfl, by decide +kernel, rfl, by decide +kernel, by decide +kernel⟩ (fun _ _ _ _ _ _ us hl => match us, hl with | [_], _ => rfl) fun _ _ _ _ _ _ hr k =>
  (JSs_cons (JS_if (JW.t (JW_or (JT_not (TR (ISI k.toCOk "tuple" F.b_isinstance F.b_tuple (VR k.toCOk 0)))) (JW_or (CMT k.toCOk (vNe k.toCOk) (CB k.toCOk cLen F.b_len (AC (VR k.toCOk 0) JA_nil)) (JE_int k.toCOk)) (JW_or (JT_not (TR (CL k.toCOk hr (ok_is_name F) F.g_is_name (AC (IX k.toCOk (vIxA k.toCOk) (VR k.toCOk 0) (JE_int k.toCOk)) JA_nil)))) (JW_or1 (JT_not (TR (ISI k.toCOk "str" F.b_isinstance F.b_str (IX k.toCOk (vIxA k.toCOk) (VR k.toCOk 0) (JE_int k.toCOk)))))))))) (JSs_cons (JS_ret (JE_bl k.toCOk))
  JSs_nil) JSs_nil)
  (JSs_cons (JS_if (JW.t (JW_or (JT_tabNin k.toCOk F.t_NEEDS (IX k.toCOk (vIxA k.toCOk) (VR k.toCOk 0) (JE_int k.toCOk)) rfl F.g_NEEDS (by decide) rfl) (JW_or (JT_not (TR (ISI k.toCOk "tuple" F.b_isinstance F.b_tuple (IX k.toCOk (vIxA k.toCOk) (VR k.toCOk 0) (JE_int k.toCOk))))) (JW_or1 (CMT k.toCOk (vNe k.toCOk) (CB k.toCOk cLen F.b_len (AC (IX k.toCOk (vIxA k.toCOk) (VR k.toCOk 0) (JE_int k.toCOk)) JA_nil)) (JE_tabIx k.toCOk F.t_NEEDS (IX k.toCOk (vIxA k.toCOk) (VR k.toCOk 0) (JE_int k.toCOk)) rfl F.g_NEEDS (by decide) (by intro _ _; rfl))))))) (JSs_cons (JS_ret (JE_bl k.toCOk))
  JSs_nil) JSs_nil)
  (JSs_cons (JS_ret (CB k.toCOk (cAll k.toCOk) F.b_all (AC (JE_frz (LC k.toCOk [("one", 1)] (JI_seq (IX k.toCOk (vIxA k.toCOk) (VR k.toCOk 0) (JE_int k.toCOk))) (fun s1 H1 _ _ fp1 => (NM (k.toCOk.blk s1 H1 _ _ fp1) 1)) (fun s1 H1 _ _ fp1 => JTs_nil) (fun s1 H1 _ _ fp1 => (CL (k.toCOk.blk s1 H1 _ _ fp1) hr (ok_is_name F) F.g_is_name (AC (VR (k.toCOk.blk s1 H1 _ _ fp1) 1) JA_nil))))) JA_nil)))
  JSs_nil)))
noncomputable def l__line_fault_1 : SM := (sSeq (sIf (bOr (bNot (mTru (mCall 1 m__is_line (aCons (mV 3) aNil)))) (bOr (mB (bind2 (bind2 (mV 3) (mC (.int 0)) oIxA) (mV 1) oIn)) (bNot (mTru (mCB (nBools (·.all id)) (aCons (mFrz (mLC (iSeq (bind2 (mV 3) (mC (.int 2)) oIxA)) (.nm 4) bYes (bind2 (mV 4) (mV 1) oIn) [4])) aNil)))))) (sSeq (sRet (mV 2))
  sNil) sNil)
  (sSeq (sSub (mC (.bool true)) (mV 1) (bind2 (mV 3) (mC (.int 0)) oIxA))
  sNil))
noncomputable def b__line_fault : SM := (sSeq (sSet 1 mNewD)
  (sSeq (sFor (iEnum (mV 0)) (.tp [(.nm 2), (.nm 3)]) l__line_fault_1)
  (sSeq (sRet (mC .none))
  sNil)))
noncomputable def m__line_fault : FM := dM 5 b__line_fault
theorem ok__line_fault (F : Fx w K mg) : Ok P w K mg base (cls K) 3 (He.fAd K ("_line_fault", none)) ["lines"] m__line_fault :=
  Ok.of (N := ["lines", "known", "number", "one", "need"]) F.f__line_fault ⟨rfl, rfl, rfl, by decide +kernel, rfl, by decide +kernel, by decide +kernel⟩ (fun _ _ _ _ _ _ us hl => match us, hl with | [_], _ => rfl) fun _ _ _ _ _ _ hr k =>
  (JSs_cons (ST 1 (JE_newD k.toCOk))
  (JSs_cons (FO k (EN F.b_enumerate (VR k.toCOk 0)) (TU k.toCOk (TC (NM k.toCOk 2) (TC (NM k.toCOk 3) JGs_nil))) (JSs_cons (JS_if (JW.t (JW_or (JT_not (TR (CL k.toCOk hr (ok__is_line F) F.g__is_line (AC (VR k.toCOk 3) JA_nil)))) (JW_or (CMT k.toCOk (vIn k.toCOk) (IX k.toCOk (vIxA k.toCOk) (VR k.toCOk 3) (JE_int k.toCOk)) (VR k.toCOk 1)) (JW_or1 (JT_not (TR (CB k.toCOk (cAll k.toCOk) F.b_all (AC (JE_frz (LC k.toCOk [("need", 4)] (JI_seq (IX k.toCOk (vIxA k.toCOk) (VR k.toCOk 3) (JE_int k.toCOk))) (fun s1 H1 _ _ fp1 => (NM (k.toCOk.blk s1 H1 _ _ fp1) 4)) (fun s1 H1 _ _ fp1 => JTs_nil) (fun s1 H1 _ _ fp1 => (CM (k.toCOk.blk s1 H1 _ _ fp1) (vIn (k.toCOk.blk s1 H1 _ _ fp1)) (VR (k.toCOk.blk s1 H1 _ _ fp1) 4) (VR (k.toCOk.blk s1 H1 _ _ fp1) 1))))) JA_nil)))))))) (JSs_cons (JS_ret (VR k.toCOk 2))
  JSs_nil) JSs_nil)
  (JSs_cons (SB k.toCOk (JE_bl k.toCOk) (VR k.toCOk 1) (IX k.toCOk (vIxA k.toCOk) (VR k.toCOk 3) (JE_int k.toCOk)))
  JSs_nil)))
  (JSs_cons (JS_ret (JE_non k.toCOk))
  JSs_nil)))
noncomputable def b_text_fault : SM := (sSeq (sIf (bOr (bNot (mTru (mIsi "tuple" (mV 0)))) (mB (bind2 (mCB nLen (aCons (mV 0) aNil)) (mC (.int 2)) oNe))) (sSeq (sRet (mC k_FORM_texts))
  sNil) sNil)
  (sSeq (sTg (.tp [(.nm 1), (.nm 2)]) (mV 0))
  (sSeq (sIf (bOr (bNot (mTru (mIsi "tuple" (mV 1)))) (bNot (mB (chain3 (mC (.int 1)) (mCB nLen (aCons (mV 1) aNil)) (mC k_MOST_LINES) oLeI oLeI)))) (sSeq (sRet (mC k_FORM_texts))
  sNil) sNil)
  (sSeq (sSet 3 (mCall 1 m__line_fault (aCons (mV 1) aNil)))
  (sSeq (sIf (mB (bind2 (mV 3) (mC .none) (isNone true))) (sSeq (sRet (mTup (aCons (mC (.str "line")) (aCons (mV 3) aNil))))
  sNil) sNil)
  (sSeq (sIf (bOr (bNot (mTru (mIsi "tuple" (mV 2)))) (bNot (mB (chain3 (mC (.int 1)) (mCB nLen (aCons (mV 2) aNil)) (mC k_MOST_GOALS) oLeI oLeI)))) (sSeq (sRet (mTup (aCons (mC (.str "goals")) aNil)))
  sNil) sNil)
  (sSeq (sSet 4 (mFrz (mLC (iSeq (mV 1)) (.nm 6) bYes (bind2 (mV 6) (mC (.int 0)) oIxA) [6])))
  (sSeq (sIf (bNot (mTru (mCB (nBools (·.all id)) (aCons (mFrz (mLC (iSeq (mV 2)) (.nm 6) bYes (eAnd (mCall 1 m_is_name (aCons (mV 6) aNil)) (bind2 (mV 6) (mV 4) oIn)) [6])) aNil)))) (sSeq (sRet (mTup (aCons (mC (.str "goals")) aNil)))
  sNil) sNil)
  (sSeq (sSet 5 (mFrz (mLC (iSeq (mV 2)) (.nm 6) bYes (mBM "list" oIndex (mV 4) (aCons (mV 6) aNil)) [6])))
  (sSeq (sRet (mIf (mTru (mCB (nBools (·.all id)) (aCons (mFrz (mLC (iZip (aCons (mV 5) (aCons (mSl (mV 5) (pSome (mC (.int 1))) pNo) aNil))) (.tp [(.nm 6), (.nm 7)]) bYes (bind2 (mV 6) (mV 7) oLt) [6, 7])) aNil))) (mC .none) (mTup (aCons (mC (.str "goals")) aNil))))
  sNil))))))))))
noncomputable def m_text_fault : FM := dM 8 b_text_fault
theorem ok_text_fault (F : Fx w K mg) : Ok P w K mg base (cls K) 4 (He.fAd K ("text_fault", none)) ["value"] m_text_fault :=
  Ok.of (N := ["value", "lines", "goals", "fault", "names", "places", "one", "other"]) F.f_text_fault ⟨rfl, rfl, rfl, by decide +kernel, rfl, by decide +kernel, by decide +kernel⟩ (fun _ _ _ _ _ _ us hl => match us, hl with | [_], _ => rfl) fun _ _ _ _ _ _ hr k =>
  (JSs_cons (JS_if (JW.t (JW_or (JT_not (TR (ISI k.toCOk "tuple" F.b_isinstance F.b_tuple (VR k.toCOk 0)))) (JW_or1 (CMT k.toCOk (vNe k.toCOk) (CB k.toCOk cLen F.b_len (AC (VR k.toCOk 0) JA_nil)) (JE_int k.toCOk))))) (JSs_cons (JS_ret (GK k.toCOk F.k_FORM_texts))
  JSs_nil) JSs_nil)
  (JSs_cons (SG k.toCOk (VR k.toCOk 0) (TU k.toCOk (TC (NM k.toCOk 1) (TC (NM k.toCOk 2) JGs_nil))))
  (JSs_cons (JS_if (JW.t (JW_or (JT_not (TR (ISI k.toCOk "tuple" F.b_isinstance F.b_tuple (VR k.toCOk 1)))) (JW_or1 (JT_not (CHT k.toCOk vLeI vLeI (JE_int k.toCOk) (CB k.toCOk cLen F.b_len (AC (VR k.toCOk 1) JA_nil)) (GK k.toCOk F.k_MOST_LINES)))))) (JSs_cons (JS_ret (GK k.toCOk F.k_FORM_texts))
  JSs_nil) JSs_nil)
  (JSs_cons (ST 3 (CL k.toCOk hr (ok__line_fault F) F.g__line_fault (AC (VR k.toCOk 1) JA_nil)))
  (JSs_cons (JS_if (CMT k.toCOk vIsNot (VR k.toCOk 3) (JE_non k.toCOk)) (JSs_cons (JS_ret (JE_tup k.toCOk (AC (JE_str k.toCOk) (AC (VR k.toCOk 3) JA_nil))))
  JSs_nil) JSs_nil)
  (JSs_cons (JS_if (JW.t (JW_or (JT_not (TR (ISI k.toCOk "tuple" F.b_isinstance F.b_tuple (VR k.toCOk 2)))) (JW_or1 (JT_not (CHT k.toCOk vLeI vLeI (JE_int k.toCOk) (CB k.toCOk cLen F.b_len (AC (VR k.toCOk 2) JA_nil)) (GK k.toCOk F.k_MOST_GOALS)))))) (JSs_cons (JS_ret (JE_tup k.toCOk (AC (JE_str k.toCOk) JA_nil)))
  JSs_nil) JSs_nil)
  (JSs_cons (ST 4 (JE_frz (LC k.toCOk [("one", 6)] (JI_seq (VR k.toCOk 1)) (fun s1 H1 _ _ fp1 => (NM (k.toCOk.blk s1 H1 _ _ fp1) 6)) (fun s1 H1 _ _ fp1 => JTs_nil) (fun s1 H1 _ _ fp1 => (IX (k.toCOk.blk s1 H1 _ _ fp1) (vIxA (k.toCOk.blk s1 H1 _ _ fp1)) (VR (k.toCOk.blk s1 H1 _ _ fp1) 6) (JE_int (k.toCOk.blk s1 H1 _ _ fp1)))))))
  (JSs_cons (JS_if (JT_not (TR (CB k.toCOk (cAll k.toCOk) F.b_all (AC (JE_frz (LC k.toCOk [("one", 6)] (JI_seq (VR k.toCOk 2)) (fun s1 H1 _ _ fp1 => (NM (k.toCOk.blk s1 H1 _ _ fp1) 6)) (fun s1 H1 _ _ fp1 => JTs_nil) (fun s1 H1 _ _ fp1 => (JE_and (k.toCOk.blk s1 H1 _ _ fp1) (CL (k.toCOk.blk s1 H1 _ _ fp1) hr (ok_is_name F) F.g_is_name (AC (VR (k.toCOk.blk s1 H1 _ _ fp1) 6) JA_nil)) (JE_one (k.toCOk.blk s1 H1 _ _ fp1) (CM (k.toCOk.blk s1 H1 _ _ fp1) (vIn (k.toCOk.blk s1 H1 _ _ fp1)) (VR (k.toCOk.blk s1 H1 _ _ fp1) 6) (VR (k.toCOk.blk s1 H1 _ _ fp1) 4))))))) JA_nil)))) (JSs_cons (JS_ret (JE_tup k.toCOk (AC (JE_str k.toCOk) JA_nil)))
  JSs_nil) JSs_nil)
  (JSs_cons (ST 5 (JE_frz (LC k.toCOk [("one", 6)] (JI_seq (VR k.toCOk 2)) (fun s1 H1 _ _ fp1 => (NM (k.toCOk.blk s1 H1 _ _ fp1) 6)) (fun s1 H1 _ _ fp1 => JTs_nil) (fun s1 H1 _ _ fp1 => (MB (k.toCOk.blk s1 H1 _ _ fp1) PySem.F.plainAttrs_list PySem.F.slot_list_index (tIndex (k.toCOk.blk s1 H1 _ _ fp1)) (VR (k.toCOk.blk s1 H1 _ _ fp1) 4) (AC (VR (k.toCOk.blk s1 H1 _ _ fp1) 6) JA_nil))))))
  (JSs_cons (JS_ret (JE_if k.toCOk (TR (CB k.toCOk (cAll k.toCOk) F.b_all (AC (JE_frz (LC k.toCOk [("one", 6), ("other", 7)] (ZP F.b_zip (AC (VR k.toCOk 5) (AC (JE_sl k.toCOk (VR k.toCOk 5) (JO_some (JE_int k.toCOk)) JO_no) JA_nil))) (fun s1 H1 _ _ fp1 => (TU (k.toCOk.blk s1 H1 _ _ fp1) (TC (NM (k.toCOk.blk s1 H1 _ _ fp1) 6) (TC (NM (k.toCOk.blk s1 H1 _ _ fp1) 7) JGs_nil)))) (fun s1 H1 _ _ fp1 => JTs_nil) (fun s1 H1 _ _ fp1 => (CM (k.toCOk.blk s1 H1 _ _ fp1) (vLt (k.toCOk.blk s1 H1 _ _ fp1)) (VR (k.toCOk.blk s1 H1 _ _ fp1) 6) (VR (k.toCOk.blk s1 H1 _ _ fp1) 7))))) JA_nil))) (JE_non k.toCOk) (JE_tup k.toCOk (AC (JE_str k.toCOk) JA_nil))))
  JSs_nil))))))))))
noncomputable def b_check_text : SM := (sSeq (sIf (mB (bind2 (mCall 1 m_text_fault (aCons (mV 0) aNil)) (mC .none) (isNone true))) (sSeq (sRaise 1)
  sNil) sNil)
  sNil)
noncomputable def m_check_text : FM := dM 1 b_check_text
theorem ok_check_text (F : Fx w K mg) : Ok P w K mg base (cls K) 5 (He.fAd K ("check_text", none)) ["value"] m_check_text :=
  Ok.of (N := ["value"]) F.f_check_text ⟨rfl, rfl, rfl, by decide +kernel, rfl, by decide +kernel, by decide +kernel⟩ (fun _ _ _ _ _ _ us hl => match us, hl with | [_], _ => rfl) fun _ _ _ _ _ _ hr k =>
  (JSs_cons (JS_if (CMT k.toCOk vIsNot (CL k.toCOk hr (ok_text_fault F) F.g_text_fault (AC (VR k.toCOk 0) JA_nil)) (JE_non k.toCOk)) (JSs_cons (RZ k.toCOk 1 F.x_BadMaking)
  JSs_nil) JSs_nil)
  JSs_nil)
noncomputable def b_numbers_in : SM := (sSeq (sRet (mDcF (iEnum (bind2 (mV 0) (mC (.int 0)) oIxA)) (.tp [(.nm 1), (.nm 2)]) bYes (bind2 (mV 2) (mC (.int 0)) oIxA) (mV 1) ([("number", 1), ("one", 2)] : List (Str × Nat))))
  sNil)
noncomputable def m_numbers_in : FM := dM 3 b_numbers_in
theorem ok_numbers_in (F : Fx w K mg) : Ok P w K mg base (cls K) 1 (He.fAd K ("numbers_in", none)) ["text"] m_numbers_in :=
  Ok.of (N := ["text", "number", "one"]) F.f_numbers_in ⟨rfl, rfl, rfl, by decide +kernel, rfl, by decide +kernel, by decide +kernel⟩ (fun _ _ _ _ _ _ us hl => match us, hl with | [_], _ => rfl) fun _ _ _ _ _ _ hr k =>
  (JSs_cons (JS_ret (DCF k.toCOk [("number", 1), ("one", 2)] (EN F.b_enumerate (IX k.toCOk (vIxA k.toCOk) (VR k.toCOk 0) (JE_int k.toCOk))) (fun s1 H1 _ _ fp1 => (TU (k.toCOk.blk s1 H1 _ _ fp1) (TC (NM (k.toCOk.blk s1 H1 _ _ fp1) 1) (TC (NM (k.toCOk.blk s1 H1 _ _ fp1) 2) JGs_nil)))) (fun s1 H1 _ _ fp1 => JTs_nil) (fun s1 H1 _ _ fp1 => (IX (k.toCOk.blk s1 H1 _ _ fp1) (vIxA (k.toCOk.blk s1 H1 _ _ fp1)) (VR (k.toCOk.blk s1 H1 _ _ fp1) 2) (JE_int (k.toCOk.blk s1 H1 _ _ fp1)))) (fun s1 H1 _ _ fp1 => (VR (k.toCOk.blk s1 H1 _ _ fp1) 1))))
  JSs_nil)
noncomputable def b_needs_by : SM := (sSeq (sSet 1 (mCall 1 m_numbers_in (aCons (mV 0) aNil)))
  (sSeq (sRet (mFrz (mLC (iSeq (bind2 (mV 0) (mC (.int 0)) oIxA)) (.nm 3) bYes (mCB nTuple (aCons (mFrz (mLC (iSeq (bind2 (mV 3) (mC (.int 2)) oIxA)) (.nm 2) bYes (bind2 (mV 1) (mV 2) oIxA) [2])) aNil)) [3])))
  sNil))
noncomputable def m_needs_by : FM := dM 4 b_needs_by
theorem ok_needs_by (F : Fx w K mg) : Ok P w K mg base (cls K) 2 (He.fAd K ("needs_by", none)) ["text"] m_needs_by :=
  Ok.of (N := ["text", "numbers", "name", "one"]) F.f_needs_by ⟨rfl, rfl, rfl, by decide +kernel, rfl, by decide +kernel, by decide +kernel⟩ (fun _ _ _ _ _ _ us hl => match us, hl with | [_], _ => rfl) fun _ _ _ _ _ _ hr k =>
  (JSs_cons (ST 1 (CL k.toCOk hr (ok_numbers_in F) F.g_numbers_in (AC (VR k.toCOk 0) JA_nil)))
  (JSs_cons (JS_ret (JE_frz (LC k.toCOk [("one", 3)] (JI_seq (IX k.toCOk (vIxA k.toCOk) (VR k.toCOk 0) (JE_int k.toCOk))) (fun s1 H1 _ _ fp1 => (NM (k.toCOk.blk s1 H1 _ _ fp1) 3)) (fun s1 H1 _ _ fp1 => JTs_nil) (fun s1 H1 _ _ fp1 => (CT (k.toCOk.blk s1 H1 _ _ fp1) cTuple F.b_tuple (AC (JE_frz (LC (k.toCOk.blk s1 H1 _ _ fp1) [("name", 2)] (JI_seq (IX (k.toCOk.blk s1 H1 _ _ fp1) (vIxA (k.toCOk.blk s1 H1 _ _ fp1)) (VR (k.toCOk.blk s1 H1 _ _ fp1) 3) (JE_int (k.toCOk.blk s1 H1 _ _ fp1)))) (fun s2 H2 _ _ fp2 => (NM ((k.toCOk.blk s1 H1 _ _ fp1).blk s2 H2 _ _ fp2) 2)) (fun s2 H2 _ _ fp2 => JTs_nil) (fun s2 H2 _ _ fp2 => (IX ((k.toCOk.blk s1 H1 _ _ fp1).blk s2 H2 _ _ fp2) (vIxA ((k.toCOk.blk s1 H1 _ _ fp1).blk s2 H2 _ _ fp2)) (VR ((k.toCOk.blk s1 H1 _ _ fp1).blk s2 H2 _ _ fp2) 1) (VR ((k.toCOk.blk s1 H1 _ _ fp1).blk s2 H2 _ _ fp2) 2))))) JA_nil))))))
  JSs_nil))
noncomputable def b_goals_by : SM := (sSeq (sSet 1 (mCall 1 m_numbers_in (aCons (mV 0) aNil)))
  (sSeq (sRet (mCB nTuple (aCons (mFrz (mLC (iSeq (bind2 (mV 0) (mC (.int 1)) oIxA)) (.nm 2) bYes (bind2 (mV 1) (mV 2) oIxA) [2])) aNil)))
  sNil))
noncomputable def m_goals_by : FM := dM 3 b_goals_by
theorem ok_goals_by (F : Fx w K mg) : Ok P w K mg base (cls K) 2 (He.fAd K ("goals_by", none)) ["text"] m_goals_by :=
  Ok.of (N := ["text", "numbers", "name"]) F.f_goals_by ⟨rfl, rfl, rfl, by decide +kernel, rfl, by decide +kernel, by decide +kernel⟩ (fun _ _ _ _ _ _ us hl => match us, hl with | [_], _ => rfl) fun _ _ _ _ _ _ hr k =>
  (JSs_cons (ST 1 (CL k.toCOk hr (ok_numbers_in F) F.g_numbers_in (AC (VR k.toCOk 0) JA_nil)))
  (JSs_cons (JS_ret (CT k.toCOk cTuple F.b_tuple (AC (JE_frz (LC k.toCOk [("name", 2)] (JI_seq (IX k.toCOk (vIxA k.toCOk) (VR k.toCOk 0) (JE_int k.toCOk))) (fun s1 H1 _ _ fp1 => (NM (k.toCOk.blk s1 H1 _ _ fp1) 2)) (fun s1 H1 _ _ fp1 => JTs_nil) (fun s1 H1 _ _ fp1 => (IX (k.toCOk.blk s1 H1 _ _ fp1) (vIxA (k.toCOk.blk s1 H1 _ _ fp1)) (VR (k.toCOk.blk s1 H1 _ _ fp1) 1) (VR (k.toCOk.blk s1 H1 _ _ fp1) 2))))) JA_nil)))
  JSs_nil))
noncomputable def l_needed_by_1 : SM := (sSeq (sSet 4 (mBM "list" oPop (mV 3) aNil))
  (sSeq (sIf (mB (bind2 (mV 4) (mV 2) oNin)) (sSeq (sSub (mC (.bool true)) (mV 2) (mV 4))
  (sSeq (sExpr (mBM "list" oExtend (mV 3) (aCons (mFrz (lList (bind2 (mV 1) (mV 4) oIxA))) aNil)))
  sNil)) sNil)
  sNil))
noncomputable def b_needed_by : SM := (sSeq (sPar [1, 2, 3] (aCons (mCall 1 m_needs_by (aCons (mV 0) aNil)) (aCons mNewD (aCons (mObj (lList (mCall 1 m_goals_by (aCons (mV 0) aNil)))) aNil))))
  (sSeq (sWhile (mB (bind2 (mCB nLen (aCons (mV 3) aNil)) (mC (.int 0)) oGtI)) l_needed_by_1)
  (sSeq (sRet (mFrz (lSrt (mV 2))))
  sNil)))
noncomputable def m_needed_by : FM := dM 5 b_needed_by
theorem ok_needed_by (F : Fx w K mg) : Ok P w K mg base (cls K) 3 (He.fAd K ("needed_by", none)) ["text"] m_needed_by :=
  Ok.of (N := ["text", "needs", "seen", "waits", "number"]) F.f_needed_by ⟨rfl, rfl, rfl, by decide +kernel, rfl, by decide +kernel, by decide +kernel⟩ (fun _ _ _ _ _ _ us hl => match us, hl with | [_], _ => rfl) fun _ _ _ _ _ _ hr k =>
  (JSs_cons (P3 k.toCOk 1 2 3 (AC (CL k.toCOk hr (ok_needs_by F) F.g_needs_by (AC (VR k.toCOk 0) JA_nil)) (AC (JE_newD k.toCOk) (AC (JE_obj (LI k.toCOk F.b_list (CL k.toCOk hr (ok_goals_by F) F.g_goals_by (AC (VR k.toCOk 0) JA_nil)))) JA_nil))))
  (JSs_cons (JS_while k (CMT k.toCOk vGtI (CB k.toCOk cLen F.b_len (AC (VR k.toCOk 3) JA_nil)) (JE_int k.toCOk)) (JSs_cons (ST 4 (MB0 k.toCOk PySem.F.plainAttrs_list PySem.F.slot_list_pop tPop (VR k.toCOk 3)))
  (JSs_cons (JS_if (CMT k.toCOk (vNin k.toCOk) (VR k.toCOk 4) (VR k.toCOk 2)) (JSs_cons (SB k.toCOk (JE_bl k.toCOk) (VR k.toCOk 2) (VR k.toCOk 4))
  (JSs_cons (XP (MB k.toCOk PySem.F.plainAttrs_list PySem.F.slot_list_extend tExtend (VR k.toCOk 3) (AC (JE_frz (LI k.toCOk F.b_list (IX k.toCOk (vIxA k.toCOk) (VR k.toCOk 1) (VR k.toCOk 4)))) JA_nil)))
  JSs_nil)) JSs_nil)
  JSs_nil)))
  (JSs_cons (JS_ret (JE_frz (SRT k.toCOk F.b_sorted (VR k.toCOk 2))))
  JSs_nil)))
noncomputable def l_fault_by_1 : SM := (sSeq (sIf (mB (bind2 (mBM "dict" oDget (mV 2) (aCons (mV 3) (aCons (mC (.int 0)) aNil))) (mC (.int 1)) oGtI)) (sSeq (sRet (mTup (aCons (mC (.str "line")) (aCons (bind2 (bind2 (bind2 (mV 0) (mC (.int 0)) oIxA) (mV 3) oIxA) (mC (.int 0)) oIxA) aNil))))
  sNil) sNil)
  sNil)
noncomputable def l_fault_by_2 : SM := (sSeq (sSub (bind2 (mBM "dict" oDget (mV 2) (aCons (mV 4) (aCons (mC (.int 0)) aNil))) (mC (.int 1)) oAdd) (mV 2) (mV 4))
  sNil)
noncomputable def l_fault_by_3 : SM := (sSeq (sFor (iSeq (bind2 (mV 1) (mV 3) oIxA)) (.nm 4) l_fault_by_2)
  sNil)
noncomputable def b_fault_by : SM := (sSeq (sIf (mB (bind2 (mCB nLen (aCons (bind2 (mV 0) (mC (.int 1)) oIxA) aNil)) (mC (.int 1)) oGtI)) (sSeq (sRet (mC k_MANY_GOALS))
  sNil) sNil)
  (sSeq (sPar [1, 2] (aCons (mCall 1 m_needs_by (aCons (mV 0) aNil)) (aCons mNewD aNil)))
  (sSeq (sFor (iSeq (mCall 1 m_needed_by (aCons (mV 0) aNil))) (.nm 3) l_fault_by_3)
  (sSeq (sFor (iSeq (mCall 1 m_needed_by (aCons (mV 0) aNil))) (.nm 3) l_fault_by_1)
  (sSeq (sRet (mC .none))
  sNil)))))
noncomputable def m_fault_by : FM := dM 5 b_fault_by
theorem ok_fault_by (F : Fx w K mg) : Ok P w K mg base (cls K) 4 (He.fAd K ("fault_by", none)) ["text"] m_fault_by :=
  Ok.of (N := ["text", "needs", "counts", "number", "need"]) F.f_fault_by ⟨rfl, rfl, rfl, by decide +kernel, rfl, by decide +kernel, by decide +kernel⟩ (fun _ _ _ _ _ _ us hl => match us, hl with | [_], _ => rfl) fun _ _ _ _ _ _ hr k =>
  (JSs_cons (JS_if (CMT k.toCOk vGtI (CB k.toCOk cLen F.b_len (AC (IX k.toCOk (vIxA k.toCOk) (VR k.toCOk 0) (JE_int k.toCOk)) JA_nil)) (JE_int k.toCOk)) (JSs_cons (JS_ret (GK k.toCOk F.k_MANY_GOALS))
  JSs_nil) JSs_nil)
  (JSs_cons (P2 k.toCOk 1 2 (AC (CL k.toCOk hr (ok_needs_by F) F.g_needs_by (AC (VR k.toCOk 0) JA_nil)) (AC (JE_newD k.toCOk) JA_nil)))
  (JSs_cons (FO k (JI_seq (CL k.toCOk hr (ok_needed_by F) F.g_needed_by (AC (VR k.toCOk 0) JA_nil))) (NM k.toCOk 3) (JSs_cons (FO k (JI_seq (IX k.toCOk (vIxA k.toCOk) (VR k.toCOk 1) (VR k.toCOk 3))) (NM k.toCOk 4) (JSs_cons (SB k.toCOk (BO k.toCOk vAdd (MB k.toCOk PySem.F.plainAttrs_dict PySem.F.slot_dict_get (tDget k.toCOk) (VR k.toCOk 2) (AC (VR k.toCOk 4) (AC (JE_int k.toCOk) JA_nil))) (JE_int k.toCOk)) (VR k.toCOk 2) (VR k.toCOk 4))
  JSs_nil))
  JSs_nil))
  (JSs_cons (FO k (JI_seq (CL k.toCOk hr (ok_needed_by F) F.g_needed_by (AC (VR k.toCOk 0) JA_nil))) (NM k.toCOk 3) (JSs_cons (JS_if (CMT k.toCOk vGtI (MB k.toCOk PySem.F.plainAttrs_dict PySem.F.slot_dict_get (tDget k.toCOk) (VR k.toCOk 2) (AC (VR k.toCOk 3) (AC (JE_int k.toCOk) JA_nil))) (JE_int k.toCOk)) (JSs_cons (JS_ret (JE_tup k.toCOk (AC (JE_str k.toCOk) (AC (IX k.toCOk (vIxA k.toCOk) (IX k.toCOk (vIxA k.toCOk) (IX k.toCOk (vIxA k.toCOk) (VR k.toCOk 0) (JE_int k.toCOk)) (VR k.toCOk 3)) (JE_int k.toCOk)) JA_nil))))
  JSs_nil) JSs_nil)
  JSs_nil))
  (JSs_cons (JS_ret (JE_non k.toCOk))
  JSs_nil)))))
noncomputable def b_check_tree : SM := (sSeq (sExpr (mCall 1 m_check_text (aCons (mV 0) aNil)))
  (sSeq (sIf (mB (bind2 (mCall 1 m_fault_by (aCons (mV 0) aNil)) (mC .none) (isNone true))) (sSeq (sRaise 2)
  sNil) sNil)
  sNil))
noncomputable def m_check_tree : FM := dM 1 b_check_tree
theorem ok_check_tree (F : Fx w K mg) : Ok P w K mg base (cls K) 6 (He.fAd K ("check_tree", none)) ["text"] m_check_tree :=
  Ok.of (N := ["text"]) F.f_check_tree ⟨rfl, rfl, rfl, by decide +kernel, rfl, by decide +kernel, by decide +kernel⟩ (fun _ _ _ _ _ _ us hl => match us, hl with | [_], _ => rfl) fun _ _ _ _ _ _ hr k =>
  (JSs_cons (XP (CL k.toCOk hr (ok_check_text F) F.g_check_text (AC (VR k.toCOk 0) JA_nil)))
  (JSs_cons (JS_if (CMT k.toCOk vIsNot (CL k.toCOk hr (ok_fault_by F) F.g_fault_by (AC (VR k.toCOk 0) JA_nil)) (JE_non k.toCOk)) (JSs_cons (RZ k.toCOk 2 F.x_BadTree)
  JSs_nil) JSs_nil)
  JSs_nil))
noncomputable def l_uses_by_1 : SM := (sSeq (sDaug (mV 1) (mV 4) (mC (.int 1)))
  sNil)
noncomputable def l_uses_by_2 : SM := (sSeq (sDaug (mV 1) (mV 3) (mC (.int 1)))
  sNil)
noncomputable def l_uses_by_3 : SM := (sSeq (sFor (iSeq (bind2 (mV 2) (mC (.int 2)) oIxA)) (.nm 3) l_uses_by_2)
  sNil)
noncomputable def b_uses_by : SM := (sSeq (sSet 1 (mDcO (iSeq (bind2 (mV 0) (mC (.int 0)) oIxA)) (.nm 2) bYes (bind2 (mV 2) (mC (.int 0)) oIxA) (mC (.int 0)) ([("one", 2)] : List (Str × Nat))))
  (sSeq (sFor (iSeq (bind2 (mV 0) (mC (.int 0)) oIxA)) (.nm 2) l_uses_by_3)
  (sSeq (sFor (iSeq (bind2 (mV 0) (mC (.int 1)) oIxA)) (.nm 4) l_uses_by_1)
  (sSeq (sRet (mV 1))
  sNil))))
noncomputable def m_uses_by : FM := dM 5 b_uses_by
theorem ok_uses_by (F : Fx w K mg) : Ok P w K mg base (cls K) 1 (He.fAd K ("uses_by", none)) ["text"] m_uses_by :=
  Ok.of (N := ["text", "found", "one", "need", "name"]) F.f_uses_by ⟨rfl, rfl, rfl, by decide +kernel, rfl, by decide +kernel, by decide +kernel⟩ (fun _ _ _ _ _ _ us hl => match us, hl with | [_], _ => rfl) fun _ _ _ _ _ _ hr k =>
  (JSs_cons (ST 1 (DCO k.toCOk [("one", 2)] (JI_seq (IX k.toCOk (vIxA k.toCOk) (VR k.toCOk 0) (JE_int k.toCOk))) (fun s1 H1 _ _ fp1 => (NM (k.toCOk.blk s1 H1 _ _ fp1) 2)) (fun s1 H1 _ _ fp1 => JTs_nil) (fun s1 H1 _ _ fp1 => (IX (k.toCOk.blk s1 H1 _ _ fp1) (vIxA (k.toCOk.blk s1 H1 _ _ fp1)) (VR (k.toCOk.blk s1 H1 _ _ fp1) 2) (JE_int (k.toCOk.blk s1 H1 _ _ fp1)))) (fun s1 H1 _ _ fp1 => (JE_int (k.toCOk.blk s1 H1 _ _ fp1)))))
  (JSs_cons (FO k (JI_seq (IX k.toCOk (vIxA k.toCOk) (VR k.toCOk 0) (JE_int k.toCOk))) (NM k.toCOk 2) (JSs_cons (FO k (JI_seq (IX k.toCOk (vIxA k.toCOk) (VR k.toCOk 2) (JE_int k.toCOk))) (NM k.toCOk 3) (JSs_cons (JS_daug k.toCOk (VR k.toCOk 1) (VR k.toCOk 3) (JE_int k.toCOk))
  JSs_nil))
  JSs_nil))
  (JSs_cons (FO k (JI_seq (IX k.toCOk (vIxA k.toCOk) (VR k.toCOk 0) (JE_int k.toCOk))) (NM k.toCOk 4) (JSs_cons (JS_daug k.toCOk (VR k.toCOk 1) (VR k.toCOk 4) (JE_int k.toCOk))
  JSs_nil))
  (JSs_cons (JS_ret (VR k.toCOk 1))
  JSs_nil))))
noncomputable def b_put_line : SM := (sSeq (sRet (mTup (aCons (mCB nTuple (aCons (mFrz (mLC (iSeq (bind2 (mV 0) (mC (.int 0)) oIxA)) (.nm 3) bYes (mIf (mB (bind2 (bind2 (mV 3) (mC (.int 0)) oIxA) (mV 1) oEq)) (mTup (aCons (bind2 (mV 3) (mC (.int 0)) oIxA) (aCons (bind2 (mV 3) (mC (.int 1)) oIxA) (aCons (mV 2) aNil)))) (mV 3)) [3])) aNil)) (aCons (bind2 (mV 0) (mC (.int 1)) oIxA) aNil))))
  sNil)
noncomputable def m_put_line : FM := dM 4 b_put_line
theorem ok_put_line (F : Fx w K mg) : Ok P w K mg base (cls K) 1 (He.fAd K ("put_line", none)) ["text", "name", "needs"] m_put_line :=
  Ok.of (N := ["text", "name", "needs", "one"]) F.f_put_line ⟨rfl, rfl, rfl, by decide +kernel, rfl, by decide +kernel, by decide +kernel⟩ (fun _ _ _ _ _ _ us hl => match us, hl with | [_, _, _], _ => rfl) fun _ _ _ _ _ _ hr k =>
  (JSs_cons (JS_ret (JE_tup k.toCOk (AC (CT k.toCOk cTuple F.b_tuple (AC (JE_frz (LC k.toCOk [("one", 3)] (JI_seq (IX k.toCOk (vIxA k.toCOk) (VR k.toCOk 0) (JE_int k.toCOk))) (fun s1 H1 _ _ fp1 => (NM (k.toCOk.blk s1 H1 _ _ fp1) 3)) (fun s1 H1 _ _ fp1 => JTs_nil) (fun s1 H1 _ _ fp1 => (JE_if (k.toCOk.blk s1 H1 _ _ fp1) (CMT (k.toCOk.blk s1 H1 _ _ fp1) (vEq (k.toCOk.blk s1 H1 _ _ fp1)) (IX (k.toCOk.blk s1 H1 _ _ fp1) (vIxA (k.toCOk.blk s1 H1 _ _ fp1)) (VR (k.toCOk.blk s1 H1 _ _ fp1) 3) (JE_int (k.toCOk.blk s1 H1 _ _ fp1))) (VR (k.toCOk.blk s1 H1 _ _ fp1) 1)) (JE_tup (k.toCOk.blk s1 H1 _ _ fp1) (AC (IX (k.toCOk.blk s1 H1 _ _ fp1) (vIxA (k.toCOk.blk s1 H1 _ _ fp1)) (VR (k.toCOk.blk s1 H1 _ _ fp1) 3) (JE_int (k.toCOk.blk s1 H1 _ _ fp1))) (AC (IX (k.toCOk.blk s1 H1 _ _ fp1) (vIxA (k.toCOk.blk s1 H1 _ _ fp1)) (VR (k.toCOk.blk s1 H1 _ _ fp1) 3) (JE_int (k.toCOk.blk s1 H1 _ _ fp1))) (AC (VR (k.toCOk.blk s1 H1 _ _ fp1) 2) JA_nil)))) (VR (k.toCOk.blk s1 H1 _ _ fp1) 3))))) JA_nil)) (AC (IX k.toCOk (vIxA k.toCOk) (VR k.toCOk 0) (JE_int k.toCOk)) JA_nil))))
  JSs_nil)
noncomputable def l_moved_ahead_1 : SM := (sSeq (sIf (mB (bind2 (bind2 (mV 5) (mC (.int 0)) oIxA) (mV 2) oEq)) (sSeq (sExpr (mBM "list" oAppend (mV 4) (aCons (bind2 (mV 3) (mV 1) oIxA) aNil)))
  sNil) sNil)
  (sSeq (sIf (mB (bind2 (bind2 (mV 5) (mC (.int 0)) oIxA) (mV 1) oNe)) (sSeq (sExpr (mBM "list" oAppend (mV 4) (aCons (mV 5) aNil)))
  sNil) sNil)
  sNil))
noncomputable def b_moved_ahead : SM := (sSeq (sSet 3 (mDcF (iSeq (bind2 (mV 0) (mC (.int 0)) oIxA)) (.nm 5) bYes (bind2 (mV 5) (mC (.int 0)) oIxA) (mV 5) ([("one", 5)] : List (Str × Nat))))
  (sSeq (sSet 4 (mObj (lDisp aNil)))
  (sSeq (sFor (iSeq (bind2 (mV 0) (mC (.int 0)) oIxA)) (.nm 5) l_moved_ahead_1)
  (sSeq (sRet (mTup (aCons (mCB nTuple (aCons (mV 4) aNil)) (aCons (bind2 (mV 0) (mC (.int 1)) oIxA) aNil))))
  sNil))))
noncomputable def m_moved_ahead : FM := dM 6 b_moved_ahead
theorem ok_moved_ahead (F : Fx w K mg) : Ok P w K mg base (cls K) 1 (He.fAd K ("moved_ahead", none)) ["text", "name", "other"] m_moved_ahead :=
  Ok.of (N := ["text", "name", "other", "lines", "found", "one"]) F.f_moved_ahead ⟨rfl, rfl, rfl, by decide +kernel, rfl, by decide +kernel, by decide +kernel⟩ (fun _ _ _ _ _ _ us hl => match us, hl with | [_, _, _], _ => rfl) fun _ _ _ _ _ _ hr k =>
  (JSs_cons (ST 3 (DCF k.toCOk [("one", 5)] (JI_seq (IX k.toCOk (vIxA k.toCOk) (VR k.toCOk 0) (JE_int k.toCOk))) (fun s1 H1 _ _ fp1 => (NM (k.toCOk.blk s1 H1 _ _ fp1) 5)) (fun s1 H1 _ _ fp1 => JTs_nil) (fun s1 H1 _ _ fp1 => (IX (k.toCOk.blk s1 H1 _ _ fp1) (vIxA (k.toCOk.blk s1 H1 _ _ fp1)) (VR (k.toCOk.blk s1 H1 _ _ fp1) 5) (JE_int (k.toCOk.blk s1 H1 _ _ fp1)))) (fun s1 H1 _ _ fp1 => (VR (k.toCOk.blk s1 H1 _ _ fp1) 5))))
  (JSs_cons (ST 4 (JE_obj (JL_disp k.toCOk JA_nil)))
  (JSs_cons (FO k (JI_seq (IX k.toCOk (vIxA k.toCOk) (VR k.toCOk 0) (JE_int k.toCOk))) (NM k.toCOk 5) (JSs_cons (JS_if (CMT k.toCOk (vEq k.toCOk) (IX k.toCOk (vIxA k.toCOk) (VR k.toCOk 5) (JE_int k.toCOk)) (VR k.toCOk 2)) (JSs_cons (XP (MB k.toCOk PySem.F.plainAttrs_list PySem.F.slot_list_append tAppend (VR k.toCOk 4) (AC (IX k.toCOk (vIxA k.toCOk) (VR k.toCOk 3) (VR k.toCOk 1)) JA_nil)))
  JSs_nil) JSs_nil)
  (JSs_cons (JS_if (CMT k.toCOk (vNe k.toCOk) (IX k.toCOk (vIxA k.toCOk) (VR k.toCOk 5) (JE_int k.toCOk)) (VR k.toCOk 1)) (JSs_cons (XP (MB k.toCOk PySem.F.plainAttrs_list PySem.F.slot_list_append tAppend (VR k.toCOk 4) (AC (VR k.toCOk 5) JA_nil)))
  JSs_nil) JSs_nil)
  JSs_nil)))
  (JSs_cons (JS_ret (JE_tup k.toCOk (AC (CT k.toCOk cTuple F.b_tuple (AC (VR k.toCOk 4) JA_nil)) (AC (IX k.toCOk (vIxA k.toCOk) (VR k.toCOk 0) (JE_int k.toCOk)) JA_nil))))
  JSs_nil))))
noncomputable def b_turn_by : SM := (sSeq (sSet 2 (mDcF (iSeq (bind2 (mV 0) (mC (.int 0)) oIxA)) (.nm 8) bYes (bind2 (mV 8) (mC (.int 0)) oIxA) (mV 8) ([("one", 8)] : List (Str × Nat))))
  (sSeq (sIf (bOr (mB (bind2 (bind2 (mV 1) (mC (.int 1)) oIxA) (mV 2) oNin)) (mB (bind2 (bind2 (bind2 (mV 2) (bind2 (mV 1) (mC (.int 1)) oIxA) oIxA) (mC (.int 1)) oIxA) (mC k_EITHER) oNin))) (sSeq (sRet (mC .none))
  sNil) sNil)
  (sSeq (sTg (.tp [(.nm 3), (.nm 4), (.nm 5)]) (bind2 (mV 2) (bind2 (mV 1) (mC (.int 1)) oIxA) oIxA))
  (sSeq (sIf (mB (bind2 (bind2 (mV 1) (mC (.int 0)) oIxA) (mC k_SWAP) oEq)) (sSeq (sRet (mCall 3 m_put_line (aCons (mV 0) (aCons (mV 3) (aCons (mRev (mV 5)) aNil)))))
  sNil) sNil)
  (sSeq (sSet 6 (bind2 (mV 2) (bind2 (mV 5) (mC (.int 1)) oIxA) oIxA))
  (sSeq (sIf (bOr (mB (bind2 (bind2 (mV 6) (mC (.int 1)) oIxA) (mV 4) oNe)) (mB (bind2 (bind2 (mCall 1 m_uses_by (aCons (mV 0) aNil)) (bind2 (mV 6) (mC (.int 0)) oIxA) oIxA) (mC (.int 1)) oNe))) (sSeq (sRet (mC .none))
  sNil) sNil)
  (sSeq (sSet 7 (mCall 3 m_moved_ahead (aCons (mV 0) (aCons (bind2 (mV 6) (mC (.int 0)) oIxA) (aCons (mV 3) aNil)))))
  (sSeq (sSet 7 (mCall 3 m_put_line (aCons (mV 7) (aCons (bind2 (mV 6) (mC (.int 0)) oIxA) (aCons (mTup (aCons (bind2 (mV 5) (mC (.int 0)) oIxA) (aCons (bind2 (bind2 (mV 6) (mC (.int 2)) oIxA) (mC (.int 0)) oIxA) aNil))) aNil)))))
  (sSeq (sRet (mCall 3 m_put_line (aCons (mV 7) (aCons (mV 3) (aCons (mTup (aCons (bind2 (mV 6) (mC (.int 0)) oIxA) (aCons (bind2 (bind2 (mV 6) (mC (.int 2)) oIxA) (mC (.int 1)) oIxA) aNil))) aNil)))))
  sNil)))))))))
noncomputable def m_turn_by : FM := dM 9 b_turn_by
theorem ok_turn_by (F : Fx w K mg) : Ok P w K mg base (cls K) 2 (He.fAd K ("turn_by", none)) ["text", "step"] m_turn_by :=
  Ok.of (N := ["text", "step", "lines", "name", "word", "needs", "inner", "later", "one"]) F.f_turn_by ⟨rfl, rfl, rfl, by decide +kernel, rfl, by decide +kernel, by decide +kernel⟩ (fun _ _ _ _ _ _ us hl => match us, hl with | [_, _], _ => rfl) fun _ _ _ _ _ _ hr k =>
  (JSs_cons (ST 2 (DCF k.toCOk [("one", 8)] (JI_seq (IX k.toCOk (vIxA k.toCOk) (VR k.toCOk 0) (JE_int k.toCOk))) (fun s1 H1 _ _ fp1 => (NM (k.toCOk.blk s1 H1 _ _ fp1) 8)) (fun s1 H1 _ _ fp1 => JTs_nil) (fun s1 H1 _ _ fp1 => (IX (k.toCOk.blk s1 H1 _ _ fp1) (vIxA (k.toCOk.blk s1 H1 _ _ fp1)) (VR (k.toCOk.blk s1 H1 _ _ fp1) 8) (JE_int (k.toCOk.blk s1 H1 _ _ fp1)))) (fun s1 H1 _ _ fp1 => (VR (k.toCOk.blk s1 H1 _ _ fp1) 8))))
  (JSs_cons (JS_if (JW.t (JW_or (CMT k.toCOk (vNin k.toCOk) (IX k.toCOk (vIxA k.toCOk) (VR k.toCOk 1) (JE_int k.toCOk)) (VR k.toCOk 2)) (JW_or1 (CMT k.toCOk (vNin k.toCOk) (IX k.toCOk (vIxA k.toCOk) (IX k.toCOk (vIxA k.toCOk) (VR k.toCOk 2) (IX k.toCOk (vIxA k.toCOk) (VR k.toCOk 1) (JE_int k.toCOk))) (JE_int k.toCOk)) (GK k.toCOk F.k_EITHER))))) (JSs_cons (JS_ret (JE_non k.toCOk))
  JSs_nil) JSs_nil)
  (JSs_cons (SG k.toCOk (IX k.toCOk (vIxA k.toCOk) (VR k.toCOk 2) (IX k.toCOk (vIxA k.toCOk) (VR k.toCOk 1) (JE_int k.toCOk))) (TU k.toCOk (TC (NM k.toCOk 3) (TC (NM k.toCOk 4) (TC (NM k.toCOk 5) JGs_nil)))))
  (JSs_cons (JS_if (CMT k.toCOk (vEq k.toCOk) (IX k.toCOk (vIxA k.toCOk) (VR k.toCOk 1) (JE_int k.toCOk)) (GK k.toCOk F.k_SWAP)) (JSs_cons (JS_ret (CL k.toCOk hr (ok_put_line F) F.g_put_line (AC (VR k.toCOk 0) (AC (VR k.toCOk 3) (AC (JE_rev k.toCOk (VR k.toCOk 5)) JA_nil)))))
  JSs_nil) JSs_nil)
  (JSs_cons (ST 6 (IX k.toCOk (vIxA k.toCOk) (VR k.toCOk 2) (IX k.toCOk (vIxA k.toCOk) (VR k.toCOk 5) (JE_int k.toCOk))))
  (JSs_cons (JS_if (JW.t (JW_or (CMT k.toCOk (vNe k.toCOk) (IX k.toCOk (vIxA k.toCOk) (VR k.toCOk 6) (JE_int k.toCOk)) (VR k.toCOk 4)) (JW_or1 (CMT k.toCOk (vNe k.toCOk) (IX k.toCOk (vIxA k.toCOk) (CL k.toCOk hr (ok_uses_by F) F.g_uses_by (AC (VR k.toCOk 0) JA_nil)) (IX k.toCOk (vIxA k.toCOk) (VR k.toCOk 6) (JE_int k.toCOk))) (JE_int k.toCOk))))) (JSs_cons (JS_ret (JE_non k.toCOk))
  JSs_nil) JSs_nil)
  (JSs_cons (ST 7 (CL k.toCOk hr (ok_moved_ahead F) F.g_moved_ahead (AC (VR k.toCOk 0) (AC (IX k.toCOk (vIxA k.toCOk) (VR k.toCOk 6) (JE_int k.toCOk)) (AC (VR k.toCOk 3) JA_nil)))))
  (JSs_cons (ST 7 (CL k.toCOk hr (ok_put_line F) F.g_put_line (AC (VR k.toCOk 7) (AC (IX k.toCOk (vIxA k.toCOk) (VR k.toCOk 6) (JE_int k.toCOk)) (AC (JE_tup k.toCOk (AC (IX k.toCOk (vIxA k.toCOk) (VR k.toCOk 5) (JE_int k.toCOk)) (AC (IX k.toCOk (vIxA k.toCOk) (IX k.toCOk (vIxA k.toCOk) (VR k.toCOk 6) (JE_int k.toCOk)) (JE_int k.toCOk)) JA_nil))) JA_nil)))))
  (JSs_cons (JS_ret (CL k.toCOk hr (ok_put_line F) F.g_put_line (AC (VR k.toCOk 7) (AC (VR k.toCOk 3) (AC (JE_tup k.toCOk (AC (IX k.toCOk (vIxA k.toCOk) (VR k.toCOk 6) (JE_int k.toCOk)) (AC (IX k.toCOk (vIxA k.toCOk) (IX k.toCOk (vIxA k.toCOk) (VR k.toCOk 6) (JE_int k.toCOk)) (JE_int k.toCOk)) JA_nil))) JA_nil)))))
  JSs_nil)))))))))
noncomputable def b_is_turn : SM := (sSeq (sIf (bOr (bNot (mTru (mIsi "tuple" (mV 0)))) (mB (bind2 (mCB nLen (aCons (mV 0) aNil)) (mC (.int 2)) oNe))) (sSeq (sRet (mC (.bool false)))
  sNil) sNil)
  (sSeq (sRet (eAnd (mCB (nBools (·.all id)) (aCons (mFrz (mLC (iSeq (mV 0)) (.nm 1) bYes (mIsi "str" (mV 1)) [1])) aNil)) (bind2 (bind2 (mV 0) (mC (.int 0)) oIxA) (mTup (aCons (mC k_SWAP) (aCons (mC k_LEFT) aNil))) oIn)))
  sNil))
noncomputable def m_is_turn : FM := dM 2 b_is_turn
theorem ok_is_turn (F : Fx w K mg) : Ok P w K mg base (cls K) 1 (He.fAd K ("is_turn", none)) ["value"] m_is_turn :=
  Ok.of (N := ["value", "one"]) F.f_is_turn ⟨rfl, rfl, rfl, by decide +kernel, rfl, by decide +kernel, by decide +kernel⟩ (fun _ _ _ _ _ _ us hl => match us, hl with | [_], _ => rfl) fun _ _ _ _ _ _ hr k =>
  (JSs_cons (JS_if (JW.t (JW_or (JT_not (TR (ISI k.toCOk "tuple" F.b_isinstance F.b_tuple (VR k.toCOk 0)))) (JW_or1 (CMT k.toCOk (vNe k.toCOk) (CB k.toCOk cLen F.b_len (AC (VR k.toCOk 0) JA_nil)) (JE_int k.toCOk))))) (JSs_cons (JS_ret (JE_bl k.toCOk))
  JSs_nil) JSs_nil)
  (JSs_cons (JS_ret (JE_and k.toCOk (CB k.toCOk (cAll k.toCOk) F.b_all (AC (JE_frz (LC k.toCOk [("one", 1)] (JI_seq (VR k.toCOk 0)) (fun s1 H1 _ _ fp1 => (NM (k.toCOk.blk s1 H1 _ _ fp1) 1)) (fun s1 H1 _ _ fp1 => JTs_nil) (fun s1 H1 _ _ fp1 => (ISI (k.toCOk.blk s1 H1 _ _ fp1) "str" F.b_isinstance F.b_str (VR (k.toCOk.blk s1 H1 _ _ fp1) 1))))) JA_nil)) (JE_one k.toCOk (CM k.toCOk (vIn k.toCOk) (IX k.toCOk (vIxA k.toCOk) (VR k.toCOk 0) (JE_int k.toCOk)) (JE_tup k.toCOk (AC (GK k.toCOk F.k_SWAP) (AC (GK k.toCOk F.k_LEFT) JA_nil)))))))
  JSs_nil))
noncomputable def l_turns_fault_1 : SM := (sSeq (sSet 0 (mCall 2 m_turn_by (aCons (mV 0) (aCons (mV 3) aNil))))
  (sSeq (sIf (mB (bind2 (mV 0) (mC .none) (isNone false))) (sSeq (sRet (mTup (aCons (mC (.str "step")) (aCons (mV 2) aNil))))
  sNil) sNil)
  sNil))
noncomputable def b_turns_fault : SM := (sSeq (sExpr (mCall 1 m_check_text (aCons (mV 0) aNil)))
  (sSeq (sIf (bOr (bNot (mTru (mIsi "tuple" (mV 1)))) (bOr (mB (bind2 (mCB nLen (aCons (mV 1) aNil)) (mC k_MOST_STEPS) oGtI)) (bNot (mTru (mCB (nBools (·.all id)) (aCons (mFrz (mLC (iSeq (mV 1)) (.nm 4) bYes (mCall 1 m_is_turn (aCons (mV 4) aNil)) [4])) aNil)))))) (sSeq (sRet (mC k_FORM_turned))
  sNil) sNil)
  (sSeq (sFor (iEnum (mV 1)) (.tp [(.nm 2), (.nm 3)]) l_turns_fault_1)
  (sSeq (sRet (mC .none))
  sNil))))
noncomputable def m_turns_fault : FM := dM 5 b_turns_fault
theorem ok_turns_fault (F : Fx w K mg) : Ok P w K mg base (cls K) 6 (He.fAd K ("turns_fault", none)) ["text", "value"] m_turns_fault :=
  Ok.of (N := ["text", "value", "number", "step", "one"]) F.f_turns_fault ⟨rfl, rfl, rfl, by decide +kernel, rfl, by decide +kernel, by decide +kernel⟩ (fun _ _ _ _ _ _ us hl => match us, hl with | [_, _], _ => rfl) fun _ _ _ _ _ _ hr k =>
  (JSs_cons (XP (CL k.toCOk hr (ok_check_text F) F.g_check_text (AC (VR k.toCOk 0) JA_nil)))
  (JSs_cons (JS_if (JW.t (JW_or (JT_not (TR (ISI k.toCOk "tuple" F.b_isinstance F.b_tuple (VR k.toCOk 1)))) (JW_or (CMT k.toCOk vGtI (CB k.toCOk cLen F.b_len (AC (VR k.toCOk 1) JA_nil)) (GK k.toCOk F.k_MOST_STEPS)) (JW_or1 (JT_not (TR (CB k.toCOk (cAll k.toCOk) F.b_all (AC (JE_frz (LC k.toCOk [("one", 4)] (JI_seq (VR k.toCOk 1)) (fun s1 H1 _ _ fp1 => (NM (k.toCOk.blk s1 H1 _ _ fp1) 4)) (fun s1 H1 _ _ fp1 => JTs_nil) (fun s1 H1 _ _ fp1 => (CL (k.toCOk.blk s1 H1 _ _ fp1) hr (ok_is_turn F) F.g_is_turn (AC (VR (k.toCOk.blk s1 H1 _ _ fp1) 4) JA_nil))))) JA_nil)))))))) (JSs_cons (JS_ret (GK k.toCOk F.k_FORM_turned))
  JSs_nil) JSs_nil)
  (JSs_cons (FO k (EN F.b_enumerate (VR k.toCOk 1)) (TU k.toCOk (TC (NM k.toCOk 2) (TC (NM k.toCOk 3) JGs_nil))) (JSs_cons (ST 0 (CL k.toCOk hr (ok_turn_by F) F.g_turn_by (AC (VR k.toCOk 0) (AC (VR k.toCOk 3) JA_nil))))
  (JSs_cons (JS_if (CMT k.toCOk vIs (VR k.toCOk 0) (JE_non k.toCOk)) (JSs_cons (JS_ret (JE_tup k.toCOk (AC (JE_str k.toCOk) (AC (VR k.toCOk 2) JA_nil))))
  JSs_nil) JSs_nil)
  JSs_nil)))
  (JSs_cons (JS_ret (JE_non k.toCOk))
  JSs_nil))))
noncomputable def l_turned_1 : SM := (sSeq (sSet 0 (mCall 2 m_turn_by (aCons (mV 0) (aCons (mV 2) aNil))))
  sNil)
noncomputable def b_turned : SM := (sSeq (sIf (mB (bind2 (mCall 2 m_turns_fault (aCons (mV 0) (aCons (mV 1) aNil))) (mC .none) (isNone true))) (sSeq (sRaise 3)
  sNil) sNil)
  (sSeq (sFor (iSeq (mV 1)) (.nm 2) l_turned_1)
  (sSeq (sRet (mV 0))
  sNil)))
noncomputable def m_turned : FM := dM 3 b_turned
theorem ok_turned (F : Fx w K mg) : Ok P w K mg base (cls K) 7 (He.fAd K ("turned", none)) ["text", "value"] m_turned :=
  Ok.of (N := ["text", "value", "step"]) F.f_turned ⟨rfl, rfl, rfl, by decide +kernel, rfl, by decide +kernel, by decide +kernel⟩ (fun _ _ _ _ _ _ us hl => match us, hl with | [_, _], _ => rfl) fun _ _ _ _ _ _ hr k =>
  (JSs_cons (JS_if (CMT k.toCOk vIsNot (CL k.toCOk hr (ok_turns_fault F) F.g_turns_fault (AC (VR k.toCOk 0) (AC (VR k.toCOk 1) JA_nil))) (JE_non k.toCOk)) (JSs_cons (RZ k.toCOk 3 F.x_BadSteps)
  JSs_nil) JSs_nil)
  (JSs_cons (FO k (JI_seq (VR k.toCOk 1)) (NM k.toCOk 2) (JSs_cons (ST 0 (CL k.toCOk hr (ok_turn_by F) F.g_turn_by (AC (VR k.toCOk 0) (AC (VR k.toCOk 2) JA_nil))))
  JSs_nil))
  (JSs_cons (JS_ret (VR k.toCOk 0))
  JSs_nil)))
noncomputable def b_worked : SM := (sSeq (sExpr (mCall 1 m_check_tree (aCons (mV 0) aNil)))
  (sSeq sBad
  (sSeq sBad
  (sSeq (sRet (mV 1))
  sNil))))
noncomputable def m_worked : FM := dM 2 b_worked
theorem ok_worked (F : Fx w K mg) : Ok P w K mg base (cls K) 7 (He.fAd K ("worked", none)) ["text"] m_worked :=
  Ok.of (N := ["text", "turning"]) F.f_worked ⟨rfl, rfl, rfl, by decide +kernel, rfl, by decide +kernel, by decide +kernel⟩ (fun _ _ _ _ _ _ us hl => match us, hl with | [_], _ => rfl) fun _ _ _ _ _ _ hr k =>
  (JSs_cons (XP (CL k.toCOk hr (ok_check_tree F) F.g_check_tree (AC (VR k.toCOk 0) JA_nil)))
  (JSs_cons JS_bad
  (JSs_cons JS_bad
  (JSs_cons (JS_ret (VR k.toCOk 1))
  JSs_nil))))
noncomputable def b_best_turns : SM := (sSeq (sRet (mCB nTuple (aCons (mAttr [] "steps" (mCall 1 m_worked (aCons (mV 0) aNil))) aNil)))
  sNil)
noncomputable def m_best_turns : FM := dM 1 b_best_turns
theorem ok_best_turns (F : Fx w K mg) : Ok P w K mg base (cls K) 8 (He.fAd K ("best_turns", none)) ["text"] m_best_turns :=
  Ok.of (N := ["text"]) F.f_best_turns ⟨rfl, rfl, rfl, by decide +kernel, rfl, by decide +kernel, by decide +kernel⟩ (fun _ _ _ _ _ _ us hl => match us, hl with | [_], _ => rfl) fun _ _ _ _ _ _ hr k =>
  (JSs_cons (JS_ret (CT k.toCOk cTuple F.b_tuple (AC (AT k.toCOk [] (CL k.toCOk hr (ok_worked F) F.g_worked (AC (VR k.toCOk 0) JA_nil)) (fun _ h => nomatch h)) JA_nil)))
  JSs_nil)
noncomputable def b_turned_places : SM := (sSeq (sSet 1 (mCall 1 m_worked (aCons (mV 0) aNil)))
  (sSeq (sRet (bind2 (mAttr [] "labels" (mV 1)) (bind2 (bind2 (mV 0) (mC (.int 1)) oIxA) (mC (.int 0)) oIxA) oIxA))
  sNil))
noncomputable def m_turned_places : FM := dM 2 b_turned_places
theorem ok_turned_places (F : Fx w K mg) : Ok P w K mg base (cls K) 8 (He.fAd K ("turned_places", none)) ["text"] m_turned_places :=
  Ok.of (N := ["text", "turning"]) F.f_turned_places ⟨rfl, rfl, rfl, by decide +kernel, rfl, by decide +kernel, by decide +kernel⟩ (fun _ _ _ _ _ _ us hl => match us, hl with | [_], _ => rfl) fun _ _ _ _ _ _ hr k =>
  (JSs_cons (ST 1 (CL k.toCOk hr (ok_worked F) F.g_worked (AC (VR k.toCOk 0) JA_nil)))
  (JSs_cons (JS_ret (IX k.toCOk (vIxA k.toCOk) (AT k.toCOk [] (VR k.toCOk 1) (fun _ h => nomatch h)) (IX k.toCOk (vIxA k.toCOk) (IX k.toCOk (vIxA k.toCOk) (VR k.toCOk 0) (JE_int k.toCOk)) (JE_int k.toCOk))))
  JSs_nil))
noncomputable def l__law_draws_1 : SM := (sSeq (sIf (mB (bind2 (mCB nLen (aCons (mV 2) aNil)) (mV 1) oLt)) (sSeq (sSet 3 (bind2 (mCB nInt (aCons (bind2 (bind2 (bind2 (mV 3) (mC (.int 69621)) oMulY) (mV 6) oAdd) (mC (.int 1)) oAdd) aNil)) (mC (.int 2147483647)) oModI))
  (sSeq (sExpr (mBM "list" oAppend (mV 2) (aCons (bind2 (bind2 (mCB nInt (aCons (mV 3) aNil)) (mC (.int 7)) oDivI) (mC (.int 65521)) oModI) aNil)))
  sNil)) sNil)
  sNil)
noncomputable def l__law_draws_2 : SM := (sSeq (sIf (mB (bind2 (mV 5) (mC (.int 0)) oGtI)) (sSeq (sExpr (mBM "list" oAppend (mV 2) (aCons (bind2 (mCB nInt (aCons (mV 5) aNil)) (mC (.int 1009)) oModI) aNil)))
  (sSeq (sSet 5 (bind2 (mV 5) (mC (.int 1009)) oDivI))
  sNil)) sNil)
  sNil)
noncomputable def l__law_draws_3 : SM := (sSeq (sSet 5 (mCB nAbs (aCons (mV 4) aNil)))
  (sSeq (sSet 3 (bind2 (mCB nInt (aCons (bind2 (bind2 (bind2 (mV 3) (mC (.int 48271)) oMulY) (mV 5) oAdd) (mC (.int 11)) oAdd) aNil)) (mC (.int 2147483647)) oModI))
  (sSeq (sIf (mB (bind2 (mV 5) (bind2 (mC (.int 10)) (mC (.int 18)) oPowI) oGeI)) (sSeq (sFor (iRg1 (aCons (mC (.int 60)) aNil)) (.nm 6) l__law_draws_2)
  sNil) (sSeq (sExpr (mBM "list" oAppend (mV 2) (aCons (bind2 (bind2 (mCB nInt (aCons (bind2 (bind2 (mV 3) (mC (.int 16807)) oMulY) (mC (.int 5)) oAdd) aNil)) (mC (.int 3)) oDivI) (mC (.int 65521)) oModI) aNil)))
  sNil))
  sNil)))
noncomputable def b__law_draws : SM := (sSeq (sSet 2 (mObj (lDisp aNil)))
  (sSeq (sSet 3 (mC (.int 7)))
  (sSeq (sFor (iSeq (mSl (mV 0) pNo (pSome (mC (.int 63))))) (.nm 4) l__law_draws_3)
  (sSeq (sFor (iRg1 (aCons (mV 1) aNil)) (.nm 6) l__law_draws_1)
  (sSeq (sRet (mSl (mV 2) pNo (pSome (mV 1))))
  sNil)))))
noncomputable def m__law_draws : FM := dM 7 b__law_draws
theorem ok__law_draws (F : Fx w K mg) : Ok P w K mg base (cls K) 1 (He.fAd K ("_law_draws", none)) ["script", "many"] m__law_draws :=
  Ok.of (N := ["script", "many", "draws", "seed", "cell", "number", "k"]) F.f__law_draws ⟨rfl, rfl, rfl, by decide +kernel, rfl, by decide +kernel, by decide +kernel⟩ (fun _ _ _ _ _ _ us hl => match us, hl with | [_, _], _ => rfl) fun _ _ _ _ _ _ hr k =>
  (JSs_cons (ST 2 (JE_obj (JL_disp k.toCOk JA_nil)))
  (JSs_cons (ST 3 (JE_int k.toCOk))
  (JSs_cons (FO k (JI_seq (JE_sl k.toCOk (VR k.toCOk 0) JO_no (JO_some (JE_int k.toCOk)))) (NM k.toCOk 4) (JSs_cons (ST 5 (CB k.toCOk cAbs F.b_abs (AC (VR k.toCOk 4) JA_nil)))
  (JSs_cons (ST 3 (BO k.toCOk vModI (CT k.toCOk cInt F.b_int (AC (BO k.toCOk vAdd (BO k.toCOk vAdd (BO k.toCOk vMulY (VR k.toCOk 3) (JE_int k.toCOk)) (VR k.toCOk 5)) (JE_int k.toCOk)) JA_nil)) (JE_int k.toCOk)))
  (JSs_cons (JS_if (CMT k.toCOk vGeI (VR k.toCOk 5) (BO k.toCOk vPowI (JE_int k.toCOk) (JE_int k.toCOk))) (JSs_cons (FO k (R1 F.b_range (AC (JE_int k.toCOk) JA_nil)) (NM k.toCOk 6) (JSs_cons (JS_if (CMT k.toCOk vGtI (VR k.toCOk 5) (JE_int k.toCOk)) (JSs_cons (XP (MB k.toCOk PySem.F.plainAttrs_list PySem.F.slot_list_append tAppend (VR k.toCOk 2) (AC (BO k.toCOk vModI (CT k.toCOk cInt F.b_int (AC (VR k.toCOk 5) JA_nil)) (JE_int k.toCOk)) JA_nil)))
  (JSs_cons (ST 5 (BO k.toCOk vDivI (VR k.toCOk 5) (JE_int k.toCOk)))
  JSs_nil)) JSs_nil)
  JSs_nil))
  JSs_nil) (JSs_cons (XP (MB k.toCOk PySem.F.plainAttrs_list PySem.F.slot_list_append tAppend (VR k.toCOk 2) (AC (BO k.toCOk vModI (BO k.toCOk vDivI (CT k.toCOk cInt F.b_int (AC (BO k.toCOk vAdd (BO k.toCOk vMulY (VR k.toCOk 3) (JE_int k.toCOk)) (JE_int k.toCOk)) JA_nil)) (JE_int k.toCOk)) (JE_int k.toCOk)) JA_nil)))
  JSs_nil))
  JSs_nil))))
  (JSs_cons (FO k (R1 F.b_range (AC (VR k.toCOk 1) JA_nil)) (NM k.toCOk 6) (JSs_cons (JS_if (CMT k.toCOk (vLt k.toCOk) (CB k.toCOk cLen F.b_len (AC (VR k.toCOk 2) JA_nil)) (VR k.toCOk 1)) (JSs_cons (ST 3 (BO k.toCOk vModI (CT k.toCOk cInt F.b_int (AC (BO k.toCOk vAdd (BO k.toCOk vAdd (BO k.toCOk vMulY (VR k.toCOk 3) (JE_int k.toCOk)) (VR k.toCOk 6)) (JE_int k.toCOk)) JA_nil)) (JE_int k.toCOk)))
  (JSs_cons (XP (MB k.toCOk PySem.F.plainAttrs_list PySem.F.slot_list_append tAppend (VR k.toCOk 2) (AC (BO k.toCOk vModI (BO k.toCOk vDivI (CT k.toCOk cInt F.b_int (AC (VR k.toCOk 3) JA_nil)) (JE_int k.toCOk)) (JE_int k.toCOk)) JA_nil)))
  JSs_nil)) JSs_nil)
  JSs_nil))
  (JSs_cons (JS_ret (JE_sl k.toCOk (VR k.toCOk 2) JO_no (JO_some (VR k.toCOk 1))))
  JSs_nil)))))
noncomputable def l__law_text_1 : SM := (sSeq (sSet 8 (mFrz (mLC (iRg1 (aCons (mC (.int 5)) aNil)) (.nm 14) bYes (mCB nInt (aCons (bind2 (mV 0) (bind2 (bind2 (mC (.int 2)) (bind2 (mC (.int 5)) (mV 7) oMulY) oAdd) (mV 14) oAdd) oIxA) aNil)) [14])))
  (sSeq (sIf (bOr (mB (bind2 (mV 7) (mV 3) oLt)) (bAnd (mB (bind2 (bind2 (bind2 (mV 8) (mC (.int 0)) oIxA) (mC (.int 11)) oModI) (mC (.int 0)) oEq)) (mB (bind2 (mV 7) (bind2 (mV 2) (mC (.int 1)) oSubI) oLt)))) (sSeq (sExpr (mBM "list" oAppend (mV 4) (aCons (mTup (aCons (bind2 (mC (.str "abcdefghijklmnopqrst")) (mV 7) oIxA) (aCons (mC (.str "in")) (aCons (mTup aNil) aNil)))) aNil)))
  (sSeq sCnt
  sNil)) sNil)
  (sSeq (sSet 9 (mFrz (mLC (iSeq (mTup (aCons (mC (.int 1)) (aCons (mC (.int 2)) aNil)))) (.nm 14) bYes (mIf (mB (bind2 (bind2 (bind2 (mV 8) (mC (.int 3)) oIxA) (mC (.int 4)) oModI) (mC (.int 0)) oGtI)) (mCB nMax2 (aCons (mC (.int 0)) (aCons (bind2 (bind2 (mV 7) (mC (.int 1)) oSubI) (bind2 (bind2 (mV 8) (mV 14) oIxA) (mC (.int 3)) oModI) oSubI) aNil))) (bind2 (bind2 (mV 8) (mV 14) oIxA) (mV 7) oModI)) [14])))
  (sSeq (sSet 10 (bind2 (mFrz (lDisp (aCons (mC (.str "neg")) (aCons (mC (.str "double")) (aCons (mC (.str "add")) (aCons (mC (.str "sub")) (aCons (mC (.str "times")) (aCons (mC (.str "least")) (aCons (mC (.str "greatest")) (aCons (mC (.str "add")) aNil)))))))))) (bind2 (bind2 (mV 8) (mC (.int 0)) oIxA) (mC (.int 8)) oModI) oIxA))
  (sSeq (sIf (mB (bind2 (bind2 (mCB nInt (aCons (bind2 (mV 0) (mC (.int 72)) oIxA) aNil)) (mC (.int 3)) oModI) (mC (.int 0)) oGtI)) (sSeq (sPar [9, 10] (aCons (mFrz (lDisp (aCons (bind2 (mV 7) (mC (.int 1)) oSubI) (aCons (bind2 (bind2 (mV 8) (mC (.int 1)) oIxA) (mV 7) oModI) aNil)))) (aCons (bind2 (mFrz (lDisp (aCons (mC (.str "add")) (aCons (mC (.str "sub")) (aCons (mC (.str "times")) (aCons (mC (.str "least")) (aCons (mC (.str "greatest")) (aCons (mC (.str "sub")) (aCons (mC (.str "neg")) (aCons (mC (.str "add")) aNil)))))))))) (bind2 (bind2 (mV 8) (mC (.int 0)) oIxA) (mC (.int 8)) oModI) oIxA) aNil)))
  sNil) sNil)
  (sSeq (sExpr (mBM "list" oAppend (mV 4) (aCons (mTup (aCons (bind2 (mC (.str "abcdefghijklmnopqrst")) (mV 7) oIxA) (aCons (mV 10) (aCons (mCB nTuple (aCons (mFrz (mLC (iSeq (mSl (mV 9) pNo (pSome (mIf (mB (bind2 (mV 10) (mTup (aCons (mC (.str "neg")) (aCons (mC (.str "double")) aNil))) oIn)) (mC (.int 1)) (mC (.int 2)))))) (.nm 15) bYes (bind2 (mC (.str "abcdefghijklmnopqrst")) (mV 15) oIxA) [15])) aNil)) aNil)))) aNil)))
  sNil))))))
noncomputable def b__law_text : SM := (sSeq (sPar [2, 3] (aCons (bind2 (mC (.int 3)) (bind2 (mCB nInt (aCons (bind2 (mV 0) (mC (.int 0)) oIxA) aNil)) (bind2 (mV 1) (mC (.int 2)) oSubI) oModI) oAdd) (aCons (bind2 (mC (.int 1)) (bind2 (mCB nInt (aCons (bind2 (mV 0) (mC (.int 1)) oIxA) aNil)) (mC (.int 2)) oModI) oAdd) aNil)))
  (sSeq (sTg (.tp [(.nm 4), (.nm 5)]) (mTup (aCons (mObj (lDisp aNil)) (aCons (mFrz (lDisp (aCons (mC (.str "add")) (aCons (mC (.str "sub")) (aCons (mC (.str "times")) (aCons (mC (.str "least")) (aCons (mC (.str "greatest")) aNil))))))) aNil))))
  (sSeq (sIf (bAnd (mB (bind2 (bind2 (mCB nInt (aCons (bind2 (mV 0) (mC (.int 73)) oIxA) aNil)) (mC (.int 4)) oModI) (mC (.int 0)) oEq)) (mB (bind2 (mV 1) (mC (.int 6)) oGtI))) (sSeq (sSet 6 (mIf (mB (bind2 (bind2 (mCB nInt (aCons (bind2 (mV 0) (mC (.int 74)) oIxA) aNil)) (mC (.int 3)) oModI) (mC (.int 0)) oGtI)) (mFrz (lDisp (aCons (mTup (aCons (mC (.str "a")) (aCons (mC (.str "b")) aNil))) (aCons (mTup (aCons (mC (.str "c")) (aCons (mC (.str "d")) aNil))) (aCons (mTup (aCons (mC (.str "e")) (aCons (mC (.str "f")) aNil))) aNil))))) (mFrz (lDisp (aCons (mTup (aCons (mC (.str "a")) (aCons (mC (.str "b")) aNil))) (aCons (mTup (aCons (mC (.str "b")) (aCons (mC (.str "c")) aNil))) (aCons (mTup (aCons (mC (.str "e")) (aCons (mC (.str "f")) aNil))) aNil)))))))
  (sSeq (sSet 4 (bind2 (mFrz (mLC (iSeq (mC (.str "abcd"))) (.nm 13) bYes (mTup (aCons (mV 13) (aCons (mC (.str "in")) (aCons (mTup aNil) aNil)))) [13])) (mFrz (mLC (iRg1 (aCons (mC (.int 3)) aNil)) (.nm 7) bYes (mTup (aCons (bind2 (mC (.str "efg")) (mV 7) oIxA) (aCons (bind2 (mV 5) (bind2 (mCB nInt (aCons (bind2 (mV 0) (bind2 (mC (.int 75)) (mV 7) oAdd) oIxA) aNil)) (mC (.int 5)) oModI) oIxA) (aCons (bind2 (mV 6) (mV 7) oIxA) aNil)))) [7])) oAdd))
  (sSeq (sRet (mTup (aCons (mCB nTuple (aCons (mV 4) aNil)) (aCons (mIf (mB (bind2 (bind2 (mCB nInt (aCons (bind2 (mV 0) (mC (.int 74)) oIxA) aNil)) (mC (.int 3)) oModI) (mC (.int 0)) oEq)) (mTup (aCons (mC (.str "d")) (aCons (mC (.str "g")) aNil))) (mTup (aCons (mC (.str "g")) aNil))) aNil))))
  sNil))) sNil)
  (sSeq (sFor (iRg1 (aCons (mV 2) aNil)) (.nm 7) l__law_text_1)
  (sSeq (sSet 11 (bind2 (bind2 (mV 4) (mNeg (mC (.int 1))) oIxA) (mC (.int 0)) oIxA))
  (sSeq (sSet 12 (bind2 (mC (.str "abcdefghijklmnopqrst")) (bind2 (mCB nInt (aCons (bind2 (mV 0) (mC (.int 70)) oIxA) aNil)) (mV 2) oModI) oIxA))
  (sSeq (sRet (mTup (aCons (mCB nTuple (aCons (mV 4) aNil)) (aCons (mIf (bAnd (mB (bind2 (bind2 (mCB nInt (aCons (bind2 (mV 0) (mC (.int 71)) oIxA) aNil)) (mC (.int 4)) oModI) (mC (.int 0)) oEq)) (mB (bind2 (mV 12) (mV 11) oNe))) (mTup (aCons (mV 12) (aCons (mV 11) aNil))) (mTup (aCons (mV 11) aNil))) aNil))))
  sNil)))))))
noncomputable def m__law_text : FM := dM 16 b__law_text
theorem ok__law_text (F : Fx w K mg) : Ok P w K mg base (cls K) 1 (He.fAd K ("_law_text", none)) ["draws", "most"] m__law_text :=
  Ok.of (N := ["draws", "most", "many", "inputs", "lines", "two", "ends", "k", "own", "goals", "word", "last", "other", "name", "j", "goal"]) F.f__law_text ⟨rfl, rfl, rfl, by decide +kernel, rfl, by decide +kernel, by decide +kernel⟩ (fun _ _ _ _ _ _ us hl => match us, hl with | [_, _], _ => rfl) fun _ _ _ _ _ _ hr k =>
  (JSs_cons (P2 k.toCOk 2 3 (AC (BO k.toCOk vAdd (JE_int k.toCOk) (BO k.toCOk vModI (CT k.toCOk cInt F.b_int (AC (IX k.toCOk (vIxA k.toCOk) (VR k.toCOk 0) (JE_int k.toCOk)) JA_nil)) (BO k.toCOk vSubI (VR k.toCOk 1) (JE_int k.toCOk)))) (AC (BO k.toCOk vAdd (JE_int k.toCOk) (BO k.toCOk vModI (CT k.toCOk cInt F.b_int (AC (IX k.toCOk (vIxA k.toCOk) (VR k.toCOk 0) (JE_int k.toCOk)) JA_nil)) (JE_int k.toCOk))) JA_nil)))
  (JSs_cons (SG k.toCOk (JE_tup k.toCOk (AC (JE_obj (JL_disp k.toCOk JA_nil)) (AC (JE_frz (JL_disp k.toCOk (AC (JE_str k.toCOk) (AC (JE_str k.toCOk) (AC (JE_str k.toCOk) (AC (JE_str k.toCOk) (AC (JE_str k.toCOk) JA_nil))))))) JA_nil))) (TU k.toCOk (TC (NM k.toCOk 4) (TC (NM k.toCOk 5) JGs_nil))))
  (JSs_cons (JS_if (JW.t (JW_and (CMT k.toCOk (vEq k.toCOk) (BO k.toCOk vModI (CT k.toCOk cInt F.b_int (AC (IX k.toCOk (vIxA k.toCOk) (VR k.toCOk 0) (JE_int k.toCOk)) JA_nil)) (JE_int k.toCOk)) (JE_int k.toCOk)) (JW_and1 (CMT k.toCOk vGtI (VR k.toCOk 1) (JE_int k.toCOk))))) (JSs_cons (ST 6 (JE_if k.toCOk (CMT k.toCOk vGtI (BO k.toCOk vModI (CT k.toCOk cInt F.b_int (AC (IX k.toCOk (vIxA k.toCOk) (VR k.toCOk 0) (JE_int k.toCOk)) JA_nil)) (JE_int k.toCOk)) (JE_int k.toCOk)) (JE_frz (JL_disp k.toCOk (AC (JE_tup k.toCOk (AC (JE_str k.toCOk) (AC (JE_str k.toCOk) JA_nil))) (AC (JE_tup k.toCOk (AC (JE_str k.toCOk) (AC (JE_str k.toCOk) JA_nil))) (AC (JE_tup k.toCOk (AC (JE_str k.toCOk) (AC (JE_str k.toCOk) JA_nil))) JA_nil))))) (JE_frz (JL_disp k.toCOk (AC (JE_tup k.toCOk (AC (JE_str k.toCOk) (AC (JE_str k.toCOk) JA_nil))) (AC (JE_tup k.toCOk (AC (JE_str k.toCOk) (AC (JE_str k.toCOk) JA_nil))) (AC (JE_tup k.toCOk (AC (JE_str k.toCOk) (AC (JE_str k.toCOk) JA_nil))) JA_nil)))))))
  (JSs_cons (ST 4 (BO k.toCOk vAdd (JE_frz (LC k.toCOk [("name", 13)] (JI_seq (JE_str k.toCOk)) (fun s1 H1 _ _ fp1 => (NM (k.toCOk.blk s1 H1 _ _ fp1) 13)) (fun s1 H1 _ _ fp1 => JTs_nil) (fun s1 H1 _ _ fp1 => (JE_tup (k.toCOk.blk s1 H1 _ _ fp1) (AC (VR (k.toCOk.blk s1 H1 _ _ fp1) 13) (AC (JE_str (k.toCOk.blk s1 H1 _ _ fp1)) (AC (JE_tup (k.toCOk.blk s1 H1 _ _ fp1) JA_nil) JA_nil))))))) (JE_frz (LC k.toCOk [("k", 7)] (R1 F.b_range (AC (JE_int k.toCOk) JA_nil)) (fun s1 H1 _ _ fp1 => (NM (k.toCOk.blk s1 H1 _ _ fp1) 7)) (fun s1 H1 _ _ fp1 => JTs_nil) (fun s1 H1 _ _ fp1 => (JE_tup (k.toCOk.blk s1 H1 _ _ fp1) (AC (IX (k.toCOk.blk s1 H1 _ _ fp1) (vIxA (k.toCOk.blk s1 H1 _ _ fp1)) (JE_str (k.toCOk.blk s1 H1 _ _ fp1)) (VR (k.toCOk.blk s1 H1 _ _ fp1) 7)) (AC (IX (k.toCOk.blk s1 H1 _ _ fp1) (vIxA (k.toCOk.blk s1 H1 _ _ fp1)) (VR (k.toCOk.blk s1 H1 _ _ fp1) 5) (BO (k.toCOk.blk s1 H1 _ _ fp1) vModI (CT (k.toCOk.blk s1 H1 _ _ fp1) cInt F.b_int (AC (IX (k.toCOk.blk s1 H1 _ _ fp1) (vIxA (k.toCOk.blk s1 H1 _ _ fp1)) (VR (k.toCOk.blk s1 H1 _ _ fp1) 0) (BO (k.toCOk.blk s1 H1 _ _ fp1) vAdd (JE_int (k.toCOk.blk s1 H1 _ _ fp1)) (VR (k.toCOk.blk s1 H1 _ _ fp1) 7))) JA_nil)) (JE_int (k.toCOk.blk s1 H1 _ _ fp1)))) (AC (IX (k.toCOk.blk s1 H1 _ _ fp1) (vIxA (k.toCOk.blk s1 H1 _ _ fp1)) (VR (k.toCOk.blk s1 H1 _ _ fp1) 6) (VR (k.toCOk.blk s1 H1 _ _ fp1) 7)) JA_nil)))))))))
  (JSs_cons (JS_ret (JE_tup k.toCOk (AC (CT k.toCOk cTuple F.b_tuple (AC (VR k.toCOk 4) JA_nil)) (AC (JE_if k.toCOk (CMT k.toCOk (vEq k.toCOk) (BO k.toCOk vModI (CT k.toCOk cInt F.b_int (AC (IX k.toCOk (vIxA k.toCOk) (VR k.toCOk 0) (JE_int k.toCOk)) JA_nil)) (JE_int k.toCOk)) (JE_int k.toCOk)) (JE_tup k.toCOk (AC (JE_str k.toCOk) (AC (JE_str k.toCOk) JA_nil))) (JE_tup k.toCOk (AC (JE_str k.toCOk) JA_nil))) JA_nil))))
  JSs_nil))) JSs_nil)
  (JSs_cons (FO k (R1 F.b_range (AC (VR k.toCOk 2) JA_nil)) (NM k.toCOk 7) (JSs_cons (ST 8 (JE_frz (LC k.toCOk [("j", 14)] (R1 F.b_range (AC (JE_int k.toCOk) JA_nil)) (fun s1 H1 _ _ fp1 => (NM (k.toCOk.blk s1 H1 _ _ fp1) 14)) (fun s1 H1 _ _ fp1 => JTs_nil) (fun s1 H1 _ _ fp1 => (CT (k.toCOk.blk s1 H1 _ _ fp1) cInt F.b_int (AC (IX (k.toCOk.blk s1 H1 _ _ fp1) (vIxA (k.toCOk.blk s1 H1 _ _ fp1)) (VR (k.toCOk.blk s1 H1 _ _ fp1) 0) (BO (k.toCOk.blk s1 H1 _ _ fp1) vAdd (BO (k.toCOk.blk s1 H1 _ _ fp1) vAdd (JE_int (k.toCOk.blk s1 H1 _ _ fp1)) (BO (k.toCOk.blk s1 H1 _ _ fp1) vMulY (JE_int (k.toCOk.blk s1 H1 _ _ fp1)) (VR (k.toCOk.blk s1 H1 _ _ fp1) 7))) (VR (k.toCOk.blk s1 H1 _ _ fp1) 14))) JA_nil))))))
  (JSs_cons (JS_if (JW.t (JW_or (CMT k.toCOk (vLt k.toCOk) (VR k.toCOk 7) (VR k.toCOk 3)) (JW_or1 (JW.t (JW_and (CMT k.toCOk (vEq k.toCOk) (BO k.toCOk vModI (IX k.toCOk (vIxA k.toCOk) (VR k.toCOk 8) (JE_int k.toCOk)) (JE_int k.toCOk)) (JE_int k.toCOk)) (JW_and1 (CMT k.toCOk (vLt k.toCOk) (VR k.toCOk 7) (BO k.toCOk vSubI (VR k.toCOk 2) (JE_int k.toCOk))))))))) (JSs_cons (XP (MB k.toCOk PySem.F.plainAttrs_list PySem.F.slot_list_append tAppend (VR k.toCOk 4) (AC (JE_tup k.toCOk (AC (IX k.toCOk (vIxA k.toCOk) (JE_str k.toCOk) (VR k.toCOk 7)) (AC (JE_str k.toCOk) (AC (JE_tup k.toCOk JA_nil) JA_nil)))) JA_nil)))
  (JSs_cons JS_continue
  JSs_nil)) JSs_nil)
  (JSs_cons (ST 9 (JE_frz (LC k.toCOk [("j", 14)] (JI_seq (JE_tup k.toCOk (AC (JE_int k.toCOk) (AC (JE_int k.toCOk) JA_nil)))) (fun s1 H1 _ _ fp1 => (NM (k.toCOk.blk s1 H1 _ _ fp1) 14)) (fun s1 H1 _ _ fp1 => JTs_nil) (fun s1 H1 _ _ fp1 => (JE_if (k.toCOk.blk s1 H1 _ _ fp1) (CMT (k.toCOk.blk s1 H1 _ _ fp1) vGtI (BO (k.toCOk.blk s1 H1 _ _ fp1) vModI (IX (k.toCOk.blk s1 H1 _ _ fp1) (vIxA (k.toCOk.blk s1 H1 _ _ fp1)) (VR (k.toCOk.blk s1 H1 _ _ fp1) 8) (JE_int (k.toCOk.blk s1 H1 _ _ fp1))) (JE_int (k.toCOk.blk s1 H1 _ _ fp1))) (JE_int (k.toCOk.blk s1 H1 _ _ fp1))) (CB (k.toCOk.blk s1 H1 _ _ fp1) (cMax2 (k.toCOk.blk s1 H1 _ _ fp1)) F.b_max (AC (JE_int (k.toCOk.blk s1 H1 _ _ fp1)) (AC (BO (k.toCOk.blk s1 H1 _ _ fp1) vSubI (BO (k.toCOk.blk s1 H1 _ _ fp1) vSubI (VR (k.toCOk.blk s1 H1 _ _ fp1) 7) (JE_int (k.toCOk.blk s1 H1 _ _ fp1))) (BO (k.toCOk.blk s1 H1 _ _ fp1) vModI (IX (k.toCOk.blk s1 H1 _ _ fp1) (vIxA (k.toCOk.blk s1 H1 _ _ fp1)) (VR (k.toCOk.blk s1 H1 _ _ fp1) 8) (VR (k.toCOk.blk s1 H1 _ _ fp1) 14)) (JE_int (k.toCOk.blk s1 H1 _ _ fp1)))) JA_nil))) (BO (k.toCOk.blk s1 H1 _ _ fp1) vModI (IX (k.toCOk.blk s1 H1 _ _ fp1) (vIxA (k.toCOk.blk s1 H1 _ _ fp1)) (VR (k.toCOk.blk s1 H1 _ _ fp1) 8) (VR (k.toCOk.blk s1 H1 _ _ fp1) 14)) (VR (k.toCOk.blk s1 H1 _ _ fp1) 7)))))))
  (JSs_cons (ST 10 (IX k.toCOk (vIxA k.toCOk) (JE_frz (JL_disp k.toCOk (AC (JE_str k.toCOk) (AC (JE_str k.toCOk) (AC (JE_str k.toCOk) (AC (JE_str k.toCOk) (AC (JE_str k.toCOk) (AC (JE_str k.toCOk) (AC (JE_str k.toCOk) (AC (JE_str k.toCOk) JA_nil)))))))))) (BO k.toCOk vModI (IX k.toCOk (vIxA k.toCOk) (VR k.toCOk 8) (JE_int k.toCOk)) (JE_int k.toCOk))))
  (JSs_cons (JS_if (CMT k.toCOk vGtI (BO k.toCOk vModI (CT k.toCOk cInt F.b_int (AC (IX k.toCOk (vIxA k.toCOk) (VR k.toCOk 0) (JE_int k.toCOk)) JA_nil)) (JE_int k.toCOk)) (JE_int k.toCOk)) (JSs_cons (P2 k.toCOk 9 10 (AC (JE_frz (JL_disp k.toCOk (AC (BO k.toCOk vSubI (VR k.toCOk 7) (JE_int k.toCOk)) (AC (BO k.toCOk vModI (IX k.toCOk (vIxA k.toCOk) (VR k.toCOk 8) (JE_int k.toCOk)) (VR k.toCOk 7)) JA_nil)))) (AC (IX k.toCOk (vIxA k.toCOk) (JE_frz (JL_disp k.toCOk (AC (JE_str k.toCOk) (AC (JE_str k.toCOk) (AC (JE_str k.toCOk) (AC (JE_str k.toCOk) (AC (JE_str k.toCOk) (AC (JE_str k.toCOk) (AC (JE_str k.toCOk) (AC (JE_str k.toCOk) JA_nil)))))))))) (BO k.toCOk vModI (IX k.toCOk (vIxA k.toCOk) (VR k.toCOk 8) (JE_int k.toCOk)) (JE_int k.toCOk))) JA_nil)))
  JSs_nil) JSs_nil)
  (JSs_cons (XP (MB k.toCOk PySem.F.plainAttrs_list PySem.F.slot_list_append tAppend (VR k.toCOk 4) (AC (JE_tup k.toCOk (AC (IX k.toCOk (vIxA k.toCOk) (JE_str k.toCOk) (VR k.toCOk 7)) (AC (VR k.toCOk 10) (AC (CT k.toCOk cTuple F.b_tuple (AC (JE_frz (LC k.toCOk [("goal", 15)] (JI_seq (JE_sl k.toCOk (VR k.toCOk 9) JO_no (JO_some (JE_if k.toCOk (CMT k.toCOk (vIn k.toCOk) (VR k.toCOk 10) (JE_tup k.toCOk (AC (JE_str k.toCOk) (AC (JE_str k.toCOk) JA_nil)))) (JE_int k.toCOk) (JE_int k.toCOk))))) (fun s1 H1 _ _ fp1 => (NM (k.toCOk.blk s1 H1 _ _ fp1) 15)) (fun s1 H1 _ _ fp1 => JTs_nil) (fun s1 H1 _ _ fp1 => (IX (k.toCOk.blk s1 H1 _ _ fp1) (vIxA (k.toCOk.blk s1 H1 _ _ fp1)) (JE_str (k.toCOk.blk s1 H1 _ _ fp1)) (VR (k.toCOk.blk s1 H1 _ _ fp1) 15))))) JA_nil)) JA_nil)))) JA_nil)))
  JSs_nil)))))))
  (JSs_cons (ST 11 (IX k.toCOk (vIxA k.toCOk) (IX k.toCOk (vIxA k.toCOk) (VR k.toCOk 4) (JE_neg k.toCOk (JE_int k.toCOk))) (JE_int k.toCOk)))
  (JSs_cons (ST 12 (IX k.toCOk (vIxA k.toCOk) (JE_str k.toCOk) (BO k.toCOk vModI (CT k.toCOk cInt F.b_int (AC (IX k.toCOk (vIxA k.toCOk) (VR k.toCOk 0) (JE_int k.toCOk)) JA_nil)) (VR k.toCOk 2))))
  (JSs_cons (JS_ret (JE_tup k.toCOk (AC (CT k.toCOk cTuple F.b_tuple (AC (VR k.toCOk 4) JA_nil)) (AC (JE_if k.toCOk (JW.t (JW_and (CMT k.toCOk (vEq k.toCOk) (BO k.toCOk vModI (CT k.toCOk cInt F.b_int (AC (IX k.toCOk (vIxA k.toCOk) (VR k.toCOk 0) (JE_int k.toCOk)) JA_nil)) (JE_int k.toCOk)) (JE_int k.toCOk)) (JW_and1 (CMT k.toCOk (vNe k.toCOk) (VR k.toCOk 12) (VR k.toCOk 11))))) (JE_tup k.toCOk (AC (VR k.toCOk 12) (AC (VR k.toCOk 11) JA_nil))) (JE_tup k.toCOk (AC (VR k.toCOk 11) JA_nil))) JA_nil))))
  JSs_nil)))))))
noncomputable def l__law_tree_1 : SM := (sSeq (sSet 9 (bind2 (mC (.str "n")) (bind2 (mC (.str "abcdefgh")) (mV 7) oIxA) oAddStr))
  (sSeq (sTg (.tp [(.nm 3), (.nm 4)]) (mTup (aCons (bind2 (mV 3) (mFrz (lDisp (aCons (mTup (aCons (mV 9) (aCons (mC (.str "sub")) (aCons (mTup (aCons (bind2 (mV 4) (mC (.int 0)) oIxA) (aCons (bind2 (mV 4) (mC (.int 1)) oIxA) aNil))) aNil)))) aNil))) oAdd) (aCons (bind2 (mFrz (lDisp (aCons (mV 9) aNil))) (mSl (mV 4) (pSome (mC (.int 2))) pNo) oAdd) aNil))))
  sNil))
noncomputable def l__law_tree_2 : SM := (sSeq (sSet 8 (mFrz (mLC (iRg1 (aCons (mC (.int 4)) aNil)) (.nm 14) bYes (mCB nInt (aCons (bind2 (mV 0) (bind2 (bind2 (mC (.int 2)) (bind2 (mC (.int 4)) (mV 7) oMulY) oAdd) (mV 14) oAdd) oIxA) aNil)) [14])))
  (sSeq (sSet 9 (bind2 (mC (.str "m")) (bind2 (mC (.str "abcdefghijklmnopqrstuvwxyz")) (mV 5) oIxA) oAddStr))
  (sSeq (sIf (mB (bind2 (mCB nLen (aCons (mV 4) aNil)) (mC (.int 1)) oEq)) (sSeq sBrk
  sNil) sNil)
  (sSeq (sSet 10 (bind2 (bind2 (mV 8) (mC (.int 0)) oIxA) (mCB nLen (aCons (mV 4) aNil)) oModI))
  (sSeq (sIf (mB (bind2 (bind2 (bind2 (mV 8) (mC (.int 1)) oIxA) (mC (.int 7)) oModI) (mC (.int 0)) oEq)) (sSeq (sTg (.tp [(.nm 3), (.nm 4)]) (mTup (aCons (bind2 (mV 3) (mFrz (lDisp (aCons (mTup (aCons (mV 9) (aCons (bind2 (mFrz (lDisp (aCons (mC (.str "neg")) (aCons (mC (.str "double")) aNil)))) (bind2 (bind2 (mV 8) (mC (.int 2)) oIxA) (mC (.int 2)) oModI) oIxA) (aCons (mTup (aCons (bind2 (mV 4) (mV 10) oIxA) aNil)) aNil)))) aNil))) oAdd) (aCons (bind2 (bind2 (mSl (mV 4) pNo (pSome (mV 10))) (mFrz (lDisp (aCons (mV 9) aNil))) oAdd) (mSl (mV 4) (pSome (bind2 (mV 10) (mC (.int 1)) oAdd)) pNo) oAdd) aNil))))
  sNil) (sSeq (sSet 11 (bind2 (bind2 (bind2 (mV 10) (mC (.int 1)) oAdd) (bind2 (bind2 (mV 8) (mC (.int 2)) oIxA) (bind2 (mCB nLen (aCons (mV 4) aNil)) (mC (.int 1)) oSubI) oModI) oAdd) (mCB nLen (aCons (mV 4) aNil)) oModI))
  (sSeq (sSet 12 (mIf (mB (bind2 (bind2 (bind2 (mV 8) (mC (.int 3)) oIxA) (mC (.int 3)) oModI) (mC (.int 0)) oGtI)) (mV 6) (bind2 (mFrz (lDisp (aCons (mC (.str "sub")) (aCons (mC (.str "add")) (aCons (mC (.str "least")) (aCons (mC (.str "sub")) (aCons (mC (.str "times")) aNil))))))) (bind2 (bind2 (mV 8) (mC (.int 1)) oIxA) (mC (.int 5)) oModI) oIxA)))
  (sSeq (sSet 3 (bind2 (mV 3) (mFrz (lDisp (aCons (mTup (aCons (mV 9) (aCons (mV 12) (aCons (mTup (aCons (bind2 (mV 4) (mV 10) oIxA) (aCons (bind2 (mV 4) (mV 11) oIxA) aNil))) aNil)))) aNil))) oAdd))
  (sSeq (sSet 4 (bind2 (mFrz (mLC (iSeq (mV 4)) (.nm 13) (mB (bind2 (mV 13) (mTup (aCons (bind2 (mV 4) (mV 10) oIxA) (aCons (bind2 (mV 4) (mV 11) oIxA) aNil))) oNin)) (mV 13) [13])) (mFrz (lDisp (aCons (mV 9) aNil))) oAdd))
  sNil)))))
  (sSeq (sSet 5 (bind2 (mV 5) (mC (.int 1)) oAdd))
  sNil))))))
noncomputable def b__law_tree : SM := (sSeq (sSet 2 (bind2 (mC (.int 2)) (bind2 (mCB nInt (aCons (bind2 (mV 0) (mC (.int 0)) oIxA) aNil)) (bind2 (mV 1) (mC (.int 1)) oSubI) oModI) oAdd))
  (sSeq (sSet 3 (mFrz (mLC (iRg1 (aCons (mV 2) aNil)) (.nm 7) bYes (mTup (aCons (bind2 (mC (.str "abcdefgh")) (mV 7) oIxA) (aCons (mC (.str "in")) (aCons (mTup aNil) aNil)))) [7])))
  (sSeq (sTg (.tp [(.nm 4), (.nm 5), (.nm 6)]) (mTup (aCons (mFrz (mLC (iSeq (mV 3)) (.nm 13) bYes (bind2 (mV 13) (mC (.int 0)) oIxA) [13])) (aCons (mC (.int 0)) (aCons (bind2 (mFrz (lDisp (aCons (mC (.str "add")) (aCons (mC (.str "times")) (aCons (mC (.str "least")) (aCons (mC (.str "greatest")) aNil)))))) (bind2 (mCB nInt (aCons (bind2 (mV 0) (mC (.int 1)) oIxA) aNil)) (mC (.int 4)) oModI) oIxA) aNil)))))
  (sSeq (sFor (iRg1 (aCons (bind2 (mC (.int 3)) (mV 2) oMulY) aNil)) (.nm 7) l__law_tree_2)
  (sSeq (sFor (iRg1 (aCons (bind2 (mCB nLen (aCons (mV 4) aNil)) (mC (.int 1)) oSubI) aNil)) (.nm 7) l__law_tree_1)
  (sSeq (sRet (mTup (aCons (mCB nTuple (aCons (mV 3) aNil)) (aCons (mTup (aCons (bind2 (mV 4) (mC (.int 0)) oIxA) aNil)) aNil))))
  sNil))))))
noncomputable def m__law_tree : FM := dM 15 b__law_tree
theorem ok__law_tree (F : Fx w K mg) : Ok P w K mg base (cls K) 1 (He.fAd K ("_law_tree", none)) ["draws", "most"] m__law_tree :=
  Ok.of (N := ["draws", "most", "many", "lines", "parts", "at", "favour", "k", "own", "name", "spot", "other", "word", "one", "j"]) F.f__law_tree ⟨rfl, rfl, rfl, by decide +kernel, rfl, by decide +kernel, by decide +kernel⟩ (fun _ _ _ _ _ _ us hl => match us, hl with | [_, _], _ => rfl) fun _ _ _ _ _ _ hr k =>
  (JSs_cons (ST 2 (BO k.toCOk vAdd (JE_int k.toCOk) (BO k.toCOk vModI (CT k.toCOk cInt F.b_int (AC (IX k.toCOk (vIxA k.toCOk) (VR k.toCOk 0) (JE_int k.toCOk)) JA_nil)) (BO k.toCOk vSubI (VR k.toCOk 1) (JE_int k.toCOk)))))
  (JSs_cons (ST 3 (JE_frz (LC k.toCOk [("k", 7)] (R1 F.b_range (AC (VR k.toCOk 2) JA_nil)) (fun s1 H1 _ _ fp1 => (NM (k.toCOk.blk s1 H1 _ _ fp1) 7)) (fun s1 H1 _ _ fp1 => JTs_nil) (fun s1 H1 _ _ fp1 => (JE_tup (k.toCOk.blk s1 H1 _ _ fp1) (AC (IX (k.toCOk.blk s1 H1 _ _ fp1) (vIxA (k.toCOk.blk s1 H1 _ _ fp1)) (JE_str (k.toCOk.blk s1 H1 _ _ fp1)) (VR (k.toCOk.blk s1 H1 _ _ fp1) 7)) (AC (JE_str (k.toCOk.blk s1 H1 _ _ fp1)) (AC (JE_tup (k.toCOk.blk s1 H1 _ _ fp1) JA_nil) JA_nil))))))))
  (JSs_cons (SG k.toCOk (JE_tup k.toCOk (AC (JE_frz (LC k.toCOk [("one", 13)] (JI_seq (VR k.toCOk 3)) (fun s1 H1 _ _ fp1 => (NM (k.toCOk.blk s1 H1 _ _ fp1) 13)) (fun s1 H1 _ _ fp1 => JTs_nil) (fun s1 H1 _ _ fp1 => (IX (k.toCOk.blk s1 H1 _ _ fp1) (vIxA (k.toCOk.blk s1 H1 _ _ fp1)) (VR (k.toCOk.blk s1 H1 _ _ fp1) 13) (JE_int (k.toCOk.blk s1 H1 _ _ fp1)))))) (AC (JE_int k.toCOk) (AC (IX k.toCOk (vIxA k.toCOk) (JE_frz (JL_disp k.toCOk (AC (JE_str k.toCOk) (AC (JE_str k.toCOk) (AC (JE_str k.toCOk) (AC (JE_str k.toCOk) JA_nil)))))) (BO k.toCOk vModI (CT k.toCOk cInt F.b_int (AC (IX k.toCOk (vIxA k.toCOk) (VR k.toCOk 0) (JE_int k.toCOk)) JA_nil)) (JE_int k.toCOk))) JA_nil)))) (TU k.toCOk (TC (NM k.toCOk 4) (TC (NM k.toCOk 5) (TC (NM k.toCOk 6) JGs_nil)))))
  (JSs_cons (FO k (R1 F.b_range (AC (BO k.toCOk vMulY (JE_int k.toCOk) (VR k.toCOk 2)) JA_nil)) (NM k.toCOk 7) (JSs_cons (ST 8 (JE_frz (LC k.toCOk [("j", 14)] (R1 F.b_range (AC (JE_int k.toCOk) JA_nil)) (fun s1 H1 _ _ fp1 => (NM (k.toCOk.blk s1 H1 _ _ fp1) 14)) (fun s1 H1 _ _ fp1 => JTs_nil) (fun s1 H1 _ _ fp1 => (CT (k.toCOk.blk s1 H1 _ _ fp1) cInt F.b_int (AC (IX (k.toCOk.blk s1 H1 _ _ fp1) (vIxA (k.toCOk.blk s1 H1 _ _ fp1)) (VR (k.toCOk.blk s1 H1 _ _ fp1) 0) (BO (k.toCOk.blk s1 H1 _ _ fp1) vAdd (BO (k.toCOk.blk s1 H1 _ _ fp1) vAdd (JE_int (k.toCOk.blk s1 H1 _ _ fp1)) (BO (k.toCOk.blk s1 H1 _ _ fp1) vMulY (JE_int (k.toCOk.blk s1 H1 _ _ fp1)) (VR (k.toCOk.blk s1 H1 _ _ fp1) 7))) (VR (k.toCOk.blk s1 H1 _ _ fp1) 14))) JA_nil))))))
  (JSs_cons (ST 9 (BO k.toCOk vAddStr (JE_str k.toCOk) (IX k.toCOk (vIxA k.toCOk) (JE_str k.toCOk) (VR k.toCOk 5))))
  (JSs_cons (JS_if (CMT k.toCOk (vEq k.toCOk) (CB k.toCOk cLen F.b_len (AC (VR k.toCOk 4) JA_nil)) (JE_int k.toCOk)) (JSs_cons JS_break
  JSs_nil) JSs_nil)
  (JSs_cons (ST 10 (BO k.toCOk vModI (IX k.toCOk (vIxA k.toCOk) (VR k.toCOk 8) (JE_int k.toCOk)) (CB k.toCOk cLen F.b_len (AC (VR k.toCOk 4) JA_nil))))
  (JSs_cons (JS_if (CMT k.toCOk (vEq k.toCOk) (BO k.toCOk vModI (IX k.toCOk (vIxA k.toCOk) (VR k.toCOk 8) (JE_int k.toCOk)) (JE_int k.toCOk)) (JE_int k.toCOk)) (JSs_cons (SG k.toCOk (JE_tup k.toCOk (AC (BO k.toCOk vAdd (VR k.toCOk 3) (JE_frz (JL_disp k.toCOk (AC (JE_tup k.toCOk (AC (VR k.toCOk 9) (AC (IX k.toCOk (vIxA k.toCOk) (JE_frz (JL_disp k.toCOk (AC (JE_str k.toCOk) (AC (JE_str k.toCOk) JA_nil)))) (BO k.toCOk vModI (IX k.toCOk (vIxA k.toCOk) (VR k.toCOk 8) (JE_int k.toCOk)) (JE_int k.toCOk))) (AC (JE_tup k.toCOk (AC (IX k.toCOk (vIxA k.toCOk) (VR k.toCOk 4) (VR k.toCOk 10)) JA_nil)) JA_nil)))) JA_nil)))) (AC (BO k.toCOk vAdd (BO k.toCOk vAdd (JE_sl k.toCOk (VR k.toCOk 4) JO_no (JO_some (VR k.toCOk 10))) (JE_frz (JL_disp k.toCOk (AC (VR k.toCOk 9) JA_nil)))) (JE_sl k.toCOk (VR k.toCOk 4) (JO_some (BO k.toCOk vAdd (VR k.toCOk 10) (JE_int k.toCOk))) JO_no)) JA_nil))) (TU k.toCOk (TC (NM k.toCOk 3) (TC (NM k.toCOk 4) JGs_nil))))
  JSs_nil) (JSs_cons (ST 11 (BO k.toCOk vModI (BO k.toCOk vAdd (BO k.toCOk vAdd (VR k.toCOk 10) (JE_int k.toCOk)) (BO k.toCOk vModI (IX k.toCOk (vIxA k.toCOk) (VR k.toCOk 8) (JE_int k.toCOk)) (BO k.toCOk vSubI (CB k.toCOk cLen F.b_len (AC (VR k.toCOk 4) JA_nil)) (JE_int k.toCOk)))) (CB k.toCOk cLen F.b_len (AC (VR k.toCOk 4) JA_nil))))
  (JSs_cons (ST 12 (JE_if k.toCOk (CMT k.toCOk vGtI (BO k.toCOk vModI (IX k.toCOk (vIxA k.toCOk) (VR k.toCOk 8) (JE_int k.toCOk)) (JE_int k.toCOk)) (JE_int k.toCOk)) (VR k.toCOk 6) (IX k.toCOk (vIxA k.toCOk) (JE_frz (JL_disp k.toCOk (AC (JE_str k.toCOk) (AC (JE_str k.toCOk) (AC (JE_str k.toCOk) (AC (JE_str k.toCOk) (AC (JE_str k.toCOk) JA_nil))))))) (BO k.toCOk vModI (IX k.toCOk (vIxA k.toCOk) (VR k.toCOk 8) (JE_int k.toCOk)) (JE_int k.toCOk)))))
  (JSs_cons (ST 3 (BO k.toCOk vAdd (VR k.toCOk 3) (JE_frz (JL_disp k.toCOk (AC (JE_tup k.toCOk (AC (VR k.toCOk 9) (AC (VR k.toCOk 12) (AC (JE_tup k.toCOk (AC (IX k.toCOk (vIxA k.toCOk) (VR k.toCOk 4) (VR k.toCOk 10)) (AC (IX k.toCOk (vIxA k.toCOk) (VR k.toCOk 4) (VR k.toCOk 11)) JA_nil))) JA_nil)))) JA_nil)))))
  (JSs_cons (ST 4 (BO k.toCOk vAdd (JE_frz (LC k.toCOk [("one", 13)] (JI_seq (VR k.toCOk 4)) (fun s1 H1 _ _ fp1 => (NM (k.toCOk.blk s1 H1 _ _ fp1) 13)) (fun s1 H1 _ _ fp1 => (JTs_one (CMT (k.toCOk.blk s1 H1 _ _ fp1) (vNin (k.toCOk.blk s1 H1 _ _ fp1)) (VR (k.toCOk.blk s1 H1 _ _ fp1) 13) (JE_tup (k.toCOk.blk s1 H1 _ _ fp1) (AC (IX (k.toCOk.blk s1 H1 _ _ fp1) (vIxA (k.toCOk.blk s1 H1 _ _ fp1)) (VR (k.toCOk.blk s1 H1 _ _ fp1) 4) (VR (k.toCOk.blk s1 H1 _ _ fp1) 10)) (AC (IX (k.toCOk.blk s1 H1 _ _ fp1) (vIxA (k.toCOk.blk s1 H1 _ _ fp1)) (VR (k.toCOk.blk s1 H1 _ _ fp1) 4) (VR (k.toCOk.blk s1 H1 _ _ fp1) 11)) JA_nil)))))) (fun s1 H1 _ _ fp1 => (VR (k.toCOk.blk s1 H1 _ _ fp1) 13)))) (JE_frz (JL_disp k.toCOk (AC (VR k.toCOk 9) JA_nil)))))
  JSs_nil)))))
  (JSs_cons (ST 5 (BO k.toCOk vAdd (VR k.toCOk 5) (JE_int k.toCOk)))
  JSs_nil)))))))
  (JSs_cons (FO k (R1 F.b_range (AC (BO k.toCOk vSubI (CB k.toCOk cLen F.b_len (AC (VR k.toCOk 4) JA_nil)) (JE_int k.toCOk)) JA_nil)) (NM k.toCOk 7) (JSs_cons (ST 9 (BO k.toCOk vAddStr (JE_str k.toCOk) (IX k.toCOk (vIxA k.toCOk) (JE_str k.toCOk) (VR k.toCOk 7))))
  (JSs_cons (SG k.toCOk (JE_tup k.toCOk (AC (BO k.toCOk vAdd (VR k.toCOk 3) (JE_frz (JL_disp k.toCOk (AC (JE_tup k.toCOk (AC (VR k.toCOk 9) (AC (JE_str k.toCOk) (AC (JE_tup k.toCOk (AC (IX k.toCOk (vIxA k.toCOk) (VR k.toCOk 4) (JE_int k.toCOk)) (AC (IX k.toCOk (vIxA k.toCOk) (VR k.toCOk 4) (JE_int k.toCOk)) JA_nil))) JA_nil)))) JA_nil)))) (AC (BO k.toCOk vAdd (JE_frz (JL_disp k.toCOk (AC (VR k.toCOk 9) JA_nil))) (JE_sl k.toCOk (VR k.toCOk 4) (JO_some (JE_int k.toCOk)) JO_no)) JA_nil))) (TU k.toCOk (TC (NM k.toCOk 3) (TC (NM k.toCOk 4) JGs_nil))))
  JSs_nil)))
  (JSs_cons (JS_ret (JE_tup k.toCOk (AC (CT k.toCOk cTuple F.b_tuple (AC (VR k.toCOk 3) JA_nil)) (AC (JE_tup k.toCOk (AC (IX k.toCOk (vIxA k.toCOk) (VR k.toCOk 4) (JE_int k.toCOk)) JA_nil)) JA_nil))))
  JSs_nil))))))
noncomputable def l__law_turned_1 : SM := (sSeq (sIf (mB (bind2 (bind2 (mV 9) (mC (.int 0)) oIxA) (mV 3) oEq)) (sSeq (sSet 8 (bind2 (mV 8) (mTup (aCons (mTup (aCons (bind2 (mV 6) (mC (.int 0)) oIxA) (aCons (mV 4) (aCons (mTup (aCons (bind2 (mV 5) (mC (.int 0)) oIxA) (aCons (bind2 (bind2 (mV 6) (mC (.int 2)) oIxA) (mC (.int 0)) oIxA) aNil))) aNil)))) (aCons (mTup (aCons (mV 3) (aCons (mV 4) (aCons (mTup (aCons (bind2 (mV 6) (mC (.int 0)) oIxA) (aCons (bind2 (bind2 (mV 6) (mC (.int 2)) oIxA) (mC (.int 1)) oIxA) aNil))) aNil)))) aNil))) oAdd))
  sNil) (sSeq (sIf (mB (bind2 (bind2 (mV 9) (mC (.int 0)) oIxA) (bind2 (mV 6) (mC (.int 0)) oIxA) oNe)) (sSeq (sSet 8 (bind2 (mV 8) (mTup (aCons (mV 9) aNil)) oAdd))
  sNil) sNil)
  sNil))
  sNil)
noncomputable def b__law_turned : SM := (sSeq (sSet 2 (mCB nDict (aCons (mFrz (mLC (iSeq (bind2 (mV 0) (mC (.int 0)) oIxA)) (.nm 9) bYes (mTup (aCons (bind2 (mV 9) (mC (.int 0)) oIxA) (aCons (mV 9) aNil))) [9])) aNil)))
  (sSeq (sIf (bOr (mB (bind2 (bind2 (mV 1) (mC (.int 1)) oIxA) (mV 2) oNin)) (mB (bind2 (bind2 (bind2 (mV 2) (bind2 (mV 1) (mC (.int 1)) oIxA) oIxA) (mC (.int 1)) oIxA) (mTup (aCons (mC (.str "add")) (aCons (mC (.str "times")) (aCons (mC (.str "least")) (aCons (mC (.str "greatest")) aNil))))) oNin))) (sSeq (sRet (mC .none))
  sNil) sNil)
  (sSeq (sTg (.tp [(.nm 3), (.nm 4), (.nm 5)]) (bind2 (mV 2) (bind2 (mV 1) (mC (.int 1)) oIxA) oIxA))
  (sSeq (sIf (mB (bind2 (bind2 (mV 1) (mC (.int 0)) oIxA) (mC (.str "swap")) oEq)) (sSeq (sRet (mTup (aCons (mCB nTuple (aCons (mFrz (mLC (iSeq (bind2 (mV 0) (mC (.int 0)) oIxA)) (.nm 9) bYes (mIf (mB (bind2 (bind2 (mV 9) (mC (.int 0)) oIxA) (mV 3) oEq)) (mTup (aCons (mV 3) (aCons (mV 4) (aCons (mRev (mV 5)) aNil)))) (mV 9)) [9])) aNil)) (aCons (bind2 (mV 0) (mC (.int 1)) oIxA) aNil))))
  sNil) sNil)
  (sSeq (sSet 6 (bind2 (mV 2) (bind2 (mV 5) (mC (.int 1)) oIxA) oIxA))
  (sSeq (sSet 7 (bind2 (mCB nSum (aCons (mFrz (mLC (iSeq (bind2 (mV 0) (mC (.int 0)) oIxA)) (.nm 9) bYes (mBM "tuple" oCountT (bind2 (mV 9) (mC (.int 2)) oIxA) (aCons (bind2 (mV 6) (mC (.int 0)) oIxA) aNil)) [9])) aNil)) (mBM "tuple" oCountT (bind2 (mV 0) (mC (.int 1)) oIxA) (aCons (bind2 (mV 6) (mC (.int 0)) oIxA) aNil)) oAdd))
  (sSeq (sIf (bOr (mB (bind2 (bind2 (mV 6) (mC (.int 1)) oIxA) (mV 4) oNe)) (mB (bind2 (mV 7) (mC (.int 1)) oNe))) (sSeq (sRet (mC .none))
  sNil) sNil)
  (sSeq (sSet 8 (mTup aNil))
  (sSeq (sFor (iSeq (bind2 (mV 0) (mC (.int 0)) oIxA)) (.nm 9) l__law_turned_1)
  (sSeq (sRet (mTup (aCons (mV 8) (aCons (bind2 (mV 0) (mC (.int 1)) oIxA) aNil))))
  sNil))))))))))
noncomputable def m__law_turned : FM := dM 10 b__law_turned
theorem ok__law_turned (F : Fx w K mg) : Ok P w K mg base (cls K) 1 (He.fAd K ("_law_turned", none)) ["text", "step"] m__law_turned :=
  Ok.of (N := ["text", "step", "lines", "name", "word", "needs", "inner", "used", "found", "one"]) F.f__law_turned ⟨rfl, rfl, rfl, by decide +kernel, rfl, by decide +kernel, by decide +kernel⟩ (fun _ _ _ _ _ _ us hl => match us, hl with | [_, _], _ => rfl) fun _ _ _ _ _ _ hr k =>
  (JSs_cons (ST 2 (CT k.toCOk (cDict k.toCOk) F.b_dict (AC (JE_frz (LC k.toCOk [("one", 9)] (JI_seq (IX k.toCOk (vIxA k.toCOk) (VR k.toCOk 0) (JE_int k.toCOk))) (fun s1 H1 _ _ fp1 => (NM (k.toCOk.blk s1 H1 _ _ fp1) 9)) (fun s1 H1 _ _ fp1 => JTs_nil) (fun s1 H1 _ _ fp1 => (JE_tup (k.toCOk.blk s1 H1 _ _ fp1) (AC (IX (k.toCOk.blk s1 H1 _ _ fp1) (vIxA (k.toCOk.blk s1 H1 _ _ fp1)) (VR (k.toCOk.blk s1 H1 _ _ fp1) 9) (JE_int (k.toCOk.blk s1 H1 _ _ fp1))) (AC (VR (k.toCOk.blk s1 H1 _ _ fp1) 9) JA_nil)))))) JA_nil)))
  (JSs_cons (JS_if (JW.t (JW_or (CMT k.toCOk (vNin k.toCOk) (IX k.toCOk (vIxA k.toCOk) (VR k.toCOk 1) (JE_int k.toCOk)) (VR k.toCOk 2)) (JW_or1 (CMT k.toCOk (vNin k.toCOk) (IX k.toCOk (vIxA k.toCOk) (IX k.toCOk (vIxA k.toCOk) (VR k.toCOk 2) (IX k.toCOk (vIxA k.toCOk) (VR k.toCOk 1) (JE_int k.toCOk))) (JE_int k.toCOk)) (JE_tup k.toCOk (AC (JE_str k.toCOk) (AC (JE_str k.toCOk) (AC (JE_str k.toCOk) (AC (JE_str k.toCOk) JA_nil))))))))) (JSs_cons (JS_ret (JE_non k.toCOk))
  JSs_nil) JSs_nil)
  (JSs_cons (SG k.toCOk (IX k.toCOk (vIxA k.toCOk) (VR k.toCOk 2) (IX k.toCOk (vIxA k.toCOk) (VR k.toCOk 1) (JE_int k.toCOk))) (TU k.toCOk (TC (NM k.toCOk 3) (TC (NM k.toCOk 4) (TC (NM k.toCOk 5) JGs_nil)))))
  (JSs_cons (JS_if (CMT k.toCOk (vEq k.toCOk) (IX k.toCOk (vIxA k.toCOk) (VR k.toCOk 1) (JE_int k.toCOk)) (JE_str k.toCOk)) (JSs_cons (JS_ret (JE_tup k.toCOk (AC (CT k.toCOk cTuple F.b_tuple (AC (JE_frz (LC k.toCOk [("one", 9)] (JI_seq (IX k.toCOk (vIxA k.toCOk) (VR k.toCOk 0) (JE_int k.toCOk))) (fun s1 H1 _ _ fp1 => (NM (k.toCOk.blk s1 H1 _ _ fp1) 9)) (fun s1 H1 _ _ fp1 => JTs_nil) (fun s1 H1 _ _ fp1 => (JE_if (k.toCOk.blk s1 H1 _ _ fp1) (CMT (k.toCOk.blk s1 H1 _ _ fp1) (vEq (k.toCOk.blk s1 H1 _ _ fp1)) (IX (k.toCOk.blk s1 H1 _ _ fp1) (vIxA (k.toCOk.blk s1 H1 _ _ fp1)) (VR (k.toCOk.blk s1 H1 _ _ fp1) 9) (JE_int (k.toCOk.blk s1 H1 _ _ fp1))) (VR (k.toCOk.blk s1 H1 _ _ fp1) 3)) (JE_tup (k.toCOk.blk s1 H1 _ _ fp1) (AC (VR (k.toCOk.blk s1 H1 _ _ fp1) 3) (AC (VR (k.toCOk.blk s1 H1 _ _ fp1) 4) (AC (JE_rev (k.toCOk.blk s1 H1 _ _ fp1) (VR (k.toCOk.blk s1 H1 _ _ fp1) 5)) JA_nil)))) (VR (k.toCOk.blk s1 H1 _ _ fp1) 9))))) JA_nil)) (AC (IX k.toCOk (vIxA k.toCOk) (VR k.toCOk 0) (JE_int k.toCOk)) JA_nil))))
  JSs_nil) JSs_nil)
  (JSs_cons (ST 6 (IX k.toCOk (vIxA k.toCOk) (VR k.toCOk 2) (IX k.toCOk (vIxA k.toCOk) (VR k.toCOk 5) (JE_int k.toCOk))))
  (JSs_cons (ST 7 (BO k.toCOk vAdd (CB k.toCOk (cSum k.toCOk) F.b_sum (AC (JE_frz (LC k.toCOk [("one", 9)] (JI_seq (IX k.toCOk (vIxA k.toCOk) (VR k.toCOk 0) (JE_int k.toCOk))) (fun s1 H1 _ _ fp1 => (NM (k.toCOk.blk s1 H1 _ _ fp1) 9)) (fun s1 H1 _ _ fp1 => JTs_nil) (fun s1 H1 _ _ fp1 => (MB (k.toCOk.blk s1 H1 _ _ fp1) PySem.F.plainAttrs_tuple PySem.F.slot_tuple_count (tCountT (k.toCOk.blk s1 H1 _ _ fp1)) (IX (k.toCOk.blk s1 H1 _ _ fp1) (vIxA (k.toCOk.blk s1 H1 _ _ fp1)) (VR (k.toCOk.blk s1 H1 _ _ fp1) 9) (JE_int (k.toCOk.blk s1 H1 _ _ fp1))) (AC (IX (k.toCOk.blk s1 H1 _ _ fp1) (vIxA (k.toCOk.blk s1 H1 _ _ fp1)) (VR (k.toCOk.blk s1 H1 _ _ fp1) 6) (JE_int (k.toCOk.blk s1 H1 _ _ fp1))) JA_nil))))) JA_nil)) (MB k.toCOk PySem.F.plainAttrs_tuple PySem.F.slot_tuple_count (tCountT k.toCOk) (IX k.toCOk (vIxA k.toCOk) (VR k.toCOk 0) (JE_int k.toCOk)) (AC (IX k.toCOk (vIxA k.toCOk) (VR k.toCOk 6) (JE_int k.toCOk)) JA_nil))))
  (JSs_cons (JS_if (JW.t (JW_or (CMT k.toCOk (vNe k.toCOk) (IX k.toCOk (vIxA k.toCOk) (VR k.toCOk 6) (JE_int k.toCOk)) (VR k.toCOk 4)) (JW_or1 (CMT k.toCOk (vNe k.toCOk) (VR k.toCOk 7) (JE_int k.toCOk))))) (JSs_cons (JS_ret (JE_non k.toCOk))
  JSs_nil) JSs_nil)
  (JSs_cons (ST 8 (JE_tup k.toCOk JA_nil))
  (JSs_cons (FO k (JI_seq (IX k.toCOk (vIxA k.toCOk) (VR k.toCOk 0) (JE_int k.toCOk))) (NM k.toCOk 9) (JSs_cons (JS_if (CMT k.toCOk (vEq k.toCOk) (IX k.toCOk (vIxA k.toCOk) (VR k.toCOk 9) (JE_int k.toCOk)) (VR k.toCOk 3)) (JSs_cons (ST 8 (BO k.toCOk vAdd (VR k.toCOk 8) (JE_tup k.toCOk (AC (JE_tup k.toCOk (AC (IX k.toCOk (vIxA k.toCOk) (VR k.toCOk 6) (JE_int k.toCOk)) (AC (VR k.toCOk 4) (AC (JE_tup k.toCOk (AC (IX k.toCOk (vIxA k.toCOk) (VR k.toCOk 5) (JE_int k.toCOk)) (AC (IX k.toCOk (vIxA k.toCOk) (IX k.toCOk (vIxA k.toCOk) (VR k.toCOk 6) (JE_int k.toCOk)) (JE_int k.toCOk)) JA_nil))) JA_nil)))) (AC (JE_tup k.toCOk (AC (VR k.toCOk 3) (AC (VR k.toCOk 4) (AC (JE_tup k.toCOk (AC (IX k.toCOk (vIxA k.toCOk) (VR k.toCOk 6) (JE_int k.toCOk)) (AC (IX k.toCOk (vIxA k.toCOk) (IX k.toCOk (vIxA k.toCOk) (VR k.toCOk 6) (JE_int k.toCOk)) (JE_int k.toCOk)) JA_nil))) JA_nil)))) JA_nil)))))
  JSs_nil) (JSs_cons (JS_if (CMT k.toCOk (vNe k.toCOk) (IX k.toCOk (vIxA k.toCOk) (VR k.toCOk 9) (JE_int k.toCOk)) (IX k.toCOk (vIxA k.toCOk) (VR k.toCOk 6) (JE_int k.toCOk))) (JSs_cons (ST 8 (BO k.toCOk vAdd (VR k.toCOk 8) (JE_tup k.toCOk (AC (VR k.toCOk 9) JA_nil))))
  JSs_nil) JSs_nil)
  JSs_nil))
  JSs_nil))
  (JSs_cons (JS_ret (JE_tup k.toCOk (AC (VR k.toCOk 8) (AC (IX k.toCOk (vIxA k.toCOk) (VR k.toCOk 0) (JE_int k.toCOk)) JA_nil))))
  JSs_nil))))))))))
noncomputable def l__law_fault_1 : SM := (sSeq (sSet 0 (mCall 2 m__law_turned (aCons (mV 0) (aCons (bind2 (mV 1) (mV 3) oIxA) aNil))))
  (sSeq (sIf (mB (bind2 (mV 0) (mC .none) (isNone false))) (sSeq (sRet (mTup (aCons (mC (.str "step")) (aCons (mV 3) aNil))))
  sNil) sNil)
  sNil))
noncomputable def l__law_fault_2 : SM := (sSeq (sIf (bOr (bNot (mTru (mIsi "tuple" (mV 2)))) (bOr (mB (bind2 (mCB nLen (aCons (mV 2) aNil)) (mC (.int 2)) oNe)) (bOr (bNot (mTru (mIsi "str" (bind2 (mV 2) (mC (.int 0)) oIxA)))) (bOr (mB (bind2 (bind2 (mV 2) (mC (.int 0)) oIxA) (mTup (aCons (mC (.str "swap")) (aCons (mC (.str "left")) aNil))) oNin)) (bNot (mTru (mIsi "str" (bind2 (mV 2) (mC (.int 1)) oIxA)))))))) (sSeq (sRet (mTup (aCons (mC (.str "form")) aNil)))
  sNil) sNil)
  sNil)
noncomputable def b__law_fault : SM := (sSeq (sIf (bOr (bNot (mTru (mIsi "tuple" (mV 1)))) (mB (bind2 (mCB nLen (aCons (mV 1) aNil)) (mC (.int 5000)) oGtI))) (sSeq (sRet (mTup (aCons (mC (.str "form")) aNil)))
  sNil) sNil)
  (sSeq (sFor (iSeq (mV 1)) (.nm 2) l__law_fault_2)
  (sSeq (sFor (iRg1 (aCons (mCB nLen (aCons (mV 1) aNil)) aNil)) (.nm 3) l__law_fault_1)
  (sSeq (sRet (mC .none))
  sNil))))
noncomputable def m__law_fault : FM := dM 4 b__law_fault
theorem ok__law_fault (F : Fx w K mg) : Ok P w K mg base (cls K) 2 (He.fAd K ("_law_fault", none)) ["text", "value"] m__law_fault :=
  Ok.of (N := ["text", "value", "one", "k"]) F.f__law_fault ⟨rfl, rfl, rfl, by decide +kernel, rfl, by decide +kernel, by decide +kernel⟩ (fun _ _ _ _ _ _ us hl => match us, hl with | [_, _], _ => rfl) fun _ _ _ _ _ _ hr k =>
  (JSs_cons (JS_if (JW.t (JW_or (JT_not (TR (ISI k.toCOk "tuple" F.b_isinstance F.b_tuple (VR k.toCOk 1)))) (JW_or1 (CMT k.toCOk vGtI (CB k.toCOk cLen F.b_len (AC (VR k.toCOk 1) JA_nil)) (JE_int k.toCOk))))) (JSs_cons (JS_ret (JE_tup k.toCOk (AC (JE_str k.toCOk) JA_nil)))
  JSs_nil) JSs_nil)
  (JSs_cons (FO k (JI_seq (VR k.toCOk 1)) (NM k.toCOk 2) (JSs_cons (JS_if (JW.t (JW_or (JT_not (TR (ISI k.toCOk "tuple" F.b_isinstance F.b_tuple (VR k.toCOk 2)))) (JW_or (CMT k.toCOk (vNe k.toCOk) (CB k.toCOk cLen F.b_len (AC (VR k.toCOk 2) JA_nil)) (JE_int k.toCOk)) (JW_or (JT_not (TR (ISI k.toCOk "str" F.b_isinstance F.b_str (IX k.toCOk (vIxA k.toCOk) (VR k.toCOk 2) (JE_int k.toCOk))))) (JW_or (CMT k.toCOk (vNin k.toCOk) (IX k.toCOk (vIxA k.toCOk) (VR k.toCOk 2) (JE_int k.toCOk)) (JE_tup k.toCOk (AC (JE_str k.toCOk) (AC (JE_str k.toCOk) JA_nil)))) (JW_or1 (JT_not (TR (ISI k.toCOk "str" F.b_isinstance F.b_str (IX k.toCOk (vIxA k.toCOk) (VR k.toCOk 2) (JE_int k.toCOk))))))))))) (JSs_cons (JS_ret (JE_tup k.toCOk (AC (JE_str k.toCOk) JA_nil)))
  JSs_nil) JSs_nil)
  JSs_nil))
  (JSs_cons (FO k (R1 F.b_range (AC (CB k.toCOk cLen F.b_len (AC (VR k.toCOk 1) JA_nil)) JA_nil)) (NM k.toCOk 3) (JSs_cons (ST 0 (CL k.toCOk hr (ok__law_turned F) F.g__law_turned (AC (VR k.toCOk 0) (AC (IX k.toCOk (vIxA k.toCOk) (VR k.toCOk 1) (VR k.toCOk 3)) JA_nil))))
  (JSs_cons (JS_if (CMT k.toCOk vIs (VR k.toCOk 0) (JE_non k.toCOk)) (JSs_cons (JS_ret (JE_tup k.toCOk (AC (JE_str k.toCOk) (AC (VR k.toCOk 3) JA_nil))))
  JSs_nil) JSs_nil)
  JSs_nil)))
  (JSs_cons (JS_ret (JE_non k.toCOk))
  JSs_nil))))
noncomputable def b__law_error : SM := (sSeq (sTry [(1, "making"), (3, "steps"), (2, "tree")] (grd [1, 2, 3] (sSeq (sIf (mB (bind2 (mV 0) (mC (.int 0)) oEq)) (sSeq (sExpr (mCall 2 m_turns_fault (aCons (mV 1) (aCons (mV 2) aNil))))
  sNil) (sSeq (sIf (mB (bind2 (mV 0) (mC (.int 1)) oEq)) (sSeq (sExpr (mCall 2 m_turned (aCons (mV 1) (aCons (mV 2) aNil))))
  sNil) (sSeq (sIf (mB (bind2 (mV 0) (mC (.int 2)) oEq)) (sSeq (sExpr (mCall 1 m_best_turns (aCons (mV 1) aNil)))
  sNil) (sSeq (sExpr (mCall 1 m_turned_places (aCons (mV 1) aNil)))
  sNil))
  sNil))
  sNil))
  sNil)))
  (sSeq (sRet (mC (.str "none")))
  sNil))
noncomputable def m__law_error : FM := dM 3 b__law_error
theorem ok__law_error (F : Fx w K mg) : Ok P w K mg base (cls K) 9 (He.fAd K ("_law_error", none)) ["call", "one", "two"] m__law_error :=
  Ok.of (N := ["call", "one", "two"]) F.f__law_error ⟨rfl, rfl, rfl, by decide +kernel, rfl, by decide +kernel, by decide +kernel⟩ (fun _ _ _ _ _ _ us hl => match us, hl with | [_, _, _], _ => rfl) fun _ _ _ _ _ _ hr k =>
  (JSs_cons (TZ [1, 2, 3] F.em (fun pn xe hp => (JSs_cons (JS_if (CMT (k.toCOk.tr pn xe) (vEq (k.toCOk.tr pn xe)) (VR (k.toCOk.tr pn xe) 0) (JE_int (k.toCOk.tr pn xe))) (JSs_cons (XP (CL (k.toCOk.tr pn xe) hr (ok_turns_fault F) F.g_turns_fault (AC (VR (k.toCOk.tr pn xe) 1) (AC (VR (k.toCOk.tr pn xe) 2) JA_nil))))
  JSs_nil) (JSs_cons (JS_if (CMT (k.toCOk.tr pn xe) (vEq (k.toCOk.tr pn xe)) (VR (k.toCOk.tr pn xe) 0) (JE_int (k.toCOk.tr pn xe))) (JSs_cons (XP (CL (k.toCOk.tr pn xe) hr (ok_turned F) F.g_turned (AC (VR (k.toCOk.tr pn xe) 1) (AC (VR (k.toCOk.tr pn xe) 2) JA_nil))))
  JSs_nil) (JSs_cons (JS_if (CMT (k.toCOk.tr pn xe) (vEq (k.toCOk.tr pn xe)) (VR (k.toCOk.tr pn xe) 0) (JE_int (k.toCOk.tr pn xe))) (JSs_cons (XP (CL (k.toCOk.tr pn xe) hr (ok_best_turns F) F.g_best_turns (AC (VR (k.toCOk.tr pn xe) 1) JA_nil)))
  JSs_nil) (JSs_cons (XP (CL (k.toCOk.tr pn xe) hr (ok_turned_places F) F.g_turned_places (AC (VR (k.toCOk.tr pn xe) 1) JA_nil)))
  JSs_nil))
  JSs_nil))
  JSs_nil))
  JSs_nil)) (HE F.x_BadMaking (HE F.x_BadSteps (HE F.x_BadTree Hds.nil))))
  (JSs_cons (JS_ret (JE_str k.toCOk))
  JSs_nil))
noncomputable def l_law_1 : SM := (sSeq (sIf (mB (bind2 (mCall 2 m_turns_fault (aCons (mV 3) (aCons (mV 14) aNil))) (mCall 2 m__law_fault (aCons (mV 3) (aCons (mV 14) aNil))) oNe)) (sSeq (sRet (mC (.bool false)))
  sNil) sNil)
  sNil)
noncomputable def l_law_2 : SM := (sSeq (sSet 15 (mCall 2 m__law_fault (aCons (mV 3) (aCons (mV 14) aNil))))
  (sSeq (sIf (bOr (mB (bind2 (mCall 2 m_turns_fault (aCons (mV 3) (aCons (mV 14) aNil))) (mV 15) oNe)) (mB (bind2 (mCall 3 m__law_error (aCons (mC (.int 1)) (aCons (mV 3) (aCons (mV 14) aNil)))) (mIf (mB (bind2 (mV 15) (mC .none) (isNone false))) (mC (.str "none")) (mC (.str "steps"))) oNe))) (sSeq (sRet (mC (.bool false)))
  sNil) sNil)
  sNil))
noncomputable def l_law_3 : SM := (sSeq (sFor (iSeq (mTup (aCons (bind2 (bind2 (mSl (mV 6) pNo (pSome (mV 11))) (mTup (aCons (mV 13) aNil)) oAdd) (mSl (mV 6) (pSome (mV 11)) pNo) oAdd) (aCons (mTup (aCons (mV 13) aNil)) aNil)))) (.nm 14) l_law_2)
  sNil)
noncomputable def l_law_4 : SM := (sSeq (sSet 8 (mFrz (mLC (iRg1 (aCons (mC (.int 2)) aNil)) (.nm 18) bYes (mCB nInt (aCons (bind2 (mV 1) (bind2 (bind2 (bind2 (bind2 (mC (.int 220)) (bind2 (mC (.int 3)) (mV 7) oMulY) oAdd) (mV 18) oAdd) (bind2 (mC (.int 29)) (mV 2) oMulY) oAdd) (mC (.int 400)) oModI) oIxA) aNil)) [18])))
  (sSeq (sSet 9 (mTup (aCons (bind2 (mFrz (lDisp (aCons (mC (.str "swap")) (aCons (mC (.str "left")) aNil)))) (bind2 (bind2 (mV 8) (mC (.int 0)) oIxA) (mC (.int 2)) oModI) oIxA) (aCons (bind2 (mV 4) (bind2 (bind2 (mV 8) (mC (.int 1)) oIxA) (mCB nLen (aCons (mV 4) aNil)) oModI) oIxA) aNil))))
  (sSeq (sSet 10 (mCall 2 m__law_turned (aCons (mV 5) (aCons (mV 9) aNil))))
  (sSeq (sIf (mB (bind2 (mV 10) (mC .none) (isNone true))) (sSeq (sPar [5, 6] (aCons (mV 10) (aCons (bind2 (mV 6) (mTup (aCons (mV 9) aNil)) oAdd) aNil)))
  (sSeq (sIf (bOr (mB (bind2 (mCall 2 m_turned (aCons (mV 3) (aCons (mV 6) aNil))) (mV 5) oNe)) (mB (bind2 (mCall 1 m_text_fault (aCons (mV 5) aNil)) (mC .none) (isNone true)))) (sSeq (sRet (mC (.bool false)))
  sNil) sNil)
  sNil)) sNil)
  sNil))))
noncomputable def l_law_5 : SM := (sSeq (sSet 3 (mIf (mB (bind2 (mV 2) (mC (.int 3)) oLt)) (mCall 2 m__law_tree (aCons (mSl (mV 1) (pSome (bind2 (mC (.int 40)) (mV 2) oMulY)) pNo) (aCons (mC (.int 6)) aNil))) (mCall 2 m__law_text (aCons (mSl (mV 1) (pSome (bind2 (mC (.int 40)) (mV 2) oMulY)) pNo) (aCons (mC (.int 9)) aNil)))))
  (sSeq (sPar [4, 5, 6] (aCons (mFrz (mLC (iSeq (bind2 (mV 3) (mC (.int 0)) oIxA)) (.nm 17) bYes (bind2 (mV 17) (mC (.int 0)) oIxA) [17])) (aCons (mV 3) (aCons (mTup aNil) aNil))))
  (sSeq (sFor (iRg1 (aCons (mC (.int 8)) aNil)) (.nm 7) l_law_4)
  (sSeq (sSet 11 (bind2 (mCB nInt (aCons (bind2 (mV 1) (bind2 (mC (.int 300)) (mV 2) oAdd) oIxA) aNil)) (bind2 (mCB nLen (aCons (mV 6) aNil)) (mC (.int 1)) oAdd) oModI))
  (sSeq (sSet 12 (mFrz (lDisp (aCons (mC .none) (aCons (mTup aNil) (aCons (mTup (aCons (mC (.str "swap")) aNil)) (aCons (mTup (aCons (mC (.str "left")) (aCons (bind2 (mV 4) (mC (.int 0)) oIxA) aNil))) (aCons (mTup (aCons (mC (.str "swap")) (aCons (bind2 (mV 4) (mC (.int 0)) oIxA) aNil))) (aCons (mTup (aCons (mC (.str "left")) (aCons (mC (.str "q")) aNil))) (aCons (mTup (aCons (mC (.str "up")) (aCons (bind2 (mV 4) (mNeg (mC (.int 1))) oIxA) aNil))) (aCons (mFrz (lDisp (aCons (mC (.str "swap")) (aCons (bind2 (mV 4) (mNeg (mC (.int 1))) oIxA) aNil)))) (aCons (mTup (aCons (mC (.str "swap")) (aCons (mC (.int 5)) aNil))) (aCons (mTup (aCons (mC (.str "left")) (aCons (bind2 (mV 4) (mNeg (mC (.int 1))) oIxA) aNil))) aNil)))))))))))))
  (sSeq (sFor (iSeq (mV 12)) (.nm 13) l_law_3)
  (sSeq (sFor (iSeq (mTup (aCons (mV 6) (aCons (mRev (mV 6)) (aCons (mC .none) (aCons (mFrz (lList (mV 6))) aNil)))))) (.nm 14) l_law_1)
  sNil)))))))
noncomputable def b_law : SM := (sSeq (sSet 1 (mCall 2 m__law_draws (aCons (mV 0) (aCons (mC (.int 400)) aNil))))
  (sSeq (sFor (iRg1 (aCons (mC (.int 5)) aNil)) (.nm 2) l_law_5)
  (sSeq (sSet 16 (mTup (aCons (mTup (aCons (mC (.str "a")) (aCons (mC (.str "in")) (aCons (mTup aNil) aNil)))) (aCons (mTup (aCons (mC (.str "b")) (aCons (mC (.str "neg")) (aCons (mTup (aCons (mC (.str "a")) aNil)) aNil)))) (aCons (mTup (aCons (mC (.str "c")) (aCons (mC (.str "add")) (aCons (mTup (aCons (mC (.str "b")) (aCons (mC (.str "b")) aNil))) aNil)))) aNil)))))
  (sSeq (sIf (bOr (mB (bind2 (mFrz (mLC (iSeq (mTup (aCons (mC (.int 2)) (aCons (mC (.int 3)) aNil)))) (.nm 19) bYes (mCall 3 m__law_error (aCons (mV 19) (aCons (mTup (aCons (mV 16) (aCons (mTup (aCons (mC (.str "c")) aNil)) aNil))) (aCons (mC .none) aNil)))) [19])) (mFrz (lRep (mFrz (lDisp (aCons (mC (.str "tree")) aNil))) (mC (.int 2)))) oNe)) (mB (bind2 (mFrz (mLC (iSeq (mTup (aCons (mC (.int 2)) (aCons (mC (.int 3)) aNil)))) (.nm 19) bYes (mCall 3 m__law_error (aCons (mV 19) (aCons (mTup (aCons (mV 16) (aCons (mTup (aCons (mC (.str "b")) (aCons (mC (.str "c")) aNil))) aNil))) (aCons (mC .none) aNil)))) [19])) (mFrz (lRep (mFrz (lDisp (aCons (mC (.str "tree")) aNil))) (mC (.int 2)))) oNe))) (sSeq (sRet (mC (.bool false)))
  sNil) sNil)
  (sSeq (sRet (bind2 (mFrz (mLC (iSeq (mTup (aCons (mTup (aCons (mC (.int 0)) (aCons (mC .none) aNil))) (aCons (mTup (aCons (mC (.int 1)) (aCons (mTup aNil) aNil))) (aCons (mTup (aCons (mC (.int 2)) (aCons (mC .none) aNil))) (aCons (mTup (aCons (mC (.int 3)) (aCons (mTup aNil) aNil))) aNil)))))) (.tp [(.nm 19), (.nm 13)]) bYes (mCall 3 m__law_error (aCons (mV 19) (aCons (mV 13) (aCons (mC .none) aNil)))) [19, 13])) (mFrz (lRep (mFrz (lDisp (aCons (mC (.str "making")) aNil))) (mC (.int 4)))) oEq))
  sNil)))))
noncomputable def m_law : FM := dM 20 b_law
theorem ok_law (F : Fx w K mg) : Ok P w K mg base (cls K) 10 (He.fAd K ("law", none)) ["script"] m_law :=
  Ok.of (N := ["script", "draws", "turn", "text", "names", "here", "steps", "k", "own", "step", "later", "at", "wrongs", "wrong", "value", "fault", "lines", "one", "j", "call"]) F.f_law ⟨rfl, rfl, rfl, by decide +kernel, rfl, by decide +kernel, by decide +kernel⟩ (fun _ _ _ _ _ _ us hl => match us, hl with | [_], _ => rfl) fun _ _ _ _ _ _ hr k =>
  (JSs_cons (ST 1 (CL k.toCOk hr (ok__law_draws F) F.g__law_draws (AC (VR k.toCOk 0) (AC (JE_int k.toCOk) JA_nil))))
  (JSs_cons (FO k (R1 F.b_range (AC (JE_int k.toCOk) JA_nil)) (NM k.toCOk 2) (JSs_cons (ST 3 (JE_if k.toCOk (CMT k.toCOk (vLt k.toCOk) (VR k.toCOk 2) (JE_int k.toCOk)) (CL k.toCOk hr (ok__law_tree F) F.g__law_tree (AC (JE_sl k.toCOk (VR k.toCOk 1) (JO_some (BO k.toCOk vMulY (JE_int k.toCOk) (VR k.toCOk 2))) JO_no) (AC (JE_int k.toCOk) JA_nil))) (CL k.toCOk hr (ok__law_text F) F.g__law_text (AC (JE_sl k.toCOk (VR k.toCOk 1) (JO_some (BO k.toCOk vMulY (JE_int k.toCOk) (VR k.toCOk 2))) JO_no) (AC (JE_int k.toCOk) JA_nil)))))
  (JSs_cons (P3 k.toCOk 4 5 6 (AC (JE_frz (LC k.toCOk [("one", 17)] (JI_seq (IX k.toCOk (vIxA k.toCOk) (VR k.toCOk 3) (JE_int k.toCOk))) (fun s1 H1 _ _ fp1 => (NM (k.toCOk.blk s1 H1 _ _ fp1) 17)) (fun s1 H1 _ _ fp1 => JTs_nil) (fun s1 H1 _ _ fp1 => (IX (k.toCOk.blk s1 H1 _ _ fp1) (vIxA (k.toCOk.blk s1 H1 _ _ fp1)) (VR (k.toCOk.blk s1 H1 _ _ fp1) 17) (JE_int (k.toCOk.blk s1 H1 _ _ fp1)))))) (AC (VR k.toCOk 3) (AC (JE_tup k.toCOk JA_nil) JA_nil))))
  (JSs_cons (FO k (R1 F.b_range (AC (JE_int k.toCOk) JA_nil)) (NM k.toCOk 7) (JSs_cons (ST 8 (JE_frz (LC k.toCOk [("j", 18)] (R1 F.b_range (AC (JE_int k.toCOk) JA_nil)) (fun s1 H1 _ _ fp1 => (NM (k.toCOk.blk s1 H1 _ _ fp1) 18)) (fun s1 H1 _ _ fp1 => JTs_nil) (fun s1 H1 _ _ fp1 => (CT (k.toCOk.blk s1 H1 _ _ fp1) cInt F.b_int (AC (IX (k.toCOk.blk s1 H1 _ _ fp1) (vIxA (k.toCOk.blk s1 H1 _ _ fp1)) (VR (k.toCOk.blk s1 H1 _ _ fp1) 1) (BO (k.toCOk.blk s1 H1 _ _ fp1) vModI (BO (k.toCOk.blk s1 H1 _ _ fp1) vAdd (BO (k.toCOk.blk s1 H1 _ _ fp1) vAdd (BO (k.toCOk.blk s1 H1 _ _ fp1) vAdd (JE_int (k.toCOk.blk s1 H1 _ _ fp1)) (BO (k.toCOk.blk s1 H1 _ _ fp1) vMulY (JE_int (k.toCOk.blk s1 H1 _ _ fp1)) (VR (k.toCOk.blk s1 H1 _ _ fp1) 7))) (VR (k.toCOk.blk s1 H1 _ _ fp1) 18)) (BO (k.toCOk.blk s1 H1 _ _ fp1) vMulY (JE_int (k.toCOk.blk s1 H1 _ _ fp1)) (VR (k.toCOk.blk s1 H1 _ _ fp1) 2))) (JE_int (k.toCOk.blk s1 H1 _ _ fp1)))) JA_nil))))))
  (JSs_cons (ST 9 (JE_tup k.toCOk (AC (IX k.toCOk (vIxA k.toCOk) (JE_frz (JL_disp k.toCOk (AC (JE_str k.toCOk) (AC (JE_str k.toCOk) JA_nil)))) (BO k.toCOk vModI (IX k.toCOk (vIxA k.toCOk) (VR k.toCOk 8) (JE_int k.toCOk)) (JE_int k.toCOk))) (AC (IX k.toCOk (vIxA k.toCOk) (VR k.toCOk 4) (BO k.toCOk vModI (IX k.toCOk (vIxA k.toCOk) (VR k.toCOk 8) (JE_int k.toCOk)) (CB k.toCOk cLen F.b_len (AC (VR k.toCOk 4) JA_nil)))) JA_nil))))
  (JSs_cons (ST 10 (CL k.toCOk hr (ok__law_turned F) F.g__law_turned (AC (VR k.toCOk 5) (AC (VR k.toCOk 9) JA_nil))))
  (JSs_cons (JS_if (CMT k.toCOk vIsNot (VR k.toCOk 10) (JE_non k.toCOk)) (JSs_cons (P2 k.toCOk 5 6 (AC (VR k.toCOk 10) (AC (BO k.toCOk vAdd (VR k.toCOk 6) (JE_tup k.toCOk (AC (VR k.toCOk 9) JA_nil))) JA_nil)))
  (JSs_cons (JS_if (JW.t (JW_or (CMT k.toCOk (vNe k.toCOk) (CL k.toCOk hr (ok_turned F) F.g_turned (AC (VR k.toCOk 3) (AC (VR k.toCOk 6) JA_nil))) (VR k.toCOk 5)) (JW_or1 (CMT k.toCOk vIsNot (CL k.toCOk hr (ok_text_fault F) F.g_text_fault (AC (VR k.toCOk 5) JA_nil)) (JE_non k.toCOk))))) (JSs_cons (JS_ret (JE_bl k.toCOk))
  JSs_nil) JSs_nil)
  JSs_nil)) JSs_nil)
  JSs_nil)))))
  (JSs_cons (ST 11 (BO k.toCOk vModI (CT k.toCOk cInt F.b_int (AC (IX k.toCOk (vIxA k.toCOk) (VR k.toCOk 1) (BO k.toCOk vAdd (JE_int k.toCOk) (VR k.toCOk 2))) JA_nil)) (BO k.toCOk vAdd (CB k.toCOk cLen F.b_len (AC (VR k.toCOk 6) JA_nil)) (JE_int k.toCOk))))
  (JSs_cons (ST 12 (JE_frz (JL_disp k.toCOk (AC (JE_non k.toCOk) (AC (JE_tup k.toCOk JA_nil) (AC (JE_tup k.toCOk (AC (JE_str k.toCOk) JA_nil)) (AC (JE_tup k.toCOk (AC (JE_str k.toCOk) (AC (IX k.toCOk (vIxA k.toCOk) (VR k.toCOk 4) (JE_int k.toCOk)) JA_nil))) (AC (JE_tup k.toCOk (AC (JE_str k.toCOk) (AC (IX k.toCOk (vIxA k.toCOk) (VR k.toCOk 4) (JE_int k.toCOk)) JA_nil))) (AC (JE_tup k.toCOk (AC (JE_str k.toCOk) (AC (JE_str k.toCOk) JA_nil))) (AC (JE_tup k.toCOk (AC (JE_str k.toCOk) (AC (IX k.toCOk (vIxA k.toCOk) (VR k.toCOk 4) (JE_neg k.toCOk (JE_int k.toCOk))) JA_nil))) (AC (JE_frz (JL_disp k.toCOk (AC (JE_str k.toCOk) (AC (IX k.toCOk (vIxA k.toCOk) (VR k.toCOk 4) (JE_neg k.toCOk (JE_int k.toCOk))) JA_nil)))) (AC (JE_tup k.toCOk (AC (JE_str k.toCOk) (AC (JE_int k.toCOk) JA_nil))) (AC (JE_tup k.toCOk (AC (JE_str k.toCOk) (AC (IX k.toCOk (vIxA k.toCOk) (VR k.toCOk 4) (JE_neg k.toCOk (JE_int k.toCOk))) JA_nil))) JA_nil)))))))))))))
  (JSs_cons (FO k (JI_seq (VR k.toCOk 12)) (NM k.toCOk 13) (JSs_cons (FO k (JI_seq (JE_tup k.toCOk (AC (BO k.toCOk vAdd (BO k.toCOk vAdd (JE_sl k.toCOk (VR k.toCOk 6) JO_no (JO_some (VR k.toCOk 11))) (JE_tup k.toCOk (AC (VR k.toCOk 13) JA_nil))) (JE_sl k.toCOk (VR k.toCOk 6) (JO_some (VR k.toCOk 11)) JO_no)) (AC (JE_tup k.toCOk (AC (VR k.toCOk 13) JA_nil)) JA_nil)))) (NM k.toCOk 14) (JSs_cons (ST 15 (CL k.toCOk hr (ok__law_fault F) F.g__law_fault (AC (VR k.toCOk 3) (AC (VR k.toCOk 14) JA_nil))))
  (JSs_cons (JS_if (JW.t (JW_or (CMT k.toCOk (vNe k.toCOk) (CL k.toCOk hr (ok_turns_fault F) F.g_turns_fault (AC (VR k.toCOk 3) (AC (VR k.toCOk 14) JA_nil))) (VR k.toCOk 15)) (JW_or1 (CMT k.toCOk (vNe k.toCOk) (CL k.toCOk hr (ok__law_error F) F.g__law_error (AC (JE_int k.toCOk) (AC (VR k.toCOk 3) (AC (VR k.toCOk 14) JA_nil)))) (JE_if k.toCOk (CMT k.toCOk vIs (VR k.toCOk 15) (JE_non k.toCOk)) (JE_str k.toCOk) (JE_str k.toCOk)))))) (JSs_cons (JS_ret (JE_bl k.toCOk))
  JSs_nil) JSs_nil)
  JSs_nil)))
  JSs_nil))
  (JSs_cons (FO k (JI_seq (JE_tup k.toCOk (AC (VR k.toCOk 6) (AC (JE_rev k.toCOk (VR k.toCOk 6)) (AC (JE_non k.toCOk) (AC (JE_frz (LI k.toCOk F.b_list (VR k.toCOk 6))) JA_nil)))))) (NM k.toCOk 14) (JSs_cons (JS_if (CMT k.toCOk (vNe k.toCOk) (CL k.toCOk hr (ok_turns_fault F) F.g_turns_fault (AC (VR k.toCOk 3) (AC (VR k.toCOk 14) JA_nil))) (CL k.toCOk hr (ok__law_fault F) F.g__law_fault (AC (VR k.toCOk 3) (AC (VR k.toCOk 14) JA_nil)))) (JSs_cons (JS_ret (JE_bl k.toCOk))
  JSs_nil) JSs_nil)
  JSs_nil))
  JSs_nil))))))))
  (JSs_cons (ST 16 (JE_tup k.toCOk (AC (JE_tup k.toCOk (AC (JE_str k.toCOk) (AC (JE_str k.toCOk) (AC (JE_tup k.toCOk JA_nil) JA_nil)))) (AC (JE_tup k.toCOk (AC (JE_str k.toCOk) (AC (JE_str k.toCOk) (AC (JE_tup k.toCOk (AC (JE_str k.toCOk) JA_nil)) JA_nil)))) (AC (JE_tup k.toCOk (AC (JE_str k.toCOk) (AC (JE_str k.toCOk) (AC (JE_tup k.toCOk (AC (JE_str k.toCOk) (AC (JE_str k.toCOk) JA_nil))) JA_nil)))) JA_nil)))))
  (JSs_cons (JS_if (JW.t (JW_or (CMT k.toCOk (vNe k.toCOk) (JE_frz (LC k.toCOk [("call", 19)] (JI_seq (JE_tup k.toCOk (AC (JE_int k.toCOk) (AC (JE_int k.toCOk) JA_nil)))) (fun s1 H1 _ _ fp1 => (NM (k.toCOk.blk s1 H1 _ _ fp1) 19)) (fun s1 H1 _ _ fp1 => JTs_nil) (fun s1 H1 _ _ fp1 => (CL (k.toCOk.blk s1 H1 _ _ fp1) hr (ok__law_error F) F.g__law_error (AC (VR (k.toCOk.blk s1 H1 _ _ fp1) 19) (AC (JE_tup (k.toCOk.blk s1 H1 _ _ fp1) (AC (VR (k.toCOk.blk s1 H1 _ _ fp1) 16) (AC (JE_tup (k.toCOk.blk s1 H1 _ _ fp1) (AC (JE_str (k.toCOk.blk s1 H1 _ _ fp1)) JA_nil)) JA_nil))) (AC (JE_non (k.toCOk.blk s1 H1 _ _ fp1)) JA_nil))))))) (JE_frz (JL_rep k.toCOk (JE_frz (JL_disp k.toCOk (AC (JE_str k.toCOk) JA_nil))) (JE_int k.toCOk)))) (JW_or1 (CMT k.toCOk (vNe k.toCOk) (JE_frz (LC k.toCOk [("call", 19)] (JI_seq (JE_tup k.toCOk (AC (JE_int k.toCOk) (AC (JE_int k.toCOk) JA_nil)))) (fun s1 H1 _ _ fp1 => (NM (k.toCOk.blk s1 H1 _ _ fp1) 19)) (fun s1 H1 _ _ fp1 => JTs_nil) (fun s1 H1 _ _ fp1 => (CL (k.toCOk.blk s1 H1 _ _ fp1) hr (ok__law_error F) F.g__law_error (AC (VR (k.toCOk.blk s1 H1 _ _ fp1) 19) (AC (JE_tup (k.toCOk.blk s1 H1 _ _ fp1) (AC (VR (k.toCOk.blk s1 H1 _ _ fp1) 16) (AC (JE_tup (k.toCOk.blk s1 H1 _ _ fp1) (AC (JE_str (k.toCOk.blk s1 H1 _ _ fp1)) (AC (JE_str (k.toCOk.blk s1 H1 _ _ fp1)) JA_nil))) JA_nil))) (AC (JE_non (k.toCOk.blk s1 H1 _ _ fp1)) JA_nil))))))) (JE_frz (JL_rep k.toCOk (JE_frz (JL_disp k.toCOk (AC (JE_str k.toCOk) JA_nil))) (JE_int k.toCOk))))))) (JSs_cons (JS_ret (JE_bl k.toCOk))
  JSs_nil) JSs_nil)
  (JSs_cons (JS_ret (CM k.toCOk (vEq k.toCOk) (JE_frz (LC k.toCOk [("call", 19), ("wrong", 13)] (JI_seq (JE_tup k.toCOk (AC (JE_tup k.toCOk (AC (JE_int k.toCOk) (AC (JE_non k.toCOk) JA_nil))) (AC (JE_tup k.toCOk (AC (JE_int k.toCOk) (AC (JE_tup k.toCOk JA_nil) JA_nil))) (AC (JE_tup k.toCOk (AC (JE_int k.toCOk) (AC (JE_non k.toCOk) JA_nil))) (AC (JE_tup k.toCOk (AC (JE_int k.toCOk) (AC (JE_tup k.toCOk JA_nil) JA_nil))) JA_nil)))))) (fun s1 H1 _ _ fp1 => (TU (k.toCOk.blk s1 H1 _ _ fp1) (TC (NM (k.toCOk.blk s1 H1 _ _ fp1) 19) (TC (NM (k.toCOk.blk s1 H1 _ _ fp1) 13) JGs_nil)))) (fun s1 H1 _ _ fp1 => JTs_nil) (fun s1 H1 _ _ fp1 => (CL (k.toCOk.blk s1 H1 _ _ fp1) hr (ok__law_error F) F.g__law_error (AC (VR (k.toCOk.blk s1 H1 _ _ fp1) 19) (AC (VR (k.toCOk.blk s1 H1 _ _ fp1) 13) (AC (JE_non (k.toCOk.blk s1 H1 _ _ fp1)) JA_nil))))))) (JE_frz (JL_rep k.toCOk (JE_frz (JL_disp k.toCOk (AC (JE_str k.toCOk) JA_nil))) (JE_int k.toCOk)))))
  JSs_nil)))))
end
end K70


set_option Elab.async false
set_option linter.all false
set_option maxRecDepth 100000
set_option maxHeartbeats 4000000
namespace K70
open PySem EL
/-! ### texts, plain -/
structure NmOk (z : Str) : Prop where
  l1 : 1 ≤ z.length
  l8 : z.length ≤ 8
  s : ∀ c, c ∈ z.cps.toList → c ∈ (Str.ofString "abcdefghijklmnopqrstuvwxyz").cps.toList
structure Ln where
  nm : Str
  w : Str
  nd : List Str
structure Tx where
  ls : List Ln
  gs : List Str
def sL (l : List Str) : List PyData := l.map .str
def lnD (l : Ln) : PyData := .tuple [.str l.nm, .str l.w, .tuple (sL l.nd)]
def lsD (ls : List Ln) : PyData := .tuple (ls.map lnD)
def gsD (gs : List Str) : PyData := .tuple (sL gs)
def txD (T : Tx) : PyData := .tuple [lsD T.ls, gsD T.gs]
def nms (ls : List Ln) : List Str := ls.map (·.nm)
structure LOk (ah : List Str) (l : Ln) : Prop where
  nm : NmOk l.nm
  nw : l.nm ∉ ah
  wd : t_NEEDS.lookup l.w = some (l.nd.length : Int)
  nd : ∀ n, n ∈ l.nd → n ∈ ah
def LsOk : List Str → List Ln → Prop
  | _, [] => True
  | ah, l :: r => LOk ah l ∧ LsOk (ah ++ [l.nm]) r
structure TOk (T : Tx) : Prop where
  ls : LsOk [] T.ls
  n1 : 1 ≤ T.ls.length
  n60 : T.ls.length ≤ 60
  g1 : 1 ≤ T.gs.length
  g6 : T.gs.length ≤ 6
  gs : T.gs.Sublist (nms T.ls)
theorem LsOk.app : ∀ {a b : List Ln} {ah : List Str}, LsOk ah (a ++ b) ↔ LsOk ah a ∧ LsOk (ah ++ nms a) b
  | [], b, ah => by simp [LsOk, nms]
  | l :: a, b, ah => by
    rw [List.cons_append]
    simp only [LsOk]
    rw [LsOk.app (a := a)]
    simp only [nms, List.map_cons, List.append_assoc, List.singleton_append, and_assoc]
theorem LsOk.nodup : ∀ {ls : List Ln} {ah : List Str}, LsOk ah ls → ah.Nodup → (ah ++ nms ls).Nodup
  | [], ah, _, h => by simpa [nms] using h
  | l :: r, ah, h, hn => by
    have := LsOk.nodup h.2 (by
      rw [List.nodup_append]
      exact ⟨hn, by simp, fun x hx y hy => by rintro rfl; rw [List.mem_singleton.mp hy] at hx; exact h.1.nw hx⟩)
    simpa [nms] using this
theorem LsOk.nd {ls : List Ln} (h : LsOk [] ls) : (nms ls).Nodup := by simpa using h.nodup List.nodup_nil
theorem LsOk.each : ∀ {ls : List Ln} {ah : List Str}, LsOk ah ls → ∀ l, l ∈ ls → NmOk l.nm ∧ t_NEEDS.lookup l.w = some (l.nd.length : Int) ∧ ∀ n, n ∈ l.nd → n ∈ ah ++ nms ls
  | [], _, _ => fun l hl => by cases hl
  | k :: r, ah, h => fun l hl => by
    rcases List.mem_cons.mp hl with rfl | hl
    · exact ⟨h.1.nm, h.1.wd, fun n hn => List.mem_append_left _ (h.1.nd n hn)⟩
    · obtain ⟨h1, h2, h3⟩ := LsOk.each h.2 l hl
      exact ⟨h1, h2, fun n hn => by simpa [nms] using h3 n hn⟩
theorem need2 {w : Str} {k : Int} (h : t_NEEDS.lookup w = some k) : 0 ≤ k ∧ k ≤ 2 := by
  have : ∀ p, p ∈ t_NEEDS → 0 ≤ p.2 ∧ p.2 ≤ 2 := by decide
  exact this _ (EL.lookup_mem h)
/-! ### depths -/
theorem sL_gd (n : Nat) (l : List Str) : ∀ x, x ∈ sL l → GD (n + 1) x := GD.map fun z _ => GD.str _ _
theorem lnD_gd (l : Ln) : GD 3 (lnD l) := GD.tuple (GD.cons (GD.str _ _) (GD.cons (GD.str _ _) (GD.cons (GD.tuple (sL_gd _ _)) GD.nil)))
theorem lsD_gd (ls : List Ln) : GD 4 (lsD ls) := GD.tuple (GD.map fun l _ => lnD_gd l)
theorem txD_gd (T : Tx) : GD 5 (txD T) := GD.tuple (GD.cons (lsD_gd _) (GD.cons ((GD.tuple (sL_gd 0 _)).up (by omega)) GD.nil))
theorem str_any (l : List Str) (z : Str) : ((sL l).any fun y => PyData.eqv y (.str z)) = decide (z ∈ l) := by
  unfold sL
  rw [List.any_map, Bool.eq_iff_iff, List.any_eq_true, decide_eq_true_eq]
  simp only [Function.comp, eqv_str, decide_eq_true_eq]
  exact ⟨fun ⟨x, h1, h2⟩ => h2 ▸ h1, fun h => ⟨z, h, rfl⟩⟩
theorem str_dle (n : Nat) (z : Str) : min n (PyData.str z).depth ≤ 64 := by simp [PyData.depth]
theorem strIn_l (l : List Str) (z : Str) (mh : Mh) : oIn (.d (.str z)) (.d (.list (sL l))) mh = .ok (.d (.bool (decide (z ∈ l)))) mh := by rw [oIn_l (str_dle _ z), str_any]
theorem strIn_t (l : List Str) (z : Str) (mh : Mh) : oIn (.d (.str z)) (.d (.tuple (sL l))) mh = .ok (.d (.bool (decide (z ∈ l)))) mh := by rw [oIn_t (str_dle _ z), str_any]
theorem strNin_t (l : List Str) (z : Str) (mh : Mh) : oNin (.d (.str z)) (.d (.tuple (sL l))) mh = .ok (.d (.bool (!decide (z ∈ l)))) mh := by rw [oNin_t (str_dle _ z), str_any]
theorem strEq (a b : Str) (mh : Mh) : oEq (.d (.str a)) (.d (.str b)) mh = .ok (.d (.bool (decide (a = b)))) mh := by rw [oEq_ap, if_pos (str_dle _ b), eqv_str]
theorem strNe (a b : Str) (mh : Mh) : oNe (.d (.str a)) (.d (.str b)) mh = .ok (.d (.bool (!decide (a = b)))) mh := by rw [oNe_ap, if_pos (str_dle _ b), eqv_str]
theorem nAll_v {γ : Type} (l : List γ) (c : γ → Bool) (mh : Mh) : nBools (·.all id) [.d (.list (l.map fun x => PyData.bool (c x)))] mh = .ok (.d (.bool (l.all c))) mh := by
  have := nBools_l (mh := mh) (·.all id) (l.map c)
  rw [List.map_map, List.all_map] at this
  exact this
theorem nAll_true {γ : Type} (l : List γ) (mh : Mh) : nBools (·.all id) [.d (.list (l.map fun _ => PyData.bool true))] mh = .ok (.d (.bool true)) mh := by
  rw [nAll_v l (fun _ => true)]; simp
theorem kLen_q {α : Type} (l : List α) (h : l.length ≤ 100000) (mh : Mh) (f : α → PyData) : kLen ((l.map f).map .d) mh = .ok ((l.map f).map .d) mh := kLen_ok (by simp; omega)
/-! ### names, lines -/
theorem is_name_v {z : Str} (h : NmOk z) (mh : Mh) : m_is_name [.d (.str z)] mh = .ok (.d (.bool true)) mh := by
  unfold m_is_name dM b_is_name
  have l1 := h.l1
  have l8 := h.l8
  have e : lcL always (.nm 1) bYes (bind2 (mV 1) (mC k_LETTERS) oIn) [some (.d (.str z)), none] ((z.cps.toList.map fun c => PyData.str ⟨#[c]⟩).map .d) mh = .ok ((z.cps.toList.map fun _ => PyData.bool true).map .d) mh :=
    lcL_d z.cps.toList (fun c => PyData.str ⟨#[c]⟩) (fun _ => .bool true) trivial fun c hc => ⟨_, rfl, by simp [oIn_s, h.s c hc]⟩
  have hs : signs z = (z.cps.toList.map fun c => PyData.str ⟨#[c]⟩).map .d := by unfold signs; rw [List.map_map]; rfl
  have hk := kLen_q z.cps.toList (by show z.cps.toList.length ≤ 100000; have : z.cps.toList.length = z.length := by simp [Str.length]
                                     omega) mh (fun _ => PyData.bool true)
  have hn := nAll_true z.cps.toList mh
  have l1' : (1 : Int) ≤ z.length := by omega
  have l8' : (z.length : Int) ≤ 8 := by omega
  have f1 := frzL_d (mh := mh) (z.cps.toList.map fun _ => PyData.bool true)
  have hi : kIsi "str" (.d (.str z)) mh = .ok (.d (.bool true)) mh := rfl
  simp [-List.map_map, -List.map_const', startL, hi, nLen_s (z := z) (by omega), l1', l8', l1, l8, hs, e, hk, f1, hn, fin]
theorem is_line_v {ah : List Str} {l : Ln} (h : LOk ah l) (hn : ∀ n, n ∈ l.nd → NmOk n) (mh : Mh) : m__is_line [.d (lnD l)] mh = .ok (.d (.bool true)) mh := by
  unfold m__is_line dM b__is_line
  have e1 := kCall_d0 (n := 1) (vs := [.d (.str l.nm)]) rfl (is_name_v h.nm mh)
  have hw := h.wd
  have h2 := need2 hw
  have e2 : kTabIx t_NEEDS (.d (.str l.w)) mh = .ok (.d (.int l.nd.length)) mh := kTabIx_ok hw
  have e3 : lcL always (.nm 1) bYes (mCall 1 m_is_name (aCons (mV 1) aNil)) [some (.d (lnD l)), none] ((l.nd.map .str).map .d) mh = .ok ((l.nd.map fun _ => PyData.bool true).map .d) mh :=
    lcL_d l.nd .str (fun _ => .bool true) trivial fun n hn' => ⟨_, rfl, by
      simp [kCall_d0 (n := 1) (vs := [.d (.str n)]) rfl (is_name_v (hn n hn') mh)]⟩
  have hk := kLen_q l.nd (by omega) mh (fun _ => PyData.bool true)
  have f1 := frzL_d (mh := mh) (l.nd.map fun _ => PyData.bool true)
  have ha := nAll_true l.nd mh
  unfold lnD sL at e3 ⊢
  simp [-List.map_map, -List.map_const', startL, kIsi, pvTy, tyIs, e1, e2, e3, hw, PyData.depth, PyData.eqv, hk, f1, ha, fin]
end K70


set_option Elab.async false
set_option linter.all false
set_option maxRecDepth 100000
set_option maxHeartbeats 4000000
namespace K70
open PySem EL
variable {T : Tx}
theorem LsOk.at : ∀ {ls : List Ln} {ah : List Str} {i : Nat} {l : Ln}, LsOk ah ls → ls[i]? = some l → LOk (ah ++ nms (ls.take i)) l
  | [], _, _, _, _, e => by cases e
  | k :: r, ah, 0, l, h, e => by
    simp at e; subst e
    simpa [nms] using h.1
  | k :: r, ah, i + 1, l, h, e => by
    have := LsOk.at h.2 (by simpa using e)
    simpa [nms] using this
theorem LsOk.nmOk {ls : List Ln} (h : LsOk [] ls) {z : Str} (hz : z ∈ nms ls) : NmOk z := by
  obtain ⟨l, hl, rfl⟩ := List.mem_map.mp hz
  exact (h.each l hl).1
def kvT (ns : List Str) : List (PyData × PV) := kvS (ns.map fun z => (z, PV.d (.bool true)))
theorem kvT_len (ns : List Str) : (kvT ns).length = ns.length := by unfold kvT; rw [kvS_len, List.length_map]
theorem has_kvT (ns : List Str) (z : Str) : dHas (.str z) (kvT ns) = decide (z ∈ ns) := by
  unfold kvT
  rw [has_kvS, List.map_map]
  congr 2
  exact List.map_id' _
theorem put_kvT {ns : List Str} {z : Str} (h : z ∉ ns) : putD (kvT ns) (.str z) (.d (.bool true)) = kvT (ns ++ [z]) := by
  unfold kvT
  rw [put_kvS, putS_new (by rw [List.map_map]; simpa [Function.comp] using h), List.map_append]; rfl
theorem line_fault_v {ls : List Ln} (h : LsOk [] ls) (hl : ls.length ≤ 60) (mh : Mh) : m__line_fault [.d (lsD ls)] mh = .ok (.d .none) (mh ++ [.dct (kvT (nms ls))]) := by
  unfold m__line_fault dM b__line_fault
  obtain ⟨lo', mh', e, rfl, r⟩ := forL_i (gg := always) (t := .tp [.nm 2, .nm 3]) (m := l__line_fault_1)
    (fun i lo mh' => mh' = mh ++ [.dct (kvT (nms (ls.take i)))] ∧ lo.length = 5 ∧ lo[1]? = some (some (.ref mh.length)))
    (fun p : Ln × Nat => PV.d (.tuple [.int (p.2 : Nat), lnD p.1])) (fun _ _ _ _ => trivial) ls.zipIdx 0 [some (.d (lsD ls)), some (.ref mh.length), none, none, none] (mh ++ [.dct []])
    (by
      rintro i ⟨l, j⟩ lo mh' hx ⟨rfl, hlo, h1⟩
      rw [List.getElem?_zipIdx] at hx
      have hx2 : ls[i]? = some l ∧ 0 + i = j := by
        cases hh : ls[i]? with
        | none => rw [hh] at hx; simp at hx
        | some l' => rw [hh] at hx; simp at hx; exact ⟨by rw [hx.1], by omega⟩
      obtain ⟨hi, rfl⟩ := hx2
      have L := h.at hi
      rw [List.nil_append] at L
      have hil : i < ls.length := (List.getElem?_eq_some_iff.mp hi).1
      rw [Nat.zero_add]
      generalize hT : ls.take i = ta at *
      have hta : ta.length ≤ 60 := by rw [← hT, List.length_take]; omega
      let mb : Mh := mh ++ [.dct (kvT (nms ta))]
      have hg : mb[mh.length]? = some (.dct (kvT (nms ta))) := by simp [mb]
      have hD : IsDc mb (.ref mh.length) (kvT (nms ta)) := .ref hg
      have c1 := kCall_d0 (n := 1) (vs := [.d (lnD l)]) rfl (is_line_v L (fun n hn => h.nmOk (by
        have := L.nd n hn
        rw [← hT] at this
        exact List.mem_of_mem_take (by simpa [nms, List.map_take] using this))) mb)
      have q1 : oIn (.d (.str l.nm)) (.ref mh.length) mb = .ok (.d (.bool false)) mb := by rw [in_dc hD rfl, has_kvT, decide_eq_false L.nw]
      have e2 : ∀ lo, 4 < lo.length → lo[1]? = some (some (.ref mh.length)) → lcL always (.nm 4) bYes (bind2 (mV 4) (mV 1) oIn) lo ((l.nd.map .str).map .d) mb = .ok ((l.nd.map fun _ => PyData.bool true).map .d) mb := fun lo hl h1 =>
        lcL_d l.nd .str (fun _ => .bool true) trivial fun n hn => ⟨_, rfl, by
          have : oIn (.d (.str n)) (.ref mh.length) mb = .ok (.d (.bool true)) mb := by rw [in_dc hD rfl, has_kvT, decide_eq_true (L.nd n hn)]
          simp [-getElem?_pos, List.getElem?_set, hl, h1, this]⟩
      have hk := kLen_q l.nd (by have := (need2 L.wd).2; omega) mb (fun _ => PyData.bool true)
      have f1 := frzL_d (mh := mb) (l.nd.map fun _ => PyData.bool true)
      have ha := nAll_true l.nd mb
      have hs : kSeq (.d (.tuple (sL l.nd))) mb = .ok ((l.nd.map .str).map .d, always) mb := rfl
      have x0 : oIxA (.d (lnD l)) (.d (.int 0)) mb = .ok (.d (.str l.nm)) mb := oIx_t0 _ _
      have x2 : oIxA (.d (lnD l)) (.d (.int 2)) mb = .ok (.d (.tuple (sL l.nd))) mb := oIx_t2 _ _ _ _
      refine ⟨_, (lo.set 2 (some (.d (.int (i : Nat))))).set 3 (some (.d (lnD l))), mh ++ [.dct (kvT (nms (ls.take (i + 1))))], tgt_2 2 3 _ _, .inl ?_, rfl, by simp [hlo], by rw [List.getElem?_set_ne (by omega), List.getElem?_set_ne (by omega)]; exact h1⟩
      have p3 : kSub3 ((lo.set 2 (some (.d (.int (i : Nat))))).set 3 (some (.d (lnD l)))) (.d (.bool true)) (.ref mh.length) (.d (.str l.nm)) mb = .nx ((lo.set 2 (some (.d (.int (i : Nat))))).set 3 (some (.d (lnD l)))) (mh ++ [.dct (kvT (nms (ls.take (i + 1))))]) := by
        rw [kSub3_dct hg rfl (by rw [kvT_len]; simp [nms]; omega), put_kvT L.nw]
        have : nms (ls.take (i + 1)) = nms ta ++ [l.nm] := by
          rw [List.take_add_one, hi, hT]; simp [nms]
        rw [this]
        simp [mb]
      have hmb : mh ++ [MO.dct (kvT (nms ta))] = mb := rfl
      rw [hmb]
      unfold l__line_fault_1
      simp [-getElem?_pos, -List.map_map, List.getElem?_set, hlo, h1, c1, q1, x0, x2, hs, e2, hk, f1, ha, p3])
    ⟨rfl, rfl, rfl⟩
  have hz : ls.zipIdx.length = ls.length := by simp
  rw [hz, Nat.zero_add, List.take_length] at e
  have e4 := enumP_f lnD ls
  have hs2 : ∀ mh, kEnum (.d (lsD ls)) mh = .ok (enumP ((ls.map lnD).map .d), always) mh := fun _ => rfl
  rw [show startL 5 [.d (lsD ls)] = [some (.d (lsD ls)), none, none, none, none] from rfl]
  simp [-List.map_map, hs2, e4, e, fin]
end K70


set_option Elab.async false
set_option linter.all false
set_option maxRecDepth 100000
set_option maxHeartbeats 4000000
namespace EL
open PySem
/-- over any things, to data, no condition -/
theorem lcL_v {gg : Mh → Prop} {t : Tg} {me : EM} {lo0 : Lo} {mh : Mh} {γ : Type} (xs : List γ) (f : γ → PV) (e : γ → PyData) (hg : gg mh)
    (h : ∀ x, x ∈ xs → ∃ us, tgt t (f x) = some us ∧ me (upL lo0 us) mh = .ok (.d (e x)) mh) :
    lcL gg t bYes me lo0 (xs.map f) mh = .ok ((xs.map e).map .d) mh := by
  induction xs with
  | nil => simp only [List.map_nil, lcL, if_pos hg]
  | cons v l ih =>
    obtain ⟨us, h1, h2⟩ := h v List.mem_cons_self
    have ih' := ih fun x hx => h x (List.mem_cons_of_mem _ hx)
    simp only [List.map_cons, lcL, if_pos hg, h1, bYes_ap, noX_ok, Res.bind_ok, if_true, h2, ih']
end EL
namespace K70
open PySem EL
variable {T : Tx}
def plc : List Str → Str → Nat
  | [], _ => 0
  | y :: r, z => if y = z then 0 else plc r z + 1
theorem plc_place : ∀ {l : List Str} {z : Str}, z ∈ l → SeqAt.dataPlace (sL l) (.str z) = some (plc l z)
  | [], _, h => by cases h
  | y :: r, z, h => by
    unfold SeqAt.dataPlace sL
    rw [List.map_cons, List.findIdx?_cons, eqv_str]
    unfold plc
    by_cases e : y = z
    · simp [e]
    · have hr : z ∈ r := by
        rcases List.mem_cons.mp h with rfl | h
        · exact absurd rfl e
        · exact h
      have ih := plc_place hr
      unfold SeqAt.dataPlace sL at ih
      rw [decide_eq_false e, if_neg e]
      simp only [Bool.false_eq_true, if_false]
      rw [ih]
      rfl
theorem plc_lt : ∀ {l gs : List Str}, gs.Sublist l → l.Nodup → (gs.map (plc l)).Pairwise (· < ·) := by
  intro l gs h
  induction h with
  | slnil => intro _; simp
  | @cons gs l a h ih =>
    intro hn
    rw [List.nodup_cons] at hn
    have e : gs.map (plc (a :: l)) = (gs.map (plc l)).map (· + 1) := by
      rw [List.map_map]
      refine List.map_congr_left fun g hg => ?_
      have : a ≠ g := fun e => hn.1 (e ▸ h.subset hg)
      simp [plc, this]
    rw [e, List.pairwise_map]
    exact (ih hn.2).imp fun h => by omega
  | @cons_cons gs l a h ih =>
    intro hn
    rw [List.nodup_cons] at hn
    have e : gs.map (plc (a :: l)) = (gs.map (plc l)).map (· + 1) := by
      rw [List.map_map]
      refine List.map_congr_left fun g hg => ?_
      have : a ≠ g := fun e => hn.1 (e ▸ h.subset hg)
      simp [plc, this]
    rw [List.map_cons, e, List.pairwise_cons]
    refine ⟨fun x hx => ?_, ?_⟩
    · obtain ⟨y, _, rfl⟩ := List.mem_map.mp hx
      simp [plc]
    · rw [List.pairwise_map]
      exact (ih hn.2).imp fun h => by omega
theorem text_fault_v (h : TOk T) (mh : Mh) : ∃ gb, m_text_fault [.d (txD T)] mh = .ok (.d .none) (mh ++ gb) := by
  refine ⟨[], ?_⟩
  rw [List.append_nil]
  have n60 := h.n60
  have n1 := h.n1
  have g6 := h.g6
  have g1 := h.g1
  have hnd := h.ls.nd
  have c1 : kCall 1 m__line_fault [.d (lsD T.ls)] mh = .ok (.d .none) mh := kCall_d (gb := [.dct (kvT (nms T.ls))]) rfl (line_fault_v h.ls n60 mh)
  have hmem : ∀ g, g ∈ T.gs → g ∈ nms T.ls := fun g hg => h.gs.subset hg
  have e1 : ∀ lo, 6 < lo.length → lcL always (.nm 6) bYes (bind2 (mV 6) (mC (.int 0)) oIxA) lo ((T.ls.map lnD).map .d) mh = .ok ((T.ls.map fun l => .str l.nm).map .d) mh := fun lo hl =>
    lcL_d T.ls lnD _ trivial fun l hl' => ⟨_, rfl, by
      have x0 : oIxA (.d (lnD l)) (.d (.int 0)) mh = .ok (.d (.str l.nm)) mh := oIx_t0 _ _
      simp [-getElem?_pos, List.getElem?_set, hl, x0]⟩
  have hN : ((T.ls.map fun l => PyData.str l.nm)) = sL (nms T.ls) := by unfold sL nms; rw [List.map_map]; rfl
  have e2 : ∀ lo, 6 < lo.length → lo[4]? = some (some (.d (.list (sL (nms T.ls))))) → lcL always (.nm 6) bYes (eAnd (mCall 1 m_is_name (aCons (mV 6) aNil)) (bind2 (mV 6) (mV 4) oIn)) lo ((T.gs.map .str).map .d) mh = .ok ((T.gs.map fun _ => .bool true).map .d) mh := fun lo hl h4 =>
    lcL_d T.gs .str (fun _ => .bool true) trivial fun g hg => ⟨_, rfl, by
      have c := kCall_d0 (n := 1) (vs := [.d (.str g)]) rfl (is_name_v (h.ls.nmOk (hmem g hg)) mh)
      have c2 := strIn_l (nms T.ls) g mh
      simp [-getElem?_pos, List.getElem?_set, hl, h4, c, c2, hmem g hg]⟩
  have e3 : ∀ lo, 6 < lo.length → lo[4]? = some (some (.d (.list (sL (nms T.ls))))) → lcL always (.nm 6) bYes (mBM "list" oIndex (mV 4) (aCons (mV 6) aNil)) lo ((T.gs.map .str).map .d) mh = .ok ((T.gs.map fun g => .int (plc (nms T.ls) g : Nat)).map .d) mh := fun lo hl h4 =>
    lcL_d T.gs .str (fun g => .int (plc (nms T.ls) g : Nat)) trivial fun g hg => ⟨_, rfl, by
      have c2 : oIndex (.d (.list (sL (nms T.ls)))) [.d (.str g)] mh = .ok (.d (.int (plc (nms T.ls) g : Nat))) mh := idx_ok (plc_place (hmem g hg)) (str_dle _ g)
      simp [-getElem?_pos, List.getElem?_set, hl, h4, kBM_ap, c2]⟩
  let ps : List Nat := T.gs.map (plc (nms T.ls))
  have hps : (T.gs.map fun g => PyData.int (plc (nms T.ls) g : Nat)) = ps.map fun p : Nat => .int (p : Nat) := by simp only [ps]; rw [List.map_map]; rfl
  have hpl : ps.length ≤ 6 := by simp only [ps]; rw [List.length_map]; exact g6
  have hpa : ps.Pairwise (· < ·) := plc_lt h.gs hnd
  have e4 : ∀ lo, 7 < lo.length → lcL always (.tp [.nm 6, .nm 7]) bYes (bind2 (mV 6) (mV 7) oLt) lo (zipP ((ps.map fun p : Nat => .int (p : Nat)).map .d) (((ps.map fun p : Nat => .int (p : Nat)).drop 1).map .d)) mh = .ok (((ps.zip (ps.drop 1)).map fun p => .bool (decide (p.1 < p.2))).map .d) mh := fun lo hl => by
    rw [← List.map_drop, zipP_f]
    exact lcL_v (ps.zip (ps.drop 1)) (fun p => .tup [.d (.int (p.1 : Nat)), .d (.int (p.2 : Nat))]) (fun p => .bool (decide (p.1 < p.2))) trivial fun p hp => ⟨[(6, .d (.int (p.1 : Nat))), (7, .d (.int (p.2 : Nat)))], by simp [tgt, tgts, tupOf], by
      simp [-getElem?_pos, List.getElem?_set, hl, show 6 < lo.length by omega]⟩
  have e5 : nBools (·.all id) [.d (.list ((ps.zip (ps.drop 1)).map fun p => .bool (decide (p.1 < p.2))))] mh = .ok (.d (.bool true)) mh := by
    have := nBools_l (mh := mh) (·.all id) ((ps.zip (ps.drop 1)).map fun p => decide (p.1 < p.2))
    rw [List.map_map, zip_tail hpa] at this
    exact this
  have hs : kSeq (.d (lsD T.ls)) mh = .ok ((T.ls.map lnD).map .d, always) mh := rfl
  have hs2 : kSeq (.d (gsD T.gs)) mh = .ok ((T.gs.map .str).map .d, always) mh := rfl
  have hl1 : nLen [.d (lsD T.ls)] mh = .ok (.d (.int T.ls.length)) mh := by unfold lsD; simp
  have hl2 : nLen [.d (gsD T.gs)] mh = .ok (.d (.int T.gs.length)) mh := by unfold gsD sL; simp
  have hi1 : kIsi "tuple" (.d (lsD T.ls)) mh = .ok (.d (.bool true)) mh := rfl
  have hi2 : kIsi "tuple" (.d (gsD T.gs)) mh = .ok (.d (.bool true)) mh := rfl
  have hi3 : kIsi "tuple" (.d (.tuple [lsD T.ls, gsD T.gs])) mh = .ok (.d (.bool true)) mh := rfl
  have e0 := cut_from (ps.map fun p : Nat => PyData.int (p : Nat)) 1
  simp only [Int.ofNat_one, Int.natCast_one] at e0
  have k1 := kLen_q T.ls (by omega) mh (fun l => PyData.str l.nm)
  have k2 := kLen_q T.gs (by omega) mh (fun _ => PyData.bool true)
  have k3 := kLen_q ps (by omega) mh (fun p : Nat => PyData.int (p : Nat))
  have k4 := kLen_q (ps.zip (ps.drop 1)) (by simp; omega) mh (fun p => PyData.bool (decide (p.1 < p.2)))
  have f1 := frzL_d (mh := mh) (T.gs.map fun _ => PyData.bool true)
  have f2 := frzL_d (mh := mh) (sL (nms T.ls))
  have f3 := frzL_d (mh := mh) (ps.map fun p : Nat => PyData.int (p : Nat))
  have f4 := frzL_d (mh := mh) ((ps.zip (ps.drop 1)).map fun p => PyData.bool (decide (p.1 < p.2)))
  have ha := nAll_true T.gs mh
  rw [hN] at e1 k1
  rw [hps] at e3
  have hn : ((T.ls.length : Int) ≤ 60) := by omega
  have hm : ((T.gs.length : Int) ≤ 6) := by omega
  have hm1 : (1 : Int) ≤ T.gs.length := by omega
  have hn1 : (1 : Int) ≤ T.ls.length := by omega
  clear_value ps
  unfold m_text_fault dM b_text_fault txD
  simp [-List.map_map, -List.map_drop, -List.drop_one, -List.map_const', startL, hs, hi1, hi2, hi3, hl1, hl2, c1, e1, e2, e3, e4, e5, e0, PyData.depth, PyData.eqv, k1, k2, k3, k4, f1, f2, f3, f4, g6, n60, n1, g1, ha, fin, pvNone, hn, hn1, hm, hm1, hs2]
theorem check_text_v (h : TOk T) (mh : Mh) : m_check_text [.d (txD T)] mh = .ok (.d .none) mh := by
  unfold m_check_text dM b_check_text
  obtain ⟨gb, e⟩ := text_fault_v h mh
  have c1 := kCall_d (n := 1) (vs := [.d (txD T)]) rfl e
  simp [startL, c1, pvNone, fin]
end K70


set_option Elab.async false
set_option linter.all false
set_option maxRecDepth 100000
set_option maxHeartbeats 4000000
namespace K70
open PySem EL
def inR (l : List Int) : Prop := ∀ x, x ∈ l → 0 ≤ x ∧ x ≤ 65520
structure LD (n : Nat) (lo : Lo) : Prop where
  l : lo.length = 7
  h1 : lo[1]? = some (some (.d (.int 400)))
  h2 : lo[2]? = some (some (.ref n))
  h3 : ∃ s : Int, lo[3]? = some (some (.d (.int s))) ∧ 0 ≤ s ∧ s < 2147483647
section
variable {n : Nat} {lo : Lo} {mh : Mh}
theorem LD.set (L : LD n lo) {i : Nat} (hi : 4 ≤ i) (v : Option PV) : LD n (lo.set i v) :=
  ⟨by simp [L.l], by rw [List.getElem?_set_ne (by omega)]; exact L.h1, by rw [List.getElem?_set_ne (by omega)]; exact L.h2, by rw [List.getElem?_set_ne (by omega)]; exact L.h3⟩
theorem app_i (s : List Int) (x : Int) (hn : n = mh.length) (hl : s.length ≤ 1000000) : oAppend (.ref n) [.d (.int x)] (mh ++ [.lst ((s.map PyData.int).map .d)]) = .ok (.d .none) (mh ++ [.lst (((s ++ [x]).map PyData.int).map .d)]) := by
  rw [app_s (s.map .int) (.int x) hn (by rw [List.length_map]; exact hl), List.map_append (f := PyData.int)]; rfl
theorem inR_snoc {s : List Int} {x : Int} (h : inR s) (h1 : 0 ≤ x ∧ x ≤ 65520) : inR (s ++ [x]) := fun y hy => by
  rcases List.mem_append.mp hy with hy | hy
  · exact h y hy
  · rw [List.mem_singleton.mp hy]; exact h1
theorem dr_2 (b : Nat) (hb : b ≤ 500000) (s : List Int) (hs : s.length ≤ b) (hr : inR s) (lo : Lo) (L : LD mh.length lo) (x : Int) (hx : 0 ≤ x) (h5 : lo[5]? = some (some (.d (.int x)))) :
    ∃ lo' s', forL always (.nm 6) l__law_draws_2 ((List.range 60).map fun i : Nat => PV.d (.int (i : Nat))) lo (mh ++ [.lst ((s.map PyData.int).map .d)]) = .nx lo' (mh ++ [.lst ((s'.map PyData.int).map .d)]) ∧ s'.length ≤ b + 60 ∧ inR s' ∧ LD mh.length lo' := by
  obtain ⟨lo', mh', e, s', rfl, r1, r2, r3, r4⟩ := forL_n (gg := always) (t := .nm 6) (m := l__law_draws_2) (σ := Unit)
    (fun i _ lo mh' => ∃ s : List Int, mh' = mh ++ [.lst ((s.map PyData.int).map .d)] ∧ s.length ≤ b + i ∧ inR s ∧ LD mh.length lo ∧ ∃ x : Int, 0 ≤ x ∧ lo[5]? = some (some (.d (.int x))))
    (fun k : Nat => PV.d (.int (k : Nat))) (fun _ _ => ()) (fun _ _ _ _ _ => trivial) 60 (List.range 60) 0 () lo (mh ++ [.lst ((s.map PyData.int).map .d)]) (by rw [List.length_range]; exact Nat.le_refl _)
    (by
      rintro i _ k lo mh' hi hk ⟨s, rfl, hs, hr, L, x, hx, h5⟩
      by_cases hp : 0 < x
      · refine ⟨_, (lo.set 6 (some (.d (.int (k : Nat))))).set 5 (some (.d (.int (x / 1009)))), _, tgt_nm 6, .inl ?_, s ++ [x % 1009], rfl, by rw [List.length_append, List.length_singleton]; omega, inR_snoc hr (by omega), (L.set (by omega) _).set (by omega) _, x / 1009, by omega, by rw [List.getElem?_set_self (by rw [List.length_set, L.l]; omega)]⟩
        unfold l__law_draws_2
        have hm := oModI_ok (mh := mh ++ [.lst ((s.map PyData.int).map .d)]) (i := x) (j := 1009) (by omega)
        have hd := oDivI_ok (mh := mh ++ [.lst (((s ++ [x % 1009]).map PyData.int).map .d)]) (i := x) (j := 1009) ⟨by omega, by omega⟩
        have ht := tyM_s (mh := mh) (n := mh.length) (s.map .int) rfl
        have ha := app_i (mh := mh) (n := mh.length) s (x % 1009) rfl (by omega)
        simp [-getElem?_pos, -List.map_map, -List.map_append, List.getElem?_set, L.l, L.h2, h5, hp, hm, hd, kBM_ap, ht, ha]
      · refine ⟨_, lo.set 6 (some (.d (.int (k : Nat)))), _, tgt_nm 6, .inl ?_, s, rfl, by omega, hr, L.set (by omega) _, x, hx, by rw [List.getElem?_set_ne (by omega)]; exact h5⟩
        unfold l__law_draws_2
        simp [-getElem?_pos, -List.map_map, -List.map_append, List.getElem?_set, L.l, h5, hp])
    ⟨s, rfl, by omega, hr, L, x, hx, h5⟩
  exact ⟨lo', s', e, by rw [List.length_range] at r1; omega, r2, r3⟩
end
end K70


set_option Elab.async false
set_option linter.all false
set_option maxRecDepth 100000
set_option maxHeartbeats 4000000
namespace K70
open PySem EL
section
variable {n : Nat} {lo : Lo} {mh : Mh}
theorem LD.seed (L : LD n lo) {s : Int} (h : 0 ≤ s ∧ s < 2147483647) : LD n (lo.set 3 (some (.d (.int s)))) :=
  ⟨by simp [L.l], by rw [List.getElem?_set_ne (by omega)]; exact L.h1, by rw [List.getElem?_set_ne (by omega)]; exact L.h2, s, by rw [List.getElem?_set_self (by rw [L.l]; omega)], h.1, h.2⟩
theorem pow18 (mh : Mh) : oPowI (.d (.int 10)) (.d (.int 18)) mh = .ok (.d (.int 1000000000000000000)) mh := by
  rw [oPowI_ok ⟨by omega, by omega, by decide⟩]; rfl
theorem dr_3 (b : Nat) (hb : b ≤ 400000) (s : List Int) (hs : s.length ≤ b) (hr : inR s) (lo : Lo) (L : LD mh.length lo) (x : Int) (h4 : lo[4]? = some (some (.d (.int x)))) :
    ∃ lo' s', l__law_draws_3 lo (mh ++ [.lst ((s.map PyData.int).map .d)]) = .nx lo' (mh ++ [.lst ((s'.map PyData.int).map .d)]) ∧ s'.length ≤ b + 60 ∧ inR s' ∧ LD mh.length lo' := by
  obtain ⟨sd, h3, q1, q2⟩ := L.h3
  let y : Int := if x < 0 then -x else x
  have hy : 0 ≤ y := by show 0 ≤ (if x < 0 then -x else x); split <;> omega
  let z : Int := (sd * 48271 + y + 11) % 2147483647
  have hz : 0 ≤ z ∧ z < 2147483647 := by constructor <;> (show _ <;> omega)
  have L2 : LD mh.length ((lo.set 5 (some (.d (.int y)))).set 3 (some (.d (.int z)))) := (L.set (by omega) _).seed hz
  have h5 : ((lo.set 5 (some (PV.d (.int y)))).set 3 (some (.d (.int z))))[5]? = some (some (.d (.int y))) := by rw [List.getElem?_set_ne (by omega), List.getElem?_set_self (by rw [L.l]; omega)]
  have m1 : ∀ mh, oMulY (.d (.int sd)) (.d (.int 48271)) mh = .ok (.d (.int (sd * 48271))) mh := fun mh => oMulY_i (.inr ⟨by omega, by omega⟩)
  have m2 : ∀ mh, oMulY (.d (.int z)) (.d (.int 16807)) mh = .ok (.d (.int (z * 16807))) mh := fun mh => oMulY_i (.inr ⟨by omega, by omega⟩)
  have m3 : ∀ mh, oModI (.d (.int (sd * 48271 + y + 11))) (.d (.int 2147483647)) mh = .ok (.d (.int z)) mh := fun mh => oModI_ok (by omega)
  have p1 : (sSet 5 (mCB nAbs (aCons (mV 4) aNil))) lo (mh ++ [.lst ((s.map PyData.int).map .d)]) = .nx (lo.set 5 (some (.d (.int y)))) (mh ++ [.lst ((s.map PyData.int).map .d)]) := by
    simp [-getElem?_pos, -List.map_map, h4]; rfl
  have p2 : (sSet 3 (bind2 (mCB nInt (aCons (bind2 (bind2 (bind2 (mV 3) (mC (.int 48271)) oMulY) (mV 5) oAdd) (mC (.int 11)) oAdd) aNil)) (mC (.int 2147483647)) oModI)) (lo.set 5 (some (.d (.int y)))) (mh ++ [.lst ((s.map PyData.int).map .d)]) = .nx ((lo.set 5 (some (.d (.int y)))).set 3 (some (.d (.int z)))) (mh ++ [.lst ((s.map PyData.int).map .d)]) := by
    simp [-getElem?_pos, -List.map_map, List.getElem?_set, L.l, h3, m1, m3]
  unfold l__law_draws_3
  rw [sSeq_ap, p1, sq_nx, sSeq_ap, p2, sq_nx, sSeq_ap]
  by_cases hbig : 1000000000000000000 ≤ y
  · obtain ⟨lo', s', e, r1, r2, r3⟩ := dr_2 (mh := mh) b (by omega) s hs hr _ L2 y hy h5
    refine ⟨lo', s', ?_, r1, r2, r3⟩
    have hi : iRg1 (aCons (mC (.int 60)) aNil) ((lo.set 5 (some (.d (.int y)))).set 3 (some (.d (.int z)))) (mh ++ [.lst ((s.map PyData.int).map .d)]) = .ok ((List.range 60).map fun i : Nat => PV.d (.int (i : Nat)), always) (mh ++ [.lst ((s.map PyData.int).map .d)]) := iRg1_n (n := 60) (by omega) rfl
    have pc : (mB (bind2 (mV 5) (bind2 (mC (.int 10)) (mC (.int 18)) oPowI) oGeI)) ((lo.set 5 (some (.d (.int y)))).set 3 (some (.d (.int z)))) (mh ++ [.lst ((s.map PyData.int).map .d)]) = .ok true (mh ++ [.lst ((s.map PyData.int).map .d)]) := by
      simp [-getElem?_pos, -List.map_map, h5, pow18, hbig]
    rw [sIf_ap, pc, ofR_ok, kSIf_t, sSeq_ap, sFor_ap, hi, ofR_ok]
    dsimp only
    rw [e, sq_nx, sNil_ap, sq_nx, sNil_ap]
  · refine ⟨_, s ++ [(z * 16807 + 5) / 3 % 65521], ?_, by rw [List.length_append, List.length_singleton]; omega, inR_snoc hr (by omega), L2⟩
    have m4 : ∀ mh, oDivI (.d (.int (z * 16807 + 5))) (.d (.int 3)) mh = .ok (.d (.int ((z * 16807 + 5) / 3))) mh := fun mh => oDivI_ok ⟨by omega, by omega⟩
    have m5 : ∀ mh, oModI (.d (.int ((z * 16807 + 5) / 3))) (.d (.int 65521)) mh = .ok (.d (.int ((z * 16807 + 5) / 3 % 65521))) mh := fun mh => oModI_ok (by omega)
    have hsd : ((lo.set 5 (some (PV.d (.int y)))).set 3 (some (.d (.int z))))[3]? = some (some (.d (.int z))) := by rw [List.getElem?_set_self (by rw [List.length_set, L.l]; omega)]
    have ht := tyM_s (mh := mh) (n := mh.length) (s.map .int) rfl
    have ha := app_i (mh := mh) (n := mh.length) s ((z * 16807 + 5) / 3 % 65521) rfl (by omega)
    simp [-getElem?_pos, -List.map_map, -List.map_append, h5, hsd, L2.h2, pow18, hbig, m2, m4, m5, kBM_ap, ht, ha]
end
end K70


set_option Elab.async false
set_option linter.all false
set_option maxRecDepth 100000
set_option maxHeartbeats 4000000
namespace K70
open PySem EL
section
variable {n : Nat} {lo : Lo} {mh : Mh}
theorem dr_1 (s : List Int) (hr : inR s) (hs : s.length ≤ 100000) (lo : Lo) (L : LD mh.length lo) :
    ∃ lo' s', forL always (.nm 6) l__law_draws_1 ((List.range 400).map fun i : Nat => PV.d (.int (i : Nat))) lo (mh ++ [.lst ((s.map PyData.int).map .d)]) = .nx lo' (mh ++ [.lst ((s'.map PyData.int).map .d)]) ∧ 400 ≤ s'.length ∧ inR s' ∧ LD mh.length lo' := by
  obtain ⟨lo', mh', e, s', rfl, r1, r0, r2, r3⟩ := forL_n (gg := always) (t := .nm 6) (m := l__law_draws_1) (σ := Unit)
    (fun i _ lo mh' => ∃ s : List Int, mh' = mh ++ [.lst ((s.map PyData.int).map .d)] ∧ min i 400 ≤ s.length ∧ s.length ≤ 100000 + i ∧ inR s ∧ LD mh.length lo)
    (fun k : Nat => PV.d (.int (k : Nat))) (fun _ _ => ()) (fun _ _ _ _ _ => trivial) 400 (List.range 400) 0 () lo (mh ++ [.lst ((s.map PyData.int).map .d)]) (by rw [List.length_range]; exact Nat.le_refl _)
    (by
      rintro i _ k lo mh' hi hk ⟨s, rfl, hs, hs2, hr, L⟩
      have hlen : ∀ mh0 : Mh, nLen [.ref mh.length] (mh ++ [.lst ((s.map PyData.int).map .d)]) = .ok (.d (.int s.length)) (mh ++ [.lst ((s.map PyData.int).map .d)]) := fun _ => by
        rw [nLen_r (l := (s.map PyData.int).map .d) (by simp)]; simp
      by_cases hp : s.length < 400
      · obtain ⟨sd, h3, q1, q2⟩ := L.h3
        let z : Int := (sd * 69621 + k + 1) % 2147483647
        have hz : 0 ≤ z ∧ z < 2147483647 := by constructor <;> (show _ <;> omega)
        have hp' : (s.length : Int) < 400 := by omega
        have m1 : ∀ mh, oMulY (.d (.int sd)) (.d (.int 69621)) mh = .ok (.d (.int (sd * 69621))) mh := fun mh => oMulY_i (.inr ⟨by omega, by omega⟩)
        have m3 : ∀ mh, oModI (.d (.int (sd * 69621 + k + 1))) (.d (.int 2147483647)) mh = .ok (.d (.int z)) mh := fun mh => oModI_ok (by omega)
        have m4 : ∀ mh, oDivI (.d (.int z)) (.d (.int 7)) mh = .ok (.d (.int (z / 7))) mh := fun mh => oDivI_ok ⟨by omega, by omega⟩
        have m5 : ∀ mh, oModI (.d (.int (z / 7))) (.d (.int 65521)) mh = .ok (.d (.int (z / 7 % 65521))) mh := fun mh => oModI_ok (by omega)
        have ht := tyM_s (mh := mh) (n := mh.length) (s.map .int) rfl
        have ha := app_i (mh := mh) (n := mh.length) s (z / 7 % 65521) rfl (by omega)
        refine ⟨_, (lo.set 6 (some (.d (.int (k : Nat))))).set 3 (some (.d (.int z))), _, tgt_nm 6, .inl ?_, s ++ [z / 7 % 65521], rfl, by rw [List.length_append, List.length_singleton]; omega, by rw [List.length_append, List.length_singleton]; omega, inR_snoc hr (by omega), (L.set (by omega) _).seed hz⟩
        unfold l__law_draws_1
        simp [-getElem?_pos, -List.map_map, -List.map_append, List.getElem?_set, L.l, L.h1, L.h2, h3, hlen mh, hp', m1, m3, m4, m5, kBM_ap, ht, ha]
      · have hp' : ¬ (s.length : Int) < 400 := by omega
        refine ⟨_, lo.set 6 (some (.d (.int (k : Nat)))), _, tgt_nm 6, .inl ?_, s, rfl, by omega, by omega, hr, L.set (by omega) _⟩
        unfold l__law_draws_1
        simp [-getElem?_pos, -List.map_map, -List.map_append, List.getElem?_set, L.l, L.h1, L.h2, hlen mh, hp'])
    ⟨s, rfl, by omega, by omega, hr, L⟩
  exact ⟨lo', s', e, by rw [List.length_range] at r1; omega, r2, r3⟩
theorem law_draws_v (ns : List Int) (hl : ns.length ≤ 63) (mh : Mh) : ∃ ds : List Int, ds.length = 400 ∧ inR ds ∧ ∃ gb, m__law_draws [.scr ns, .d (.int 400)] mh = .ok (.d (.list (ds.map .int))) (mh ++ gb) := by
  let lo0 : Lo := [some (.scr ns), some (.d (.int 400)), some (.ref mh.length), some (.d (.int 7)), none, none, none]
  have L0 : LD mh.length lo0 := ⟨rfl, rfl, rfl, 7, rfl, by omega, by omega⟩
  obtain ⟨lo1, mh1, e1, s1, rfl, b1, r1, L1⟩ := forL_n (gg := always) (t := .nm 4) (m := l__law_draws_3) (σ := Unit)
    (fun i _ lo mh' => ∃ s : List Int, mh' = mh ++ [.lst ((s.map PyData.int).map .d)] ∧ s.length ≤ 60 * i ∧ inR s ∧ LD mh.length lo)
    (fun x : Int => PV.d (.int x)) (fun _ _ => ()) (fun _ _ _ _ _ => trivial) 63 (ns.take 63) 0 () lo0 (mh ++ [.lst []]) (by rw [List.length_take]; omega)
    (by
      rintro i _ x lo mh' hi hx ⟨s, rfl, hs, hr, L⟩
      obtain ⟨lo', s', e, c1, c2, c3⟩ := dr_3 (mh := mh) (60 * i) (by omega) s hs hr (lo.set 4 (some (.d (.int x)))) (L.set (by omega) _) x (by rw [List.getElem?_set_self (by rw [L.l]; omega)])
      exact ⟨_, lo', _, tgt_nm 4, .inl e, s', rfl, by omega, c2, c3⟩)
    ⟨[], rfl, Nat.zero_le _, fun x hx => (by cases hx), L0⟩
  have hb1 : s1.length ≤ 100000 := by
    have : (ns.take 63).length ≤ 63 := by rw [List.length_take]; omega
    omega
  obtain ⟨lo2, s2, e2, c1, c2, L2⟩ := dr_1 (mh := mh) s1 r1 hb1 lo1 L1
  refine ⟨s2.take 400, by rw [List.length_take]; omega, fun x hx => c2 x (List.mem_of_mem_take hx), [.lst ((s2.map PyData.int).map .d)], ?_⟩
  unfold m__law_draws dM b__law_draws
  rw [show startL 7 [.scr ns, .d (.int 400)] = [some (.scr ns), some (.d (.int 400)), none, none, none, none, none] from rfl]
  have p1 : (sSet 2 (mObj (lDisp aNil))) [some (.scr ns), some (.d (.int 400)), none, none, none, none, none] mh = .nx [some (.scr ns), some (.d (.int 400)), some (.ref mh.length), none, none, none, none] (mh ++ [.lst []]) := by simp
  have p2 : (sSet 3 (mC (.int 7))) [some (.scr ns), some (.d (.int 400)), some (.ref mh.length), none, none, none, none] (mh ++ [.lst []]) = .nx lo0 (mh ++ [.lst []]) := by simp [lo0]
  have p3 : (sFor (iSeq (mSl (mV 0) pNo (pSome (mC (.int 63))))) (.nm 4) l__law_draws_3) lo0 (mh ++ [.lst []]) = .nx lo1 (mh ++ [.lst ((s1.map PyData.int).map .d)]) := by
    have hc := cut_to (ns.map PyData.int) 63
    have hi : iSeq (mSl (mV 0) pNo (pSome (mC (.int 63)))) lo0 (mh ++ [.lst []]) = .ok ((ns.take 63).map fun x : Int => PV.d (.int x), always) (mh ++ [.lst []]) := by
      have hc : cutP (ns.map PyData.int) none (some 63) = (ns.map PyData.int).take 63 := hc
      simp [lo0, hc, -List.map_map, ← List.map_take]
      rw [map_d]
    rw [sFor_ap, hi, ofR_ok]; exact e1
  have p4 : (sFor (iRg1 (aCons (mV 1) aNil)) (.nm 6) l__law_draws_1) lo1 (mh ++ [.lst ((s1.map PyData.int).map .d)]) = .nx lo2 (mh ++ [.lst ((s2.map PyData.int).map .d)]) := by
    have hi : iRg1 (aCons (mV 1) aNil) lo1 (mh ++ [.lst ((s1.map PyData.int).map .d)]) = .ok ((List.range 400).map fun i : Nat => PV.d (.int (i : Nat)), always) (mh ++ [.lst ((s1.map PyData.int).map .d)]) := iRg1_n (n := 400) (by omega) (by rw [aCons_ap, mV_ap, L1.h1]; rfl)
    rw [sFor_ap, hi, ofR_ok]; exact e2
  have p5 : (sRet (mSl (mV 2) pNo (pSome (mV 1)))) lo2 (mh ++ [.lst ((s2.map PyData.int).map .d)]) = .rt (.d (.list ((s2.take 400).map .int))) (mh ++ [.lst ((s2.map PyData.int).map .d)]) := by
    have hc : cutP ((s2.map PyData.int).map PV.d) none (some 400) = ((s2.map PyData.int).map PV.d).take 400 := cut_to _ 400
    have hk := kSl3_r (n := mh.length) (mh := mh ++ [.lst ((s2.map PyData.int).map .d)]) (xs := (s2.map PyData.int).map .d) none (some 400) (by simp)
    rw [hc, ← List.map_take, ← List.map_take, frzL_d] at hk
    simp [-getElem?_pos, -List.map_map, -List.map_take, L2.h1, L2.h2, hk]
  rw [sSeq_ap, p1, sq_nx, sSeq_ap, p2, sq_nx, sSeq_ap, p3, sq_nx, sSeq_ap, p4, sq_nx, sSeq_ap, p5, sq_rt]
  rfl
end
end K70


set_option Elab.async false
set_option linter.all false
set_option maxRecDepth 100000
set_option maxHeartbeats 4000000
namespace K70
open PySem EL
/-! ### lines by their names; turns, plain -/
def findL (ls : List Ln) (n : Str) : Option Ln := ls.find? fun l => decide (l.nm = n)
def kvL (ls : List Ln) : SKv := ls.map fun l => (l.nm, PV.d (lnD l))
theorem kvL_names (ls : List Ln) : (kvL ls).map (·.1) = nms ls := by unfold kvL nms; rw [List.map_map]; rfl
theorem lookL (ls : List Ln) (n : Str) : lookS (kvL ls) n = (findL ls n).map fun l => PV.d (lnD l) := by
  unfold lookS kvL findL
  rw [List.find?_map, Option.map_map]
  rfl
theorem findL_some {ls : List Ln} {n : Str} {l : Ln} (h : findL ls n = some l) : l ∈ ls ∧ l.nm = n := by
  unfold findL at h
  exact ⟨List.mem_of_find?_eq_some h, of_decide_eq_true (List.find?_some (p := fun l : Ln => decide (l.nm = n)) h)⟩
theorem findL_none {ls : List Ln} {n : Str} : findL ls n = none ↔ n ∉ nms ls := by
  unfold findL nms
  rw [List.find?_eq_none]
  simp only [decide_eq_true_eq, List.mem_map, not_exists, not_and]
theorem nm_inj : ∀ {ls : List Ln}, (nms ls).Nodup → ∀ {l k : Ln}, l ∈ ls → k ∈ ls → k.nm = l.nm → k = l
  | [], _, _, _, hl, _, _ => by cases hl
  | x :: xs, h, l, k, hl, hk, e => by
    unfold nms at h
    rw [List.map_cons, List.nodup_cons] at h
    rcases List.mem_cons.mp hl with rfl | hl'
    · rcases List.mem_cons.mp hk with rfl | hk'
      · rfl
      · exact absurd (e ▸ List.mem_map_of_mem (f := fun l : Ln => l.nm) hk') h.1
    · rcases List.mem_cons.mp hk with rfl | hk'
      · exact absurd (e ▸ List.mem_map_of_mem (f := fun l : Ln => l.nm) hl') h.1
      · exact nm_inj h.2 hl' hk' e
theorem findL_nd {ls : List Ln} (h : (nms ls).Nodup) {l : Ln} (hl : l ∈ ls) : findL ls l.nm = some l := by
  cases hf : findL ls l.nm with
  | none => exact absurd (List.mem_map_of_mem (f := fun l : Ln => l.nm) hl) (findL_none.mp hf)
  | some k =>
    obtain ⟨h1, h2⟩ := findL_some hf
    rw [nm_inj h hl h1 h2]
def eitherL : List Str := ["add", "times", "least", "greatest"]
def swapL (ls : List Ln) (n : Str) (nd : List Str) : List Ln := ls.map fun o => if o.nm = n then ⟨o.nm, o.w, nd⟩ else o
def usedN (T : Tx) (z : Str) : Nat := (T.ls.map fun o => o.nd.count z).sum + T.gs.count z
/-- what stands where a line stood, behind a turn to the left -/
def leftF (n i w : Str) (a b c : Str) (o : Ln) : List Ln := if o.nm = n then [⟨i, w, [a, b]⟩, ⟨n, w, [i, c]⟩] else if o.nm = i then [] else [o]
def turnT (T : Tx) (s n : Str) : Option Tx := match findL T.ls n with
  | none => none
  | some l => if l.w ∈ eitherL then (if s = ("swap" : Str) then some ⟨swapL T.ls n l.nd.reverse, T.gs⟩ else match findL T.ls (l.nd.getD 1 "") with
    | none => none
    | some i => if i.w = l.w ∧ usedN T i.nm = 1 then some ⟨T.ls.flatMap (leftF n i.nm l.w (l.nd.getD 0 "") (i.nd.getD 0 "") (i.nd.getD 1 "")), T.gs⟩ else none) else none
theorem either_need {w : Str} (h : w ∈ eitherL) : t_NEEDS.lookup w = some (2 : Int) := by
  have : ∀ w, w ∈ eitherL → t_NEEDS.lookup w = some (2 : Int) := by decide +kernel
  exact this w h
theorem nd_two {T : Tx} (h : TOk T) {l : Ln} (hl : l ∈ T.ls) (hw : l.w ∈ eitherL) : ∃ a b, l.nd = [a, b] ∧ a ∈ nms T.ls ∧ b ∈ nms T.ls := by
  obtain ⟨-, h1, h2⟩ := h.ls.each l hl
  rw [either_need hw] at h1
  have h1 : (2 : Int) = (l.nd.length : Int) := by injection h1
  have h2' : ∀ n, n ∈ l.nd → n ∈ nms T.ls := fun n hn => by simpa using h2 n hn
  generalize l.nd = nd at h1 h2'
  match nd, h1 with
  | [a, b], _ => exact ⟨a, b, rfl, h2' a (by simp), h2' b (by simp)⟩
  | [], h1 => simp at h1
  | [_], h1 => simp at h1
  | _ :: _ :: _ :: _, h1 => simp at h1; omega
end K70


set_option Elab.async false
set_option linter.all false
set_option maxRecDepth 100000
set_option maxHeartbeats 4000000
namespace K70
open PySem EL
theorem ls_0 (T : Tx) (mh : Mh) : oIxA (.d (txD T)) (.d (.int 0)) mh = .ok (.d (lsD T.ls)) mh := by unfold txD; simp
theorem gs_1 (T : Tx) (mh : Mh) : oIxA (.d (txD T)) (.d (.int 1)) mh = .ok (.d (gsD T.gs)) mh := by unfold txD; simp
theorem ls_sq (ls : List Ln) (mh : Mh) : kSeq (.d (lsD ls)) mh = .ok ((ls.map lnD).map .d, always) mh := rfl
theorem gs_sq (gs : List Str) (mh : Mh) : kSeq (.d (gsD gs)) mh = .ok ((gs.map .str).map .d, always) mh := rfl
theorem ln_0 (l : Ln) (mh : Mh) : oIxA (.d (lnD l)) (.d (.int 0)) mh = .ok (.d (.str l.nm)) mh := by unfold lnD; simp
theorem ln_1 (l : Ln) (mh : Mh) : oIxA (.d (lnD l)) (.d (.int 1)) mh = .ok (.d (.str l.w)) mh := by unfold lnD; simp
theorem ln_2 (l : Ln) (mh : Mh) : oIxA (.d (lnD l)) (.d (.int 2)) mh = .ok (.d (.tuple (sL l.nd))) mh := by unfold lnD; simp
/-! ### the program: a line with other needs -/
theorem put_line_v {T : Tx} (hl : T.ls.length ≤ 1000) (n : Str) (nd : List Str) (mh : Mh) : m_put_line [.d (txD T), .d (.str n), .d (.tuple (sL nd))] mh = .ok (.d (txD ⟨swapL T.ls n nd, T.gs⟩)) mh := by
  unfold m_put_line dM b_put_line
  have e1 : lcL always (.nm 3) bYes (mIf (mB (bind2 (bind2 (mV 3) (mC (.int 0)) oIxA) (mV 1) oEq)) (mTup (aCons (bind2 (mV 3) (mC (.int 0)) oIxA) (aCons (bind2 (mV 3) (mC (.int 1)) oIxA) (aCons (mV 2) aNil)))) (mV 3)) [some (.d (txD T)), some (.d (.str n)), some (.d (.tuple (sL nd))), none] ((T.ls.map lnD).map .d) mh = .ok ((T.ls.map fun o => lnD (if o.nm = n then ⟨o.nm, o.w, nd⟩ else o)).map .d) mh :=
    lcL_d T.ls lnD (fun o => lnD (if o.nm = n then ⟨o.nm, o.w, nd⟩ else o)) trivial fun o hm => ⟨_, rfl, by
      by_cases h : o.nm = n
      · have hd : decide (o.nm = n) = true := decide_eq_true h
        rw [if_pos h]
        simp [ln_0, ln_1, PyData.depth, eqv_str, hd, lnD]
      · have hd : decide (o.nm = n) = false := decide_eq_false h
        rw [if_neg h]
        simp [ln_0, PyData.depth, eqv_str, hd]⟩
  have hr : (T.ls.map fun o => lnD (if o.nm = n then ⟨o.nm, o.w, nd⟩ else o)) = (swapL T.ls n nd).map lnD := by unfold swapL; rw [List.map_map]; rfl
  rw [hr] at e1
  have hk : kLen (((swapL T.ls n nd).map lnD).map .d) mh = .ok (((swapL T.ls n nd).map lnD).map .d) mh := kLen_ok (by unfold swapL; simp; omega)
  have hx := ls_0 T mh
  have hg := gs_1 T mh
  have hs := ls_sq T.ls mh
  have hf : txD ⟨swapL T.ls n nd, T.gs⟩ = .tuple [.tuple ((swapL T.ls n nd).map lnD), gsD T.gs] := rfl
  rw [hf]
  generalize (swapL T.ls n nd).map lnD = ys at *
  generalize (mIf (mB (bind2 (bind2 (mV 3) (mC (.int 0)) oIxA) (mV 1) oEq)) (mTup (aCons (bind2 (mV 3) (mC (.int 0)) oIxA) (aCons (bind2 (mV 3) (mC (.int 1)) oIxA) (aCons (mV 2) aNil)))) (mV 3)) = ME at *
  have f1 := frzL_d (mh := mh) ys
  simp [-List.map_map, startL, hx, hg, hs, e1, hk, f1, fin]
/-! ### a line moved -/
def movF (n i : Str) (li : Ln) (o : Ln) : List Ln := (if o.nm = n then [li] else []) ++ (if o.nm = i then [] else [o])
theorem dict_lines {T : Tx} (hn : (nms T.ls).Nodup) (hl : T.ls.length ≤ 1000) {j : Nat} {lo : Lo} (hj : j < lo.length) {own : List (Str × Nat)} (ho : own.map (·.2) = [j]) (h0 : lo[0]? = some (some (.d (txD T)))) (hj0 : j ≠ 0) (mh : Mh) :
    mDcF (iSeq (bind2 (mV 0) (mC (.int 0)) oIxA)) (.nm j) bYes (bind2 (mV j) (mC (.int 0)) oIxA) (mV j) own lo mh = .ok (.dct (kvS (kvL T.ls))) mh := by
  have hi : iSeq (bind2 (mV 0) (mC (.int 0)) oIxA) lo mh = .ok (T.ls.map (fun l => PV.d (lnD l)), always) mh := by
    have := ls_0 T mh
    have h2 := ls_sq T.ls mh
    rw [map_d] at h2
    simp [-getElem?_pos, h0, this, h2]
  have g : ∀ v, ((lo.set j none).set j v)[j]? = some v := fun v => by rw [List.getElem?_set_self (by simpa using hj)]
  have g' : ∀ v, (lo.set j v)[j]? = some v := fun v => by rw [List.getElem?_set_self hj]
  have e := dcF_to (own := own) (mk := bind2 (mV j) (mC (.int 0)) oIxA) (mv := mV j) (t := .nm j) (lo := lo) (mh := mh) T.ls (fun l => PV.d (lnD l)) (fun l => .str l.nm) (fun l => .d (lnD l)) hi trivial (fun _ _ => rfl) (by omega) fun l _ => ⟨_, rfl, by
    rw [ho]
    simp [-getElem?_pos, g', ln_0], by
    rw [ho]
    simp [-getElem?_pos, g']⟩
  rw [e, foldD_S T.ls (fun l => l.nm) (fun l => .d (lnD l)) hn]
  rfl
structure MA (T : Tx) (i n : Str) (m : Nat) (lo : Lo) : Prop where
  l : lo.length = 6
  h0 : lo[0]? = some (some (.d (txD T)))
  h1 : lo[1]? = some (some (.d (.str i)))
  h2 : lo[2]? = some (some (.d (.str n)))
  h3 : lo[3]? = some (some (.dct (kvS (kvL T.ls))))
  h4 : lo[4]? = some (some (.ref m))
theorem MA.set {T : Tx} {i n : Str} {m : Nat} {lo : Lo} (L : MA T i n m lo) (v : Option PV) : MA T i n m (lo.set 5 v) :=
  ⟨by simp [L.l], by rw [List.getElem?_set_ne (by omega)]; exact L.h0, by rw [List.getElem?_set_ne (by omega)]; exact L.h1, by rw [List.getElem?_set_ne (by omega)]; exact L.h2, by rw [List.getElem?_set_ne (by omega)]; exact L.h3, by rw [List.getElem?_set_ne (by omega)]; exact L.h4⟩
theorem ma_1 {T : Tx} {i n : Str} {li : Ln} (hi : findL T.ls i = some li) {lo : Lo} {mh : Mh} (L : MA T i n mh.length lo) {s : List Ln} (hs : s.length ≤ 100000) {o : Ln} (h5 : lo[5]? = some (some (.d (lnD o)))) :
    l_moved_ahead_1 lo (mh ++ [.lst ((s.map lnD).map .d)]) = .nx lo (mh ++ [.lst (((s ++ movF n i li o).map lnD).map .d)]) := by
  have hix : ∀ mh, oIxA (.dct (kvS (kvL T.ls))) (.d (.str i)) mh = .ok (.d (lnD li)) mh := fun mh => ix_dc (IsDc.dct _) rfl (by rw [look_kvS, lookL, hi]; rfl)
  have ap := fun (s : List Ln) (hs : s.length ≤ 200000) (l : Ln) => app_s (mh := mh) (n := mh.length) (s.map lnD) (lnD l) rfl (by rw [List.length_map]; omega)
  have ty := fun (s : List Ln) => tyM_s (mh := mh) (n := mh.length) (s.map lnD) rfl
  have p0 : (sIf (mB (bind2 (bind2 (mV 5) (mC (.int 0)) oIxA) (mV 2) oEq)) (sSeq (sExpr (mBM "list" oAppend (mV 4) (aCons (bind2 (mV 3) (mV 1) oIxA) aNil))) sNil) sNil) lo (mh ++ [.lst ((s.map lnD).map .d)]) = .nx lo (mh ++ [.lst (((s ++ if o.nm = n then [li] else []).map lnD).map .d)]) := by
    by_cases h : o.nm = n
    · have hd : decide (o.nm = n) = true := decide_eq_true h
      have ap := ap s (by omega) li
      rw [if_pos h, List.map_append, List.map_cons, List.map_nil]
      have ty := ty s
      generalize mh ++ [.lst ((s.map lnD).map .d)] = m1 at *
      generalize mh ++ [.lst ((s.map lnD ++ [lnD li]).map .d)] = m2 at *
      simp [-getElem?_pos, h5, ln_0, L.h1, L.h2, L.h3, L.h4, PyData.depth, eqv_str, hd, kBM_ap, ty, hix, ap]
    · have hd : decide (o.nm = n) = false := decide_eq_false h
      rw [if_neg h, List.append_nil]
      generalize mh ++ [.lst ((s.map lnD).map .d)] = m1 at *
      simp [-getElem?_pos, h5, ln_0, L.h2, PyData.depth, eqv_str, hd]
  have hs2 : (s ++ if o.nm = n then [li] else []).length ≤ 200000 := by split <;> simp <;> omega
  have p1 : (sIf (mB (bind2 (bind2 (mV 5) (mC (.int 0)) oIxA) (mV 1) oNe)) (sSeq (sExpr (mBM "list" oAppend (mV 4) (aCons (mV 5) aNil))) sNil) sNil) lo (mh ++ [.lst (((s ++ if o.nm = n then [li] else []).map lnD).map .d)]) = .nx lo (mh ++ [.lst (((s ++ movF n i li o).map lnD).map .d)]) := by
    unfold movF
    rw [← List.append_assoc]
    generalize (s ++ if o.nm = n then [li] else []) = s2 at *
    by_cases h : o.nm = i
    · have hd : decide (o.nm = i) = true := decide_eq_true h
      rw [if_pos h, List.append_nil]
      generalize mh ++ [.lst ((s2.map lnD).map .d)] = m1 at *
      simp [-getElem?_pos, h5, ln_0, L.h1, PyData.depth, eqv_str, hd]
    · have hd : decide (o.nm = i) = false := decide_eq_false h
      have ap := ap s2 hs2 o
      have ty := ty s2
      rw [if_neg h, List.map_append, List.map_cons, List.map_nil]
      generalize mh ++ [.lst ((s2.map lnD).map .d)] = m1 at *
      generalize mh ++ [.lst ((s2.map lnD ++ [lnD o]).map .d)] = m2 at *
      simp [-getElem?_pos, h5, ln_0, L.h1, L.h4, PyData.depth, eqv_str, hd, kBM_ap, ty, ap]
  unfold l_moved_ahead_1
  rw [sSeq_ap, p0, sq_nx, sSeq_ap, p1, sq_nx, sNil_ap]
theorem movF_len (n i : Str) (li o : Ln) : (movF n i li o).length ≤ 2 := by
  unfold movF
  split <;> split <;> simp
theorem moved_v {T : Tx} (hn : (nms T.ls).Nodup) (hl : T.ls.length ≤ 1000) {i n : Str} {li : Ln} (hi : findL T.ls i = some li) (mh : Mh) : ∃ gb, m_moved_ahead [.d (txD T), .d (.str i), .d (.str n)] mh = .ok (.d (txD ⟨T.ls.flatMap (movF n i li), T.gs⟩)) (mh ++ gb) := by
  let lo0 : Lo := startL 6 [.d (txD T), .d (.str i), .d (.str n)]
  let lo1 : Lo := lo0.set 3 (some (.dct (kvS (kvL T.ls))))
  have p0 : (sSet 3 (mDcF (iSeq (bind2 (mV 0) (mC (.int 0)) oIxA)) (.nm 5) bYes (bind2 (mV 5) (mC (.int 0)) oIxA) (mV 5) ([("one", 5)] : List (Str × Nat)))) lo0 mh = .nx lo1 mh := by
    rw [sSet_ap, dict_lines hn hl (j := 5) (lo := lo0) (by simp [lo0, startL]) rfl rfl (by omega)]; rfl
  let lo2 : Lo := lo1.set 4 (some (.ref mh.length))
  have p1 : (sSet 4 (mObj (lDisp aNil))) lo1 mh = .nx lo2 (mh ++ [.lst ((([] : List Ln).map lnD).map .d)]) := rfl
  have L2 : MA T i n mh.length lo2 := ⟨rfl, rfl, rfl, rfl, rfl, rfl⟩
  obtain ⟨lo3, mh3, e3, s, hse, hsl, rfl, L3⟩ := forL_i (gg := always) (t := .nm 5) (m := l_moved_ahead_1)
    (fun k lo mh' => ∃ s, s = (T.ls.take k).flatMap (movF n i li) ∧ s.length ≤ 2 * k ∧ mh' = mh ++ [.lst ((s.map lnD).map .d)] ∧ MA T i n mh.length lo)
    (fun l : Ln => PV.d (lnD l)) (fun _ _ _ _ => trivial) T.ls 0 lo2 (mh ++ [.lst ((([] : List Ln).map lnD).map .d)])
    (by
      rintro k x lo mh' hx ⟨s, hse, hsl, rfl, L⟩
      rw [Nat.zero_add] at hse hsl ⊢
      have hk := (List.getElem?_eq_some_iff.mp hx).1
      have e := ma_1 (o := x) (s := s) hi (L.set (some (.d (lnD x)))) (by omega) (by rw [List.getElem?_set_self (by rw [L.l]; omega)])
      refine ⟨_, _, _, tgt_nm 5, .inl e, s ++ movF n i li x, ?_, ?_, rfl, L.set _⟩
      · rw [List.take_add_one, hx, List.flatMap_append, ← hse]; simp
      · rw [List.length_append]; have := movF_len n i li x; omega)
    ⟨[], rfl, Nat.zero_le _, rfl, L2⟩
  rw [Nat.zero_add, List.take_length] at hse
  have hs : iSeq (bind2 (mV 0) (mC (.int 0)) oIxA) lo2 (mh ++ [.lst ((([] : List Ln).map lnD).map .d)]) = .ok (T.ls.map (fun l => PV.d (lnD l)), always) (mh ++ [.lst ((([] : List Ln).map lnD).map .d)]) := by
    have h0 := L2.h0
    generalize lo2 = lo at h0 ⊢
    generalize (mh ++ [.lst ((([] : List Ln).map lnD).map .d)]) = m1
    have := ls_0 T m1
    have h2 := ls_sq T.ls m1
    rw [map_d] at h2
    simp [-getElem?_pos, h0, this, h2]
  have p2 : (sFor (iSeq (bind2 (mV 0) (mC (.int 0)) oIxA)) (.nm 5) l_moved_ahead_1) lo2 (mh ++ [.lst ((([] : List Ln).map lnD).map .d)]) = .nx lo3 (mh ++ [.lst ((s.map lnD).map .d)]) := by rw [sFor_ap, hs, ofR_ok]; exact e3
  refine ⟨[.lst ((s.map lnD).map .d)], ?_⟩
  have p3 : (sRet (mTup (aCons (mCB nTuple (aCons (mV 4) aNil)) (aCons (bind2 (mV 0) (mC (.int 1)) oIxA) aNil)))) lo3 (mh ++ [.lst ((s.map lnD).map .d)]) = .rt (.d (txD ⟨T.ls.flatMap (movF n i li), T.gs⟩)) (mh ++ [.lst ((s.map lnD).map .d)]) := by
    have ht := nTuple_r (mh := mh ++ [.lst ((s.map lnD).map .d)]) (n := mh.length) (ds := s.map lnD) (by simp)
    rw [← hse]
    have hf : txD ⟨s, T.gs⟩ = .tuple [.tuple (s.map lnD), gsD T.gs] := rfl
    rw [hf]
    generalize (mh ++ [.lst ((s.map lnD).map .d)]) = m1 at *
    have hg := gs_1 T m1
    generalize s.map lnD = ys at *
    simp [-getElem?_pos, L3.h0, L3.h4, ht, hg]
  unfold m_moved_ahead dM b_moved_ahead
  show (match (sSeq _ _) lo0 mh with | _ => _) = _
  rw [sSeq_ap, p0, sq_nx, sSeq_ap, p1, sq_nx, sSeq_ap, p2, sq_nx, sSeq_ap, p3]
  rfl
end K70


set_option Elab.async false
set_option linter.all false
set_option maxRecDepth 100000
set_option maxHeartbeats 4000000
namespace K70
open PySem EL
/-! ### how often each line is used -/
def kvC (ls : List Ln) (c : Str → Nat) : SKv := ls.map fun l => (l.nm, PV.d (.int (c l.nm : Nat)))
theorem kvC_len (ls : List Ln) (c : Str → Nat) : (kvS (kvC ls c)).length = ls.length := by rw [kvS_len]; unfold kvC; simp
theorem kvC_look {ls : List Ln} {c : Str → Nat} {z : Str} (h : z ∈ nms ls) : look (.str z) (kvS (kvC ls c)) = some (.d (.int (c z : Nat))) := by
  rw [look_kvS]
  unfold lookS kvC
  rw [List.find?_map, Option.map_map]
  cases hf : ls.find? ((fun p : Str × PV => decide (p.1 = z)) ∘ fun l : Ln => (l.nm, PV.d (.int (c l.nm : Nat)))) with
  | none =>
    rw [List.find?_eq_none] at hf
    obtain ⟨l, hl, rfl⟩ := List.mem_map.mp h
    have := hf l hl
    simp at this
  | some l =>
    have := List.find?_some hf
    simp only [Function.comp, decide_eq_true_eq] at this
    subst this
    rfl
def incC (c : Str → Nat) (z : Str) : Str → Nat := fun y => if y = z then c y + 1 else c y
theorem kvC_put {ls : List Ln} {c : Str → Nat} {z : Str} (h : z ∈ nms ls) : putD (kvS (kvC ls c)) (.str z) (.d (.int ((c z : Nat) + 1))) = kvS (kvC ls (incC c z)) := by
  rw [put_kvS]
  congr 1
  unfold putS kvC
  have ha : ((ls.map fun l => (l.nm, PV.d (.int (c l.nm : Nat)))).any fun p => decide (p.1 = z)) = true := by
    obtain ⟨l, hl, rfl⟩ := List.mem_map.mp h
    rw [List.any_map, List.any_eq_true]
    exact ⟨l, hl, by simp⟩
  rw [if_pos ha, List.map_map]
  refine List.map_congr_left fun l _ => ?_
  unfold incC
  by_cases e : l.nm = z
  · subst e
    simp
  · simp [e]
theorem foldl_inc (l : List Str) : ∀ (c : Str → Nat), l.foldl incC c = fun y => c y + l.count y := by
  induction l with
  | nil => intro c; rfl
  | cons z l ih =>
    intro c
    rw [List.foldl_cons, ih]
    funext y
    unfold incC
    rw [List.count_cons]
    by_cases e : y = z
    · subst e; simp; omega
    · have : (z == y) = false := beq_eq_false_iff_ne.mpr (Ne.symm e)
      simp [e, this]
structure UB (T : Tx) (m : Nat) (lo : Lo) : Prop where
  l : lo.length = 5
  h0 : lo[0]? = some (some (.d (txD T)))
  h1 : lo[1]? = some (some (.ref m))
theorem UB.set {T : Tx} {m : Nat} {lo : Lo} (L : UB T m lo) {i : Nat} (hi : 2 ≤ i) (v : Option PV) : UB T m (lo.set i v) :=
  ⟨by simp [L.l], by rw [List.getElem?_set_ne (by omega)]; exact L.h0, by rw [List.getElem?_set_ne (by omega)]; exact L.h1⟩
def hU (mh : Mh) (ls : List Ln) (c : Str → Nat) : Mh := mh ++ [.dct (kvS (kvC ls c))]
theorem daug {T : Tx} (hl : T.ls.length ≤ 1000) {mh : Mh} {lo : Lo} (L : UB T mh.length lo) {j : Nat} {z : Str} (hz : z ∈ nms T.ls) (hj : lo[j]? = some (some (.d (.str z)))) (c : Str → Nat) :
    (sDaug (mV 1) (mV j) (mC (.int 1))) lo (hU mh T.ls c) = .nx lo (hU mh T.ls (incC c z)) := by
  have hk := kDaug2_ok (me := mC (.int 1)) (lo := lo) (mh := hU mh T.ls c) (r := mh.length) (x := .str z) (j := 1) (by unfold hU; simp) rfl (kvC_look (c := c) hz) (by rw [kvC_len]; omega) rfl
  rw [kvC_put hz] at hk
  have hs : (hU mh T.ls c).set mh.length (.dct (kvS (kvC T.ls (incC c z)))) = hU mh T.ls (incC c z) := by
    unfold hU
    rw [List.set_append_right _ _ (Nat.le_refl _), Nat.sub_self]; rfl
  rw [hs] at hk
  rw [sDaug_ap, mV_ap, L.h1, gV_some, ofR_ok, kDaug1_ap, mV_ap, hj, gV_some, ofR_ok]
  exact hk
theorem uses_2 {T : Tx} (hl : T.ls.length ≤ 1000) {mh : Mh} : ∀ {zs : List Str} (_ : ∀ z, z ∈ zs → z ∈ nms T.ls) {lo : Lo} (_ : UB T mh.length lo) (c : Str → Nat),
    ∃ lo', forL always (.nm 3) l_uses_by_2 ((zs.map .str).map .d) lo (hU mh T.ls c) = .nx lo' (hU mh T.ls (zs.foldl incC c)) ∧ UB T mh.length lo' := by
  intro zs hz lo L c
  rw [map_d]
  obtain ⟨lo', mh', e, h1, h2⟩ := forL_to (gg := always) (t := .nm 3) (m := l_uses_by_2) (σ := Str → Nat) (fun c lo mh' => mh' = hU mh T.ls c ∧ UB T mh.length lo) (fun z : Str => PV.d (.str z)) incC (fun _ _ _ _ => trivial) zs c lo (hU mh T.ls c)
    (by
      rintro c z lo mh' hm ⟨rfl, L⟩
      have e := daug hl (L.set (i := 3) (by omega) (some (.d (.str z)))) (hz z hm) (j := 3) (by rw [List.getElem?_set_self (by rw [L.l]; omega)]) c
      refine ⟨_, lo.set 3 (some (.d (.str z))), hU mh T.ls (incC c z), tgt_nm 3, .inl ?_, rfl, L.set (by omega) _⟩
      unfold l_uses_by_2
      rw [upL_cons, upL_nil, sSeq_ap, e, sq_nx, sNil_ap]) ⟨rfl, L⟩
  rw [h1] at e
  exact ⟨lo', e, h2⟩
theorem uses_1 {T : Tx} (hl : T.ls.length ≤ 1000) {mh : Mh} : ∀ {zs : List Str} (_ : ∀ z, z ∈ zs → z ∈ nms T.ls) {lo : Lo} (_ : UB T mh.length lo) (c : Str → Nat),
    ∃ lo', forL always (.nm 4) l_uses_by_1 ((zs.map .str).map .d) lo (hU mh T.ls c) = .nx lo' (hU mh T.ls (zs.foldl incC c)) ∧ UB T mh.length lo' := by
  intro zs hz lo L c
  rw [map_d]
  obtain ⟨lo', mh', e, h1, h2⟩ := forL_to (gg := always) (t := .nm 4) (m := l_uses_by_1) (σ := Str → Nat) (fun c lo mh' => mh' = hU mh T.ls c ∧ UB T mh.length lo) (fun z : Str => PV.d (.str z)) incC (fun _ _ _ _ => trivial) zs c lo (hU mh T.ls c)
    (by
      rintro c z lo mh' hm ⟨rfl, L⟩
      have e := daug hl (L.set (i := 4) (by omega) (some (.d (.str z)))) (hz z hm) (j := 4) (by rw [List.getElem?_set_self (by rw [L.l]; omega)]) c
      refine ⟨_, lo.set 4 (some (.d (.str z))), hU mh T.ls (incC c z), tgt_nm 4, .inl ?_, rfl, L.set (by omega) _⟩
      unfold l_uses_by_1
      rw [upL_cons, upL_nil, sSeq_ap, e, sq_nx, sNil_ap]) ⟨rfl, L⟩
  rw [h1] at e
  exact ⟨lo', e, h2⟩
theorem allDk_C (ls : List Ln) (c : Str → Nat) : allDk (kvS (kvC ls c)) = true := by
  unfold allDk kvS kvC
  rw [List.map_map, List.all_map, List.all_eq_true]
  intro l _; rfl
theorem fold_flat (T : Tx) : ∀ (ls : List Ln) (c : Str → Nat), ls.foldl (fun c o => o.nd.foldl incC c) c = fun y => c y + (ls.map fun o => o.nd.count y).sum
  | [], c => rfl
  | o :: ls, c => by
    rw [List.foldl_cons, fold_flat T ls, foldl_inc]
    funext y
    rw [List.map_cons, List.sum_cons]
    show c y + o.nd.count y + _ = _
    omega
theorem uses_v {T : Tx} (h : TOk T) (mh : Mh) : kCall 1 m_uses_by [.d (txD T)] mh = .ok (.dct (kvS (kvC T.ls (usedN T)))) mh := by
  have hn := h.ls.nd
  have n60 := h.n60
  let lo0 : Lo := startL 5 [.d (txD T)]
  let lo1 : Lo := lo0.set 1 (some (.ref mh.length))
  have p0 : (sSet 1 (mDcO (iSeq (bind2 (mV 0) (mC (.int 0)) oIxA)) (.nm 2) bYes (bind2 (mV 2) (mC (.int 0)) oIxA) (mC (.int 0)) ([("one", 2)] : List (Str × Nat)))) lo0 mh = .nx lo1 (hU mh T.ls fun _ => 0) := by
    have hi : iSeq (bind2 (mV 0) (mC (.int 0)) oIxA) lo0 mh = .ok (T.ls.map (fun l => PV.d (lnD l)), always) mh := by
      have := ls_0 T mh
      have h2 := ls_sq T.ls mh
      rw [map_d] at h2
      have h0 : lo0[0]? = some (some (.d (txD T))) := rfl
      generalize lo0 = lo at h0 ⊢
      simp [-getElem?_pos, h0, this, h2]
    have e := dcO_to (own := [("one", 2)]) (mk := bind2 (mV 2) (mC (.int 0)) oIxA) (mv := mC (.int 0)) (t := .nm 2) (lo := lo0) (mh := mh) T.ls (fun l => PV.d (lnD l)) (fun l => .str l.nm) (fun _ => .d (.int 0)) hi trivial (fun _ _ => rfl) (by omega) fun l _ => ⟨_, rfl, by
      have g : ∀ v, (lo0.set 2 v)[2]? = some v := fun v => by rw [List.getElem?_set_self (by simp [lo0, startL])]
      generalize lo0 = lo at g ⊢
      simp [-getElem?_pos, g, ln_0], rfl⟩
    rw [foldD_S T.ls (fun l => l.nm) (fun _ => .d (.int 0)) hn] at e
    rw [sSet_ap, e, ofR_ok]
    rfl
  have L1 : UB T mh.length lo1 := ⟨rfl, rfl, rfl⟩
  have hi1 : ∀ (lo : Lo) (c : Str → Nat), UB T mh.length lo → iSeq (bind2 (mV 0) (mC (.int 0)) oIxA) lo (hU mh T.ls c) = .ok (T.ls.map (fun l => PV.d (lnD l)), always) (hU mh T.ls c) := fun lo c L => by
    generalize hU mh T.ls c = m1
    have := ls_0 T m1
    have h2 := ls_sq T.ls m1
    rw [map_d] at h2
    simp [-getElem?_pos, L.h0, this, h2]
  have hi2 : ∀ (lo : Lo) (c : Str → Nat), UB T mh.length lo → iSeq (bind2 (mV 0) (mC (.int 1)) oIxA) lo (hU mh T.ls c) = .ok ((T.gs.map .str).map .d, always) (hU mh T.ls c) := fun lo c L => by
    generalize hU mh T.ls c = m1
    have := gs_1 T m1
    have h2 := gs_sq T.gs m1
    simp [-getElem?_pos, -List.map_map, L.h0, this, h2]
  obtain ⟨lo2, mh2, e2, h2, L2⟩ := forL_to (gg := always) (t := .nm 2) (m := l_uses_by_3) (σ := Str → Nat) (fun c lo mh' => mh' = hU mh T.ls c ∧ UB T mh.length lo) (fun l : Ln => PV.d (lnD l)) (fun c o => o.nd.foldl incC c) (fun _ _ _ _ => trivial) T.ls (fun _ => 0) lo1 (hU mh T.ls fun _ => 0)
    (by
      rintro c o lo mh' hm ⟨rfl, L⟩
      have hnd : ∀ z, z ∈ o.nd → z ∈ nms T.ls := fun z hz => by simpa using (h.ls.each o hm).2.2 z hz
      have L' : UB T mh.length (lo.set 2 (some (.d (lnD o)))) := L.set (by omega) _
      obtain ⟨lo', e, L''⟩ := uses_2 (by omega) hnd L' c
      refine ⟨_, lo', _, tgt_nm 2, .inl ?_, rfl, L''⟩
      have hs : iSeq (bind2 (mV 2) (mC (.int 2)) oIxA) (lo.set 2 (some (.d (lnD o)))) (hU mh T.ls c) = .ok ((o.nd.map .str).map .d, always) (hU mh T.ls c) := by
        have g : (lo.set 2 (some (.d (lnD o))))[2]? = some (some (.d (lnD o))) := by rw [List.getElem?_set_self (by rw [L.l]; omega)]
        generalize hU mh T.ls c = m1
        have h2 := ln_2 o m1
        have h3 : kSeq (.d (.tuple (sL o.nd))) m1 = .ok ((o.nd.map .str).map .d, always) m1 := rfl
        simp [-getElem?_pos, -kSeq_t, -List.map_map, g, h2, h3]
      unfold l_uses_by_3
      rw [upL_cons, upL_nil, sSeq_ap, sFor_ap, hs, ofR_ok]
      dsimp only
      rw [e, sq_nx, sNil_ap]) ⟨rfl, L1⟩
  rw [fold_flat T] at h2
  subst h2
  have p1 : (sFor (iSeq (bind2 (mV 0) (mC (.int 0)) oIxA)) (.nm 2) l_uses_by_3) lo1 (hU mh T.ls fun _ => 0) = .nx lo2 (hU mh T.ls fun y => 0 + (T.ls.map fun o => o.nd.count y).sum) := by rw [sFor_ap, hi1 lo1 _ L1, ofR_ok]; exact e2
  have hgs : ∀ z, z ∈ T.gs → z ∈ nms T.ls := fun z hz => h.gs.subset hz
  obtain ⟨lo3, e3, L3⟩ := uses_1 (by omega) hgs L2 (fun y => 0 + (T.ls.map fun o => o.nd.count y).sum)
  have p2 : (sFor (iSeq (bind2 (mV 0) (mC (.int 1)) oIxA)) (.nm 4) l_uses_by_1) lo2 (hU mh T.ls fun y => 0 + (T.ls.map fun o => o.nd.count y).sum) = .nx lo3 (hU mh T.ls (T.gs.foldl incC fun y => 0 + (T.ls.map fun o => o.nd.count y).sum)) := by rw [sFor_ap, hi2 lo2 _ L2, ofR_ok]; exact e3
  have hc : T.gs.foldl incC (fun y => 0 + (T.ls.map fun o => o.nd.count y).sum) = usedN T := by
    rw [foldl_inc]
    funext y
    unfold usedN
    omega
  rw [hc] at p2
  have main : m_uses_by [.d (txD T)] mh = .ok (.ref mh.length) (mh ++ [.dct (kvS (kvC T.ls (usedN T)))]) := by
    unfold m_uses_by dM b_uses_by
    have p3 : (sRet (mV 1)) lo3 (hU mh T.ls (usedN T)) = .rt (.ref mh.length) (hU mh T.ls (usedN T)) := by
      rw [sRet_ap, mV_ap, L3.h1, gV_some, ofR_ok]
    show (match (sSeq _ _) lo0 mh with | _ => _) = _
    rw [sSeq_ap, p0, sq_nx, sSeq_ap, p1, sq_nx, sSeq_ap, p2, sq_nx, sSeq_ap, p3]
    rfl
  refine kCall_ok rfl main ?_
  have he : (mh ++ [MO.dct (kvS (kvC T.ls (usedN T)))])[mh.length]? = some (.dct (kvS (kvC T.ls (usedN T)))) := by simp
  unfold frz
  rw [if_neg (Nat.lt_irrefl _), he]
  dsimp only
  rw [if_pos (allDk_C _ _)]
end K70


set_option Elab.async false
set_option linter.all false
set_option maxRecDepth 100000
set_option maxHeartbeats 4000000
namespace K70
open PySem EL
theorem eqv_int (a b : Int) : PyData.eqv (.int a) (.int b) = (a == b) := by simp only [PyData.eqv]
theorem LsOk.self : ∀ {ls : List Ln} {ah : List Str}, LsOk ah ls → ∀ l, l ∈ ls → l.nm ∉ l.nd
  | [], _, _ => fun l hl => by cases hl
  | k :: r, ah, h => fun l hl => by
    rcases List.mem_cons.mp hl with rfl | hl
    · exact fun hm => h.1.nw (h.1.nd _ hm)
    · exact LsOk.self h.2 l hl
def optD : Option Tx → PyData
  | none => .none
  | some T => txD T
theorem left_eq {ls : List Ln} {n i w a b c : Str} {li : Ln} (hni : n ≠ i) (hi : li.nm = i) (hiw : li.w = w) (hw : ∀ o, o ∈ ls → o.nm = n → o.w = w) :
    swapL (swapL (ls.flatMap (movF n i li)) i [a, b]) n [i, c] = ls.flatMap (leftF n i w a b c) := by
  unfold swapL
  rw [List.map_flatMap, List.map_flatMap]
  have : ∀ o, o ∈ ls → ((movF n i li o).map fun o => if o.nm = i then (⟨o.nm, o.w, [a, b]⟩ : Ln) else o).map (fun o => if o.nm = n then (⟨o.nm, o.w, [i, c]⟩ : Ln) else o) = leftF n i w a b c o := fun o ho => by
    unfold movF leftF
    by_cases h1 : o.nm = n
    · have h2 : ¬ o.nm = i := fun e => hni (h1 ▸ e)
      have h3 : ¬ i = n := fun e => hni e.symm
      have hw' := hw o ho h1
      rw [if_pos h1, if_neg h2, if_pos h1]
      simp [hi, h1, hiw, hw', h2, h3, hni]
    · rw [if_neg h1, if_neg h1]
      by_cases h2 : o.nm = i
      · rw [if_pos h2]; rfl
      · rw [if_neg h2]
        simp [h1, h2]
  clear hw
  induction ls with
  | nil => rfl
  | cons o ls ih =>
    rw [List.flatMap_cons, List.flatMap_cons, this o (by simp), ih fun p hp => this p (by simp [hp])]
theorem flat_len {ls : List Ln} (f : Ln → List Ln) (h : ∀ o, (f o).length ≤ 2) : (ls.flatMap f).length ≤ 2 * ls.length := by
  induction ls with
  | nil => simp
  | cons o ls ih =>
    rw [List.flatMap_cons, List.length_append, List.length_cons]
    have := h o
    omega
theorem swapL_len (ls : List Ln) (n : Str) (nd : List Str) : (swapL ls n nd).length = ls.length := by unfold swapL; rw [List.length_map]
section
variable {T : Tx} {s n : Str} {lo : Lo} {mh : Mh} {l i : Ln}
theorem dct_ix {ls : List Ln} {z : Str} {l : Ln} (h : findL ls z = some l) (mh : Mh) : oIxA (.dct (kvS (kvL ls))) (.d (.str z)) mh = .ok (.d (lnD l)) mh := ix_dc (IsDc.dct _) rfl (by rw [look_kvS, lookL, h]; rfl)
theorem dct_nin (ls : List Ln) (z : Str) (mh : Mh) : oNin (.d (.str z)) (.dct (kvS (kvL ls))) mh = .ok (.d (.bool (!decide (z ∈ nms ls)))) mh := by
  rw [nin_dc (IsDc.dct _) (k := .inr z) rfl, has_kvS, kvL_names]
theorem turn_by_v (h : TOk T) (s n : Str) (mh : Mh) : m_turn_by [.d (txD T), .d (.tuple [.str s, .str n])] mh = .ok (.d (optD (turnT T s n))) mh := by
  have hn := h.ls.nd
  have n60 := h.n60
  let lo0 : Lo := startL 9 [.d (txD T), .d (.tuple [.str s, .str n])]
  let lo1 : Lo := lo0.set 2 (some (.dct (kvS (kvL T.ls))))
  have hl1 : lo1.length = 9 := rfl
  have a0 : lo1[0]? = some (some (.d (txD T))) := rfl
  have a1 : lo1[1]? = some (some (.d (.tuple [.str s, .str n]))) := rfl
  have a2 : lo1[2]? = some (some (.dct (kvS (kvL T.ls)))) := rfl
  have p0 : (sSet 2 (mDcF (iSeq (bind2 (mV 0) (mC (.int 0)) oIxA)) (.nm 8) bYes (bind2 (mV 8) (mC (.int 0)) oIxA) (mV 8) ([("one", 8)] : List (Str × Nat)))) lo0 mh = .nx lo1 mh := by
    rw [sSet_ap, dict_lines hn (by omega) (j := 8) (lo := lo0) (by simp [lo0, startL]) rfl rfl (by omega)]; rfl
  have dn := dct_nin T.ls n mh
  have start : ∀ v, (sq ((sSeq (sIf (bOr (mB (bind2 (bind2 (mV 1) (mC (.int 1)) oIxA) (mV 2) oNin)) (mB (bind2 (bind2 (bind2 (mV 2) (bind2 (mV 1) (mC (.int 1)) oIxA) oIxA) (mC (.int 1)) oIxA) (mC k_EITHER) oNin))) (sSeq (sRet (mC .none)) sNil) sNil) (sSeq (sTg (.tp [(.nm 3), (.nm 4), (.nm 5)]) (bind2 (mV 2) (bind2 (mV 1) (mC (.int 1)) oIxA) oIxA)) (sSeq (sIf (mB (bind2 (bind2 (mV 1) (mC (.int 0)) oIxA) (mC k_SWAP) oEq)) (sSeq (sRet (mCall 3 m_put_line (aCons (mV 0) (aCons (mV 3) (aCons (mRev (mV 5)) aNil))))) sNil) sNil) (sSeq (sSet 6 (bind2 (mV 2) (bind2 (mV 5) (mC (.int 1)) oIxA) oIxA)) (sSeq (sIf (bOr (mB (bind2 (bind2 (mV 6) (mC (.int 1)) oIxA) (mV 4) oNe)) (mB (bind2 (bind2 (mCall 1 m_uses_by (aCons (mV 0) aNil)) (bind2 (mV 6) (mC (.int 0)) oIxA) oIxA) (mC (.int 1)) oNe))) (sSeq (sRet (mC .none)) sNil) sNil) (sSeq (sSet 7 (mCall 3 m_moved_ahead (aCons (mV 0) (aCons (bind2 (mV 6) (mC (.int 0)) oIxA) (aCons (mV 3) aNil))))) (sSeq (sSet 7 (mCall 3 m_put_line (aCons (mV 7) (aCons (bind2 (mV 6) (mC (.int 0)) oIxA) (aCons (mTup (aCons (bind2 (mV 5) (mC (.int 0)) oIxA) (aCons (bind2 (bind2 (mV 6) (mC (.int 2)) oIxA) (mC (.int 0)) oIxA) aNil))) aNil))))) (sSeq (sRet (mCall 3 m_put_line (aCons (mV 7) (aCons (mV 3) (aCons (mTup (aCons (bind2 (mV 6) (mC (.int 0)) oIxA) (aCons (bind2 (bind2 (mV 6) (mC (.int 2)) oIxA) (mC (.int 1)) oIxA) aNil))) aNil))))) sNil))))))))) (.nx lo1 mh)) = .rt v mh → m_turn_by [.d (txD T), .d (.tuple [.str s, .str n])] mh = .ok v mh := fun v e => by
    unfold m_turn_by dM b_turn_by
    show (match (sSeq _ _) lo0 mh with | _ => _) = _
    rw [sSeq_ap, p0, e]; rfl
  refine start _ ?_
  rw [sq_nx]
  clear start p0
  generalize lo1 = lo1 at a0 a1 a2 hl1
  cases hf : findL T.ls n with
  | none =>
    have hm : decide (n ∈ nms T.ls) = false := decide_eq_false (findL_none.mp hf)
    have ht : turnT T s n = none := by unfold turnT; rw [hf]
    rw [hm] at dn
    rw [ht]
    simp [-getElem?_pos, a1, a2, dn, optD]
  | some l =>
    obtain ⟨hl, hln⟩ := findL_some hf
    have hm : decide (n ∈ nms T.ls) = true := decide_eq_true (by rw [← hln]; exact List.mem_map_of_mem hl)
    have ix := dct_ix hf mh
    have ni := strNin_t eitherL l.w mh
    rw [hm] at dn
    by_cases hw : l.w ∈ eitherL
    · obtain ⟨na, nb, hnd, ma, mb⟩ := nd_two h hl hw
      rw [decide_eq_true hw] at ni
      have p1 : (sIf (bOr (mB (bind2 (bind2 (mV 1) (mC (.int 1)) oIxA) (mV 2) oNin)) (mB (bind2 (bind2 (bind2 (mV 2) (bind2 (mV 1) (mC (.int 1)) oIxA) oIxA) (mC (.int 1)) oIxA) (mC k_EITHER) oNin))) (sSeq (sRet (mC .none)) sNil) sNil) lo1 mh = .nx lo1 mh := by
        simp [-getElem?_pos, a1, a2, dn, ix, ln_1]
        rw [show oNin (.d (.str l.w)) (.d k_EITHER) mh = _ from ni]
        simp
      let lo2 : Lo := ((lo1.set 3 (some (.d (.str n)))).set 4 (some (.d (.str l.w)))).set 5 (some (.d (.tuple (sL l.nd))))
      have p2 : (sTg (.tp [(.nm 3), (.nm 4), (.nm 5)]) (bind2 (mV 2) (bind2 (mV 1) (mC (.int 1)) oIxA) oIxA)) lo1 mh = .nx lo2 mh := by
        have tg := tgt_3 3 4 5 (.str l.nm) (.str l.w) (.tuple (sL l.nd))
        unfold lnD at ix
        rw [hln] at ix tg
        simp [-getElem?_pos, a1, a2, ix, tg, lo2]
      have b0 : lo2[0]? = some (some (.d (txD T))) := by simp [-getElem?_pos, lo2, List.getElem?_set, a0]
      have b1 : lo2[1]? = some (some (.d (.tuple [.str s, .str n]))) := by simp [-getElem?_pos, lo2, List.getElem?_set, a1]
      have b2 : lo2[2]? = some (some (.dct (kvS (kvL T.ls)))) := by simp [-getElem?_pos, lo2, List.getElem?_set, a2]
      have b3 : lo2[3]? = some (some (.d (.str n))) := by simp [-getElem?_pos, lo2, List.getElem?_set, hl1]
      have b4 : lo2[4]? = some (some (.d (.str l.w))) := by simp [-getElem?_pos, lo2, List.getElem?_set, hl1]
      have b5 : lo2[5]? = some (some (.d (.tuple (sL l.nd)))) := by simp [-getElem?_pos, lo2, List.getElem?_set, hl1]
      have hl2 : lo2.length = 9 := by simp [lo2, hl1]
      rw [sSeq_ap, p1, sq_nx, sSeq_ap, p2, sq_nx]
      clear p1 p2
      generalize lo2 = lo2 at b0 b1 b2 b3 b4 b5 hl2
      by_cases hs : s = ("swap" : Str)
      · have hd : decide (s = ("swap" : Str)) = true := decide_eq_true hs
        have ht : turnT T s n = some ⟨swapL T.ls n l.nd.reverse, T.gs⟩ := by
          unfold turnT; rw [hf]; dsimp only; rw [if_pos hw, if_pos hs]
        rw [ht]
        have c := kCall_d0 (n := 3) (vs := [.d (txD T), .d (.str n), .d (.tuple (sL l.nd.reverse))]) rfl (put_line_v (T := T) (by omega) n l.nd.reverse mh)
        have kr : kRev (.d (.tuple (sL l.nd))) mh = .ok (.d (.tuple (sL l.nd.reverse))) mh := by
          show Res.ok (PV.d (.tuple (sL l.nd).reverse)) mh = _
          unfold sL; rw [List.map_reverse]
        show _ = SR.rt (PV.d (txD ⟨swapL T.ls n l.nd.reverse, T.gs⟩)) mh
        generalize txD ⟨swapL T.ls n l.nd.reverse, T.gs⟩ = r at *
        simp [-getElem?_pos, -kRev_t, b0, b1, b3, b5, PyData.depth, eqv_str, hd, kr, c]
      · have hd : decide (s = ("swap" : Str)) = false := decide_eq_false hs
        have p3 : (sIf (mB (bind2 (bind2 (mV 1) (mC (.int 0)) oIxA) (mC k_SWAP) oEq)) (sSeq (sRet (mCall 3 m_put_line (aCons (mV 0) (aCons (mV 3) (aCons (mRev (mV 5)) aNil))))) sNil) sNil) lo2 mh = .nx lo2 mh := by
          simp [-getElem?_pos, b1, PyData.depth, eqv_str, hd]
        rw [hnd] at b5
        have hnb : nb ≠ n := fun e => h.ls.self l hl (by rw [hln, hnd, e]; simp)
        cases hfi : findL T.ls nb with
        | none => exact absurd mb (findL_none.mp hfi)
        | some i =>
          obtain ⟨hi, hin⟩ := findL_some hfi
          have ixi := dct_ix hfi mh
          have hT : turnT T s n = if i.w = l.w ∧ usedN T i.nm = 1 then some ⟨T.ls.flatMap (leftF n i.nm l.w na (i.nd.getD 0 "") (i.nd.getD 1 "")), T.gs⟩ else none := by
            unfold turnT; rw [hf]; dsimp only; rw [if_pos hw, if_neg hs, hnd]
            show (match findL T.ls nb with | none => _ | some i => _) = _
            rw [hfi]; rfl
          let lo3 : Lo := lo2.set 6 (some (.d (lnD i)))
          have i1 : oIxA (.d (.tuple (sL [na, nb]))) (.d (.int 1)) mh = .ok (.d (.str nb)) mh := by unfold sL; simp
          have p4 : (sSet 6 (bind2 (mV 2) (bind2 (mV 5) (mC (.int 1)) oIxA) oIxA)) lo2 mh = .nx lo3 mh := by
            simp [-getElem?_pos, b2, b5, i1, ixi, lo3]
          have c6 : lo3[6]? = some (some (.d (lnD i))) := by simp only [lo3]; rw [List.getElem?_set_self (by omega)]
          have k3 : ∀ j, j ≠ 6 → lo3[j]? = lo2[j]? := fun j hj => by simp only [lo3]; rw [List.getElem?_set_ne (Ne.symm hj)]
          have c0 := (k3 0 (by omega)).trans b0
          have c3 := (k3 3 (by omega)).trans b3
          have c4 := (k3 4 (by omega)).trans b4
          have c5 := (k3 5 (by omega)).trans b5
          have hl3 : lo3.length = 9 := by simp [lo3, hl2]
          rw [sSeq_ap, p3, sq_nx, sSeq_ap, p4, sq_nx, hT]
          clear p3 p4 k3 hT
          generalize lo3 = lo3 at c0 c3 c4 c5 c6 hl3
          have us := uses_v h mh
          have ux : oIxA (.dct (kvS (kvC T.ls (usedN T)))) (.d (.str i.nm)) mh = .ok (.d (.int (usedN T i.nm : Nat))) mh := ix_dc (IsDc.dct _) rfl (kvC_look (List.mem_map_of_mem hi))
          have ne1 := strNe i.w l.w mh
          by_cases hiw : i.w = l.w
          · rw [decide_eq_true hiw] at ne1
            by_cases hu : usedN T i.nm = 1
            · have hub : ((usedN T i.nm : Int) == 1) = true := by rw [beq_iff_eq]; omega
              have p5 : (sIf (bOr (mB (bind2 (bind2 (mV 6) (mC (.int 1)) oIxA) (mV 4) oNe)) (mB (bind2 (bind2 (mCall 1 m_uses_by (aCons (mV 0) aNil)) (bind2 (mV 6) (mC (.int 0)) oIxA) oIxA) (mC (.int 1)) oNe))) (sSeq (sRet (mC .none)) sNil) sNil) lo3 mh = .nx lo3 mh := by
                simp [-getElem?_pos, -oNe_ap, c0, c4, c6, ln_0, ln_1, ne1, us, ux]
                rw [oNe_ap, if_pos (by simp [PyData.depth]), eqv_int, hub]
                simp
              rw [if_pos ⟨hiw, hu⟩, sSeq_ap, p5, sq_nx]
              have hwi : i.w ∈ eitherL := by rw [hiw]; exact hw
              obtain ⟨ia, ib, hind, -, -⟩ := nd_two h hi hwi
              rw [hind]
              obtain ⟨gb, e6⟩ := moved_v (T := T) hn (by omega) (i := i.nm) (n := n) (li := i) (by rw [hin]; exact hfi) mh
              have k6 := kCall_d (n := 3) (vs := [.d (txD T), .d (.str i.nm), .d (.str n)]) rfl e6
              have hlen1 := flat_len (ls := T.ls) (movF n i.nm i) (movF_len n i.nm i)
              have e7 := put_line_v (T := ⟨T.ls.flatMap (movF n i.nm i), T.gs⟩) (by show (T.ls.flatMap (movF n i.nm i)).length ≤ 1000; omega) i.nm [na, ia] mh
              have k7 := kCall_d0 (n := 3) (vs := [.d (txD ⟨T.ls.flatMap (movF n i.nm i), T.gs⟩), .d (.str i.nm), .d (.tuple (sL [na, ia]))]) rfl e7
              have e8 := put_line_v (T := ⟨swapL (T.ls.flatMap (movF n i.nm i)) i.nm [na, ia], T.gs⟩) (by show (swapL (T.ls.flatMap (movF n i.nm i)) i.nm [na, ia]).length ≤ 1000; rw [swapL_len]; omega) n [i.nm, ib] mh
              have k8 := kCall_d0 (n := 3) (vs := [.d (txD ⟨swapL (T.ls.flatMap (movF n i.nm i)) i.nm [na, ia], T.gs⟩), .d (.str n), .d (.tuple (sL [i.nm, ib]))]) rfl e8
              have heq := left_eq (ls := T.ls) (n := n) (i := i.nm) (w := l.w) (a := na) (b := ia) (c := ib) (li := i) (by rw [hin]; exact Ne.symm hnb) rfl hiw (fun o ho e => by rw [nm_inj hn hl ho (e.trans hln.symm)])
              dsimp only at k8
              rw [heq] at k8
              have ia0 : oIxA (.d (.tuple (sL [na, nb]))) (.d (.int 0)) mh = .ok (.d (.str na)) mh := by unfold sL; simp
              have ln2 := ln_2 i mh
              rw [hind] at ln2
              have ib0 : oIxA (.d (.tuple (sL [ia, ib]))) (.d (.int 0)) mh = .ok (.d (.str ia)) mh := by unfold sL; simp
              have ib1 : oIxA (.d (.tuple (sL [ia, ib]))) (.d (.int 1)) mh = .ok (.d (.str ib)) mh := by unfold sL; simp
              have kt1 : kTup [.d (.str na), .d (.str ia)] mh = .ok (.d (.tuple (sL [na, ia]))) mh := kTup_2 _ _
              have kt2 : kTup [.d (.str i.nm), .d (.str ib)] mh = .ok (.d (.tuple (sL [i.nm, ib]))) mh := kTup_2 _ _
              show _ = SR.rt (PV.d (txD ⟨T.ls.flatMap (leftF n i.nm l.w na ia ib), T.gs⟩)) mh
              generalize txD ⟨T.ls.flatMap (leftF n i.nm l.w na ia ib), T.gs⟩ = r3 at *
              generalize txD ⟨swapL (T.ls.flatMap (movF n i.nm i)) i.nm [na, ia], T.gs⟩ = r2 at *
              generalize txD ⟨T.ls.flatMap (movF n i.nm i), T.gs⟩ = r1 at *
              have g7 : ∀ v, (lo3.set 7 v)[7]? = some v := fun v => by rw [List.getElem?_set_self (by omega)]
              have gk : ∀ j v, j ≠ 7 → (lo3.set 7 v)[j]? = lo3[j]? := fun j v hj => by rw [List.getElem?_set_ne (Ne.symm hj)]
              have p6 : (sSet 7 (mCall 3 m_moved_ahead (aCons (mV 0) (aCons (bind2 (mV 6) (mC (.int 0)) oIxA) (aCons (mV 3) aNil))))) lo3 mh = .nx (lo3.set 7 (some (.d r1))) mh := by
                simp [-getElem?_pos, c0, c3, c6, ln_0, k6]
              have p7 : (sSet 7 (mCall 3 m_put_line (aCons (mV 7) (aCons (bind2 (mV 6) (mC (.int 0)) oIxA) (aCons (mTup (aCons (bind2 (mV 5) (mC (.int 0)) oIxA) (aCons (bind2 (bind2 (mV 6) (mC (.int 2)) oIxA) (mC (.int 0)) oIxA) aNil))) aNil))))) (lo3.set 7 (some (.d r1))) mh = .nx (lo3.set 7 (some (.d r2))) mh := by
                simp [-getElem?_pos, -kTup_2, g7, gk 6 _ (by omega), gk 5 _ (by omega), c5, c6, ln_0, ln2, ia0, ib0, kt1, k7]
              have p8 : (sRet (mCall 3 m_put_line (aCons (mV 7) (aCons (mV 3) (aCons (mTup (aCons (bind2 (mV 6) (mC (.int 0)) oIxA) (aCons (bind2 (bind2 (mV 6) (mC (.int 2)) oIxA) (mC (.int 1)) oIxA) aNil))) aNil))))) (lo3.set 7 (some (.d r2))) mh = .rt (.d r3) mh := by
                simp [-getElem?_pos, -kTup_2, g7, gk 6 _ (by omega), gk 3 _ (by omega), c3, c6, ln_0, ln2, ib1, kt2, k8]
              rw [sSeq_ap, p6, sq_nx, sSeq_ap, p7, sq_nx, sSeq_ap, p8]; rfl
            · have hub : ((usedN T i.nm : Int) == 1) = false := by rw [beq_eq_false_iff_ne]; omega
              rw [if_neg (fun e => hu e.2)]
              simp [-getElem?_pos, -oNe_ap, c0, c4, c6, ln_0, ln_1, ne1, us, ux, optD]
              rw [oNe_ap, if_pos (by simp [PyData.depth]), eqv_int, hub]
              simp
          · rw [decide_eq_false hiw] at ne1
            rw [if_neg (fun e => hiw e.1)]
            simp [-getElem?_pos, -oNe_ap, c4, c6, ln_1, ne1, optD]
    · have ht : turnT T s n = none := by unfold turnT; rw [hf]; exact if_neg hw
      rw [decide_eq_false hw] at ni
      rw [ht]
      simp [-getElem?_pos, a1, a2, dn, ix, ln_1, optD]
      rw [show oNin (.d (.str l.w)) (.d k_EITHER) mh = _ from ni]
      simp
end
end K70


set_option Elab.async false
set_option linter.all false
set_option maxRecDepth 100000
set_option maxHeartbeats 4000000
namespace K70
open PySem EL
theorem add_t {a b : List PyData} (h : a.length + b.length ≤ 16777216) (mh : Mh) : oAdd (.d (.tuple a)) (.d (.tuple b)) mh = .ok (.d (.tuple (a ++ b))) mh := by
  unfold oAdd
  rw [alt2_bd rfl]
  refine alt2_ok ?_
  exact if_pos (by have := sizeLine_eq; omega)
theorem count_s (l : List Str) (z : Str) (mh : Mh) : oCountT (.d (.tuple (sL l))) [.d (.str z)] mh = .ok (.d (.int (l.count z : Nat))) mh := by
  unfold oCountT
  show (if min (PyData.depthAll (sL l)) (PyData.str z).depth ≤ 64 then (Res.ok (PV.d (.int (((sL l).countP fun y => PyData.eqv y (.str z) : Nat) : Int))) mh) else Res.bad) = _
  rw [if_pos (str_dle _ z)]
  congr 3
  unfold sL
  rw [List.countP_map, List.count]
  congr 1
structure TU (T : Tx) (l i : Ln) (na nb : Str) (lo : Lo) : Prop where
  len : lo.length = 10
  h0 : lo[0]? = some (some (.d (txD T)))
  h3 : lo[3]? = some (some (.d (.str l.nm)))
  h4 : lo[4]? = some (some (.d (.str l.w)))
  h5 : lo[5]? = some (some (.d (.tuple (sL [na, nb]))))
  h6 : lo[6]? = some (some (.d (lnD i)))
section
variable {T : Tx} {s n : Str} {lo : Lo} {mh : Mh} {l i : Ln} {na nb ia ib : Str}
theorem TU.set (L : TU T l i na nb lo) {j : Nat} (hj : 7 ≤ j) (v : Option PV) : TU T l i na nb (lo.set j v) :=
  ⟨by simp [L.len], by rw [List.getElem?_set_ne (by omega)]; exact L.h0, by rw [List.getElem?_set_ne (by omega)]; exact L.h3, by rw [List.getElem?_set_ne (by omega)]; exact L.h4, by rw [List.getElem?_set_ne (by omega)]; exact L.h5, by rw [List.getElem?_set_ne (by omega)]; exact L.h6⟩
theorem lt_1 (hni : l.nm ≠ i.nm) (hind : i.nd = [ia, ib]) (L : TU T l i na nb lo) {acc : List Ln} (hz : acc.length ≤ 1000) {o : Ln} (h9 : lo[9]? = some (some (.d (lnD o)))) (h8 : lo[8]? = some (some (.d (.tuple (acc.map lnD))))) (mh : Mh) :
    ∃ lo', l__law_turned_1 lo mh = .nx lo' mh ∧ TU T l i na nb lo' ∧ lo'[8]? = some (some (.d (.tuple ((acc ++ leftF l.nm i.nm l.w na ia ib o).map lnD)))) := by
  have hll := L.len
  have ia0 : oIxA (.d (.tuple (sL [na, nb]))) (.d (.int 0)) mh = .ok (.d (.str na)) mh := by unfold sL; simp
  have ln2 := ln_2 i mh
  rw [hind] at ln2
  have ib0 : oIxA (.d (.tuple (sL [ia, ib]))) (.d (.int 0)) mh = .ok (.d (.str ia)) mh := by unfold sL; simp
  have ib1 : oIxA (.d (.tuple (sL [ia, ib]))) (.d (.int 1)) mh = .ok (.d (.str ib)) mh := by unfold sL; simp
  unfold l__law_turned_1
  by_cases h1 : o.nm = l.nm
  · have hd : decide (o.nm = l.nm) = true := decide_eq_true h1
    have hv : leftF l.nm i.nm l.w na ia ib o = [⟨i.nm, l.w, [na, ia]⟩, ⟨l.nm, l.w, [i.nm, ib]⟩] := if_pos h1
    have ad := add_t (a := acc.map lnD) (b := [lnD ⟨i.nm, l.w, [na, ia]⟩, lnD ⟨l.nm, l.w, [i.nm, ib]⟩]) (by simp; omega) mh
    refine ⟨lo.set 8 (some (.d (.tuple ((acc ++ leftF l.nm i.nm l.w na ia ib o).map lnD)))), ?_, L.set (by omega) _, by rw [List.getElem?_set_self (by omega)]⟩
    rw [hv, List.map_append, List.map_cons, List.map_cons, List.map_nil]
    generalize acc.map lnD = ys at *
    have hl1 : lnD ⟨i.nm, l.w, [na, ia]⟩ = .tuple [.str i.nm, .str l.w, .tuple [.str na, .str ia]] := rfl
    have hl2 : lnD ⟨l.nm, l.w, [i.nm, ib]⟩ = .tuple [.str l.nm, .str l.w, .tuple [.str i.nm, .str ib]] := rfl
    rw [hl1, hl2] at ad ⊢
    simp [-getElem?_pos, h9, h8, ln_0, L.h3, L.h4, L.h5, L.h6, PyData.depth, eqv_str, hd, ia0, ln2, ib0, ib1, ad]
  · have hd : decide (o.nm = l.nm) = false := decide_eq_false h1
    by_cases h2 : o.nm = i.nm
    · have hd2 : decide (o.nm = i.nm) = true := decide_eq_true h2
      have hv : leftF l.nm i.nm l.w na ia ib o = [] := by unfold leftF; rw [if_neg h1, if_pos h2]
      refine ⟨lo, ?_, L, by rw [hv, List.append_nil]; exact h8⟩
      simp [-getElem?_pos, h9, ln_0, L.h3, L.h6, PyData.depth, eqv_str, hd, hd2]
    · have hd2 : decide (o.nm = i.nm) = false := decide_eq_false h2
      have hv : leftF l.nm i.nm l.w na ia ib o = [o] := by unfold leftF; rw [if_neg h1, if_neg h2]
      have ad := add_t (a := acc.map lnD) (b := [lnD o]) (by simp; omega) mh
      refine ⟨lo.set 8 (some (.d (.tuple ((acc ++ leftF l.nm i.nm l.w na ia ib o).map lnD)))), ?_, L.set (by omega) _, by rw [List.getElem?_set_self (by omega)]⟩
      rw [hv, List.map_append, List.map_cons, List.map_nil]
      generalize acc.map lnD = ys at *
      simp [-getElem?_pos, h9, h8, ln_0, L.h3, L.h6, PyData.depth, eqv_str, hd, hd2, ad]
theorem leftF_len (n i w a b c : Str) (o : Ln) : (leftF n i w a b c o).length ≤ 2 := by
  unfold leftF
  split
  · simp
  · split <;> simp
theorem turned_v (h : TOk T) (s n : Str) (mh : Mh) : m__law_turned [.d (txD T), .d (.tuple [.str s, .str n])] mh = .ok (.d (optD (turnT T s n))) mh := by
  have hn := h.ls.nd
  have n60 := h.n60
  let lo0 : Lo := startL 10 [.d (txD T), .d (.tuple [.str s, .str n])]
  let lo1 : Lo := lo0.set 2 (some (.dct (kvS (kvL T.ls))))
  have hl1 : lo1.length = 10 := rfl
  have a0 : lo1[0]? = some (some (.d (txD T))) := rfl
  have a1 : lo1[1]? = some (some (.d (.tuple [.str s, .str n]))) := rfl
  have a2 : lo1[2]? = some (some (.dct (kvS (kvL T.ls)))) := rfl
  have p0 : (sSet 2 (mCB nDict (aCons (mFrz (mLC (iSeq (bind2 (mV 0) (mC (.int 0)) oIxA)) (.nm 9) bYes (mTup (aCons (bind2 (mV 9) (mC (.int 0)) oIxA) (aCons (mV 9) aNil))) [9])) aNil))) lo0 mh = .nx lo1 mh := by
    have e1 : lcL always (.nm 9) bYes (mTup (aCons (bind2 (mV 9) (mC (.int 0)) oIxA) (aCons (mV 9) aNil))) (lo0.set 9 none) ((T.ls.map lnD).map .d) mh = .ok ((T.ls.map fun l => PyData.tuple [.str l.nm, lnD l]).map .d) mh :=
      lcL_d T.ls lnD (fun l => PyData.tuple [.str l.nm, lnD l]) trivial fun l hm => ⟨_, rfl, by
        have g : ∀ v, (lo0.set 9 v)[9]? = some v := fun v => by rw [List.getElem?_set_self (by simp [lo0, startL])]
        generalize lo0 = lo at g ⊢
        simp [-getElem?_pos, g, ln_0]⟩
    have hk := kLen_s T.ls (by omega) mh (fun l => PyData.tuple [.str l.nm, lnD l])
    have hd := nDict_l (mh := mh) T.ls (fun l => .str l.nm) lnD (fun _ _ => rfl)
    rw [foldD_S T.ls (fun l => l.nm) (fun l => .d (lnD l)) hn] at hd
    have h0 : lo0[0]? = some (some (.d (txD T))) := rfl
    simp only [lo1]
    generalize lo0 = lo at h0 e1 ⊢
    have hx := ls_0 T mh
    have hs := ls_sq T.ls mh
    generalize (T.ls.map fun l => PyData.tuple [.str l.nm, lnD l]) = ys at *
    have f1 := frzL_d (mh := mh) ys
    simp [-getElem?_pos, -List.map_map, h0, hx, hs, e1, hk, f1, hd]
    rfl
  have dn := dct_nin T.ls n mh
  have start : ∀ v, (sq ((sSeq (sIf (bOr (mB (bind2 (bind2 (mV 1) (mC (.int 1)) oIxA) (mV 2) oNin)) (mB (bind2 (bind2 (bind2 (mV 2) (bind2 (mV 1) (mC (.int 1)) oIxA) oIxA) (mC (.int 1)) oIxA) (mTup (aCons (mC (.str "add")) (aCons (mC (.str "times")) (aCons (mC (.str "least")) (aCons (mC (.str "greatest")) aNil))))) oNin))) (sSeq (sRet (mC .none)) sNil) sNil) (sSeq (sTg (.tp [(.nm 3), (.nm 4), (.nm 5)]) (bind2 (mV 2) (bind2 (mV 1) (mC (.int 1)) oIxA) oIxA)) (sSeq (sIf (mB (bind2 (bind2 (mV 1) (mC (.int 0)) oIxA) (mC (.str "swap")) oEq)) (sSeq (sRet (mTup (aCons (mCB nTuple (aCons (mFrz (mLC (iSeq (bind2 (mV 0) (mC (.int 0)) oIxA)) (.nm 9) bYes (mIf (mB (bind2 (bind2 (mV 9) (mC (.int 0)) oIxA) (mV 3) oEq)) (mTup (aCons (mV 3) (aCons (mV 4) (aCons (mRev (mV 5)) aNil)))) (mV 9)) [9])) aNil)) (aCons (bind2 (mV 0) (mC (.int 1)) oIxA) aNil)))) sNil) sNil) (sSeq (sSet 6 (bind2 (mV 2) (bind2 (mV 5) (mC (.int 1)) oIxA) oIxA)) (sSeq (sSet 7 (bind2 (mCB nSum (aCons (mFrz (mLC (iSeq (bind2 (mV 0) (mC (.int 0)) oIxA)) (.nm 9) bYes (mBM "tuple" oCountT (bind2 (mV 9) (mC (.int 2)) oIxA) (aCons (bind2 (mV 6) (mC (.int 0)) oIxA) aNil)) [9])) aNil)) (mBM "tuple" oCountT (bind2 (mV 0) (mC (.int 1)) oIxA) (aCons (bind2 (mV 6) (mC (.int 0)) oIxA) aNil)) oAdd)) (sSeq (sIf (bOr (mB (bind2 (bind2 (mV 6) (mC (.int 1)) oIxA) (mV 4) oNe)) (mB (bind2 (mV 7) (mC (.int 1)) oNe))) (sSeq (sRet (mC .none)) sNil) sNil) (sSeq (sSet 8 (mTup aNil)) (sSeq (sFor (iSeq (bind2 (mV 0) (mC (.int 0)) oIxA)) (.nm 9) l__law_turned_1) (sSeq (sRet (mTup (aCons (mV 8) (aCons (bind2 (mV 0) (mC (.int 1)) oIxA) aNil)))) sNil)))))))))) (.nx lo1 mh)) = .rt v mh → m__law_turned [.d (txD T), .d (.tuple [.str s, .str n])] mh = .ok v mh := fun v e => by
    unfold m__law_turned dM b__law_turned
    show (match (sSeq _ _) lo0 mh with | _ => _) = _
    rw [sSeq_ap, p0, e]; rfl
  refine start _ ?_
  rw [sq_nx]
  clear start p0
  generalize lo1 = lo1 at a0 a1 a2 hl1
  cases hf : findL T.ls n with
  | none =>
    have hm : decide (n ∈ nms T.ls) = false := decide_eq_false (findL_none.mp hf)
    have ht : turnT T s n = none := by unfold turnT; rw [hf]
    rw [hm] at dn
    rw [ht]
    simp [-getElem?_pos, a1, a2, dn, optD]
  | some l =>
    obtain ⟨hl, hln⟩ := findL_some hf
    have hm : decide (n ∈ nms T.ls) = true := decide_eq_true (by rw [← hln]; exact List.mem_map_of_mem hl)
    have ix := dct_ix hf mh
    have ni := strNin_t eitherL l.w mh
    have ni : oNin (.d (.str l.w)) (.d (.tuple [.str "add", .str "times", .str "least", .str "greatest"])) mh = _ := ni
    rw [hm] at dn
    by_cases hw : l.w ∈ eitherL
    · obtain ⟨na, nb, hnd, ma, mb⟩ := nd_two h hl hw
      rw [decide_eq_true hw] at ni
      have p1 : (sIf (bOr (mB (bind2 (bind2 (mV 1) (mC (.int 1)) oIxA) (mV 2) oNin)) (mB (bind2 (bind2 (bind2 (mV 2) (bind2 (mV 1) (mC (.int 1)) oIxA) oIxA) (mC (.int 1)) oIxA) (mTup (aCons (mC (.str "add")) (aCons (mC (.str "times")) (aCons (mC (.str "least")) (aCons (mC (.str "greatest")) aNil))))) oNin))) (sSeq (sRet (mC .none)) sNil) sNil) lo1 mh = .nx lo1 mh := by
        simp [-getElem?_pos, a1, a2, dn, ix, ln_1, ni]
      let lo2 : Lo := ((lo1.set 3 (some (.d (.str l.nm)))).set 4 (some (.d (.str l.w)))).set 5 (some (.d (.tuple (sL l.nd))))
      have p2 : (sTg (.tp [(.nm 3), (.nm 4), (.nm 5)]) (bind2 (mV 2) (bind2 (mV 1) (mC (.int 1)) oIxA) oIxA)) lo1 mh = .nx lo2 mh := by
        have tg := tgt_3 3 4 5 (.str l.nm) (.str l.w) (.tuple (sL l.nd))
        unfold lnD at ix
        simp [-getElem?_pos, a1, a2, ix, tg, lo2]
      have b0 : lo2[0]? = some (some (.d (txD T))) := by simp [-getElem?_pos, lo2, List.getElem?_set, a0]
      have b1 : lo2[1]? = some (some (.d (.tuple [.str s, .str n]))) := by simp [-getElem?_pos, lo2, List.getElem?_set, a1]
      have b2 : lo2[2]? = some (some (.dct (kvS (kvL T.ls)))) := by simp [-getElem?_pos, lo2, List.getElem?_set, a2]
      have b3 : lo2[3]? = some (some (.d (.str l.nm))) := by simp [-getElem?_pos, lo2, List.getElem?_set, hl1]
      have b4 : lo2[4]? = some (some (.d (.str l.w))) := by simp [-getElem?_pos, lo2, List.getElem?_set, hl1]
      have b5 : lo2[5]? = some (some (.d (.tuple (sL l.nd)))) := by simp [-getElem?_pos, lo2, List.getElem?_set, hl1]
      have hl2 : lo2.length = 10 := by simp [lo2, hl1]
      rw [sSeq_ap, p1, sq_nx, sSeq_ap, p2, sq_nx]
      clear p1 p2
      generalize lo2 = lo2 at b0 b1 b2 b3 b4 b5 hl2
      by_cases hs : s = ("swap" : Str)
      · have hd : decide (s = ("swap" : Str)) = true := decide_eq_true hs
        have ht : turnT T s n = some ⟨swapL T.ls n l.nd.reverse, T.gs⟩ := by
          unfold turnT; rw [hf]; dsimp only; rw [if_pos hw, if_pos hs]
        rw [ht]
        have kr : kRev (.d (.tuple (sL l.nd))) mh = .ok (.d (.tuple (sL l.nd.reverse))) mh := by
          show Res.ok (PV.d (.tuple (sL l.nd).reverse)) mh = _
          unfold sL; rw [List.map_reverse]
        have e1 : lcL always (.nm 9) bYes (mIf (mB (bind2 (bind2 (mV 9) (mC (.int 0)) oIxA) (mV 3) oEq)) (mTup (aCons (mV 3) (aCons (mV 4) (aCons (mRev (mV 5)) aNil)))) (mV 9)) (lo2.set 9 none) ((T.ls.map lnD).map .d) mh = .ok (((swapL T.ls n l.nd.reverse).map lnD).map .d) mh := by
          have hr : (swapL T.ls n l.nd.reverse).map lnD = T.ls.map fun o => lnD (if o.nm = n then ⟨o.nm, o.w, l.nd.reverse⟩ else o) := by unfold swapL; rw [List.map_map]; rfl
          rw [hr]
          refine lcL_d T.ls lnD _ trivial fun o hm => ⟨_, rfl, ?_⟩
          have g : ∀ v, (lo2.set 9 v)[9]? = some v := fun v => by rw [List.getElem?_set_self (by omega)]
          have gk : ∀ j v, j ≠ 9 → (lo2.set 9 v)[j]? = lo2[j]? := fun j v hj => by rw [List.getElem?_set_ne (Ne.symm hj)]
          by_cases ho : o.nm = n
          · have : o = l := nm_inj hn hl hm (ho.trans hln.symm)
            subst this
            have hd1 : decide (o.nm = o.nm) = true := decide_eq_true rfl
            rw [if_pos ho]
            have hv : lnD ⟨o.nm, o.w, o.nd.reverse⟩ = .tuple [.str o.nm, .str o.w, .tuple (sL o.nd.reverse)] := rfl
            rw [hv]
            simp [-getElem?_pos, -kRev_t, g, gk 3 _ (by omega), gk 4 _ (by omega), gk 5 _ (by omega), b3, b4, b5, ln_0, PyData.depth, eqv_str, kr]
          · have hd1 : decide (o.nm = l.nm) = false := decide_eq_false (by rw [hln]; exact ho)
            rw [if_neg ho]
            simp [-getElem?_pos, g, gk 3 _ (by omega), b3, ln_0, PyData.depth, eqv_str, hd1]
        have hk : kLen (((swapL T.ls n l.nd.reverse).map lnD).map .d) mh = .ok (((swapL T.ls n l.nd.reverse).map lnD).map .d) mh := kLen_ok (by rw [List.length_map, List.length_map, swapL_len]; omega)
        show _ = SR.rt (PV.d (.tuple [.tuple ((swapL T.ls n l.nd.reverse).map lnD), gsD T.gs])) mh
        generalize (swapL T.ls n l.nd.reverse).map lnD = ys at *
        have hx := ls_0 T mh
        have hg := gs_1 T mh
        have hsq := ls_sq T.ls mh
        have f1 := frzL_d (mh := mh) ys
        generalize (mIf (mB (bind2 (bind2 (mV 9) (mC (.int 0)) oIxA) (mV 3) oEq)) (mTup (aCons (mV 3) (aCons (mV 4) (aCons (mRev (mV 5)) aNil)))) (mV 9)) = ME at *
        simp [-getElem?_pos, -List.map_map, b0, b1, PyData.depth, eqv_str, hd, hx, hg, hsq, e1, hk, f1]
      · have hd : decide (s = ("swap" : Str)) = false := decide_eq_false hs
        have p3 : (sIf (mB (bind2 (bind2 (mV 1) (mC (.int 0)) oIxA) (mC (.str "swap")) oEq)) (sSeq (sRet (mTup (aCons (mCB nTuple (aCons (mFrz (mLC (iSeq (bind2 (mV 0) (mC (.int 0)) oIxA)) (.nm 9) bYes (mIf (mB (bind2 (bind2 (mV 9) (mC (.int 0)) oIxA) (mV 3) oEq)) (mTup (aCons (mV 3) (aCons (mV 4) (aCons (mRev (mV 5)) aNil)))) (mV 9)) [9])) aNil)) (aCons (bind2 (mV 0) (mC (.int 1)) oIxA) aNil)))) sNil) sNil) lo2 mh = .nx lo2 mh := by
          simp [-getElem?_pos, b1, PyData.depth, eqv_str, hd]
        rw [hnd] at b5
        have hnb : nb ≠ n := fun e => h.ls.self l hl (by rw [hln, hnd, e]; simp)
        cases hfi : findL T.ls nb with
        | none => exact absurd mb (findL_none.mp hfi)
        | some i =>
          obtain ⟨hi, hin⟩ := findL_some hfi
          have ixi := dct_ix hfi mh
          have hT : turnT T s n = if i.w = l.w ∧ usedN T i.nm = 1 then some ⟨T.ls.flatMap (leftF n i.nm l.w na (i.nd.getD 0 "") (i.nd.getD 1 "")), T.gs⟩ else none := by
            unfold turnT; rw [hf]; dsimp only; rw [if_pos hw, if_neg hs, hnd]
            show (match findL T.ls nb with | none => _ | some i => _) = _
            rw [hfi]; rfl
          let lo3 : Lo := lo2.set 6 (some (.d (lnD i)))
          have i1 : oIxA (.d (.tuple (sL [na, nb]))) (.d (.int 1)) mh = .ok (.d (.str nb)) mh := by unfold sL; simp
          have p4 : (sSet 6 (bind2 (mV 2) (bind2 (mV 5) (mC (.int 1)) oIxA) oIxA)) lo2 mh = .nx lo3 mh := by
            simp [-getElem?_pos, b2, b5, i1, ixi, lo3]
          have L3 : TU T l i na nb lo3 := by
            refine ⟨by simp [lo3, hl2], ?_, ?_, ?_, ?_, by simp only [lo3]; rw [List.getElem?_set_self (by omega)]⟩ <;> simp only [lo3] <;> rw [List.getElem?_set_ne (by omega)] <;> assumption
          rw [sSeq_ap, p3, sq_nx, sSeq_ap, p4, sq_nx, hT]
          clear p3 p4 hT
          generalize lo3 = lo3 at L3
          let lo4 : Lo := lo3.set 7 (some (.d (.int (usedN T i.nm : Nat))))
          have hl3 := L3.len
          have p5 : (sSet 7 (bind2 (mCB nSum (aCons (mFrz (mLC (iSeq (bind2 (mV 0) (mC (.int 0)) oIxA)) (.nm 9) bYes (mBM "tuple" oCountT (bind2 (mV 9) (mC (.int 2)) oIxA) (aCons (bind2 (mV 6) (mC (.int 0)) oIxA) aNil)) [9])) aNil)) (mBM "tuple" oCountT (bind2 (mV 0) (mC (.int 1)) oIxA) (aCons (bind2 (mV 6) (mC (.int 0)) oIxA) aNil)) oAdd)) lo3 mh = .nx lo4 mh := by
            have e1 : lcL always (.nm 9) bYes (mBM "tuple" oCountT (bind2 (mV 9) (mC (.int 2)) oIxA) (aCons (bind2 (mV 6) (mC (.int 0)) oIxA) aNil)) (lo3.set 9 none) ((T.ls.map lnD).map .d) mh = .ok ((T.ls.map fun o => PyData.int (o.nd.count i.nm : Nat)).map .d) mh := by
              refine lcL_d T.ls lnD _ trivial fun o hm => ⟨_, rfl, ?_⟩
              have g : ∀ v, (lo3.set 9 v)[9]? = some v := fun v => by rw [List.getElem?_set_self (by omega)]
              have g6 : ∀ v, (lo3.set 9 v)[6]? = some (some (.d (lnD i))) := fun v => by rw [List.getElem?_set_ne (by omega)]; exact L3.h6
              have ty : tyM mh "tuple" (.d (.tuple (sL o.nd))) = true := rfl
              have c := count_s o.nd i.nm mh
              simp [-getElem?_pos, g, g6, ln_2, ln_0, kBM_ap, ty, c]
            have hk := kLen_s T.ls (by omega) mh (fun o => PyData.int (o.nd.count i.nm : Nat))
            have hsum := nSum_l (mh := mh) (T.ls.map fun o => ((o.nd.count i.nm : Nat) : Int))
            rw [List.map_map] at hsum
            have hsum : nSum [.d (.list (T.ls.map fun o => PyData.int (o.nd.count i.nm : Nat)))] mh = _ := hsum
            have hcast : (T.ls.map fun o => ((o.nd.count i.nm : Nat) : Int)).sum = (((T.ls.map fun o => o.nd.count i.nm).sum : Nat) : Int) := by
              generalize T.ls = ls
              induction ls with
              | nil => rfl
              | cons o ls ih => rw [List.map_cons, List.map_cons, List.sum_cons, List.sum_cons, ih]; omega
            rw [hcast] at hsum
            have cg := count_s T.gs i.nm mh
            have tyg : tyM mh "tuple" (.d (gsD T.gs)) = true := rfl
            have cg : oCountT (.d (gsD T.gs)) [.d (.str i.nm)] mh = _ := cg
            have hx := ls_0 T mh
            have hg := gs_1 T mh
            have hsq := ls_sq T.ls mh
            have hu : usedN T i.nm = (T.ls.map fun o => o.nd.count i.nm).sum + T.gs.count i.nm := rfl
            simp only [lo4]
            rw [hu]
            generalize (T.ls.map fun o => o.nd.count i.nm).sum = A at *
            generalize (T.ls.map fun o => PyData.int (o.nd.count i.nm : Nat)) = ys at *
            have f1 := frzL_d (mh := mh) ys
            generalize gsD T.gs = gg at *
            simp [-getElem?_pos, -List.map_map, L3.h0, L3.h6, hx, hg, hsq, e1, hk, f1, hsum, ln_0, kBM_ap, tyg, cg]
          have L4 : TU T l i na nb lo4 := L3.set (by omega) _
          have d7 : lo4[7]? = some (some (.d (.int (usedN T i.nm : Nat)))) := by simp only [lo4]; rw [List.getElem?_set_self (by omega)]
          have hl4 := L4.len
          have ne1 := strNe i.w l.w mh
          rw [sSeq_ap, p5, sq_nx]
          clear p5
          by_cases hiw : i.w = l.w
          · rw [decide_eq_true hiw] at ne1
            by_cases hu : usedN T i.nm = 1
            · have hub : ((usedN T i.nm : Int) == 1) = true := by rw [beq_iff_eq]; omega
              have p6 : (sIf (bOr (mB (bind2 (bind2 (mV 6) (mC (.int 1)) oIxA) (mV 4) oNe)) (mB (bind2 (mV 7) (mC (.int 1)) oNe))) (sSeq (sRet (mC .none)) sNil) sNil) lo4 mh = .nx lo4 mh := by
                simp [-getElem?_pos, -oNe_ap, L4.h4, L4.h6, d7, ln_1, ne1]
                rw [oNe_ap, if_pos (by simp [PyData.depth]), eqv_int, hub]
                simp
              rw [if_pos ⟨hiw, hu⟩, sSeq_ap, p6, sq_nx]
              have hwi : i.w ∈ eitherL := by rw [hiw]; exact hw
              obtain ⟨ia, ib, hind, -, -⟩ := nd_two h hi hwi
              rw [hind]
              have hni : l.nm ≠ i.nm := by rw [hln, hin]; exact Ne.symm hnb
              let lo5 : Lo := lo4.set 8 (some (.d (.tuple [])))
              have p7 : (sSet 8 (mTup aNil)) lo4 mh = .nx lo5 mh := by simp [lo5]
              have L5 : TU T l i na nb lo5 := L4.set (by omega) _
              have d8 : lo5[8]? = some (some (.d (.tuple (([] : List Ln).map lnD)))) := by simp only [lo5]; rw [List.getElem?_set_self (by omega)]; rfl
              have hsq : iSeq (bind2 (mV 0) (mC (.int 0)) oIxA) lo5 mh = .ok (T.ls.map (fun l => PV.d (lnD l)), always) mh := by
                have := ls_0 T mh
                have h2 := ls_sq T.ls mh
                rw [map_d] at h2
                simp [-getElem?_pos, L5.h0, this, h2]
              obtain ⟨lo6, mh6, e6, rfl, acc, hacc, hal, L6, d8'⟩ := forL_i (gg := always) (t := .nm 9) (m := l__law_turned_1)
                (fun k lo mh' => mh' = mh ∧ ∃ acc, acc = (T.ls.take k).flatMap (leftF l.nm i.nm l.w na ia ib) ∧ acc.length ≤ 2 * k ∧ TU T l i na nb lo ∧ lo[8]? = some (some (.d (.tuple (acc.map lnD)))))
                (fun l : Ln => PV.d (lnD l)) (fun _ _ _ _ => trivial) T.ls 0 lo5 mh
                (by
                  rintro k x lo mh' hx ⟨rfl, acc, hacc, hal, L, h8⟩
                  rw [Nat.zero_add] at hacc hal ⊢
                  have hk := (List.getElem?_eq_some_iff.mp hx).1
                  have hll := L.len
                  obtain ⟨lo', e, L', h8'⟩ := lt_1 (lo := lo.set 9 (some (.d (lnD x)))) (o := x) hni hind (L.set (by omega) _) (acc := acc) (by omega) (by rw [List.getElem?_set_self (by omega)]) (by rw [List.getElem?_set_ne (by omega)]; exact h8) mh'
                  refine ⟨_, lo', mh', tgt_nm 9, .inl e, rfl, _, ?_, ?_, L', h8'⟩
                  · rw [List.take_add_one, hx, List.flatMap_append, ← hacc]; simp
                  · rw [List.length_append]; have := leftF_len l.nm i.nm l.w na ia ib x; omega)
                ⟨rfl, [], rfl, Nat.zero_le _, L5, d8⟩
              rw [Nat.zero_add, List.take_length] at hacc
              have p8 : (sFor (iSeq (bind2 (mV 0) (mC (.int 0)) oIxA)) (.nm 9) l__law_turned_1) lo5 mh6 = .nx lo6 mh6 := by rw [sFor_ap, hsq, ofR_ok]; exact e6
              rw [sSeq_ap, p7, sq_nx, sSeq_ap, p8, sq_nx]
              show _ = SR.rt (PV.d (.tuple [.tuple ((T.ls.flatMap (leftF n i.nm l.w na ia ib)).map lnD), gsD T.gs])) mh6
              rw [← hln, ← hacc]
              have hg := gs_1 T mh6
              generalize acc.map lnD = ys at *
              simp [-getElem?_pos, L6.h0, d8', hg]
            · have hub : ((usedN T i.nm : Int) == 1) = false := by rw [beq_eq_false_iff_ne]; omega
              rw [if_neg (fun e => hu e.2)]
              simp [-getElem?_pos, -oNe_ap, L4.h4, L4.h6, d7, ln_1, ne1, optD]
              rw [oNe_ap, if_pos (by simp [PyData.depth]), eqv_int, hub]
              simp
          · rw [decide_eq_false hiw] at ne1
            rw [if_neg (fun e => hiw e.1)]
            simp [-getElem?_pos, -oNe_ap, L4.h4, L4.h6, ln_1, ne1, optD]
    · have ht : turnT T s n = none := by unfold turnT; rw [hf]; exact if_neg hw
      rw [decide_eq_false hw] at ni
      rw [ht]
      simp [-getElem?_pos, a1, a2, dn, ix, ln_1, ni, optD]
end
end K70


set_option Elab.async false
set_option linter.all false
set_option maxRecDepth 100000
set_option maxHeartbeats 4000000
namespace K70
open PySem EL
/-! ### a turned text is a text -/
theorem LsOk.swap {n : Str} {nd : List Str} : ∀ {ls : List Ln} {ah : List Str}, LsOk ah ls → (∀ o, o ∈ ls → o.nm = n → nd.length = o.nd.length ∧ ∀ z, z ∈ nd → z ∈ o.nd) → LsOk ah (swapL ls n nd)
  | [], _, _, _ => trivial
  | o :: ls, ah, h, hn => by
    have ih := LsOk.swap h.2 fun p hp => hn p (by simp [hp])
    show LsOk ah ((if o.nm = n then (⟨o.nm, o.w, nd⟩ : Ln) else o) :: swapL ls n nd)
    by_cases e : o.nm = n
    · obtain ⟨h1, h2⟩ := hn o (by simp) e
      rw [if_pos e]
      exact ⟨⟨h.1.nm, h.1.nw, by rw [h1]; exact h.1.wd, fun z hz => h.1.nd z (h2 z hz)⟩, ih⟩
    · rw [if_neg e]
      exact ⟨h.1, ih⟩
theorem swap_nms (ls : List Ln) (n : Str) (nd : List Str) : nms (swapL ls n nd) = nms ls := by
  unfold nms swapL
  rw [List.map_map]
  refine List.map_congr_left fun o _ => ?_
  show (if o.nm = n then (⟨o.nm, o.w, nd⟩ : Ln) else o).nm = o.nm
  split <;> rfl
theorem LsOk.chg {i : Str} : ∀ {ls : List Ln} {ah ah' : List Str}, LsOk ah ls → (∀ l, l ∈ ls → i ∉ l.nd) → (∀ x, x ∈ ah → x ≠ i → x ∈ ah') → (∀ x, x ∈ ah' → x ∈ ah) → LsOk ah' ls
  | [], _, _, _, _, _, _ => trivial
  | l :: ls, ah, ah', h, hi, h1, h2 => by
    refine ⟨⟨h.1.nm, fun hm => h.1.nw (h2 _ hm), h.1.wd, fun z hz => h1 z (h.1.nd z hz) fun e => hi l (by simp) (e ▸ hz)⟩, ?_⟩
    refine LsOk.chg h.2 (fun k hk => hi k (by simp [hk])) (fun x hx hxi => ?_) fun x hx => ?_
    · rcases List.mem_append.mp hx with hx | hx
      · exact List.mem_append_left _ (h1 x hx hxi)
      · exact List.mem_append_right _ hx
    · rcases List.mem_append.mp hx with hx | hx
      · exact List.mem_append_left _ (h2 x hx)
      · exact List.mem_append_right _ hx
theorem leftF_id {n i w a b c : Str} : ∀ {ls : List Ln}, (∀ o, o ∈ ls → o.nm ≠ n ∧ o.nm ≠ i) → ls.flatMap (leftF n i w a b c) = ls
  | [], _ => rfl
  | o :: ls, h => by
    obtain ⟨h1, h2⟩ := h o (by simp)
    rw [List.flatMap_cons, leftF_id fun p hp => h p (by simp [hp])]
    unfold leftF
    rw [if_neg h1, if_neg h2]; rfl
theorem sub_skip {i : Str} {l xs ys : List Str} (h : l.Sublist (xs ++ i :: ys)) (hi : i ∉ l) : l.Sublist (xs ++ ys) := by
  obtain ⟨l1, l2, rfl, h1, h2⟩ := List.sublist_append_iff.mp h
  refine h1.append ?_
  cases h2 with
  | cons _ h2 => exact h2
  | cons_cons _ h2 => exact absurd (List.mem_append_right _ (by simp)) hi
theorem nms_app (a b : List Ln) : nms (a ++ b) = nms a ++ nms b := by unfold nms; rw [List.map_append]
theorem sum_zero {ls : List Nat} : ls.sum = 0 → ∀ x, x ∈ ls → x = 0 := by
  induction ls with
  | nil => intro _ x hx; cases hx
  | cons a ls ih =>
    intro h x hx
    rw [List.sum_cons] at h
    rcases List.mem_cons.mp hx with rfl | hx
    · omega
    · exact ih (by omega) x hx
/-- who uses a line that is used once -/
theorem used_once {T : Tx} {l : Ln} (hl : l ∈ T.ls) {na nb : Str} (hnd : l.nd = [na, nb]) (hu : usedN T nb = 1) : na ≠ nb ∧ nb ∉ T.gs ∧ ∀ A C, T.ls = A ++ l :: C → (∀ o, o ∈ A → nb ∉ o.nd) ∧ (∀ o, o ∈ C → nb ∉ o.nd) := by
  obtain ⟨A0, C0, e0⟩ := List.append_of_mem hl
  have key : ∀ A C, T.ls = A ++ l :: C → (A.map fun o => o.nd.count nb).sum = 0 ∧ (C.map fun o => o.nd.count nb).sum = 0 ∧ l.nd.count nb = 1 ∧ T.gs.count nb = 0 := fun A C e => by
    unfold usedN at hu
    rw [e, List.map_append, List.map_cons, List.sum_append, List.sum_cons] at hu
    have : 1 ≤ l.nd.count nb := by rw [hnd]; exact List.count_pos_iff.mpr (by simp)
    omega
  have k0 := key A0 C0 e0
  refine ⟨fun e => ?_, fun hm => ?_, fun A C e => ?_⟩
  · have := k0.2.2.1
    rw [hnd, e] at this
    simp at this
  · have := List.count_pos_iff.mpr hm
    omega
  · obtain ⟨k1, k2, -, -⟩ := key A C e
    refine ⟨fun o ho hm => ?_, fun o ho hm => ?_⟩
    · have h1 := sum_zero k1 _ (List.mem_map_of_mem (f := fun o : Ln => o.nd.count nb) ho)
      have := List.count_pos_iff.mpr hm
      omega
    · have h1 := sum_zero k2 _ (List.mem_map_of_mem (f := fun o : Ln => o.nd.count nb) ho)
      have := List.count_pos_iff.mpr hm
      omega
theorem turn_ok {T T' : Tx} (h : TOk T) {s n : Str} (ht : turnT T s n = some T') : TOk T' ∧ T'.ls.length = T.ls.length ∧ T'.gs = T.gs := by
  have hn := h.ls.nd
  unfold turnT at ht
  cases hf : findL T.ls n with
  | none => rw [hf] at ht; cases ht
  | some l =>
    rw [hf] at ht
    dsimp only at ht
    obtain ⟨hl, hln⟩ := findL_some hf
    by_cases hw : l.w ∈ eitherL
    · rw [if_pos hw] at ht
      by_cases hs : s = ("swap" : Str)
      · rw [if_pos hs] at ht
        cases ht
        have hlen := swapL_len T.ls n l.nd.reverse
        refine ⟨⟨h.ls.swap fun o ho e => ?_, by show 1 ≤ (swapL T.ls n l.nd.reverse).length; rw [hlen]; exact h.n1, by show (swapL T.ls n l.nd.reverse).length ≤ 60; rw [hlen]; exact h.n60, h.g1, h.g6, by show T.gs.Sublist (nms (swapL T.ls n l.nd.reverse)); rw [swap_nms]; exact h.gs⟩, hlen, rfl⟩
        have : o = l := nm_inj hn hl ho (e.trans hln.symm)
        subst this
        exact ⟨List.length_reverse, fun z hz => List.mem_reverse.mp hz⟩
      · rw [if_neg hs] at ht
        obtain ⟨na, nb, hnd, ma, mb⟩ := nd_two h hl hw
        rw [hnd] at ht
        have ht : (match findL T.ls nb with
          | none => none
          | some i => if i.w = l.w ∧ usedN T i.nm = 1 then some (⟨T.ls.flatMap (leftF n i.nm l.w na (i.nd.getD 0 "") (i.nd.getD 1 "")), T.gs⟩ : Tx) else none) = some T' := ht
        cases hfi : findL T.ls nb with
        | none => rw [hfi] at ht; cases ht
        | some i =>
          rw [hfi] at ht
          dsimp only at ht
          obtain ⟨hi, hin⟩ := findL_some hfi
          by_cases hc : i.w = l.w ∧ usedN T i.nm = 1
          · rw [if_pos hc] at ht
            injection ht with ht
            obtain ⟨hiw, hu⟩ := hc
            rw [hin] at hu ht
            obtain ⟨ia, ib, hind, -, -⟩ := nd_two h hi (by rw [hiw]; exact hw)
            rw [hind] at ht
            have ht : (⟨T.ls.flatMap (leftF n nb l.w na ia ib), T.gs⟩ : Tx) = T' := ht
            obtain ⟨u1, u2, u3⟩ := used_once hl hnd hu
            obtain ⟨P, C, eP⟩ := List.append_of_mem hl
            obtain ⟨uA, uC⟩ := u3 P C eP
            have hok := h.ls
            rw [eP, LsOk.app, List.nil_append] at hok
            obtain ⟨okP, okl, okC⟩ := hok
            have hbP : nb ∈ nms P := okl.nd nb (by rw [hnd]; simp)
            have haP : na ∈ nms P := okl.nd na (by rw [hnd]; simp)
            obtain ⟨i', hi', hin'⟩ := List.mem_map.mp hbP
            have : i' = i := nm_inj hn hi (by rw [eP]; simp [hi']) (hin'.trans hin.symm)
            subst this
            obtain ⟨A, B, eA⟩ := List.append_of_mem hi'
            subst eA
            rw [LsOk.app, List.nil_append] at okP
            obtain ⟨okA, oki, okB⟩ := okP
            rw [eP] at hn
            simp only [nms_app] at hn haP okl okC
            have hdd : nms (i' :: B) = nb :: nms B := by show i'.nm :: nms B = _; rw [hin']
            have hdl : nms (l :: C) = n :: nms C := by show l.nm :: nms C = _; rw [hln]
            rw [hdd, hdl] at hn
            rw [hdd] at haP okl okC
            rw [hin'] at okB
            rw [hln] at okC
            have hiaA : ∀ z, z ∈ i'.nd → z ∈ nms A := oki.nd
            rw [List.append_assoc, List.nodup_append] at hn
            obtain ⟨ndA, ndR, dA⟩ := hn
            rw [List.cons_append, List.nodup_cons] at ndR
            obtain ⟨nbR, ndR⟩ := ndR
            rw [List.nodup_append] at ndR
            obtain ⟨ndB, ndR, dB⟩ := ndR
            rw [List.nodup_cons] at ndR
            obtain ⟨nC, ndC⟩ := ndR
            have inm : ∀ {X : List Ln} {o : Ln}, o ∈ X → o.nm ∈ nms X := fun h => List.mem_map_of_mem (f := fun l : Ln => l.nm) h
            have fA : ∀ o, o ∈ A → o.nm ≠ n ∧ o.nm ≠ nb := fun o ho => ⟨fun e => dA _ (inm ho) n (by simp) e, fun e => dA _ (inm ho) nb (by simp) e⟩
            have fB : ∀ o, o ∈ B → o.nm ≠ n ∧ o.nm ≠ nb := fun o ho => ⟨fun e => dB _ (inm ho) n (by simp) e, fun e => nbR (by rw [← e]; exact List.mem_append_left _ (inm ho))⟩
            have fC : ∀ o, o ∈ C → o.nm ≠ n ∧ o.nm ≠ nb := fun o ho => ⟨fun e => nC (by rw [← e]; exact inm ho), fun e => nbR (by rw [← e]; exact List.mem_append_right _ (List.mem_cons_of_mem _ (inm ho)))⟩
            have hnb : nb ≠ n := fun e => nbR (by rw [e]; simp)
            let X : Ln := ⟨nb, l.w, [na, ia]⟩
            let Y : Ln := ⟨n, l.w, [nb, ib]⟩
            have hlist : T.ls.flatMap (leftF n nb l.w na ia ib) = A ++ (B ++ (X :: Y :: C)) := by
              have e1 : leftF n nb l.w na ia ib i' = [] := by unfold leftF; rw [if_neg (by rw [hin']; exact hnb), if_pos hin']
              have e2 : leftF n nb l.w na ia ib l = [X, Y] := by unfold leftF; rw [if_pos hln]
              rw [eP, List.flatMap_append, List.flatMap_append, List.flatMap_cons, List.flatMap_cons, leftF_id fA, leftF_id fB, leftF_id fC, e1, e2]
              simp
            rw [hlist] at ht
            subst ht
            have hnaA : na ∈ nms A ++ nms B := by
              rcases List.mem_append.mp haP with q | q
              · exact List.mem_append_left _ q
              · rcases List.mem_cons.mp q with q | q
                · exact absurd q u1
                · exact List.mem_append_right _ q
            have wd2 : t_NEEDS.lookup l.w = some (2 : Int) := either_need hw
            refine ⟨⟨?_, ?_, ?_, h.g1, h.g6, ?_⟩, ?_, rfl⟩
            · show LsOk [] (A ++ (B ++ (X :: Y :: C)))
              rw [LsOk.app, LsOk.app, List.nil_append]
              refine ⟨okA, ?_, ⟨?_, ?_, ?_, fun z hz => ?_⟩, ⟨?_, ?_, ?_, fun z hz => ?_⟩, ?_⟩
              · refine okB.chg (i := nb) (fun o ho => uA o (by simp [ho])) (fun x hx hxi => ?_) fun x hx => List.mem_append_left _ hx
                rcases List.mem_append.mp hx with hx | hx
                · exact hx
                · exact absurd (List.mem_singleton.mp hx) hxi
              · have := oki.nm; rw [hin'] at this; exact this
              · intro hm
                rcases List.mem_append.mp hm with hm | hm
                · exact dA nb hm nb (by simp) rfl
                · exact nbR (List.mem_append_left _ hm)
              · exact wd2
              · simp only [X, List.mem_cons, List.not_mem_nil, or_false] at hz
                rcases hz with rfl | rfl
                · exact hnaA
                · exact List.mem_append_left _ (hiaA _ (by rw [hind]; simp))
              · have := okl.nm; rw [hln] at this; exact this
              · intro hm
                rcases List.mem_append.mp hm with hm | hm
                · rcases List.mem_append.mp hm with hm | hm
                  · exact dA n hm n (by simp) rfl
                  · exact dB n hm n (by simp) rfl
                · exact hnb (List.mem_singleton.mp hm).symm
              · exact wd2
              · simp only [Y, List.mem_cons, List.not_mem_nil, or_false] at hz
                rcases hz with rfl | rfl
                · exact List.mem_append_right _ (by simp [X])
                · exact List.mem_append_left _ (List.mem_append_left _ (hiaA _ (by rw [hind]; simp)))
              · refine okC.chg (i := nb) uC (fun x hx hxi => ?_) fun x hx => ?_
                · simp only [List.mem_append, List.mem_cons, List.not_mem_nil, or_false, X, Y] at hx ⊢
                  rcases hx with (hx | hx | hx) | hx <;> simp [hx]
                · simp only [List.mem_append, List.mem_cons, List.not_mem_nil, or_false, X, Y] at hx ⊢
                  rcases hx with ((hx | hx) | hx) | hx <;> simp [hx]
            · show 1 ≤ (A ++ (B ++ (X :: Y :: C))).length
              simp; omega
            · show (A ++ (B ++ (X :: Y :: C))).length ≤ 60
              have := h.n60
              rw [eP] at this
              simp at this ⊢; omega
            · show T.gs.Sublist (nms (A ++ (B ++ (X :: Y :: C))))
              have hg := h.gs
              rw [eP] at hg
              simp only [nms_app] at hg ⊢
              rw [hdd, hdl, List.append_assoc, List.cons_append] at hg
              have h2 := sub_skip hg u2
              refine h2.trans ?_
              refine List.Sublist.append (List.Sublist.refl _) (List.Sublist.append (List.Sublist.refl _) ?_)
              show (n :: nms C).Sublist (nb :: n :: nms C)
              exact (List.Sublist.refl _).cons _
            · show (A ++ (B ++ (X :: Y :: C))).length = T.ls.length
              rw [eP]
              simp; omega
          · rw [if_neg hc] at ht; cases ht
    · rw [if_neg hw] at ht; cases ht
end K70


set_option Elab.async false
set_option linter.all false
set_option maxRecDepth 100000
set_option maxHeartbeats 4000000
namespace K70
open PySem EL
/-! ### any plain data -/
inductive Pl : Nat → PyData → Prop
  | none (n : Nat) : Pl (n + 1) .none
  | bool (n : Nat) (b : Bool) : Pl (n + 1) (.bool b)
  | int (n : Nat) (i : Int) : Pl (n + 1) (.int i)
  | str (n : Nat) {z : Str} (h : z.length ≤ 100) : Pl (n + 1) (.str z)
  | tuple {n : Nat} {l : List PyData} (h : l.length ≤ 1000) (hl : ∀ x, x ∈ l → Pl n x) : Pl (n + 1) (.tuple l)
  | list {n : Nat} {l : List PyData} (h : l.length ≤ 1000) (hl : ∀ x, x ∈ l → Pl n x) : Pl (n + 1) (.list l)
def stepB (v : PyData) : Bool := match v with
  | .tuple [.str s, .str _] => decide (s ∈ (["swap", "left"] : List Str))
  | _ => false
theorem stepB_iff {v : PyData} : stepB v = true ↔ ∃ s n, v = .tuple [.str s, .str n] ∧ s ∈ (["swap", "left"] : List Str) := by
  unfold stepB
  constructor
  · intro h
    split at h
    · rename_i s n
      exact ⟨s, n, rfl, of_decide_eq_true h⟩
    · cases h
  · rintro ⟨s, n, rfl, h⟩
    exact decide_eq_true h
def isS (d : PyData) : Bool := match d with
  | .str _ => true
  | _ => false
theorem is_turn_g {n : Nat} {v : PyData} (h : Pl (n + 2) v) (mh : Mh) : m_is_turn [.d v] mh = .ok (.d (.bool (stepB v))) mh := by
  unfold m_is_turn dM b_is_turn
  cases h with
  | @tuple n xs hz hx =>
    match xs, hx with
    | [], _ => simp [startL, kIsi, pvTy, tyIs, PyData.depth, eqv_int, fin, stepB]
    | [a], _ => simp [startL, kIsi, pvTy, tyIs, PyData.depth, eqv_int, fin, stepB]
    | [a, b], hx =>
      have ha := hx a (by simp)
      have hb := hx b (by simp)
      have el : lcL always (.nm 1) bYes (mIsi "str" (mV 1)) [some (.d (.tuple [a, b])), none] [.d a, .d b] mh = .ok [.d (.bool (isS a)), .d (.bool (isS b))] mh := by
        have := lcL_d (gg := always) (t := .nm 1) (me := mIsi "str" (mV 1)) (lo0 := [some (.d (.tuple [a, b])), none]) (mh := mh) [a, b] id (fun x => PyData.bool (isS x)) trivial fun x hm => ⟨_, rfl, by
          have hp := hx x hm
          cases hp <;> simp [kIsi, pvTy, tyIs, isS]⟩
        exact this
      have ek : kLen [PV.d (.bool (isS a)), .d (.bool (isS b))] mh = .ok [PV.d (.bool (isS a)), .d (.bool (isS b))] mh := kLen_ok (by simp)
      have f1 : frzL [PV.d (.bool (isS a)), .d (.bool (isS b))] mh = .ok (.d (.list [.bool (isS a), .bool (isS b)])) mh := frzL_d [.bool (isS a), .bool (isS b)]
      have al : nBools (·.all id) [.d (.list [.bool (isS a), .bool (isS b)])] mh = .ok (.d (.bool (isS a && isS b))) mh := by
        have := nBools_l (mh := mh) (·.all id) [isS a, isS b]
        simpa using this
      have e1 : (mCB (nBools (·.all id)) (aCons (mFrz (mLC (iSeq (mV 0)) (.nm 1) bYes (mIsi "str" (mV 1)) [1])) aNil)) [some (.d (.tuple [a, b])), none] mh = .ok (.d (.bool (isS a && isS b))) mh := by
        have hs : iSeq (mV 0) [some (.d (.tuple [a, b])), none] mh = .ok ([.d a, .d b], always) mh := rfl
        rw [mCB_ap, aCons_ap, mFrz_ap, mLC_ap, hs, Res.bind_ok, wipeL_cons, wipeL_nil, kLC_ap]
        show ((((lcL always (.nm 1) bYes (mIsi "str" (mV 1)) [some (.d (.tuple [a, b])), none] [.d a, .d b] mh).bind kLen).bind frzL).bind _).bind _ = _
        rw [el, Res.bind_ok, ek, Res.bind_ok, f1, Res.bind_ok, ka1_ap, aNil_ap, Res.bind_ok, ka2_ap, Res.bind_ok, al]
      clear el ek f1 al
      generalize (mCB (nBools (·.all id)) (aCons (mFrz (mLC (iSeq (mV 0)) (.nm 1) bYes (mIsi "str" (mV 1)) [1])) aNil)) = ME at e1 ⊢
      cases ha with
      | @str m s hs =>
        cases hb with
        | @str m t ht =>
          have ni := strIn_t ["swap", "left"] s mh
          have ni : oIn (.d (.str s)) (.d (.tuple [.str "swap", .str "left"])) mh = .ok (.d (.bool (decide (s ∈ (["swap", "left"] : List Str))))) mh := ni
          have hst : stepB (.tuple [.str s, .str t]) = decide (s ∈ (["swap", "left"] : List Str)) := rfl
          rw [hst]
          have e1 : ME [some (.d (.tuple [.str s, .str t])), none] mh = .ok (.d (.bool true)) mh := e1
          generalize decide (s ∈ (["swap", "left"] : List Str)) = dd at ni ⊢
          simp [startL, kIsi, pvTy, tyIs, PyData.depth, eqv_int, fin, e1, ni]
        | none => have e1 : ME _ mh = .ok (.d (.bool false)) mh := e1; simp [startL, kIsi, pvTy, tyIs, PyData.depth, eqv_int, fin, e1, stepB]
        | bool => have e1 : ME _ mh = .ok (.d (.bool false)) mh := e1; simp [startL, kIsi, pvTy, tyIs, PyData.depth, eqv_int, fin, e1, stepB]
        | int => have e1 : ME _ mh = .ok (.d (.bool false)) mh := e1; simp [startL, kIsi, pvTy, tyIs, PyData.depth, eqv_int, fin, e1, stepB]
        | tuple => have e1 : ME _ mh = .ok (.d (.bool false)) mh := e1; simp [startL, kIsi, pvTy, tyIs, PyData.depth, eqv_int, fin, e1, stepB]
        | list => have e1 : ME _ mh = .ok (.d (.bool false)) mh := e1; simp [startL, kIsi, pvTy, tyIs, PyData.depth, eqv_int, fin, e1, stepB]
      | none => have e1 : ME _ mh = .ok (.d (.bool false)) mh := e1; simp [startL, kIsi, pvTy, tyIs, PyData.depth, eqv_int, fin, e1, stepB]
      | bool => have e1 : ME _ mh = .ok (.d (.bool false)) mh := e1; simp [startL, kIsi, pvTy, tyIs, PyData.depth, eqv_int, fin, e1, stepB]
      | int => have e1 : ME _ mh = .ok (.d (.bool false)) mh := e1; simp [startL, kIsi, pvTy, tyIs, PyData.depth, eqv_int, fin, e1, stepB]
      | tuple => have e1 : ME _ mh = .ok (.d (.bool false)) mh := e1; simp [startL, kIsi, pvTy, tyIs, PyData.depth, eqv_int, fin, e1, stepB]
      | list => have e1 : ME _ mh = .ok (.d (.bool false)) mh := e1; simp [startL, kIsi, pvTy, tyIs, PyData.depth, eqv_int, fin, e1, stepB]
    | a :: b :: c :: r, _ =>
      have hne : ((r.length : Int) + 1 + 1 + 1 == 2) = false := beq_eq_false_iff_ne.mpr (by omega)
      simp [startL, kIsi, pvTy, tyIs, PyData.depth, eqv_int, fin, stepB, hne]
  | none => simp [startL, kIsi, pvTy, tyIs, fin, stepB]
  | bool => simp [startL, kIsi, pvTy, tyIs, fin, stepB]
  | int => simp [startL, kIsi, pvTy, tyIs, fin, stepB]
  | str => simp [startL, kIsi, pvTy, tyIs, fin, stepB]
  | list => simp [startL, kIsi, pvTy, tyIs, fin, stepB]
/-! ### steps, one behind another -/
def turnV (T : Tx) (v : PyData) : Option Tx := match v with
  | .tuple [.str s, .str n] => turnT T s n
  | _ => none
/-- the first step that can't be done, or the text behind all -/
def goT : List PyData → Tx → Nat → Nat ⊕ Tx
  | [], T, _ => .inr T
  | x :: xs, T, k => match turnV T x with
    | none => .inl k
    | some T' => goT xs T' (k + 1)
def stD (k : Nat) : PyData := .tuple [.str "step", .int (k : Nat)]
def frmD : PyData := .tuple [.str "form"]
def Tf (T : Tx) (v : PyData) : PyData := match v with
  | .tuple xs => if xs.all stepB = true then (match goT xs T 0 with
    | .inl k => stD k
    | .inr _ => .none) else frmD
  | _ => frmD
theorem pvNone_o (o : Option Tx) : pvNone (.d (optD o)) = o.isNone := by cases o <;> rfl
theorem pvN : pvNone (.d .none) = true := rfl
theorem pvT (l : List PyData) : pvNone (.d (.tuple l)) = false := rfl
structure TB (T : Tx) (v : PyData) (lo : Lo) : Prop where
  l : lo.length = 5
  h0 : lo[0]? = some (some (.d (txD T)))
  h1 : lo[1]? = some (some (.d v))
theorem TB.set {T : Tx} {v : PyData} {lo : Lo} (L : TB T v lo) {i : Nat} (hi : 2 ≤ i) (w : Option PV) : TB T v (lo.set i w) :=
  ⟨by simp [L.l], by rw [List.getElem?_set_ne (by omega)]; exact L.h0, by rw [List.getElem?_set_ne (by omega)]; exact L.h1⟩
theorem tf_loop (v : PyData) (mh : Mh) : ∀ (xs : List PyData) (T : Tx) (k : Nat) (lo : Lo), (∀ x, x ∈ xs → stepB x = true) → TOk T → TB T v lo →
    (∃ j, goT xs T k = .inl j ∧ forL always (.tp [.nm 2, .nm 3]) l_turns_fault_1 ((xs.zipIdx k).map fun p => PV.d (.tuple [.int (p.2 : Nat), p.1])) lo mh = .rt (.d (stD j)) mh) ∨
    (∃ T', goT xs T k = .inr T' ∧ ∃ lo', forL always (.tp [.nm 2, .nm 3]) l_turns_fault_1 ((xs.zipIdx k).map fun p => PV.d (.tuple [.int (p.2 : Nat), p.1])) lo mh = .nx lo' mh)
  | [], T, k, lo, _, _, _ => .inr ⟨T, rfl, lo, by simp only [List.zipIdx_nil, List.map_nil, forL, always, if_true]; exact if_pos trivial⟩
  | x :: xs, T, k, lo, hx, hT, L => by
    obtain ⟨s, n, rfl, hs⟩ := stepB_iff.mp (hx x (by simp))
    have hll := L.l
    have c := kCall_d0 (n := 2) (vs := [.d (txD T), .d (.tuple [.str s, .str n])]) rfl (turn_by_v hT s n mh)
    let lo1 : Lo := (lo.set 2 (some (.d (.int (k : Nat))))).set 3 (some (.d (.tuple [.str s, .str n])))
    have L1 : TB T v lo1 := (L.set (by omega) _).set (by omega) _
    have a2 : lo1[2]? = some (some (.d (.int (k : Nat)))) := by simp only [lo1]; rw [List.getElem?_set_ne (by omega), List.getElem?_set_self (by omega)]
    have a3 : lo1[3]? = some (some (.d (.tuple [.str s, .str n]))) := by simp only [lo1]; rw [List.getElem?_set_self (by simp; omega)]
    have hl1 := L1.l
    have p0 : (sSet 0 (mCall 2 m_turn_by (aCons (mV 0) (aCons (mV 3) aNil)))) lo1 mh = .nx (lo1.set 0 (some (.d (optD (turnT T s n))))) mh := by
      simp [-getElem?_pos, L1.h0, a3, c]
    have b0 : (lo1.set 0 (some (.d (optD (turnT T s n)))))[0]? = some (some (.d (optD (turnT T s n)))) := by rw [List.getElem?_set_self (by omega)]
    have b2 : (lo1.set 0 (some (.d (optD (turnT T s n)))))[2]? = some (some (.d (.int (k : Nat)))) := by rw [List.getElem?_set_ne (by omega)]; exact a2
    have b1 : (lo1.set 0 (some (.d (optD (turnT T s n)))))[1]? = some (some (.d v)) := by rw [List.getElem?_set_ne (by omega)]; exact L1.h1
    have hb : ∀ lo2 : Lo, lo2 = lo1.set 0 (some (.d (optD (turnT T s n)))) → lo2.length = 5 := fun lo2 e => by rw [e]; simp [hl1]
    have hgo : goT (.tuple [.str s, .str n] :: xs) T k = match turnT T s n with
      | none => .inl k
      | some T' => goT xs T' (k + 1) := rfl
    have tg : tgt (.tp [.nm 2, .nm 3]) (PV.d (.tuple [.int (k : Nat), .tuple [.str s, .str n]])) = some [(2, .d (.int (k : Nat))), (3, .d (.tuple [.str s, .str n]))] := tgt_2 2 3 _ _
    rw [List.zipIdx_cons, List.map_cons]
    cases ht : turnT T s n with
    | none =>
      left
      rw [ht] at p0 b0 b2 hgo
      refine ⟨k, hgo, ?_⟩
      have e : l_turns_fault_1 lo1 mh = .rt (.d (stD k)) mh := by
        unfold l_turns_fault_1
        rw [sSeq_ap, p0, sq_nx]
        generalize lo1.set 0 (some (.d (optD none))) = lo2 at b0 b2
        simp [-getElem?_pos, b0, b2, optD, stD, pvN]
      simp only [forL, if_pos (show always mh from trivial), tg, upL_cons, upL_nil]
      show (match l_turns_fault_1 lo1 mh with | _ => _) = _
      rw [e]
    | some T' =>
      rw [ht] at p0 b0 b1 b2 hgo
      have hT' := (turn_ok hT ht).1
      have L2 : TB T' v (lo1.set 0 (some (.d (optD (some T'))))) := ⟨by simp [hl1], b0, b1⟩
      have e : l_turns_fault_1 lo1 mh = .nx (lo1.set 0 (some (.d (optD (some T'))))) mh := by
        unfold l_turns_fault_1
        rw [sSeq_ap, p0, sq_nx]
        generalize lo1.set 0 (some (.d (optD (some T')))) = lo2 at b0 b2
        simp [-getElem?_pos, b0, optD, txD, pvT]
      have ef : ∀ l, forL always (.tp [.nm 2, .nm 3]) l_turns_fault_1 (PV.d (.tuple [.int (k : Nat), .tuple [.str s, .str n]]) :: l) lo mh = forL always (.tp [.nm 2, .nm 3]) l_turns_fault_1 l (lo1.set 0 (some (.d (optD (some T'))))) mh := fun l => by
        simp only [forL, if_pos (show always mh from trivial), tg, upL_cons, upL_nil]
        show (match l_turns_fault_1 lo1 mh with | _ => _) = _
        rw [e]
      rw [ef, hgo]
      exact tf_loop v mh xs T' (k + 1) _ (fun y hy => hx y (by simp [hy])) hT' L2
theorem enum_z (xs : List PyData) : enumP (xs.map .d) = (xs.zipIdx 0).map fun p => PV.d (.tuple [.int (p.2 : Nat), p.1]) := by
  have := enumP_f (id : PyData → PyData) xs
  rw [List.map_id] at this
  exact this
theorem turns_fault_g {T : Tx} (hT : TOk T) {n : Nat} {v : PyData} (h : Pl (n + 3) v) (mh : Mh) : m_turns_fault [.d (txD T), .d v] mh = .ok (.d (Tf T v)) mh := by
  unfold m_turns_fault dM b_turns_fault
  have c0 := kCall_d0 (n := 1) (vs := [.d (txD T)]) rfl (check_text_v hT mh)
  cases h with
  | @tuple n xs hz hx =>
    have h5 : ¬ (5000 : Int) < (xs.length : Nat) := by omega
    have el : lcL always (.nm 4) bYes (mCall 1 m_is_turn (aCons (mV 4) aNil)) [some (.d (txD T)), some (.d (.tuple xs)), none, none, none] (xs.map .d) mh = .ok ((xs.map fun x => PyData.bool (stepB x)).map .d) mh := by
      have := lcL_d (gg := always) (t := .nm 4) (me := mCall 1 m_is_turn (aCons (mV 4) aNil)) (lo0 := [some (.d (txD T)), some (.d (.tuple xs)), none, none, none]) (mh := mh) xs id (fun x => PyData.bool (stepB x)) trivial fun x hm => ⟨_, rfl, by
        have c := kCall_d0 (n := 1) (vs := [.d x]) rfl (is_turn_g (hx x hm) mh)
        simp [c]⟩
      rwa [List.map_id] at this
    have ek : kLen ((xs.map fun x => PyData.bool (stepB x)).map .d) mh = .ok ((xs.map fun x => PyData.bool (stepB x)).map .d) mh := kLen_ok (by simp; omega)
    have f1 := frzL_d (mh := mh) (xs.map fun x => PyData.bool (stepB x))
    have al := nAll_v xs stepB mh
    let lo0 : Lo := [some (.d (txD T)), some (.d (.tuple xs)), none, none, none]
    have p0 : (sExpr (mCall 1 m_check_text (aCons (mV 0) aNil))) lo0 mh = .nx lo0 mh := by simp [lo0, c0]
    cases ha : xs.all stepB with
    | false =>
      rw [ha] at al
      have : Tf T (.tuple xs) = frmD := by
        show (if xs.all stepB = true then _ else frmD) = frmD
        rw [ha]; rfl
      rw [this]
      generalize (xs.map fun x => PyData.bool (stepB x)) = ys at *
      simp [-List.map_map, startL, kIsi, pvTy, tyIs, c0, h5, el, ek, f1, al, fin, frmD]
    | true =>
      rw [ha] at al
      have hall := List.all_eq_true.mp ha
      have this : Tf T (.tuple xs) = match goT xs T 0 with
        | .inl k => stD k
        | .inr _ => .none := by
        show (if xs.all stepB = true then _ else frmD) = _
        rw [ha]; rfl
      have p1 : (sIf (bOr (bNot (mTru (mIsi "tuple" (mV 1)))) (bOr (mB (bind2 (mCB nLen (aCons (mV 1) aNil)) (mC k_MOST_STEPS) oGtI)) (bNot (mTru (mCB (nBools (·.all id)) (aCons (mFrz (mLC (iSeq (mV 1)) (.nm 4) bYes (mCall 1 m_is_turn (aCons (mV 4) aNil)) [4])) aNil)))))) (sSeq (sRet (mC k_FORM_turned)) sNil) sNil) lo0 mh = .nx lo0 mh := by
        generalize (xs.map fun x => PyData.bool (stepB x)) = ys at *
        simp [-List.map_map, lo0, kIsi, pvTy, tyIs, h5, el, ek, f1, al]
      have hi : iEnum (mV 1) lo0 mh = .ok ((xs.zipIdx 0).map fun p => PV.d (.tuple [.int (p.2 : Nat), p.1]), always) mh := by
        rw [← enum_z]
        simp [lo0]
      rw [this]
      show (match (sSeq _ _) lo0 mh with | _ => _) = _
      rw [sSeq_ap, p0, sq_nx, sSeq_ap, p1, sq_nx, sSeq_ap, sFor_ap, hi, ofR_ok]
      dsimp only
      rcases tf_loop (.tuple xs) mh xs T 0 lo0 hall hT ⟨rfl, rfl, rfl⟩ with ⟨j, e1, e2⟩ | ⟨T', e1, lo', e2⟩
      · rw [e1, e2]; rfl
      · rw [e1, e2]; rfl
  | none => simp [startL, kIsi, pvTy, tyIs, c0, fin, Tf, frmD]
  | bool => simp [startL, kIsi, pvTy, tyIs, c0, fin, Tf, frmD]
  | int => simp [startL, kIsi, pvTy, tyIs, c0, fin, Tf, frmD]
  | str => simp [startL, kIsi, pvTy, tyIs, c0, fin, Tf, frmD]
  | list => simp [startL, kIsi, pvTy, tyIs, c0, fin, Tf, frmD]
end K70


set_option Elab.async false
set_option linter.all false
set_option maxRecDepth 100000
set_option maxHeartbeats 4000000
namespace EL
theorem forL_c {gg : Mh → Prop} {t : Tg} {m : SM} {v : PV} {l : List PV} {lo lo1 : Lo} {mh mh1 : Mh} {us : List (Nat × PV)} (hg : gg mh) (h1 : tgt t v = some us) (h2 : m (upL lo us) mh = .nx lo1 mh1 ∨ m (upL lo us) mh = .ct lo1 mh1) : forL gg t m (v :: l) lo mh = forL gg t m l lo1 mh1 := by
  simp only [forL, if_pos hg, h1]
  rcases h2 with h2 | h2 <;> rw [h2]
theorem forL_r {gg : Mh → Prop} {t : Tg} {m : SM} {v w : PV} {l : List PV} {lo : Lo} {mh mh1 : Mh} {us : List (Nat × PV)} (hg : gg mh) (h1 : tgt t v = some us) (h2 : m (upL lo us) mh = .rt w mh1) : forL gg t m (v :: l) lo mh = .rt w mh1 := by
  simp only [forL, if_pos hg, h1, h2]
theorem forL_z {gg : Mh → Prop} {t : Tg} {m : SM} {lo : Lo} {mh : Mh} (hg : gg mh) : forL gg t m [] lo mh = .nx lo mh := by simp only [forL, if_pos hg]
end EL
namespace K70
open PySem EL
def isNon (d : PyData) : Bool := match d with
  | .none => true
  | _ => false
theorem pvNone_d (d : PyData) : pvNone (.d d) = isNon d := by cases d <;> rfl
theorem kCx0 {n : Nat} {mf : FM} {vs : List PV} {mh : Mh} (hn : vs.length = n) {c : Nat} (h : mf vs mh = .exc c mh) : kCall n mf vs mh = .exc c mh := kCall_x (gb := []) hn (by simpa using h)
section
variable {T : Tx} {mh : Mh} {n : Nat} {v : PyData} {xs : List PyData}
/-! ### turned -/
structure TC (T : Tx) (v : PyData) (lo : Lo) : Prop where
  l : lo.length = 3
  h0 : lo[0]? = some (some (.d (txD T)))
  h1 : lo[1]? = some (some (.d v))
theorem td_loop (v : PyData) (mh : Mh) : ∀ (xs : List PyData) (T : Tx) (k : Nat) (lo : Lo) (T' : Tx), (∀ x, x ∈ xs → stepB x = true) → TOk T → TC T v lo → goT xs T k = .inr T' →
    ∃ lo', forL always (.nm 2) l_turned_1 (xs.map .d) lo mh = .nx lo' mh ∧ TC T' v lo' ∧ TOk T'
  | [], T, k, lo, T', _, hT, L, hg => by
    cases hg
    exact ⟨lo, forL_z trivial, L, hT⟩
  | x :: xs, T, k, lo, T', hx, hT, L, hg => by
    obtain ⟨s, n, rfl, hs⟩ := stepB_iff.mp (hx x (by simp))
    have hll := L.l
    have c := kCall_d0 (n := 2) (vs := [.d (txD T), .d (.tuple [.str s, .str n])]) rfl (turn_by_v hT s n mh)
    have hgo : goT (.tuple [.str s, .str n] :: xs) T k = match turnT T s n with
      | none => .inl k
      | some T' => goT xs T' (k + 1) := rfl
    rw [hgo] at hg
    cases ht : turnT T s n with
    | none => rw [ht] at hg; cases hg
    | some T1 =>
      rw [ht] at hg c
      let lo1 : Lo := lo.set 2 (some (.d (.tuple [.str s, .str n])))
      have a0 : lo1[0]? = some (some (.d (txD T))) := by simp only [lo1]; rw [List.getElem?_set_ne (by omega)]; exact L.h0
      have a1 : lo1[1]? = some (some (.d v)) := by simp only [lo1]; rw [List.getElem?_set_ne (by omega)]; exact L.h1
      have a2 : lo1[2]? = some (some (.d (.tuple [.str s, .str n]))) := by simp only [lo1]; rw [List.getElem?_set_self (by omega)]
      have hl1 : lo1.length = 3 := by simp [lo1, hll]
      have L2 : TC T1 v (lo1.set 0 (some (.d (txD T1)))) := ⟨by simp [hl1], by rw [List.getElem?_set_self (by omega)], by rw [List.getElem?_set_ne (by omega)]; exact a1⟩
      have e : l_turned_1 lo1 mh = .nx (lo1.set 0 (some (.d (txD T1)))) mh := by
        unfold l_turned_1
        generalize lo1 = lo2 at a0 a2
        have c : kCall 2 m_turn_by [.d (txD T), .d (.tuple [.str s, .str n])] mh = .ok (.d (txD T1)) mh := c
        simp [-getElem?_pos, a0, a2, c]
      obtain ⟨lo', e2, L', hT'⟩ := td_loop v mh xs T1 (k + 1) _ T' (fun y hy => hx y (by simp [hy])) (turn_ok hT ht).1 L2 hg
      refine ⟨lo', ?_, L', hT'⟩
      rw [List.map_cons, forL_c trivial (tgt_nm 2) (.inl e)]
      exact e2
theorem turned_ok {T' : Tx} (hT : TOk T) (hp : Pl (n + 3) (.tuple xs)) (ha : xs.all stepB = true) (hg : goT xs T 0 = .inr T') (mh : Mh) : m_turned [.d (txD T), .d (.tuple xs)] mh = .ok (.d (txD T')) mh := by
  unfold m_turned dM b_turned
  have c := kCall_d0 (n := 2) (vs := [.d (txD T), .d (.tuple xs)]) rfl (turns_fault_g hT hp mh)
  have hf : Tf T (.tuple xs) = .none := by
    show (if xs.all stepB = true then (match goT xs T 0 with
      | .inl k => stD k
      | .inr _ => .none) else frmD) = .none
    rw [if_pos ha, hg]
  rw [hf] at c
  let lo0 : Lo := [some (.d (txD T)), some (.d (.tuple xs)), none]
  have p0 : (sIf (mB (bind2 (mCall 2 m_turns_fault (aCons (mV 0) (aCons (mV 1) aNil))) (mC .none) (isNone true))) (sSeq (sRaise 3) sNil) sNil) lo0 mh = .nx lo0 mh := by simp [lo0, c, pvN]
  have hs : iSeq (mV 1) lo0 mh = .ok (xs.map .d, always) mh := rfl
  obtain ⟨lo', e, L, -⟩ := td_loop (.tuple xs) mh xs T 0 lo0 T' (List.all_eq_true.mp ha) hT ⟨rfl, rfl, rfl⟩ hg
  show (match (sSeq _ _) lo0 mh with | _ => _) = _
  rw [sSeq_ap, p0, sq_nx, sSeq_ap, sFor_ap, hs, ofR_ok]
  dsimp only
  rw [e, sq_nx]
  have p2 : (sRet (mV 0)) lo' mh = .rt (.d (txD T')) mh := by simp [-getElem?_pos, L.h0]
  rw [sSeq_ap, p2]; rfl
theorem turned_x (hT : TOk T) (hp : Pl (n + 3) v) (hf : isNon (Tf T v) = false) (mh : Mh) : m_turned [.d (txD T), .d v] mh = .exc 3 mh := by
  unfold m_turned dM b_turned
  have c := kCall_d0 (n := 2) (vs := [.d (txD T), .d v]) rfl (turns_fault_g hT hp mh)
  simp [startL, c, pvNone_d, hf, fin]
/-- steps that are none at fault -/
theorem Tf_none (h : isNon (Tf T v) = true) : ∃ xs T', v = .tuple xs ∧ xs.all stepB = true ∧ goT xs T 0 = .inr T' := by
  unfold Tf at h
  split at h
  · rename_i xs
    split at h
    · rename_i ha
      cases hg : goT xs T 0 with
      | inl k => rw [hg] at h; cases h
      | inr T' => exact ⟨xs, T', rfl, ha, hg⟩
    · cases h
  · cases h
/-! ### the law's look at turns -/
theorem lf2 {x : PyData} (hx : Pl (n + 2) x) {lo : Lo} (h2 : lo[2]? = some (some (.d x))) (mh : Mh) : l__law_fault_2 lo mh = if stepB x = true then .nx lo mh else .rt (.d frmD) mh := by
  unfold l__law_fault_2
  cases hx with
  | @tuple n xs hz hx =>
    match xs, hx with
    | [], _ => simp [-getElem?_pos, h2, kIsi, pvTy, tyIs, PyData.depth, eqv_int, stepB, frmD]
    | [a], _ => simp [-getElem?_pos, h2, kIsi, pvTy, tyIs, PyData.depth, eqv_int, stepB, frmD]
    | [a, b], hx =>
      have ha := hx a (by simp)
      have hb := hx b (by simp)
      cases ha with
      | @str m s hs =>
        have ni := strNin_t ["swap", "left"] s mh
        have ni : oNin (.d (.str s)) (.d (.tuple [.str "swap", .str "left"])) mh = .ok (.d (.bool (!decide (s ∈ (["swap", "left"] : List Str))))) mh := ni
        cases hb with
        | @str m t ht =>
          have hst : stepB (.tuple [.str s, .str t]) = decide (s ∈ (["swap", "left"] : List Str)) := rfl
          rw [hst]
          cases hd : decide (s ∈ (["swap", "left"] : List Str)) <;> rw [hd] at ni <;> simp [-getElem?_pos, h2, kIsi, pvTy, tyIs, PyData.depth, eqv_int, ni, frmD]
        | none => cases hd : decide (s ∈ (["swap", "left"] : List Str)) <;> rw [hd] at ni <;> simp [-getElem?_pos, h2, kIsi, pvTy, tyIs, PyData.depth, eqv_int, ni, stepB, frmD]
        | bool => cases hd : decide (s ∈ (["swap", "left"] : List Str)) <;> rw [hd] at ni <;> simp [-getElem?_pos, h2, kIsi, pvTy, tyIs, PyData.depth, eqv_int, ni, stepB, frmD]
        | int => cases hd : decide (s ∈ (["swap", "left"] : List Str)) <;> rw [hd] at ni <;> simp [-getElem?_pos, h2, kIsi, pvTy, tyIs, PyData.depth, eqv_int, ni, stepB, frmD]
        | tuple => cases hd : decide (s ∈ (["swap", "left"] : List Str)) <;> rw [hd] at ni <;> simp [-getElem?_pos, h2, kIsi, pvTy, tyIs, PyData.depth, eqv_int, ni, stepB, frmD]
        | list => cases hd : decide (s ∈ (["swap", "left"] : List Str)) <;> rw [hd] at ni <;> simp [-getElem?_pos, h2, kIsi, pvTy, tyIs, PyData.depth, eqv_int, ni, stepB, frmD]
      | none => simp [-getElem?_pos, h2, kIsi, pvTy, tyIs, PyData.depth, eqv_int, stepB, frmD]
      | bool => simp [-getElem?_pos, h2, kIsi, pvTy, tyIs, PyData.depth, eqv_int, stepB, frmD]
      | int => simp [-getElem?_pos, h2, kIsi, pvTy, tyIs, PyData.depth, eqv_int, stepB, frmD]
      | tuple => simp [-getElem?_pos, h2, kIsi, pvTy, tyIs, PyData.depth, eqv_int, stepB, frmD]
      | list => simp [-getElem?_pos, h2, kIsi, pvTy, tyIs, PyData.depth, eqv_int, stepB, frmD]
    | a :: b :: c :: r, _ =>
      have hne : ((r.length : Int) + 1 + 1 + 1 == 2) = false := beq_eq_false_iff_ne.mpr (by omega)
      simp [-getElem?_pos, h2, kIsi, pvTy, tyIs, PyData.depth, eqv_int, stepB, frmD, hne]
  | none => simp [-getElem?_pos, h2, kIsi, pvTy, tyIs, stepB, frmD]
  | bool => simp [-getElem?_pos, h2, kIsi, pvTy, tyIs, stepB, frmD]
  | int => simp [-getElem?_pos, h2, kIsi, pvTy, tyIs, stepB, frmD]
  | str => simp [-getElem?_pos, h2, kIsi, pvTy, tyIs, stepB, frmD]
  | list => simp [-getElem?_pos, h2, kIsi, pvTy, tyIs, stepB, frmD]
structure TD (T : Tx) (v : PyData) (lo : Lo) : Prop where
  l : lo.length = 4
  h0 : lo[0]? = some (some (.d (txD T)))
  h1 : lo[1]? = some (some (.d v))
theorem TD.set {T : Tx} {v : PyData} {lo : Lo} (L : TD T v lo) {i : Nat} (hi : 2 ≤ i) (w : Option PV) : TD T v (lo.set i w) :=
  ⟨by simp [L.l], by rw [List.getElem?_set_ne (by omega)]; exact L.h0, by rw [List.getElem?_set_ne (by omega)]; exact L.h1⟩
theorem lf1_loop (vs : List PyData) (mh : Mh) : ∀ (xs pre : List PyData) (T : Tx) (lo : Lo), vs = pre ++ xs → (∀ x, x ∈ xs → stepB x = true) → TOk T → TD T (.tuple vs) lo →
    (∃ j, goT xs T pre.length = .inl j ∧ forL always (.nm 3) l__law_fault_1 ((xs.zipIdx pre.length).map fun p => PV.d (.int (p.2 : Nat))) lo mh = .rt (.d (stD j)) mh) ∨
    (∃ T', goT xs T pre.length = .inr T' ∧ ∃ lo', forL always (.nm 3) l__law_fault_1 ((xs.zipIdx pre.length).map fun p => PV.d (.int (p.2 : Nat))) lo mh = .nx lo' mh)
  | [], pre, T, lo, _, _, _, _ => .inr ⟨T, rfl, lo, forL_z trivial⟩
  | x :: xs, pre, T, lo, hv, hx, hT, L => by
    obtain ⟨s, n, rfl, hs⟩ := stepB_iff.mp (hx x (by simp))
    have hll := L.l
    have c := kCall_d0 (n := 2) (vs := [.d (txD T), .d (.tuple [.str s, .str n])]) rfl (turned_v hT s n mh)
    let lo1 : Lo := lo.set 3 (some (.d (.int (pre.length : Nat))))
    have L1 : TD T (.tuple vs) lo1 := L.set (by omega) _
    have a3 : lo1[3]? = some (some (.d (.int (pre.length : Nat)))) := by simp only [lo1]; rw [List.getElem?_set_self (by omega)]
    have hl1 := L1.l
    have ix : oIxA (.d (.tuple vs)) (.d (.int (pre.length : Nat))) mh = .ok (.d (.tuple [.str s, .str n])) mh := oIx_dt (by rw [atI_nn, hv, List.getElem?_append_right (Nat.le_refl _), Nat.sub_self]; rfl)
    have p0 : (sSet 0 (mCall 2 m__law_turned (aCons (mV 0) (aCons (bind2 (mV 1) (mV 3) oIxA) aNil)))) lo1 mh = .nx (lo1.set 0 (some (.d (optD (turnT T s n))))) mh := by
      generalize lo1 = lo2 at *
      simp [-getElem?_pos, L1.h0, L1.h1, a3, ix, c]
    have b0 : (lo1.set 0 (some (.d (optD (turnT T s n)))))[0]? = some (some (.d (optD (turnT T s n)))) := by rw [List.getElem?_set_self (by omega)]
    have b3 : (lo1.set 0 (some (.d (optD (turnT T s n)))))[3]? = some (some (.d (.int (pre.length : Nat)))) := by rw [List.getElem?_set_ne (by omega)]; exact a3
    have b1 : (lo1.set 0 (some (.d (optD (turnT T s n)))))[1]? = some (some (.d (.tuple vs))) := by rw [List.getElem?_set_ne (by omega)]; exact L1.h1
    have hgo : goT (.tuple [.str s, .str n] :: xs) T pre.length = match turnT T s n with
      | none => .inl pre.length
      | some T' => goT xs T' (pre.length + 1) := rfl
    rw [List.zipIdx_cons, List.map_cons]
    cases ht : turnT T s n with
    | none =>
      left
      rw [ht] at p0 b0 b3 hgo
      refine ⟨pre.length, hgo, ?_⟩
      have e : l__law_fault_1 lo1 mh = .rt (.d (stD pre.length)) mh := by
        unfold l__law_fault_1
        rw [sSeq_ap, p0, sq_nx]
        generalize lo1.set 0 (some (.d (optD none))) = lo2 at b0 b3
        simp [-getElem?_pos, b0, b3, optD, stD, pvN]
      exact forL_r trivial (tgt_nm 3) e
    | some T' =>
      rw [ht] at p0 b0 b1 b3 hgo
      have hT' := (turn_ok hT ht).1
      have L2 : TD T' (.tuple vs) (lo1.set 0 (some (.d (optD (some T'))))) := ⟨by simp [hl1], b0, b1⟩
      have e : l__law_fault_1 lo1 mh = .nx (lo1.set 0 (some (.d (optD (some T'))))) mh := by
        unfold l__law_fault_1
        rw [sSeq_ap, p0, sq_nx]
        generalize lo1.set 0 (some (.d (optD (some T')))) = lo2 at b0 b3
        simp [-getElem?_pos, b0, optD, txD, pvT]
      have hlen : (pre ++ [PyData.tuple [.str s, .str n]]).length = pre.length + 1 := by simp
      have ih := lf1_loop vs mh xs (pre ++ [.tuple [.str s, .str n]]) T' _ (by rw [hv]; simp) (fun y hy => hx y (by simp [hy])) hT' L2
      rw [hlen] at ih
      rw [forL_c trivial (tgt_nm 3) (.inl e), hgo]
      exact ih
theorem law_fault_g (hT : TOk T) (h : Pl (n + 3) v) (mh : Mh) : m__law_fault [.d (txD T), .d v] mh = .ok (.d (Tf T v)) mh := by
  unfold m__law_fault dM b__law_fault
  cases h with
  | @tuple n xs hz hx =>
    have h5 : ¬ (5000 : Int) < (xs.length : Nat) := by omega
    let lo0 : Lo := [some (.d (txD T)), some (.d (.tuple xs)), none, none]
    have L0 : TD T (.tuple xs) lo0 := ⟨rfl, rfl, rfl⟩
    have p0 : (sIf (bOr (bNot (mTru (mIsi "tuple" (mV 1)))) (mB (bind2 (mCB nLen (aCons (mV 1) aNil)) (mC (.int 5000)) oGtI))) (sSeq (sRet (mTup (aCons (mC (.str "form")) aNil))) sNil) sNil) lo0 mh = .nx lo0 mh := by simp [lo0, kIsi, pvTy, tyIs, h5]
    have hs : iSeq (mV 1) lo0 mh = .ok (xs.map .d, always) mh := rfl
    have hfd := forL_find (gg := always) (t := .nm 2) (m := l__law_fault_2) (TD T (.tuple xs)) PV.d (fun x => !stepB x) (fun _ => .d frmD) mh trivial xs [] lo0
      (by
        rintro p x q lo he hp L
        rw [List.nil_append] at he
        have hm : x ∈ xs := by rw [he]; simp
        have e := lf2 (hx x hm) (lo := lo.set 2 (some (.d x))) (by rw [List.getElem?_set_self (by rw [L.l]; omega)]) mh
        refine ⟨_, rfl, ?_⟩
        cases hb : stepB x with
        | false => rw [hb, if_neg (by decide)] at e; exact .inl ⟨rfl, e⟩
        | true => rw [hb, if_pos rfl] at e; exact .inr ⟨rfl, _, e, L.set (by omega) _⟩)
      (fun y hy => by cases hy) L0
    show (match (sSeq _ _) lo0 mh with | _ => _) = _
    rw [sSeq_ap, p0, sq_nx, sSeq_ap, sFor_ap, hs, ofR_ok]
    dsimp only
    rcases hfd with ⟨x, e1, e2⟩ | ⟨e1, lo', e2, L'⟩
    · have ha : xs.all stepB = false := by
        have h1 := List.find?_some e1
        have h2 := List.mem_of_find?_eq_some e1
        rw [Bool.eq_false_iff]
        intro hall
        have := List.all_eq_true.mp hall x h2
        rw [this] at h1
        cases h1
      have hf : Tf T (.tuple xs) = frmD := by
        show (if xs.all stepB = true then _ else frmD) = frmD
        rw [ha]; rfl
      rw [e2, hf]; rfl
    · have ha : xs.all stepB = true := by
        rw [List.all_eq_true]
        intro x hx
        have := List.find?_eq_none.mp e1 x hx
        simpa using this
      have hf : Tf T (.tuple xs) = match goT xs T 0 with
        | .inl k => stD k
        | .inr _ => .none := by
        show (if xs.all stepB = true then _ else frmD) = _
        rw [ha]; rfl
      have hR : iRg1 (aCons (mCB nLen (aCons (mV 1) aNil)) aNil) lo' mh = .ok ((xs.zipIdx 0).map fun p => PV.d (.int (p.2 : Nat)), always) mh := by
        have e := iRg1_n (mr := aCons (mCB nLen (aCons (mV 1) aNil)) aNil) (lo := lo') (mh := mh) (n := xs.length) (by omega) (by simp [-getElem?_pos, L'.h1])
        rw [e]
        congr 2
        refine List.ext_getElem (by simp) fun i h1 h2 => ?_
        simp
      rw [e2, hf, sq_nx, sSeq_ap, sFor_ap, hR, ofR_ok]
      dsimp only
      rcases lf1_loop xs mh xs [] T lo' rfl (List.all_eq_true.mp ha) hT L' with ⟨j, q1, q2⟩ | ⟨T', q1, lo2, q2⟩
      · have q1 : goT xs T 0 = .inl j := q1
        have q2 : forL always (.nm 3) l__law_fault_1 ((xs.zipIdx 0).map fun p => PV.d (.int (p.2 : Nat))) lo' mh = .rt (.d (stD j)) mh := q2
        rw [q1, q2]; rfl
      · have q1 : goT xs T 0 = .inr T' := q1
        have q2 : forL always (.nm 3) l__law_fault_1 ((xs.zipIdx 0).map fun p => PV.d (.int (p.2 : Nat))) lo' mh = .nx lo2 mh := q2
        rw [q1, q2]; rfl
  | none => simp [startL, kIsi, pvTy, tyIs, fin, Tf, frmD]
  | bool => simp [startL, kIsi, pvTy, tyIs, fin, Tf, frmD]
  | int => simp [startL, kIsi, pvTy, tyIs, fin, Tf, frmD]
  | str => simp [startL, kIsi, pvTy, tyIs, fin, Tf, frmD]
  | list => simp [startL, kIsi, pvTy, tyIs, fin, Tf, frmD]
end
end K70


set_option Elab.async false
set_option linter.all false
set_option maxRecDepth 100000
set_option maxHeartbeats 4000000
namespace K70
open PySem EL
/-! ### the law's texts -/
def wl : List Str := ["neg", "double", "add", "sub", "times", "least", "greatest"]
theorem max2_i (a b : Int) (mh : Mh) : nMax2 [.d (.int a), .d (.int b)] mh = .ok (.d (.int (max a b))) mh := by
  show Res.ok (PV.d (.int (if b > a then b else a))) mh = _
  rw [Int.max_def]
  by_cases h : b > a
  · rw [if_pos h, if_pos (by omega)]
  · by_cases h2 : a ≤ b
    · rw [if_neg h, if_pos h2]; congr 3; omega
    · rw [if_neg h, if_neg h2]
theorem kt2 (a b : PV) (h : allD [a, b] = none) (mh : Mh) : kTup [a, b] mh = .ok (.tup [a, b]) mh := by
  unfold kTup
  rw [if_pos (sz (by simp)), h]
theorem tg2 (a b : PV) (i j : Nat) : tgt (.tp [.nm i, .nm j]) (.tup [a, b]) = some [(i, a), (j, b)] := by simp [tgt, tgts, tupOf]
def dr (ds : List Int) (i : Nat) : Int := ds.getD i 0
theorem dr_r {ds : List Int} (h : inR ds) (i : Nat) : 0 ≤ dr ds i ∧ dr ds i ≤ 65520 := by
  unfold dr
  rw [List.getD_eq_getElem?_getD]
  cases e : ds[i]? with
  | none => simp
  | some x => exact h x (List.mem_of_getElem? e)
theorem ix_dr {ds : List Int} {i : Nat} (h : i < ds.length) (mh : Mh) : oIxA (.d (.list (ds.map .int))) (.d (.int (i : Nat))) mh = .ok (.d (.int (dr ds i))) mh := by
  refine oIx_dl ?_
  rw [atI_nn, List.getElem?_map, List.getElem?_eq_getElem h]
  simp [dr, h]
/-- a draw modulo a number -/
theorem md {ds : List Int} (h : inR ds) (i : Nat) {m : Nat} (hm : 0 < m) : ∃ q : Nat, dr ds i % (m : Int) = q ∧ q < m ∧ ∀ mh, oModI (.d (.int (dr ds i))) (.d (.int (m : Nat))) mh = .ok (.d (.int (q : Nat))) mh := by
  have h1 := Int.emod_nonneg (dr ds i) (show (m : Int) ≠ 0 by omega)
  have h2 := Int.emod_lt_of_pos (dr ds i) (show (0 : Int) < m by omega)
  refine ⟨(dr ds i % (m : Int)).toNat, by omega, by omega, fun mh => ?_⟩
  rw [oModI_ok (by omega), show dr ds i % (m : Int) = (((dr ds i % (m : Int)).toNat : Nat) : Int) by omega]
  rfl
def lt (k : Nat) : Str := ⟨#[97 + k]⟩
theorem lt_inj {a b : Nat} (h : lt a = lt b) : a = b := by
  unfold lt at h
  injection h with h
  injection h with h
  injection h with h _
  omega
theorem lt_ok {k : Nat} (hk : k < 20) : NmOk (lt k) := by
  have : ∀ j, j < 20 → ∀ c, c ∈ (lt j).cps.toList → c ∈ (Str.ofString "abcdefghijklmnopqrstuvwxyz").cps.toList := by decide +kernel
  exact ⟨Nat.le_refl _, by show 1 ≤ 8; omega, this k hk⟩
theorem abcT {i : Nat} (h : i < 20) (mh : Mh) : oIxA (.d (.str "abcdefghijklmnopqrst")) (.d (.int (i : Nat))) mh = .ok (.d (.str (lt i))) mh := by
  have e : L2.atI (Str.ofString "abcdefghijklmnopqrst").cps.toList (i : Int) = some (97 + i) := by
    rw [atI_nn]
    have : ∀ j, j < 20 → (Str.ofString "abcdefghijklmnopqrst").cps.toList[j]? = some (97 + j) := by decide +kernel
    exact this i h
  unfold oIxA alt2 oIx
  rw [show seqOf mh (.d (.str "abcdefghijklmnopqrst")) = none from rfl]
  dsimp only
  rw [if_pos (by rw [show (Str.ofString "abcdefghijklmnopqrst").length = 20 by decide +kernel]; exact sz (by decide)), e]
  rfl
theorem strs_ix {l : List Str} {q : Nat} (h : q < l.length) (mh : Mh) : oIxA (.d (.list (l.map .str))) (.d (.int (q : Nat))) mh = .ok (.d (.str (l.getD q ""))) mh := by
  refine oIx_dl ?_
  rw [atI_nn, List.getElem?_map, List.getElem?_eq_getElem h, List.getD_eq_getElem?_getD, List.getElem?_eq_getElem h]; rfl
def unB (w : Str) : Bool := decide (w ∈ (["neg", "double"] : List Str))
theorem un_in (w : Str) (mh : Mh) : oIn (.d (.str w)) (.d (.tuple [.str "neg", .str "double"])) mh = .ok (.d (.bool (unB w))) mh := strIn_t ["neg", "double"] w mh
theorem wl_need {w : Str} (h : w ∈ wl) : t_NEEDS.lookup w = some (if unB w = true then 1 else 2) := by
  have : ∀ w, w ∈ wl → t_NEEDS.lookup w = some (if unB w = true then 1 else 2) := by decide +kernel
  exact this w h
theorem wl_nin {w : Str} (h : w ∈ wl) : w ≠ "in" := by
  have : ∀ w, w ∈ wl → w ≠ "in" := by decide +kernel
  exact this w h
def wA : List Str := ["neg", "double", "add", "sub", "times", "least", "greatest", "add"]
def wB : List Str := ["add", "sub", "times", "least", "greatest", "sub", "neg", "add"]
theorem wA_wl {q : Nat} (h : q < 8) : wA.getD q "" ∈ wl := by
  have : ∀ q, q < 8 → wA.getD q "" ∈ wl := by decide +kernel
  exact this q h
theorem wB_wl {q : Nat} (h : q < 8) : wB.getD q "" ∈ wl := by
  have : ∀ q, q < 8 → wB.getD q "" ∈ wl := by decide +kernel
  exact this q h
structure LT (n N I : Nat) (ds : List Int) (lo : Lo) : Prop where
  l : lo.length = 16
  h0 : lo[0]? = some (some (.d (.list (ds.map .int))))
  h2 : lo[2]? = some (some (.d (.int (N : Nat))))
  h3 : lo[3]? = some (some (.d (.int (I : Nat))))
  h4 : lo[4]? = some (some (.ref n))
section
variable {n N I k m : Nat} {ds own : List Int} {w : Str} {lo : Lo} {mh : Mh} {ls : List Ln}
theorem LT.set (L : LT n N I ds lo) {i : Nat} (hi : 5 ≤ i) (v : Option PV) : LT n N I ds (lo.set i v) :=
  ⟨by simp [L.l], by rw [List.getElem?_set_ne (by omega)]; exact L.h0, by rw [List.getElem?_set_ne (by omega)]; exact L.h2, by rw [List.getElem?_set_ne (by omega)]; exact L.h3, by rw [List.getElem?_set_ne (by omega)]; exact L.h4⟩
def ownL (ds : List Int) (k : Nat) : List Int := (List.range 5).map fun j => dr ds (2 + 5 * k + j)
theorem ownL_in (h : inR ds) (k : Nat) : inR (ownL ds k) := fun x hx => by
  obtain ⟨j, -, rfl⟩ := List.mem_map.mp hx
  exact dr_r h _
theorem ownL_len (ds : List Int) (k : Nat) : (ownL ds k).length = 5 := by unfold ownL; simp
theorem t0 (L : LT n N I ds lo) (hl : 75 ≤ ds.length) (hk : k ≤ 8) (h7 : lo[7]? = some (some (.d (.int (k : Nat))))) :
    (sSet 8 (mFrz (mLC (iRg1 (aCons (mC (.int 5)) aNil)) (.nm 14) bYes (mCB nInt (aCons (bind2 (mV 0) (bind2 (bind2 (mC (.int 2)) (bind2 (mC (.int 5)) (mV 7) oMulY) oAdd) (mV 14) oAdd) oIxA) aNil)) [14]))) lo mh = .nx (lo.set 8 (some (.d (.list ((ownL ds k).map .int))))) mh := by
  have hi : ∀ lo mh, iRg1 (aCons (mC (.int 5)) aNil) lo mh = .ok (((List.range 5).map fun i : Nat => PyData.int (i : Nat)).map .d, always) mh := fun lo mh => by rw [iRg1_n (n := 5) (by omega) rfl, map_d]
  have m1 : ∀ mh, oMulY (.d (.int 5)) (.d (.int (k : Nat))) mh = .ok (.d (.int (5 * (k : Nat)))) mh := fun mh => oMulY_i (.inl ⟨by omega, by omega⟩)
  have hll := L.l
  have e2 : ∀ lo, lo.length = 16 → lo[0]? = some (some (.d (.list (ds.map .int)))) → lo[7]? = some (some (.d (.int (k : Nat)))) → lcL always (.nm 14) bYes (mCB nInt (aCons (bind2 (mV 0) (bind2 (bind2 (mC (.int 2)) (bind2 (mC (.int 5)) (mV 7) oMulY) oAdd) (mV 14) oAdd) oIxA) aNil)) lo (((List.range 5).map fun i : Nat => PyData.int (i : Nat)).map .d) mh = .ok (((List.range 5).map fun j => .int (dr ds (2 + 5 * k + j))).map .d) mh := fun lo hl0 h0 h4 =>
    lcL_d (List.range 5) _ _ trivial fun j hj => ⟨_, rfl, by
      have hj := List.mem_range.mp hj
      have i1 := ix_dr (ds := ds) (i := 2 + 5 * k + j) (by omega) mh
      rw [show ((2 + 5 * k + j : Nat) : Int) = 2 + 5 * (k : Int) + (j : Int) by omega] at i1
      simp [-getElem?_pos, List.getElem?_set, hl0, h0, h4, m1, i1]⟩
  have ek : kLen (((List.range 5).map fun j => PyData.int (dr ds (2 + 5 * k + j))).map .d) mh = .ok (((List.range 5).map fun j => PyData.int (dr ds (2 + 5 * k + j))).map .d) mh := kLen_s _ (by decide) _ _
  have ef : frzL (((List.range 5).map fun j => PyData.int (dr ds (2 + 5 * k + j))).map .d) mh = .ok (.d (.list ((List.range 5).map fun j => PyData.int (dr ds (2 + 5 * k + j))))) mh := frzL_d _
  have ho : (ownL ds k).map PyData.int = (List.range 5).map fun j => PyData.int (dr ds (2 + 5 * k + j)) := by unfold ownL; rw [List.map_map]; rfl
  have e3 := e2 (lo.set 14 none) (by simp [hll]) (by rw [List.getElem?_set_ne (by omega)]; exact L.h0) (by rw [List.getElem?_set_ne (by omega)]; exact h7)
  rw [sSet_ap, mFrz_ap, mLC_ap, hi, Res.bind_ok, kLC_ap, wipeL_cons, wipeL_nil, e3, Res.bind_ok, ek, Res.bind_ok, ef, ofR_ok, kSet_ap, ho]
theorem t1c (L : LT n N I ds lo) (ho : own.length = 5) (hr : inR own) (h7 : lo[7]? = some (some (.d (.int (k : Nat))))) (h8 : lo[8]? = some (some (.d (.list (own.map .int))))) :
    ∃ b, ((bOr (mB (bind2 (mV 7) (mV 3) oLt)) (bAnd (mB (bind2 (bind2 (bind2 (mV 8) (mC (.int 0)) oIxA) (mC (.int 11)) oModI) (mC (.int 0)) oEq)) (mB (bind2 (mV 7) (bind2 (mV 2) (mC (.int 1)) oSubI) oLt))))) lo mh = .ok b mh ∧ (b = false → I ≤ k) := by
  obtain ⟨q, -, hq, m1⟩ := md hr 0 (m := 11) (by omega)
  have i0 : oIxA (.d (.list (own.map .int))) (.d (.int 0)) mh = .ok (.d (.int (dr own 0))) mh := ix_dr (i := 0) (by omega) mh
  have m1 := m1 mh
  rw [show ((11 : Nat) : Int) = 11 from rfl] at m1
  by_cases c1 : (k : Int) < (I : Int)
  · exact ⟨true, by simp [-getElem?_pos, L.h3, h7, c1], fun h => by cases h⟩
  · by_cases c2 : q = 0
    · subst c2
      by_cases c3 : (k : Int) < (N : Int) - 1
      · exact ⟨true, by simp [-getElem?_pos, -List.map_map, L.h3, L.h2, h7, h8, i0, m1, c1, c3, PyData.depth, eqv_int], fun h => by cases h⟩
      · exact ⟨false, by simp [-getElem?_pos, -List.map_map, L.h3, L.h2, h7, h8, i0, m1, c1, c3, PyData.depth, eqv_int], fun _ => by omega⟩
    · have hb : (((q : Nat) : Int) == 0) = false := by rw [beq_eq_false_iff_ne]; omega
      exact ⟨false, by simp [-getElem?_pos, -List.map_map, L.h3, h7, h8, i0, m1, c1, hb, PyData.depth, eqv_int], fun _ => by omega⟩
def hT (mh : Mh) (ls : List Ln) : Mh := mh ++ [.lst ((ls.map lnD).map .d)]
theorem appT (hl : ls.length ≤ 1000) (l : Ln) : oAppend (.ref mh.length) [.d (lnD l)] (hT mh ls) = .ok (.d .none) (hT mh (ls ++ [l])) := by
  unfold hT
  rw [app_s (ls.map lnD) (lnD l) rfl (by rw [List.length_map]; omega), List.map_append (f := lnD)]; rfl
theorem tyT : tyM (hT mh ls) "list" (.ref mh.length) = true := tyM_s (ls.map lnD) rfl
theorem t1a (L : LT mh.length N I ds lo) (hk : k < 20) (hl : ls.length ≤ 1000) (h7 : lo[7]? = some (some (.d (.int (k : Nat))))) :
    ((sSeq (sExpr (mBM "list" oAppend (mV 4) (aCons (mTup (aCons (bind2 (mC (.str "abcdefghijklmnopqrst")) (mV 7) oIxA) (aCons (mC (.str "in")) (aCons (mTup aNil) aNil)))) aNil))) (sSeq sCnt sNil))) lo (hT mh ls) = .ct lo (hT mh (ls ++ [⟨lt k, "in", []⟩])) := by
  have ap := appT (mh := mh) hl ⟨lt k, "in", []⟩
  unfold lnD sL at ap
  have c := abcT hk (hT mh ls)
  have ht := tyT (mh := mh) (ls := ls)
  simp only [List.map_nil] at ap
  generalize hT mh ls = m1 at *
  simp [-getElem?_pos, L.h4, h7, c, kBM_ap, ht, ap]
theorem t2 (L : LT n N I ds lo) (ho : own.length = 5) (hr : inR own) (hk : 1 ≤ k) (h7 : lo[7]? = some (some (.d (.int (k : Nat))))) (h8 : lo[8]? = some (some (.d (.list (own.map .int))))) :
    ∃ a b : Nat, a < k ∧ b < k ∧ (sSet 9 (mFrz (mLC (iSeq (mTup (aCons (mC (.int 1)) (aCons (mC (.int 2)) aNil)))) (.nm 14) bYes (mIf (mB (bind2 (bind2 (bind2 (mV 8) (mC (.int 3)) oIxA) (mC (.int 4)) oModI) (mC (.int 0)) oGtI)) (mCB nMax2 (aCons (mC (.int 0)) (aCons (bind2 (bind2 (mV 7) (mC (.int 1)) oSubI) (bind2 (bind2 (mV 8) (mV 14) oIxA) (mC (.int 3)) oModI) oSubI) aNil))) (bind2 (bind2 (mV 8) (mV 14) oIxA) (mV 7) oModI)) [14]))) lo mh = .nx (lo.set 9 (some (.d (.list [.int (a : Nat), .int (b : Nat)])))) mh := by
  have hll := L.l
  have hw : ∀ j : Nat, 1 ≤ j → j ≤ 2 → ∃ a : Nat, a < k ∧ ∀ lo : Lo, lo.length = 16 → lo[7]? = some (some (.d (.int (k : Nat)))) → lo[8]? = some (some (.d (.list (own.map .int)))) → lo[14]? = some (some (.d (.int (j : Nat)))) →
      (mIf (mB (bind2 (bind2 (bind2 (mV 8) (mC (.int 3)) oIxA) (mC (.int 4)) oModI) (mC (.int 0)) oGtI)) (mCB nMax2 (aCons (mC (.int 0)) (aCons (bind2 (bind2 (mV 7) (mC (.int 1)) oSubI) (bind2 (bind2 (mV 8) (mV 14) oIxA) (mC (.int 3)) oModI) oSubI) aNil))) (bind2 (bind2 (mV 8) (mV 14) oIxA) (mV 7) oModI)) lo mh = .ok (.d (.int (a : Nat))) mh := by
    intro j hj1 hj2
    obtain ⟨q, -, hq, m1⟩ := md hr 3 (m := 4) (by omega)
    obtain ⟨p, -, hp, m2⟩ := md hr j (m := 3) (by omega)
    obtain ⟨a, -, ha, m3⟩ := md hr j (m := k) (by omega)
    have m1 := m1 mh
    have m2 := m2 mh
    have m3 := m3 mh
    rw [show ((4 : Nat) : Int) = 4 from rfl] at m1
    rw [show ((3 : Nat) : Int) = 3 from rfl] at m2
    have i3 : oIxA (.d (.list (own.map .int))) (.d (.int 3)) mh = .ok (.d (.int (dr own 3))) mh := ix_dr (i := 3) (by omega) mh
    have ij := ix_dr (ds := own) (i := j) (by omega) mh
    by_cases c : 0 < q
    · refine ⟨(max 0 ((k : Int) - 1 - (p : Int))).toNat, by omega, fun lo hl h7 h8 h14 => ?_⟩
      have hx := max2_i 0 ((k : Int) - 1 - (p : Int)) mh
      rw [show max 0 ((k : Int) - 1 - (p : Int)) = (((max 0 ((k : Int) - 1 - (p : Int))).toNat : Nat) : Int) by omega] at hx
      generalize (max 0 ((k : Int) - 1 - (p : Int))).toNat = z at hx ⊢
      simp [-getElem?_pos, -List.map_map, h7, h8, h14, i3, ij, m1, m2, c, hx]
    · refine ⟨a, ha, fun lo hl h7 h8 h14 => ?_⟩
      simp [-getElem?_pos, -List.map_map, h7, h8, h14, i3, ij, m1, m3, c]
  obtain ⟨a, ha, ea⟩ := hw 1 (by omega) (by omega)
  obtain ⟨b, hb, eb⟩ := hw 2 (by omega) (by omega)
  refine ⟨a, b, ha, hb, ?_⟩
  have g7 : ∀ v, ((lo.set 14 none).set 14 v)[7]? = some (some (.d (.int (k : Nat)))) := fun v => by rw [List.getElem?_set_ne (by omega), List.getElem?_set_ne (by omega)]; exact h7
  have g8 : ∀ v, ((lo.set 14 none).set 14 v)[8]? = some (some (.d (.list (own.map .int)))) := fun v => by rw [List.getElem?_set_ne (by omega), List.getElem?_set_ne (by omega)]; exact h8
  have el := lcL_d (gg := always) (t := .nm 14) (me := mIf (mB (bind2 (bind2 (bind2 (mV 8) (mC (.int 3)) oIxA) (mC (.int 4)) oModI) (mC (.int 0)) oGtI)) (mCB nMax2 (aCons (mC (.int 0)) (aCons (bind2 (bind2 (mV 7) (mC (.int 1)) oSubI) (bind2 (bind2 (mV 8) (mV 14) oIxA) (mC (.int 3)) oModI) oSubI) aNil))) (bind2 (bind2 (mV 8) (mV 14) oIxA) (mV 7) oModI)) (lo0 := lo.set 14 none) (mh := mh) [1, 2] (fun j : Nat => .int (j : Nat)) (fun j => .int ((if j = 1 then a else b : Nat) : Int)) trivial fun j hj => by
    have h14 : ((lo.set 14 none).set 14 (some (.d (.int (j : Nat)))))[14]? = some (some (.d (.int (j : Nat)))) := by rw [List.getElem?_set_self (by simp [hll])]
    refine ⟨_, rfl, ?_⟩
    simp only [List.mem_cons, List.not_mem_nil, or_false] at hj
    rcases hj with rfl | rfl
    · exact ea _ (by simp [hll]) (g7 _) (g8 _) h14
    · exact eb _ (by simp [hll]) (g7 _) (g8 _) h14
  have el' : lcL always (.nm 14) bYes (mIf (mB (bind2 (bind2 (bind2 (mV 8) (mC (.int 3)) oIxA) (mC (.int 4)) oModI) (mC (.int 0)) oGtI)) (mCB nMax2 (aCons (mC (.int 0)) (aCons (bind2 (bind2 (mV 7) (mC (.int 1)) oSubI) (bind2 (bind2 (mV 8) (mV 14) oIxA) (mC (.int 3)) oModI) oSubI) aNil))) (bind2 (bind2 (mV 8) (mV 14) oIxA) (mV 7) oModI)) (lo.set 14 none) [.d (.int 1), .d (.int 2)] mh = .ok [.d (.int (a : Nat)), .d (.int (b : Nat))] mh := el
  generalize (mIf (mB (bind2 (bind2 (bind2 (mV 8) (mC (.int 3)) oIxA) (mC (.int 4)) oModI) (mC (.int 0)) oGtI)) (mCB nMax2 (aCons (mC (.int 0)) (aCons (bind2 (bind2 (mV 7) (mC (.int 1)) oSubI) (bind2 (bind2 (mV 8) (mV 14) oIxA) (mC (.int 3)) oModI) oSubI) aNil))) (bind2 (bind2 (mV 8) (mV 14) oIxA) (mV 7) oModI)) = me at el' ⊢
  have hs : iSeq (mTup (aCons (mC (.int 1)) (aCons (mC (.int 2)) aNil))) lo mh = .ok ([.d (.int 1), .d (.int 2)], always) mh := rfl
  have ek : kLen [PV.d (.int (a : Nat)), .d (.int (b : Nat))] mh = .ok [PV.d (.int (a : Nat)), .d (.int (b : Nat))] mh := kLen_ok (by simp)
  have f1 : frzL [PV.d (.int (a : Nat)), .d (.int (b : Nat))] mh = .ok (.d (.list [.int (a : Nat), .int (b : Nat)])) mh := frzL_d [.int (a : Nat), .int (b : Nat)]
  rw [sSet_ap, mFrz_ap, mLC_ap, hs, Res.bind_ok, kLC_ap, wipeL_cons, wipeL_nil, el', Res.bind_ok, ek, Res.bind_ok, f1, ofR_ok, kSet_ap]
end
end K70


set_option Elab.async false
set_option linter.all false
set_option maxRecDepth 100000
set_option maxHeartbeats 4000000
namespace K70
open PySem EL
section
variable {n N I k m : Nat} {ds own : List Int} {w : Str} {lo : Lo} {mh : Mh} {ls : List Ln}
theorem t3 (L : LT n N I ds lo) (ho : own.length = 5) (hr : inR own) (h8 : lo[8]? = some (some (.d (.list (own.map .int))))) :
    ∃ w, w ∈ wl ∧ (sSet 10 (bind2 (mFrz (lDisp (aCons (mC (.str "neg")) (aCons (mC (.str "double")) (aCons (mC (.str "add")) (aCons (mC (.str "sub")) (aCons (mC (.str "times")) (aCons (mC (.str "least")) (aCons (mC (.str "greatest")) (aCons (mC (.str "add")) aNil)))))))))) (bind2 (bind2 (mV 8) (mC (.int 0)) oIxA) (mC (.int 8)) oModI) oIxA)) lo mh = .nx (lo.set 10 (some (.d (.str w)))) mh := by
  obtain ⟨q, -, hq, m1⟩ := md hr 0 (m := 8) (by omega)
  have m1 := m1 mh
  rw [show ((8 : Nat) : Int) = 8 from rfl] at m1
  have i0 : oIxA (.d (.list (own.map .int))) (.d (.int 0)) mh = .ok (.d (.int (dr own 0))) mh := ix_dr (i := 0) (by omega) mh
  have hd : ((mFrz (lDisp (aCons (mC (.str "neg")) (aCons (mC (.str "double")) (aCons (mC (.str "add")) (aCons (mC (.str "sub")) (aCons (mC (.str "times")) (aCons (mC (.str "least")) (aCons (mC (.str "greatest")) (aCons (mC (.str "add")) aNil))))))))))) lo mh = .ok (.d (.list (wA.map .str))) mh := rfl
  have wi := strs_ix (l := wA) (q := q) hq mh
  refine ⟨wA.getD q "", wA_wl hq, ?_⟩
  rw [sSet_ap, bind2_ap, hd, Res.bind_ok, k2a_ap]
  generalize wA.map PyData.str = ws at wi ⊢
  simp [-getElem?_pos, -List.map_map, -List.getD_eq_getElem?_getD, h8, i0, m1, wi]
theorem t4 (L : LT n N I ds lo) (hin : inR ds) (hl : 75 ≤ ds.length) (ho : own.length = 5) (hr : inR own) (hk : 1 ≤ k) (h7 : lo[7]? = some (some (.d (.int (k : Nat))))) (h8 : lo[8]? = some (some (.d (.list (own.map .int)))))
    {a b : Nat} (ha : a < k) (hb : b < k) (h9 : lo[9]? = some (some (.d (.list [.int (a : Nat), .int (b : Nat)])))) {w : Str} (hw : w ∈ wl) (h10 : lo[10]? = some (some (.d (.str w)))) :
    ∃ lo' a' b' w', (sIf (mB (bind2 (bind2 (mCB nInt (aCons (bind2 (mV 0) (mC (.int 72)) oIxA) aNil)) (mC (.int 3)) oModI) (mC (.int 0)) oGtI)) (sSeq (sPar [9, 10] (aCons (mFrz (lDisp (aCons (bind2 (mV 7) (mC (.int 1)) oSubI) (aCons (bind2 (bind2 (mV 8) (mC (.int 1)) oIxA) (mV 7) oModI) aNil)))) (aCons (bind2 (mFrz (lDisp (aCons (mC (.str "add")) (aCons (mC (.str "sub")) (aCons (mC (.str "times")) (aCons (mC (.str "least")) (aCons (mC (.str "greatest")) (aCons (mC (.str "sub")) (aCons (mC (.str "neg")) (aCons (mC (.str "add")) aNil)))))))))) (bind2 (bind2 (mV 8) (mC (.int 0)) oIxA) (mC (.int 8)) oModI) oIxA) aNil))) sNil) sNil) lo mh = .nx lo' mh ∧ LT n N I ds lo' ∧ lo'[7]? = some (some (.d (.int (k : Nat)))) ∧ a' < k ∧ b' < k ∧ w' ∈ wl ∧ lo'[9]? = some (some (.d (.list [.int (a' : Nat), .int (b' : Nat)]))) ∧ lo'[10]? = some (some (.d (.str w'))) := by
  have hll := L.l
  obtain ⟨p, -, hp, m0⟩ := md hin 72 (m := 3) (by omega)
  have m0 := m0 mh
  rw [show ((3 : Nat) : Int) = 3 from rfl] at m0
  have i72 : oIxA (.d (.list (ds.map .int))) (.d (.int 72)) mh = .ok (.d (.int (dr ds 72))) mh := ix_dr (i := 72) (by omega) mh
  by_cases c : 0 < p
  · obtain ⟨q, -, hq, m1⟩ := md hr 0 (m := 8) (by omega)
    obtain ⟨b', -, hb', m2⟩ := md hr 1 (m := k) (by omega)
    have m1 := m1 mh
    have m2 := m2 mh
    rw [show ((8 : Nat) : Int) = 8 from rfl] at m1
    have i0 : oIxA (.d (.list (own.map .int))) (.d (.int 0)) mh = .ok (.d (.int (dr own 0))) mh := ix_dr (i := 0) (by omega) mh
    have i1 : oIxA (.d (.list (own.map .int))) (.d (.int 1)) mh = .ok (.d (.int (dr own 1))) mh := ix_dr (i := 1) (by omega) mh
    have hd : (mFrz (lDisp (aCons (mC (.str "add")) (aCons (mC (.str "sub")) (aCons (mC (.str "times")) (aCons (mC (.str "least")) (aCons (mC (.str "greatest")) (aCons (mC (.str "sub")) (aCons (mC (.str "neg")) (aCons (mC (.str "add")) aNil)))))))))) lo mh = .ok (.d (.list (wB.map .str))) mh := rfl
    have wi := strs_ix (l := wB) (q := q) hq mh
    have e1 : (bind2 (mFrz (lDisp (aCons (mC (.str "add")) (aCons (mC (.str "sub")) (aCons (mC (.str "times")) (aCons (mC (.str "least")) (aCons (mC (.str "greatest")) (aCons (mC (.str "sub")) (aCons (mC (.str "neg")) (aCons (mC (.str "add")) aNil)))))))))) (bind2 (bind2 (mV 8) (mC (.int 0)) oIxA) (mC (.int 8)) oModI) oIxA) lo mh = .ok (.d (.str (wB.getD q ""))) mh := by
      rw [bind2_ap, hd, Res.bind_ok, k2a_ap]
      generalize wB.map PyData.str = ws at wi ⊢
      simp [-getElem?_pos, -List.map_map, -List.getD_eq_getElem?_getD, h8, i0, m1, wi]
    have e2 : (mFrz (lDisp (aCons (bind2 (mV 7) (mC (.int 1)) oSubI) (aCons (bind2 (bind2 (mV 8) (mC (.int 1)) oIxA) (mV 7) oModI) aNil)))) lo mh = .ok (.d (.list [.int ((k - 1 : Nat) : Int), .int (b' : Nat)])) mh := by
      have f1 := frzL_d (mh := mh) [PyData.int ((k - 1 : Nat) : Int), .int (b' : Nat)]
      rw [show ((k - 1 : Nat) : Int) = (k : Int) - 1 by omega] at f1 ⊢
      have f1 : frzL [PV.d (.int ((k : Int) - 1)), .d (.int (b' : Nat))] mh = _ := f1
      simp [-getElem?_pos, -List.map_map, h7, h8, i1, m2, f1]
    generalize hME : (bind2 (mFrz (lDisp (aCons (mC (.str "add")) (aCons (mC (.str "sub")) (aCons (mC (.str "times")) (aCons (mC (.str "least")) (aCons (mC (.str "greatest")) (aCons (mC (.str "sub")) (aCons (mC (.str "neg")) (aCons (mC (.str "add")) aNil)))))))))) (bind2 (bind2 (mV 8) (mC (.int 0)) oIxA) (mC (.int 8)) oModI) oIxA) = ME at e1 ⊢
    generalize hME2 : (mFrz (lDisp (aCons (bind2 (mV 7) (mC (.int 1)) oSubI) (aCons (bind2 (bind2 (mV 8) (mC (.int 1)) oIxA) (mV 7) oModI) aNil)))) = ME2 at e2 ⊢
    generalize hww : wB.getD q "" = w' at e1
    refine ⟨(lo.set 9 (some (.d (.list [.int ((k - 1 : Nat) : Int), .int (b' : Nat)])))).set 10 (some (.d (.str w'))), k - 1, b', w', ?_, (L.set (by omega) _).set (by omega) _, ?_, by omega, hb', by rw [← hww]; exact wB_wl hq, ?_, ?_⟩
    · simp [-getElem?_pos, -List.map_map, L.h0, i72, m0, c, e1, e2]
    · rw [List.getElem?_set_ne (by omega), List.getElem?_set_ne (by omega)]; exact h7
    · rw [List.getElem?_set_ne (by omega), List.getElem?_set_self (by omega)]
    · rw [List.getElem?_set_self (by simp; omega)]
  · refine ⟨lo, a, b, w, ?_, L, h7, ha, hb, hw, h9, h10⟩
    simp [-getElem?_pos, -List.map_map, L.h0, i72, m0, c]
theorem t5 (L : LT mh.length N I ds lo) (hk : k < 20) (hl : ls.length ≤ 1000) (h7 : lo[7]? = some (some (.d (.int (k : Nat)))))
    {a b : Nat} (ha : a < k) (hb : b < k) (h9 : lo[9]? = some (some (.d (.list [.int (a : Nat), .int (b : Nat)])))) {w : Str} (hw : w ∈ wl) (h10 : lo[10]? = some (some (.d (.str w)))) :
    (sExpr (mBM "list" oAppend (mV 4) (aCons (mTup (aCons (bind2 (mC (.str "abcdefghijklmnopqrst")) (mV 7) oIxA) (aCons (mV 10) (aCons (mCB nTuple (aCons (mFrz (mLC (iSeq (mSl (mV 9) pNo (pSome (mIf (mB (bind2 (mV 10) (mTup (aCons (mC (.str "neg")) (aCons (mC (.str "double")) aNil))) oIn)) (mC (.int 1)) (mC (.int 2)))))) (.nm 15) bYes (bind2 (mC (.str "abcdefghijklmnopqrst")) (mV 15) oIxA) [15])) aNil)) aNil)))) aNil))) lo (hT mh ls) = .nx lo (hT mh (ls ++ [⟨lt k, w, if unB w = true then [lt a] else [lt a, lt b]⟩])) := by
  have hll := L.l
  have ap := appT (mh := mh) hl ⟨lt k, w, if unB w = true then [lt a] else [lt a, lt b]⟩
  unfold lnD at ap
  have c := abcT hk (hT mh ls)
  have ca := abcT (i := a) (by omega) (hT mh ls)
  have cb := abcT (i := b) (by omega) (hT mh ls)
  have ht := tyT (mh := mh) (ls := ls)
  have u := un_in w (hT mh ls)
  generalize hT mh ls = m1 at *
  generalize hT mh (ls ++ _) = m2 at *
  have g : ∀ v, ((lo.set 15 v)[15]? = some v) := fun v => by rw [List.getElem?_set_self (by omega)]
  have e1 : lcL always (.nm 15) bYes (bind2 (mC (.str "abcdefghijklmnopqrst")) (mV 15) oIxA) (lo.set 15 none) [.d (.int (a : Nat)), .d (.int (b : Nat))] m1 = .ok [.d (.str (lt a)), .d (.str (lt b))] m1 := by
    refine lcL_d (gg := always) (t := .nm 15) (me := bind2 (mC (.str "abcdefghijklmnopqrst")) (mV 15) oIxA) (lo0 := lo.set 15 none) (mh := m1) [(a, lt a), (b, lt b)] (fun p => .int (p.1 : Nat)) (fun p => .str p.2) trivial fun p hp => ⟨_, rfl, ?_⟩
    simp only [List.mem_cons, List.not_mem_nil, or_false] at hp
    rcases hp with rfl | rfl
    · simp [-getElem?_pos, g, ca]
    · simp [-getElem?_pos, g, cb]
  have e2 : lcL always (.nm 15) bYes (bind2 (mC (.str "abcdefghijklmnopqrst")) (mV 15) oIxA) (lo.set 15 none) [.d (.int (a : Nat))] m1 = .ok [.d (.str (lt a))] m1 := by
    refine lcL_d (gg := always) (t := .nm 15) (me := bind2 (mC (.str "abcdefghijklmnopqrst")) (mV 15) oIxA) (lo0 := lo.set 15 none) (mh := m1) [(a, lt a)] (fun p => .int (p.1 : Nat)) (fun p => .str p.2) trivial fun p hp => ⟨_, rfl, ?_⟩
    simp only [List.mem_cons, List.not_mem_nil, or_false] at hp
    subst hp
    simp [-getElem?_pos, g, ca]
  have s1 : kSl3 (.d (.list [.int (a : Nat), .int (b : Nat)])) none (some 1) m1 = .ok (.d (.list [.int (a : Nat)])) m1 := by rw [kSl3_l]; rfl
  have s2 : kSl3 (.d (.list [.int (a : Nat), .int (b : Nat)])) none (some 2) m1 = .ok (.d (.list [.int (a : Nat), .int (b : Nat)])) m1 := by rw [kSl3_l]; rfl
  have k1 : ∀ x : PyData, kLen [PV.d x] m1 = .ok [PV.d x] m1 := fun x => kLen_ok (by simp)
  have k2 : ∀ x y : PyData, kLen [PV.d x, .d y] m1 = .ok [PV.d x, .d y] m1 := fun x y => kLen_ok (by simp)
  have f1 : ∀ x : PyData, frzL [PV.d x] m1 = .ok (.d (.list [x])) m1 := fun x => frzL_d [x]
  have f2 : ∀ x y : PyData, frzL [PV.d x, .d y] m1 = .ok (.d (.list [x, y])) m1 := fun x y => frzL_d [x, y]
  generalize hME : (bind2 (mC (.str "abcdefghijklmnopqrst")) (mV 15) oIxA) = ME at e1 e2 ⊢
  cases hu : unB w
  · rw [hu] at u ap
    rw [if_neg (by decide)] at ap
    unfold sL at ap
    simp only [List.map_cons, List.map_nil] at ap
    simp [-getElem?_pos, -kSl3_l, L.h4, h7, h9, h10, c, u, s2, e1, k2, f2, kBM_ap, ht, ap]
  · rw [hu] at u ap
    rw [if_pos rfl] at ap
    unfold sL at ap
    simp only [List.map_cons, List.map_nil] at ap
    simp [-getElem?_pos, -kSl3_l, L.h4, h7, h9, h10, c, u, s1, e2, k1, f1, kBM_ap, ht, ap]
end
end K70


set_option Elab.async false
set_option linter.all false
set_option maxRecDepth 100000
set_option maxHeartbeats 4000000
namespace K70
open PySem EL
theorem oIx_r {m : Nat} {l : List PV} {i : Int} {w : PV} {mh : Mh} (h : mh[m]? = some (.lst l)) (hi : L2.atI l i = some w) : oIxA (.ref m) (.d (.int i)) mh = .ok w mh := by
  unfold oIxA
  refine alt2_ok ?_
  unfold oIx seqOf EL.listOf
  dsimp only
  rw [h]
  dsimp only
  rw [hi]
theorem atI_m1 {α : Type} {l : List α} (h : 0 < l.length) : L2.atI l (-1) = l[l.length - 1]? := by
  unfold L2.atI L2.ixN
  rw [if_neg (by omega), if_pos (by omega)]
  show l[(-1 + (l.length : Int)).toNat]? = _
  rw [show (-1 + (l.length : Int)).toNat = l.length - 1 by omega]
theorem inNeed : t_NEEDS.lookup ("in" : Str) = some (0 : Int) := by decide +kernel
structure TL (ls : List Ln) : Prop where
  ok : LsOk [] ls
  nm : nms ls = (List.range ls.length).map lt
  wd : ∀ l : Ln, l ∈ ls → l.w = ("in" : Str) ∨ l.w ∈ wl
  hd : ∀ l : Ln, ls[0]? = some l → l.w = ("in" : Str)
theorem TL.nmi {ls : List Ln} (h : TL ls) {i : Nat} (hi : i < ls.length) : ls[i].nm = lt i := by
  have h1 := congrArg (fun l : List Str => l[i]?) h.nm
  unfold nms at h1
  rw [List.getElem?_map, List.getElem?_map, List.getElem?_eq_getElem hi, List.getElem?_range hi] at h1
  simpa using h1
theorem TL.snoc {ls : List Ln} (h : TL ls) (hl : ls.length < 20) {l : Ln} (h1 : l.nm = lt ls.length) (h2 : t_NEEDS.lookup l.w = some (l.nd.length : Int)) (h3 : l.w = ("in" : Str) ∨ l.w ∈ wl) (h4 : ∀ n, n ∈ l.nd → ∃ j, j < ls.length ∧ n = lt j) (h5 : ls = [] → l.w = ("in" : Str)) : TL (ls ++ [l]) where
  ok := by
    rw [LsOk.app]
    refine ⟨h.ok, ⟨?_, ?_, h2, fun n hn => ?_⟩, trivial⟩
    · rw [h1]; exact lt_ok hl
    · rw [h1, List.nil_append, h.nm]
      intro hm
      obtain ⟨j, hj, e⟩ := List.mem_map.mp hm
      have := lt_inj e
      have := List.mem_range.mp hj
      omega
    · obtain ⟨j, hj, rfl⟩ := h4 n hn
      rw [List.nil_append, h.nm]
      exact List.mem_map_of_mem (List.mem_range.mpr hj)
  nm := by
    have := h.nm
    unfold nms at this ⊢
    rw [List.map_append, this, List.length_append, List.length_singleton, List.range_succ, List.map_append, List.map_cons, List.map_nil, h1]; rfl
  wd := fun x hx => by
    rcases List.mem_append.mp hx with hx | hx
    · exact h.wd x hx
    · rw [List.mem_singleton.mp hx]; exact h3
  hd := fun x hx => by
    cases ls with
    | nil =>
      simp at hx
      subst hx
      exact h5 rfl
    | cons y ys => exact h.hd x (by simpa using hx)
section
variable {n N I k m : Nat} {ds own : List Int} {w : Str} {lo : Lo} {mh : Mh} {ls : List Ln}
theorem tx_1 (L : LT mh.length N I ds lo) (hin : inR ds) (hl : 75 ≤ ds.length) (hI : 1 ≤ I) (hk : k < 9) (h7 : lo[7]? = some (some (.d (.int (k : Nat))))) (h : TL ls) (hls : ls.length = k) :
    ∃ lo' l, (l__law_text_1 lo (hT mh ls) = .nx lo' (hT mh (ls ++ [l])) ∨ l__law_text_1 lo (hT mh ls) = .ct lo' (hT mh (ls ++ [l]))) ∧ TL (ls ++ [l]) ∧ LT mh.length N I ds lo' := by
  have hll := L.l
  have ho := ownL_len ds k
  have hr := ownL_in hin k
  have p0 := t0 (mh := hT mh ls) L hl (by omega) h7
  let lo1 : Lo := lo.set 8 (some (.d (.list ((ownL ds k).map .int))))
  have L1 : LT mh.length N I ds lo1 := L.set (by omega) _
  have hl1 := L1.l
  have a7 : lo1[7]? = some (some (.d (.int (k : Nat)))) := by simp only [lo1]; rw [List.getElem?_set_ne (by omega)]; exact h7
  have a8 : lo1[8]? = some (some (.d (.list ((ownL ds k).map .int)))) := by simp only [lo1]; rw [List.getElem?_set_self (by omega)]
  obtain ⟨b, ec, hb⟩ := t1c (mh := hT mh ls) L1 ho hr a7 a8
  cases b with
  | true =>
    have p1 := t1a (ls := ls) L1 (k := k) (by omega) (by omega) a7
    refine ⟨lo1, ⟨lt k, "in", []⟩, .inr ?_, h.snoc (by omega) (by rw [hls]) inNeed (.inl rfl) (fun n hn => by cases hn) (fun _ => rfl), L1⟩
    unfold l__law_text_1
    rw [sSeq_ap, p0, sq_nx, sSeq_ap, sIf_ap, ec, ofR_ok, kSIf_t, p1]; rfl
  | false =>
    have hk1 : 1 ≤ k := Nat.le_trans hI (hb rfl)
    obtain ⟨x, y, hx, hy, p2⟩ := t2 (mh := hT mh ls) L1 ho hr hk1 a7 a8
    let lo2 : Lo := lo1.set 9 (some (.d (.list [.int (x : Nat), .int (y : Nat)])))
    have L2 : LT mh.length N I ds lo2 := L1.set (by omega) _
    have b7 : lo2[7]? = some (some (.d (.int (k : Nat)))) := by simp only [lo2]; rw [List.getElem?_set_ne (by omega)]; exact a7
    have b8 : lo2[8]? = some (some (.d (.list ((ownL ds k).map .int)))) := by simp only [lo2]; rw [List.getElem?_set_ne (by omega)]; exact a8
    have b9 : lo2[9]? = some (some (.d (.list [.int (x : Nat), .int (y : Nat)]))) := by simp only [lo2]; rw [List.getElem?_set_self (by omega)]
    obtain ⟨w, hw, p3⟩ := t3 (mh := hT mh ls) L2 ho hr b8
    let lo3 : Lo := lo2.set 10 (some (.d (.str w)))
    have hl2 := L2.l
    have L3 : LT mh.length N I ds lo3 := L2.set (by omega) _
    have c7 : lo3[7]? = some (some (.d (.int (k : Nat)))) := by simp only [lo3]; rw [List.getElem?_set_ne (by omega)]; exact b7
    have c8 : lo3[8]? = some (some (.d (.list ((ownL ds k).map .int)))) := by simp only [lo3]; rw [List.getElem?_set_ne (by omega)]; exact b8
    have c9 : lo3[9]? = some (some (.d (.list [.int (x : Nat), .int (y : Nat)]))) := by simp only [lo3]; rw [List.getElem?_set_ne (by omega)]; exact b9
    have c10 : lo3[10]? = some (some (.d (.str w))) := by simp only [lo3]; rw [List.getElem?_set_self (by omega)]
    obtain ⟨lo4, x', y', w', p4, L4, d7, hx', hy', hw', d9, d10⟩ := t4 (mh := hT mh ls) L3 hin hl ho hr hk1 c7 c8 hx hy c9 hw c10
    have p5 := t5 (ls := ls) L4 (by omega) (by omega) d7 hx' hy' d9 hw' d10
    refine ⟨lo4, ⟨lt k, w', if unB w' = true then [lt x'] else [lt x', lt y']⟩, .inl ?_, h.snoc (by omega) (by rw [hls]) ?_ (.inr hw') (fun n hn => ?_) (fun e => ?_), L4⟩
    · unfold l__law_text_1
      rw [sSeq_ap, p0, sq_nx, sSeq_ap, sIf_ap, ec, ofR_ok, kSIf_f, sNil_ap, sq_nx, sSeq_ap, p2, sq_nx, sSeq_ap, p3, sq_nx, sSeq_ap, p4, sq_nx, sSeq_ap, p5, sq_nx, sNil_ap]
    · rw [wl_need hw']
      cases unB w' <;> rfl
    · have hn : n ∈ (if unB w' = true then [lt x'] else [lt x', lt y']) := hn
      have hn : n ∈ [lt x', lt y'] := by
        cases hu : unB w' <;> rw [hu] at hn
        · rwa [if_neg (by decide)] at hn
        · rw [if_pos rfl] at hn
          rw [List.mem_singleton.mp hn]; simp
      simp only [List.mem_cons, List.not_mem_nil, or_false] at hn
      rcases hn with rfl | rfl
      · exact ⟨x', by omega, rfl⟩
      · exact ⟨y', by omega, rfl⟩
    · subst e
      simp at hls
      omega
theorem add_l {a b : List PyData} (h : a.length + b.length ≤ 16777216) (mh : Mh) : oAdd (.d (.list a)) (.d (.list b)) mh = .ok (.d (.list (a ++ b))) mh := by
  have hc : oCatL (.d (.list a)) (.d (.list b)) mh = frzL (a.map .d ++ b.map .d) mh := by
    unfold oCatL catL
    rw [show EL.listOf mh (.d (.list a)) = some (a.map .d) from rfl, show EL.listOf mh (.d (.list b)) = some (b.map .d) from rfl]
    dsimp only
    rw [if_pos (by have := sizeLine_eq; simp; omega)]
  rw [← List.map_append, frzL_d] at hc
  unfold oAdd
  rw [alt2_bd rfl, alt2_bd rfl]
  exact alt2_ok hc
/-- the tree of four inputs -/
def trT (b : Bool) (u v w : Str) : Tx := ⟨[⟨"a", "in", []⟩, ⟨"b", "in", []⟩, ⟨"c", "in", []⟩, ⟨"d", "in", []⟩, ⟨"e", u, ["a", "b"]⟩, ⟨"f", v, if b = true then ["c", "d"] else ["b", "c"]⟩, ⟨"g", w, ["e", "f"]⟩], if b = true then ["g"] else ["d", "g"]⟩
def w5 : List Str := ["add", "sub", "times", "least", "greatest"]
theorem w5_need {u : Str} (h : u ∈ w5) : t_NEEDS.lookup u = some 2 := by
  have : ∀ u, u ∈ w5 → t_NEEDS.lookup u = some 2 := by decide +kernel
  exact this u h
theorem tr_ok (b : Bool) {u v w : Str} (hu : u ∈ w5) (hv : v ∈ w5) (hw : w ∈ w5) : TOk (trT b u v w) := by
  have hn : ∀ x : Str, x ∈ (["a", "b", "c", "d", "e", "f", "g"] : List Str) → NmOk x := fun x hx => by
    have : ∀ x : Str, x ∈ (["a", "b", "c", "d", "e", "f", "g"] : List Str) → 1 ≤ x.length ∧ x.length ≤ 8 ∧ ∀ c, c ∈ x.cps.toList → c ∈ (Str.ofString "abcdefghijklmnopqrstuvwxyz").cps.toList := by decide +kernel
    obtain ⟨h1, h2, h3⟩ := this x hx
    exact ⟨h1, h2, h3⟩
  have f5 : ¬ (("e" : Str) ∈ (["a", "b", "c", "d"] : List Str)) := by decide +kernel
  have f6 : ¬ (("f" : Str) ∈ (["a", "b", "c", "d", "e"] : List Str)) := by decide +kernel
  have f7 : ¬ (("g" : Str) ∈ (["a", "b", "c", "d", "e", "f"] : List Str)) := by decide +kernel
  refine ⟨⟨⟨hn _ (by simp), by simp, inNeed, fun n hn => by cases hn⟩, ⟨hn _ (by simp), by decide +kernel, inNeed, fun n hn => by cases hn⟩, ⟨hn _ (by simp), by decide +kernel, inNeed, fun n hn => by cases hn⟩, ⟨hn _ (by simp), by decide +kernel, inNeed, fun n hn => by cases hn⟩, ⟨hn _ (by simp), f5, w5_need hu, ?_⟩, ⟨hn _ (by simp), f6, ?_, ?_⟩, ⟨hn _ (by simp), f7, w5_need hw, ?_⟩, trivial⟩, by show 1 ≤ 7; omega, by show 7 ≤ 60; omega, ?_, ?_, ?_⟩
  · show ∀ n : Str, n ∈ (["a", "b"] : List Str) → n ∈ (["a", "b", "c", "d"] : List Str)
    decide +kernel
  · rw [show t_NEEDS.lookup v = some 2 from w5_need hv]
    cases b <;> rfl
  · show ∀ n : Str, n ∈ (if b = true then ["c", "d"] else ["b", "c"] : List Str) → n ∈ (["a", "b", "c", "d", "e"] : List Str)
    cases b <;> decide +kernel
  · show ∀ n : Str, n ∈ (["e", "f"] : List Str) → n ∈ (["a", "b", "c", "d", "e", "f"] : List Str)
    decide +kernel
  · show 1 ≤ (if b = true then ["g"] else ["d", "g"] : List Str).length
    cases b <;> decide +kernel
  · show (if b = true then ["g"] else ["d", "g"] : List Str).length ≤ 6
    cases b <;> decide +kernel
  · show (if b = true then ["g"] else ["d", "g"] : List Str).Sublist (["a", "b", "c", "d", "e", "f", "g"] : List Str)
    have : ∀ b : Bool, (if b = true then ["g"] else ["d", "g"] : List Str).isSublist (["a", "b", "c", "d", "e", "f", "g"] : List Str) = true := by decide +kernel
    exact List.isSublist_iff_sublist.mp (this b)
def prS (b : Bool) : List (Str × Str) := if b = true then [("a", "b"), ("c", "d"), ("e", "f")] else [("a", "b"), ("b", "c"), ("e", "f")]
def prP (p : Str × Str) : PyData := .tuple [.str p.1, .str p.2]
theorem efgT {i : Nat} (h : i < 3) (mh : Mh) : oIxA (.d (.str "efg")) (.d (.int (i : Nat))) mh = .ok (.d (.str (lt (4 + i)))) mh := by
  have : ∀ j, j < 3 → oIxA (.d (.str "efg")) (.d (.int (j : Nat))) mh = .ok (.d (.str (lt (4 + j)))) mh := fun j hj => by
    have e : L2.atI (Str.ofString "efg").cps.toList (j : Int) = some (97 + (4 + j)) := by
      rw [atI_nn]
      have : ∀ j, j < 3 → (Str.ofString "efg").cps.toList[j]? = some (97 + (4 + j)) := by decide +kernel
      exact this j hj
    unfold oIxA alt2 oIx
    rw [show seqOf mh (.d (.str "efg")) = none from rfl]
    dsimp only
    rw [if_pos (by rw [show (Str.ofString "efg").length = 3 by decide +kernel]; exact sz (by decide)), e]
    rfl
  exact this i h
theorem tr_walk (hin : inR ds) (hl : 80 ≤ ds.length) (hll : lo.length = 16) (h0 : lo[0]? = some (some (.d (.list (ds.map .int))))) (h5 : lo[5]? = some (some (.d (.list (w5.map .str))))) :
    ∃ T, TOk T ∧ ((sSeq (sSet 6 (mIf (mB (bind2 (bind2 (mCB nInt (aCons (bind2 (mV 0) (mC (.int 74)) oIxA) aNil)) (mC (.int 3)) oModI) (mC (.int 0)) oGtI)) (mFrz (lDisp (aCons (mTup (aCons (mC (.str "a")) (aCons (mC (.str "b")) aNil))) (aCons (mTup (aCons (mC (.str "c")) (aCons (mC (.str "d")) aNil))) (aCons (mTup (aCons (mC (.str "e")) (aCons (mC (.str "f")) aNil))) aNil))))) (mFrz (lDisp (aCons (mTup (aCons (mC (.str "a")) (aCons (mC (.str "b")) aNil))) (aCons (mTup (aCons (mC (.str "b")) (aCons (mC (.str "c")) aNil))) (aCons (mTup (aCons (mC (.str "e")) (aCons (mC (.str "f")) aNil))) aNil))))))) (sSeq (sSet 4 (bind2 (mFrz (mLC (iSeq (mC (.str "abcd"))) (.nm 13) bYes (mTup (aCons (mV 13) (aCons (mC (.str "in")) (aCons (mTup aNil) aNil)))) [13])) (mFrz (mLC (iRg1 (aCons (mC (.int 3)) aNil)) (.nm 7) bYes (mTup (aCons (bind2 (mC (.str "efg")) (mV 7) oIxA) (aCons (bind2 (mV 5) (bind2 (mCB nInt (aCons (bind2 (mV 0) (bind2 (mC (.int 75)) (mV 7) oAdd) oIxA) aNil)) (mC (.int 5)) oModI) oIxA) (aCons (bind2 (mV 6) (mV 7) oIxA) aNil)))) [7])) oAdd)) (sSeq (sRet (mTup (aCons (mCB nTuple (aCons (mV 4) aNil)) (aCons (mIf (mB (bind2 (bind2 (mCB nInt (aCons (bind2 (mV 0) (mC (.int 74)) oIxA) aNil)) (mC (.int 3)) oModI) (mC (.int 0)) oEq)) (mTup (aCons (mC (.str "d")) (aCons (mC (.str "g")) aNil))) (mTup (aCons (mC (.str "g")) aNil))) aNil)))) sNil)))) lo mh = .rt (.d (txD T)) mh := by
  obtain ⟨q, -, hq, m1⟩ := md hin 74 (m := 3) (by omega)
  have m1 := m1 mh
  rw [show ((3 : Nat) : Int) = 3 from rfl] at m1
  have i74 : oIxA (.d (.list (ds.map .int))) (.d (.int 74)) mh = .ok (.d (.int (dr ds 74))) mh := ix_dr (i := 74) (by omega) mh
  have hr : ∀ j : Nat, j < 3 → ∃ x : Nat, x < 5 ∧ oIxA (.d (.list (ds.map .int))) (.d (.int (75 + (j : Int)))) mh = .ok (.d (.int (dr ds (75 + j)))) mh ∧ oModI (.d (.int (dr ds (75 + j)))) (.d (.int 5)) mh = .ok (.d (.int (x : Nat))) mh := fun j hj => by
    obtain ⟨x, -, hx, m⟩ := md hin (75 + j) (m := 5) (by omega)
    have i := ix_dr (ds := ds) (i := 75 + j) (by omega) mh
    rw [show ((75 + j : Nat) : Int) = 75 + (j : Int) by omega] at i
    exact ⟨x, hx, i, m mh⟩
  obtain ⟨b, hb⟩ : ∃ b : Bool, b = decide (0 < q) := ⟨_, rfl⟩
  let lo1 : Lo := lo.set 6 (some (.d (.list ((prS b).map prP))))
  have p0 : (sSet 6 (mIf (mB (bind2 (bind2 (mCB nInt (aCons (bind2 (mV 0) (mC (.int 74)) oIxA) aNil)) (mC (.int 3)) oModI) (mC (.int 0)) oGtI)) (mFrz (lDisp (aCons (mTup (aCons (mC (.str "a")) (aCons (mC (.str "b")) aNil))) (aCons (mTup (aCons (mC (.str "c")) (aCons (mC (.str "d")) aNil))) (aCons (mTup (aCons (mC (.str "e")) (aCons (mC (.str "f")) aNil))) aNil))))) (mFrz (lDisp (aCons (mTup (aCons (mC (.str "a")) (aCons (mC (.str "b")) aNil))) (aCons (mTup (aCons (mC (.str "b")) (aCons (mC (.str "c")) aNil))) (aCons (mTup (aCons (mC (.str "e")) (aCons (mC (.str "f")) aNil))) aNil))))))) lo mh = .nx lo1 mh := by
    have l1 : ((mFrz (lDisp (aCons (mTup (aCons (mC (.str "a")) (aCons (mC (.str "b")) aNil))) (aCons (mTup (aCons (mC (.str "c")) (aCons (mC (.str "d")) aNil))) (aCons (mTup (aCons (mC (.str "e")) (aCons (mC (.str "f")) aNil))) aNil)))))) lo mh = .ok (.d (.list ((prS true).map prP))) mh := rfl
    have l2 : ((mFrz (lDisp (aCons (mTup (aCons (mC (.str "a")) (aCons (mC (.str "b")) aNil))) (aCons (mTup (aCons (mC (.str "b")) (aCons (mC (.str "c")) aNil))) (aCons (mTup (aCons (mC (.str "e")) (aCons (mC (.str "f")) aNil))) aNil)))))) lo mh = .ok (.d (.list ((prS false).map prP))) mh := rfl
    have hc : ((mB (bind2 (bind2 (mCB nInt (aCons (bind2 (mV 0) (mC (.int 74)) oIxA) aNil)) (mC (.int 3)) oModI) (mC (.int 0)) oGtI))) lo mh = .ok b mh := by
      subst hb
      simp [-getElem?_pos, -List.map_map, h0, i74, m1]
    rw [sSet_ap, mIf_ap, hc, Res.bind_ok]
    clear hb
    cases b
    · rw [kIf_f, l2]; rfl
    · rw [kIf_t, l1]; rfl
  have a0 : lo1[0]? = some (some (.d (.list (ds.map .int)))) := by simp only [lo1]; rw [List.getElem?_set_ne (by omega)]; exact h0
  have a5 : lo1[5]? = some (some (.d (.list (w5.map .str)))) := by simp only [lo1]; rw [List.getElem?_set_ne (by omega)]; exact h5
  have a6 : lo1[6]? = some (some (.d (.list ((prS b).map prP)))) := by simp only [lo1]; rw [List.getElem?_set_self (by omega)]
  have hl1 : lo1.length = 16 := by simp [lo1, hll]
  obtain ⟨x0, hx0, i0, n0⟩ := hr 0 (by omega)
  obtain ⟨x1, hx1, i1, n1⟩ := hr 1 (by omega)
  obtain ⟨x2, hx2, i2, n2⟩ := hr 2 (by omega)
  have hw : ∀ x, x < 5 → w5.getD x "" ∈ w5 := by decide +kernel
  let T := trT b (w5.getD x0 "") (w5.getD x1 "") (w5.getD x2 "")
  refine ⟨T, tr_ok b (hw _ hx0) (hw _ hx1) (hw _ hx2), ?_⟩
  have pL : ∀ j : Nat, j < 3 → oIxA (.d (.list ((prS b).map prP))) (.d (.int (j : Nat))) mh = .ok (.d (prP ((prS b).getD j ("", "")))) mh := fun j hj => by
    refine oIx_dl ?_
    rw [atI_nn, List.getElem?_map]
    have : (prS b).length = 3 := by cases b <;> rfl
    rw [List.getElem?_eq_getElem (by omega), List.getD_eq_getElem?_getD, List.getElem?_eq_getElem (by omega)]; rfl
  let wv : Nat → Str := fun j => if j = 0 then w5.getD x0 "" else if j = 1 then w5.getD x1 "" else w5.getD x2 ""
  have eA : ((mFrz (mLC (iSeq (mC (.str "abcd"))) (.nm 13) bYes (mTup (aCons (mV 13) (aCons (mC (.str "in")) (aCons (mTup aNil) aNil)))) [13]))) lo1 mh = .ok (.d (.list ((["a", "b", "c", "d"] : List Str).map fun z => PyData.tuple [.str z, .str "in", .tuple []]))) mh := by
    have hs : iSeq (mC (.str "abcd")) lo1 mh = .ok ((["a", "b", "c", "d"] : List Str).map fun z => PV.d (.str z), always) mh := rfl
    have e2 : lcL always (.nm 13) bYes (mTup (aCons (mV 13) (aCons (mC (.str "in")) (aCons (mTup aNil) aNil)))) (lo1.set 13 none) ((["a", "b", "c", "d"] : List Str).map fun z => PV.d (.str z)) mh = .ok (((["a", "b", "c", "d"] : List Str).map fun z => PyData.tuple [.str z, .str "in", .tuple []]).map .d) mh := by
      have := lcL_d (gg := always) (t := .nm 13) (me := mTup (aCons (mV 13) (aCons (mC (.str "in")) (aCons (mTup aNil) aNil)))) (lo0 := lo1.set 13 none) (mh := mh) (["a", "b", "c", "d"] : List Str) PyData.str (fun z => PyData.tuple [.str z, .str "in", .tuple []]) trivial fun z hz => ⟨_, rfl, by
        have h13 : ((lo1.set 13 none).set 13 (some (.d (.str z))))[13]? = some (some (.d (.str z))) := by rw [List.getElem?_set_self (by simp [hl1])]
        show (mTup (aCons (mV 13) (aCons (mC (.str "in")) (aCons (mTup aNil) aNil)))) ((lo1.set 13 none).set 13 (some (.d (.str z)))) mh = _
        generalize (lo1.set 13 none).set 13 (some (.d (.str z))) = lo2 at h13 ⊢
        simp [-getElem?_pos, h13]⟩
      rw [map_d] at this
      exact this
    have ek := kLen_q (["a", "b", "c", "d"] : List Str) (by decide) mh fun z => PyData.tuple [.str z, .str "in", .tuple []]
    have f1 := frzL_d (mh := mh) ((["a", "b", "c", "d"] : List Str).map fun z => PyData.tuple [.str z, .str "in", .tuple []])
    rw [mFrz_ap, mLC_ap, hs, Res.bind_ok, kLC_ap, wipeL_cons, wipeL_nil, e2, Res.bind_ok, ek, Res.bind_ok, f1]
  have eB : ((mFrz (mLC (iRg1 (aCons (mC (.int 3)) aNil)) (.nm 7) bYes (mTup (aCons (bind2 (mC (.str "efg")) (mV 7) oIxA) (aCons (bind2 (mV 5) (bind2 (mCB nInt (aCons (bind2 (mV 0) (bind2 (mC (.int 75)) (mV 7) oAdd) oIxA) aNil)) (mC (.int 5)) oModI) oIxA) (aCons (bind2 (mV 6) (mV 7) oIxA) aNil)))) [7]))) lo1 mh = .ok (.d (.list ((List.range 3).map fun j => PyData.tuple [.str (lt (4 + j)), .str (wv j), prP ((prS b).getD j ("", ""))]))) mh := by
    have hi : ∀ lo mh, iRg1 (aCons (mC (.int 3)) aNil) lo mh = .ok (((List.range 3).map fun i : Nat => PyData.int (i : Nat)).map .d, always) mh := fun lo mh => by rw [iRg1_n (n := 3) (by omega) rfl, map_d]
    have e2 : lcL always (.nm 7) bYes ((mTup (aCons (bind2 (mC (.str "efg")) (mV 7) oIxA) (aCons (bind2 (mV 5) (bind2 (mCB nInt (aCons (bind2 (mV 0) (bind2 (mC (.int 75)) (mV 7) oAdd) oIxA) aNil)) (mC (.int 5)) oModI) oIxA) (aCons (bind2 (mV 6) (mV 7) oIxA) aNil))))) (lo1.set 7 none) (((List.range 3).map fun i : Nat => PyData.int (i : Nat)).map .d) mh = .ok (((List.range 3).map fun j => PyData.tuple [.str (lt (4 + j)), .str (wv j), prP ((prS b).getD j ("", ""))]).map .d) mh :=
      lcL_d (List.range 3) _ _ trivial fun j hj => ⟨_, rfl, by
        have hj := List.mem_range.mp hj
        have g7 : ((lo1.set 7 none).set 7 (some (.d (.int (j : Nat)))))[7]? = some (some (.d (.int (j : Nat)))) := by rw [List.getElem?_set_self (by simp [hl1])]
        have g0 : ((lo1.set 7 none).set 7 (some (.d (.int (j : Nat)))))[0]? = some (some (.d (.list (ds.map .int)))) := by rw [List.getElem?_set_ne (by omega), List.getElem?_set_ne (by omega)]; exact a0
        have g5 : ((lo1.set 7 none).set 7 (some (.d (.int (j : Nat)))))[5]? = some (some (.d (.list (w5.map .str)))) := by rw [List.getElem?_set_ne (by omega), List.getElem?_set_ne (by omega)]; exact a5
        have g6 : ((lo1.set 7 none).set 7 (some (.d (.int (j : Nat)))))[6]? = some (some (.d (.list ((prS b).map prP)))) := by rw [List.getElem?_set_ne (by omega), List.getElem?_set_ne (by omega)]; exact a6
        have c1 := efgT hj mh
        have c2 := pL j hj
        have c3 : ∃ x : Nat, oIxA (.d (.list (ds.map .int))) (.d (.int (75 + (j : Int)))) mh = .ok (.d (.int (dr ds (75 + j)))) mh ∧ oModI (.d (.int (dr ds (75 + j)))) (.d (.int 5)) mh = .ok (.d (.int (x : Nat))) mh ∧ oIxA (.d (.list (w5.map .str))) (.d (.int (x : Nat))) mh = .ok (.d (.str (wv j))) mh := by
          have hc : j = 0 ∨ j = 1 ∨ j = 2 := by omega
          rcases hc with rfl | rfl | rfl
          · exact ⟨x0, i0, n0, strs_ix hx0 mh⟩
          · exact ⟨x1, i1, n1, strs_ix hx1 mh⟩
          · exact ⟨x2, i2, n2, strs_ix hx2 mh⟩
        obtain ⟨x, c3, c4, c5⟩ := c3
        show ((mTup (aCons (bind2 (mC (.str "efg")) (mV 7) oIxA) (aCons (bind2 (mV 5) (bind2 (mCB nInt (aCons (bind2 (mV 0) (bind2 (mC (.int 75)) (mV 7) oAdd) oIxA) aNil)) (mC (.int 5)) oModI) oIxA) (aCons (bind2 (mV 6) (mV 7) oIxA) aNil))))) ((lo1.set 7 none).set 7 (some (.d (.int (j : Nat))))) mh = _
        generalize (lo1.set 7 none).set 7 (some (.d (.int (j : Nat)))) = lo2 at g0 g5 g6 g7 ⊢
        generalize wv j = wj at c5 ⊢
        generalize (prS b).getD j ("", "") = pj at c2 ⊢
        simp [-getElem?_pos, -List.map_map, g0, g5, g6, g7, c1, c2, c3, c4, c5]⟩
    have ek := kLen_q (List.range 3) (by decide) mh fun j => PyData.tuple [.str (lt (4 + j)), .str (wv j), prP ((prS b).getD j ("", ""))]
    have f1 := frzL_d (mh := mh) ((List.range 3).map fun j => PyData.tuple [.str (lt (4 + j)), .str (wv j), prP ((prS b).getD j ("", ""))])
    rw [mFrz_ap, mLC_ap, hi, Res.bind_ok, kLC_ap, wipeL_cons, wipeL_nil, e2, Res.bind_ok, ek, Res.bind_ok, f1]
  have hT : ((["a", "b", "c", "d"] : List Str).map fun z => PyData.tuple [.str z, .str "in", .tuple []]) ++ ((List.range 3).map fun j => PyData.tuple [.str (lt (4 + j)), .str (wv j), prP ((prS b).getD j ("", ""))]) = T.ls.map lnD := by
    have h4 : lt 4 = ("e" : Str) ∧ lt 5 = ("f" : Str) ∧ lt 6 = ("g" : Str) := by decide +kernel
    simp only [T, trT, List.map_cons, List.map_nil, List.range_succ, List.range_zero, List.nil_append, List.cons_append, lnD, h4, wv, sL, prP]
    cases b <;> rfl
  have p1 : (sSet 4 (bind2 (mFrz (mLC (iSeq (mC (.str "abcd"))) (.nm 13) bYes (mTup (aCons (mV 13) (aCons (mC (.str "in")) (aCons (mTup aNil) aNil)))) [13])) (mFrz (mLC (iRg1 (aCons (mC (.int 3)) aNil)) (.nm 7) bYes (mTup (aCons (bind2 (mC (.str "efg")) (mV 7) oIxA) (aCons (bind2 (mV 5) (bind2 (mCB nInt (aCons (bind2 (mV 0) (bind2 (mC (.int 75)) (mV 7) oAdd) oIxA) aNil)) (mC (.int 5)) oModI) oIxA) (aCons (bind2 (mV 6) (mV 7) oIxA) aNil)))) [7])) oAdd)) lo1 mh = .nx (lo1.set 4 (some (.d (.list (T.ls.map lnD))))) mh := by
    have := add_l (a := (["a", "b", "c", "d"] : List Str).map fun z => PyData.tuple [.str z, .str "in", .tuple []]) (b := (List.range 3).map fun j => PyData.tuple [.str (lt (4 + j)), .str (wv j), prP ((prS b).getD j ("", ""))]) (by simp) mh
    rw [hT] at this
    rw [sSet_ap, bind2_ap, eA, Res.bind_ok, k2a_ap, eB, Res.bind_ok, k2b_ap, this]
    rfl
  let lo2 : Lo := lo1.set 4 (some (.d (.list (T.ls.map lnD))))
  have b0 : lo2[0]? = some (some (.d (.list (ds.map .int)))) := by simp only [lo2]; rw [List.getElem?_set_ne (by omega)]; exact a0
  have b4 : lo2[4]? = some (some (.d (.list (T.ls.map lnD)))) := by simp only [lo2]; rw [List.getElem?_set_self (by omega)]
  have p2 : (sRet (mTup (aCons (mCB nTuple (aCons (mV 4) aNil)) (aCons (mIf (mB (bind2 (bind2 (mCB nInt (aCons (bind2 (mV 0) (mC (.int 74)) oIxA) aNil)) (mC (.int 3)) oModI) (mC (.int 0)) oEq)) (mTup (aCons (mC (.str "d")) (aCons (mC (.str "g")) aNil))) (mTup (aCons (mC (.str "g")) aNil))) aNil)))) lo2 mh = .rt (.d (txD T)) mh := by
    have hz : (((q : Nat) : Int) == 0) = !b := by
      subst hb
      by_cases h : q = 0
      · subst h; rfl
      · rw [beq_eq_false_iff_ne.mpr (by omega), show decide (0 < q) = true from decide_eq_true (by omega)]; rfl
    have hg : T.gs = if b = true then (["g"] : List Str) else (["d", "g"] : List Str) := rfl
    unfold txD lsD gsD sL
    rw [hg]
    generalize T.ls.map lnD = ll at b4 ⊢
    generalize lo2 = lo3 at b0 b4 ⊢
    clear hb
    cases b <;> simp [-getElem?_pos, -List.map_map, b0, b4, i74, m1, PyData.depth, eqv_int, hz]
  rw [sSeq_ap, p0, sq_nx, sSeq_ap, p1, sq_nx, sSeq_ap, p2]; rfl
end
end K70


set_option Elab.async false
set_option linter.all false
set_option maxRecDepth 100000
set_option maxHeartbeats 4000000
namespace K70
open PySem EL
section
variable {n N I k m : Nat} {ds own : List Int} {w : Str} {lo : Lo} {mh : Mh} {ls : List Ln}
theorem sub_two {N q : Nat} (hN : N ≤ 9) (h : q < N - 1) : [q, N - 1].Sublist (List.range N) := by
  have : ∀ N, N ≤ 9 → ∀ q, q < N - 1 → [q, N - 1].isSublist (List.range N) = true := by decide +kernel
  exact List.isSublist_iff_sublist.mp (this N hN q h)
theorem sub_one {N : Nat} (hN : 1 ≤ N) : [N - 1].Sublist (List.range N) := List.singleton_sublist.mpr (List.mem_range.mpr (by omega))
theorem law_text_v (hin : inR ds) (hl : 80 ≤ ds.length) (mh : Mh) : ∃ T gb, TOk T ∧ m__law_text [.d (.list (ds.map .int)), .d (.int 9)] mh = .ok (.d (txD T)) (mh ++ gb) := by
  obtain ⟨q, -, hq, m0⟩ := md hin 0 (m := 7) (by omega)
  obtain ⟨p, -, hp, m1⟩ := md hin 1 (m := 2) (by omega)
  have m0 := m0 mh
  have m1 := m1 mh
  rw [show ((7 : Nat) : Int) = 7 from rfl] at m0
  rw [show ((2 : Nat) : Int) = 2 from rfl] at m1
  have i0 : ∀ mh, oIxA (.d (.list (ds.map .int))) (.d (.int 0)) mh = .ok (.d (.int (dr ds 0))) mh := fun mh => ix_dr (i := 0) (by omega) mh
  have i1 : ∀ mh, oIxA (.d (.list (ds.map .int))) (.d (.int 1)) mh = .ok (.d (.int (dr ds 1))) mh := fun mh => ix_dr (i := 1) (by omega) mh
  let lo0 : Lo := startL 16 [.d (.list (ds.map .int)), .d (.int 9)]
  let lo1 : Lo := (lo0.set 2 (some (.d (.int ((3 + q : Nat) : Int))))).set 3 (some (.d (.int ((1 + p : Nat) : Int))))
  have p0 : (sPar [2, 3] (aCons (bind2 (mC (.int 3)) (bind2 (mCB nInt (aCons (bind2 (mV 0) (mC (.int 0)) oIxA) aNil)) (bind2 (mV 1) (mC (.int 2)) oSubI) oModI) oAdd) (aCons (bind2 (mC (.int 1)) (bind2 (mCB nInt (aCons (bind2 (mV 0) (mC (.int 1)) oIxA) aNil)) (mC (.int 2)) oModI) oAdd) aNil))) lo0 mh = .nx lo1 mh := by
    simp [-List.map_map, lo0, lo1, startL, i0, i1, m0, m1]
  let lo2 : Lo := (lo1.set 4 (some (.ref mh.length))).set 5 (some (.d (.list [.str "add", .str "sub", .str "times", .str "least", .str "greatest"])))
  have p1 : (sTg (.tp [(.nm 4), (.nm 5)]) (mTup (aCons (mObj (lDisp aNil)) (aCons (mFrz (lDisp (aCons (mC (.str "add")) (aCons (mC (.str "sub")) (aCons (mC (.str "times")) (aCons (mC (.str "least")) (aCons (mC (.str "greatest")) aNil))))))) aNil)))) lo1 mh = .nx lo2 (hT mh []) := by
    have kt := fun m => kt2 (.ref mh.length) (.d (.list [.str "add", .str "sub", .str "times", .str "least", .str "greatest"])) rfl m
    have tg := tg2 (.ref mh.length) (.d (.list [.str "add", .str "sub", .str "times", .str "least", .str "greatest"])) 4 5
    have eA : (mFrz (lDisp (aCons (mC (.str "add")) (aCons (mC (.str "sub")) (aCons (mC (.str "times")) (aCons (mC (.str "least")) (aCons (mC (.str "greatest")) aNil))))))) lo1 (hT mh []) = .ok (.d (.list [.str "add", .str "sub", .str "times", .str "least", .str "greatest"])) (hT mh []) := rfl
    have eB : (mObj (lDisp aNil)) lo1 mh = .ok (.ref mh.length) (hT mh []) := rfl
    rw [sTg_ap, mTup_ap, aCons_ap, eB, Res.bind_ok, ka1_ap, aCons_ap, eA, Res.bind_ok, ka1_ap, aNil_ap, Res.bind_ok, ka2_ap, Res.bind_ok, ka2_ap, Res.bind_ok, kt, ofR_ok, kTg_ap, tg]
    rfl
  obtain ⟨z0, -, hz0, m2⟩ := md hin 73 (m := 4) (by omega)
  have m2 := m2 (hT mh [])
  rw [show ((4 : Nat) : Int) = 4 from rfl] at m2
  have i2 : oIxA (.d (.list (ds.map .int))) (.d (.int 73)) (hT mh []) = .ok (.d (.int (dr ds 73))) (hT mh []) := ix_dr (i := 73) (by omega) _
  have hc : ((bAnd (mB (bind2 (bind2 (mCB nInt (aCons (bind2 (mV 0) (mC (.int 73)) oIxA) aNil)) (mC (.int 4)) oModI) (mC (.int 0)) oEq)) (mB (bind2 (mV 1) (mC (.int 6)) oGtI)))) lo2 (hT mh []) = .ok (decide (z0 = 0)) (hT mh []) := by
    have g0 : lo2[0]? = some (some (.d (.list (ds.map .int)))) := rfl
    have g1 : lo2[1]? = some (some (.d (.int 9))) := rfl
    generalize lo2 = lo at g0 g1 ⊢
    by_cases h0 : z0 = 0
    · subst h0
      simp [-getElem?_pos, -List.map_map, g0, g1, i2, m2, PyData.depth, eqv_int]
    · have hb : (((z0 : Nat) : Int) == 0) = false := by rw [beq_eq_false_iff_ne]; omega
      simp [-getElem?_pos, -List.map_map, g0, g1, i2, m2, PyData.depth, eqv_int, hb, h0]
  by_cases hz9 : z0 = 0
  · obtain ⟨T, hT', e⟩ := tr_walk (lo := lo2) (mh := hT mh []) hin hl rfl rfl rfl
    refine ⟨T, [.lst []], hT', ?_⟩
    unfold m__law_text dM b__law_text
    show (match (sSeq _ _) lo0 mh with | _ => _) = _
    rw [decide_eq_true hz9] at hc
    rw [sSeq_ap, p0, sq_nx, sSeq_ap, p1, sq_nx, sSeq_ap, sIf_ap, hc, ofR_ok, kSIf_t, e]
    rfl
  have p2 : (sIf (bAnd (mB (bind2 (bind2 (mCB nInt (aCons (bind2 (mV 0) (mC (.int 73)) oIxA) aNil)) (mC (.int 4)) oModI) (mC (.int 0)) oEq)) (mB (bind2 (mV 1) (mC (.int 6)) oGtI))) (sSeq (sSet 6 (mIf (mB (bind2 (bind2 (mCB nInt (aCons (bind2 (mV 0) (mC (.int 74)) oIxA) aNil)) (mC (.int 3)) oModI) (mC (.int 0)) oGtI)) (mFrz (lDisp (aCons (mTup (aCons (mC (.str "a")) (aCons (mC (.str "b")) aNil))) (aCons (mTup (aCons (mC (.str "c")) (aCons (mC (.str "d")) aNil))) (aCons (mTup (aCons (mC (.str "e")) (aCons (mC (.str "f")) aNil))) aNil))))) (mFrz (lDisp (aCons (mTup (aCons (mC (.str "a")) (aCons (mC (.str "b")) aNil))) (aCons (mTup (aCons (mC (.str "b")) (aCons (mC (.str "c")) aNil))) (aCons (mTup (aCons (mC (.str "e")) (aCons (mC (.str "f")) aNil))) aNil))))))) (sSeq (sSet 4 (bind2 (mFrz (mLC (iSeq (mC (.str "abcd"))) (.nm 13) bYes (mTup (aCons (mV 13) (aCons (mC (.str "in")) (aCons (mTup aNil) aNil)))) [13])) (mFrz (mLC (iRg1 (aCons (mC (.int 3)) aNil)) (.nm 7) bYes (mTup (aCons (bind2 (mC (.str "efg")) (mV 7) oIxA) (aCons (bind2 (mV 5) (bind2 (mCB nInt (aCons (bind2 (mV 0) (bind2 (mC (.int 75)) (mV 7) oAdd) oIxA) aNil)) (mC (.int 5)) oModI) oIxA) (aCons (bind2 (mV 6) (mV 7) oIxA) aNil)))) [7])) oAdd)) (sSeq (sRet (mTup (aCons (mCB nTuple (aCons (mV 4) aNil)) (aCons (mIf (mB (bind2 (bind2 (mCB nInt (aCons (bind2 (mV 0) (mC (.int 74)) oIxA) aNil)) (mC (.int 3)) oModI) (mC (.int 0)) oEq)) (mTup (aCons (mC (.str "d")) (aCons (mC (.str "g")) aNil))) (mTup (aCons (mC (.str "g")) aNil))) aNil)))) sNil))) sNil) lo2 (hT mh []) = .nx lo2 (hT mh []) := by
    rw [decide_eq_false hz9] at hc
    rw [sIf_ap, hc, ofR_ok, kSIf_f, sNil_ap]
  have L2 : LT mh.length (3 + q) (1 + p) ds lo2 := ⟨rfl, rfl, rfl, rfl, rfl⟩
  obtain ⟨lo3, mh3, e3, ls, rfl, hls, hTL, L3⟩ := forL_i (gg := always) (t := .nm 7) (m := l__law_text_1)
    (fun i lo mh' => ∃ ls, mh' = hT mh ls ∧ ls.length = i ∧ TL ls ∧ LT mh.length (3 + q) (1 + p) ds lo)
    (fun k : Nat => PV.d (.int (k : Nat))) (fun _ _ _ _ => trivial) (List.range (3 + q)) 0 lo2 (hT mh [])
    (by
      rintro i x lo mh' hx ⟨ls, rfl, hls, h, L⟩
      have hi : i < 3 + q ∧ x = i := by
        obtain ⟨h1, h2⟩ := List.getElem?_eq_some_iff.mp hx
        simp at h1 h2
        exact ⟨h1, h2.symm⟩
      obtain ⟨hi, rfl⟩ := hi
      rw [Nat.zero_add] at hls ⊢
      obtain ⟨lo', l, e, h', L'⟩ := tx_1 (lo := lo.set 7 (some (.d (.int (x : Nat))))) (L.set (by omega) _) hin (by omega) (by omega) (k := x) (by omega) (by rw [List.getElem?_set_self (by rw [L.l]; omega)]) h hls
      exact ⟨_, lo', _, tgt_nm 7, e, ls ++ [l], rfl, by rw [List.length_append, List.length_singleton, hls], h', L'⟩)
    ⟨[], rfl, rfl, ⟨trivial, rfl, fun l hl => (by cases hl), fun l hl => (by simp at hl)⟩, L2⟩
  rw [List.length_range, Nat.zero_add] at hls
  have hi : iRg1 (aCons (mV 2) aNil) lo2 (hT mh []) = .ok ((List.range (3 + q)).map fun i : Nat => PV.d (.int (i : Nat)), always) (hT mh []) := iRg1_n (n := 3 + q) (by omega) rfl
  have p3 : (sFor (iRg1 (aCons (mV 2) aNil)) (.nm 7) l__law_text_1) lo2 (hT mh []) = .nx lo3 (hT mh ls) := by rw [sFor_ap, hi, ofR_ok]; exact e3
  have hll3 := L3.l
  have hm : (hT mh ls)[mh.length]? = some (.lst ((ls.map lnD).map .d)) := by unfold hT; simp
  have hlast : oIxA (.ref mh.length) (.d (.int (-1))) (hT mh ls) = .ok (.d (lnD (ls[2 + q]'(by omega)))) (hT mh ls) := oIx_r hm (by
    rw [atI_m1 (by simp; omega)]
    simp [hls, show 3 + q - 1 = 2 + q by omega])
  have hnm : (ls[2 + q]'(by omega)).nm = lt (2 + q) := hTL.nmi (by omega)
  let lo4 : Lo := lo3.set 11 (some (.d (.str (lt (2 + q)))))
  have p4 : (sSet 11 (bind2 (bind2 (mV 4) (mNeg (mC (.int 1))) oIxA) (mC (.int 0)) oIxA)) lo3 (hT mh ls) = .nx lo4 (hT mh ls) := by
    unfold lnD at hlast
    rw [hnm] at hlast
    simp [-getElem?_pos, L3.h4, hlast, lo4]
  obtain ⟨z, -, hz, m70⟩ := md hin 70 (m := 3 + q) (by omega)
  have m70 := m70 (hT mh ls)
  have i70 : oIxA (.d (.list (ds.map .int))) (.d (.int 70)) (hT mh ls) = .ok (.d (.int (dr ds 70))) (hT mh ls) := ix_dr (i := 70) (by omega) _
  have i71 : oIxA (.d (.list (ds.map .int))) (.d (.int 71)) (hT mh ls) = .ok (.d (.int (dr ds 71))) (hT mh ls) := ix_dr (i := 71) (by omega) _
  let lo5 : Lo := lo4.set 12 (some (.d (.str (lt z))))
  have L4 : LT mh.length (3 + q) (1 + p) ds lo4 := L3.set (by omega) _
  have L5 : LT mh.length (3 + q) (1 + p) ds lo5 := L4.set (by omega) _
  have p5 : (sSet 12 (bind2 (mC (.str "abcdefghijklmnopqrst")) (bind2 (mCB nInt (aCons (bind2 (mV 0) (mC (.int 70)) oIxA) aNil)) (mV 2) oModI) oIxA)) lo4 (hT mh ls) = .nx lo5 (hT mh ls) := by
    have c := abcT (i := z) (by omega) (hT mh ls)
    have h2 := L4.h2
    generalize ((3 + q : Nat) : Int) = nn at *
    simp [-getElem?_pos, -List.map_map, L4.h0, h2, i70, m70, c, lo5]
  obtain ⟨y, -, hy, m71⟩ := md hin 71 (m := 4) (by omega)
  have m71 := m71 (hT mh ls)
  rw [show ((4 : Nat) : Int) = 4 from rfl] at m71
  have a11 : lo5[11]? = some (some (.d (.str (lt (2 + q))))) := by simp only [lo5, lo4]; rw [List.getElem?_set_ne (by omega), List.getElem?_set_self (by omega)]
  have a12 : lo5[12]? = some (some (.d (.str (lt z)))) := by simp only [lo5]; rw [List.getElem?_set_self (by simp [lo4]; omega)]
  let gs : List Str := if y = 0 ∧ z ≠ 2 + q then [lt z, lt (2 + q)] else [lt (2 + q)]
  have hgs : gs.length ≤ 2 ∧ 1 ≤ gs.length ∧ gs.Sublist (nms ls) := by
    have hn := hTL.nm
    rw [hls] at hn
    simp only [gs]
    by_cases hc : y = 0 ∧ z ≠ 2 + q
    · rw [if_pos hc]
      refine ⟨Nat.le_refl _, by simp, ?_⟩
      rw [hn]
      have h2 := (sub_two (N := 3 + q) (q := z) (by omega) (by omega)).map lt
      rw [show 3 + q - 1 = 2 + q by omega] at h2
      exact h2
    · rw [if_neg hc]
      refine ⟨by simp, Nat.le_refl _, ?_⟩
      rw [hn]
      have h2 := (sub_one (N := 3 + q) (by omega)).map lt
      rw [show 3 + q - 1 = 2 + q by omega] at h2
      exact h2
  have ht := nTuple_r hm
  have p6 : (sRet (mTup (aCons (mCB nTuple (aCons (mV 4) aNil)) (aCons (mIf (bAnd (mB (bind2 (bind2 (mCB nInt (aCons (bind2 (mV 0) (mC (.int 71)) oIxA) aNil)) (mC (.int 4)) oModI) (mC (.int 0)) oEq)) (mB (bind2 (mV 12) (mV 11) oNe))) (mTup (aCons (mV 12) (aCons (mV 11) aNil))) (mTup (aCons (mV 11) aNil))) aNil)))) lo5 (hT mh ls) = .rt (.d (txD ⟨ls, gs⟩)) (hT mh ls) := by
    unfold txD lsD gsD sL
    simp only [gs]
    by_cases h0 : y = 0
    · subst h0
      by_cases hz2 : z = 2 + q
      · subst hz2
        simp [-getElem?_pos, -List.map_map, L5.h0, L5.h4, a11, a12, i71, m71, ht, PyData.depth, eqv_int, eqv_str]
      · have hne : ¬ (lt z = lt (2 + q)) := fun e => hz2 (lt_inj e)
        simp [-getElem?_pos, -List.map_map, L5.h0, L5.h4, a11, a12, i71, m71, ht, PyData.depth, eqv_int, eqv_str, hz2, hne]
    · have hb : (((y : Nat) : Int) == 0) = false := by rw [beq_eq_false_iff_ne]; omega
      simp [-getElem?_pos, -List.map_map, L5.h0, L5.h4, a11, a12, i71, m71, ht, PyData.depth, eqv_int, eqv_str, hb, h0]
  refine ⟨⟨ls, gs⟩, [.lst ((ls.map lnD).map .d)], ⟨hTL.ok, by show 1 ≤ ls.length; omega, by show ls.length ≤ 60; omega, hgs.2.1, by show gs.length ≤ 6; omega, hgs.2.2⟩, ?_⟩
  unfold m__law_text dM b__law_text
  show (match (sSeq _ _) lo0 mh with | _ => _) = _
  rw [sSeq_ap, p0, sq_nx, sSeq_ap, p1, sq_nx, sSeq_ap, p2, sq_nx, sSeq_ap, p3, sq_nx, sSeq_ap, p4, sq_nx, sSeq_ap, p5, sq_nx, sSeq_ap, p6, sq_rt]
  rfl
end
end K70


set_option Elab.async false
set_option linter.all false
set_option maxRecDepth 100000
set_option maxHeartbeats 4000000
namespace K70
open PySem EL
/-! ### the law's trees: names, states -/
def mn (j : Nat) : Str := ⟨#[109, 97 + j]⟩
def nn (j : Nat) : Str := ⟨#[110, 97 + j]⟩
theorem mn_inj {a b : Nat} (h : mn a = mn b) : a = b := by
  unfold mn at h
  injection h with h
  injection h with h
  injection h with _ h
  injection h with h _
  omega
theorem nn_inj {a b : Nat} (h : nn a = nn b) : a = b := by
  unfold nn at h
  injection h with h
  injection h with h
  injection h with _ h
  injection h with h _
  omega
theorem lt_mn {a b : Nat} (h : lt a = mn b) : False := by
  unfold lt mn at h
  injection h with h
  injection h with h
  injection h with _ h
  cases h
theorem lt_nn {a b : Nat} (h : lt a = nn b) : False := by
  unfold lt nn at h
  injection h with h
  injection h with h
  injection h with _ h
  cases h
theorem mn_nn {a b : Nat} (h : mn a = nn b) : False := by
  unfold mn nn at h
  injection h with h
  injection h with h
  injection h with h _
  cases h
theorem mn_ok {k : Nat} (hk : k < 26) : NmOk (mn k) := by
  have : ∀ j, j < 26 → ∀ c, c ∈ (mn j).cps.toList → c ∈ (Str.ofString "abcdefghijklmnopqrstuvwxyz").cps.toList := by decide +kernel
  exact ⟨by show 1 ≤ 2; omega, by show 2 ≤ 8; omega, this k hk⟩
theorem nn_ok {k : Nat} (hk : k < 26) : NmOk (nn k) := by
  have : ∀ j, j < 26 → ∀ c, c ∈ (nn j).cps.toList → c ∈ (Str.ofString "abcdefghijklmnopqrstuvwxyz").cps.toList := by decide +kernel
  exact ⟨by show 1 ≤ 2; omega, by show 2 ≤ 8; omega, this k hk⟩
theorem abcZ {i : Nat} (h : i < 26) (mh : Mh) : oIxA (.d (.str "abcdefghijklmnopqrstuvwxyz")) (.d (.int (i : Nat))) mh = .ok (.d (.str (lt i))) mh := by
  have e : L2.atI (Str.ofString "abcdefghijklmnopqrstuvwxyz").cps.toList (i : Int) = some (97 + i) := by
    rw [atI_nn]
    have : ∀ j, j < 26 → (Str.ofString "abcdefghijklmnopqrstuvwxyz").cps.toList[j]? = some (97 + j) := by decide +kernel
    exact this i h
  unfold oIxA alt2 oIx
  rw [show seqOf mh (.d (.str "abcdefghijklmnopqrstuvwxyz")) = none from rfl]
  dsimp only
  rw [if_pos (by rw [show (Str.ofString "abcdefghijklmnopqrstuvwxyz").length = 26 by decide +kernel]; exact sz (by decide)), e]
  rfl
theorem abcH {i : Nat} (h : i < 8) (mh : Mh) : oIxA (.d (.str "abcdefgh")) (.d (.int (i : Nat))) mh = .ok (.d (.str (lt i))) mh := by
  have e : L2.atI (Str.ofString "abcdefgh").cps.toList (i : Int) = some (97 + i) := by
    rw [atI_nn]
    have : ∀ j, j < 8 → (Str.ofString "abcdefgh").cps.toList[j]? = some (97 + j) := by decide +kernel
    exact this i h
  unfold oIxA alt2 oIx
  rw [show seqOf mh (.d (.str "abcdefgh")) = none from rfl]
  dsimp only
  rw [if_pos (by rw [show (Str.ofString "abcdefgh").length = 8 by decide +kernel]; exact sz (by decide)), e]
  rfl
theorem m_lt (k : Nat) (mh : Mh) : oAddStr (.d (.str "m")) (.d (.str (lt k))) mh = .ok (.d (.str (mn k))) mh := addStr_ok (a := "m") (b := lt k) (by show 1 + 1 ≤ 16777216; omega)
theorem n_lt (k : Nat) (mh : Mh) : oAddStr (.d (.str "n")) (.d (.str (lt k))) mh = .ok (.d (.str (nn k))) mh := addStr_ok (a := "n") (b := lt k) (by show 1 + 1 ≤ 16777216; omega)
/-- the lines and the parts of a tree under way -/
structure TS (ls : List Ln) (ps : List Str) (many c e : Nat) : Prop where
  ok : LsOk [] ls
  nm : nms ls = (List.range many).map lt ++ (List.range c).map mn ++ (List.range e).map nn
  pm : ∀ p, p ∈ ps → p ∈ nms ls
  p1 : 1 ≤ ps.length
  p6 : ps.length ≤ 6
section
variable {ls : List Ln} {ps ps' nd : List Str} {many c e : Nat} {w z : Str}
theorem TS.len (h : TS ls ps many c e) : ls.length = many + c + e := by
  have := congrArg List.length h.nm
  unfold nms at this
  simp at this
  omega
theorem TS.ext (h : TS ls ps many c e) (hz : NmOk z) (hn : z ∉ nms ls) (hw : t_NEEDS.lookup w = some (nd.length : Int)) (hnd : ∀ n, n ∈ nd → n ∈ ps) : LsOk [] (ls ++ [⟨z, w, nd⟩]) := by
  rw [LsOk.app]
  exact ⟨h.ok, ⟨hz, by rw [List.nil_append]; exact hn, hw, fun n hx => by rw [List.nil_append]; exact h.pm n (hnd n hx)⟩, trivial⟩
theorem TS.m (h : TS ls ps many c 0) (hc : c < 26) (hw : t_NEEDS.lookup w = some (nd.length : Int)) (hnd : ∀ n, n ∈ nd → n ∈ ps) (hp : ∀ p, p ∈ ps' → p ∈ ps ∨ p = mn c) (h1 : 1 ≤ ps'.length) (h6 : ps'.length ≤ 6) : TS (ls ++ [⟨mn c, w, nd⟩]) ps' many (c + 1) 0 := by
  have hn : nms (ls ++ [⟨mn c, w, nd⟩]) = nms ls ++ [mn c] := by unfold nms; simp
  refine ⟨h.ext (mn_ok hc) ?_ hw hnd, ?_, fun p hx => ?_, h1, h6⟩
  · rw [h.nm]
    intro hm
    simp only [List.range_zero, List.map_nil, List.append_nil, List.mem_append, List.mem_map, List.mem_range] at hm
    rcases hm with ⟨j, hj, e⟩ | ⟨j, hj, e⟩
    · exact lt_mn e
    · have := mn_inj e; omega
  · rw [hn, h.nm]
    simp [List.range_succ]
  · rw [hn]
    rcases hp p hx with q | q
    · exact List.mem_append.mpr (.inl (h.pm p q))
    · exact List.mem_append.mpr (.inr (by rw [q]; simp))
theorem TS.n (h : TS ls ps many c e) (he : e < 26) (hw : t_NEEDS.lookup w = some (nd.length : Int)) (hnd : ∀ n, n ∈ nd → n ∈ ps) (hp : ∀ p, p ∈ ps' → p ∈ ps ∨ p = nn e) (h1 : 1 ≤ ps'.length) (h6 : ps'.length ≤ 6) : TS (ls ++ [⟨nn e, w, nd⟩]) ps' many c (e + 1) := by
  have hn : nms (ls ++ [⟨nn e, w, nd⟩]) = nms ls ++ [nn e] := by unfold nms; simp
  refine ⟨h.ext (nn_ok he) ?_ hw hnd, ?_, fun p hx => ?_, h1, h6⟩
  · rw [h.nm]
    intro hm
    simp only [List.mem_append, List.mem_map, List.mem_range] at hm
    rcases hm with (⟨j, hj, e⟩ | ⟨j, hj, e⟩) | ⟨j, hj, e⟩
    · exact lt_nn e
    · exact mn_nn e
    · have := nn_inj e; omega
  · rw [hn, h.nm]
    simp [List.range_succ]
  · rw [hn]
    rcases hp p hx with q | q
    · exact List.mem_append.mpr (.inl (h.pm p q))
    · exact List.mem_append.mpr (.inr (by rw [q]; simp))
theorem TS.tx (h : TS ls ps many c e) (hm : ls.length ≤ 60) (h1 : 1 ≤ ls.length) {p : Str} (hp : p ∈ ps) : TOk ⟨ls, [p]⟩ :=
  ⟨h.ok, h1, hm, Nat.le_refl _, by show 1 ≤ 6; omega, List.singleton_sublist.mpr (h.pm p hp)⟩
/-- the inputs -/
theorem LsOk.ins : ∀ n, n ≤ 8 → LsOk [] ((List.range n).map fun k => (⟨lt k, "in", []⟩ : Ln)) ∧ nms ((List.range n).map fun k => (⟨lt k, "in", []⟩ : Ln)) = (List.range n).map lt
  | 0, _ => ⟨trivial, rfl⟩
  | n + 1, hn => by
    obtain ⟨h1, h2⟩ := LsOk.ins n (by omega)
    rw [List.range_succ, List.map_append, List.map_append]
    refine ⟨?_, ?_⟩
    · rw [LsOk.app]
      refine ⟨h1, ⟨lt_ok (by omega), ?_, inNeed, fun n hn => by cases hn⟩, trivial⟩
      show lt n ∉ [] ++ _
      rw [h2, List.nil_append]
      intro hm
      obtain ⟨j, hj, e⟩ := List.mem_map.mp hm
      have := lt_inj e
      have := List.mem_range.mp hj
      omega
    · rw [nms_app, h2]; rfl
theorem TS.ini {n : Nat} (h2 : 1 ≤ n) (h6 : n ≤ 6) : TS ((List.range n).map fun k => ⟨lt k, "in", []⟩) ((List.range n).map lt) n 0 0 := by
  obtain ⟨a, b⟩ := LsOk.ins n (by omega)
  exact ⟨a, by rw [b]; simp, fun p hp => by rw [b]; exact hp, by simpa using h2, by simpa using h6⟩
end
end K70


set_option Elab.async false
set_option linter.all false
set_option maxRecDepth 100000
set_option maxHeartbeats 4000000
namespace K70
open PySem EL
/-! ### the law's trees: one step -/
structure TV (ds : List Int) (M : Nat) (W : Str) (ls : List Ln) (ps : List Str) (c : Nat) (lo : Lo) : Prop where
  l : lo.length = 15
  h0 : lo[0]? = some (some (.d (.list (ds.map .int))))
  h2 : lo[2]? = some (some (.d (.int (M : Nat))))
  h3 : lo[3]? = some (some (.d (.list (ls.map lnD))))
  h4 : lo[4]? = some (some (.d (.list (ps.map .str))))
  h5 : lo[5]? = some (some (.d (.int (c : Nat))))
  h6 : lo[6]? = some (some (.d (.str W)))
section
variable {ds own : List Int} {M c k a b : Nat} {W nm : Str} {ls : List Ln} {ps : List Str} {lo : Lo} {mh : Mh}
theorem TV.set (L : TV ds M W ls ps c lo) {i : Nat} (hi : 7 ≤ i) (v : Option PV) : TV ds M W ls ps c (lo.set i v) :=
  ⟨by simp [L.l], by rw [List.getElem?_set_ne (by omega)]; exact L.h0, by rw [List.getElem?_set_ne (by omega)]; exact L.h2, by rw [List.getElem?_set_ne (by omega)]; exact L.h3, by rw [List.getElem?_set_ne (by omega)]; exact L.h4, by rw [List.getElem?_set_ne (by omega)]; exact L.h5, by rw [List.getElem?_set_ne (by omega)]; exact L.h6⟩
def own4 (ds : List Int) (k : Nat) : List Int := (List.range 4).map fun j => dr ds (2 + 4 * k + j)
theorem own4_in (h : inR ds) (k : Nat) : inR (own4 ds k) := fun x hx => by
  obtain ⟨j, -, rfl⟩ := List.mem_map.mp hx
  exact dr_r h _
theorem own4_len (ds : List Int) (k : Nat) : (own4 ds k).length = 4 := by unfold own4; simp
theorem u0 (L : TV ds M W ls ps c lo) (hl : 80 ≤ ds.length) (hk : k < 18) (h7 : lo[7]? = some (some (.d (.int (k : Nat))))) :
    (sSet 8 (mFrz (mLC (iRg1 (aCons (mC (.int 4)) aNil)) (.nm 14) bYes (mCB nInt (aCons (bind2 (mV 0) (bind2 (bind2 (mC (.int 2)) (bind2 (mC (.int 4)) (mV 7) oMulY) oAdd) (mV 14) oAdd) oIxA) aNil)) [14]))) lo mh = .nx (lo.set 8 (some (.d (.list ((own4 ds k).map .int))))) mh := by
  have hi : ∀ lo mh, iRg1 (aCons (mC (.int 4)) aNil) lo mh = .ok (((List.range 4).map fun i : Nat => PyData.int (i : Nat)).map .d, always) mh := fun lo mh => by rw [iRg1_n (n := 4) (by omega) rfl, map_d]
  have m1 : ∀ mh, oMulY (.d (.int 4)) (.d (.int (k : Nat))) mh = .ok (.d (.int (4 * (k : Nat)))) mh := fun mh => oMulY_i (.inl ⟨by omega, by omega⟩)
  have hll := L.l
  have e2 : ∀ lo, lo.length = 15 → lo[0]? = some (some (.d (.list (ds.map .int)))) → lo[7]? = some (some (.d (.int (k : Nat)))) → lcL always (.nm 14) bYes ((mCB nInt (aCons (bind2 (mV 0) (bind2 (bind2 (mC (.int 2)) (bind2 (mC (.int 4)) (mV 7) oMulY) oAdd) (mV 14) oAdd) oIxA) aNil))) lo (((List.range 4).map fun i : Nat => PyData.int (i : Nat)).map .d) mh = .ok (((List.range 4).map fun j => .int (dr ds (2 + 4 * k + j))).map .d) mh := fun lo hl0 h0 h4 =>
    lcL_d (List.range 4) _ _ trivial fun j hj => ⟨_, rfl, by
      have hj := List.mem_range.mp hj
      have i1 := ix_dr (ds := ds) (i := 2 + 4 * k + j) (by omega) mh
      rw [show ((2 + 4 * k + j : Nat) : Int) = 2 + 4 * (k : Int) + (j : Int) by omega] at i1
      simp [-getElem?_pos, List.getElem?_set, hl0, h0, h4, m1, i1]⟩
  have ek : kLen (((List.range 4).map fun j => PyData.int (dr ds (2 + 4 * k + j))).map .d) mh = .ok (((List.range 4).map fun j => PyData.int (dr ds (2 + 4 * k + j))).map .d) mh := kLen_s _ (by decide) _ _
  have ef : frzL (((List.range 4).map fun j => PyData.int (dr ds (2 + 4 * k + j))).map .d) mh = .ok (.d (.list ((List.range 4).map fun j => PyData.int (dr ds (2 + 4 * k + j))))) mh := frzL_d _
  have ho : (own4 ds k).map PyData.int = (List.range 4).map fun j => PyData.int (dr ds (2 + 4 * k + j)) := by unfold own4; rw [List.map_map]; rfl
  have e3 := e2 (lo.set 14 none) (by simp [hll]) (by rw [List.getElem?_set_ne (by omega)]; exact L.h0) (by rw [List.getElem?_set_ne (by omega)]; exact h7)
  rw [sSet_ap, mFrz_ap, mLC_ap, hi, Res.bind_ok, kLC_ap, wipeL_cons, wipeL_nil, e3, Res.bind_ok, ek, Res.bind_ok, ef, ofR_ok, kSet_ap, ho]
theorem u1 (L : TV ds M W ls ps c lo) (hc : c < 26) : (sSet 9 (bind2 (mC (.str "m")) (bind2 (mC (.str "abcdefghijklmnopqrstuvwxyz")) (mV 5) oIxA) oAddStr)) lo mh = .nx (lo.set 9 (some (.d (.str (mn c))))) mh := by
  have e1 := abcZ hc mh
  have e2 := m_lt c mh
  simp [-getElem?_pos, L.h5, e1, e2]
theorem u2c (L : TV ds M W ls ps c lo) (hp : ps.length ≤ 6) : ((mB (bind2 (mCB nLen (aCons (mV 4) aNil)) (mC (.int 1)) oEq))) lo mh = .ok (decide (ps.length = 1)) mh := by
  by_cases h : ps.length = 1
  · simp [-getElem?_pos, L.h4, PyData.depth, eqv_int, h]
  · have hb : (((ps.length : Nat) : Int) == 1) = false := by rw [beq_eq_false_iff_ne]; omega
    have hb : (ps.length : Int) ≠ 1 := by omega
    simp [-getElem?_pos, L.h4, PyData.depth, eqv_int, h, hb]
theorem nLen_ps (hp : ps.length ≤ 6) (mh : Mh) : nLen [.d (.list (ps.map .str))] mh = .ok (.d (.int (ps.length : Nat))) mh := by simp
theorem u3 (L : TV ds M W ls ps c lo) (hp : ps.length ≤ 6) (h1 : 1 ≤ ps.length) (ho : own.length = 4) (hr : inR own) (h8 : lo[8]? = some (some (.d (.list (own.map .int))))) :
    ∃ a, a < ps.length ∧ (sSet 10 (bind2 (bind2 (mV 8) (mC (.int 0)) oIxA) (mCB nLen (aCons (mV 4) aNil)) oModI)) lo mh = .nx (lo.set 10 (some (.d (.int (a : Nat))))) mh := by
  obtain ⟨a, -, ha, m⟩ := md hr 0 (m := ps.length) (by omega)
  have m := m mh
  have i0 : oIxA (.d (.list (own.map .int))) (.d (.int 0)) mh = .ok (.d (.int (dr own 0))) mh := ix_dr (i := 0) (by omega) mh
  have hn := nLen_ps hp mh
  have h4 := L.h4
  refine ⟨a, ha, ?_⟩
  generalize ps.map PyData.str = pd at h4 hn
  simp [-getElem?_pos, -List.map_map, h4, h8, i0, hn, m]
theorem ps_ix (h : a < ps.length) (mh : Mh) : oIxA (.d (.list (ps.map .str))) (.d (.int (a : Nat))) mh = .ok (.d (.str ps[a])) mh := by
  refine oIx_dl ?_
  rw [atI_nn, List.getElem?_map, List.getElem?_eq_getElem h]; rfl
theorem add_ln (hl : ls.length ≤ 60) (l : Ln) (mh : Mh) : oAdd (.d (.list (ls.map lnD))) (.d (.list [lnD l])) mh = .ok (.d (.list ((ls ++ [l]).map lnD))) mh := by
  have := add_l (a := ls.map lnD) (b := [lnD l]) (by simp; omega) mh
  rw [List.map_append]
  exact this
theorem list1 {me : EM} {x : PyData} (h : me lo mh = .ok (.d x) mh) : (mFrz (lDisp (aCons me aNil))) lo mh = .ok (.d (.list [x])) mh := by
  rw [mFrz_ap, lDisp_ap, aCons_ap, h, Res.bind_ok, ka1_ap, aNil_ap, Res.bind_ok, ka2_ap, Res.bind_ok]
  rfl
/-- one need -/
theorem u4t (L : TV ds M W ls ps c lo) (hl : ls.length ≤ 60) (hp : ps.length ≤ 6) (ha : a < ps.length) (ho : own.length = 4) (hr : inR own) (h8 : lo[8]? = some (some (.d (.list (own.map .int))))) (h9 : lo[9]? = some (some (.d (.str nm)))) (h10 : lo[10]? = some (some (.d (.int (a : Nat))))) :
    ∃ w ps' lo', t_NEEDS.lookup w = some (1 : Int) ∧ (∀ p, p ∈ ps' → p ∈ ps ∨ p = nm) ∧ 1 ≤ ps'.length ∧ ps'.length ≤ 6 ∧
      ((sSeq (sTg (.tp [(.nm 3), (.nm 4)]) (mTup (aCons (bind2 (mV 3) (mFrz (lDisp (aCons (mTup (aCons (mV 9) (aCons (bind2 (mFrz (lDisp (aCons (mC (.str "neg")) (aCons (mC (.str "double")) aNil)))) (bind2 (bind2 (mV 8) (mC (.int 2)) oIxA) (mC (.int 2)) oModI) oIxA) (aCons (mTup (aCons (bind2 (mV 4) (mV 10) oIxA) aNil)) aNil)))) aNil))) oAdd) (aCons (bind2 (bind2 (mSl (mV 4) pNo (pSome (mV 10))) (mFrz (lDisp (aCons (mV 9) aNil))) oAdd) (mSl (mV 4) (pSome (bind2 (mV 10) (mC (.int 1)) oAdd)) pNo) oAdd) aNil)))) sNil)) lo mh = .nx lo' mh ∧ TV ds M W (ls ++ [(⟨nm, w, [ps[a]]⟩ : Ln)]) ps' c lo' := by
  obtain ⟨q, -, hq, m1⟩ := md hr 2 (m := 2) (by omega)
  have m1 := m1 mh
  rw [show ((2 : Nat) : Int) = 2 from rfl] at m1
  have i2 : oIxA (.d (.list (own.map .int))) (.d (.int 2)) mh = .ok (.d (.int (dr own 2))) mh := ix_dr (i := 2) (by omega) mh
  have wi := strs_ix (l := ["neg", "double"]) hq mh
  have hw : ∀ q, q < 2 → t_NEEDS.lookup ((["neg", "double"] : List Str).getD q "") = some (1 : Int) := by decide +kernel
  have hw := hw q hq
  generalize hu : (["neg", "double"] : List Str).getD q "" = u at wi hw
  have hd : (mFrz (lDisp (aCons (mC (.str "neg")) (aCons (mC (.str "double")) aNil)))) lo mh = .ok (.d (.list ((["neg", "double"] : List Str).map .str))) mh := rfl
  have pa := ps_ix ha mh
  have A1 := add_ln hl ⟨nm, u, [ps[a]]⟩ mh
  have A2 := add_l (a := (ps.take a).map .str) (b := [.str nm]) (by simp; omega) mh
  have A3 := add_l (a := (ps.take a).map .str ++ [.str nm]) (b := (ps.drop (a + 1)).map .str) (by simp; omega) mh
  have s1 : (mSl (mV 4) pNo (pSome (mV 10))) lo mh = .ok (.d (.list ((ps.take a).map .str))) mh := by
    have := cut_to (ps.map PyData.str) a
    simp [-getElem?_pos, L.h4, h10, this, List.map_take]
  have s2 : (mSl (mV 4) (pSome (bind2 (mV 10) (mC (.int 1)) oAdd)) pNo) lo mh = .ok (.d (.list ((ps.drop (a + 1)).map .str))) mh := by
    have := cut_from (ps.map PyData.str) (a + 1)
    rw [show ((a + 1 : Nat) : Int) = (a : Int) + 1 by omega] at this
    simp [-getElem?_pos, L.h4, h10, this, List.map_drop]
  have hY : (ps.take a).map PyData.str ++ [.str nm] ++ (ps.drop (a + 1)).map .str = (ps.take a ++ [nm] ++ ps.drop (a + 1)).map .str := by simp
  rw [hY] at A3
  have eX : ((bind2 (mV 3) (mFrz (lDisp (aCons (mTup (aCons (mV 9) (aCons (bind2 (mFrz (lDisp (aCons (mC (.str "neg")) (aCons (mC (.str "double")) aNil)))) (bind2 (bind2 (mV 8) (mC (.int 2)) oIxA) (mC (.int 2)) oModI) oIxA) (aCons (mTup (aCons (bind2 (mV 4) (mV 10) oIxA) aNil)) aNil)))) aNil))) oAdd)) lo mh = .ok (.d (.list ((ls ++ [(⟨nm, u, [ps[a]]⟩ : Ln)]).map lnD))) mh := by
    have h4 := L.h4
    have eT : ((mTup (aCons (mV 9) (aCons (bind2 (mFrz (lDisp (aCons (mC (.str "neg")) (aCons (mC (.str "double")) aNil)))) (bind2 (bind2 (mV 8) (mC (.int 2)) oIxA) (mC (.int 2)) oModI) oIxA) (aCons (mTup (aCons (bind2 (mV 4) (mV 10) oIxA) aNil)) aNil))))) lo mh = .ok (.d (lnD ⟨nm, u, [ps[a]]⟩)) mh := by
      unfold lnD sL
      simp only [List.map_cons, List.map_nil]
      generalize hE : (["neg", "double"] : List Str).map PyData.str = ws at wi hd
      generalize hF : (mFrz (lDisp (aCons (mC (.str "neg")) (aCons (mC (.str "double")) aNil)))) = mf at hd ⊢
      generalize List.map PyData.str ps = pd at h4 pa
      simp [-getElem?_pos, -List.map_map, h4, h8, h9, h10, hd, i2, m1, wi, pa]
    have eL := list1 eT
    have h3 : (mV 3) lo mh = .ok (.d (.list (ls.map lnD))) mh := by simp [-getElem?_pos, L.h3]
    rw [bind2_ap, h3, Res.bind_ok, k2a_ap, eL, Res.bind_ok, k2b_ap, A1]
  have eY : ((bind2 (bind2 (mSl (mV 4) pNo (pSome (mV 10))) (mFrz (lDisp (aCons (mV 9) aNil))) oAdd) (mSl (mV 4) (pSome (bind2 (mV 10) (mC (.int 1)) oAdd)) pNo) oAdd)) lo mh = .ok (.d (.list ((ps.take a ++ [nm] ++ ps.drop (a + 1)).map .str))) mh := by
    have e9 : (mFrz (lDisp (aCons (mV 9) aNil))) lo mh = .ok (.d (.list [.str nm])) mh := list1 (by simp [-getElem?_pos, h9])
    rw [bind2_ap, bind2_ap, s1, Res.bind_ok, k2a_ap, e9, Res.bind_ok, k2b_ap, A2, Res.bind_ok, k2a_ap, s2, Res.bind_ok, k2b_ap, A3]
  have hll := L.l
  refine ⟨u, ps.take a ++ [nm] ++ ps.drop (a + 1), (lo.set 3 (some (.d (.list ((ls ++ [(⟨nm, u, [ps[a]]⟩ : Ln)]).map lnD))))).set 4 (some (.d (.list ((ps.take a ++ [nm] ++ ps.drop (a + 1)).map .str)))), hw, fun p hx => ?_, ?_, ?_, ?_, ?_⟩
  · simp only [List.mem_append, List.mem_singleton] at hx
    rcases hx with (hx | hx) | hx
    · exact .inl (List.mem_of_mem_take hx)
    · exact .inr hx
    · exact .inl (List.mem_of_mem_drop hx)
  · simp; omega
  · simp; omega
  · rw [sSeq_ap, sTg_ap, mTup_ap, aCons_ap, eX, Res.bind_ok, ka1_ap, aCons_ap, eY, Res.bind_ok, ka1_ap, aNil_ap, Res.bind_ok, ka2_ap, Res.bind_ok, ka2_ap, Res.bind_ok]
    rfl
  · exact ⟨by simp [hll], by rw [List.getElem?_set_ne (by omega), List.getElem?_set_ne (by omega)]; exact L.h0, by rw [List.getElem?_set_ne (by omega), List.getElem?_set_ne (by omega)]; exact L.h2, by rw [List.getElem?_set_ne (by omega), List.getElem?_set_self (by omega)], by rw [List.getElem?_set_self (by simp; omega)], by rw [List.getElem?_set_ne (by omega), List.getElem?_set_ne (by omega)]; exact L.h5, by rw [List.getElem?_set_ne (by omega), List.getElem?_set_ne (by omega)]; exact L.h6⟩
end
end K70


set_option Elab.async false
set_option linter.all false
set_option maxRecDepth 100000
set_option maxHeartbeats 4000000
namespace K70
open PySem EL
section
variable {ds own : List Int} {M c k a b : Nat} {W nm : Str} {ls : List Ln} {ps : List Str} {lo : Lo} {mh : Mh}
theorem v0 (L : TV ds M W ls ps c lo) (hp : ps.length ≤ 6) (h2 : 2 ≤ ps.length) (ho : own.length = 4) (hr : inR own) (h8 : lo[8]? = some (some (.d (.list (own.map .int))))) (h10 : lo[10]? = some (some (.d (.int (a : Nat))))) :
    ∃ o, o < ps.length ∧ (sSet 11 (bind2 (bind2 (bind2 (mV 10) (mC (.int 1)) oAdd) (bind2 (bind2 (mV 8) (mC (.int 2)) oIxA) (bind2 (mCB nLen (aCons (mV 4) aNil)) (mC (.int 1)) oSubI) oModI) oAdd) (mCB nLen (aCons (mV 4) aNil)) oModI)) lo mh = .nx (lo.set 11 (some (.d (.int (o : Nat))))) mh := by
  obtain ⟨q, -, hq, m⟩ := md hr 2 (m := ps.length - 1) (by omega)
  have m := m mh
  rw [show ((ps.length - 1 : Nat) : Int) = (ps.length : Int) - 1 by omega] at m
  have i2 : oIxA (.d (.list (own.map .int))) (.d (.int 2)) mh = .ok (.d (.int (dr own 2))) mh := ix_dr (i := 2) (by omega) mh
  have hn := nLen_ps hp mh
  have h4 := L.h4
  have hm : oModI (.d (.int ((a : Int) + 1 + (q : Int)))) (.d (.int (ps.length : Nat))) mh = .ok (.d (.int (((a + 1 + q) % ps.length : Nat) : Int))) mh := by
    rw [oModI_ok (by omega)]
    rw [show (((a + 1 + q) % ps.length : Nat) : Int) = ((a : Int) + 1 + (q : Int)) % (ps.length : Int) by rw [Int.natCast_emod]; congr 1]
  refine ⟨(a + 1 + q) % ps.length, Nat.mod_lt _ (by omega), ?_⟩
  generalize (((a + 1 + q) % ps.length : Nat) : Int) = z at hm ⊢
  generalize ps.map PyData.str = pd at h4 hn
  generalize (ps.length : Int) = pl at hn hm m
  simp [-getElem?_pos, -List.map_map, h4, h8, h10, i2, hn, m, hm]
theorem v1 (L : TV ds M W ls ps c lo) (hW : t_NEEDS.lookup W = some (2 : Int)) (ho : own.length = 4) (hr : inR own) (h8 : lo[8]? = some (some (.d (.list (own.map .int))))) :
    ∃ w, t_NEEDS.lookup w = some (2 : Int) ∧ (sSet 12 (mIf (mB (bind2 (bind2 (bind2 (mV 8) (mC (.int 3)) oIxA) (mC (.int 3)) oModI) (mC (.int 0)) oGtI)) (mV 6) (bind2 (mFrz (lDisp (aCons (mC (.str "sub")) (aCons (mC (.str "add")) (aCons (mC (.str "least")) (aCons (mC (.str "sub")) (aCons (mC (.str "times")) aNil))))))) (bind2 (bind2 (mV 8) (mC (.int 1)) oIxA) (mC (.int 5)) oModI) oIxA))) lo mh = .nx (lo.set 12 (some (.d (.str w)))) mh := by
  obtain ⟨q, -, hq, m1⟩ := md hr 3 (m := 3) (by omega)
  obtain ⟨p, -, hp, m2⟩ := md hr 1 (m := 5) (by omega)
  have m1 := m1 mh
  have m2 := m2 mh
  rw [show ((3 : Nat) : Int) = 3 from rfl] at m1
  rw [show ((5 : Nat) : Int) = 5 from rfl] at m2
  have i3 : oIxA (.d (.list (own.map .int))) (.d (.int 3)) mh = .ok (.d (.int (dr own 3))) mh := ix_dr (i := 3) (by omega) mh
  have i1 : oIxA (.d (.list (own.map .int))) (.d (.int 1)) mh = .ok (.d (.int (dr own 1))) mh := ix_dr (i := 1) (by omega) mh
  have wi := strs_ix (l := ["sub", "add", "least", "sub", "times"]) hp mh
  have hw : ∀ q, q < 5 → t_NEEDS.lookup ((["sub", "add", "least", "sub", "times"] : List Str).getD q "") = some (2 : Int) := by decide +kernel
  have hw := hw p hp
  generalize hu : (["sub", "add", "least", "sub", "times"] : List Str).getD p "" = u at wi hw
  have hd : (mFrz (lDisp (aCons (mC (.str "sub")) (aCons (mC (.str "add")) (aCons (mC (.str "least")) (aCons (mC (.str "sub")) (aCons (mC (.str "times")) aNil))))))) lo mh = .ok (.d (.list ((["sub", "add", "least", "sub", "times"] : List Str).map .str))) mh := rfl
  generalize hE : (["sub", "add", "least", "sub", "times"] : List Str).map PyData.str = ws at wi hd
  have h6 := L.h6
  by_cases hc : 0 < q
  · refine ⟨W, hW, ?_⟩
    simp [-getElem?_pos, -List.map_map, h6, h8, i3, m1, hc]
  · refine ⟨u, hw, ?_⟩
    generalize (mFrz (lDisp (aCons (mC (.str "sub")) (aCons (mC (.str "add")) (aCons (mC (.str "least")) (aCons (mC (.str "sub")) (aCons (mC (.str "times")) aNil))))))) = mf at hd ⊢
    simp [-getElem?_pos, -List.map_map, h6, h8, i3, i1, m1, m2, hc, hd, wi]
theorem v2 (L : TV ds M W ls ps c lo) (hl : ls.length ≤ 60) (ha : a < ps.length) (hb : b < ps.length) {w : Str} (h9 : lo[9]? = some (some (.d (.str nm)))) (h10 : lo[10]? = some (some (.d (.int (a : Nat))))) (h11 : lo[11]? = some (some (.d (.int (b : Nat))))) (h12 : lo[12]? = some (some (.d (.str w)))) :
    (sSet 3 (bind2 (mV 3) (mFrz (lDisp (aCons (mTup (aCons (mV 9) (aCons (mV 12) (aCons (mTup (aCons (bind2 (mV 4) (mV 10) oIxA) (aCons (bind2 (mV 4) (mV 11) oIxA) aNil))) aNil)))) aNil))) oAdd)) lo mh = .nx (lo.set 3 (some (.d (.list ((ls ++ [(⟨nm, w, [ps[a], ps[b]]⟩ : Ln)]).map lnD))))) mh := by
  have pa := ps_ix ha mh
  have pb := ps_ix hb mh
  have A1 := add_ln hl ⟨nm, w, [ps[a], ps[b]]⟩ mh
  have h4 := L.h4
  have eT : ((mTup (aCons (mV 9) (aCons (mV 12) (aCons (mTup (aCons (bind2 (mV 4) (mV 10) oIxA) (aCons (bind2 (mV 4) (mV 11) oIxA) aNil))) aNil))))) lo mh = .ok (.d (lnD ⟨nm, w, [ps[a], ps[b]]⟩)) mh := by
    unfold lnD sL
    simp only [List.map_cons, List.map_nil]
    generalize List.map PyData.str ps = pd at h4 pa pb
    simp [-getElem?_pos, -List.map_map, h4, h9, h10, h11, h12, pa, pb]
  have eL := list1 eT
  have h3 : (mV 3) lo mh = .ok (.d (.list (ls.map lnD))) mh := by simp [-getElem?_pos, L.h3]
  rw [sSet_ap, bind2_ap, h3, Res.bind_ok, k2a_ap, eL, Res.bind_ok, k2b_ap, A1, ofR_ok, kSet_ap]
def fil (ps : List Str) (x y : Str) : List Str := ps.filter fun z => !decide (z ∈ ([x, y] : List Str))
theorem v3 (hll : lo.length = 15) (h4 : lo[4]? = some (some (.d (.list (ps.map .str))))) (hp : ps.length ≤ 6) (ha : a < ps.length) (hb : b < ps.length) (h9 : lo[9]? = some (some (.d (.str nm)))) (h10 : lo[10]? = some (some (.d (.int (a : Nat))))) (h11 : lo[11]? = some (some (.d (.int (b : Nat))))) :
    (sSet 4 (bind2 (mFrz (mLC (iSeq (mV 4)) (.nm 13) (mB (bind2 (mV 13) (mTup (aCons (bind2 (mV 4) (mV 10) oIxA) (aCons (bind2 (mV 4) (mV 11) oIxA) aNil))) oNin)) (mV 13) [13])) (mFrz (lDisp (aCons (mV 9) aNil))) oAdd)) lo mh = .nx (lo.set 4 (some (.d (.list ((fil ps ps[a] ps[b] ++ [nm]).map .str))))) mh := by
  have pa := ps_ix ha mh
  have pb := ps_ix hb mh
  have hs : iSeq (mV 4) lo mh = .ok ((ps.map .str).map .d, always) mh := by simp [-getElem?_pos, h4]
  have hfl : (fil ps ps[a] ps[b]).length ≤ ps.length := List.length_filter_le _ _
  have e2 : lcL always (.nm 13) ((mB (bind2 (mV 13) (mTup (aCons (bind2 (mV 4) (mV 10) oIxA) (aCons (bind2 (mV 4) (mV 11) oIxA) aNil))) oNin))) (mV 13) (lo.set 13 none) ((ps.map .str).map .d) mh = .ok (((fil ps ps[a] ps[b]).map .str).map .d) mh :=
    lcL_f ps PyData.str PyData.str _ trivial fun z hz => ⟨_, rfl, by
      have h13 : ((lo.set 13 none).set 13 (some (.d (.str z))))[13]? = some (some (.d (.str z))) := by rw [List.getElem?_set_self (by simp [hll])]
      have g4 : ((lo.set 13 none).set 13 (some (.d (.str z))))[4]? = some (some (.d (.list (ps.map .str)))) := by rw [List.getElem?_set_ne (by omega), List.getElem?_set_ne (by omega)]; exact h4
      have g10 : ((lo.set 13 none).set 13 (some (.d (.str z))))[10]? = some (some (.d (.int (a : Nat)))) := by rw [List.getElem?_set_ne (by omega), List.getElem?_set_ne (by omega)]; exact h10
      have g11 : ((lo.set 13 none).set 13 (some (.d (.str z))))[11]? = some (some (.d (.int (b : Nat)))) := by rw [List.getElem?_set_ne (by omega), List.getElem?_set_ne (by omega)]; exact h11
      have hni : oNin (.d (.str z)) (.d (.tuple [.str ps[a], .str ps[b]])) mh = .ok (.d (.bool (!decide (z ∈ ([ps[a], ps[b]] : List Str))))) mh := strNin_t [ps[a], ps[b]] z mh
      refine ⟨?_, fun _ => ?_⟩
      · show ((mB (bind2 (mV 13) (mTup (aCons (bind2 (mV 4) (mV 10) oIxA) (aCons (bind2 (mV 4) (mV 11) oIxA) aNil))) oNin))) ((lo.set 13 none).set 13 (some (.d (.str z)))) mh = _
        generalize (lo.set 13 none).set 13 (some (.d (.str z))) = lo2 at h13 g4 g10 g11 ⊢
        generalize List.map PyData.str ps = pd at g4 pa pb
        generalize (!decide (z ∈ ([ps[a], ps[b]] : List Str))) = bb at hni ⊢
        simp [-getElem?_pos, h13, g4, g10, g11, pa, pb, hni]
      · show (mV 13) ((lo.set 13 none).set 13 (some (.d (.str z)))) mh = _
        generalize (lo.set 13 none).set 13 (some (.d (.str z))) = lo2 at h13 ⊢
        simp [-getElem?_pos, h13]⟩
  have ek : kLen (((fil ps ps[a] ps[b]).map PyData.str).map .d) mh = .ok (((fil ps ps[a] ps[b]).map PyData.str).map .d) mh := kLen_q _ (by omega) mh _
  have f1 := frzL_d (mh := mh) ((fil ps ps[a] ps[b]).map PyData.str)
  have e9 : (mFrz (lDisp (aCons (mV 9) aNil))) lo mh = .ok (.d (.list [.str nm])) mh := list1 (by simp [-getElem?_pos, h9])
  have A := add_l (a := (fil ps ps[a] ps[b]).map .str) (b := [.str nm]) (by simp; omega) mh
  rw [sSet_ap, bind2_ap, mFrz_ap, mLC_ap, hs, Res.bind_ok, kLC_ap, wipeL_cons, wipeL_nil, e2, Res.bind_ok, ek, Res.bind_ok, f1, Res.bind_ok, k2a_ap, e9, Res.bind_ok, k2b_ap, A, ofR_ok, kSet_ap, List.map_append (f := PyData.str)]
  rfl
theorem u4e (L : TV ds M W ls ps c lo) (hW : t_NEEDS.lookup W = some (2 : Int)) (hl : ls.length ≤ 60) (hp : ps.length ≤ 6) (h2 : 2 ≤ ps.length) (ha : a < ps.length) (ho : own.length = 4) (hr : inR own) (h8 : lo[8]? = some (some (.d (.list (own.map .int))))) (h9 : lo[9]? = some (some (.d (.str nm)))) (h10 : lo[10]? = some (some (.d (.int (a : Nat))))) :
    ∃ w b, ∃ hb : b < ps.length, ∃ ps' lo', t_NEEDS.lookup w = some (2 : Int) ∧ (∀ p, p ∈ ps' → p ∈ ps ∨ p = nm) ∧ 1 ≤ ps'.length ∧ ps'.length ≤ 6 ∧
      ((sSeq (sSet 11 (bind2 (bind2 (bind2 (mV 10) (mC (.int 1)) oAdd) (bind2 (bind2 (mV 8) (mC (.int 2)) oIxA) (bind2 (mCB nLen (aCons (mV 4) aNil)) (mC (.int 1)) oSubI) oModI) oAdd) (mCB nLen (aCons (mV 4) aNil)) oModI)) (sSeq (sSet 12 (mIf (mB (bind2 (bind2 (bind2 (mV 8) (mC (.int 3)) oIxA) (mC (.int 3)) oModI) (mC (.int 0)) oGtI)) (mV 6) (bind2 (mFrz (lDisp (aCons (mC (.str "sub")) (aCons (mC (.str "add")) (aCons (mC (.str "least")) (aCons (mC (.str "sub")) (aCons (mC (.str "times")) aNil))))))) (bind2 (bind2 (mV 8) (mC (.int 1)) oIxA) (mC (.int 5)) oModI) oIxA))) (sSeq (sSet 3 (bind2 (mV 3) (mFrz (lDisp (aCons (mTup (aCons (mV 9) (aCons (mV 12) (aCons (mTup (aCons (bind2 (mV 4) (mV 10) oIxA) (aCons (bind2 (mV 4) (mV 11) oIxA) aNil))) aNil)))) aNil))) oAdd)) (sSeq (sSet 4 (bind2 (mFrz (mLC (iSeq (mV 4)) (.nm 13) (mB (bind2 (mV 13) (mTup (aCons (bind2 (mV 4) (mV 10) oIxA) (aCons (bind2 (mV 4) (mV 11) oIxA) aNil))) oNin)) (mV 13) [13])) (mFrz (lDisp (aCons (mV 9) aNil))) oAdd)) sNil))))) lo mh = .nx lo' mh ∧ TV ds M W (ls ++ [(⟨nm, w, [ps[a], ps[b]]⟩ : Ln)]) ps' c lo' := by
  have hll := L.l
  obtain ⟨b, hb, p0⟩ := v0 (mh := mh) L hp h2 ho hr h8 h10
  let lo1 : Lo := lo.set 11 (some (.d (.int (b : Nat))))
  have L1 : TV ds M W ls ps c lo1 := L.set (by omega) _
  have hl1 := L1.l
  have a8 : lo1[8]? = some (some (.d (.list (own.map .int)))) := by simp only [lo1]; rw [List.getElem?_set_ne (by omega)]; exact h8
  have a9 : lo1[9]? = some (some (.d (.str nm))) := by simp only [lo1]; rw [List.getElem?_set_ne (by omega)]; exact h9
  have a10 : lo1[10]? = some (some (.d (.int (a : Nat)))) := by simp only [lo1]; rw [List.getElem?_set_ne (by omega)]; exact h10
  have a11 : lo1[11]? = some (some (.d (.int (b : Nat)))) := by simp only [lo1]; rw [List.getElem?_set_self (by omega)]
  obtain ⟨w, hw, p1⟩ := v1 (mh := mh) L1 hW ho hr a8
  let lo2 : Lo := lo1.set 12 (some (.d (.str w)))
  have L2 : TV ds M W ls ps c lo2 := L1.set (by omega) _
  have hl2 := L2.l
  have b9 : lo2[9]? = some (some (.d (.str nm))) := by simp only [lo2]; rw [List.getElem?_set_ne (by omega)]; exact a9
  have b10 : lo2[10]? = some (some (.d (.int (a : Nat)))) := by simp only [lo2]; rw [List.getElem?_set_ne (by omega)]; exact a10
  have b11 : lo2[11]? = some (some (.d (.int (b : Nat)))) := by simp only [lo2]; rw [List.getElem?_set_ne (by omega)]; exact a11
  have b12 : lo2[12]? = some (some (.d (.str w))) := by simp only [lo2]; rw [List.getElem?_set_self (by omega)]
  have p2 := v2 (mh := mh) L2 hl ha hb b9 b10 b11 b12
  let lo3 : Lo := lo2.set 3 (some (.d (.list ((ls ++ [(⟨nm, w, [ps[a], ps[b]]⟩ : Ln)]).map lnD))))
  have hl3 : lo3.length = 15 := by simp [lo3, hl2]
  have c4 : lo3[4]? = some (some (.d (.list (ps.map .str)))) := by simp only [lo3]; rw [List.getElem?_set_ne (by omega)]; exact L2.h4
  have c9 : lo3[9]? = some (some (.d (.str nm))) := by simp only [lo3]; rw [List.getElem?_set_ne (by omega)]; exact b9
  have c10 : lo3[10]? = some (some (.d (.int (a : Nat)))) := by simp only [lo3]; rw [List.getElem?_set_ne (by omega)]; exact b10
  have c11 : lo3[11]? = some (some (.d (.int (b : Nat)))) := by simp only [lo3]; rw [List.getElem?_set_ne (by omega)]; exact b11
  have p3 := v3 (mh := mh) hl3 c4 hp ha hb c9 c10 c11
  have hlt : (fil ps ps[a] ps[b]).length < ps.length := by
    unfold fil
    rw [List.length_filter_lt_length_iff_exists]
    exact ⟨ps[a], List.getElem_mem _, by simp⟩
  refine ⟨w, b, hb, fil ps ps[a] ps[b] ++ [nm], lo3.set 4 (some (.d (.list ((fil ps ps[a] ps[b] ++ [nm]).map .str)))), hw, fun p hx => ?_, by simp, by simp; omega, ?_, ?_⟩
  · rcases List.mem_append.mp hx with hx | hx
    · exact .inl (List.mem_filter.mp hx).1
    · exact .inr (List.mem_singleton.mp hx)
  · rw [sSeq_ap, p0, sq_nx, sSeq_ap, p1, sq_nx, sSeq_ap, p2, sq_nx, sSeq_ap, p3]; rfl
  · exact ⟨by simp [hl3], by simp only [lo3]; rw [List.getElem?_set_ne (by omega), List.getElem?_set_ne (by omega)]; exact L2.h0, by simp only [lo3]; rw [List.getElem?_set_ne (by omega), List.getElem?_set_ne (by omega)]; exact L2.h2, by simp only [lo3]; rw [List.getElem?_set_ne (by omega), List.getElem?_set_self (by omega)], by rw [List.getElem?_set_self (by omega)], by simp only [lo3]; rw [List.getElem?_set_ne (by omega), List.getElem?_set_ne (by omega)]; exact L2.h5, by simp only [lo3]; rw [List.getElem?_set_ne (by omega), List.getElem?_set_ne (by omega)]; exact L2.h6⟩
end
end K70


set_option Elab.async false
set_option linter.all false
set_option maxRecDepth 100000
set_option maxHeartbeats 4000000
namespace K70
open PySem EL
section
variable {ds own : List Int} {M c k a b e : Nat} {W nm : Str} {ls : List Ln} {ps : List Str} {lo : Lo} {mh : Mh}
theorem w4c (ho : own.length = 4) (hr : inR own) (h8 : lo[8]? = some (some (.d (.list (own.map .int))))) : ∃ b, ((mB (bind2 (bind2 (bind2 (mV 8) (mC (.int 1)) oIxA) (mC (.int 7)) oModI) (mC (.int 0)) oEq))) lo mh = .ok b mh := by
  obtain ⟨q, -, hq, m1⟩ := md hr 1 (m := 7) (by omega)
  have m1 := m1 mh
  rw [show ((7 : Nat) : Int) = 7 from rfl] at m1
  have i1 : oIxA (.d (.list (own.map .int))) (.d (.int 1)) mh = .ok (.d (.int (dr own 1))) mh := ix_dr (i := 1) (by omega) mh
  exact ⟨((q : Nat) : Int) == 0, by simp [-getElem?_pos, -List.map_map, h8, i1, m1, PyData.depth, eqv_int]⟩
theorem w5s (L : TV ds M W ls ps c lo) : ∃ lo', (sSet 5 (bind2 (mV 5) (mC (.int 1)) oAdd)) lo mh = .nx lo' mh ∧ TV ds M W ls ps (c + 1) lo' := by
  have hll := L.l
  refine ⟨lo.set 5 (some (.d (.int (((c + 1 : Nat)) : Int)))), by simp [-getElem?_pos, L.h5], ?_⟩
  exact ⟨by simp [hll], by rw [List.getElem?_set_ne (by omega)]; exact L.h0, by rw [List.getElem?_set_ne (by omega)]; exact L.h2, by rw [List.getElem?_set_ne (by omega)]; exact L.h3, by rw [List.getElem?_set_ne (by omega)]; exact L.h4, by rw [List.getElem?_set_self (by omega)], by rw [List.getElem?_set_ne (by omega)]; exact L.h6⟩
theorem w1 (L : TV ds M W ls ps c lo) (S : TS ls ps M c 0) (hW : t_NEEDS.lookup W = some (2 : Int)) (hl : 80 ≤ ds.length) (hin : inR ds) (hM : M ≤ 6) (hk : k < 18) (hc : c < 18) (h7 : lo[7]? = some (some (.d (.int (k : Nat))))) :
    (∃ lo', l__law_tree_2 lo mh = .bk lo' mh ∧ TV ds M W ls ps c lo') ∨ (∃ lo' ls' ps', l__law_tree_2 lo mh = .nx lo' mh ∧ TV ds M W ls' ps' (c + 1) lo' ∧ TS ls' ps' M (c + 1) 0) := by
  have ho := own4_len ds k
  have hr := own4_in hin k
  have p0 := u0 (mh := mh) L hl hk h7
  let lo1 : Lo := lo.set 8 (some (.d (.list ((own4 ds k).map .int))))
  have L1 : TV ds M W ls ps c lo1 := L.set (by omega) _
  have hl1 := L1.l
  have hl0 := L.l
  have a8 : lo1[8]? = some (some (.d (.list ((own4 ds k).map .int)))) := by simp only [lo1]; rw [List.getElem?_set_self (by omega)]
  have p1 := u1 (mh := mh) L1 (by omega)
  let lo2 : Lo := lo1.set 9 (some (.d (.str (mn c))))
  have L2 : TV ds M W ls ps c lo2 := L1.set (by omega) _
  have hl2 := L2.l
  have b8 : lo2[8]? = some (some (.d (.list ((own4 ds k).map .int)))) := by simp only [lo2]; rw [List.getElem?_set_ne (by omega)]; exact a8
  have b9 : lo2[9]? = some (some (.d (.str (mn c)))) := by simp only [lo2]; rw [List.getElem?_set_self (by omega)]
  have c2 := u2c (mh := mh) L2 S.p6
  by_cases h1 : ps.length = 1
  · left
    rw [decide_eq_true h1] at c2
    refine ⟨lo2, ?_, L2⟩
    unfold l__law_tree_2
    rw [sSeq_ap, p0, sq_nx, sSeq_ap, p1, sq_nx, sSeq_ap, sIf_ap, c2, ofR_ok, kSIf_t]
    rfl
  right
  rw [decide_eq_false h1] at c2
  have hp1 := S.p1
  have hlen := S.len
  obtain ⟨a, ha, p3⟩ := u3 (mh := mh) L2 S.p6 S.p1 ho hr b8
  let lo3 : Lo := lo2.set 10 (some (.d (.int (a : Nat))))
  have L3 : TV ds M W ls ps c lo3 := L2.set (by omega) _
  have c8 : lo3[8]? = some (some (.d (.list ((own4 ds k).map .int)))) := by simp only [lo3]; rw [List.getElem?_set_ne (by omega)]; exact b8
  have c9 : lo3[9]? = some (some (.d (.str (mn c)))) := by simp only [lo3]; rw [List.getElem?_set_ne (by omega)]; exact b9
  have c10 : lo3[10]? = some (some (.d (.int (a : Nat)))) := by simp only [lo3]; rw [List.getElem?_set_self (by omega)]
  obtain ⟨bb, p4⟩ := w4c (mh := mh) ho hr c8
  cases bb with
  | true =>
    obtain ⟨w, ps', lo4, hw, hm, q1, q6, p5, L4⟩ := u4t (mh := mh) L3 (by omega) S.p6 ha ho hr c8 c9 c10
    obtain ⟨lo5, p6, L5⟩ := w5s (mh := mh) L4
    refine ⟨lo5, _, ps', ?_, L5, S.m (by omega) hw (fun n hn => by rw [List.mem_singleton.mp hn]; exact List.getElem_mem _) hm q1 q6⟩
    unfold l__law_tree_2
    rw [sSeq_ap, p0, sq_nx, sSeq_ap, p1, sq_nx, sSeq_ap, sIf_ap, c2, ofR_ok, kSIf_f, sNil_ap, sq_nx, sSeq_ap, p3, sq_nx, sSeq_ap, sIf_ap, p4, ofR_ok, kSIf_t, p5, sq_nx, sSeq_ap, p6]
    rfl
  | false =>
    obtain ⟨w, b, hb, ps', lo4, hw, hm, q1, q6, p5, L4⟩ := u4e (mh := mh) L3 hW (by omega) S.p6 (by omega) ha ho hr c8 c9 c10
    obtain ⟨lo5, p6, L5⟩ := w5s (mh := mh) L4
    refine ⟨lo5, _, ps', ?_, L5, S.m (by omega) hw (fun n hn => ?_) hm q1 q6⟩
    · unfold l__law_tree_2
      rw [sSeq_ap, p0, sq_nx, sSeq_ap, p1, sq_nx, sSeq_ap, sIf_ap, c2, ofR_ok, kSIf_f, sNil_ap, sq_nx, sSeq_ap, p3, sq_nx, sSeq_ap, sIf_ap, p4, ofR_ok, kSIf_f, p5, sq_nx, sSeq_ap, p6]
      rfl
    · simp only [List.mem_cons, List.not_mem_nil, or_false] at hn
      rcases hn with rfl | rfl
      · exact List.getElem_mem _
      · exact List.getElem_mem _
theorem w_loop (hW : t_NEEDS.lookup W = some (2 : Int)) (hl : 80 ≤ ds.length) (hin : inR ds) (hM : M ≤ 6) : ∀ (l : List Nat) (lo : Lo) (ls : List Ln) (ps : List Str) (c : Nat), (∀ k, k ∈ l → k < 18) → c + l.length ≤ 18 → TV ds M W ls ps c lo → TS ls ps M c 0 →
    ∃ lo' ls' ps' c', forL always (.nm 7) l__law_tree_2 (l.map fun k : Nat => PV.d (.int (k : Nat))) lo mh = .nx lo' mh ∧ TV ds M W ls' ps' c' lo' ∧ TS ls' ps' M c' 0 ∧ c' ≤ 18
  | [], lo, ls, ps, c, _, hc, L, S => ⟨lo, ls, ps, c, forL_z trivial, L, S, by simpa using hc⟩
  | k :: l, lo, ls, ps, c, hk, hc, L, S => by
    rw [List.length_cons] at hc
    have L0 : TV ds M W ls ps c (lo.set 7 (some (.d (.int (k : Nat))))) := L.set (by omega) _
    rcases w1 (mh := mh) L0 S hW hl hin hM (hk k (by simp)) (by omega) (by rw [List.getElem?_set_self (by rw [L.l]; omega)]) with ⟨lo', e, L'⟩ | ⟨lo', ls', ps', e, L', S'⟩
    · refine ⟨lo', ls, ps, c, ?_, L', S, by omega⟩
      rw [List.map_cons]
      simp only [forL, if_pos (show always mh from trivial), tgt_nm 7]
      have e' : l__law_tree_2 (upL lo [(7, PV.d (.int (k : Nat)))]) mh = .bk lo' mh := e
      rw [e']
    · obtain ⟨lo2, ls2, ps2, c2, e2, L2, S2, h2⟩ := w_loop hW hl hin hM l lo' ls' ps' (c + 1) (fun x hx => hk x (by simp [hx])) (by omega) L' S'
      refine ⟨lo2, ls2, ps2, c2, ?_, L2, S2, h2⟩
      rw [List.map_cons, forL_c trivial (tgt_nm 7) (.inl e)]
      exact e2
/-! the parts put together -/
theorem w6 (L : TV ds M W ls ps c lo) (S : TS ls ps M c e) (hM : M ≤ 6) (hc : c ≤ 18) (he : e < 8) (h2 : 2 ≤ ps.length) (h7 : lo[7]? = some (some (.d (.int (e : Nat))))) :
    ∃ lo' ls' ps', l__law_tree_1 lo mh = .nx lo' mh ∧ TV ds M W ls' ps' c lo' ∧ TS ls' ps' M c (e + 1) ∧ ps'.length + 1 = ps.length := by
  have hll := L.l
  have hlen := S.len
  have p6 := S.p6
  have e1 := abcH he mh
  have e2 := n_lt e mh
  have p0 : (sSet 9 (bind2 (mC (.str "n")) (bind2 (mC (.str "abcdefgh")) (mV 7) oIxA) oAddStr)) lo mh = .nx (lo.set 9 (some (.d (.str (nn e))))) mh := by simp [-getElem?_pos, h7, e1, e2]
  let lo1 : Lo := lo.set 9 (some (.d (.str (nn e))))
  have L1 : TV ds M W ls ps c lo1 := L.set (by omega) _
  have hl1 := L1.l
  have a9 : lo1[9]? = some (some (.d (.str (nn e)))) := by simp only [lo1]; rw [List.getElem?_set_self (by omega)]
  have pa : oIxA (.d (.list (ps.map .str))) (.d (.int 0)) mh = .ok (.d (.str ps[0])) mh := ps_ix (a := 0) (by omega) mh
  have pb : oIxA (.d (.list (ps.map .str))) (.d (.int 1)) mh = .ok (.d (.str ps[1])) mh := ps_ix (a := 1) (by omega) mh
  have A1 := add_ln (by omega) ⟨nn e, "sub", [ps[0], ps[1]]⟩ mh (ls := ls)
  have A2 := add_l (a := [PyData.str (nn e)]) (b := (ps.drop 2).map .str) (by simp; omega) mh
  have h4 := L1.h4
  have eX : ((bind2 (mV 3) (mFrz (lDisp (aCons (mTup (aCons (mV 9) (aCons (mC (.str "sub")) (aCons (mTup (aCons (bind2 (mV 4) (mC (.int 0)) oIxA) (aCons (bind2 (mV 4) (mC (.int 1)) oIxA) aNil))) aNil)))) aNil))) oAdd)) lo1 mh = .ok (.d (.list ((ls ++ [(⟨nn e, "sub", [ps[0], ps[1]]⟩ : Ln)]).map lnD))) mh := by
    have eT : ((mTup (aCons (mV 9) (aCons (mC (.str "sub")) (aCons (mTup (aCons (bind2 (mV 4) (mC (.int 0)) oIxA) (aCons (bind2 (mV 4) (mC (.int 1)) oIxA) aNil))) aNil))))) lo1 mh = .ok (.d (lnD ⟨nn e, "sub", [ps[0], ps[1]]⟩)) mh := by
      unfold lnD sL
      simp only [List.map_cons, List.map_nil]
      generalize List.map PyData.str ps = pd at h4 pa pb
      generalize lo1 = lo2 at *
      simp [-getElem?_pos, -List.map_map, h4, a9, pa, pb]
    have eL := list1 eT
    have h3 : (mV 3) lo1 mh = .ok (.d (.list (ls.map lnD))) mh := by simp [-getElem?_pos, L1.h3]
    rw [bind2_ap, h3, Res.bind_ok, k2a_ap, eL, Res.bind_ok, k2b_ap, A1]
  have eY : ((bind2 (mFrz (lDisp (aCons (mV 9) aNil))) (mSl (mV 4) (pSome (mC (.int 2))) pNo) oAdd)) lo1 mh = .ok (.d (.list ((nn e :: ps.drop 2).map .str))) mh := by
    have e9 : (mFrz (lDisp (aCons (mV 9) aNil))) lo1 mh = .ok (.d (.list [.str (nn e)])) mh := list1 (by simp [-getElem?_pos, a9])
    have s2 : (mSl (mV 4) (pSome (mC (.int 2))) pNo) lo1 mh = .ok (.d (.list ((ps.drop 2).map .str))) mh := by
      have := cut_from (ps.map PyData.str) 2
      rw [show ((2 : Nat) : Int) = 2 from rfl] at this
      generalize lo1 = lo2 at *
      simp [-getElem?_pos, h4, this, List.map_drop]
    rw [bind2_ap, e9, Res.bind_ok, k2a_ap, s2, Res.bind_ok, k2b_ap, A2]
    rfl
  refine ⟨(lo1.set 3 (some (.d (.list ((ls ++ [(⟨nn e, "sub", [ps[0], ps[1]]⟩ : Ln)]).map lnD))))).set 4 (some (.d (.list ((nn e :: ps.drop 2).map .str)))), ls ++ [(⟨nn e, "sub", [ps[0], ps[1]]⟩ : Ln)], nn e :: ps.drop 2, ?_, ?_, ?_, ?_⟩
  · unfold l__law_tree_1
    rw [sSeq_ap, p0, sq_nx, sSeq_ap, sTg_ap, mTup_ap, aCons_ap, eX, Res.bind_ok, ka1_ap, aCons_ap, eY, Res.bind_ok, ka1_ap, aNil_ap, Res.bind_ok, ka2_ap, Res.bind_ok, ka2_ap, Res.bind_ok]
    rfl
  · exact ⟨by simp [hl1], by rw [List.getElem?_set_ne (by omega), List.getElem?_set_ne (by omega)]; exact L1.h0, by rw [List.getElem?_set_ne (by omega), List.getElem?_set_ne (by omega)]; exact L1.h2, by rw [List.getElem?_set_ne (by omega), List.getElem?_set_self (by omega)], by rw [List.getElem?_set_self (by simp; omega)], by rw [List.getElem?_set_ne (by omega), List.getElem?_set_ne (by omega)]; exact L1.h5, by rw [List.getElem?_set_ne (by omega), List.getElem?_set_ne (by omega)]; exact L1.h6⟩
  · refine S.n (by omega) (show t_NEEDS.lookup ("sub" : Str) = some (2 : Int) by decide +kernel) (fun n hn => ?_) (fun p hp => ?_) (by simp) (by simp; omega)
    · simp only [List.mem_cons, List.not_mem_nil, or_false] at hn
      rcases hn with rfl | rfl
      · exact List.getElem_mem _
      · exact List.getElem_mem _
    · rcases List.mem_cons.mp hp with hp | hp
      · exact .inr hp
      · exact .inl (List.mem_of_mem_drop hp)
  · simp; omega
end
end K70


set_option Elab.async false
set_option linter.all false
set_option maxRecDepth 100000
set_option maxHeartbeats 4000000
namespace K70
open PySem EL
section
variable {ds own : List Int} {M c k a b e : Nat} {W nm : Str} {ls : List Ln} {ps : List Str} {lo : Lo} {mh : Mh}
theorem x_loop (hM : M ≤ 6) (hc : c ≤ 18) : ∀ (n e : Nat) (lo : Lo) (ls : List Ln) (ps : List Str), ps.length = n + 1 → TV ds M W ls ps c lo → TS ls ps M c e → e + n ≤ 8 →
    ∃ lo' ls' ps', forL always (.nm 7) l__law_tree_1 ((List.range' e n).map fun k : Nat => PV.d (.int (k : Nat))) lo mh = .nx lo' mh ∧ TV ds M W ls' ps' c lo' ∧ TS ls' ps' M c (e + n)
  | 0, e, lo, ls, ps, _, L, S, _ => ⟨lo, ls, ps, forL_z trivial, L, S⟩
  | n + 1, e, lo, ls, ps, hp, L, S, he => by
    have L0 : TV ds M W ls ps c (lo.set 7 (some (.d (.int (e : Nat))))) := L.set (by omega) _
    obtain ⟨lo', ls', ps', q, L', S', hl⟩ := w6 (mh := mh) L0 S hM hc (by omega) (by omega) (by rw [List.getElem?_set_self (by rw [L.l]; omega)])
    obtain ⟨lo2, ls2, ps2, q2, L2, S2⟩ := x_loop hM hc n (e + 1) lo' ls' ps' (by omega) L' S' (by omega)
    refine ⟨lo2, ls2, ps2, ?_, L2, by rw [show e + (n + 1) = e + 1 + n by omega]; exact S2⟩
    rw [List.range'_succ, List.map_cons, forL_c trivial (tgt_nm 7) (.inl q)]
    exact q2
theorem law_tree_v (hin : inR ds) (hl : 80 ≤ ds.length) (mh : Mh) : ∃ T, TOk T ∧ m__law_tree [.d (.list (ds.map .int)), .d (.int 6)] mh = .ok (.d (txD T)) mh := by
  obtain ⟨q, -, hq, m0⟩ := md hin 0 (m := 5) (by omega)
  obtain ⟨p, -, hp, m1⟩ := md hin 1 (m := 4) (by omega)
  have m0 := m0 mh
  have m1 := m1 mh
  rw [show ((5 : Nat) : Int) = 5 from rfl] at m0
  rw [show ((4 : Nat) : Int) = 4 from rfl] at m1
  have i0 : oIxA (.d (.list (ds.map .int))) (.d (.int 0)) mh = .ok (.d (.int (dr ds 0))) mh := ix_dr (i := 0) (by omega) mh
  have i1 : oIxA (.d (.list (ds.map .int))) (.d (.int 1)) mh = .ok (.d (.int (dr ds 1))) mh := ix_dr (i := 1) (by omega) mh
  obtain ⟨M, hMM⟩ : ∃ M, 2 + q = M := ⟨_, rfl⟩
  have hM6 : M ≤ 6 := by omega
  let lo0 : Lo := startL 15 [.d (.list (ds.map .int)), .d (.int 6)]
  let lo1 : Lo := lo0.set 2 (some (.d (.int (M : Nat))))
  have p0 : (sSet 2 (bind2 (mC (.int 2)) (bind2 (mCB nInt (aCons (bind2 (mV 0) (mC (.int 0)) oIxA) aNil)) (bind2 (mV 1) (mC (.int 1)) oSubI) oModI) oAdd)) lo0 mh = .nx lo1 mh := by
    simp [-List.map_map, lo0, lo1, startL, i0, m0, ← hMM]
  let ins : List Ln := (List.range M).map fun k => ⟨lt k, "in", []⟩
  let lo2 : Lo := lo1.set 3 (some (.d (.list (ins.map lnD))))
  have p1 : (sSet 3 (mFrz (mLC (iRg1 (aCons (mV 2) aNil)) (.nm 7) bYes (mTup (aCons (bind2 (mC (.str "abcdefgh")) (mV 7) oIxA) (aCons (mC (.str "in")) (aCons (mTup aNil) aNil)))) [7]))) lo1 mh = .nx lo2 mh := by
    have h2 : lo1[2]? = some (some (.d (.int (M : Nat)))) := rfl
    have hl1 : lo1.length = 15 := rfl
    have hi : iRg1 (aCons (mV 2) aNil) lo1 mh = .ok (((List.range M).map fun i : Nat => PyData.int (i : Nat)).map .d, always) mh := by rw [iRg1_n (n := M) (by omega) (by simp [-getElem?_pos, h2]), map_d]
    have e2 : lcL always (.nm 7) bYes ((mTup (aCons (bind2 (mC (.str "abcdefgh")) (mV 7) oIxA) (aCons (mC (.str "in")) (aCons (mTup aNil) aNil))))) (lo1.set 7 none) (((List.range M).map fun i : Nat => PyData.int (i : Nat)).map .d) mh = .ok (((List.range M).map fun k => lnD ⟨lt k, "in", []⟩).map .d) mh :=
      lcL_d (List.range M) _ _ trivial fun j hj => ⟨_, rfl, by
        have hj := List.mem_range.mp hj
        have h7 : ((lo1.set 7 none).set 7 (some (.d (.int (j : Nat)))))[7]? = some (some (.d (.int (j : Nat)))) := by rw [List.getElem?_set_self (by simp [hl1])]
        have c1 := abcH (i := j) (by omega) mh
        show ((mTup (aCons (bind2 (mC (.str "abcdefgh")) (mV 7) oIxA) (aCons (mC (.str "in")) (aCons (mTup aNil) aNil))))) ((lo1.set 7 none).set 7 (some (.d (.int (j : Nat))))) mh = _
        generalize (lo1.set 7 none).set 7 (some (.d (.int (j : Nat)))) = lo3 at h7 ⊢
        unfold lnD sL
        simp [-getElem?_pos, h7, c1]⟩
    have ek := kLen_q (List.range M) (by rw [List.length_range]; omega) mh fun k => lnD ⟨lt k, "in", []⟩
    have f1 := frzL_d (mh := mh) ((List.range M).map fun k => lnD ⟨lt k, "in", []⟩)
    have hins : ins.map lnD = (List.range M).map fun k => lnD ⟨lt k, "in", []⟩ := by simp only [ins]; rw [List.map_map]; rfl
    rw [sSet_ap, mFrz_ap, mLC_ap, hi, Res.bind_ok, kLC_ap, wipeL_cons, wipeL_nil, e2, Res.bind_ok, ek, Res.bind_ok, f1, ofR_ok, kSet_ap, ← hins]
  have wi := strs_ix (l := ["add", "times", "least", "greatest"]) hp mh
  have hw : ∀ q, q < 4 → t_NEEDS.lookup ((["add", "times", "least", "greatest"] : List Str).getD q "") = some (2 : Int) := by decide +kernel
  have hw := hw p hp
  generalize hu : (["add", "times", "least", "greatest"] : List Str).getD p "" = W at wi hw
  let nms0 : List Str := (List.range M).map lt
  let lo3 : Lo := ((lo2.set 4 (some (.d (.list (nms0.map .str))))).set 5 (some (.d (.int 0)))).set 6 (some (.d (.str W)))
  have p2 : (sTg (.tp [(.nm 4), (.nm 5), (.nm 6)]) (mTup (aCons (mFrz (mLC (iSeq (mV 3)) (.nm 13) bYes (bind2 (mV 13) (mC (.int 0)) oIxA) [13])) (aCons (mC (.int 0)) (aCons (bind2 (mFrz (lDisp (aCons (mC (.str "add")) (aCons (mC (.str "times")) (aCons (mC (.str "least")) (aCons (mC (.str "greatest")) aNil)))))) (bind2 (mCB nInt (aCons (bind2 (mV 0) (mC (.int 1)) oIxA) aNil)) (mC (.int 4)) oModI) oIxA) aNil))))) lo2 mh = .nx lo3 mh := by
    have h0 : lo2[0]? = some (some (.d (.list (ds.map .int)))) := rfl
    have h3 : lo2[3]? = some (some (.d (.list (ins.map lnD)))) := rfl
    have hl2 : lo2.length = 15 := rfl
    have hs : iSeq (mV 3) lo2 mh = .ok ((ins.map lnD).map .d, always) mh := by simp [-getElem?_pos, h3]
    have e2 : lcL always (.nm 13) bYes (bind2 (mV 13) (mC (.int 0)) oIxA) (lo2.set 13 none) ((ins.map lnD).map .d) mh = .ok ((ins.map fun l => PyData.str l.nm).map .d) mh :=
      lcL_d ins lnD (fun l => PyData.str l.nm) trivial fun l hl => ⟨_, rfl, by
        have h13 : ((lo2.set 13 none).set 13 (some (.d (lnD l))))[13]? = some (some (.d (lnD l))) := by rw [List.getElem?_set_self (by simp [hl2])]
        show (bind2 (mV 13) (mC (.int 0)) oIxA) ((lo2.set 13 none).set 13 (some (.d (lnD l)))) mh = _
        generalize (lo2.set 13 none).set 13 (some (.d (lnD l))) = lo4 at h13 ⊢
        unfold lnD at h13
        simp [-getElem?_pos, h13]⟩
    have ek := kLen_q ins (by simp [ins]; omega) mh fun l => PyData.str l.nm
    have f1 := frzL_d (mh := mh) (ins.map fun l => PyData.str l.nm)
    have hn : (ins.map fun l => PyData.str l.nm) = nms0.map .str := by simp only [ins, nms0]; rw [List.map_map, List.map_map]; rfl
    have eA : ((mFrz (mLC (iSeq (mV 3)) (.nm 13) bYes (bind2 (mV 13) (mC (.int 0)) oIxA) [13]))) lo2 mh = .ok (.d (.list (nms0.map .str))) mh := by
      rw [mFrz_ap, mLC_ap, hs, Res.bind_ok, kLC_ap, wipeL_cons, wipeL_nil, e2, Res.bind_ok, ek, Res.bind_ok, f1, hn]
    have eC : ((bind2 (mFrz (lDisp (aCons (mC (.str "add")) (aCons (mC (.str "times")) (aCons (mC (.str "least")) (aCons (mC (.str "greatest")) aNil)))))) (bind2 (mCB nInt (aCons (bind2 (mV 0) (mC (.int 1)) oIxA) aNil)) (mC (.int 4)) oModI) oIxA)) lo2 mh = .ok (.d (.str W)) mh := by
      have hd : (mFrz (lDisp (aCons (mC (.str "add")) (aCons (mC (.str "times")) (aCons (mC (.str "least")) (aCons (mC (.str "greatest")) aNil)))))) lo2 mh = .ok (.d (.list ((["add", "times", "least", "greatest"] : List Str).map .str))) mh := rfl
      generalize hE : (["add", "times", "least", "greatest"] : List Str).map PyData.str = ws at wi hd
      generalize (mFrz (lDisp (aCons (mC (.str "add")) (aCons (mC (.str "times")) (aCons (mC (.str "least")) (aCons (mC (.str "greatest")) aNil)))))) = mf at hd ⊢
      generalize lo2 = lo4 at h0 hd ⊢
      simp [-getElem?_pos, -List.map_map, h0, hd, i1, m1, wi]
    have eB : (mC (.int 0)) lo2 mh = .ok (.d (.int 0)) mh := rfl
    rw [sTg_ap, mTup_ap, aCons_ap, eA, Res.bind_ok, ka1_ap, aCons_ap, eB, Res.bind_ok, ka1_ap, aCons_ap, eC, Res.bind_ok, ka1_ap, aNil_ap, Res.bind_ok, ka2_ap, Res.bind_ok, ka2_ap, Res.bind_ok, ka2_ap, Res.bind_ok]
    rfl
  have L3 : TV ds M W ins nms0 0 lo3 := ⟨rfl, rfl, rfl, rfl, rfl, rfl, rfl⟩
  have S3 : TS ins nms0 M 0 0 := TS.ini (by omega) hM6
  obtain ⟨lo4, ls4, ps4, c4, e4, L4, S4, hc4⟩ := w_loop (mh := mh) hw hl hin hM6 (List.range (3 * M)) lo3 ins nms0 0 (fun k hk => by have := List.mem_range.mp hk; omega) (by rw [List.length_range]; omega) L3 S3
  have p3 : (sFor (iRg1 (aCons (bind2 (mC (.int 3)) (mV 2) oMulY) aNil)) (.nm 7) l__law_tree_2) lo3 mh = .nx lo4 mh := by
    have hmul : oMulY (.d (.int 3)) (.d (.int (M : Nat))) mh = .ok (.d (.int (3 * (M : Nat)))) mh := oMulY_i (.inl ⟨by omega, by omega⟩)
    have h2 := L3.h2
    have hi : iRg1 (aCons (bind2 (mC (.int 3)) (mV 2) oMulY) aNil) lo3 mh = .ok ((List.range (3 * M)).map fun i : Nat => PV.d (.int (i : Nat)), always) mh := iRg1_n (n := 3 * M) (by omega) (by
      generalize lo3 = lo5 at h2 ⊢
      rw [show ((3 * M : Nat) : Int) = 3 * (M : Int) by omega]
      simp [-getElem?_pos, h2, hmul])
    rw [sFor_ap, hi, ofR_ok]; exact e4
  have q1 := S4.p1
  have q6 := S4.p6
  obtain ⟨lo5, ls5, ps5, e5, L5, S5⟩ := x_loop (mh := mh) hM6 hc4 (ps4.length - 1) 0 lo4 ls4 ps4 (by omega) L4 S4 (by omega)
  have p4 : (sFor (iRg1 (aCons (bind2 (mCB nLen (aCons (mV 4) aNil)) (mC (.int 1)) oSubI) aNil)) (.nm 7) l__law_tree_1) lo4 mh = .nx lo5 mh := by
    have h4 := L4.h4
    have hn := nLen_ps q6 mh
    have hi : iRg1 (aCons (bind2 (mCB nLen (aCons (mV 4) aNil)) (mC (.int 1)) oSubI) aNil) lo4 mh = .ok ((List.range (ps4.length - 1)).map fun i : Nat => PV.d (.int (i : Nat)), always) mh := iRg1_n (n := ps4.length - 1) (by omega) (by
      rw [show ((ps4.length - 1 : Nat) : Int) = (ps4.length : Int) - 1 by omega]
      generalize List.map PyData.str ps4 = pd at h4 hn
      simp [-getElem?_pos, h4, hn])
    rw [sFor_ap, hi, ofR_ok, List.range_eq_range']; exact e5
  have r1 := S5.p1
  have hlen := S5.len
  refine ⟨⟨ls5, [ps5[0]]⟩, S5.tx (by omega) (by omega) (List.getElem_mem _), ?_⟩
  have p5 : (sRet (mTup (aCons (mCB nTuple (aCons (mV 3) aNil)) (aCons (mTup (aCons (bind2 (mV 4) (mC (.int 0)) oIxA) aNil)) aNil)))) lo5 mh = .rt (.d (txD ⟨ls5, [ps5[0]]⟩)) mh := by
    have h3 := L5.h3
    have h4 := L5.h4
    have pa : oIxA (.d (.list (ps5.map .str))) (.d (.int 0)) mh = .ok (.d (.str ps5[0])) mh := ps_ix (a := 0) (by omega) mh
    unfold txD lsD gsD sL
    generalize List.map PyData.str ps5 = pd at h4 pa
    generalize ls5.map lnD = ll at h3 ⊢
    simp [-getElem?_pos, h3, h4, pa]
  unfold m__law_tree dM b__law_tree
  show (match (sSeq _ _) lo0 mh with | _ => _) = _
  rw [sSeq_ap, p0, sq_nx, sSeq_ap, p1, sq_nx, sSeq_ap, p2, sq_nx, sSeq_ap, p3, sq_nx, sSeq_ap, p4, sq_nx, sSeq_ap, p5]
  rfl
end
end K70


set_option Elab.async false
set_option linter.all false
set_option maxRecDepth 100000
set_option maxHeartbeats 4000000
namespace K70
open PySem EL
theorem goT_snoc {x : PyData} : ∀ {xs : List PyData} {T H H' : Tx} {k : Nat}, goT xs T k = .inr H → turnV H x = some H' → goT (xs ++ [x]) T k = .inr H'
  | [], T, H, H', k, h, hx => by
    cases h
    show (match turnV T x with | none => _ | some T' => _) = _
    rw [hx]; rfl
  | y :: ys, T, H, H', k, h, hx => by
    have h : (match turnV T y with
      | none => Sum.inl k
      | some T' => goT ys T' (k + 1)) = .inr H := h
    show (match turnV T y with
      | none => Sum.inl k
      | some T' => goT (ys ++ [x]) T' (k + 1)) = .inr H'
    cases e : turnV T y with
    | none => rw [e] at h; cases h
    | some T' => rw [e] at h; exact goT_snoc h hx
/-- the law, under way: the text, its names, the text now, the steps -/
structure LY (T H : Tx) (ss : List PyData) (ds : List Int) (turn : Nat) (lo : Lo) : Prop where
  l : lo.length = 20
  h1 : lo[1]? = some (some (.d (.list (ds.map .int))))
  h2 : lo[2]? = some (some (.d (.int (turn : Nat))))
  h3 : lo[3]? = some (some (.d (txD T)))
  h4 : lo[4]? = some (some (.d (.list ((nms T.ls).map .str))))
  h5 : lo[5]? = some (some (.d (txD H)))
  h6 : lo[6]? = some (some (.d (.tuple ss)))
/-- steps done -/
structure SY (T H : Tx) (ss : List PyData) (i : Nat) : Prop where
  t : TOk H
  p : ∀ x, x ∈ ss → Pl 3 x
  b : ss.all stepB = true
  g : goT ss T 0 = .inr H
  n : ss.length ≤ i
section
variable {T H : Tx} {ss : List PyData} {ds own : List Int} {turn k i : Nat} {lo : Lo} {mh : Mh}
theorem LY.set (L : LY T H ss ds turn lo) {i : Nat} (hi : 7 ≤ i) (v : Option PV) : LY T H ss ds turn (lo.set i v) :=
  ⟨by simp [L.l], by rw [List.getElem?_set_ne (by omega)]; exact L.h1, by rw [List.getElem?_set_ne (by omega)]; exact L.h2, by rw [List.getElem?_set_ne (by omega)]; exact L.h3, by rw [List.getElem?_set_ne (by omega)]; exact L.h4, by rw [List.getElem?_set_ne (by omega)]; exact L.h5, by rw [List.getElem?_set_ne (by omega)]; exact L.h6⟩
def ownY (ds : List Int) (turn k : Nat) : List Int := (List.range 2).map fun j => dr ds ((220 + 3 * k + j + 29 * turn) % 400)
theorem ownY_in (h : inR ds) (turn k : Nat) : inR (ownY ds turn k) := fun x hx => by
  obtain ⟨j, -, rfl⟩ := List.mem_map.mp hx
  exact dr_r h _
theorem ownY_len (ds : List Int) (turn k : Nat) : (ownY ds turn k).length = 2 := by unfold ownY; simp
theorem y0 (L : LY T H ss ds turn lo) (hd : ds.length = 400) (htn : turn < 5) (hk : k < 8) (h7 : lo[7]? = some (some (.d (.int (k : Nat))))) :
    (sSet 8 (mFrz (mLC (iRg1 (aCons (mC (.int 2)) aNil)) (.nm 18) bYes (mCB nInt (aCons (bind2 (mV 1) (bind2 (bind2 (bind2 (bind2 (mC (.int 220)) (bind2 (mC (.int 3)) (mV 7) oMulY) oAdd) (mV 18) oAdd) (bind2 (mC (.int 29)) (mV 2) oMulY) oAdd) (mC (.int 400)) oModI) oIxA) aNil)) [18]))) lo mh = .nx (lo.set 8 (some (.d (.list ((ownY ds turn k).map .int))))) mh := by
  have hi : ∀ lo mh, iRg1 (aCons (mC (.int 2)) aNil) lo mh = .ok (((List.range 2).map fun i : Nat => PyData.int (i : Nat)).map .d, always) mh := fun lo mh => by rw [iRg1_n (n := 2) (by omega) rfl, map_d]
  have m1 : ∀ mh, oMulY (.d (.int 3)) (.d (.int (k : Nat))) mh = .ok (.d (.int (3 * (k : Nat)))) mh := fun mh => oMulY_i (.inl ⟨by omega, by omega⟩)
  have m2 : ∀ mh, oMulY (.d (.int 29)) (.d (.int (turn : Nat))) mh = .ok (.d (.int (29 * (turn : Nat)))) mh := fun mh => oMulY_i (.inl ⟨by omega, by omega⟩)
  have hll := L.l
  have e2 : lcL always (.nm 18) bYes ((mCB nInt (aCons (bind2 (mV 1) (bind2 (bind2 (bind2 (bind2 (mC (.int 220)) (bind2 (mC (.int 3)) (mV 7) oMulY) oAdd) (mV 18) oAdd) (bind2 (mC (.int 29)) (mV 2) oMulY) oAdd) (mC (.int 400)) oModI) oIxA) aNil))) (lo.set 18 none) (((List.range 2).map fun i : Nat => PyData.int (i : Nat)).map .d) mh = .ok (((List.range 2).map fun j => PyData.int (dr ds ((220 + 3 * k + j + 29 * turn) % 400))).map .d) mh :=
    lcL_d (List.range 2) _ _ trivial fun j hj => ⟨_, rfl, by
      have hj := List.mem_range.mp hj
      obtain ⟨z, hz⟩ : ∃ z, z = (220 + 3 * k + j + 29 * turn) % 400 := ⟨_, rfl⟩
      have i1 := ix_dr (ds := ds) (i := z) (by rw [hz, hd]; exact Nat.mod_lt _ (by decide)) mh
      have m3 : oModI (.d (.int (220 + 3 * (k : Int) + (j : Int) + 29 * (turn : Int)))) (.d (.int 400)) mh = .ok (.d (.int (z : Nat))) mh := by
        rw [oModI_ok (by decide), hz]
        congr 3
      have g1 : ((lo.set 18 none).set 18 (some (.d (.int (j : Nat)))))[1]? = some (some (.d (.list (ds.map .int)))) := by rw [List.getElem?_set_ne (by omega), List.getElem?_set_ne (by omega)]; exact L.h1
      have g2 : ((lo.set 18 none).set 18 (some (.d (.int (j : Nat)))))[2]? = some (some (.d (.int (turn : Nat)))) := by rw [List.getElem?_set_ne (by omega), List.getElem?_set_ne (by omega)]; exact L.h2
      have g7 : ((lo.set 18 none).set 18 (some (.d (.int (j : Nat)))))[7]? = some (some (.d (.int (k : Nat)))) := by rw [List.getElem?_set_ne (by omega), List.getElem?_set_ne (by omega)]; exact h7
      have g18 : ((lo.set 18 none).set 18 (some (.d (.int (j : Nat)))))[18]? = some (some (.d (.int (j : Nat)))) := by rw [List.getElem?_set_self (by simp [hll])]
      show ((mCB nInt (aCons (bind2 (mV 1) (bind2 (bind2 (bind2 (bind2 (mC (.int 220)) (bind2 (mC (.int 3)) (mV 7) oMulY) oAdd) (mV 18) oAdd) (bind2 (mC (.int 29)) (mV 2) oMulY) oAdd) (mC (.int 400)) oModI) oIxA) aNil))) ((lo.set 18 none).set 18 (some (.d (.int (j : Nat))))) mh = .ok (.d (.int (dr ds ((220 + 3 * k + j + 29 * turn) % 400)))) mh
      rw [← hz]
      generalize (lo.set 18 none).set 18 (some (.d (.int (j : Nat)))) = lo2 at g1 g2 g7 g18 ⊢
      simp [-getElem?_pos, -List.map_map, g1, g2, g7, g18, m1, m2, m3, i1]⟩
  have ek : kLen (((List.range 2).map fun j => PyData.int (dr ds ((220 + 3 * k + j + 29 * turn) % 400))).map .d) mh = .ok (((List.range 2).map fun j => PyData.int (dr ds ((220 + 3 * k + j + 29 * turn) % 400))).map .d) mh := kLen_s _ (by decide) _ _
  have ef := frzL_d (mh := mh) ((List.range 2).map fun j => PyData.int (dr ds ((220 + 3 * k + j + 29 * turn) % 400)))
  have ho : (ownY ds turn k).map PyData.int = (List.range 2).map fun j => PyData.int (dr ds ((220 + 3 * k + j + 29 * turn) % 400)) := by unfold ownY; rw [List.map_map]; rfl
  rw [sSet_ap, mFrz_ap, mLC_ap, hi, Res.bind_ok, kLC_ap, wipeL_cons, wipeL_nil, e2, Res.bind_ok, ek, Res.bind_ok, ef, ofR_ok, kSet_ap, ho]
theorem y1 (L : LY T H ss ds turn lo) (hT : TOk T) (ho : own.length = 2) (hr : inR own) (h8 : lo[8]? = some (some (.d (.list (own.map .int))))) :
    ∃ s n, s ∈ (["swap", "left"] : List Str) ∧ n ∈ nms T.ls ∧ (sSet 9 (mTup (aCons (bind2 (mFrz (lDisp (aCons (mC (.str "swap")) (aCons (mC (.str "left")) aNil)))) (bind2 (bind2 (mV 8) (mC (.int 0)) oIxA) (mC (.int 2)) oModI) oIxA) (aCons (bind2 (mV 4) (bind2 (bind2 (mV 8) (mC (.int 1)) oIxA) (mCB nLen (aCons (mV 4) aNil)) oModI) oIxA) aNil)))) lo mh = .nx (lo.set 9 (some (.d (.tuple [.str s, .str n])))) mh := by
  have hln : (nms T.ls).length = T.ls.length := by unfold nms; simp
  have h60 := hT.n60
  have h1 := hT.n1
  obtain ⟨q, -, hq, m1⟩ := md hr 0 (m := 2) (by omega)
  obtain ⟨p, -, hp, m2⟩ := md hr 1 (m := (nms T.ls).length) (by omega)
  have m1 := m1 mh
  have m2 := m2 mh
  rw [show ((2 : Nat) : Int) = 2 from rfl] at m1
  have i0 : oIxA (.d (.list (own.map .int))) (.d (.int 0)) mh = .ok (.d (.int (dr own 0))) mh := ix_dr (i := 0) (by omega) mh
  have i1 : oIxA (.d (.list (own.map .int))) (.d (.int 1)) mh = .ok (.d (.int (dr own 1))) mh := ix_dr (i := 1) (by omega) mh
  have wi := strs_ix (l := ["swap", "left"]) hq mh
  have wn := strs_ix (l := nms T.ls) hp mh
  have hs : ∀ q, q < 2 → (["swap", "left"] : List Str).getD q "" ∈ (["swap", "left"] : List Str) := by decide +kernel
  have hs := hs q hq
  have hn : (nms T.ls).getD p "" ∈ nms T.ls := by
    rw [List.getD_eq_getElem?_getD, List.getElem?_eq_getElem hp]; exact List.getElem_mem _
  have nl : nLen [.d (.list ((nms T.ls).map .str))] mh = .ok (.d (.int ((nms T.ls).length : Nat))) mh := by simp
  have h4 := L.h4
  generalize (["swap", "left"] : List Str).getD q "" = s at wi hs
  generalize (nms T.ls).getD p "" = n at wn hn
  refine ⟨s, n, hs, hn, ?_⟩
  have hd : (mFrz (lDisp (aCons (mC (.str "swap")) (aCons (mC (.str "left")) aNil)))) lo mh = .ok (.d (.list ((["swap", "left"] : List Str).map .str))) mh := rfl
  generalize (["swap", "left"] : List Str).map PyData.str = ws at wi hd
  generalize (mFrz (lDisp (aCons (mC (.str "swap")) (aCons (mC (.str "left")) aNil)))) = mf at hd ⊢
  generalize (nms T.ls).map PyData.str = pd at h4 wn nl
  generalize ((nms T.ls).length : Int) = pl at nl m2
  simp [-getElem?_pos, -List.map_map, h4, h8, hd, i0, i1, m1, m2, wi, wn, nl]
end
end K70


set_option Elab.async false
set_option linter.all false
set_option maxRecDepth 100000
set_option maxHeartbeats 4000000
namespace K70
open PySem EL
section
variable {T H : Tx} {ss : List PyData} {ds own : List Int} {turn k i : Nat} {lo : Lo} {mh : Mh}
theorem y_step (L : LY T H ss ds turn lo) (S : SY T H ss i) (hT : TOk T) (hin : inR ds) (hd : ds.length = 400) (htn : turn < 5) (hk : k < 8) (hi : i < 8) (h7 : lo[7]? = some (some (.d (.int (k : Nat))))) :
    ∃ lo' H' ss', l_law_4 lo mh = .nx lo' mh ∧ LY T H' ss' ds turn lo' ∧ SY T H' ss' (i + 1) := by
  have hll := L.l
  have p0 := y0 (mh := mh) L hd htn hk h7
  let lo1 : Lo := lo.set 8 (some (.d (.list ((ownY ds turn k).map .int))))
  have L1 : LY T H ss ds turn lo1 := L.set (by omega) _
  have hl1 := L1.l
  have a8 : lo1[8]? = some (some (.d (.list ((ownY ds turn k).map .int)))) := by simp only [lo1]; rw [List.getElem?_set_self (by omega)]
  obtain ⟨s, n, hs, hn, p1⟩ := y1 (mh := mh) L1 hT (ownY_len _ _ _) (ownY_in hin _ _) a8
  let sp : PyData := .tuple [.str s, .str n]
  let lo2 : Lo := lo1.set 9 (some (.d sp))
  have L2 : LY T H ss ds turn lo2 := L1.set (by omega) _
  have hl2 := L2.l
  have b9 : lo2[9]? = some (some (.d sp)) := by simp only [lo2]; rw [List.getElem?_set_self (by omega)]
  have c0 := kCall_d0 (n := 2) (vs := [.d (txD H), .d sp]) rfl (turned_v S.t s n mh)
  let lo3 : Lo := lo2.set 10 (some (.d (optD (turnT H s n))))
  have L3 : LY T H ss ds turn lo3 := L2.set (by omega) _
  have hl3 := L3.l
  have p2 : (sSet 10 (mCall 2 m__law_turned (aCons (mV 5) (aCons (mV 9) aNil)))) lo2 mh = .nx lo3 mh := by
    simp only [lo3]
    have h5 := L2.h5
    generalize lo2 = lo4 at h5 b9 ⊢
    simp [-getElem?_pos, h5, b9, c0]
  have d9 : lo3[9]? = some (some (.d sp)) := by simp only [lo3]; rw [List.getElem?_set_ne (by omega)]; exact b9
  have d10 : lo3[10]? = some (some (.d (optD (turnT H s n)))) := by simp only [lo3]; rw [List.getElem?_set_self (by omega)]
  cases ht : turnT H s n with
  | none =>
    rw [ht] at d10
    have p3 : (sIf (mB (bind2 (mV 10) (mC .none) (isNone true))) (sSeq (sPar [5, 6] (aCons (mV 10) (aCons (bind2 (mV 6) (mTup (aCons (mV 9) aNil)) oAdd) aNil))) (sSeq (sIf (bOr (mB (bind2 (mCall 2 m_turned (aCons (mV 3) (aCons (mV 6) aNil))) (mV 5) oNe)) (mB (bind2 (mCall 1 m_text_fault (aCons (mV 5) aNil)) (mC .none) (isNone true)))) (sSeq (sRet (mC (.bool false))) sNil) sNil) sNil)) sNil) lo3 mh = .nx lo3 mh := by
      generalize lo3 = lo4 at d10 ⊢
      simp [-getElem?_pos, d10, optD, pvN]
    refine ⟨lo3, H, ss, ?_, L3, ⟨S.t, S.p, S.b, S.g, by have := S.n; omega⟩⟩
    unfold l_law_4
    rw [sSeq_ap, p0, sq_nx, sSeq_ap, p1, sq_nx, sSeq_ap, p2, sq_nx, sSeq_ap, p3]; rfl
  | some H' =>
    rw [ht] at d10
    have hH := (turn_ok S.t ht).1
    have hsb : stepB sp = true := stepB_iff.mpr ⟨s, n, rfl, hs⟩
    have hsl : s.length ≤ 100 := by
      have : ∀ s, s ∈ (["swap", "left"] : List Str) → s.length ≤ 100 := by decide +kernel
      exact this s hs
    have hnl : n.length ≤ 100 := by
      have := (hT.ls.nmOk hn).l8
      omega
    have S' : SY T H' (ss ++ [sp]) (i + 1) := by
      refine ⟨hH, fun x hx => ?_, ?_, goT_snoc S.g ht, by have := S.n; simp; omega⟩
      · rcases List.mem_append.mp hx with hx | hx
        · exact S.p x hx
        · rw [List.mem_singleton.mp hx]
          refine .tuple (by simp) fun y hy => ?_
          simp only [List.mem_cons, List.not_mem_nil, or_false] at hy
          rcases hy with rfl | rfl
          · exact .str 1 hsl
          · exact .str 1 hnl
      · rw [List.all_append, S.b, List.all_cons, hsb]; rfl
    let lo4 : Lo := (lo3.set 5 (some (.d (txD H')))).set 6 (some (.d (.tuple (ss ++ [sp]))))
    have L4 : LY T H' (ss ++ [sp]) ds turn lo4 := ⟨by simp [lo4, hl3], by simp only [lo4]; rw [List.getElem?_set_ne (by omega), List.getElem?_set_ne (by omega)]; exact L3.h1, by simp only [lo4]; rw [List.getElem?_set_ne (by omega), List.getElem?_set_ne (by omega)]; exact L3.h2, by simp only [lo4]; rw [List.getElem?_set_ne (by omega), List.getElem?_set_ne (by omega)]; exact L3.h3, by simp only [lo4]; rw [List.getElem?_set_ne (by omega), List.getElem?_set_ne (by omega)]; exact L3.h4, by simp only [lo4]; rw [List.getElem?_set_ne (by omega), List.getElem?_set_self (by omega)], by simp only [lo4]; rw [List.getElem?_set_self (by simp; omega)]⟩
    have hsn := S'.n
    have hp4 : Pl 4 (.tuple (ss ++ [sp])) := .tuple (by omega) S'.p
    have c1 := kCall_d0 (n := 2) (vs := [.d (txD T), .d (.tuple (ss ++ [sp]))]) rfl (turned_ok (n := 1) hT hp4 S'.b S'.g mh)
    have hne := oNe_same (mh := mh) (txD_gd H') (by omega)
    obtain ⟨gb, e2⟩ := text_fault_v hH mh
    have c2 := kCall_d (n := 1) (vs := [.d (txD H')]) rfl e2
    have A := add_t (a := ss) (b := [sp]) (by have := S.n; simp; omega) mh
    have hq : pvNone (.d (optD (some H'))) = false := by rw [pvNone_o]; rfl
    have ho : optD (some H') = txD H' := rfl
    rw [ho] at d10 hq
    have hc : ((mB (bind2 (mV 10) (mC .none) (isNone true)))) lo3 mh = .ok true mh := by
      generalize lo3 = lo5 at d10 ⊢
      generalize txD H' = y at d10 hq ⊢
      simp [-getElem?_pos, d10, hq]
    have q0 : (sPar [5, 6] (aCons (mV 10) (aCons (bind2 (mV 6) (mTup (aCons (mV 9) aNil)) oAdd) aNil))) lo3 mh = .nx lo4 mh := by
      simp only [lo4]
      have h6 := L3.h6
      generalize lo3 = lo5 at d10 d9 h6 ⊢
      generalize txD H' = y at d10 ⊢
      generalize sp = z at d9 A ⊢
      simp [-getElem?_pos, d10, d9, h6, A]
    have q1 : (sIf (bOr (mB (bind2 (mCall 2 m_turned (aCons (mV 3) (aCons (mV 6) aNil))) (mV 5) oNe)) (mB (bind2 (mCall 1 m_text_fault (aCons (mV 5) aNil)) (mC .none) (isNone true)))) (sSeq (sRet (mC (.bool false))) sNil) sNil) lo4 mh = .nx lo4 mh := by
      have h3 := L4.h3
      have h5 := L4.h5
      have h6 := L4.h6
      generalize lo4 = lo5 at h3 h5 h6 ⊢
      generalize txD H' = y at *
      generalize txD T = t at *
      generalize ss ++ [sp] = zs at *
      simp [-getElem?_pos, -oNe_ap, h3, h5, h6, c1, hne, c2, pvN]
    refine ⟨lo4, H', ss ++ [sp], ?_, L4, S'⟩
    unfold l_law_4
    rw [sSeq_ap, p0, sq_nx, sSeq_ap, p1, sq_nx, sSeq_ap, p2, sq_nx, sSeq_ap, sIf_ap, hc, ofR_ok, kSIf_t, sSeq_ap, q0, sq_nx, sSeq_ap, q1]; rfl
theorem y_loop (hT : TOk T) (hin : inR ds) (hd : ds.length = 400) (htn : turn < 5) : ∀ (l : List Nat) (i : Nat) (lo : Lo) (H : Tx) (ss : List PyData), (∀ k, k ∈ l → k < 8) → i + l.length ≤ 8 → LY T H ss ds turn lo → SY T H ss i →
    ∃ lo' H' ss', forL always (.nm 7) l_law_4 (l.map fun k : Nat => PV.d (.int (k : Nat))) lo mh = .nx lo' mh ∧ LY T H' ss' ds turn lo' ∧ SY T H' ss' (i + l.length)
  | [], i, lo, H, ss, _, _, L, S => ⟨lo, H, ss, forL_z trivial, L, S⟩
  | k :: l, i, lo, H, ss, hk, hi, L, S => by
    rw [List.length_cons] at hi
    obtain ⟨lo', H', ss', e, L', S'⟩ := y_step (mh := mh) (lo := lo.set 7 (some (.d (.int (k : Nat))))) (L.set (by omega) _) S hT hin hd htn (hk k (by simp)) (by omega) (by rw [List.getElem?_set_self (by rw [L.l]; omega)])
    obtain ⟨lo2, H2, ss2, e2, L2, S2⟩ := y_loop hT hin hd htn l (i + 1) lo' H' ss' (fun x hx => hk x (by simp [hx])) (by omega) L' S'
    refine ⟨lo2, H2, ss2, ?_, L2, by rw [List.length_cons, show i + (l.length + 1) = i + 1 + l.length by omega]; exact S2⟩
    rw [List.map_cons, forL_c trivial (tgt_nm 7) (.inl e)]
    exact e2
end
end K70


set_option Elab.async false
set_option linter.all false
set_option maxRecDepth 100000
set_option maxHeartbeats 4000000
namespace K70
open PySem EL
section
variable {T : Tx} {ds : List Int} {lo : Lo} {mh : Mh} {n : Nat} {v a b c d w : PyData}
/-! ### the law's errors -/
theorem le1_n (h : m_turned [.d a, .d b] mh = .ok (.d w) mh) : m__law_error [.d (.int 1), .d a, .d b] mh = .ok (.d (.str "none")) mh := by
  unfold m__law_error dM b__law_error
  have e := kCall_d0 (n := 2) (vs := [.d a, .d b]) rfl h
  simp [startL, e, fin, grR, trR, PyData.depth, eqv_int]
theorem le1_x (h : m_turned [.d a, .d b] mh = .exc 3 mh) : m__law_error [.d (.int 1), .d a, .d b] mh = .ok (.d (.str "steps")) mh := by
  unfold m__law_error dM b__law_error
  have e := kCx0 (n := 2) (vs := [.d a, .d b]) rfl h
  simp [startL, e, fin, grR, trR, hdL, PyData.depth, eqv_int]
/-- None, the empty tuple -/
theorem check_bad (ha : a = .none ∨ a = .tuple []) (mh : Mh) : m_check_text [.d a] mh = .exc 1 mh := by
  have h : m_text_fault [.d a] mh = .ok (.d (.tuple [.str "form"])) mh := by
    unfold m_text_fault dM b_text_fault
    rcases ha with rfl | rfl
    · simp [startL, kIsi, pvTy, tyIs, fin]
    · simp [startL, kIsi, pvTy, tyIs, fin, PyData.depth, eqv_int]
  unfold m_check_text dM b_check_text
  have e := kCall_d0 (n := 1) (vs := [.d a]) rfl h
  simp [startL, e, fin, pvNone_d, isNon]
theorem le_bad {i : Nat} (hi : i < 4) (ha : a = .none ∨ a = .tuple []) (mh : Mh) : m__law_error [.d (.int (i : Nat)), .d a, .d .none] mh = .ok (.d (.str "making")) mh := by
  have c0 := kCx0 (n := 1) (vs := [.d a]) rfl (check_bad ha mh)
  have h1 : m_turns_fault [.d a, .d .none] mh = .exc 1 mh := by
    unfold m_turns_fault dM b_turns_fault
    simp [startL, c0, fin]
  have e1 := kCx0 (n := 2) (vs := [.d a, .d .none]) rfl h1
  have h2 : m_turned [.d a, .d .none] mh = .exc 1 mh := by
    unfold m_turned dM b_turned
    simp [startL, e1, fin]
  have e2 := kCx0 (n := 2) (vs := [.d a, .d .none]) rfl h2
  have h3 : m_check_tree [.d a] mh = .exc 1 mh := by
    unfold m_check_tree dM b_check_tree
    simp [startL, c0, fin]
  have e3 := kCx0 (n := 1) (vs := [.d a]) rfl h3
  have h4 : m_worked [.d a] mh = .exc 1 mh := by
    unfold m_worked dM b_worked
    simp [startL, e3, fin]
  have e4 := kCx0 (n := 1) (vs := [.d a]) rfl h4
  have h5 : m_best_turns [.d a] mh = .exc 1 mh := by
    unfold m_best_turns dM b_best_turns mAttr
    simp [startL, e4, fin]
  have e5 := kCx0 (n := 1) (vs := [.d a]) rfl h5
  have h6 : m_turned_places [.d a] mh = .exc 1 mh := by
    unfold m_turned_places dM b_turned_places
    simp [startL, e4, fin]
  have e6 := kCx0 (n := 1) (vs := [.d a]) rfl h6
  have : i = 0 ∨ i = 1 ∨ i = 2 ∨ i = 3 := by omega
  unfold m__law_error dM b__law_error
  rcases this with rfl | rfl | rfl | rfl
  · simp [startL, e1, fin, grR, trR, hdL, PyData.depth, eqv_int]
  · simp [startL, e2, fin, grR, trR, hdL, PyData.depth, eqv_int]
  · simp [startL, e5, fin, grR, trR, hdL, PyData.depth, eqv_int]
  · simp [startL, e6, fin, grR, trR, hdL, PyData.depth, eqv_int]
/-- a text that is no tree -/
theorem le_tree {i : Nat} (hi : i = 2 ∨ i = 3) (h3 : m_check_tree [.d a] mh = .exc 2 mh) : m__law_error [.d (.int (i : Nat)), .d a, .d .none] mh = .ok (.d (.str "tree")) mh := by
  have e3 := kCx0 (n := 1) (vs := [.d a]) rfl h3
  have h4 : m_worked [.d a] mh = .exc 2 mh := by
    unfold m_worked dM b_worked
    simp [startL, e3, fin]
  have e4 := kCx0 (n := 1) (vs := [.d a]) rfl h4
  have h5 : m_best_turns [.d a] mh = .exc 2 mh := by
    unfold m_best_turns dM b_best_turns mAttr
    simp [startL, e4, fin]
  have e5 := kCx0 (n := 1) (vs := [.d a]) rfl h5
  have h6 : m_turned_places [.d a] mh = .exc 2 mh := by
    unfold m_turned_places dM b_turned_places
    simp [startL, e4, fin]
  have e6 := kCx0 (n := 1) (vs := [.d a]) rfl h6
  unfold m__law_error dM b__law_error
  rcases hi with rfl | rfl
  · simp [startL, e5, fin, grR, trR, hdL, PyData.depth, eqv_int]
  · simp [startL, e6, fin, grR, trR, hdL, PyData.depth, eqv_int]
end
end K70


set_option Elab.async false
set_option linter.all false
set_option maxRecDepth 100000
set_option maxHeartbeats 4000000
namespace K70
open PySem EL
theorem Tf_gd (T : Tx) (v : PyData) : GD 3 (Tf T v) := by
  have hn : GD 3 .none := GD.none 2
  have hf : GD 3 frmD := GD.tuple (GD.cons (GD.str 1 _) GD.nil)
  have hl : ∀ k, GD 3 (stD k) := fun k => GD.tuple (GD.cons (GD.str 1 _) (GD.cons (GD.int 1 _) GD.nil))
  unfold Tf
  split
  · split
    · split
      · exact hl _
      · exact hn
    · exact hf
  · exact hf
structure LP (T : Tx) (ss : List PyData) (ds : List Int) (a : Nat) (lo : Lo) : Prop where
  l : lo.length = 20
  h1 : lo[1]? = some (some (.d (.list (ds.map .int))))
  h3 : lo[3]? = some (some (.d (txD T)))
  h6 : lo[6]? = some (some (.d (.tuple ss)))
  h11 : lo[11]? = some (some (.d (.int (a : Nat))))
section
variable {T H : Tx} {ss : List PyData} {ds own : List Int} {turn k i a : Nat} {lo : Lo} {mh : Mh} {v w : PyData}
theorem LP.set (L : LP T ss ds a lo) {i : Nat} (hi : 12 ≤ i) (v : Option PV) : LP T ss ds a (lo.set i v) :=
  ⟨by simp [L.l], by rw [List.getElem?_set_ne (by omega)]; exact L.h1, by rw [List.getElem?_set_ne (by omega)]; exact L.h3, by rw [List.getElem?_set_ne (by omega)]; exact L.h6, by rw [List.getElem?_set_ne (by omega)]; exact L.h11⟩
theorem le1_v (hT : TOk T) (hp : Pl 4 v) (mh : Mh) : m__law_error [.d (.int 1), .d (txD T), .d v] mh = .ok (.d (.str (if isNon (Tf T v) = true then "none" else "steps"))) mh := by
  cases hn : isNon (Tf T v) with
  | true =>
    rw [if_pos rfl]
    obtain ⟨xs, T', rfl, ha, hg⟩ := Tf_none hn
    exact le1_n (turned_ok (n := 1) hT hp ha hg mh)
  | false =>
    rw [if_neg (by decide)]
    exact le1_x (turned_x (n := 1) hT hp hn mh)
theorem law_2 (hT : TOk T) (hp : Pl 4 v) (L : LP T ss ds a lo) (h14 : lo[14]? = some (some (.d v))) : ∃ lo', l_law_2 lo mh = .nx lo' mh ∧ LP T ss ds a lo' := by
  have hll := L.l
  have c0 := kCall_d0 (n := 2) (vs := [.d (txD T), .d v]) rfl (law_fault_g (n := 1) hT hp mh)
  have c1 := kCall_d0 (n := 2) (vs := [.d (txD T), .d v]) rfl (turns_fault_g (n := 1) hT hp mh)
  have c2 := kCall_d0 (n := 3) (vs := [.d (.int 1), .d (txD T), .d v]) rfl (le1_v hT hp mh)
  let lo1 : Lo := lo.set 15 (some (.d (Tf T v)))
  have L1 : LP T ss ds a lo1 := L.set (by omega) _
  have p0 : (sSet 15 (mCall 2 m__law_fault (aCons (mV 3) (aCons (mV 14) aNil)))) lo mh = .nx lo1 mh := by simp [-getElem?_pos, L.h3, h14, c0, lo1]
  have a14 : lo1[14]? = some (some (.d v)) := by simp only [lo1]; rw [List.getElem?_set_ne (by omega)]; exact h14
  have a15 : lo1[15]? = some (some (.d (Tf T v))) := by simp only [lo1]; rw [List.getElem?_set_self (by omega)]
  have hne := oNe_same (mh := mh) (Tf_gd T v) (by omega)
  have hpn := pvNone_d (Tf T v)
  have p1 : (sIf (bOr (mB (bind2 (mCall 2 m_turns_fault (aCons (mV 3) (aCons (mV 14) aNil))) (mV 15) oNe)) (mB (bind2 (mCall 3 m__law_error (aCons (mC (.int 1)) (aCons (mV 3) (aCons (mV 14) aNil)))) (mIf (mB (bind2 (mV 15) (mC .none) (isNone false))) (mC (.str "none")) (mC (.str "steps"))) oNe))) (sSeq (sRet (mC (.bool false))) sNil) sNil) lo1 mh = .nx lo1 mh := by
    have h3 := L1.h3
    generalize lo1 = lo2 at h3 a14 a15 ⊢
    generalize txD T = t at *
    generalize Tf T v = f at *
    cases hn : isNon f with
    | true =>
      rw [hn, if_pos rfl] at c2
      rw [hn] at hpn
      have hs := oNe_same (mh := mh) (GD.str 1 ("none" : Str)) (by omega)
      simp [-getElem?_pos, -oNe_ap, h3, a14, a15, c1, hne, c2, hpn, hs]
    | false =>
      rw [hn, if_neg (by decide)] at c2
      rw [hn] at hpn
      have hs := oNe_same (mh := mh) (GD.str 1 ("steps" : Str)) (by omega)
      simp [-getElem?_pos, -oNe_ap, h3, a14, a15, c1, hne, c2, hpn, hs]
  refine ⟨lo1, ?_, L1⟩
  unfold l_law_2
  rw [sSeq_ap, p0, sq_nx, sSeq_ap, p1]; rfl
theorem law_1 (hT : TOk T) (hp : Pl 4 v) (L : LP T ss ds a lo) (h14 : lo[14]? = some (some (.d v))) : l_law_1 lo mh = .nx lo mh := by
  have c0 := kCall_d0 (n := 2) (vs := [.d (txD T), .d v]) rfl (law_fault_g (n := 1) hT hp mh)
  have c1 := kCall_d0 (n := 2) (vs := [.d (txD T), .d v]) rfl (turns_fault_g (n := 1) hT hp mh)
  have hne := oNe_same (mh := mh) (Tf_gd T v) (by omega)
  have h3 := L.h3
  unfold l_law_1
  generalize txD T = t at *
  generalize Tf T v = f at *
  simp [-getElem?_pos, -oNe_ap, h3, h14, c1, hne, c0]
theorem law_3 (hT : TOk T) (hs : ∀ x, x ∈ ss → Pl 3 x) (hl : ss.length ≤ 8) (hw : Pl 3 w) (ha : a ≤ ss.length) (L : LP T ss ds a lo) (h13 : lo[13]? = some (some (.d w))) : ∃ lo', l_law_3 lo mh = .nx lo' mh ∧ LP T ss ds a lo' := by
  have hll := L.l
  let v1 : PyData := .tuple (ss.take a ++ [w] ++ ss.drop a)
  let v2 : PyData := .tuple [w]
  have P1 : Pl 4 v1 := .tuple (by simp; omega) fun x hx => by
    simp only [List.mem_append, List.mem_singleton] at hx
    rcases hx with (hx | hx) | hx
    · exact hs x (List.mem_of_mem_take hx)
    · rw [hx]; exact hw
    · exact hs x (List.mem_of_mem_drop hx)
  have P2 : Pl 4 v2 := .tuple (by simp) fun x hx => by rw [List.mem_singleton.mp hx]; exact hw
  have hseq : iSeq ((mTup (aCons (bind2 (bind2 (mSl (mV 6) pNo (pSome (mV 11))) (mTup (aCons (mV 13) aNil)) oAdd) (mSl (mV 6) (pSome (mV 11)) pNo) oAdd) (aCons (mTup (aCons (mV 13) aNil)) aNil)))) lo mh = .ok ([v1, v2].map .d, always) mh := by
    have s1 : (mSl (mV 6) pNo (pSome (mV 11))) lo mh = .ok (.d (.tuple (ss.take a))) mh := by
      have := cut_to ss a
      simp [-getElem?_pos, L.h6, L.h11, this]
    have s2 : (mSl (mV 6) (pSome (mV 11)) pNo) lo mh = .ok (.d (.tuple (ss.drop a))) mh := by
      have := cut_from ss a
      simp [-getElem?_pos, L.h6, L.h11, this]
    have e1 : (mTup (aCons (mV 13) aNil)) lo mh = .ok (.d (.tuple [w])) mh := by simp [-getElem?_pos, h13]
    have A1 := add_t (a := ss.take a) (b := [w]) (by simp; omega) mh
    have A2 := add_t (a := ss.take a ++ [w]) (b := ss.drop a) (by simp; omega) mh
    rw [iSeq_ap, mTup_ap, aCons_ap, bind2_ap, bind2_ap, s1, Res.bind_ok, k2a_ap, e1, Res.bind_ok, k2b_ap, A1, Res.bind_ok, k2a_ap, s2, Res.bind_ok, k2b_ap, A2, Res.bind_ok, ka1_ap, aCons_ap, e1, Res.bind_ok, ka1_ap, aNil_ap, Res.bind_ok, ka2_ap, Res.bind_ok, ka2_ap, Res.bind_ok]
    rfl
  have g14 : ∀ x, ∀ lo : Lo, lo.length = 20 → (lo.set 14 (some (.d x)))[14]? = some (some (.d x)) := fun x lo hl => by rw [List.getElem?_set_self (by omega)]
  obtain ⟨lo1, e1, L1⟩ := law_2 (mh := mh) (lo := lo.set 14 (some (.d v1))) hT P1 (L.set (by omega) _) (g14 _ _ L.l)
  obtain ⟨lo2, e2, L2⟩ := law_2 (mh := mh) (lo := lo1.set 14 (some (.d v2))) hT P2 (L1.set (by omega) _) (g14 _ _ L1.l)
  refine ⟨lo2, ?_, L2⟩
  unfold l_law_3
  rw [sSeq_ap, sFor_ap, hseq, ofR_ok]
  dsimp only
  rw [List.map_cons, forL_c trivial (tgt_nm 14) (.inl e1), List.map_cons, forL_c trivial (tgt_nm 14) (.inl e2), List.map_nil, forL_z trivial]
  rfl
end
end K70


set_option Elab.async false
set_option linter.all false
set_option maxRecDepth 100000
set_option maxHeartbeats 4000000
namespace K70
open PySem EL
structure L0 (ds : List Int) (lo : Lo) : Prop where
  l : lo.length = 20
  h1 : lo[1]? = some (some (.d (.list (ds.map .int))))
section
variable {T H : Tx} {ss : List PyData} {ds own : List Int} {turn k i a : Nat} {lo : Lo} {mh : Mh} {v w : PyData}
theorem drop_in (h : inR ds) (i : Nat) : inR (ds.drop i) := fun x hx => h x (List.mem_of_mem_drop hx)
theorem sl_drop (i : Nat) (mh : Mh) : kSl3 (.d (.list (ds.map .int))) (some (i : Nat)) none mh = .ok (.d (.list ((ds.drop i).map .int))) mh := by
  rw [kSl3_l, cut_from, List.map_drop]
theorem z0 (hin : inR ds) (hd : ds.length = 400) (htn : turn < 5) (L : L0 ds lo) (h2 : lo[2]? = some (some (.d (.int (turn : Nat))))) (mh : Mh) :
    ∃ T, TOk T ∧ (sSet 3 (mIf (mB (bind2 (mV 2) (mC (.int 3)) oLt)) (mCall 2 m__law_tree (aCons (mSl (mV 1) (pSome (bind2 (mC (.int 40)) (mV 2) oMulY)) pNo) (aCons (mC (.int 6)) aNil))) (mCall 2 m__law_text (aCons (mSl (mV 1) (pSome (bind2 (mC (.int 40)) (mV 2) oMulY)) pNo) (aCons (mC (.int 9)) aNil))))) lo mh = .nx (lo.set 3 (some (.d (txD T)))) mh := by
  have m1 : oMulY (.d (.int 40)) (.d (.int (turn : Nat))) mh = .ok (.d (.int (40 * (turn : Nat)))) mh := oMulY_i (.inl ⟨by omega, by omega⟩)
  have s0 := sl_drop (ds := ds) (40 * turn) mh
  rw [show ((40 * turn : Nat) : Int) = 40 * (turn : Int) by omega] at s0
  have h1 := L.h1
  by_cases h3 : turn < 3
  · obtain ⟨T, hT, e⟩ := law_tree_v (ds := ds.drop (40 * turn)) (drop_in hin _) (by rw [List.length_drop]; omega) mh
    have c0 := kCall_d0 (n := 2) (vs := [.d (.list ((ds.drop (40 * turn)).map .int)), .d (.int 6)]) rfl e
    refine ⟨T, hT, ?_⟩
    have h3' : (turn : Int) < 3 := by omega
    generalize txD T = t at *
    generalize (ds.drop (40 * turn)).map PyData.int = dd at *
    simp [-getElem?_pos, -List.map_map, -List.map_drop, -kSl3_l, h1, h2, m1, s0, c0, h3', h3]
  · obtain ⟨T, gb, hT, e⟩ := law_text_v (ds := ds.drop (40 * turn)) (drop_in hin _) (by rw [List.length_drop]; omega) mh
    have c0 := kCall_d (n := 2) (vs := [.d (.list ((ds.drop (40 * turn)).map .int)), .d (.int 9)]) rfl e
    refine ⟨T, hT, ?_⟩
    have h3' : ¬ (turn : Int) < 3 := by omega
    generalize txD T = t at *
    generalize (ds.drop (40 * turn)).map PyData.int = dd at *
    simp [-getElem?_pos, -List.map_map, -List.map_drop, -kSl3_l, h1, h2, m1, s0, c0, h3', h3]
theorem z1 (hT : TOk T) (L : L0 ds lo) (h2 : lo[2]? = some (some (.d (.int (turn : Nat))))) (h3 : lo[3]? = some (some (.d (txD T)))) (mh : Mh) :
    ∃ lo', (sPar [4, 5, 6] (aCons (mFrz (mLC (iSeq (bind2 (mV 3) (mC (.int 0)) oIxA)) (.nm 17) bYes (bind2 (mV 17) (mC (.int 0)) oIxA) [17])) (aCons (mV 3) (aCons (mTup aNil) aNil)))) lo mh = .nx lo' mh ∧ LY T T [] ds turn lo' := by
  have hll := L.l
  have n60 := hT.n60
  have hs : iSeq (bind2 (mV 3) (mC (.int 0)) oIxA) lo mh = .ok ((T.ls.map lnD).map .d, always) mh := by
    have := ls_0 T mh
    have h2 := ls_sq T.ls mh
    simp [-getElem?_pos, h3, this, h2]
  have e2 : lcL always (.nm 17) bYes (bind2 (mV 17) (mC (.int 0)) oIxA) (lo.set 17 none) ((T.ls.map lnD).map .d) mh = .ok ((T.ls.map fun l => PyData.str l.nm).map .d) mh :=
    lcL_d T.ls lnD (fun l => PyData.str l.nm) trivial fun l hl => ⟨_, rfl, by
      have h17 : ((lo.set 17 none).set 17 (some (.d (lnD l))))[17]? = some (some (.d (lnD l))) := by rw [List.getElem?_set_self (by simp [hll])]
      show (bind2 (mV 17) (mC (.int 0)) oIxA) ((lo.set 17 none).set 17 (some (.d (lnD l)))) mh = _
      generalize (lo.set 17 none).set 17 (some (.d (lnD l))) = lo4 at h17 ⊢
      unfold lnD at h17
      simp [-getElem?_pos, h17]⟩
  have ek := kLen_q T.ls (by omega) mh fun l => PyData.str l.nm
  have f1 := frzL_d (mh := mh) (T.ls.map fun l => PyData.str l.nm)
  have hn : (T.ls.map fun l => PyData.str l.nm) = (nms T.ls).map .str := by unfold nms; rw [List.map_map]; rfl
  have eA : ((mFrz (mLC (iSeq (bind2 (mV 3) (mC (.int 0)) oIxA)) (.nm 17) bYes (bind2 (mV 17) (mC (.int 0)) oIxA) [17]))) lo mh = .ok (.d (.list ((nms T.ls).map .str))) mh := by
    rw [mFrz_ap, mLC_ap, hs, Res.bind_ok, kLC_ap, wipeL_cons, wipeL_nil, e2, Res.bind_ok, ek, Res.bind_ok, f1, hn]
  have eB : (mV 3) lo mh = .ok (.d (txD T)) mh := by simp [-getElem?_pos, h3]
  refine ⟨((lo.set 4 (some (.d (.list ((nms T.ls).map .str))))).set 5 (some (.d (txD T)))).set 6 (some (.d (.tuple []))), ?_, ?_⟩
  · rw [sPar_ap, aCons_ap, eA, Res.bind_ok, ka1_ap, aCons_ap, eB, Res.bind_ok, ka1_ap, aCons_ap, mTup_ap, aNil_ap, Res.bind_ok, kTup_0, Res.bind_ok, ka1_ap, aNil_ap, Res.bind_ok, ka2_ap, Res.bind_ok, ka2_ap, Res.bind_ok, ka2_ap, ofR_ok, kPar_3]
  · have g : ∀ i v, i < 4 → (((lo.set 4 (some (.d (.list ((nms T.ls).map .str))))).set 5 (some (.d (txD T)))).set 6 v)[i]? = lo[i]? := fun i v hi => by
      rw [List.getElem?_set_ne (by omega), List.getElem?_set_ne (by omega), List.getElem?_set_ne (by omega)]
    exact ⟨by simp [hll], by rw [g 1 _ (by omega)]; exact L.h1, by rw [g 2 _ (by omega)]; exact h2, by rw [g 3 _ (by omega)]; exact h3, by rw [List.getElem?_set_ne (by omega), List.getElem?_set_ne (by omega), List.getElem?_set_self (by omega)], by rw [List.getElem?_set_ne (by omega), List.getElem?_set_self (by simp; omega)], by rw [List.getElem?_set_self (by simp; omega)]⟩
theorem z3 (hin : inR ds) (hd : ds.length = 400) (htn : turn < 5) (hl : ss.length ≤ 8) (L : LY T H ss ds turn lo) (mh : Mh) :
    ∃ a, a ≤ ss.length ∧ (sSet 11 (bind2 (mCB nInt (aCons (bind2 (mV 1) (bind2 (mC (.int 300)) (mV 2) oAdd) oIxA) aNil)) (bind2 (mCB nLen (aCons (mV 6) aNil)) (mC (.int 1)) oAdd) oModI)) lo mh = .nx (lo.set 11 (some (.d (.int (a : Nat))))) mh := by
  obtain ⟨q, -, hq, m1⟩ := md hin (300 + turn) (m := ss.length + 1) (by omega)
  have m1 := m1 mh
  have i1 := ix_dr (ds := ds) (i := 300 + turn) (by omega) mh
  rw [show ((300 + turn : Nat) : Int) = 300 + (turn : Int) by omega] at i1
  rw [show ((ss.length + 1 : Nat) : Int) = (ss.length : Int) + 1 by omega] at m1
  have nl : nLen [.d (.tuple ss)] mh = .ok (.d (.int (ss.length : Nat))) mh := by simp
  have h1 := L.h1
  have h2 := L.h2
  have h6 := L.h6
  refine ⟨q, by omega, ?_⟩
  generalize (ss.length : Int) = sl at nl m1
  simp [-getElem?_pos, -List.map_map, h1, h2, h6, i1, nl, m1]
end
end K70


set_option Elab.async false
set_option linter.all false
set_option maxRecDepth 100000
set_option maxHeartbeats 4000000
namespace K70
open PySem EL
section
variable {T H : Tx} {ss : List PyData} {ds own : List Int} {turn k i a : Nat} {lo : Lo} {mh : Mh} {v w : PyData}
def wrs (x y : Str) : List PyData := [.none, .tuple [], .tuple [.str "swap"], .tuple [.str "left", .str x], .tuple [.str "swap", .str x], .tuple [.str "left", .str "q"], .tuple [.str "up", .str y], .list [.str "swap", .str y], .tuple [.str "swap", .int 5], .tuple [.str "left", .str y]]
theorem wrs_pl {x y : Str} (hx : x.length ≤ 100) (hy : y.length ≤ 100) : ∀ v, v ∈ wrs x y → Pl 3 v := by
  have hc : ∀ s, s ∈ (["swap", "left", "up", "q"] : List Str) → s.length ≤ 100 := by decide +kernel
  have h2 : ∀ a b : Str, a.length ≤ 100 → b.length ≤ 100 → ∀ z, z ∈ [PyData.str a, .str b] → Pl 2 z := fun a b ha hb z hz => by
    simp only [List.mem_cons, List.not_mem_nil, or_false] at hz
    rcases hz with rfl | rfl
    · exact .str 1 ha
    · exact .str 1 hb
  intro v hv
  simp only [wrs, List.mem_cons, List.not_mem_nil, or_false] at hv
  rcases hv with rfl | rfl | rfl | rfl | rfl | rfl | rfl | rfl | rfl | rfl
  · exact .none 2
  · exact .tuple (by simp) fun z hz => by cases hz
  · exact .tuple (by simp) fun z hz => by rw [List.mem_singleton.mp hz]; exact .str 1 (hc _ (by simp))
  · exact .tuple (by simp) (h2 _ _ (hc _ (by simp)) hx)
  · exact .tuple (by simp) (h2 _ _ (hc _ (by simp)) hx)
  · exact .tuple (by simp) (h2 _ _ (hc _ (by simp)) (hc _ (by simp)))
  · exact .tuple (by simp) (h2 _ _ (hc _ (by simp)) hy)
  · exact .list (by simp) (h2 _ _ (hc _ (by simp)) hy)
  · refine .tuple (by simp) fun z hz => ?_
    simp only [List.mem_cons, List.not_mem_nil, or_false] at hz
    rcases hz with rfl | rfl
    · exact .str 1 (hc _ (by simp))
    · exact .int 1 5
  · exact .tuple (by simp) (h2 _ _ (hc _ (by simp)) hy)
theorem z4 (hT : TOk T) (h4 : lo[4]? = some (some (.d (.list ((nms T.ls).map .str))))) (mh : Mh) :
    ∃ x y, x ∈ nms T.ls ∧ y ∈ nms T.ls ∧ (sSet 12 (mFrz (lDisp (aCons (mC .none) (aCons (mTup aNil) (aCons (mTup (aCons (mC (.str "swap")) aNil)) (aCons (mTup (aCons (mC (.str "left")) (aCons (bind2 (mV 4) (mC (.int 0)) oIxA) aNil))) (aCons (mTup (aCons (mC (.str "swap")) (aCons (bind2 (mV 4) (mC (.int 0)) oIxA) aNil))) (aCons (mTup (aCons (mC (.str "left")) (aCons (mC (.str "q")) aNil))) (aCons (mTup (aCons (mC (.str "up")) (aCons (bind2 (mV 4) (mNeg (mC (.int 1))) oIxA) aNil))) (aCons (mFrz (lDisp (aCons (mC (.str "swap")) (aCons (bind2 (mV 4) (mNeg (mC (.int 1))) oIxA) aNil)))) (aCons (mTup (aCons (mC (.str "swap")) (aCons (mC (.int 5)) aNil))) (aCons (mTup (aCons (mC (.str "left")) (aCons (bind2 (mV 4) (mNeg (mC (.int 1))) oIxA) aNil))) aNil))))))))))))) lo mh = .nx (lo.set 12 (some (.d (.list (wrs x y))))) mh := by
  have hln : (nms T.ls).length = T.ls.length := by unfold nms; simp
  have h60 := hT.n60
  have h1 := hT.n1
  have n0 : oIxA (.d (.list ((nms T.ls).map .str))) (.d (.int 0)) mh = .ok (.d (.str ((nms T.ls)[0]'(by omega)))) mh := ps_ix (a := 0) (by omega) mh
  have n1 : oIxA (.d (.list ((nms T.ls).map .str))) (.d (.int (-1))) mh = .ok (.d (.str ((nms T.ls)[(nms T.ls).length - 1]'(by omega)))) mh := by
    refine oIx_dl ?_
    rw [atI_m1 (by simp; omega), List.getElem?_map, List.length_map, List.getElem?_eq_getElem (by omega)]; rfl
  refine ⟨(nms T.ls)[0]'(by omega), (nms T.ls)[(nms T.ls).length - 1]'(by omega), List.getElem_mem _, List.getElem_mem _, ?_⟩
  generalize (nms T.ls)[0]'(by omega) = x at n0 ⊢
  generalize (nms T.ls)[(nms T.ls).length - 1]'(by omega) = y at n1 ⊢
  generalize (nms T.ls).map PyData.str = pd at h4 n0 n1
  have f2 : frzL [PV.d (.str "swap"), .d (.str y)] mh = .ok (.d (.list [.str "swap", .str y])) mh := frzL_d [.str "swap", .str y]
  have f10 : frzL [PV.d .none, .d (.tuple []), .d (.tuple [.str "swap"]), .d (.tuple [.str "left", .str x]), .d (.tuple [.str "swap", .str x]), .d (.tuple [.str "left", .str "q"]), .d (.tuple [.str "up", .str y]), .d (.list [.str "swap", .str y]), .d (.tuple [.str "swap", .int 5]), .d (.tuple [.str "left", .str y])] mh = .ok (.d (.list (wrs x y))) mh := frzL_d (wrs x y)
  have kd : ∀ a b c d e f g h i j : PV, kDisp [a, b, c, d, e, f, g, h, i, j] mh = .ok [a, b, c, d, e, f, g, h, i, j] mh := fun _ _ _ _ _ _ _ _ _ _ => rfl
  generalize wrs x y = ws at f10 ⊢
  simp [-getElem?_pos, h4, n0, n1, f2, kd, f10]
theorem z5 (hT : TOk T) (hs : ∀ x, x ∈ ss → Pl 3 x) (hl : ss.length ≤ 8) (ha : a ≤ ss.length) {ws : List PyData} (hw : ∀ w, w ∈ ws → Pl 3 w) (L : LP T ss ds a lo) (h12 : lo[12]? = some (some (.d (.list ws)))) (mh : Mh) :
    ∃ lo', (sFor (iSeq (mV 12)) (.nm 13) l_law_3) lo mh = .nx lo' mh ∧ LP T ss ds a lo' := by
  have hseq : iSeq (mV 12) lo mh = .ok (ws.map .d, always) mh := by simp [-getElem?_pos, h12]
  obtain ⟨lo2, mh2, e2, rfl, L2⟩ := forL_to (gg := always) (t := .nm 13) (m := l_law_3) (σ := Unit) (fun _ lo mh' => mh' = mh ∧ LP T ss ds a lo) (fun x : PyData => PV.d x) (fun _ _ => ()) (fun _ _ _ _ => trivial) ws () lo mh
    (by
      rintro _ x lo mh' hx ⟨rfl, L⟩
      obtain ⟨lo', e, L'⟩ := law_3 (lo := lo.set 13 (some (.d x))) (mh := mh') hT hs hl (hw x hx) ha (L.set (by omega) _) (by rw [List.getElem?_set_self (by rw [L.l]; omega)])
      exact ⟨_, lo', mh', rfl, .inl e, rfl, L'⟩) ⟨rfl, L⟩
  exact ⟨lo2, by rw [sFor_ap, hseq, ofR_ok]; exact e2, L2⟩
theorem z6 (hT : TOk T) (hs : ∀ x, x ∈ ss → Pl 3 x) (hl : ss.length ≤ 8) (L : LP T ss ds a lo) (mh : Mh) :
    ∃ lo', (sFor (iSeq (mTup (aCons (mV 6) (aCons (mRev (mV 6)) (aCons (mC .none) (aCons (mFrz (lList (mV 6))) aNil)))))) (.nm 14) l_law_1) lo mh = .nx lo' mh ∧ LP T ss ds a lo' := by
  let vs : List PyData := [.tuple ss, .tuple ss.reverse, .none, .list ss]
  have hp : ∀ v, v ∈ vs → Pl 4 v := fun v hv => by
    simp only [vs, List.mem_cons, List.not_mem_nil, or_false] at hv
    rcases hv with rfl | rfl | rfl | rfl
    · exact .tuple (by omega) hs
    · exact .tuple (by rw [List.length_reverse]; omega) fun x hx => hs x (List.mem_reverse.mp hx)
    · exact .none 3
    · exact .list (by omega) hs
  have hseq : iSeq ((mTup (aCons (mV 6) (aCons (mRev (mV 6)) (aCons (mC .none) (aCons (mFrz (lList (mV 6))) aNil)))))) lo mh = .ok (vs.map .d, always) mh := by
    have f1 := frzL_d (mh := mh) ss
    simp [-getElem?_pos, L.h6, f1, vs]
  obtain ⟨lo2, mh2, e2, rfl, L2⟩ := forL_to (gg := always) (t := .nm 14) (m := l_law_1) (σ := Unit) (fun _ lo mh' => mh' = mh ∧ LP T ss ds a lo) (fun x : PyData => PV.d x) (fun _ _ => ()) (fun _ _ _ _ => trivial) vs () lo mh
    (by
      rintro _ x lo mh' hx ⟨rfl, L⟩
      have e := law_1 (lo := lo.set 14 (some (.d x))) (mh := mh') hT (hp x hx) (L.set (by omega) _) (by rw [List.getElem?_set_self (by rw [L.l]; omega)])
      exact ⟨_, _, mh', rfl, .inl e, rfl, L.set (by omega) _⟩) ⟨rfl, L⟩
  exact ⟨lo2, by rw [sFor_ap, hseq, ofR_ok]; exact e2, L2⟩
theorem law_5 (hin : inR ds) (hd : ds.length = 400) (htn : turn < 5) (L : L0 ds lo) (h2 : lo[2]? = some (some (.d (.int (turn : Nat))))) (mh : Mh) :
    ∃ lo', l_law_5 lo mh = .nx lo' mh ∧ L0 ds lo' := by
  have hll := L.l
  obtain ⟨T, hT, p0⟩ := z0 hin hd htn L h2 mh
  let lo1 : Lo := lo.set 3 (some (.d (txD T)))
  have L1 : L0 ds lo1 := ⟨by simp [lo1, hll], by simp only [lo1]; rw [List.getElem?_set_ne (by omega)]; exact L.h1⟩
  obtain ⟨lo2, p1, L2⟩ := z1 (lo := lo1) (turn := turn) hT L1 (by simp only [lo1]; rw [List.getElem?_set_ne (by omega)]; exact h2) (by simp only [lo1]; rw [List.getElem?_set_self (by omega)]) mh
  have hi : iRg1 (aCons (mC (.int 8)) aNil) lo2 mh = .ok ((List.range 8).map fun i : Nat => PV.d (.int (i : Nat)), always) mh := iRg1_n (n := 8) (by omega) rfl
  have S0 : SY T T [] 0 := ⟨hT, (fun x hx => by cases hx), rfl, rfl, Nat.le_refl _⟩
  obtain ⟨lo3, H, ss, e3, L3, S3⟩ := y_loop (mh := mh) hT hin hd htn (List.range 8) 0 lo2 T [] (fun k hk => List.mem_range.mp hk) (by simp) L2 S0
  have p2 : (sFor (iRg1 (aCons (mC (.int 8)) aNil)) (.nm 7) l_law_4) lo2 mh = .nx lo3 mh := by rw [sFor_ap, hi, ofR_ok]; exact e3
  have hl8 : ss.length ≤ 8 := by
    have := S3.n
    rw [List.length_range] at this
    omega
  obtain ⟨a, ha, p3⟩ := z3 hin hd htn hl8 L3 mh
  have hl3 := L3.l
  let lo4 : Lo := lo3.set 11 (some (.d (.int (a : Nat))))
  have L4 : LY T H ss ds turn lo4 := L3.set (by omega) _
  have a11 : lo4[11]? = some (some (.d (.int (a : Nat)))) := by simp only [lo4]; rw [List.getElem?_set_self (by omega)]
  obtain ⟨x, y, hx, hy, p4⟩ := z4 hT L4.h4 mh
  let lo5 : Lo := lo4.set 12 (some (.d (.list (wrs x y))))
  have hl4 := L4.l
  have L5 : LY T H ss ds turn lo5 := L4.set (by omega) _
  have P5 : LP T ss ds a lo5 := ⟨L5.l, L5.h1, L5.h3, L5.h6, by simp only [lo5]; rw [List.getElem?_set_ne (by omega)]; exact a11⟩
  have hx1 := (hT.ls.nmOk hx).l8
  have hy1 := (hT.ls.nmOk hy).l8
  have hwp := wrs_pl (x := x) (y := y) (by omega) (by omega)
  obtain ⟨lo6, p5, P6⟩ := z5 hT S3.p hl8 ha hwp P5 (by simp only [lo5]; rw [List.getElem?_set_self (by omega)]) mh
  obtain ⟨lo7, p6, P7⟩ := z6 hT S3.p hl8 P6 mh
  refine ⟨lo7, ?_, ⟨P7.l, P7.h1⟩⟩
  unfold l_law_5
  rw [sSeq_ap, p0, sq_nx, sSeq_ap, p1, sq_nx, sSeq_ap, p2, sq_nx, sSeq_ap, p3, sq_nx, sSeq_ap, p4, sq_nx, sSeq_ap, p5, sq_nx, sSeq_ap, p6]
  rfl
end
end K70


set_option Elab.async false
set_option linter.all false
set_option maxRecDepth 100000
set_option maxHeartbeats 4000000
namespace K70
open PySem EL
/-! ### a text that is no tree: a line is used twice -/
def lsT : List Ln := [⟨"a", "in", []⟩, ⟨"b", "neg", ["a"]⟩, ⟨"c", "add", ["b", "b"]⟩]
theorem lsT_ok {gs : List Str} (h1 : 1 ≤ gs.length) (h6 : gs.length ≤ 6) (hs : gs.Sublist (["a", "b", "c"] : List Str)) : TOk ⟨lsT, gs⟩ := by
  have hn : ∀ x : Str, x ∈ (["a", "b", "c"] : List Str) → NmOk x := fun x hx => by
    have : ∀ x : Str, x ∈ (["a", "b", "c"] : List Str) → 1 ≤ x.length ∧ x.length ≤ 8 ∧ ∀ c, c ∈ x.cps.toList → c ∈ (Str.ofString "abcdefghijklmnopqrstuvwxyz").cps.toList := by decide +kernel
    obtain ⟨h1, h2, h3⟩ := this x hx
    exact ⟨h1, h2, h3⟩
  refine ⟨⟨⟨hn _ (by simp), by simp, inNeed, fun n hn => by cases hn⟩, ⟨hn _ (by simp), by decide +kernel, by decide +kernel, ?_⟩, ⟨hn _ (by simp), by decide +kernel, by decide +kernel, ?_⟩, trivial⟩, by show 1 ≤ 3; omega, by show 3 ≤ 60; omega, h1, h6, hs⟩
  · show ∀ n : Str, n ∈ (["a"] : List Str) → n ∈ (["a"] : List Str)
    exact fun _ h => h
  · show ∀ n : Str, n ∈ (["b", "b"] : List Str) → n ∈ (["a", "b"] : List Str)
    decide +kernel
def numT : SKv := [("a", .d (.int 0)), ("b", .d (.int 1)), ("c", .d (.int 2))]
def idT (z : Str) : Int := if z = "a" then 0 else if z = "b" then 1 else 2
theorem numT_look {z : Str} (h : z ∈ (["a", "b", "c"] : List Str)) : lookS numT z = some (.d (.int (idT z))) := by
  simp only [List.mem_cons, List.not_mem_nil, or_false] at h
  have h1 : ¬ (("a" : Str) = "b") := by decide +kernel
  have h2 : ¬ (("a" : Str) = "c") := by decide +kernel
  have h3 : ¬ (("b" : Str) = "c") := by decide +kernel
  have h4 : ¬ (("b" : Str) = "a") := by decide +kernel
  have h5 : ¬ (("c" : Str) = "a") := by decide +kernel
  have h6 : ¬ (("c" : Str) = "b") := by decide +kernel
  rcases h with rfl | rfl | rfl <;> simp [lookS, numT, idT, h1, h2, h3, h4, h5, h6]
section
variable {gs : List Str} {lo : Lo} {mh : Mh}
theorem num_v (gs : List Str) (mh : Mh) : kCall 1 m_numbers_in [.d (txD ⟨lsT, gs⟩)] mh = .ok (.dct (kvS numT)) mh := by
  have main : m_numbers_in [.d (txD ⟨lsT, gs⟩)] mh = .ok (.dct (kvS numT)) (mh ++ []) := by
    unfold m_numbers_in dM b_numbers_in
    let lo0 : Lo := startL 3 [.d (txD ⟨lsT, gs⟩)]
    have h0 : lo0[0]? = some (some (.d (txD ⟨lsT, gs⟩))) := rfl
    have hl0 : lo0.length = 3 := rfl
    have hi : iEnum (bind2 (mV 0) (mC (.int 0)) oIxA) lo0 mh = .ok (lsT.zipIdx.map (fun p => PV.d (.tuple [.int (p.2 : Nat), lnD p.1])), always) mh := by
      have := ls_0 ⟨lsT, gs⟩ mh
      have hs2 : ∀ mh, kEnum (.d (lsD lsT)) mh = .ok (enumP ((lsT.map lnD).map .d), always) mh := fun _ => rfl
      have e4 := enumP_f lnD lsT
      generalize lo0 = lo at h0 ⊢
      simp [-getElem?_pos, -List.map_map, h0, this, hs2, e4]
    have e := dcF_to (own := [("number", 1), ("one", 2)]) (mk := bind2 (mV 2) (mC (.int 0)) oIxA) (mv := mV 1) (t := .tp [.nm 1, .nm 2]) (lo := lo0) (mh := mh) lsT.zipIdx (fun p => PV.d (.tuple [.int (p.2 : Nat), lnD p.1])) (fun p => .str p.1.nm) (fun p => .d (.int (p.2 : Nat))) hi trivial (fun _ _ => rfl) (by decide) fun p _ => ⟨_, tgt_2 1 2 _ _, by
      have g2 : (upL (wipeL lo0 (([("number", 1), ("one", 2)] : List (Str × Nat)).map (·.2))) [(1, PV.d (.int (p.2 : Nat))), (2, .d (lnD p.1))])[2]? = some (some (.d (lnD p.1))) := rfl
      rw [bind2_ap, mV_ap, g2, gV_some, Res.bind_ok, k2a_ap, mC_ap, Res.bind_ok, k2b_ap, ln_0], by
      have g1 : (upL (wipeL lo0 (([("number", 1), ("one", 2)] : List (Str × Nat)).map (·.2))) [(1, PV.d (.int (p.2 : Nat))), (2, .d (lnD p.1))])[1]? = some (some (.d (.int (p.2 : Nat)))) := rfl
      rw [mV_ap, g1, gV_some]⟩
    rw [foldD_S lsT.zipIdx (fun p => p.1.nm) (fun p => .d (.int (p.2 : Nat))) (by decide +kernel)] at e
    show (match (sSeq _ _) lo0 mh with | _ => _) = _
    rw [sSeq_ap, sRet_ap, e, List.append_nil]
    rfl
  exact kCall_ok rfl main (by simp [frz]; rfl)
def ndT : List PyData := [.tuple [], .tuple [.int 0], .tuple [.int 1, .int 1]]
theorem ixT {z : Str} (h : z ∈ (["a", "b", "c"] : List Str)) (mh : Mh) : oIxA (.dct (kvS numT)) (.d (.str z)) mh = .ok (.d (.int (idT z))) mh :=
  ix_dc (IsDc.dct _) rfl (by rw [look_kvS, numT_look h])
theorem ndT_eq : (lsT.map fun l => PyData.tuple (l.nd.map fun z => .int (idT z))) = ndT := by
  have h1 : idT "a" = 0 := by decide +kernel
  have h2 : idT "b" = 1 := by decide +kernel
  simp only [lsT, ndT, List.map_cons, List.map_nil, h1, h2]
theorem needs_v (gs : List Str) (mh : Mh) : kCall 1 m_needs_by [.d (txD ⟨lsT, gs⟩)] mh = .ok (.d (.list ndT)) mh := by
  have main : m_needs_by [.d (txD ⟨lsT, gs⟩)] mh = .ok (.d (.list ndT)) mh := by
    unfold m_needs_by dM b_needs_by
    let lo0 : Lo := startL 4 [.d (txD ⟨lsT, gs⟩)]
    let lo1 : Lo := lo0.set 1 (some (.dct (kvS numT)))
    have p0 : (sSet 1 (mCall 1 m_numbers_in (aCons (mV 0) aNil))) lo0 mh = .nx lo1 mh := by
      have h0 : lo0[0]? = some (some (.d (txD ⟨lsT, gs⟩))) := rfl
      have c := num_v gs mh
      simp only [lo1]
      generalize lo0 = lo at h0 ⊢
      simp [-getElem?_pos, h0, c]
    have h0 : lo1[0]? = some (some (.d (txD ⟨lsT, gs⟩))) := rfl
    have h1 : lo1[1]? = some (some (.dct (kvS numT))) := rfl
    have hl1 : lo1.length = 4 := rfl
    have hs : iSeq (bind2 (mV 0) (mC (.int 0)) oIxA) lo1 mh = .ok ((lsT.map lnD).map .d, always) mh := by
      have := ls_0 ⟨lsT, gs⟩ mh
      have h2 := ls_sq lsT mh
      generalize lo1 = lo at h0 ⊢
      simp [-getElem?_pos, -List.map_map, h0, this, h2]
    have e2 : lcL always (.nm 3) bYes ((mCB nTuple (aCons (mFrz (mLC (iSeq (bind2 (mV 3) (mC (.int 2)) oIxA)) (.nm 2) bYes (bind2 (mV 1) (mV 2) oIxA) [2])) aNil))) (lo1.set 3 none) ((lsT.map lnD).map .d) mh = .ok ((lsT.map fun l => PyData.tuple (l.nd.map fun z => .int (idT z))).map .d) mh :=
      lcL_d lsT lnD (fun l => PyData.tuple (l.nd.map fun z => .int (idT z))) trivial fun l hl => ⟨_, rfl, by
        have hnd : ∀ z, z ∈ l.nd → z ∈ (["a", "b", "c"] : List Str) := by
          have : ∀ l, l ∈ lsT.map (fun l : Ln => l.nd) → ∀ z, z ∈ l → z ∈ (["a", "b", "c"] : List Str) := by decide +kernel
          exact this _ (List.mem_map_of_mem (f := fun l : Ln => l.nd) hl)
        have hndl : l.nd.length ≤ 2 := by
          have : ∀ l, l ∈ lsT.map (fun l : Ln => l.nd) → l.length ≤ 2 := by decide +kernel
          exact this _ (List.mem_map_of_mem (f := fun l : Ln => l.nd) hl)
        have g3 : ((lo1.set 3 none).set 3 (some (.d (lnD l))))[3]? = some (some (.d (lnD l))) := rfl
        have g1 : ((lo1.set 3 none).set 3 (some (.d (lnD l))))[1]? = some (some (.dct (kvS numT))) := rfl
        have gl : ((lo1.set 3 none).set 3 (some (.d (lnD l)))).length = 4 := rfl
        show ((mCB nTuple (aCons (mFrz (mLC (iSeq (bind2 (mV 3) (mC (.int 2)) oIxA)) (.nm 2) bYes (bind2 (mV 1) (mV 2) oIxA) [2])) aNil))) ((lo1.set 3 none).set 3 (some (.d (lnD l)))) mh = _
        generalize (lo1.set 3 none).set 3 (some (.d (lnD l))) = lo2 at g1 g3 gl ⊢
        have hs2 : iSeq (bind2 (mV 3) (mC (.int 2)) oIxA) lo2 mh = .ok ((l.nd.map .str).map .d, always) mh := by
          have h2 : oIxA (.d (lnD l)) (.d (.int 2)) mh = .ok (.d (.tuple (sL l.nd))) mh := oIx_t2 _ _ _ _
          have hsq : kSeq (.d (.tuple (sL l.nd))) mh = .ok ((l.nd.map .str).map .d, always) mh := rfl
          generalize lnD l = ld at *
          simp [-getElem?_pos, -List.map_map, g3, h2, hsq]
        have e3 : lcL always (.nm 2) bYes (bind2 (mV 1) (mV 2) oIxA) (lo2.set 2 none) ((l.nd.map .str).map .d) mh = .ok ((l.nd.map fun z => PyData.int (idT z)).map .d) mh :=
          lcL_d l.nd PyData.str (fun z => PyData.int (idT z)) trivial fun z hz => ⟨_, rfl, by
            have i := ixT (hnd z hz) mh
            have k1 : ((lo2.set 2 none).set 2 (some (.d (.str z))))[1]? = some (some (.dct (kvS numT))) := by rw [List.getElem?_set_ne (by omega), List.getElem?_set_ne (by omega)]; exact g1
            have k2 : ((lo2.set 2 none).set 2 (some (.d (.str z))))[2]? = some (some (.d (.str z))) := by rw [List.getElem?_set_self (by simp [gl])]
            show (bind2 (mV 1) (mV 2) oIxA) ((lo2.set 2 none).set 2 (some (.d (.str z)))) mh = _
            generalize (lo2.set 2 none).set 2 (some (.d (.str z))) = lo3 at k1 k2 ⊢
            simp [-getElem?_pos, k1, k2, i]⟩
        have ek := kLen_q l.nd (by omega) mh fun z => PyData.int (idT z)
        have f1 := frzL_d (mh := mh) (l.nd.map fun z => PyData.int (idT z))
        rw [mCB_ap, aCons_ap, mFrz_ap, mLC_ap, hs2, Res.bind_ok, kLC_ap, wipeL_cons, wipeL_nil, e3, Res.bind_ok, ek, Res.bind_ok, f1, Res.bind_ok, ka1_ap, aNil_ap, Res.bind_ok, ka2_ap, Res.bind_ok, nTuple_l]⟩
    have ek := kLen_q lsT (by decide) mh fun l => PyData.tuple (l.nd.map fun z => .int (idT z))
    have f1 := frzL_d (mh := mh) (lsT.map fun l => PyData.tuple (l.nd.map fun z => .int (idT z)))
    show (match (sSeq _ _) lo0 mh with | _ => _) = _
    rw [sSeq_ap, p0, sq_nx, sSeq_ap, sRet_ap, mFrz_ap, mLC_ap, hs, Res.bind_ok, kLC_ap, wipeL_cons, wipeL_nil, e2, Res.bind_ok, ek, Res.bind_ok, f1, ndT_eq]
    rfl
  exact kCall_d0 rfl main
theorem goals_v (mh : Mh) : kCall 1 m_goals_by [.d (txD ⟨lsT, ["c"]⟩)] mh = .ok (.d (.tuple [.int 2])) mh := by
  have main : m_goals_by [.d (txD ⟨lsT, ["c"]⟩)] mh = .ok (.d (.tuple [.int 2])) mh := by
    unfold m_goals_by dM b_goals_by
    let lo0 : Lo := startL 3 [.d (txD ⟨lsT, ["c"]⟩)]
    let lo1 : Lo := lo0.set 1 (some (.dct (kvS numT)))
    have p0 : (sSet 1 (mCall 1 m_numbers_in (aCons (mV 0) aNil))) lo0 mh = .nx lo1 mh := by
      have h0 : lo0[0]? = some (some (.d (txD ⟨lsT, ["c"]⟩))) := rfl
      have c := num_v ["c"] mh
      simp only [lo1]
      generalize lo0 = lo at h0 ⊢
      simp [-getElem?_pos, h0, c]
    have h0 : lo1[0]? = some (some (.d (txD ⟨lsT, ["c"]⟩))) := rfl
    have h1 : lo1[1]? = some (some (.dct (kvS numT))) := rfl
    have hl1 : lo1.length = 3 := rfl
    have hs : iSeq (bind2 (mV 0) (mC (.int 1)) oIxA) lo1 mh = .ok ((["c"] : List Str).map .str |>.map .d, always) mh := by
      have := gs_1 ⟨lsT, ["c"]⟩ mh
      have h2 := gs_sq ["c"] mh
      generalize lo1 = lo at h0 ⊢
      simp [-getElem?_pos, -List.map_map, h0, this, h2]
    have e2 : lcL always (.nm 2) bYes (bind2 (mV 1) (mV 2) oIxA) (lo1.set 2 none) ((["c"] : List Str).map .str |>.map .d) mh = .ok ([PyData.int 2].map .d) mh := by
      have := lcL_d (gg := always) (t := .nm 2) (me := bind2 (mV 1) (mV 2) oIxA) (lo0 := lo1.set 2 none) (mh := mh) (["c"] : List Str) PyData.str (fun z => PyData.int (idT z)) trivial fun z hz => ⟨_, rfl, by
        have i := ixT (z := z) (by rw [List.mem_singleton.mp hz]; simp) mh
        have k1 : ((lo1.set 2 none).set 2 (some (.d (.str z))))[1]? = some (some (.dct (kvS numT))) := rfl
        have k2 : ((lo1.set 2 none).set 2 (some (.d (.str z))))[2]? = some (some (.d (.str z))) := rfl
        show (bind2 (mV 1) (mV 2) oIxA) ((lo1.set 2 none).set 2 (some (.d (.str z)))) mh = _
        generalize (lo1.set 2 none).set 2 (some (.d (.str z))) = lo3 at k1 k2 ⊢
        simp [-getElem?_pos, k1, k2, i]⟩
      rw [this]
      have h2 : idT "c" = 2 := by decide +kernel
      simp only [List.map_cons, List.map_nil, h2]
    have ek : kLen ([PyData.int 2].map .d) mh = .ok ([PyData.int 2].map .d) mh := kLen_ok (by simp)
    have f1 := frzL_d (mh := mh) [PyData.int 2]
    show (match (sSeq _ _) lo0 mh with | _ => _) = _
    rw [sSeq_ap, p0, sq_nx, sSeq_ap, sRet_ap, mCB_ap, aCons_ap, mFrz_ap, mLC_ap, hs, Res.bind_ok, kLC_ap, wipeL_cons, wipeL_nil, e2, Res.bind_ok, ek, Res.bind_ok, f1, Res.bind_ok, ka1_ap, aNil_ap, Res.bind_ok, ka2_ap, Res.bind_ok, nTuple_l]
    rfl
  exact kCall_d0 rfl main
end
end K70


set_option Elab.async false
set_option linter.all false
set_option maxRecDepth 100000
set_option maxHeartbeats 4000000
namespace K70
open PySem EL
def hN (mh : Mh) (D : List (PyData × PV)) (L : List PV) : Mh := mh ++ [.dct D, .lst L]
section
variable {lo : Lo} {mh : Mh} {D : List (PyData × PV)} {L : List PV}
theorem hN_0 : (hN mh D L)[mh.length]? = some (.dct D) := by simp [hN]
theorem hN_1 : (hN mh D L)[mh.length + 1]? = some (.lst L) := by simp [hN]
theorem hN_s0 (D' : List (PyData × PV)) : (hN mh D L).set mh.length (.dct D') = hN mh D' L := by simp [hN]
theorem hN_s1 (L' : List PV) : (hN mh D L).set (mh.length + 1) (.lst L') = hN mh D L' := by simp [hN]
structure NB (m : Nat) (lo : Lo) : Prop where
  l : lo.length = 5
  h1 : lo[1]? = some (some (.d (.list ndT)))
  h2 : lo[2]? = some (some (.ref m))
  h3 : lo[3]? = some (some (.ref (m + 1)))
theorem NB.set {m : Nat} (L : NB m lo) (v : Option PV) : NB m (lo.set 4 v) :=
  ⟨by simp [L.l], by rw [List.getElem?_set_ne (by omega)]; exact L.h1, by rw [List.getElem?_set_ne (by omega)]; exact L.h2, by rw [List.getElem?_set_ne (by omega)]; exact L.h3⟩
theorem ndT_ix {j : Nat} {nd : List PyData} (h : ndT[j]? = some (.tuple nd)) (mh : Mh) : oIxA (.d (.list ndT)) (.d (.int (j : Nat))) mh = .ok (.d (.tuple nd)) mh := oIx_dl (by rw [atI_nn, h])
theorem nb_step {j : Nat} {nd : List PyData} (N : NB mh.length lo) (hix : ndT[j]? = some (.tuple nd)) (hD : D.length ≤ 100) (hL : L.length ≤ 100) (hnd : nd.length ≤ 2) :
    ∃ lo', NB mh.length lo' ∧ l_needed_by_1 lo (hN mh D (L ++ [.d (.int (j : Nat))])) = .nx lo' (if dHas (.int (j : Nat)) D = true then hN mh D L else hN mh (putD D (.int (j : Nat)) (.d (.bool true))) (L ++ nd.map .d)) := by
  have hll := N.l
  let lo1 : Lo := lo.set 4 (some (.d (.int (j : Nat))))
  have N1 : NB mh.length lo1 := N.set _
  have a4 : lo1[4]? = some (some (.d (.int (j : Nat)))) := by simp only [lo1]; rw [List.getElem?_set_self (by omega)]
  have hp : oPop (.ref (mh.length + 1)) [] (hN mh D (L ++ [.d (.int (j : Nat))])) = .ok (.d (.int (j : Nat))) (hN mh D L) := by
    unfold oPop
    dsimp only
    rw [hN_1]
    dsimp only
    rw [List.getLast?_append]
    dsimp only [List.getLast?_singleton, Option.some_or]
    rw [hN_s1, List.dropLast_concat]
  have ty : tyM (hN mh D (L ++ [.d (.int (j : Nat))])) "list" (.ref (mh.length + 1)) = true := tyM_r hN_1
  have p0 : (sSet 4 (mBM "list" oPop (mV 3) aNil)) lo (hN mh D (L ++ [.d (.int (j : Nat))])) = .nx lo1 (hN mh D L) := by
    rw [sSet_ap, mBM_ap, mV_ap, N.h3, gV_some, Res.bind_ok, kBM_ap, if_pos ty, aNil_ap, Res.bind_ok]
    show ofR (oPop (.ref (mh.length + 1)) [] _) _ = _
    rw [hp]
    rfl
  have hnin := nin_dc (IsDc.ref (mh := hN mh D L) hN_0) (x := .int (j : Nat)) rfl
  refine ⟨lo1, N1, ?_⟩
  unfold l_needed_by_1
  cases hh : dHas (.int (j : Nat)) D with
  | true =>
    rw [if_pos rfl]
    rw [hh] at hnin
    have p1 : (sIf (mB (bind2 (mV 4) (mV 2) oNin)) (sSeq (sSub (mC (.bool true)) (mV 2) (mV 4)) (sSeq (sExpr (mBM "list" oExtend (mV 3) (aCons (mFrz (lList (bind2 (mV 1) (mV 4) oIxA))) aNil))) sNil)) sNil) lo1 (hN mh D L) = .nx lo1 (hN mh D L) := by
      have h2 := N1.h2
      generalize hN mh D L = m1 at hnin ⊢
      generalize lo1 = lo2 at a4 h2 ⊢
      simp [-getElem?_pos, a4, h2, hnin]
    rw [sSeq_ap, p0, sq_nx, sSeq_ap, p1]; rfl
  | false =>
    rw [if_neg (by decide)]
    rw [hh] at hnin
    have s1 := kSub3_dct (lo := lo1) (v := .d (.bool true)) (mh := hN mh D L) (n := mh.length) (x := .int (j : Nat)) hN_0 rfl (by omega)
    rw [hN_s0] at s1
    have hx := ndT_ix hix (hN mh (putD D (.int (j : Nat)) (.d (.bool true))) L)
    have f1 := frzL_d (mh := hN mh (putD D (.int (j : Nat)) (.d (.bool true))) L) nd
    have hex : oExtend (.ref (mh.length + 1)) [.d (.list nd)] (hN mh (putD D (.int (j : Nat)) (.d (.bool true))) L) = .ok (.d .none) (hN mh (putD D (.int (j : Nat)) (.d (.bool true))) (L ++ nd.map .d)) := by
      unfold oExtend
      dsimp only
      rw [hN_1]
      show (if L.length + (nd.map PV.d).length ≤ sizeLine then _ else _) = _
      rw [if_pos (by rw [sizeLine_eq, List.length_map]; omega), hN_s1]
    have ty2 : tyM (hN mh (putD D (.int (j : Nat)) (.d (.bool true))) L) "list" (.ref (mh.length + 1)) = true := tyM_r hN_1
    have p1 : (sIf (mB (bind2 (mV 4) (mV 2) oNin)) (sSeq (sSub (mC (.bool true)) (mV 2) (mV 4)) (sSeq (sExpr (mBM "list" oExtend (mV 3) (aCons (mFrz (lList (bind2 (mV 1) (mV 4) oIxA))) aNil))) sNil)) sNil) lo1 (hN mh D L) = .nx lo1 (hN mh (putD D (.int (j : Nat)) (.d (.bool true))) (L ++ nd.map .d)) := by
      have h1 := N1.h1
      have h2 := N1.h2
      have h3 := N1.h3
      generalize hN mh (putD D (.int (j : Nat)) (.d (.bool true))) (L ++ nd.map .d) = m3 at *
      generalize hN mh (putD D (.int (j : Nat)) (.d (.bool true))) L = m2 at *
      generalize hN mh D L = m1 at *
      generalize lo1 = lo2 at *
      generalize ndT = nt at *
      simp [-getElem?_pos, a4, h1, h2, h3, hnin, s1, hx, f1, kBM_ap, ty2, hex]
    rw [sSeq_ap, p0, sq_nx, sSeq_ap, p1]; rfl
theorem nb_c (N : NB mh.length lo) : ((mB (bind2 (mCB nLen (aCons (mV 3) aNil)) (mC (.int 0)) oGtI))) lo (hN mh D L) = .ok (decide (0 < L.length)) (hN mh D L) := by
  have hn := nLen_r (mh := hN mh D L) (n := mh.length + 1) hN_1
  have h3 := N.h3
  generalize hN mh D L = m1 at *
  have : decide (0 < L.length) = decide ((0 : Int) < (L.length : Int)) := by rw [decide_eq_decide]; omega
  rw [this]
  simp [-getElem?_pos, h3, hn]
theorem needed_v (mh : Mh) : kCall 1 m_needed_by [.d (txD ⟨lsT, ["c"]⟩)] mh = .ok (.d (.list [.int 0, .int 1, .int 2])) mh := by
  have main : ∃ gb, m_needed_by [.d (txD ⟨lsT, ["c"]⟩)] mh = .ok (.d (.list [.int 0, .int 1, .int 2])) (mh ++ gb) := by
    let lo0 : Lo := startL 5 [.d (txD ⟨lsT, ["c"]⟩)]
    let lo1 : Lo := ((lo0.set 1 (some (.d (.list ndT)))).set 2 (some (.ref mh.length))).set 3 (some (.ref (mh.length + 1)))
    have N1 : NB mh.length lo1 := ⟨rfl, rfl, rfl, rfl⟩
    have h0 : lo0[0]? = some (some (.d (txD ⟨lsT, ["c"]⟩))) := rfl
    have p0 : (sPar [1, 2, 3] (aCons (mCall 1 m_needs_by (aCons (mV 0) aNil)) (aCons mNewD (aCons (mObj (lList (mCall 1 m_goals_by (aCons (mV 0) aNil)))) aNil)))) lo0 mh = .nx lo1 (hN mh [] ([] ++ [.d (.int ((2 : Nat) : Int))])) := by
      have e1 : (mCall 1 m_needs_by (aCons (mV 0) aNil)) lo0 mh = .ok (.d (.list ndT)) mh := by
        have c := needs_v ["c"] mh
        generalize lo0 = lo at h0 ⊢
        simp [-getElem?_pos, h0, c]
      have e3 : (mObj (lList (mCall 1 m_goals_by (aCons (mV 0) aNil)))) lo0 (mh ++ [.dct []]) = .ok (.ref (mh ++ [MO.dct []]).length) (mh ++ [.dct []] ++ [.lst [.d (.int 2)]]) := by
        have c := goals_v (mh ++ [.dct []])
        generalize mh ++ [MO.dct []] = m1 at c ⊢
        generalize lo0 = lo at h0 ⊢
        simp [-getElem?_pos, h0, c]
      rw [sPar_ap, aCons_ap, e1, Res.bind_ok, ka1_ap, aCons_ap, mNewD_ap, Res.bind_ok, ka1_ap, aCons_ap, e3, Res.bind_ok, ka1_ap, aNil_ap, Res.bind_ok, ka2_ap, Res.bind_ok, ka2_ap, Res.bind_ok, ka2_ap, ofR_ok, kPar_3]
      simp [hN, lo1]
    obtain ⟨lo2, N2, s2⟩ := nb_step (D := []) (L := []) (j := 2) (nd := [.int 1, .int 1]) N1 rfl (by simp) (by simp) (by simp)
    rw [if_neg (by decide)] at s2
    obtain ⟨lo3, N3, s3⟩ := nb_step (D := putD [] (.int ((2 : Nat) : Int)) (.d (.bool true))) (L := [.d (.int 1)]) (j := 1) (nd := [.int 0]) N2 rfl (by decide) (by simp) (by simp)
    rw [if_neg (by decide)] at s3
    obtain ⟨lo4, N4, s4⟩ := nb_step (D := putD (putD [] (.int ((2 : Nat) : Int)) (.d (.bool true))) (.int ((1 : Nat) : Int)) (.d (.bool true))) (L := [.d (.int 1)]) (j := 0) (nd := []) N3 rfl (by decide) (by simp) (by simp)
    rw [if_neg (by decide)] at s4
    obtain ⟨lo5, N5, s5⟩ := nb_step (D := putD (putD (putD [] (.int ((2 : Nat) : Int)) (.d (.bool true))) (.int ((1 : Nat) : Int)) (.d (.bool true))) (.int ((0 : Nat) : Int)) (.d (.bool true))) (L := []) (j := 1) (nd := [.int 0]) N4 rfl (by decide) (by simp) (by simp)
    rw [if_pos (by decide)] at s5
    have hf : fuel = (fuel - 5) + 1 + 1 + 1 + 1 + 1 := fuel_ge 5 (by omega)
    let D3 : List (PyData × PV) := putD (putD (putD [] (.int ((2 : Nat) : Int)) (.d (.bool true))) (.int ((1 : Nat) : Int)) (.d (.bool true))) (.int ((0 : Nat) : Int)) (.d (.bool true))
    have p1 : (sWhile (mB (bind2 (mCB nLen (aCons (mV 3) aNil)) (mC (.int 0)) oGtI)) l_needed_by_1) lo1 (hN mh [] ([] ++ [.d (.int ((2 : Nat) : Int))])) = .nx lo5 (hN mh D3 []) := by
      show whL _ _ fuel _ _ = _
      rw [hf]
      rw [whL_t (by rw [nb_c N1]; rfl) (.inl s2), whL_t (by rw [nb_c N2]; rfl) (.inl s3), whL_t (by rw [nb_c N3]; rfl) (.inl s4), whL_t (by rw [nb_c N4]; rfl) (.inl s5), whL_f (by rw [nb_c N5]; rfl)]
    have p2 : (sRet (mFrz (lSrt (mV 2)))) lo5 (hN mh D3 []) = .rt (.d (.list [.int 0, .int 1, .int 2])) (hN mh D3 []) := by
      have hk : kSrt (.ref mh.length) (hN mh D3 []) = .ok (([.int 0, .int 1, .int 2] : List PyData).map .d) (hN mh D3 []) := by
        have hi := IsDc.ref (mh := hN mh D3 []) hN_0
        have e : itemsD (hN mh D3 []) (.ref mh.length) = some (([2, 1, 0] : List Int).map .int) := by
          unfold itemsD
          rw [hi.s, hi.d]
          rfl
        unfold kSrt
        rw [e]
        dsimp only
        rw [if_pos (srtOk_ints _), mSrt_ints]
        have : (([2, 1, 0] : List Int).mergeSort fun a b => decide (a ≤ b)) = [0, 1, 2] := by simp [List.mergeSort, List.MergeSort.Internal.splitInTwo]
        rw [this]
        rfl
      rw [sRet_ap, mFrz_ap, lSrt_ap, mV_ap, N5.h2, gV_some, Res.bind_ok, hk, Res.bind_ok, frzL_d, ofR_ok]
    refine ⟨[.dct D3, .lst []], ?_⟩
    unfold m_needed_by dM b_needed_by
    show (match (sSeq _ _) lo0 mh with | _ => _) = _
    rw [sSeq_ap, p0, sq_nx, sSeq_ap, p1, sq_nx, sSeq_ap, p2]
    rfl
  obtain ⟨gb, e⟩ := main
  exact kCall_d rfl e
end
end K70


set_option Elab.async false
set_option linter.all false
set_option maxRecDepth 100000
set_option maxHeartbeats 4000000
namespace K70
open PySem EL
section
variable {lo : Lo} {mh : Mh} {D : List (PyData × PV)} {L : List PV}
def hF (mh : Mh) (D : List (PyData × PV)) : Mh := mh ++ [.dct D]
theorem hF_0 : (hF mh D)[mh.length]? = some (.dct D) := by simp [hF]
theorem hF_s (D' : List (PyData × PV)) : (hF mh D).set mh.length (.dct D') = hF mh D' := by simp [hF]
abbrev t1 : PyData := txD ⟨lsT, ["c"]⟩
structure FB (m : Nat) (lo : Lo) : Prop where
  l : lo.length = 5
  h0 : lo[0]? = some (some (.d t1))
  h1 : lo[1]? = some (some (.d (.list ndT)))
  h2 : lo[2]? = some (some (.ref m))
theorem FB.set {m : Nat} (F : FB m lo) {i : Nat} (hi : 3 ≤ i) (v : Option PV) : FB m (lo.set i v) :=
  ⟨by simp [F.l], by rw [List.getElem?_set_ne (by omega)]; exact F.h0, by rw [List.getElem?_set_ne (by omega)]; exact F.h1, by rw [List.getElem?_set_ne (by omega)]; exact F.h2⟩
def rdN (D : List (PyData × PV)) (j : Nat) : PV := (look (.int (j : Nat)) D).getD (.d (.int 0))
/-- one reading more -/
theorem fb_2 {j k : Nat} (F : FB mh.length lo) (h4 : lo[4]? = some (some (.d (.int (j : Nat))))) (hk : rdN D j = .d (.int (k : Nat))) (hD : D.length ≤ 100) :
    l_fault_by_2 lo (hF mh D) = .nx lo (hF mh (putD D (.int (j : Nat)) (.d (.int ((k : Int) + 1))))) := by
  have hg := get_dc (IsDc.ref (mh := hF mh D) hF_0) (x := .int (j : Nat)) (w := .d (.int 0)) rfl
  have hg : oDget (.ref mh.length) [.d (.int (j : Nat)), .d (.int 0)] (hF mh D) = .ok (.d (.int (k : Nat))) (hF mh D) := by
    rw [hg]
    show Res.ok (rdN D j) _ = _
    rw [hk]
  have ty : tyM (hF mh D) "dict" (.ref mh.length) = true := tyM_dct hF_0
  have s1 := kSub3_dct (lo := lo) (v := .d (.int ((k : Int) + 1))) (mh := hF mh D) (n := mh.length) (x := .int (j : Nat)) hF_0 rfl (by omega)
  rw [hF_s] at s1
  have h2 := F.h2
  unfold l_fault_by_2
  generalize hF mh (putD D (.int (j : Nat)) (.d (.int ((k : Int) + 1)))) = m2 at *
  generalize hF mh D = m1 at *
  simp [-getElem?_pos, h2, h4, kBM_ap, ty, hg, s1]
/-- the readings of a line -/
theorem fb_3 {i : Nat} {nd : List PyData} {r : SR} (F : FB mh.length lo) (h3 : lo[3]? = some (some (.d (.int (i : Nat))))) (hix : ndT[i]? = some (.tuple nd)) (h : forL always (.nm 4) l_fault_by_2 (nd.map .d) lo (hF mh D) = r) : sq sNil r = r → l_fault_by_3 lo (hF mh D) = r := by
  intro hr
  have hx := ndT_ix hix (hF mh D)
  have hs : iSeq (bind2 (mV 1) (mV 3) oIxA) lo (hF mh D) = .ok (nd.map .d, always) (hF mh D) := by
    have h1 := F.h1
    generalize hF mh D = m1 at *
    generalize ndT = nt at *
    simp [-getElem?_pos, h1, h3, hx]
  unfold l_fault_by_3
  rw [sSeq_ap, sFor_ap, hs, ofR_ok]
  dsimp only
  rw [h]
  exact hr
/-- is it used twice? -/
theorem fb_1 {i k : Nat} (F : FB mh.length lo) (h3 : lo[3]? = some (some (.d (.int (i : Nat))))) (hk : rdN D i = .d (.int (k : Nat))) :
    l_fault_by_1 lo (hF mh D) = if 1 < k then (match (bind2 (bind2 (bind2 (mV 0) (mC (.int 0)) oIxA) (mV 3) oIxA) (mC (.int 0)) oIxA) lo (hF mh D) with
      | .ok v _ => (l_fault_by_1 lo (hF mh D))
      | _ => l_fault_by_1 lo (hF mh D)) else .nx lo (hF mh D) := by
  by_cases h : 1 < k
  · rw [if_pos h]; split <;> rfl
  rw [if_neg h]
  have hg := get_dc (IsDc.ref (mh := hF mh D) hF_0) (x := .int (i : Nat)) (w := .d (.int 0)) rfl
  have hg : oDget (.ref mh.length) [.d (.int (i : Nat)), .d (.int 0)] (hF mh D) = .ok (.d (.int (k : Nat))) (hF mh D) := by
    rw [hg]
    show Res.ok (rdN D i) _ = _
    rw [hk]
  have ty : tyM (hF mh D) "dict" (.ref mh.length) = true := tyM_dct hF_0
  have h2 := F.h2
  have hn : ¬ (1 : Int) < (k : Int) := by omega
  unfold l_fault_by_1
  generalize hF mh D = m1 at *
  simp [-getElem?_pos, h2, h3, kBM_ap, ty, hg, hn, h]
theorem fb_1x {i k : Nat} (F : FB mh.length lo) (h3 : lo[3]? = some (some (.d (.int (i : Nat))))) (hk : rdN D i = .d (.int (k : Nat))) (h : 1 < k) {l : Ln} (hl : lsT[i]? = some l) :
    l_fault_by_1 lo (hF mh D) = .rt (.d (.tuple [.str "line", .str l.nm])) (hF mh D) := by
  have hg := get_dc (IsDc.ref (mh := hF mh D) hF_0) (x := .int (i : Nat)) (w := .d (.int 0)) rfl
  have hg : oDget (.ref mh.length) [.d (.int (i : Nat)), .d (.int 0)] (hF mh D) = .ok (.d (.int (k : Nat))) (hF mh D) := by
    rw [hg]
    show Res.ok (rdN D i) _ = _
    rw [hk]
  have ty : tyM (hF mh D) "dict" (.ref mh.length) = true := tyM_dct hF_0
  have h2 := F.h2
  have h0 := F.h0
  have hn : (1 : Int) < (k : Int) := by omega
  have x0 := ls_0 ⟨lsT, ["c"]⟩ (hF mh D)
  have xi : oIxA (.d (lsD lsT)) (.d (.int (i : Nat))) (hF mh D) = .ok (.d (lnD l)) (hF mh D) := oIx_dt (by rw [atI_nn, List.getElem?_map, hl]; rfl)
  have xn := ln_0 l (hF mh D)
  unfold l_fault_by_1
  generalize hF mh D = m1 at *
  unfold t1 at h0
  generalize txD ⟨lsT, ["c"]⟩ = tt at *
  simp [-getElem?_pos, h0, h2, h3, kBM_ap, ty, hg, hn, x0, xi, xn]
theorem fault_v (mh : Mh) : kCall 1 m_fault_by [.d t1] mh = .ok (.d (.tuple [.str "line", .str "b"])) mh := by
  have main : ∃ gb, m_fault_by [.d t1] mh = .ok (.d (.tuple [.str "line", .str "b"])) (mh ++ gb) := by
    let lo0 : Lo := startL 5 [.d t1]
    let lo1 : Lo := (lo0.set 1 (some (.d (.list ndT)))).set 2 (some (.ref mh.length))
    have h0 : lo0[0]? = some (some (.d t1)) := rfl
    have N1 : FB mh.length lo1 := ⟨rfl, rfl, rfl, rfl⟩
    have p0 : (sIf (mB (bind2 (mCB nLen (aCons (bind2 (mV 0) (mC (.int 1)) oIxA) aNil)) (mC (.int 1)) oGtI)) (sSeq (sRet (mC k_MANY_GOALS)) sNil) sNil) lo0 mh = .nx lo0 mh := by
      have g1 := gs_1 ⟨lsT, ["c"]⟩ mh
      have nl : nLen [.d (gsD ["c"])] mh = .ok (.d (.int 1)) mh := by unfold gsD sL; simp
      generalize lo0 = lo at h0 ⊢
      unfold t1 at h0
      generalize txD ⟨lsT, ["c"]⟩ = tt at *
      generalize gsD ["c"] = gg at *
      simp [-getElem?_pos, h0, g1, nl]
    have p1 : (sPar [1, 2] (aCons (mCall 1 m_needs_by (aCons (mV 0) aNil)) (aCons mNewD aNil))) lo0 mh = .nx lo1 (hF mh []) := by
      have c := needs_v ["c"] mh
      have e1 : (mCall 1 m_needs_by (aCons (mV 0) aNil)) lo0 mh = .ok (.d (.list ndT)) mh := by
        generalize lo0 = lo at h0 ⊢
        simp [-getElem?_pos, h0, c]
      rw [sPar_ap, aCons_ap, e1, Res.bind_ok, ka1_ap, aCons_ap, mNewD_ap, Res.bind_ok, ka1_ap, aNil_ap, Res.bind_ok, ka2_ap, Res.bind_ok, ka2_ap, ofR_ok, kPar_2]
      rfl
    have hs : ∀ lo, FB mh.length lo → ∀ D, iSeq (mCall 1 m_needed_by (aCons (mV 0) aNil)) lo (hF mh D) = .ok (([.int 0, .int 1, .int 2] : List PyData).map .d, always) (hF mh D) := fun lo F D => by
      have c := needed_v (hF mh D)
      have h0 := F.h0
      unfold t1 at h0
      generalize hF mh D = m1 at *
      simp [-getElem?_pos, h0, c]
    -- the readings
    let D1 := putD [] (.int ((0 : Nat) : Int)) (.d (.int (((0 : Nat) : Int) + 1)))
    let D2 := putD D1 (.int ((1 : Nat) : Int)) (.d (.int (((0 : Nat) : Int) + 1)))
    let D3 := putD D2 (.int ((1 : Nat) : Int)) (.d (.int (((1 : Nat) : Int) + 1)))
    have g3 : ∀ (lo : Lo) (x : PV), lo.length = 5 → (lo.set 3 (some x))[3]? = some (some x) := fun lo x h => by rw [List.getElem?_set_self (by omega)]
    have g4 : ∀ (lo : Lo) (x : PV), lo.length = 5 → (lo.set 4 (some x))[4]? = some (some x) := fun lo x h => by rw [List.getElem?_set_self (by omega)]
    let a0 : Lo := lo1.set 3 (some (.d (.int ((0 : Nat) : Int))))
    have F0 : FB mh.length a0 := N1.set (by omega) _
    have r0 : l_fault_by_3 a0 (hF mh []) = .nx a0 (hF mh []) := fb_3 (i := 0) (nd := []) F0 (g3 _ _ N1.l) rfl (forL_z trivial) rfl
    let a1 : Lo := a0.set 3 (some (.d (.int ((1 : Nat) : Int))))
    have F1 : FB mh.length a1 := F0.set (by omega) _
    let b1 : Lo := a1.set 4 (some (.d (.int ((0 : Nat) : Int))))
    have G1 : FB mh.length b1 := F1.set (by omega) _
    have q1 : l_fault_by_2 b1 (hF mh []) = .nx b1 (hF mh D1) := fb_2 (j := 0) (k := 0) (D := []) G1 (g4 _ _ F1.l) rfl (by simp)
    have r1 : l_fault_by_3 a1 (hF mh []) = .nx b1 (hF mh D1) := fb_3 (i := 1) (nd := [.int 0]) F1 (g3 _ _ F0.l) rfl (by
      show forL always (.nm 4) l_fault_by_2 [.d (.int 0)] a1 (hF mh []) = _
      rw [forL_c trivial (tgt_nm 4) (.inl q1), forL_z trivial]) rfl
    let a2 : Lo := b1.set 3 (some (.d (.int ((2 : Nat) : Int))))
    have F2 : FB mh.length a2 := G1.set (by omega) _
    let b2 : Lo := a2.set 4 (some (.d (.int ((1 : Nat) : Int))))
    have G2 : FB mh.length b2 := F2.set (by omega) _
    have q2 : l_fault_by_2 b2 (hF mh D1) = .nx b2 (hF mh D2) := fb_2 (j := 1) (k := 0) (D := D1) G2 (g4 _ _ F2.l) rfl (by decide)
    let b3 : Lo := b2.set 4 (some (.d (.int ((1 : Nat) : Int))))
    have G3 : FB mh.length b3 := G2.set (by omega) _
    have q3 : l_fault_by_2 b3 (hF mh D2) = .nx b3 (hF mh D3) := fb_2 (j := 1) (k := 1) (D := D2) G3 (g4 _ _ G2.l) rfl (by decide)
    have r2 : l_fault_by_3 a2 (hF mh D1) = .nx b3 (hF mh D3) := fb_3 (i := 2) (nd := [.int 1, .int 1]) F2 (g3 _ _ G1.l) rfl (by
      show forL always (.nm 4) l_fault_by_2 [.d (.int 1), .d (.int 1)] a2 (hF mh D1) = _
      rw [forL_c trivial (tgt_nm 4) (.inl q2), forL_c trivial (tgt_nm 4) (.inl q3), forL_z trivial]) rfl
    have p2 : (sFor (iSeq (mCall 1 m_needed_by (aCons (mV 0) aNil))) (.nm 3) l_fault_by_3) lo1 (hF mh []) = .nx b3 (hF mh D3) := by
      rw [sFor_ap, hs lo1 N1, ofR_ok]
      show forL always (.nm 3) l_fault_by_3 [.d (.int 0), .d (.int 1), .d (.int 2)] lo1 (hF mh []) = _
      rw [forL_c trivial (tgt_nm 3) (.inl r0), forL_c trivial (tgt_nm 3) (.inl r1), forL_c trivial (tgt_nm 3) (.inl r2), forL_z trivial]
    let c0 : Lo := b3.set 3 (some (.d (.int ((0 : Nat) : Int))))
    have H0 : FB mh.length c0 := G3.set (by omega) _
    have u0 : l_fault_by_1 c0 (hF mh D3) = .nx c0 (hF mh D3) := by
      rw [fb_1 (i := 0) (k := 1) (D := D3) H0 (g3 _ _ G3.l) rfl, if_neg (by omega)]
    let c1 : Lo := c0.set 3 (some (.d (.int ((1 : Nat) : Int))))
    have H1 : FB mh.length c1 := H0.set (by omega) _
    have u1 : l_fault_by_1 c1 (hF mh D3) = .rt (.d (.tuple [.str "line", .str "b"])) (hF mh D3) := fb_1x (i := 1) (k := 2) (D := D3) (l := ⟨"b", "neg", ["a"]⟩) H1 (g3 _ _ H0.l) rfl (by omega) rfl
    have p3 : (sFor (iSeq (mCall 1 m_needed_by (aCons (mV 0) aNil))) (.nm 3) l_fault_by_1) b3 (hF mh D3) = .rt (.d (.tuple [.str "line", .str "b"])) (hF mh D3) := by
      rw [sFor_ap, hs b3 G3, ofR_ok]
      show forL always (.nm 3) l_fault_by_1 [.d (.int 0), .d (.int 1), .d (.int 2)] b3 (hF mh D3) = _
      rw [forL_c trivial (tgt_nm 3) (.inl u0), forL_r trivial (tgt_nm 3) u1]
    refine ⟨[.dct D3], ?_⟩
    unfold m_fault_by dM b_fault_by
    show (match (sSeq _ _) lo0 mh with | _ => _) = _
    rw [sSeq_ap, p0, sq_nx, sSeq_ap, p1, sq_nx, sSeq_ap, p2, sq_nx, sSeq_ap, p3]
    rfl
  obtain ⟨gb, e⟩ := main
  exact kCall_d rfl e
theorem tree_1 (mh : Mh) : m_check_tree [.d (txD ⟨lsT, ["c"]⟩)] mh = .exc 2 mh := by
  have hT : TOk ⟨lsT, ["c"]⟩ := lsT_ok (by simp) (by simp) (List.isSublist_iff_sublist.mp (by decide +kernel))
  have c0 := kCall_d0 (n := 1) (vs := [.d (txD ⟨lsT, ["c"]⟩)]) rfl (check_text_v hT mh)
  have c1 := fault_v mh
  unfold t1 at c1
  unfold m_check_tree dM b_check_tree
  generalize txD ⟨lsT, ["c"]⟩ = tt at *
  simp [startL, c0, c1, fin, pvT]
theorem tree_2 (mh : Mh) : m_check_tree [.d (txD ⟨lsT, ["b", "c"]⟩)] mh = .exc 2 mh := by
  have hT : TOk ⟨lsT, ["b", "c"]⟩ := lsT_ok (by simp) (by simp) (List.isSublist_iff_sublist.mp (by decide +kernel))
  have c0 := kCall_d0 (n := 1) (vs := [.d (txD ⟨lsT, ["b", "c"]⟩)]) rfl (check_text_v hT mh)
  have h : m_fault_by [.d (txD ⟨lsT, ["b", "c"]⟩)] mh = .ok (.d (.tuple [.str "goals"])) mh := by
    have g1 := gs_1 ⟨lsT, ["b", "c"]⟩ mh
    have nl : nLen [.d (gsD ["b", "c"])] mh = .ok (.d (.int 2)) mh := by unfold gsD sL; simp
    unfold m_fault_by dM b_fault_by
    generalize txD ⟨lsT, ["b", "c"]⟩ = tt at *
    generalize gsD ["b", "c"] = gg at *
    simp [startL, g1, nl, fin]
  have c1 := kCall_d0 (n := 1) (vs := [.d (txD ⟨lsT, ["b", "c"]⟩)]) rfl h
  unfold m_check_tree dM b_check_tree
  generalize txD ⟨lsT, ["b", "c"]⟩ = tt at *
  simp [startL, c0, c1, fin, pvT]
end
end K70


set_option Elab.async false
set_option linter.all false
set_option maxRecDepth 100000
set_option maxHeartbeats 4000000
namespace K70
open PySem EL
section
variable {ds : List Int} {lo : Lo} {mh : Mh}
theorem rep_eq (z : Str) (k : Nat) (hk : k ≤ 1000) (lo : Lo) (mh : Mh) : (mFrz (lRep (mFrz (lDisp (aCons (mC (.str z)) aNil))) (mC (.int (k : Nat))))) lo mh = .ok (.d (.list (List.replicate k (.str z)))) mh := by
  have hr := kRepL2_1 (x := .str z) (k := k) (by omega) mh
  have f1 := frzL_d (mh := mh) [.str z]
  have eC : (mFrz (lDisp (aCons (mC (.str z)) aNil))) lo mh = .ok (.d (.list [.str z])) mh := by
    simp [f1]
  rw [mFrz_ap, lRep_ap, eC, Res.bind_ok, kRepL1_ap, mC_ap, Res.bind_ok, hr, Res.bind_ok, frzL_d]
theorem repl_gd (z : Str) (k : Nat) : GD 2 (.list (List.replicate k (.str z))) := GD.list fun x hx => by rw [List.eq_of_mem_replicate hx]; exact GD.str 0 _
theorem tree_e (gs : List Str) (hc : ∀ mh, m_check_tree [.d (txD ⟨lsT, gs⟩)] mh = .exc 2 mh) (hll : lo.length = 20) (h16 : lo[16]? = some (some (.d (lsD lsT)))) (mg : AM) (hg : ∀ lo mh, mg lo mh = .ok [.d (gsD gs)] mh) (mh : Mh) :
    (mB (bind2 (mFrz (mLC (iSeq (mTup (aCons (mC (.int 2)) (aCons (mC (.int 3)) aNil)))) (.nm 19) bYes (mCall 3 m__law_error (aCons (mV 19) (aCons (mTup (aCons (mV 16) mg)) (aCons (mC .none) aNil)))) [19])) (mFrz (lRep (mFrz (lDisp (aCons (mC (.str "tree")) aNil))) (mC (.int 2)))) oNe)) lo mh = .ok false mh := by
  have el : lcL always (.nm 19) bYes (mCall 3 m__law_error (aCons (mV 19) (aCons (mTup (aCons (mV 16) mg)) (aCons (mC .none) aNil)))) (lo.set 19 none) ((([2, 3] : List Nat).map fun i : Nat => PyData.int (i : Nat)).map .d) mh = .ok ((List.replicate 2 (PyData.str "tree")).map .d) mh := by
    have := lcL_d (gg := always) (t := .nm 19) (me := mCall 3 m__law_error (aCons (mV 19) (aCons (mTup (aCons (mV 16) mg)) (aCons (mC .none) aNil)))) (lo0 := lo.set 19 none) (mh := mh) ([2, 3] : List Nat) (fun i : Nat => PyData.int (i : Nat)) (fun _ => PyData.str "tree") trivial fun i hi => ⟨_, rfl, by
      have c := kCall_d0 (n := 3) (vs := [.d (.int (i : Nat)), .d (txD ⟨lsT, gs⟩), .d .none]) rfl (le_tree (by simpa using hi) (hc mh))
      have g19 : ((lo.set 19 none).set 19 (some (.d (.int (i : Nat)))))[19]? = some (some (.d (.int (i : Nat)))) := by rw [List.getElem?_set_self (by simp [hll])]
      have g16 : ((lo.set 19 none).set 19 (some (.d (.int (i : Nat)))))[16]? = some (some (.d (lsD lsT))) := by rw [List.getElem?_set_ne (by omega), List.getElem?_set_ne (by omega)]; exact h16
      show (mCall 3 m__law_error (aCons (mV 19) (aCons (mTup (aCons (mV 16) mg)) (aCons (mC .none) aNil)))) ((lo.set 19 none).set 19 (some (.d (.int (i : Nat))))) mh = _
      generalize (lo.set 19 none).set 19 (some (.d (.int (i : Nat)))) = lo2 at g16 g19 ⊢
      unfold txD at c
      have c : kCall 3 m__law_error [.d (.int (i : Nat)), .d (.tuple [lsD lsT, gsD gs]), .d .none] mh = .ok (.d (.str "tree")) mh := c
      generalize lsD lsT = ll at *
      generalize gsD gs = gg at *
      simp [-getElem?_pos, g16, g19, hg, c]⟩
    exact this
  have hseq : iSeq (mTup (aCons (mC (.int 2)) (aCons (mC (.int 3)) aNil))) lo mh = .ok ((([2, 3] : List Nat).map fun i : Nat => PyData.int (i : Nat)).map .d, always) mh := rfl
  have hk : kLen ((List.replicate 2 (PyData.str "tree")).map .d) mh = .ok ((List.replicate 2 (PyData.str "tree")).map .d) mh := kLen_ok (by simp)
  have hr := rep_eq "tree" 2 (by omega) lo mh
  have hne := oNe_same (mh := mh) (repl_gd "tree" 2) (by omega)
  generalize List.replicate 2 (PyData.str "tree") = rp at *
  generalize (([2, 3] : List Nat).map fun i : Nat => PyData.int (i : Nat)).map PV.d = rs at *
  rw [show ((2 : Nat) : Int) = 2 from rfl] at hr
  rw [mB_ap, bind2_ap, mFrz_ap, mLC_ap, hseq, Res.bind_ok, wipeL_cons, wipeL_nil, kLC_ap, el, Res.bind_ok, hk, Res.bind_ok, frzL_d, Res.bind_ok, k2a_ap, hr, Res.bind_ok, k2b_ap, hne, Res.bind_ok]
  rfl
def badL : List (Nat × PyData) := [(0, .none), (1, .tuple []), (2, .none), (3, .tuple [])]
theorem law_v (ns : List Int) (hl : ns.length ≤ 63) (mh : Mh) : m_law [.scr ns] mh = .ok (.d (.bool true)) mh := by
  obtain ⟨ds, hd, hin, gb, e0⟩ := law_draws_v ns hl mh
  have c0 := kCall_d (n := 2) (vs := [.scr ns, .d (.int 400)]) rfl e0
  let lo0 : Lo := startL 20 [.scr ns]
  let lo1 : Lo := lo0.set 1 (some (.d (.list (ds.map .int))))
  have p0 : (sSet 1 (mCall 2 m__law_draws (aCons (mV 0) (aCons (mC (.int 400)) aNil)))) lo0 mh = .nx lo1 mh := by
    have h0 : lo0[0]? = some (some (.scr ns)) := rfl
    simp only [lo1]
    generalize lo0 = lo at h0 ⊢
    simp [-getElem?_pos, h0, c0]
  have hi : iRg1 (aCons (mC (.int 5)) aNil) lo1 mh = .ok ((List.range 5).map fun i : Nat => PV.d (.int (i : Nat)), always) mh := iRg1_n (n := 5) (by omega) rfl
  have hL : L0 ds lo1 := ⟨rfl, rfl⟩
  obtain ⟨lo2, mh2, e2, rfl, L2⟩ := forL_to (gg := always) (t := .nm 2) (m := l_law_5) (σ := Unit) (fun _ lo mh' => mh' = mh ∧ L0 ds lo) (fun k : Nat => PV.d (.int (k : Nat))) (fun _ _ => ()) (fun _ _ _ _ => trivial) (List.range 5) () lo1 mh
    (by
      rintro _ k lo mh' hk ⟨rfl, L⟩
      have hll := L.l
      obtain ⟨lo', e, L'⟩ := law_5 (lo := lo.set 2 (some (.d (.int (k : Nat))))) hin hd (List.mem_range.mp hk) ⟨by simp [hll], by rw [List.getElem?_set_ne (by omega)]; exact L.h1⟩ (by rw [List.getElem?_set_self (by omega)]) mh'
      exact ⟨_, lo', mh', rfl, .inl e, rfl, L'⟩) ⟨rfl, hL⟩
  have p1 : (sFor (iRg1 (aCons (mC (.int 5)) aNil)) (.nm 2) l_law_5) lo1 mh2 = .nx lo2 mh2 := by rw [sFor_ap, hi, ofR_ok]; exact e2
  have hl2 := L2.l
  let lo3 : Lo := lo2.set 16 (some (.d (lsD lsT)))
  have p2 : (sSet 16 (mTup (aCons (mTup (aCons (mC (.str "a")) (aCons (mC (.str "in")) (aCons (mTup aNil) aNil)))) (aCons (mTup (aCons (mC (.str "b")) (aCons (mC (.str "neg")) (aCons (mTup (aCons (mC (.str "a")) aNil)) aNil)))) (aCons (mTup (aCons (mC (.str "c")) (aCons (mC (.str "add")) (aCons (mTup (aCons (mC (.str "b")) (aCons (mC (.str "b")) aNil))) aNil)))) aNil))))) lo2 mh2 = .nx lo3 mh2 := rfl
  have h16 : lo3[16]? = some (some (.d (lsD lsT))) := by simp only [lo3]; rw [List.getElem?_set_self (by omega)]
  have hl3 : lo3.length = 20 := by simp [lo3, hl2]
  have p3 : (sIf (bOr (mB (bind2 (mFrz (mLC (iSeq (mTup (aCons (mC (.int 2)) (aCons (mC (.int 3)) aNil)))) (.nm 19) bYes (mCall 3 m__law_error (aCons (mV 19) (aCons (mTup (aCons (mV 16) (aCons (mTup (aCons (mC (.str "c")) aNil)) aNil))) (aCons (mC .none) aNil)))) [19])) (mFrz (lRep (mFrz (lDisp (aCons (mC (.str "tree")) aNil))) (mC (.int 2)))) oNe)) (mB (bind2 (mFrz (mLC (iSeq (mTup (aCons (mC (.int 2)) (aCons (mC (.int 3)) aNil)))) (.nm 19) bYes (mCall 3 m__law_error (aCons (mV 19) (aCons (mTup (aCons (mV 16) (aCons (mTup (aCons (mC (.str "b")) (aCons (mC (.str "c")) aNil))) aNil))) (aCons (mC .none) aNil)))) [19])) (mFrz (lRep (mFrz (lDisp (aCons (mC (.str "tree")) aNil))) (mC (.int 2)))) oNe))) (sSeq (sRet (mC (.bool false))) sNil) sNil) lo3 mh2 = .nx lo3 mh2 := by
    have q1 := tree_e ["c"] tree_1 hl3 h16 (aCons (mTup (aCons (mC (.str "c")) aNil)) aNil) (fun _ _ => rfl) mh2
    have q2 := tree_e ["b", "c"] tree_2 hl3 h16 (aCons (mTup (aCons (mC (.str "b")) (aCons (mC (.str "c")) aNil))) aNil) (fun _ _ => rfl) mh2
    have hc : ((bOr (mB (bind2 (mFrz (mLC (iSeq (mTup (aCons (mC (.int 2)) (aCons (mC (.int 3)) aNil)))) (.nm 19) bYes (mCall 3 m__law_error (aCons (mV 19) (aCons (mTup (aCons (mV 16) (aCons (mTup (aCons (mC (.str "c")) aNil)) aNil))) (aCons (mC .none) aNil)))) [19])) (mFrz (lRep (mFrz (lDisp (aCons (mC (.str "tree")) aNil))) (mC (.int 2)))) oNe)) (mB (bind2 (mFrz (mLC (iSeq (mTup (aCons (mC (.int 2)) (aCons (mC (.int 3)) aNil)))) (.nm 19) bYes (mCall 3 m__law_error (aCons (mV 19) (aCons (mTup (aCons (mV 16) (aCons (mTup (aCons (mC (.str "b")) (aCons (mC (.str "c")) aNil))) aNil))) (aCons (mC .none) aNil)))) [19])) (mFrz (lRep (mFrz (lDisp (aCons (mC (.str "tree")) aNil))) (mC (.int 2)))) oNe)))) lo3 mh2 = .ok false mh2 := by
      rw [bOr_ap, q1, Res.bind_ok]
      exact q2
    rw [sIf_ap, hc, ofR_ok, kSIf_f, sNil_ap]
  have p4 : (sRet (bind2 (mFrz (mLC (iSeq (mTup (aCons (mTup (aCons (mC (.int 0)) (aCons (mC .none) aNil))) (aCons (mTup (aCons (mC (.int 1)) (aCons (mTup aNil) aNil))) (aCons (mTup (aCons (mC (.int 2)) (aCons (mC .none) aNil))) (aCons (mTup (aCons (mC (.int 3)) (aCons (mTup aNil) aNil))) aNil)))))) (.tp [(.nm 19), (.nm 13)]) bYes (mCall 3 m__law_error (aCons (mV 19) (aCons (mV 13) (aCons (mC .none) aNil)))) [19, 13])) (mFrz (lRep (mFrz (lDisp (aCons (mC (.str "making")) aNil))) (mC (.int 4)))) oEq)) lo3 mh2 = .rt (.d (.bool true)) mh2 := by
    have el : lcL always (.tp [.nm 19, .nm 13]) bYes (mCall 3 m__law_error (aCons (mV 19) (aCons (mV 13) (aCons (mC .none) aNil)))) ((lo3.set 13 none).set 19 none) ((badL.map fun p => PyData.tuple [.int (p.1 : Nat), p.2]).map .d) mh2 = .ok ((badL.map fun _ => PyData.str "making").map .d) mh2 :=
      lcL_d badL (fun p => PyData.tuple [.int (p.1 : Nat), p.2]) (fun _ => PyData.str "making") trivial fun p hp => ⟨_, tgt_2 19 13 _ _, by
        have hq : p.1 < 4 ∧ (p.2 = .none ∨ p.2 = .tuple []) := by
          simp only [badL, List.mem_cons, List.not_mem_nil, or_false] at hp
          rcases hp with rfl | rfl | rfl | rfl <;> simp
        have c := kCall_d0 (n := 3) (vs := [.d (.int (p.1 : Nat)), .d p.2, .d .none]) rfl (le_bad hq.1 hq.2 mh2)
        have hlw : ((lo3.set 13 none).set 19 none).length = 20 := by simp [hl3]
        generalize (lo3.set 13 none).set 19 none = lo4 at hlw ⊢
        have g19 : (upL lo4 [(19, PV.d (.int (p.1 : Nat))), (13, .d p.2)])[19]? = some (some (.d (.int (p.1 : Nat)))) := by
          show ((lo4.set 19 _).set 13 _)[19]? = _
          rw [List.getElem?_set_ne (by omega), List.getElem?_set_self (by omega)]
        have g13 : (upL lo4 [(19, PV.d (.int (p.1 : Nat))), (13, .d p.2)])[13]? = some (some (.d p.2)) := by
          show ((lo4.set 19 _).set 13 _)[13]? = _
          rw [List.getElem?_set_self (by simp; omega)]
        generalize upL lo4 [(19, PV.d (.int (p.1 : Nat))), (13, .d p.2)] = lo5 at g13 g19 ⊢
        simp [-getElem?_pos, g19, g13, c]⟩
    have hseq : ((iSeq (mTup (aCons (mTup (aCons (mC (.int 0)) (aCons (mC .none) aNil))) (aCons (mTup (aCons (mC (.int 1)) (aCons (mTup aNil) aNil))) (aCons (mTup (aCons (mC (.int 2)) (aCons (mC .none) aNil))) (aCons (mTup (aCons (mC (.int 3)) (aCons (mTup aNil) aNil))) aNil))))))) lo3 mh2 = .ok ((badL.map fun p => PyData.tuple [.int (p.1 : Nat), p.2]).map .d, always) mh2 := rfl
    have hk : kLen ((badL.map fun _ => PyData.str "making").map .d) mh2 = .ok ((badL.map fun _ => PyData.str "making").map .d) mh2 := kLen_ok (by simp [badL])
    have hr := rep_eq "making" 4 (by omega) lo3 mh2
    have he := oEq_same (mh := mh2) (repl_gd "making" 4) (by omega)
    have hb : (badL.map fun _ => PyData.str "making") = List.replicate 4 (PyData.str "making") := rfl
    rw [hb] at el hk
    generalize List.replicate 4 (PyData.str "making") = rp at *
    generalize (badL.map fun p => PyData.tuple [.int (p.1 : Nat), p.2]).map PV.d = rs at *
    rw [show ((4 : Nat) : Int) = 4 from rfl] at hr
    generalize (mCall 3 m__law_error (aCons (mV 19) (aCons (mV 13) (aCons (mC .none) aNil)))) = ME at *
    rw [sRet_ap, bind2_ap, mFrz_ap, mLC_ap, hseq, Res.bind_ok, wipeL_cons, wipeL_cons, wipeL_nil, kLC_ap, el, Res.bind_ok, hk, Res.bind_ok, frzL_d, Res.bind_ok, k2a_ap, hr, Res.bind_ok, k2b_ap, he, ofR_ok]
  unfold m_law dM b_law
  show (match (sSeq _ _) lo0 mh2 with | _ => _) = _
  rw [sSeq_ap, p0, sq_nx, sSeq_ap, p1, sq_nx, sSeq_ap, p2, sq_nx, sSeq_ap, p3, sq_nx, sSeq_ap, p4]
  rfl
end
end K70


set_option Elab.async false
set_option linter.all false
set_option maxRecDepth 100000
set_option maxHeartbeats 4000000
namespace K70
open PySem EL
theorem plain (ns : List Int) (hl : ns.length ≤ 63) : ∃ mh, m_law [.scr ns] [] = .ok (.d (.bool true)) mh := ⟨[], law_v ns hl []⟩
end K70


set_option Elab.async false
set_option linter.all false
set_option maxRecDepth 100000
set_option maxHeartbeats 4000000
namespace K70
open PySem PySem.Spec PyProof.Rows L2 EL
def fa : List He.Fa := ([.glo "_is_line", .glo "_law_draws", .glo "_law_error", .glo "_law_fault", .glo "_law_text", .glo "_law_tree", .glo "_law_turned", .glo "_line_fault", .glo "best_turns", .glo "check_text", .glo "check_tree", .glo "fault_by", .glo "goals_by", .glo "is_name", .glo "is_turn", .glo "law", .glo "moved_ahead", .glo "needed_by", .glo "needs_by", .glo "numbers_in", .glo "put_line", .glo "text_fault", .glo "turn_by", .glo "turned", .glo "turned_places", .glo "turns_fault", .glo "uses_by", .glo "worked", .free "abs", .free "all"] : List He.Fa) ++ ([.free "dict", .free "enumerate", .free "int", .free "isinstance", .free "len", .free "list", .free "max", .free "range", .free "sorted", .free "str", .free "sum", .free "tuple", .free "zip", .glo "EITHER", .glo "FORM_texts", .glo "FORM_turned", .str "LEFT" "left", .str "LETTERS" "abcdefghijklmnopqrstuvwxyz", .glo "MANY_GOALS", .int "MOST_GOALS" 6, .int "MOST_LINES" 60, .int "MOST_NAME" 8, .int "MOST_STEPS" 5000, .str "SWAP" "swap", .glo "NEEDS", .exc "BadMaking", .glo "BadMaking", .exc "BadSteps", .glo "BadSteps", .exc "BadTree"] : List He.Fa) ++ ([.glo "BadTree"] : List He.Fa)
def fn : List He.DefD := ([⟨("is_name", none), "is_name", "is_name", defArgs (top 13), defBody (top 13), defScope (top 13), [], []⟩, ⟨("_is_line", none), "_is_line", "_is_line", defArgs (top 14), defBody (top 14), defScope (top 14), [], []⟩, ⟨("_line_fault", none), "_line_fault", "_line_fault", defArgs (top 15), defBody (top 15), defScope (top 15), [], []⟩, ⟨("text_fault", none), "text_fault", "text_fault", defArgs (top 16), defBody (top 16), defScope (top 16), [], []⟩, ⟨("check_text", none), "check_text", "check_text", defArgs (top 17), defBody (top 17), defScope (top 17), [], []⟩, ⟨("numbers_in", none), "numbers_in", "numbers_in", defArgs (top 18), defBody (top 18), defScope (top 18), [], []⟩, ⟨("needs_by", none), "needs_by", "needs_by", defArgs (top 19), defBody (top 19), defScope (top 19), [], []⟩, ⟨("goals_by", none), "goals_by", "goals_by", defArgs (top 20), defBody (top 20), defScope (top 20), [], []⟩, ⟨("needed_by", none), "needed_by", "needed_by", defArgs (top 21), defBody (top 21), defScope (top 21), [], []⟩, ⟨("fault_by", none), "fault_by", "fault_by", defArgs (top 25), defBody (top 25), defScope (top 25), [], []⟩, ⟨("check_tree", none), "check_tree", "check_tree", defArgs (top 26), defBody (top 26), defScope (top 26), [], []⟩, ⟨("uses_by", none), "uses_by", "uses_by", defArgs (top 32), defBody (top 32), defScope (top 32), [], []⟩, ⟨("put_line", none), "put_line", "put_line", defArgs (top 33), defBody (top 33), defScope (top 33), [], []⟩, ⟨("moved_ahead", none), "moved_ahead", "moved_ahead", defArgs (top 34), defBody (top 34), defScope (top 34), [], []⟩, ⟨("turn_by", none), "turn_by", "turn_by", defArgs (top 35), defBody (top 35), defScope (top 35), [], []⟩, ⟨("is_turn", none), "is_turn", "is_turn", defArgs (top 36), defBody (top 36), defScope (top 36), [], []⟩, ⟨("turns_fault", none), "turns_fault", "turns_fault", defArgs (top 37), defBody (top 37), defScope (top 37), [], []⟩, ⟨("turned", none), "turned", "turned", defArgs (top 38), defBody (top 38), defScope (top 38), [], []⟩, ⟨("worked", none), "worked", "worked", defArgs (top 41), defBody (top 41), defScope (top 41), [], []⟩, ⟨("best_turns", none), "best_turns", "best_turns", defArgs (top 42), defBody (top 42), defScope (top 42), [], []⟩, ⟨("turned_places", none), "turned_places", "turned_places", defArgs (top 43), defBody (top 43), defScope (top 43), [], []⟩, ⟨("_law_draws", none), "_law_draws", "_law_draws", defArgs (top 45), defBody (top 45), defScope (top 45), [], []⟩, ⟨("_law_text", none), "_law_text", "_law_text", defArgs (top 46), defBody (top 46), defScope (top 46), [], []⟩, ⟨("_law_tree", none), "_law_tree", "_law_tree", defArgs (top 47), defBody (top 47), defScope (top 47), [], []⟩, ⟨("_law_turned", none), "_law_turned", "_law_turned", defArgs (top 48), defBody (top 48), defScope (top 48), [], []⟩, ⟨("_law_fault", none), "_law_fault", "_law_fault", defArgs (top 55), defBody (top 55), defScope (top 55), [], []⟩, ⟨("_law_error", none), "_law_error", "_law_error", defArgs (top 56), defBody (top 56), defScope (top 56), [], []⟩, ⟨("law", none), "law", "law", defArgs (top 57), defBody (top 57), defScope (top 57), [], []⟩] : List He.DefD)
def ts : List He.Tab := [((fun K => He.ga K "NEEDS"), ["in", "neg", "double", "add", "sub", "times", "least", "greatest"])]
def exB0 (K : PySem.W.Frag) : Bool := tupBN K "EITHER" [.str "add", .str "times", .str "least", .str "greatest"]
def exB1 (K : PySem.W.Frag) : Bool := tupBN K "FORM_texts" [.str "form"]
def exB2 (K : PySem.W.Frag) : Bool := tupBN K "FORM_turned" [.str "form"]
def exB3 (K : PySem.W.Frag) : Bool := tupBN K "MANY_GOALS" [.str "goals"]
def exB4 (K : PySem.W.Frag) : Bool := He.valsB K (He.ga K "NEEDS") (tabDv t_NEEDS)
def exB5 (K : PySem.W.Frag) : Bool := ([1, 2, 3]).all fun c => ([1, 2, 3]).all fun p => decide (PySem.W.exmOne K (.ref (cls K c)) (.ref (cls K p)) = some (p == c))
def ex (K : PySem.W.Frag) : Bool := true && exB0 K && exB1 K && exB2 K && exB3 K && exB4 K && exB5 K
theorem ex0 {K : PySem.W.Frag} (h : ex K = true) : exB0 K = true := by unfold ex at h; simp only [Bool.and_eq_true] at h; exact h.1.1.1.1.1.2
theorem ex1 {K : PySem.W.Frag} (h : ex K = true) : exB1 K = true := by unfold ex at h; simp only [Bool.and_eq_true] at h; exact h.1.1.1.1.2
theorem ex2 {K : PySem.W.Frag} (h : ex K = true) : exB2 K = true := by unfold ex at h; simp only [Bool.and_eq_true] at h; exact h.1.1.1.2
theorem ex3 {K : PySem.W.Frag} (h : ex K = true) : exB3 K = true := by unfold ex at h; simp only [Bool.and_eq_true] at h; exact h.1.1.2
theorem ex4 {K : PySem.W.Frag} (h : ex K = true) : exB4 K = true := by unfold ex at h; simp only [Bool.and_eq_true] at h; exact h.1.2
theorem ex5 {K : PySem.W.Frag} (h : ex K = true) : exB5 K = true := by unfold ex at h; simp only [Bool.and_eq_true] at h; exact h.2
theorem em_of {K : PySem.W.Frag} {a : Nat} {p : Nat × Str} (h : exB5 K = true) (ha : a ∈ [1, 2, 3]) (hp : p.1 ∈ [1, 2, 3]) : PySem.W.exmOne K (.ref (cls K a)) (.ref (cls K p.1)) = some (p.1 == a) := by
  unfold exB5 at h
  exact of_decide_eq_true (List.all_eq_true.mp (List.all_eq_true.mp h a ha) p.1 hp)
theorem tabs {w : World} {h : Heap} {K : PySem.W.Frag} (c : He.SaysX fa fn ts [] ex w h K) (i : Nat) {t : He.Tab} (hi : ts[i]? = some t) : He.dicW K (t.1 K) = some (He.keysIn w.params t.2) := by
  have e := congrArg (fun z => z.2[i]?) c.t
  simpa [He.obsT, He.valT, List.getElem?_map, hi] using e
abbrev R : PySem.W.OpenRow := PySem.W.OpenLaw.row PySem.Challenge.rw_fewplaces_k70_whole_turns
abbrev hk : PySem.W.Hook := He.hookX 5 fa fn ts [] ex
def ob (s : PySem.W.SharedT) : He.AlX := He.obsX 5 fa fn ts [] ex (HandSHeadRun.getT s)
theorem ob_eq (s : PySem.W.SharedT) : ob s = hk.obs s.abs := He.obsX_eq (HandSHeadRun.getT_eq s)
def loose : List PySem.Str := (["PlaceError", "BadMaking", "BadTree", "BadSteps", "LETTERS", "MOST_NAME", "MOST_LINES", "MOST_GOALS", "IN", "NEEDS", "FORM_texts", "is_name", "_is_line", "_line_fault", "text_fault", "check_text", "numbers_in", "needs_by", "goals_by", "needed_by", "EITHER", "MANY_GOALS", "fault_by", "check_tree", "SWAP", "LEFT", "MOST_STEPS", "FORM_turned", "uses_by", "put_line"] : List PySem.Str) ++ (["moved_ahead", "turn_by", "is_turn", "turns_fault", "turned", "Turning", "joined", "worked", "best_turns", "turned_places", "_law_draws", "_law_text", "_law_tree", "_law_turned", "_law_joined", "_law_label", "_law_parts", "_law_least", "_law_half", "_law_fewest", "_law_fault", "_law_error"] : List PySem.Str)
theorem run (w : World) : HandSHeadRun.RunEq R (PySem.W.view R.prog [57]) hk ob 4000 loose w := by
  refine PySem.W.byRow2 "special-get-raises" (P := fun w => HandSHeadRun.RunEq R (PySem.W.view R.prog [57]) hk ob 4000 loose w) (fun w => ?_) (fun w => ?_) w
  · intro os; kernel_rfl
  · intro os; kernel_rfl
theorem fx {w : World} {K : PySem.W.Frag} {h : Heap} {mg : Str → Option Value} (X : K.In h) (G : h.Ns mainGlobals mg) (c : He.SaysX fa fn ts [] ex w h K) : Fx w K mg where
  f_is_name := c.t.d.def_ 0 rfl
  f__is_line := c.t.d.def_ 1 rfl
  f__line_fault := c.t.d.def_ 2 rfl
  f_text_fault := c.t.d.def_ 3 rfl
  f_check_text := c.t.d.def_ 4 rfl
  f_numbers_in := c.t.d.def_ 5 rfl
  f_needs_by := c.t.d.def_ 6 rfl
  f_goals_by := c.t.d.def_ 7 rfl
  f_needed_by := c.t.d.def_ 8 rfl
  f_fault_by := c.t.d.def_ 9 rfl
  f_check_tree := c.t.d.def_ 10 rfl
  f_uses_by := c.t.d.def_ 11 rfl
  f_put_line := c.t.d.def_ 12 rfl
  f_moved_ahead := c.t.d.def_ 13 rfl
  f_turn_by := c.t.d.def_ 14 rfl
  f_is_turn := c.t.d.def_ 15 rfl
  f_turns_fault := c.t.d.def_ 16 rfl
  f_turned := c.t.d.def_ 17 rfl
  f_worked := c.t.d.def_ 18 rfl
  f_best_turns := c.t.d.def_ 19 rfl
  f_turned_places := c.t.d.def_ 20 rfl
  f__law_draws := c.t.d.def_ 21 rfl
  f__law_text := c.t.d.def_ 22 rfl
  f__law_tree := c.t.d.def_ 23 rfl
  f__law_turned := c.t.d.def_ 24 rfl
  f__law_fault := c.t.d.def_ 25 rfl
  f__law_error := c.t.d.def_ 26 rfl
  f_law := c.t.d.def_ 27 rfl
  g__is_line := He.glo_ok X G (c.t.d.fact 0 (f := .glo "_is_line") rfl)
  g__law_draws := He.glo_ok X G (c.t.d.fact 1 (f := .glo "_law_draws") rfl)
  g__law_error := He.glo_ok X G (c.t.d.fact 2 (f := .glo "_law_error") rfl)
  g__law_fault := He.glo_ok X G (c.t.d.fact 3 (f := .glo "_law_fault") rfl)
  g__law_text := He.glo_ok X G (c.t.d.fact 4 (f := .glo "_law_text") rfl)
  g__law_tree := He.glo_ok X G (c.t.d.fact 5 (f := .glo "_law_tree") rfl)
  g__law_turned := He.glo_ok X G (c.t.d.fact 6 (f := .glo "_law_turned") rfl)
  g__line_fault := He.glo_ok X G (c.t.d.fact 7 (f := .glo "_line_fault") rfl)
  g_best_turns := He.glo_ok X G (c.t.d.fact 8 (f := .glo "best_turns") rfl)
  g_check_text := He.glo_ok X G (c.t.d.fact 9 (f := .glo "check_text") rfl)
  g_check_tree := He.glo_ok X G (c.t.d.fact 10 (f := .glo "check_tree") rfl)
  g_fault_by := He.glo_ok X G (c.t.d.fact 11 (f := .glo "fault_by") rfl)
  g_goals_by := He.glo_ok X G (c.t.d.fact 12 (f := .glo "goals_by") rfl)
  g_is_name := He.glo_ok X G (c.t.d.fact 13 (f := .glo "is_name") rfl)
  g_is_turn := He.glo_ok X G (c.t.d.fact 14 (f := .glo "is_turn") rfl)
  g_law := He.glo_ok X G (c.t.d.fact 15 (f := .glo "law") rfl)
  g_moved_ahead := He.glo_ok X G (c.t.d.fact 16 (f := .glo "moved_ahead") rfl)
  g_needed_by := He.glo_ok X G (c.t.d.fact 17 (f := .glo "needed_by") rfl)
  g_needs_by := He.glo_ok X G (c.t.d.fact 18 (f := .glo "needs_by") rfl)
  g_numbers_in := He.glo_ok X G (c.t.d.fact 19 (f := .glo "numbers_in") rfl)
  g_put_line := He.glo_ok X G (c.t.d.fact 20 (f := .glo "put_line") rfl)
  g_text_fault := He.glo_ok X G (c.t.d.fact 21 (f := .glo "text_fault") rfl)
  g_turn_by := He.glo_ok X G (c.t.d.fact 22 (f := .glo "turn_by") rfl)
  g_turned := He.glo_ok X G (c.t.d.fact 23 (f := .glo "turned") rfl)
  g_turned_places := He.glo_ok X G (c.t.d.fact 24 (f := .glo "turned_places") rfl)
  g_turns_fault := He.glo_ok X G (c.t.d.fact 25 (f := .glo "turns_fault") rfl)
  g_uses_by := He.glo_ok X G (c.t.d.fact 26 (f := .glo "uses_by") rfl)
  g_worked := He.glo_ok X G (c.t.d.fact 27 (f := .glo "worked") rfl)
  b_abs := He.free_ok X G (c.t.d.fact 28 (f := .free "abs") rfl)
  b_all := He.free_ok X G (c.t.d.fact 29 (f := .free "all") rfl)
  b_dict := He.free_ok X G (c.t.d.fact 30 (f := .free "dict") rfl)
  b_enumerate := He.free_ok X G (c.t.d.fact 31 (f := .free "enumerate") rfl)
  b_int := He.free_ok X G (c.t.d.fact 32 (f := .free "int") rfl)
  b_isinstance := He.free_ok X G (c.t.d.fact 33 (f := .free "isinstance") rfl)
  b_len := He.free_ok X G (c.t.d.fact 34 (f := .free "len") rfl)
  b_list := He.free_ok X G (c.t.d.fact 35 (f := .free "list") rfl)
  b_max := He.free_ok X G (c.t.d.fact 36 (f := .free "max") rfl)
  b_range := He.free_ok X G (c.t.d.fact 37 (f := .free "range") rfl)
  b_sorted := He.free_ok X G (c.t.d.fact 38 (f := .free "sorted") rfl)
  b_str := He.free_ok X G (c.t.d.fact 39 (f := .free "str") rfl)
  b_sum := He.free_ok X G (c.t.d.fact 40 (f := .free "sum") rfl)
  b_tuple := He.free_ok X G (c.t.d.fact 41 (f := .free "tuple") rfl)
  b_zip := He.free_ok X G (c.t.d.fact 42 (f := .free "zip") rfl)
  k_EITHER := kd_tup X G (c.t.d.fact 43 (f := .glo "EITHER") rfl) (ex0 c.more) rfl
  k_FORM_texts := kd_tup X G (c.t.d.fact 44 (f := .glo "FORM_texts") rfl) (ex1 c.more) rfl
  k_FORM_turned := kd_tup X G (c.t.d.fact 45 (f := .glo "FORM_turned") rfl) (ex2 c.more) rfl
  k_LEFT := kd_str X G (c.t.d.fact 46 (f := .str "LEFT" "left") rfl)
  k_LETTERS := kd_str X G (c.t.d.fact 47 (f := .str "LETTERS" "abcdefghijklmnopqrstuvwxyz") rfl)
  k_MANY_GOALS := kd_tup X G (c.t.d.fact 48 (f := .glo "MANY_GOALS") rfl) (ex3 c.more) rfl
  k_MOST_GOALS := kd_int X G (c.t.d.fact 49 (f := .int "MOST_GOALS" 6) rfl)
  k_MOST_LINES := kd_int X G (c.t.d.fact 50 (f := .int "MOST_LINES" 60) rfl)
  k_MOST_NAME := kd_int X G (c.t.d.fact 51 (f := .int "MOST_NAME" 8) rfl)
  k_MOST_STEPS := kd_int X G (c.t.d.fact 52 (f := .int "MOST_STEPS" 5000) rfl)
  k_SWAP := kd_str X G (c.t.d.fact 53 (f := .str "SWAP" "swap") rfl)
  g_NEEDS := He.glo_ok X G (c.t.d.fact 54 (f := .glo "NEEDS") rfl)
  t_NEEDS := tabK_of (tabs c 0 rfl) (ex4 c.more)
  x_BadMaking := (have e := He.exc_ok (c.t.d.fact 55 (f := .exc "BadMaking") rfl); ⟨e.1, e.2.1, e.2.2.1, e.2.2.2, He.glo_ok X G (c.t.d.fact 56 (f := .glo "BadMaking") rfl)⟩)
  x_BadSteps := (have e := He.exc_ok (c.t.d.fact 57 (f := .exc "BadSteps") rfl); ⟨e.1, e.2.1, e.2.2.1, e.2.2.2, He.glo_ok X G (c.t.d.fact 58 (f := .glo "BadSteps") rfl)⟩)
  x_BadTree := (have e := He.exc_ok (c.t.d.fact 59 (f := .exc "BadTree") rfl); ⟨e.1, e.2.1, e.2.2.1, e.2.2.2, He.glo_ok X G (c.t.d.fact 60 (f := .glo "BadTree") rfl)⟩)
  em := fun a ha p hp => em_of (ex5 c.more) ha hp
end K70


set_option Elab.async false
set_option linter.all false
set_option maxRecDepth 100000
set_option maxHeartbeats 4000000
open PySem PySem.W PySem.Calls PyProof.Rows
theorem PySem.Challenge.cw_fewplaces_k70_whole_turns_holds : PySem.Challenge.rw_fewplaces_k70_whole_turns.Holds := by
  w_on; o_law
  refine HandSHeadRun.head_any (r := OpenLaw.row PySem.Challenge.rw_fewplaces_k70_whole_turns) (q := view (OpenLaw.row PySem.Challenge.rw_fewplaces_k70_whole_turns).prog [57]) (H := K70.hk) (ob := K70.ob) (M := 4000) (loose := K70.loose) (d := HandSHeadRun.topDef (OpenLaw.row PySem.Challenge.rw_fewplaces_k70_whole_turns).prog 57) (kwd := []) K70.ob_eq
    (by kernel_rfl) (fun s => by kernel_rfl) K70.run (by kernel_rfl) (by kernel_rfl) (by kernel_rfl) (by rfl) (by first | assumption | decide +kernel) (by decide +kernel) ⟨rfl, rfl, rfl, rfl, rfl, by decide +kernel⟩ ?hw ?hc
  case hw => w_witness2
  case hc =>
    refine L2.walk_ofE (l := PySem.Challenge.rw_fewplaces_k70_whole_turns) (n := 63) (k := 10) (x := "script") (CX := L2.CX0) rfl (by decide) (by kernel_rfl) ⟨rfl, by decide, by decide⟩ ?F (fun _ _ _ _ z => z)
    intro w mg fa h Y G hmg0
    obtain ⟨K, KX, c⟩ := Y
    have hmg : mg ("law" : PySem.Str) = some (.ref fa) := by
      have e : (HandSHeadRun.topDef (OpenLaw.row PySem.Challenge.rw_fewplaces_k70_whole_turns).prog 57).name = ("law" : PySem.Str) := by kernel_rfl
      rw [← e]
      exact hmg0
    have F := K70.fx KX G c
    have e := hmg.symm.trans F.g_law
    cases e
    obtain ⟨fd, hb, hF⟩ := EL.ok_all fun base => K70.ok_law (P := PySem.Challenge.pw_fewplaces_k70_whole_turns) (base := base) F
    refine ⟨K, fd, _, KX, fun s u => hb s [u] rfl, fun H a ns hl _ hS => ?_, fun base _ _ => hF base⟩
    obtain ⟨mh, hm⟩ := K70.plain ns hl
    exact EL.law_sp hS hm


