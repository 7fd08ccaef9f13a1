import PyProof.Rows.All
import HandS.Lambda
import HandS.ForMost
import HandS.ForExc
import HandS.TupAny
import HandS.WideBits
import HandS.Wide
import HandS.Gcd
import HandS.IsInst
import HandS.Flow
import HandS.Style
import HandS.DictComp
import HandS.SetKeys
import HandS.ExcSuper
import HandS.RaiseMore
import HandS.TupMul
import HandS.Small
import HandS.Zip
import HandS.TryOnly
import HandS.TryMany
import HandS.ExcField
import HandS.ExcIs
import HandS.CallSlots
import HandS.Property
import HandS.MakeKwOnly
import KE.OsSortAny
import KE.GoesMore
import KE.GoesZip
import KE.KDictPairs
import KE.KSuper
import KE.KExcSuper
import HandS.ExcInit
import HandS.ExcValue
import PySem.Challenge.RW_pointtally_k92_whole_rooms_written_out
import KE.KExcIs
import HandS.EndTab
import KE.IntBitsLaws
import PyProof.ReprLen
import PyProof.ReprText
import PyProof.Rows.ReprOcc
import Wide.All
import OpenK.AllK
import Wide.FinOn
import HandS.Words
import KE.RegKSuper
set_option Elab.async false
set_option linter.all false
/-! PtT: the law's own addresses behind the top: classes, code objects, tables of code objects. -/
namespace Pt
open PySem
abbrev cNotNamed : Addr := 46
abbrev cNotBook : Addr := 67
abbrev cTallyError : Addr := 24
abbrev fNotNamed : Addr := 43
/-- _law_unnamed's code object and its table -/
abbrev cUn : Addr := 275
abbrev pUn : Addr := 271
abbrev theT : List (PySem.Addr × PySem.Str) := [(pUn, "_law_unnamed" ++ ".<locals>." ++ "<lambda>")]
end Pt
set_option maxRecDepth 100000
/-! Pt1: pure data, a store of cells, what they are in the abstract heap; readings made of plain functions. -/
namespace Pt
open PySem PySem.Spec PyProof.Rows L2

/-- data without identity: what is only read -/
inductive PD where
  | non
  | bl (b : Bool)
  | int (i : Int)
  | str (x : Str)
  | tup (ds : List PD)
  | lst (ds : List PD)
  | dct (kvs : List (L2.Key × PD))
  | scr (ns : List Int)
  | tpl (ds : List PD)
  | exc (C : Addr) (fs : List (Str × PD))
/-- tables of code objects -/
abbrev Tb := List (Addr × Str)
/-- the addresses of the cells; those of what is hidden (a list that a comprehension fills); the tables of code objects -/
structure Wd where
  c : List Addr
  h : List Addr
  f : Tb
def Wd.out (ρ : Wd) (a : Addr) : Prop := a ∉ ρ.c ∧ a ∉ ρ.h
/-- a value: pure data, the n-th cell of the store, or something opaque -/
inductive D where
  | p (d : PD)
  | ref (n : Nat)
  | v (x : V)
/-- what changes -/
inductive Cell where
  | lst (ds : List D)
  | dK (kvs : List (L2.Key × D))
  | dT (kvs : List (List L2.Key × D))

def KTup (K : PySem.W.Frag) (a : Addr) (xs : List V) : Prop :=
  ∃ (o : Obj) (its : Array Value) (n : Nat), K.lookup a = some o ∧ o.cls = .type "tuple" ∧ o.dict = none ∧ o.data = .seq its n ∧ its.size ≤ sizeLine ∧ Vals xs its.toList
def KLst (K : PySem.W.Frag) (a : Addr) (xs : List V) : Prop :=
  ∃ (o : Obj) (its : Array Value) (n : Nat), K.lookup a = some o ∧ o.cls = .type "list" ∧ o.dict = none ∧ o.data = .seq its n ∧ its.size ≤ sizeLine ∧ Vals xs its.toList
/-- a tuple: known as an object without a dict of its own -/
def TupH (_f : Tb) (H : Hp) (a : Addr) (xs : List V) : Prop := ∃ o, H a = some (.frz o (.tup xs)) ∧ o.dict = none
theorem TupH.rd {f : Tb} {H : Hp} {a : Addr} {xs : List V} (h : TupH f H a xs) : Rd H a (.tup xs) := by
  obtain ⟨o, h, _⟩ := h
  exact Or.inr ⟨o, h⟩
structure TupAt (K : PySem.W.Frag) (H : Hp) (ρ : Wd) (a : Addr) (xs : List V) : Prop where
  fit : xs.length ≤ sizeLine
  at' : (TupH ρ.f H a xs ∧ ρ.out a) ∨ KTup K a xs
structure TplAt (H : Hp) (ρ : Wd) (a : Addr) (xs : List V) : Prop where
  fit : xs.length ≤ sizeLine
  at' : H a = some (.tup xs)
  out : ρ.out a
structure ScrAt (K : PySem.W.Frag) (H : Hp) (ρ : Wd) (a : Addr) (xs : List V) : Prop where
  fit : xs.length ≤ sizeLine
  at' : (Rd H a (.lst xs) ∧ ρ.out a) ∨ KLst K a xs
structure LstAt (H : Hp) (ρ : Wd) (a : Addr) (xs : List V) : Prop where
  fit : xs.length ≤ sizeLine
  at' : H a = some (.lst xs)
  out : ρ.out a
/-- an exception of a class of the program that was caught: its object, its dict -/
structure ExcAt (H : Hp) (ρ : Wd) (a C : Addr) (ws : List (Str × V)) : Prop where
  at' : ∃ (oe : Obj) (dd : Addr) (vs : Array Value), H a = some (.frz oe (.own a)) ∧ oe.cls = .ref C ∧ oe.dict = some dd ∧ oe.data = .fields vs ∧ H dd = some (.xd ws) ∧ ρ.out dd
  out : ρ.out a
structure DctAt (H : Hp) (ρ : Wd) (a : Addr) (ws : List (L2.Key × V)) : Prop where
  fit : ws.length ≤ sizeLine
  at' : H a = some (.dK ws)
  out : ρ.out a
theorem TupAt.sq {K : PySem.W.Frag} {H : Hp} {ρ : Wd} {a : Addr} {xs : List V} (h : TupAt K H ρ a xs) : SqT K H a xs := by
  rcases h.at' with ⟨h, _⟩ | ⟨o, its, n, h1, h2, _, h3⟩
  · exact Or.inl h.rd
  · exact Or.inr ⟨o, its, n, h1, h2, h3⟩
theorem TplAt.sq {K : PySem.W.Frag} {H : Hp} {ρ : Wd} {a : Addr} {xs : List V} (h : TplAt H ρ a xs) : SqT K H a xs := Or.inl (Or.inl h.at')
theorem ScrAt.sq {K : PySem.W.Frag} {H : Hp} {ρ : Wd} {a : Addr} {xs : List V} (h : ScrAt K H ρ a xs) : SqL K H a xs := by
  rcases h.at' with ⟨h, _⟩ | h
  · exact Or.inl h
  · exact Or.inr h
theorem LstAt.sq {K : PySem.W.Frag} {H : Hp} {ρ : Wd} {a : Addr} {xs : List V} (h : LstAt H ρ a xs) : SqL K H a xs := Or.inl (Or.inl h.at')

mutual
def RelP (K : PySem.W.Frag) (H : Hp) (ρ : Wd) : PD → V → Prop
  | .non, v => v = .non
  | .bl b, v => v = .bl b
  | .int i, v => v = .int i
  | .str x, v => v = .str x
  | .tup ds, v => ∃ a vs, v = .ref a ∧ TupAt K H ρ a vs ∧ RelPs K H ρ ds vs
  | .lst ds, v => ∃ a vs, v = .ref a ∧ LstAt H ρ a vs ∧ RelPs K H ρ ds vs
  | .dct kvs, v => ∃ a ws, v = .ref a ∧ DctAt H ρ a ws ∧ RelKs K H ρ kvs ws
  | .scr ns, v => ∃ a, v = .ref a ∧ ScrAt K H ρ a (ns.map V.int)
  | .tpl ds, v => ∃ a vs, v = .ref a ∧ TplAt H ρ a vs ∧ RelPs K H ρ ds vs
  | .exc C fs, v => ∃ a ws, v = .ref a ∧ ExcAt H ρ a C ws ∧ RelFs K H ρ fs ws
def RelPs (K : PySem.W.Frag) (H : Hp) (ρ : Wd) : List PD → List V → Prop
  | [], vs => vs = []
  | d :: ds, vs => ∃ v r, vs = v :: r ∧ RelP K H ρ d v ∧ RelPs K H ρ ds r
def RelKs (K : PySem.W.Frag) (H : Hp) (ρ : Wd) : List (L2.Key × PD) → List (L2.Key × V) → Prop
  | [], ws => ws = []
  | (k, d) :: ds, ws => ∃ v r, ws = (k, v) :: r ∧ RelP K H ρ d v ∧ RelKs K H ρ ds r
def RelFs (K : PySem.W.Frag) (H : Hp) (ρ : Wd) : List (Str × PD) → List (Str × V) → Prop
  | [], ws => ws = []
  | (k, d) :: ds, ws => ∃ v r, ws = (k, v) :: r ∧ RelP K H ρ d v ∧ RelFs K H ρ ds r
end
/-- no table -/
def NT (o : HO) : Prop := ∀ ps, o ≠ .tbl ps
/-- something stands there, no table -/
def NTh (H : Hp) (a : Addr) : Prop := ∃ o, H a = some o ∧ NT o
theorem NTh.no {H : Hp} {a : Addr} (h : NTh H a) (n : H a = none) : False := by
  obtain ⟨o, e, _⟩ := h
  rw [n] at e; cases e

/-- a step of the world: the store's addresses ρ grow by fresh ones, what is no cell stays as it is -/
structure Ext (ρ : Wd) (H : Hp) (ρ' : Wd) (H' : Hp) : Prop where
  fl : ρ'.f = ρ.f
  hid : ρ'.h = ρ.h
  pre : ∃ news, ρ'.c = ρ.c ++ news ∧ ∀ a ∈ news, ¬ NTh H a
  keep : ∀ a o, H a = some o → a ∉ ρ.c → NT o → H' a = some o
  there : ∀ a, NTh H a → NTh H' a
  tab : LamX.Tabs theT H → LamX.Tabs theT H'
theorem Ext.refl {ρ : Wd} {H : Hp} : Ext ρ H ρ H := ⟨rfl, rfl, ⟨[], by simp, by simp⟩, fun _ _ h _ _ => h, fun _ h => h, fun h => h⟩
theorem Ext.outc {ρ ρ' : Wd} {H H' : Hp} (e : Ext ρ H ρ' H') {a : Addr} {o : HO} (h : H a = some o) (t : NT o) (n : a ∉ ρ.c) : a ∉ ρ'.c := by
  obtain ⟨news, e1, f⟩ := e.pre
  rw [e1]
  intro hm
  rcases List.mem_append.mp hm with hm | hm
  · exact n hm
  · exact f a hm ⟨o, h, t⟩
theorem Ext.out {ρ ρ' : Wd} {H H' : Hp} (e : Ext ρ H ρ' H') {a : Addr} {o : HO} (h : H a = some o) (t : NT o) (n : ρ.out a) : ρ'.out a :=
  ⟨e.outc h t n.1, by rw [e.hid]; exact n.2⟩
theorem Ext.trans {ρ ρ1 ρ2 : Wd} {H H1 H2 : Hp} (e : Ext ρ H ρ1 H1) (f : Ext ρ1 H1 ρ2 H2) : Ext ρ H ρ2 H2 := by
  refine ⟨f.fl.trans e.fl, f.hid.trans e.hid, ?_, fun a o h n t => f.keep a o (e.keep a o h n t) (e.outc h t n) t, fun a h => f.there a (e.there a h), fun h => f.tab (e.tab h)⟩
  obtain ⟨n1, q1, f1⟩ := e.pre
  obtain ⟨n2, q2, f2⟩ := f.pre
  refine ⟨n1 ++ n2, by rw [q2, q1]; simp, fun a ha => ?_⟩
  rcases List.mem_append.mp ha with ha | ha
  · exact f1 a ha
  · exact fun z => f2 a ha (e.there a z)
/-- only new objects -/
def Ex (H H' : Hp) : Prop := ∀ a o, H a = some o → H' a = some o
theorem Ex.refl {H : Hp} : Ex H H := fun _ _ h => h
theorem Ex.trans {H H1 H2 : Hp} (a : Ex H H1) (b : Ex H1 H2) : Ex H H2 := fun x o h => b x o (a x o h)
theorem Ex.new {H : Hp} {p : Addr} {o : HO} (h : H p = none) : Ex H (upd H p o) := fun a u e => by
  rw [upd_ne (ne_of_none e h)]
  exact e
theorem Ex.nth {H H' : Hp} (e : Ex H H') {a : Addr} (h : NTh H a) : NTh H' a := let ⟨o, h1, h2⟩ := h; ⟨o, e a o h1, h2⟩
theorem Ex.ext {ρ : Wd} {H H' : Hp} (e : Ex H H') : Ext ρ H ρ H' := ⟨rfl, rfl, ⟨[], by simp, by simp⟩, fun a o h _ _ => e a o h, fun a h => e.nth h, fun h => h.ext e⟩
/-- a change of what is no table and no code object -/
theorem tab_upd {H : Hp} {a : Addr} {o o' : HO} (h : H a = some o) (n1 : NT o) (n2 : ∀ φ, o ≠ .ext φ) {P : Addr} {q : Str} (t : LamX.TabS H P q) : LamX.TabS (upd H a o') P q := by
  obtain ⟨ps, h1, h2, h3⟩ := t
  refine ⟨ps, ?_, h2, fun pos cv hc => ?_⟩
  · rw [upd_ne (fun z => by rw [z, h] at h1; exact n1 ps (Option.some.inj h1))]
    exact h1
  · obtain ⟨c, e1, e2⟩ := h3 pos cv hc
    refine ⟨c, e1, ?_⟩
    rw [upd_ne (fun z => by rw [z, h] at e2; exact n2 _ (Option.some.inj e2))]
    exact e2

section
variable {K : PySem.W.Frag} {H H' H1 : Hp} {ρ ρ' : Wd}
/-- what RelP leans on: that what is neither a cell nor hidden stays, and stays so -/
structure Pers (ρ : Wd) (H : Hp) (ρ' : Wd) (H' : Hp) : Prop where
  fl : ρ'.f = ρ.f
  keep : ∀ a o, H a = some o → ρ.out a → NT o → H' a = some o ∧ ρ'.out a
theorem Ext.pers (e : Ext ρ H ρ' H') : Pers ρ H ρ' H' := ⟨e.fl, fun a o h n t => ⟨e.keep a o h n.1 t, e.out h t n⟩⟩
theorem rd_ext (e : Pers ρ H ρ' H') {a : Addr} {u : HO} (h : Rd H a u) (n : ρ.out a) (t : NT u) : Rd H' a u ∧ ρ'.out a := by
  rcases h with h | ⟨o, h⟩
  · exact ⟨Or.inl (e.keep a _ h n t).1, (e.keep a _ h n t).2⟩
  · exact ⟨Or.inr ⟨o, (e.keep a _ h n (fun _ => nofun)).1⟩, (e.keep a _ h n (fun _ => nofun)).2⟩
theorem TupAt.ext (e : Pers ρ H ρ' H') {a : Addr} {xs : List V} (h : TupAt K H ρ a xs) : TupAt K H' ρ' a xs := by
  refine ⟨h.fit, h.at'.elim (fun ⟨h, n⟩ => Or.inl ?_) Or.inr⟩
  obtain ⟨o, h1, h2⟩ := h
  exact ⟨⟨o, (e.keep a _ h1 n (fun _ => nofun)).1, h2⟩, (e.keep a _ h1 n (fun _ => nofun)).2⟩
theorem TplAt.ext (e : Pers ρ H ρ' H') {a : Addr} {xs : List V} (h : TplAt H ρ a xs) : TplAt H' ρ' a xs :=
  ⟨h.fit, (e.keep a _ h.at' h.out (fun _ => nofun)).1, (e.keep a _ h.at' h.out (fun _ => nofun)).2⟩
theorem ScrAt.ext (e : Pers ρ H ρ' H') {a : Addr} {xs : List V} (h : ScrAt K H ρ a xs) : ScrAt K H' ρ' a xs :=
  ⟨h.fit, h.at'.elim (fun ⟨h, n⟩ => Or.inl (rd_ext e h n (fun _ => nofun))) Or.inr⟩
theorem LstAt.ext (e : Pers ρ H ρ' H') {a : Addr} {xs : List V} (h : LstAt H ρ a xs) : LstAt H' ρ' a xs :=
  ⟨h.fit, (e.keep a _ h.at' h.out (fun _ => nofun)).1, (e.keep a _ h.at' h.out (fun _ => nofun)).2⟩
theorem DctAt.ext (e : Pers ρ H ρ' H') {a : Addr} {xs : List (L2.Key × V)} (h : DctAt H ρ a xs) : DctAt H' ρ' a xs :=
  ⟨h.fit, (e.keep a _ h.at' h.out (fun _ => nofun)).1, (e.keep a _ h.at' h.out (fun _ => nofun)).2⟩
theorem ExcAt.ext (e : Pers ρ H ρ' H') {a C : Addr} {ws : List (Str × V)} (h : ExcAt H ρ a C ws) : ExcAt H' ρ' a C ws := by
  obtain ⟨oe, dd, vs, h1, h2, h3, h4, h5, h6⟩ := h.at'
  exact ⟨⟨oe, dd, vs, (e.keep a _ h1 h.out (fun _ => nofun)).1, h2, h3, h4, (e.keep dd _ h5 h6 (fun _ => nofun)).1, (e.keep dd _ h5 h6 (fun _ => nofun)).2⟩, (e.keep a _ h1 h.out (fun _ => nofun)).2⟩
mutual
theorem RelP.pers (e : Pers ρ H ρ' H') : ∀ {d : PD} {v : V}, RelP K H ρ d v → RelP K H' ρ' d v
  | .non, _, h => by simpa only [RelP] using h
  | .bl _, _, h => by simpa only [RelP] using h
  | .int _, _, h => by simpa only [RelP] using h
  | .str _, _, h => by simpa only [RelP] using h
  | .tup ds, _, h => by
    simp only [RelP] at h ⊢
    obtain ⟨a, vs, rfl, h1, h2⟩ := h
    exact ⟨a, vs, rfl, h1.ext e, RelPs.pers e h2⟩
  | .lst ds, _, h => by
    simp only [RelP] at h ⊢
    obtain ⟨a, vs, rfl, h1, h2⟩ := h
    exact ⟨a, vs, rfl, h1.ext e, RelPs.pers e h2⟩
  | .dct ds, _, h => by
    simp only [RelP] at h ⊢
    obtain ⟨a, vs, rfl, h1, h2⟩ := h
    exact ⟨a, vs, rfl, h1.ext e, RelKs.pers e h2⟩
  | .scr ns, _, h => by
    simp only [RelP] at h ⊢
    obtain ⟨a, rfl, h1⟩ := h
    exact ⟨a, rfl, h1.ext e⟩
  | .tpl ds, _, h => by
    simp only [RelP] at h ⊢
    obtain ⟨a, vs, rfl, h1, h2⟩ := h
    exact ⟨a, vs, rfl, h1.ext e, RelPs.pers e h2⟩
  | .exc C fs, _, h => by
    simp only [RelP] at h ⊢
    obtain ⟨a, ws, rfl, h1, h2⟩ := h
    exact ⟨a, ws, rfl, h1.ext e, RelFs.pers e h2⟩
theorem RelPs.pers (e : Pers ρ H ρ' H') : ∀ {ds : List PD} {vs : List V}, RelPs K H ρ ds vs → RelPs K H' ρ' ds vs
  | [], _, h => by simpa only [RelPs] using h
  | d :: ds, _, h => by
    simp only [RelPs] at h ⊢
    obtain ⟨v, r, rfl, h1, h2⟩ := h
    exact ⟨v, r, rfl, RelP.pers e h1, RelPs.pers e h2⟩
theorem RelKs.pers (e : Pers ρ H ρ' H') : ∀ {ds : List (L2.Key × PD)} {vs : List (L2.Key × V)}, RelKs K H ρ ds vs → RelKs K H' ρ' ds vs
  | [], _, h => by simpa only [RelKs] using h
  | (k, d) :: ds, _, h => by
    simp only [RelKs] at h ⊢
    obtain ⟨v, r, rfl, h1, h2⟩ := h
    exact ⟨v, r, rfl, RelP.pers e h1, RelKs.pers e h2⟩
theorem RelFs.pers (e : Pers ρ H ρ' H') : ∀ {ds : List (Str × PD)} {vs : List (Str × V)}, RelFs K H ρ ds vs → RelFs K H' ρ' ds vs
  | [], _, h => by simpa only [RelFs] using h
  | (k, d) :: ds, _, h => by
    simp only [RelFs] at h ⊢
    obtain ⟨v, r, rfl, h1, h2⟩ := h
    exact ⟨v, r, rfl, RelP.pers e h1, RelFs.pers e h2⟩
end
theorem RelP.ext (e : Ext ρ H ρ' H') {d : PD} {v : V} (h : RelP K H ρ d v) : RelP K H' ρ' d v := RelP.pers e.pers h
theorem RelPs.ext (e : Ext ρ H ρ' H') {ds : List PD} {vs : List V} (h : RelPs K H ρ ds vs) : RelPs K H' ρ' ds vs := RelPs.pers e.pers h
theorem RelKs.ext (e : Ext ρ H ρ' H') {ds : List (L2.Key × PD)} {vs : List (L2.Key × V)} (h : RelKs K H ρ ds vs) : RelKs K H' ρ' ds vs := RelKs.pers e.pers h
theorem RelPs.length : ∀ {ds : List PD} {vs : List V}, RelPs K H ρ ds vs → vs.length = ds.length
  | [], _, h => by simp only [RelPs] at h; subst h; rfl
  | d :: ds, _, h => by
    simp only [RelPs] at h
    obtain ⟨v, r, rfl, _, h2⟩ := h
    simp [RelPs.length h2]
theorem RelPs.get : ∀ {ds : List PD} {vs : List V} {i : Nat} {d : PD}, RelPs K H ρ ds vs → ds[i]? = some d → ∃ v, vs[i]? = some v ∧ RelP K H ρ d v
  | [], _, _, _, _, e => by simp at e
  | d :: ds, _, i, d', h, e => by
    simp only [RelPs] at h
    obtain ⟨v, r, rfl, h1, h2⟩ := h
    cases i with
    | zero =>
      simp at e
      subst e
      exact ⟨v, rfl, h1⟩
    | succ i =>
      obtain ⟨w, e2, q⟩ := RelPs.get h2 (by simpa using e)
      exact ⟨w, by simpa using e2, q⟩
theorem RelPs.append : ∀ {ds es : List PD} {vs ws : List V}, RelPs K H ρ ds vs → RelPs K H ρ es ws → RelPs K H ρ (ds ++ es) (vs ++ ws)
  | [], _, _, _, h, g => by simp only [RelPs] at h; subst h; simpa using g
  | d :: ds, _, _, _, h, g => by
    simp only [RelPs] at h
    obtain ⟨v, r, rfl, h1, h2⟩ := h
    simp only [List.cons_append, RelPs]
    exact ⟨v, _, rfl, h1, RelPs.append h2 g⟩
theorem RelPs.take : ∀ {ds : List PD} {vs : List V} (n : Nat), RelPs K H ρ ds vs → RelPs K H ρ (ds.take n) (vs.take n)
  | [], _, n, h => by simp only [RelPs] at h; subst h; simp [RelPs]
  | d :: ds, _, n, h => by
    simp only [RelPs] at h
    obtain ⟨v, r, rfl, h1, h2⟩ := h
    cases n with
    | zero => simp [RelPs]
    | succ n =>
      simp only [List.take_succ_cons, RelPs]
      exact ⟨v, _, rfl, h1, RelPs.take n h2⟩
theorem RelPs.drop : ∀ {ds : List PD} {vs : List V} (n : Nat), RelPs K H ρ ds vs → RelPs K H ρ (ds.drop n) (vs.drop n)
  | [], _, n, h => by simp only [RelPs] at h; subst h; simp [RelPs]
  | d :: ds, _, n, h => by
    simp only [RelPs] at h
    obtain ⟨v, r, rfl, h1, h2⟩ := h
    cases n with
    | zero =>
      simp only [List.drop_zero, RelPs]
      exact ⟨v, r, rfl, h1, h2⟩
    | succ n =>
      simp only [List.drop_succ_cons]
      exact RelPs.drop n h2
theorem RelPs.one {d : PD} {v : V} (h : RelP K H ρ d v) : RelPs K H ρ [d] [v] := by
  simp only [RelPs]
  exact ⟨v, [], rfl, h, rfl⟩
theorem RelPs.nil : RelPs K H ρ [] [] := by simp only [RelPs]
theorem RelPs.cons {d : PD} {v : V} {ds : List PD} {vs : List V} (h : RelP K H ρ d v) (t : RelPs K H ρ ds vs) : RelPs K H ρ (d :: ds) (v :: vs) := by
  simp only [RelPs]
  exact ⟨v, vs, rfl, h, t⟩

/-- values -/
def RelD (K : PySem.W.Frag) (H : Hp) (ρ : Wd) : D → V → Prop
  | .p d, v => RelP K H ρ d v
  | .ref n, v => ∃ a, ρ.c[n]? = some a ∧ v = .ref a
  | .v x, v => v = x
theorem RelD.ext (e : Ext ρ H ρ' H') : ∀ {d : D} {v : V}, RelD K H ρ d v → RelD K H' ρ' d v
  | .p d, _, h => RelP.ext e h
  | .ref n, _, h => by
    obtain ⟨a, h1, rfl⟩ := h
    obtain ⟨news, e1, _⟩ := e.pre
    refine ⟨a, ?_, rfl⟩
    rw [e1, List.getElem?_append_left (by
      have := List.getElem?_eq_some_iff.mp h1
      exact this.1)]
    exact h1
  | .v _, _, h => h
abbrev RelDs (K : PySem.W.Frag) (H : Hp) (ρ : Wd) : List D → List V → Prop := Paired (RelD K H ρ)
theorem RelDs.ext (e : Ext ρ H ρ' H') : ∀ {ds : List D} {vs : List V}, RelDs K H ρ ds vs → RelDs K H' ρ' ds vs
  | _, _, .nil => .nil
  | _, _, .cons r t => .cons (r.ext e) (RelDs.ext e t)
abbrev RelKD {κ : Type} (K : PySem.W.Frag) (H : Hp) (ρ : Wd) : List (κ × D) → List (κ × V) → Prop := Paired fun p q => p.1 = q.1 ∧ RelD K H ρ p.2 q.2
theorem RelKD.ext {κ : Type} (e : Ext ρ H ρ' H') : ∀ {ds : List (κ × D)} {vs : List (κ × V)}, RelKD K H ρ ds vs → RelKD K H' ρ' ds vs
  | _, _, .nil => .nil
  | _, _, .cons r t => .cons ⟨r.1, r.2.ext e⟩ (RelKD.ext e t)
theorem ix_nodup {α : Type} : ∀ {l : List α} {i j : Nat} {x : α}, l.Nodup → l[i]? = some x → l[j]? = some x → i = j
  | [], _, _, _, _, h, _ => by simp at h
  | a :: l, i, j, x, hn, h1, h2 => by
    obtain ⟨ha, hl⟩ := List.nodup_cons.mp hn
    cases i with
    | zero =>
      cases j with
      | zero => rfl
      | succ j =>
        simp at h1 h2
        subst h1
        exact absurd (List.mem_iff_getElem?.mpr ⟨j, h2⟩) ha
    | succ i =>
      cases j with
      | zero =>
        simp at h1 h2
        subst h2
        exact absurd (List.mem_iff_getElem?.mpr ⟨i, h1⟩) ha
      | succ j =>
        simp at h1 h2
        rw [ix_nodup hl h1 h2]
/-- the object of a cell -/
def RelC (K : PySem.W.Frag) (H : Hp) (ρ : Wd) (o : HO) : Cell → Prop
  | .lst ds => ∃ vs, o = .lst vs ∧ vs.length ≤ sizeLine ∧ RelDs K H ρ ds vs
  | .dK kvs => ∃ ws, o = .dK ws ∧ ws.length ≤ sizeLine ∧ RelKD K H ρ kvs ws
  | .dT kvs => ∃ ws, o = .dT ws ∧ ws.length ≤ sizeLine ∧ RelKD K H ρ kvs ws
theorem RelC.ext (e : Ext ρ H ρ' H') {o : HO} : ∀ {c : Cell}, RelC K H ρ o c → RelC K H' ρ' o c
  | .lst ds, ⟨vs, h1, hz, h2⟩ => ⟨vs, h1, hz, RelDs.ext e h2⟩
  | .dK ds, ⟨vs, h1, hz, h2⟩ => ⟨vs, h1, hz, RelKD.ext e h2⟩
  | .dT ds, ⟨vs, h1, hz, h2⟩ => ⟨vs, h1, hz, RelKD.ext e h2⟩
structure RelS (K : PySem.W.Frag) (H : Hp) (ρ : Wd) (S : List Cell) : Prop where
  len : S.length = ρ.c.length
  nd : ρ.c.Nodup
  here : ∀ (n : Nat) (c : Cell) (a : Addr), S[n]? = some c → ρ.c[n]? = some a → ∃ o, H a = some o ∧ RelC K H ρ o c
  hid : ∀ a ∈ ρ.h, NTh H a ∧ a ∉ ρ.c
  tb : LamX.Tabs theT H
theorem RelC.plain {o : HO} {c : Cell} (h : RelC K H ρ o c) : NT o ∧ ∀ φ, o ≠ .ext φ := by
  cases c with
  | lst ds => obtain ⟨vs, rfl, _⟩ := h; exact ⟨fun _ => nofun, fun _ => nofun⟩
  | dK ds => obtain ⟨vs, rfl, _⟩ := h; exact ⟨fun _ => nofun, fun _ => nofun⟩
  | dT ds => obtain ⟨vs, rfl, _⟩ := h; exact ⟨fun _ => nofun, fun _ => nofun⟩
theorem RelS.trk {S : List Cell} (h : RelS K H ρ S) {a : Addr} (ha : a ∈ ρ.c) : NTh H a := by
  obtain ⟨n, hn, e⟩ := List.mem_iff_getElem.mp ha
  have hn' : n < S.length := by rw [h.len]; exact hn
  obtain ⟨o, ho, rc⟩ := h.here n S[n] a (List.getElem?_eq_getElem hn') (by rw [List.getElem?_eq_getElem hn, e])
  exact ⟨o, ho, rc.plain.1⟩
theorem RelS.fresh {S : List Cell} (h : RelS K H ρ S) {a : Addr} (ha : H a = none) : ρ.out a := ⟨fun hm => (h.trk hm).no ha, fun hm => (h.hid a hm).1.no ha⟩
theorem RelS.ex {S : List Cell} (h : RelS K H ρ S) (e : Ex H H') : RelS K H' ρ S := ⟨h.len, h.nd, fun n c a h1 h2 => by
  obtain ⟨o, ho, r⟩ := h.here n c a h1 h2
  exact ⟨o, e a o ho, r.ext e.ext⟩, fun a ha => ⟨(e.ext (ρ := ρ)).there a (h.hid a ha).1, (h.hid a ha).2⟩, h.tb.ext e⟩
/-- a new tuple, a new list that is only read -/
theorem new_tupF {S : List Cell} {p : Addr} {o : Obj} {ds : List PD} {vs : List V} (hs : RelS K H ρ S) (hp : H p = none) (hd : o.dict = none) (h : RelPs K H ρ ds vs) (hz : vs.length ≤ sizeLine) : RelP K (upd H p (.frz o (.tup vs))) ρ (.tup ds) (.ref p) := by
  simp only [RelP]
  exact ⟨p, vs, rfl, ⟨hz, Or.inl ⟨⟨o, upd_same, hd⟩, hs.fresh hp⟩⟩, RelPs.ext (Ex.new hp).ext h⟩
theorem new_tpl {S : List Cell} {p : Addr} {ds : List PD} {vs : List V} (hs : RelS K H ρ S) (hp : H p = none) (h : RelPs K H ρ ds vs) (hz : vs.length ≤ sizeLine) : RelP K (upd H p (.tup vs)) ρ (.tpl ds) (.ref p) := by
  simp only [RelP]
  exact ⟨p, vs, rfl, ⟨hz, upd_same, hs.fresh hp⟩, RelPs.ext (Ex.new hp).ext h⟩
theorem new_lst {S : List Cell} {p : Addr} {ds : List PD} {vs : List V} (hs : RelS K H ρ S) (hp : H p = none) (h : RelPs K H ρ ds vs) (hz : vs.length ≤ sizeLine) : RelP K (upd H p (.lst vs)) ρ (.lst ds) (.ref p) := by
  simp only [RelP]
  exact ⟨p, vs, rfl, ⟨hz, upd_same, hs.fresh hp⟩, RelPs.ext (Ex.new hp).ext h⟩
theorem new_dct {S : List Cell} {p : Addr} {ds : List (L2.Key × PD)} {vs : List (L2.Key × V)} (hs : RelS K H ρ S) (hp : H p = none) (h : RelKs K H ρ ds vs) (hz : vs.length ≤ sizeLine) : RelP K (upd H p (.dK vs)) ρ (.dct ds) (.ref p) := by
  simp only [RelP]
  exact ⟨p, vs, rfl, ⟨hz, upd_same, hs.fresh hp⟩, RelKs.ext (Ex.new hp).ext h⟩
def Wd.add (ρ : Wd) (p : Addr) : Wd := ⟨ρ.c ++ [p], ρ.h, ρ.f⟩
/-- a new cell -/
theorem new_cell {S : List Cell} {p : Addr} {o : HO} {c : Cell} (hs : RelS K H ρ S) (hp : H p = none) (h : RelC K H ρ o c) :
    Ext ρ H (ρ.add p) (upd H p o) ∧ RelS K (upd H p o) (ρ.add p) (S ++ [c]) ∧ RelD K (upd H p o) (ρ.add p) (.ref S.length) (.ref p) := by
  have e : Ext ρ H (ρ.add p) (upd H p o) := ⟨rfl, rfl, ⟨[p], rfl, fun a ha => by rw [List.mem_singleton.mp ha]; exact fun z => z.no hp⟩, fun a u q _ _ => Ex.new hp a u q, fun a q => (Ex.new hp).nth q, fun h => h.ext (Ex.new hp)⟩
  refine ⟨e, ⟨by simp [hs.len, Wd.add], ?_, fun n c' a h1 h2 => ?_, fun a ha => ⟨e.there a (hs.hid a ha).1, fun hm => ?_⟩, hs.tb.ext (Ex.new hp)⟩, ⟨p, by rw [hs.len]; simp [Wd.add], rfl⟩⟩
  · show (ρ.c ++ [p]).Nodup
    rw [List.nodup_append]
    refine ⟨hs.nd, by simp, fun a ha b hb => ?_⟩
    rw [List.mem_singleton.mp hb]
    rintro rfl
    exact (hs.fresh hp).1 ha
  · have h2' : (ρ.c ++ [p])[n]? = some a := h2
    by_cases hn : n < S.length
    · rw [List.getElem?_append_left hn] at h1
      rw [List.getElem?_append_left (by rw [← hs.len]; exact hn)] at h2'
      obtain ⟨u, hu, r⟩ := hs.here n c' a h1 h2'
      exact ⟨u, Ex.new hp a u hu, r.ext e⟩
    · have hn2 : n = S.length := by
        have := (List.getElem?_eq_some_iff.mp h1).1
        simp at this
        omega
      subst hn2
      rw [List.getElem?_append_right (Nat.le_refl _)] at h1
      rw [hs.len, List.getElem?_append_right (Nat.le_refl _)] at h2'
      simp at h1 h2'
      subst h1; subst h2'
      exact ⟨o, upd_same, h.ext e⟩
  · rcases List.mem_append.mp (show a ∈ ρ.c ++ [p] from hm) with hm | hm
    · exact (hs.hid a ha).2 hm
    · rw [List.mem_singleton.mp hm] at ha
      exact (hs.hid p ha).1.no hp
/-- a cell changes -/
theorem set_cell {S : List Cell} {n : Nat} {a : Addr} {o' : HO} {c : Cell} (hs : RelS K H ρ S) (ha : ρ.c[n]? = some a) (h : RelC K H ρ o' c) :
    Ext ρ H ρ (upd H a o') ∧ RelS K (upd H a o') ρ (S.set n c) := by
  have hn : n < ρ.c.length := (List.getElem?_eq_some_iff.mp ha).1
  have hm : a ∈ ρ.c := List.mem_iff_getElem?.mpr ⟨n, ha⟩
  have hn' : n < S.length := by rw [hs.len]; exact hn
  obtain ⟨o0, ho0, rc0⟩ := hs.here n S[n] a (List.getElem?_eq_getElem hn') ha
  obtain ⟨pl1, pl2⟩ := rc0.plain
  have e : Ext ρ H ρ (upd H a o') := ⟨rfl, rfl, ⟨[], by simp, by simp⟩, fun b u q nb _ => by
    rw [upd_ne (show b ≠ a from fun z => nb (by rw [z]; exact hm))]
    exact q, fun b q => by
    by_cases hb : b = a
    · subst hb; exact ⟨o', upd_same, h.plain.1⟩
    · obtain ⟨u, e1, e2⟩ := q
      exact ⟨u, by rw [upd_ne hb]; exact e1, e2⟩, fun t p hp => tab_upd ho0 pl1 pl2 (t p hp)⟩
  refine ⟨e, ⟨by simp [hs.len], hs.nd, fun m c' b h1 h2 => ?_, fun b hb => ⟨e.there b (hs.hid b hb).1, (hs.hid b hb).2⟩, e.tab hs.tb⟩⟩
  by_cases hmn : m = n
  · subst hmn
    rw [ha] at h2
    cases h2
    rw [List.getElem?_set_self (by rw [hs.len]; exact hn)] at h1
    cases h1
    exact ⟨o', upd_same, h.ext e⟩
  · rw [List.getElem?_set_ne (Ne.symm hmn)] at h1
    obtain ⟨u, hu, r⟩ := hs.here m c' b h1 h2
    have hb : b ≠ a := by
      rintro rfl
      exact hmn (ix_nodup hs.nd h2 ha)
    exact ⟨u, by rw [upd_ne hb]; exact hu, r.ext e⟩
/-- persistence of the rest -/
theorem RelD.pers (hc : ρ'.c = ρ.c) (e : Pers ρ H ρ' H') : ∀ {d : D} {v : V}, RelD K H ρ d v → RelD K H' ρ' d v
  | .p d, _, h => RelP.pers e h
  | .ref n, _, ⟨a, h1, h2⟩ => ⟨a, by rw [hc]; exact h1, h2⟩
  | .v _, _, h => h
theorem RelDs.pers (hc : ρ'.c = ρ.c) (e : Pers ρ H ρ' H') : ∀ {ds : List D} {vs : List V}, RelDs K H ρ ds vs → RelDs K H' ρ' ds vs
  | _, _, .nil => .nil
  | _, _, .cons r t => .cons (RelD.pers hc e r) (RelDs.pers hc e t)
theorem RelKD.pers {κ : Type} (hc : ρ'.c = ρ.c) (e : Pers ρ H ρ' H') : ∀ {ds : List (κ × D)} {vs : List (κ × V)}, RelKD K H ρ ds vs → RelKD K H' ρ' ds vs
  | _, _, .nil => .nil
  | _, _, .cons r t => .cons ⟨r.1, RelD.pers hc e r.2⟩ (RelKD.pers hc e t)
theorem RelC.pers (hc : ρ'.c = ρ.c) (e : Pers ρ H ρ' H') {o : HO} : ∀ {c : Cell}, RelC K H ρ o c → RelC K H' ρ' o c
  | .lst ds, ⟨vs, h1, hz, h2⟩ => ⟨vs, h1, hz, RelDs.pers hc e h2⟩
  | .dK ds, ⟨vs, h1, hz, h2⟩ => ⟨vs, h1, hz, RelKD.pers hc e h2⟩
  | .dT ds, ⟨vs, h1, hz, h2⟩ => ⟨vs, h1, hz, RelKD.pers hc e h2⟩
/-- the store where what is hidden may turn -/
theorem RelS.pers {S : List Cell} (hc : ρ'.c = ρ.c) (e : Pers ρ H ρ' H') (h : RelS K H ρ S) (hk : ∀ a ∈ ρ.c, H' a = H a) (hh : ∀ a ∈ ρ'.h, NTh H' a ∧ a ∉ ρ'.c) (ht : LamX.Tabs theT H → LamX.Tabs theT H') : RelS K H' ρ' S := by
  refine ⟨by rw [hc]; exact h.len, by rw [hc]; exact h.nd, fun n c a h1 h2 => ?_, hh, ht h.tb⟩
  rw [hc] at h2
  obtain ⟨o, ho, r⟩ := h.here n c a h1 h2
  exact ⟨o, by rw [hk a (List.mem_iff_getElem?.mpr ⟨n, h2⟩)]; exact ho, RelC.pers hc e r⟩
end

/-! ### names -/
abbrev Vr := List (Option D)
structure RelE (K : PySem.W.Frag) (H : Hp) (ρ : Wd) (E : Vr) (σ : L2.St) : Prop where
  len : E.length = σ.length
  here : ∀ (i : Nat) (d : D), E[i]? = some (some d) → ∃ v, σ[i]? = some (some v) ∧ RelD K H ρ d v
section
variable {K : PySem.W.Frag} {H H' H1 : Hp} {ρ ρ' : Wd} {E : Vr} {σ : L2.St}
theorem RelE.ext (h : RelE K H ρ E σ) (e : Ext ρ H ρ' H') : RelE K H' ρ' E σ := ⟨h.len, fun i d q => by
  obtain ⟨v, h1, h2⟩ := h.here i d q
  exact ⟨v, h1, h2.ext e⟩⟩
theorem RelE.pers (h : RelE K H ρ E σ) (hc : ρ'.c = ρ.c) (e : Pers ρ H ρ' H') : RelE K H' ρ' E σ := ⟨h.len, fun i d q => by
  obtain ⟨v, h1, h2⟩ := h.here i d q
  exact ⟨v, h1, RelD.pers hc e h2⟩⟩
theorem RelE.set {d : D} {v : V} (h : RelE K H ρ E σ) (i : Nat) (r : RelD K H ρ d v) : RelE K H ρ (E.set i (some d)) (σ.set i (some v)) := ⟨by simp [h.len], fun j d' q => by
  by_cases hj : i = j
  · subst hj
    have hi : i < E.length := by
      have := (List.getElem?_eq_some_iff.mp q).1
      simpa using this
    rw [List.getElem?_set_self hi] at q
    cases q
    exact ⟨v, List.getElem?_set_self (by rw [← h.len]; exact hi), r⟩
  · rw [List.getElem?_set_ne hj] at q
    obtain ⟨w, h1, h2⟩ := h.here j d' q
    exact ⟨w, by rw [List.getElem?_set_ne hj]; exact h1, h2⟩⟩
end
abbrev M (α : Type) := List Cell → Option (α × List Cell)
def ret {α : Type} (a : α) : M α := fun S => some (a, S)
def fail {α : Type} : M α := fun _ => none
def bnd {α β : Type} (m : M α) (f : α → M β) : M β := fun S => match m S with
  | some (a, S1) => f a S1
  | none => none
theorem bnd_some {α β : Type} {m : M α} {f : α → M β} {S : List Cell} {r : β × List Cell} (h : bnd m f S = some r) : ∃ a S1, m S = some (a, S1) ∧ f a S1 = some r := by
  unfold bnd at h
  split at h
  · exact ⟨_, _, by assumption, h⟩
  · cases h
abbrev ME := Vr → M D
abbrev MT := Vr → M Bool
abbrev MA := Vr → M (List D)
structure Rel (K : PySem.W.Frag) (H : Hp) (ρ : Wd) (S : List Cell) (E : Vr) (σ : L2.St) : Prop where
  s : RelS K H ρ S
  e : RelE K H ρ E σ
/-- the readings that plain functions make -/
def tE (K : PySem.W.Frag) (m : ME) : TE := fun σ H Q => ∃ ρ S E d S', Rel K H ρ S E σ ∧ m E S = some (d, S') ∧
  ∀ v H' ρ', Ext ρ H ρ' H' → RelS K H' ρ' S' → RelD K H' ρ' d v → Q v H'
def tT (K : PySem.W.Frag) (m : MT) : TT := fun σ H Q => ∃ ρ S E b S', Rel K H ρ S E σ ∧ m E S = some (b, S') ∧
  ∀ H' ρ', Ext ρ H ρ' H' → RelS K H' ρ' S' → Q b H'
def tA (K : PySem.W.Frag) (m : MA) : TA := fun σ H Q => ∃ ρ S E ds S', Rel K H ρ S E σ ∧ m E S = some (ds, S') ∧
  ∀ vs H' ρ', Ext ρ H ρ' H' → RelS K H' ρ' S' → RelDs K H' ρ' ds vs → Q vs H'
end Pt
set_option maxRecDepth 100000
/-! PtF: new tuples that are known as objects. -/
namespace Pt
open PySem PySem.Spec PyProof.Rows L2
/-- a new tuple at a free place: as an object (f), or by its items -/
def NewT (_f : Tb) (H : Hp) (vs : List V) (Q : VK) : Prop := ∀ p o, H p = none → o.dict = none → Q (.ref p) (upd H p (.frz o (.tup vs)))
section
variable {X : Cx} {pins : List (Addr × Obj)} {σ : L2.St} {H : Hp} {s : Shared}
/-- a tuple was pushed -/
theorem pushed {f : Tb} {vs : List V} {its : List Value} {Q : VK} {tk : Nat} (I : Inv X pins σ H s) (r : Vals vs its) (hz : vs.length ≤ sizeLine) (q : NewT f H vs Q) :
    EP X pins σ Q (.ref s.heap.objs.size) { s with heap := s.heap.push { cls := .type "tuple", data := .seq its.toArray }, toks := tk } := by
  have hf : H s.heap.objs.size = none := I.hok.fresh (Nat.le_refl _)
  have keeps : ∀ b u, s.heap.get? b = some u → (s.heap.push { cls := .type "tuple", data := .seq its.toArray }).get? b = some u := fun b u e => Heap.get?_push_of_some _ e
  refine ⟨.ref s.heap.objs.size, upd H s.heap.objs.size (.frz _ (.tup vs)), I.laid (t' := tk) keeps (Nat.le_refl _) ?_, rfl, q _ { cls := .type "tuple", data := .seq its.toArray } hf rfl⟩
  have g := Heap.get?_push_size s.heap (o := { cls := .type "tuple", data := .seq its.toArray }) rfl
  exact ⟨g, hz, its, r, ⟨_, g, rfl, _, rfl⟩⟩
end
section
variable {X : Cx} {es : List Expr} {pos : Pos} {t : TA}
def tTupF (f : Tb) (t : TA) : TE := fun σ H Q => t σ H fun xs H1 => xs.length ≤ sizeLine ∧ NewT f H1 xs Q
theorem pe_tupF {f : Tb} {x1} (h : PA X es t) : PE X (.Tuple es x1 pos) (tTupF f t) := by
  refine ⟨fun pins s σ H Q I hq => ?_⟩
  refine wpAny_Tuple_spliced (thn (h.run pos pins s σ H _ I hq) fun us s1 hh => ?_)
  obtain ⟨xs, H1, I1, r, z, q⟩ := hh
  exact ⟨by rw [← r.length]; exact z, pushed (tk := s1.toks) I1 r z q⟩
def rCatF (K : PySem.W.Frag) (f : Tb) : R2 := fun x y H Q => ∃ a b xs ys, x = .ref a ∧ y = .ref b ∧ SqT K H a xs ∧ SqT K H b ys ∧ xs.length + ys.length ≤ sizeLine ∧ (xs = [] → Q (.ref b) H) ∧ (ys = [] → Q (.ref a) H) ∧ NewT f H (xs ++ ys) Q
theorem op_catF {f : Tb} : OpR X (binaryOp .Add) (rCatF X.K f) := by
  intro pins s σ H x y v u Q I rx ry h
  obtain ⟨a, b, xs, ys, rfl, rfl, ha, hb, hz, q0, q1, q2⟩ := h
  by_cases hx : xs = []
  · exact op_catA pins s σ H _ _ v u Q I rx ry ⟨a, b, xs, ys, rfl, rfl, ha, hb, hz, q0, fun z => absurd hx z, fun z => absurd hx z⟩
  cases rx
  cases ry
  obtain ⟨its, r1, p1, _⟩ := I.tuple ha
  obtain ⟨its2, r2, p2, _⟩ := I.tuple hb
  refine HT.cat_tup p1 p2 (fun z => hx (r1.nil_iff.mp z)) (fun z => ⟨.ref a, H, I, rfl, q1 (r2.nil_iff.mp z)⟩) (fun z => ?_) (by rw [← r1.length, ← r2.length]; exact hz)
  exact pushed (tk := s.toks) I (r1.append r2) (by rw [List.length_append]; exact hz) q2
def rSlF (K : PySem.W.Frag) (f : Tb) : V → Option Int → Option Int → Hp → VK → Prop := fun x lo hi H Q => ∃ a xs, x = .ref a ∧ SqT K H a xs ∧
  (HT.sIx xs.length 0 lo = 0 ∧ HT.sIx xs.length xs.length hi = xs.length → Q (.ref a) H) ∧ NewT f H (cutV xs lo hi) Q
theorem sl_tupF {f : Tb} : SlR X (rSlF X.K f) := by
  intro pins s σ H x v vl vu lo hi sl Q I rx hs pl pu h
  obtain ⟨a, xs, rfl, hx, q1, q2⟩ := h
  by_cases hw : HT.sIx xs.length 0 lo = 0 ∧ HT.sIx xs.length xs.length hi = xs.length
  · exact sl_tupA pins s σ H _ v vl vu lo hi sl Q I rx hs pl pu ⟨a, xs, rfl, hx, q1, fun z => absurd hw z⟩
  cases rx
  obtain ⟨its, r, ht, hz⟩ := I.tuple hx
  have hlen : its.toArray.size = xs.length := by rw [List.size_toArray]; exact r.length.symm
  refine ⟨"tuple", _, PyProof.Rows.slot_tuple_getitem.lookup, ht.typeIs, ?_⟩
  refine HT.getItem_tuple_cut ht hs pl pu (by rw [hlen]; exact hw) ?_ (by rw [hlen]; exact hz)
  rw [hlen]
  exact pushed (tk := s.toks) I ((r.drop (HT.sIx xs.length 0 lo)).take (HT.sIx xs.length xs.length hi - HT.sIx xs.length 0 lo)) (Nat.le_trans (cutV_length xs lo hi) hz) q2
def rTupF (K : PySem.W.Frag) (f : Tb) : List V → Hp → VK → Prop := fun xs H Q => ∃ p ys, xs = [.ref p] ∧ ((SqL K H p ys ∧ NewT f H ys Q) ∨ (SqT K H p ys ∧ Q (.ref p) H))
theorem call_tupleF {f : Tb} : CallR X (.type "tuple") (rTupF X.K f) := by
  intro pins s σ H xs us Q I r h
  obtain ⟨p, ys, rfl, h⟩ := h
  rcases h with ⟨hq, q⟩ | ⟨hq, q⟩
  · obtain ⟨u, rfl, rx⟩ := vals1 r
    cases rx
    obtain ⟨its, r', pl, hz⟩ := I.list hq
    have hlen := r'.length
    refine call_tuple_list pl.isList (fun h' kp => ?_) (by simp only [List.size_toArray] <;> omega)
    have I1 : Inv X pins σ H { s with heap := h' } := I.kept (t' := s.toks) kp
    exact pushed (s := { s with heap := h' }) (tk := s.toks) I1 r' hz q
  · exact call_tuple_of pins s σ H _ us Q I r ⟨p, ys, rfl, Or.inr ⟨hq, q⟩⟩
end
section
variable {K : PySem.W.Frag} {H : Hp} {ρ : Wd} {S : List Cell} {ds : List PD} {vs : List V}
/-- what a new tuple gives -/
theorem newT_of {Q : VK} (hs : RelS K H ρ S) (h : RelPs K H ρ ds vs) (hz : vs.length ≤ sizeLine) (k : ∀ v H', Ext ρ H ρ H' → RelS K H' ρ S → RelP K H' ρ (.tup ds) v → Q v H') : NewT ρ.f H vs Q := by
  intro p o hp hd
  exact k _ _ (Ex.new hp).ext (hs.ex (Ex.new hp)) (new_tupF hs hp hd h hz)
end
end Pt
set_option maxRecDepth 100000
/-! Pt2: the rules: expressions, tests, statements, loops, comprehensions as plain functions. -/
namespace Pt
open PySem PySem.Spec PyProof.Rows L2

section
variable {X : Cx} {e a b c : Expr} {es : List Expr} {pos : Pos} {st : Stmt} {sts : List Stmt}
theorem pe_wk {t t' : TE} (h : PE X e t) (w : ∀ σ H Q, t' σ H Q → t σ H Q) : PE X e t' := ⟨fun pins s σ H Q I q => h.run pins s σ H Q I (w _ _ _ q)⟩
theorem pt_wk {t t' : TT} (h : PT X e t) (w : ∀ σ H Q, t' σ H Q → t σ H Q) : PT X e t' := ⟨fun pins s σ H Q I q => h.run pins s σ H Q I (w _ _ _ q)⟩
theorem pw_wk {t t' : TT} (h : PW X e t) (w : ∀ σ H Q, t' σ H Q → t σ H Q) : PW X e t' := ⟨fun wh pins s σ H Q I q => h.run wh pins s σ H Q I (w _ _ _ q)⟩
theorem pa_wk {t t' : TA} (h : PA X es t) (w : ∀ σ H Q, t' σ H Q → t σ H Q) : PA X es t' := ⟨fun p pins s σ H Q I q => h.run p pins s σ H Q I (w _ _ _ q)⟩
theorem ps_wk {t t' : TS} (h : PS X st t) (w : ∀ D σ H, t' D σ H → t D σ H) : PS X st t' := ⟨fun pins s σ H D I q => h.run pins s σ H D I (w _ _ _ q)⟩
theorem pss_wk {t t' : TS} (h : PSs X sts t) (w : ∀ D σ H, t' D σ H → t D σ H) : PSs X sts t' := ⟨fun pins s σ H D I q => h.run pins s σ H D I (w _ _ _ q)⟩

theorem ret_some {α : Type} {a b : α} {S S' : List Cell} (h : ret a S = some (b, S')) : b = a ∧ S' = S := by
  cases h
  exact ⟨rfl, rfl⟩
/-! ### names, constants -/
def mVar (i : Nat) : ME := fun E S => match E[i]? with
  | some (some d) => some (d, S)
  | _ => none
def mC (d : D) : ME := fun _ S => some (d, S)
theorem re_var {i : Nat} (h : PE X e (tVar i)) : PE X e (tE X.K (mVar i)) := by
  refine pe_wk h fun σ H Q q => ?_
  obtain ⟨ρ, S, E, d, S', r, hm, k⟩ := q
  unfold mVar at hm
  split at hm
  · rename_i d' he
    cases hm
    obtain ⟨v, h1, h2⟩ := r.e.here i _ he
    exact ⟨v, h1, k v H ρ Ext.refl r.s h2⟩
  · cases hm
theorem re_c {v : V} {d : D} (h : PE X e (tC v)) (hr : ∀ K H ρ, RelD K H ρ d v) : PE X e (tE X.K (mC d)) := by
  refine pe_wk h fun σ H Q q => ?_
  obtain ⟨ρ, S, E, d', S', r, hm, k⟩ := q
  cases hm
  exact k v H ρ Ext.refl r.s (hr _ _ _)
theorem re_int {i j pos} : PE X (.Constant (.int i) j pos) (tE X.K (mC (.p (.int i)))) := re_c pe_int fun _ _ _ => by simp only [RelD, RelP]
theorem re_bl {b j pos} : PE X (.Constant (.bool b) j pos) (tE X.K (mC (.p (.bl b)))) := re_c pe_bl fun _ _ _ => by simp only [RelD, RelP]
theorem re_non {j pos} : PE X (.Constant .none j pos) (tE X.K (mC (.p .non))) := re_c pe_non fun _ _ _ => by simp only [RelD, RelP]
theorem re_str {x j pos} : PE X (.Constant (.str x) j pos) (tE X.K (mC (.p (.str x)))) := re_c pe_str fun _ _ _ => by simp only [RelD, RelP]

/-! ### operators by values -/
abbrev O2 := D → D → M D
def rD (K : PySem.W.Frag) (o : O2) : R2 := fun x y H Q => ∃ ρ S dx dy d S', RelS K H ρ S ∧ RelD K H ρ dx x ∧ RelD K H ρ dy y ∧ o dx dy S = some (d, S') ∧
  ∀ v H' ρ', Ext ρ H ρ' H' → RelS K H' ρ' S' → RelD K H' ρ' d v → Q v H'
def mBin (o : O2) (ma mb : ME) : ME := fun E => bnd (ma E) fun x => bnd (mb E) fun y => o x y
theorem bin_t {K : PySem.W.Frag} {o : O2} {ma mb : ME} : ∀ σ H Q, tE K (mBin o ma mb) σ H Q → tOp (rD K o) (tE K ma) (tE K mb) σ H Q := fun σ H Q q => by
  obtain ⟨ρ, S, E, d, S', r, hm, k⟩ := q
  obtain ⟨x, S1, h1, hm⟩ := bnd_some hm
  obtain ⟨y, S2, h2, hm⟩ := bnd_some hm
  refine ⟨ρ, S, E, x, S1, r, h1, fun v H1 ρ1 e1 s1 r1 => ⟨ρ1, S1, E, y, S2, ⟨s1, r.e.ext e1⟩, h2, fun w H2 ρ2 e2 s2 r2 => ?_⟩⟩
  exact ⟨ρ2, S2, x, y, d, S', s2, r1.ext e2, r2, hm, fun z H3 ρ3 e3 s3 r3 => k z H3 ρ3 ((e1.trans e2).trans e3) s3 r3⟩
theorem re_bin {op : Operator} {o : O2} {ma mb : ME} (ho : OpR X (binaryOp op) (rD X.K o)) (ha : PE X a (tE X.K ma)) (hb : PE X b (tE X.K mb)) : PE X (.BinOp a op b pos) (tE X.K (mBin o ma mb)) :=
  pe_wk (pe_op ho ha hb) bin_t
theorem re_cmp {op : CmpOp} {o : O2} {ma mb : ME} (ho : OpR X (compareOp op) (rD X.K o)) (ha : PE X a (tE X.K ma)) (hb : PE X b (tE X.K mb)) (hm : behindInMarks op b = false := by rfl) : PE X (.Compare a [op] [b] pos) (tE X.K (mBin o ma mb)) :=
  pe_wk (pe_cmpR ho ha hb hm) bin_t
theorem re_ix {o : O2} {ma mb : ME} (ho : IxR X (rD X.K o)) (ha : PE X a (tE X.K ma)) (hb : PE X b (tE X.K mb)) (hs : PlainIx b := by exact fun _ _ => rfl) : PE X (.Subscript a b pos) (tE X.K (mBin o ma mb)) :=
  pe_wk (pe_ix ho ha hb hs) bin_t
abbrev O1 := D → M D
def rD1 (K : PySem.W.Frag) (o : O1) : V → Hp → VK → Prop := fun x H Q => ∃ ρ S dx d S', RelS K H ρ S ∧ RelD K H ρ dx x ∧ o dx S = some (d, S') ∧
  ∀ v H' ρ', Ext ρ H ρ' H' → RelS K H' ρ' S' → RelD K H' ρ' d v → Q v H'
def mUn (o : O1) (ma : ME) : ME := fun E => bnd (ma E) fun x => o x
theorem re_un {op : UnaryOp} {o : O1} {ma : ME} (ho : UnR X (unaryOp op) (rD1 X.K o)) (ha : PE X a (tE X.K ma)) : PE X (.UnaryOp op a pos) (tE X.K (mUn o ma)) := by
  refine pe_wk (pe_un ho ha) fun σ H Q q => ?_
  obtain ⟨ρ, S, E, d, S', r, hm, k⟩ := q
  obtain ⟨x, S1, h1, hm⟩ := bnd_some hm
  refine ⟨ρ, S, E, x, S1, r, h1, fun v H1 ρ1 e1 s1 r1 => ?_⟩
  exact ⟨ρ1, S1, x, d, S', s1, r1, hm, fun z H3 ρ3 e3 s3 r3 => k z H3 ρ3 (e1.trans e3) s3 r3⟩

/-! ### argument lists, calls of built-ins, displays -/
def aNil : MA := fun _ S => some ([], S)
def aCons (m : ME) (r : MA) : MA := fun E => bnd (m E) fun d => bnd (r E) fun ds => ret (d :: ds)
theorem ra_nil : PA X [] (tA X.K aNil) := by
  refine pa_wk pa_nil fun σ H Q q => ?_
  obtain ⟨ρ, S, E, d, S', r, hm, k⟩ := q
  cases hm
  exact k [] H ρ Ext.refl r.s .nil
theorem ra_cons {ma : ME} {mr : MA} (ha : PE X e (tE X.K ma)) (hr : PA X es (tA X.K mr)) (hs : starEach (e :: es) X.env = (false, eval e X.env) :: starEach es X.env := by rfl) : PA X (e :: es) (tA X.K (aCons ma mr)) := by
  refine pa_wk (pa_cons ha hr hs) fun σ H Q q => ?_
  obtain ⟨ρ, S, E, d, S', r, hm, k⟩ := q
  obtain ⟨x, S1, h1, hm⟩ := bnd_some hm
  obtain ⟨y, S2, h2, hm⟩ := bnd_some hm
  obtain ⟨rfl, rfl⟩ := ret_some hm
  refine ⟨ρ, S, E, x, S1, r, h1, fun v H1 ρ1 e1 s1 r1 => ⟨ρ1, S1, E, y, S', ⟨s1, r.e.ext e1⟩, h2, fun w H2 ρ2 e2 s2 r2 => ?_⟩⟩
  exact k _ H2 ρ2 (e1.trans e2) s2 (.cons (r1.ext e2) r2)
abbrev OC := List D → M D
def rDC (K : PySem.W.Frag) (o : OC) : List V → Hp → VK → Prop := fun xs H Q => ∃ ρ S ds d S', RelS K H ρ S ∧ RelDs K H ρ ds xs ∧ o ds S = some (d, S') ∧
  ∀ v H' ρ', Ext ρ H ρ' H' → RelS K H' ρ' S' → RelD K H' ρ' d v → Q v H'
def mCall (o : OC) (ma : MA) : ME := fun E => bnd (ma E) o
theorem call_t {K : PySem.W.Frag} {o : OC} {ma : MA} : ∀ σ H Q, tE K (mCall o ma) σ H Q → tCB (rDC K o) (tA K ma) σ H Q := fun σ H Q q => by
  obtain ⟨ρ, S, E, d, S', r, hm, k⟩ := q
  obtain ⟨x, S1, h1, hm⟩ := bnd_some hm
  refine ⟨ρ, S, E, x, S1, r, h1, fun v H1 ρ1 e1 s1 r1 => ?_⟩
  exact ⟨ρ1, S1, x, d, S', s1, r1, hm, fun z H3 ρ3 e3 s3 r3 => k z H3 ρ3 (e1.trans e3) s3 r3⟩
/-- pure data only -/
def pds : List D → Option (List PD)
  | [] => some []
  | .p d :: r => (pds r).map (d :: ·)
  | _ :: _ => none
theorem pds_rel {K : PySem.W.Frag} {H : Hp} {ρ : Wd} : ∀ {ds : List D} {xs : List PD} {vs : List V}, pds ds = some xs → RelDs K H ρ ds vs → RelPs K H ρ xs vs
  | [], _, _, h, r => by
    cases h; cases r
    exact RelPs.nil
  | .p d :: ds, xs, _, h, r => by
    cases r with
    | cons r1 r2 =>
      simp only [pds, Option.map_eq_some_iff] at h
      obtain ⟨ys, h1, rfl⟩ := h
      exact RelPs.cons r1 (pds_rel h1 r2)
  | .ref _ :: _, _, _, h, _ => by simp [pds] at h
  | .v _ :: _, _, _, h, _ => by simp [pds] at h
theorem relDs_len {K : PySem.W.Frag} {H : Hp} {ρ : Wd} {ds : List D} {vs : List V} (r : RelDs K H ρ ds vs) : ds.length = vs.length := Paired.length r
def mTup (ma : MA) : ME := fun E => bnd (ma E) fun ds S => match pds ds with
  | some xs => if xs.length ≤ 100000 then some (.p (.tup xs), S) else none
  | none => none
def mLst (ma : MA) : ME := fun E => bnd (ma E) fun ds S => match pds ds with
  | some xs => if xs.length ≤ 100000 then some (.p (.lst xs), S) else none
  | none => none
/-- a list that will change -/
def mLstR (ma : MA) : ME := fun E => bnd (ma E) fun ds S => if ds.length ≤ 100000 then some (.ref S.length, S ++ [.lst ds]) else none
theorem line_ge : 100000 ≤ sizeLine := by rw [sizeLine_eq]; decide
theorem re_tup {x1} {ma : MA} (h : PA X es (tA X.K ma)) : PE X (.Tuple es x1 pos) (tE X.K (mTup ma)) := by
  refine ⟨fun pins s σ H Q I q => ?_⟩
  obtain ⟨ρ, S, E, d, S', r, hm, k⟩ := q
  refine (pe_tupF (f := ρ.f) h).run pins s σ H Q I ?_
  obtain ⟨ds, S1, h1, hm⟩ := bnd_some hm
  refine ⟨ρ, S, E, ds, S1, r, h1, fun vs H1 ρ1 e1 s1 r1 => ?_⟩
  split at hm
  · rename_i xs hx
    split at hm
    · rename_i hz
      cases hm
      have rp := pds_rel hx r1
      have hl : vs.length ≤ sizeLine := by rw [rp.length]; exact Nat.le_trans hz line_ge
      rw [← e1.fl]
      exact ⟨hl, newT_of s1 rp hl fun v H2 e2 s2 r2 => k v H2 ρ1 (e1.trans e2) s2 r2⟩
    · cases hm
  · cases hm
theorem re_lst {ma : MA} (h : PA X es (tA X.K ma)) : PE X (.List es pos) (tE X.K (mLst ma)) := by
  refine pe_wk (pe_lst h) fun σ H Q q => ?_
  obtain ⟨ρ, S, E, d, S', r, hm, k⟩ := q
  obtain ⟨ds, S1, h1, hm⟩ := bnd_some hm
  refine ⟨ρ, S, E, ds, S1, r, h1, fun vs H1 ρ1 e1 s1 r1 => ?_⟩
  split at hm
  · rename_i xs hx
    split at hm
    · rename_i hz
      cases hm
      have rp := pds_rel hx r1
      have hl : vs.length ≤ sizeLine := by rw [rp.length]; exact Nat.le_trans hz line_ge
      exact ⟨hl, fun p hp => k (.ref p) _ ρ1 (e1.trans (Ex.new hp).ext) (s1.ex (Ex.new hp)) (new_lst s1 hp rp hl)⟩
    · cases hm
  · cases hm
theorem re_lstR {ma : MA} (h : PA X es (tA X.K ma)) : PE X (.List es pos) (tE X.K (mLstR ma)) := by
  refine pe_wk (pe_lst h) fun σ H Q q => ?_
  obtain ⟨ρ, S, E, d, S', r, hm, k⟩ := q
  obtain ⟨ds, S1, h1, hm⟩ := bnd_some hm
  refine ⟨ρ, S, E, ds, S1, r, h1, fun vs H1 ρ1 e1 s1 r1 => ?_⟩
  split at hm
  · rename_i hz
    cases hm
    have hl : vs.length ≤ sizeLine := by rw [← relDs_len r1]; exact Nat.le_trans hz line_ge
    refine ⟨hl, fun p hp => ?_⟩
    obtain ⟨n1, n2, n3⟩ := new_cell (c := .lst ds) (o := .lst vs) s1 hp ⟨vs, rfl, hl, r1⟩
    exact k (.ref p) _ _ (e1.trans n1) n2 n3
  · cases hm

/-! ### tests -/
def mVal (m : ME) : MT := fun E => bnd (m E) fun d S => match d with
  | .p (.bl b) => some (b, S)
  | _ => none
theorem val_t {K : PySem.W.Frag} {m : ME} : ∀ σ H Q, tT K (mVal m) σ H Q → tTest (tE K m) σ H Q := fun σ H Q q => by
  obtain ⟨ρ, S, E, b, S', r, hm, k⟩ := q
  obtain ⟨d, S1, h1, hm⟩ := bnd_some hm
  refine ⟨ρ, S, E, d, S1, r, h1, fun v H1 ρ1 e1 s1 r1 => ?_⟩
  split at hm
  · rename_i b'
    cases hm
    simp only [RelD, RelP] at r1
    exact ⟨_, r1, k H1 ρ1 e1 s1⟩
  · cases hm
theorem rt_cmp {op : CmpOp} {o : O2} {ma mb : ME} (ho : OpR X (compareOp op) (rD X.K o)) (ha : PE X a (tE X.K ma)) (hb : PE X b (tE X.K mb)) (hm : behindInMarks op b = false := by rfl) : PT X (.Compare a [op] [b] pos) (tT X.K (mVal (mBin o ma mb))) := by
  refine pt_wk (pt_cmpR ho ha hb hm) fun σ H Q q => ?_
  obtain ⟨ρ, S, E, b, S', r, hm, k⟩ := q
  obtain ⟨d, S1, h1, hm⟩ := bnd_some hm
  have q2 : tE X.K (mBin o ma mb) σ H fun v H' => ∃ k, v = .bl k ∧ Q k H' := by
    refine ⟨ρ, S, E, d, S1, r, h1, fun v H1 ρ1 e1 s1 r1 => ?_⟩
    split at hm
    · cases hm
      simp only [RelD, RelP] at r1
      exact ⟨_, r1, k H1 ρ1 e1 s1⟩
    · cases hm
  exact bin_t _ _ _ q2
/-- a call, a name, a subscript as a test, its value a bool -/
theorem rt_val {m : ME} (h : PE X e (tE X.K m)) (he : ∀ whole, isTrue e X.env whole = (do let v ← whole; standAt e.pos; holding [v] (truthy v)) := by intro _; rfl) : PT X e (tT X.K (mVal m)) :=
  pt_wk (pt_val h he) val_t
def mAnd (m n : MT) : MT := fun E => bnd (m E) fun c => if c then n E else ret false
def mOr (m n : MT) : MT := fun E => bnd (m E) fun c => if c then ret true else n E
def mNot (m : MT) : MT := fun E => bnd (m E) fun c => ret (!c)
theorem rw_and1 {m : MT} (h : PT X a (tT X.K m)) : PW X (.BoolOp .And [a] pos) (tT X.K m) := pw_and1 h
theorem rw_or1 {m : MT} (h : PT X a (tT X.K m)) : PW X (.BoolOp .Or [a] pos) (tT X.K m) := pw_or1 h
theorem rw_and {m n : MT} {rest : List Expr} (h : PT X a (tT X.K m)) (g : PW X (.BoolOp .And (b :: rest) pos) (tT X.K n)) : PW X (.BoolOp .And (a :: b :: rest) pos) (tT X.K (mAnd m n)) := by
  refine pw_wk (pw_and h g) fun σ H Q q => ?_
  obtain ⟨ρ, S, E, b, S', r, hm, k⟩ := q
  obtain ⟨c, S1, h1, hm⟩ := bnd_some hm
  refine ⟨ρ, S, E, c, S1, r, h1, fun H1 ρ1 e1 s1 => ?_⟩
  cases c with
  | true =>
    rw [if_pos rfl] at hm
    show tT X.K n σ H1 Q
    exact ⟨ρ1, S1, E, b, S', ⟨s1, r.e.ext e1⟩, hm, fun H2 ρ2 e2 s2 => k H2 ρ2 (e1.trans e2) s2⟩
  | false =>
    rw [if_neg Bool.false_ne_true] at hm
    cases hm
    exact k H1 ρ1 e1 s1
theorem rw_or {m n : MT} {rest : List Expr} (h : PT X a (tT X.K m)) (g : PW X (.BoolOp .Or (b :: rest) pos) (tT X.K n)) : PW X (.BoolOp .Or (a :: b :: rest) pos) (tT X.K (mOr m n)) := by
  refine pw_wk (pw_or h g) fun σ H Q q => ?_
  obtain ⟨ρ, S, E, b, S', r, hm, k⟩ := q
  obtain ⟨c, S1, h1, hm⟩ := bnd_some hm
  refine ⟨ρ, S, E, c, S1, r, h1, fun H1 ρ1 e1 s1 => ?_⟩
  cases c with
  | true =>
    rw [if_pos rfl] at hm
    cases hm
    exact k H1 ρ1 e1 s1
  | false =>
    rw [if_neg Bool.false_ne_true] at hm
    show tT X.K n σ H1 Q
    exact ⟨ρ1, S1, E, b, S', ⟨s1, r.e.ext e1⟩, hm, fun H2 ρ2 e2 s2 => k H2 ρ2 (e1.trans e2) s2⟩
theorem rt_not {m : MT} (h : PT X a (tT X.K m)) : PT X (.UnaryOp .Not a pos) (tT X.K (mNot m)) := by
  refine pt_wk (pt_not h) fun σ H Q q => ?_
  obtain ⟨ρ, S, E, b, S', r, hm, k⟩ := q
  obtain ⟨c, S1, h1, hm⟩ := bnd_some hm
  obtain ⟨rfl, rfl⟩ := ret_some hm
  exact ⟨ρ, S, E, c, _, r, h1, fun H1 ρ1 e1 s1 => k H1 ρ1 e1 s1⟩
/-- and, or, not as values: bools -/
def bE (m : MT) : ME := fun E => bnd (m E) fun b => ret (.p (.bl b))
def mAndV (m n : ME) : ME := fun E => bnd (m E) fun d => match d with
  | .p (.bl true) => n E
  | .p (.bl false) => ret (.p (.bl false))
  | _ => fail
def mOrV (m n : ME) : ME := fun E => bnd (m E) fun d => match d with
  | .p (.bl false) => n E
  | .p (.bl true) => ret (.p (.bl true))
  | _ => fail
def mNotV (m : ME) : ME := fun E => bnd (m E) fun d => match d with
  | .p (.bl b) => ret (.p (.bl (!b)))
  | _ => fail
theorem re_one {op} {m : ME} (h : PE X a (tE X.K m)) : PE X (.BoolOp op [a] pos) (tE X.K m) := pe_one h
theorem re_and {m n : ME} {rest : List Expr} (h : PE X a (tE X.K m)) (g : PE X (.BoolOp .And (b :: rest) pos) (tE X.K n)) : PE X (.BoolOp .And (a :: b :: rest) pos) (tE X.K (mAndV m n)) := by
  refine pe_wk (pe_and h g) fun σ H Q q => ?_
  obtain ⟨ρ, S, E, b, S', r, hm, k⟩ := q
  obtain ⟨c, S1, h1, hm⟩ := bnd_some hm
  refine ⟨ρ, S, E, c, S1, r, h1, fun v H1 ρ1 e1 s1 r1 => ?_⟩
  split at hm
  · simp only [RelD, RelP] at r1
    subst r1
    refine ⟨true, rfl, ?_⟩
    show tE X.K n σ H1 Q
    exact ⟨ρ1, S1, E, b, S', ⟨s1, r.e.ext e1⟩, hm, fun w H2 ρ2 e2 s2 r2 => k w H2 ρ2 (e1.trans e2) s2 r2⟩
  · cases hm
    have r1' := r1
    simp only [RelD, RelP] at r1'
    subst r1'
    exact ⟨false, rfl, k _ H1 ρ1 e1 s1 r1⟩
  · cases hm
theorem re_or {m n : ME} {rest : List Expr} (h : PE X a (tE X.K m)) (g : PE X (.BoolOp .Or (b :: rest) pos) (tE X.K n)) : PE X (.BoolOp .Or (a :: b :: rest) pos) (tE X.K (mOrV m n)) := by
  refine pe_wk (pe_or h g) fun σ H Q q => ?_
  obtain ⟨ρ, S, E, b, S', r, hm, k⟩ := q
  obtain ⟨c, S1, h1, hm⟩ := bnd_some hm
  refine ⟨ρ, S, E, c, S1, r, h1, fun v H1 ρ1 e1 s1 r1 => ?_⟩
  split at hm
  · simp only [RelD, RelP] at r1
    subst r1
    refine ⟨false, rfl, ?_⟩
    show tE X.K n σ H1 Q
    exact ⟨ρ1, S1, E, b, S', ⟨s1, r.e.ext e1⟩, hm, fun w H2 ρ2 e2 s2 r2 => k w H2 ρ2 (e1.trans e2) s2 r2⟩
  · cases hm
    have r1' := r1
    simp only [RelD, RelP] at r1'
    subst r1'
    exact ⟨true, rfl, k _ H1 ρ1 e1 s1 r1⟩
  · cases hm
theorem re_not {m : ME} (h : PE X a (tE X.K m)) : PE X (.UnaryOp .Not a pos) (tE X.K (mNotV m)) := by
  refine pe_wk (pe_not h) fun σ H Q q => ?_
  obtain ⟨ρ, S, E, b, S', r, hm, k⟩ := q
  obtain ⟨c, S1, h1, hm⟩ := bnd_some hm
  refine ⟨ρ, S, E, c, S1, r, h1, fun v H1 ρ1 e1 s1 r1 => ?_⟩
  split at hm
  · rename_i b'
    cases hm
    simp only [RelD, RelP] at r1
    exact ⟨_, r1, k _ H1 ρ1 e1 s1 (by simp only [RelD, RelP])⟩
  · cases hm
def mIf (t : MT) (m n : ME) : ME := fun E => bnd (t E) fun c => if c then m E else n E
theorem re_if {t : MT} {m n : ME} (hc : PT X c (tT X.K t)) (ha : PE X a (tE X.K m)) (hb : PE X b (tE X.K n)) : PE X (.IfExp c a b pos) (tE X.K (mIf t m n)) := by
  refine pe_wk (pe_ifExp hc ha hb) fun σ H Q q => ?_
  obtain ⟨ρ, S, E, d, S', r, hm, k⟩ := q
  obtain ⟨c, S1, h1, hm⟩ := bnd_some hm
  refine ⟨ρ, S, E, c, S1, r, h1, fun H1 ρ1 e1 s1 => ?_⟩
  cases c with
  | true =>
    rw [if_pos rfl] at hm
    show tE X.K m σ H1 Q
    exact ⟨ρ1, S1, E, d, S', ⟨s1, r.e.ext e1⟩, hm, fun v H2 ρ2 e2 s2 => k v H2 ρ2 (e1.trans e2) s2⟩
  | false =>
    rw [if_neg Bool.false_ne_true] at hm
    show tE X.K n σ H1 Q
    exact ⟨ρ1, S1, E, d, S', ⟨s1, r.e.ext e1⟩, hm, fun v H2 ρ2 e2 s2 => k v H2 ρ2 (e1.trans e2) s2⟩

/-! ### statements -/
inductive Fl where
  | nx (E : Vr)
  | rt (d : D)
  | bk (E : Vr)
  | ct (E : Vr)
abbrev MS := Vr → M Fl
def FlK (K : PySem.W.Frag) (D : Ends) (H : Hp) (ρ : Wd) : Fl → Prop
  | .nx E => ∀ σ, RelE K H ρ E σ → D.nx σ H
  | .rt d => ∀ v, RelD K H ρ d v → D.rt v H
  | .bk E => ∀ σ, RelE K H ρ E σ → D.bk σ H
  | .ct E => ∀ σ, RelE K H ρ E σ → D.ct σ H
def tS (K : PySem.W.Frag) (m : MS) : TS := fun D σ H => ∃ ρ S E f S', Rel K H ρ S E σ ∧ m E S = some (f, S') ∧
  ∀ H' ρ', Ext ρ H ρ' H' → RelS K H' ρ' S' → FlK K D H' ρ' f
def sNil : MS := fun E S => some (.nx E, S)
def sSeq (m n : MS) : MS := fun E => bnd (m E) fun f => match f with
  | .nx E' => n E'
  | f => ret f
theorem rss_nil : PSs X [] (tS X.K sNil) := by
  refine pss_wk pss_nil fun D σ H q => ?_
  obtain ⟨ρ, S, E, f, S', r, hm, k⟩ := q
  cases hm
  exact k H ρ Ext.refl r.s σ r.e
theorem rss_cons {m n : MS} (h : PS X st (tS X.K m)) (g : PSs X sts (tS X.K n)) : PSs X (st :: sts) (tS X.K (sSeq m n)) := by
  refine pss_wk (pss_cons h g) fun D σ H q => ?_
  obtain ⟨ρ, S, E, f, S', r, hm, k⟩ := q
  obtain ⟨f1, S1, h1, hm⟩ := bnd_some hm
  refine ⟨ρ, S, E, f1, S1, r, h1, fun H1 ρ1 e1 s1 => ?_⟩
  cases f1 with
  | nx E1 => exact fun σ1 r1 => ⟨ρ1, S1, E1, f, S', ⟨s1, r1⟩, hm, fun H2 ρ2 e2 s2 => k H2 ρ2 (e1.trans e2) s2⟩
  | rt d =>
    cases hm
    exact k H1 ρ1 e1 s1
  | bk d =>
    cases hm
    exact k H1 ρ1 e1 s1
  | ct d =>
    cases hm
    exact k H1 ρ1 e1 s1
def sBreak : MS := fun E S => some (.bk E, S)
def sCont : MS := fun E S => some (.ct E, S)
theorem rs_break : PS X (.Break pos) (tS X.K sBreak) := by
  refine ps_wk ps_break fun D σ H q => ?_
  obtain ⟨ρ, S, E, f, S', r, hm, k⟩ := q
  cases hm
  exact k H ρ Ext.refl r.s σ r.e
theorem rs_cont : PS X (.Continue pos) (tS X.K sCont) := by
  refine ps_wk ps_continue fun D σ H q => ?_
  obtain ⟨ρ, S, E, f, S', r, hm, k⟩ := q
  cases hm
  exact k H ρ Ext.refl r.s σ r.e
theorem rs_pass : PS X (.Pass pos) (tS X.K sNil) := by
  refine ps_wk ps_pass fun D σ H q => ?_
  obtain ⟨ρ, S, E, f, S', r, hm, k⟩ := q
  cases hm
  exact k H ρ Ext.refl r.s σ r.e
def sRet (m : ME) : MS := fun E => bnd (m E) fun d => ret (.rt d)
theorem rs_ret {m : ME} (h : PE X e (tE X.K m)) : PS X (.Return (some e) pos) (tS X.K (sRet m)) := by
  refine ps_wk (ps_ret h) fun D σ H q => ?_
  obtain ⟨ρ, S, E, f, S', r, hm, k⟩ := q
  obtain ⟨d, S1, h1, hm⟩ := bnd_some hm
  obtain ⟨rfl, rfl⟩ := ret_some hm
  exact ⟨ρ, S, E, d, _, r, h1, fun v H1 ρ1 e1 s1 r1 => k H1 ρ1 e1 s1 v r1⟩
def sIf (t : MT) (m n : MS) : MS := fun E => bnd (t E) fun c => if c then m E else n E
theorem rs_if {c : Expr} {as bs : List Stmt} {t : MT} {m n : MS} (hc : PT X c (tT X.K t)) (ha : PSs X as (tS X.K m)) (hb : PSs X bs (tS X.K n)) : PS X (.If c as bs pos) (tS X.K (sIf t m n)) := by
  refine ps_wk (ps_if hc ha hb) fun D σ H q => ?_
  obtain ⟨ρ, S, E, f, S', r, hm, k⟩ := q
  obtain ⟨c, S1, h1, hm⟩ := bnd_some hm
  refine ⟨ρ, S, E, c, S1, r, h1, fun H1 ρ1 e1 s1 => ?_⟩
  cases c with
  | true =>
    rw [if_pos rfl] at hm
    show tS X.K m D σ H1
    exact ⟨ρ1, S1, E, f, S', ⟨s1, r.e.ext e1⟩, hm, fun H2 ρ2 e2 s2 => k H2 ρ2 (e1.trans e2) s2⟩
  | false =>
    rw [if_neg Bool.false_ne_true] at hm
    show tS X.K n D σ H1
    exact ⟨ρ1, S1, E, f, S', ⟨s1, r.e.ext e1⟩, hm, fun H2 ρ2 e2 s2 => k H2 ρ2 (e1.trans e2) s2⟩
/-- a statement that is never come to -/
def sFail : MS := fun _ _ => none
theorem rs_fail : PS X st (tS X.K sFail) := ps_wk ps_never fun D σ H q => by
  obtain ⟨ρ, S, E, f, S', r, hm, k⟩ := q
  cases hm
theorem rss_fail : PSs X sts (tS X.K sFail) := pss_wk pss_never fun D σ H q => by
  obtain ⟨ρ, S, E, f, S', r, hm, k⟩ := q
  cases hm
def sDrop (m : ME) : MS := fun E => bnd (m E) fun _ => ret (.nx E)
theorem rs_expr {m : ME} (h : PE X e (tE X.K m)) (hs : swapsWith e none pos.line X.env = pure false := by rfl) : PS X (.Expr e pos) (tS X.K (sDrop m)) := by
  refine ps_wk (ps_expr h hs) fun D σ H q => ?_
  obtain ⟨ρ, S, E, f, S', r, hm, k⟩ := q
  obtain ⟨d, S1, h1, hm⟩ := bnd_some hm
  obtain ⟨rfl, rfl⟩ := ret_some hm
  exact ⟨ρ, S, E, d, _, r, h1, fun v H1 ρ1 e1 s1 r1 => k H1 ρ1 e1 s1 σ (r.e.ext e1)⟩

/-! ### targets -/
abbrev Tg := D → Vr → Option Vr
abbrev Tgs := List D → Vr → Option Vr
/-- the slots that a target stores -/
structure Kp (vs : List Nat) (σ σ' : L2.St) : Prop where
  len : σ'.length = σ.length
  same : ∀ i, i ∉ vs → σ'[i]? = σ[i]?
/-- what a target stores -/
def RelG (K : PySem.W.Frag) (vs : List Nat) (g : TG) (t : Tg) : Prop := ∀ ρ S E E' σ H d v (Q : L2.St → Hp → Prop), Rel K H ρ S E σ → RelD K H ρ d v → t d E = some E' →
  (∀ σ', RelE K H ρ E' σ' → Kp vs σ σ' → Q σ' H) → g v σ H Q
def RelGs (K : PySem.W.Frag) (vs : List Nat) (g : TGs) (t : Tgs) : Prop := ∀ ρ S E E' σ H ds ws (Q : L2.St → Hp → Prop), Rel K H ρ S E σ → RelDs K H ρ ds ws → t ds E = some E' →
  (∀ σ', RelE K H ρ E' σ' → Kp vs σ σ' → Q σ' H) → g ws σ H Q
structure RG (X : Cx) (tg : Expr) (vs : List Nat) (t : Tg) : Prop where
  ex : ∃ g, PG X tg g ∧ RelG X.K vs g t
structure RGs (X : Cx) (tgs : List Expr) (vs : List Nat) (t : Tgs) : Prop where
  ex : ∃ g, PGs X tgs g ∧ RelGs X.K vs g t
def gN (i : Nat) : Tg := fun d E => some (E.set i (some d))
theorem rel_gN {K : PySem.W.Frag} (i : Nat) : RelG K [i] (gName i) (gN i) := fun ρ S E E' σ H d v Q r rd ht k => by
  cases ht
  exact k _ (r.e.set i rd) ⟨by simp, fun j hj => List.getElem?_set_ne (fun z : i = j => hj (by simp [z]))⟩
theorem rg_name {i : Nat} {x : Str} (hN : X.N.Nodup) (hi : X.N[i]? = some x) (hx : Loc X.env.scope x) (hf : X.fn x = true ∨ X.env.scope.names.lookup x = some .local) : RG X (.Name x pos) [i] (gN i) := by
  exact ⟨gName i, pg_name hN hi hx hf, rel_gN i⟩
def gsNil : Tgs := fun ds E => match ds with
  | [] => some E
  | _ => none
def gsCons (t : Tg) (u : Tgs) : Tgs := fun ds E => match ds with
  | d :: r => (t d E).bind (u r)
  | [] => none
theorem rgs_nil : RGs X [] [] gsNil := by
  refine ⟨gNil, pgs_nil, fun ρ S E E' σ H ds ws Q r rd ht k => ?_⟩
  cases ds with
  | nil =>
    cases ht
    cases rd
    exact ⟨rfl, k σ r.e ⟨rfl, fun _ _ => rfl⟩⟩
  | cons _ _ => cases ht
theorem rgs_cons {vs us : List Nat} {t : Tg} {u : Tgs} (h : RG X e vs t) (g : RGs X es us u) (hs : (assignEach (e :: es) X.env).map (·.2) = assign e X.env :: (assignEach es X.env).map (·.2) := by rfl) : RGs X (e :: es) (vs ++ us) (gsCons t u) := by
  obtain ⟨g1, p1, r1⟩ := h.ex
  obtain ⟨g2, p2, r2⟩ := g.ex
  refine ⟨gCons g1 g2, pgs_cons p1 p2 hs, fun ρ S E E' σ H ds ws Q r rd ht k => ?_⟩
  cases ds with
  | nil => cases ht
  | cons d ds =>
    cases rd with
    | cons rv rq =>
      rename_i v q
      cases e1 : t d E with
      | none => simp [gsCons, e1] at ht
      | some E1 =>
        simp only [gsCons, e1, Option.bind_some] at ht
        refine ⟨v, q, rfl, r1 ρ S E E1 σ H d v _ r rv e1 fun σ1 re1 f1 => ?_⟩
        exact r2 ρ S E1 E' σ1 H ds q Q ⟨r.s, re1⟩ rq ht fun σ2 re2 f2 => k σ2 re2 ⟨f2.len.trans f1.len, fun i hi => by
          simp only [List.mem_append, not_or] at hi
          rw [f2.same i hi.2, f1.same i hi.1]⟩
theorem relDs_ps {K : PySem.W.Frag} {H : Hp} {ρ : Wd} : ∀ {ds : List PD} {vs : List V}, RelPs K H ρ ds vs → RelDs K H ρ (ds.map D.p) vs
  | [], _, h => by simp only [RelPs] at h; subst h; exact .nil
  | d :: ds, _, h => by
    simp only [RelPs] at h
    obtain ⟨v, r, rfl, h1, h2⟩ := h
    exact .cons h1 (relDs_ps h2)
def gT (n : Nat) (u : Tgs) : Tg := fun d E => match d with
  | .p (.tup ds) => if ds.length = n then u (ds.map D.p) E else none
  | .p (.tpl ds) => if ds.length = n then u (ds.map D.p) E else none
  | _ => none
theorem rg_tup {us : List Nat} {u : Tgs} {k : Nat} {n : Nat} (hc : X.calm = true) (g : RGs X es us u) (hn : (assignEach es X.env).length = n := by rfl) (hst : (assignEach es X.env).findIdx? (·.1) = none := by rfl) : RG X (.Tuple es k pos) us (gT n u) := by
  obtain ⟨g2, p2, r2⟩ := g.ex
  refine ⟨gTup X.K n g2, pg_tup hc p2 hn hst, fun ρ S E E' σ H d v Q r rd ht k => ?_⟩
  unfold gT at ht
  split at ht
  · rename_i ds
    split at ht
    · rename_i hl
      simp only [RelD, RelP] at rd
      obtain ⟨a, vs, rfl, h1, h2⟩ := rd
      exact ⟨a, vs, rfl, h1.sq, by rw [h2.length, hl], r2 ρ S E E' σ H _ vs Q r (relDs_ps h2) ht k⟩
    · cases ht
  · rename_i ds
    split at ht
    · rename_i hl
      simp only [RelD, RelP] at rd
      obtain ⟨a, vs, rfl, h1, h2⟩ := rd
      exact ⟨a, vs, rfl, h1.sq, by rw [h2.length, hl], r2 ρ S E E' σ H _ vs Q r (relDs_ps h2) ht k⟩
    · cases ht
  · cases ht
/-- (a, b, ..) = (x, y, ..): whatever the values are -/
def sUnp (ma : MA) (n : Nat) (u : Tgs) : MS := fun E => bnd (ma E) fun ds => if ds.length = n ∧ n ≤ 100000 then match u ds E with
  | some E' => ret (.nx E')
  | none => fail
  else fail
theorem rs_unp {ts : List Expr} {us : List Nat} {u : Tgs} {ma : MA} {n k k2 : Nat} {p1 p2 : Pos} (hc : X.calm = true) (ha : PA X es (tA X.K ma)) (g : RGs X ts us u) (hs : swapsWithSole [.Tuple ts k p1] (.Tuple es k2 p2) pos.line X.env = pure false := by rfl)
    (hw : swappedStores [.Tuple ts k p1] (.Tuple es k2 p2) X.env = pure none := by rfl) (h1 : (assignEach [.Tuple ts k p1] X.env).map (·.2) = [assign (.Tuple ts k p1) X.env] := by rfl)
    (hn : (assignEach ts X.env).length = n := by rfl) (hst : (assignEach ts X.env).findIdx? (·.1) = none := by rfl) : PS X (.Assign [.Tuple ts k p1] (.Tuple es k2 p2) pos) (tS X.K (sUnp ma n u)) := by
  obtain ⟨g2, pg2, r2⟩ := g.ex
  refine ps_wk (ps_asg (pe_tup ha) (pg_tup hc pg2 hn hst) hs hw h1) fun D σ H q => ?_
  obtain ⟨ρ, S, E, f, S', r, hm, kk⟩ := q
  obtain ⟨ds, S1, h2, hm⟩ := bnd_some hm
  refine ⟨ρ, S, E, ds, S1, r, h2, fun vs H1 ρ1 e1 s1 rd => ?_⟩
  split at hm
  · rename_i hz
    have hl := relDs_len rd
    refine ⟨by have := line_ge; omega, fun p hp => ⟨p, vs, rfl, .inl (.inl upd_same), by omega, ?_⟩⟩
    cases hu : u ds E with
    | none => rw [hu] at hm; cases hm
    | some E' =>
      rw [hu] at hm
      obtain ⟨rfl, rfl⟩ := ret_some hm
      have e2 := e1.trans (Ex.new (o := .tup vs) hp).ext
      refine r2 ρ1 _ E E' σ _ ds vs _ ⟨s1.ex (Ex.new hp), r.e.ext e2⟩ (RelDs.ext (Ex.new hp).ext rd) hu fun σ' re' _ => ?_
      exact kk _ ρ1 e2 (s1.ex (Ex.new hp)) σ' re'
  · cases hm
/-- a, b = x, y with plain names: stored without a tuple -/
def sPar (i j : Nat) (ma : MA) : MS := fun E => bnd (ma E) fun ds => match ds with
  | [x, y] => ret (.nx ((E.set i (some x)).set j (some y)))
  | _ => fail
theorem rs_par {i j : Nat} {x y : Str} {a b : Expr} {ma : MA} {px py pt : Pos} {kt k2 pt2} (hc : X.calm = true) (hN : X.N.Nodup) (hi : X.N[i]? = some x) (hj : X.N[j]? = some y) (hij : i ≠ j)
    (hx : X.env.scope.names.lookup x = some .local) (hy : X.env.scope.names.lookup y = some .local) (ha : PA X [a, b] (tA X.K ma))
    (hw : swappedStores [.Tuple [.Name x px, .Name y py] kt pt] (.Tuple [a, b] k2 pt2) X.env = pure (some [x, y]))
    (hs : swapsWithSole [.Tuple [.Name x px, .Name y py] kt pt] (.Tuple [a, b] k2 pt2) pos.line X.env = pure false := by rfl) :
    PS X (.Assign [.Tuple [.Name x px, .Name y py] kt pt] (.Tuple [a, b] k2 pt2) pos) (tS X.K (sPar i j ma)) := by
  refine ps_wk (ps_par hc hN hi hj hij hx hy ha hw hs) fun D σ H q => ?_
  obtain ⟨ρ, S, E, f, S', r, hm, kk⟩ := q
  obtain ⟨ds, S1, h2, hm⟩ := bnd_some hm
  refine ⟨ρ, S, E, ds, S1, r, h2, fun vs H1 ρ1 e1 s1 rd => ?_⟩
  split at hm
  · obtain ⟨rfl, rfl⟩ := ret_some hm
    cases rd with
    | cons r1 t =>
      cases t with
      | cons r2 t =>
        cases t
        exact ⟨_, _, rfl, kk H1 ρ1 e1 s1 _ (((r.e.ext e1).set i r1).set j r2)⟩
  · cases hm
/-- target = value -/
def sAsg (m : ME) (t : Tg) : MS := fun E => bnd (m E) fun d => match t d E with
  | some E' => ret (.nx E')
  | none => fail
theorem asg_t {K : PySem.W.Frag} {m : ME} {vs : List Nat} {g : TG} {t : Tg} (r2 : RelG K vs g t) : ∀ D σ H, tS K (sAsg m t) D σ H → tAsg (tE K m) g D σ H := fun D σ H q => by
  obtain ⟨ρ, S, E, f, S', r, hm, k⟩ := q
  obtain ⟨d, S1, h1, hm⟩ := bnd_some hm
  refine ⟨ρ, S, E, d, S1, r, h1, fun v H1 ρ1 e1 s1 r1 => ?_⟩
  cases he : t d E with
  | some E' =>
    rw [he] at hm
    obtain ⟨rfl, rfl⟩ := ret_some hm
    exact r2 ρ1 _ E E' σ H1 d v _ ⟨s1, r.e.ext e1⟩ r1 he fun σ' re' _ => k H1 ρ1 e1 s1 σ' re'
  | none =>
    rw [he] at hm
    cases hm
theorem rs_asg {tg : Expr} {vs : List Nat} {t : Tg} {m : ME} (h : PE X e (tE X.K m)) (hg : RG X tg vs t) (hs : swapsWithSole [tg] e pos.line X.env = pure false := by rfl) (hw : swappedStores [tg] e X.env = pure none := by rfl)
    (h1 : (assignEach [tg] X.env).map (·.2) = [assign tg X.env] := by rfl) : PS X (.Assign [tg] e pos) (tS X.K (sAsg m t)) := by
  obtain ⟨g, p, r⟩ := hg.ex
  exact ps_wk (ps_asg h p hs hw h1) (asg_t r)
theorem rs_set {i : Nat} {x : Str} {pos' : Pos} {m : ME} (hN : X.N.Nodup) (hi : X.N[i]? = some x) (hx : Loc X.env.scope x) (h : PE X e (tE X.K m)) (hs : swapsWith e (some (.Name x pos')) pos.line X.env = pure false := by rfl)
    (hf : X.fn x = true ∨ X.env.scope.names.lookup x = some .local) : PS X (.Assign [.Name x pos'] e pos) (tS X.K (sAsg m (gN i))) :=
  ps_wk (ps_set hN hi hx h hs hf) (asg_t (rel_gN i))
end
end Pt
set_option maxRecDepth 100000
/-! Pt3: what is walked, for, while, list comprehensions. -/
namespace Pt
open PySem PySem.Spec PyProof.Rows L2

theorem Pers.trans {ρ ρ1 ρ2 : Wd} {H H1 H2 : Hp} (a : Pers ρ H ρ1 H1) (b : Pers ρ1 H1 ρ2 H2) : Pers ρ H ρ2 H2 :=
  ⟨b.fl.trans a.fl, fun x o h n t => let q := a.keep x o h n t; b.keep x o q.1 q.2 t⟩
structure SrcOk (K : PySem.W.Frag) (J : It) (ρ : Wd) (H : Hp) (xs : List PD) : Prop where
  go : ∀ ρ' H' S, Pers ρ H ρ' H' → RelS K H' ρ' S → ∀ (i : Nat) (d : PD), xs[i]? = some d → J.go i H' ∧ ∀ v H'', J.yld i H' v H'' → Ex H' H'' ∧ RelP K H'' ρ' d v
  stop : ∀ ρ' H' S, Pers ρ H ρ' H' → RelS K H' ρ' S → J.stop xs.length H'
  fit : xs.length ≤ sizeLine
abbrev MI := Vr → M (List PD)
def tI (K : PySem.W.Frag) (m : MI) : TI := fun σ H R => ∃ ρ S E xs S', Rel K H ρ S E σ ∧ m E S = some (xs, S') ∧
  ∀ J H' ρ', Ext ρ H ρ' H' → RelS K H' ρ' S' → SrcOk K J ρ' H' xs → R J H'
section
variable {X : Cx} {tg e a b iter : Expr} {pos : Pos}
theorem pi_wk {t t' : TI} (h : PI X tg iter t) (w : ∀ σ H Q, t' σ H Q → t σ H Q) : PI X tg iter t' := ⟨fun pins s σ H Q I q => h.run pins s σ H Q I (w _ _ _ q)⟩
/-! ### sources -/
theorem src_list {K : PySem.W.Frag} {ρ : Wd} {H : Hp} {ds : List PD} {a : Addr} {vs : List V} (hz : vs.length ≤ sizeLine) (sq : ∀ ρ' H', Pers ρ H ρ' H' → SqL K H' a vs)
    (uniq : ∀ ρ' H' S xs, Pers ρ H ρ' H' → RelS K H' ρ' S → SqL K H' a xs → xs = vs) (h2 : RelPs K H ρ ds vs) : SrcOk K (Itl K a) ρ H ds := by
  refine ⟨fun ρ' H' S p s i d hd => ?_, fun ρ' H' S p s => ⟨vs, sq _ _ p, by rw [h2.length]; exact Nat.le_refl _⟩, by rw [← h2.length]; exact hz⟩
  obtain ⟨v, hv, rv⟩ := h2.get hd
  refine ⟨⟨vs, v, sq _ _ p, hv⟩, fun v' H'' hy => ?_⟩
  obtain ⟨rfl, f⟩ := hy
  have e := f vs (sq _ _ p)
  rw [hv] at e
  cases e
  exact ⟨Ex.refl, RelP.pers p rv⟩
/-- a value: a list, a tuple, a text's signs -/
def signs (x : Str) : List PD := x.cps.toList.map fun c => .str ⟨#[c]⟩
def iSeq (m : ME) : MI := fun E => bnd (m E) fun d S => match d with
  | .p (.lst ds) => some (ds, S)
  | .p (.tup ds) => some (ds, S)
  | .p (.str x) => if x.cps.size ≤ 100000 then some (signs x, S) else none
  | _ => none
theorem ri_seq {m : ME} (h : PE X iter (tE X.K m)) : PI X tg iter (tI X.K (iSeq m)) := by
  refine ⟨fun pins s σ H R I q => ?_⟩
  obtain ⟨ρ, S, E, xs, S', r, hm, k⟩ := q
  obtain ⟨d, S1, h1, hm⟩ := bnd_some hm
  split at hm
  · rename_i ds
    cases hm
    refine (pi_list h).run pins s σ H R I ⟨ρ, S, E, .p (.lst xs), _, r, h1, fun v H1 ρ1 e1 s1 r1 => ?_⟩
    simp only [RelD, RelP] at r1
    obtain ⟨a, vs, rfl, hl, h2⟩ := r1
    refine ⟨a, rfl, ⟨vs, hl.sq⟩, k _ H1 ρ1 e1 s1 ⟨fun ρ' H' S p s i d hd => ?_, fun ρ' H' S p s => ⟨vs, (hl.ext p).sq, by rw [h2.length]; exact Nat.le_refl _⟩, by rw [← h2.length]; exact hl.fit⟩⟩
    obtain ⟨v, hv, rv⟩ := h2.get hd
    refine ⟨⟨vs, v, (hl.ext p).sq, hv⟩, fun v' H'' hy => ?_⟩
    obtain ⟨rfl, f⟩ := hy
    have e := f vs (hl.ext p).sq
    rw [hv] at e
    cases e
    exact ⟨Ex.refl, RelP.pers p rv⟩
  · rename_i ds
    cases hm
    refine (pi_tup h).run pins s σ H R I ⟨ρ, S, E, .p (.tup xs), _, r, h1, fun v H1 ρ1 e1 s1 r1 => ?_⟩
    simp only [RelD, RelP] at r1
    obtain ⟨a, vs, rfl, hl, h2⟩ := r1
    refine ⟨a, rfl, ⟨vs, hl.sq⟩, k _ H1 ρ1 e1 s1 ⟨fun ρ' H' S p s i d hd => ?_, fun ρ' H' S p s => ⟨vs, (hl.ext p).sq, by rw [h2.length]; exact Nat.le_refl _⟩, by rw [← h2.length]; exact hl.fit⟩⟩
    obtain ⟨v, hv, rv⟩ := h2.get hd
    refine ⟨⟨vs, v, (hl.ext p).sq, hv⟩, fun v' H'' hy => ?_⟩
    obtain ⟨rfl, f⟩ := hy
    have e := f vs (hl.ext p).sq
    rw [hv] at e
    cases e
    exact ⟨Ex.refl, RelP.pers p rv⟩
  · rename_i x
    split at hm
    · rename_i hz
      cases hm
      refine (pi_str h).run pins s σ H R I ⟨ρ, S, E, .p (.str x), _, r, h1, fun v H1 ρ1 e1 s1 r1 => ?_⟩
      simp only [RelD, RelP] at r1
      refine ⟨x, r1, k _ H1 ρ1 e1 s1 ⟨fun ρ' H' S p s i d hd => ?_, fun ρ' H' S p s => ?_, ?_⟩⟩
      · unfold signs at hd
        rw [List.getElem?_map, Option.map_eq_some_iff] at hd
        obtain ⟨c, hc, rfl⟩ := hd
        have hc2 : x.cps[i]? = some c := by simpa using hc
        refine ⟨(Array.getElem?_eq_some_iff.mp hc2).1, fun v' H'' hy => ?_⟩
        obtain ⟨rfl, c', hc', rfl⟩ := hy
        rw [hc2] at hc'
        cases hc'
        exact ⟨Ex.refl, by simp only [RelP]⟩
      · show x.cps.size ≤ _
        simp [signs]
      · have := line_ge
        simp [signs]
        omega
    · cases hm
  · cases hm
def rgInts (lo : Int) (n : Nat) : List PD := (List.range n).map fun (i : Nat) => .int (lo + i)
def iRange1 (m : MA) : MI := fun E => bnd (m E) fun ds S => match ds with
  | [.p (.int j)] => if -100000 ≤ j ∧ j ≤ 100000 then some (rgInts 0 j.toNat, S) else none
  | _ => none
def iRange2 (m : MA) : MI := fun E => bnd (m E) fun ds S => match ds with
  | [.p (.int i), .p (.int j)] => if -100000 ≤ i ∧ i ≤ 100000 ∧ j ≤ 100000 ∧ -100000 ≤ j ∧ j - i ≤ 100000 then some (rgInts i (j - i).toNat, S) else none
  | _ => none
theorem src_range {K : PySem.W.Frag} {ρ : Wd} {H : Hp} {lo : Int} {n : Nat} (hn : n ≤ sizeLine) : SrcOk K (Itr lo n) ρ H (rgInts lo n) := by
  refine ⟨fun ρ' H' S p s i d hd => ?_, fun ρ' H' S p s => by simp [rgInts, Itr], by simpa [rgInts] using hn⟩
  unfold rgInts at hd
  rw [List.getElem?_map, Option.map_eq_some_iff] at hd
  obtain ⟨j, hj, rfl⟩ := hd
  obtain ⟨h1, h2⟩ := List.getElem?_eq_some_iff.mp hj
  simp at h1 h2
  subst h2
  refine ⟨h1, fun v H'' hy => ?_⟩
  obtain ⟨rfl, rfl⟩ := hy
  exact ⟨Ex.refl, by simp only [RelP]⟩
theorem rel1 {K : PySem.W.Frag} {H : Hp} {ρ : Wd} {d : D} {vs : List V} (r : RelDs K H ρ [d] vs) : ∃ v, vs = [v] ∧ RelD K H ρ d v := by
  cases r with
  | cons r1 r2 => cases r2; exact ⟨_, rfl, r1⟩
theorem rel2 {K : PySem.W.Frag} {H : Hp} {ρ : Wd} {d e : D} {vs : List V} (r : RelDs K H ρ [d, e] vs) : ∃ v w, vs = [v, w] ∧ RelD K H ρ d v ∧ RelD K H ρ e w := by
  cases r with
  | cons r1 r2 =>
    cases r2 with
    | cons r2 r3 => cases r3; exact ⟨_, _, rfl, r1, r2⟩
theorem rel3 {K : PySem.W.Frag} {H : Hp} {ρ : Wd} {d e f : D} {vs : List V} (r : RelDs K H ρ [d, e, f] vs) : ∃ v w u, vs = [v, w, u] ∧ RelD K H ρ d v ∧ RelD K H ρ e w ∧ RelD K H ρ f u := by
  cases r with
  | cons r1 r2 =>
    obtain ⟨v, w, rfl, a, b⟩ := rel2 r2
    exact ⟨_, _, _, rfl, r1, a, b⟩
theorem ri_range1 {m : MA} {p : Pos} (hg : Gl X "range") (hm : X.mg "range" = none) (ha : PA X [a] (tA X.K m)) (hs : starEach [a] X.env = [(false, eval a X.env)] := by rfl) : PI X tg (.Call (.Name "range" p) [a] [] pos) (tI X.K (iRange1 m)) := by
  refine pi_wk (pi_range1 hg hm ha hs) fun σ H R q => ?_
  obtain ⟨ρ, S, E, xs, S', r, hm, k⟩ := q
  obtain ⟨ds, S1, h1, hm⟩ := bnd_some hm
  refine ⟨ρ, S, E, ds, S1, r, h1, fun vs H1 ρ1 e1 s1 r1 => ?_⟩
  split at hm
  · rename_i j
    split at hm
    · rename_i hj
      cases hm
      obtain ⟨v, rfl, rv⟩ := rel1 r1
      simp only [RelD, RelP] at rv
      subst rv
      have hz : j.toNat ≤ sizeLine := by have := line_ge; omega
      exact ⟨j, rfl, by omega, by omega, k _ H1 ρ1 e1 s1 (src_range hz)⟩
    · cases hm
  · cases hm
theorem ri_range2 {m : MA} {p : Pos} (hg : Gl X "range") (hm : X.mg "range" = none) (ha : PA X [a, b] (tA X.K m)) (hs : starEach [a, b] X.env = [(false, eval a X.env), (false, eval b X.env)] := by rfl) (hs2 : starEach [b] X.env = [(false, eval b X.env)] := by rfl) :
    PI X tg (.Call (.Name "range" p) [a, b] [] pos) (tI X.K (iRange2 m)) := by
  refine pi_wk (pi_range2 hg hm ha hs hs2) fun σ H R q => ?_
  obtain ⟨ρ, S, E, xs, S', r, hm, k⟩ := q
  obtain ⟨ds, S1, h1, hm⟩ := bnd_some hm
  refine ⟨ρ, S, E, ds, S1, r, h1, fun vs H1 ρ1 e1 s1 r1 => ?_⟩
  split at hm
  · rename_i i j
    split at hm
    · rename_i hj
      cases hm
      obtain ⟨v, w, rfl, rv, rw'⟩ := rel2 r1
      simp only [RelD, RelP] at rv rw'
      subst rv; subst rw'
      have hz : (j - i).toNat ≤ sizeLine := by have := line_ge; omega
      exact ⟨i, j, rfl, by omega, k _ H1 ρ1 e1 s1 (src_range hz)⟩
    · cases hm
  · cases hm

/-! ### for -/
def fLoop (t : Tg) (mb : MS) : List PD → MS
  | [] => fun E S => some (.nx E, S)
  | x :: xs => fun E S => match t (.p x) E with
    | none => none
    | some E1 => match mb E1 S with
      | some (.nx E2, S2) => fLoop t mb xs E2 S2
      | some (.ct E2, S2) => fLoop t mb xs E2 S2
      | some (.bk E2, S2) => some (.nx E2, S2)
      | some (.rt d, S2) => some (.rt d, S2)
      | none => none
def sFor (ms : MI) (t : Tg) (mb : MS) : MS := fun E => bnd (ms E) fun xs => fLoop t mb xs E
theorem rs_for {ms : MI} {vs : List Nat} {t : Tg} {body : List Stmt} {mb : MS} (hp : PassesOwn (model X.prog X.w) X.A X.env X.xe) (hc : X.calm = true) (hi : PI X tg iter (tI X.K ms)) (hg : RG X tg vs t) (hb : PSs X body (tS X.K mb))
    (hs : ∀ x, foldedSetIterable iter X.env x = pure x := by intro _; rfl) : PS X (.For tg iter body [] pos) (tS X.K (sFor ms t mb)) := by
  obtain ⟨g, p, rg⟩ := hg.ex
  refine ps_wk (ps_for hp hc hi p hb hs) fun D σ H q => ?_
  obtain ⟨ρ, S, E, f, S', r, hm, k⟩ := q
  obtain ⟨xs, S1, h1, hm⟩ := bnd_some hm
  refine ⟨ρ, S, E, xs, S1, r, h1, fun J H1 ρ1 e1 s1 src => ?_⟩
  refine ⟨fun i m σ' H' => ∃ ρ' S2 E2, Rel X.K H' ρ' S2 E2 σ' ∧ Ext ρ1 H1 ρ' H' ∧ i + m = xs.length ∧ fLoop t mb (xs.drop i) E2 S2 = some (f, S'), ⟨xs.length, ρ1, S1, E, ⟨s1, r.e.ext e1⟩, Ext.refl, by simp, by simpa using hm⟩, fun i m σ' H' w => ?_⟩
  obtain ⟨ρ', S2, E2, r2, e2, hlen, hl⟩ := w
  by_cases hi : i < xs.length
  · right
    have hx : xs[i]? = some xs[i] := List.getElem?_eq_getElem hi
    obtain ⟨go, yl⟩ := src.go ρ' H' S2 e2.pers r2.s i _ hx
    rw [List.drop_eq_getElem_cons hi] at hl
    unfold fLoop at hl
    cases ht : t (.p xs[i]) E2 with
    | none => simp only [ht] at hl; cases hl
    | some E1 =>
      simp only [ht] at hl
      cases hmb : mb E1 S2 with
      | none => simp only [hmb] at hl; cases hl
      | some q =>
        obtain ⟨fl, S3⟩ := q
        refine ⟨go, fun σ3 H3 => ∃ ρ3 S4 E3, Rel X.K H3 ρ3 S4 E3 σ3 ∧ Ext ρ1 H1 ρ3 H3 ∧ fLoop t mb (xs.drop (i + 1)) E3 S4 = some (f, S'), fun σ3 H3 ⟨ρ3, S4, E3, a1, a2, a3⟩ => ⟨m - 1, by omega, ρ3, S4, E3, a1, a2, by omega, a3⟩, fun v H3 hy => ?_⟩
        obtain ⟨ex, rp⟩ := yl v H3 hy
        have s3 := r2.s.ex ex
        refine rg ρ' S2 E2 E1 σ' H3 (.p xs[i]) v _ ⟨s3, r2.e.ext ex.ext⟩ rp ht fun σ4 re4 _ => ?_
        refine ⟨ρ', S2, E1, fl, S3, ⟨s3, re4⟩, hmb, fun H5 ρ5 e5 s5 => ?_⟩
        have e6 := (e2.trans ex.ext).trans e5
        simp only [hmb] at hl
        cases fl with
        | nx E5 => exact fun σ5 r5 => ⟨ρ5, S3, E5, ⟨s5, r5⟩, e6, hl⟩
        | ct E5 => exact fun σ5 r5 => ⟨ρ5, S3, E5, ⟨s5, r5⟩, e6, hl⟩
        | bk E5 =>
          cases hl
          exact k H5 ρ5 (e1.trans e6) s5
        | rt d =>
          cases hl
          exact k H5 ρ5 (e1.trans e6) s5
  · left
    have ei : i = xs.length := by omega
    subst ei
    rw [List.drop_length] at hl
    cases hl
    exact ⟨src.stop ρ' H' _ e2.pers r2.s, k H' ρ' (e1.trans e2) r2.s σ' r2.e⟩

/-! ### while -/
/-- at most n turns -/
def wLoop (c : MT) (mb : MS) : Nat → MS
  | 0 => fun _ _ => none
  | n + 1 => fun E S => match c E S with
    | none => none
    | some (false, S1) => some (.nx E, S1)
    | some (true, S1) => match mb E S1 with
      | some (.nx E2, S2) => wLoop c mb n E2 S2
      | some (.ct E2, S2) => wLoop c mb n E2 S2
      | some (.bk E2, S2) => some (.nx E2, S2)
      | some (.rt d, S2) => some (.rt d, S2)
      | none => none
def sWhile (n : Nat) (c : MT) (mb : MS) : MS := wLoop c mb n
theorem rs_while {n : Nat} {c : Expr} {body : List Stmt} {mc : MT} {mb : MS} (hp : PassesOwn (model X.prog X.w) X.A X.env X.xe) (hc : PT X c (tT X.K mc)) (hb : PSs X body (tS X.K mb)) : PS X (.While c body [] pos) (tS X.K (sWhile n mc mb)) := by
  refine ps_wk (ps_while hp hc hb) fun D σ H q => ?_
  obtain ⟨ρ, S, E, f, S', r, hm, k⟩ := q
  refine ⟨fun m σ' H' => ∃ ρ' S2 E2, Rel X.K H' ρ' S2 E2 σ' ∧ Ext ρ H ρ' H' ∧ wLoop mc mb m E2 S2 = some (f, S'), ⟨n, ρ, S, E, r, Ext.refl, hm⟩, fun m σ' H' w => ?_⟩
  obtain ⟨ρ', S2, E2, r2, e2, hl⟩ := w
  cases m with
  | zero => cases hl
  | succ m =>
    unfold wLoop at hl
    cases hcc : mc E2 S2 with
    | none => simp only [hcc] at hl; cases hl
    | some q =>
      obtain ⟨c, S3⟩ := q
      refine ⟨ρ', S2, E2, c, S3, r2, hcc, fun H3 ρ3 e3 s3 => ?_⟩
      simp only [hcc] at hl
      cases c with
      | false =>
        cases hl
        show D.nx σ' H3
        exact k H3 ρ3 (e2.trans e3) s3 σ' (r2.e.ext e3)
      | true =>
        rw [if_pos rfl]
        refine ⟨fun σ4 H4 => ∃ ρ4 S4 E4, Rel X.K H4 ρ4 S4 E4 σ4 ∧ Ext ρ H ρ4 H4 ∧ wLoop mc mb m E4 S4 = some (f, S'), fun σ4 H4 ⟨ρ4, S4, E4, a1, a2, a3⟩ => ⟨m, by omega, ρ4, S4, E4, a1, a2, a3⟩, ?_⟩
        cases hmb : mb E2 S3 with
        | none => simp only [hmb] at hl; cases hl
        | some q =>
          obtain ⟨fl, S5⟩ := q
          refine ⟨ρ3, S3, E2, fl, S5, ⟨s3, r2.e.ext e3⟩, hmb, fun H5 ρ5 e5 s5 => ?_⟩
          have e6 := (e2.trans e3).trans e5
          simp only [hmb] at hl
          cases fl with
          | nx E5 => exact fun σ5 r5 => ⟨ρ5, S5, E5, ⟨s5, r5⟩, e6, hl⟩
          | ct E5 => exact fun σ5 r5 => ⟨ρ5, S5, E5, ⟨s5, r5⟩, e6, hl⟩
          | bk E5 =>
            cases hl
            exact k H5 ρ5 e6 s5
          | rt d =>
            cases hl
            exact k H5 ρ5 e6 s5

/-! ### comprehensions -/
def wipeE (E : Vr) : List Nat → Vr
  | [] => E
  | v :: vs => (wipeE E vs).set v none
theorem RelE.wipe {K : PySem.W.Frag} {H : Hp} {ρ : Wd} {E : Vr} {σ : L2.St} (h : RelE K H ρ E σ) : ∀ vs : List Nat, RelE K H ρ (wipeE E vs) (wipe σ vs)
  | [] => h
  | v :: vs => by
    have ih := h.wipe vs
    refine ⟨by simp [wipeE, L2.wipe, ih.len], fun i d q => ?_⟩
    unfold wipeE at q
    by_cases hi : v = i
    · subst hi
      have hl : v < (wipeE E vs).length := by
        have := (List.getElem?_eq_some_iff.mp q).1
        simpa using this
      rw [List.getElem?_set_self hl] at q
      cases q
    · rw [List.getElem?_set_ne hi] at q
      obtain ⟨w, h1, h2⟩ := ih.here i d q
      refine ⟨w, ?_, h2⟩
      unfold L2.wipe
      rw [List.getElem?_set_ne hi]
      exact h1
theorem wipe_in {i : Nat} : ∀ {vs : List Nat} {σ : L2.St}, i ∈ vs → i < σ.length → (wipe σ vs)[i]? = some none
  | [], _, h, _ => by simp at h
  | v :: vs, σ, h, hl => by
    unfold L2.wipe
    by_cases hi : v = i
    · subst hi
      exact List.getElem?_set_self (by rw [wipe_length]; exact hl)
    · rw [List.getElem?_set_ne hi]
      exact wipe_in ((List.mem_cons.mp h).resolve_left (fun z => hi z.symm)) hl
theorem wipe_same {vs own : List Nat} {σ σ2 : L2.St} (hl : σ2.length = σ.length) (hv : ∀ i, i ∉ vs → σ2[i]? = (wipe σ own)[i]?) (hs : ∀ i ∈ vs, i ∈ own) : wipe σ2 own = wipe σ own := by
  apply List.ext_getElem?
  intro i
  by_cases hi : i ∈ own
  · by_cases hb : i < σ.length
    · rw [wipe_in hi (by omega), wipe_in hi hb]
    · rw [List.getElem?_eq_none (by rw [wipe_length]; omega), List.getElem?_eq_none (by rw [wipe_length]; omega)]
  · rw [wipe_out hi, hv i (fun z => hi (hs i z))]
def lcLoop (E : Vr) (t : Tg) (tt : MT) (te : ME) : List PD → List PD → M (List PD)
  | [], acc => ret acc
  | x :: xs, acc => fun S => match t (.p x) E with
    | none => none
    | some E1 => match tt E1 S with
      | none => none
      | some (false, S1) => lcLoop E t tt te xs acc S1
      | some (true, S1) => match te E1 S1 with
        | some (.p y, S2) => lcLoop E t tt te xs (acc ++ [y]) S2
        | _ => none
def mLc (own : List Nat) (ms : MI) (t : Tg) (tt : MT) (te : ME) : ME := fun E => bnd (ms E) fun xs => bnd (lcLoop (wipeE E own) t tt te xs []) fun ys => ret (.p (.lst ys))
def mLcR (own : List Nat) (ms : MI) (t : Tg) (tt : MT) (te : ME) : ME := fun E => bnd (ms E) fun xs => bnd (lcLoop (wipeE E own) t tt te xs []) fun ys S => some (.ref S.length, S ++ [.lst (ys.map .p)])
def tYes1 : MT := fun _ S => some (true, S)
theorem Ext.reh {c c' h h' k : List Addr} {f f' : Tb} {H H' : Hp} (e : Ext ⟨c, h, f⟩ H ⟨c', h', f'⟩ H') : Ext ⟨c, k, f⟩ H ⟨c', k, f'⟩ H' := ⟨e.fl, rfl, e.pre, e.keep, e.there, e.tab⟩
theorem relDs_p {K : PySem.W.Frag} {H : Hp} {ρ : Wd} : ∀ {ds : List PD} {vs : List V}, RelPs K H ρ ds vs → RelDs K H ρ (ds.map D.p) vs
  | [], _, h => by simp only [RelPs] at h; subst h; exact .nil
  | d :: ds, _, h => by
    simp only [RelPs] at h
    obtain ⟨v, r, rfl, h1, h2⟩ := h
    exact .cons h1 (relDs_p h2)
/-- the loop of a comprehension, its end left open -/
theorem lc_any {K : PySem.W.Frag} {own vs : List Nat} {ms : MI} {g : TG} {t : Tg} {tt : MT} {te : ME} {σ : L2.St} {H : Hp} {Q : VK} {ρ : Wd} {S S' : List Cell} {E : Vr} {ys : List PD} (rg : RelG K vs g t) (hs : ∀ i ∈ vs, i ∈ own)
    (r : Rel K H ρ S E σ) (hm : bnd (ms E) (fun xs => lcLoop (wipeE E own) t tt te xs []) S = some (ys, S'))
    (k : ∀ D H' c' ws ρ1 H1, Ext ρ H ρ1 H1 → H1 D = none → (∀ a ∈ ρ1.h, a ≠ D) → Ext ρ1 H1 ⟨c', ρ1.h, ρ1.f⟩ H' → RelS K H' ⟨c', D :: ρ1.h, ρ1.f⟩ S' → H' D = some (.lst ws) → ws.length ≤ sizeLine → RelPs K H' ⟨c', D :: ρ1.h, ρ1.f⟩ ys ws → Q (.ref D) H') : tLc (tI K ms) g (tT K tt) (tE K te) own σ H Q := by
  obtain ⟨xs, S1, h1, hm⟩ := bnd_some hm
  refine ⟨ρ, S, E, xs, S1, r, h1, fun J H1 ρ1 e1 s1 src D hD => ?_⟩
  have neD : ∀ {a o}, H1 a = some o → a ≠ D := fun h z => by rw [z, hD] at h; cases h
  have p0 : Pers ρ1 H1 ⟨ρ1.c, D :: ρ1.h, ρ1.f⟩ (upd H1 D (.lst [])) := ⟨rfl, fun a o h n _ => ⟨by rw [upd_ne (neD h)]; exact h, n.1, by simp [neD h, n.2]⟩⟩
  have hDh : ∀ a ∈ ρ1.h, a ≠ D := fun a ha z => (s1.hid a ha).1.no (by rw [z]; exact hD)
  have s1' : RelS K (upd H1 D (.lst [])) ⟨ρ1.c, D :: ρ1.h, ρ1.f⟩ S1 := RelS.pers (ρ := ρ1) rfl p0 s1 (fun a ha => by
    obtain ⟨o, q, _⟩ := s1.trk ha
    rw [upd_ne (neD q)]) (fun a ha => by
    rcases List.mem_cons.mp ha with rfl | ha
    · exact ⟨⟨.lst [], upd_same, fun _ => nofun⟩, fun z => (s1.trk z).no hD⟩
    · exact ⟨(Ex.new hD).nth (s1.hid a ha).1, (s1.hid a ha).2⟩) fun t => t.ext (Ex.new hD)
  have e0 : Ext ρ1 H1 ⟨ρ1.c, ρ1.h, ρ1.f⟩ (upd H1 D (.lst [])) := (Ex.new hD).ext
  refine ⟨fun i m H' => ∃ c' S2 acc ws, RelS K H' ⟨c', D :: ρ1.h, ρ1.f⟩ S2 ∧ RelE K H' ⟨c', D :: ρ1.h, ρ1.f⟩ E σ ∧ Ext ρ1 H1 ⟨c', ρ1.h, ρ1.f⟩ H' ∧ H' D = some (.lst ws) ∧ RelPs K H' ⟨c', D :: ρ1.h, ρ1.f⟩ acc ws ∧ Pers ρ1 H1 ⟨c', D :: ρ1.h, ρ1.f⟩ H' ∧ ws.length ≤ i ∧ i + m = xs.length ∧ lcLoop (wipeE E own) t tt te (xs.drop i) acc S2 = some (ys, S'),
    ⟨xs.length, ρ1.c, S1, [], [], s1', RelE.pers (ρ := ρ1) (r.e.ext e1) rfl p0, e0, upd_same, RelPs.nil, p0, Nat.le_refl _, by simp, by simpa using hm⟩, fun i m H' w => ?_⟩
  obtain ⟨c', S2, acc, ws, s2, re2, e2, hD2, ra, p2, hw, hlen, hl⟩ := w
  by_cases hi : i < xs.length
  · right
    have hx : xs[i]? = some xs[i] := List.getElem?_eq_getElem hi
    obtain ⟨go, yl⟩ := src.go _ H' S2 p2 s2 i _ hx
    rw [List.drop_eq_getElem_cons hi] at hl
    unfold lcLoop at hl
    cases ht : t (.p xs[i]) (wipeE E own) with
    | none => simp only [ht] at hl; cases hl
    | some E1 =>
      simp only [ht] at hl
      refine ⟨go, fun H3 => ∃ c3 S3 acc3 ws3, RelS K H3 ⟨c3, D :: ρ1.h, ρ1.f⟩ S3 ∧ RelE K H3 ⟨c3, D :: ρ1.h, ρ1.f⟩ E σ ∧ Ext ρ1 H1 ⟨c3, ρ1.h, ρ1.f⟩ H3 ∧ H3 D = some (.lst ws3) ∧ RelPs K H3 ⟨c3, D :: ρ1.h, ρ1.f⟩ acc3 ws3 ∧ Pers ρ1 H1 ⟨c3, D :: ρ1.h, ρ1.f⟩ H3 ∧ ws3.length ≤ i + 1 ∧ lcLoop (wipeE E own) t tt te (xs.drop (i + 1)) acc3 S3 = some (ys, S'),
        fun H3 ⟨c3, S3, acc3, ws3, a1, a2, a3, a4, a5, a6, a7, a8⟩ => ⟨m - 1, by omega, c3, S3, acc3, ws3, a1, a2, a3, a4, a5, a6, a7, by omega, a8⟩, fun v H3 hy => ?_⟩
      obtain ⟨ex, rp⟩ := yl v H3 hy
      have s3 := s2.ex ex
      have re3 := re2.ext (ρ' := ⟨c', D :: ρ1.h, ρ1.f⟩) ex.ext
      have hD3 : H3 D = some (.lst ws) := ex _ _ hD2
      refine rg ⟨c', D :: ρ1.h, ρ1.f⟩ S2 (wipeE E own) E1 (wipe σ own) H3 (.p xs[i]) v _ ⟨s3, re3.wipe own⟩ rp ht fun σ4 re4 f4 => ?_
      refine ⟨wipe_same (f4.len.trans (wipe_length _ _)) f4.same hs, ?_⟩
      cases htt : tt E1 S2 with
      | none => simp only [htt] at hl; cases hl
      | some q =>
        obtain ⟨bb, S4⟩ := q
        refine ⟨⟨c', D :: ρ1.h, ρ1.f⟩, S2, E1, bb, S4, ⟨s3, re4⟩, htt, fun H4 ρ4 e4 s4 => ?_⟩
        obtain ⟨c4, h4, f4⟩ := ρ4
        obtain rfl : h4 = D :: ρ1.h := e4.hid
        obtain rfl : f4 = ρ1.f := e4.fl
        have nDc : D ∉ c' := (s3.hid D List.mem_cons_self).2
        have e5 : Ext ρ1 H1 ⟨c4, ρ1.h, ρ1.f⟩ H4 := (e2.trans (Ex.ext (ρ := ⟨c', ρ1.h, ρ1.f⟩) ex)).trans (Ext.reh (k := ρ1.h) e4)
        have hD4 : H4 D = some (.lst ws) := e4.keep D _ hD3 nDc (fun _ => nofun)
        have p4 : Pers ρ1 H1 ⟨c4, D :: ρ1.h, ρ1.f⟩ H4 := (p2.trans (Ex.ext (ρ := ⟨c', D :: ρ1.h, ρ1.f⟩) ex).pers).trans e4.pers
        simp only [htt] at hl
        cases bb with
        | false =>
          rw [if_neg Bool.false_ne_true]
          exact ⟨c4, S4, acc, ws, s4, re3.ext e4, e5, hD4, RelPs.ext e4 (RelPs.ext (ρ' := ⟨c', D :: ρ1.h, ρ1.f⟩) ex.ext ra), p4, by omega, hl⟩
        | true =>
          rw [if_pos rfl]
          simp only at hl
          cases hte : te E1 S4 with
          | none => simp only [hte] at hl; cases hl
          | some q =>
            obtain ⟨y, S6⟩ := q
            simp only [hte] at hl
            refine ⟨⟨c4, D :: ρ1.h, ρ1.f⟩, S4, E1, y, S6, ⟨s4, re4.ext e4⟩, hte, fun yv H6 ρ6 e6 s6 ry => ?_⟩
            obtain ⟨c6, h6, f6⟩ := ρ6
            obtain rfl : h6 = D :: ρ1.h := e6.hid
            obtain rfl : f6 = ρ1.f := e6.fl
            have nDc4 : D ∉ c4 := (s4.hid D List.mem_cons_self).2
            have nDc6 : D ∉ c6 := (s6.hid D List.mem_cons_self).2
            have hD6 : H6 D = some (.lst ws) := e6.keep D _ hD4 nDc4 (fun _ => nofun)
            have hz : ws.length < sizeLine := Nat.lt_of_le_of_lt hw (Nat.lt_of_lt_of_le hi src.fit)
            cases y with
            | ref _ => cases hl
            | v _ => cases hl
            | p y =>
              refine ⟨ws, hD6, hz, ?_⟩
              have pD : Pers ⟨c6, D :: ρ1.h, ρ1.f⟩ H6 ⟨c6, D :: ρ1.h, ρ1.f⟩ (upd H6 D (.lst (ws ++ [yv]))) := ⟨rfl, fun a o h n _ => ⟨by
                rw [upd_ne (show a ≠ D from fun z => n.2 (by simp [z]))]
                exact h, n⟩⟩
              have thD : ∀ {a}, NTh H6 a → NTh (upd H6 D (.lst (ws ++ [yv]))) a := fun {a} h => by
                by_cases q : a = D
                · exact ⟨.lst (ws ++ [yv]), by rw [q, upd_same], fun _ => nofun⟩
                · obtain ⟨u, e1, e2⟩ := h
                  exact ⟨u, by rw [upd_ne q]; exact e1, e2⟩
              have e7 := e5.trans (Ext.reh (k := ρ1.h) e6)
              have ra6 : RelPs K H6 ⟨c6, D :: ρ1.h, ρ1.f⟩ acc ws := RelPs.ext e6 (RelPs.ext e4 (RelPs.ext (ρ' := ⟨c', D :: ρ1.h, ρ1.f⟩) ex.ext ra))
              refine ⟨c6, S6, acc ++ [y], ws ++ [yv], s6.pers rfl pD (fun a ha => upd_ne (show a ≠ D from fun z => nDc6 (z ▸ ha))) (fun a ha => ⟨thD (s6.hid a ha).1, (s6.hid a ha).2⟩) (fun t p hp => tab_upd hD6 (fun _ => nofun) (fun _ => nofun) (t p hp)),
                (re3.ext (e4.trans e6)).pers rfl pD, ⟨e7.fl, rfl, e7.pre, fun a o h n t => ?_, fun a h => thD (e7.there a h), fun t p hp => tab_upd hD6 (fun _ => nofun) (fun _ => nofun) (e7.tab t p hp)⟩, upd_same, RelPs.pers pD (RelPs.append ra6 (RelPs.one ry)), (p4.trans e6.pers).trans pD, by simp; omega, hl⟩
              rw [upd_ne (neD h)]
              exact e7.keep a o h n t
  · left
    have ei : i = xs.length := by omega
    subst ei
    rw [List.drop_length] at hl
    obtain ⟨rfl, rfl⟩ := ret_some hl
    exact ⟨src.stop _ H' _ p2 s2, k D H' c' ws ρ1 H1 e1 hD hDh e2 s2 hD2 (Nat.le_trans hw src.fit) ra⟩
theorem lc_pd {K : PySem.W.Frag} {own vs : List Nat} {ms : MI} {g : TG} {t : Tg} {tt : MT} {te : ME} (rg : RelG K vs g t) (hs : ∀ i ∈ vs, i ∈ own) : ∀ σ H Q, tE K (mLc own ms t tt te) σ H Q → tLc (tI K ms) g (tT K tt) (tE K te) own σ H Q := fun σ H Q q => by
  obtain ⟨ρ, S, E, d, S', r, hm, k⟩ := q
  obtain ⟨xs, S1, h1, hm⟩ := bnd_some hm
  obtain ⟨ys, S2, h2, hm⟩ := bnd_some hm
  obtain ⟨rfl, rfl⟩ := ret_some hm
  refine lc_any rg hs r (ys := ys) (S' := S') (by unfold bnd; rw [h1]; exact h2) fun D H' c' ws ρ1 H1 e1 hD hne e2 s2 hD2 hz ra => ?_
  have nDc : D ∉ c' := (s2.hid D List.mem_cons_self).2
  have nDh : D ∉ ρ1.h := fun z => hne D z rfl
  have pw : Pers ⟨c', D :: ρ1.h, ρ1.f⟩ H' ⟨c', ρ1.h, ρ1.f⟩ H' := ⟨rfl, fun a o h n _ => ⟨h, n.1, fun z => n.2 (List.mem_cons_of_mem _ z)⟩⟩
  refine k _ H' ⟨c', ρ1.h, ρ1.f⟩ (e1.trans e2) (RelS.pers (ρ := ⟨c', D :: ρ1.h, ρ1.f⟩) rfl pw s2 (fun _ _ => rfl) (fun a ha => s2.hid a (List.mem_cons_of_mem _ ha)) fun t => t) ?_
  simp only [RelD, RelP]
  exact ⟨D, ws, rfl, ⟨hz, hD2, nDc, nDh⟩, RelPs.pers pw ra⟩
theorem lc_ref {K : PySem.W.Frag} {own vs : List Nat} {ms : MI} {g : TG} {t : Tg} {tt : MT} {te : ME} (rg : RelG K vs g t) (hs : ∀ i ∈ vs, i ∈ own) : ∀ σ H Q, tE K (mLcR own ms t tt te) σ H Q → tLc (tI K ms) g (tT K tt) (tE K te) own σ H Q := fun σ H Q q => by
  obtain ⟨ρ, S, E, d, S', r, hm, k⟩ := q
  obtain ⟨xs, S1, h1, hm⟩ := bnd_some hm
  obtain ⟨ys, S2, h2, hm⟩ := bnd_some hm
  cases hm
  refine lc_any rg hs r (ys := ys) (S' := S2) (by unfold bnd; rw [h1]; exact h2) fun D H' c' ws ρ1 H1 e1 hD hne e2 s2 hD2 hz ra => ?_
  have nDc : D ∉ c' := (s2.hid D List.mem_cons_self).2
  have nDh : D ∉ ρ1.h := fun z => hne D z rfl
  have pw : Pers ⟨c', D :: ρ1.h, ρ1.f⟩ H' ⟨c' ++ [D], ρ1.h, ρ1.f⟩ H' := ⟨rfl, fun a o h n _ => ⟨h, fun z => by
    rcases List.mem_append.mp z with z | z
    · exact n.1 z
    · exact n.2 (by rw [List.mem_singleton.mp z]; exact List.mem_cons_self), fun z => n.2 (List.mem_cons_of_mem _ z)⟩⟩
  have pr : ∀ {d : Pt.D} {v : V}, RelD K H' ⟨c', D :: ρ1.h, ρ1.f⟩ d v → RelD K H' ⟨c' ++ [D], ρ1.h, ρ1.f⟩ d v := fun {d v} h => by
    cases d with
    | p d => exact RelP.pers pw h
    | v x => exact h
    | ref n =>
      obtain ⟨a, h1, h2⟩ := h
      refine ⟨a, ?_, h2⟩
      show (c' ++ [D])[n]? = some a
      rw [List.getElem?_append_left (List.getElem?_eq_some_iff.mp h1).1]
      exact h1
  have prs : ∀ {ds : List Pt.D} {vs : List V}, RelDs K H' ⟨c', D :: ρ1.h, ρ1.f⟩ ds vs → RelDs K H' ⟨c' ++ [D], ρ1.h, ρ1.f⟩ ds vs := fun h => Paired.mapP h fun _ _ q => pr q
  have prk : ∀ {κ : Type} {ds : List (κ × Pt.D)} {vs : List (κ × V)}, RelKD K H' ⟨c', D :: ρ1.h, ρ1.f⟩ ds vs → RelKD K H' ⟨c' ++ [D], ρ1.h, ρ1.f⟩ ds vs := fun h => Paired.mapP h fun _ _ q => ⟨q.1, pr q.2⟩
  have e3 : Ext ρ H ⟨c' ++ [D], ρ1.h, ρ1.f⟩ H' := by
    have e4 := e1.trans e2
    obtain ⟨news, en, fn⟩ := e4.pre
    have en' : c' = ρ.c ++ news := en
    refine ⟨e4.fl, e4.hid, ⟨news ++ [D], by rw [en']; simp, fun a ha => ?_⟩, e4.keep, e4.there, e4.tab⟩
    rcases List.mem_append.mp ha with ha | ha
    · exact fn a ha
    · rw [List.mem_singleton.mp ha]
      exact fun z => (e1.there D z).no hD
  refine k _ H' ⟨c' ++ [D], ρ1.h, ρ1.f⟩ e3 ⟨by simp [s2.len], ?_, fun n c a h1 h2 => ?_, fun a ha => ⟨(s2.hid a (List.mem_cons_of_mem _ ha)).1, fun z => ?_⟩, s2.tb⟩ ⟨D, ?_, rfl⟩
  · show (c' ++ [D]).Nodup
    rw [List.nodup_append]
    refine ⟨s2.nd, by simp, fun a ha b hb z => ?_⟩
    rw [List.mem_singleton.mp hb] at z
    exact nDc (z ▸ ha)
  · have h2' : (c' ++ [D])[n]? = some a := h2
    have hlen : S2.length = c'.length := s2.len
    by_cases hn : n < S2.length
    · rw [List.getElem?_append_left hn] at h1
      rw [List.getElem?_append_left (by rw [← hlen]; exact hn)] at h2'
      obtain ⟨o, ho, rc⟩ := s2.here n c a h1 h2'
      refine ⟨o, ho, ?_⟩
      cases c with
      | lst ds => obtain ⟨vs, z1, z2, z3⟩ := rc; exact ⟨vs, z1, z2, prs z3⟩
      | dK ds => obtain ⟨vs, z1, z2, z3⟩ := rc; exact ⟨vs, z1, z2, prk z3⟩
      | dT ds => obtain ⟨vs, z1, z2, z3⟩ := rc; exact ⟨vs, z1, z2, prk z3⟩
    · have hn2 : n = S2.length := by
        have := (List.getElem?_eq_some_iff.mp h1).1
        simp at this
        omega
      subst hn2
      rw [List.getElem?_append_right (Nat.le_refl _)] at h1
      rw [hlen, List.getElem?_append_right (Nat.le_refl _)] at h2'
      simp at h1 h2'
      subst h1; subst h2'
      exact ⟨_, hD2, ws, rfl, hz, prs (relDs_p ra)⟩
  · rcases List.mem_append.mp (show a ∈ c' ++ [D] from z) with z | z
    · exact (s2.hid a (List.mem_cons_of_mem _ ha)).2 z
    · exact nDh (by rw [← List.mem_singleton.mp z]; exact ha)
  · have hlen : S2.length = c'.length := s2.len
    show (c' ++ [D])[S2.length]? = some D
    rw [hlen]
    simp
end
section
variable {X : Cx} {tg e a b iter elt : Expr} {ifs : List Expr} {pos : Pos} {scope : Scope} {own : List (Str × Nat)} {ms : MI} {vs : List Nat} {t : Tg} {tt : MT} {te : ME}
theorem rts_nil : PTs X [] (tT X.K tYes1) := ⟨fun pins s σ H Q I q => by
  refine pts_nil.run pins s σ H Q I ?_
  obtain ⟨ρ, S, E, b, S', r, hm, k⟩ := q
  cases hm
  exact k H ρ Ext.refl r.s⟩
theorem rts_one {c : Expr} (h : PT X c (tT X.K tt)) : PTs X [c] (tT X.K tt) := pts_one h
/-- what a comprehension's block may use: the context of the def but for its own frame -/
abbrev BK (X : Cx) (scope : Scope) (φ : Cx → Prop) : Prop := ∀ (s : Shared) (H : Hp) (C : Addr) (cl : List (Str × Addr)) (fp : List Addr), φ (X.blk s H scope (compEnvC scope cl C X.env) fp)
structure RGB (X : Cx) (scope : Scope) (tg : Expr) (vs : List Nat) (t : Tg) : Prop where
  ex : ∃ g, (BK X scope fun Y => PG Y tg g) ∧ RelG X.K vs g t
theorem re_lc (hc : X.calm = true) (hN : X.N.Nodup) (hi : PI X tg iter (tI X.K ms)) (ok : BlkOk X.N X.env.scope scope own) (hg : RGB X scope tg vs t) (hv : ∀ i ∈ vs, i ∈ own.map (·.2))
    (ht : BK X scope fun Y => PTs Y ifs (tT X.K tt)) (he : BK X scope fun Y => PE Y elt (tE X.K te)) (hs : ∀ x, foldedSetIterable iter X.env x = pure x := by intro _; rfl) :
    PE X (.ListComp elt [⟨tg, iter, ifs, 0⟩] scope pos) (tE X.K (mLc (own.map (·.2)) ms t tt te)) := by
  obtain ⟨g, p, rg⟩ := hg.ex
  exact pe_wk (pe_lc hc hN hi ok p ht he hs) (lc_pd rg hv)
theorem re_lcR (hc : X.calm = true) (hN : X.N.Nodup) (hi : PI X tg iter (tI X.K ms)) (ok : BlkOk X.N X.env.scope scope own) (hg : RGB X scope tg vs t) (hv : ∀ i ∈ vs, i ∈ own.map (·.2))
    (ht : BK X scope fun Y => PTs Y ifs (tT X.K tt)) (he : BK X scope fun Y => PE Y elt (tE X.K te)) (hs : ∀ x, foldedSetIterable iter X.env x = pure x := by intro _; rfl) :
    PE X (.ListComp elt [⟨tg, iter, ifs, 0⟩] scope pos) (tE X.K (mLcR (own.map (·.2)) ms t tt te)) := by
  obtain ⟨g, p, rg⟩ := hg.ex
  exact pe_wk (pe_lc hc hN hi ok p ht he hs) (lc_ref rg hv)
/-- name = [..] on one line -/
theorem rs_setLc {i : Nat} {y : Str} {py spos : Pos} (hc : X.calm = true) (hN : X.N.Nodup) (hy : X.N[i]? = some y) (hyl : X.env.scope.names.lookup y = some .local)
    (hsw : swapsWith (.ListComp elt [⟨tg, iter, ifs, 0⟩] scope pos) (some (.Name y py)) spos.line X.env = pure true) (hi : PI X tg iter (tI X.K ms)) (ok : BlkOk X.N X.env.scope scope own) (hg : RGB X scope tg vs t) (hv : ∀ i ∈ vs, i ∈ own.map (·.2))
    (ht : BK X scope fun Y => PTs Y ifs (tT X.K tt)) (he : BK X scope fun Y => PE Y elt (tE X.K te)) (hs : ∀ x, foldedSetIterable iter X.env x = pure x := by intro _; rfl) :
    PS X (.Assign [.Name y py] (.ListComp elt [⟨tg, iter, ifs, 0⟩] scope pos) spos) (tS X.K (sAsg (mLc (own.map (·.2)) ms t tt te) (gN i))) := by
  obtain ⟨g, p, rg⟩ := hg.ex
  exact ps_wk (ps_setLc hc hN hy hyl hsw hi ok p ht he hs) fun D σ H q => lc_pd rg hv _ _ _ (asg_t (rel_gN i) D σ H q)
theorem rs_setLcR {i : Nat} {y : Str} {py spos : Pos} (hc : X.calm = true) (hN : X.N.Nodup) (hy : X.N[i]? = some y) (hyl : X.env.scope.names.lookup y = some .local)
    (hsw : swapsWith (.ListComp elt [⟨tg, iter, ifs, 0⟩] scope pos) (some (.Name y py)) spos.line X.env = pure true) (hi : PI X tg iter (tI X.K ms)) (ok : BlkOk X.N X.env.scope scope own) (hg : RGB X scope tg vs t) (hv : ∀ i ∈ vs, i ∈ own.map (·.2))
    (ht : BK X scope fun Y => PTs Y ifs (tT X.K tt)) (he : BK X scope fun Y => PE Y elt (tE X.K te)) (hs : ∀ x, foldedSetIterable iter X.env x = pure x := by intro _; rfl) :
    PS X (.Assign [.Name y py] (.ListComp elt [⟨tg, iter, ifs, 0⟩] scope pos) spos) (tS X.K (sAsg (mLcR (own.map (·.2)) ms t tt te) (gN i))) := by
  obtain ⟨g, p, rg⟩ := hg.ex
  exact ps_wk (ps_setLc hc hN hy hyl hsw hi ok p ht he hs) fun D σ H q => lc_ref rg hv _ _ _ (asg_t (rel_gN i) D σ H q)
end
end Pt
set_option maxRecDepth 100000
/-! Pt4: defs: what a def's body makes of its arguments, and the call. -/
namespace Pt
open PySem PySem.Spec PyProof.Rows L2

structure RoomG (gg : Bool) (k : Nat) (A : Around) : Prop where
  room : Room k A
  gd : gg = true → A.guards = some []
theorem RoomG.mono {gg : Bool} {j k : Nat} {A : Around} (r : RoomG gg k A) (h : j ≤ k) : RoomG gg j A := ⟨r.room.mono h, r.gd⟩
theorem RoomG.deeper {gg : Bool} {k : Nat} {A : Around} (r : RoomG gg (k + 1) A) (env : Env) : RoomG gg k (A.deeper env) := ⟨r.room.deeper env, r.gd⟩

/-! ### leaving a def -/
def refOk (n : Nat) : D → Prop
  | .ref k => k < n
  | _ => True
def cellOk (n : Nat) : Cell → Prop
  | .lst ds => ∀ d ∈ ds, refOk n d
  | .dK kvs => ∀ p ∈ kvs, refOk n p.2
  | .dT kvs => ∀ p ∈ kvs, refOk n p.2
def GoodTr (S S1 : List Cell) : Prop := ∀ (i : Nat) (c : Cell), S1[i]? = some c → S[i]? = some c ∨ cellOk S.length c
open Classical in
noncomputable def trim (S : List Cell) (d : D) (S2 : List Cell) : Option (D × List Cell) :=
  if GoodTr S (S2.take S.length) then match d with
    | .p y => some (.p y, S2.take S.length)
    | .v x => some (.v x, S2.take S.length)
    | .ref n => if n < S.length then some (.ref n, S2.take S.length) else match S2[n]? with
      | some (.lst ds) => match pds ds with
        | some ys => some (.p (.lst ys), S2.take S.length)
        | none => none
      | some (.dK kvs) => if cellOk S.length (.dK kvs) then some (.ref S.length, S2.take S.length ++ [.dK kvs]) else none
      | _ => none
  else none
def startE (N : Nat) (ds : List D) : Vr := ds.map some ++ List.replicate (N - ds.length) none
noncomputable def fnM (N np : Nat) (m : MS) : OC := fun ds S => if ds.length = np then match m (startE N ds) S with
    | some (.rt d, S2) => trim S d S2
    | some (.nx _, S2) => trim S (.p .non) S2
    | _ => none
  else none

section
variable {K : PySem.W.Frag} {H H' : Hp} {ρ ρ' : Wd} {S S2 : List Cell}
theorem relD_ok {H0 : Hp} : ∀ {d : D} {v : V}, RelD K H ρ d v → refOk ρ.c.length d
  | .p _, _, _ => trivial
  | .v _, _, _ => trivial
  | .ref n, _, ⟨a, h, _⟩ => (List.getElem?_eq_some_iff.mp h).1
theorem paired_l {α β : Type} {R : α → β → Prop} : ∀ {xs : List α} {ys : List β}, Paired R xs ys → ∀ x ∈ xs, ∃ y, R x y
  | _, _, .nil, _, h => by simp at h
  | _, _, .cons r t, x, h => by
    rcases List.mem_cons.mp h with rfl | h
    · exact ⟨_, r⟩
    · exact paired_l t x h
theorem relC_ok {o : HO} : ∀ {c : Cell}, RelC K H ρ o c → cellOk ρ.c.length c
  | .lst ds, ⟨vs, _, _, h⟩ => fun d hd => let ⟨_, r⟩ := paired_l h d hd; relD_ok (H0 := H) r
  | .dK ds, ⟨vs, _, _, h⟩ => fun d hd => let ⟨_, r⟩ := paired_l h d hd; relD_ok (H0 := H) r.2
  | .dT ds, ⟨vs, _, _, h⟩ => fun d hd => let ⟨_, r⟩ := paired_l h d hd; relD_ok (H0 := H) r.2
/-- a smaller world: fewer cells -/
theorem relD_cut {n : Nat} (hc : ∀ i, i < n → ρ.c[i]? = ρ'.c[i]?) (p : Pers ρ' H ρ H) : ∀ {d : D} {v : V}, refOk n d → RelD K H ρ' d v → RelD K H ρ d v
  | .p _, _, _, h => RelP.pers p h
  | .v _, _, _, h => h
  | .ref k, _, hk, ⟨a, h1, h2⟩ => ⟨a, by rw [hc k hk]; exact h1, h2⟩
theorem relDs_cut {n : Nat} (hc : ∀ i, i < n → ρ.c[i]? = ρ'.c[i]?) (p : Pers ρ' H ρ H) : ∀ {ds : List D} {vs : List V}, (∀ d ∈ ds, refOk n d) → RelDs K H ρ' ds vs → RelDs K H ρ ds vs
  | _, _, _, .nil => .nil
  | _, _, ho, .cons r t => .cons (relD_cut hc p (ho _ List.mem_cons_self) r) (relDs_cut hc p (fun d hd => ho d (List.mem_cons_of_mem _ hd)) t)
theorem relKD_cut {κ : Type} {n : Nat} (hc : ∀ i, i < n → ρ.c[i]? = ρ'.c[i]?) (p : Pers ρ' H ρ H) : ∀ {ds : List (κ × D)} {vs : List (κ × V)}, (∀ d ∈ ds, refOk n d.2) → RelKD K H ρ' ds vs → RelKD K H ρ ds vs
  | _, _, _, .nil => .nil
  | _, _, ho, .cons r t => .cons ⟨r.1, relD_cut hc p (ho _ List.mem_cons_self) r.2⟩ (relKD_cut hc p (fun d hd => ho d (List.mem_cons_of_mem _ hd)) t)
theorem relC_cut {n : Nat} (hc : ∀ i, i < n → ρ.c[i]? = ρ'.c[i]?) (p : Pers ρ' H ρ H) {o : HO} : ∀ {c : Cell}, cellOk n c → RelC K H ρ' o c → RelC K H ρ o c
  | .lst ds, ho, ⟨vs, h1, h2, h3⟩ => ⟨vs, h1, h2, relDs_cut hc p ho h3⟩
  | .dK ds, ho, ⟨vs, h1, h2, h3⟩ => ⟨vs, h1, h2, relKD_cut hc p ho h3⟩
  | .dT ds, ho, ⟨vs, h1, h2, h3⟩ => ⟨vs, h1, h2, relKD_cut hc p ho h3⟩
theorem trim_ok {d d' : D} {S' : List Cell} {v : V} (s0 : RelS K H ρ S) (e : Ext ρ H ρ' H') (s2 : RelS K H' ρ' S2) (r : RelD K H' ρ' d v) (ht : trim S d S2 = some (d', S')) :
    ∃ ρ'', Ext ρ H ρ'' H' ∧ RelS K H' ρ'' S' ∧ RelD K H' ρ'' d' v := by
  obtain ⟨news, en, fn⟩ := e.pre
  have hlen : S.length = ρ.c.length := s0.len
  have hpre : ∀ i, i < S.length → ρ.c[i]? = ρ'.c[i]? := fun i hi => by
    rw [en, List.getElem?_append_left (by omega)]
  have p0 : Pers ρ' H' ρ H' := ⟨e.fl.symm, fun a o h n _ => ⟨h, fun z => n.1 (by rw [en]; exact List.mem_append_left _ z), fun z => n.2 (by rw [e.hid]; exact z)⟩⟩
  have e0 : Ext ρ H ρ H' := ⟨rfl, rfl, ⟨[], by simp, by simp⟩, e.keep, e.there, e.tab⟩
  unfold trim at ht
  split at ht
  · rename_i hg
    have hl2 : S.length ≤ S2.length := by
      rw [s2.len, en, hlen]
      simp
    have cok : ∀ i c, (S2.take S.length)[i]? = some c → cellOk S.length c := fun i c hc => by
      rcases hg i c hc with h | h
      · have hi : i < S.length := (List.getElem?_eq_some_iff.mp h).1
        obtain ⟨a, ha⟩ : ∃ a, ρ.c[i]? = some a := ⟨_, List.getElem?_eq_getElem (by omega)⟩
        obtain ⟨o, _, rc⟩ := s0.here i c a h ha
        rw [hlen]
        exact relC_ok rc
      · exact h
    have st : RelS K H' ρ (S2.take S.length) := ⟨by rw [List.length_take]; omega, s0.nd, fun i c a h1 h2 => by
      have hi : i < S.length := by
        have := (List.getElem?_eq_some_iff.mp h1).1
        rw [List.length_take] at this
        omega
      have h1' : S2[i]? = some c := by
        rw [List.getElem?_take_of_lt hi] at h1
        exact h1
      obtain ⟨o, ho, rc⟩ := s2.here i c a h1' (by rw [← hpre i hi]; exact h2)
      exact ⟨o, ho, relC_cut hpre p0 (cok i c h1) rc⟩, fun a ha => ⟨e.there a (s0.hid a ha).1, (s0.hid a ha).2⟩, e.tab s0.tb⟩
    cases d with
    | p y =>
      cases ht
      exact ⟨ρ, e0, st, RelP.pers p0 r⟩
    | v x =>
      cases ht
      exact ⟨ρ, e0, st, r⟩
    | ref n =>
      simp only at ht
      split at ht
      · rename_i hn
        cases ht
        obtain ⟨a, h1, h2⟩ := r
        exact ⟨ρ, e0, st, a, by rw [hpre n hn]; exact h1, h2⟩
      · rename_i hn
        obtain ⟨a, h1, rfl⟩ := r
        have han : a ∈ news := by
          rw [en, List.getElem?_append_right (by omega)] at h1
          exact List.mem_iff_getElem?.mpr ⟨_, h1⟩
        have nac : a ∉ ρ.c := fun z => fn a han (s0.trk z)
        have nah : a ∉ ρ.h := fun z => fn a han (s0.hid a z).1
        split at ht
        · rename_i ds hcell
          split at ht
          · rename_i ys hy
            cases ht
            obtain ⟨o, ho, vs, rfl, hz, rd⟩ := s2.here n _ a hcell h1
            refine ⟨ρ, e0, st, ?_⟩
            simp only [RelD, RelP]
            exact ⟨a, vs, rfl, ⟨hz, ho, nac, nah⟩, RelPs.pers p0 (pds_rel hy rd)⟩
          · cases ht
        · rename_i kvs hcell
          split at ht
          · rename_i hok
            cases ht
            obtain ⟨o, ho, rc⟩ := s2.here n _ a hcell h1
            have p1 : Pers ρ' H' (ρ.add a) H' := ⟨e.fl.symm, fun b o h q _ => ⟨h, fun z => by
              rcases List.mem_append.mp (show b ∈ ρ.c ++ [a] from z) with z | z
              · exact q.1 (by rw [en]; exact List.mem_append_left _ z)
              · exact q.1 (by rw [List.mem_singleton.mp z]; exact List.mem_iff_getElem?.mpr ⟨n, h1⟩), fun z => q.2 (by rw [e.hid]; exact z)⟩⟩
            have hpre1 : ∀ i, i < S.length → (ρ.add a).c[i]? = ρ'.c[i]? := fun i hi => by
              rw [← hpre i hi]
              show (ρ.c ++ [a])[i]? = _
              rw [List.getElem?_append_left (by omega)]
            refine ⟨ρ.add a, ⟨rfl, rfl, ⟨[a], rfl, fun b hb => by rw [List.mem_singleton.mp hb]; exact fn a han⟩, e.keep, e.there, e.tab⟩, ⟨?_, ?_, fun i c b q1 q2 => ?_, fun b hb => ⟨e.there b (s0.hid b hb).1, fun z => ?_⟩, e.tab s0.tb⟩, a, ?_, rfl⟩
            · rw [List.length_append, List.length_take]
              show min S.length S2.length + 1 = (ρ.c ++ [a]).length
              rw [List.length_append]
              simp only [List.length_singleton]
              omega
            · show (ρ.c ++ [a]).Nodup
              rw [List.nodup_append]
              refine ⟨s0.nd, by simp, fun b hb c hc z => ?_⟩
              rw [List.mem_singleton.mp hc] at z
              exact nac (z ▸ hb)
            · have q2' : (ρ.c ++ [a])[i]? = some b := q2
              by_cases hi : i < S.length
              · rw [List.getElem?_append_left (by rw [List.length_take]; omega)] at q1
                rw [List.getElem?_append_left (by omega)] at q2'
                have q1' : S2[i]? = some c := by
                  rw [List.getElem?_take_of_lt hi] at q1
                  exact q1
                obtain ⟨o', ho', rc'⟩ := s2.here i c b q1' (by rw [← hpre i hi]; exact q2')
                exact ⟨o', ho', relC_cut hpre1 p1 (cok i c q1) rc'⟩
              · have hi2 : i = S.length := by
                  have := (List.getElem?_eq_some_iff.mp q1).1
                  rw [List.length_append, List.length_take] at this
                  simp only [List.length_singleton] at this
                  omega
                subst hi2
                rw [List.getElem?_append_right (by rw [List.length_take]; omega), List.length_take, Nat.min_eq_left hl2] at q1
                rw [hlen, List.getElem?_append_right (Nat.le_refl _)] at q2'
                simp at q1 q2'
                subst q1; subst q2'
                exact ⟨o, ho, relC_cut hpre1 p1 hok rc⟩
            · rcases List.mem_append.mp (show b ∈ ρ.c ++ [a] from z) with z | z
              · exact (s0.hid b hb).2 z
              · rw [List.mem_singleton.mp z] at hb
                exact nah hb
            · show (ρ.c ++ [a])[S.length]? = some a
              rw [hlen]
              simp
          · cases ht
        · cases ht
  · cases ht
theorem startE_rel {N : List Str} {ds : List D} {vs : List V} (r : RelDs K H ρ ds vs) : RelE K H ρ (startE N.length ds) (L2.start N vs) := by
  have hl := relDs_len r
  refine ⟨by simp [startE, L2.start, hl], fun i d q => ?_⟩
  unfold startE at q
  by_cases hi : i < ds.length
  · rw [List.getElem?_append_left (by simpa using hi), List.getElem?_map] at q
    obtain ⟨d', h1, h2⟩ := Option.map_eq_some_iff.mp q
    cases h2
    have key : ∀ {ds : List D} {vs : List V} {i : Nat} {d : D}, RelDs K H ρ ds vs → ds[i]? = some d → ∃ v, vs[i]? = some v ∧ RelD K H ρ d v := by
      intro ds
      induction ds with
      | nil => intro vs i d _ h; simp at h
      | cons x xs ih =>
        intro vs i d r h
        cases r with
        | cons r1 r2 =>
          cases i with
          | zero =>
            simp at h
            subst h
            exact ⟨_, rfl, r1⟩
          | succ i =>
            obtain ⟨v, e1, e2⟩ := ih r2 (by simpa using h)
            exact ⟨v, by simpa using e1, e2⟩
    obtain ⟨v, e1, e2⟩ := key r h1
    refine ⟨v, ?_, e2⟩
    unfold L2.start
    rw [List.getElem?_append_left (by
      have := (List.getElem?_eq_some_iff.mp e1).1
      simpa using this), List.getElem?_map, e1]
    rfl
  · rw [List.getElem?_append_right (by simpa using Nat.le_of_not_lt hi)] at q
    rw [List.getElem?_replicate] at q
    split at q <;> cases q
end

/-- the def's object at f, its code object cdv -/
def CodeAt (K : PySem.W.Frag) (f : Addr) (x qual : Str) (st : Stmt) (cdv : Value) : Prop := ∃ oc od kV doc pm an ct osl, K.lookup f = some ⟨oc, od, .func (PySem.W.fnOf x qual (defArgs st) (defBody st) (defScope st) .none kV doc pm an cdv ct), osl⟩
/-- the def at f does what o says -/
structure FnG (gg : Bool) (P : Program) (w : World) (K : PySem.W.Frag) (mg : Str → Option Value) (base : Heap) (k : Nat) (f : Addr) (fd : FuncData) (ps : List Str) (o : OC) : Prop where
  len : ∀ ds S r, o ds S = some r → ds.length = ps.length
  run : ∀ (A : Around) (outer : List Env) (s : Shared) (H : Hp) (args : Args) (us : List Value) (vs : List V) (Q : VK), RoomG gg k A → Env0 P w K mg base A outer s H → BindsTo s fd args (ps.zip us) → Vals vs us → rDC K o vs H Q →
    codeAny (model P w) A (.call (.ref f) args) (CR CX0 outer P w H s Q fun _ _ _ => False) s
section
variable {P : Program} {w : World} {K : PySem.W.Frag} {mg : Str → Option Value} {base : Heap}
theorem FnG.mono {gg : Bool} {j k : Nat} {f : Addr} {fd : FuncData} {ps : List Str} {o : OC} (F : FnG gg P w K mg base j f fd ps o) (h : j ≤ k) : FnG gg P w K mg base k f fd ps o :=
  ⟨F.len, fun A outer s H args us vs Q hr => F.run A outer s H args us vs Q (hr.mono h)⟩
theorem FnG.of {gg : Bool} {x qual : Str} {st : Stmt} {f : Addr} {fd : FuncData} {N ps : List Str} {k : Nat} {m : MS} (F : Fun K x qual st f fd) (sc : FnScope N ps (defScope st))
    (hw : ∀ (cdv : Value) (A : Around) (outer : List Env) (s : Shared) (H : Hp) (E : XK), CodeAt K f x qual st cdv → RoomG gg k (A.deeper (envOfC qual (defScope st) s.heap.objs.size f cdv)) →
      PSs (cxOf CX0 P w K mg base N qual (defScope st) f cdv A outer s H E).nox (defBody st) (tS K m)) : FnG gg P w K mg base (k + 1) f fd ps (fnM N.length ps.length m) := by
  obtain ⟨oc, od, kV, doc, pm, an, cdv, ct, osl, rfl, lk, hcd⟩ := F.ex
  refine ⟨fun ds S r h => ?_, fun A outer s H args us vs Q hr e0 hb rv h => ?_⟩
  · unfold fnM at h
    split at h
    · assumption
    · cases h
  obtain ⟨ρ, S, ds, d, S', s0, rd, hf, kk⟩ := h
  have hl : ds.length = ps.length := by
    unfold fnM at hf
    split at hf
    · assumption
    · cases hf
  have hlv : vs.length = ps.length := by rw [← relDs_len rd]; exact hl
  have KX : K.In s.heap := e0.mod.kin.keeps fun b o e => (e0.bs b o e).1
  have lim := e0.mod.nolimit.keeps (h' := s.heap) fun b o e => (e0.bs b o e).1
  have cellP : ∀ y ∈ ps.zip us, (defScope st).names.lookup y.1 = some .local ∨ ((defScope st).names.lookup y.1 = some .cell ∧ ((cellsFrom (s.heap.objs.size + 1) (defScope st).names []).lookup y.1).isSome = true) := by
    rintro ⟨n, v⟩ hy
    have hn := (List.of_mem_zip hy).1
    exact (sc.par n hn).imp id fun q => ⟨q, PySem.W.cellsFrom_some _ _ _ (Or.inl q)⟩
  refine codeAny_call_function hr.room.depth (KX _ _ lk) rfl sc.co sc.gen rfl (PySem.W.codeRec_of KX hcd) (hb _ _ _ _ ?_)
  refine wpAny_newFunctionEnv_cells sc.kind cellP fun env he s1 x1 => ?_
  subst he
  refine ⟨lim.keeps x1.toInCall.keep, codeAny_func ?_⟩
  have body := hw cdv A outer s H (fun _ _ _ => False) ⟨_, _, _, _, _, _, _, _, lk⟩ (hr.deeper _)
  have I := inv_start (CX := CX0) (E := fun _ _ _ => False) sc hr.room.hd e0 hlv rv x1
  have I2 := I.wish fun _ _ => False
  have goal : ∃ fl S2, m (startE N.length ds) S = some (fl, S2) ∧ ((∃ d0, fl = .rt d0 ∧ trim S d0 S2 = some (d, S')) ∨ ∃ E0, fl = .nx E0 ∧ trim S (.p .non) S2 = some (d, S')) := by
    unfold fnM at hf
    rw [if_pos hl] at hf
    split at hf
    · exact ⟨_, _, by assumption, Or.inl ⟨_, rfl, hf⟩⟩
    · exact ⟨_, _, by assumption, Or.inr ⟨_, rfl, hf⟩⟩
    · cases hf
  obtain ⟨fl, S2, hm, hfl⟩ := goal
  have reading : tS K m { nx := fun _ H' => Q .non H', rt := Q } (L2.start N vs) H := by
    refine ⟨ρ, S, startE N.length ds, fl, S2, ⟨s0, startE_rel rd⟩, hm, fun H' ρ' e s2 => ?_⟩
    rcases hfl with ⟨d0, rfl, ht⟩ | ⟨E0, rfl, ht⟩
    · intro v r
      obtain ⟨ρ'', e', s', r'⟩ := trim_ok s0 e s2 r ht
      exact kk v H' ρ'' e' s' r'
    · intro σ _
      obtain ⟨ρ'', e', s', r'⟩ := trim_ok (v := .non) s0 e s2 (by simp only [RelD, RelP]) ht
      exact kk .non H' ρ'' e' s' r'
  refine wpAny_mono (body.run [] s1 (L2.start N vs) H _ I2 reading) (fun fl s' hs => ?_) fun e s' z => False.elim z
  have done : ∀ {σ' : L2.St} {H' : Hp} {v : V} {u : Value}, Inv (cxOf CX0 P w K mg base N qual (defScope st) f cdv A outer s H fun _ _ _ => False) [] σ' H' s' → RelV v u → Q v H' → CE outer P w H s Q u s' := by
    intro σ' H' v u J rv' q
    exact ⟨v, H', J.os, J.bare, J.base, J.hok, rv', q⟩
  cases fl with
  | ret u =>
    obtain ⟨v, σ', H', J, r1, q1⟩ := hs
    exact done J.unwish r1 q1
  | next =>
    obtain ⟨σ', H', J, q1⟩ := hs
    exact done (v := .non) (u := Value.none) J.unwish rfl q1
  | brk => obtain ⟨_, _, _, z⟩ := hs; exact False.elim z
  | cont => obtain ⟨_, _, _, z⟩ := hs; exact False.elim z
end
section
variable {X : Cx} {k : Nat} {f : Addr} {fd : FuncData} {ps : List Str} {o : OC} {x : Str} {p pos : Pos} {e : Expr} {es : List Expr} {m : MA}
theorem run_g {gg : Bool} {pins : List (Addr × Obj)} {σ : L2.St} {H : Hp} {s : Shared} {Q : VK} {us : List Value} {vs : List V} (F : FnG gg X.prog X.w X.K X.mg X.base k f fd ps o) (hr : RoomG gg k X.A) (hb : Binds X.K fd ps [])
    (I : Inv X pins σ H s) (r : Vals vs us) (h : rDC X.K o vs H Q) : wpAny (model X.prog X.w) X.A (call (.ref f) us) (EP X pins σ Q) X.xe s := by
  have hl : us.length = ps.length := by
    obtain ⟨ρ, S, ds, d, S', _, rd, hf, _⟩ := h
    rw [← r.length, ← relDs_len rd]
    exact F.len _ _ _ hf
  have hbs := hb s us I.kIn (by rw [List.append_nil]; exact hl)
  rw [List.append_nil] at hbs
  refine wpAny_call (codeAny_mono (F.run X.A X.stack s H ⟨us, []⟩ us vs Q hr I.env0 hbs r h) fun res s' hq => ?_)
  cases res with
  | error e => exact False.elim hq
  | ok fl =>
    cases fl with
    | ret u => exact I.after hq
    | next => exact False.elim hq
    | brk => exact False.elim hq
    | cont => exact False.elim hq
/-- f(e, ..), f a def of the module -/
theorem re_call {gg : Bool} (F : FnG gg X.prog X.w X.K X.mg X.base k f fd ps o) (hr : RoomG gg k X.A) (hg : Gl X x) (hm : X.mg x = some (.ref f)) (hk : PySem.W.keepIn X.K (.ref f) = true) (hb : Binds X.K fd ps [])
    (ha : PA X (e :: es) (tA X.K m)) (hdb : (x == ("__debug__" : Str)) = false := by decide) (he : starEach (e :: es) X.env = (false, eval e X.env) :: starEach es X.env := by rfl) (hpl : (backTo pos (starEach es X.env)).any (·.1) = false := by rfl) :
    PE X (.Call (.Name x p) (e :: es) [] pos) (tE X.K (mCall o m)) := by
  refine ⟨fun pins s σ H Q I h => ?_⟩
  have h2 := call_t _ _ _ h
  refine wpAny_Call_Name_kw (ld_glob I hg hm ?_ hdb)
  refine PySem.W.callWith_K (h₀ := X.base) I.ok.mod.kin hk (thn (ha.run pos pins s σ H _ I h2) fun us s1 ⟨vs, H1, I1, r, q⟩ => ⟨I1.kIn, run_g F hr hb I1 r q⟩) he hpl
theorem re_call0 {gg : Bool} (F : FnG gg X.prog X.w X.K X.mg X.base k f fd ps o) (hr : RoomG gg k X.A) (hg : Gl X x) (hm : X.mg x = some (.ref f)) (hk : PySem.W.keepIn X.K (.ref f) = true) (hb : Binds X.K fd ps [])
    (hdb : (x == ("__debug__" : Str)) = false := by decide) : PE X (.Call (.Name x p) [] [] pos) (tE X.K (mCall o aNil)) := by
  refine ⟨fun pins s σ H Q I h => ?_⟩
  obtain ⟨ρ, S, E, d, S', r, hmm, kk⟩ := h
  obtain ⟨ds, S1, h1, hmm⟩ := bnd_some hmm
  cases h1
  refine wpAny_Call_Name_kw (ld_glob I hg hm ?_ hdb)
  exact PySem.W.callWith_K0 I.kIn hk (run_g F hr hb I .nil ⟨ρ, S, [], d, S', r.s, .nil, hmm, kk⟩)
end
end Pt
set_option maxRecDepth 100000
/-! Pt5: operators and built-ins on data. -/
namespace Pt
open PySem PySem.Spec PyProof.Rows L2

/-! ### data as the library's data -/
def kpy : L2.Key → PyData
  | .inl i => .int i
  | .inr x => .str x
mutual
def py : PD → PyData
  | .non => .none
  | .bl b => .bool b
  | .int i => .int i
  | .str x => .str x
  | .tup ds => .tuple (pys ds)
  | .lst ds => .list (pys ds)
  | .dct kvs => .dict (pyk kvs)
  | .scr ns => .list (ns.map PyData.int)
  | .tpl ds => .tuple (pys ds)
  | .exc _ _ => .dict []
def pys : List PD → List PyData
  | [] => []
  | d :: ds => py d :: pys ds
def pyk : List (L2.Key × PD) → List (PyData × PyData)
  | [] => []
  | (k, d) :: ds => (kpy k, py d) :: pyk ds
end
theorem dp_ints {K : PySem.W.Frag} {H : Hp} : ∀ ns : List Int, DpAll K H (ns.map V.int) (ns.map PyData.int)
  | [] => .nil
  | n :: ns => .cons (.int n) (dp_ints ns)
mutual
theorem rel_dp {K : PySem.W.Frag} {H : Hp} {ρ : Wd} : ∀ {d : PD} {v : V}, (py d).canLay0 = true → RelP K H ρ d v → Dp K H v (py d)
  | .non, _, _, h => by simp only [RelP] at h; subst h; simp only [py]; exact .non
  | .bl _, _, _, h => by simp only [RelP] at h; subst h; simp only [py]; exact .bl _
  | .int _, _, _, h => by simp only [RelP] at h; subst h; simp only [py]; exact .int _
  | .str _, _, _, h => by simp only [RelP] at h; subst h; simp only [py]; exact .str _
  | .tup ds, _, c, h => by
    simp only [RelP] at h
    obtain ⟨a, vs, rfl, h1, h2⟩ := h
    simp only [py] at c ⊢
    exact .tup h1.sq (rel_dps (by simpa [PyData.canLay0] using c) h2)
  | .lst ds, _, c, h => by
    simp only [RelP] at h
    obtain ⟨a, vs, rfl, h1, h2⟩ := h
    simp only [py] at c ⊢
    exact .lst h1.sq (rel_dps (by simpa [PyData.canLay0] using c) h2)
  | .dct _, _, c, _ => by simp [py, PyData.canLay0] at c
  | .exc _ _, _, c, _ => by simp [py, PyData.canLay0] at c
  | .scr ns, _, _, h => by
    simp only [RelP] at h
    obtain ⟨a, rfl, h1⟩ := h
    simp only [py]
    exact .lst h1.sq (dp_ints ns)
  | .tpl ds, _, c, h => by
    simp only [RelP] at h
    obtain ⟨a, vs, rfl, h1, h2⟩ := h
    simp only [py] at c ⊢
    exact .tup h1.sq (rel_dps (by simpa [PyData.canLay0] using c) h2)
theorem rel_dps {K : PySem.W.Frag} {H : Hp} {ρ : Wd} : ∀ {ds : List PD} {vs : List V}, PyData.canLayAll0 (pys ds) = true → RelPs K H ρ ds vs → DpAll K H vs (pys ds)
  | [], _, _, h => by simp only [RelPs] at h; subst h; simp only [pys]; exact .nil
  | d :: ds, _, c, h => by
    simp only [RelPs] at h
    obtain ⟨v, r, rfl, h1, h2⟩ := h
    simp only [pys, PyData.canLayAll0, Bool.and_eq_true] at c ⊢
    exact .cons (rel_dp c.1 h1) (rel_dps c.2 h2)
end
/-- a value as data, now -/
def view (S : List Cell) : D → Option PD
  | .p d => some d
  | .ref n => match S[n]? with
    | some (.lst ds) => (pds ds).map PD.lst
    | _ => none
  | .v _ => none
section
variable {K : PySem.W.Frag} {H : Hp} {ρ : Wd} {S : List Cell}
theorem ref_cell {n : Nat} {v : V} {c : Cell} (s : RelS K H ρ S) (r : RelD K H ρ (.ref n) v) (h : S[n]? = some c) : ∃ a o, v = .ref a ∧ ρ.c[n]? = some a ∧ H a = some o ∧ RelC K H ρ o c := by
  obtain ⟨a, h1, rfl⟩ := r
  obtain ⟨o, ho, rc⟩ := s.here n c a h h1
  exact ⟨a, o, rfl, h1, ho, rc⟩
theorem view_ref {n : Nat} {y : PD} (h : view S (.ref n) = some y) : ∃ ds ys, S[n]? = some (.lst ds) ∧ pds ds = some ys ∧ y = .lst ys := by
  simp only [view] at h
  split at h
  · rename_i ds hc
    obtain ⟨ys, hy, rfl⟩ := Option.map_eq_some_iff.mp h
    exact ⟨ds, ys, hc, hy, rfl⟩
  · cases h
theorem view_dp {d : D} {v : V} {y : PD} (s : RelS K H ρ S) (r : RelD K H ρ d v) (h : view S d = some y) (c : (py y).canLay0 = true) : Dp K H v (py y) := by
  cases d with
  | p d => cases h; exact rel_dp c r
  | v x => cases h
  | ref n =>
    obtain ⟨ds, ys, hc, hy, rfl⟩ := view_ref h
    obtain ⟨a, o, rfl, _, ho, vs, rfl, hz, rd⟩ := ref_cell s r hc
    simp only [py] at c ⊢
    exact .lst (.inl (.inl ho)) (rel_dps (by simpa [PyData.canLay0] using c) (pds_rel hy rd))
/-- a sequence: a list or a tuple -/
def seqOf (S : List Cell) (d : D) : Option (List PD) := match view S d with
  | some (.lst ds) => some ds
  | some (.tup ds) => some ds
  | some (.scr ns) => some (ns.map PD.int)
  | some (.tpl ds) => some ds
  | _ => none
theorem relPs_ints : ∀ ns : List Int, RelPs K H ρ (ns.map PD.int) (ns.map V.int)
  | [] => RelPs.nil
  | n :: ns => RelPs.cons (by simp only [RelP]) (relPs_ints ns)
theorem seqOf_rel {d : D} {v : V} {ds : List PD} (s : RelS K H ρ S) (r : RelD K H ρ d v) (h : seqOf S d = some ds) : ∃ a vs, v = .ref a ∧ (SqL K H a vs ∨ SqT K H a vs) ∧ vs.length ≤ sizeLine ∧ RelPs K H ρ ds vs := by
  unfold seqOf at h
  split at h
  · rename_i ys hv
    cases h
    cases d with
    | p d =>
      cases hv
      simp only [RelD, RelP] at r
      obtain ⟨a, vs, rfl, h1, h2⟩ := r
      exact ⟨a, vs, rfl, Or.inl h1.sq, h1.fit, h2⟩
    | v x => cases hv
    | ref n =>
      obtain ⟨es, ys, hc, hy, e⟩ := view_ref hv
      cases e
      obtain ⟨a, o, rfl, _, ho, vs, rfl, hz, rd⟩ := ref_cell s r hc
      exact ⟨a, vs, rfl, Or.inl (.inl (.inl ho)), hz, pds_rel hy rd⟩
  · rename_i ys hv
    cases h
    cases d with
    | p d =>
      cases hv
      simp only [RelD, RelP] at r
      obtain ⟨a, vs, rfl, h1, h2⟩ := r
      exact ⟨a, vs, rfl, Or.inr h1.sq, h1.fit, h2⟩
    | v x => cases hv
    | ref n =>
      obtain ⟨es, ys, hc, hy, e⟩ := view_ref hv
      cases e
  · rename_i ns hv
    cases h
    cases d with
    | p d =>
      cases hv
      simp only [RelD, RelP] at r
      obtain ⟨a, rfl, h1⟩ := r
      exact ⟨a, _, rfl, Or.inl h1.sq, h1.fit, relPs_ints ns⟩
    | v x => cases hv
    | ref n =>
      obtain ⟨es, ys, hc, hy, e⟩ := view_ref hv
      cases e
  · rename_i ys hv
    cases h
    cases d with
    | p d =>
      cases hv
      simp only [RelD, RelP] at r
      obtain ⟨a, vs, rfl, h1, h2⟩ := r
      exact ⟨a, vs, rfl, Or.inr h1.sq, h1.fit, h2⟩
    | v x => cases hv
    | ref n =>
      obtain ⟨es, ys, hc, hy, e⟩ := view_ref hv
      cases e
  · cases h
end

section
variable {X : Cx}
/-! ### arithmetic -/
def oAdd : O2 := fun x y S => match x, y with
  | .p (.int i), .p (.int j) => some (.p (.int (i + j)), S)
  | .p (.str i), .p (.str j) => if i.length + j.length ≤ sizeLine then some (.p (.str (i ++ j)), S) else none
  | .p (.tup a), .p (.tup b) => if a.length + b.length ≤ sizeLine then some (.p (.tup (a ++ b)), S) else none
  | .p (.lst a), .p (.lst b) => if a.length + b.length ≤ sizeLine then some (.p (.lst (a ++ b)), S) else none
  | _, _ => none
theorem relI {K : PySem.W.Frag} {H : Hp} {ρ : Wd} {i : Int} {x : V} (r : RelD K H ρ (.p (.int i)) x) : x = .int i := by simpa only [RelD, RelP] using r
theorem relB {K : PySem.W.Frag} {H : Hp} {ρ : Wd} {i : Bool} {x : V} (r : RelD K H ρ (.p (.bl i)) x) : x = .bl i := by simpa only [RelD, RelP] using r
theorem relZ {K : PySem.W.Frag} {H : Hp} {ρ : Wd} {i : Str} {x : V} (r : RelD K H ρ (.p (.str i)) x) : x = .str i := by simpa only [RelD, RelP] using r
theorem relT {K : PySem.W.Frag} {H : Hp} {ρ : Wd} {ds : List PD} {x : V} (r : RelD K H ρ (.p (.tup ds)) x) : ∃ a vs, x = .ref a ∧ TupAt K H ρ a vs ∧ RelPs K H ρ ds vs := by simpa only [RelD, RelP] using r
theorem relL {K : PySem.W.Frag} {H : Hp} {ρ : Wd} {ds : List PD} {x : V} (r : RelD K H ρ (.p (.lst ds)) x) : ∃ a vs, x = .ref a ∧ LstAt H ρ a vs ∧ RelPs K H ρ ds vs := by simpa only [RelD, RelP] using r
theorem mkI {K : PySem.W.Frag} {H : Hp} {ρ : Wd} {i : Int} : RelD K H ρ (.p (.int i)) (.int i) := by simp only [RelD, RelP]
theorem mkB {K : PySem.W.Frag} {H : Hp} {ρ : Wd} {i : Bool} : RelD K H ρ (.p (.bl i)) (.bl i) := by simp only [RelD, RelP]
theorem mkZ {K : PySem.W.Frag} {H : Hp} {ρ : Wd} {i : Str} : RelD K H ρ (.p (.str i)) (.str i) := by simp only [RelD, RelP]
theorem nil_of_len {α : Type} {xs : List α} (h : xs.length = 0) : xs = [] := List.length_eq_zero_iff.mp h
theorem op_addD : OpR X (binaryOp .Add) (rD X.K oAdd) := by
  intro pins s σ H x y v u Q I rx ry ⟨ρ, S, dx, dy, d, S', s0, r1, r2, ho, k⟩
  unfold oAdd at ho
  split at ho
  · cases ho
    cases relI r1; cases relI r2
    exact op_add pins s σ H _ _ v u Q I rx ry ⟨_, _, rfl, rfl, k _ H ρ Ext.refl s0 mkI⟩
  · split at ho
    · rename_i hz
      cases ho
      cases relZ r1; cases relZ r2
      exact op_add_str pins s σ H _ _ v u Q I rx ry ⟨_, _, rfl, rfl, hz, k _ H ρ Ext.refl s0 mkZ⟩
    · cases ho
  · rename_i a b
    split at ho
    · rename_i hz
      cases ho
      obtain ⟨pa, va, rfl, ta, la⟩ := relT r1
      obtain ⟨pb, vb, rfl, tb, lb⟩ := relT r2
      have l1 := la.length
      have l2 := lb.length
      refine op_catF (f := ρ.f) pins s σ H _ _ v u Q I rx ry ⟨pa, pb, va, vb, rfl, rfl, ta.sq, tb.sq, by omega, fun e => ?_, fun e => ?_, newT_of s0 (RelPs.append la lb) (by rw [List.length_append]; omega) fun z H2 e2 s2 r3 => k z H2 ρ e2 s2 r3⟩
      · subst e
        have ea : a = [] := nil_of_len (by rw [← l1]; rfl)
        subst ea
        exact k _ H ρ Ext.refl s0 r2
      · subst e
        have eb : b = [] := nil_of_len (by rw [← l2]; rfl)
        subst eb
        rw [List.append_nil] at k
        exact k _ H ρ Ext.refl s0 r1
    · cases ho
  · rename_i a b
    split at ho
    · rename_i hz
      cases ho
      obtain ⟨pa, va, rfl, ta, la⟩ := relL r1
      obtain ⟨pb, vb, rfl, tb, lb⟩ := relL r2
      have l1 := la.length
      have l2 := lb.length
      exact op_cat pins s σ H _ _ v u Q I rx ry ⟨pa, pb, va, vb, rfl, rfl, ta.at', tb.at', by omega, fun p hp => k _ _ ρ (Ex.new hp).ext (s0.ex (Ex.new hp)) (new_lst s0 hp (RelPs.append la lb) (by rw [List.length_append]; omega))⟩
    · cases ho
  · cases ho
def oSub : O2 := fun x y S => match x, y with
  | .p (.int i), .p (.int j) => some (.p (.int (i - j)), S)
  | _, _ => none
theorem op_subD : OpR X (binaryOp .Sub) (rD X.K oSub) := by
  intro pins s σ H x y v u Q I rx ry ⟨ρ, S, dx, dy, d, S', s0, r1, r2, ho, k⟩
  unfold oSub at ho
  split at ho
  · cases ho
    cases relI r1; cases relI r2
    exact op_sub pins s σ H _ _ v u Q I rx ry ⟨_, _, rfl, rfl, k _ H ρ Ext.refl s0 mkI⟩
  · cases ho
/-- * of ints whose bits together stay below the line -/
def mulFits (i j : Int) : Bool := decide ((Builtin.Int.intBits i : Int) + (Builtin.Int.intBits j : Int) ≤ 134217728)
theorem mulFits_ok {i j : Int} (h : mulFits i j = true) : CMulX i j := by
  unfold mulFits at h
  have h2 := of_decide_eq_true h
  exact h2
def oMul : O2 := fun x y S => match x, y with
  | .p (.int i), .p (.int j) => if mulFits i j then some (.p (.int (i * j)), S) else none
  | .p (.lst a), .p (.int j) => if 0 ≤ j ∧ j ≤ 100000 ∧ a.length * j.toNat ≤ sizeLine then some (.p (.lst (List.replicate j.toNat a).flatten), S) else none
  | _, _ => none
theorem relPs_rep {K : PySem.W.Frag} {H : Hp} {ρ : Wd} {ds : List PD} {vs : List V} (h : RelPs K H ρ ds vs) : ∀ n : Nat, RelPs K H ρ (List.replicate n ds).flatten (List.replicate n vs).flatten
  | 0 => RelPs.nil
  | n + 1 => by
    rw [List.replicate_succ, List.replicate_succ, List.flatten_cons, List.flatten_cons]
    exact RelPs.append h (relPs_rep h n)
theorem len_rep {α : Type} (xs : List α) : ∀ n : Nat, (List.replicate n xs).flatten.length = xs.length * n
  | 0 => rfl
  | n + 1 => by
    rw [List.replicate_succ, List.flatten_cons, List.length_append, len_rep xs n, Nat.mul_succ, Nat.add_comm]
theorem op_mulD : OpR X (binaryOp .Mult) (rD X.K oMul) := by
  intro pins s σ H x y v u Q I rx ry ⟨ρ, S, dx, dy, d, S', s0, r1, r2, ho, k⟩
  unfold oMul at ho
  split at ho
  · split at ho
    · rename_i hf
      cases ho
      cases relI r1; cases relI r2
      exact op_mulX pins s σ H _ _ v u Q I rx ry ⟨_, _, rfl, rfl, mulFits_ok hf, k _ H ρ Ext.refl s0 mkI⟩
    · cases ho
  · rename_i a j
    split at ho
    · rename_i hf
      cases ho
      obtain ⟨pa, va, rfl, ta, la⟩ := relL r1
      cases relI r2
      have l1 := la.length
      refine op_rep pins s σ H _ _ v u Q I rx ry ⟨pa, j, va, rfl, rfl, ta.at', by omega, by omega, by rw [l1]; exact hf.2.2, fun p hp => k _ _ ρ (Ex.new hp).ext (s0.ex (Ex.new hp)) (new_lst s0 hp (relPs_rep la _) (by rw [len_rep, l1]; exact hf.2.2))⟩
    · cases ho
  · cases ho
def oMod : O2 := fun x y S => match x, y with
  | .p (.int i), .p (.int j) => if 0 < j then some (.p (.int (i % j)), S) else none
  | _, _ => none
theorem op_modD : OpR X (binaryOp .Mod) (rD X.K oMod) := by
  intro pins s σ H x y v u Q I rx ry ⟨ρ, S, dx, dy, d, S', s0, r1, r2, ho, k⟩
  unfold oMod at ho
  split at ho
  · split at ho
    · rename_i hf
      cases ho
      cases relI r1; cases relI r2
      exact op_mod pins s σ H _ _ v u Q I rx ry ⟨_, _, rfl, rfl, hf, k _ H ρ Ext.refl s0 mkI⟩
    · cases ho
  · cases ho
def oFdiv : O2 := fun x y S => match x, y with
  | .p (.int i), .p (.int j) => if 0 < j ∧ j.natAbs.log2 < 9000 then some (.p (.int (i / j)), S) else none
  | _, _ => none
theorem op_fdivD : OpR X (binaryOp .FloorDiv) (rD X.K oFdiv) := by
  intro pins s σ H x y v u Q I rx ry ⟨ρ, S, dx, dy, d, S', s0, r1, r2, ho, k⟩
  unfold oFdiv at ho
  split at ho
  · split at ho
    · rename_i hf
      cases ho
      cases relI r1; cases relI r2
      exact op_fdivW pins s σ H _ _ v u Q I rx ry ⟨_, _, rfl, rfl, hf, k _ H ρ Ext.refl s0 mkI⟩
    · cases ho
  · cases ho
def oPow : O2 := fun x y S => match x, y with
  | .p (.int i), .p (.int j) => if 0 ≤ j ∧ j ≤ 1000000 ∧ i.natAbs < 2 ^ 64 then some (.p (.int (i ^ j.toNat)), S) else none
  | _, _ => none
theorem op_powD : OpR X (binaryOp .Pow) (rD X.K oPow) := by
  intro pins s σ H x y v u Q I rx ry ⟨ρ, S, dx, dy, d, S', s0, r1, r2, ho, k⟩
  unfold oPow at ho
  split at ho
  · split at ho
    · rename_i hf
      cases ho
      cases relI r1; cases relI r2
      exact op_pow pins s σ H _ _ v u Q I rx ry ⟨_, _, rfl, rfl, hf, k _ H ρ Ext.refl s0 mkI⟩
    · cases ho
  · cases ho
def oNeg : O1 := fun x S => match x with
  | .p (.int i) => some (.p (.int (-i)), S)
  | _ => none
theorem un_negD : UnR X (unaryOp .USub) (rD1 X.K oNeg) := by
  intro pins s σ H x v Q I rx ⟨ρ, S, dx, d, S', s0, r1, ho, k⟩
  unfold oNeg at ho
  split at ho
  · cases ho
    cases relI r1
    exact un_neg pins s σ H _ v Q I rx ⟨_, rfl, k _ H ρ Ext.refl s0 mkI⟩
  · cases ho

/-! ### comparisons -/
def oCmpI (f : Int → Int → Bool) (g : Str → Str → Option Bool) : O2 := fun x y S => match x, y with
  | .p (.int i), .p (.int j) => some (.p (.bl (f i j)), S)
  | .p (.str i), .p (.str j) => match g i j with
    | some b => some (.p (.bl b), S)
    | none => none
  | _, _ => none
def strLt (i j : Str) : Bool := decide (i.cps.toList < j.cps.toList)
abbrev oLt : O2 := oCmpI (fun i j => decide (i < j)) fun i j => some (strLt i j)
abbrev oLe : O2 := oCmpI (fun i j => decide (i ≤ j)) fun _ _ => none
abbrev oGt : O2 := oCmpI (fun i j => decide (j < i)) fun _ _ => none
abbrev oGe : O2 := oCmpI (fun i j => decide (j ≤ i)) fun _ _ => none
theorem op_cmpI {op : CmpOp} {f : Int → Int → Bool} {g : Str → Str → Option Bool} (h : OpR X (compareOp op) (rI0 fun i j => .bl (f i j)))
    (hg : ∀ i j b, g i j = some b → ∀ pins s σ H v u Q, Inv X pins σ H s → RelV (.str i) v → RelV (.str j) u → Q (.bl b) H → wpAny (model X.prog X.w) X.A (compareOp op v u) (EP X pins σ Q) X.xe s) : OpR X (compareOp op) (rD X.K (oCmpI f g)) := by
  intro pins s σ H x y v u Q I rx ry ⟨ρ, S, dx, dy, d, S', s0, r1, r2, ho, k⟩
  unfold oCmpI at ho
  split at ho
  · cases ho
    cases relI r1; cases relI r2
    exact h pins s σ H _ _ v u Q I rx ry ⟨_, _, rfl, rfl, k _ H ρ Ext.refl s0 mkB⟩
  · cases relZ r1; cases relZ r2
    split at ho
    · rename_i b hb
      cases ho
      exact hg _ _ b hb pins s σ H v u Q I rx ry (k _ H ρ Ext.refl s0 mkB)
    · cases ho
  · cases ho
theorem op_ltD : OpR X (compareOp .Lt) (rD X.K oLt) := op_cmpI op_lt fun i j b e pins s σ H v u Q I r1 r2 q => by
  cases e
  exact op_lt_str pins s σ H _ _ v u Q I r1 r2 ⟨i, j, rfl, rfl, q⟩
theorem op_leD : OpR X (compareOp .LtE) (rD X.K oLe) := op_cmpI op_le fun i j b e => nomatch e
theorem op_gtD : OpR X (compareOp .Gt) (rD X.K oGt) := op_cmpI op_gt fun i j b e => nomatch e
theorem op_geD : OpR X (compareOp .GtE) (rD X.K oGe) := op_cmpI op_ge fun i j b e => nomatch e
def oIs (neg : Bool) : O2 := fun x y S => match y with
  | .p .non => some (.p (.bl (match x with
    | .p .non => !neg
    | .v .non => !neg
    | _ => neg)), S)
  | _ => none
theorem relN {K : PySem.W.Frag} {H : Hp} {ρ : Wd} {d : D} {x : V} (r : RelD K H ρ d x) : decide (x = .non) = (match d with
    | .p .non => true
    | .v .non => true
    | _ => false) := by
  cases d with
  | p d =>
    cases d with
    | non => simp only [RelD, RelP] at r; subst r; rfl
    | bl _ => simp only [RelD, RelP] at r; subst r; rfl
    | int _ => simp only [RelD, RelP] at r; subst r; rfl
    | str _ => simp only [RelD, RelP] at r; subst r; rfl
    | tup _ => simp only [RelD, RelP] at r; obtain ⟨a, _, rfl, _⟩ := r; rfl
    | lst _ => simp only [RelD, RelP] at r; obtain ⟨a, _, rfl, _⟩ := r; rfl
    | dct _ => simp only [RelD, RelP] at r; obtain ⟨a, _, rfl, _⟩ := r; rfl
    | scr _ => simp only [RelD, RelP] at r; obtain ⟨a, rfl, _⟩ := r; rfl
    | tpl _ => simp only [RelD, RelP] at r; obtain ⟨a, _, rfl, _⟩ := r; rfl
    | exc _ _ => simp only [RelD, RelP] at r; obtain ⟨a, _, rfl, _⟩ := r; rfl
  | ref n => obtain ⟨a, _, rfl⟩ := r; rfl
  | v y =>
    have e : x = y := r
    subst e
    cases x <;> rfl
theorem op_isD : OpR X (compareOp .Is) (rD X.K (oIs false)) := by
  intro pins s σ H x y v u Q I rx ry ⟨ρ, S, dx, dy, d, S', s0, r1, r2, ho, k⟩
  unfold oIs at ho
  split at ho
  · cases ho
    have e2 : y = .non := by simpa only [RelD, RelP] using r2
    refine op_isN pins s σ H _ _ v u Q I rx ry ⟨e2, ?_⟩
    rw [relN r1]
    refine k _ H ρ Ext.refl s0 ?_
    simp only [RelD, RelP]
    cases dx with
    | p d => cases d <;> rfl
    | ref n => rfl
    | v z => cases z <;> rfl
  · cases ho
theorem op_isNotD : OpR X (compareOp .IsNot) (rD X.K (oIs true)) := by
  intro pins s σ H x y v u Q I rx ry ⟨ρ, S, dx, dy, d, S', s0, r1, r2, ho, k⟩
  unfold oIs at ho
  split at ho
  · cases ho
    have e2 : y = .non := by simpa only [RelD, RelP] using r2
    refine op_notN pins s σ H _ _ v u Q I rx ry ⟨e2, ?_⟩
    rw [relN r1]
    refine k _ H ρ Ext.refl s0 ?_
    simp only [RelD, RelP]
    cases dx with
    | p d => cases d <;> rfl
    | ref n => rfl
    | v z => cases z <;> rfl
  · cases ho
/-- == of data without dicts -/
def eqD (S : List Cell) (x y : D) : Option Bool := match view S x, view S y with
  | some a, some b => if SeqAt.shaped (py a) && SeqAt.shaped (py b) then some (PyData.eqv (py a) (py b)) else match a, b with
    | .lst xs, .lst ys => if xs.length = ys.length then none else some false
    | .tup xs, .tup ys => none
    | _, _ => none
  | _, _ => none
def oEq (neg : Bool) : O2 := fun x y S => match eqD S x y with
  | some b => some (.p (.bl (b != neg)), S)
  | none => none
theorem view_lst {K : PySem.W.Frag} {H : Hp} {ρ : Wd} {S : List Cell} {d : D} {v : V} {ds : List PD} (s : RelS K H ρ S) (r : RelD K H ρ d v) (h : view S d = some (.lst ds)) : ∃ a vs, v = .ref a ∧ SqL K H a vs ∧ RelPs K H ρ ds vs := by
  cases d with
  | p d =>
    cases h
    obtain ⟨a, vs, rfl, h1, h2⟩ := relL r
    exact ⟨a, vs, rfl, h1.sq, h2⟩
  | v x => cases h
  | ref n =>
    obtain ⟨es, ys, hc, hy, e⟩ := view_ref h
    cases e
    obtain ⟨a, o, rfl, _, ho, vs, rfl, hz, rd⟩ := ref_cell s r hc
    exact ⟨a, vs, rfl, .inl (.inl ho), pds_rel hy rd⟩
theorem op_eqDD (hu : X.A.units + 64 < cLine) : OpR X (compareOp .Eq) (rD X.K (oEq false)) := by
  intro pins s σ H x y v u Q I rx ry ⟨ρ, S, dx, dy, d, S', s0, r1, r2, ho, k⟩
  unfold oEq at ho
  split at ho
  · rename_i b hb
    cases ho
    unfold eqD at hb
    split at hb
    · rename_i a b' ha hb'
      split at hb
      · rename_i hs
        cases hb
        simp only [Bool.and_eq_true] at hs
        refine op_eqD hu pins s σ H _ _ v u Q I rx ry ⟨_, _, view_dp s0 r1 ha (SeqAt.canLay_of_shaped hs.1), view_dp s0 r2 hb' (SeqAt.canLay_of_shaped hs.2), hs.1, hs.2, ?_⟩
        refine k _ H ρ Ext.refl s0 ?_
        simp [RelD, RelP]
      · split at hb
        · rename_i xs ys
          split at hb
          · cases hb
          · rename_i hne
            cases hb
            obtain ⟨p, vs, rfl, q1, l1⟩ := view_lst s0 r1 ha
            obtain ⟨p', vs', rfl, q2, l2⟩ := view_lst s0 r2 hb'
            obtain ⟨its, rv, pl, hz⟩ := I.list q1
            obtain ⟨its', rv', pl', hz'⟩ := I.list q2
            cases rx
            cases ry
            have e1 := rv.length
            have e2 := rv'.length
            have e3 := l1.length
            have e4 := l2.length
            refine SeqAt.eq_list_lengthsAt pl.isList pl'.isList (by simp; omega) (by omega) ⟨.bl false, H, I, rfl, ?_⟩
            exact k _ H ρ Ext.refl s0 (by simp [RelD, RelP])
        · cases hb
        · cases hb
    · cases hb
  · cases ho
theorem op_neDD (hu : X.A.units + 64 < cLine) : OpR X (compareOp .NotEq) (rD X.K (oEq true)) := by
  intro pins s σ H x y v u Q I rx ry ⟨ρ, S, dx, dy, d, S', s0, r1, r2, ho, k⟩
  unfold oEq at ho
  split at ho
  · rename_i b hb
    cases ho
    unfold eqD at hb
    split at hb
    · rename_i a b' ha hb'
      split at hb
      · rename_i hs
        cases hb
        simp only [Bool.and_eq_true] at hs
        refine op_neD hu pins s σ H _ _ v u Q I rx ry ⟨_, _, view_dp s0 r1 ha (SeqAt.canLay_of_shaped hs.1), view_dp s0 r2 hb' (SeqAt.canLay_of_shaped hs.2), hs.1, hs.2, ?_⟩
        refine k _ H ρ Ext.refl s0 ?_
        simp only [RelD, RelP]
        cases PyData.eqv (py a) (py b') <;> rfl
      · split at hb
        · rename_i xs ys
          split at hb
          · cases hb
          · rename_i hne
            cases hb
            obtain ⟨p, vs, rfl, q1, l1⟩ := view_lst s0 r1 ha
            obtain ⟨p', vs', rfl, q2, l2⟩ := view_lst s0 r2 hb'
            obtain ⟨its, rv, pl, hz⟩ := I.list q1
            obtain ⟨its', rv', pl', hz'⟩ := I.list q2
            cases rx
            cases ry
            have e1 := rv.length
            have e2 := rv'.length
            have e3 := l1.length
            have e4 := l2.length
            refine SeqAt.RcNeAt.lists_lengths pl.isList pl'.isList (by simp; omega) (by omega) X.prog X.w _ _ ⟨.bl true, H, I, rfl, ?_⟩
            exact k _ H ρ Ext.refl s0 (by simp [RelD, RelP])
        · cases hb
        · cases hb
    · cases hb
  · cases ho
end
end Pt
set_option maxRecDepth 100000
/-! Pt6: subscripts, slices, in, dicts, calls of built-ins, methods. -/
namespace Pt
open PySem PySem.Spec PyProof.Rows L2

theorem hu1 {gg : Bool} {k : Nat} {A : Around} (hr : RoomG gg k A) : A.units + 1 < cLine := hu_of hr.room
theorem hu64 {gg : Bool} {k : Nat} {A : Around} (hr : RoomG gg k A) : A.units + 64 < cLine := hr.room.units

def valD {κ : Type} [DecidableEq κ] (kvs : List (κ × D)) (k : κ) : Option D := (kvs.find? fun kv => decide (kv.1 = k)).map (·.2)
def putD {κ : Type} [DecidableEq κ] (kvs : List (κ × D)) (k : κ) (v : D) : List (κ × D) :=
  if (kvs.any fun kv => decide (kv.1 = k)) = true then kvs.map (fun kv => if kv.1 = k then (kv.1, v) else kv) else kvs ++ [(k, v)]
def keyOf : D → Option L2.Key
  | .p (.int i) => some (.inl i)
  | .p (.str x) => some (.inr x)
  | _ => none
def dictOf (S : List Cell) : D → Option (List (L2.Key × D))
  | .p (.dct kvs) => some (kvs.map fun p => (p.1, .p p.2))
  | .ref n => match S[n]? with
    | some (.dK kvs) => some kvs
    | _ => none
  | _ => none
section
variable {K : PySem.W.Frag} {H : Hp} {ρ : Wd} {S : List Cell}
theorem keyOf_rel {d : D} {v : V} {k : L2.Key} (r : RelD K H ρ d v) (h : keyOf d = some k) : v = kV k := by
  unfold keyOf at h
  split at h
  · cases h; exact relI r
  · cases h; exact relZ r
  · cases h
theorem relKs_D : ∀ {kvs : List (L2.Key × PD)} {ws : List (L2.Key × V)}, RelKs K H ρ kvs ws → RelKD K H ρ (kvs.map fun p => (p.1, D.p p.2)) ws
  | [], _, h => by simp only [RelKs] at h; subst h; exact .nil
  | (k, d) :: r, _, h => by
    simp only [RelKs] at h
    obtain ⟨v, q, rfl, h1, h2⟩ := h
    exact .cons ⟨rfl, h1⟩ (relKs_D h2)
theorem dictOf_rel {d : D} {v : V} {kvs : List (L2.Key × D)} (s : RelS K H ρ S) (r : RelD K H ρ d v) (h : dictOf S d = some kvs) : ∃ a ws, v = .ref a ∧ H a = some (.dK ws) ∧ ws.length ≤ sizeLine ∧ RelKD K H ρ kvs ws := by
  cases d with
  | p d =>
    cases d with
    | dct kvs' =>
      simp only [dictOf, Option.some.injEq] at h
      subst h
      simp only [RelD, RelP] at r
      obtain ⟨a, ws, rfl, h1, h2⟩ := r
      exact ⟨a, ws, rfl, h1.at', h1.fit, relKs_D h2⟩
    | _ => simp [dictOf] at h
  | v x => simp [dictOf] at h
  | ref n =>
    simp only [dictOf] at h
    split at h
    · rename_i kvs' hc
      cases h
      obtain ⟨a, o, rfl, _, ho, ws, rfl, hz, rd⟩ := ref_cell s r hc
      exact ⟨a, ws, rfl, ho, hz, rd⟩
    · cases h
theorem valD_rel {κ : Type} [DecidableEq κ] {k : κ} : ∀ {kvs : List (κ × D)} {ws : List (κ × V)}, RelKD K H ρ kvs ws → (∀ d, valD kvs k = some d → ∃ v, valV ws k = some v ∧ RelD K H ρ d v) ∧ (valD kvs k = none → valV ws k = none)
  | _, _, .nil => ⟨fun d h => by simp [valD] at h, fun _ => rfl⟩
  | _, _, .cons (a := p) (b := q) (l₁ := kvs) (l₂ := ws) r t => by
    obtain ⟨ih1, ih2⟩ := valD_rel (k := k) t
    unfold valD valV at *
    by_cases hk : p.1 = k
    · have hk2 : q.1 = k := by rw [← r.1]; exact hk
      simp only [List.find?_cons, hk, hk2, decide_true, Option.map_some]
      exact ⟨fun d h => by cases h; exact ⟨_, rfl, r.2⟩, fun h => nomatch h⟩
    · have hk2 : ¬ q.1 = k := by rw [← r.1]; exact hk
      simp only [List.find?_cons, hk, hk2, decide_false]
      exact ⟨ih1, ih2⟩
theorem any_rel {κ : Type} [DecidableEq κ] {k : κ} : ∀ {kvs : List (κ × D)} {ws : List (κ × V)}, RelKD K H ρ kvs ws → (ws.any fun kv => decide (kv.1 = k)) = kvs.any fun kv => decide (kv.1 = k)
  | _, _, .nil => rfl
  | _, _, .cons (a := p) (b := q) r t => by simp only [List.any_cons, any_rel t, r.1]
theorem put_map {κ : Type} [DecidableEq κ] {k : κ} {d : D} {v : V} (rd : RelD K H ρ d v) : ∀ {kvs : List (κ × D)} {ws : List (κ × V)}, RelKD K H ρ kvs ws → RelKD K H ρ (kvs.map fun kv => if kv.1 = k then (kv.1, d) else kv) (ws.map fun kv => if kv.1 = k then (kv.1, v) else kv)
  | _, _, .nil => .nil
  | _, _, .cons (a := p) (b := q) r t => by
    simp only [List.map_cons]
    refine .cons ?_ (put_map rd t)
    by_cases hk : p.1 = k
    · have hk2 : q.1 = k := by rw [← r.1]; exact hk
      rw [if_pos hk, if_pos hk2]
      exact ⟨r.1, rd⟩
    · have hk2 : ¬ q.1 = k := by rw [← r.1]; exact hk
      rw [if_neg hk, if_neg hk2]
      exact r
theorem relKD_app {κ : Type} : ∀ {kvs us : List (κ × D)} {ws ts : List (κ × V)}, RelKD K H ρ kvs ws → RelKD K H ρ us ts → RelKD K H ρ (kvs ++ us) (ws ++ ts)
  | _, _, _, _, .nil, g => g
  | _, _, _, _, .cons r t, g => .cons r (relKD_app t g)
theorem putD_rel {κ : Type} [DecidableEq κ] {k : κ} {d : D} {v : V} {kvs : List (κ × D)} {ws : List (κ × V)} (rd : RelD K H ρ d v) (h : RelKD K H ρ kvs ws) : RelKD K H ρ (putD kvs k d) (putK ws k v) := by
  unfold putD putK
  rw [any_rel h]
  split
  · exact put_map rd h
  · exact relKD_app h (.cons ⟨rfl, rd⟩ .nil)
theorem putK_len {κ : Type} [DecidableEq κ] {k : κ} {v : V} (ws : List (κ × V)) : (putK ws k v).length ≤ ws.length + 1 := by
  unfold putK
  split <;> simp
end

section
variable {X : Cx} {a b e o i : Expr} {es : List Expr} {pos : Pos} {k : Nat}
/-! ### subscripts -/
def oIxSeq : O2 := fun x y S => match seqOf S x, y with
  | some ds, .p (.int j) => match atI ds j with
    | some d => some (.p d, S)
    | none => none
  | _, _ => none
theorem atI_rel {K : PySem.W.Frag} {H : Hp} {ρ : Wd} {ds : List PD} {vs : List V} {j : Int} {d : PD} (h : RelPs K H ρ ds vs) (e : atI ds j = some d) : ∃ v, atI vs j = some v ∧ RelP K H ρ d v := by
  unfold atI at e ⊢
  rw [h.length]
  cases hx : ixN ds.length j with
  | none => rw [hx] at e; cases e
  | some n =>
    rw [hx] at e
    exact h.get e
theorem ix_seqD : IxR X (rD X.K oIxSeq) := by
  intro value slice pins s σ H x y v u Q I rx ry ⟨ρ, S, dx, dy, d, S', s0, r1, r2, ho, k⟩ hs
  unfold oIxSeq at ho
  split at ho
  · rename_i ds j hq
    split at ho
    · rename_i d' hd
      cases ho
      cases relI r2
      obtain ⟨p, vs, rfl, sq, hz, rp⟩ := seqOf_rel s0 r1 hq
      obtain ⟨v', hv, rv⟩ := atI_rel rp hd
      rcases sq with sq | sq
      · exact ix_list value slice pins s σ H _ _ v u Q I rx ry ⟨p, vs, j, v', rfl, rfl, sq, hv, k _ H ρ Ext.refl s0 rv⟩ hs
      · exact ix_tup value slice pins s σ H _ _ v u Q I rx ry ⟨p, vs, j, v', rfl, rfl, sq, hv, k _ H ρ Ext.refl s0 rv⟩ hs
    · cases ho
  · cases ho
def oIxStr : O2 := fun x y S => match x, y with
  | .p (.str z), .p (.int j) => if z.length ≤ sizeLine then match atI z.cps.toList j with
    | some c => some (.p (.str ⟨#[c]⟩), S)
    | none => none
    else none
  | _, _ => none
theorem ix_strD : IxR X (rD X.K oIxStr) := by
  intro value slice pins s σ H x y v u Q I rx ry ⟨ρ, S, dx, dy, d, S', s0, r1, r2, ho, k⟩ hs
  unfold oIxStr at ho
  split at ho
  · split at ho
    · rename_i hz
      split at ho
      · rename_i c hc
        cases ho
        cases relZ r1; cases relI r2
        exact ix_str value slice pins s σ H _ _ v u Q I rx ry ⟨_, _, _, rfl, rfl, hz, hc, k _ H ρ Ext.refl s0 mkZ⟩ hs
      · cases ho
    · cases ho
  · cases ho
def oIxDct : O2 := fun x y S => match dictOf S x, keyOf y with
  | some kvs, some key => match valD kvs key with
    | some d => some (d, S)
    | none => none
  | _, _ => none
theorem re_dget {gg : Bool} {mo mi : ME} (hr : RoomG gg k X.A) (ho : PE X o (tE X.K mo)) (hi : PE X i (tE X.K mi)) (hs : NoSl i) : PE X (.Subscript o i pos) (tE X.K (mBin oIxDct mo mi)) := by
  refine pe_wk (pe_dget (hu1 hr) ho hi hs) fun σ H Q q => ?_
  obtain ⟨ρ, S, E, d, S', r, hm, k⟩ := q
  obtain ⟨x, S1, h1, hm⟩ := bnd_some hm
  obtain ⟨y, S2, h2, hm⟩ := bnd_some hm
  refine ⟨ρ, S, E, x, S1, r, h1, fun v H1 ρ1 e1 s1 r1 => ⟨ρ1, S1, E, y, S2, ⟨s1, r.e.ext e1⟩, h2, fun w H2 ρ2 e2 s2 r2 => ?_⟩⟩
  unfold oIxDct at hm
  split at hm
  · rename_i kvs key hd hk
    split at hm
    · rename_i d' hv
      cases hm
      obtain ⟨a, ws, rfl, ha, hz, rd⟩ := dictOf_rel s2 (r1.ext e2) hd
      have ek := keyOf_rel r2 hk
      subst ek
      obtain ⟨z, hz2, rz⟩ := (valD_rel rd).1 _ hv
      exact ⟨a, z, rfl, by rw [← hz2]; exact DGet.k ha, k z H2 ρ2 (e1.trans e2) s2 rz⟩
    · cases hm
  · cases hm
def oIx : O2 := fun x y S => match oIxSeq x y S with
  | some r => some r
  | none => match oIxDct x y S with
    | some r => some r
    | none => oIxStr x y S
theorem re_sub {gg : Bool} {mo mi : ME} (hr : RoomG gg k X.A) (ho : PE X o (tE X.K mo)) (hi : PE X i (tE X.K mi)) (hs : NoSl i := by exact fun _ _ => rfl) : PE X (.Subscript o i pos) (tE X.K (mBin oIx mo mi)) := by
  refine ⟨fun pins s σ H Q I q => ?_⟩
  obtain ⟨ρ, S, E, d, S', r, hm, k⟩ := q
  obtain ⟨x, S1, h1, hm⟩ := bnd_some hm
  obtain ⟨y, S2, h2, hm⟩ := bnd_some hm
  have mk : ∀ {oo : O2}, oo x y S2 = some (d, S') → mBin oo mo mi E S = some (d, S') := fun {oo} h => by
    unfold mBin bnd
    simp only [h1, h2, h]
  unfold oIx at hm
  split at hm
  · rename_i rr hq
    cases hm
    exact (re_ix ix_seqD ho hi hs).run pins s σ H Q I ⟨ρ, S, E, d, S', r, mk hq, k⟩
  · split at hm
    · rename_i rr hq
      cases hm
      exact (re_dget hr ho hi hs).run pins s σ H Q I ⟨ρ, S, E, d, S', r, mk hq, k⟩
    · exact (re_ix ix_strD ho hi hs).run pins s σ H Q I ⟨ρ, S, E, d, S', r, mk hm, k⟩
/-! ### slices -/
abbrev MO := Vr → M (Option Int)
def tOO (K : PySem.W.Frag) (m : MO) : TO := fun σ H Q => ∃ ρ S E b S', Rel K H ρ S E σ ∧ m E S = some (b, S') ∧ ∀ H' ρ', Ext ρ H ρ' H' → RelS K H' ρ' S' → Q b H'
def oNone : MO := fun _ S => some (none, S)
def oSome (m : ME) : MO := fun E => bnd (m E) fun d S => match d with
  | .p (.int i) => some (some i, S)
  | _ => none
theorem po_wk {x : Option Expr} {t t' : TO} (h : PO X x t) (w : ∀ σ H Q, t' σ H Q → t σ H Q) : PO X x t' := ⟨fun pins s σ H Q I q => h.run pins s σ H Q I (w _ _ _ q)⟩
theorem ro_none : PO X none (tOO X.K oNone) := po_wk po_none fun σ H Q q => by
  obtain ⟨ρ, S, E, d, S', r, hm, k⟩ := q
  cases hm
  exact k H ρ Ext.refl r.s
theorem ro_some {m : ME} (h : PE X e (tE X.K m)) : PO X (some e) (tOO X.K (oSome m)) := po_wk (po_some h) fun σ H Q q => by
  obtain ⟨ρ, S, E, d, S', r, hm, k⟩ := q
  obtain ⟨x, S1, h1, hm⟩ := bnd_some hm
  refine ⟨ρ, S, E, x, S1, r, h1, fun v H1 ρ1 e1 s1 r1 => ?_⟩
  split at hm
  · cases hm
    exact ⟨_, relI r1, k H1 ρ1 e1 s1⟩
  · cases hm
def cutP (xs : List PD) (lo hi : Option Int) : List PD := (xs.drop (HT.sIx xs.length 0 lo)).take (HT.sIx xs.length xs.length hi - HT.sIx xs.length 0 lo)
def oSl (x : D) (lo hi : Option Int) : M D := fun S => match x with
  | .p (.tup ds) => some (.p (.tup (cutP ds lo hi)), S)
  | .p (.lst ds) => some (.p (.lst (cutP ds lo hi)), S)
  | .p (.scr ns) => some (.p (.lst (cutP (ns.map PD.int) lo hi)), S)
  | .ref n => match view S (.ref n) with
    | some (.lst ds) => some (.p (.lst (cutP ds lo hi)), S)
    | _ => none
  | _ => none
def mSl (mo : ME) (ml mh : MO) : ME := fun E => bnd (mo E) fun x => bnd (ml E) fun lo => bnd (mh E) fun hi => oSl x lo hi
theorem cut_rel {K : PySem.W.Frag} {H : Hp} {ρ : Wd} {ds : List PD} {vs : List V} {lo hi : Option Int} (h : RelPs K H ρ ds vs) : RelPs K H ρ (cutP ds lo hi) (cutV vs lo hi) := by
  unfold cutP cutV
  rw [h.length]
  exact RelPs.take _ (RelPs.drop _ h)
theorem re_slice {mo : ME} {ml mh : MO} {lo hi : Option Expr} {p2 : Pos} (h : PE X e (tE X.K mo)) (hl : PO X lo (tOO X.K ml)) (hh : PO X hi (tOO X.K mh)) : PE X (.Subscript e (.Slice lo hi none p2) pos) (tE X.K (mSl mo ml mh)) := by
  refine ⟨fun pins s σ H Q I q => ?_⟩
  obtain ⟨ρ, S, E, d, S', r, hm, k⟩ := q
  obtain ⟨x, S1, h1, hm⟩ := bnd_some hm
  obtain ⟨lv, S2, h2, hm⟩ := bnd_some hm
  obtain ⟨hv, S3, h3, hm⟩ := bnd_some hm
  have go : ∀ {rr : V → Option Int → Option Int → Hp → VK → Prop}, SlR X rr → (∀ v H1 ρ1, Ext ρ H ρ1 H1 → RelS X.K H1 ρ1 S3 → RelD X.K H1 ρ1 x v → rr v lv hv H1 Q) → wpAny (model X.prog X.w) X.A (eval (.Subscript e (.Slice lo hi none p2) pos) X.env) (EP X pins σ Q) X.xe s := fun hrr w =>
    (pe_slice hrr h hl hh).run pins s σ H Q I ⟨ρ, S, E, x, S1, r, h1, fun v H1 ρ1 e1 s1 r1 => ⟨ρ1, S1, E, lv, S2, ⟨s1, r.e.ext e1⟩, h2, fun H2 ρ2 e2 s2 => ⟨ρ2, S2, E, hv, S3, ⟨s2, (r.e.ext e1).ext e2⟩, h3, fun H3 ρ3 e3 s3 => w v H3 ρ3 ((e1.trans e2).trans e3) s3 ((r1.ext e2).ext e3)⟩⟩⟩
  cases x with
  | p x =>
    cases x with
    | tup ds =>
      cases hm
      refine go (sl_tupF (f := ρ.f)) fun v H1 ρ1 e1 s1 r1 => ?_
      obtain ⟨a, vs, rfl, ta, la⟩ := relT r1
      have l1 := la.length
      rw [← e1.fl]
      refine ⟨a, vs, rfl, ta.sq, fun hw => ?_, newT_of s1 (cut_rel la) (Nat.le_trans (cutV_length _ _ _) ta.fit) fun z H2 e2 s2 r3 => k z H2 ρ1 (e1.trans e2) s2 r3⟩
      have ec : cutP ds lv hv = ds := by
        unfold cutP
        rw [← l1, hw.1, hw.2]
        simp only [List.drop_zero, Nat.sub_zero]
        exact List.take_of_length_le (by omega)
      rw [ec] at k
      exact k _ H1 ρ1 e1 s1 r1
    | lst ds =>
      cases hm
      refine go sl_list fun v H1 ρ1 e1 s1 r1 => ?_
      obtain ⟨a, vs, rfl, ta, la⟩ := relL r1
      exact ⟨a, vs, rfl, ta.sq, fun p hp => k _ _ ρ1 (e1.trans (Ex.new hp).ext) (s1.ex (Ex.new hp)) (new_lst s1 hp (cut_rel la) (Nat.le_trans (cutV_length _ _ _) ta.fit))⟩
    | scr ns =>
      cases hm
      refine go sl_list fun v H1 ρ1 e1 s1 r1 => ?_
      simp only [RelD, RelP] at r1
      obtain ⟨a, rfl, ta⟩ := r1
      exact ⟨a, _, rfl, ta.sq, fun p hp => k _ _ ρ1 (e1.trans (Ex.new hp).ext) (s1.ex (Ex.new hp)) (new_lst s1 hp (cut_rel (relPs_ints ns)) (Nat.le_trans (cutV_length _ _ _) ta.fit))⟩
    | _ => cases hm
  | ref n =>
    simp only [oSl] at hm
    split at hm
    · rename_i ds hvw
      cases hm
      refine go sl_list fun v H1 ρ1 e1 s1 r1 => ?_
      obtain ⟨es, ys, hc, hy, ee⟩ := view_ref hvw
      cases ee
      obtain ⟨a, oo, rfl, _, hoo, vs, rfl, hz, rd⟩ := ref_cell s1 r1 hc
      exact ⟨a, vs, rfl, .inl (.inl hoo), fun p hp => k _ _ ρ1 (e1.trans (Ex.new hp).ext) (s1.ex (Ex.new hp)) (new_lst s1 hp (cut_rel (pds_rel hy rd)) (Nat.le_trans (cutV_length _ _ _) hz))⟩
    · cases hm
  | v x => cases hm

/-! ### in -/
def toV : PD → V
  | .bl b => .bl b
  | .int i => .int i
  | .str x => .str x
  | _ => .non
def flatP : PD → Bool
  | .non => true
  | .bl _ => true
  | .int _ => true
  | .str _ => true
  | _ => false
theorem toV_rel {K : PySem.W.Frag} {H : Hp} {ρ : Wd} {d : PD} {v : V} (r : RelP K H ρ d v) (h : flatP d = true) : v = toV d ∧ flatV (toV d) = true := by
  cases d with
  | non => simp only [RelP] at r; exact ⟨r, rfl⟩
  | bl _ => simp only [RelP] at r; exact ⟨r, rfl⟩
  | int _ => simp only [RelP] at r; exact ⟨r, rfl⟩
  | str _ => simp only [RelP] at r; exact ⟨r, rfl⟩
  | _ => cases h
theorem toVs_rel {K : PySem.W.Frag} {H : Hp} {ρ : Wd} : ∀ {ds : List PD} {vs : List V}, RelPs K H ρ ds vs → ds.all flatP = true → vs = ds.map toV ∧ vs.all flatV = true
  | [], _, r, _ => by simp only [RelPs] at r; subst r; exact ⟨rfl, rfl⟩
  | d :: ds, _, r, h => by
    simp only [RelPs] at r
    obtain ⟨v, q, rfl, r1, r2⟩ := r
    simp only [List.all_cons, Bool.and_eq_true] at h
    obtain ⟨e1, f1⟩ := toV_rel r1 h.1
    obtain ⟨e2, f2⟩ := toVs_rel r2 h.2
    subst e1; subst e2
    refine ⟨rfl, ?_⟩
    rw [List.all_cons, f1, f2]
    rfl
def inP (d : PD) (ds : List PD) : Bool := inV (toV d) (ds.map toV)
def oInSeq (neg : Bool) : O2 := fun x y S => match x, seqOf S y with
  | .p d, some ds => if flatP d && ds.all flatP then some (.p (.bl (if neg then !inP d ds else inP d ds)), S) else none
  | _, _ => none
theorem op_inSeqG {op : CmpOp} {neg : Bool} (h : OpR X (compareOp op) (rIn X.K neg)) : OpR X (compareOp op) (rD X.K (oInSeq neg)) := by
  intro pins s σ H x y v u Q I rx ry ⟨ρ, S, dx, dy, d, S', s0, r1, r2, ho, k⟩
  unfold oInSeq at ho
  split at ho
  · rename_i d' ds hq
    split at ho
    · rename_i hf
      cases ho
      simp only [Bool.and_eq_true] at hf
      obtain ⟨p, vs, rfl, sq, hz, rp⟩ := seqOf_rel s0 r2 hq
      obtain ⟨e1, f1⟩ := toV_rel r1 hf.1
      obtain ⟨e2, f2⟩ := toVs_rel rp hf.2
      subst e1
      refine h pins s σ H _ _ v u Q I rx ry ⟨p, vs, rfl, sq, f1, f2, ?_⟩
      subst e2
      exact k _ H ρ Ext.refl s0 (by simp only [RelD, RelP]; rfl)
    · cases ho
  · cases ho
def oInStr (neg : Bool) : O2 := fun x y S => match x, y with
  | .p (.str i), .p (.str j) => some (.p (.bl (if neg then (Builtin.Str.occurrences j i 0 j.length 1).isEmpty else !(Builtin.Str.occurrences j i 0 j.length 1).isEmpty)), S)
  | _, _ => none
theorem op_inStrD : OpR X (compareOp .In) (rD X.K (oInStr false)) := by
  intro pins s σ H x y v u Q I rx ry ⟨ρ, S, dx, dy, d, S', s0, r1, r2, ho, k⟩
  unfold oInStr at ho
  split at ho
  · cases ho
    cases relZ r1; cases relZ r2
    exact op_in_str pins s σ H _ _ v u Q I rx ry ⟨_, _, rfl, rfl, k _ H ρ Ext.refl s0 (by simp only [RelD, RelP]; rfl)⟩
  · cases ho
theorem op_notInStrD : OpR X (compareOp .NotIn) (rD X.K (oInStr true)) := by
  intro pins s σ H x y v u Q I rx ry ⟨ρ, S, dx, dy, d, S', s0, r1, r2, ho, k⟩
  unfold oInStr at ho
  split at ho
  · cases ho
    cases relZ r1; cases relZ r2
    exact op_notin_str pins s σ H _ _ v u Q I rx ry ⟨_, _, rfl, rfl, k _ H ρ Ext.refl s0 (by simp only [RelD, RelP, Bool.not_not]; rfl)⟩
  · cases ho
def oInDct (neg : Bool) : O2 := fun x y S => match keyOf x, dictOf S y with
  | some key, some kvs => some (.p (.bl ((valD kvs key).isSome != neg)), S)
  | _, _ => none
def oIn (neg : Bool) : O2 := fun x y S => match oInSeq neg x y S with
  | some r => some r
  | none => match oInDct neg x y S with
    | some r => some r
    | none => oInStr neg x y S
theorem dct_sem {K : PySem.W.Frag} {neg : Bool} {mi mo : ME} (σ : L2.St) (H : Hp) (Q : VK) (q : tE K (mBin (oInDct neg) mi mo) σ H Q) :
    tE K mi σ H fun y H1 => tE K mo σ H1 fun x H2 => ∃ a r, x = .ref a ∧ DGet H2 a y r ∧ Q (.bl (r.isSome != neg)) H2 := by
  obtain ⟨ρ, S, E, d, S', r, hm, k⟩ := q
  obtain ⟨x, S1, h1, hm⟩ := bnd_some hm
  obtain ⟨y, S2, h2, hm⟩ := bnd_some hm
  refine ⟨ρ, S, E, x, S1, r, h1, fun v H1 ρ1 e1 s1 r1 => ⟨ρ1, S1, E, y, S2, ⟨s1, r.e.ext e1⟩, h2, fun w H2 ρ2 e2 s2 r2 => ?_⟩⟩
  unfold oInDct at hm
  split at hm
  · rename_i key kvs hk hd
    cases hm
    obtain ⟨a, ws, rfl, ha, hz, rd⟩ := dictOf_rel s2 r2 hd
    have ek := keyOf_rel r1 hk
    subst ek
    refine ⟨a, valV ws key, rfl, DGet.k ha, ?_⟩
    have eo : (valV ws key).isSome = (valD kvs key).isSome := by
      cases hv : valD kvs key with
      | some d =>
        obtain ⟨z, hz2, _⟩ := (valD_rel rd).1 _ hv
        rw [hz2]; rfl
      | none => rw [(valD_rel rd).2 hv]; rfl
    rw [eo]
    exact k _ H2 ρ2 (e1.trans e2) s2 mkB
  · cases hm
theorem re_in {gg : Bool} {mi mo : ME} (hr : RoomG gg k X.A) (hi : PE X i (tE X.K mi)) (ho : PE X o (tE X.K mo)) (hb : behindInMarks .In o = false := by rfl) : PE X (.Compare i [.In] [o] pos) (tE X.K (mBin (oIn false) mi mo)) := by
  refine ⟨fun pins s σ H Q I q => ?_⟩
  obtain ⟨ρ, S, E, d, S', r, hm, k⟩ := q
  obtain ⟨x, S1, h1, hm⟩ := bnd_some hm
  obtain ⟨y, S2, h2, hm⟩ := bnd_some hm
  have mk : ∀ {oo : O2}, oo x y S2 = some (d, S') → mBin oo mi mo E S = some (d, S') := fun {oo} h => by
    unfold mBin bnd
    simp only [h1, h2, h]
  unfold oIn at hm
  split at hm
  · rename_i rr hq
    cases hm
    exact (re_cmp (op_inSeqG op_in_seq) hi ho hb).run pins s σ H Q I ⟨ρ, S, E, d, S', r, mk hq, k⟩
  · split at hm
    · rename_i rr hq
      cases hm
      refine (pe_cmp (pc_din (hu1 hr) hi ho) hb).run pins s σ H Q I ?_
      have z := dct_sem (neg := false) σ H Q ⟨ρ, S, E, d, S', r, mk hq, k⟩
      simp only [Bool.bne_false] at z
      exact z
    · exact (re_cmp op_inStrD hi ho hb).run pins s σ H Q I ⟨ρ, S, E, d, S', r, mk hm, k⟩
theorem re_notIn {gg : Bool} {mi mo : ME} (hr : RoomG gg k X.A) (hi : PE X i (tE X.K mi)) (ho : PE X o (tE X.K mo)) (hb : behindInMarks .NotIn o = false := by rfl) : PE X (.Compare i [.NotIn] [o] pos) (tE X.K (mBin (oIn true) mi mo)) := by
  refine ⟨fun pins s σ H Q I q => ?_⟩
  obtain ⟨ρ, S, E, d, S', r, hm, k⟩ := q
  obtain ⟨x, S1, h1, hm⟩ := bnd_some hm
  obtain ⟨y, S2, h2, hm⟩ := bnd_some hm
  have mk : ∀ {oo : O2}, oo x y S2 = some (d, S') → mBin oo mi mo E S = some (d, S') := fun {oo} h => by
    unfold mBin bnd
    simp only [h1, h2, h]
  unfold oIn at hm
  split at hm
  · rename_i rr hq
    cases hm
    exact (re_cmp (op_inSeqG op_notIn_seq) hi ho hb).run pins s σ H Q I ⟨ρ, S, E, d, S', r, mk hq, k⟩
  · split at hm
    · rename_i rr hq
      cases hm
      refine (pe_cmp (pc_dnotin (hu1 hr) hi ho) hb).run pins s σ H Q I ?_
      have z := dct_sem (neg := true) σ H Q ⟨ρ, S, E, d, S', r, mk hq, k⟩
      simp only [Bool.bne_true] at z
      exact z
    · exact (re_cmp op_notInStrD hi ho hb).run pins s σ H Q I ⟨ρ, S, E, d, S', r, mk hm, k⟩
/-- .. as tests -/
theorem val_q {K : PySem.W.Frag} {m : ME} {σ : L2.St} {H : Hp} {Q : Bool → Hp → Prop} (q : tT K (mVal m) σ H Q) : tE K m σ H fun x H1 => ∃ c, x = .bl c ∧ Q c H1 := by
  obtain ⟨ρ, S, E, b, S', r, hm, k⟩ := q
  obtain ⟨d, S1, h1, hm⟩ := bnd_some hm
  refine ⟨ρ, S, E, d, S1, r, h1, fun v H1 ρ1 e1 s1 r1 => ?_⟩
  split at hm
  · cases hm
    simp only [RelD, RelP] at r1
    exact ⟨_, r1, k H1 ρ1 e1 s1⟩
  · cases hm
theorem rt_in {gg : Bool} {mi mo : ME} (hr : RoomG gg k X.A) (hi : PE X i (tE X.K mi)) (ho : PE X o (tE X.K mo)) (hb : behindInMarks .In o = false := by rfl) : PT X (.Compare i [.In] [o] pos) (tT X.K (mVal (mBin (oIn false) mi mo))) := by
  refine ⟨fun pins s σ H Q I q => ?_⟩
  obtain ⟨ρ, S, E, d, S', r, hm, k⟩ := val_q q
  obtain ⟨x, S1, h1, hm⟩ := bnd_some hm
  obtain ⟨y, S2, h2, hm⟩ := bnd_some hm
  have mk : ∀ {oo : O2}, oo x y S2 = some (d, S') → mBin oo mi mo E S = some (d, S') := fun {oo} h => by
    unfold mBin bnd
    simp only [h1, h2, h]
  unfold oIn at hm
  split at hm
  · rename_i rr hq
    cases hm
    exact (pt_cmpR (op_inSeqG op_in_seq) hi ho hb).run pins s σ H Q I (bin_t _ _ _ ⟨ρ, S, E, d, S', r, mk hq, k⟩)
  · split at hm
    · rename_i rr hq
      cases hm
      refine (pt_cmp (pc_din (hu1 hr) hi ho) hb).run pins s σ H Q I ?_
      have z := dct_sem (neg := false) σ H _ ⟨ρ, S, E, d, S', r, mk hq, k⟩
      simp only [Bool.bne_false] at z
      exact z
    · exact (pt_cmpR op_inStrD hi ho hb).run pins s σ H Q I (bin_t _ _ _ ⟨ρ, S, E, d, S', r, mk hm, k⟩)
theorem rt_notIn {gg : Bool} {mi mo : ME} (hr : RoomG gg k X.A) (hi : PE X i (tE X.K mi)) (ho : PE X o (tE X.K mo)) (hb : behindInMarks .NotIn o = false := by rfl) : PT X (.Compare i [.NotIn] [o] pos) (tT X.K (mVal (mBin (oIn true) mi mo))) := by
  refine ⟨fun pins s σ H Q I q => ?_⟩
  obtain ⟨ρ, S, E, d, S', r, hm, k⟩ := val_q q
  obtain ⟨x, S1, h1, hm⟩ := bnd_some hm
  obtain ⟨y, S2, h2, hm⟩ := bnd_some hm
  have mk : ∀ {oo : O2}, oo x y S2 = some (d, S') → mBin oo mi mo E S = some (d, S') := fun {oo} h => by
    unfold mBin bnd
    simp only [h1, h2, h]
  unfold oIn at hm
  split at hm
  · rename_i rr hq
    cases hm
    exact (pt_cmpR (op_inSeqG op_notIn_seq) hi ho hb).run pins s σ H Q I (bin_t _ _ _ ⟨ρ, S, E, d, S', r, mk hq, k⟩)
  · split at hm
    · rename_i rr hq
      cases hm
      refine (pt_cmp (pc_dnotin (hu1 hr) hi ho) hb).run pins s σ H Q I ?_
      have z := dct_sem (neg := true) σ H _ ⟨ρ, S, E, d, S', r, mk hq, k⟩
      simp only [Bool.bne_true] at z
      exact z
    · exact (pt_cmpR op_notInStrD hi ho hb).run pins s σ H Q I (bin_t _ _ _ ⟨ρ, S, E, d, S', r, mk hm, k⟩)
end
end Pt
set_option maxRecDepth 100000
/-! Pt7: calls of built-ins, methods of lists, stores into dicts, displays and comprehensions of dicts. -/
namespace Pt
open PySem PySem.Spec PyProof.Rows L2
section
variable {X : Cx} {a b c e o i : Expr} {es : List Expr} {pos : Pos} {k : Nat} {x : Str} {p : Pos}
theorem re_callB {id : String} {oo : OC} {m : MA} (hc : CallR X (.builtin id) (rDC X.K oo)) (hg : Gl X x) (hm : X.mg x = none) (hv : bootBuiltins x = some (.builtin id)) (ha : PA X (e :: es) (tA X.K m)) (hn : x ≠ "__name__" := by decide) (hdb : (x == ("__debug__" : Str)) = false := by decide)
    (he : starEach (e :: es) X.env = (false, eval e X.env) :: starEach es X.env := by rfl) (hpl : (backTo pos (starEach es X.env)).any (·.1) = false := by rfl) : PE X (.Call (.Name x p) (e :: es) [] pos) (tE X.K (mCall oo m)) :=
  pe_wk (pe_callB hc hg hm hv ha hn hdb he hpl) call_t
theorem re_callTy {T : String} {oo : OC} {m : MA} (hc : CallR X (.type T) (rDC X.K oo)) (hg : Gl X x) (hm : X.mg x = none) (hv : bootBuiltins x = some (.type T)) (ha : PA X (e :: es) (tA X.K m)) (hn : x ≠ "__name__" := by decide) (hdb : (x == ("__debug__" : Str)) = false := by decide)
    (he : starEach (e :: es) X.env = (false, eval e X.env) :: starEach es X.env := by rfl) (hpl : (backTo pos (starEach es X.env)).any (·.1) = false := by rfl) : PE X (.Call (.Name x p) (e :: es) [] pos) (tE X.K (mCall oo m)) :=
  pe_wk (pe_callTy hc hg hm hv ha hn hdb he hpl) call_t
/-- a name of a built-in, as a value -/
theorem re_bltn {v : V} {u : Value} (hg : Gl X x) (hm : X.mg x = none) (hv : bootBuiltins x = some u) (r : RelV v u) (hn : x ≠ "__name__" := by decide) (hd : (x == ("__debug__" : Str)) = false := by decide) : PE X (.Name x pos) (tE X.K (mC (.v v))) :=
  re_c (pe_bltn hg hm hv r hn hd) fun _ _ _ => rfl
/-- a name of the module, as a value -/
theorem re_glob {v : V} {d : D} {u : Value} (hg : Gl X x) (hm : X.mg x = some u) (r : RelV v u) (hr : ∀ K H ρ, RelD K H ρ d v) (hd : (x == ("__debug__" : Str)) = false := by decide) : PE X (.Name x pos) (tE X.K (mC d)) :=
  re_c (pe_glob hg hm r hd) hr

/-! ### len, int, tuple, list -/
def oLen : OC := fun ds S => match ds with
  | [d] => match seqOf S d with
    | some xs => some (.p (.int xs.length), S)
    | none => match d with
      | .p (.str z) => if z.length ≤ sizeLine then some (.p (.int z.length), S) else none
      | _ => match dictOf S d with
        | some kvs => some (.p (.int kvs.length), S)
        | none => none
  | _ => none
theorem c_len : CallR X (.builtin "len") (rDC X.K oLen) := by
  intro pins s σ H xs us Q I r ⟨ρ, S, ds, d, S', s0, rd, ho, k⟩
  unfold oLen at ho
  split at ho
  · rename_i d0
    obtain ⟨v, rfl, rv⟩ := rel1 rd
    split at ho
    · rename_i ys hq
      cases ho
      obtain ⟨p, vs, rfl, sq, hz, rp⟩ := seqOf_rel s0 rv hq
      refine call_len_seq pins s σ H _ us Q I r ⟨p, vs, rfl, sq, ?_⟩
      rw [rp.length]
      exact k _ H ρ Ext.refl s0 mkI
    · split at ho
      · split at ho
        · rename_i hz
          cases ho
          cases relZ rv
          exact call_len_str pins s σ H _ us Q I r ⟨_, rfl, hz, k _ H ρ Ext.refl s0 mkI⟩
        · cases ho
      · split at ho
        · rename_i kvs hd
          cases ho
          obtain ⟨a, ws, rfl, ha, hz, rk⟩ := dictOf_rel s0 rv hd
          refine call_lenD pins s σ H _ us Q I r ⟨a, ws, rfl, ha, ?_⟩
          have e : ws.length = kvs.length := (Paired.length rk).symm
          rw [e]
          exact k _ H ρ Ext.refl s0 mkI
        · cases ho
  · cases ho
def oInt : OC := fun ds S => match ds with
  | [.p (.int j)] => some (.p (.int j), S)
  | [.p (.bl j)] => some (.p (.int (if j then 1 else 0)), S)
  | _ => none
theorem c_int : CallR X (.type "int") (rDC X.K oInt) := by
  intro pins s σ H xs us Q I r ⟨ρ, S, ds, d, S', s0, rd, ho, k⟩
  unfold oInt at ho
  split at ho
  · cases ho
    obtain ⟨v, rfl, rv⟩ := rel1 rd
    cases relI rv
    exact call_int1 pins s σ H _ us Q I r (Or.inl ⟨_, rfl, k _ H ρ Ext.refl s0 mkI⟩)
  · cases ho
    obtain ⟨v, rfl, rv⟩ := rel1 rd
    cases relB rv
    exact call_int1 pins s σ H _ us Q I r (Or.inr ⟨_, rfl, k _ H ρ Ext.refl s0 mkI⟩)
  · cases ho
def oTuple : OC := fun ds S => match ds with
  | [.p (.tup xs)] => some (.p (.tup xs), S)
  | [d] => match view S d with
    | some (.lst xs) => some (.p (.tup xs), S)
    | _ => none
  | _ => none
theorem c_tuple : CallR X (.type "tuple") (rDC X.K oTuple) := by
  intro pins s σ H xs us Q I r ⟨ρ, S, ds, d, S', s0, rd, ho, k⟩
  unfold oTuple at ho
  split at ho
  · cases ho
    obtain ⟨v, rfl, rv⟩ := rel1 rd
    have rv' := rv
    obtain ⟨a, vs, rfl, ta, la⟩ := relT rv'
    exact call_tupleF (f := ρ.f) pins s σ H _ us Q I r ⟨a, vs, rfl, Or.inr ⟨ta.sq, k _ H ρ Ext.refl s0 rv⟩⟩
  · rename_i d0 _
    split at ho
    · rename_i ys hv
      cases ho
      obtain ⟨v, rfl, rv⟩ := rel1 rd
      have hq : seqOf S d0 = some ys := by unfold seqOf; rw [hv]
      obtain ⟨a, vs, rfl, sq, hz, rp⟩ := seqOf_rel s0 rv hq
      obtain ⟨p', vs', e1, sq', _⟩ := view_lst s0 rv hv
      cases e1
      refine call_tupleF (f := ρ.f) pins s σ H _ us Q I r ⟨a, vs', rfl, Or.inl ⟨sq', ?_⟩⟩
      obtain ⟨_, _, e2, sq2, rp2⟩ := view_lst s0 rv hv
      cases e2
      have evs : vs' = _ := I.list_inj sq' sq2
      subst evs
      have hz' : vs'.length ≤ sizeLine := by
        have := rp2.length
        have := rp.length
        omega
      exact newT_of s0 rp2 hz' fun z H2 e2 s2 r2 => k z H2 ρ e2 s2 r2
    · cases ho
  · cases ho
def oList : OC := fun ds S => match ds with
  | [d] => match seqOf S d with
    | some xs => some (.p (.lst xs), S)
    | none => none
  | _ => none
def oListR : OC := fun ds S => match ds with
  | [d] => match seqOf S d with
    | some xs => some (.ref S.length, S ++ [.lst (xs.map .p)])
    | none => none
  | _ => none
theorem c_list : CallR X (.type "list") (rDC X.K oList) := by
  intro pins s σ H xs us Q I r ⟨ρ, S, ds, d, S', s0, rd, ho, k⟩
  unfold oList at ho
  split at ho
  · split at ho
    · rename_i ys hq
      cases ho
      obtain ⟨v, rfl, rv⟩ := rel1 rd
      obtain ⟨a, vs, rfl, sq, hz, rp⟩ := seqOf_rel s0 rv hq
      exact call_list_of pins s σ H _ us Q I r ⟨a, vs, rfl, sq, fun l hl => k _ _ ρ (Ex.new hl).ext (s0.ex (Ex.new hl)) (new_lst s0 hl rp hz)⟩
    · cases ho
  · cases ho
theorem c_listR : CallR X (.type "list") (rDC X.K oListR) := by
  intro pins s σ H xs us Q I r ⟨ρ, S, ds, d, S', s0, rd, ho, k⟩
  unfold oListR at ho
  split at ho
  · split at ho
    · rename_i ys hq
      cases ho
      obtain ⟨v, rfl, rv⟩ := rel1 rd
      obtain ⟨a, vs, rfl, sq, hz, rp⟩ := seqOf_rel s0 rv hq
      refine call_list_of pins s σ H _ us Q I r ⟨a, vs, rfl, sq, fun l hl => ?_⟩
      obtain ⟨n1, n2, n3⟩ := new_cell (c := .lst (ys.map .p)) (o := .lst vs) s0 hl ⟨vs, rfl, hz, relDs_ps rp⟩
      exact k _ _ _ n1 n2 n3
    · cases ho
  · cases ho
def oMax2 : OC := fun ds S => match ds with
  | [.p (.int i), .p (.int j)] => some (.p (.int (if j > i then j else i)), S)
  | _ => none
theorem c_max2 (hc : X.calm = true) : CallR X (.builtin "max") (rDC X.K oMax2) := by
  intro pins s σ H xs us Q I r ⟨ρ, S, ds, d, S', s0, rd, ho, k⟩
  unfold oMax2 at ho
  split at ho
  · cases ho
    obtain ⟨v, w, rfl, rv, rw'⟩ := rel2 rd
    cases relI rv; cases relI rw'
    exact call_max2 hc pins s σ H _ us Q I r ⟨_, _, rfl, k _ H ρ Ext.refl s0 mkI⟩
  · cases ho
def oMin2 : OC := fun ds S => match ds with
  | [.p (.int i), .p (.int j)] => some (.p (.int (if j < i then j else i)), S)
  | _ => none
theorem c_min2 (hc : X.calm = true) : CallR X (.builtin "min") (rDC X.K oMin2) := by
  intro pins s σ H xs us Q I r ⟨ρ, S, ds, d, S', s0, rd, ho, k⟩
  unfold oMin2 at ho
  split at ho
  · cases ho
    obtain ⟨v, w, rfl, rv, rw'⟩ := rel2 rd
    cases relI rv; cases relI rw'
    exact call_min2 hc pins s σ H _ us Q I r ⟨_, _, rfl, k _ H ρ Ext.refl s0 mkI⟩
  · cases ho
/-! ### isinstance -/
def tyName (S : List Cell) : D → Option String
  | .p .non => some "NoneType"
  | .p (.bl _) => some "bool"
  | .p (.int _) => some "int"
  | .p (.str _) => some "str"
  | .p (.tup _) => some "tuple"
  | .p (.tpl _) => some "tuple"
  | .p (.lst _) => some "list"
  | .p (.scr _) => some "list"
  | .p (.dct _) => some "dict"
  | .p (.exc _ _) => none
  | .ref n => match S[n]? with
    | some (.lst _) => some "list"
    | some (.dK _) => some "dict"
    | _ => none
  | .v _ => none
def isTy (a b : String) : Option Bool := kitB a b
def oIsi : OC := fun ds S => match ds with
  | [d, .v (.ty T)] => match tyName S d with
    | some n => match isTy n T with
      | some b => some (.p (.bl b), S)
      | none => none
    | none => none
  | _ => none
theorem tyName_rel {K : PySem.W.Frag} {H : Hp} {ρ : Wd} {S : List Cell} {d : D} {v : V} {n : String} (s : RelS K H ρ S) (r : RelD K H ρ d v) (h : tyName S d = some n) : TyX K H v (.type n) := by
  cases d with
  | p d =>
    cases d with
    | non => cases h; simp only [RelD, RelP] at r; subst r; exact .base .non
    | bl _ => cases h; simp only [RelD, RelP] at r; subst r; exact .base (.bl _)
    | int _ => cases h; simp only [RelD, RelP] at r; subst r; exact .base (.int _)
    | str _ => cases h; simp only [RelD, RelP] at r; subst r; exact .base (.str _)
    | tup ds =>
      cases h
      obtain ⟨a, vs, rfl, ta, la⟩ := relT r
      rcases ta.at' with ⟨q, _⟩ | ⟨o, its, n, h1, h2, _⟩
      · rcases q.rd with q | ⟨o, q⟩
        · exact .base (.tup q)
        · exact .fTuple q
      · exact .kTuple h1 h2
    | tpl ds =>
      cases h
      simp only [RelD, RelP] at r
      obtain ⟨a, vs, rfl, ta, la⟩ := r
      exact .base (.tup ta.at')
    | lst ds =>
      cases h
      obtain ⟨a, vs, rfl, ta, la⟩ := relL r
      exact .base (.lst ta.at')
    | scr ns =>
      cases h
      simp only [RelD, RelP] at r
      obtain ⟨a, rfl, ta⟩ := r
      rcases ta.at' with ⟨q, _⟩ | ⟨o, its, n, h1, h2, _⟩
      · rcases q with q | ⟨o, q⟩
        · exact .base (.lst q)
        · exact .base (.frz q)
      · exact .kList h1 h2
    | dct kvs =>
      cases h
      simp only [RelD, RelP] at r
      obtain ⟨a, ws, rfl, ta, la⟩ := r
      exact .base (.dK ta.at')
    | exc _ _ => cases h
  | v x => cases h
  | ref m =>
    simp only [tyName] at h
    split at h
    · rename_i ds hc
      cases h
      obtain ⟨a, o, rfl, _, ho, vs, rfl, hz, rd⟩ := ref_cell s r hc
      exact .base (.lst ho)
    · rename_i ds hc
      cases h
      obtain ⟨a, o, rfl, _, ho, vs, rfl, hz, rd⟩ := ref_cell s r hc
      exact .base (.dK ho)
    · cases h
theorem c_isi : CallR X (.builtin "isinstance") (rDC X.K oIsi) := by
  intro pins s σ H xs us Q I r ⟨ρ, S, ds, d, S', s0, rd, ho, k⟩
  unfold oIsi at ho
  split at ho
  · rename_i d0 T
    split at ho
    · rename_i n hn
      split at ho
      · rename_i b hb
        cases ho
        obtain ⟨v, w, rfl, rv, rw'⟩ := rel2 rd
        have ew : w = .ty T := rw'
        subst ew
        exact call_isi pins s σ H _ us Q I r ⟨v, .ty T, .type n, .type T, b, rfl, .ty T, tyName_rel s0 rv hn, kit_ty hb, k _ H ρ Ext.refl s0 mkB⟩
      · cases ho
    · cases ho
  · cases ho
/-! ### repr of lists and tuples, of ints -/
def oRepr : OC := fun ds S => match ds with
  | [.p (.int i)] => if i.natAbs.log2 < 1920 then some (.p (.str (toString i)), S) else none
  | [.p (.lst xs)] => if PyData.canLay0 (py (.lst xs)) && PyData.showable (py (.lst xs)) && decide ((py (.lst xs)).shown.length ≤ sizeLine) && decide ((py (.lst xs)).depth ≤ 60) then some (.p (.str (py (.lst xs)).shown), S) else none
  | [.p (.tup xs)] => if PyData.canLay0 (py (.tup xs)) && PyData.showable (py (.tup xs)) && decide ((py (.tup xs)).shown.length ≤ sizeLine) && decide ((py (.tup xs)).depth ≤ 60) then some (.p (.str (py (.tup xs)).shown), S) else none
  | _ => none
theorem repr_seq {pins : List (Addr × Obj)} {s : Shared} {σ : L2.St} {H : Hp} {a : Addr} {y : PyData} {Q : VK} (hr : RoomG true k X.A) (I : Inv X pins σ H s) (dp : Dp X.K H (.ref a) y) (c : y.canLay0 = true) (sh : y.showable = true) (hz : y.shown.length ≤ sizeLine) (hd : y.depth ≤ 60)
    (q : Q (.str y.shown) H) : wpAny (model X.prog X.w) X.A (call (.builtin "repr") [.ref a]) (EP X pins σ Q) X.xe s := by
  obtain ⟨as, rr⟩ := Dp.reads I y (.ref a) (.ref a) dp rfl
  have hu := hu64 hr
  refine repr_of_reads' rr sh (PyData.noDict_hsm (PyData.hasDict_of_canLay y c)) (hr.gd rfl) (by omega) (fun _ _ h => h) (fun h' u tk hk => ?_) hz
  exact ⟨.str y.shown, H, I.kept hk, ⟨u, rfl⟩, q⟩
theorem c_repr (hr : RoomG true k X.A) : CallR X (.builtin "repr") (rDC X.K oRepr) := by
  intro pins s σ H xs us Q I r ⟨ρ, S, ds, d, S', s0, rd, ho, kk⟩
  unfold oRepr at ho
  split at ho
  · split at ho
    · rename_i hi
      cases ho
      obtain ⟨v, rfl, rv⟩ := rel1 rd
      cases relI rv
      exact SkE.call_repr_int pins s σ H _ us Q I r ⟨_, rfl, hi, kk _ H ρ Ext.refl s0 mkZ⟩
    · cases ho
  · split at ho
    · rename_i hh
      cases ho
      simp only [Bool.and_eq_true, decide_eq_true_eq] at hh
      obtain ⟨v, rfl, rv⟩ := rel1 rd
      have dp := rel_dp hh.1.1.1 rv
      obtain ⟨a, vs, rfl, ta, la⟩ := relL rv
      obtain ⟨u, rfl, ru⟩ := vals1 r
      cases ru
      exact repr_seq hr I dp hh.1.1.1 hh.1.1.2 hh.1.2 hh.2 (kk _ H ρ Ext.refl s0 mkZ)
    · cases ho
  · split at ho
    · rename_i hh
      cases ho
      simp only [Bool.and_eq_true, decide_eq_true_eq] at hh
      obtain ⟨v, rfl, rv⟩ := rel1 rd
      have dp := rel_dp hh.1.1.1 rv
      obtain ⟨a, vs, rfl, ta, la⟩ := relT rv
      obtain ⟨u, rfl, ru⟩ := vals1 r
      cases ru
      exact repr_seq hr I dp hh.1.1.1 hh.1.1.2 hh.1.2 hh.2 (kk _ H ρ Ext.refl s0 mkZ)
    · cases ho
  · cases ho
/-! ### sorted of texts -/
def strsOf : List PD → Option (List Str)
  | [] => some []
  | .str x :: r => (strsOf r).map (x :: ·)
  | _ :: _ => none
theorem strsOf_rel {K : PySem.W.Frag} {H : Hp} {ρ : Wd} : ∀ {ds : List PD} {vs : List V} {xs : List Str}, RelPs K H ρ ds vs → strsOf ds = some xs → vs = xs.map V.str
  | [], _, _, r, h => by
    simp only [RelPs] at r
    cases h
    exact r
  | .str x :: ds, _, xs, r, h => by
    simp only [RelPs, RelP] at r
    obtain ⟨v, q, rfl, rfl, r2⟩ := r
    simp only [strsOf, Option.map_eq_some_iff] at h
    obtain ⟨ys, h1, rfl⟩ := h
    rw [strsOf_rel r2 h1]
    rfl
  | .non :: _, _, _, _, h => by simp [strsOf] at h
  | .bl _ :: _, _, _, _, h => by simp [strsOf] at h
  | .int _ :: _, _, _, _, h => by simp [strsOf] at h
  | .tup _ :: _, _, _, _, h => by simp [strsOf] at h
  | .lst _ :: _, _, _, _, h => by simp [strsOf] at h
  | .dct _ :: _, _, _, _, h => by simp [strsOf] at h
  | .scr _ :: _, _, _, _, h => by simp [strsOf] at h
  | .tpl _ :: _, _, _, _, h => by simp [strsOf] at h
  | .exc _ _ :: _, _, _, _, h => by simp [strsOf] at h
theorem relPs_strs {K : PySem.W.Frag} {H : Hp} {ρ : Wd} : ∀ xs : List Str, RelPs K H ρ (xs.map PD.str) (xs.map V.str)
  | [] => RelPs.nil
  | x :: xs => RelPs.cons (by simp only [RelP]) (relPs_strs xs)
end
end Pt
set_option maxRecDepth 100000
/-! Pt8: sorted, methods of lists, stores into dicts, displays and comprehensions of dicts. -/
namespace Pt
open PySem PySem.Spec PyProof.Rows L2
/-! ### sorted of texts -/
def leS (x y : Str) : Bool := !ltCps y.cps.toList x.cps.toList
def sortS (xs : List Str) : List Str := xs.mergeSort leS
theorem leS_iff {x y : Str} : leS x y = true ↔ x.cps.toList ≤ y.cps.toList := by
  unfold leS
  rw [ltCps_eq]
  simp
theorem leS_trans (x y z : Str) (h : leS x y = true) (g : leS y z = true) : leS x z = true := leS_iff.mpr (List.le_trans (leS_iff.mp h) (leS_iff.mp g))
theorem leS_total (x y : Str) : (leS x y || leS y x) = true := by
  rcases List.le_total x.cps.toList y.cps.toList with h | h
  · rw [leS_iff.mpr h]; rfl
  · rw [leS_iff.mpr h]; simp
theorem leS_anti (x y : Str) (h : leS x y = true) (g : leS y x = true) : x = y := by
  have e := List.le_antisymm (leS_iff.mp h) (leS_iff.mp g)
  obtain ⟨a⟩ := x
  obtain ⟨b⟩ := y
  simp at e
  rw [e]
theorem rising_pw : ∀ {xs : List Str} {p : Str}, risingS p xs = true → (∀ y ∈ xs, leS p y = true) ∧ xs.Pairwise (fun x y => leS x y = true)
  | [], _, _ => ⟨by simp, .nil⟩
  | x :: r, p, h => by
    simp only [risingS, Bool.and_eq_true] at h
    obtain ⟨h1, h2⟩ := rising_pw h.2
    have hp : leS p x = true := h.1
    refine ⟨fun y hy => ?_, .cons h1 h2⟩
    rcases List.mem_cons.mp hy with rfl | hy
    · exact hp
    · exact leS_trans _ _ _ hp (h1 y hy)
theorem sorted_is {xs ys : List Str} (hp : ys.Perm xs) (h : sortedS ys = true) : ys = sortS xs := by
  refine PySem.W.Srt.the_of_perm leS leS_trans leS_total leS_anti hp ?_
  cases ys with
  | nil => exact .nil
  | cons x r =>
    obtain ⟨h1, h2⟩ := rising_pw (show risingS x r = true from h)
    exact .cons h1 h2
section
variable {X : Cx} {a b c e o i v : Expr} {es : List Expr} {pos : Pos} {k : Nat} {x : Str} {p : Pos}
def strKeys : List (L2.Key × D) → Option (List Str)
  | [] => some []
  | (.inr x, _) :: r => (strKeys r).map (x :: ·)
  | _ :: _ => none
def oSorted : OC := fun ds S => match ds with
  | [d] => match view S d with
    | some (.lst xs) => match strsOf xs with
      | some ss => if ss.length < 64 then some (.p (.lst ((sortS ss).map PD.str)), S) else none
      | none => none
    | _ => match dictOf S d with
      | some kvs => match strKeys kvs with
        | some ss => if ss.length < 64 then some (.p (.lst ((sortS ss).map PD.str)), S) else none
        | none => none
      | none => none
  | _ => none
theorem strKeys_rel {K : PySem.W.Frag} {H : Hp} {ρ : Wd} : ∀ {kvs : List (L2.Key × D)} {ws : List (L2.Key × V)} {ss : List Str}, RelKD K H ρ kvs ws → strKeys kvs = some ss → ws.map (·.1) = ss.map Sum.inr
  | _, _, _, .nil, h => by cases h; rfl
  | _, _, _, .cons (a := p) (b := q) r t, h => by
    obtain ⟨kk, d⟩ := p
    obtain ⟨kk', w⟩ := q
    have e : kk = kk' := r.1
    subst e
    cases kk with
    | inl _ => simp [strKeys] at h
    | inr y =>
      simp only [strKeys, Option.map_eq_some_iff] at h
      obtain ⟨ys, h1, rfl⟩ := h
      simp only [List.map_cons, strKeys_rel t h1]
theorem c_sorted (hc : X.calm = true) : CallR X (.builtin "sorted") (rDC X.K oSorted) := by
  intro pins s σ H xs us Q I r ⟨ρ, S, ds, d, S', s0, rd, ho, k⟩
  have fin : ∀ {ss ys : List Str} {q : Addr}, ss.length < 64 → ys.Perm ss → sortedS ys = true → H q = none → (∀ v H' ρ', Ext ρ H ρ' H' → RelS X.K H' ρ' S → RelD X.K H' ρ' (.p (.lst ((sortS ss).map PD.str))) v → Q v H') → Q (.ref q) (upd H q (.lst (ys.map V.str))) := by
    intro ss ys q h1 h2 h3 hq k
    have e := sorted_is h2 h3
    subst e
    refine k _ _ ρ (Ex.new hq).ext (s0.ex (Ex.new hq)) (new_lst s0 hq (relPs_strs _) ?_)
    rw [List.length_map]
    have := h2.length_eq
    have := line_ge
    omega
  unfold oSorted at ho
  split at ho
  · obtain ⟨v, rfl, rv⟩ := rel1 rd
    split at ho
    · rename_i ys hv
      split at ho
      · rename_i ss hs
        split at ho
        · rename_i hl
          cases ho
          obtain ⟨a, vs, rfl, sq, rp⟩ := view_lst s0 rv hv
          have evs := strsOf_rel rp hs
          subst evs
          exact cr_sortedS pins s σ H _ us Q I r ⟨a, ss, rfl, sq, hl, fun ys q h1 h2 hq => fin hl h1 h2 hq k⟩
        · cases ho
      · cases ho
    · split at ho
      · rename_i kvs hd
        split at ho
        · rename_i ss hs
          split at ho
          · rename_i hl
            cases ho
            obtain ⟨a, ws, rfl, ha, hz, rk⟩ := dictOf_rel s0 rv hd
            exact call_sortedD hc pins s σ H _ us Q I r ⟨a, ws, ss, rfl, .inl ha, strKeys_rel rk hs, hl, fun ys q h1 h2 hq => fin hl h1 h2 hq k⟩
          · cases ho
        · cases ho
      · cases ho
  · cases ho

/-! ### methods of lists -/
theorem set_same {K : PySem.W.Frag} {H : Hp} {ρ : Wd} {S : List Cell} {n : Nat} {ds : List D} {a : Addr} {vs : List V} (s : RelS K H ρ S) (ha : ρ.c[n]? = some a) (hz : vs.length ≤ sizeLine) (r : RelDs K H ρ ds vs) :
    Ext ρ H ρ (upd H a (.lst vs)) ∧ RelS K (upd H a (.lst vs)) ρ (S.set n (.lst ds)) := set_cell (c := .lst ds) s ha ⟨vs, rfl, hz, r⟩
theorem relDs_app {K : PySem.W.Frag} {H : Hp} {ρ : Wd} : ∀ {ds es : List D} {vs ws : List V}, RelDs K H ρ ds vs → RelDs K H ρ es ws → RelDs K H ρ (ds ++ es) (vs ++ ws)
  | _, _, _, _, .nil, g => g
  | _, _, _, _, .cons r t, g => .cons r (relDs_app t g)
/-- a method's argument list ends, the receiver a list's cell -/
def mMeth (f : List D → List D → Option (D × List D)) (mo : ME) (ma : MA) : ME := fun E => bnd (mo E) fun x S => match x with
  | .ref n => match S[n]? with
    | some (.lst _) => bnd (ma E) (fun ds S2 => match S2[n]? with
      | some (.lst xs) => match f xs ds with
        | some (d, ys) => some (d, S2.set n (.lst ys))
        | none => none
      | _ => none) S
    | _ => none
  | _ => none
def fAppend (xs ds : List D) : Option (D × List D) := match ds with
  | [d] => if xs.length < 100000 then some (.p .non, xs ++ [d]) else none
  | _ => none
def fExtend (xs ds : List D) : Option (D × List D) := match ds with
  | [.p (.lst ys)] => if xs.length + ys.length ≤ 100000 then some (.p .non, xs ++ ys.map .p) else none
  | _ => none
def fPop (xs ds : List D) : Option (D × List D) := match ds with
  | [] => match xs.getLast? with
    | some d => some (d, xs.dropLast)
    | none => none
  | _ => none
theorem meth_t {r : V → List V → Hp → VK → Prop} {f : List D → List D → Option (D × List D)} {mo : ME} {ma : MA}
    (h : ∀ ρ H S n a xs ds vs us d ys Q, RelS X.K H ρ S → ρ.c[n]? = some a → S[n]? = some (.lst xs) → H a = some (.lst vs) → vs.length ≤ sizeLine → RelDs X.K H ρ xs vs → RelDs X.K H ρ ds us → f xs ds = some (d, ys) →
      (∀ v H' ρ', Ext ρ H ρ' H' → RelS X.K H' ρ' (S.set n (.lst ys)) → RelD X.K H' ρ' d v → Q v H') → r (.ref a) us H Q) :
    ∀ σ H Q, tE X.K (mMeth f mo ma) σ H Q → tBM X.K "list" r (tE X.K mo) (tA X.K ma) σ H Q := fun σ H Q q => by
  obtain ⟨ρ, S, E, d, S', rr, hm, k⟩ := q
  obtain ⟨x, S1, h1, hm⟩ := bnd_some hm
  cases x with
  | p _ => cases hm
  | v _ => cases hm
  | ref n =>
    simp only at hm
    split at hm
    · rename_i zs hc1
      obtain ⟨ds, S2, h2, hm⟩ := bnd_some hm
      split at hm
      · rename_i xs hc
        cases hf : f xs ds with
        | none => rw [hf] at hm; cases hm
        | some q =>
          obtain ⟨d', ys⟩ := q
          rw [hf] at hm
          cases hm
          refine ⟨ρ, S, E, .ref n, S1, rr, h1, fun v H1 ρ1 e1 s1 r1 => ?_⟩
          obtain ⟨a, ha, rfl⟩ := r1
          obtain ⟨o1, ho1, vs1, rfl, _, _⟩ := s1.here n _ a hc1 ha
          refine ⟨.inl ⟨rfl, vs1, .inl (.inl ho1)⟩, ρ1, S1, E, ds, S2, ⟨s1, rr.e.ext e1⟩, h2, fun us H2 ρ2 e2 s2 rd => ?_⟩
          obtain ⟨news, en, _⟩ := e2.pre
          have ha2 : ρ2.c[n]? = some a := by
            rw [en, List.getElem?_append_left (List.getElem?_eq_some_iff.mp ha).1]
            exact ha
          obtain ⟨o, ho, vs, rfl, hz, rx⟩ := s2.here n _ a hc ha2
          exact h ρ2 H2 S2 n a xs ds vs us _ ys Q s2 ha2 hc ho hz rx rd hf fun v H3 ρ3 e3 s3 r3 => k v H3 ρ3 ((e1.trans e2).trans e3) s3 r3
      · cases hm
    · cases hm
theorem meth_t0 {r : V → List V → Hp → VK → Prop} {f : List D → List D → Option (D × List D)} {mo : ME}
    (h : ∀ ρ H S n a xs vs d ys Q, RelS X.K H ρ S → ρ.c[n]? = some a → S[n]? = some (.lst xs) → H a = some (.lst vs) → vs.length ≤ sizeLine → RelDs X.K H ρ xs vs → f xs [] = some (d, ys) →
      (∀ v H' ρ', Ext ρ H ρ' H' → RelS X.K H' ρ' (S.set n (.lst ys)) → RelD X.K H' ρ' d v → Q v H') → r (.ref a) [] H Q) :
    ∀ σ H Q, tE X.K (mMeth f mo aNil) σ H Q → tBM0 X.K "list" r (tE X.K mo) σ H Q := fun σ H Q q => by
  obtain ⟨ρ, S, E, d, S', rr, hm, k⟩ := q
  obtain ⟨x, S1, h1, hm⟩ := bnd_some hm
  cases x with
  | p _ => cases hm
  | v _ => cases hm
  | ref n =>
    simp only at hm
    split at hm
    · rename_i zs hc1
      obtain ⟨ds, S2, h2, hm⟩ := bnd_some hm
      cases h2
      split at hm
      · rename_i xs hc
        cases hf : f xs [] with
        | none => rw [hf] at hm; cases hm
        | some q =>
          obtain ⟨d', ys⟩ := q
          rw [hf] at hm
          cases hm
          refine ⟨ρ, S, E, .ref n, _, rr, h1, fun v H1 ρ1 e1 s1 r1 => ?_⟩
          obtain ⟨a, ha, rfl⟩ := r1
          obtain ⟨o, ho, vs, rfl, hz, rx⟩ := s1.here n _ a hc ha
          refine ⟨.inl ⟨rfl, vs, .inl (.inl ho)⟩, ?_⟩
          exact h ρ1 H1 _ n a xs vs _ ys Q s1 ha hc ho hz rx hf fun v H3 ρ3 e3 s3 r3 => k v H3 ρ3 (e1.trans e3) s3 r3
      · cases hm
    · cases hm
theorem re_append {mo : ME} {ma : MA} {apos cpos : Pos} (ho : PE X o (tE X.K mo)) (ha : PA X (e :: es) (tA X.K ma)) (hbase : attributeBase o "append" X.env (eval o X.env) = eval o X.env := by rfl)
    (hfew : ((backTo cpos (starEach (e :: es) X.env)).all (fun x => !x.1) && (backToKw cpos (keywordEach [] X.env)).all (fun x => x.1.isSome) && decide ((e :: es).length + ([] : List Keyword).length + (if ([] : List Keyword).isEmpty then 0 else 1) < 30)) = true := by rfl)
    (hline : (apos.endLine == cpos.line) = true := by rfl) (hs : starEach (e :: es) X.env = (false, eval e X.env) :: starEach es X.env := by rfl) (hplain : (backTo cpos (starEach es X.env)).any (·.1) = false := by rfl) :
    PE X (.Call (.Attribute o "append" apos) (e :: es) [] cpos) (tE X.K (mMeth fAppend mo ma)) := by
  refine pe_wk (pe_bm PySem.F.plainAttrs_list PySem.F.slot_list_append PySem.F.type_list_append mt_append ho ha hbase hfew hline hs hplain) (meth_t fun ρ H S n a xs ds vs us d ys Q s hna hc hH hz rx rd hf k => ?_)
  unfold fAppend at hf
  split at hf
  · split at hf
    · rename_i hl
      cases hf
      obtain ⟨u, rfl, ru⟩ := rel1 rd
      have hlen := relDs_len rx
      have hz2 : vs.length < sizeLine := by have := line_ge; omega
      obtain ⟨e1, s1⟩ := set_same s hna (vs := vs ++ [u]) (by rw [List.length_append]; simp only [List.length_singleton]; omega) (relDs_app rx (.cons ru .nil))
      exact ⟨a, vs, u, rfl, rfl, hH, hz2, k _ _ ρ e1 s1 (by simp only [RelD, RelP])⟩
    · cases hf
  · cases hf
theorem re_extend {mo : ME} {ma : MA} {apos cpos : Pos} (ho : PE X o (tE X.K mo)) (ha : PA X (e :: es) (tA X.K ma)) (hbase : attributeBase o "extend" X.env (eval o X.env) = eval o X.env := by rfl)
    (hfew : ((backTo cpos (starEach (e :: es) X.env)).all (fun x => !x.1) && (backToKw cpos (keywordEach [] X.env)).all (fun x => x.1.isSome) && decide ((e :: es).length + ([] : List Keyword).length + (if ([] : List Keyword).isEmpty then 0 else 1) < 30)) = true := by rfl)
    (hline : (apos.endLine == cpos.line) = true := by rfl) (hs : starEach (e :: es) X.env = (false, eval e X.env) :: starEach es X.env := by rfl) (hplain : (backTo cpos (starEach es X.env)).any (·.1) = false := by rfl) :
    PE X (.Call (.Attribute o "extend" apos) (e :: es) [] cpos) (tE X.K (mMeth fExtend mo ma)) := by
  refine pe_wk (pe_bm PySem.F.plainAttrs_list PySem.F.slot_list_extend PySem.F.type_list_extend mt_extend ho ha hbase hfew hline hs hplain) (meth_t fun ρ H S n a xs ds vs us d ys Q s hna hc hH hz rx rd hf k => ?_)
  unfold fExtend at hf
  split at hf
  · rename_i zs
    split at hf
    · rename_i hl
      cases hf
      obtain ⟨u, rfl, ru⟩ := rel1 rd
      obtain ⟨b, ws, rfl, tb, lb⟩ := relL ru
      have hlen := relDs_len rx
      have hlb := lb.length
      have hz2 : vs.length + ws.length ≤ sizeLine := by have := line_ge; omega
      obtain ⟨e1, s1⟩ := set_same s hna (vs := vs ++ ws) (by rw [List.length_append]; exact hz2) (relDs_app rx (relDs_ps lb))
      exact ⟨a, b, vs, ws, rfl, rfl, hH, tb.at', hz2, k _ _ ρ e1 s1 (by simp only [RelD, RelP])⟩
    · cases hf
  · cases hf
theorem relDs_get {K : PySem.W.Frag} {H : Hp} {ρ : Wd} : ∀ {ds : List D} {vs : List V} {i : Nat} {d : D}, RelDs K H ρ ds vs → ds[i]? = some d → ∃ v, vs[i]? = some v ∧ RelD K H ρ d v
  | _, _, _, _, .nil, h => by simp at h
  | _, _, 0, _, .cons r _, h => by simp at h; subst h; exact ⟨_, rfl, r⟩
  | _, _, i + 1, _, .cons _ t, h => by
    obtain ⟨v, e1, e2⟩ := relDs_get t (by simpa using h)
    exact ⟨v, by simpa using e1, e2⟩
theorem relDs_drop {K : PySem.W.Frag} {H : Hp} {ρ : Wd} : ∀ {ds : List D} {vs : List V}, RelDs K H ρ ds vs → RelDs K H ρ ds.dropLast vs.dropLast
  | _, _, .nil => .nil
  | _, _, .cons _ .nil => .nil
  | _, _, .cons r (.cons r2 t) => by
    simp only [List.dropLast_cons₂]
    exact .cons r (relDs_drop (.cons r2 t))
theorem re_pop {mo : ME} {apos cpos : Pos} (ho : PE X o (tE X.K mo)) (hbase : attributeBase o "pop" X.env (eval o X.env) = eval o X.env := by rfl) (hline : (apos.endLine == cpos.line) = true := by rfl) :
    PE X (.Call (.Attribute o "pop" apos) [] [] cpos) (tE X.K (mMeth fPop mo aNil)) := by
  refine pe_wk (pe_bm0 PySem.F.plainAttrs_list PySem.F.slot_list_pop PySem.F.type_list_pop mt_pop ho hbase hline) (meth_t0 fun ρ H S n a xs vs d ys Q s hna hc hH hz rx hf k => ?_)
  unfold fPop at hf
  simp only at hf
  split at hf
  · rename_i d0 hl
    cases hf
    have hlen := relDs_len rx
    rw [List.getLast?_eq_getElem?] at hl
    obtain ⟨w, hw, rw'⟩ := relDs_get rx hl
    rw [hlen] at hw
    have hz2 : vs.dropLast.length ≤ sizeLine := by rw [List.length_dropLast]; omega
    obtain ⟨e1, s1⟩ := set_same s hna (vs := vs.dropLast) hz2 (relDs_drop rx)
    exact ⟨a, vs, w, rfl, rfl, hH, hw, k _ _ ρ e1 s1 (rw'.ext e1)⟩
  · cases hf
/-! ### stores into dicts -/
def sDPutM (mo mi mv : ME) : MS := fun E => bnd (mv E) fun d => bnd (mo E) fun x => bnd (mi E) fun y S => match x, keyOf y with
  | .ref n, some key => match S[n]? with
    | some (.dK kvs) => if kvs.length < 100000 then some (.nx E, S.set n (.dK (putD kvs key d))) else none
    | _ => none
  | _, _ => none
theorem rs_dput {gg : Bool} {mo mi mv : ME} {pos' : Pos} (hr : RoomG gg k X.A) (ho : PE X o (tE X.K mo)) (hi : PE X i (tE X.K mi)) (hv : PE X v (tE X.K mv)) (hs : swapsWith v (some (.Subscript o i pos')) pos.line X.env = pure false := by rfl) :
    PS X (.Assign [.Subscript o i pos'] v pos) (tS X.K (sDPutM mo mi mv)) := by
  refine ps_wk (ps_dput (hu1 hr) ho hi hv hs) fun D σ H q => ?_
  obtain ⟨ρ, S, E, f, S', r, hm, kk⟩ := q
  obtain ⟨d, S1, h1, hm⟩ := bnd_some hm
  obtain ⟨x, S2, h2, hm⟩ := bnd_some hm
  obtain ⟨y, S3, h3, hm⟩ := bnd_some hm
  refine ⟨ρ, S, E, d, S1, r, h1, fun dv H1 ρ1 e1 s1 r1 => ⟨ρ1, S1, E, x, S2, ⟨s1, r.e.ext e1⟩, h2, fun xv H2 ρ2 e2 s2 r2 => ⟨ρ2, S2, E, y, S3, ⟨s2, (r.e.ext e1).ext e2⟩, h3, fun yv H3 ρ3 e3 s3 r3 => ?_⟩⟩⟩
  cases x with
  | p _ => simp at hm
  | v _ => simp at hm
  | ref n =>
    cases hk : keyOf y with
    | none => rw [hk] at hm; simp at hm
    | some key =>
      rw [hk] at hm
      simp only at hm
      split at hm
      · rename_i kvs hc
        split at hm
        · rename_i hl
          cases hm
          obtain ⟨a, oo, rfl, hna, hoo, ws, rfl, hz, rk⟩ := ref_cell s3 (r2.ext e3) hc
          have ek := keyOf_rel r3 hk
          subst ek
          have hlen : kvs.length = ws.length := Paired.length rk
          have hz2 : ws.length < sizeLine := by have := line_ge; omega
          have rn := putD_rel (k := key) ((r1.ext e2).ext e3) rk
          obtain ⟨e4, s4⟩ := set_cell (o' := .dK (putK ws key dv)) (c := .dK (putD kvs key d)) s3 hna ⟨_, rfl, Nat.le_trans (putK_len ws) hz2, rn⟩
          refine ⟨a, _, rfl, DPut.k hoo hz2, ?_⟩
          have e5 := ((e1.trans e2).trans e3).trans e4
          exact kk _ ρ3 e5 s4 σ (r.e.ext e5)
        · cases hm
      · cases hm
/-- {}: a dict that will change -/
def mDNew : ME := fun _ S => some (.ref S.length, S ++ [.dK []])
theorem re_dnew : PE X (.Dict [] [] pos) (tE X.K mDNew) := by
  refine pe_wk pe_dnewK fun σ H Q q => ?_
  obtain ⟨ρ, S, E, d, S', r, hm, k⟩ := q
  cases hm
  intro p hp
  obtain ⟨n1, n2, n3⟩ := new_cell (c := .dK []) (o := .dK []) r.s hp ⟨[], rfl, Nat.zero_le _, .nil⟩
  exact k _ _ _ n1 n2 n3
/-- {}: only read -/
theorem re_dnewP : PE X (.Dict [] [] pos) (tE X.K (mC (.p (.dct [])))) := by
  refine pe_wk pe_dnewK fun σ H Q q => ?_
  obtain ⟨ρ, S, E, d, S', r, hm, k⟩ := q
  cases hm
  intro p hp
  exact k _ _ ρ (Ex.new hp).ext (r.s.ex (Ex.new hp)) (new_dct r.s hp (by simp only [RelKs]) (Nat.zero_le _))
end
end Pt
set_option maxRecDepth 100000
/-! Pt9: zip of lists and tuples in any mix. -/
namespace Pt
open PySem PySem.Spec PyProof.Rows L2
def SqB (K : PySem.W.Frag) (H : Hp) (k : Bool) (a : Addr) (xs : List V) : Prop := match k with
  | true => SqT K H a xs
  | false => SqL K H a xs
def IterB (h : Heap) (k : Bool) (it l : Addr) (i : Nat) : Prop := match k with
  | true => h.IsTupleIter it l i
  | false => h.IsListIter it l i
def SeqB (h : Heap) (k : Bool) (l : Addr) (items : Array Value) : Prop := match k with
  | true => h.IsTuple l items
  | false => h.IsList l items
def iterO (k : Bool) (l : Addr) : Obj := match k with
  | true => { cls := .type "tuple_iterator", data := .fields #[.ref l, .int 0 0] }
  | false => { cls := .type "list_iterator", data := .fields #[.ref l, .int 0 0] }
theorem drawsB {prog : Program} {w : World} {A : Around} (hh : A.handled = none) (k : Bool) (it l : Addr) (hne : l ≠ it) (items : Array Value) :
    Draws prog w A it [it, l] items.size (fun i v => items[i]? = some v) (fun i h => IterB h k it l i ∧ SeqB h k l items) := by
  cases k with
  | true => exact Draws.tuple hh it l hne items
  | false => exact Draws.list hh it l hne items
theorem beginsB (k : Bool) (l : Addr) (items : Array Value) : Begins (.ref l) (iterO k l) fun h => SeqB h k l items := by
  cases k with
  | true => exact begins_tuple l items
  | false => exact begins_list l items
theorem iterB_obj {h : Heap} {k : Bool} {it l : Addr} {i : Nat} (x : IterB h k it l i) : ∃ o, h.get? it = some o ∧ ∀ v, o.data ≠ .cell v := by
  cases k with
  | true =>
    obtain ⟨o, e, _, d⟩ := x
    exact ⟨o, e, fun v q => by rw [d] at q; cases q⟩
  | false =>
    obtain ⟨o, e, _, d⟩ := x
    exact ⟨o, e, fun v q => by rw [d] at q; cases q⟩
theorem iterB_at {h h' : Heap} {k : Bool} {it l : Addr} {i : Nat} (x : IterB h k it l i) (e : ∀ o, h.get? it = some o → h'.get? it = some o) : IterB h' k it l i := by
  cases k with
  | true => exact Heap.IsTupleIter.at x e
  | false => exact Heap.IsListIter.at x e
theorem iterB_new {h : Heap} {k : Bool} {it l : Addr} (x : h.get? it = some (iterO k l)) : IterB h k it l 0 := by
  cases k with
  | true => exact ⟨_, x, rfl, rfl⟩
  | false => exact ⟨_, x, rfl, rfl⟩
theorem seqB_lt {h : Heap} {k : Bool} {l : Addr} {items : Array Value} (x : SeqB h k l items) : l < h.objs.size := by
  cases k with
  | true => obtain ⟨o, ho, _⟩ := x; exact Heap.lt_size ho
  | false => obtain ⟨o, ho, _⟩ := x; exact Heap.lt_size ho
section
variable {X : Cx} {pins : List (Addr × Obj)} {σ : L2.St} {H : Hp} {s : Shared}
theorem inv_seqB {k : Bool} {a : Addr} {xs : List V} (I : Inv X pins σ H s) (h : SqB X.K H k a xs) : ∃ its : List Value, Vals xs its ∧ SeqB s.heap k a its.toArray := by
  cases k with
  | true =>
    obtain ⟨its, rv, p, _⟩ := I.tuple h
    exact ⟨its, rv, p⟩
  | false =>
    obtain ⟨its, rv, p, _⟩ := I.list h
    exact ⟨its, rv, p.isList⟩
theorem inv_injB {k : Bool} {a : Addr} {xs ys : List V} (I : Inv X pins σ H s) (h : SqB X.K H k a xs) (g : SqB X.K H k a ys) : xs = ys := by
  cases k with
  | true => exact I.tuple_inj h g
  | false => exact I.list_inj h g
end
def ItzB (K : PySem.W.Frag) (k1 k2 : Bool) (a b : Addr) : It :=
  ⟨fun i H => ∃ (xs ys : List V) (x y : V), SqB K H k1 a xs ∧ SqB K H k2 b ys ∧ xs[i]? = some x ∧ ys[i]? = some y,
    fun i H v H' => ∃ T x y, v = .ref T ∧ H T = none ∧ H' = upd H T (.tup [x, y]) ∧ (∀ xs, SqB K H k1 a xs → xs[i]? = some x) ∧ ∀ ys, SqB K H k2 b ys → ys[i]? = some y,
    fun i H => ∃ xs ys : List V, SqB K H k1 a xs ∧ SqB K H k2 b ys ∧ i ≤ xs.length ∧ i ≤ ys.length ∧ (i = xs.length ∨ i = ys.length)⟩
theorem sepB {n a b : Nat} (ha : a < n) (hb : b < n) : ZipSep2 (n + 4) (n + 2) (n + 3) n (n + 1) [n, a] [n + 1, b] := by
  have q1 : n + 4 ≠ a := by omega
  have q2 : n + 3 ≠ a := by omega
  have q3 : n + 4 ≠ b := by omega
  have q4 : n + 3 ≠ b := by omega
  have q5 : n ≠ b := by omega
  have q6 : n + 1 ≠ a := by omega
  constructor <;> simp <;> assumption
theorem turn_zipB {P : Program} {w : World} {K : PySem.W.Frag} {elts : List Expr} {kk : Nat} {tpos : Pos} {a b : Addr} {k1 k2 : Bool} {z TI TO i1 i2 : Addr} (D : ZipSep2 z TI TO i1 i2 [i1, a] [i2, b]) (na : a ≠ i1) (nb : b ≠ i2) :
    Turn P w K (.Tuple elts kk tpos) (ItzB K k1 k2 a b) [z, TI, TO, i1, i2] z (fun i h => IsZip h z TI TO .none ∧ IsTupOf2 h TI (.ref i1) (.ref i2) ∧ (∃ x y, IsTupOf2 h TO x y) ∧ IterB h k1 i1 a i ∧ IterB h k2 i2 b i) where
  mem := by simp
  obj := fun i h st c hc => by
    obtain ⟨hz, hTI, ⟨x, y, hTO⟩, h1, h2⟩ := st
    have e' : c = z ∨ c = TI ∨ c = TO ∨ c = i1 ∨ c = i2 := by simpa using hc
    rcases e' with q | q | q | q | q
    · rw [q]; exact ⟨_, hz, fun v q => nomatch q⟩
    · rw [q]; exact ⟨_, hTI, fun v q => nomatch q⟩
    · rw [q]; exact ⟨_, hTO, fun v q => nomatch q⟩
    · rw [q]; exact iterB_obj h1
    · rw [q]; exact iterB_obj h2
  keep := fun i h h' st k => by
    obtain ⟨hz, hTI, ⟨x, y, hTO⟩, h1, h2⟩ := st
    exact ⟨k z (by simp) _ hz, k TI (by simp) _ hTI, ⟨x, y, k TO (by simp) _ hTO⟩, iterB_at h1 fun o q => k i1 (by simp) o q, iterB_at h2 fun o q => k i2 (by simp) o q⟩
  item := by
    intro X hP hw hK hc i pins s σ H E I hf st hg
    subst hP hw hK
    obtain ⟨hz, hTI, ⟨x0, y0, hTO⟩, h1, h2⟩ := st
    obtain ⟨xs, ys, x, y, hqx, hqy, hx, hy⟩ := hg
    obtain ⟨its, rv, p⟩ := inv_seqB I hqx
    obtain ⟨its2, rv2, p2⟩ := inv_seqB I hqy
    obtain ⟨u, hu, ru⟩ := rv.get hx
    obtain ⟨u2, hu2, ru2⟩ := rv2.get hy
    have hzl : z < s.heap.objs.size := Heap.lt_size hz
    have hh : X.A.in1.handled = none := I.ok.hd hc
    have l1 : i < its.toArray.size := by
      rw [List.size_toArray]
      exact (List.getElem?_eq_some_iff.mp hu).1
    have l2 : i < its2.toArray.size := by
      rw [List.size_toArray]
      exact (List.getElem?_eq_some_iff.mp hu2).1
    refine wpAny_pyNext_zipD2_item D (drawsB hh k1 i1 a na its.toArray) (drawsB hh k2 i2 b nb its2.toArray) hz hTI hTO ⟨h1, p⟩ ⟨h2, p2⟩ l1 l2 fun x1 x2 h' tk e1 e2 z' TO' st1 st2 hT hsz hk => ?_
    have ex1 : x1 = u := by
      have q : its.toArray[i]? = some u := by simpa using hu
      rw [q] at e1
      exact (Option.some.inj e1).symm
    have ex2 : x2 = u2 := by
      have q : its2.toArray[i]? = some u2 := by simpa using hu2
      rw [q] at e2
      exact (Option.some.inj e2).symm
    subst ex1; subst ex2
    refine ⟨_, rfl, wpAny_letOwnedTupleGo_zip (s := { s with heap := h', toks := tk }) z' fun h'' z'' sb => ?_⟩
    have hT2 : h''.get? s.heap.objs.size = some { cls := .type "tuple", data := .seq #[x1, x2] } := (sb.2 _ (Nat.ne_of_gt hzl)).trans hT
    have new : ObjOk X.prog X.w (upd H s.heap.objs.size (.tup [x, y])) h'' s.heap.objs.size (.tup [x, y]) :=
      ⟨by show 2 ≤ sizeLine; decide, [x1, x2], .cons ru (.cons ru2 .nil), ⟨_, hT2, rfl, _, rfl⟩⟩
    have I1 : Inv X pins σ (upd H s.heap.objs.size (.tup [x, y])) { s with heap := h'', toks := tk } :=
      I.turnedNew (t' := tk) (ch := [z, TI, TO, i1, i2]) (fun c o hb q => (sb.2 c (fun q' => hb (by simp [q']))).trans (hk c o (fun q' => hb (by simp [q'])) (fun q' => hb (by simp [q'])) (fun q' => hb (by simp [q'])) (fun q' => hb (by simp [q'])) q)) hf (Nat.le_refl _) new
    refine ⟨.ref s.heap.objs.size, _, I1, rfl, ⟨_, x, y, rfl, I.hok.fresh (Nat.le_refl _), rfl, fun l hl => by rw [inv_injB I hl hqx]; exact hx, fun l hl => by rw [inv_injB I hl hqy]; exact hy⟩, ⟨z'', ?_, ⟨x1, x2, ?_⟩, ?_, ?_⟩, fun c hcm => ?_⟩
    · exact (sb.2 _ D.TIz).trans (hk _ _ D.TIz D.TITO D.TIi1 D.TIi2 hTI)
    · exact (sb.2 _ D.TOz).trans TO'
    · exact iterB_at st1.1 fun o q => (sb.2 _ (Ne.symm D.zi1)).trans q
    · exact iterB_at st2.1 fun o q => (sb.2 _ (Ne.symm D.zi2)).trans q
    · have hlt : c < s.heap.objs.size := by
        have e' : c = z ∨ c = TI ∨ c = TO ∨ c = i1 ∨ c = i2 := by simpa using hcm
        rcases e' with q | q | q | q | q
        · rw [q]; exact hzl
        · rw [q]; exact Heap.lt_size hTI
        · rw [q]; exact Heap.lt_size hTO
        · rw [q]; obtain ⟨_, e1, _⟩ := iterB_obj h1; exact Heap.lt_size e1
        · rw [q]; obtain ⟨_, e1, _⟩ := iterB_obj h2; exact Heap.lt_size e1
      rw [upd_ne (Nat.ne_of_lt hlt)]
      exact (hf c hcm).1
  done := by
    intro X hP hw hK hc i pins s σ H E I hf st hg
    subst hP hw hK
    obtain ⟨hz, hTI, ⟨x0, y0, hTO⟩, h1, h2⟩ := st
    obtain ⟨xs, ys, hqx, hqy, g1, g2, hend⟩ := hg
    obtain ⟨its, rv, p⟩ := inv_seqB I hqx
    obtain ⟨its2, rv2, p2⟩ := inv_seqB I hqy
    have l1 := rv.length
    have l2 := rv2.length
    have hh : X.A.in1.handled = none := I.ok.hd hc
    refine wpAny_pyNext_zipD2_end D (drawsB hh k1 i1 a na its.toArray) (drawsB hh k2 i2 b nb its2.toArray) hz hTI hTO ⟨h1, p⟩ ⟨h2, p2⟩ (by rw [List.size_toArray]; omega) (by rw [List.size_toArray]; omega) (by rw [List.size_toArray, List.size_toArray]; omega) fun h' tk hk => ⟨rfl, I.turnedL (t' := tk) (ch := [z, TI, TO, i1, i2]) (fun c o hb q =>
      hk c o (fun q' => hb (by simp [q'])) (fun q' => hb (by simp [q'])) (fun q' => hb (by simp [q'])) (fun q' => hb (by simp [q'])) q) hf⟩
  self := fun A i s Q E st h => wpAny_pyIter_zip st.1 h

def iZipB (K : PySem.W.Frag) (ta : TA) : TI := fun σ H R => ta σ H fun vs H1 => ∃ a b xs ys k1 k2, vs = [.ref a, .ref b] ∧ SqB K H1 k1 a xs ∧ SqB K H1 k2 b ys ∧ R (ItzB K k1 k2 a b) H1
theorem pi_zipB {X : Cx} {e e2 : Expr} {ta : TA} {p pos tpos : Pos} {elts : List Expr} {kk : Nat} (hg : Gl X "zip") (hm : X.mg "zip" = none) (ha : PA X [e, e2] ta)
    (hs : starEach [e, e2] X.env = (false, eval e X.env) :: starEach [e2] X.env := by rfl) (hpl : (backTo pos (starEach [e2] X.env)).any (·.1) = false := by rfl) :
    PI X (.Tuple elts kk tpos) (.Call (.Name "zip" p) [e, e2] [] pos) (iZipB X.K ta) := by
  refine ⟨fun pins s σ H R I h => ?_⟩
  refine Call_ (ld_blt I hg hm PyProof.Rows.boot_zip (PyProof.Rows.callWith_type1 (thn (ha.run pos pins s σ H _ I h) fun us s1 ⟨vs, H1, I1, r1, q1⟩ => ?_) hs hpl))
  obtain ⟨a, b, xs, ys, k1, k2, ex, hqx, hqy, q⟩ := q1
  subst ex
  cases r1 with
  | cons r rr =>
    cases rr with
    | cons r' rr =>
      cases rr
      cases r
      cases r'
      have fresh5 : ∀ c, c ∈ [s1.heap.objs.size + 4, s1.heap.objs.size + 2, s1.heap.objs.size + 3, s1.heap.objs.size, s1.heap.objs.size + 1] → FpOk X pins H1 c := fun c hcm => by
        have e' : c = s1.heap.objs.size + 4 ∨ c = s1.heap.objs.size + 2 ∨ c = s1.heap.objs.size + 3 ∨ c = s1.heap.objs.size ∨ c = s1.heap.objs.size + 1 := by simpa using hcm
        have hle : s1.heap.objs.size ≤ c := by
          rcases e' with z | z | z | z | z
          · rw [z]; exact Nat.le_add_right _ _
          · rw [z]; exact Nat.le_add_right _ _
          · rw [z]; exact Nat.le_add_right _ _
          · rw [z]; exact Nat.le_refl _
          · rw [z]; exact Nat.le_add_right _ _
        exact I1.fpOk hle (I1.hok.fresh hle)
      obtain ⟨its, rv, p1⟩ := inv_seqB I1 hqx
      obtain ⟨its2, rv2, p2⟩ := inv_seqB I1 hqy
      have la := seqB_lt p1
      have lb := seqB_lt p2
      refine zip_begins2 (beginsB k1 a its.toArray) (beginsB k2 b its2.toArray) p1 p2 fun h' hz hTI hTO h1 h2 hsz hk => wpAny_pyIter_zip hz ?_
      have I2 : Inv X pins σ H1 { s1 with heap := h' } := I1.kept (t' := s1.toks) hk
      exact ⟨s1.heap.objs.size + 4, [s1.heap.objs.size + 4, s1.heap.objs.size + 2, s1.heap.objs.size + 3, s1.heap.objs.size, s1.heap.objs.size + 1], _, _, H1, rfl, I2, turn_zipB (sepB la lb) (Nat.ne_of_lt la) (Nat.ne_of_lt (Nat.lt_succ_of_lt lb)), ⟨hz, hTI, ⟨_, _, hTO⟩, iterB_new h1, iterB_new h2⟩, fresh5, q⟩
/-! ### .. as a source -/
def seqP : D → Option (Bool × List PD)
  | .p (.lst ds) => some (false, ds)
  | .p (.tup ds) => some (true, ds)
  | .p (.tpl ds) => some (true, ds)
  | _ => none
theorem seqP_rel {K : PySem.W.Frag} {H : Hp} {ρ : Wd} {d : D} {v : V} {k : Bool} {ds : List PD} (r : RelD K H ρ d v) (h : seqP d = some (k, ds)) : ∃ a vs, v = .ref a ∧ vs.length ≤ sizeLine ∧ RelPs K H ρ ds vs ∧ ∀ ρ' H', Pers ρ H ρ' H' → SqB K H' k a vs := by
  unfold seqP at h
  split at h
  · cases h
    obtain ⟨a, vs, rfl, ta, la⟩ := relL r
    exact ⟨a, vs, rfl, ta.fit, la, fun ρ' H' p => (ta.ext p).sq⟩
  · cases h
    obtain ⟨a, vs, rfl, ta, la⟩ := relT r
    exact ⟨a, vs, rfl, ta.fit, la, fun ρ' H' p => (ta.ext p).sq⟩
  · cases h
    simp only [RelD, RelP] at r
    obtain ⟨a, vs, rfl, ta, la⟩ := r
    exact ⟨a, vs, rfl, ta.fit, la, fun ρ' H' p => (ta.ext p).sq⟩
  · cases h
def zipP (xs ys : List PD) : List PD := List.zipWith (fun a b => PD.tpl [a, b]) xs ys
def iZip (m : MA) : MI := fun E => bnd (m E) fun ds S => match ds with
  | [x, y] => match seqP x, seqP y with
    | some (_, xs), some (_, ys) => some (zipP xs ys, S)
    | _, _ => none
  | _ => none
theorem ri_zip {X : Cx} {e e2 : Expr} {m : MA} {p pos tpos : Pos} {elts : List Expr} {kk : Nat} (hg : Gl X "zip") (hm : X.mg "zip" = none) (ha : PA X [e, e2] (tA X.K m))
    (hs : starEach [e, e2] X.env = (false, eval e X.env) :: starEach [e2] X.env := by rfl) (hpl : (backTo pos (starEach [e2] X.env)).any (·.1) = false := by rfl) :
    PI X (.Tuple elts kk tpos) (.Call (.Name "zip" p) [e, e2] [] pos) (tI X.K (iZip m)) := by
  refine pi_wk (pi_zipB hg hm ha hs hpl) fun σ H R q => ?_
  obtain ⟨ρ, S, E, xs, S', r, hm, k⟩ := q
  obtain ⟨ds, S1, h1, hm⟩ := bnd_some hm
  refine ⟨ρ, S, E, ds, S1, r, h1, fun vs H1 ρ1 e1 s1 r1 => ?_⟩
  split at hm
  · rename_i x y
    split at hm
    · rename_i k1 as k2 bs hx hy
      cases hm
      obtain ⟨v, w, rfl, rv, rw'⟩ := rel2 r1
      obtain ⟨a, va, rfl, za, la, pa⟩ := seqP_rel rv hx
      obtain ⟨b, vb, rfl, zb, lb, pb⟩ := seqP_rel rw' hy
      have p0 : Pers ρ1 H1 ρ1 H1 := ⟨rfl, fun _ _ h n _ => ⟨h, n⟩⟩
      have l1 := la.length
      have l2 := lb.length
      refine ⟨a, b, va, vb, k1, k2, rfl, pa _ _ p0, pb _ _ p0, k _ H1 ρ1 e1 s1 ⟨fun ρ' H' S p s i d hd => ?_, fun ρ' H' S p s => ⟨va, vb, pa _ _ p, pb _ _ p, ?_, ?_, ?_⟩, ?_⟩⟩
      · unfold zipP at hd
        rw [List.getElem?_zipWith] at hd
        split at hd
        · rename_i da db ea eb
          cases hd
          obtain ⟨x, hx, rx⟩ := la.get ea
          obtain ⟨y, hy, ry⟩ := lb.get eb
          refine ⟨⟨va, vb, x, y, pa _ _ p, pb _ _ p, hx, hy⟩, fun v' H'' hyl => ?_⟩
          obtain ⟨T, x', y', rfl, hT, rfl, f1, f2⟩ := hyl
          have ex := f1 va (pa _ _ p)
          have ey := f2 vb (pb _ _ p)
          rw [hx] at ex
          rw [hy] at ey
          cases ex; cases ey
          exact ⟨Ex.new hT, new_tpl s hT (RelPs.cons (RelP.pers p rx) (RelPs.one (RelP.pers p ry))) (by show 2 ≤ sizeLine; decide)⟩
        · cases hd
      · rw [l1]; simp [zipP]; omega
      · rw [l2]; simp [zipP]; omega
      · rw [l1, l2]; simp [zipP]; omega
      · simp [zipP]; omega
    · cases hm
  · cases hm
end Pt
set_option maxRecDepth 100000
set_option maxHeartbeats 1000000
/-! Pt10: tuple * int. -/
namespace Pt
open PySem PySem.Spec PyProof.Rows L2
theorem tuple_mul1 (l : Addr) (items : Array Value) (n : Nat) (dd : Option Addr) (sl : Array (Option Value)) (u : Tok) :
    Meets (Builtin.«tuple.__mul__» ⟨[.ref l, .int 1 u], []⟩) (fun _ R s => s.heap.get? l = some { cls := .type "tuple", dict := dd, data := .seq items n, slots := sl } ∧ R (.ok (.ret (Value.ref l))) s) :=
  .of_wp fun prog w A R s h => by
    obtain ⟨hp, g, d, tk, os⟩ := s
    obtain ⟨hl, h⟩ := h
    have f1 := AutoSeq1.idx_int
    wp_walk using wpAny_loadPart' hl
    repeat (first
      | (refine wpAny_ite_false (by decide) ?_; wp_walk using wpAny_loadPart' hl)
      | (refine wpAny_ite_true (by simp) ?_; wp_walk using wpAny_loadPart' hl))
    exact ⟨_, rfl, h⟩
theorem tuple_mul0 (l : Addr) (items : Array Value) (n : Nat) (dd : Option Addr) (sl : Array (Option Value)) (u : Tok) (hi : items.isEmpty = false) :
    Meets (Builtin.«tuple.__mul__» ⟨[.ref l, .int 0 u], []⟩) (fun _ R s => s.heap.get? l = some { cls := .type "tuple", dict := dd, data := .seq items n, slots := sl } ∧
      R (.ok (.ret (Value.ref s.heap.objs.size))) { s with heap := s.heap.push { cls := Value.type "tuple", data := Data.seq #[] }, toks := s.toks }) :=
  .of_wp fun prog w A R s h => by
    obtain ⟨hp, g, d, tk, os⟩ := s
    obtain ⟨hl, h⟩ := h
    have f1 := AutoSeq1.idx_int
    wp_walk using wpAny_loadPart' hl
    repeat (first
      | (refine wpAny_ite_false (by decide) ?_; wp_walk using wpAny_loadPart' hl)
      | (refine wpAny_ite_false (by simp [hi]) ?_; wp_walk using wpAny_loadPart' hl)
      | (refine wpAny_ite_true (by simp) ?_; wp_walk using wpAny_loadPart' hl))
    exact ⟨_, rfl, h⟩
def rRepF (K : PySem.W.Frag) (f : Tb) : R2 := fun x y H Q => ∃ l k xs, x = .ref l ∧ y = .int k ∧ SqT K H l xs ∧ xs ≠ [] ∧ 0 ≤ k ∧ k ≤ 1000 ∧ xs.length ≤ 1000 ∧ (k = 1 → Q (.ref l) H) ∧ (k ≠ 1 → NewT f H (List.replicate k.toNat xs).flatten Q)
section
variable {X : Cx}
theorem op_repF {f : Tb} : OpR X (binaryOp .Mult) (rRepF X.K f) := by
  intro pins s σ H x y v u Q I rx ry h
  obtain ⟨l, k, xs, rfl, rfl, hT, hne, h1, h2, hz, q1, q⟩ := h
  cases rx
  obtain ⟨t, rfl⟩ := ry
  obtain ⟨its, r, ⟨⟨cls, dd, data, sl⟩, ho, hc, n, hd⟩, hs⟩ := I.tuple hT
  simp only at hc hd
  subst hc hd
  have hle : its.length = xs.length := r.length.symm
  have hn : its ≠ [] := fun e => hne (by
    rw [e] at hle
    exact List.eq_nil_of_length_eq_zero hle.symm)
  have hi : its.toArray.isEmpty = false := by
    cases its with
    | nil => exact absurd rfl hn
    | cons a b => rfl
  have hsz0 : its.toArray.size = xs.length := by rw [List.size_toArray, hle]
  have go : ∀ {Pm : Shared → Prop}, (∀ Q2 : Result → Shared → Prop, Q2 (.ok (.ret (.ref l))) s → True) → True := fun _ => True.intro
  by_cases k1 : k = 1
  · subst k1
    refine wpAny_binaryOp_repeat_ref (T := "tuple") (U := "int") (by decide) ⟨_, ho, rfl⟩ (fun s' => typeIs_int s' 1 t) noFill_tuple_mul F.fills_int_mul F.slot_int_rmul repeat_tuple F.slot_int_index.lookup
      (call_meets F.slot_int_rmul (typeIs_int s 1 t) F.entry_int_rmul (F.args_int_rmul_2 _ _) (int_rmul_tuple 1 t l its.toArray n dd sl)
        ⟨ho, rfl, ⟨_, ho, rfl⟩, call_meets F.slot_tuple_mul ⟨_, ho, rfl⟩ F.entry_tuple_mul (F.args_tuple_mul_2 _ _) (tuple_mul1 l its.toArray n dd sl t) ⟨ho, ?_⟩⟩)
    exact ⟨.ref l, H, I, rfl, q1 rfl⟩
  · have hq := q k1
    by_cases k0 : k = 0
    · subst k0
      refine wpAny_binaryOp_repeat_ref (T := "tuple") (U := "int") (by decide) ⟨_, ho, rfl⟩ (fun s' => typeIs_int s' 0 t) noFill_tuple_mul F.fills_int_mul F.slot_int_rmul repeat_tuple F.slot_int_index.lookup
        (call_meets F.slot_int_rmul (typeIs_int s 0 t) F.entry_int_rmul (F.args_int_rmul_2 _ _) (int_rmul_tuple 0 t l its.toArray n dd sl)
          ⟨ho, rfl, ⟨_, ho, rfl⟩, call_meets F.slot_tuple_mul ⟨_, ho, rfl⟩ F.entry_tuple_mul (F.args_tuple_mul_2 _ _) (tuple_mul0 l its.toArray n dd sl t hi) ⟨ho, ?_⟩⟩)
      exact pushed (tk := s.toks) (its := []) I .nil (Nat.zero_le _) hq
    · have hm : ((its.toArray.size : Nat) : Int) * k ≤ 1000000 := by
        rw [hsz0]
        have a1 : ((xs.length : Nat) : Int) * k ≤ 1000 * k := Int.mul_le_mul_of_nonneg_right (by omega) (by omega)
        omega
      have flen : (List.replicate k.toNat its).flatten.length ≤ sizeLine := by
        rw [PyProof.Rows.lm_len_rep_flat, hle, sizeLine_eq]
        have a1 : k.toNat * xs.length ≤ 1000 * 1000 := Nat.mul_le_mul (by omega) hz
        omega
      have c0 : (decide (k < -(2 ^ 63)) || decide (k ≥ 2 ^ 63)) = false := by
        rw [decide_eq_false (by omega), decide_eq_false (by omega)] <;> rfl
      have c1 : (its.toArray.isEmpty || k == 1) = false := by
        rw [hi, Bool.false_or]
        exact beq_eq_false_iff_ne.mpr (by omega)
      have c2 : (decide (k ≤ 0) || its.toArray.isEmpty) = false := by
        rw [hi, Bool.or_false]
        exact decide_eq_false (by omega)
      have c4 : Builtin.Tuple.tupleTooMany (((its.toArray.size : Nat) : Int) * k) = false := by
        unfold Builtin.Tuple.tupleTooMany
        rw [sizeLine_eq]
        exact decide_eq_false (by omega)
      refine wpAny_binaryOp_repeat_ref (T := "tuple") (U := "int") (by decide) ⟨_, ho, rfl⟩ (fun s' => typeIs_int s' k t) noFill_tuple_mul F.fills_int_mul F.slot_int_rmul repeat_tuple F.slot_int_index.lookup
        (call_meets F.slot_int_rmul (typeIs_int s k t) F.entry_int_rmul (F.args_int_rmul_2 _ _) (int_rmul_tuple k t l its.toArray n dd sl)
          ⟨ho, rfl, ⟨_, ho, rfl⟩, call_meets F.slot_tuple_mul ⟨_, ho, rfl⟩ F.entry_tuple_mul (F.args_tuple_mul_2 _ _) (tuple_mulW l its.toArray n dd sl k t c0 c1 c2 (by omega) c4 (by rw [size_rep, List.size_toArray]; exact flen)) ⟨ho, ?_⟩⟩)
      rw [size_rep]
      exact pushed (tk := s.toks) I (r.rep k.toNat) (by rw [PyProof.Rows.lm_len_rep_flat, sizeLine_eq]; have a1 : k.toNat * xs.length ≤ 1000 * 1000 := Nat.mul_le_mul (by omega) hz; omega) hq
/-- * of ints, list * int, tuple * int -/
def oMulT : O2 := fun x y S => match x, y with
  | .p (.tup a), .p (.int j) => if 0 ≤ j ∧ j ≤ 1000 ∧ a.length ≤ 1000 ∧ a ≠ [] then some (.p (.tup (List.replicate j.toNat a).flatten), S) else none
  | _, _ => none
theorem op_mulT : OpR X (binaryOp .Mult) (rD X.K oMulT) := by
  intro pins s σ H x y v u Q I rx ry ⟨ρ, S, dx, dy, d, S', s0, r1, r2, ho, k⟩
  unfold oMulT at ho
  split at ho
  · rename_i a j
    split at ho
    · rename_i hf
      cases ho
      have r1' := r1
      obtain ⟨pa, va, rfl, ta, la⟩ := relT r1'
      cases relI r2
      have l1 := la.length
      refine op_repF (f := ρ.f) pins s σ H _ _ v u Q I rx ry ⟨pa, j, va, rfl, rfl, ta.sq, fun e => ?_, hf.1, hf.2.1, by rw [l1]; exact hf.2.2.1, fun e => ?_, fun _ => ?_⟩
      · subst e
        exact hf.2.2.2 (nil_of_len (by rw [← l1]; rfl))
      · subst e
        have ee : (List.replicate (1 : Int).toNat a).flatten = a := by
          show (List.replicate 1 a).flatten = a
          simp
        rw [ee] at k
        exact k _ H ρ Ext.refl s0 r1
      · refine newT_of s0 (relPs_rep la _) ?_ fun z H2 e2 s2 r2 => k z H2 ρ e2 s2 r2
        rw [len_rep, l1, sizeLine_eq]
        have a1 : a.length * j.toNat ≤ 1000 * 1000 := Nat.mul_le_mul hf.2.2.1 (by omega)
        omega
    · cases ho
  · cases ho
def oMulG : O2 := fun x y S => match oMul x y S with
  | some r => some r
  | none => oMulT x y S
theorem op_mulG : OpR X (binaryOp .Mult) (rD X.K oMulG) := by
  intro pins s σ H x y v u Q I rx ry ⟨ρ, S, dx, dy, d, S', s0, r1, r2, ho, k⟩
  unfold oMulG at ho
  split at ho
  · rename_i rr hq
    cases ho
    exact op_mulD pins s σ H x y v u Q I rx ry ⟨ρ, S, dx, dy, d, S', s0, r1, r2, hq, k⟩
  · exact op_mulT pins s σ H x y v u Q I rx ry ⟨ρ, S, dx, dy, d, S', s0, r1, r2, ho, k⟩
/-! ### a < b < c -/
theorem rd_bl {o : O2} {x y : V} {H : Hp} {Q : VK} {f g : _} (h : rD X.K (oCmpI f g) x y H Q) : rD X.K (oCmpI f g) x y H fun z H' => ∃ k, z = .bl k ∧ Q (.bl k) H' := by
  obtain ⟨ρ, S, dx, dy, d, S', s0, r1, r2, ho, k⟩ := h
  refine ⟨ρ, S, dx, dy, d, S', s0, r1, r2, ho, fun v H' ρ' e' s' r' => ?_⟩
  unfold oCmpI at ho
  split at ho
  · cases ho
    have := relB r'
    subst this
    exact ⟨_, rfl, k _ H' ρ' e' s' r'⟩
  · split at ho
    · cases ho
      have := relB r'
      subst this
      exact ⟨_, rfl, k _ H' ρ' e' s' r'⟩
    · cases ho
  · cases ho
def mChain (o o' : O2) (ma mb mc : ME) : ME := fun E => bnd (ma E) fun x => bnd (mb E) fun y => bnd (o x y) fun b => match b with
  | .p (.bl true) => bnd (mc E) fun z => o' y z
  | .p (.bl false) => ret (.p (.bl false))
  | _ => fail
theorem chain_t {K : PySem.W.Frag} {o o' : O2} {ma mb mc : ME} (hb : ∀ x y S d S', o x y S = some (d, S') → ∃ b, d = .p (.bl b)) : ∀ σ H Q, tE K (mChain o o' ma mb mc) σ H Q → tChain (rD K o) (rD K o') (tE K ma) (tE K mb) (tE K mc) σ H Q := fun σ H Q q => by
  obtain ⟨ρ, S, E, d, S', r, hm, k⟩ := q
  obtain ⟨x, S1, h1, hm⟩ := bnd_some hm
  obtain ⟨y, S2, h2, hm⟩ := bnd_some hm
  obtain ⟨b, S3, h3, hm⟩ := bnd_some hm
  obtain ⟨bb, rfl⟩ := hb _ _ _ _ _ h3
  refine ⟨ρ, S, E, x, S1, r, h1, fun v H1 ρ1 e1 s1 r1 => ⟨ρ1, S1, E, y, S2, ⟨s1, r.e.ext e1⟩, h2, fun w H2 ρ2 e2 s2 r2 => ?_⟩⟩
  refine ⟨ρ2, S2, x, y, _, S3, s2, r1.ext e2, r2, h3, fun z H3 ρ3 e3 s3 r3 => ⟨bb, relB r3, ?_⟩⟩
  have e123 := (e1.trans e2).trans e3
  cases bb with
  | true =>
    rw [if_pos rfl]
    obtain ⟨z', S4, h4, hm⟩ := bnd_some hm
    refine ⟨ρ3, S3, E, z', S4, ⟨s3, r.e.ext e123⟩, h4, fun w4 H4 ρ4 e4 s4 r4 => ?_⟩
    exact ⟨ρ4, S4, y, z', d, S', s4, (r2.ext e3).ext e4, r4, hm, fun z H5 ρ5 e5 s5 r5 => k z H5 ρ5 ((e123.trans e4).trans e5) s5 r5⟩
  | false =>
    rw [if_neg Bool.false_ne_true]
    obtain ⟨rfl, rfl⟩ := ret_some hm
    exact k _ H3 ρ3 e123 s3 mkB
theorem cmpI_bl {f : Int → Int → Bool} {g : Str → Str → Option Bool} : ∀ x y S d S', oCmpI f g x y S = some (d, S') → ∃ b, d = .p (.bl b) := by
  intro x y S d S' h
  unfold oCmpI at h
  split at h
  · cases h; exact ⟨_, rfl⟩
  · split at h
    · cases h; exact ⟨_, rfl⟩
    · cases h
  · cases h
theorem re_chain {a b c : Expr} {pos : Pos} {op op' : CmpOp} {o o' : O2} {ma mb mc : ME} (ho : OpR X (compareOp op) (rD X.K o)) (ho' : OpR X (compareOp op') (rD X.K o')) (ha : PE X a (tE X.K ma)) (hb : PE X b (tE X.K mb)) (hc : PE X c (tE X.K mc))
    (hbl : ∀ x y S d S', o x y S = some (d, S') → ∃ b, d = .p (.bl b)) (hm : lastMarks [op, op'] [b, c] = false := by with_unfolding_all rfl) : PE X (.Compare a [op, op'] [b, c] pos) (tE X.K (mChain o o' ma mb mc)) :=
  pe_wk (pe_chain ho ho' ha hb hc hm) (chain_t hbl)
theorem rt_chain {a b c : Expr} {pos : Pos} {op op' : CmpOp} {o o' : O2} {ma mb mc : ME} (ho : OpR X (compareOp op) (rD X.K o)) (ho' : OpR X (compareOp op') (rD X.K o')) (ha : PE X a (tE X.K ma)) (hb : PE X b (tE X.K mb)) (hc : PE X c (tE X.K mc))
    (hbl : ∀ x y S d S', o x y S = some (d, S') → ∃ b, d = .p (.bl b)) (hm : lastMarks [op, op'] [b, c] = false := by with_unfolding_all rfl) : PT X (.Compare a [op, op'] [b, c] pos) (tT X.K (mVal (mChain o o' ma mb mc))) := by
  refine pt_wk (pt_chain ho ho' ha hb hc hm) fun σ H Q q => ?_
  exact chain_t hbl _ _ _ (val_q q)
end
end Pt
set_option maxRecDepth 100000
/-! Pt11: displays and comprehensions of dicts, dict(pairs). -/
namespace Pt
open PySem PySem.Spec PyProof.Rows L2
section
variable {K : PySem.W.Frag} {H : Hp} {ρ : Wd} {S : List Cell} {D : Addr}
/-- a new object, hidden -/
theorem hide {o : HO} (s : RelS K H ρ S) (hD : H D = none) (nt : NT o := by exact fun _ => nofun) : Pers ρ H ⟨ρ.c, D :: ρ.h, ρ.f⟩ (upd H D o) ∧ RelS K (upd H D o) ⟨ρ.c, D :: ρ.h, ρ.f⟩ S := by
  have neD : ∀ {a o}, H a = some o → a ≠ D := fun h z => by rw [z, hD] at h; cases h
  have p0 : Pers ρ H ⟨ρ.c, D :: ρ.h, ρ.f⟩ (upd H D o) := ⟨rfl, fun a o h n _ => ⟨by rw [upd_ne (neD h)]; exact h, n.1, by simp [neD h, n.2]⟩⟩
  refine ⟨p0, RelS.pers (ρ := ρ) rfl p0 s (fun a ha => ?_) (fun a ha => ?_) fun t => t.ext (Ex.new hD)⟩
  · obtain ⟨u, q, _⟩ := s.trk ha
    rw [upd_ne (neD q)]
  · rcases List.mem_cons.mp ha with rfl | ha
    · exact ⟨⟨_, upd_same, nt⟩, fun z => (s.trk z).no hD⟩
    · exact ⟨(Ex.new hD).nth (s.hid a ha).1, (s.hid a ha).2⟩
theorem nth_upd {o : HO} {a : Addr} (h : NTh H a) (nt : NT o) : NTh (upd H D o) a := by
  by_cases q : a = D
  · exact ⟨_, by rw [q, upd_same], nt⟩
  · obtain ⟨u, e1, e2⟩ := h
    exact ⟨u, by rw [upd_ne q]; exact e1, e2⟩
variable {c h : List Addr} {f : Tb}
/-- what is hidden may change -/
theorem turn_hid {o o0 : HO} (s : RelS K H ⟨c, D :: h, f⟩ S) (hD0 : H D = some o0) (nt : NT o := by exact fun _ => nofun) (n1 : NT o0 := by exact fun _ => nofun) (n2 : ∀ φ, o0 ≠ .ext φ := by exact fun _ => nofun) : Pers ⟨c, D :: h, f⟩ H ⟨c, D :: h, f⟩ (upd H D o) ∧ RelS K (upd H D o) ⟨c, D :: h, f⟩ S := by
  have nDc : D ∉ c := (s.hid D List.mem_cons_self).2
  have pD : Pers ⟨c, D :: h, f⟩ H ⟨c, D :: h, f⟩ (upd H D o) := ⟨rfl, fun a o h n _ => ⟨by
    rw [upd_ne (show a ≠ D from fun z => n.2 (by simp [z]))]
    exact h, n⟩⟩
  exact ⟨pD, s.pers rfl pD (fun a ha => upd_ne (show a ≠ D from fun z => nDc (z ▸ ha))) (fun a ha => ⟨nth_upd (s.hid a ha).1 nt, (s.hid a ha).2⟩) fun t p hp => tab_upd hD0 n1 n2 (t p hp)⟩
/-- .. and come out as data -/
theorem show_pd (s : RelS K H ⟨c, D :: h, f⟩ S) : Pers ⟨c, D :: h, f⟩ H ⟨c, h, f⟩ H ∧ RelS K H ⟨c, h, f⟩ S := by
  have pw : Pers ⟨c, D :: h, f⟩ H ⟨c, h, f⟩ H := ⟨rfl, fun a o h n _ => ⟨h, n.1, fun z => n.2 (List.mem_cons_of_mem _ z)⟩⟩
  exact ⟨pw, RelS.pers (ρ := ⟨c, D :: h, f⟩) rfl pw s (fun _ _ => rfl) (fun a ha => s.hid a (List.mem_cons_of_mem _ ha)) fun t => t⟩
theorem pers_app (hp : Pers ⟨c, D :: h, f⟩ H ⟨c ++ [D], h, f⟩ H) : (∀ {d : Pt.D} {v : V}, RelD K H ⟨c, D :: h, f⟩ d v → RelD K H ⟨c ++ [D], h, f⟩ d v) := fun {d v} r => by
  cases d with
  | p d => exact RelP.pers hp r
  | v x => exact r
  | ref n =>
    obtain ⟨a, h1, h2⟩ := r
    refine ⟨a, ?_, h2⟩
    show (c ++ [D])[n]? = some a
    rw [List.getElem?_append_left (List.getElem?_eq_some_iff.mp h1).1]
    exact h1
/-- .. or as a cell -/
theorem show_cell {o : HO} {x : Cell} (s : RelS K H ⟨c, D :: h, f⟩ S) (nDh : D ∉ h) (hD : H D = some o) (rx : RelC K H ⟨c, D :: h, f⟩ o x) : RelS K H ⟨c ++ [D], h, f⟩ (S ++ [x]) ∧ RelD K H ⟨c ++ [D], h, f⟩ (.ref S.length) (.ref D) := by
  have nDc : D ∉ c := (s.hid D List.mem_cons_self).2
  have pw : Pers ⟨c, D :: h, f⟩ H ⟨c ++ [D], h, f⟩ H := ⟨rfl, fun a o h n _ => ⟨h, fun z => by
    rcases List.mem_append.mp z with z | z
    · exact n.1 z
    · exact n.2 (by rw [List.mem_singleton.mp z]; exact List.mem_cons_self), fun z => n.2 (List.mem_cons_of_mem _ z)⟩⟩
  have pr : ∀ {d : Pt.D} {v : V}, RelD K H ⟨c, D :: h, f⟩ d v → RelD K H ⟨c ++ [D], h, f⟩ d v := pers_app pw
  have prs : ∀ {ds : List Pt.D} {vs : List V}, RelDs K H ⟨c, D :: h, f⟩ ds vs → RelDs K H ⟨c ++ [D], h, f⟩ ds vs := fun h => Paired.mapP h fun _ _ q => pr q
  have prk : ∀ {κ : Type} {ds : List (κ × Pt.D)} {vs : List (κ × V)}, RelKD K H ⟨c, D :: h, f⟩ ds vs → RelKD K H ⟨c ++ [D], h, f⟩ ds vs := fun h => Paired.mapP h fun _ _ q => ⟨q.1, pr q.2⟩
  have prc : ∀ {o : HO} {x : Cell}, RelC K H ⟨c, D :: h, f⟩ o x → RelC K H ⟨c ++ [D], h, f⟩ o x := fun {o x} rc => by
    cases x with
    | lst ds => obtain ⟨vs, z1, z2, z3⟩ := rc; exact ⟨vs, z1, z2, prs z3⟩
    | dK ds => obtain ⟨vs, z1, z2, z3⟩ := rc; exact ⟨vs, z1, z2, prk z3⟩
    | dT ds => obtain ⟨vs, z1, z2, z3⟩ := rc; exact ⟨vs, z1, z2, prk z3⟩
  have hlen : S.length = c.length := s.len
  refine ⟨⟨by simp [s.len], ?_, fun n x' a h1 h2 => ?_, fun a ha => ⟨(s.hid a (List.mem_cons_of_mem _ ha)).1, fun z => ?_⟩, s.tb⟩, D, ?_, rfl⟩
  · show (c ++ [D]).Nodup
    rw [List.nodup_append]
    refine ⟨s.nd, by simp, fun a ha b hb z => ?_⟩
    rw [List.mem_singleton.mp hb] at z
    exact nDc (z ▸ ha)
  · have h2' : (c ++ [D])[n]? = some a := h2
    by_cases hn : n < S.length
    · rw [List.getElem?_append_left hn] at h1
      rw [List.getElem?_append_left (by rw [← hlen]; exact hn)] at h2'
      obtain ⟨o, ho, rc⟩ := s.here n x' a h1 h2'
      exact ⟨o, ho, prc rc⟩
    · have hn2 : n = S.length := by
        have := (List.getElem?_eq_some_iff.mp h1).1
        simp at this
        omega
      subst hn2
      rw [List.getElem?_append_right (Nat.le_refl _)] at h1
      rw [hlen, List.getElem?_append_right (Nat.le_refl _)] at h2'
      simp at h1 h2'
      subst h1; subst h2'
      exact ⟨_, hD, prc rx⟩
  · rcases List.mem_append.mp (show a ∈ c ++ [D] from z) with z | z
    · exact (s.hid a (List.mem_cons_of_mem _ ha)).2 z
    · exact nDh (by rw [← List.mem_singleton.mp z]; exact ha)
  · show (c ++ [D])[S.length]? = some D
    rw [hlen]
    simp
end
/-! ### displays -/
def mPairs : List (ME × ME) → Vr → M (List (L2.Key × D))
  | [], _ => ret []
  | (mk, mv) :: r, E => bnd (mk E) fun x => bnd (mv E) fun y => bnd (mPairs r E) fun ps => match keyOf x with
    | some k => ret ((k, y) :: ps)
    | none => fail
def mergeD (kvs more : List (L2.Key × D)) : List (L2.Key × D) := more.foldl (fun acc kv => putD acc kv.1 kv.2) kvs
def mDict (trs : List (ME × ME)) : ME := fun E => bnd (mPairs trs E) fun kvs S => if kvs.length ≤ 15 then some (.ref S.length, S ++ [.dK (mergeD [] kvs)]) else none
theorem merge_rel {K : PySem.W.Frag} {H : Hp} {ρ : Wd} : ∀ {more : List (L2.Key × D)} {ws : List (L2.Key × V)} {kvs : List (L2.Key × D)} {us : List (L2.Key × V)}, RelKD K H ρ more ws → RelKD K H ρ kvs us → RelKD K H ρ (mergeD kvs more) (mergeK us ws)
  | _, _, _, _, .nil, g => g
  | _, _, kvs, us, .cons (a := p) (b := q) r t, g => by
    have e : RelKD K H ρ (putD kvs p.1 p.2) (putK us q.1 q.2) := by
      have := putD_rel (k := p.1) r.2 g
      rw [← r.1]
      exact this
    have z := merge_rel t e
    exact z
def trE (K : PySem.W.Frag) (trs : List (ME × ME)) : List (TE × TE) := trs.map fun p => (tE K p.1, tE K p.2)
theorem pairs_t {K : PySem.W.Frag} : ∀ {trs : List (ME × ME)} {ρ : Wd} {S S' : List Cell} {E : Vr} {σ : L2.St} {H : Hp} {kvs : List (L2.Key × D)} {Q : List (V × V) → Hp → Prop}, Rel K H ρ S E σ → mPairs trs E S = some (kvs, S') →
    (∀ ws H' ρ', Ext ρ H ρ' H' → RelS K H' ρ' S' → RelKD K H' ρ' kvs ws → Q (ws.map fun kv => (kV kv.1, kv.2)) H') → tPairs (trE K trs) σ H Q
  | [], ρ, S, S', E, σ, H, kvs, Q, r, hm, k => by
    obtain ⟨rfl, rfl⟩ := ret_some hm
    exact k [] H ρ Ext.refl r.s .nil
  | (mk, mv) :: trs, ρ, S, S', E, σ, H, kvs, Q, r, hm, k => by
    obtain ⟨x, S1, h1, hm⟩ := bnd_some hm
    obtain ⟨y, S2, h2, hm⟩ := bnd_some hm
    obtain ⟨ps, S3, h3, hm⟩ := bnd_some hm
    cases hk : keyOf x with
    | none => rw [hk] at hm; cases hm
    | some key =>
      rw [hk] at hm
      obtain ⟨rfl, rfl⟩ := ret_some hm
      refine ⟨ρ, S, E, x, S1, r, h1, fun v H1 ρ1 e1 s1 r1 => ⟨ρ1, S1, E, y, S2, ⟨s1, r.e.ext e1⟩, h2, fun w H2 ρ2 e2 s2 r2 => ?_⟩⟩
      refine pairs_t ⟨s2, (r.e.ext e1).ext e2⟩ h3 fun ws H3 ρ3 e3 s3 r3 => ?_
      have ek := keyOf_rel r1 hk
      subst ek
      exact k ((key, w) :: ws) H3 ρ3 ((e1.trans e2).trans e3) s3 (.cons ⟨rfl, r2.ext e3⟩ r3)
section
variable {X : Cx} {pos : Pos}
theorem re_dict {trs : List (ME × ME)} {keys : List (Option Expr)} {values : List Expr} (h : PPs X pos keys values (trE X.K trs)) (hall : keys.all (·.isSome) = true) (hl : keys.length = values.length) (h0 : keys ≠ []) (h15 : keys.length ≤ 15) :
    PE X (.Dict keys values pos) (tE X.K (mDict trs)) := by
  refine pe_wk (pe_disp h hall hl h0 h15) fun σ H Q q => ?_
  obtain ⟨ρ, S, E, d, S', r, hm, k⟩ := q
  obtain ⟨kvs, S2, h1, hm⟩ := bnd_some hm
  split at hm
  · rename_i hlen
    cases hm
    intro p hp
    obtain ⟨p0, s0⟩ := hide (o := .dK []) r.s hp
    refine pairs_t ⟨s0, r.e.pers rfl p0⟩ h1 fun ws H2 ρ2 e2 s2 r2 => ?_
    obtain ⟨c', h', f'⟩ := ρ2
    obtain rfl : h' = p :: ρ.h := e2.hid
    obtain rfl : f' = ρ.f := e2.fl
    have npc : p ∉ ρ.c := fun z => (r.s.trk z).no hp
    have hp2 : H2 p = some (.dK []) := e2.keep p _ upd_same npc (fun _ => nofun)
    have nph : p ∉ ρ.h := fun z => (r.s.hid p z).1.no hp
    have lw : ws.length = kvs.length := (Paired.length r2).symm
    refine ⟨hp2, ws, rfl, by omega, ?_⟩
    obtain ⟨p3, s3⟩ := turn_hid (o := .dK (mergeK [] ws)) s2 hp2
    have rc : RelC X.K (upd H2 p (.dK (mergeK [] ws))) ⟨c', p :: ρ.h, ρ.f⟩ (.dK (mergeK [] ws)) (.dK (mergeD [] kvs)) := ⟨_, rfl, by
      have h1 := length_mergeK ws []
      rw [List.length_nil] at h1
      rw [sizeLine_eq]; omega, RelKD.pers rfl p3 (merge_rel r2 .nil)⟩
    obtain ⟨s4, r4⟩ := show_cell s3 nph upd_same rc
    have e0 : Ext ρ H ⟨ρ.c, ρ.h, ρ.f⟩ (upd H p (.dK [])) := (Ex.new hp).ext
    have e5 := e0.trans (Ext.reh (k := ρ.h) e2)
    refine k _ _ ⟨c' ++ [p], ρ.h, ρ.f⟩ ⟨rfl, rfl, ?_, fun a o h n t => ?_, fun a h => ?_, fun t p hp => tab_upd hp2 (fun _ => nofun) (fun _ => nofun) (e5.tab t p hp)⟩ s4 r4
    · obtain ⟨news, en, fn⟩ := e5.pre
      have en' : c' = ρ.c ++ news := en
      refine ⟨news ++ [p], by rw [en']; simp, fun a ha => ?_⟩
      rcases List.mem_append.mp ha with ha | ha
      · exact fn a ha
      · rw [List.mem_singleton.mp ha]; exact fun z => z.no hp
    · have ne : a ≠ p := fun z => by rw [z, hp] at h; cases h
      rw [upd_ne ne]
      exact e5.keep a o h n t
    · exact nth_upd (e5.there a h) (fun _ => nofun)
  · cases hm
/-! ### comprehensions -/
def mapP (kvs : List (L2.Key × PD)) : List (L2.Key × D) := kvs.map fun p => (p.1, D.p p.2)
theorem relKD_P {K : PySem.W.Frag} {H : Hp} {ρ : Wd} : ∀ {kvs : List (L2.Key × PD)} {ws : List (L2.Key × V)}, RelKD K H ρ (mapP kvs) ws → RelKs K H ρ kvs ws
  | [], _, h => by
    cases h
    simp only [RelKs]
  | (k, d) :: r, _, h => by
    cases h with
    | cons r1 t =>
      rename_i b bs
      obtain ⟨kk, v⟩ := b
      obtain ⟨e, r2⟩ := r1
      cases e
      simp only [RelKs]
      exact ⟨v, bs, rfl, r2, relKD_P t⟩
def putP (kvs : List (L2.Key × PD)) (k : L2.Key) (d : PD) : List (L2.Key × PD) :=
  if (kvs.any fun kv => decide (kv.1 = k)) = true then kvs.map (fun kv => if kv.1 = k then (kv.1, d) else kv) else kvs ++ [(k, d)]
theorem mapP_put (kvs : List (L2.Key × PD)) (k : L2.Key) (d : PD) : mapP (putP kvs k d) = putD (mapP kvs) k (.p d) := by
  unfold putP putD mapP
  have e : ((kvs.map fun p => (p.1, D.p p.2)).any fun kv => decide (kv.1 = k)) = kvs.any fun kv => decide (kv.1 = k) := by
    rw [List.any_map]; rfl
  rw [e]
  split
  · rw [List.map_map, List.map_map]
    refine List.map_congr_left fun p _ => ?_
    by_cases h : p.1 = k
    · simp [h]
    · simp [h]
  · simp
theorem putP_rel {K : PySem.W.Frag} {H : Hp} {ρ : Wd} {kvs : List (L2.Key × PD)} {ws : List (L2.Key × V)} {k : L2.Key} {d : PD} {v : V} (h : RelKs K H ρ kvs ws) (r : RelP K H ρ d v) : RelKs K H ρ (putP kvs k d) (putK ws k v) := by
  refine relKD_P ?_
  rw [mapP_put]
  exact putD_rel (d := .p d) r (relKs_D h)
def dcLoop (E : Vr) (t : Tg) (tt : MT) (tk te : ME) : List PD → List (L2.Key × PD) → M (List (L2.Key × PD))
  | [], acc => ret acc
  | x :: xs, acc => fun S => match t (.p x) E with
    | none => none
    | some E1 => match tt E1 S with
      | none => none
      | some (false, S1) => dcLoop E t tt tk te xs acc S1
      | some (true, S1) => match tk E1 S1 with
        | none => none
        | some (kd, S2) => match keyOf kd with
          | none => none
          | some key => match te E1 S2 with
            | some (.p y, S3) => dcLoop E t tt tk te xs (putP acc key y) S3
            | _ => none
def mDc (own : List Nat) (ms : MI) (t : Tg) (tt : MT) (tk te : ME) : ME := fun E => bnd (ms E) fun xs => bnd (dcLoop (wipeE E own) t tt tk te xs []) fun ys => ret (.p (.dct ys))
theorem dc_pd {K : PySem.W.Frag} {own vs : List Nat} {ms : MI} {g : TG} {t : Tg} {tt : MT} {tk te : ME} (rg : RelG K vs g t) (hs : ∀ i ∈ vs, i ∈ own) : ∀ σ H Q, tE K (mDc own ms t tt tk te) σ H Q → tDc (tI K ms) g (tT K tt) (tE K tk) (tE K te) own σ H Q := fun σ H Q q => by
  obtain ⟨ρ, S, E, d, S', r, hm, k⟩ := q
  obtain ⟨xs, S1, h1, hm⟩ := bnd_some hm
  obtain ⟨ys, S2', h2', hm⟩ := bnd_some hm
  obtain ⟨rfl, rfl⟩ := ret_some hm
  refine ⟨ρ, S, E, xs, S1, r, h1, fun J H1 ρ1 e1 s1 src D hD => ?_⟩
  have neD : ∀ {a o}, H1 a = some o → a ≠ D := fun h z => by rw [z, hD] at h; cases h
  obtain ⟨p0, s1'⟩ := hide (o := .dK []) s1 hD
  have nDh : D ∉ ρ1.h := fun z => (s1.hid D z).1.no hD
  have e0 : Ext ρ1 H1 ⟨ρ1.c, ρ1.h, ρ1.f⟩ (upd H1 D (.dK [])) := (Ex.new hD).ext
  refine ⟨fun i m H' => ∃ c' S2 acc ws, RelS K H' ⟨c', D :: ρ1.h, ρ1.f⟩ S2 ∧ RelE K H' ⟨c', D :: ρ1.h, ρ1.f⟩ E σ ∧ Ext ρ1 H1 ⟨c', ρ1.h, ρ1.f⟩ H' ∧ H' D = some (.dK ws) ∧ RelKs K H' ⟨c', D :: ρ1.h, ρ1.f⟩ acc ws ∧ Pers ρ1 H1 ⟨c', D :: ρ1.h, ρ1.f⟩ H' ∧ ws.length ≤ i ∧ i + m = xs.length ∧ dcLoop (wipeE E own) t tt tk te (xs.drop i) acc S2 = some (ys, S'),
    ⟨xs.length, ρ1.c, S1, [], [], s1', RelE.pers (ρ := ρ1) (r.e.ext e1) rfl p0, e0, upd_same, by simp only [RelKs], p0, Nat.le_refl _, by simp, by simpa using h2'⟩, fun i m H' w => ?_⟩
  obtain ⟨c', S2, acc, ws, s2, re2, e2, hD2, ra, p2, hw, hlen, hl⟩ := w
  by_cases hi : i < xs.length
  · right
    have hx : xs[i]? = some xs[i] := List.getElem?_eq_getElem hi
    obtain ⟨go, yl⟩ := src.go _ H' S2 p2 s2 i _ hx
    rw [List.drop_eq_getElem_cons hi] at hl
    unfold dcLoop at hl
    cases ht : t (.p xs[i]) (wipeE E own) with
    | none => simp only [ht] at hl; cases hl
    | some E1 =>
      simp only [ht] at hl
      refine ⟨go, fun H3 => ∃ c3 S3 acc3 ws3, RelS K H3 ⟨c3, D :: ρ1.h, ρ1.f⟩ S3 ∧ RelE K H3 ⟨c3, D :: ρ1.h, ρ1.f⟩ E σ ∧ Ext ρ1 H1 ⟨c3, ρ1.h, ρ1.f⟩ H3 ∧ H3 D = some (.dK ws3) ∧ RelKs K H3 ⟨c3, D :: ρ1.h, ρ1.f⟩ acc3 ws3 ∧ Pers ρ1 H1 ⟨c3, D :: ρ1.h, ρ1.f⟩ H3 ∧ ws3.length ≤ i + 1 ∧ dcLoop (wipeE E own) t tt tk te (xs.drop (i + 1)) acc3 S3 = some (ys, S'),
        fun H3 ⟨c3, S3, acc3, ws3, a1, a2, a3, a4, a5, a6, a7, a8⟩ => ⟨m - 1, by omega, c3, S3, acc3, ws3, a1, a2, a3, a4, a5, a6, a7, by omega, a8⟩, fun v H3 hy => ?_⟩
      obtain ⟨ex, rp⟩ := yl v H3 hy
      have s3 := s2.ex ex
      have re3 := re2.ext (ρ' := ⟨c', D :: ρ1.h, ρ1.f⟩) ex.ext
      have hD3 : H3 D = some (.dK ws) := ex _ _ hD2
      refine rg ⟨c', D :: ρ1.h, ρ1.f⟩ S2 (wipeE E own) E1 (wipe σ own) H3 (.p xs[i]) v _ ⟨s3, re3.wipe own⟩ rp ht fun σ4 re4 f4 => ?_
      refine ⟨wipe_same (f4.len.trans (wipe_length _ _)) f4.same hs, ?_⟩
      cases htt : tt E1 S2 with
      | none => simp only [htt] at hl; cases hl
      | some q =>
        obtain ⟨bb, S4⟩ := q
        refine ⟨⟨c', D :: ρ1.h, ρ1.f⟩, S2, E1, bb, S4, ⟨s3, re4⟩, htt, fun H4 ρ4 e4 s4 => ?_⟩
        obtain ⟨c4, h4, f4⟩ := ρ4
        obtain rfl : h4 = D :: ρ1.h := e4.hid
        obtain rfl : f4 = ρ1.f := e4.fl
        have nDc : D ∉ c' := (s3.hid D List.mem_cons_self).2
        have e5 : Ext ρ1 H1 ⟨c4, ρ1.h, ρ1.f⟩ H4 := (e2.trans (Ex.ext (ρ := ⟨c', ρ1.h, ρ1.f⟩) ex)).trans (Ext.reh (k := ρ1.h) e4)
        have hD4 : H4 D = some (.dK ws) := e4.keep D _ hD3 nDc (fun _ => nofun)
        have p4 : Pers ρ1 H1 ⟨c4, D :: ρ1.h, ρ1.f⟩ H4 := (p2.trans (Ex.ext (ρ := ⟨c', D :: ρ1.h, ρ1.f⟩) ex).pers).trans e4.pers
        simp only [htt] at hl
        cases bb with
        | false =>
          rw [if_neg Bool.false_ne_true]
          exact ⟨c4, S4, acc, ws, s4, re3.ext e4, e5, hD4, RelKs.ext e4 (RelKs.ext (ρ' := ⟨c', D :: ρ1.h, ρ1.f⟩) ex.ext ra), p4, by omega, hl⟩
        | true =>
          rw [if_pos rfl]
          simp only at hl
          cases htk : tk E1 S4 with
          | none => simp only [htk] at hl; cases hl
          | some q =>
            obtain ⟨kd, S5⟩ := q
            simp only [htk] at hl
            cases hkey : keyOf kd with
            | none => simp only [hkey] at hl; cases hl
            | some key =>
              simp only [hkey] at hl
              refine ⟨⟨c4, D :: ρ1.h, ρ1.f⟩, S4, E1, kd, S5, ⟨s4, re4.ext e4⟩, htk, fun kv H5 ρ5 e5' s5 rk => ?_⟩
              obtain ⟨c5, h5, f5⟩ := ρ5
              obtain rfl : h5 = D :: ρ1.h := e5'.hid
              obtain rfl : f5 = ρ1.f := e5'.fl
              have nDc4 : D ∉ c4 := (s4.hid D List.mem_cons_self).2
              have nDc5 : D ∉ c5 := (s5.hid D List.mem_cons_self).2
              have hD5 : H5 D = some (.dK ws) := e5'.keep D _ hD4 nDc4 (fun _ => nofun)
              have ekv := keyOf_rel rk hkey
              subst ekv
              cases hte : te E1 S5 with
              | none => simp only [hte] at hl; cases hl
              | some q =>
                obtain ⟨y, S6⟩ := q
                simp only [hte] at hl
                refine ⟨⟨c5, D :: ρ1.h, ρ1.f⟩, S5, E1, y, S6, ⟨s5, (re4.ext e4).ext e5'⟩, hte, fun yv H6 ρ6 e6 s6 ry => ?_⟩
                obtain ⟨c6, h6, f6⟩ := ρ6
                obtain rfl : h6 = D :: ρ1.h := e6.hid
                obtain rfl : f6 = ρ1.f := e6.fl
                have hD6 : H6 D = some (.dK ws) := e6.keep D _ hD5 nDc5 (fun _ => nofun)
                have hz : ws.length < sizeLine := Nat.lt_of_le_of_lt hw (Nat.lt_of_lt_of_le hi src.fit)
                cases y with
                | ref _ => cases hl
                | v _ => cases hl
                | p y =>
                  refine ⟨ws, key, rfl, hD6, hz, ?_⟩
                  obtain ⟨pD, s7⟩ := turn_hid (o := .dK (putK ws key yv)) s6 hD6
                  have e7 := (e5.trans (Ext.reh (k := ρ1.h) e5')).trans (Ext.reh (k := ρ1.h) e6)
                  have ra6 : RelKs K H6 ⟨c6, D :: ρ1.h, ρ1.f⟩ acc ws := RelKs.ext e6 (RelKs.ext e5' (RelKs.ext e4 (RelKs.ext (ρ' := ⟨c', D :: ρ1.h, ρ1.f⟩) ex.ext ra)))
                  refine ⟨c6, S6, putP acc key y, putK ws key yv, s7, (((re3.ext e4).ext e5').ext e6).pers rfl pD, ⟨e7.fl, rfl, e7.pre, fun a o h n t => ?_, fun a h => nth_upd (e7.there a h) (fun _ => nofun), fun t p hp => tab_upd hD6 (fun _ => nofun) (fun _ => nofun) (e7.tab t p hp)⟩, upd_same, RelKs.pers pD (putP_rel ra6 ry), ((p4.trans e5'.pers).trans e6.pers).trans pD, ?_, hl⟩
                  · rw [upd_ne (neD h)]
                    exact e7.keep a o h n t
                  · have := putK_len (k := key) (v := yv) ws
                    omega
  · left
    have ei : i = xs.length := by omega
    subst ei
    rw [List.drop_length] at hl
    obtain ⟨rfl, rfl⟩ := ret_some hl
    refine ⟨src.stop _ H' _ p2 s2, ?_⟩
    obtain ⟨pw, s9⟩ := show_pd s2
    refine k _ H' ⟨c', ρ1.h, ρ1.f⟩ (e1.trans e2) s9 ?_
    simp only [RelD, RelP]
    exact ⟨D, ws, rfl, ⟨Nat.le_trans hw src.fit, hD2, (s2.hid D List.mem_cons_self).2, nDh⟩, RelKs.pers pw ra⟩
theorem re_dc {tg iter kx vx : Expr} {ifs : List Expr} {scope : Scope} {own : List (Str × Nat)} {ms : MI} {vs : List Nat} {t : Tg} {tt : MT} {tk te : ME} (hc : X.calm = true) (hN : X.N.Nodup) (hi : PI X tg iter (tI X.K ms)) (ok : BlkOk X.N X.env.scope scope own) (hg : RGB X scope tg vs t) (hv : ∀ i ∈ vs, i ∈ own.map (·.2))
    (ht : BK X scope fun Y => PTs Y ifs (tT X.K tt)) (hk : BK X scope fun Y => PE Y kx (tE X.K tk)) (he : BK X scope fun Y => PE Y vx (tE X.K te)) (hs : ∀ x, foldedSetIterable iter X.env x = pure x := by intro _; rfl) :
    PE X (.DictComp kx vx [⟨tg, iter, ifs, 0⟩] scope pos) (tE X.K (mDc (own.map (·.2)) ms t tt tk te)) := by
  obtain ⟨g, p, rg⟩ := hg.ex
  exact pe_wk (pe_dc hc hN hi ok p ht hk he hs) (dc_pd rg hv)
end
end Pt
set_option maxRecDepth 100000
set_option maxHeartbeats 1000000
/-! Pt12: X(v), X(v, w): an own exception whose __init__ says super().__init__(..) and stores its fields. -/
namespace Pt
open PySem PySem.W PySem.Calls PyProof.Rows PySem.HandSPX
def nmE (a : Str) (p : Pos) : Expr := .Name a p
def supC (es : List Expr) (p0 p1 p2 p3 p4 : Pos) : Stmt := .Expr (.Call (.Attribute (.Call (.Name "super" p0) [] [] p1) "__init__" p2) es [] p3) p4
def stB (a : Str) (q1 q2 q3 q4 : Pos) : Stmt := .Assign [.Attribute (.Name "self" q1) a q2] (.Name a q3) q4
def scp1 (a : Str) : Scope := { kind := .function, names := [("self", .local), (a, .local), ("__class__", .free), ("super", .globalImplicit)], isGenerator := false, isCoroutine := false, more := [] }
def arg1 (p0 p1 : Pos) (a : Str) : Arguments := { posonlyargs := [], args := [{ arg := "self", annotation := none, pos := p0 }, { arg := a, annotation := none, pos := p1 }], vararg := none, kwonlyargs := [], kw_defaults := [], kwarg := none, defaults := [] }
def scp2 (a b : Str) : Scope := { kind := .function, names := [("self", .local), (a, .local), (b, .local), ("__class__", .free), ("super", .globalImplicit)], isGenerator := false, isCoroutine := false, more := [] }
def arg2 (p0 p1 p2 : Pos) (a b : Str) : Arguments := { posonlyargs := [], args := [{ arg := "self", annotation := none, pos := p0 }, { arg := a, annotation := none, pos := p1 }, { arg := b, annotation := none, pos := p2 }], vararg := none, kwonlyargs := [], kw_defaults := [], kwarg := none, defaults := [] }
/-- what the written part says of the class at C, whose __init__ stands at fI -/
structure SupCls (P : Program) (K : Frag) (mg : Str → Option Value) (name : Str) (C fI : Addr) : Prop where
  gC : mg name = some (.ref C)
  gs : mg "super" = none
  cls : ∃ nm q N bs bm sn sub ab col dd k0 k1 k2 k3 k5, K.lookup C = some (excClassObj nm q C N bs bm true sn sub ab col dd k0 k1 k2 k3 k5 "ValueError.__new__") ∧ refsVE bm = true
  sa : findIn K (.ref C) "__setattr__" = some (some (.builtin "object.__setattr__"))
  ga : findIn K (.ref C) "__getattribute__" = some (some (.builtin "BaseException.__getattribute__"))
  gg : findIn K (.ref C) "__getattr__" = some none
  iC : findIn K (.ref C) "__init__" = some (some (.ref fI))
  tC : typeIn K (.ref fI) = some (.type "function")
  kC : keepIn K (.ref C) = true
  exC : subIn K (.ref C) (.type "BaseException") = some true
  vC : subIn K (.ref C) (.type "ValueError") = some true
  sC : mroIn K C (.ref C) = some true
  tyC : typeIn K (.ref C) = some (.type "type")
  hdC : hasDictIn K C = true
  sup : ks_superIn K C C "__init__" = some (some (.builtin "ValueError.__init__"))
  op : nsIn K cStatics "thirdparty.any" = some none
  top : (P.main.scope.names.lookup ("super" : Str)).isSome = false
/-- .. and of __init__'s own objects -/
structure SupFn (P : Program) (K : Frag) (C fI : Addr) (q : Str) (params : Arguments) (body : List Stmt) (scope : Scope) : Prop where
  ex : ∃ (oc : Value) (od : Option Addr) (doc pm : Value) (an : Option Addr) (cda : Addr) (ct : Value) (osl : Array (Option Value)) (cc : Addr)
      (cl : Value) (cld : Option Addr) (csl : Array (Option Value)) (ccl : Value) (cdd : Option Addr) (vs : Array Value) (ccs : Array (Option Value)) (file : Str) (tf : Tok),
    K.lookup fI = some ⟨oc, od, .func (ksFn "__init__" q params body scope .none .none doc pm an (.ref cda) ct cc), osl⟩ ∧ codeIn K (.ref cda) q = true ∧
    K.lookup cc = some ⟨cl, cld, .cell (some (.ref C)), csl⟩ ∧ K.lookup cda = some ⟨ccl, cdd, .fields vs, ccs⟩ ∧ vs[2]? = some (.str file tf) ∧ ((P.main.file : Str) == file) = true
/-- globals and built-ins -/
structure GB (mg : Str → Option Value) (h : Heap) : Prop where
  g : h.Ns mainGlobals mg
  b : ∃ mb, h.Ns builtinsNs mb ∧ ∀ x : Str, x ≠ "__name__" → mb x = bootBuiltins x
theorem GB.keeps {mg : Str → Option Value} {h h' : Heap} (x : GB mg h) (k : ∀ b o, h.get? b = some o → h'.get? b = some o) : GB mg h' :=
  ⟨x.g.keeps k, let ⟨mb, h1, h2⟩ := x.b; ⟨mb, h1.keeps k, h2⟩⟩
section
variable {prog : Program} {w : World} {A : Around} {E : Value → Shared → Prop} {R : Result → Shared → Prop} {s : Shared} {K : Frag} {mg : Str → Option Value} {name q : Str} {C fI : Addr}
theorem get_but {K : Frag} {h h' : Heap} {x : Addr} (X : K.In h) (hx : K.lookup x = none) (k : ∀ b o, b ≠ x → h.get? b = some o → h'.get? b = some o) : K.In h' := fun a o e =>
  k a o (fun z => by rw [z, hx] at e; cases e) (X a o e)
/-- super().__init__(..) has been bound and is called -/
theorem call_mw (T : SupCls prog K mg name C fI) (X : K.In s.heap) {u x t0 : Addr} {rest : List Value} {Q : Value → Shared → Prop} (hx : s.heap.get? x = some (excO C t0)) (hu : s.heap.get? u = some (kxs_mw "ValueError.__init__" x)) (hz : rest.length ≤ sizeLine)
    (hq : ∀ h' t1, (∀ b o, b ≠ x → s.heap.get? b = some o → h'.get? b = some o) → h'.get? x = some (excO C t1) → Q .none { s with heap := h' }) : wpAny (model prog w) A (call (.ref u) rest) Q E s := by
  obtain ⟨nm, q, N, bs, bm, sn, sub, ab, col, dd, k0, k1, k2, k3, k5, hC, hbm⟩ := T.cls
  have hC' := X _ _ hC
  obtain ⟨hh, g, d, tk, os⟩ := s
  refine wpAny_call (codeAny_of_tree ?_)
  show wpAny _ A.in1 (callAny (.ref u) ⟨rest, []⟩) _ _ _
  simp only [callAny]
  refine wpAny_bind (wpAny_load hu ?_)
  simp only [kxs_mw, show (Value.type "method-wrapper" == Value.type "method" || Value.type "method-wrapper" == Value.type "builtin_function_or_method" || Value.type "method-wrapper" == Value.type "method-wrapper") = true by decide, if_true]
  refine KFB.if_so (by decide) ?_
  refine wpAny_bind (check_bound_init F.excBase_ValueError.toExcCallFacts hC' hx rfl ?_)
  refine wpAny_bind (wpAny_pure (wpAny_pure ?_))
  refine ⟨plainId_quiet F.excBase_ValueError.init.plain _, codeAny_builtin F.excBase_ValueError.initEntry ?_⟩
  rw [Around.under_plainId F.excBase_ValueError.init.plain _]
  wp_walk
  refine hq _ hh.objs.size (fun b o hb ho => ?_) ?_
  · rw [Heap.get?_update_other _ _ (Ne.symm hb)]
    exact Heap.get?_push_of_some _ ho
  · rw [Heap.get?_update_self _ (Heap.get?_push_of_some _ hx) rfl]
    rfl
/-- super() in an __init__ -/
theorem sup_base (T : SupCls prog K mg name C fI) (X : K.In s.heap) (G : GB mg s.heap) {body : List Stmt} {scope : Scope} {p0 p1 : Pos} {whole : Sem Value} {fd : FuncData} {vs : Array Value} {file : Str} {tf : Tok} {oc ccl cl : Value} {od cdd cld : Option Addr} {osl ccs csl : Array (Option Value)}
    {L x t0 cc cda : Addr} {m : Str → Option Value} {Q : Value → Shared → Prop} {ar : Arg} (hn : s.heap.Ns L m)
    (hf : K.lookup fI = some ⟨oc, od, .func fd, osl⟩) (hp : (fd.params.posonlyargs ++ fd.params.args).head? = some ar) (hv : m ar.arg = some (.ref x)) (hx : s.heap.get? x = some (excO C t0))
    (hcode : K.lookup cda = some ⟨ccl, cdd, .fields vs, ccs⟩) (hvs : vs[2]? = some (.str file tf)) (hfile : ((prog.main.file : Str) == file) = true)
    (hcell : K.lookup cc = some ⟨cl, cld, .cell (some (.ref C)), csl⟩) (hks : scope.names.lookup ("super" : Str) = some .globalImplicit) (hkc : scope.names.lookup ("__class__" : Str) = some .free) (hka : scope.names.lookup ar.arg = some .local) (hk : scope.kind = .function)
    (h : ∀ h', (∀ b o, s.heap.get? b = some o → h'.get? b = some o) → h'.get? s.heap.objs.size = some (ks_superObj C x C) → Q (.ref s.heap.objs.size) { s with heap := h' }) :
    _root_.PySem.wpAt (model prog w) A (.func body (ksEnv q scope L fI (.ref cda) cc)) (attributeBase (.Call (.Name "super" p0) [] [] p1) "__init__" (ksEnv q scope L fI (.ref cda) cc) whole) Q E s := by
  obtain ⟨nm, q', N, bs, bm, sn, sub, ab, col, dd, k0, k1, k2, k3, k5, hC, hbm⟩ := T.cls
  have hC' := X _ _ hC
  obtain ⟨mb, hb1, hb2⟩ := G.b
  obtain ⟨hh, g, d, t, os⟩ := s
  refine ks_wpAt_super_base (env := ksEnv q scope L fI (.ref cda) cc) hks hkc (by decide) rfl (X _ _ hf) rfl hp rfl (X _ _ hcode) rfl hvs hfile T.top ?_
  refine ks_loadName_global hk hks (loadGlobal_builtin (env := ksEnv q scope L fI (.ref cda) cc) G.g T.gs hb1 ((hb2 _ (by decide +kernel)).trans (by first | boot_by_name | rfl | kernel_rfl)) ⟨rfl, ?_⟩)
  refine wpAny_loadName_free hk hkc rfl ⟨_, X _ _ hcell, rfl⟩ ?_
  refine wpAny_loadName_local hk hka hn hv ?_
  refine ks_wpAny_isType_cls hC' rfl ⟨rfl, ?_⟩
  exact ks_wpAny_call_super hC' rfl hx rfl (fun c e => nomatch e) (looks_mroIn X T.sC) fun h' e k => h h' k e
/-- the store of a first field, of a further one -/
structure InitEnd (h h' : Heap) (x C dx t1 : Addr) (fs : List (Str × Value)) : Prop where
  keep : ∀ b o, b ≠ x → h.get? b = some o → h'.get? b = some o
  obj : h'.get? x = some { cls := .ref C, dict := some dx, data := .fields #[.ref t1, .none, .none, .none, .bool false, .none] }
  dbig : h.objs.size ≤ dx
  dne : dx ≠ x
  ns : h'.Ns1 dx (fun y => fs.lookup y)
/-- a made exception -/
structure OwnMade (h h' : Heap) (e C d : Addr) (fs : List (Str × Value)) : Prop where
  keep : ∀ b o, h.get? b = some o → h'.get? b = some o
  new : h.objs.size ≤ e
  obj : ∃ oe vs, h'.get? e = some oe ∧ oe.cls = .ref C ∧ oe.dict = some d ∧ oe.data = .fields vs ∧ vs[1]? = some .none
  dbig : h.objs.size ≤ d
  dne : d ≠ e
  ns : h'.Ns1 d (fun y => fs.lookup y)
theorem mw_get (T : SupCls prog K mg name C fI) {h : Heap} {g : Array GenState} {d : Drawn} {tk : Nat} {os : OsState} (X : K.In h) {x t0 so : Addr} {pl : Sem Bool} {Q : Value × List Value → Shared → Prop} (hx : h.get? x = some (excO C t0)) (hnx : K.lookup x = none) (hso : h.get? so = some (ks_superObj C x C))
    (hq : Q (.ref h.objs.size, []) ⟨h.push (kxs_mw "ValueError.__init__" x), g, d, tk + 1, os⟩) : wpAny (model prog w) A (getMethod (.ref so) "__init__" pl) Q E ⟨h, g, d, tk, os⟩ := by
  obtain ⟨nm, q', N, bs, bm, sn, sub, ab, col, dd, k0, kk1, kk2, kk3, k5, hC, hbm⟩ := T.cls
  have hxC : x ≠ C := fun z => by rw [z, hC] at hnx; cases hnx
  have I : InstAt h x (excO C t0) C none := ⟨hx, rfl, rfl, trivial⟩
  have hI : Looks (model prog w) h (isInstance (.ref x) (.type "ValueError")) true := I.type.andThen (looks_subIn X T.vC)
  have hm := T.sup
  unfold ks_superIn at hm
  cases hc : clsIn K C with
  | none => rw [hc] at hm; cases hm
  | some cd =>
    rw [hc] at hm
    exact kxs_getMethod kxs_ValueError hso (looks_opaque X T.op) (l₀ := cd.mro) (fun A Q E s k q => wpAny_bind ((looks_clsIn X hc) A _ E s k (wpAny_pure q))) rfl X hm hI hxC (by decide) hq
theorem in_new {K : Frag} {h : Heap} {x : Addr} (X : K.In h) (hx : h.objs.size ≤ x) : K.lookup x = none := by
  cases e : K.lookup x with
  | none => rfl
  | some o => exact absurd (Nat.lt_of_lt_of_le (Heap.lt_size (X _ _ e)) hx) (Nat.lt_irrefl _)
/-! ### one field -/
def argNN : Arguments := arg1 ⟨6, 17, 6, 21⟩ ⟨6, 23, 6, 27⟩ "name"
def bdyNN : List Stmt := [supC [.Name "name" ⟨7, 25, 7, 29⟩] ⟨7, 8, 7, 13⟩ ⟨7, 8, 7, 15⟩ ⟨7, 8, 7, 24⟩ ⟨7, 8, 7, 30⟩ ⟨7, 8, 7, 30⟩, stB "name" ⟨8, 8, 8, 12⟩ ⟨8, 8, 8, 17⟩ ⟨8, 20, 8, 24⟩ ⟨8, 8, 8, 24⟩]
theorem init_name (T : SupCls prog K mg name C fI) (TF : SupFn prog K C fI q argNN bdyNN (scp1 "name")) (noN : findIn K (.ref C) "name" = some none)
    {x t0 : Addr} {v : Value} (X : K.In s.heap) (G : GB mg s.heap) (hlim : s.heap.NoLimit) (hx : s.heap.get? x = some (excO C t0)) (hnx : K.lookup x = none) (hxL : x < s.heap.objs.size) (hroom : A.depth < recursionLimit)
    (hq : ∀ h' tk dx t1, InitEnd s.heap h' x C dx t1 [("name", v)] → R (.ok (.ret .none)) { s with heap := h', toks := tk }) :
    codeAny (model prog w) A (.call (.ref fI) ⟨[.ref x, v], []⟩) R s := by
  obtain ⟨oc, od, doc, pm, an, cda, ct, osl, cc, cl, cld, csl, ccl, cdd, vs, ccs, file, tf, ho, hcd, hcell, hcode, hvs, hfile⟩ := TF.ex
  obtain ⟨nm, q', N, bs, bm, sn, sub, ab, col, dd, k0, kk1, kk2, kk3, k5, hC, hbm⟩ := T.cls
  have hcl : clsIn K C = some { name := nm, bases := bs, mro := .ref C :: bm, ns := N, qualname := q', hasDict := true, slotNames := sn, subclasses := sub, abstract := ab, collection := col, hasDel := false } := by unfold clsIn; rw [hC] <;> rfl
  have cells : ∀ y ∈ (scp1 "name").names, y.2 ≠ .cell := by decide
  have locs' : ∀ y ∈ [(("self" : Str), Value.ref x), ("name", v)], (scp1 "name").names.lookup y.1 = some .local := by
    intro y hy
    rcases List.mem_cons.mp hy with rfl | hy
    · rfl
    · rw [List.mem_singleton.mp hy]; rfl
  refine ks_codeAny_call_defAt (binds := [("self", .ref x), ("name", v)]) hroom (X _ _ ho) rfl hlim (codeRec_of X hcd) rfl (BindsTo.of_eq (by first | rfl | with_unfolding_all rfl)) cells locs' (fun h₁ hn k => ?_) rfl rfl rfl
  have X₁ : K.In h₁ := X.keeps k
  have hx₁ := k _ _ hx
  have G₁ := G.keeps k
  have nxL : s.heap.objs.size ≠ x := Nat.ne_of_gt hxL
  show _root_.PySem.wpAt _ _ (.func bdyNN (ksEnv q (scp1 "name") s.heap.objs.size fI (.ref cda) cc)) (execs bdyNN (ksEnv q (scp1 "name") s.heap.objs.size fI (.ref cda) cc)) _ _ _
  refine ks_wpAt_execs_cons (ks_wpAt_Expr_any (ks_wpAt_MethodCall (sup_base (q := q) (s := ⟨h₁, s.gens, s.drawn, _, s.os⟩) T X₁ G₁ hn ho rfl rfl hx₁ hcode hvs hfile hcell rfl rfl rfl rfl fun h2 k2 e2 => ?_)))
  have hn2 := hn.keeps k2
  refine mw_get T (X₁.keeps k2) (k2 _ _ hx₁) hnx e2 ?_
  have k3 : ∀ b o, h2.get? b = some o → (h2.push (kxs_mw "ValueError.__init__" x)).get? b = some o := fun b o e => Heap.get?_push_of_some _ e
  have hu : (h2.push (kxs_mw "ValueError.__init__" x)).get? h2.objs.size = some (kxs_mw "ValueError.__init__" x) := Heap.get?_push_at rfl rfl
  have hn3 := hn2.keeps k3
  have X3 := (X₁.keeps k2).keeps k3
  have hx3 := k3 _ _ (k2 _ _ hx₁)
  refine kxs_callWith (i := "ValueError.__init__") (x := x) (by rfl) (evalArgs_plain ?_)
  show wpAny _ _ (spliced ((false, eval (.Name "name" _) (ksEnv q (scp1 "name") s.heap.objs.size fI (.ref cda) cc)) :: backTo _ (starEach [] _))) _ _ _
  refine Calls.spliced_cons (wpAny_Name (wpAny_loadName_local rfl rfl hn3 (by rfl) (Calls.spliced_nil ⟨hu, ?_⟩)) (by decide))
  refine call_mw (s := ⟨_, s.gens, s.drawn, _, s.os⟩) T X3 hx3 hu (by show 1 ≤ sizeLine; rw [sizeLine_eq]; decide) fun h4 t1 k4 e4 => ?_
  show _root_.PySem.wpAt _ _ _ (execs _ _) _ _ _
  have X4 : K.In h4 := get_but X3 hnx k4
  have hn4 : h4.Ns s.heap.objs.size _ := hn3.at fun o e => k4 _ o nxL e
  refine wpAt_of_wpAny (wpAny_execs_cons (plainObj_wpAny_Assign_Attribute (wpAny_Name (wpAny_loadName_local rfl rfl hn4 (by rfl) (wpAny_Name (wpAny_loadName_local rfl rfl hn4 (by rfl) ?_) (by decide))) (by decide))))
  refine set_plain X4 (ox := excO C t1) (od := none) ⟨e4, rfl, rfl, trivial⟩ T.sa ?_
  refine exc_osa X4 e4 hcl (show refsVE (.ref C :: bm) = true from hbm) rfl noN (fun h5 tk5 dx k5 dn dne hx5 hn5 => ?_)
  show wpAny _ _ (execs _ _) _ _ _
  have z0 : s.heap.objs.size ≤ dx := by
    have a1 : s.heap.objs.size < h₁.objs.size := hn.lt
    have a4 : s.heap.objs.size < h4.objs.size := hn4.lt
    exact Nat.le_of_lt (Nat.lt_of_lt_of_le a4 dn)
  refine wpAny_execs_nil (hq h5 tk5 dx t1 ⟨fun b o hb e => k5 b o hb (k4 b o hb (k3 _ _ (k2 _ _ (k b o e)))), hx5, z0, dne, ?_⟩)
  have ef : (fun y : Str => if y = "name" then some v else none) = fun y => List.lookup y [(("name" : Str), v)] := by
    funext y
    by_cases hy : y = "name"
    · subst hy
      rw [if_pos rfl]
      simp [List.lookup]
    · rw [if_neg hy]
      have e : (y == ("name" : Str)) = false := by simpa using hy
      simp [List.lookup, e]
  rw [← ef]
  exact hn5
theorem made_name (T : SupCls prog K mg name C fI) (TF : SupFn prog K C fI q argNN bdyNN (scp1 "name")) (noN : findIn K (.ref C) "name" = some none) {v : Value} (X : K.In s.heap) (G : GB mg s.heap) (hlim : s.heap.NoLimit) (hroom : A.depth + 1 < recursionLimit)
    (hq : ∀ h' tk e d, OwnMade s.heap h' e C d [("name", v)] → R (.ok (.ret (.ref e))) { s with heap := h', toks := tk }) :
    codeAny (model prog w) A (.call (.ref C) ⟨[v], []⟩) R s := by
  obtain ⟨nm, q', N, bs, bm, sn, sub, ab, col, dd, k0, kk1, kk2, kk3, k5, hC, hbm⟩ := T.cls
  obtain ⟨hp, g, dr, tk, os⟩ := s
  have k : ∀ b o, hp.get? b = some o → ((hp.push (kdv_tup [v])).push (excO C hp.objs.size)).get? b = some o := fun b o e => Heap.get?_push_of_some _ (Heap.get?_push_of_some _ e)
  have hget : ((hp.push (kdv_tup [v])).push (excO C hp.objs.size)).get? (hp.objs.size + 1) = some (excO C hp.objs.size) := by heap_get
  refine call_own F.excBase_ValueError (fun X => refsVE_contains X bm hbm) (X _ _ hC) (looks_findIn X T.iC) (fun self => bind_fn X self T.tC) (by show 1 ≤ sizeLine; rw [sizeLine_eq]; decide) ?_
  refine init_name (s := ⟨(hp.push (kdv_tup [v])).push (excO C hp.objs.size), g, dr, tk, os⟩) T TF noN (X.keeps k) (G.keeps k) (hlim.keeps k) hget (in_new X (Nat.le_succ _)) (Heap.lt_size hget) ?_ fun h' tk' dx t1 ⟨k', hx, dn, dne, hns⟩ => ?_
  · show A.depth + 1 < recursionLimit
    exact hroom
  · have old : ∀ b o, hp.get? b = some o → h'.get? b = some o := fun b o e => k' b o (Nat.ne_of_lt (Nat.lt_succ_of_lt (Heap.lt_size e))) (k b o e)
    have z : hp.objs.size + 1 + 1 ≤ dx := by
      have q := dn
      simp only [Heap.size_push] at q
      exact q
    exact ⟨rfl, hq h' tk' (hp.objs.size + 1) dx ⟨old, Nat.le_succ _, ⟨_, _, hx, rfl, rfl, rfl, rfl⟩, Nat.le_trans (Nat.le_trans (Nat.le_succ _) (Nat.le_succ _)) z, dne, hns⟩⟩
end
end Pt
set_option maxRecDepth 100000
set_option maxHeartbeats 1000000
/-! Pt13: what may raise an exception of a class of the program. -/
namespace Pt
open PySem PySem.Spec PyProof.Rows L2
/-- an exception: its class, its fields -/
abbrev Exc := Addr × List (Str × PD)
abbrev MX (α : Type) := List Cell → Option (Except Exc α × List Cell)
abbrev MEX := Vr → MX D
abbrev MAX := Vr → MX (List D)
/-- statements: an exception bears the names as they were -/
abbrev MSX := Vr → List Cell → Option (Except (Exc × Vr) Fl × List Cell)
abbrev OCX := List D → MX D
def ExK (K : PySem.W.Frag) (E : XK) (H : Hp) (ρ : Wd) (e : Exc) : Prop := ∀ dd ws, H dd = some (.xd ws) → ρ.out dd → RelFs K H ρ e.2 ws → E (.ref e.1) (some dd) H
def bndX {α β : Type} (m : MX α) (f : α → MX β) : MX β := fun S => match m S with
  | some (.ok a, S1) => f a S1
  | some (.error e, S1) => some (.error e, S1)
  | none => none
theorem bndX_some {α β : Type} {m : MX α} {f : α → MX β} {S : List Cell} {r : Except Exc β × List Cell} (h : bndX m f S = some r) : (∃ a S1, m S = some (.ok a, S1) ∧ f a S1 = some r) ∨ ∃ e S1, m S = some (.error e, S1) ∧ r = (.error e, S1) := by
  unfold bndX at h
  split at h
  · exact Or.inl ⟨_, _, by assumption, h⟩
  · cases h
    exact Or.inr ⟨_, _, by assumption, rfl⟩
  · cases h
def okX {α : Type} (m : M α) : MX α := fun S => match m S with
  | some (a, S1) => some (.ok a, S1)
  | none => none
theorem okX_some {α : Type} {m : M α} {S : List Cell} {r : Except Exc α × List Cell} (h : okX m S = some r) : ∃ a S1, m S = some (a, S1) ∧ r = (.ok a, S1) := by
  unfold okX at h
  split at h
  · cases h
    exact ⟨_, _, by assumption, rfl⟩
  · cases h
def tEX (K : PySem.W.Frag) (W : WX) (m : MEX) : TE := fun σ H Q => ∃ ρ S E r S', Rel K H ρ S E σ ∧ m E S = some (r, S') ∧ ∀ H' ρ', Ext ρ H ρ' H' → RelS K H' ρ' S' → match r with
  | .ok d => ∀ v, RelD K H' ρ' d v → Q v H'
  | .error e => ExK K (fun c d H => W c d σ H) H' ρ' e
def tAX (K : PySem.W.Frag) (W : WX) (m : MAX) : TA := fun σ H Q => ∃ ρ S E r S', Rel K H ρ S E σ ∧ m E S = some (r, S') ∧ ∀ H' ρ', Ext ρ H ρ' H' → RelS K H' ρ' S' → match r with
  | .ok ds => ∀ vs, RelDs K H' ρ' ds vs → Q vs H'
  | .error e => ExK K (fun c d H => W c d σ H) H' ρ' e
def tSX (K : PySem.W.Frag) (W : WX) (m : MSX) : TS := fun D σ H => ∃ ρ S E r S', Rel K H ρ S E σ ∧ m E S = some (r, S') ∧ ∀ H' ρ', Ext ρ H ρ' H' → RelS K H' ρ' S' → match r with
  | .ok f => FlK K D H' ρ' f
  | .error (e, E') => ∀ σ', RelE K H' ρ' E' σ' → ExK K (fun c d H => W c d σ' H) H' ρ' e
section
variable {X : Cx} {W : WX} {e : Expr} {es : List Expr} {pos : Pos} {st : Stmt} {sts : List Stmt}
def xOf (m : ME) : MEX := fun E => okX (m E)
theorem reX_of {m : ME} (h : PE X e (tE X.K m)) : PE X e (tEX X.K W (xOf m)) := pe_wk h fun σ H Q q => by
  obtain ⟨ρ, S, E, r, S', rr, hm, k⟩ := q
  obtain ⟨d, S1, h1, e1⟩ := okX_some hm
  cases e1
  exact ⟨ρ, S, E, d, _, rr, h1, fun v H' ρ' e' s' r' => k H' ρ' e' s' v r'⟩
def xaOf (m : MA) : MAX := fun E => okX (m E)
theorem raX_of {m : MA} (h : PA X es (tA X.K m)) : PA X es (tAX X.K W (xaOf m)) := pa_wk h fun σ H Q q => by
  obtain ⟨ρ, S, E, r, S', rr, hm, k⟩ := q
  obtain ⟨d, S1, h1, e1⟩ := okX_some hm
  cases e1
  exact ⟨ρ, S, E, d, _, rr, h1, fun v H' ρ' e' s' r' => k H' ρ' e' s' v r'⟩
/-- e, .. where the first may raise -/
def xaCons (m : MEX) (r : MA) : MAX := fun E => bndX (m E) fun d => okX (bnd (r E) fun ds => ret (d :: ds))
theorem raX_cons {ma : MEX} {mr : MA} (ha : PE X e (tEX X.K W ma)) (hr : PA X es (tA X.K mr)) (hs : starEach (e :: es) X.env = (false, eval e X.env) :: starEach es X.env := by rfl) : PA X (e :: es) (tAX X.K W (xaCons ma mr)) := by
  refine pa_wk (pa_cons ha hr hs) fun σ H Q q => ?_
  obtain ⟨ρ, S, E, r, S', rr, hm, k⟩ := q
  rcases bndX_some hm with ⟨d, S1, h1, hm⟩ | ⟨x, S1, h1, e1⟩
  · obtain ⟨ds, S2, h2, e2⟩ := okX_some hm
    cases e2
    obtain ⟨ys, S3, h3, h4⟩ := bnd_some h2
    obtain ⟨rfl, rfl⟩ := ret_some h4
    refine ⟨ρ, S, E, .ok d, S1, rr, h1, fun H1 ρ1 e1 s1 v r1 => ⟨ρ1, S1, E, ys, S', ⟨s1, rr.e.ext e1⟩, h3, fun w H2 ρ2 e2 s2 r2 => ?_⟩⟩
    exact k H2 ρ2 (e1.trans e2) s2 _ (.cons (r1.ext e2) r2)
  · cases e1
    exact ⟨ρ, S, E, .error x, S', rr, h1, fun H1 ρ1 e1 s1 => k H1 ρ1 e1 s1⟩
def rDX (K : PySem.W.Frag) (o : OCX) (xs : List V) (H : Hp) (Q : VK) (E : XK) : Prop := ∃ ρ S ds r S', RelS K H ρ S ∧ RelDs K H ρ ds xs ∧ o ds S = some (r, S') ∧ ∀ H' ρ', Ext ρ H ρ' H' → RelS K H' ρ' S' → match r with
  | .ok d => ∀ v, RelD K H' ρ' d v → Q v H'
  | .error e => ExK K E H' ρ' e
end
/-- the def at f does what o says, or raises what o says -/
structure FnX (gg : Bool) (P : Program) (w : World) (K : PySem.W.Frag) (mg : Str → Option Value) (base : Heap) (k : Nat) (f : Addr) (fd : FuncData) (ps : List Str) (o : OCX) : Prop where
  len : ∀ ds S r, o ds S = some r → ds.length = ps.length
  run : ∀ (A : Around) (outer : List Env) (s : Shared) (H : Hp) (args : Args) (us : List Value) (vs : List V) (Q : VK) (E : XK), RoomG gg k A → Env0 P w K mg base A outer s H → BindsTo s fd args (ps.zip us) → Vals vs us → rDX K o vs H Q E →
    codeAny (model P w) A (.call (.ref f) args) (CR (L2.CX P w) outer P w H s Q E) s
noncomputable def fnX (N np : Nat) (m : MSX) : OCX := fun ds S => if ds.length = np then match m (startE N ds) S with
    | some (.ok (.rt d), S2) => okX (fun _ => trim S d S2) S
    | some (.ok (.nx _), S2) => okX (fun _ => trim S (.p .non) S2) S
    | some (.error (e, _), S2) => match trim S (.p .non) S2 with
      | some (_, S') => some (.error e, S')
      | none => none
    | _ => none
  else none
section
variable {K : PySem.W.Frag} {H H' : Hp} {ρ ρ' : Wd} {S S2 : List Cell}
theorem trim_ex {d : D} {S' : List Cell} (s0 : RelS K H ρ S) (e : Ext ρ H ρ' H') (s2 : RelS K H' ρ' S2) (ht : trim S (.p .non) S2 = some (d, S')) : Ext ρ H ρ H' ∧ RelS K H' ρ S' ∧ Pers ρ' H' ρ H' := by
  obtain ⟨news, en, fn⟩ := e.pre
  have hlen : S.length = ρ.c.length := s0.len
  have hpre : ∀ i, i < S.length → ρ.c[i]? = ρ'.c[i]? := fun i hi => by
    rw [en, List.getElem?_append_left (by omega)]
  have p0 : Pers ρ' H' ρ H' := ⟨e.fl.symm, fun a o h n _ => ⟨h, fun z => n.1 (by rw [en]; exact List.mem_append_left _ z), fun z => n.2 (by rw [e.hid]; exact z)⟩⟩
  refine ⟨⟨rfl, rfl, ⟨[], by simp, by simp⟩, e.keep, e.there, e.tab⟩, ?_, p0⟩
  unfold trim at ht
  split at ht
  · rename_i hg
    cases ht
    have hl2 : S.length ≤ S2.length := by
      rw [s2.len, en, hlen]
      simp
    refine ⟨by rw [List.length_take]; omega, s0.nd, fun i c a h1 h2 => ?_, fun a ha => ⟨e.there a (s0.hid a ha).1, (s0.hid a ha).2⟩, e.tab s0.tb⟩
    have hi : i < S.length := by
      have := (List.getElem?_eq_some_iff.mp h1).1
      rw [List.length_take] at this
      omega
    have cok : cellOk S.length c := by
      rcases hg i c h1 with h | h
      · obtain ⟨a', ha'⟩ : ∃ a, ρ.c[i]? = some a := ⟨_, List.getElem?_eq_getElem (by omega)⟩
        obtain ⟨o, _, rc⟩ := s0.here i c a' h ha'
        rw [hlen]
        exact relC_ok rc
      · exact h
    have h1' : S2[i]? = some c := by
      rw [List.getElem?_take_of_lt hi] at h1
      exact h1
    obtain ⟨o, ho, rc⟩ := s2.here i c a h1' (by rw [← hpre i hi]; exact h2)
    exact ⟨o, ho, relC_cut hpre p0 cok rc⟩
  · cases ht
end
section
variable {P : Program} {w : World} {K : PySem.W.Frag} {mg : Str → Option Value} {base : Heap}
theorem FnX.mono {gg : Bool} {j k : Nat} {f : Addr} {fd : FuncData} {ps : List Str} {o : OCX} (F : FnX gg P w K mg base j f fd ps o) (h : j ≤ k) : FnX gg P w K mg base k f fd ps o :=
  ⟨F.len, fun A outer s H args us vs Q E hr => F.run A outer s H args us vs Q E (hr.mono h)⟩
theorem FnX.of {gg : Bool} {x qual : Str} {st : Stmt} {f : Addr} {fd : FuncData} {N ps : List Str} {k : Nat} {m : MSX} (F : Fun K x qual st f fd) (sc : FnScope N ps (defScope st))
    (hw : ∀ (cdv : Value) (A : Around) (outer : List Env) (s : Shared) (H : Hp) (E : XK), RoomG gg k (A.deeper (envOfC qual (defScope st) s.heap.objs.size f cdv)) →
      PSs (cxOf (L2.CX P w) P w K mg base N qual (defScope st) f cdv A outer s H E) (defBody st) (tSX K (fun c d _ H' => E c d H') m)) : FnX gg P w K mg base (k + 1) f fd ps (fnX N.length ps.length m) := by
  obtain ⟨oc, od, kV, doc, pm, an, cdv, ct, osl, rfl, lk, hcd⟩ := F.ex
  have hlen : ∀ ds S r, fnX N.length ps.length m ds S = some r → ds.length = ps.length := fun ds S r h => by
    unfold fnX at h
    split at h
    · assumption
    · cases h
  refine ⟨hlen, fun A outer s H args us vs Q E hr e0 hb rv h => ?_⟩
  obtain ⟨ρ, S, ds, r, S', s0, rd, hf, kk⟩ := h
  have hl := hlen _ _ _ hf
  have hlv : vs.length = ps.length := by rw [← relDs_len rd]; exact hl
  have KX : K.In s.heap := e0.mod.kin.keeps fun b o e => (e0.bs b o e).1
  have lim := e0.mod.nolimit.keeps (h' := s.heap) fun b o e => (e0.bs b o e).1
  have cellP : ∀ y ∈ ps.zip us, (defScope st).names.lookup y.1 = some .local ∨ ((defScope st).names.lookup y.1 = some .cell ∧ ((cellsFrom (s.heap.objs.size + 1) (defScope st).names []).lookup y.1).isSome = true) := by
    rintro ⟨n, v⟩ hy
    have hn := (List.of_mem_zip hy).1
    exact (sc.par n hn).imp id fun q => ⟨q, PySem.W.cellsFrom_some _ _ _ (Or.inl q)⟩
  refine codeAny_call_function hr.room.depth (KX _ _ lk) rfl sc.co sc.gen rfl (PySem.W.codeRec_of KX hcd) (hb _ _ _ _ ?_)
  refine wpAny_newFunctionEnv_cells sc.kind cellP fun env he s1 x1 => ?_
  subst he
  refine ⟨lim.keeps x1.toInCall.keep, codeAny_func ?_⟩
  have body := hw cdv A outer s H E (hr.deeper _)
  have I := inv_start (CX := L2.CX P w) (E := E) sc hr.room.hd e0 hlv rv x1
  have reading : tSX K (fun c d _ H' => E c d H') m { nx := fun _ H' => Q .non H', rt := Q } (L2.start N vs) H := by
    unfold fnX at hf
    rw [if_pos hl] at hf
    split at hf
    · rename_i d0 S2 hm
      obtain ⟨q, S3, ht, e1⟩ := okX_some hf
      cases e1
      refine ⟨ρ, S, startE N.length ds, .ok (.rt d0), S2, ⟨s0, startE_rel rd⟩, hm, fun H' ρ' e s2 v r => ?_⟩
      obtain ⟨ρ'', e', s', r'⟩ := trim_ok s0 e s2 r ht
      exact kk H' ρ'' e' s' v r'
    · rename_i E0 S2 hm
      obtain ⟨q, S3, ht, e1⟩ := okX_some hf
      cases e1
      refine ⟨ρ, S, startE N.length ds, .ok (.nx E0), S2, ⟨s0, startE_rel rd⟩, hm, fun H' ρ' e s2 σ r => ?_⟩
      obtain ⟨ρ'', e', s', r'⟩ := trim_ok (v := .non) s0 e s2 (by simp only [RelD, RelP]) ht
      exact kk H' ρ'' e' s' .non r'
    · rename_i e E0 S2 hm
      split at hf
      · rename_i d1 S3 ht
        cases hf
        refine ⟨ρ, S, startE N.length ds, .error (e, E0), S2, ⟨s0, startE_rel rd⟩, hm, fun H' ρ' e' s2 σ' re dd ws h1 h2 h3 => ?_⟩
        obtain ⟨a1, a2, a3⟩ := trim_ex s0 e' s2 ht
        exact kk H' ρ a1 a2 dd ws h1 (a3.keep dd _ h1 h2 (fun _ => nofun)).2 (RelFs.pers a3 h3)
      · cases hf
    · cases hf
  refine wpAny_mono (body.run [] s1 (L2.start N vs) H _ I reading) (fun fl s' hs => ?_) fun e s' hs => hs
  have done : ∀ {σ' : L2.St} {H' : Hp} {v : V} {u : Value}, Inv (cxOf (L2.CX P w) P w K mg base N qual (defScope st) f cdv A outer s H E) [] σ' H' s' → RelV v u → Q v H' → CE outer P w H s Q u s' := by
    intro σ' H' v u J rv' q
    exact ⟨v, H', J.os, J.bare, J.base, J.hok, rv', q⟩
  cases fl with
  | ret u =>
    obtain ⟨v, σ', H', J, r1, q1⟩ := hs
    exact done J r1 q1
  | next =>
    obtain ⟨σ', H', J, q1⟩ := hs
    exact done (v := .non) (u := Value.none) J rfl q1
  | brk => obtain ⟨_, _, _, z⟩ := hs; exact False.elim z
  | cont => obtain ⟨_, _, _, z⟩ := hs; exact False.elim z
end
end Pt
set_option maxRecDepth 100000
set_option maxHeartbeats 1000000
/-! Pt14: rules for what may raise: calls, statements, raise. -/
namespace Pt
open PySem PySem.Spec PyProof.Rows L2
section
variable {X : Cx} {W : WX} {k : Nat} {f : Addr} {fd : FuncData} {ps : List Str} {o : OCX} {x : Str} {p pos : Pos} {e : Expr} {es : List Expr} {st : Stmt} {sts : List Stmt}
theorem run_x {gg : Bool} {pins : List (Addr × Obj)} {σ : L2.St} {H : Hp} {s : Shared} {Q : VK} {us : List Value} {vs : List V} (F : FnX gg X.prog X.w X.K X.mg X.base k f fd ps o) (hr : RoomG gg k X.A) (hb : Binds X.K fd ps []) (tk : Takes X W)
    (I : Inv X pins σ H s) (r : Vals vs us) (h : rDX X.K o vs H Q (fun c d H => W c d σ H)) : wpAny (model X.prog X.w) X.A (call (.ref f) us) (EP X pins σ Q) X.xe s := by
  have hl : us.length = ps.length := by
    obtain ⟨ρ, S, ds, d, S', _, rd, hf, _⟩ := h
    rw [← r.length, ← relDs_len rd]
    exact F.len _ _ _ hf
  have hbs := hb s us I.kIn (by rw [List.append_nil]; exact hl)
  rw [List.append_nil] at hbs
  refine wpAny_call (codeAny_mono (F.run X.A X.stack s H ⟨us, []⟩ us vs Q _ hr I.env0 hbs r h) fun res s' hq => ?_)
  cases res with
  | error e => exact tk e s' (XE.of_call I (fun cls d H' h => h) hq)
  | ok fl =>
    cases fl with
    | ret u => exact I.after hq
    | next => exact False.elim hq
    | brk => exact False.elim hq
    | cont => exact False.elim hq
/-- f(e, ..), f a def that may raise -/
def xCall (o : OCX) (ma : MA) : MEX := fun E => bndX (okX (ma E)) o
theorem reX_call {gg : Bool} {m : MA} (F : FnX gg X.prog X.w X.K X.mg X.base k f fd ps o) (hr : RoomG gg k X.A) (tk : Takes X W) (hg : Gl X x) (hm : X.mg x = some (.ref f)) (hk : PySem.W.keepIn X.K (.ref f) = true) (hb : Binds X.K fd ps [])
    (ha : PA X (e :: es) (tA X.K m)) (hdb : (x == ("__debug__" : Str)) = false := by decide) (he : starEach (e :: es) X.env = (false, eval e X.env) :: starEach es X.env := by rfl) (hpl : (backTo pos (starEach es X.env)).any (·.1) = false := by rfl) :
    PE X (.Call (.Name x p) (e :: es) [] pos) (tEX X.K W (xCall o m)) := by
  refine ⟨fun pins s σ H Q I h => ?_⟩
  obtain ⟨ρ, S, E, r, S', rr, hmm, kk⟩ := h
  rcases bndX_some hmm with ⟨ds, S1, h1, h2⟩ | ⟨x, S1, h1, _⟩
  · obtain ⟨ds', S1', h1', e1⟩ := okX_some h1
    cases e1
    refine wpAny_Call_Name_kw (ld_glob I hg hm ?_ hdb)
    refine PySem.W.callWith_K (h₀ := X.base) I.ok.mod.kin hk (thn (ha.run pos pins s σ H (fun vs H1 => rDX X.K o vs H1 Q (fun c d H => W c d σ H)) I ⟨ρ, S, E, ds, S1, rr, h1', fun vs H1 ρ1 e1 s1 r1 => ?_⟩) fun us s1 ⟨vs, H1, I1, r, q⟩ => ⟨I1.kIn, run_x F hr hb tk I1 r q⟩) he hpl
    exact ⟨ρ1, S1, ds, r, S', s1, r1, h2, fun H' ρ' e' s' => kk H' ρ' (e1.trans e') s'⟩
  · obtain ⟨_, _, _, e1⟩ := okX_some h1
    cases e1
/-- f(e, ..), an argument may raise, f does not -/
def xCallN (o : OC) (ma : MAX) : MEX := fun E => bndX (ma E) fun ds => okX (o ds)
theorem reX_callN {gg : Bool} {o : OC} {m : MAX} (F : FnG gg X.prog X.w X.K X.mg X.base k f fd ps o) (hr : RoomG gg k X.A) (hg : Gl X x) (hm : X.mg x = some (.ref f)) (hk : PySem.W.keepIn X.K (.ref f) = true) (hb : Binds X.K fd ps [])
    (ha : PA X (e :: es) (tAX X.K W m)) (hdb : (x == ("__debug__" : Str)) = false := by decide) (he : starEach (e :: es) X.env = (false, eval e X.env) :: starEach es X.env := by rfl) (hpl : (backTo pos (starEach es X.env)).any (·.1) = false := by rfl) :
    PE X (.Call (.Name x p) (e :: es) [] pos) (tEX X.K W (xCallN o m)) := by
  refine ⟨fun pins s σ H Q I h => ?_⟩
  obtain ⟨ρ, S, E, r, S', rr, hmm, kk⟩ := h
  refine wpAny_Call_Name_kw (ld_glob I hg hm ?_ hdb)
  refine PySem.W.callWith_K (h₀ := X.base) I.ok.mod.kin hk (thn (ha.run pos pins s σ H (fun vs H1 => rDC X.K o vs H1 Q) I ?_) fun us s1 ⟨vs, H1, I1, r, q⟩ => ⟨I1.kIn, run_g F hr hb I1 r q⟩) he hpl
  rcases bndX_some hmm with ⟨ds, S1, h1, h2⟩ | ⟨x, S1, h1, e1⟩
  · obtain ⟨d, S2, h3, e1⟩ := okX_some h2
    cases e1
    exact ⟨ρ, S, E, .ok ds, S1, rr, h1, fun H1 ρ1 e1 s1 vs r1 => ⟨ρ1, S1, ds, d, _, s1, r1, h3, fun v H' ρ' e' s' r' => kk H' ρ' (e1.trans e') s' v r'⟩⟩
  · cases e1
    exact ⟨ρ, S, E, .error x, S', rr, h1, fun H1 ρ1 e1 s1 => kk H1 ρ1 e1 s1⟩
/-! ### statements -/
def sxOf (m : MS) : MSX := fun E S => match m E S with
  | some (f, S1) => some (.ok f, S1)
  | none => none
theorem sxOf_some {m : MS} {E : Vr} {S : List Cell} {r : Except (Exc × Vr) Fl × List Cell} (h : sxOf m E S = some r) : ∃ f S1, m E S = some (f, S1) ∧ r = (.ok f, S1) := by
  unfold sxOf at h
  split at h
  · cases h
    exact ⟨_, _, by assumption, rfl⟩
  · cases h
theorem of_t {m : MS} : ∀ D σ H, tSX X.K W (sxOf m) D σ H → tS X.K m D σ H := fun D σ H q => by
  obtain ⟨ρ, S, E, r, S', rr, hm, k⟩ := q
  obtain ⟨f, S1, h1, e1⟩ := sxOf_some hm
  cases e1
  exact ⟨ρ, S, E, f, _, rr, h1, fun H' ρ' e' s' => k H' ρ' e' s'⟩
theorem rsX_of {m : MS} (h : PS X st (tS X.K m)) : PS X st (tSX X.K W (sxOf m)) := ps_wk h of_t
theorem rssX_of {m : MS} (h : PSs X sts (tS X.K m)) : PSs X sts (tSX X.K W (sxOf m)) := pss_wk h of_t
def sxSeq (m n : MSX) : MSX := fun E S => match m E S with
  | some (.ok (.nx E'), S1) => n E' S1
  | r => r
theorem rssX_cons {m n : MSX} (h : PS X st (tSX X.K W m)) (g : PSs X sts (tSX X.K W n)) : PSs X (st :: sts) (tSX X.K W (sxSeq m n)) := by
  refine pss_wk (pss_cons h g) fun D σ H q => ?_
  obtain ⟨ρ, S, E, r, S', rr, hm, k⟩ := q
  unfold sxSeq at hm
  split at hm
  · rename_i E1 S1 h1
    exact ⟨ρ, S, E, .ok (.nx E1), S1, rr, h1, fun H1 ρ1 e1 s1 σ1 r1 => ⟨ρ1, S1, E1, r, S', ⟨s1, r1⟩, hm, fun H2 ρ2 e2 s2 => k H2 ρ2 (e1.trans e2) s2⟩⟩
  · rename_i hne
    refine ⟨ρ, S, E, r, S', rr, hm, fun H1 ρ1 e1 s1 => ?_⟩
    have kk := k H1 ρ1 e1 s1
    cases r with
    | error x => exact kk
    | ok f =>
      cases f with
      | nx E1 => exact absurd hm (hne E1 S')
      | rt d => exact kk
      | bk d => exact kk
      | ct d => exact kk
def sxIf (t : MT) (m n : MSX) : MSX := fun E S => match t E S with
  | some (true, S1) => m E S1
  | some (false, S1) => n E S1
  | none => none
theorem rsX_if {c : Expr} {as bs : List Stmt} {t : MT} {m n : MSX} (hc : PT X c (tT X.K t)) (ha : PSs X as (tSX X.K W m)) (hb : PSs X bs (tSX X.K W n)) : PS X (.If c as bs pos) (tSX X.K W (sxIf t m n)) := by
  refine ps_wk (ps_if hc ha hb) fun D σ H q => ?_
  obtain ⟨ρ, S, E, r, S', rr, hm, k⟩ := q
  unfold sxIf at hm
  split at hm
  · rename_i S1 h1
    refine ⟨ρ, S, E, true, S1, rr, h1, fun H1 ρ1 e1 s1 => ?_⟩
    show tSX X.K W m D σ H1
    exact ⟨ρ1, S1, E, r, S', ⟨s1, rr.e.ext e1⟩, hm, fun H2 ρ2 e2 s2 => k H2 ρ2 (e1.trans e2) s2⟩
  · rename_i S1 h1
    refine ⟨ρ, S, E, false, S1, rr, h1, fun H1 ρ1 e1 s1 => ?_⟩
    show tSX X.K W n D σ H1
    exact ⟨ρ1, S1, E, r, S', ⟨s1, rr.e.ext e1⟩, hm, fun H2 ρ2 e2 s2 => k H2 ρ2 (e1.trans e2) s2⟩
  · cases hm
/-- what an expression's outcome makes as a statement -/
def sxE (m : MEX) (f : D → Vr → M Fl) : MSX := fun E S => match m E S with
  | some (.ok d, S1) => match f d E S1 with
    | some (x, S2) => some (.ok x, S2)
    | none => none
  | some (.error e, S1) => some (.error (e, E), S1)
  | none => none
def sxRet (m : MEX) : MSX := sxE m fun d _ => ret (.rt d)
theorem rsX_ret {m : MEX} (h : PE X e (tEX X.K W m)) : PS X (.Return (some e) pos) (tSX X.K W (sxRet m)) := by
  refine ps_wk (ps_ret h) fun D σ H q => ?_
  obtain ⟨ρ, S, E, r, S', rr, hm, k⟩ := q
  unfold sxRet sxE at hm
  split at hm
  · rename_i d S1 h1
    cases hm
    exact ⟨ρ, S, E, .ok d, S', rr, h1, fun H1 ρ1 e1 s1 v r1 => k H1 ρ1 e1 s1 v r1⟩
  · rename_i x S1 h1
    cases hm
    exact ⟨ρ, S, E, .error x, S', rr, h1, fun H1 ρ1 e1 s1 => k H1 ρ1 e1 s1 σ (rr.e.ext e1)⟩
  · cases hm
def sxSet (m : MEX) (t : Tg) : MSX := sxE m fun d E S => match t d E with
  | some E' => some (.nx E', S)
  | none => none
theorem asgX_t {m : MEX} {vs : List Nat} {g : TG} {t : Tg} (r2 : RelG X.K vs g t) : ∀ D σ H, tSX X.K W (sxSet m t) D σ H → tAsg (tEX X.K W m) g D σ H := fun D σ H q => by
  obtain ⟨ρ, S, E, r, S', rr, hm, k⟩ := q
  unfold sxSet sxE at hm
  split at hm
  · rename_i d S1 h1
    simp only at hm
    cases he : t d E with
    | some E' =>
      rw [he] at hm
      cases hm
      refine ⟨ρ, S, E, .ok d, S', rr, h1, fun H1 ρ1 e1 s1 v r1 => ?_⟩
      exact r2 ρ1 _ E E' σ H1 d v _ ⟨s1, rr.e.ext e1⟩ r1 he fun σ' re' _ => k H1 ρ1 e1 s1 σ' re'
    | none =>
      rw [he] at hm
      cases hm
  · rename_i x S1 h1
    cases hm
    exact ⟨ρ, S, E, .error x, S', rr, h1, fun H1 ρ1 e1 s1 => k H1 ρ1 e1 s1 σ (rr.e.ext e1)⟩
  · cases hm
theorem rsX_set {i : Nat} {pos' : Pos} {m : MEX} (hN : X.N.Nodup) (hi : X.N[i]? = some x) (hx : Loc X.env.scope x) (h : PE X e (tEX X.K W m)) (hs : swapsWith e (some (.Name x pos')) pos.line X.env = pure false := by rfl)
    (hf : X.fn x = true ∨ X.env.scope.names.lookup x = some .local) : PS X (.Assign [.Name x pos'] e pos) (tSX X.K W (sxSet m (gN i))) :=
  ps_wk (ps_set hN hi hx h hs hf) (asgX_t (rel_gN i))
theorem rsX_asg {tg : Expr} {vs : List Nat} {t : Tg} {m : MEX} (h : PE X e (tEX X.K W m)) (hg : RG X tg vs t) (hs : swapsWithSole [tg] e pos.line X.env = pure false := by rfl) (hw : swappedStores [tg] e X.env = pure none := by rfl)
    (h1 : (assignEach [tg] X.env).map (·.2) = [assign tg X.env] := by rfl) : PS X (.Assign [tg] e pos) (tSX X.K W (sxSet m t)) := by
  obtain ⟨g, p, r⟩ := hg.ex
  exact ps_wk (ps_asg h p hs hw h1) (asgX_t r)
/-! ### raise -/
theorem relF_one {K : PySem.W.Frag} {H : Hp} {ρ : Wd} {f : Str} {d : PD} {v : V} (r : RelP K H ρ d v) : RelFs K H ρ [(f, d)] [(f, v)] := by
  simp only [RelFs]
  exact ⟨v, [], rfl, r, rfl⟩
def sxRaise1 (C : Addr) (f : Str) (m : ME) : MSX := fun E S => match m E S with
  | some (.p d, S1) => some (.error ((C, [(f, d)]), E), S1)
  | _ => none
theorem relO1 {f : Str} {v : V} {v' : Value} (r : RelV v v') (g : Str) : RelO (List.lookup g [(f, v)]) (List.lookup g [(f, v')]) := by
  by_cases h : g = f
  · subst h
    have e : ∀ {α : Type} (y : α), List.lookup g [(g, y)] = some y := fun y => by simp [List.lookup]
    rw [e, e]
    exact r
  · have e : (g == f) = false := by simpa using h
    have e2 : ∀ {α : Type} (y : α), List.lookup g [(f, y)] = none := fun y => by simp [List.lookup, e]
    rw [e2, e2]
    trivial
/-- raise NotNamed(e) -/
theorem rsX_raise_name {gg : Bool} {C fI : Addr} {q : Str} {pos2 : Pos} {m : ME} (hc : X.calm = true) (T : SupCls X.prog X.K X.mg x C fI) (TF : SupFn X.prog X.K C fI q argNN bdyNN (scp1 "name")) (noN : PySem.W.findIn X.K (.ref C) "name" = some none) (hr : RoomG gg (k + 1) X.A) (tk : Takes X W)
    (he : PE X e (tE X.K m)) (hg : Gl X x) (hdb : (x == ("__debug__" : Str)) = false := by decide)
    (hs : starEach (e :: []) X.env = (false, eval e X.env) :: starEach [] X.env := by rfl) (hpl : (backTo pos (starEach [] X.env)).any (·.1) = false := by rfl) :
    PS X (.Raise (some (.Call (.Name x p) [e] [] pos)) none pos2) (tSX X.K W (sxRaise1 C "name" m)) := by
  have mk : PMk X (.Call (.Name x p) [e] [] pos) (fun σ H Q => tE X.K m σ H fun v H1 => ∀ d, H1 d = none → Q (.ref C) (some d) (upd H1 d (.xd [(("name" : Str), v)]))) := by
    intro pins s σ H Q I h
    refine wpAny_Call_Name_kw (ld_glob I hg T.gC ?_ hdb)
    refine PySem.W.callWith_K (h₀ := X.base) I.ok.mod.kin T.kC ?_ hs hpl
    rw [hs]
    show wpAny _ _ (spliced ((false, eval e X.env) :: backTo pos (starEach [] X.env))) _ _ s
    refine Calls.spliced_cons (thn (he.run pins s σ H _ I h) fun u s1 ⟨v, H1, I1, rv, q1⟩ => ?_)
    refine Calls.spliced_nil ⟨I1.kIn, ?_⟩
    show wpAny _ _ (call (.ref C) [u]) _ _ _
    have hlim := I1.nolimit
    have hgb : GB X.mg s1.heap := ⟨I1.mod.glob.keeps I1.bk, let ⟨mb, h1, h2⟩ := I1.mod.blt; ⟨mb, h1.keeps I1.bk, h2⟩⟩
    obtain ⟨hp, g, dr, tk', os⟩ := s1
    refine wpAny_call (made_name T TF noN I1.kIn hgb hlim (by have := hr.room.dp; omega) fun h' tk' e' d M => ?_)
    show MkP X pins σ Q (.ref e') ⟨h', g, dr, tk', os⟩
    obtain ⟨oe, fv, hoe, hc', hd, hdat, h1⟩ := M.obj
    have hns := M.ns
    obtain ⟨G', g1, g2⟩ := restrict h' fun b => decide (b ≠ e')
    have gk : ∀ b, b ≠ e' → G'.get? b = h'.get? b := fun b hb => g1 b (decide_eq_true hb)
    have ge : G'.get? e' = none := g2 e' (by simp)
    have old : ∀ b o, hp.get? b = some o → G'.get? b = some o := fun b o q => (gk b (Nat.ne_of_lt (Nat.lt_of_lt_of_le (Heap.lt_size q) M.new))).trans (M.keep b o q)
    have ob : ObjOk X.prog X.w (upd H1 d (.xd [(("name" : Str), v)])) G' d (.xd [(("name" : Str), v)]) :=
      ⟨_, hns.at (fun o q => (gk d M.dne).trans q), fun f => relO1 rv f⟩
    have J : Inv X pins σ (upd H1 d (.xd [(("name" : Str), v)])) ⟨G', g, dr, tk', os⟩ := I1.laid (t' := tk') old M.dbig ob
    refine ⟨e', oe, fv, ⟨G', g, dr, tk', os⟩, _, .ref C, some d, rfl, J, fun b o q => ?_, ge, hoe, ⟨hc', hd⟩, hdat, h1, ?_, rfl, I1.bare, raises_own T.exC T.tyC, q1 d (I1.hok.fresh M.dbig)⟩
    · by_cases hb : b = e'
      · have q' : G'.get? b = some o := q
        rw [hb, ge] at q'; cases q'
      · exact (gk b hb).symm.trans q
    · rw [upd_ne (Ne.symm M.dne)]
      exact I1.hok.fresh M.new
  refine ps_wk (ps_raise hc tk mk) fun D σ H q => ?_
  obtain ⟨ρ, S, E, r, S', rr, hm, kk⟩ := q
  unfold sxRaise1 at hm
  split at hm
  · rename_i d S1 h1
    cases hm
    refine ⟨ρ, S, E, .p d, S', rr, h1, fun v H1 ρ1 e1 s1 r1 dd hdd => ?_⟩
    have ex := Ex.new (o := .xd [(("name" : Str), v)]) hdd
    have e2 := e1.trans ex.ext
    exact kk _ ρ1 e2 (s1.ex ex) σ (rr.e.ext e2) dd _ upd_same (s1.fresh hdd) (relF_one (RelP.ext ex.ext r1))
  · cases hm
end
end Pt
set_option maxRecDepth 100000
set_option maxHeartbeats 1000000
/-! Pt15: try: body / except X as n: suite, the exception held behind the suite; _law_refused. -/
namespace Pt
open PySem PySem.Spec PyProof.Rows L2
section
variable {X : Cx} {pins : List (Addr × Obj)} {σ : L2.St} {H : Hp} {s : Shared}
/-- an object of ours that no one tells of is told of -/
theorem learn {a : Addr} {u : HO} {oe : Obj} (I : Inv X pins σ H s) (hn : H a = none) (n0 : X.s_0.heap.get? a = none) (ha : s.heap.get? a = some oe) (new : ObjOk X.prog X.w (upd H a u) s.heap a u) (hL : a ≠ X.env.locals) (hC : ∀ v, oe.data ≠ .cell v) (hp : ∀ p ∈ X.pn ++ pins, p.1 ≠ a) : Inv X pins σ (upd H a u) s := by
  have ne0 : ∀ b o, X.s_0.heap.get? b = some o → b ≠ a := fun b o e z => by rw [z, n0] at e; cases e
  have neC : ∀ x c, X.env.cells.lookup x = some c → c ≠ a := fun x c e z => by
    obtain ⟨v, o, ho, hd⟩ := I.cell x c e
    rw [z, ha] at ho
    cases ho
    exact hC v hd
  refine ⟨I.ok, I.os, I.bare, ⟨I.base.keep, I.base.slot, fun b o e n hx => ?_, I.base.there, fun b xs e => ?_, fun b o xs e => ?_, fun b ps e => ?_⟩, I.loc, I.cell, ?_, fun x c e => ?_, fun p hq => ?_, I.hok.laidN (fun _ _ e => e) hn new, I.len⟩
  · rw [upd_ne (ne0 b o e)]
    exact I.base.free b o e n hx
  · have q := I.base.tups b xs e
    rw [upd_ne (ne_of_none q hn)]
    exact q
  · have q := I.base.frzs b o xs e
    rw [upd_ne (ne_of_none q hn)]
    exact q
  · obtain ⟨m, q⟩ := I.base.tbls b ps e
    exact ⟨m, by rw [upd_ne (ne_of_none q hn)]; exact q⟩
  · rw [upd_ne (Ne.symm hL)]
    exact I.free
  · rw [upd_ne (neC x c e)]
    exact I.freeC x c e
  · obtain ⟨e1, e2, e3⟩ := I.pin p hq
    exact ⟨e1, by rw [upd_ne (hp p hq)]; exact e2, e3⟩
end
/-- what the clause 'except x as n' wishes of an exception of the body, where the exception is held behind the suite -/
def wHold (K : PySem.W.Frag) (c : Value) (i : Nat) (ts : Addr → Value → Option Addr → TS) (Wout : WX) (D : Ends) : WX := fun cls d σ H =>
  ∃ b, PySem.W.exmOne K cls c = some b ∧ (b = true → ∀ a, H a = none → ts a cls d { nx := fun σ' H' => ∀ oe, Zc cls d oe → (∃ vs, oe.data = .fields vs) → H' a = none → D.nx (σ'.set i none) (upd H' a (.frz oe (.own a))), rt := fun _ _ => False } (σ.set i (some (.ref a))) H) ∧
    (b = false → Wout cls d σ H)
section
variable {X : Cx} {x n : Str} {c : Value} {i : Nat} {body suite : List Stmt} {b₀ : Stmt} {np pos pos' : Pos} {tb : WX → TS} {ts : Addr → Value → Option Addr → TS} {Wout : WX}
theorem ps_try_hold (hs : X.stack = X.env :: X.outer) (hf : X.env.frame = some X.env.locals) (hex : X.ex = []) (hN : X.N.Nodup) (hi : X.N[i]? = some n) (hln : X.env.kindOf n = some .local) (hc : Names X x c) (tk : Takes X Wout)
    (hb : ∀ (W : WX) (pn : List (Addr × Obj)) (xe : Value → Shared → Prop), Takes (X.tr pn xe) W → PassesOwn (model X.prog X.w) X.A X.env xe → PSs (X.tr pn xe) body (tb W))
    (hsu : ∀ (a : Addr) (oe : Obj) (cls : Value) (d : Option Addr) (pn : List (Addr × Obj)), Zc cls d oe → (∃ vs, oe.data = .fields vs) → PSs (X.suite a ((a, oe) :: pn)) (b₀ :: suite) (ts a cls d)) :
    PS X (.Try body [.ExceptHandler (some (.Name x np)) (some n) (b₀ :: suite) pos'] [] [] pos) (fun D σ H => tb (wHold X.K c i ts Wout D) D σ H) := by
  refine ⟨fun pins s σ H D I h => ?_⟩
  have ok := I.ok
  have frames := ok.frames
  rw [hs] at frames
  refine wpAny_Try_except ?_
  have start := (hb (wHold X.K c i ts Wout D) (X.pn ++ pins) (fun e s₁ => wpAny (model X.prog X.w) X.A (noteFrame e X.env) (fun _ s₂ => wpAny (model X.prog X.w) X.A (setFlight e none) (fun _ s₃ =>
    wpAny (model X.prog X.w) X.A (handleBy e X.env [.ExceptHandler (some (.Name x np)) (some n) (b₀ :: suite) pos']) (SP X pins D) X.xe s₃) X.xe s₂) X.xe s₁) (fun u s' xx => ?_) PassesOwn.looking).run [] s σ H D (I.toTry _) h
  · refine wpAny_mono start (fun f s1 hsp => ?_) fun e s1 he => he
    cases f with
    | next =>
      obtain ⟨σ', H', J', q⟩ := hsp
      exact wpAny_execs_nil ⟨σ', H', J'.ofTry ok, q⟩
    | brk =>
      obtain ⟨σ', H', J', q⟩ := hsp
      exact ⟨σ', H', J'.ofTry ok, q⟩
    | cont =>
      obtain ⟨σ', H', J', q⟩ := hsp
      exact ⟨σ', H', J'.ofTry ok, q⟩
    | ret u =>
      obtain ⟨v, σ', H', J', r, q⟩ := hsp
      exact ⟨v, σ', H', J'.ofTry ok, r, q⟩
  · obtain ⟨a, B, sI, pins', σ', H', cls, d, rfl, JI, nb, up, sky, na, os, ag, b, hb1, hyes, hno⟩ := xx
    have J : Inv X pins σ' H' sI := JI.ofTry ok
    have nfrA : a ∉ frs X.stack := fun hm => by
      obtain ⟨_, o, ho, hd⟩ := J.stack.mem hm
      rcases sky with ⟨_, hBn, hff, oe, vs, hoe, _, hdat, _⟩ | fl | hh
      · obtain ⟨_, o', ho', hd'⟩ := hff.mem hm
        rw [hoe] at ho'
        cases ho'
        exact hd' _ hdat
      · obtain ⟨oe, vs, hoe, _, hdat⟩ := fl.there
        obtain ⟨_, o', ho', hd'⟩ := fl.2.2.1.mem hm
        rw [hoe] at ho'
        cases ho'
        exact hd' _ hdat
      · obtain ⟨_, _, _, oe, vs, T, oT, ts', hoe, _, hdat, _⟩ := id hh
        obtain ⟨_, o', ho', hd'⟩ := hh.2.2.1.mem hm
        rw [hoe] at ho'
        cases ho'
        exact hd' _ hdat
    have nB : B.get? a = none := by
      rcases sky with ⟨_, hBn, _⟩ | fl | hh
      · exact hBn
      · exact fl.2.1
      · exact hh.2.1
    have nI : sI.heap.get? a = none := by
      cases e : sI.heap.get? a with
      | none => rfl
      | some o =>
        have z := nb a o e nfrA
        rw [nB] at z
        cases z
    have n0 : X.s_0.heap.get? a = none := by
      cases e : X.s_0.heap.get? a with
      | none => rfl
      | some o =>
        obtain ⟨o', z⟩ := J.base.there a o e (by rw [hex]; exact fun z => nomatch z)
        rw [nI] at z
        cases z
    have npin : ∀ p ∈ X.pn ++ pins, p.1 ≠ a := fun p hp z => by
      have e := (J.pin p hp).1
      rw [z, nI] at e
      cases e
    have sky' : Sky B (X.env :: X.outer) a (Zc cls d) X.env.locals s'.heap := by rw [← hs]; exact sky
    show wpAny (model X.prog X.w) X.A (noteFrame (.ref a) X.env) _ _ _
    refine Sky.land Zc.steady frames hf sky' fun h3 fl3 up3 => ?_
    have J3 : Inv X pins σ' H' { s' with heap := h3 } := J.landed nb fl3.1 (up.trans up3) os ag
    obtain ⟨oe3, vs3, he3, hz3, hd3⟩ := fl3.there
    have nL : a ≠ X.env.locals := fun z => nfrA (by rw [hs]; exact List.mem_filterMap.mpr ⟨X.env, List.mem_cons_self, by rw [hf, z]⟩)
    have nF : a ∉ X.fs := fun hm => nfrA (by
      rw [hs]
      obtain ⟨e, he, q⟩ := List.mem_filterMap.mp hm
      exact List.mem_filterMap.mpr ⟨e, List.mem_cons_of_mem _ he, q⟩)
    have S3 := J3.suite he3 hd3 na nL nF
    refine wpAny_handleBy_cons (codeAny_handlers_test ?_) (by intro q; cases q)
    have LT : PySem.W.Looks (model X.prog X.w) h3 (typeOf (.ref a)) cls := fun A Q E s k q => wpAny_typeOf_ref (k _ _ he3) (by rw [hz3.1]; exact q)
    have LM := PySem.W.exm_one (M := model X.prog X.w) (J3.kIn) LT hb1
    have test : ∀ {Q : Value → Shared → Prop} {E : Value → Shared → Prop}, Q c { s' with heap := h3 } → wpAny (model X.prog X.w) (X.A.mark (some (.ref a))) (eval (.Name x np) X.env) Q E { s' with heap := h3 } := fun {Q E} q => by
      obtain ⟨hg, hdbg, hm | ⟨hm, hv, hnn⟩⟩ := hc
      · exact ld_glob (X := X.suite a ((a, oe3) :: (X.pn ++ pins))) S3 hg hm q hdbg
      · exact ld_blt (X := X.suite a ((a, oe3) :: (X.pn ++ pins))) S3 hg hm hv q hnn hdbg
    refine test (LM.here ?_)
    cases b with
    | true =>
      refine codeAny_handlers_suite_as ?_
      refine HandSPX.lands_againZ fl3 fun h4 fl4 up4 => ?_
      have J4 : Inv X pins σ' H' { s' with heap := h4 } := J.landed nb fl4.1 ((up.trans up3).trans up4) os ag
      obtain ⟨oe4, vs4, he4, hz4, hd4⟩ := fl4.there
      have S4 := J4.suite he4 hd4 na nL nF
      refine store_ok (X := X.suite a ((a, oe4) :: (X.pn ++ pins))) (v := .ref a) S4 hN hi (.inl hln) rfl (fun s5 S5 => ?_) (.inr hln)
      refine wpAny_mono ((hsu a oe4 cls d (X.pn ++ pins) hz4 ⟨_, hd4⟩).run [] s5 _ H' _ S5 (hyes rfl a na)) (fun f s6 hsp => ?_) (fun _ _ z => False.elim z)
      cases f with
      | next =>
        obtain ⟨σ6, H6, S6, q6⟩ := hsp
        obtain ⟨p1, p2, p3, p4, p5⟩ := S6.pin (a, oe4) (List.mem_append_left _ List.mem_cons_self)
        have I6 : Inv X ((a, oe4) :: pins) σ6 H6 s6 := (S6.unsuite ok).pins_of fun p hp => by
          rcases List.mem_cons.mp hp with rfl | hp
          · exact ⟨p1, p2, p3, p4, p5⟩
          · exact S6.pin p (List.mem_append_left _ (List.mem_cons_of_mem _ (List.mem_append_right _ hp)))
        refine gone_ok I6 hN hi hln fun s7 I7 => ?_
        obtain ⟨r1, r2, _, _, _⟩ := I7.pin (a, oe4) (List.mem_append_right _ List.mem_cons_self)
        have I8 : Inv X pins (σ6.set i none) H6 s7 := I7.pins_of fun p hp => I7.pin p (List.mem_append_right _ (List.mem_cons_of_mem _ hp))
        have new : ObjOk X.prog X.w (upd H6 a (.frz oe4 (.own a))) s7.heap a (.frz oe4 (.own a)) := ⟨r1, oe4, r1⟩
        exact ⟨_, _, learn I8 r2 n0 r1 new nL (fun v z => by rw [hd4] at z; cases z) npin, q6 oe4 hz4 ⟨_, hd4⟩ r2⟩
      | brk =>
        obtain ⟨σ6, H6, S6, q6⟩ := hsp
        exact False.elim q6
      | cont =>
        obtain ⟨σ6, H6, S6, q6⟩ := hsp
        exact False.elim q6
      | ret u =>
        obtain ⟨v6, σ6, H6, S6, r6, q6⟩ := hsp
        exact False.elim q6
    | false =>
      show wpAny _ X.A (handleBy (.ref a) X.env []) _ _ _
      refine wpAny_handleBy_nil ?_
      obtain ⟨k1, k2, k3, oe, vs, T, oT, ts', he, hz, hd, h1, hr⟩ := id fl3
      unfold PySem.passOn
      refine wpAny_bind (wpAny_field he hd h1 ?_)
      rw [if_neg (show ¬ ((Value.ref T == Value.none) = true) from by simp)]
      have fin : wpAny (model X.prog X.w) X.A (setFlight (.ref a) X.env.frame) (fun _ s4 => wpAny (model X.prog X.w) X.A (throw (.ref a) : Sem Flow) (SP X pins D) X.xe s4) X.xe { s' with heap := h3 } := by
        rw [hf]
        refine HandSPX.setFlight_upZ fl3 fun h4 hh4 up4 => wpAny_throw (tk _ _ ?_)
        exact ⟨a, B, sI, pins, σ', H', cls, d, rfl, J, nb, (up.trans up3).trans up4, .inr (.inr (by rw [hs]; exact hh4)), na, os, ag, hno rfl⟩
      first
        | exact wpAny_bind (wpAny_pure (wpAny_bind fin))
        | exact wpAny_bind fin
end
end Pt
set_option maxRecDepth 100000
/-! PtL: the law's text. -/
namespace Pt
open PySem PySem.Spec PyProof.Rows L2
abbrev lawP : Program := PySem.Challenge.pw_pointtally_k92_whole_rooms_written_out
def top (i : Nat) : Stmt := lawP.main.body.getD i (.Pass ⟨0, 0, 0, 0⟩)
abbrev iRefused : Nat := 26
end Pt
set_option maxRecDepth 100000
set_option maxHeartbeats 1000000
/-! Pt16: _law_refused(lambda: e). -/
namespace Pt
open PySem PySem.Spec PyProof.Rows L2
open LamX
abbrev refN : List Str := ["call", "found", "error", "e"]
/-- what _law_refused makes of what it calls: [v], or the exception -/
def TRef (K : PySem.W.Frag) (CS : Addr) : (XK → Hp → VK → Prop) → Hp → VK → Prop := fun tl H Q =>
  ∀ p0 (E' : XK) (Q' : VK), H p0 = none → (∀ cls d H', PySem.W.exmOne K cls (.ref CS) = some true → (∀ a oe, H' a = none → Zc cls d oe → (∃ vs, oe.data = .fields vs) → Q (.ref a) (upd H' a (.frz oe (.own a)))) → E' cls d H') →
    (∀ v H', (∀ p, H' p = none → Q (.ref p) (upd H' p (.lst [v]))) → Q' v H') → tl E' (upd H p0 (.tup [.non, .non])) Q'
theorem takes_len {X : Cx} {W : WX} (tk : Takes X W) : Takes X (fun c d σ H => σ.length = X.N.length → W c d σ H) := fun u s' ⟨a, B, sI, pins, σ, H, cls, d, e, I, nb, up, sky, na, os, ag, w⟩ =>
  tk u s' ⟨a, B, sI, pins, σ, H, cls, d, e, I, nb, up, sky, na, os, ag, w I.len⟩
theorem ref_gives {X : Cx} {q : Str} {g CS : Addr} {cdg : Value} (hme : X.mg "TallyError" = some (.ref CS)) :
    GivesTo X refN "_law_refused" (defScope (top iRefused)) g cdg (defBody (top iRefused)) "call" q (TRef X.K CS) := by
  intro f c' s H Q tl act hc h
  have nd : refN.Nodup := by decide +kernel
  have pf : ∀ pos, PE (cxOf C8.CX0 X.prog X.w X.K X.mg X.base refN "_law_refused" (defScope (top iRefused)) g cdg X.A X.stack s H C8.E0).nox (.Name "found" pos) (tVar 1) := fun pos => pe_var (i := 1) rfl (.inl rfl)
  have pe : ∀ pos, PE (cxOf C8.CX0 X.prog X.w X.K X.mg X.base refN "_law_refused" (defScope (top iRefused)) g cdg X.A X.stack s H C8.E0).nox (.Name "error" pos) (tVar 2) := fun pos => pe_var (i := 2) rfl (.inl rfl)
  refine ⟨_, pss_cons (ps_asg (pe_tup (pa_cons pe_non (pa_cons pe_non pa_nil))) (pg_tup (n := 2) rfl (pgs_cons (pg_name (i := 1) nd rfl (.inl rfl) (.inr rfl)) (pgs_cons (pg_name (i := 2) nd rfl (.inl rfl) (.inr rfl)) pgs_nil)) (by rfl) (by rfl)) (by rfl) (by rfl) (by rfl))
    (pss_cons (ps_try_hold (X := (cxOf C8.CX0 X.prog X.w X.K X.mg X.base refN "_law_refused" (defScope (top iRefused)) g cdg X.A X.stack s H C8.E0).nox) (i := 3) (c := .ref CS) (Wout := fun _ _ _ _ => False)
      (tb := fun W D σ H => ∃ Ech : XK, (∀ cls d σ' H', Ech cls d H' → σ'.length = 4 → W cls d σ' H') ∧ σ[0]? = some (some (.ref f)) ∧ H c' = some (CodeO c' q) ∧ tl Ech H fun v H1 => gName 1 v σ H1 D.nx)
      (ts := fun a _ _ => tAsg (tVar 3) (gName 2)) rfl rfl rfl nd rfl rfl ⟨rfl, by decide, .inl hme⟩ L2.takes0 (fun W pn xe tk _ => ?_) (fun a oe cls d pn _ _ => ?_))
    (pss_one (ps_ret (pe_ifExp (pt_cmpR op_isN (pe _) pe_non (by rfl)) (pe_lst (pa_cons (pf _) pa_nil)) (pe _))))), ?_⟩
  · refine ⟨fun pins s' σ H' D I h' => ?_⟩
    obtain ⟨Ech, hW, h1, h2, h3⟩ := h'
    have hp := fun p1 p2 => act _ pn xe Ech p1 p2 (takes_len tk) (fun cls d σ' H' hE hl => hW cls d σ' H' hE hl)
    exact (pss_one (ps_set (i := 1) nd rfl (.inl rfl) (hp _ _))).run pins s' σ H' D I ⟨h1, h2, h3⟩
  · exact pss_one (ps_set (i := 2) nd rfl (.inl rfl) (pe_var (i := 3) rfl (.inl rfl)))
  · refine ⟨by show 2 ≤ sizeLine; rw [sizeLine_eq]; decide, fun p hp => ⟨p, _, rfl, .inl (.inl upd_same), rfl, .non, _, rfl, .non, _, rfl, rfl, ?_⟩⟩
    have ne : c' ≠ p := ne_of_none hc hp
    refine ⟨fun cls d H' => ∀ σ' : L2.St, σ'.length = 4 → wHold X.K (.ref CS) 3 (fun a _ _ => tAsg (tVar 3) (gName 2)) (fun _ _ _ _ => False) _ cls d σ' H', fun cls d σ' H' hE hl => hE σ' hl, rfl, by rw [upd_ne ne]; exact hc, h p _ _ hp (fun cls d H' h1 h2 σ' hl => ⟨true, h1, fun _ a ha => ?_, fun z => nomatch z⟩) (fun v H' hv => ?_)⟩
    · match σ', hl with
      | [x0, x1, x2, x3], _ => exact ⟨_, rfl, fun oe hz hd hn => ⟨_, rfl, rfl, false, rfl, _, rfl, h2 a oe hn hz hd⟩⟩
    · exact ⟨_, rfl, rfl, true, rfl, _, rfl, by show 1 ≤ sizeLine; rw [sizeLine_eq]; decide, hv⟩
end Pt
set_option maxRecDepth 100000
set_option maxHeartbeats 1000000
/-! Pt17: the call of _law_refused, a held exception's field, isinstance of it, repr of any data. -/
namespace Pt
open PySem PySem.Spec PyProof.Rows L2
open LamX
def mRef (Cs : List Addr) (m : MEX) : ME := fun E S => match m E S with
  | some (.ok (.p d), S1) => some (.p (.lst [d]), S1)
  | some (.error (C, fs), S1) => if C ∈ Cs then some (.p (.exc C fs), S1) else none
  | _ => none
theorem extN_ext {H H1 : Hp} {ρ : Wd} (e : ExtN H H1) (t : Tabs theT H1) : Ext ρ H ρ H1 := ⟨rfl, rfl, ⟨[], by simp, by simp⟩, fun a o h _ nt => e a o h nt, fun a ⟨o, h, nt⟩ => ⟨o, e a o h nt, nt⟩, fun _ => t⟩
theorem extN_rel {K : PySem.W.Frag} {H H1 : Hp} {ρ : Wd} {S : List Cell} (e : ExtN H H1) (t : Tabs theT H1) (s : RelS K H ρ S) : RelS K H1 ρ S := by
  have ee := extN_ext (ρ := ρ) e t
  refine ⟨s.len, s.nd, fun n c a h1 h2 => ?_, fun a ha => ⟨ee.there a (s.hid a ha).1, (s.hid a ha).2⟩, t⟩
  obtain ⟨o, ho, rc⟩ := s.here n c a h1 h2
  exact ⟨o, e a o ho rc.plain.1, rc.ext ee⟩
theorem ref_t {K : PySem.W.Frag} {CS : Addr} {Cs : List Addr} {m : MEX} (hCs : ∀ C ∈ Cs, PySem.W.exmOne K (.ref C) (.ref CS) = some true) : ∀ σ H Q, tE K (mRef Cs m) σ H Q → tLam theT (TRef K CS) (fun E => tEX K (fun c d _ H => E c d H) m) σ H Q := fun σ H Q q => by
  obtain ⟨ρ, S, E, d, S', r, hm, k⟩ := q
  refine ⟨r.s.tb, fun H1 eN tN p0 E' Q' hp0 hE hQ => ?_⟩
  have s1 := extN_rel eN tN r.s
  have e1 := extN_ext (ρ := ρ) eN tN
  have ex := Ex.new (o := .tup [.non, .non]) hp0
  have e2 := e1.trans (ex.ext (ρ := ρ))
  have r2 : Rel K (upd H1 p0 (.tup [.non, .non])) ρ S E σ := ⟨s1.ex ex, r.e.ext e2⟩
  unfold mRef at hm
  split at hm
  · rename_i d' S1 h1
    cases hm
    refine ⟨ρ, S, E, .ok (.p d'), S', r2, h1, fun H' ρ' e s v rv => hQ v H' fun p hp => ?_⟩
    exact k _ _ ρ' ((e2.trans e).trans (Ex.new hp).ext) (s.ex (Ex.new hp)) (new_lst s hp (RelPs.one rv) (by show 1 ≤ sizeLine; rw [sizeLine_eq]; decide))
  · rename_i C fs S1 h1
    split at hm
    · rename_i hC
      cases hm
      refine ⟨ρ, S, E, .error (C, fs), S', r2, h1, fun H' ρ' e s dd ws h3 h4 h5 => hE _ _ H' (hCs C hC) fun a oe ha hz hd => ?_⟩
      have ex2 := Ex.new (o := .frz oe (.own a)) ha
      have nea : dd ≠ a := fun z => by rw [z, ha] at h3; cases h3
      refine k _ _ ρ' ((e2.trans e).trans ex2.ext) (s.ex ex2) ?_
      simp only [RelD, RelP]
      obtain ⟨vs, hvs⟩ := hd
      exact ⟨a, ws, rfl, ⟨⟨oe, dd, vs, upd_same, hz.1, hz.2, hvs, by rw [upd_ne nea]; exact h3, h4⟩, s.fresh ha⟩, RelFs.pers (ex2.ext (ρ := ρ')).pers h5⟩
    · cases hm
  · cases hm
section
variable {X : Cx} {e : Expr} {k : Nat} {x : Str} {p pos apos : Pos}
/-- _law_refused(lambda: body) -/
theorem re_refused {CS : Addr} {Cs : List Addr} {g c P : Addr} {k : Nat} {dV kV doc pm cdv ct oc : Value} {an od : Option Addr} {osl : Array (Option Value)}
    {params : Arguments} {body : Expr} {scope : Scope} {m : MEX} {p lpos pos : Pos} (hme : X.mg "TallyError" = some (.ref CS)) (hCs : ∀ C ∈ Cs, PySem.W.exmOne X.K (.ref C) (.ref CS) = some true) (hg : Gl X "_law_refused") (hm : X.mg "_law_refused" = some (.ref g)) (hk : PySem.W.keepIn X.K (.ref g) = true)
    (lk : X.K.lookup g = some ⟨oc, od, .func (PySem.W.fnOf "_law_refused" "_law_refused" (defArgs (top iRefused)) (defBody (top iRefused)) (defScope (top iRefused)) dV kV doc pm an cdv ct), osl⟩) (hcg : PySem.W.codeIn X.K cdv "_law_refused" = true) (hb : L2.Binds X.K (PySem.W.fnOf "_law_refused" "_law_refused" (defArgs (top iRefused)) (defBody (top iRefused)) (defScope (top iRefused)) dV kV doc pm an cdv ct) ["call"] [])
    (Sg : FnScope refN ["call"] (defScope (top iRefused)))
    (TB : TabB X.base X.mg c P) (hcode : X.env.code = .ref c) (hmT : (P, X.env.qual ++ "<lambda>") ∈ theT) (hu : ∀ p ∈ theT, p.1 = P → p.2 = X.env.qual ++ "<lambda>") (hr : Room (k + 2) X.A) (L : LamS X.env.scope scope) (hdef : defaultsOf params X.env = ([], []))
    (hbind : ∀ (q : Str) (cl : List (Str × Addr)) (pm cv ctv : Value), bindArgs (PySem.W.kla_fn "<lambda>" q params body scope cl pm cv ctv) ⟨[], []⟩ = pure [])
    (hbody : ∀ (A : Around) (outer : List Env) (s : Shared) (H : Hp) (E : XK) (f c' : Addr), Room k (A.deeper (lamEnv X scope s.heap.objs.size f c')) → PE (lamCx X A outer s H E scope f c') body (tEX X.K (fun c d _ H => E c d H) m)) :
    PE X (.Call (.Name "_law_refused" p) [.Lambda params body scope lpos] [] pos) (tE X.K (mRef Cs m)) :=
  pe_wk (pe_lamcall (T := theT) (TT := TRef X.K CS) (t := fun E => tEX X.K (fun c d _ H => E c d H) m) hg hm hk lk hcg hb Sg rfl (.inl rfl) (ref_gives hme) TB hcode hmT hu hr L hdef hbind hbody) (ref_t hCs)
/-! ### e.f of a held exception -/
def mXf (Cs : List Addr) (f : Str) (m : ME) : ME := fun E => bnd (m E) fun d S => match d with
  | .p (.exc C fs) => if C ∈ Cs then match fs.lookup f with
    | some y => some (.p y, S)
    | none => none
    else none
  | _ => none
theorem relF_get {K : PySem.W.Frag} {H : Hp} {ρ : Wd} {f : Str} {y : PD} : ∀ {fs : List (Str × PD)} {ws : List (Str × V)}, RelFs K H ρ fs ws → fs.lookup f = some y → ∃ v, ws.lookup f = some v ∧ RelP K H ρ y v
  | [], _, _, h => by simp at h
  | (g, d) :: r, _, h, hl => by
    simp only [RelFs] at h
    obtain ⟨v, t, rfl, h1, h2⟩ := h
    by_cases e : f = g
    · subst e
      have e1 : List.lookup f ((f, d) :: r) = some d := by simp [List.lookup]
      rw [e1] at hl
      cases hl
      exact ⟨v, by simp [List.lookup], h1⟩
    · have e0 : (f == g) = false := by simpa using e
      have e1 : List.lookup f ((g, d) :: r) = List.lookup f r := by simp [List.lookup, e0]
      rw [e1] at hl
      obtain ⟨w, q1, q2⟩ := relF_get h2 hl
      exact ⟨w, by simp [List.lookup, e0]; exact q1, q2⟩
theorem exc_inst {pins : List (Addr × Obj)} {s : Shared} {σ : L2.St} {H : Hp} {ρ : Wd} {a C : Addr} {ws : List (Str × V)} (I : Inv X pins σ H s) (h : ExcAt H ρ a C ws) : ∃ oe od dd mA, PySem.W.InstAt s.heap a oe C (some od) ∧ s.heap.get? dd = some od ∧ s.heap.Ns1 dd mA ∧ ∀ f, RelO (ws.lookup f) (mA f) := by
  obtain ⟨oe, dd, vs, h1, h2, h3, h4, h5, _⟩ := h.at'
  obtain ⟨q1, _⟩ := I.hok a _ h1
  obtain ⟨mA, hns, hr⟩ := (show ObjOk X.prog X.w H s.heap dd (.xd ws) from I.hok dd _ h5)
  obtain ⟨od, ho, hl⟩ := lookIn_ns hns
  exact ⟨oe, od, dd, mA, ⟨q1, h2, by unfold PySem.W.notCls; rw [h4] <;> rfl, by rw [h3]; exact ho⟩, ho, hns, hr⟩
theorem re_xf {Cs : List Addr} {m : ME} {n : Str} (T : ∀ C ∈ Cs, XfC X.K C ∧ PySem.W.findIn X.K (.ref C) n = some none) (he : PE X e (tE X.K m)) (hb : attributeBase e n X.env (eval e X.env) = eval e X.env := by rfl) : PE X (.Attribute e n pos) (tE X.K (mXf Cs n m)) := by
  refine ⟨fun pins s σ H Q I h => ?_⟩
  obtain ⟨ρ, S, E, d, S', r, hm, k⟩ := h
  obtain ⟨x, S1, h1, hm⟩ := bnd_some hm
  refine attr_of hb (thn (he.run pins s σ H _ I ⟨ρ, S, E, x, S1, r, h1, fun v H1 ρ1 e1 s1 r1 => (⟨ρ1, e1, s1, r1⟩ : ∃ ρ1, Ext ρ H ρ1 H1 ∧ RelS X.K H1 ρ1 S1 ∧ RelD X.K H1 ρ1 x v)⟩) fun u s1 hh => ?_)
  obtain ⟨v, H1, I1, rv, ρ1, e1, s1', r1⟩ := hh
  split at hm
  · rename_i C fs
    split at hm
    · rename_i hC
      split at hm
      · rename_i y hy
        cases hm
        simp only [RelD, RelP] at r1
        obtain ⟨a, ws, rfl, h2, h3⟩ := r1
        obtain rfl : u = Value.ref a := rv
        obtain ⟨T1, T2⟩ := T C hC
        obtain ⟨oe, od, dd, mA, J, ho, hns, hr⟩ := exc_inst I1 h2
        obtain ⟨od', ho', hl⟩ := lookIn_ns hns
        rw [ho] at ho'
        cases ho'
        obtain ⟨w, hw, rw'⟩ := relF_get h3 hy
        obtain ⟨u, hu, ru⟩ := RelO.some_of (v := w) (o := mA n) (by rw [← hw]; exact hr n)
        exact HandSPX.exc_get I1.kIn J T1.ga T1.gg T1.exC (PySem.W.findObj_own T1.hdC T2 rfl (by rw [hl, hu])) (handed_of ru) ⟨w, H1, I1.tok _, ru, k _ H1 ρ1 e1 s1' rw'⟩
      · cases hm
    · cases hm
  · cases hm
/-! ### isinstance of a held exception -/
/-- what is known of classes -/
structure ExcKit (K : PySem.W.Frag) (C : Addr) : Prop where
  cl : (PySem.W.clsIn K C).isSome = true
  ga : PySem.W.findIn K (.ref C) "__getattribute__" = some (some (.builtin "BaseException.__getattribute__"))
  gg : PySem.W.findIn K (.ref C) "__getattr__" = some none
  ex : PySem.W.subIn K (.ref C) (.type "BaseException") = some true
  ca : PySem.W.findIn K (.ref C) "__class__" = some (some (.builtin "object.__class__"))
  cg : PySem.W.specialIn K (.builtin "object.__class__") "__get__" = some (some (.builtin "getset_descriptor.__get__"))
  tk : PySem.W.takesIn K (.builtin "object.__class__") = some true
  ob : PySem.W.mroIn K C (.type "object") = some true
/-- which classes an exception's class is under -/
abbrev KitT := List (Addr × V × Bool)
structure KitOk (K : PySem.W.Frag) (t : KitT) : Prop where
  ok : ∀ q ∈ t, ExcKit K q.1 ∧ ∃ cv, (∀ u, RelV q.2.1 u → u = cv) ∧ PySem.W.kitOne K (.ref q.1) cv = some q.2.2
open Classical in
noncomputable def oIsiE (t : KitT) : OC := fun ds S => match ds with
  | [.p (.exc C _), .v T] => match t.find? fun q => decide (q.1 = C ∧ q.2.1 = T) with
    | some q => some (.p (.bl q.2.2), S)
    | none => none
  | _ => none
theorem c_isiE {t : KitT} (ht : KitOk X.K t) : CallR X (.builtin "isinstance") (rDC X.K (oIsiE t)) := by
  intro pins s σ H xs us Q I r ⟨ρ, S, ds, d, S', s0, rd, ho, k⟩
  unfold oIsiE at ho
  split at ho
  · rename_i C fs T
    split at ho
    · rename_i q hq
      cases ho
      have hq1 := List.mem_of_find?_eq_some hq
      have hq2 := List.find?_some hq
      simp only [decide_eq_true_eq] at hq2
      obtain ⟨hq2, hq3⟩ := hq2
      obtain ⟨v, w, rfl, rv, rw'⟩ := rel2 rd
      obtain rfl : w = T := rw'
      simp only [RelD, RelP] at rv
      obtain ⟨a, ws, rfl, h2, h3⟩ := rv
      cases r with
      | cons rx rr =>
        cases rr with
        | cons rt rr =>
          cases rr
          rename_i u1 u2
          obtain rfl : u1 = Value.ref a := rx
          obtain ⟨kk, cv, hcv, hone⟩ := ht.ok q hq1
          rw [hq3] at hcv
          have ec := hcv _ rt
          subst ec
          rw [hq2] at kk hone
          obtain ⟨oe, od, dd, mA, J, ho, hns, hr⟩ := exc_inst I h2
          have hfo : PySem.W.findObj X.K C (some od) "__class__" = some (.bind (.builtin "getset_descriptor.__get__") (.builtin "object.__class__")) ∨ True := Or.inr trivial
          exact PySem.W.kia_one (PySem.W.kitx_exc (ox := oe) (od := some od) kk.cl kk.ga kk.gg kk.ex kk.ca kk.cg kk.tk kk.ob) I.kIn J hone (fun z => nomatch z) fun tk => ⟨.bl q.2.2, H, I.kept (t' := tk) fun _ _ z => z, rfl, k _ H ρ Ext.refl s0 mkB⟩
    · cases ho
  · cases ho
noncomputable def oIsiA (t : KitT) : OC := fun ds S => match oIsi ds S with
  | some r => some r
  | none => oIsiE t ds S
theorem c_isiA {t : KitT} (ht : KitOk X.K t) : CallR X (.builtin "isinstance") (rDC X.K (oIsiA t)) := by
  intro pins s σ H xs us Q I r ⟨ρ, S, ds, d, S', s0, rd, ho, k⟩
  unfold oIsiA at ho
  split at ho
  · rename_i rr hq
    cases ho
    exact c_isi pins s σ H xs us Q I r ⟨ρ, S, ds, d, S', s0, rd, hq, k⟩
  · exact c_isiE ht pins s σ H xs us Q I r ⟨ρ, S, ds, d, S', s0, rd, ho, k⟩
/-! ### repr of more -/
def oReprA : OC := fun ds S => match oRepr ds S with
  | some r => some r
  | none => match ds with
    | [.p .non] => some (.p (.str "None"), S)
    | [.p (.bl b)] => some (.p (.str (if b then "True" else "False")), S)
    | [.p (.str x)] => if (reprText x).length ≤ sizeLine then some (.p (.str (reprText x)), S) else none
    | [.p (.dct [])] => some (.p (.str (PyData.dict []).shown), S)
    | _ => none
theorem c_reprA (hr : RoomG true k X.A) : CallR X (.builtin "repr") (rDC X.K oReprA) := by
  intro pins s σ H xs us Q I r ⟨ρ, S, ds, d, S', s0, rd, ho, kk⟩
  unfold oReprA at ho
  split at ho
  · rename_i rr hq
    cases ho
    exact c_repr hr pins s σ H xs us Q I r ⟨ρ, S, ds, d, S', s0, rd, hq, kk⟩
  · split at ho
    · cases ho
      obtain ⟨v, rfl, rv⟩ := rel1 rd
      obtain ⟨u, rfl, ru⟩ := vals1 r
      have ev : v = .non := by simpa only [RelD, RelP] using rv
      subst ev
      obtain rfl : u = Value.none := ru
      exact P.repr_of_none ⟨.str _, H, I.tok _, ⟨_, rfl⟩, kk _ H ρ Ext.refl s0 mkZ⟩
    · cases ho
      obtain ⟨v, rfl, rv⟩ := rel1 rd
      obtain ⟨u, rfl, ru⟩ := vals1 r
      cases relB rv
      rename_i b _
      obtain rfl : u = Value.bool b := ru
      exact P.repr_of_bool ⟨.str _, H, I.tok _, ⟨_, rfl⟩, kk _ H ρ Ext.refl s0 mkZ⟩
    · split at ho
      · rename_i hz
        cases ho
        obtain ⟨v, rfl, rv⟩ := rel1 rd
        obtain ⟨u, rfl, ru⟩ := vals1 r
        cases relZ rv
        obtain ⟨t, rfl⟩ := ru
        exact P.repr_of_str (hsz := hz) ⟨.str _, H, I.tok _, ⟨_, rfl⟩, kk _ H ρ Ext.refl s0 mkZ⟩
      · cases ho
    · cases ho
      obtain ⟨v, rfl, rv⟩ := rel1 rd
      obtain ⟨u, rfl, ru⟩ := vals1 r
      simp only [RelD, RelP, RelKs] at rv
      obtain ⟨a, ws, rfl, h1, rfl⟩ := rv
      obtain rfl : u = Value.ref a := ru
      obtain ⟨z, hd, vs, r0, dd⟩ := dk_of I.hok h1.at'
      cases r0
      obtain ⟨o, es, ep, ho', hx, hdat, _, hes, _⟩ := dd
      have he : es.toList = [] := by
        cases h : es.toList with
        | nil => rfl
        | cons x y =>
          rw [h] at hes
          nomatch hes
      have rr : Reads s.heap (.ref a) (.dict []) [a] := by
        have q := Reads.dict (kvs := []) (as := []) (bs := []) ho' hx.1 hdat (by rw [he]; exact ReadsAll.nil) (by rw [he]; exact ReadsAll.nil)
        simpa using q
      have hu := hu64 hr
      have hdep : (PyData.dict []).depth ≤ 60 := by decide
      have hun : X.A.units + ((PyData.dict []).depth + 1) < cLine := Nat.lt_of_le_of_lt (by omega) hu
      refine repr_of_reads' rr (by decide) (fun _ hm => ?_) (hr.gd rfl) hun (fun _ _ h => h) (fun h' u tk hk => ?_) (by rw [sizeLine_eq]; decide)
      · rw [List.mem_singleton] at hm
        rw [hm] at hd
        simp at hd
      · exact ⟨.str _, H, I.kept hk, ⟨u, rfl⟩, kk _ H ρ Ext.refl s0 mkZ⟩
    · cases ho
end
end Pt
set_option maxRecDepth 100000
set_option maxHeartbeats 1000000
/-! Pt18: dict(a tuple of pairs). -/
namespace Pt
open PySem PySem.Spec PyProof.Rows L2
def pairsOf : List PD → Option (List (L2.Key × PD))
  | [] => some []
  | .tup [a, b] :: r => match keyOf (.p a) with
    | some k => (pairsOf r).map ((k, b) :: ·)
    | none => none
  | _ :: _ => none
def mergeP (kvs more : List (L2.Key × PD)) : List (L2.Key × PD) := more.foldl (fun acc kv => putP acc kv.1 kv.2) kvs
theorem mergeP_rel {K : PySem.W.Frag} {H : Hp} {ρ : Wd} : ∀ {more : List (L2.Key × PD)} {ws : List (L2.Key × V)} {kvs : List (L2.Key × PD)} {us : List (L2.Key × V)}, RelKs K H ρ more ws → RelKs K H ρ kvs us → RelKs K H ρ (mergeP kvs more) (mergeK us ws)
  | [], _, _, _, h, g => by
    simp only [RelKs] at h
    subst h
    exact g
  | (k, d) :: more, _, kvs, us, h, g => by
    simp only [RelKs] at h
    obtain ⟨v, r, rfl, h1, h2⟩ := h
    have z := mergeP_rel h2 (putP_rel (k := k) g h1)
    exact z
/-- a tuple's object -/
theorem tup_plain {X : Cx} {pins : List (Addr × Obj)} {σ : L2.St} {H : Hp} {s : Shared} {ρ : Wd} {a : Addr} {vs : List V} (I : Inv X pins σ H s) (h : TupAt X.K H ρ a vs) : ∃ its : List Value, Vals vs its ∧ PlainSeq "tuple" s.heap a its.toArray := by
  rcases h.at' with ⟨⟨o, h1, h2⟩, _⟩ | ⟨o, its, n, h1, h2, h3, h4, h5, h6⟩
  · obtain ⟨q1, _, its, rv, o', q2, q3, n, q4⟩ := I.hok a _ h1
    rw [q1] at q2
    cases q2
    exact ⟨its, rv, o, n, q1, q3, h2, q4⟩
  · exact ⟨its.toList, h6, o, n, I.kIn a o h1, h2, h3, by simpa using h4⟩
theorem pairs_items {X : Cx} {pins : List (Addr × Obj)} {σ : L2.St} {H : Hp} {s : Shared} {ρ : Wd} (I : Inv X pins σ H s) : ∀ {xs : List PD} {kvs : List (L2.Key × PD)} {vs : List V} {its : List Value}, pairsOf xs = some kvs → RelPs X.K H ρ xs vs → Vals vs its →
    ∃ (Ts : List Addr) (ps : List (Value × Value)) (ws : List (L2.Key × V)) (us : List (L2.Key × Value)), its = Ts.map Value.ref ∧ ps.length = Ts.length ∧ us.length = ps.length ∧ (∀ (j : Nat) (k v : Value), ps[j]? = some (k, v) → ∃ T, Ts[j]? = some T ∧ PairAt s.heap T k v) ∧
      RelKs X.K H ρ kvs ws ∧ KV ws us ∧ (∀ (i : Nat) (k v : Value), ps[i]? = some (k, v) → ∃ key, us[i]? = some (key, v) ∧ (mixKind X.prog X.w).is key k = true)
  | [], kvs, vs, its, h, r, rv => by
    cases h
    simp only [RelPs] at r
    subst r
    cases rv
    exact ⟨[], [], [], [], rfl, rfl, rfl, fun j k v e => by simp at e, by simp only [RelKs], .nil, fun j k v e => by simp at e⟩
  | x :: xs, kvs, vs, its, h, r, rv => by
    unfold pairsOf at h
    split at h
    · rename_i heq; cases heq
    · rename_i a b r' heq
      cases heq
      split at h
      · rename_i key hk
        obtain ⟨kvs', h1, rfl⟩ := Option.map_eq_some_iff.mp h
        simp only [RelPs] at r
        obtain ⟨v, vs', rfl, rx, r2⟩ := r
        cases rv with
        | @cons _ u _ us' ru rv' =>
          obtain ⟨Ts, ps, ws, us, e1, e2, e3, e4, e5, e6, e7⟩ := pairs_items I h1 r2 rv'
          simp only [RelP] at rx
          obtain ⟨T, wv, rfl, hT, rT⟩ := rx
          obtain rfl : u = Value.ref T := ru
          obtain ⟨va, t1, rfl, ra, rT⟩ := rT
          obtain ⟨vb, t2, rfl, rb, rT⟩ := rT
          simp only [RelPs] at rT
          subst rT
          obtain ⟨its2, rv2, hpl⟩ := tup_plain I hT
          cases rv2 with
          | @cons _ ua _ _ rua rv2 =>
            cases rv2 with
            | @cons _ ub _ _ rub rv2 =>
              cases rv2
              have ek := keyOf_rel (d := .p a) ra hk
              subst ek
              obtain ⟨o, n, q1, q2, q3, q4⟩ := hpl
              have hpa : PairAt s.heap T ua ub := Or.inl ⟨o, q1, q2, n, q4⟩
              refine ⟨T :: Ts, (ua, ub) :: ps, (key, vb) :: ws, (key, ub) :: us, by rw [e1]; rfl, by simp [e2], by simp [e3], fun j k v e => ?_, ?_, .cons ⟨rfl, rub⟩ e6, fun j k v e => ?_⟩
              · cases j with
                | zero =>
                  simp at e
                  obtain ⟨rfl, rfl⟩ := e
                  exact ⟨T, rfl, hpa⟩
                | succ j => exact e4 j k v (by simpa using e)
              · simp only [RelKs]
                exact ⟨vb, ws, rfl, rb, e5⟩
              · cases j with
                | zero =>
                  simp at e
                  obtain ⟨rfl, rfl⟩ := e
                  exact ⟨key, rfl, kV_is rua⟩
                | succ j => exact e7 j k v (by simpa using e)
      · cases h
    · cases h
def oDictP : OC := fun ds S => match ds with
  | [.p (.tup xs)] => match pairsOf xs with
    | some kvs => some (.p (.dct (mergeP [] kvs)), S)
    | none => none
  | _ => none
section
variable {X : Cx}
theorem c_dictP (hc : X.calm = true) : CallR X (.type "dict") (rDC X.K oDictP) := by
  intro pins s σ H xs us Q I r ⟨ρ, S, ds, d, S', s0, rd, ho, k⟩
  unfold oDictP at ho
  split at ho
  · rename_i ps
    split at ho
    · rename_i kvs hp
      cases ho
      obtain ⟨v, rfl, rv⟩ := rel1 rd
      obtain ⟨a, vs, rfl, ta, la⟩ := relT rv
      obtain ⟨u, rfl, ru⟩ := vals1 r
      obtain rfl : u = Value.ref a := ru
      obtain ⟨its, rvs, hpl⟩ := tup_plain I ta
      obtain ⟨Ts, pv, ws, uk, e1, e2, e3, e4, e5, e6, e7⟩ := pairs_items I hp la rvs
      have lits : its.length = pv.length := by rw [e1, List.length_map, e2]
      have lvs : vs.length = its.length := rvs.length
      have hit : PairItems s.heap its.toArray (fun j => Ts.getD j 0) pv := ⟨by simp [lits], fun j k v e => by
        obtain ⟨T, hT, hP⟩ := e4 j k v e
        have hg : Ts.getD j 0 = T := by rw [List.getD_eq_getElem?_getD, hT]; rfl
        show its.toArray[j]? = some (Value.ref (Ts.getD j 0)) ∧ PairAt s.heap (Ts.getD j 0) k v
        rw [hg]
        refine ⟨?_, hP⟩
        rw [e1]
        simp [hT]⟩
      refine call_dict_pairs (knd := mixKind X.prog X.w) (kvs := uk) (PairArg.tuple a its.toArray (fun j => Ts.getD j 0) pv) (I.ok.hd hc) ⟨hpl, hit⟩ ⟨e3, fun i key v hr => e7 i key v hr⟩ (by rw [← lits, ← lvs]; exact ta.fit) fun h' tk hd hk => ?_
      have hz : (mergeK [] ws).length ≤ sizeLine := by
        have h1 := length_mergeK ws []
        rw [List.length_nil] at h1
        have h2 : ws.length = uk.length := Paired.length e6
        have := ta.fit
        omega
      have hb : (s.heap.objs.size == sysModules) = false := beq_eq_false_iff_ne.mpr (Ne.symm (Nat.ne_of_lt I.big))
      have hn := I.hok.fresh (Nat.le_refl s.heap.objs.size)
      have I1 : Inv X pins σ (upd H s.heap.objs.size (.dK (mergeK [] ws))) { s with heap := h', toks := tk } := I.laid (t' := tk) (fun b o e => hk b o (by simp) e) (Nat.le_refl _) (dk_new hz hb (e6.merge .nil) hd)
      exact ⟨.ref s.heap.objs.size, _, I1, rfl, k _ _ ρ (Ex.new hn).ext (s0.ex (Ex.new hn)) (new_dct s0 hn (mergeP_rel e5 (by simp only [RelKs])) hz)⟩
    · cases ho
  · cases ho
end
end Pt
set_option maxRecDepth 100000
set_option maxHeartbeats 1000000
/-! Pt19: comprehensions over a list that may change, their elements pure; three names stored at once. -/
namespace Pt
open PySem PySem.Spec PyProof.Rows L2
open Classical in
noncomputable def pureT (m : MT) : MT := fun E S => match m E S with
  | some (b, S1) => if S1 = S then some (b, S1) else none
  | none => none
open Classical in
noncomputable def pureE (m : ME) : ME := fun E S => match m E S with
  | some (b, S1) => if S1 = S then some (b, S1) else none
  | none => none
theorem pureT_some {m : MT} {E : Vr} {S S1 : List Cell} {b : Bool} (h : pureT m E S = some (b, S1)) : m E S = some (b, S1) ∧ S1 = S := by
  unfold pureT at h
  split at h
  · split at h
    · cases h
      exact ⟨by assumption, by assumption⟩
    · cases h
  · cases h
theorem pureE_some {m : ME} {E : Vr} {S S1 : List Cell} {b : D} (h : pureE m E S = some (b, S1)) : m E S = some (b, S1) ∧ S1 = S := by
  unfold pureE at h
  split at h
  · split at h
    · cases h
      exact ⟨by assumption, by assumption⟩
    · cases h
  · cases h
noncomputable def mLcV (own : List Nat) (ms : ME) (t : Tg) (tt : MT) (te : ME) : ME := fun E => bnd (ms E) fun d S => match d with
  | .ref n => match S[n]? with
    | some (.lst ds) => match pds ds with
      | some xs => bnd (lcLoop (wipeE E own) t (pureT tt) (pureE te) xs []) (fun ys => ret (.p (.lst ys))) S
      | none => none
    | _ => none
  | _ => none
theorem lcv_t {K : PySem.W.Frag} {own vs : List Nat} {ms : ME} {g : TG} {t : Tg} {tt : MT} {te : ME} (rg : RelG K vs g t) (hs : ∀ i ∈ vs, i ∈ own) : ∀ σ H Q, tE K (mLcV own ms t tt te) σ H Q → tLc (iList K (tE K ms)) g (tT K tt) (tE K te) own σ H Q := fun σ H Q q => by
  obtain ⟨ρ, S, E, d, S', r, hm, k⟩ := q
  obtain ⟨dl, S1, h1, hm⟩ := bnd_some hm
  cases dl with
  | p _ => cases hm
  | v _ => cases hm
  | ref n =>
    simp only at hm
    split at hm
    · rename_i ds hcell
      split at hm
      · rename_i xs hxs
        obtain ⟨ys, S2', hloop, hm⟩ := bnd_some hm
        obtain ⟨rfl, rfl⟩ := ret_some hm
        refine ⟨ρ, S, E, .ref n, S1, r, h1, fun lv H1 ρ1 e1 s1 rl => ?_⟩
        obtain ⟨a, ha, rfl⟩ := rl
        obtain ⟨o0, ho0, vs0, rfl, hz0, rx0⟩ := s1.here n _ a hcell ha
        have hlen0 : xs.length = vs0.length := by
          have q := pds_rel hxs rx0
          exact q.length.symm
        refine ⟨a, rfl, ⟨vs0, .inl (.inl ho0)⟩, fun D hD => ?_⟩
        have neD : ∀ {a o}, H1 a = some o → a ≠ D := fun h z => by rw [z, hD] at h; cases h
        obtain ⟨p0, s1'⟩ := hide (o := .lst []) s1 hD
        have nDh : D ∉ ρ1.h := fun z => (s1.hid D z).1.no hD
        have e0 : Ext ρ1 H1 ⟨ρ1.c, ρ1.h, ρ1.f⟩ (upd H1 D (.lst [])) := (Ex.new hD).ext
        refine ⟨fun i m H' => ∃ c' acc ws, RelS K H' ⟨c', D :: ρ1.h, ρ1.f⟩ S1 ∧ RelE K H' ⟨c', D :: ρ1.h, ρ1.f⟩ E σ ∧ Ext ρ1 H1 ⟨c', ρ1.h, ρ1.f⟩ H' ∧ H' D = some (.lst ws) ∧ RelPs K H' ⟨c', D :: ρ1.h, ρ1.f⟩ acc ws ∧ ws.length ≤ i ∧ i + m = xs.length ∧ lcLoop (wipeE E own) t (pureT tt) (pureE te) (xs.drop i) acc S1 = some (ys, S'),
          ⟨xs.length, ρ1.c, [], [], s1', RelE.pers (ρ := ρ1) (r.e.ext e1) rfl p0, e0, upd_same, RelPs.nil, Nat.le_refl _, by simp, by simpa using hloop⟩, fun i m H' w => ?_⟩
        obtain ⟨c', acc, ws, s2, re2, e2, hD2, ra, hw, hlen, hl⟩ := w
        have ha2 : c'[n]? = some a := by
          obtain ⟨news, en, _⟩ := e2.pre
          have en' : c' = ρ1.c ++ news := en
          rw [en', List.getElem?_append_left (List.getElem?_eq_some_iff.mp ha).1]
          exact ha
        obtain ⟨o2, ho2, vs2, rfl, hz2, rx2⟩ := s2.here n _ a hcell ha2
        have rp2 := pds_rel hxs rx2
        have sq2 : SqL K H' a vs2 := .inl (.inl ho2)
        by_cases hi : i < xs.length
        · right
          have hx : xs[i]? = some xs[i] := List.getElem?_eq_getElem hi
          obtain ⟨v0, hv0, rv0⟩ := rp2.get hx
          rw [List.drop_eq_getElem_cons hi] at hl
          unfold lcLoop at hl
          cases ht : t (.p xs[i]) (wipeE E own) with
          | none => simp only [ht] at hl; cases hl
          | some E1 =>
            simp only [ht] at hl
            refine ⟨⟨vs2, v0, sq2, hv0⟩, fun H3 => ∃ c3 acc3 ws3, RelS K H3 ⟨c3, D :: ρ1.h, ρ1.f⟩ S1 ∧ RelE K H3 ⟨c3, D :: ρ1.h, ρ1.f⟩ E σ ∧ Ext ρ1 H1 ⟨c3, ρ1.h, ρ1.f⟩ H3 ∧ H3 D = some (.lst ws3) ∧ RelPs K H3 ⟨c3, D :: ρ1.h, ρ1.f⟩ acc3 ws3 ∧ ws3.length ≤ i + 1 ∧ lcLoop (wipeE E own) t (pureT tt) (pureE te) (xs.drop (i + 1)) acc3 S1 = some (ys, S'),
              fun H3 ⟨c3, acc3, ws3, a1, a2, a3, a4, a5, a7, a8⟩ => ⟨m - 1, by omega, c3, acc3, ws3, a1, a2, a3, a4, a5, a7, by omega, a8⟩, fun v H3 hy => ?_⟩
            obtain ⟨rfl, hy⟩ := hy
            have ev := hy vs2 sq2
            rw [hv0] at ev
            cases ev
            refine rg ⟨c', D :: ρ1.h, ρ1.f⟩ S1 (wipeE E own) E1 (wipe σ own) _ (.p xs[i]) v0 _ ⟨s2, re2.wipe own⟩ rv0 ht fun σ4 re4 f4 => ?_
            refine ⟨wipe_same (f4.len.trans (wipe_length _ _)) f4.same hs, ?_⟩
            cases htt : pureT tt E1 S1 with
            | none => simp only [htt] at hl; cases hl
            | some q =>
              obtain ⟨bb, S4⟩ := q
              obtain ⟨htt', rfl⟩ := pureT_some htt
              refine ⟨⟨c', D :: ρ1.h, ρ1.f⟩, S4, E1, bb, S4, ⟨s2, re4⟩, htt', fun H4 ρ4 e4 s4 => ?_⟩
              obtain ⟨c4, h4, f4⟩ := ρ4
              obtain rfl : h4 = D :: ρ1.h := e4.hid
              obtain rfl : f4 = ρ1.f := e4.fl
              have nDc : D ∉ c' := (s2.hid D List.mem_cons_self).2
              have e5 : Ext ρ1 H1 ⟨c4, ρ1.h, ρ1.f⟩ H4 := e2.trans (Ext.reh (k := ρ1.h) e4)
              have hD4 : H4 D = some (.lst ws) := e4.keep D _ hD2 nDc (fun _ => nofun)
              simp only [htt] at hl
              cases bb with
              | false =>
                rw [if_neg Bool.false_ne_true]
                exact ⟨c4, acc, ws, s4, re2.ext e4, e5, hD4, RelPs.ext e4 ra, by omega, hl⟩
              | true =>
                rw [if_pos rfl]
                simp only at hl
                cases hte : pureE te E1 S4 with
                | none => simp only [hte] at hl; cases hl
                | some q =>
                  obtain ⟨y, S6⟩ := q
                  obtain ⟨hte', rfl⟩ := pureE_some hte
                  simp only [hte] at hl
                  refine ⟨⟨c4, D :: ρ1.h, ρ1.f⟩, S6, E1, y, S6, ⟨s4, re4.ext e4⟩, hte', fun yv H6 ρ6 e6 s6 ry => ?_⟩
                  obtain ⟨c6, h6, f6⟩ := ρ6
                  obtain rfl : h6 = D :: ρ1.h := e6.hid
                  obtain rfl : f6 = ρ1.f := e6.fl
                  have nDc4 : D ∉ c4 := (s4.hid D List.mem_cons_self).2
                  have hD6 : H6 D = some (.lst ws) := e6.keep D _ hD4 nDc4 (fun _ => nofun)
                  have hz : ws.length < sizeLine := Nat.lt_of_le_of_lt hw (Nat.lt_of_lt_of_le hi (by rw [hlen0]; exact hz0))
                  cases y with
                  | ref _ => cases hl
                  | v _ => cases hl
                  | p y =>
                    refine ⟨ws, hD6, hz, ?_⟩
                    obtain ⟨pD, s7⟩ := turn_hid (o := .lst (ws ++ [yv])) s6 hD6
                    have e7 := e5.trans (Ext.reh (k := ρ1.h) e6)
                    have ra6 : RelPs K H6 ⟨c6, D :: ρ1.h, ρ1.f⟩ acc ws := RelPs.ext e6 (RelPs.ext e4 ra)
                    refine ⟨c6, acc ++ [y], ws ++ [yv], s7, ((re2.ext e4).ext e6).pers rfl pD, ⟨e7.fl, rfl, e7.pre, fun a o h n t => ?_, fun a h => nth_upd (e7.there a h) (fun _ => nofun), fun t p hp => tab_upd hD6 (fun _ => nofun) (fun _ => nofun) (e7.tab t p hp)⟩, upd_same, RelPs.pers pD (RelPs.append ra6 (RelPs.one ry)), by simp; omega, hl⟩
                    rw [upd_ne (neD h)]
                    exact e7.keep a o h n t
        · left
          have ei : i = xs.length := by omega
          subst ei
          rw [List.drop_length] at hl
          obtain ⟨rfl, rfl⟩ := ret_some hl
          refine ⟨⟨vs2, sq2, by rw [rp2.length]; exact Nat.le_refl _⟩, ?_⟩
          obtain ⟨pw, s9⟩ := show_pd s2
          refine k _ H' ⟨c', ρ1.h, ρ1.f⟩ (e1.trans e2) s9 ?_
          simp only [RelD, RelP]
          exact ⟨D, ws, rfl, ⟨Nat.le_trans hw (by rw [hlen0]; exact hz0), hD2, (s2.hid D List.mem_cons_self).2, nDh⟩, RelPs.pers pw ra⟩
      · cases hm
    · cases hm
section
variable {X : Cx} {tg e a b c iter elt : Expr} {ifs : List Expr} {pos : Pos} {scope : Scope} {own : List (Str × Nat)} {ms : ME} {vs : List Nat} {t : Tg} {tt : MT} {te : ME}
theorem re_lcV (hc : X.calm = true) (hN : X.N.Nodup) (hi : PE X iter (tE X.K ms)) (ok : BlkOk X.N X.env.scope scope own) (hg : RGB X scope tg vs t) (hv : ∀ i ∈ vs, i ∈ own.map (·.2))
    (ht : BK X scope fun Y => PTs Y ifs (tT X.K tt)) (he : BK X scope fun Y => PE Y elt (tE X.K te)) (hs : ∀ x, foldedSetIterable iter X.env x = pure x := by intro _; rfl) :
    PE X (.ListComp elt [⟨tg, iter, ifs, 0⟩] scope pos) (tE X.K (mLcV (own.map (·.2)) ms t tt te)) := by
  obtain ⟨g, p, rg⟩ := hg.ex
  exact pe_wk (pe_lc hc hN (pi_list hi) ok p ht he hs) (lcv_t rg hv)
/-- a, b, c = x, y, z with plain names -/
def sPar3 (i j l : Nat) (ma : MA) : MS := fun E => bnd (ma E) fun ds => match ds with
  | [x, y, z] => ret (.nx (((E.set i (some x)).set j (some y)).set l (some z)))
  | _ => fail
theorem rs_par3 {i j l : Nat} {x y z : Str} {ma : MA} {px py pz pt pos : Pos} {kt k2 pt2} (hc : X.calm = true) (hN : X.N.Nodup) (hi : X.N[i]? = some x) (hj : X.N[j]? = some y) (hl : X.N[l]? = some z) (hij : i ≠ j) (hil : i ≠ l) (hjl : j ≠ l)
    (hx : X.env.scope.names.lookup x = some .local) (hy : X.env.scope.names.lookup y = some .local) (hz : X.env.scope.names.lookup z = some .local) (ha : PA X [a, b, c] (tA X.K ma))
    (hw : swappedStores [.Tuple [.Name x px, .Name y py, .Name z pz] kt pt] (.Tuple [a, b, c] k2 pt2) X.env = pure (some [x, y, z]))
    (hs : swapsWithSole [.Tuple [.Name x px, .Name y py, .Name z pz] kt pt] (.Tuple [a, b, c] k2 pt2) pos.line X.env = pure false := by rfl) :
    PS X (.Assign [.Tuple [.Name x px, .Name y py, .Name z pz] kt pt] (.Tuple [a, b, c] k2 pt2) pos) (tS X.K (sPar3 i j l ma)) := by
  refine ps_wk (ps_par3 hc hN hi hj hl hij hil hjl hx hy hz ha hw hs) fun D σ H q => ?_
  obtain ⟨ρ, S, E, f, S', r, hm, kk⟩ := q
  obtain ⟨ds, S1, h2, hm⟩ := bnd_some hm
  refine ⟨ρ, S, E, ds, S1, r, h2, fun vs H1 ρ1 e1 s1 rd => ?_⟩
  split at hm
  · obtain ⟨rfl, rfl⟩ := ret_some hm
    obtain ⟨v, w, u, rfl, r1, r2, r3⟩ := rel3 rd
    exact ⟨_, _, _, rfl, kk H1 ρ1 e1 s1 _ ((((r.e.ext e1).set i r1).set j r2).set l r3)⟩
  · cases hm
end
end Pt
set_option maxRecDepth 100000
set_option maxHeartbeats 1000000
/-! Pt20: short words for the generated walks. -/
namespace Pt
open PySem PySem.Spec PyProof.Rows L2
/-- no global stands in front of the built-ins -/
structure Bn (mg : Str → Option Value) : Prop where
  len : mg "len" = none
  int : mg "int" = none
  str : mg "str" = none
  bool : mg "bool" = none
  tuple : mg "tuple" = none
  list : mg "list" = none
  dict : mg "dict" = none
  range : mg "range" = none
  zip : mg "zip" = none
  sorted : mg "sorted" = none
  max : mg "max" = none
  min : mg "min" = none
  repr : mg "repr" = none
  isinstance : mg "isinstance" = none
/-- a def of the module that can be called: it does o -/
structure Cal (gg : Bool) (P : Program) (w : World) (K : PySem.W.Frag) (mg : Str → Option Value) (base : Heap) (k : Nat) (x : Str) (ps : List Str) (o : OC) : Prop where
  ex : ∃ (f : Addr) (fd : FuncData), mg x = some (.ref f) ∧ PySem.W.keepIn K (.ref f) = true ∧ L2.Binds K fd ps [] ∧ FnG gg P w K mg base k f fd ps o
structure CalX (gg : Bool) (P : Program) (w : World) (K : PySem.W.Frag) (mg : Str → Option Value) (base : Heap) (k : Nat) (x : Str) (ps : List Str) (o : OCX) : Prop where
  ex : ∃ (f : Addr) (fd : FuncData), mg x = some (.ref f) ∧ PySem.W.keepIn K (.ref f) = true ∧ L2.Binds K fd ps [] ∧ FnX gg P w K mg base k f fd ps o
/-- a def's object -/
structure DefAt (K : PySem.W.Frag) (mg : Str → Option Value) (x : Str) (st : Stmt) (ps : List Str) : Prop where
  ex : ∃ (f : Addr) (fd : FuncData), mg x = some (.ref f) ∧ L2.Binds K fd ps [] ∧ Fun K x x st f fd
theorem FnG.up {P : Program} {w : World} {K : PySem.W.Frag} {mg : Str → Option Value} {base : Heap} {k : Nat} {f : Addr} {fd : FuncData} {ps : List Str} {o : OC} {gg : Bool} (F : FnG false P w K mg base k f fd ps o) : FnG gg P w K mg base k f fd ps o :=
  ⟨F.len, fun A outer s H args us vs Q hr => F.run A outer s H args us vs Q ⟨hr.room, fun z => nomatch z⟩⟩
theorem FnX.up {P : Program} {w : World} {K : PySem.W.Frag} {mg : Str → Option Value} {base : Heap} {k : Nat} {f : Addr} {fd : FuncData} {ps : List Str} {o : OCX} {gg : Bool} (F : FnX false P w K mg base k f fd ps o) : FnX gg P w K mg base k f fd ps o :=
  ⟨F.len, fun A outer s H args us vs Q E hr => F.run A outer s H args us vs Q E ⟨hr.room, fun z => nomatch z⟩⟩
section
variable {P : Program} {w : World} {K : PySem.W.Frag} {mg : Str → Option Value} {base : Heap}
theorem Cal.up {gg : Bool} {k : Nat} {x : Str} {ps : List Str} {o : OC} (C : Cal false P w K mg base k x ps o) : Cal gg P w K mg base k x ps o := by
  obtain ⟨f, fd, h1, h2, h3, h4⟩ := C.ex
  exact ⟨f, fd, h1, h2, h3, h4.up⟩
theorem CalX.up {gg : Bool} {k : Nat} {x : Str} {ps : List Str} {o : OCX} (C : CalX false P w K mg base k x ps o) : CalX gg P w K mg base k x ps o := by
  obtain ⟨f, fd, h1, h2, h3, h4⟩ := C.ex
  exact ⟨f, fd, h1, h2, h3, h4.up⟩
theorem Cal.of {gg : Bool} {x : Str} {st : Stmt} {N ps : List Str} {k : Nat} {m : MS} (D : DefAt K mg x st ps) (sc : FnScope N ps (defScope st))
    (hw : ∀ (f : Addr) (cdv : Value) (A : Around) (outer : List Env) (s : Shared) (H : Hp) (E : XK), RoomG gg k (A.deeper (envOfC x (defScope st) s.heap.objs.size f cdv)) →
      PSs (cxOf CX0 P w K mg base N x (defScope st) f cdv A outer s H E).nox (defBody st) (tS K m)) : Cal gg P w K mg base (k + 1) x ps (fnM N.length ps.length m) := by
  obtain ⟨f, fd, h1, h2, h3⟩ := D.ex
  exact ⟨f, fd, h1, h3.kp, h2, FnG.of h3 sc fun cdv A outer s H E _ hr => hw f cdv A outer s H E hr⟩
theorem Cal.ofC {gg : Bool} {x : Str} {st : Stmt} {N ps : List Str} {k : Nat} {m : MS} (D : DefAt K mg x st ps) (sc : FnScope N ps (defScope st))
    (hw : ∀ (f : Addr) (cdv : Value) (A : Around) (outer : List Env) (s : Shared) (H : Hp) (E : XK), mg x = some (.ref f) → CodeAt K f x x st cdv → RoomG gg k (A.deeper (envOfC x (defScope st) s.heap.objs.size f cdv)) →
      PSs (cxOf CX0 P w K mg base N x (defScope st) f cdv A outer s H E).nox (defBody st) (tS K m)) : Cal gg P w K mg base (k + 1) x ps (fnM N.length ps.length m) := by
  obtain ⟨f, fd, h1, h2, h3⟩ := D.ex
  exact ⟨f, fd, h1, h3.kp, h2, FnG.of h3 sc fun cdv A outer s H E hc hr => hw f cdv A outer s H E h1 hc hr⟩
/-- a def that may raise, where it does not -/
def okOf (o : OCX) : OC := fun ds S => match o ds S with
  | some (.ok d, S1) => some (d, S1)
  | _ => none
theorem Cal.ofX {gg : Bool} {x : Str} {ps : List Str} {k : Nat} {o : OCX} (C : CalX gg P w K mg base k x ps o) : Cal gg P w K mg base k x ps (okOf o) := by
  obtain ⟨f, fd, h1, h2, h3, h4⟩ := C.ex
  have inv : ∀ ds S r, okOf o ds S = some r → o ds S = some (.ok r.1, r.2) := fun ds S r h => by
    unfold okOf at h
    split at h
    · cases h
      assumption
    · cases h
  refine ⟨f, fd, h1, h2, h3, ⟨fun ds S r h => h4.len ds S _ (inv ds S r h), fun A outer s H args us vs Q hr e0 hb rv h => ?_⟩⟩
  obtain ⟨ρ, S, ds, d, S', s0, rd, ho, kk⟩ := h
  refine codeAny_mono (h4.run A outer s H args us vs Q (fun _ _ _ => False) hr e0 hb rv ⟨ρ, S, ds, .ok d, S', s0, rd, inv _ _ _ ho, fun H' ρ' e s v r => kk v H' ρ' e s r⟩) fun r s' hq => ?_
  cases r with
  | error e =>
    obtain ⟨_, _, _, _, _, _, _, _, _, _, _, _, z⟩ := hq
    exact z.elim
  | ok fl => cases fl <;> exact hq
theorem CalX.of {gg : Bool} {x : Str} {st : Stmt} {N ps : List Str} {k : Nat} {m : MSX} (D : DefAt K mg x st ps) (sc : FnScope N ps (defScope st))
    (hw : ∀ (f : Addr) (cdv : Value) (A : Around) (outer : List Env) (s : Shared) (H : Hp) (E : XK), RoomG gg k (A.deeper (envOfC x (defScope st) s.heap.objs.size f cdv)) →
      PSs (cxOf (L2.CX P w) P w K mg base N x (defScope st) f cdv A outer s H E) (defBody st) (tSX K (fun c d _ H' => E c d H') m)) : CalX gg P w K mg base (k + 1) x ps (fnX N.length ps.length m) := by
  obtain ⟨f, fd, h1, h2, h3⟩ := D.ex
  exact ⟨f, fd, h1, h3.kp, h2, FnX.of h3 sc (hw f)⟩
/-- a def that calls itself, never called -/
def oNo : OC := fun _ _ => none
theorem Cal.no {gg : Bool} {x : Str} {st : Stmt} {ps : List Str} {k : Nat} (D : DefAt K mg x st ps) : Cal gg P w K mg base k x ps oNo := by
  obtain ⟨f, fd, h1, h2, h3⟩ := D.ex
  refine ⟨f, fd, h1, h3.kp, h2, ⟨fun ds S r h => (nomatch h), fun A outer s H args us vs Q hr e0 hb rv h => ?_⟩⟩
  obtain ⟨ρ, S, ds, d, S', _, _, h, _⟩ := h
  cases h
end
section
variable {X : Cx} {gg : Bool} {j k : Nat} {a b c e i : Expr} {es : List Expr} {pos p : Pos} {x : Str} {ps : List Str} {m : MA}
theorem rv (i : Nat) (hN : X.N[i]? = some x := by rfl) (hv : Vis X.env.scope x := by first | exact Or.inl rfl | exact Or.inr (Or.inl rfl) | exact Or.inr (Or.inr rfl)) (hd : (x == ("__debug__" : Str)) = false := by decide)
    (hcd : (x == ("__classdict__" : Str)) = false := by decide) : PE X (.Name x pos) (tE X.K (mVar i)) := re_var (pe_var hN hv hd hcd)
theorem rcal {o : OC} (C : Cal gg X.prog X.w X.K X.mg X.base k x ps o) (hr : RoomG gg j X.A) (hk : k ≤ j) (hg : Gl X x) (ha : PA X (e :: es) (tA X.K m)) (hdb : (x == ("__debug__" : Str)) = false := by decide)
    (he : starEach (e :: es) X.env = (false, eval e X.env) :: starEach es X.env := by rfl) (hpl : (backTo pos (starEach es X.env)).any (·.1) = false := by rfl) : PE X (.Call (.Name x p) (e :: es) [] pos) (tE X.K (mCall o m)) := by
  obtain ⟨f, fd, h1, h2, h3, h4⟩ := C.ex
  exact re_call h4 (hr.mono hk) hg h1 h2 h3 ha hdb he hpl
theorem rcalX {W : WX} {o : OCX} (C : CalX gg X.prog X.w X.K X.mg X.base k x ps o) (hr : RoomG gg j X.A) (hk : k ≤ j) (tk : Takes X W) (hg : Gl X x) (ha : PA X (e :: es) (tA X.K m)) (hdb : (x == ("__debug__" : Str)) = false := by decide)
    (he : starEach (e :: es) X.env = (false, eval e X.env) :: starEach es X.env := by rfl) (hpl : (backTo pos (starEach es X.env)).any (·.1) = false := by rfl) : PE X (.Call (.Name x p) (e :: es) [] pos) (tEX X.K W (xCall o m)) := by
  obtain ⟨f, fd, h1, h2, h3, h4⟩ := C.ex
  exact reX_call h4 (hr.mono hk) tk hg h1 h2 h3 ha hdb he hpl
theorem rcalN {W : WX} {o : OC} {m : MAX} (C : Cal gg X.prog X.w X.K X.mg X.base k x ps o) (hr : RoomG gg j X.A) (hk : k ≤ j) (hg : Gl X x) (ha : PA X (e :: es) (tAX X.K W m)) (hdb : (x == ("__debug__" : Str)) = false := by decide)
    (he : starEach (e :: es) X.env = (false, eval e X.env) :: starEach es X.env := by rfl) (hpl : (backTo pos (starEach es X.env)).any (·.1) = false := by rfl) : PE X (.Call (.Name x p) (e :: es) [] pos) (tEX X.K W (xCallN o m)) := by
  obtain ⟨f, fd, h1, h2, h3, h4⟩ := C.ex
  exact reX_callN h4 (hr.mono hk) hg h1 h2 h3 ha hdb he hpl
theorem rb_len (B : Bn X.mg) (hg : Gl X "len") (ha : PA X (e :: es) (tA X.K m)) (he : starEach (e :: es) X.env = (false, eval e X.env) :: starEach es X.env := by rfl) (hpl : (backTo pos (starEach es X.env)).any (·.1) = false := by rfl) :
    PE X (.Call (.Name "len" p) (e :: es) [] pos) (tE X.K (mCall oLen m)) := re_callB c_len hg B.len (by decide +kernel) ha (by decide) (by decide) he hpl
theorem rb_int (B : Bn X.mg) (hg : Gl X "int") (ha : PA X (e :: es) (tA X.K m)) (he : starEach (e :: es) X.env = (false, eval e X.env) :: starEach es X.env := by rfl) (hpl : (backTo pos (starEach es X.env)).any (·.1) = false := by rfl) :
    PE X (.Call (.Name "int" p) (e :: es) [] pos) (tE X.K (mCall oInt m)) := re_callTy c_int hg B.int (by decide +kernel) ha (by decide) (by decide) he hpl
theorem rb_tuple (B : Bn X.mg) (hg : Gl X "tuple") (ha : PA X (e :: es) (tA X.K m)) (he : starEach (e :: es) X.env = (false, eval e X.env) :: starEach es X.env := by rfl) (hpl : (backTo pos (starEach es X.env)).any (·.1) = false := by rfl) :
    PE X (.Call (.Name "tuple" p) (e :: es) [] pos) (tE X.K (mCall oTuple m)) := re_callTy c_tuple hg B.tuple (by decide +kernel) ha (by decide) (by decide) he hpl
theorem rb_list (B : Bn X.mg) (hg : Gl X "list") (ha : PA X (e :: es) (tA X.K m)) (he : starEach (e :: es) X.env = (false, eval e X.env) :: starEach es X.env := by rfl) (hpl : (backTo pos (starEach es X.env)).any (·.1) = false := by rfl) :
    PE X (.Call (.Name "list" p) (e :: es) [] pos) (tE X.K (mCall oList m)) := re_callTy c_list hg B.list (by decide +kernel) ha (by decide) (by decide) he hpl
theorem rb_dict (hc : X.calm = true) (B : Bn X.mg) (hg : Gl X "dict") (ha : PA X (e :: es) (tA X.K m)) (he : starEach (e :: es) X.env = (false, eval e X.env) :: starEach es X.env := by rfl) (hpl : (backTo pos (starEach es X.env)).any (·.1) = false := by rfl) :
    PE X (.Call (.Name "dict" p) (e :: es) [] pos) (tE X.K (mCall oDictP m)) := re_callTy (c_dictP hc) hg B.dict (by decide +kernel) ha (by decide) (by decide) he hpl
theorem rb_max (hc : X.calm = true) (B : Bn X.mg) (hg : Gl X "max") (ha : PA X (e :: es) (tA X.K m)) (he : starEach (e :: es) X.env = (false, eval e X.env) :: starEach es X.env := by rfl) (hpl : (backTo pos (starEach es X.env)).any (·.1) = false := by rfl) :
    PE X (.Call (.Name "max" p) (e :: es) [] pos) (tE X.K (mCall oMax2 m)) := re_callB (c_max2 hc) hg B.max (by decide +kernel) ha (by decide) (by decide) he hpl
theorem rb_min (hc : X.calm = true) (B : Bn X.mg) (hg : Gl X "min") (ha : PA X (e :: es) (tA X.K m)) (he : starEach (e :: es) X.env = (false, eval e X.env) :: starEach es X.env := by rfl) (hpl : (backTo pos (starEach es X.env)).any (·.1) = false := by rfl) :
    PE X (.Call (.Name "min" p) (e :: es) [] pos) (tE X.K (mCall oMin2 m)) := re_callB (c_min2 hc) hg B.min (by decide +kernel) ha (by decide) (by decide) he hpl
theorem rb_sorted (hc : X.calm = true) (B : Bn X.mg) (hg : Gl X "sorted") (ha : PA X (e :: es) (tA X.K m)) (he : starEach (e :: es) X.env = (false, eval e X.env) :: starEach es X.env := by rfl) (hpl : (backTo pos (starEach es X.env)).any (·.1) = false := by rfl) :
    PE X (.Call (.Name "sorted" p) (e :: es) [] pos) (tE X.K (mCall oSorted m)) := re_callB (c_sorted hc) hg B.sorted (by decide +kernel) ha (by decide) (by decide) he hpl
theorem rb_repr (hr : RoomG true k X.A) (B : Bn X.mg) (hg : Gl X "repr") (ha : PA X (e :: es) (tA X.K m)) (he : starEach (e :: es) X.env = (false, eval e X.env) :: starEach es X.env := by rfl) (hpl : (backTo pos (starEach es X.env)).any (·.1) = false := by rfl) :
    PE X (.Call (.Name "repr" p) (e :: es) [] pos) (tE X.K (mCall oReprA m)) := re_callB (c_reprA hr) hg B.repr (by decide +kernel) ha (by decide) (by decide) he hpl
theorem rb_isinstance (B : Bn X.mg) (hg : Gl X "isinstance") (ha : PA X (e :: es) (tA X.K m)) (he : starEach (e :: es) X.env = (false, eval e X.env) :: starEach es X.env := by rfl) (hpl : (backTo pos (starEach es X.env)).any (·.1) = false := by rfl) :
    PE X (.Call (.Name "isinstance" p) (e :: es) [] pos) (tE X.K (mCall oIsi m)) := re_callB c_isi hg B.isinstance (by decide +kernel) ha (by decide) (by decide) he hpl
theorem rb_isinstanceA {t : KitT} (ht : KitOk X.K t) (B : Bn X.mg) (hg : Gl X "isinstance") (ha : PA X (e :: es) (tA X.K m)) (he : starEach (e :: es) X.env = (false, eval e X.env) :: starEach es X.env := by rfl) (hpl : (backTo pos (starEach es X.env)).any (·.1) = false := by rfl) :
    PE X (.Call (.Name "isinstance" p) (e :: es) [] pos) (tE X.K (mCall (oIsiA t) m)) := re_callB (c_isiA ht) hg B.isinstance (by decide +kernel) ha (by decide) (by decide) he hpl
/-- names of types -/
theorem rt_int (B : Bn X.mg) (hg : Gl X "int") : PE X (.Name "int" pos) (tE X.K (mC (.v (.ty "int")))) := re_bltn hg B.int (by decide +kernel) rfl
theorem rt_str (B : Bn X.mg) (hg : Gl X "str") : PE X (.Name "str" pos) (tE X.K (mC (.v (.ty "str")))) := re_bltn hg B.str (by decide +kernel) rfl
theorem rt_bool (B : Bn X.mg) (hg : Gl X "bool") : PE X (.Name "bool" pos) (tE X.K (mC (.v (.ty "bool")))) := re_bltn hg B.bool (by decide +kernel) rfl
theorem rt_tuple (B : Bn X.mg) (hg : Gl X "tuple") : PE X (.Name "tuple" pos) (tE X.K (mC (.v (.ty "tuple")))) := re_bltn hg B.tuple (by decide +kernel) rfl
theorem rt_list (B : Bn X.mg) (hg : Gl X "list") : PE X (.Name "list" pos) (tE X.K (mC (.v (.ty "list")))) := re_bltn hg B.list (by decide +kernel) rfl
theorem rt_eq {ma mb : ME} (hr : RoomG gg k X.A) (ha : PE X a (tE X.K ma)) (hb : PE X b (tE X.K mb)) (hm : behindInMarks .Eq b = false := by rfl) : PT X (.Compare a [.Eq] [b] pos) (tT X.K (mVal (mBin (oEq false) ma mb))) := rt_cmp (op_eqDD (hu64 hr)) ha hb hm
theorem rt_ne {ma mb : ME} (hr : RoomG gg k X.A) (ha : PE X a (tE X.K ma)) (hb : PE X b (tE X.K mb)) (hm : behindInMarks .NotEq b = false := by rfl) : PT X (.Compare a [.NotEq] [b] pos) (tT X.K (mVal (mBin (oEq true) ma mb))) := rt_cmp (op_neDD (hu64 hr)) ha hb hm
theorem re_eq {ma mb : ME} (hr : RoomG gg k X.A) (ha : PE X a (tE X.K ma)) (hb : PE X b (tE X.K mb)) (hm : behindInMarks .Eq b = false := by rfl) : PE X (.Compare a [.Eq] [b] pos) (tE X.K (mBin (oEq false) ma mb)) := re_cmp (op_eqDD (hu64 hr)) ha hb hm
theorem re_ne {ma mb : ME} (hr : RoomG gg k X.A) (ha : PE X a (tE X.K ma)) (hb : PE X b (tE X.K mb)) (hm : behindInMarks .NotEq b = false := by rfl) : PE X (.Compare a [.NotEq] [b] pos) (tE X.K (mBin (oEq true) ma mb)) := re_cmp (op_neDD (hu64 hr)) ha hb hm
end
/-! ### targets of comprehensions -/
theorem relGs_nil {K : PySem.W.Frag} : RelGs K [] gNil gsNil := fun ρ S E E' σ H ds ws Q r rd ht k => by
  cases ds with
  | nil =>
    cases ht
    cases rd
    exact ⟨rfl, k σ r.e ⟨rfl, fun _ _ => rfl⟩⟩
  | cons _ _ => cases ht
theorem relGs_cons {K : PySem.W.Frag} {vs us : List Nat} {g1 : TG} {g2 : TGs} {t : Tg} {u : Tgs} (r1 : RelG K vs g1 t) (r2 : RelGs K us g2 u) : RelGs K (vs ++ us) (gCons g1 g2) (gsCons t u) := fun ρ S E E' σ H ds ws Q r rd ht k => by
  cases ds with
  | nil => cases ht
  | cons d ds =>
    cases rd with
    | cons rv rq =>
      rename_i v q
      cases e1 : t d E with
      | none => simp [gsCons, e1] at ht
      | some E1 =>
        simp only [gsCons, e1, Option.bind_some] at ht
        refine ⟨v, q, rfl, r1 ρ S E E1 σ H d v _ r rv e1 fun σ1 re1 f1 => ?_⟩
        exact r2 ρ S E1 E' σ1 H ds q Q ⟨r.s, re1⟩ rq ht fun σ2 re2 f2 => k σ2 re2 ⟨f2.len.trans f1.len, fun i hi => by
          simp only [List.mem_append, not_or] at hi
          rw [f2.same i hi.2, f1.same i hi.1]⟩
theorem relG_tup {K : PySem.W.Frag} {us : List Nat} {g2 : TGs} {u : Tgs} {n : Nat} (r2 : RelGs K us g2 u) : RelG K us (gTup K n g2) (gT n u) := fun ρ S E E' σ H d v Q r rd ht k => by
  unfold gT at ht
  split at ht
  · rename_i ds
    split at ht
    · rename_i hl
      simp only [RelD, RelP] at rd
      obtain ⟨a, vs, rfl, h1, h2⟩ := rd
      exact ⟨a, vs, rfl, h1.sq, by rw [h2.length, hl], r2 ρ S E E' σ H _ vs Q r (relDs_ps h2) ht k⟩
    · cases ht
  · rename_i ds
    split at ht
    · rename_i hl
      simp only [RelD, RelP] at rd
      obtain ⟨a, vs, rfl, h1, h2⟩ := rd
      exact ⟨a, vs, rfl, h1.sq, by rw [h2.length, hl], r2 ρ S E E' σ H _ vs Q r (relDs_ps h2) ht k⟩
    · cases ht
  · cases ht
end Pt
set_option maxRecDepth 100000
set_option maxHeartbeats 1000000
/-! Pt21: words for what the law does with exceptions. -/
namespace Pt
open PySem PySem.Spec PyProof.Rows L2
open LamX
/-- under which classes a NotNamed stands -/
abbrev kitT : KitT := [(cNotNamed, .ty "list", false), (cNotNamed, .ref cNotNamed, true), (cNotNamed, .ref cNotBook, false)]
/-- _law_refused's object -/
structure RefD (K : PySem.W.Frag) (mg : Str → Option Value) : Prop where
  ex : ∃ (g : Addr) (dV kV doc pm cdv ct oc : Value) (an od : Option Addr) (osl : Array (Option Value)), mg "_law_refused" = some (.ref g) ∧ PySem.W.keepIn K (.ref g) = true ∧
    K.lookup g = some ⟨oc, od, .func (PySem.W.fnOf "_law_refused" "_law_refused" (defArgs (top iRefused)) (defBody (top iRefused)) (defScope (top iRefused)) dV kV doc pm an cdv ct), osl⟩ ∧ PySem.W.codeIn K cdv "_law_refused" = true ∧
    L2.Binds K (PySem.W.fnOf "_law_refused" "_law_refused" (defArgs (top iRefused)) (defBody (top iRefused)) (defScope (top iRefused)) dV kV doc pm an cdv ct) ["call"] []
theorem scRef : FnScope refN ["call"] (defScope (top iRefused)) := ⟨rfl, rfl, rfl, by decide +kernel, rfl, by decide +kernel, by decide +kernel⟩
section
variable {X : Cx} {gg : Bool}
theorem rref {CS : Addr} {Cs : List Addr} {c P : Addr} {k k' : Nat} {params : Arguments} {body : Expr} {scope : Scope} {m : MEX} {p lpos pos : Pos} (R : RefD X.K X.mg) (hme : X.mg "TallyError" = some (.ref CS)) (hCs : ∀ C ∈ Cs, PySem.W.exmOne X.K (.ref C) (.ref CS) = some true) (hg : Gl X "_law_refused")
    (TB : TabB X.base X.mg c P) (hcode : X.env.code = .ref c) (hmT : (P, X.env.qual ++ "<lambda>") ∈ theT) (hu : ∀ p ∈ theT, p.1 = P → p.2 = X.env.qual ++ "<lambda>") (hr : RoomG gg k' X.A) (hk : k + 2 ≤ k') (L : LamS X.env.scope scope) (hdef : defaultsOf params X.env = ([], []))
    (hbind : ∀ (q : Str) (cl : List (Str × Addr)) (pm cv ctv : Value), bindArgs (PySem.W.kla_fn "<lambda>" q params body scope cl pm cv ctv) ⟨[], []⟩ = pure [])
    (hbody : ∀ (A : Around) (outer : List Env) (s : Shared) (H : Hp) (E : XK) (f c' : Addr), RoomG false k (A.deeper (lamEnv X scope s.heap.objs.size f c')) → PE (lamCx X A outer s H E scope f c') body (tEX X.K (fun c d _ H => E c d H) m)) :
    PE X (.Call (.Name "_law_refused" p) [.Lambda params body scope lpos] [] pos) (tE X.K (mRef Cs m)) := by
  obtain ⟨g, dV, kV, doc, pm, cdv, ct, oc, an, od, osl, h1, h2, h3, h4, h5⟩ := R.ex
  exact re_refused hme hCs hg h1 h2 h3 h4 h5 scRef TB hcode hmT hu (hr.room.mono hk) L hdef hbind fun A outer s H E f c' r => hbody A outer s H E f c' ⟨r, fun z => nomatch z⟩
end
section
variable {X : Cx} {tg iter kx vx : Expr} {ifs : List Expr} {scope : Scope} {own : List (Str × Nat)} {pos spos py : Pos} {ms : MI} {vs : List Nat} {t : Tg} {tt : MT} {tk te : ME}
/-- name = {k: v for ..} on one line -/
theorem rs_setDc {i : Nat} {y : Str} (hc : X.calm = true) (hN : X.N.Nodup) (hy : X.N[i]? = some y) (hyl : X.env.scope.names.lookup y = some .local)
    (hsw : swapsWith (.DictComp kx vx [⟨tg, iter, ifs, 0⟩] scope pos) (some (.Name y py)) spos.line X.env = pure true) (hi : PI X tg iter (tI X.K ms)) (ok : BlkOk X.N X.env.scope scope own) (hg : RGB X scope tg vs t) (hv : ∀ i ∈ vs, i ∈ own.map (·.2))
    (ht : BK X scope fun Y => PTs Y ifs (tT X.K tt)) (hk : BK X scope fun Y => PE Y kx (tE X.K tk)) (he : BK X scope fun Y => PE Y vx (tE X.K te)) (hs : ∀ x, foldedSetIterable iter X.env x = pure x := by intro _; rfl) :
    PS X (.Assign [.Name y py] (.DictComp kx vx [⟨tg, iter, ifs, 0⟩] scope pos) spos) (tS X.K (sAsg (mDc (own.map (·.2)) ms t tt tk te) (gN i))) := by
  obtain ⟨g, pg, rg⟩ := hg.ex
  refine ⟨fun pins s σ H D I hq => ?_⟩
  have h := dc_pd rg hv _ _ _ (asg_t (rel_gN i) D σ H hq)
  rw [exec_Assign_Name_used _ _ _ _ hsw]
  refine wpAny_bind (wpAny_standAt (wpAny_bind ?_))
  show wpAny _ X.A (do let _ ← comprehension (.DictComp kx vx [⟨tg, iter, ifs, 0⟩] scope pos) scope X.env (firstIterPos [⟨tg, iter, ifs, 0⟩] pos) newDict false (eval iter X.env) (some (assign (.Name y py) X.env))) _ _ s
  refine wpAny_bind (thn (dc_core (Qf := fun _ s' => SP X pins D .next s') hc hN I hi ok pg ht hk he hs h fun L C s' m H' I' q hn f => ?_) fun _ s' hq => wpAny_pure (wpAny_pure hq))
  show wpAny _ _ (assign (.Name y py) X.env (.ref L)) _ _ _
  refine wpAny_assign_Name (store_ok2 (v := V.ref L) I' hN hy (.inl hyl) rfl (fun s2 I2 ⟨a, sb, ha⟩ => ?_) (.inr hyl))
  obtain ⟨f0, f1, f2, f3, f4, f5⟩ := f
  have haC : C ≠ a := by
    rcases ha with z | z
    · rw [z]; exact f1
    · exact fun e => f4 y a z e.symm
  exact ⟨m, hn.sameBut sb haC, fun h3 sb3 => ⟨_, H', I2.turned (t' := s2.toks) (fun b o hb e => (sb3.2 b hb).trans e) f0 f1 f3 f4 f5, q⟩⟩
end
end Pt
set_option maxRecDepth 100000
set_option maxHeartbeats 4000000
/-! G1 (printed by wip/gen): each def's body as a plain function, and its walk. -/
namespace Pt
open PySem PySem.Spec PyProof.Rows L2

structure Defs (P : Program) (K : PySem.W.Frag) (mg : Str → Option Value) : Prop where
  d_form_sum : DefAt K mg "form_sum" (top 5) ["one", "other"]
  d_form_times : DefAt K mg "form_times" (top 6) ["form", "n"]
  d_put_in : DefAt K mg "put_in" (top 7) ["form", "forms", "n"]
  d_letter : DefAt K mg "letter" (top 8) ["i", "n"]
  d_widened : DefAt K mg "widened" (top 10) ["forms", "n"]
  d_formula_put_in : DefAt K mg "formula_put_in" (top 11) ["formula", "forms", "n"]
  d_is_name : DefAt K mg "is_name" (top 14) ["value"]
  d_uses_of : DefAt K mg "uses_of" (top 15) ["formula"]
  d_hung : DefAt K mg "hung" (top 16) ["rooms", "name"]
  d_rooms_with : DefAt K mg "rooms_with" (top 17) ["book", "name"]
  d_hangs_on : DefAt K mg "hangs_on" (top 18) ["book", "name"]
  d_written : DefAt K mg "written" (top 19) ["rooms", "formula", "m"]
  d_written_out : DefAt K mg "written_out" (top 20) ["book", "name"]
  d__law_begun : DefAt K mg "_law_begun" (top 22) ["script", "k"]
  d__law_draw : DefAt K mg "_law_draw" (top 23) ["m", "bound"]
  d__law_of : DefAt K mg "_law_of" (top 24) ["m", "some"]
  d__law_like : DefAt K mg "_law_like" (top 25) ["got", "due"]
  d__law_refused : DefAt K mg "_law_refused" (top 26) ["call"]
  d__law_is_whole : DefAt K mg "_law_is_whole" (top 27) ["value_so"]
  d__law_is_form : DefAt K mg "_law_is_form" (top 28) ["value_so", "m"]
  d__law_is_name : DefAt K mg "_law_is_name" (top 29) ["value_so"]
  d__law_is_formula : DefAt K mg "_law_is_formula" (top 30) ["value_so", "m"]
  d__law_is_room : DefAt K mg "_law_is_room" (top 31) ["value_so"]
  d__law_used : DefAt K mg "_law_used" (top 32) ["formula"]
  d__law_hangs : DefAt K mg "_law_hangs" (top 33) ["rooms", "name"]
  d__law_sizes : DefAt K mg "_law_sizes" (top 34) ["rooms", "formula"]
  d__law_letters : DefAt K mg "_law_letters" (top 35) ["rooms", "formula", "m"]
  d__law_form_place : DefAt K mg "_law_form_place" (top 36) ["value_so"]
  d__law_breach : DefAt K mg "_law_breach" (top 37) ["value_so"]
  d__law_formula : DefAt K mg "_law_formula" (top 38) ["m", "letters", "names", "deep"]
  d__law_book : DefAt K mg "_law_book" (top 39) ["m", "count"]
  d__law_put_form : DefAt K mg "_law_put_form" (top 40) ["form", "forms_so", "n"]
  d__law_put : DefAt K mg "_law_put" (top 41) ["formula", "forms_so", "n"]
  d__law_written : DefAt K mg "_law_written" (top 42) ["rooms", "formula", "n"]
  d__law_unnamed : DefAt K mg "_law_unnamed" (top 43) ["book", "name"]
  d__law_right : DefAt K mg "_law_right" (top 44) ["book"]
  d_law : DefAt K mg "law" (top 45) ["script"]
  c_LETTERS : ∃ t, mg "LETTERS" = some (.str "abcdefghijklmnopqrstuvwxyz" t)
  g_NotNamed : mg "NotNamed" = some (.ref cNotNamed)
  g_NotBook : mg "NotBook" = some (.ref cNotBook)
  g_TallyError : mg "TallyError" = some (.ref cTallyError)
  s_NotNamed : SupCls P K mg "NotNamed" cNotNamed fNotNamed
  f_NotNamed : SupFn P K cNotNamed fNotNamed "NotNamed.__init__" argNN bdyNN (scp1 "name")
  n_NotNamed : PySem.W.findIn K (.ref cNotNamed) "name" = some none
  r_refused : RefD K mg
  r_exm : ∀ C ∈ [cNotNamed], PySem.W.exmOne K (.ref C) (.ref cTallyError) = some true
  xf : ∀ C ∈ [cNotNamed], XfC K C ∧ PySem.W.findIn K (.ref C) "name" = some none
  kit : KitOk K kitT
section
variable {P : Program} {w : World} {K : PySem.W.Frag} {mg : Str → Option Value} {base : Heap}
/-! ### form_sum -/
abbrev n_form_sum : List Str := ["one", "other", "a", "b"]
theorem sc_form_sum : FnScope n_form_sum ["one", "other"] (defScope (top 5)) := ⟨rfl, rfl, rfl, by decide +kernel, rfl, by decide +kernel, by decide +kernel⟩
noncomputable def m_form_sum : MS := (sSeq (sRet (mCall oTuple (aCons (mLc [2, 3] (iZip (aCons (mVar 0) (aCons (mVar 1) aNil))) (gT 2 (gsCons (gN 2) (gsCons (gN 3) gsNil))) tYes1 (mBin oAdd (mVar 2) (mVar 3))) aNil)))
  sNil)
noncomputable def fn_form_sum : OC := fnM 4 2 m_form_sum
theorem cal_form_sum {gg : Bool} (T : Defs P K mg) (B : Bn mg) : Cal gg P w K mg base 1 "form_sum" ["one", "other"] fn_form_sum := by
  have nd := sc_form_sum.nd
  refine Cal.of (k := 0) T.d_form_sum sc_form_sum fun f cdv A outer s H E hr => ?_
  unfold m_form_sum
  exact (rss_cons (rs_ret (rb_tuple B rfl (ra_cons (re_lc (own := [("a", 2), ("b", 3)]) rfl nd (ri_zip rfl B.zip (ra_cons (rv 0) (ra_cons (rv 1) ra_nil))) (blkOk_by rfl) ⟨(gTup _ 2 (gCons (gName 2) (gCons (gName 3) gNil))), fun _ _ _ _ _ => (pg_tup (n := 2) rfl (pgs_cons (pg_name (i := 2) nd rfl (.inl rfl) (.inr rfl)) (pgs_cons (pg_name (i := 3) nd rfl (.inl rfl) (.inr rfl)) pgs_nil))), (relG_tup (relGs_cons (rel_gN 2) (relGs_cons (rel_gN 3) relGs_nil)))⟩ (by decide) (fun _ _ _ _ _ => rts_nil) (fun _ _ _ _ _ => (re_bin op_addD (rv 2) (rv 3)))) ra_nil)))
  rss_nil)

/-! ### form_times -/
abbrev n_form_times : List Str := ["form", "n", "c"]
theorem sc_form_times : FnScope n_form_times ["form", "n"] (defScope (top 6)) := ⟨rfl, rfl, rfl, by decide +kernel, rfl, by decide +kernel, by decide +kernel⟩
noncomputable def m_form_times : MS := (sSeq (sRet (mCall oTuple (aCons (mLc [2] (iSeq (mVar 0)) (gN 2) tYes1 (mBin oMulG (mVar 1) (mVar 2))) aNil)))
  sNil)
noncomputable def fn_form_times : OC := fnM 3 2 m_form_times
theorem cal_form_times {gg : Bool} (T : Defs P K mg) (B : Bn mg) : Cal gg P w K mg base 1 "form_times" ["form", "n"] fn_form_times := by
  have nd := sc_form_times.nd
  refine Cal.of (k := 0) T.d_form_times sc_form_times fun f cdv A outer s H E hr => ?_
  unfold m_form_times
  exact (rss_cons (rs_ret (rb_tuple B rfl (ra_cons (re_lc (own := [("c", 2)]) rfl nd (ri_seq (rv 0)) (blkOk_by rfl) ⟨(gName 2), fun _ _ _ _ _ => (pg_name (i := 2) nd rfl (.inl rfl) (.inr rfl)), (rel_gN 2)⟩ (by decide) (fun _ _ _ _ _ => rts_nil) (fun _ _ _ _ _ => (re_bin op_mulG (rv 1) (rv 2)))) ra_nil)))
  rss_nil)

/-! ### put_in -/
abbrev n_put_in : List Str := ["form", "forms", "n", "found", "c", "one"]
theorem sc_put_in : FnScope n_put_in ["form", "forms", "n"] (defScope (top 7)) := ⟨rfl, rfl, rfl, by decide +kernel, rfl, by decide +kernel, by decide +kernel⟩
noncomputable def m_put_in : MS := (sSeq (sAsg (mBin oAdd (mTup (aCons (mBin oIx (mVar 0) (mC (.p (.int 0)))) aNil)) (mBin oMulG (mTup (aCons (mC (.p (.int 0))) aNil)) (mVar 2))) (gN 3))
  (sSeq (sFor (iZip (aCons (mSl (mVar 0) (oSome (mC (.p (.int 1)))) oNone) (aCons (mVar 1) aNil))) (gT 2 (gsCons (gN 4) (gsCons (gN 5) gsNil))) (sSeq (sAsg (mCall fn_form_sum (aCons (mVar 3) (aCons (mCall fn_form_times (aCons (mVar 5) (aCons (mVar 4) aNil))) aNil))) (gN 3))
  sNil))
  (sSeq (sRet (mVar 3))
  sNil)))
noncomputable def fn_put_in : OC := fnM 6 3 m_put_in
theorem cal_put_in {gg : Bool} (T : Defs P K mg) (B : Bn mg) : Cal gg P w K mg base 2 "put_in" ["form", "forms", "n"] fn_put_in := by
  have nd := sc_put_in.nd
  refine Cal.of (k := 1) T.d_put_in sc_put_in fun f cdv A outer s H E hr => ?_
  unfold m_put_in
  exact (rss_cons (rs_set (i := 3) nd rfl (by first | exact .inl rfl | exact .inr rfl) (re_bin op_addD (re_tup (ra_cons (re_sub hr (rv 0) re_int) ra_nil)) (re_bin op_mulG (re_tup (ra_cons re_int ra_nil)) (rv 2))) rfl (.inl rfl))
  (rss_cons (rs_for PassesOwn.never rfl (ri_zip rfl B.zip (ra_cons (re_slice (rv 0) (ro_some re_int) ro_none) (ra_cons (rv 1) ra_nil))) (rg_tup (n := 2) rfl (rgs_cons (rg_name (i := 4) nd rfl (by first | exact .inl rfl | exact .inr rfl) (.inl rfl)) (rgs_cons (rg_name (i := 5) nd rfl (by first | exact .inl rfl | exact .inr rfl) (.inl rfl)) rgs_nil))) (rss_cons (rs_set (i := 3) nd rfl (by first | exact .inl rfl | exact .inr rfl) (rcal (cal_form_sum T B) hr (by first | decide | omega) rfl (ra_cons (rv 3) (ra_cons (rcal (cal_form_times T B) hr (by first | decide | omega) rfl (ra_cons (rv 5) (ra_cons (rv 4) ra_nil))) ra_nil))) rfl (.inl rfl))
  rss_nil))
  (rss_cons (rs_ret (rv 3))
  rss_nil)))

/-! ### letter -/
abbrev n_letter : List Str := ["i", "n", "j"]
theorem sc_letter : FnScope n_letter ["i", "n"] (defScope (top 8)) := ⟨rfl, rfl, rfl, by decide +kernel, rfl, by decide +kernel, by decide +kernel⟩
noncomputable def m_letter : MS := (sSeq (sRet (mBin oAdd (mTup (aCons (mC (.p (.int 0))) aNil)) (mCall oTuple (aCons (mLc [2] (iRange1 (aCons (mVar 1) aNil)) (gN 2) tYes1 (mIf (mVal (mBin (oEq false) (mVar 2) (mVar 0))) (mC (.p (.int 1))) (mC (.p (.int 0))))) aNil))))
  sNil)
noncomputable def fn_letter : OC := fnM 3 2 m_letter
theorem cal_letter {gg : Bool} (T : Defs P K mg) (B : Bn mg) : Cal gg P w K mg base 1 "letter" ["i", "n"] fn_letter := by
  have nd := sc_letter.nd
  refine Cal.of (k := 0) T.d_letter sc_letter fun f cdv A outer s H E hr => ?_
  unfold m_letter
  exact (rss_cons (rs_ret (re_bin op_addD (re_tup (ra_cons re_int ra_nil)) (rb_tuple B rfl (ra_cons (re_lc (own := [("j", 2)]) rfl nd (ri_range1 rfl B.range (ra_cons (rv 1) ra_nil)) (blkOk_by rfl) ⟨(gName 2), fun _ _ _ _ _ => (pg_name (i := 2) nd rfl (.inl rfl) (.inr rfl)), (rel_gN 2)⟩ (by decide) (fun _ _ _ _ _ => rts_nil) (fun _ _ _ _ _ => (re_if (rt_eq hr (rv 2) (rv 0)) re_int re_int))) ra_nil))))
  rss_nil)

/-! ### widened -/
abbrev n_widened : List Str := ["forms", "n", "form"]
theorem sc_widened : FnScope n_widened ["forms", "n"] (defScope (top 10)) := ⟨rfl, rfl, rfl, by decide +kernel, rfl, by decide +kernel, by decide +kernel⟩
noncomputable def m_widened : MS := (sSeq (sRet (mBin oAdd (mCall oTuple (aCons (mLc [2] (iSeq (mVar 0)) (gN 2) tYes1 (mBin oAdd (mVar 2) (mTup (aCons (mC (.p (.int 0))) aNil)))) aNil)) (mTup (aCons (mCall fn_letter (aCons (mVar 1) (aCons (mBin oAdd (mVar 1) (mC (.p (.int 1)))) aNil))) aNil))))
  sNil)
noncomputable def fn_widened : OC := fnM 3 2 m_widened
theorem cal_widened {gg : Bool} (T : Defs P K mg) (B : Bn mg) : Cal gg P w K mg base 2 "widened" ["forms", "n"] fn_widened := by
  have nd := sc_widened.nd
  refine Cal.of (k := 1) T.d_widened sc_widened fun f cdv A outer s H E hr => ?_
  unfold m_widened
  exact (rss_cons (rs_ret (re_bin op_addD (rb_tuple B rfl (ra_cons (re_lc (own := [("form", 2)]) rfl nd (ri_seq (rv 0)) (blkOk_by rfl) ⟨(gName 2), fun _ _ _ _ _ => (pg_name (i := 2) nd rfl (.inl rfl) (.inr rfl)), (rel_gN 2)⟩ (by decide) (fun _ _ _ _ _ => rts_nil) (fun _ _ _ _ _ => (re_bin op_addD (rv 2) (re_tup (ra_cons re_int ra_nil))))) ra_nil)) (re_tup (ra_cons (rcal (cal_letter T B) hr (by first | decide | omega) rfl (ra_cons (rv 1) (ra_cons (re_bin op_addD (rv 1) re_int) ra_nil))) ra_nil))))
  rss_nil)

/-! ### formula_put_in -/
abbrev n_formula_put_in : List Str := ["formula", "forms", "n", "one"]
theorem sc_formula_put_in : FnScope n_formula_put_in ["formula", "forms", "n"] (defScope (top 11)) := ⟨rfl, rfl, rfl, by decide +kernel, rfl, by decide +kernel, by decide +kernel⟩
noncomputable def m_formula_put_in (self : OC) : MS := (sSeq (sIf (mVal (mBin (oIn false) (mBin oIx (mVar 0) (mC (.p (.int 0)))) (mTup (aCons (mC (.p (.str "row"))) (aCons (mC (.p (.str "divides"))) aNil))))) (sSeq (sRet (mBin oAdd (mSl (mVar 0) oNone (oSome (mUn oNeg (mC (.p (.int 1)))))) (mTup (aCons (mCall fn_put_in (aCons (mBin oIx (mVar 0) (mUn oNeg (mC (.p (.int 1))))) (aCons (mVar 1) (aCons (mVar 2) aNil)))) aNil))))
  sNil) sNil)
  (sSeq (sIf (mVal (mBin (oEq false) (mBin oIx (mVar 0) (mC (.p (.int 0)))) (mC (.p (.str "some"))))) (sSeq (sRet (mTup (aCons (mC (.p (.str "some"))) (aCons (mCall self (aCons (mBin oIx (mVar 0) (mC (.p (.int 1)))) (aCons (mCall fn_widened (aCons (mVar 1) (aCons (mVar 2) aNil))) (aCons (mBin oAdd (mVar 2) (mC (.p (.int 1)))) aNil)))) aNil))))
  sNil) sNil)
  (sSeq (sRet (mBin oAdd (mSl (mVar 0) oNone (oSome (mC (.p (.int 1))))) (mCall oTuple (aCons (mLc [3] (iSeq (mSl (mVar 0) (oSome (mC (.p (.int 1)))) oNone)) (gN 3) tYes1 (mCall self (aCons (mVar 3) (aCons (mVar 1) (aCons (mVar 2) aNil))))) aNil))))
  sNil)))
noncomputable def fn_formula_put_in : Nat → OC
  | 0 => oNo
  | n + 1 => fnM 4 3 (m_formula_put_in (fn_formula_put_in n))
theorem calr_formula_put_in {gg : Bool} (T : Defs P K mg) (B : Bn mg) : ∀ n : Nat, Cal gg P w K mg base (2 + n) "formula_put_in" ["formula", "forms", "n"] (fn_formula_put_in n)
  | 0 => Cal.no T.d_formula_put_in
  | n + 1 => by
    have CS : Cal gg P w K mg base (2 + n) "formula_put_in" ["formula", "forms", "n"] (fn_formula_put_in n) := calr_formula_put_in T B n
    have nd := sc_formula_put_in.nd
    refine Cal.of (k := 2 + n) T.d_formula_put_in sc_formula_put_in fun f cdv A outer s H E hr => ?_
    unfold m_formula_put_in
    exact (rss_cons (rs_if (rt_in hr (re_sub hr (rv 0) re_int) (re_tup (ra_cons re_str (ra_cons re_str ra_nil)))) (rss_cons (rs_ret (re_bin op_addD (re_slice (rv 0) ro_none (ro_some (re_un un_negD re_int))) (re_tup (ra_cons (rcal (cal_put_in T B) hr (by first | decide | omega) rfl (ra_cons (re_sub hr (rv 0) (re_un un_negD re_int)) (ra_cons (rv 1) (ra_cons (rv 2) ra_nil)))) ra_nil))))
  rss_nil) rss_nil)
  (rss_cons (rs_if (rt_eq hr (re_sub hr (rv 0) re_int) re_str) (rss_cons (rs_ret (re_tup (ra_cons re_str (ra_cons (rcal CS hr (by omega) rfl (ra_cons (re_sub hr (rv 0) re_int) (ra_cons (rcal (cal_widened T B) hr (by first | decide | omega) rfl (ra_cons (rv 1) (ra_cons (rv 2) ra_nil))) (ra_cons (re_bin op_addD (rv 2) re_int) ra_nil)))) ra_nil))))
  rss_nil) rss_nil)
  (rss_cons (rs_ret (re_bin op_addD (re_slice (rv 0) ro_none (ro_some re_int)) (rb_tuple B rfl (ra_cons (re_lc (own := [("one", 3)]) rfl nd (ri_seq (re_slice (rv 0) (ro_some re_int) ro_none)) (blkOk_by rfl) ⟨(gName 3), fun _ _ _ _ _ => (pg_name (i := 3) nd rfl (.inl rfl) (.inr rfl)), (rel_gN 3)⟩ (by decide) (fun _ _ _ _ _ => rts_nil) (fun _ _ _ _ _ => (rcal CS hr (by omega) rfl (ra_cons (rv 3) (ra_cons (rv 1) (ra_cons (rv 2) ra_nil)))))) ra_nil))))
  rss_nil)))
theorem cal_formula_put_in {gg : Bool} (T : Defs P K mg) (B : Bn mg) : Cal gg P w K mg base 66 "formula_put_in" ["formula", "forms", "n"] (fn_formula_put_in 64) := calr_formula_put_in T B 64

/-! ### is_name -/
abbrev n_is_name : List Str := ["value", "sign"]
theorem sc_is_name : FnScope n_is_name ["value"] (defScope (top 14)) := ⟨rfl, rfl, rfl, by decide +kernel, rfl, by decide +kernel, by decide +kernel⟩
noncomputable def m_is_name : MS := (sSeq (sIf (mOr (mNot (mVal (mCall oIsi (aCons (mVar 0) (aCons (mC (.v (.ty "str"))) aNil))))) (mNot (mVal (mChain oLe oLe (mC (.p (.int 1))) (mCall oLen (aCons (mVar 0) aNil)) (mC (.p (.int 20))))))) (sSeq (sRet (mC (.p (.bl false))))
  sNil) sNil)
  (sSeq (sRet (mBin (oEq false) (mLc [1] (iSeq (mVar 0)) (gN 1) (mVal (mBin (oIn true) (mVar 1) (mC (.p (.str "abcdefghijklmnopqrstuvwxyz"))))) (mVar 1)) (mLst aNil)))
  sNil))
noncomputable def fn_is_name : OC := fnM 2 1 m_is_name
theorem cal_is_name {gg : Bool} (T : Defs P K mg) (B : Bn mg) : Cal gg P w K mg base 1 "is_name" ["value"] fn_is_name := by
  have nd := sc_is_name.nd
  refine Cal.of (k := 0) T.d_is_name sc_is_name fun f cdv A outer s H E hr => ?_
  unfold m_is_name
  exact (rss_cons (rs_if (PW.pt (rw_or (rt_not (rt_val (rb_isinstance B rfl (ra_cons (rv 0) (ra_cons (rt_str B rfl) ra_nil))))) (rw_or1 (rt_not (rt_chain op_leD op_leD re_int (rb_len B rfl (ra_cons (rv 0) ra_nil)) re_int cmpI_bl))))) (rss_cons (rs_ret re_bl)
  rss_nil) rss_nil)
  (rss_cons (rs_ret (re_eq hr (re_lc (own := [("sign", 1)]) rfl nd (ri_seq (rv 0)) (blkOk_by rfl) ⟨(gName 1), fun _ _ _ _ _ => (pg_name (i := 1) nd rfl (.inl rfl) (.inr rfl)), (rel_gN 1)⟩ (by decide) (fun _ _ _ _ _ => (rts_one (rt_notIn hr (rv 1) (re_glob (v := .str "abcdefghijklmnopqrstuvwxyz") rfl T.c_LETTERS.choose_spec ⟨_, rfl⟩ (fun _ _ _ => by simp only [RelD, RelP]))))) (fun _ _ _ _ _ => (rv 1))) (re_lst ra_nil)))
  rss_nil))

/-! ### uses_of -/
abbrev n_uses_of : List Str := ["formula", "found", "one"]
theorem sc_uses_of : FnScope n_uses_of ["formula"] (defScope (top 15)) := ⟨rfl, rfl, rfl, by decide +kernel, rfl, by decide +kernel, by decide +kernel⟩
noncomputable def m_uses_of (self : OC) : MS := (sSeq (sIf (mVal (mBin (oEq false) (mBin oIx (mVar 0) (mC (.p (.int 0)))) (mC (.p (.str "named"))))) (sSeq (sRet (mLst (aCons (mTup (aCons (mBin oIx (mVar 0) (mC (.p (.int 1)))) (aCons (mCall oLen (aCons (mBin oIx (mVar 0) (mC (.p (.int 2)))) aNil)) aNil))) aNil)))
  sNil) sNil)
  (sSeq (sAsg (mLstR aNil) (gN 1))
  (sSeq (sIf (mVal (mBin (oIn true) (mBin oIx (mVar 0) (mC (.p (.int 0)))) (mTup (aCons (mC (.p (.str "row"))) (aCons (mC (.p (.str "divides"))) aNil))))) (sSeq (sFor (iSeq (mSl (mVar 0) (oSome (mC (.p (.int 1)))) oNone)) (gN 2) (sSeq (sDrop (mMeth fExtend (mVar 1) (aCons (mCall self (aCons (mVar 2) aNil)) aNil)))
  sNil))
  sNil) sNil)
  (sSeq (sRet (mVar 1))
  sNil))))
noncomputable def fn_uses_of : Nat → OC
  | 0 => oNo
  | n + 1 => fnM 3 1 (m_uses_of (fn_uses_of n))
theorem calr_uses_of {gg : Bool} (T : Defs P K mg) (B : Bn mg) : ∀ n : Nat, Cal gg P w K mg base (0 + n) "uses_of" ["formula"] (fn_uses_of n)
  | 0 => Cal.no T.d_uses_of
  | n + 1 => by
    have CS : Cal gg P w K mg base (0 + n) "uses_of" ["formula"] (fn_uses_of n) := calr_uses_of T B n
    have nd := sc_uses_of.nd
    refine Cal.of (k := 0 + n) T.d_uses_of sc_uses_of fun f cdv A outer s H E hr => ?_
    unfold m_uses_of
    exact (rss_cons (rs_if (rt_eq hr (re_sub hr (rv 0) re_int) re_str) (rss_cons (rs_ret (re_lst (ra_cons (re_tup (ra_cons (re_sub hr (rv 0) re_int) (ra_cons (rb_len B rfl (ra_cons (re_sub hr (rv 0) re_int) ra_nil)) ra_nil))) ra_nil)))
  rss_nil) rss_nil)
  (rss_cons (rs_set (i := 1) nd rfl (by first | exact .inl rfl | exact .inr rfl) (re_lstR ra_nil) rfl (.inl rfl))
  (rss_cons (rs_if (rt_notIn hr (re_sub hr (rv 0) re_int) (re_tup (ra_cons re_str (ra_cons re_str ra_nil)))) (rss_cons (rs_for PassesOwn.never rfl (ri_seq (re_slice (rv 0) (ro_some re_int) ro_none)) (rg_name (i := 2) nd rfl (by first | exact .inl rfl | exact .inr rfl) (.inl rfl)) (rss_cons (rs_expr (re_extend (rv 1) (ra_cons (rcal CS hr (by omega) rfl (ra_cons (rv 2) ra_nil)) ra_nil)))
  rss_nil))
  rss_nil) rss_nil)
  (rss_cons (rs_ret (rv 1))
  rss_nil))))
theorem cal_uses_of {gg : Bool} (T : Defs P K mg) (B : Bn mg) : Cal gg P w K mg base 64 "uses_of" ["formula"] (fn_uses_of 64) := calr_uses_of T B 64

/-! ### hung -/
abbrev n_hung : List Str := ["rooms", "name", "found", "left", "use", "many"]
theorem sc_hung : FnScope n_hung ["rooms", "name"] (defScope (top 16)) := ⟨rfl, rfl, rfl, by decide +kernel, rfl, by decide +kernel, by decide +kernel⟩
noncomputable def m_hung : MS := (sSeq (sPar 2 3 (aCons (mLstR aNil) (aCons (mLstR (aCons (mVar 1) aNil)) aNil)))
  (sSeq (sWhile 100 (mVal (mBin (oEq true) (mVar 3) (mLst aNil))) (sSeq (sFor (iSeq (mCall (fn_uses_of 64) (aCons (mBin oIx (mBin oIx (mVar 0) (mMeth fPop (mVar 3) aNil)) (mC (.p (.int 2)))) aNil))) (gT 2 (gsCons (gN 4) (gsCons (gN 5) gsNil))) (sSeq (sIf (mVal (mBin (oIn true) (mVar 4) (mVar 2))) (sSeq (sDrop (mMeth fAppend (mVar 2) (aCons (mVar 4) aNil)))
  (sSeq (sDrop (mMeth fAppend (mVar 3) (aCons (mVar 4) aNil)))
  sNil)) sNil)
  sNil))
  sNil))
  (sSeq (sRet (mCall oTuple (aCons (mCall oSorted (aCons (mVar 2) aNil)) aNil)))
  sNil)))
noncomputable def fn_hung : OC := fnM 6 2 m_hung
theorem cal_hung {gg : Bool} (T : Defs P K mg) (B : Bn mg) : Cal gg P w K mg base 65 "hung" ["rooms", "name"] fn_hung := by
  have nd := sc_hung.nd
  refine Cal.of (k := 64) T.d_hung sc_hung fun f cdv A outer s H E hr => ?_
  unfold m_hung
  exact (rss_cons (rs_par (i := 2) (j := 3) rfl nd rfl rfl (by decide) rfl rfl (ra_cons (re_lstR ra_nil) (ra_cons (re_lstR (ra_cons (rv 1) ra_nil)) ra_nil)) rfl)
  (rss_cons (rs_while PassesOwn.never (rt_ne hr (rv 3) (re_lst ra_nil)) (rss_cons (rs_for PassesOwn.never rfl (ri_seq (rcal (cal_uses_of T B) hr (by first | decide | omega) rfl (ra_cons (re_sub hr (re_sub hr (rv 0) (re_pop (rv 3))) re_int) ra_nil))) (rg_tup (n := 2) rfl (rgs_cons (rg_name (i := 4) nd rfl (by first | exact .inl rfl | exact .inr rfl) (.inl rfl)) (rgs_cons (rg_name (i := 5) nd rfl (by first | exact .inl rfl | exact .inr rfl) (.inl rfl)) rgs_nil))) (rss_cons (rs_if (rt_notIn hr (rv 4) (rv 2)) (rss_cons (rs_expr (re_append (rv 2) (ra_cons (rv 4) ra_nil)))
  (rss_cons (rs_expr (re_append (rv 3) (ra_cons (rv 4) ra_nil)))
  rss_nil)) rss_nil)
  rss_nil))
  rss_nil))
  (rss_cons (rs_ret (rb_tuple B rfl (ra_cons (rb_sorted rfl B rfl (ra_cons (rv 2) ra_nil)) ra_nil)))
  rss_nil)))

/-! ### written -/
abbrev n_written : List Str := ["rooms", "formula", "m", "k", "d", "inner", "inside", "one"]
theorem sc_written : FnScope n_written ["rooms", "formula", "m"] (defScope (top 19)) := ⟨rfl, rfl, rfl, by decide +kernel, rfl, by decide +kernel, by decide +kernel⟩
noncomputable def m_written (self : OC) : MS := (sSeq (sIf (mVal (mBin (oEq false) (mBin oIx (mVar 1) (mC (.p (.int 0)))) (mC (.p (.str "named"))))) (sSeq (sAsg (mBin oIx (mVar 0) (mBin oIx (mVar 1) (mC (.p (.int 1))))) (gT 3 (gsCons (gN 3) (gsCons (gN 4) (gsCons (gN 5) gsNil)))))
  (sSeq (sRet (mCall (fn_formula_put_in 64) (aCons (mCall self (aCons (mVar 0) (aCons (mVar 5) (aCons (mBin oAdd (mVar 3) (mVar 4)) aNil)))) (aCons (mBin oIx (mVar 1) (mC (.p (.int 2)))) (aCons (mVar 2) aNil)))))
  sNil)) sNil)
  (sSeq (sIf (mVal (mBin (oIn false) (mBin oIx (mVar 1) (mC (.p (.int 0)))) (mTup (aCons (mC (.p (.str "row"))) (aCons (mC (.p (.str "divides"))) aNil))))) (sSeq (sRet (mVar 1))
  sNil) sNil)
  (sSeq (sAsg (mIf (mVal (mBin (oEq false) (mBin oIx (mVar 1) (mC (.p (.int 0)))) (mC (.p (.str "some"))))) (mBin oAdd (mVar 2) (mC (.p (.int 1)))) (mVar 2)) (gN 6))
  (sSeq (sRet (mBin oAdd (mSl (mVar 1) oNone (oSome (mC (.p (.int 1))))) (mCall oTuple (aCons (mLc [7] (iSeq (mSl (mVar 1) (oSome (mC (.p (.int 1)))) oNone)) (gN 7) tYes1 (mCall self (aCons (mVar 0) (aCons (mVar 7) (aCons (mVar 6) aNil))))) aNil))))
  sNil))))
noncomputable def fn_written : Nat → OC
  | 0 => oNo
  | n + 1 => fnM 8 3 (m_written (fn_written n))
theorem calr_written {gg : Bool} (T : Defs P K mg) (B : Bn mg) : ∀ n : Nat, Cal gg P w K mg base (66 + n) "written" ["rooms", "formula", "m"] (fn_written n)
  | 0 => Cal.no T.d_written
  | n + 1 => by
    have CS : Cal gg P w K mg base (66 + n) "written" ["rooms", "formula", "m"] (fn_written n) := calr_written T B n
    have nd := sc_written.nd
    refine Cal.of (k := 66 + n) T.d_written sc_written fun f cdv A outer s H E hr => ?_
    unfold m_written
    exact (rss_cons (rs_if (rt_eq hr (re_sub hr (rv 1) re_int) re_str) (rss_cons (rs_asg (re_sub hr (rv 0) (re_sub hr (rv 1) re_int)) (rg_tup (n := 3) rfl (rgs_cons (rg_name (i := 3) nd rfl (by first | exact .inl rfl | exact .inr rfl) (.inl rfl)) (rgs_cons (rg_name (i := 4) nd rfl (by first | exact .inl rfl | exact .inr rfl) (.inl rfl)) (rgs_cons (rg_name (i := 5) nd rfl (by first | exact .inl rfl | exact .inr rfl) (.inl rfl)) rgs_nil)))))
  (rss_cons (rs_ret (rcal (cal_formula_put_in T B) hr (by first | decide | omega) rfl (ra_cons (rcal CS hr (by omega) rfl (ra_cons (rv 0) (ra_cons (rv 5) (ra_cons (re_bin op_addD (rv 3) (rv 4)) ra_nil)))) (ra_cons (re_sub hr (rv 1) re_int) (ra_cons (rv 2) ra_nil)))))
  rss_nil)) rss_nil)
  (rss_cons (rs_if (rt_in hr (re_sub hr (rv 1) re_int) (re_tup (ra_cons re_str (ra_cons re_str ra_nil)))) (rss_cons (rs_ret (rv 1))
  rss_nil) rss_nil)
  (rss_cons (rs_set (i := 6) nd rfl (by first | exact .inl rfl | exact .inr rfl) (re_if (rt_eq hr (re_sub hr (rv 1) re_int) re_str) (re_bin op_addD (rv 2) re_int) (rv 2)) rfl (.inl rfl))
  (rss_cons (rs_ret (re_bin op_addD (re_slice (rv 1) ro_none (ro_some re_int)) (rb_tuple B rfl (ra_cons (re_lc (own := [("one", 7)]) rfl nd (ri_seq (re_slice (rv 1) (ro_some re_int) ro_none)) (blkOk_by rfl) ⟨(gName 7), fun _ _ _ _ _ => (pg_name (i := 7) nd rfl (.inl rfl) (.inr rfl)), (rel_gN 7)⟩ (by decide) (fun _ _ _ _ _ => rts_nil) (fun _ _ _ _ _ => (rcal CS hr (by omega) rfl (ra_cons (rv 0) (ra_cons (rv 7) (ra_cons (rv 6) ra_nil)))))) ra_nil))))
  rss_nil))))
theorem cal_written {gg : Bool} (T : Defs P K mg) (B : Bn mg) : Cal gg P w K mg base 130 "written" ["rooms", "formula", "m"] (fn_written 64) := calr_written T B 64

/-! ### _law_begun -/
abbrev n__law_begun : List Str := ["script", "k", "cells", "cell", "great", "seed"]
theorem sc__law_begun : FnScope n__law_begun ["script", "k"] (defScope (top 22)) := ⟨rfl, rfl, rfl, by decide +kernel, rfl, by decide +kernel, by decide +kernel⟩
noncomputable def m__law_begun : MS := (sSeq (sAsg (mBin oAdd (mSl (mVar 0) (oSome (mVar 1)) oNone) (mSl (mVar 0) oNone (oSome (mVar 1)))) (gN 2))
  (sSeq (sAsg (mLc [3] (iSeq (mVar 2)) (gN 3) (mVal (mBin oGe (mVar 3) (mBin oPow (mC (.p (.int 10))) (mC (.p (.int 18)))))) (mVar 3)) (gN 4))
  (sSeq (sAsg (mBin oAdd (mC (.p (.int 71))) (mVar 1)) (gN 5))
  (sSeq (sFor (iSeq (mVar 2)) (gN 3) (sSeq (sAsg (mBin oMod (mCall oInt (aCons (mBin oAdd (mBin oMulG (mVar 5) (mC (.p (.int 48271)))) (mVar 3)) aNil)) (mC (.p (.int 2147483647)))) (gN 5))
  sNil))
  (sSeq (sRet (mDict [((mC (.p (.str "left"))), (mIf (mVal (mBin (oEq true) (mVar 4) (mLst aNil))) (mBin oIx (mVar 4) (mC (.p (.int 0)))) (mC (.p (.int 0))))), ((mC (.p (.str "seed"))), (mVar 5)), ((mC (.p (.str "cells"))), (mBin oAdd (mVar 2) (mLst (aCons (mBin oAdd (mBin oMulG (mC (.p (.int 53))) (mVar 1)) (mC (.p (.int 11)))) aNil)))), ((mC (.p (.str "spot"))), (mC (.p (.int 0))))]))
  sNil)))))
noncomputable def fn__law_begun : OC := fnM 6 2 m__law_begun
theorem cal__law_begun {gg : Bool} (T : Defs P K mg) (B : Bn mg) : Cal gg P w K mg base 1 "_law_begun" ["script", "k"] fn__law_begun := by
  have nd := sc__law_begun.nd
  refine Cal.of (k := 0) T.d__law_begun sc__law_begun fun f cdv A outer s H E hr => ?_
  unfold m__law_begun
  exact (rss_cons (rs_set (i := 2) nd rfl (by first | exact .inl rfl | exact .inr rfl) (re_bin op_addD (re_slice (rv 0) (ro_some (rv 1)) ro_none) (re_slice (rv 0) ro_none (ro_some (rv 1)))) rfl (.inl rfl))
  (rss_cons (by first | exact (rs_setLc (i := 4) (own := [("cell", 3)]) rfl nd rfl rfl rfl (ri_seq (rv 2)) (blkOk_by rfl) ⟨(gName 3), fun _ _ _ _ _ => (pg_name (i := 3) nd rfl (.inl rfl) (.inr rfl)), (rel_gN 3)⟩ (by decide) (fun _ _ _ _ _ => (rts_one (rt_cmp op_geD (rv 3) (re_bin op_powD re_int re_int)))) (fun _ _ _ _ _ => (rv 3))) | exact (rs_set (i := 4) nd rfl (by first | exact .inl rfl | exact .inr rfl) (re_lc (own := [("cell", 3)]) rfl nd (ri_seq (rv 2)) (blkOk_by rfl) ⟨(gName 3), fun _ _ _ _ _ => (pg_name (i := 3) nd rfl (.inl rfl) (.inr rfl)), (rel_gN 3)⟩ (by decide) (fun _ _ _ _ _ => (rts_one (rt_cmp op_geD (rv 3) (re_bin op_powD re_int re_int)))) (fun _ _ _ _ _ => (rv 3))) rfl (.inl rfl)))
  (rss_cons (rs_set (i := 5) nd rfl (by first | exact .inl rfl | exact .inr rfl) (re_bin op_addD re_int (rv 1)) rfl (.inl rfl))
  (rss_cons (rs_for PassesOwn.never rfl (ri_seq (rv 2)) (rg_name (i := 3) nd rfl (by first | exact .inl rfl | exact .inr rfl) (.inl rfl)) (rss_cons (rs_set (i := 5) nd rfl (by first | exact .inl rfl | exact .inr rfl) (re_bin op_modD (rb_int B rfl (ra_cons (re_bin op_addD (re_bin op_mulG (rv 5) re_int) (rv 3)) ra_nil)) re_int) rfl (.inl rfl))
  rss_nil))
  (rss_cons (rs_ret (re_dict (pps_cons re_str (re_if (rt_ne hr (rv 4) (re_lst ra_nil)) (re_sub hr (rv 4) re_int) re_int) (pps_cons re_str (rv 5) (pps_cons re_str (re_bin op_addD (rv 2) (re_lst (ra_cons (re_bin op_addD (re_bin op_mulG re_int (rv 1)) re_int) ra_nil))) (pps_cons re_str re_int pps_nil)))) rfl rfl (by simp) (by decide)))
  rss_nil)))))

/-! ### _law_draw -/
abbrev n__law_draw : List Str := ["m", "bound", "found", "spot", "cells", "extra", "cell", "blend"]
theorem sc__law_draw : FnScope n__law_draw ["m", "bound"] (defScope (top 23)) := ⟨rfl, rfl, rfl, by decide +kernel, rfl, by decide +kernel, by decide +kernel⟩
noncomputable def m__law_draw : MS := (sSeq (sIf (mVal (mBin oGt (mBin oIx (mVar 0) (mC (.p (.str "left")))) (mC (.p (.int 0))))) (sSeq (sAsg (mBin oMod (mCall oInt (aCons (mBin oIx (mVar 0) (mC (.p (.str "left")))) aNil)) (mVar 1)) (gN 2))
  (sSeq (sDPutM (mVar 0) (mC (.p (.str "left"))) (mBin oFdiv (mBin oIx (mVar 0) (mC (.p (.str "left")))) (mVar 1)))
  (sSeq (sRet (mVar 2))
  sNil))) sNil)
  (sSeq (sAsg (mBin oIx (mVar 0) (mC (.p (.str "spot")))) (gN 3))
  (sSeq (sDPutM (mVar 0) (mC (.p (.str "spot"))) (mBin oAdd (mVar 3) (mC (.p (.int 1)))))
  (sSeq (sPar 4 5 (aCons (mBin oIx (mVar 0) (mC (.p (.str "cells")))) (aCons (mBin oAdd (mBin oIx (mVar 0) (mC (.p (.str "seed")))) (mBin oMulG (mBin oMulG (mC (.p (.int 40503))) (mVar 3)) (mVar 3))) aNil)))
  (sSeq (sAsg (mBin oIx (mVar 4) (mBin oMod (mCall oInt (aCons (mVar 3) aNil)) (mCall oLen (aCons (mVar 4) aNil)))) (gN 6))
  (sSeq (sAsg (mBin oMod (mCall oInt (aCons (mBin oAdd (mBin oMulG (mVar 6) (mBin oAdd (mBin oMulG (mC (.p (.int 2))) (mVar 3)) (mC (.p (.int 3))))) (mVar 5)) aNil)) (mC (.p (.int 2147483647)))) (gN 7))
  (sSeq (sAsg (mBin oMod (mCall oInt (aCons (mBin oAdd (mBin oAdd (mBin oMulG (mVar 7) (mVar 7)) (mBin oMulG (mC (.p (.int 69621))) (mVar 3))) (mBin oIx (mVar 0) (mC (.p (.str "seed"))))) aNil)) (mC (.p (.int 2147483629)))) (gN 7))
  (sSeq (sRet (mBin oMod (mBin oFdiv (mBin oMod (mCall oInt (aCons (mBin oAdd (mBin oMulG (mVar 7) (mC (.p (.int 48271)))) (mVar 3)) aNil)) (mC (.p (.int 2147483647)))) (mC (.p (.int 11)))) (mVar 1)))
  sNil))))))))
noncomputable def fn__law_draw : OC := fnM 8 2 m__law_draw
theorem cal__law_draw {gg : Bool} (T : Defs P K mg) (B : Bn mg) : Cal gg P w K mg base 1 "_law_draw" ["m", "bound"] fn__law_draw := by
  have nd := sc__law_draw.nd
  refine Cal.of (k := 0) T.d__law_draw sc__law_draw fun f cdv A outer s H E hr => ?_
  unfold m__law_draw
  exact (rss_cons (rs_if (rt_cmp op_gtD (re_sub hr (rv 0) re_str) re_int) (rss_cons (rs_set (i := 2) nd rfl (by first | exact .inl rfl | exact .inr rfl) (re_bin op_modD (rb_int B rfl (ra_cons (re_sub hr (rv 0) re_str) ra_nil)) (rv 1)) rfl (.inl rfl))
  (rss_cons (rs_dput hr (rv 0) re_str (re_bin op_fdivD (re_sub hr (rv 0) re_str) (rv 1)))
  (rss_cons (rs_ret (rv 2))
  rss_nil))) rss_nil)
  (rss_cons (rs_set (i := 3) nd rfl (by first | exact .inl rfl | exact .inr rfl) (re_sub hr (rv 0) re_str) rfl (.inl rfl))
  (rss_cons (rs_dput hr (rv 0) re_str (re_bin op_addD (rv 3) re_int))
  (rss_cons (rs_par (i := 4) (j := 5) rfl nd rfl rfl (by decide) rfl rfl (ra_cons (re_sub hr (rv 0) re_str) (ra_cons (re_bin op_addD (re_sub hr (rv 0) re_str) (re_bin op_mulG (re_bin op_mulG re_int (rv 3)) (rv 3))) ra_nil)) rfl)
  (rss_cons (rs_set (i := 6) nd rfl (by first | exact .inl rfl | exact .inr rfl) (re_sub hr (rv 4) (re_bin op_modD (rb_int B rfl (ra_cons (rv 3) ra_nil)) (rb_len B rfl (ra_cons (rv 4) ra_nil)))) rfl (.inl rfl))
  (rss_cons (rs_set (i := 7) nd rfl (by first | exact .inl rfl | exact .inr rfl) (re_bin op_modD (rb_int B rfl (ra_cons (re_bin op_addD (re_bin op_mulG (rv 6) (re_bin op_addD (re_bin op_mulG re_int (rv 3)) re_int)) (rv 5)) ra_nil)) re_int) rfl (.inl rfl))
  (rss_cons (rs_set (i := 7) nd rfl (by first | exact .inl rfl | exact .inr rfl) (re_bin op_modD (rb_int B rfl (ra_cons (re_bin op_addD (re_bin op_addD (re_bin op_mulG (rv 7) (rv 7)) (re_bin op_mulG re_int (rv 3))) (re_sub hr (rv 0) re_str)) ra_nil)) re_int) rfl (.inl rfl))
  (rss_cons (rs_ret (re_bin op_modD (re_bin op_fdivD (re_bin op_modD (rb_int B rfl (ra_cons (re_bin op_addD (re_bin op_mulG (rv 7) re_int) (rv 3)) ra_nil)) re_int) re_int) (rv 1)))
  rss_nil))))))))

/-! ### _law_of -/
abbrev n__law_of : List Str := ["m", "some"]
theorem sc__law_of : FnScope n__law_of ["m", "some"] (defScope (top 24)) := ⟨rfl, rfl, rfl, by decide +kernel, rfl, by decide +kernel, by decide +kernel⟩
noncomputable def m__law_of : MS := (sSeq (sRet (mBin oIx (mVar 1) (mCall fn__law_draw (aCons (mVar 0) (aCons (mCall oLen (aCons (mVar 1) aNil)) aNil)))))
  sNil)
noncomputable def fn__law_of : OC := fnM 2 2 m__law_of
theorem cal__law_of {gg : Bool} (T : Defs P K mg) (B : Bn mg) : Cal gg P w K mg base 2 "_law_of" ["m", "some"] fn__law_of := by
  have nd := sc__law_of.nd
  refine Cal.of (k := 1) T.d__law_of sc__law_of fun f cdv A outer s H E hr => ?_
  unfold m__law_of
  exact (rss_cons (rs_ret (re_sub hr (rv 1) (rcal (cal__law_draw T B) hr (by first | decide | omega) rfl (ra_cons (rv 0) (ra_cons (rb_len B rfl (ra_cons (rv 1) ra_nil)) ra_nil)))))
  rss_nil)

/-! ### _law_like -/
abbrev n__law_like : List Str := ["got", "due"]
theorem sc__law_like : FnScope n__law_like ["got", "due"] (defScope (top 25)) := ⟨rfl, rfl, rfl, by decide +kernel, rfl, by decide +kernel, by decide +kernel⟩
noncomputable def m__law_like : MS := (sSeq (sRet (mBin (oEq false) (mCall oReprA (aCons (mVar 0) aNil)) (mCall oReprA (aCons (mVar 1) aNil))))
  sNil)
noncomputable def fn__law_like : OC := fnM 2 2 m__law_like
theorem cal__law_like (T : Defs P K mg) (B : Bn mg) : Cal true P w K mg base 1 "_law_like" ["got", "due"] fn__law_like := by
  have nd := sc__law_like.nd
  refine Cal.of (k := 0) T.d__law_like sc__law_like fun f cdv A outer s H E hr => ?_
  unfold m__law_like
  exact (rss_cons (rs_ret (re_eq hr (rb_repr hr B rfl (ra_cons (rv 0) ra_nil)) (rb_repr hr B rfl (ra_cons (rv 1) ra_nil))))
  rss_nil)

/-! ### _law_is_whole -/
abbrev n__law_is_whole : List Str := ["value_so"]
theorem sc__law_is_whole : FnScope n__law_is_whole ["value_so"] (defScope (top 27)) := ⟨rfl, rfl, rfl, by decide +kernel, rfl, by decide +kernel, by decide +kernel⟩
noncomputable def m__law_is_whole : MS := (sSeq (sRet (mAndV (mCall oIsi (aCons (mVar 0) (aCons (mC (.v (.ty "int"))) aNil))) (mNotV (mCall oIsi (aCons (mVar 0) (aCons (mC (.v (.ty "bool"))) aNil))))))
  sNil)
noncomputable def fn__law_is_whole : OC := fnM 1 1 m__law_is_whole
theorem cal__law_is_whole {gg : Bool} (T : Defs P K mg) (B : Bn mg) : Cal gg P w K mg base 1 "_law_is_whole" ["value_so"] fn__law_is_whole := by
  have nd := sc__law_is_whole.nd
  refine Cal.of (k := 0) T.d__law_is_whole sc__law_is_whole fun f cdv A outer s H E hr => ?_
  unfold m__law_is_whole
  exact (rss_cons (rs_ret (re_and (rb_isinstance B rfl (ra_cons (rv 0) (ra_cons (rt_int B rfl) ra_nil))) (re_one (re_not (rb_isinstance B rfl (ra_cons (rv 0) (ra_cons (rt_bool B rfl) ra_nil)))))))
  rss_nil)

/-! ### _law_is_form -/
abbrev n__law_is_form : List Str := ["value_so", "m", "c"]
theorem sc__law_is_form : FnScope n__law_is_form ["value_so", "m"] (defScope (top 28)) := ⟨rfl, rfl, rfl, by decide +kernel, rfl, by decide +kernel, by decide +kernel⟩
noncomputable def m__law_is_form : MS := (sSeq (sIf (mOr (mNot (mVal (mCall oIsi (aCons (mVar 0) (aCons (mC (.v (.ty "tuple"))) aNil))))) (mVal (mBin (oEq true) (mCall oLen (aCons (mVar 0) aNil)) (mBin oAdd (mVar 1) (mC (.p (.int 1))))))) (sSeq (sRet (mC (.p (.bl false))))
  sNil) sNil)
  (sSeq (sRet (mBin (oEq false) (mLc [2] (iSeq (mVar 0)) (gN 2) (mNot (mVal (mCall fn__law_is_whole (aCons (mVar 2) aNil)))) (mVar 2)) (mLst aNil)))
  sNil))
noncomputable def fn__law_is_form : OC := fnM 3 2 m__law_is_form
theorem cal__law_is_form {gg : Bool} (T : Defs P K mg) (B : Bn mg) : Cal gg P w K mg base 2 "_law_is_form" ["value_so", "m"] fn__law_is_form := by
  have nd := sc__law_is_form.nd
  refine Cal.of (k := 1) T.d__law_is_form sc__law_is_form fun f cdv A outer s H E hr => ?_
  unfold m__law_is_form
  exact (rss_cons (rs_if (PW.pt (rw_or (rt_not (rt_val (rb_isinstance B rfl (ra_cons (rv 0) (ra_cons (rt_tuple B rfl) ra_nil))))) (rw_or1 (rt_ne hr (rb_len B rfl (ra_cons (rv 0) ra_nil)) (re_bin op_addD (rv 1) re_int))))) (rss_cons (rs_ret re_bl)
  rss_nil) rss_nil)
  (rss_cons (rs_ret (re_eq hr (re_lc (own := [("c", 2)]) rfl nd (ri_seq (rv 0)) (blkOk_by rfl) ⟨(gName 2), fun _ _ _ _ _ => (pg_name (i := 2) nd rfl (.inl rfl) (.inr rfl)), (rel_gN 2)⟩ (by decide) (fun _ _ _ _ _ => (rts_one (rt_not (rt_val (rcal (cal__law_is_whole T B) hr (by first | decide | omega) rfl (ra_cons (rv 2) ra_nil)))))) (fun _ _ _ _ _ => (rv 2))) (re_lst ra_nil)))
  rss_nil))

/-! ### _law_is_name -/
abbrev n__law_is_name : List Str := ["value_so", "c"]
theorem sc__law_is_name : FnScope n__law_is_name ["value_so"] (defScope (top 29)) := ⟨rfl, rfl, rfl, by decide +kernel, rfl, by decide +kernel, by decide +kernel⟩
noncomputable def m__law_is_name : MS := (sSeq (sIf (mOr (mNot (mVal (mCall oIsi (aCons (mVar 0) (aCons (mC (.v (.ty "str"))) aNil))))) (mNot (mVal (mChain oLe oLe (mC (.p (.int 1))) (mCall oLen (aCons (mVar 0) aNil)) (mC (.p (.int 20))))))) (sSeq (sRet (mC (.p (.bl false))))
  sNil) sNil)
  (sSeq (sRet (mBin (oEq false) (mLc [1] (iSeq (mVar 0)) (gN 1) (mVal (mBin (oIn true) (mVar 1) (mC (.p (.str "abcdefghijklmnopqrstuvwxyz"))))) (mVar 1)) (mLst aNil)))
  sNil))
noncomputable def fn__law_is_name : OC := fnM 2 1 m__law_is_name
theorem cal__law_is_name {gg : Bool} (T : Defs P K mg) (B : Bn mg) : Cal gg P w K mg base 1 "_law_is_name" ["value_so"] fn__law_is_name := by
  have nd := sc__law_is_name.nd
  refine Cal.of (k := 0) T.d__law_is_name sc__law_is_name fun f cdv A outer s H E hr => ?_
  unfold m__law_is_name
  exact (rss_cons (rs_if (PW.pt (rw_or (rt_not (rt_val (rb_isinstance B rfl (ra_cons (rv 0) (ra_cons (rt_str B rfl) ra_nil))))) (rw_or1 (rt_not (rt_chain op_leD op_leD re_int (rb_len B rfl (ra_cons (rv 0) ra_nil)) re_int cmpI_bl))))) (rss_cons (rs_ret re_bl)
  rss_nil) rss_nil)
  (rss_cons (rs_ret (re_eq hr (re_lc (own := [("c", 1)]) rfl nd (ri_seq (rv 0)) (blkOk_by rfl) ⟨(gName 1), fun _ _ _ _ _ => (pg_name (i := 1) nd rfl (.inl rfl) (.inr rfl)), (rel_gN 1)⟩ (by decide) (fun _ _ _ _ _ => (rts_one (rt_notIn hr (rv 1) re_str))) (fun _ _ _ _ _ => (rv 1))) (re_lst ra_nil)))
  rss_nil))

/-! ### _law_is_formula -/
abbrev n__law_is_formula : List Str := ["value_so", "m", "word", "rest", "one", "form"]
theorem sc__law_is_formula : FnScope n__law_is_formula ["value_so", "m"] (defScope (top 30)) := ⟨rfl, rfl, rfl, by decide +kernel, rfl, by decide +kernel, by decide +kernel⟩
noncomputable def m__law_is_formula (self : OC) : MS := (sSeq (sIf (mOr (mNot (mVal (mCall oIsi (aCons (mVar 0) (aCons (mC (.v (.ty "tuple"))) aNil))))) (mOr (mVal (mBin (oEq false) (mVar 0) (mTup aNil))) (mNot (mVal (mCall oIsi (aCons (mBin oIx (mVar 0) (mC (.p (.int 0)))) (aCons (mC (.v (.ty "str"))) aNil))))))) (sSeq (sRet (mC (.p (.bl false))))
  sNil) sNil)
  (sSeq (sPar 2 3 (aCons (mBin oIx (mVar 0) (mC (.p (.int 0)))) (aCons (mSl (mVar 0) (oSome (mC (.p (.int 1)))) oNone) aNil)))
  (sSeq (sIf (mVal (mBin (oIn false) (mVar 2) (mLst (aCons (mC (.p (.str "and"))) (aCons (mC (.p (.str "or"))) aNil))))) (sSeq (sRet (mBin (oEq false) (mLc [4] (iSeq (mVar 3)) (gN 4) (mNot (mVal (mCall self (aCons (mVar 4) (aCons (mVar 1) aNil))))) (mVar 4)) (mLst aNil)))
  sNil) sNil)
  (sSeq (sIf (mOr (mAnd (mVal (mBin (oIn false) (mVar 2) (mLst (aCons (mC (.p (.str "row"))) (aCons (mC (.p (.str "not"))) (aCons (mC (.p (.str "some"))) aNil)))))) (mVal (mBin (oEq true) (mCall oLen (aCons (mVar 3) aNil)) (mC (.p (.int 1)))))) (mAnd (mVal (mBin (oIn false) (mVar 2) (mLst (aCons (mC (.p (.str "divides"))) (aCons (mC (.p (.str "named"))) aNil))))) (mVal (mBin (oEq true) (mCall oLen (aCons (mVar 3) aNil)) (mC (.p (.int 2))))))) (sSeq (sRet (mC (.p (.bl false))))
  sNil) sNil)
  (sSeq (sIf (mVal (mBin (oEq false) (mVar 2) (mC (.p (.str "row"))))) (sSeq (sRet (mCall fn__law_is_form (aCons (mBin oIx (mVar 3) (mC (.p (.int 0)))) (aCons (mVar 1) aNil))))
  sNil) sNil)
  (sSeq (sIf (mVal (mBin (oEq false) (mVar 2) (mC (.p (.str "divides"))))) (sSeq (sRet (mAndV (mCall fn__law_is_whole (aCons (mBin oIx (mVar 3) (mC (.p (.int 0)))) aNil)) (mAndV (mChain oLe oLe (mC (.p (.int 2))) (mBin oIx (mVar 3) (mC (.p (.int 0)))) (mC (.p (.int 12)))) (mCall fn__law_is_form (aCons (mBin oIx (mVar 3) (mC (.p (.int 1)))) (aCons (mVar 1) aNil))))))
  sNil) sNil)
  (sSeq (sIf (mVal (mBin (oEq false) (mVar 2) (mC (.p (.str "not"))))) (sSeq (sRet (mCall self (aCons (mBin oIx (mVar 3) (mC (.p (.int 0)))) (aCons (mVar 1) aNil))))
  sNil) sNil)
  (sSeq (sIf (mVal (mBin (oEq false) (mVar 2) (mC (.p (.str "some"))))) (sSeq (sRet (mAndV (mBin oLt (mVar 1) (mC (.p (.int 9)))) (mCall self (aCons (mBin oIx (mVar 3) (mC (.p (.int 0)))) (aCons (mBin oAdd (mVar 1) (mC (.p (.int 1)))) aNil)))))
  sNil) sNil)
  (sSeq (sIf (mOr (mVal (mBin (oEq true) (mVar 2) (mC (.p (.str "named"))))) (mOr (mNot (mVal (mCall fn__law_is_name (aCons (mBin oIx (mVar 3) (mC (.p (.int 0)))) aNil)))) (mNot (mVal (mCall oIsi (aCons (mBin oIx (mVar 3) (mC (.p (.int 1)))) (aCons (mC (.v (.ty "tuple"))) aNil))))))) (sSeq (sRet (mC (.p (.bl false))))
  sNil) sNil)
  (sSeq (sRet (mBin (oEq false) (mLc [5] (iSeq (mBin oIx (mVar 3) (mC (.p (.int 1))))) (gN 5) (mNot (mVal (mCall fn__law_is_form (aCons (mVar 5) (aCons (mVar 1) aNil))))) (mVar 5)) (mLst aNil)))
  sNil))))))))))
noncomputable def fn__law_is_formula : Nat → OC
  | 0 => oNo
  | n + 1 => fnM 6 2 (m__law_is_formula (fn__law_is_formula n))
theorem calr__law_is_formula {gg : Bool} (T : Defs P K mg) (B : Bn mg) : ∀ n : Nat, Cal gg P w K mg base (2 + n) "_law_is_formula" ["value_so", "m"] (fn__law_is_formula n)
  | 0 => Cal.no T.d__law_is_formula
  | n + 1 => by
    have CS : Cal gg P w K mg base (2 + n) "_law_is_formula" ["value_so", "m"] (fn__law_is_formula n) := calr__law_is_formula T B n
    have nd := sc__law_is_formula.nd
    refine Cal.of (k := 2 + n) T.d__law_is_formula sc__law_is_formula fun f cdv A outer s H E hr => ?_
    unfold m__law_is_formula
    exact (rss_cons (rs_if (PW.pt (rw_or (rt_not (rt_val (rb_isinstance B rfl (ra_cons (rv 0) (ra_cons (rt_tuple B rfl) ra_nil))))) (rw_or (rt_eq hr (rv 0) (re_tup ra_nil)) (rw_or1 (rt_not (rt_val (rb_isinstance B rfl (ra_cons (re_sub hr (rv 0) re_int) (ra_cons (rt_str B rfl) ra_nil))))))))) (rss_cons (rs_ret re_bl)
  rss_nil) rss_nil)
  (rss_cons (rs_par (i := 2) (j := 3) rfl nd rfl rfl (by decide) rfl rfl (ra_cons (re_sub hr (rv 0) re_int) (ra_cons (re_slice (rv 0) (ro_some re_int) ro_none) ra_nil)) rfl)
  (rss_cons (rs_if (rt_in hr (rv 2) (re_lst (ra_cons re_str (ra_cons re_str ra_nil)))) (rss_cons (rs_ret (re_eq hr (re_lc (own := [("one", 4)]) rfl nd (ri_seq (rv 3)) (blkOk_by rfl) ⟨(gName 4), fun _ _ _ _ _ => (pg_name (i := 4) nd rfl (.inl rfl) (.inr rfl)), (rel_gN 4)⟩ (by decide) (fun _ _ _ _ _ => (rts_one (rt_not (rt_val (rcal CS hr (by omega) rfl (ra_cons (rv 4) (ra_cons (rv 1) ra_nil))))))) (fun _ _ _ _ _ => (rv 4))) (re_lst ra_nil)))
  rss_nil) rss_nil)
  (rss_cons (rs_if (PW.pt (rw_or (PW.pt (rw_and (rt_in hr (rv 2) (re_lst (ra_cons re_str (ra_cons re_str (ra_cons re_str ra_nil))))) (rw_and1 (rt_ne hr (rb_len B rfl (ra_cons (rv 3) ra_nil)) re_int)))) (rw_or1 (PW.pt (rw_and (rt_in hr (rv 2) (re_lst (ra_cons re_str (ra_cons re_str ra_nil)))) (rw_and1 (rt_ne hr (rb_len B rfl (ra_cons (rv 3) ra_nil)) re_int))))))) (rss_cons (rs_ret re_bl)
  rss_nil) rss_nil)
  (rss_cons (rs_if (rt_eq hr (rv 2) re_str) (rss_cons (rs_ret (rcal (cal__law_is_form T B) hr (by first | decide | omega) rfl (ra_cons (re_sub hr (rv 3) re_int) (ra_cons (rv 1) ra_nil))))
  rss_nil) rss_nil)
  (rss_cons (rs_if (rt_eq hr (rv 2) re_str) (rss_cons (rs_ret (re_and (rcal (cal__law_is_whole T B) hr (by first | decide | omega) rfl (ra_cons (re_sub hr (rv 3) re_int) ra_nil)) (re_and (re_chain op_leD op_leD re_int (re_sub hr (rv 3) re_int) re_int cmpI_bl) (re_one (rcal (cal__law_is_form T B) hr (by first | decide | omega) rfl (ra_cons (re_sub hr (rv 3) re_int) (ra_cons (rv 1) ra_nil)))))))
  rss_nil) rss_nil)
  (rss_cons (rs_if (rt_eq hr (rv 2) re_str) (rss_cons (rs_ret (rcal CS hr (by omega) rfl (ra_cons (re_sub hr (rv 3) re_int) (ra_cons (rv 1) ra_nil))))
  rss_nil) rss_nil)
  (rss_cons (rs_if (rt_eq hr (rv 2) re_str) (rss_cons (rs_ret (re_and (re_cmp op_ltD (rv 1) re_int) (re_one (rcal CS hr (by omega) rfl (ra_cons (re_sub hr (rv 3) re_int) (ra_cons (re_bin op_addD (rv 1) re_int) ra_nil))))))
  rss_nil) rss_nil)
  (rss_cons (rs_if (PW.pt (rw_or (rt_ne hr (rv 2) re_str) (rw_or (rt_not (rt_val (rcal (cal__law_is_name T B) hr (by first | decide | omega) rfl (ra_cons (re_sub hr (rv 3) re_int) ra_nil)))) (rw_or1 (rt_not (rt_val (rb_isinstance B rfl (ra_cons (re_sub hr (rv 3) re_int) (ra_cons (rt_tuple B rfl) ra_nil))))))))) (rss_cons (rs_ret re_bl)
  rss_nil) rss_nil)
  (rss_cons (rs_ret (re_eq hr (re_lc (own := [("form", 5)]) rfl nd (ri_seq (re_sub hr (rv 3) re_int)) (blkOk_by rfl) ⟨(gName 5), fun _ _ _ _ _ => (pg_name (i := 5) nd rfl (.inl rfl) (.inr rfl)), (rel_gN 5)⟩ (by decide) (fun _ _ _ _ _ => (rts_one (rt_not (rt_val (rcal (cal__law_is_form T B) hr (by first | decide | omega) rfl (ra_cons (rv 5) (ra_cons (rv 1) ra_nil))))))) (fun _ _ _ _ _ => (rv 5))) (re_lst ra_nil)))
  rss_nil))))))))))
theorem cal__law_is_formula {gg : Bool} (T : Defs P K mg) (B : Bn mg) : Cal gg P w K mg base 66 "_law_is_formula" ["value_so", "m"] (fn__law_is_formula 64) := calr__law_is_formula T B 64

/-! ### _law_is_room -/
abbrev n__law_is_room : List Str := ["value_so", "k", "d", "formula"]
theorem sc__law_is_room : FnScope n__law_is_room ["value_so"] (defScope (top 31)) := ⟨rfl, rfl, rfl, by decide +kernel, rfl, by decide +kernel, by decide +kernel⟩
noncomputable def m__law_is_room : MS := (sSeq (sIf (mOr (mNot (mVal (mCall oIsi (aCons (mVar 0) (aCons (mC (.v (.ty "tuple"))) aNil))))) (mVal (mBin (oEq true) (mCall oLen (aCons (mVar 0) aNil)) (mC (.p (.int 3)))))) (sSeq (sRet (mC (.p (.bl false))))
  sNil) sNil)
  (sSeq (sAsg (mVar 0) (gT 3 (gsCons (gN 1) (gsCons (gN 2) (gsCons (gN 3) gsNil)))))
  (sSeq (sIf (mOr (mNot (mVal (mCall fn__law_is_whole (aCons (mVar 1) aNil)))) (mOr (mNot (mVal (mCall fn__law_is_whole (aCons (mVar 2) aNil)))) (mOr (mNot (mVal (mChain oLe oLe (mC (.p (.int 0))) (mVar 1) (mC (.p (.int 3)))))) (mNot (mVal (mChain oLe oLe (mC (.p (.int 0))) (mVar 2) (mC (.p (.int 6))))))))) (sSeq (sRet (mC (.p (.bl false))))
  sNil) sNil)
  (sSeq (sRet (mCall (fn__law_is_formula 64) (aCons (mVar 3) (aCons (mBin oAdd (mVar 1) (mVar 2)) aNil))))
  sNil))))
noncomputable def fn__law_is_room : OC := fnM 4 1 m__law_is_room
theorem cal__law_is_room {gg : Bool} (T : Defs P K mg) (B : Bn mg) : Cal gg P w K mg base 67 "_law_is_room" ["value_so"] fn__law_is_room := by
  have nd := sc__law_is_room.nd
  refine Cal.of (k := 66) T.d__law_is_room sc__law_is_room fun f cdv A outer s H E hr => ?_
  unfold m__law_is_room
  exact (rss_cons (rs_if (PW.pt (rw_or (rt_not (rt_val (rb_isinstance B rfl (ra_cons (rv 0) (ra_cons (rt_tuple B rfl) ra_nil))))) (rw_or1 (rt_ne hr (rb_len B rfl (ra_cons (rv 0) ra_nil)) re_int)))) (rss_cons (rs_ret re_bl)
  rss_nil) rss_nil)
  (rss_cons (rs_asg (rv 0) (rg_tup (n := 3) rfl (rgs_cons (rg_name (i := 1) nd rfl (by first | exact .inl rfl | exact .inr rfl) (.inl rfl)) (rgs_cons (rg_name (i := 2) nd rfl (by first | exact .inl rfl | exact .inr rfl) (.inl rfl)) (rgs_cons (rg_name (i := 3) nd rfl (by first | exact .inl rfl | exact .inr rfl) (.inl rfl)) rgs_nil)))))
  (rss_cons (rs_if (PW.pt (rw_or (rt_not (rt_val (rcal (cal__law_is_whole T B) hr (by first | decide | omega) rfl (ra_cons (rv 1) ra_nil)))) (rw_or (rt_not (rt_val (rcal (cal__law_is_whole T B) hr (by first | decide | omega) rfl (ra_cons (rv 2) ra_nil)))) (rw_or (rt_not (rt_chain op_leD op_leD re_int (rv 1) re_int cmpI_bl)) (rw_or1 (rt_not (rt_chain op_leD op_leD re_int (rv 2) re_int cmpI_bl))))))) (rss_cons (rs_ret re_bl)
  rss_nil) rss_nil)
  (rss_cons (rs_ret (rcal (cal__law_is_formula T B) hr (by first | decide | omega) rfl (ra_cons (rv 3) (ra_cons (re_bin op_addD (rv 1) (rv 2)) ra_nil))))
  rss_nil))))

/-! ### _law_used -/
abbrev n__law_used : List Str := ["formula", "found", "one"]
theorem sc__law_used : FnScope n__law_used ["formula"] (defScope (top 32)) := ⟨rfl, rfl, rfl, by decide +kernel, rfl, by decide +kernel, by decide +kernel⟩
noncomputable def m__law_used (self : OC) : MS := (sSeq (sIf (mVal (mBin (oIn false) (mBin oIx (mVar 0) (mC (.p (.int 0)))) (mLst (aCons (mC (.p (.str "row"))) (aCons (mC (.p (.str "divides"))) aNil))))) (sSeq (sRet (mLst aNil))
  sNil) sNil)
  (sSeq (sIf (mVal (mBin (oEq false) (mBin oIx (mVar 0) (mC (.p (.int 0)))) (mC (.p (.str "named"))))) (sSeq (sRet (mLst (aCons (mTup (aCons (mBin oIx (mVar 0) (mC (.p (.int 1)))) (aCons (mCall oLen (aCons (mBin oIx (mVar 0) (mC (.p (.int 2)))) aNil)) aNil))) aNil)))
  sNil) sNil)
  (sSeq (sAsg (mLstR aNil) (gN 1))
  (sSeq (sFor (iSeq (mSl (mVar 0) (oSome (mC (.p (.int 1)))) oNone)) (gN 2) (sSeq (sDrop (mMeth fExtend (mVar 1) (aCons (mCall self (aCons (mVar 2) aNil)) aNil)))
  sNil))
  (sSeq (sRet (mVar 1))
  sNil)))))
noncomputable def fn__law_used : Nat → OC
  | 0 => oNo
  | n + 1 => fnM 3 1 (m__law_used (fn__law_used n))
theorem calr__law_used {gg : Bool} (T : Defs P K mg) (B : Bn mg) : ∀ n : Nat, Cal gg P w K mg base (0 + n) "_law_used" ["formula"] (fn__law_used n)
  | 0 => Cal.no T.d__law_used
  | n + 1 => by
    have CS : Cal gg P w K mg base (0 + n) "_law_used" ["formula"] (fn__law_used n) := calr__law_used T B n
    have nd := sc__law_used.nd
    refine Cal.of (k := 0 + n) T.d__law_used sc__law_used fun f cdv A outer s H E hr => ?_
    unfold m__law_used
    exact (rss_cons (rs_if (rt_in hr (re_sub hr (rv 0) re_int) (re_lst (ra_cons re_str (ra_cons re_str ra_nil)))) (rss_cons (rs_ret (re_lst ra_nil))
  rss_nil) rss_nil)
  (rss_cons (rs_if (rt_eq hr (re_sub hr (rv 0) re_int) re_str) (rss_cons (rs_ret (re_lst (ra_cons (re_tup (ra_cons (re_sub hr (rv 0) re_int) (ra_cons (rb_len B rfl (ra_cons (re_sub hr (rv 0) re_int) ra_nil)) ra_nil))) ra_nil)))
  rss_nil) rss_nil)
  (rss_cons (rs_set (i := 1) nd rfl (by first | exact .inl rfl | exact .inr rfl) (re_lstR ra_nil) rfl (.inl rfl))
  (rss_cons (rs_for PassesOwn.never rfl (ri_seq (re_slice (rv 0) (ro_some re_int) ro_none)) (rg_name (i := 2) nd rfl (by first | exact .inl rfl | exact .inr rfl) (.inl rfl)) (rss_cons (rs_expr (re_extend (rv 1) (ra_cons (rcal CS hr (by omega) rfl (ra_cons (rv 2) ra_nil)) ra_nil)))
  rss_nil))
  (rss_cons (rs_ret (rv 1))
  rss_nil)))))
theorem cal__law_used {gg : Bool} (T : Defs P K mg) (B : Bn mg) : Cal gg P w K mg base 64 "_law_used" ["formula"] (fn__law_used 64) := calr__law_used T B 64

/-! ### _law_hangs -/
abbrev n__law_hangs : List Str := ["rooms", "name", "found", "used", "size_so", "left", "one"]
theorem sc__law_hangs : FnScope n__law_hangs ["rooms", "name"] (defScope (top 33)) := ⟨rfl, rfl, rfl, by decide +kernel, rfl, by decide +kernel, by decide +kernel⟩
noncomputable def m__law_hangs : MS := (sSeq (sAsg (mLstR aNil) (gN 2))
  (sSeq (sAsg (mLcR [3, 4] (iSeq (mCall (fn__law_used 64) (aCons (mBin oIx (mBin oIx (mVar 0) (mVar 1)) (mC (.p (.int 2)))) aNil))) (gT 2 (gsCons (gN 3) (gsCons (gN 4) gsNil))) tYes1 (mVar 3)) (gN 5))
  (sSeq (sWhile 100 (mVal (mBin (oEq true) (mVar 5) (mLst aNil))) (sSeq (sAsg (mMeth fPop (mVar 5) aNil) (gN 6))
  (sSeq (sIf (mVal (mBin (oIn true) (mVar 6) (mVar 2))) (sSeq (sDrop (mMeth fAppend (mVar 2) (aCons (mVar 6) aNil)))
  (sSeq (sDrop (mMeth fExtend (mVar 5) (aCons (mLc [3, 4] (iSeq (mCall (fn__law_used 64) (aCons (mBin oIx (mBin oIx (mVar 0) (mVar 6)) (mC (.p (.int 2)))) aNil))) (gT 2 (gsCons (gN 3) (gsCons (gN 4) gsNil))) tYes1 (mVar 3)) aNil)))
  sNil)) sNil)
  sNil)))
  (sSeq (sRet (mCall oSorted (aCons (mVar 2) aNil)))
  sNil))))
noncomputable def fn__law_hangs : OC := fnM 7 2 m__law_hangs
theorem cal__law_hangs {gg : Bool} (T : Defs P K mg) (B : Bn mg) : Cal gg P w K mg base 65 "_law_hangs" ["rooms", "name"] fn__law_hangs := by
  have nd := sc__law_hangs.nd
  refine Cal.of (k := 64) T.d__law_hangs sc__law_hangs fun f cdv A outer s H E hr => ?_
  unfold m__law_hangs
  exact (rss_cons (rs_set (i := 2) nd rfl (by first | exact .inl rfl | exact .inr rfl) (re_lstR ra_nil) rfl (.inl rfl))
  (rss_cons (by first | exact (rs_setLcR (i := 5) (own := [("used", 3), ("size_so", 4)]) rfl nd rfl rfl rfl (ri_seq (rcal (cal__law_used T B) hr (by first | decide | omega) rfl (ra_cons (re_sub hr (re_sub hr (rv 0) (rv 1)) re_int) ra_nil))) (blkOk_by rfl) ⟨(gTup _ 2 (gCons (gName 3) (gCons (gName 4) gNil))), fun _ _ _ _ _ => (pg_tup (n := 2) rfl (pgs_cons (pg_name (i := 3) nd rfl (.inl rfl) (.inr rfl)) (pgs_cons (pg_name (i := 4) nd rfl (.inl rfl) (.inr rfl)) pgs_nil))), (relG_tup (relGs_cons (rel_gN 3) (relGs_cons (rel_gN 4) relGs_nil)))⟩ (by decide) (fun _ _ _ _ _ => rts_nil) (fun _ _ _ _ _ => (rv 3))) | exact (rs_set (i := 5) nd rfl (by first | exact .inl rfl | exact .inr rfl) (re_lcR (own := [("used", 3), ("size_so", 4)]) rfl nd (ri_seq (rcal (cal__law_used T B) hr (by first | decide | omega) rfl (ra_cons (re_sub hr (re_sub hr (rv 0) (rv 1)) re_int) ra_nil))) (blkOk_by rfl) ⟨(gTup _ 2 (gCons (gName 3) (gCons (gName 4) gNil))), fun _ _ _ _ _ => (pg_tup (n := 2) rfl (pgs_cons (pg_name (i := 3) nd rfl (.inl rfl) (.inr rfl)) (pgs_cons (pg_name (i := 4) nd rfl (.inl rfl) (.inr rfl)) pgs_nil))), (relG_tup (relGs_cons (rel_gN 3) (relGs_cons (rel_gN 4) relGs_nil)))⟩ (by decide) (fun _ _ _ _ _ => rts_nil) (fun _ _ _ _ _ => (rv 3))) rfl (.inl rfl)))
  (rss_cons (rs_while PassesOwn.never (rt_ne hr (rv 5) (re_lst ra_nil)) (rss_cons (rs_set (i := 6) nd rfl (by first | exact .inl rfl | exact .inr rfl) (re_pop (rv 5)) rfl (.inl rfl))
  (rss_cons (rs_if (rt_notIn hr (rv 6) (rv 2)) (rss_cons (rs_expr (re_append (rv 2) (ra_cons (rv 6) ra_nil)))
  (rss_cons (rs_expr (re_extend (rv 5) (ra_cons (re_lc (own := [("used", 3), ("size_so", 4)]) rfl nd (ri_seq (rcal (cal__law_used T B) hr (by first | decide | omega) rfl (ra_cons (re_sub hr (re_sub hr (rv 0) (rv 6)) re_int) ra_nil))) (blkOk_by rfl) ⟨(gTup _ 2 (gCons (gName 3) (gCons (gName 4) gNil))), fun _ _ _ _ _ => (pg_tup (n := 2) rfl (pgs_cons (pg_name (i := 3) nd rfl (.inl rfl) (.inr rfl)) (pgs_cons (pg_name (i := 4) nd rfl (.inl rfl) (.inr rfl)) pgs_nil))), (relG_tup (relGs_cons (rel_gN 3) (relGs_cons (rel_gN 4) relGs_nil)))⟩ (by decide) (fun _ _ _ _ _ => rts_nil) (fun _ _ _ _ _ => (rv 3))) ra_nil)))
  rss_nil)) rss_nil)
  rss_nil)))
  (rss_cons (rs_ret (rb_sorted rfl B rfl (ra_cons (rv 2) ra_nil)))
  rss_nil))))

/-! ### _law_sizes -/
abbrev n__law_sizes : List Str := ["rooms", "formula", "nodes", "atoms", "somes", "deep", "one", "a", "b", "c", "e", "more"]
theorem sc__law_sizes : FnScope n__law_sizes ["rooms", "formula"] (defScope (top 34)) := ⟨rfl, rfl, rfl, by decide +kernel, rfl, by decide +kernel, by decide +kernel⟩
noncomputable def m__law_sizes (self : OC) : MS := (sSeq (sIf (mVal (mBin (oIn false) (mBin oIx (mVar 1) (mC (.p (.int 0)))) (mLst (aCons (mC (.p (.str "row"))) (aCons (mC (.p (.str "divides"))) aNil))))) (sSeq (sRet (mTup (aCons (mC (.p (.int 1))) (aCons (mC (.p (.int 1))) (aCons (mC (.p (.int 0))) (aCons (mC (.p (.int 0))) aNil))))))
  sNil) sNil)
  (sSeq (sIf (mVal (mBin (oEq false) (mBin oIx (mVar 1) (mC (.p (.int 0)))) (mC (.p (.str "named"))))) (sSeq (sRet (mCall self (aCons (mVar 0) (aCons (mBin oIx (mBin oIx (mVar 0) (mBin oIx (mVar 1) (mC (.p (.int 1))))) (mC (.p (.int 2)))) aNil))))
  sNil) sNil)
  (sSeq (sUnp (aCons (mC (.p (.int 1))) (aCons (mC (.p (.int 0))) (aCons (mC (.p (.int 0))) (aCons (mC (.p (.int 0))) aNil)))) 4 (gsCons (gN 2) (gsCons (gN 3) (gsCons (gN 4) (gsCons (gN 5) gsNil)))))
  (sSeq (sFor (iSeq (mSl (mVar 1) (oSome (mC (.p (.int 1)))) oNone)) (gN 6) (sSeq (sAsg (mCall self (aCons (mVar 0) (aCons (mVar 6) aNil))) (gT 4 (gsCons (gN 7) (gsCons (gN 8) (gsCons (gN 9) (gsCons (gN 10) gsNil))))))
  (sSeq (sPar 2 3 (aCons (mBin oAdd (mVar 2) (mVar 7)) (aCons (mBin oAdd (mVar 3) (mVar 8)) aNil)))
  (sSeq (sPar 4 5 (aCons (mBin oAdd (mVar 4) (mVar 9)) (aCons (mCall oMax2 (aCons (mVar 5) (aCons (mVar 10) aNil))) aNil)))
  sNil))))
  (sSeq (sAsg (mIf (mVal (mBin (oEq false) (mBin oIx (mVar 1) (mC (.p (.int 0)))) (mC (.p (.str "some"))))) (mC (.p (.int 1))) (mC (.p (.int 0)))) (gN 11))
  (sSeq (sRet (mTup (aCons (mVar 2) (aCons (mVar 3) (aCons (mBin oAdd (mVar 4) (mVar 11)) (aCons (mBin oAdd (mVar 5) (mVar 11)) aNil))))))
  sNil))))))
noncomputable def fn__law_sizes : Nat → OC
  | 0 => oNo
  | n + 1 => fnM 12 2 (m__law_sizes (fn__law_sizes n))
theorem calr__law_sizes {gg : Bool} (T : Defs P K mg) (B : Bn mg) : ∀ n : Nat, Cal gg P w K mg base (0 + n) "_law_sizes" ["rooms", "formula"] (fn__law_sizes n)
  | 0 => Cal.no T.d__law_sizes
  | n + 1 => by
    have CS : Cal gg P w K mg base (0 + n) "_law_sizes" ["rooms", "formula"] (fn__law_sizes n) := calr__law_sizes T B n
    have nd := sc__law_sizes.nd
    refine Cal.of (k := 0 + n) T.d__law_sizes sc__law_sizes fun f cdv A outer s H E hr => ?_
    unfold m__law_sizes
    exact (rss_cons (rs_if (rt_in hr (re_sub hr (rv 1) re_int) (re_lst (ra_cons re_str (ra_cons re_str ra_nil)))) (rss_cons (rs_ret (re_tup (ra_cons re_int (ra_cons re_int (ra_cons re_int (ra_cons re_int ra_nil))))))
  rss_nil) rss_nil)
  (rss_cons (rs_if (rt_eq hr (re_sub hr (rv 1) re_int) re_str) (rss_cons (rs_ret (rcal CS hr (by omega) rfl (ra_cons (rv 0) (ra_cons (re_sub hr (re_sub hr (rv 0) (re_sub hr (rv 1) re_int)) re_int) ra_nil))))
  rss_nil) rss_nil)
  (rss_cons (rs_unp (n := 4) rfl (ra_cons re_int (ra_cons re_int (ra_cons re_int (ra_cons re_int ra_nil)))) (rgs_cons (rg_name (i := 2) nd rfl (by first | exact .inl rfl | exact .inr rfl) (.inl rfl)) (rgs_cons (rg_name (i := 3) nd rfl (by first | exact .inl rfl | exact .inr rfl) (.inl rfl)) (rgs_cons (rg_name (i := 4) nd rfl (by first | exact .inl rfl | exact .inr rfl) (.inl rfl)) (rgs_cons (rg_name (i := 5) nd rfl (by first | exact .inl rfl | exact .inr rfl) (.inl rfl)) rgs_nil)))))
  (rss_cons (rs_for PassesOwn.never rfl (ri_seq (re_slice (rv 1) (ro_some re_int) ro_none)) (rg_name (i := 6) nd rfl (by first | exact .inl rfl | exact .inr rfl) (.inl rfl)) (rss_cons (rs_asg (rcal CS hr (by omega) rfl (ra_cons (rv 0) (ra_cons (rv 6) ra_nil))) (rg_tup (n := 4) rfl (rgs_cons (rg_name (i := 7) nd rfl (by first | exact .inl rfl | exact .inr rfl) (.inl rfl)) (rgs_cons (rg_name (i := 8) nd rfl (by first | exact .inl rfl | exact .inr rfl) (.inl rfl)) (rgs_cons (rg_name (i := 9) nd rfl (by first | exact .inl rfl | exact .inr rfl) (.inl rfl)) (rgs_cons (rg_name (i := 10) nd rfl (by first | exact .inl rfl | exact .inr rfl) (.inl rfl)) rgs_nil))))))
  (rss_cons (rs_par (i := 2) (j := 3) rfl nd rfl rfl (by decide) rfl rfl (ra_cons (re_bin op_addD (rv 2) (rv 7)) (ra_cons (re_bin op_addD (rv 3) (rv 8)) ra_nil)) rfl)
  (rss_cons (rs_par (i := 4) (j := 5) rfl nd rfl rfl (by decide) rfl rfl (ra_cons (re_bin op_addD (rv 4) (rv 9)) (ra_cons (rb_max rfl B rfl (ra_cons (rv 5) (ra_cons (rv 10) ra_nil))) ra_nil)) rfl)
  rss_nil))))
  (rss_cons (rs_set (i := 11) nd rfl (by first | exact .inl rfl | exact .inr rfl) (re_if (rt_eq hr (re_sub hr (rv 1) re_int) re_str) re_int re_int) rfl (.inl rfl))
  (rss_cons (rs_ret (re_tup (ra_cons (rv 2) (ra_cons (rv 3) (ra_cons (re_bin op_addD (rv 4) (rv 11)) (ra_cons (re_bin op_addD (rv 5) (rv 11)) ra_nil))))))
  rss_nil))))))
theorem cal__law_sizes {gg : Bool} (T : Defs P K mg) (B : Bn mg) : Cal gg P w K mg base 64 "_law_sizes" ["rooms", "formula"] (fn__law_sizes 64) := calr__law_sizes T B 64

/-! ### _law_letters -/
abbrev n__law_letters : List Str := ["rooms", "formula", "m"]
theorem sc__law_letters : FnScope n__law_letters ["rooms", "formula", "m"] (defScope (top 35)) := ⟨rfl, rfl, rfl, by decide +kernel, rfl, by decide +kernel, by decide +kernel⟩
noncomputable def m__law_letters : MS := (sSeq (sRet (mBin oAdd (mVar 2) (mBin oIx (mCall (fn__law_sizes 64) (aCons (mVar 0) (aCons (mVar 1) aNil))) (mC (.p (.int 3))))))
  sNil)
noncomputable def fn__law_letters : OC := fnM 3 3 m__law_letters
theorem cal__law_letters {gg : Bool} (T : Defs P K mg) (B : Bn mg) : Cal gg P w K mg base 65 "_law_letters" ["rooms", "formula", "m"] fn__law_letters := by
  have nd := sc__law_letters.nd
  refine Cal.of (k := 64) T.d__law_letters sc__law_letters fun f cdv A outer s H E hr => ?_
  unfold m__law_letters
  exact (rss_cons (rs_ret (re_bin op_addD (rv 2) (re_sub hr (rcal (cal__law_sizes T B) hr (by first | decide | omega) rfl (ra_cons (rv 0) (ra_cons (rv 1) ra_nil))) re_int)))
  rss_nil)

/-! ### _law_form_place -/
abbrev n__law_form_place : List Str := ["value_so", "i", "pair"]
theorem sc__law_form_place : FnScope n__law_form_place ["value_so"] (defScope (top 36)) := ⟨rfl, rfl, rfl, by decide +kernel, rfl, by decide +kernel, by decide +kernel⟩
noncomputable def m__law_form_place : MS := (sSeq (sIf (mOr (mNot (mVal (mCall oIsi (aCons (mVar 0) (aCons (mC (.v (.ty "tuple"))) aNil))))) (mVal (mBin oGt (mCall oLen (aCons (mVar 0) aNil)) (mC (.p (.int 100)))))) (sSeq (sRet (mUn oNeg (mC (.p (.int 1)))))
  sNil) sNil)
  (sSeq (sFor (iRange1 (aCons (mCall oLen (aCons (mVar 0) aNil)) aNil)) (gN 1) (sSeq (sAsg (mBin oIx (mVar 0) (mVar 1)) (gN 2))
  (sSeq (sIf (mOr (mNot (mVal (mCall oIsi (aCons (mVar 2) (aCons (mC (.v (.ty "tuple"))) aNil))))) (mOr (mVal (mBin (oEq true) (mCall oLen (aCons (mVar 2) aNil)) (mC (.p (.int 2))))) (mOr (mNot (mVal (mCall fn__law_is_name (aCons (mBin oIx (mVar 2) (mC (.p (.int 0)))) aNil)))) (mNot (mVal (mCall fn__law_is_room (aCons (mBin oIx (mVar 2) (mC (.p (.int 1)))) aNil))))))) (sSeq (sRet (mVar 1))
  sNil) sNil)
  (sSeq (sIf (mAnd (mVal (mBin oGt (mVar 1) (mC (.p (.int 0))))) (mNot (mVal (mBin oLt (mBin oIx (mBin oIx (mVar 0) (mBin oSub (mVar 1) (mC (.p (.int 1))))) (mC (.p (.int 0)))) (mBin oIx (mVar 2) (mC (.p (.int 0)))))))) (sSeq (sRet (mVar 1))
  sNil) sNil)
  sNil))))
  (sSeq (sRet (mC (.p .non)))
  sNil)))
noncomputable def fn__law_form_place : OC := fnM 3 1 m__law_form_place
theorem cal__law_form_place {gg : Bool} (T : Defs P K mg) (B : Bn mg) : Cal gg P w K mg base 68 "_law_form_place" ["value_so"] fn__law_form_place := by
  have nd := sc__law_form_place.nd
  refine Cal.of (k := 67) T.d__law_form_place sc__law_form_place fun f cdv A outer s H E hr => ?_
  unfold m__law_form_place
  exact (rss_cons (rs_if (PW.pt (rw_or (rt_not (rt_val (rb_isinstance B rfl (ra_cons (rv 0) (ra_cons (rt_tuple B rfl) ra_nil))))) (rw_or1 (rt_cmp op_gtD (rb_len B rfl (ra_cons (rv 0) ra_nil)) re_int)))) (rss_cons (rs_ret (re_un un_negD re_int))
  rss_nil) rss_nil)
  (rss_cons (rs_for PassesOwn.never rfl (ri_range1 rfl B.range (ra_cons (rb_len B rfl (ra_cons (rv 0) ra_nil)) ra_nil)) (rg_name (i := 1) nd rfl (by first | exact .inl rfl | exact .inr rfl) (.inl rfl)) (rss_cons (rs_set (i := 2) nd rfl (by first | exact .inl rfl | exact .inr rfl) (re_sub hr (rv 0) (rv 1)) rfl (.inl rfl))
  (rss_cons (rs_if (PW.pt (rw_or (rt_not (rt_val (rb_isinstance B rfl (ra_cons (rv 2) (ra_cons (rt_tuple B rfl) ra_nil))))) (rw_or (rt_ne hr (rb_len B rfl (ra_cons (rv 2) ra_nil)) re_int) (rw_or (rt_not (rt_val (rcal (cal__law_is_name T B) hr (by first | decide | omega) rfl (ra_cons (re_sub hr (rv 2) re_int) ra_nil)))) (rw_or1 (rt_not (rt_val (rcal (cal__law_is_room T B) hr (by first | decide | omega) rfl (ra_cons (re_sub hr (rv 2) re_int) ra_nil))))))))) (rss_cons (rs_ret (rv 1))
  rss_nil) rss_nil)
  (rss_cons (rs_if (PW.pt (rw_and (rt_cmp op_gtD (rv 1) re_int) (rw_and1 (rt_not (rt_cmp op_ltD (re_sub hr (re_sub hr (rv 0) (re_bin op_subD (rv 1) re_int)) re_int) (re_sub hr (rv 2) re_int)))))) (rss_cons (rs_ret (rv 1))
  rss_nil) rss_nil)
  rss_nil))))
  (rss_cons (rs_ret re_non)
  rss_nil)))

/-! ### _law_breach -/
abbrev n__law_breach : List Str := ["value_so", "place", "rooms", "used", "name", "room", "one", "size_so", "some", "k", "d", "formula", "nodes", "atoms", "somes", "deep"]
theorem sc__law_breach : FnScope n__law_breach ["value_so"] (defScope (top 37)) := ⟨rfl, rfl, rfl, by decide +kernel, rfl, by decide +kernel, by decide +kernel⟩
noncomputable def m__law_breach : MS := (sSeq (sAsg (mCall fn__law_form_place (aCons (mVar 0) aNil)) (gN 1))
  (sSeq (sIf (mVal (mBin (oIs true) (mVar 1) (mC (.p .non)))) (sSeq (sRet (mTup (aCons (mC (.p (.str "form"))) (aCons (mVar 1) aNil))))
  sNil) sNil)
  (sSeq (sUnp (aCons (mCall oDictP (aCons (mVar 0) aNil)) (aCons (mLstR aNil) aNil)) 2 (gsCons (gN 2) (gsCons (gN 3) gsNil)))
  (sSeq (sFor (iSeq (mVar 0)) (gT 2 (gsCons (gN 4) (gsCons (gN 5) gsNil))) (sSeq (sDrop (mMeth fExtend (mVar 3) (aCons (mLc [6, 7] (iSeq (mCall (fn__law_used 64) (aCons (mBin oIx (mVar 5) (mC (.p (.int 2)))) aNil))) (gT 2 (gsCons (gN 6) (gsCons (gN 7) gsNil))) tYes1 (mTup (aCons (mVar 6) (aCons (mVar 7) (aCons (mVar 4) aNil))))) aNil)))
  sNil))
  (sSeq (sAsg (mCall oSorted (aCons (mLcV [6, 7, 4] (mVar 3) (gT 3 (gsCons (gN 6) (gsCons (gN 7) (gsCons (gN 4) gsNil)))) (mVal (mBin (oIn true) (mVar 6) (mVar 2))) (mVar 6)) aNil)) (gN 8))
  (sSeq (sIf (mVal (mBin (oEq true) (mVar 8) (mLst aNil))) (sSeq (sRet (mTup (aCons (mC (.p (.str "unnamed"))) (aCons (mBin oIx (mVar 8) (mC (.p (.int 0)))) aNil))))
  sNil) sNil)
  (sSeq (sAsg (mCall oSorted (aCons (mLcV [6, 7, 4] (mVar 3) (gT 3 (gsCons (gN 6) (gsCons (gN 7) (gsCons (gN 4) gsNil)))) (mVal (mBin (oEq true) (mVar 7) (mBin oAdd (mBin oIx (mBin oIx (mVar 2) (mVar 6)) (mC (.p (.int 0)))) (mBin oIx (mBin oIx (mVar 2) (mVar 6)) (mC (.p (.int 1))))))) (mVar 4)) aNil)) (gN 8))
  (sSeq (sIf (mVal (mBin (oEq true) (mVar 8) (mLst aNil))) (sSeq (sRet (mTup (aCons (mC (.p (.str "fit"))) (aCons (mBin oIx (mVar 8) (mC (.p (.int 0)))) aNil))))
  sNil) sNil)
  (sSeq (sAsg (mLc [4] (iSeq (mCall oSorted (aCons (mVar 2) aNil))) (gN 4) (mVal (mBin (oIn false) (mVar 4) (mCall fn__law_hangs (aCons (mVar 2) (aCons (mVar 4) aNil))))) (mVar 4)) (gN 8))
  (sSeq (sIf (mVal (mBin (oEq true) (mVar 8) (mLst aNil))) (sSeq (sRet (mTup (aCons (mC (.p (.str "ring"))) (aCons (mBin oIx (mVar 8) (mC (.p (.int 0)))) aNil))))
  sNil) sNil)
  (sSeq (sFor (iSeq (mCall oSorted (aCons (mVar 2) aNil))) (gN 4) (sSeq (sAsg (mBin oIx (mVar 2) (mVar 4)) (gT 3 (gsCons (gN 9) (gsCons (gN 10) (gsCons (gN 11) gsNil)))))
  (sSeq (sAsg (mCall (fn__law_sizes 64) (aCons (mVar 2) (aCons (mVar 11) aNil))) (gT 4 (gsCons (gN 12) (gsCons (gN 13) (gsCons (gN 14) (gsCons (gN 15) gsNil))))))
  (sSeq (sIf (mOr (mVal (mBin oGt (mVar 12) (mC (.p (.int 200))))) (mOr (mVal (mBin oGt (mVar 13) (mC (.p (.int 12))))) (mOr (mVal (mBin oGt (mVar 14) (mC (.p (.int 3))))) (mVal (mBin oGt (mCall fn__law_letters (aCons (mVar 2) (aCons (mVar 11) (aCons (mBin oAdd (mVar 9) (mVar 10)) aNil)))) (mC (.p (.int 9)))))))) (sSeq (sRet (mTup (aCons (mC (.p (.str "great"))) (aCons (mVar 4) aNil))))
  sNil) sNil)
  sNil))))
  (sSeq (sRet (mC (.p .non)))
  sNil))))))))))))
noncomputable def fn__law_breach : OC := fnM 16 1 m__law_breach
theorem cal__law_breach {gg : Bool} (T : Defs P K mg) (B : Bn mg) : Cal gg P w K mg base 69 "_law_breach" ["value_so"] fn__law_breach := by
  have nd := sc__law_breach.nd
  refine Cal.of (k := 68) T.d__law_breach sc__law_breach fun f cdv A outer s H E hr => ?_
  unfold m__law_breach
  exact (rss_cons (rs_set (i := 1) nd rfl (by first | exact .inl rfl | exact .inr rfl) (rcal (cal__law_form_place T B) hr (by first | decide | omega) rfl (ra_cons (rv 0) ra_nil)) rfl (.inl rfl))
  (rss_cons (rs_if (rt_cmp op_isNotD (rv 1) re_non) (rss_cons (rs_ret (re_tup (ra_cons re_str (ra_cons (rv 1) ra_nil))))
  rss_nil) rss_nil)
  (rss_cons (rs_unp (n := 2) rfl (ra_cons (rb_dict rfl B rfl (ra_cons (rv 0) ra_nil)) (ra_cons (re_lstR ra_nil) ra_nil)) (rgs_cons (rg_name (i := 2) nd rfl (by first | exact .inl rfl | exact .inr rfl) (.inl rfl)) (rgs_cons (rg_name (i := 3) nd rfl (by first | exact .inl rfl | exact .inr rfl) (.inl rfl)) rgs_nil)))
  (rss_cons (rs_for PassesOwn.never rfl (ri_seq (rv 0)) (rg_tup (n := 2) rfl (rgs_cons (rg_name (i := 4) nd rfl (by first | exact .inl rfl | exact .inr rfl) (.inl rfl)) (rgs_cons (rg_name (i := 5) nd rfl (by first | exact .inl rfl | exact .inr rfl) (.inl rfl)) rgs_nil))) (rss_cons (rs_expr (re_extend (rv 3) (ra_cons (re_lc (own := [("one", 6), ("size_so", 7)]) rfl nd (ri_seq (rcal (cal__law_used T B) hr (by first | decide | omega) rfl (ra_cons (re_sub hr (rv 5) re_int) ra_nil))) (blkOk_by rfl) ⟨(gTup _ 2 (gCons (gName 6) (gCons (gName 7) gNil))), fun _ _ _ _ _ => (pg_tup (n := 2) rfl (pgs_cons (pg_name (i := 6) nd rfl (.inl rfl) (.inr rfl)) (pgs_cons (pg_name (i := 7) nd rfl (.inl rfl) (.inr rfl)) pgs_nil))), (relG_tup (relGs_cons (rel_gN 6) (relGs_cons (rel_gN 7) relGs_nil)))⟩ (by decide) (fun _ _ _ _ _ => rts_nil) (fun _ _ _ _ _ => (re_tup (ra_cons (rv 6) (ra_cons (rv 7) (ra_cons (rv 4) ra_nil)))))) ra_nil)))
  rss_nil))
  (rss_cons (rs_set (i := 8) nd rfl (by first | exact .inl rfl | exact .inr rfl) (rb_sorted rfl B rfl (ra_cons (re_lcV (own := [("one", 6), ("size_so", 7), ("name", 4)]) rfl nd (rv 3) (blkOk_by rfl) ⟨(gTup _ 3 (gCons (gName 6) (gCons (gName 7) (gCons (gName 4) gNil)))), fun _ _ _ _ _ => (pg_tup (n := 3) rfl (pgs_cons (pg_name (i := 6) nd rfl (.inl rfl) (.inr rfl)) (pgs_cons (pg_name (i := 7) nd rfl (.inl rfl) (.inr rfl)) (pgs_cons (pg_name (i := 4) nd rfl (.inl rfl) (.inr rfl)) pgs_nil)))), (relG_tup (relGs_cons (rel_gN 6) (relGs_cons (rel_gN 7) (relGs_cons (rel_gN 4) relGs_nil))))⟩ (by decide) (fun _ _ _ _ _ => (rts_one (rt_notIn hr (rv 6) (rv 2)))) (fun _ _ _ _ _ => (rv 6))) ra_nil)) rfl (.inl rfl))
  (rss_cons (rs_if (rt_ne hr (rv 8) (re_lst ra_nil)) (rss_cons (rs_ret (re_tup (ra_cons re_str (ra_cons (re_sub hr (rv 8) re_int) ra_nil))))
  rss_nil) rss_nil)
  (rss_cons (rs_set (i := 8) nd rfl (by first | exact .inl rfl | exact .inr rfl) (rb_sorted rfl B rfl (ra_cons (re_lcV (own := [("one", 6), ("size_so", 7), ("name", 4)]) rfl nd (rv 3) (blkOk_by rfl) ⟨(gTup _ 3 (gCons (gName 6) (gCons (gName 7) (gCons (gName 4) gNil)))), fun _ _ _ _ _ => (pg_tup (n := 3) rfl (pgs_cons (pg_name (i := 6) nd rfl (.inl rfl) (.inr rfl)) (pgs_cons (pg_name (i := 7) nd rfl (.inl rfl) (.inr rfl)) (pgs_cons (pg_name (i := 4) nd rfl (.inl rfl) (.inr rfl)) pgs_nil)))), (relG_tup (relGs_cons (rel_gN 6) (relGs_cons (rel_gN 7) (relGs_cons (rel_gN 4) relGs_nil))))⟩ (by decide) (fun _ _ _ _ _ => (rts_one (rt_ne hr (rv 7) (re_bin op_addD (re_sub hr (re_sub hr (rv 2) (rv 6)) re_int) (re_sub hr (re_sub hr (rv 2) (rv 6)) re_int))))) (fun _ _ _ _ _ => (rv 4))) ra_nil)) rfl (.inl rfl))
  (rss_cons (rs_if (rt_ne hr (rv 8) (re_lst ra_nil)) (rss_cons (rs_ret (re_tup (ra_cons re_str (ra_cons (re_sub hr (rv 8) re_int) ra_nil))))
  rss_nil) rss_nil)
  (rss_cons (by first | exact (rs_setLc (i := 8) (own := [("name", 4)]) rfl nd rfl rfl rfl (ri_seq (rb_sorted rfl B rfl (ra_cons (rv 2) ra_nil))) (blkOk_by rfl) ⟨(gName 4), fun _ _ _ _ _ => (pg_name (i := 4) nd rfl (.inl rfl) (.inr rfl)), (rel_gN 4)⟩ (by decide) (fun _ _ _ _ _ => (rts_one (rt_in hr (rv 4) (rcal (cal__law_hangs T B) hr (by first | decide | omega) rfl (ra_cons (rv 2) (ra_cons (rv 4) ra_nil)))))) (fun _ _ _ _ _ => (rv 4))) | exact (rs_set (i := 8) nd rfl (by first | exact .inl rfl | exact .inr rfl) (re_lc (own := [("name", 4)]) rfl nd (ri_seq (rb_sorted rfl B rfl (ra_cons (rv 2) ra_nil))) (blkOk_by rfl) ⟨(gName 4), fun _ _ _ _ _ => (pg_name (i := 4) nd rfl (.inl rfl) (.inr rfl)), (rel_gN 4)⟩ (by decide) (fun _ _ _ _ _ => (rts_one (rt_in hr (rv 4) (rcal (cal__law_hangs T B) hr (by first | decide | omega) rfl (ra_cons (rv 2) (ra_cons (rv 4) ra_nil)))))) (fun _ _ _ _ _ => (rv 4))) rfl (.inl rfl)))
  (rss_cons (rs_if (rt_ne hr (rv 8) (re_lst ra_nil)) (rss_cons (rs_ret (re_tup (ra_cons re_str (ra_cons (re_sub hr (rv 8) re_int) ra_nil))))
  rss_nil) rss_nil)
  (rss_cons (rs_for PassesOwn.never rfl (ri_seq (rb_sorted rfl B rfl (ra_cons (rv 2) ra_nil))) (rg_name (i := 4) nd rfl (by first | exact .inl rfl | exact .inr rfl) (.inl rfl)) (rss_cons (rs_asg (re_sub hr (rv 2) (rv 4)) (rg_tup (n := 3) rfl (rgs_cons (rg_name (i := 9) nd rfl (by first | exact .inl rfl | exact .inr rfl) (.inl rfl)) (rgs_cons (rg_name (i := 10) nd rfl (by first | exact .inl rfl | exact .inr rfl) (.inl rfl)) (rgs_cons (rg_name (i := 11) nd rfl (by first | exact .inl rfl | exact .inr rfl) (.inl rfl)) rgs_nil)))))
  (rss_cons (rs_asg (rcal (cal__law_sizes T B) hr (by first | decide | omega) rfl (ra_cons (rv 2) (ra_cons (rv 11) ra_nil))) (rg_tup (n := 4) rfl (rgs_cons (rg_name (i := 12) nd rfl (by first | exact .inl rfl | exact .inr rfl) (.inl rfl)) (rgs_cons (rg_name (i := 13) nd rfl (by first | exact .inl rfl | exact .inr rfl) (.inl rfl)) (rgs_cons (rg_name (i := 14) nd rfl (by first | exact .inl rfl | exact .inr rfl) (.inl rfl)) (rgs_cons (rg_name (i := 15) nd rfl (by first | exact .inl rfl | exact .inr rfl) (.inl rfl)) rgs_nil))))))
  (rss_cons (rs_if (PW.pt (rw_or (rt_cmp op_gtD (rv 12) re_int) (rw_or (rt_cmp op_gtD (rv 13) re_int) (rw_or (rt_cmp op_gtD (rv 14) re_int) (rw_or1 (rt_cmp op_gtD (rcal (cal__law_letters T B) hr (by first | decide | omega) rfl (ra_cons (rv 2) (ra_cons (rv 11) (ra_cons (re_bin op_addD (rv 9) (rv 10)) ra_nil)))) re_int)))))) (rss_cons (rs_ret (re_tup (ra_cons re_str (ra_cons (rv 4) ra_nil))))
  rss_nil) rss_nil)
  rss_nil))))
  (rss_cons (rs_ret re_non)
  rss_nil))))))))))))

/-! ### _law_formula -/
abbrev n__law_formula : List Str := ["m", "letters", "names", "deep", "word", "i", "name", "size_so", "j", "forms_so", "sons"]
theorem sc__law_formula : FnScope n__law_formula ["m", "letters", "names", "deep"] (defScope (top 38)) := ⟨rfl, rfl, rfl, by decide +kernel, rfl, by decide +kernel, by decide +kernel⟩
noncomputable def m__law_formula (self : OC) : MS := (sSeq (sAsg (mIf (mVal (mBin oGt (mVar 3) (mC (.p (.int 0))))) (mCall fn__law_draw (aCons (mVar 0) (aCons (mC (.p (.int 9))) aNil))) (mCall fn__law_draw (aCons (mVar 0) (aCons (mC (.p (.int 3))) aNil)))) (gN 4))
  (sSeq (sIf (mVal (mBin oLt (mVar 4) (mC (.p (.int 2))))) (sSeq (sRet (mTup (aCons (mC (.p (.str "row"))) (aCons (mCall oTuple (aCons (mLc [5] (iRange1 (aCons (mBin oAdd (mVar 1) (mC (.p (.int 1)))) aNil)) (gN 5) tYes1 (mBin oSub (mCall fn__law_draw (aCons (mVar 0) (aCons (mC (.p (.int 9))) aNil))) (mC (.p (.int 4))))) aNil)) aNil))))
  sNil) sNil)
  (sSeq (sIf (mVal (mBin (oEq false) (mVar 4) (mC (.p (.int 2))))) (sSeq (sRet (mTup (aCons (mC (.p (.str "divides"))) (aCons (mBin oAdd (mC (.p (.int 2))) (mCall fn__law_draw (aCons (mVar 0) (aCons (mC (.p (.int 4))) aNil)))) (aCons (mCall oTuple (aCons (mLc [5] (iRange1 (aCons (mBin oAdd (mVar 1) (mC (.p (.int 1)))) aNil)) (gN 5) tYes1 (mBin oSub (mCall fn__law_draw (aCons (mVar 0) (aCons (mC (.p (.int 9))) aNil))) (mC (.p (.int 4))))) aNil)) aNil)))))
  sNil) sNil)
  (sSeq (sIf (mVal (mBin (oEq false) (mVar 4) (mC (.p (.int 3))))) (sSeq (sRet (mTup (aCons (mC (.p (.str "not"))) (aCons (mCall self (aCons (mVar 0) (aCons (mVar 1) (aCons (mVar 2) (aCons (mBin oSub (mVar 3) (mC (.p (.int 1)))) aNil))))) aNil))))
  sNil) sNil)
  (sSeq (sIf (mAnd (mVal (mBin (oEq false) (mVar 4) (mC (.p (.int 4))))) (mVal (mBin oLt (mVar 1) (mC (.p (.int 9)))))) (sSeq (sRet (mTup (aCons (mC (.p (.str "some"))) (aCons (mCall self (aCons (mVar 0) (aCons (mBin oAdd (mVar 1) (mC (.p (.int 1)))) (aCons (mVar 2) (aCons (mBin oSub (mVar 3) (mC (.p (.int 1)))) aNil))))) aNil))))
  sNil) sNil)
  (sSeq (sIf (mAnd (mVal (mBin oLt (mVar 4) (mC (.p (.int 7))))) (mVal (mBin (oEq true) (mVar 2) (mLst aNil)))) (sSeq (sAsg (mCall fn__law_of (aCons (mVar 0) (aCons (mVar 2) aNil))) (gT 2 (gsCons (gN 6) (gsCons (gN 7) gsNil))))
  (sSeq (sAsg (mLc [8] (iRange1 (aCons (mVar 7) aNil)) (gN 8) tYes1 (mCall oTuple (aCons (mLc [5] (iRange1 (aCons (mBin oAdd (mVar 1) (mC (.p (.int 1)))) aNil)) (gN 5) tYes1 (mBin oSub (mCall fn__law_draw (aCons (mVar 0) (aCons (mC (.p (.int 5))) aNil))) (mC (.p (.int 2))))) aNil))) (gN 9))
  (sSeq (sRet (mTup (aCons (mC (.p (.str "named"))) (aCons (mVar 6) (aCons (mCall oTuple (aCons (mVar 9) aNil)) aNil)))))
  sNil))) sNil)
  (sSeq (sAsg (mLc [8] (iRange1 (aCons (mCall fn__law_draw (aCons (mVar 0) (aCons (mC (.p (.int 4))) aNil))) aNil)) (gN 8) tYes1 (mCall self (aCons (mVar 0) (aCons (mVar 1) (aCons (mVar 2) (aCons (mBin oSub (mVar 3) (mC (.p (.int 1)))) aNil)))))) (gN 10))
  (sSeq (sRet (mBin oAdd (mTup (aCons (mCall fn__law_of (aCons (mVar 0) (aCons (mLst (aCons (mC (.p (.str "and"))) (aCons (mC (.p (.str "or"))) aNil))) aNil))) aNil)) (mCall oTuple (aCons (mVar 10) aNil))))
  sNil))))))))
noncomputable def fn__law_formula : Nat → OC
  | 0 => oNo
  | n + 1 => fnM 11 4 (m__law_formula (fn__law_formula n))
theorem calr__law_formula {gg : Bool} (T : Defs P K mg) (B : Bn mg) : ∀ n : Nat, Cal gg P w K mg base (2 + n) "_law_formula" ["m", "letters", "names", "deep"] (fn__law_formula n)
  | 0 => Cal.no T.d__law_formula
  | n + 1 => by
    have CS : Cal gg P w K mg base (2 + n) "_law_formula" ["m", "letters", "names", "deep"] (fn__law_formula n) := calr__law_formula T B n
    have nd := sc__law_formula.nd
    refine Cal.of (k := 2 + n) T.d__law_formula sc__law_formula fun f cdv A outer s H E hr => ?_
    unfold m__law_formula
    exact (rss_cons (rs_set (i := 4) nd rfl (by first | exact .inl rfl | exact .inr rfl) (re_if (rt_cmp op_gtD (rv 3) re_int) (rcal (cal__law_draw T B) hr (by first | decide | omega) rfl (ra_cons (rv 0) (ra_cons re_int ra_nil))) (rcal (cal__law_draw T B) hr (by first | decide | omega) rfl (ra_cons (rv 0) (ra_cons re_int ra_nil)))) rfl (.inl rfl))
  (rss_cons (rs_if (rt_cmp op_ltD (rv 4) re_int) (rss_cons (rs_ret (re_tup (ra_cons re_str (ra_cons (rb_tuple B rfl (ra_cons (re_lc (own := [("i", 5)]) rfl nd (ri_range1 rfl B.range (ra_cons (re_bin op_addD (rv 1) re_int) ra_nil)) (blkOk_by rfl) ⟨(gName 5), fun _ _ _ _ _ => (pg_name (i := 5) nd rfl (.inl rfl) (.inr rfl)), (rel_gN 5)⟩ (by decide) (fun _ _ _ _ _ => rts_nil) (fun _ _ _ _ _ => (re_bin op_subD (rcal (cal__law_draw T B) hr (by first | decide | omega) rfl (ra_cons (rv 0) (ra_cons re_int ra_nil))) re_int))) ra_nil)) ra_nil))))
  rss_nil) rss_nil)
  (rss_cons (rs_if (rt_eq hr (rv 4) re_int) (rss_cons (rs_ret (re_tup (ra_cons re_str (ra_cons (re_bin op_addD re_int (rcal (cal__law_draw T B) hr (by first | decide | omega) rfl (ra_cons (rv 0) (ra_cons re_int ra_nil)))) (ra_cons (rb_tuple B rfl (ra_cons (re_lc (own := [("i", 5)]) rfl nd (ri_range1 rfl B.range (ra_cons (re_bin op_addD (rv 1) re_int) ra_nil)) (blkOk_by rfl) ⟨(gName 5), fun _ _ _ _ _ => (pg_name (i := 5) nd rfl (.inl rfl) (.inr rfl)), (rel_gN 5)⟩ (by decide) (fun _ _ _ _ _ => rts_nil) (fun _ _ _ _ _ => (re_bin op_subD (rcal (cal__law_draw T B) hr (by first | decide | omega) rfl (ra_cons (rv 0) (ra_cons re_int ra_nil))) re_int))) ra_nil)) ra_nil)))))
  rss_nil) rss_nil)
  (rss_cons (rs_if (rt_eq hr (rv 4) re_int) (rss_cons (rs_ret (re_tup (ra_cons re_str (ra_cons (rcal CS hr (by omega) rfl (ra_cons (rv 0) (ra_cons (rv 1) (ra_cons (rv 2) (ra_cons (re_bin op_subD (rv 3) re_int) ra_nil))))) ra_nil))))
  rss_nil) rss_nil)
  (rss_cons (rs_if (PW.pt (rw_and (rt_eq hr (rv 4) re_int) (rw_and1 (rt_cmp op_ltD (rv 1) re_int)))) (rss_cons (rs_ret (re_tup (ra_cons re_str (ra_cons (rcal CS hr (by omega) rfl (ra_cons (rv 0) (ra_cons (re_bin op_addD (rv 1) re_int) (ra_cons (rv 2) (ra_cons (re_bin op_subD (rv 3) re_int) ra_nil))))) ra_nil))))
  rss_nil) rss_nil)
  (rss_cons (rs_if (PW.pt (rw_and (rt_cmp op_ltD (rv 4) re_int) (rw_and1 (rt_ne hr (rv 2) (re_lst ra_nil))))) (rss_cons (rs_asg (rcal (cal__law_of T B) hr (by first | decide | omega) rfl (ra_cons (rv 0) (ra_cons (rv 2) ra_nil))) (rg_tup (n := 2) rfl (rgs_cons (rg_name (i := 6) nd rfl (by first | exact .inl rfl | exact .inr rfl) (.inl rfl)) (rgs_cons (rg_name (i := 7) nd rfl (by first | exact .inl rfl | exact .inr rfl) (.inl rfl)) rgs_nil))))
  (rss_cons (by first | exact (rs_setLc (i := 9) (own := [("j", 8)]) rfl nd rfl rfl rfl (ri_range1 rfl B.range (ra_cons (rv 7) ra_nil)) (blkOk_by rfl) ⟨(gName 8), fun _ _ _ _ _ => (pg_name (i := 8) nd rfl (.inl rfl) (.inr rfl)), (rel_gN 8)⟩ (by decide) (fun _ _ _ _ _ => rts_nil) (fun _ _ _ _ _ => (rb_tuple B rfl (ra_cons (re_lc (own := [("i", 5)]) rfl nd (ri_range1 rfl B.range (ra_cons (re_bin op_addD (rv 1) re_int) ra_nil)) (blkOk_by rfl) ⟨(gName 5), fun _ _ _ _ _ => (pg_name (i := 5) nd rfl (.inl rfl) (.inr rfl)), (rel_gN 5)⟩ (by decide) (fun _ _ _ _ _ => rts_nil) (fun _ _ _ _ _ => (re_bin op_subD (rcal (cal__law_draw T B) hr (by first | decide | omega) rfl (ra_cons (rv 0) (ra_cons re_int ra_nil))) re_int))) ra_nil)))) | exact (rs_set (i := 9) nd rfl (by first | exact .inl rfl | exact .inr rfl) (re_lc (own := [("j", 8)]) rfl nd (ri_range1 rfl B.range (ra_cons (rv 7) ra_nil)) (blkOk_by rfl) ⟨(gName 8), fun _ _ _ _ _ => (pg_name (i := 8) nd rfl (.inl rfl) (.inr rfl)), (rel_gN 8)⟩ (by decide) (fun _ _ _ _ _ => rts_nil) (fun _ _ _ _ _ => (rb_tuple B rfl (ra_cons (re_lc (own := [("i", 5)]) rfl nd (ri_range1 rfl B.range (ra_cons (re_bin op_addD (rv 1) re_int) ra_nil)) (blkOk_by rfl) ⟨(gName 5), fun _ _ _ _ _ => (pg_name (i := 5) nd rfl (.inl rfl) (.inr rfl)), (rel_gN 5)⟩ (by decide) (fun _ _ _ _ _ => rts_nil) (fun _ _ _ _ _ => (re_bin op_subD (rcal (cal__law_draw T B) hr (by first | decide | omega) rfl (ra_cons (rv 0) (ra_cons re_int ra_nil))) re_int))) ra_nil)))) rfl (.inl rfl)))
  (rss_cons (rs_ret (re_tup (ra_cons re_str (ra_cons (rv 6) (ra_cons (rb_tuple B rfl (ra_cons (rv 9) ra_nil)) ra_nil)))))
  rss_nil))) rss_nil)
  (rss_cons (by first | exact (rs_setLc (i := 10) (own := [("j", 8)]) rfl nd rfl rfl rfl (ri_range1 rfl B.range (ra_cons (rcal (cal__law_draw T B) hr (by first | decide | omega) rfl (ra_cons (rv 0) (ra_cons re_int ra_nil))) ra_nil)) (blkOk_by rfl) ⟨(gName 8), fun _ _ _ _ _ => (pg_name (i := 8) nd rfl (.inl rfl) (.inr rfl)), (rel_gN 8)⟩ (by decide) (fun _ _ _ _ _ => rts_nil) (fun _ _ _ _ _ => (rcal CS hr (by omega) rfl (ra_cons (rv 0) (ra_cons (rv 1) (ra_cons (rv 2) (ra_cons (re_bin op_subD (rv 3) re_int) ra_nil))))))) | exact (rs_set (i := 10) nd rfl (by first | exact .inl rfl | exact .inr rfl) (re_lc (own := [("j", 8)]) rfl nd (ri_range1 rfl B.range (ra_cons (rcal (cal__law_draw T B) hr (by first | decide | omega) rfl (ra_cons (rv 0) (ra_cons re_int ra_nil))) ra_nil)) (blkOk_by rfl) ⟨(gName 8), fun _ _ _ _ _ => (pg_name (i := 8) nd rfl (.inl rfl) (.inr rfl)), (rel_gN 8)⟩ (by decide) (fun _ _ _ _ _ => rts_nil) (fun _ _ _ _ _ => (rcal CS hr (by omega) rfl (ra_cons (rv 0) (ra_cons (rv 1) (ra_cons (rv 2) (ra_cons (re_bin op_subD (rv 3) re_int) ra_nil))))))) rfl (.inl rfl)))
  (rss_cons (rs_ret (re_bin op_addD (re_tup (ra_cons (rcal (cal__law_of T B) hr (by first | decide | omega) rfl (ra_cons (rv 0) (ra_cons (re_lst (ra_cons re_str (ra_cons re_str ra_nil))) ra_nil))) ra_nil)) (rb_tuple B rfl (ra_cons (rv 10) ra_nil))))
  rss_nil))))))))
theorem cal__law_formula {gg : Bool} (T : Defs P K mg) (B : Bn mg) : Cal gg P w K mg base 66 "_law_formula" ["m", "letters", "names", "deep"] (fn__law_formula 64) := calr__law_formula T B 64

/-! ### _law_book -/
abbrev n__law_book : List Str := ["m", "count", "titles", "found", "rooms", "step", "title", "k", "d"]
theorem sc__law_book : FnScope n__law_book ["m", "count"] (defScope (top 39)) := ⟨rfl, rfl, rfl, by decide +kernel, rfl, by decide +kernel, by decide +kernel⟩
noncomputable def m__law_book : MS := (sSeq (sUnp (aCons (mLst (aCons (mC (.p (.str "a"))) (aCons (mC (.p (.str "b"))) (aCons (mC (.p (.str "ab"))) (aCons (mC (.p (.str "ba"))) (aCons (mC (.p (.str "cell"))) (aCons (mC (.p (.str "row"))) (aCons (mC (.p (.str "tri"))) (aCons (mC (.p (.str "zz"))) aNil))))))))) (aCons (mLstR aNil) (aCons mDNew aNil))) 3 (gsCons (gN 2) (gsCons (gN 3) (gsCons (gN 4) gsNil))))
  (sSeq (sFor (iRange1 (aCons (mVar 1) aNil)) (gN 5) (sSeq (sAsg (mCall fn__law_of (aCons (mVar 0) (aCons (mVar 2) aNil))) (gN 6))
  (sSeq (sIf (mVal (mBin (oIn true) (mVar 6) (mVar 4))) (sSeq (sPar 7 8 (aCons (mCall fn__law_draw (aCons (mVar 0) (aCons (mC (.p (.int 3))) aNil))) (aCons (mCall fn__law_draw (aCons (mVar 0) (aCons (mC (.p (.int 3))) aNil))) aNil)))
  (sSeq (sDPutM (mVar 4) (mVar 6) (mTup (aCons (mVar 7) (aCons (mVar 8) (aCons (mCall (fn__law_formula 64) (aCons (mVar 0) (aCons (mBin oAdd (mVar 7) (mVar 8)) (aCons (mVar 3) (aCons (mC (.p (.int 2))) aNil))))) aNil)))))
  (sSeq (sDrop (mMeth fAppend (mVar 3) (aCons (mTup (aCons (mVar 6) (aCons (mBin oAdd (mVar 7) (mVar 8)) aNil))) aNil)))
  sNil))) sNil)
  sNil)))
  (sSeq (sRet (mCall oTuple (aCons (mLc [6] (iSeq (mCall oSorted (aCons (mVar 4) aNil))) (gN 6) tYes1 (mTup (aCons (mVar 6) (aCons (mBin oIx (mVar 4) (mVar 6)) aNil)))) aNil)))
  sNil)))
noncomputable def fn__law_book : OC := fnM 9 2 m__law_book
theorem cal__law_book {gg : Bool} (T : Defs P K mg) (B : Bn mg) : Cal gg P w K mg base 67 "_law_book" ["m", "count"] fn__law_book := by
  have nd := sc__law_book.nd
  refine Cal.of (k := 66) T.d__law_book sc__law_book fun f cdv A outer s H E hr => ?_
  unfold m__law_book
  exact (rss_cons (rs_unp (n := 3) rfl (ra_cons (re_lst (ra_cons re_str (ra_cons re_str (ra_cons re_str (ra_cons re_str (ra_cons re_str (ra_cons re_str (ra_cons re_str (ra_cons re_str ra_nil))))))))) (ra_cons (re_lstR ra_nil) (ra_cons re_dnew ra_nil))) (rgs_cons (rg_name (i := 2) nd rfl (by first | exact .inl rfl | exact .inr rfl) (.inl rfl)) (rgs_cons (rg_name (i := 3) nd rfl (by first | exact .inl rfl | exact .inr rfl) (.inl rfl)) (rgs_cons (rg_name (i := 4) nd rfl (by first | exact .inl rfl | exact .inr rfl) (.inl rfl)) rgs_nil))))
  (rss_cons (rs_for PassesOwn.never rfl (ri_range1 rfl B.range (ra_cons (rv 1) ra_nil)) (rg_name (i := 5) nd rfl (by first | exact .inl rfl | exact .inr rfl) (.inl rfl)) (rss_cons (rs_set (i := 6) nd rfl (by first | exact .inl rfl | exact .inr rfl) (rcal (cal__law_of T B) hr (by first | decide | omega) rfl (ra_cons (rv 0) (ra_cons (rv 2) ra_nil))) rfl (.inl rfl))
  (rss_cons (rs_if (rt_notIn hr (rv 6) (rv 4)) (rss_cons (rs_par (i := 7) (j := 8) rfl nd rfl rfl (by decide) rfl rfl (ra_cons (rcal (cal__law_draw T B) hr (by first | decide | omega) rfl (ra_cons (rv 0) (ra_cons re_int ra_nil))) (ra_cons (rcal (cal__law_draw T B) hr (by first | decide | omega) rfl (ra_cons (rv 0) (ra_cons re_int ra_nil))) ra_nil)) rfl)
  (rss_cons (rs_dput hr (rv 4) (rv 6) (re_tup (ra_cons (rv 7) (ra_cons (rv 8) (ra_cons (rcal (cal__law_formula T B) hr (by first | decide | omega) rfl (ra_cons (rv 0) (ra_cons (re_bin op_addD (rv 7) (rv 8)) (ra_cons (rv 3) (ra_cons re_int ra_nil))))) ra_nil)))))
  (rss_cons (rs_expr (re_append (rv 3) (ra_cons (re_tup (ra_cons (rv 6) (ra_cons (re_bin op_addD (rv 7) (rv 8)) ra_nil))) ra_nil)))
  rss_nil))) rss_nil)
  rss_nil)))
  (rss_cons (rs_ret (rb_tuple B rfl (ra_cons (re_lc (own := [("title", 6)]) rfl nd (ri_seq (rb_sorted rfl B rfl (ra_cons (rv 4) ra_nil))) (blkOk_by rfl) ⟨(gName 6), fun _ _ _ _ _ => (pg_name (i := 6) nd rfl (.inl rfl) (.inr rfl)), (rel_gN 6)⟩ (by decide) (fun _ _ _ _ _ => rts_nil) (fun _ _ _ _ _ => (re_tup (ra_cons (rv 6) (ra_cons (re_sub hr (rv 4) (rv 6)) ra_nil))))) ra_nil)))
  rss_nil)))

/-! ### _law_put_form -/
abbrev n__law_put_form : List Str := ["form", "forms_so", "n", "found", "c", "one", "a", "b"]
theorem sc__law_put_form : FnScope n__law_put_form ["form", "forms_so", "n"] (defScope (top 40)) := ⟨rfl, rfl, rfl, by decide +kernel, rfl, by decide +kernel, by decide +kernel⟩
noncomputable def m__law_put_form : MS := (sSeq (sAsg (mBin oAdd (mLst (aCons (mBin oIx (mVar 0) (mC (.p (.int 0)))) aNil)) (mBin oMulG (mLst (aCons (mC (.p (.int 0))) aNil)) (mVar 2))) (gN 3))
  (sSeq (sFor (iZip (aCons (mSl (mVar 0) (oSome (mC (.p (.int 1)))) oNone) (aCons (mVar 1) aNil))) (gT 2 (gsCons (gN 4) (gsCons (gN 5) gsNil))) (sSeq (sAsg (mLc [6, 7] (iZip (aCons (mVar 3) (aCons (mVar 5) aNil))) (gT 2 (gsCons (gN 6) (gsCons (gN 7) gsNil))) tYes1 (mBin oAdd (mVar 6) (mBin oMulG (mVar 4) (mVar 7)))) (gN 3))
  sNil))
  (sSeq (sRet (mCall oTuple (aCons (mVar 3) aNil)))
  sNil)))
noncomputable def fn__law_put_form : OC := fnM 8 3 m__law_put_form
theorem cal__law_put_form {gg : Bool} (T : Defs P K mg) (B : Bn mg) : Cal gg P w K mg base 1 "_law_put_form" ["form", "forms_so", "n"] fn__law_put_form := by
  have nd := sc__law_put_form.nd
  refine Cal.of (k := 0) T.d__law_put_form sc__law_put_form fun f cdv A outer s H E hr => ?_
  unfold m__law_put_form
  exact (rss_cons (rs_set (i := 3) nd rfl (by first | exact .inl rfl | exact .inr rfl) (re_bin op_addD (re_lst (ra_cons (re_sub hr (rv 0) re_int) ra_nil)) (re_bin op_mulG (re_lst (ra_cons re_int ra_nil)) (rv 2))) rfl (.inl rfl))
  (rss_cons (rs_for PassesOwn.never rfl (ri_zip rfl B.zip (ra_cons (re_slice (rv 0) (ro_some re_int) ro_none) (ra_cons (rv 1) ra_nil))) (rg_tup (n := 2) rfl (rgs_cons (rg_name (i := 4) nd rfl (by first | exact .inl rfl | exact .inr rfl) (.inl rfl)) (rgs_cons (rg_name (i := 5) nd rfl (by first | exact .inl rfl | exact .inr rfl) (.inl rfl)) rgs_nil))) (rss_cons (by first | exact (rs_setLc (i := 3) (own := [("a", 6), ("b", 7)]) rfl nd rfl rfl rfl (ri_zip rfl B.zip (ra_cons (rv 3) (ra_cons (rv 5) ra_nil))) (blkOk_by rfl) ⟨(gTup _ 2 (gCons (gName 6) (gCons (gName 7) gNil))), fun _ _ _ _ _ => (pg_tup (n := 2) rfl (pgs_cons (pg_name (i := 6) nd rfl (.inl rfl) (.inr rfl)) (pgs_cons (pg_name (i := 7) nd rfl (.inl rfl) (.inr rfl)) pgs_nil))), (relG_tup (relGs_cons (rel_gN 6) (relGs_cons (rel_gN 7) relGs_nil)))⟩ (by decide) (fun _ _ _ _ _ => rts_nil) (fun _ _ _ _ _ => (re_bin op_addD (rv 6) (re_bin op_mulG (rv 4) (rv 7))))) | exact (rs_set (i := 3) nd rfl (by first | exact .inl rfl | exact .inr rfl) (re_lc (own := [("a", 6), ("b", 7)]) rfl nd (ri_zip rfl B.zip (ra_cons (rv 3) (ra_cons (rv 5) ra_nil))) (blkOk_by rfl) ⟨(gTup _ 2 (gCons (gName 6) (gCons (gName 7) gNil))), fun _ _ _ _ _ => (pg_tup (n := 2) rfl (pgs_cons (pg_name (i := 6) nd rfl (.inl rfl) (.inr rfl)) (pgs_cons (pg_name (i := 7) nd rfl (.inl rfl) (.inr rfl)) pgs_nil))), (relG_tup (relGs_cons (rel_gN 6) (relGs_cons (rel_gN 7) relGs_nil)))⟩ (by decide) (fun _ _ _ _ _ => rts_nil) (fun _ _ _ _ _ => (re_bin op_addD (rv 6) (re_bin op_mulG (rv 4) (rv 7))))) rfl (.inl rfl)))
  rss_nil))
  (rss_cons (rs_ret (rb_tuple B rfl (ra_cons (rv 3) ra_nil)))
  rss_nil)))

/-! ### _law_put -/
abbrev n__law_put : List Str := ["formula", "forms_so", "n", "form", "wide", "one"]
theorem sc__law_put : FnScope n__law_put ["formula", "forms_so", "n"] (defScope (top 41)) := ⟨rfl, rfl, rfl, by decide +kernel, rfl, by decide +kernel, by decide +kernel⟩
noncomputable def m__law_put (self : OC) : MS := (sSeq (sIf (mVal (mBin (oEq false) (mBin oIx (mVar 0) (mC (.p (.int 0)))) (mC (.p (.str "row"))))) (sSeq (sRet (mTup (aCons (mC (.p (.str "row"))) (aCons (mCall fn__law_put_form (aCons (mBin oIx (mVar 0) (mC (.p (.int 1)))) (aCons (mVar 1) (aCons (mVar 2) aNil)))) aNil))))
  sNil) sNil)
  (sSeq (sIf (mVal (mBin (oEq false) (mBin oIx (mVar 0) (mC (.p (.int 0)))) (mC (.p (.str "divides"))))) (sSeq (sRet (mTup (aCons (mC (.p (.str "divides"))) (aCons (mBin oIx (mVar 0) (mC (.p (.int 1)))) (aCons (mCall fn__law_put_form (aCons (mBin oIx (mVar 0) (mC (.p (.int 2)))) (aCons (mVar 1) (aCons (mVar 2) aNil)))) aNil)))))
  sNil) sNil)
  (sSeq (sIf (mVal (mBin (oEq false) (mBin oIx (mVar 0) (mC (.p (.int 0)))) (mC (.p (.str "some"))))) (sSeq (sAsg (mBin oAdd (mLc [3] (iSeq (mVar 1)) (gN 3) tYes1 (mBin oAdd (mVar 3) (mTup (aCons (mC (.p (.int 0))) aNil)))) (mLst (aCons (mBin oAdd (mBin oMulG (mTup (aCons (mC (.p (.int 0))) aNil)) (mBin oAdd (mVar 2) (mC (.p (.int 1))))) (mTup (aCons (mC (.p (.int 1))) aNil))) aNil))) (gN 4))
  (sSeq (sRet (mTup (aCons (mC (.p (.str "some"))) (aCons (mCall self (aCons (mBin oIx (mVar 0) (mC (.p (.int 1)))) (aCons (mVar 4) (aCons (mBin oAdd (mVar 2) (mC (.p (.int 1)))) aNil)))) aNil))))
  sNil)) sNil)
  (sSeq (sRet (mBin oAdd (mSl (mVar 0) oNone (oSome (mC (.p (.int 1))))) (mCall oTuple (aCons (mLc [5] (iSeq (mSl (mVar 0) (oSome (mC (.p (.int 1)))) oNone)) (gN 5) tYes1 (mCall self (aCons (mVar 5) (aCons (mVar 1) (aCons (mVar 2) aNil))))) aNil))))
  sNil))))
noncomputable def fn__law_put : Nat → OC
  | 0 => oNo
  | n + 1 => fnM 6 3 (m__law_put (fn__law_put n))
theorem calr__law_put {gg : Bool} (T : Defs P K mg) (B : Bn mg) : ∀ n : Nat, Cal gg P w K mg base (1 + n) "_law_put" ["formula", "forms_so", "n"] (fn__law_put n)
  | 0 => Cal.no T.d__law_put
  | n + 1 => by
    have CS : Cal gg P w K mg base (1 + n) "_law_put" ["formula", "forms_so", "n"] (fn__law_put n) := calr__law_put T B n
    have nd := sc__law_put.nd
    refine Cal.of (k := 1 + n) T.d__law_put sc__law_put fun f cdv A outer s H E hr => ?_
    unfold m__law_put
    exact (rss_cons (rs_if (rt_eq hr (re_sub hr (rv 0) re_int) re_str) (rss_cons (rs_ret (re_tup (ra_cons re_str (ra_cons (rcal (cal__law_put_form T B) hr (by first | decide | omega) rfl (ra_cons (re_sub hr (rv 0) re_int) (ra_cons (rv 1) (ra_cons (rv 2) ra_nil)))) ra_nil))))
  rss_nil) rss_nil)
  (rss_cons (rs_if (rt_eq hr (re_sub hr (rv 0) re_int) re_str) (rss_cons (rs_ret (re_tup (ra_cons re_str (ra_cons (re_sub hr (rv 0) re_int) (ra_cons (rcal (cal__law_put_form T B) hr (by first | decide | omega) rfl (ra_cons (re_sub hr (rv 0) re_int) (ra_cons (rv 1) (ra_cons (rv 2) ra_nil)))) ra_nil)))))
  rss_nil) rss_nil)
  (rss_cons (rs_if (rt_eq hr (re_sub hr (rv 0) re_int) re_str) (rss_cons (rs_set (i := 4) nd rfl (by first | exact .inl rfl | exact .inr rfl) (re_bin op_addD (re_lc (own := [("form", 3)]) rfl nd (ri_seq (rv 1)) (blkOk_by rfl) ⟨(gName 3), fun _ _ _ _ _ => (pg_name (i := 3) nd rfl (.inl rfl) (.inr rfl)), (rel_gN 3)⟩ (by decide) (fun _ _ _ _ _ => rts_nil) (fun _ _ _ _ _ => (re_bin op_addD (rv 3) (re_tup (ra_cons re_int ra_nil))))) (re_lst (ra_cons (re_bin op_addD (re_bin op_mulG (re_tup (ra_cons re_int ra_nil)) (re_bin op_addD (rv 2) re_int)) (re_tup (ra_cons re_int ra_nil))) ra_nil))) rfl (.inl rfl))
  (rss_cons (rs_ret (re_tup (ra_cons re_str (ra_cons (rcal CS hr (by omega) rfl (ra_cons (re_sub hr (rv 0) re_int) (ra_cons (rv 4) (ra_cons (re_bin op_addD (rv 2) re_int) ra_nil)))) ra_nil))))
  rss_nil)) rss_nil)
  (rss_cons (rs_ret (re_bin op_addD (re_slice (rv 0) ro_none (ro_some re_int)) (rb_tuple B rfl (ra_cons (re_lc (own := [("one", 5)]) rfl nd (ri_seq (re_slice (rv 0) (ro_some re_int) ro_none)) (blkOk_by rfl) ⟨(gName 5), fun _ _ _ _ _ => (pg_name (i := 5) nd rfl (.inl rfl) (.inr rfl)), (rel_gN 5)⟩ (by decide) (fun _ _ _ _ _ => rts_nil) (fun _ _ _ _ _ => (rcal CS hr (by omega) rfl (ra_cons (rv 5) (ra_cons (rv 1) (ra_cons (rv 2) ra_nil)))))) ra_nil))))
  rss_nil))))
theorem cal__law_put {gg : Bool} (T : Defs P K mg) (B : Bn mg) : Cal gg P w K mg base 65 "_law_put" ["formula", "forms_so", "n"] (fn__law_put 64) := calr__law_put T B 64

/-! ### _law_written -/
abbrev n__law_written : List Str := ["rooms", "formula", "n", "k", "d", "inner", "more", "one"]
theorem sc__law_written : FnScope n__law_written ["rooms", "formula", "n"] (defScope (top 42)) := ⟨rfl, rfl, rfl, by decide +kernel, rfl, by decide +kernel, by decide +kernel⟩
noncomputable def m__law_written (self : OC) : MS := (sSeq (sIf (mVal (mBin (oIn false) (mBin oIx (mVar 1) (mC (.p (.int 0)))) (mLst (aCons (mC (.p (.str "row"))) (aCons (mC (.p (.str "divides"))) aNil))))) (sSeq (sRet (mVar 1))
  sNil) sNil)
  (sSeq (sIf (mVal (mBin (oEq false) (mBin oIx (mVar 1) (mC (.p (.int 0)))) (mC (.p (.str "named"))))) (sSeq (sAsg (mBin oIx (mVar 0) (mBin oIx (mVar 1) (mC (.p (.int 1))))) (gT 3 (gsCons (gN 3) (gsCons (gN 4) (gsCons (gN 5) gsNil)))))
  (sSeq (sRet (mCall (fn__law_put 64) (aCons (mCall self (aCons (mVar 0) (aCons (mVar 5) (aCons (mBin oAdd (mVar 3) (mVar 4)) aNil)))) (aCons (mCall oList (aCons (mBin oIx (mVar 1) (mC (.p (.int 2)))) aNil)) (aCons (mVar 2) aNil)))))
  sNil)) sNil)
  (sSeq (sAsg (mIf (mVal (mBin (oEq false) (mBin oIx (mVar 1) (mC (.p (.int 0)))) (mC (.p (.str "some"))))) (mC (.p (.int 1))) (mC (.p (.int 0)))) (gN 6))
  (sSeq (sRet (mBin oAdd (mSl (mVar 1) oNone (oSome (mC (.p (.int 1))))) (mCall oTuple (aCons (mLc [7] (iSeq (mSl (mVar 1) (oSome (mC (.p (.int 1)))) oNone)) (gN 7) tYes1 (mCall self (aCons (mVar 0) (aCons (mVar 7) (aCons (mBin oAdd (mVar 2) (mVar 6)) aNil))))) aNil))))
  sNil))))
noncomputable def fn__law_written : Nat → OC
  | 0 => oNo
  | n + 1 => fnM 8 3 (m__law_written (fn__law_written n))
theorem calr__law_written {gg : Bool} (T : Defs P K mg) (B : Bn mg) : ∀ n : Nat, Cal gg P w K mg base (65 + n) "_law_written" ["rooms", "formula", "n"] (fn__law_written n)
  | 0 => Cal.no T.d__law_written
  | n + 1 => by
    have CS : Cal gg P w K mg base (65 + n) "_law_written" ["rooms", "formula", "n"] (fn__law_written n) := calr__law_written T B n
    have nd := sc__law_written.nd
    refine Cal.of (k := 65 + n) T.d__law_written sc__law_written fun f cdv A outer s H E hr => ?_
    unfold m__law_written
    exact (rss_cons (rs_if (rt_in hr (re_sub hr (rv 1) re_int) (re_lst (ra_cons re_str (ra_cons re_str ra_nil)))) (rss_cons (rs_ret (rv 1))
  rss_nil) rss_nil)
  (rss_cons (rs_if (rt_eq hr (re_sub hr (rv 1) re_int) re_str) (rss_cons (rs_asg (re_sub hr (rv 0) (re_sub hr (rv 1) re_int)) (rg_tup (n := 3) rfl (rgs_cons (rg_name (i := 3) nd rfl (by first | exact .inl rfl | exact .inr rfl) (.inl rfl)) (rgs_cons (rg_name (i := 4) nd rfl (by first | exact .inl rfl | exact .inr rfl) (.inl rfl)) (rgs_cons (rg_name (i := 5) nd rfl (by first | exact .inl rfl | exact .inr rfl) (.inl rfl)) rgs_nil)))))
  (rss_cons (rs_ret (rcal (cal__law_put T B) hr (by first | decide | omega) rfl (ra_cons (rcal CS hr (by omega) rfl (ra_cons (rv 0) (ra_cons (rv 5) (ra_cons (re_bin op_addD (rv 3) (rv 4)) ra_nil)))) (ra_cons (rb_list B rfl (ra_cons (re_sub hr (rv 1) re_int) ra_nil)) (ra_cons (rv 2) ra_nil)))))
  rss_nil)) rss_nil)
  (rss_cons (rs_set (i := 6) nd rfl (by first | exact .inl rfl | exact .inr rfl) (re_if (rt_eq hr (re_sub hr (rv 1) re_int) re_str) re_int re_int) rfl (.inl rfl))
  (rss_cons (rs_ret (re_bin op_addD (re_slice (rv 1) ro_none (ro_some re_int)) (rb_tuple B rfl (ra_cons (re_lc (own := [("one", 7)]) rfl nd (ri_seq (re_slice (rv 1) (ro_some re_int) ro_none)) (blkOk_by rfl) ⟨(gName 7), fun _ _ _ _ _ => (pg_name (i := 7) nd rfl (.inl rfl) (.inr rfl)), (rel_gN 7)⟩ (by decide) (fun _ _ _ _ _ => rts_nil) (fun _ _ _ _ _ => (rcal CS hr (by omega) rfl (ra_cons (rv 0) (ra_cons (rv 7) (ra_cons (re_bin op_addD (rv 2) (rv 6)) ra_nil)))))) ra_nil))))
  rss_nil))))
theorem cal__law_written {gg : Bool} (T : Defs P K mg) (B : Bn mg) : Cal gg P w K mg base 129 "_law_written" ["rooms", "formula", "n"] (fn__law_written 64) := calr__law_written T B 64

end
end Pt
set_option maxRecDepth 100000
set_option maxHeartbeats 4000000
/-! G1 (printed by wip/gen): each def's body as a plain function, and its walk. -/
namespace Pt
open PySem PySem.Spec PyProof.Rows L2

section
variable {P : Program} {w : World} {K : PySem.W.Frag} {mg : Str → Option Value} {base : Heap}
/-! ### rooms_with -/
abbrev n_rooms_with : List Str := ["book", "name", "one", "room", "rooms"]
theorem sc_rooms_with : FnScope n_rooms_with ["book", "name"] (defScope (top 17)) := ⟨rfl, rfl, rfl, by decide +kernel, rfl, by decide +kernel, by decide +kernel⟩
noncomputable def m_rooms_with : MSX := (sxSeq (sxOf (sAsg (mDc [2, 3] (iSeq (mVar 0)) (gT 2 (gsCons (gN 2) (gsCons (gN 3) gsNil))) tYes1 (mVar 2) (mVar 3)) (gN 4)))
  (sxSeq (sxIf (mOr (mNot (mVal (mCall fn_is_name (aCons (mVar 1) aNil)))) (mVal (mBin (oIn true) (mVar 1) (mVar 4)))) (sxSeq (sxRaise1 cNotNamed "name" (mVar 1))
  (sxOf sNil)) (sxOf sNil))
  (sxOf (sSeq (sRet (mVar 4))
  sNil))))
noncomputable def fx_rooms_with : OCX := fnX 5 2 m_rooms_with
noncomputable def fn_rooms_with : OC := okOf fx_rooms_with
theorem calx_rooms_with {gg : Bool} (T : Defs P K mg) (B : Bn mg) : CalX gg P w K mg base 2 "rooms_with" ["book", "name"] fx_rooms_with := by
  have nd := sc_rooms_with.nd
  refine CalX.of (k := 1) T.d_rooms_with sc_rooms_with fun f cdv A outer s H E hr => ?_
  unfold m_rooms_with
  exact (rssX_cons (rsX_of (by first | exact (rs_setDc (i := 4) (own := [("one", 2), ("room", 3)]) rfl nd rfl rfl rfl (ri_seq (rv 0)) (blkOk_by rfl) ⟨(gTup _ 2 (gCons (gName 2) (gCons (gName 3) gNil))), fun _ _ _ _ _ => (pg_tup (n := 2) rfl (pgs_cons (pg_name (i := 2) nd rfl (.inl rfl) (.inr rfl)) (pgs_cons (pg_name (i := 3) nd rfl (.inl rfl) (.inr rfl)) pgs_nil))), (relG_tup (relGs_cons (rel_gN 2) (relGs_cons (rel_gN 3) relGs_nil)))⟩ (by decide) (fun _ _ _ _ _ => rts_nil) (fun _ _ _ _ _ => (rv 2)) (fun _ _ _ _ _ => (rv 3))) | exact (rs_set (i := 4) nd rfl (by first | exact .inl rfl | exact .inr rfl) (re_dc (own := [("one", 2), ("room", 3)]) rfl nd (ri_seq (rv 0)) (blkOk_by rfl) ⟨(gTup _ 2 (gCons (gName 2) (gCons (gName 3) gNil))), fun _ _ _ _ _ => (pg_tup (n := 2) rfl (pgs_cons (pg_name (i := 2) nd rfl (.inl rfl) (.inr rfl)) (pgs_cons (pg_name (i := 3) nd rfl (.inl rfl) (.inr rfl)) pgs_nil))), (relG_tup (relGs_cons (rel_gN 2) (relGs_cons (rel_gN 3) relGs_nil)))⟩ (by decide) (fun _ _ _ _ _ => rts_nil) (fun _ _ _ _ _ => (rv 2)) (fun _ _ _ _ _ => (rv 3))) rfl (.inl rfl))))
  (rssX_cons (rsX_if (PW.pt (rw_or (rt_not (rt_val (rcal (cal_is_name T B) hr (by first | decide | omega) rfl (ra_cons (rv 1) ra_nil)))) (rw_or1 (rt_notIn hr (rv 1) (rv 4))))) (rssX_cons (rsX_raise_name (k := 0) rfl T.s_NotNamed T.f_NotNamed T.n_NotNamed (hr.mono (by decide)) (takes_of rfl rfl rfl rfl) (rv 1) rfl)
  (rssX_of rss_nil)) (rssX_of rss_nil))
  (rssX_of (rss_cons (rs_ret (rv 4))
  rss_nil))))
theorem cal_rooms_with {gg : Bool} (T : Defs P K mg) (B : Bn mg) : Cal gg P w K mg base 2 "rooms_with" ["book", "name"] fn_rooms_with := Cal.ofX (calx_rooms_with T B)

/-! ### hangs_on -/
abbrev n_hangs_on : List Str := ["book", "name"]
theorem sc_hangs_on : FnScope n_hangs_on ["book", "name"] (defScope (top 18)) := ⟨rfl, rfl, rfl, by decide +kernel, rfl, by decide +kernel, by decide +kernel⟩
noncomputable def m_hangs_on : MSX := (sxSeq (sxRet (xCallN fn_hung (xaCons (xCall fx_rooms_with (aCons (mVar 0) (aCons (mVar 1) aNil))) (aCons (mVar 1) aNil))))
  (sxOf sNil))
noncomputable def fx_hangs_on : OCX := fnX 2 2 m_hangs_on
noncomputable def fn_hangs_on : OC := okOf fx_hangs_on
theorem calx_hangs_on {gg : Bool} (T : Defs P K mg) (B : Bn mg) : CalX gg P w K mg base 66 "hangs_on" ["book", "name"] fx_hangs_on := by
  have nd := sc_hangs_on.nd
  refine CalX.of (k := 65) T.d_hangs_on sc_hangs_on fun f cdv A outer s H E hr => ?_
  unfold m_hangs_on
  exact (rssX_cons (rsX_ret (rcalN (cal_hung T B) hr (by first | decide | omega) rfl (raX_cons (rcalX (calx_rooms_with T B) hr (by first | decide | omega) (takes_of rfl rfl rfl rfl) rfl (ra_cons (rv 0) (ra_cons (rv 1) ra_nil))) (ra_cons (rv 1) ra_nil))))
  (rssX_of rss_nil))
theorem cal_hangs_on {gg : Bool} (T : Defs P K mg) (B : Bn mg) : Cal gg P w K mg base 66 "hangs_on" ["book", "name"] fn_hangs_on := Cal.ofX (calx_hangs_on T B)

/-! ### written_out -/
abbrev n_written_out : List Str := ["book", "name", "rooms", "k", "d", "formula"]
theorem sc_written_out : FnScope n_written_out ["book", "name"] (defScope (top 20)) := ⟨rfl, rfl, rfl, by decide +kernel, rfl, by decide +kernel, by decide +kernel⟩
noncomputable def m_written_out : MSX := (sxSeq (sxSet (xCall fx_rooms_with (aCons (mVar 0) (aCons (mVar 1) aNil))) (gN 2))
  (sxOf (sSeq (sAsg (mBin oIx (mVar 2) (mVar 1)) (gT 3 (gsCons (gN 3) (gsCons (gN 4) (gsCons (gN 5) gsNil)))))
  (sSeq (sRet (mTup (aCons (mVar 3) (aCons (mVar 4) (aCons (mCall (fn_written 64) (aCons (mVar 2) (aCons (mVar 5) (aCons (mBin oAdd (mVar 3) (mVar 4)) aNil)))) aNil)))))
  sNil))))
noncomputable def fx_written_out : OCX := fnX 6 2 m_written_out
noncomputable def fn_written_out : OC := okOf fx_written_out
theorem calx_written_out {gg : Bool} (T : Defs P K mg) (B : Bn mg) : CalX gg P w K mg base 131 "written_out" ["book", "name"] fx_written_out := by
  have nd := sc_written_out.nd
  refine CalX.of (k := 130) T.d_written_out sc_written_out fun f cdv A outer s H E hr => ?_
  unfold m_written_out
  exact (rssX_cons (rsX_set (i := 2) nd rfl (by first | exact .inl rfl | exact .inr rfl) (rcalX (calx_rooms_with T B) hr (by first | decide | omega) (takes_of rfl rfl rfl rfl) rfl (ra_cons (rv 0) (ra_cons (rv 1) ra_nil))) rfl (.inl rfl))
  (rssX_of (rss_cons (rs_asg (re_sub hr (rv 2) (rv 1)) (rg_tup (n := 3) rfl (rgs_cons (rg_name (i := 3) nd rfl (by first | exact .inl rfl | exact .inr rfl) (.inl rfl)) (rgs_cons (rg_name (i := 4) nd rfl (by first | exact .inl rfl | exact .inr rfl) (.inl rfl)) (rgs_cons (rg_name (i := 5) nd rfl (by first | exact .inl rfl | exact .inr rfl) (.inl rfl)) rgs_nil)))))
  (rss_cons (rs_ret (re_tup (ra_cons (rv 3) (ra_cons (rv 4) (ra_cons (rcal (cal_written T B) hr (by first | decide | omega) rfl (ra_cons (rv 2) (ra_cons (rv 5) (ra_cons (re_bin op_addD (rv 3) (rv 4)) ra_nil)))) ra_nil)))))
  rss_nil))))
theorem cal_written_out {gg : Bool} (T : Defs P K mg) (B : Bn mg) : Cal gg P w K mg base 131 "written_out" ["book", "name"] fn_written_out := Cal.ofX (calx_written_out T B)

/-! ### _law_unnamed -/
abbrev n__law_unnamed : List Str := ["book", "name", "first", "told"]
theorem sc__law_unnamed : FnScope n__law_unnamed ["book", "name"] (defScope (top 43)) := ⟨rfl, rfl, rfl, by decide +kernel, rfl, by decide +kernel, by decide +kernel⟩
noncomputable def m__law_unnamed : MS := (sSeq (sAsg (mRef [cNotNamed] (xCall fx_written_out (aCons (mVar 0) (aCons (mVar 1) aNil)))) (gN 2))
  (sSeq (sFor (iSeq (mLst (aCons (mVar 2) (aCons (mRef [cNotNamed] (xCall fx_hangs_on (aCons (mVar 0) (aCons (mVar 1) aNil)))) aNil)))) (gN 3) (sSeq (sIf (mOr (mVal (mCall (oIsiA kitT) (aCons (mVar 3) (aCons (mC (.v (.ty "list"))) aNil)))) (mOr (mNot (mVal (mCall (oIsiA kitT) (aCons (mVar 3) (aCons (mC (.v (.ref cNotNamed))) aNil))))) (mVal (mCall (oIsiA kitT) (aCons (mVar 3) (aCons (mC (.v (.ref cNotBook))) aNil)))))) (sSeq (sRet (mC (.p (.bl false))))
  sNil) sNil)
  (sSeq (sIf (mNot (mVal (mCall fn__law_like (aCons (mXf [cNotNamed] "name" (mVar 3)) (aCons (mVar 1) aNil))))) (sSeq (sRet (mC (.p (.bl false))))
  sNil) sNil)
  sNil)))
  (sSeq (sRet (mC (.p (.bl true))))
  sNil)))
noncomputable def fn__law_unnamed : OC := fnM 4 2 m__law_unnamed
theorem cal__law_unnamed (T : Defs P K mg) (B : Bn mg) (TB : LamX.TabB base mg cUn pUn) (hU : ∀ f cdv, mg "_law_unnamed" = some (.ref f) → CodeAt K f "_law_unnamed" "_law_unnamed" (top 43) cdv → cdv = .ref cUn) : Cal true P w K mg base 135 "_law_unnamed" ["book", "name"] fn__law_unnamed := by
  have nd := sc__law_unnamed.nd
  refine Cal.ofC (k := 134) T.d__law_unnamed sc__law_unnamed fun f cdv A outer s H E hmf hca hr => ?_
  have hcode := hU f cdv hmf hca
  unfold m__law_unnamed
  exact (rss_cons (rs_set (i := 2) nd rfl (by first | exact .inl rfl | exact .inr rfl) (rref (Cs := [cNotNamed]) (k := 131) T.r_refused T.g_TallyError T.r_exm rfl TB hcode (List.mem_singleton.mpr rfl) (fun p hp _ => by rw [List.mem_singleton.mp hp]; rfl) hr (by first | decide | omega) (LamX.lamS_by rfl) rfl (fun _ _ _ _ _ => rfl) (fun A outer s H E f c' hr => (rcalX (calx_written_out T B) hr (by first | decide | omega) (takes_of rfl rfl rfl rfl) rfl (ra_cons (rv 0) (ra_cons (rv 1) ra_nil))))) rfl (.inl rfl))
  (rss_cons (rs_for PassesOwn.never rfl (ri_seq (re_lst (ra_cons (rv 2) (ra_cons (rref (Cs := [cNotNamed]) (k := 131) T.r_refused T.g_TallyError T.r_exm rfl TB hcode (List.mem_singleton.mpr rfl) (fun p hp _ => by rw [List.mem_singleton.mp hp]; rfl) hr (by first | decide | omega) (LamX.lamS_by rfl) rfl (fun _ _ _ _ _ => rfl) (fun A outer s H E f c' hr => (rcalX (calx_hangs_on T B) hr (by first | decide | omega) (takes_of rfl rfl rfl rfl) rfl (ra_cons (rv 0) (ra_cons (rv 1) ra_nil))))) ra_nil)))) (rg_name (i := 3) nd rfl (by first | exact .inl rfl | exact .inr rfl) (.inl rfl)) (rss_cons (rs_if (PW.pt (rw_or (rt_val (rb_isinstanceA T.kit B rfl (ra_cons (rv 3) (ra_cons (rt_list B rfl) ra_nil)))) (rw_or (rt_not (rt_val (rb_isinstanceA T.kit B rfl (ra_cons (rv 3) (ra_cons (re_glob (v := .ref cNotNamed) rfl T.g_NotNamed rfl (fun _ _ _ => rfl)) ra_nil))))) (rw_or1 (rt_val (rb_isinstanceA T.kit B rfl (ra_cons (rv 3) (ra_cons (re_glob (v := .ref cNotBook) rfl T.g_NotBook rfl (fun _ _ _ => rfl)) ra_nil)))))))) (rss_cons (rs_ret re_bl)
  rss_nil) rss_nil)
  (rss_cons (rs_if (rt_not (rt_val (rcal (cal__law_like T B) hr (by first | decide | omega) rfl (ra_cons (re_xf T.xf (rv 3)) (ra_cons (rv 1) ra_nil))))) (rss_cons (rs_ret re_bl)
  rss_nil) rss_nil)
  rss_nil)))
  (rss_cons (rs_ret re_bl)
  rss_nil)))

/-! ### _law_right -/
abbrev n__law_right : List Str := ["book", "rooms", "name", "k", "d", "formula", "due"]
theorem sc__law_right : FnScope n__law_right ["book"] (defScope (top 44)) := ⟨rfl, rfl, rfl, by decide +kernel, rfl, by decide +kernel, by decide +kernel⟩
noncomputable def m__law_right : MS := (sSeq (sAsg (mCall oDictP (aCons (mVar 0) aNil)) (gN 1))
  (sSeq (sFor (iSeq (mVar 0)) (gT 2 (gsCons (gN 2) (gsCons (gT 3 (gsCons (gN 3) (gsCons (gN 4) (gsCons (gN 5) gsNil)))) gsNil))) (sSeq (sAsg (mTup (aCons (mVar 3) (aCons (mVar 4) (aCons (mCall (fn__law_written 64) (aCons (mVar 1) (aCons (mVar 5) (aCons (mBin oAdd (mVar 3) (mVar 4)) aNil)))) aNil)))) (gN 6))
  (sSeq (sIf (mNot (mVal (mCall fn__law_like (aCons (mLst (aCons (mCall fn_written_out (aCons (mVar 0) (aCons (mVar 2) aNil))) (aCons (mCall fn_hangs_on (aCons (mVar 0) (aCons (mVar 2) aNil))) aNil))) (aCons (mLst (aCons (mVar 6) (aCons (mCall oTuple (aCons (mCall fn__law_hangs (aCons (mVar 1) (aCons (mVar 2) aNil))) aNil)) aNil))) aNil))))) (sSeq (sRet (mC (.p (.bl false))))
  sNil) sNil)
  (sSeq (sIf (mVal (mBin (oEq true) (mCall (fn__law_used 64) (aCons (mBin oIx (mVar 6) (mC (.p (.int 2)))) aNil)) (mLst aNil))) (sSeq (sRet (mC (.p (.bl false))))
  sNil) sNil)
  sNil))))
  (sSeq (sRet (mC (.p (.bl true))))
  sNil)))
noncomputable def fn__law_right : OC := fnM 7 1 m__law_right
theorem cal__law_right (T : Defs P K mg) (B : Bn mg) : Cal true P w K mg base 132 "_law_right" ["book"] fn__law_right := by
  have nd := sc__law_right.nd
  refine Cal.of (k := 131) T.d__law_right sc__law_right fun f cdv A outer s H E hr => ?_
  unfold m__law_right
  exact (rss_cons (rs_set (i := 1) nd rfl (by first | exact .inl rfl | exact .inr rfl) (rb_dict rfl B rfl (ra_cons (rv 0) ra_nil)) rfl (.inl rfl))
  (rss_cons (rs_for PassesOwn.never rfl (ri_seq (rv 0)) (rg_tup (n := 2) rfl (rgs_cons (rg_name (i := 2) nd rfl (by first | exact .inl rfl | exact .inr rfl) (.inl rfl)) (rgs_cons (rg_tup (n := 3) rfl (rgs_cons (rg_name (i := 3) nd rfl (by first | exact .inl rfl | exact .inr rfl) (.inl rfl)) (rgs_cons (rg_name (i := 4) nd rfl (by first | exact .inl rfl | exact .inr rfl) (.inl rfl)) (rgs_cons (rg_name (i := 5) nd rfl (by first | exact .inl rfl | exact .inr rfl) (.inl rfl)) rgs_nil)))) rgs_nil))) (rss_cons (rs_set (i := 6) nd rfl (by first | exact .inl rfl | exact .inr rfl) (re_tup (ra_cons (rv 3) (ra_cons (rv 4) (ra_cons (rcal (cal__law_written T B) hr (by first | decide | omega) rfl (ra_cons (rv 1) (ra_cons (rv 5) (ra_cons (re_bin op_addD (rv 3) (rv 4)) ra_nil)))) ra_nil)))) rfl (.inl rfl))
  (rss_cons (rs_if (rt_not (rt_val (rcal (cal__law_like T B) hr (by first | decide | omega) rfl (ra_cons (re_lst (ra_cons (rcal (cal_written_out T B) hr (by first | decide | omega) rfl (ra_cons (rv 0) (ra_cons (rv 2) ra_nil))) (ra_cons (rcal (cal_hangs_on T B) hr (by first | decide | omega) rfl (ra_cons (rv 0) (ra_cons (rv 2) ra_nil))) ra_nil))) (ra_cons (re_lst (ra_cons (rv 6) (ra_cons (rb_tuple B rfl (ra_cons (rcal (cal__law_hangs T B) hr (by first | decide | omega) rfl (ra_cons (rv 1) (ra_cons (rv 2) ra_nil))) ra_nil)) ra_nil))) ra_nil))))) (rss_cons (rs_ret re_bl)
  rss_nil) rss_nil)
  (rss_cons (rs_if (rt_ne hr (rcal (cal__law_used T B) hr (by first | decide | omega) rfl (ra_cons (re_sub hr (rv 6) re_int) ra_nil)) (re_lst ra_nil)) (rss_cons (rs_ret re_bl)
  rss_nil) rss_nil)
  rss_nil))))
  (rss_cons (rs_ret re_bl)
  rss_nil)))

/-! ### law -/
abbrev n_law : List Str := ["script", "turn", "m", "book", "step", "name"]
theorem sc_law : FnScope n_law ["script"] (defScope (top 45)) := ⟨rfl, rfl, rfl, by decide +kernel, rfl, by decide +kernel, by decide +kernel⟩
noncomputable def m_law : MS := (sSeq (sFor (iRange1 (aCons (mCall oMax2 (aCons (mC (.p (.int 4))) (aCons (mCall oMin2 (aCons (mCall oLen (aCons (mVar 0) aNil)) (aCons (mC (.p (.int 7))) aNil))) aNil))) aNil)) (gN 1) (sSeq (sAsg (mCall fn__law_begun (aCons (mVar 0) (aCons (mVar 1) aNil))) (gN 2))
  (sSeq (sAsg (mCall fn__law_book (aCons (mVar 2) (aCons (mCall fn__law_draw (aCons (mVar 2) (aCons (mC (.p (.int 14))) aNil))) aNil))) (gN 3))
  (sSeq (sFor (iRange1 (aCons (mC (.p (.int 8))) aNil)) (gN 4) (sSeq (sIf (mVal (mBin (oIs true) (mCall fn__law_breach (aCons (mVar 3) aNil)) (mC (.p .non)))) (sSeq (sAsg (mCall fn__law_book (aCons (mVar 2) (aCons (mBin oSub (mC (.p (.int 6))) (mBin oFdiv (mVar 4) (mC (.p (.int 2))))) aNil))) (gN 3))
  sNil) sNil)
  sNil))
  (sSeq (sIf (mVal (mBin (oIs true) (mCall fn__law_breach (aCons (mVar 3) aNil)) (mC (.p .non)))) (sSeq (sAsg (mTup aNil) (gN 3))
  sNil) sNil)
  (sSeq (sIf (mNot (mVal (mCall fn__law_right (aCons (mVar 3) aNil)))) (sSeq (sRet (mC (.p (.bl false))))
  sNil) sNil)
  (sSeq (sFor (iSeq (mLst (aCons (mC (.p (.str "q"))) (aCons (mC (.p (.str ""))) (aCons (mC (.p (.str "A"))) (aCons (mC (.p (.int 7))) (aCons (mC (.p .non)) (aCons (mTup aNil) (aCons (mC (.p (.bl true))) (aCons (mC (.p (.str "aa"))) (aCons (mLst aNil) (aCons (mC (.p (.dct []))) (aCons (mTup (aCons (mLst aNil) aNil)) (aCons (mLst (aCons (mC (.p (.str "a"))) aNil)) aNil)))))))))))))) (gN 5) (sSeq (sIf (mNot (mVal (mCall fn__law_unnamed (aCons (mVar 3) (aCons (mVar 5) aNil))))) (sSeq (sRet (mC (.p (.bl false))))
  sNil) sNil)
  sNil))
  sNil)))))))
  (sSeq (sRet (mC (.p (.bl true))))
  sNil))
noncomputable def fn_law : OC := fnM 6 1 m_law
theorem cal_law (T : Defs P K mg) (B : Bn mg) (TB : LamX.TabB base mg cUn pUn) (hU : ∀ f cdv, mg "_law_unnamed" = some (.ref f) → CodeAt K f "_law_unnamed" "_law_unnamed" (top 43) cdv → cdv = .ref cUn) : Cal true P w K mg base 136 "law" ["script"] fn_law := by
  have nd := sc_law.nd
  refine Cal.of (k := 135) T.d_law sc_law fun f cdv A outer s H E hr => ?_
  unfold m_law
  exact (rss_cons (rs_for PassesOwn.never rfl (ri_range1 rfl B.range (ra_cons (rb_max rfl B rfl (ra_cons re_int (ra_cons (rb_min rfl B rfl (ra_cons (rb_len B rfl (ra_cons (rv 0) ra_nil)) (ra_cons re_int ra_nil))) ra_nil))) ra_nil)) (rg_name (i := 1) nd rfl (by first | exact .inl rfl | exact .inr rfl) (.inl rfl)) (rss_cons (rs_set (i := 2) nd rfl (by first | exact .inl rfl | exact .inr rfl) (rcal (cal__law_begun T B) hr (by first | decide | omega) rfl (ra_cons (rv 0) (ra_cons (rv 1) ra_nil))) rfl (.inl rfl))
  (rss_cons (rs_set (i := 3) nd rfl (by first | exact .inl rfl | exact .inr rfl) (rcal (cal__law_book T B) hr (by first | decide | omega) rfl (ra_cons (rv 2) (ra_cons (rcal (cal__law_draw T B) hr (by first | decide | omega) rfl (ra_cons (rv 2) (ra_cons re_int ra_nil))) ra_nil))) rfl (.inl rfl))
  (rss_cons (rs_for PassesOwn.never rfl (ri_range1 rfl B.range (ra_cons re_int ra_nil)) (rg_name (i := 4) nd rfl (by first | exact .inl rfl | exact .inr rfl) (.inl rfl)) (rss_cons (rs_if (rt_cmp op_isNotD (rcal (cal__law_breach T B) hr (by first | decide | omega) rfl (ra_cons (rv 3) ra_nil)) re_non) (rss_cons (rs_set (i := 3) nd rfl (by first | exact .inl rfl | exact .inr rfl) (rcal (cal__law_book T B) hr (by first | decide | omega) rfl (ra_cons (rv 2) (ra_cons (re_bin op_subD re_int (re_bin op_fdivD (rv 4) re_int)) ra_nil))) rfl (.inl rfl))
  rss_nil) rss_nil)
  rss_nil))
  (rss_cons (rs_if (rt_cmp op_isNotD (rcal (cal__law_breach T B) hr (by first | decide | omega) rfl (ra_cons (rv 3) ra_nil)) re_non) (rss_cons (rs_set (i := 3) nd rfl (by first | exact .inl rfl | exact .inr rfl) (re_tup ra_nil) rfl (.inl rfl))
  rss_nil) rss_nil)
  (rss_cons (rs_if (rt_not (rt_val (rcal (cal__law_right T B) hr (by first | decide | omega) rfl (ra_cons (rv 3) ra_nil)))) (rss_cons (rs_ret re_bl)
  rss_nil) rss_nil)
  (rss_cons (rs_for PassesOwn.never rfl (ri_seq (re_lst (ra_cons re_str (ra_cons re_str (ra_cons re_str (ra_cons re_int (ra_cons re_non (ra_cons (re_tup ra_nil) (ra_cons re_bl (ra_cons re_str (ra_cons (re_lst ra_nil) (ra_cons re_dnewP (ra_cons (re_tup (ra_cons (re_lst ra_nil) ra_nil)) (ra_cons (re_lst (ra_cons re_str ra_nil)) ra_nil)))))))))))))) (rg_name (i := 5) nd rfl (by first | exact .inl rfl | exact .inr rfl) (.inl rfl)) (rss_cons (rs_if (rt_not (rt_val (rcal (cal__law_unnamed T B TB hU) hr (by first | decide | omega) rfl (ra_cons (rv 3) (ra_cons (rv 5) ra_nil))))) (rss_cons (rs_ret re_bl)
  rss_nil) rss_nil)
  rss_nil))
  rss_nil)))))))
  (rss_cons (rs_ret re_bl)
  rss_nil))

end
end Pt
set_option maxRecDepth 100000
set_option maxHeartbeats 2000000
/-! Pt22: the end of the row: the law's def called with a script, from the head's heap, one table of code objects told. -/
namespace Pt
open PySem PySem.Spec PyProof.Rows L2
open LamX
abbrev tab0 : Obj := { cls := .none, data := .fields #[] }
/-- the heap at the call: nothing is told of but the script (perhaps) and the table -/
structure EndH (P : Program) (w : World) (K : PySem.W.Frag) (H : Hp) (h : Heap) (a : Addr) (ns : List Int) : Prop where
  tb : H pUn = some (.tbl #[])
  all : ∀ b, H b = none ∨ b = pUn ∨ (b = a ∧ ∃ o xs, H b = some (.frz o (.lst xs)))
  sq : SqL K H a (ns.map V.int)
  ok : HOk P w H h
  ka : H a ≠ none → K.lookup a = none
section
variable {P : Program} {w : World} {K : PySem.W.Frag} {mg mb : Str → Option Value} {k : Nat} {fa a : Addr} {x : Str} {o : OC} {st : Shared} {vs : List Value} {ns : List Int} {S' : List Cell}
theorem end_core {H : Hp} (KX : K.In st.heap) (hg1 : st.heap.Ns mainGlobals mg) (hb1 : st.heap.Ns builtinsNs mb) (hb2 : ∀ x : Str, x ≠ "__name__" → mb x = bootBuiltins x) (lim : st.heap.NoLimit) (gen : st.gens = #[])
    (hT : st.heap.get? pUn = some tab0) (nT : K.lookup pUn = none) (C : PySem.W.CodeHd st.heap cUn pUn)
    (hbm : ∃ (bm : Addr) (ob : Obj), mg "__builtins__" = some (.ref bm) ∧ bm ≠ builtinsNs ∧ st.heap.get? bm = some ob ∧ ob.cls = .type "module" ∧ ob.dict = some builtinsNs ∧ ob.data = .plain)
    (ha : st.heap.get? a = some { cls := .type "list", data := .seq vs.toArray }) (hl : ns.length ≤ sizeLine) (hr : RoomG true k callerA) (hfa : mg x = some (.ref fa))
    (F : ∀ base : Heap, K.In base → base.Ns mainGlobals mg → TabB base mg cUn pUn → Cal true P w K mg base k x ["script"] o) (hsp : o [.p (.scr ns)] [] = some (.p (.bl true), S')) (E : EndH P w K H st.heap a ns) :
    codeAny (model P w) callerA (.call (.ref fa) ⟨[.ref a], []⟩) (fun r s' => r = .ok (.ret (.bool true)) ∧ OldK st.heap s'.heap ∧ s'.os = st.os ∧ AllBare s'.gens) st := by
  have low : ∀ {b : Addr} {ob : Obj}, st.heap.get? b = some ob → H b = none → (hidT st.heap H).get? b = some ob := fun e n => hidT_get e n
  have only : ∀ {b : Addr} {ob : Obj}, st.heap.get? b = some ob → (∀ vs n, ob.data ≠ .seq vs n) → ob.data ≠ .fields #[] → H b = none := fun {b ob} e h1 h2 => by
    rcases E.all b with z | z | ⟨z, _⟩
    · exact z
    · rw [z, hT] at e
      cases e
      exact (h2 rfl).elim
    · rw [z, ha] at e
      cases e
      exact (h1 _ _ rfl).elim
  have dicts : ∀ {b : Addr} {ob : Obj} {es : Array DictEntry} {ep : Nat}, st.heap.get? b = some ob → ob.data = .dict es ep → H b = none := fun e d =>
    only e (fun vs n z => by rw [d] at z; cases z) (fun z => by rw [d] at z; cases z)
  have nss : ∀ {b : Addr} {m : Str → Option Value}, st.heap.Ns b m → (hidT st.heap H).Ns b m := fun ⟨ob, es, ep, e, d, r⟩ => ⟨ob, es, ep, low e (dicts e d), d, r⟩
  have KB : K.In (hidT st.heap H) := fun b ob e => low (KX b ob e) (by
    rcases E.all b with z | z | ⟨z, u, xs, q⟩
    · exact z
    · rw [z, nT] at e
      cases e
    · have n := E.ka (by rw [← z, q]; simp)
      rw [← z, e] at n
      cases n)
  have md : L2.Mod K mg (hidT st.heap H) := ⟨KB, nss hg1, ⟨mb, nss hb1, hb2⟩, let ⟨mc, h1, h2⟩ := lim; ⟨mc, nss h1, h2⟩⟩
  have TB : TabB (hidT st.heap H) mg cUn pUn := by
    refine ⟨?_, ?_, fun z => ?_⟩
    · obtain ⟨ob, us, file, tf, flags, tg, inF, text, tt, e1, r1, r2, r3, r4, r5, r6, r7, r8, hne⟩ := id C
      refine ⟨ob, us, file, tf, flags, tg, inF, text, tt, low e1 (only e1 (fun vs n z => ?_) fun z => ?_), r1, r2, r3, r4, r5, r6, r7, r8, hne⟩
      · rw [r2] at z; cases z
      · rw [r2] at z
        cases z
        simp at r3
    · obtain ⟨bm, ob, b1, b2, b3, b4, b5, b6⟩ := hbm
      have n1 : bm ≠ mainGlobals := fun q => by
        obtain ⟨og, es, ep, e, hd, _⟩ := id hg1
        rw [q, e] at b3
        cases b3
        rw [hd] at b6
        cases b6
      have n2 : bm ≠ pUn := fun q => by
        rw [q, hT] at b3
        cases b3
        cases b6
      exact ⟨bm, ob, b1, b2, n1, n2, low b3 (only b3 (fun vs n z => by rw [b6] at z; cases z) (fun z => by rw [b6] at z; cases z)), b4, b5, b6⟩
    · obtain ⟨og, es, ep, e, hd, _⟩ := id hg1
      rw [z, hT] at e
      cases e
      cases hd
  obtain ⟨f, fd, h1, h2, h3, h4⟩ := (F _ KB (nss hg1) TB).ex
  rw [hfa] at h1
  cases h1
  have env : Env0 P w K mg (hidT st.heap H) callerA [] st H := ⟨rfl, md, fun b ob e => of_hidT e, Nat.le_of_eq (hidT_size _ _), trivial, fun b hb => absurd (show b ∈ ([] : List Addr) from hb) (by simp), E.ok, .of_eq gen⟩
  have bind := h3 st [.ref a] KX rfl
  rw [List.append_nil] at bind
  have hS : RelS K H ⟨[], [], []⟩ [] := ⟨rfl, List.nodup_nil, fun n c b h => by simp at h, fun b hb => by simp at hb, fun p hp => by
    rw [List.mem_singleton.mp hp]
    exact .nil E.tb⟩
  have hD : RelD K H ⟨[], [], []⟩ (.p (.scr ns)) (.ref a) := by
    simp only [RelD, RelP]
    refine ⟨a, rfl, by rw [List.length_map]; exact hl, ?_⟩
    rcases E.sq with z | z
    · exact Or.inl ⟨z, by unfold Wd.out; simp⟩
    · exact Or.inr z
  have run := h4.run callerA [] st H ⟨[.ref a], []⟩ [.ref a] [.ref a] (fun v _ => v = .bl true) hr env bind (.cons rfl .nil) ⟨_, [], [.p (.scr ns)], _, S', hS, .cons hD .nil, hsp, fun v H' ρ' _ _ r => relB r⟩
  refine codeAny_mono run fun r s' h => ?_
  cases r with
  | error e => exact h.elim
  | ok fl =>
    cases fl with
    | next => exact False.elim h
    | brk => exact False.elim h
    | cont => exact False.elim h
    | ret u =>
      obtain ⟨v, H', os, bare, un, ok', r', q⟩ := h
      obtain rfl : v = .bl true := q
      obtain rfl : u = Value.bool true := r'
      have keeps : ∀ b ob, b ≠ pUn → st.heap.get? b = some ob → s'.heap.get? b = some ob := fun b ob nb e => by
        rcases E.all b with z | z | ⟨_, u, xs, z⟩
        · exact un.keep b ob e z (by intro y; exact absurd (show b ∈ ([] : List Addr) from y) (by simp)) (by simp)
        · exact absurd z nb
        · have z2 := un.frzs b u _ z
          obtain ⟨e1, _⟩ := E.ok b _ z
          obtain ⟨e2, _⟩ := ok' b _ z2
          rw [e] at e1
          cases e1
          exact e2
      obtain ⟨more, gr⟩ := un.tbls pUn #[] E.tb
      have gr' : s'.heap.get? pUn = some { cls := .none, data := .fields (#[] ++ more) } := ok' pUn _ gr
      refine ⟨rfl, ⟨fun b ob e => ?_, fun b ob e => ?_⟩, os, bare⟩
      · by_cases hb : b = pUn
        · rw [hb] at e ⊢
          rw [hT] at e
          cases e
          exact .inr (.inl ⟨(C.tab hT).isCodeTable, rfl, #[], more, rfl, gr'⟩)
        · exact .inl (keeps b ob hb e)
      · by_cases hb : b = pUn
        · rw [hb]
          exact ⟨_, gr'⟩
        · exact ⟨ob, keeps b ob hb e⟩
theorem law_end (KX : K.In st.heap) (hg1 : st.heap.Ns mainGlobals mg) (hb1 : st.heap.Ns builtinsNs mb) (hb2 : ∀ x : Str, x ≠ "__name__" → mb x = bootBuiltins x) (lim : st.heap.NoLimit) (gen : st.gens = #[])
    (hT : st.heap.get? pUn = some tab0) (nT : K.lookup pUn = none) (C : PySem.W.CodeHd st.heap cUn pUn)
    (hbm : ∃ (bm : Addr) (ob : Obj), mg "__builtins__" = some (.ref bm) ∧ bm ≠ builtinsNs ∧ st.heap.get? bm = some ob ∧ ob.cls = .type "module" ∧ ob.dict = some builtinsNs ∧ ob.data = .plain)
    (ha : st.heap.get? a = some { cls := .type "list", data := .seq vs.toArray }) (hi : IntsAre vs ns) (hl : ns.length ≤ sizeLine) (hr : RoomG true k callerA) (hfa : mg x = some (.ref fa))
    (F : ∀ base : Heap, K.In base → base.Ns mainGlobals mg → TabB base mg cUn pUn → Cal true P w K mg base k x ["script"] o) (hsp : o [.p (.scr ns)] [] = some (.p (.bl true), S')) :
    codeAny (model P w) callerA (.call (.ref fa) ⟨[.ref a], []⟩) (fun r s' => r = .ok (.ret (.bool true)) ∧ OldK st.heap s'.heap ∧ s'.os = st.os ∧ AllBare s'.gens) st := by
  have rv := vals_ints hi
  have lenV := hi.length
  have aT : a ≠ pUn := fun z => by
    rw [z, hT] at ha
    cases ha
  cases hk : K.lookup a with
  | some oa =>
    have e := KX a oa hk
    rw [ha] at e
    cases e
    refine end_core (H := fun b => if b = pUn then some (.tbl #[]) else none) KX hg1 hb1 hb2 lim gen hT nT C hbm ha hl hr hfa F hsp ⟨if_pos rfl, fun b => ?_, ?_, fun b u z => ?_, fun z => ?_⟩
    · by_cases hb : b = pUn
      · exact .inr (.inl hb)
      · exact .inl (if_neg hb)
    · exact .inr ⟨_, vs.toArray, _, hk, rfl, rfl, rfl, by rw [List.size_toArray, lenV]; exact hl, by simpa using rv⟩
    · by_cases hb : b = pUn
      · have z' := (if_pos hb).symm.trans z
        cases z'
        rw [hb]
        exact hT
      · have z' := (if_neg hb).symm.trans z
        cases z'
    · exact absurd (if_neg aT) z
  | none =>
    refine end_core (H := fun b => if b = a then some (.frz { cls := .type "list", data := .seq vs.toArray } (.lst (ns.map V.int))) else if b = pUn then some (.tbl #[]) else none) KX hg1 hb1 hb2 lim gen hT nT C hbm ha hl hr hfa F hsp ⟨?_, fun b => ?_, ?_, fun b u z => ?_, fun _ => hk⟩
    · exact (if_neg (Ne.symm aT)).trans (if_pos rfl)
    · by_cases hb : b = a
      · exact .inr (.inr ⟨hb, _, _, if_pos hb⟩)
      · by_cases hb2 : b = pUn
        · exact .inr (.inl hb2)
        · exact .inl ((if_neg hb).trans (if_neg hb2))
    · exact .inl (.inr ⟨_, if_pos rfl⟩)
    · by_cases hb : b = a
      · have z' := (if_pos hb).symm.trans z
        cases z'
        rw [hb]
        exact ⟨ha, by rw [List.length_map]; exact hl, vs, _, rv, ha⟩
      · have z1 := (if_neg hb).symm.trans z
        by_cases hb2 : b = pUn
        · have z' := (if_pos hb2).symm.trans z1
          cases z'
          rw [hb2]
          exact hT
        · have z' := (if_neg hb2).symm.trans z1
          cases z'
end
/-- what the head must give of the law's def -/
def LawG (l : PySem.W.OpenLaw) (w : World) (K : PySem.W.Frag) (k n : Nat) (mg : Str → Option Value) (h : Heap) : Prop :=
  K.lookup pUn = none ∧ PySem.W.CodeHd h cUn pUn ∧ ∃ o : OC, (∀ ns : List Int, ns.length ≤ n → (∀ z ∈ ns, Builtin.Int.intBits z ≤ 1048576) → ∃ S', o [.p (.scr ns)] [] = some (.p (.bl true), S')) ∧
    ∀ base : Heap, K.In base → base.Ns mainGlobals mg → TabB base mg cUn pUn → Cal true l.prog w K mg base k "law" ["script"] o
theorem walk_G {l : PySem.W.OpenLaw} {n k : Nat} {q : Program} {loose : List Str} {XP : (Str → Option Value) → Heap → Prop} {YP : World → Heap → Prop} {d : DefRec} {K : Params → PySem.W.Frag}
    (hn : l.most = some n) (hn2 : n ≤ sizeLine) (hdf : d.params.defaults = []) (hnm : d.name = "law") (hr : RoomG true k callerA) (hY : ∀ (w : World) (h : Heap), YP w h → (K w.params).In h) (hT : ∀ (w : World) (h : Heap), YP w h → h.get? pUn = some tab0)
    (F : ∀ (w : World) (mg : Str → Option Value) (h : Heap), YP w h → (K w.params).In h → h.Ns mainGlobals mg → LawG l w (K w.params) k n mg h) :
    PySem.W.WalkO q loose XP YP l.row.toRowW d [] (fun f vs => PySem.call f vs) := by
  refine Att.attach_callB hn hdf fun w s₀ st mg mb fa o pm cd doc a vs ns G Y ho hd hcd hmg hobj hints hlen hbits hg => ?_
  have KX := hY w _ Y
  obtain ⟨nT, C, oc, hsp, hF⟩ := F w mg _ Y KX G.T.g
  obtain ⟨S', hs⟩ := hsp ns hlen hbits
  rw [hnm] at hmg
  exact law_end KX G.T.g G.T.b G.T.builtins G.T.nolimit hg (hT w _ Y) nT C G.T.bmain hobj hints (Nat.le_trans hlen hn2) hr hmg hF hs
end Pt
set_option maxRecDepth 100000
set_option maxHeartbeats 2000000
/-! Fin: what the head gives, put into the layer's words. -/
namespace Pt
open PySem PySem.Spec PyProof.Rows L2
section
variable {P : Program} {K : PySem.W.Frag} {mg : Str → Option Value} {h : Heap}
theorem DefAt.mk' {x : Str} {st : Stmt} {ps : List Str} {f : Addr} {oc : Value} {od an : Option Addr} {osl : Array (Option Value)} {kV doc pm cdv ct : Value} (X : K.In h) (G : h.Ns mainGlobals mg)
    (a : PySem.W.nsIn K mainGlobals x = some (some (.ref f)))
    (l : K.lookup f = some ⟨oc, od, .func (PySem.W.fnOf x x (defArgs st) (defBody st) (defScope st) .none kV doc pm an cdv ct), osl⟩)
    (c : PySem.W.codeIn K cdv x = true) (k : PySem.W.keepIn K (.ref f) = true)
    (b : ∀ (kV doc pm : Value) (an : Option Addr) (cdv ct : Value) (us : List Value), us.length = ps.length → bindArgs (PySem.W.fnOf x x (defArgs st) (defBody st) (defScope st) .none kV doc pm an cdv ct) ⟨us, []⟩ = pure (ps.zip us)) : DefAt K mg x st ps :=
  have F := fun_mk (st := st) l c k
  ⟨f, _, PySem.W.mg_of X G a, F.binds b, F⟩
theorem RefD.mk' {f : Addr} {oc : Value} {od an : Option Addr} {osl : Array (Option Value)} {kV doc pm cdv ct : Value} (X : K.In h) (G : h.Ns mainGlobals mg)
    (a : PySem.W.nsIn K mainGlobals "_law_refused" = some (some (.ref f)))
    (l : K.lookup f = some ⟨oc, od, .func (PySem.W.fnOf "_law_refused" "_law_refused" (defArgs (top iRefused)) (defBody (top iRefused)) (defScope (top iRefused)) .none kV doc pm an cdv ct), osl⟩)
    (c : PySem.W.codeIn K cdv "_law_refused" = true) (k : PySem.W.keepIn K (.ref f) = true) : RefD K mg :=
  ⟨f, .none, kV, doc, pm, cdv, ct, oc, an, od, osl, PySem.W.mg_of X G a, k, l, c, (fun_mk (st := top iRefused) l c k).binds (ps := ["call"]) fun _ _ _ _ _ _ us hl => match us, hl with | [_], _ => rfl⟩
theorem str_mk {x : Str} {s : Str} {t : Tok} (X : K.In h) (G : h.Ns mainGlobals mg) (a : PySem.W.nsIn K mainGlobals x = some (some (.str s t))) : ∃ t, mg x = some (.str s t) := ⟨t, PySem.W.mg_of X G a⟩
theorem code_un {x : Str} {st : Stmt} {f g cU : Addr} {oc cdv : Value} {od : Option Addr} {osl : Array (Option Value)} {fd : FuncData} (X : K.In h) (G : h.Ns mainGlobals mg) (a : PySem.W.nsIn K mainGlobals x = some (some (.ref g)))
    (l : K.lookup g = some ⟨oc, od, .func fd, osl⟩) (hc : fd.code = .ref cU) (hf : mg x = some (.ref f)) (C : CodeAt K f x x st cdv) : cdv = .ref cU := by
  have e := hf.symm.trans (PySem.W.mg_of X G a)
  cases e
  obtain ⟨oc', od', kV, doc, pm, an, ct, sl, l'⟩ := C
  rw [l'] at l
  cases l
  exact hc
theorem exm_mk {C S : Addr} {b : Bool} (h1 : PySem.W.subIn K (.ref S) (.type "BaseException") = some true) (h2 : PySem.W.isClsIn K S = true) (h3 : PySem.W.typeIn K (.ref S) = some (.type "type")) (h4 : PySem.W.subIn K (.ref C) (.ref S) = some b) : PySem.W.exmOne K (.ref C) (.ref S) = some b := by
  have e1 : (PySem.W.subIn K (.ref S) (.type "BaseException") == some true) = true := by rw [h1] <;> rfl
  have e2 : ((PySem.W.clsIn K S).isSome && PySem.W.typeIn K (.ref S) == some (.type "type")) = true := by
    have h2' : (PySem.W.clsIn K S).isSome = true := h2
    rw [h2', h3] <;> rfl
  show (if (PySem.W.subIn K (.ref S) (.type "BaseException") == some true) = true then (if ((PySem.W.clsIn K S).isSome && PySem.W.typeIn K (.ref S) == some (.type "type")) = true then PySem.W.subIn K (.ref C) (.ref S) else none) else none) = some b
  rw [if_pos e1, if_pos e2]
  exact h4
theorem kit_self (C : Addr) : PySem.W.kitOne K (.ref C) (.ref C) = some true := by
  unfold PySem.W.kitOne
  rw [if_pos (by simp)]
theorem kit_cls {C S : Addr} {b : Bool} (hn : C ≠ S) (h2 : PySem.W.isClsIn K S = true) (h3 : PySem.W.typeIn K (.ref S) = some (.type "type")) (h4 : PySem.W.subIn K (.ref C) (.ref S) = some b) : PySem.W.kitOne K (.ref C) (.ref S) = some b := by
  have e2 : ((PySem.W.clsIn K S).isSome && PySem.W.typeIn K (.ref S) == some (.type "type")) = true := by
    have h2' : (PySem.W.clsIn K S).isSome = true := h2
    rw [h2', h3] <;> rfl
  unfold PySem.W.kitOne
  rw [if_neg (by simpa using hn)]
  show (if ((PySem.W.clsIn K S).isSome && PySem.W.typeIn K (.ref S) == some (.type "type")) = true then PySem.W.subIn K (.ref C) (.ref S) else none) = some b
  rw [if_pos e2]
  exact h4
theorem kit_ty {C : Addr} {T : String} {b : Bool} (hm : PySem.W.kitMeta T = true) (h4 : PySem.W.subIn K (.ref C) (.type T) = some b) : PySem.W.kitOne K (.ref C) (.type T) = some b := by
  unfold PySem.W.kitOne
  rw [if_neg (by simp)]
  show (if PySem.W.kitMeta T = true then PySem.W.subIn K (.ref C) (.type T) else none) = some b
  rw [if_pos hm]
  exact h4
end
end Pt
set_option maxRecDepth 100000
set_option maxHeartbeats 4000000
/-! Fin2 (printed by wip/gen/fin92.py): the head's facts put into Defs. -/
namespace Pt
open PySem PySem.Spec PyProof.Rows L2

theorem all_mk {l : PySem.W.OpenLaw} {w : World} {K : PySem.W.Frag} {h : Heap} {mg : Str → Option Value} (X : K.In h) (G : h.Ns mainGlobals mg)
    {nm qn : Str} {N : Addr} {bs : List Value} {sn : List Str} {sub : List Value} {ab : Bool} {col : Option Bool} {dd : Option Addr} {m0 m1 m2 m3 m5 : Option Value} {tL : Tok}
    {oc doc pm ct cl ccl ucl : Value} {od an cld cdd ucd : Option Addr} {osl csl ccs usl : Array (Option Value)} {cda cc fU : Addr} {vs : Array Value} {ufd : FuncData} {hcob : Obj} {file : Str} {tf : Tok}
    (d_form_sum : DefAt K mg "form_sum" (top 5) ["one", "other"])
    (d_form_times : DefAt K mg "form_times" (top 6) ["form", "n"])
    (d_put_in : DefAt K mg "put_in" (top 7) ["form", "forms", "n"])
    (d_letter : DefAt K mg "letter" (top 8) ["i", "n"])
    (d_widened : DefAt K mg "widened" (top 10) ["forms", "n"])
    (d_formula_put_in : DefAt K mg "formula_put_in" (top 11) ["formula", "forms", "n"])
    (d_is_name : DefAt K mg "is_name" (top 14) ["value"])
    (d_uses_of : DefAt K mg "uses_of" (top 15) ["formula"])
    (d_hung : DefAt K mg "hung" (top 16) ["rooms", "name"])
    (d_rooms_with : DefAt K mg "rooms_with" (top 17) ["book", "name"])
    (d_hangs_on : DefAt K mg "hangs_on" (top 18) ["book", "name"])
    (d_written : DefAt K mg "written" (top 19) ["rooms", "formula", "m"])
    (d_written_out : DefAt K mg "written_out" (top 20) ["book", "name"])
    (d__law_begun : DefAt K mg "_law_begun" (top 22) ["script", "k"])
    (d__law_draw : DefAt K mg "_law_draw" (top 23) ["m", "bound"])
    (d__law_of : DefAt K mg "_law_of" (top 24) ["m", "some"])
    (d__law_like : DefAt K mg "_law_like" (top 25) ["got", "due"])
    (d__law_refused : DefAt K mg "_law_refused" (top 26) ["call"])
    (d__law_is_whole : DefAt K mg "_law_is_whole" (top 27) ["value_so"])
    (d__law_is_form : DefAt K mg "_law_is_form" (top 28) ["value_so", "m"])
    (d__law_is_name : DefAt K mg "_law_is_name" (top 29) ["value_so"])
    (d__law_is_formula : DefAt K mg "_law_is_formula" (top 30) ["value_so", "m"])
    (d__law_is_room : DefAt K mg "_law_is_room" (top 31) ["value_so"])
    (d__law_used : DefAt K mg "_law_used" (top 32) ["formula"])
    (d__law_hangs : DefAt K mg "_law_hangs" (top 33) ["rooms", "name"])
    (d__law_sizes : DefAt K mg "_law_sizes" (top 34) ["rooms", "formula"])
    (d__law_letters : DefAt K mg "_law_letters" (top 35) ["rooms", "formula", "m"])
    (d__law_form_place : DefAt K mg "_law_form_place" (top 36) ["value_so"])
    (d__law_breach : DefAt K mg "_law_breach" (top 37) ["value_so"])
    (d__law_formula : DefAt K mg "_law_formula" (top 38) ["m", "letters", "names", "deep"])
    (d__law_book : DefAt K mg "_law_book" (top 39) ["m", "count"])
    (d__law_put_form : DefAt K mg "_law_put_form" (top 40) ["form", "forms_so", "n"])
    (d__law_put : DefAt K mg "_law_put" (top 41) ["formula", "forms_so", "n"])
    (d__law_written : DefAt K mg "_law_written" (top 42) ["rooms", "formula", "n"])
    (d__law_unnamed : DefAt K mg "_law_unnamed" (top 43) ["book", "name"])
    (d__law_right : DefAt K mg "_law_right" (top 44) ["book"])
    (d_law : DefAt K mg "law" (top 45) ["script"])
    (r_refused : RefD K mg)
    (aNN : PySem.W.nsIn K mainGlobals "NotNamed" = some (some (.ref cNotNamed)))
    (aNB : PySem.W.nsIn K mainGlobals "NotBook" = some (some (.ref cNotBook)))
    (aTE : PySem.W.nsIn K mainGlobals "TallyError" = some (some (.ref cTallyError)))
    (aLE : PySem.W.nsIn K mainGlobals "LETTERS" = some (some (.str "abcdefghijklmnopqrstuvwxyz" tL)))
    (aSU : PySem.W.nsIn K mainGlobals "super" = some none)
    (b_len : PySem.W.nsIn K mainGlobals "len" = some none)
    (b_int : PySem.W.nsIn K mainGlobals "int" = some none)
    (b_str : PySem.W.nsIn K mainGlobals "str" = some none)
    (b_bool : PySem.W.nsIn K mainGlobals "bool" = some none)
    (b_tuple : PySem.W.nsIn K mainGlobals "tuple" = some none)
    (b_list : PySem.W.nsIn K mainGlobals "list" = some none)
    (b_dict : PySem.W.nsIn K mainGlobals "dict" = some none)
    (b_range : PySem.W.nsIn K mainGlobals "range" = some none)
    (b_zip : PySem.W.nsIn K mainGlobals "zip" = some none)
    (b_sorted : PySem.W.nsIn K mainGlobals "sorted" = some none)
    (b_max : PySem.W.nsIn K mainGlobals "max" = some none)
    (b_min : PySem.W.nsIn K mainGlobals "min" = some none)
    (b_repr : PySem.W.nsIn K mainGlobals "repr" = some none)
    (b_isinstance : PySem.W.nsIn K mainGlobals "isinstance" = some none)
    (xL : K.lookup cNotNamed = some (excClassObj nm qn cNotNamed N bs [.ref cTallyError, .type "ValueError", .type "Exception", .type "BaseException", .type "object"] true sn sub ab col dd m0 m1 m2 m3 m5 "ValueError.__new__"))
    (sa : PySem.W.findIn K (.ref cNotNamed) "__setattr__" = some (some (.builtin "object.__setattr__")))
    (ga : PySem.W.findIn K (.ref cNotNamed) "__getattribute__" = some (some (.builtin "BaseException.__getattribute__")))
    (ggt : PySem.W.findIn K (.ref cNotNamed) "__getattr__" = some none)
    (iC : PySem.W.findIn K (.ref cNotNamed) "__init__" = some (some (.ref fNotNamed)))
    (tC : PySem.W.typeIn K (.ref fNotNamed) = some (.type "function"))
    (kC : PySem.W.keepIn K (.ref cNotNamed) = true)
    (exC : PySem.W.subIn K (.ref cNotNamed) (.type "BaseException") = some true)
    (vC : PySem.W.subIn K (.ref cNotNamed) (.type "ValueError") = some true)
    (sC : PySem.W.mroIn K cNotNamed (.ref cNotNamed) = some true)
    (tyC : PySem.W.typeIn K (.ref cNotNamed) = some (.type "type"))
    (hdC : PySem.W.hasDictIn K cNotNamed = true)
    (sup : PySem.W.ks_superIn K cNotNamed cNotNamed "__init__" = some (some (.builtin "ValueError.__init__")))
    (op : PySem.W.nsIn K cStatics "thirdparty.any" = some none)
    (nnm : PySem.W.findIn K (.ref cNotNamed) "name" = some none)
    (lI : K.lookup fNotNamed = some ⟨oc, od, .func (PySem.W.ksFn "__init__" "NotNamed.__init__" argNN bdyNN (scp1 "name") .none .none doc pm an (.ref cda) ct cc), osl⟩)
    (cI : PySem.W.codeIn K (.ref cda) "NotNamed.__init__" = true)
    (lcc : K.lookup cc = some ⟨cl, cld, .cell (some (.ref cNotNamed)), csl⟩)
    (lcd : K.lookup cda = some ⟨ccl, cdd, .fields vs, ccs⟩)
    (ca : PySem.W.findIn K (.ref cNotNamed) "__class__" = some (some (.builtin "object.__class__")))
    (cg : PySem.W.specialIn K (.builtin "object.__class__") "__get__" = some (some (.builtin "getset_descriptor.__get__")))
    (tk : PySem.W.takesIn K (.builtin "object.__class__") = some true)
    (ob : PySem.W.mroIn K cNotNamed (.type "object") = some true)
    (iNN : PySem.W.isClsIn K cNotNamed = true)
    (iNB : PySem.W.isClsIn K cNotBook = true)
    (iTE : PySem.W.isClsIn K cTallyError = true)
    (tNB : PySem.W.typeIn K (.ref cNotBook) = some (.type "type"))
    (tTE : PySem.W.typeIn K (.ref cTallyError) = some (.type "type"))
    (eTE : PySem.W.subIn K (.ref cTallyError) (.type "BaseException") = some true)
    (s1 : PySem.W.subIn K (.ref cNotNamed) (.ref cTallyError) = some true)
    (s2 : PySem.W.subIn K (.ref cNotNamed) (.ref cNotBook) = some false)
    (s3 : PySem.W.subIn K (.ref cNotNamed) (.type "list") = some false)
    (pU : K.lookup pUn = none)
    (aU : PySem.W.nsIn K mainGlobals "_law_unnamed" = some (some (.ref fU)))
    (lU : K.lookup fU = some ⟨ucl, ucd, .func ufd, usl⟩)
    (lC : K.lookup cUn = some hcob)
    (hvs : vs[2]? = some (.str file tf)) (hfile : ((l.prog.main.file : Str) == file) = true) (top0 : (l.prog.main.scope.names.lookup ("super" : Str)).isSome = false) (hcU : ufd.code = .ref cUn) (hx : PySem.W.codeHdIn K cUn pUn = true)
    (hQ : ∀ ns : List Int, ns.length ≤ 63 → (∀ z ∈ ns, Builtin.Int.intBits z ≤ 1048576) → ∃ S', fn_law [.p (.scr ns)] [] = some (.p (.bl true), S')) : LawG l w K 136 63 mg h := by
  have gm := fun {x : Str} {v : Value} (e : PySem.W.nsIn K mainGlobals x = some (some v)) => PySem.W.mg_of X G e
  have gn := fun {x : Str} (e : PySem.W.nsIn K mainGlobals x = some none) => PySem.W.mg_none_of X G e
  have hCl : (PySem.W.clsIn K cNotNamed).isSome = true := iNN
  have T : Defs l.prog K mg := {
    d_form_sum := d_form_sum
    d_form_times := d_form_times
    d_put_in := d_put_in
    d_letter := d_letter
    d_widened := d_widened
    d_formula_put_in := d_formula_put_in
    d_is_name := d_is_name
    d_uses_of := d_uses_of
    d_hung := d_hung
    d_rooms_with := d_rooms_with
    d_hangs_on := d_hangs_on
    d_written := d_written
    d_written_out := d_written_out
    d__law_begun := d__law_begun
    d__law_draw := d__law_draw
    d__law_of := d__law_of
    d__law_like := d__law_like
    d__law_refused := d__law_refused
    d__law_is_whole := d__law_is_whole
    d__law_is_form := d__law_is_form
    d__law_is_name := d__law_is_name
    d__law_is_formula := d__law_is_formula
    d__law_is_room := d__law_is_room
    d__law_used := d__law_used
    d__law_hangs := d__law_hangs
    d__law_sizes := d__law_sizes
    d__law_letters := d__law_letters
    d__law_form_place := d__law_form_place
    d__law_breach := d__law_breach
    d__law_formula := d__law_formula
    d__law_book := d__law_book
    d__law_put_form := d__law_put_form
    d__law_put := d__law_put
    d__law_written := d__law_written
    d__law_unnamed := d__law_unnamed
    d__law_right := d__law_right
    d_law := d_law
    c_LETTERS := ⟨tL, gm aLE⟩, g_NotNamed := gm aNN, g_NotBook := gm aNB, g_TallyError := gm aTE
    s_NotNamed := { gC := gm aNN, gs := gn aSU, cls := ⟨nm, qn, N, bs, _, sn, sub, ab, col, dd, m0, m1, m2, m3, m5, xL, by decide +kernel⟩, sa := sa, ga := ga, gg := ggt, iC := iC, tC := tC, kC := kC, exC := exC, vC := vC, sC := sC, tyC := tyC, hdC := hdC, sup := sup, op := op, top := top0 }
    f_NotNamed := ⟨oc, od, doc, pm, an, cda, ct, osl, cc, cl, cld, csl, ccl, cdd, vs, ccs, file, tf, lI, cI, lcc, lcd, hvs, hfile⟩
    n_NotNamed := nnm, r_refused := r_refused
    r_exm := fun C hC => by rw [List.mem_singleton.mp hC]; exact exm_mk eTE iTE tTE s1
    xf := fun C hC => by rw [List.mem_singleton.mp hC]; exact ⟨⟨ga, ggt, exC, hdC⟩, nnm⟩
    kit := ⟨fun q hq => by
      have kt : ExcKit K cNotNamed := ⟨hCl, ga, ggt, exC, ca, cg, tk, ob⟩
      rcases List.mem_cons.mp hq with rfl | hq
      · exact ⟨kt, .type "list", fun u r => r, kit_ty (by decide +kernel) s3⟩
      rcases List.mem_cons.mp hq with rfl | hq
      · exact ⟨kt, .ref cNotNamed, fun u r => r, kit_self _⟩
      rw [List.mem_singleton.mp hq]
      exact ⟨kt, .ref cNotBook, fun u r => r, kit_cls (by decide) iNB tNB s2⟩⟩ }
  have Bb : Bn mg := ⟨gn b_len, gn b_int, gn b_str, gn b_bool, gn b_tuple, gn b_list, gn b_dict, gn b_range, gn b_zip, gn b_sorted, gn b_max, gn b_min, gn b_repr, gn b_isinstance⟩
  exact ⟨pU, PySem.W.codeHd_of_K X hx, fn_law, hQ, fun base KB hg TB => cal_law T Bb TB fun f cdv hf hc => code_un X G aU lU hcU hf hc⟩
end Pt
set_option maxRecDepth 100000
set_option maxHeartbeats 1000000
/-! Q1: words for the plain law: how the printed functions are run. -/
namespace Pt
open PySem PySem.Spec PyProof.Rows L2
/-! ### ends of functions -/
theorem goodTr_same (S : List Cell) : GoodTr S S := fun _ _ h => .inl h
theorem trim_p {S T : List Cell} {y : PD} : trim S (.p y) (S ++ T) = some (.p y, S) := by
  unfold trim
  have e : (S ++ T).take S.length = S := by simp
  rw [e, if_pos (goodTr_same S)]
theorem trim_p0 {S : List Cell} {y : PD} : trim S (.p y) S = some (.p y, S) := by
  have h := trim_p (S := S) (T := []) (y := y)
  simpa using h
/-- the function ends with a value and keeps the cells -/
theorem fnM_p {N np : Nat} {m : MS} {ds : List D} {S : List Cell} {y : PD} (T : List Cell) (hl : ds.length = np) (hm : m (startE N ds) S = some (.rt (.p y), S ++ T)) : fnM N np m ds S = some (.p y, S) := by
  unfold fnM
  rw [if_pos hl, hm]
  exact trim_p
theorem fnM_p0 {N np : Nat} {m : MS} {ds : List D} {S : List Cell} {y : PD} (hl : ds.length = np) (hm : m (startE N ds) S = some (.rt (.p y), S)) : fnM N np m ds S = some (.p y, S) := by
  unfold fnM
  rw [if_pos hl, hm]
  exact trim_p0
/-- .. or writes some of them -/
theorem fnM_set {N np : Nat} {m : MS} {ds : List D} {S S1 T : List Cell} {y : PD} (hl : ds.length = np) (hm : m (startE N ds) S = some (.rt (.p y), S1 ++ T)) (hz : S1.length = S.length) (g : GoodTr S S1) : fnM N np m ds S = some (.p y, S1) := by
  unfold fnM
  rw [if_pos hl, hm]
  show trim S (.p y) (S1 ++ T) = _
  unfold trim
  have e : (S1 ++ T).take S.length = S1 := by rw [← hz]; simp
  rw [e, if_pos g]
theorem goodTr_set {S : List Cell} {i : Nat} {c : Cell} (h : cellOk S.length c) : GoodTr S (S.set i c) := fun j d hd => by
  by_cases hj : i = j
  · subst hj
    by_cases hl : i < S.length
    · rw [List.getElem?_set_self hl] at hd
      cases hd
      exact .inr h
    · rw [List.getElem?_eq_none (by simp; omega)] at hd
      cases hd
  · rw [List.getElem?_set_ne hj] at hd
    exact .inl hd
/-! ### sequences -/
theorem bnd_eq {α β : Type} {m : M α} {f : α → M β} {S S1 : List Cell} {a : α} (h : m S = some (a, S1)) : bnd m f S = f a S1 := by
  unfold bnd
  rw [h]
theorem seq_nx {m n : MS} {E E1 : Vr} {S S1 : List Cell} (h : m E S = some (.nx E1, S1)) : sSeq m n E S = n E1 S1 := by
  unfold sSeq
  rw [bnd_eq h]
theorem seq_rt {m n : MS} {E : Vr} {S S1 : List Cell} {d : D} (h : m E S = some (.rt d, S1)) : sSeq m n E S = some (.rt d, S1) := by
  unfold sSeq
  rw [bnd_eq h]
  rfl
theorem asg_eq {m : ME} {i : Nat} {E : Vr} {S S1 : List Cell} {d : D} (h : m E S = some (d, S1)) : sAsg m (gN i) E S = some (.nx (E.set i (some d)), S1) := by
  unfold sAsg
  rw [bnd_eq h]
  rfl
theorem ret_eq {m : ME} {E : Vr} {S S1 : List Cell} {d : D} (h : m E S = some (d, S1)) : sRet m E S = some (.rt d, S1) := by
  unfold sRet
  rw [bnd_eq h]
  rfl
theorem if_t {t : MT} {m n : MS} {E : Vr} {S S1 : List Cell} (h : t E S = some (true, S1)) : sIf t m n E S = m E S1 := by
  unfold sIf
  rw [bnd_eq h]
  rfl
theorem if_f {t : MT} {m n : MS} {E : Vr} {S S1 : List Cell} (h : t E S = some (false, S1)) : sIf t m n E S = n E S1 := by
  unfold sIf
  rw [bnd_eq h]
  rfl
theorem call_eq {o : OC} {ma : MA} {E : Vr} {S S1 : List Cell} {ds : List D} (h : ma E S = some (ds, S1)) : mCall o ma E S = o ds S1 := by
  unfold mCall
  rw [bnd_eq h]
/-! ### the drawing state -/
def mcell (l sd : Int) (cs : List PD) (sp : Int) : Cell := .dK [(.inr "left", .p (.int l)), (.inr "seed", .p (.int sd)), (.inr "cells", .p (.lst cs)), (.inr "spot", .p (.int sp))]
theorem mcell_ok {n : Nat} {l sd : Int} {cs : List PD} {sp : Int} : cellOk n (mcell l sd cs sp) := by
  intro p hp
  simp only [List.mem_cons, List.not_mem_nil, or_false] at hp
  rcases hp with rfl | rfl | rfl | rfl <;> trivial
section
variable {l sd sp x : Int} {cs : List PD} {S : List Cell} {i : Nat}
theorem get_left (h : S[i]? = some (mcell l sd cs sp)) : oIx (.ref i) (.p (.str "left")) S = some (.p (.int l), S) := by
  simp [oIx, oIxSeq, seqOf, view, h, mcell, oIxDct, dictOf, keyOf, valD]
theorem get_seed (h : S[i]? = some (mcell l sd cs sp)) : oIx (.ref i) (.p (.str "seed")) S = some (.p (.int sd), S) := by
  simp [oIx, oIxSeq, seqOf, view, h, mcell, oIxDct, dictOf, keyOf, valD]
  rfl
theorem get_cells (h : S[i]? = some (mcell l sd cs sp)) : oIx (.ref i) (.p (.str "cells")) S = some (.p (.lst cs), S) := by
  simp [oIx, oIxSeq, seqOf, view, h, mcell, oIxDct, dictOf, keyOf, valD]
  rfl
theorem get_spot (h : S[i]? = some (mcell l sd cs sp)) : oIx (.ref i) (.p (.str "spot")) S = some (.p (.int sp), S) := by
  simp [oIx, oIxSeq, seqOf, view, h, mcell, oIxDct, dictOf, keyOf, valD]
  rfl
theorem put_left {E : Vr} {mv mo mi : ME} {S1 : List Cell} (hv : mv E S = some (.p (.int x), S)) (ho : mo E S = some (.ref i, S)) (hi : mi E S = some (.p (.str "left"), S)) (h : S[i]? = some (mcell l sd cs sp)) : sDPutM mo mi mv E S = some (.nx E, S.set i (mcell x sd cs sp)) := by
  unfold sDPutM
  rw [bnd_eq hv, bnd_eq ho, bnd_eq hi]
  simp only [keyOf, h, mcell]
  rfl
theorem put_spot {E : Vr} {mv mo mi : ME} {S1 : List Cell} (hv : mv E S = some (.p (.int x), S)) (ho : mo E S = some (.ref i, S)) (hi : mi E S = some (.p (.str "spot"), S)) (h : S[i]? = some (mcell l sd cs sp)) : sDPutM mo mi mv E S = some (.nx E, S.set i (mcell l sd cs x)) := by
  unfold sDPutM
  rw [bnd_eq hv, bnd_eq ho, bnd_eq hi]
  simp only [keyOf, h, mcell]
  rfl
end
end Pt
set_option maxRecDepth 100000
set_option maxHeartbeats 1000000
/-! Q2: draws. -/
namespace Pt
open PySem PySem.Spec PyProof.Rows L2
abbrev bitsL : Nat := 1048576
theorem mul_fits {a b : Int} {m n : Nat} (ha : a.natAbs < 2 ^ m) (hb : b.natAbs < 2 ^ n) (h : m + n ≤ 134217728) : mulFits a b = true := by
  have h1 : Builtin.Int.intBits a ≤ m := PySem.intBits_le_iff.mpr ha
  have h2 : Builtin.Int.intBits b ≤ n := PySem.intBits_le_iff.mpr hb
  unfold mulFits
  apply decide_eq_true
  omega
theorem mul_fits' {a b : Int} {m n : Nat} (ha : Builtin.Int.intBits a ≤ m) (hb : b.natAbs < 2 ^ n) (h : m + n ≤ 134217728) : mulFits a b = true := by
  have h2 : Builtin.Int.intBits b ≤ n := PySem.intBits_le_iff.mpr hb
  unfold mulFits
  apply decide_eq_true
  omega
theorem oMulG_int {a b : Int} {S : List Cell} (h : mulFits a b = true) : oMulG (.p (.int a)) (.p (.int b)) S = some (.p (.int (a * b)), S) := by
  simp [oMulG, oMul, h]
theorem oMod_int {a b : Int} {S : List Cell} (h : 0 < b) : oMod (.p (.int a)) (.p (.int b)) S = some (.p (.int (a % b)), S) := by
  simp [oMod, h]
theorem oMod_eq {a b c : Int} {S : List Cell} (h : 0 < b) (hc : a % b = c) : oMod (.p (.int a)) (.p (.int b)) S = some (.p (.int c), S) := by
  rw [← hc]
  exact oMod_int h
theorem oFdiv_int {a b : Int} {S : List Cell} (h : 0 < b) (h2 : b.natAbs.log2 < 9000) : oFdiv (.p (.int a)) (.p (.int b)) S = some (.p (.int (a / b)), S) := by
  simp [oFdiv, h, h2]
theorem oGt_int {a b : Int} {S : List Cell} : oGt (.p (.int a)) (.p (.int b)) S = some (.p (.bl (decide (b < a))), S) := by simp [oCmpI]
theorem oAdd_int {a b : Int} {S : List Cell} : oAdd (.p (.int a)) (.p (.int b)) S = some (.p (.int (a + b)), S) := by simp [oAdd]
theorem oInt_int {a : Int} {S : List Cell} : oInt [.p (.int a)] S = some (.p (.int a), S) := by simp [oInt]
theorem bin_eq {o : O2} {ma mb : ME} {E : Vr} {S S1 S2 : List Cell} {x y : D} {r : Option (D × List Cell)} (ha : ma E S = some (x, S1)) (hb : mb E S1 = some (y, S2)) (ho : o x y S2 = r) : mBin o ma mb E S = r := by
  unfold mBin
  rw [bnd_eq ha, bnd_eq hb, ho]
theorem call1_eq {o : OC} {m : ME} {E : Vr} {S S1 : List Cell} {d : D} (h : m E S = some (d, S1)) : mCall o (aCons m aNil) E S = o [d] S1 := by
  apply call_eq
  unfold aCons
  rw [bnd_eq h]
  rfl
theorem draw_left {l sd sp b : Int} {cs : List PD} {S : List Cell} {i : Nat} (h : S[i]? = some (mcell l sd cs sp)) (hl : 0 < l) (hb : 0 < b) (hb2 : b < 1000000) :
    fn__law_draw [.ref i, .p (.int b)] S = some (.p (.int (l % b)), S.set i (mcell (l / b) sd cs sp)) := by
  unfold fn__law_draw
  refine fnM_set (T := []) rfl ?_ (by simp) (goodTr_set mcell_ok)
  rw [List.append_nil]
  have e : startE 8 [.ref i, .p (.int b)] = [some (.ref i), some (.p (.int b)), none, none, none, none, none, none] := rfl
  have hlog : b.natAbs.log2 < 9000 := by
    have : b.natAbs < 2 ^ 20 := by omega
    have := (Nat.log2_lt (by omega)).mpr this
    omega
  rw [e]
  unfold m__law_draw
  have t1 : decide (0 < l) = true := decide_eq_true hl
  simp only [sSeq, sIf, sAsg, sRet, sNil, sDrop, bnd, ret, fail, mVal, mBin, mUn, mCall, aCons, aNil, mVar, mC, gN, mIf, mOr, mAnd, mNot, List.getElem?_cons_zero, List.getElem?_cons_succ, List.set_cons_zero, List.set_cons_succ, if_true, if_false, Bool.false_eq_true, Bool.not_true, Bool.not_false, ↓reduceIte, get_left h, oGt_int, t1, oInt_int, oMod_int hb]
  rw [put_left (x := l / b) (S1 := S) (S := S) (l := l) (sd := sd) (cs := cs) (sp := sp) (i := i) (by simp only [sSeq, sIf, sAsg, sRet, sNil, sDrop, bnd, ret, fail, mVal, mBin, mUn, mCall, aCons, aNil, mVar, mC, gN, mIf, mOr, mAnd, mNot, List.getElem?_cons_zero, List.getElem?_cons_succ, List.set_cons_zero, List.set_cons_succ, if_true, if_false, Bool.false_eq_true, Bool.not_true, Bool.not_false, ↓reduceIte, get_left h, oFdiv_int hb hlog]) (by simp only [sSeq, sIf, sAsg, sRet, sNil, sDrop, bnd, ret, fail, mVal, mBin, mUn, mCall, aCons, aNil, mVar, mC, gN, mIf, mOr, mAnd, mNot, List.getElem?_cons_zero, List.getElem?_cons_succ, List.set_cons_zero, List.set_cons_succ, if_true, if_false, Bool.false_eq_true, Bool.not_true, Bool.not_false, ↓reduceIte]) (by simp only [sSeq, sIf, sAsg, sRet, sNil, sDrop, bnd, ret, fail, mVal, mBin, mUn, mCall, aCons, aNil, mVar, mC, gN, mIf, mOr, mAnd, mNot, List.getElem?_cons_zero, List.getElem?_cons_succ, List.set_cons_zero, List.set_cons_succ, if_true, if_false, Bool.false_eq_true, Bool.not_true, Bool.not_false, ↓reduceIte]) h]
  simp only [sSeq, sIf, sAsg, sRet, sNil, sDrop, bnd, ret, fail, mVal, mBin, mUn, mCall, aCons, aNil, mVar, mC, gN, mIf, mOr, mAnd, mNot, List.getElem?_cons_zero, List.getElem?_cons_succ, List.set_cons_zero, List.set_cons_succ, if_true, if_false, Bool.false_eq_true, Bool.not_true, Bool.not_false, ↓reduceIte]
theorem atI_ints {ns : List Int} {j : Int} (h0 : 0 ≤ j) (h1 : j < ns.length) : ∃ c, atI (ns.map PD.int) j = some (.int c) ∧ c ∈ ns := by
  obtain ⟨n, rfl⟩ := Int.eq_ofNat_of_zero_le h0
  have hn : n < ns.length := by omega
  refine ⟨ns[n], ?_, List.getElem_mem hn⟩
  unfold atI
  have e : ixN (ns.map PD.int).length ((n : Nat) : Int) = some n := by
    unfold ixN
    simp [hn]
  rw [e]
  simp [hn]
theorem oIx_ints {ns : List Int} {j c : Int} {S : List Cell} (h : atI (ns.map PD.int) j = some (.int c)) : oIx (.p (.lst (ns.map PD.int))) (.p (.int j)) S = some (.p (.int c), S) := by
  simp [oIx, oIxSeq, seqOf, view, h]
theorem oLen_lst {xs : List PD} {S : List Cell} : oLen [.p (.lst xs)] S = some (.p (.int xs.length), S) := by simp [oLen, seqOf, view]
theorem draw_spot {l sd sp b : Int} {ns : List Int} {S : List Cell} {i : Nat} (h : S[i]? = some (mcell l sd (ns.map PD.int) sp)) (hl : ¬ 0 < l) (hb : 0 < b) (hn : ns ≠ []) (hns : ∀ z ∈ ns, Builtin.Int.intBits z ≤ 1048600)
    (h0 : 0 ≤ sp) (h1 : sp < 2 ^ 30) (hs : sd.natAbs < 2 ^ 32) :
    ∃ v : Int, 0 ≤ v ∧ v < b ∧ fn__law_draw [.ref i, .p (.int b)] S = some (.p (.int v), S.set i (mcell l sd (ns.map PD.int) (sp + 1))) := by
  have hil : i < S.length := (List.getElem?_eq_some_iff.mp h).1
  have hlen : (0 : Int) < ns.length := by
    have := List.length_pos_iff.mpr hn
    omega
  obtain ⟨c, hc, hcm⟩ := atI_ints (ns := ns) (j := sp % ns.length) (Int.emod_nonneg _ (by omega)) (Int.emod_lt_of_pos _ hlen)
  have hcz := hns c hcm
  have h' : (S.set i (mcell l sd (ns.map PD.int) (sp + 1)))[i]? = some (mcell l sd (ns.map PD.int) (sp + 1)) := List.getElem?_set_self hil
  suffices hx : ∃ x : Int, fn__law_draw [.ref i, .p (.int b)] S = some (.p (.int (x % b)), S.set i (mcell l sd (ns.map PD.int) (sp + 1))) by
    obtain ⟨x, hx⟩ := hx
    exact ⟨x % b, Int.emod_nonneg _ (by omega), Int.emod_lt_of_pos _ hb, hx⟩
  have a1 : 0 ≤ (c * (2 * sp + 3) + (sd + 40503 * sp * sp)) % 2147483647 := Int.emod_nonneg _ (by decide)
  have a2 : (c * (2 * sp + 3) + (sd + 40503 * sp * sp)) % 2147483647 < 2147483647 := Int.emod_lt_of_pos _ (by decide)
  generalize hB : (c * (2 * sp + 3) + (sd + 40503 * sp * sp)) % 2147483647 = B at a1 a2
  have b1 : 0 ≤ (B * B + 69621 * sp + sd) % 2147483629 := Int.emod_nonneg _ (by decide)
  have b2 : (B * B + 69621 * sp + sd) % 2147483629 < 2147483629 := Int.emod_lt_of_pos _ (by decide)
  generalize hC : (B * B + 69621 * sp + sd) % 2147483629 = C at b1 b2
  have f1 : mulFits 40503 sp = true := mul_fits (m := 16) (n := 30) (by decide) (by omega) (by decide)
  have f2 : mulFits (40503 * sp) sp = true := mul_fits (m := 46) (n := 30) (by omega) (by omega) (by decide)
  have f3 : mulFits 2 sp = true := mul_fits (m := 2) (n := 30) (by decide) (by omega) (by decide)
  have f4 : mulFits c (2 * sp + 3) = true := mul_fits' (m := 1048600) (n := 32) hcz (by omega) (by omega)
  have f5 : mulFits B B = true := mul_fits (m := 31) (n := 31) (by omega) (by omega) (by decide)
  have f6 : mulFits 69621 sp = true := mul_fits (m := 17) (n := 30) (by decide) (by omega) (by decide)
  have f7 : mulFits C 48271 = true := mul_fits (m := 31) (n := 16) (by omega) (by decide) (by decide)
  refine ⟨(C * 48271 + sp) % 2147483647 / 11, ?_⟩
  unfold fn__law_draw
  refine fnM_set (T := []) rfl ?_ (by simp) (goodTr_set mcell_ok)
  rw [List.append_nil]
  have e : startE 8 [.ref i, .p (.int b)] = [some (.ref i), some (.p (.int b)), none, none, none, none, none, none] := rfl
  rw [e]
  unfold m__law_draw
  have t1 : decide (0 < l) = false := decide_eq_false hl
  have p1 : (0 : Int) < 2147483647 := by omega
  have p2 : (0 : Int) < 2147483629 := by omega
  have p3 : (0 : Int) < 11 := by omega
  have p4 : (11 : Int).natAbs.log2 < 9000 := by decide
  refine Eq.trans (seq_nx (E1 := [some (.ref i), some (.p (.int b)), none, none, none, none, none, none]) (S1 := S) (by simp only [sSeq, sIf, sAsg, sRet, sNil, sDrop, bnd, ret, fail, mVal, mBin, mUn, mCall, aCons, aNil, mVar, mC, gN, mIf, mOr, mAnd, mNot, List.getElem?_cons_zero, List.getElem?_cons_succ, List.set_cons_zero, List.set_cons_succ, if_true, if_false, Bool.false_eq_true, Bool.not_true, Bool.not_false, ↓reduceIte, get_left h, oGt_int, t1])) ?_
  refine Eq.trans (seq_nx (asg_eq (d := .p (.int sp)) (S1 := S) (by simp only [sSeq, sIf, sAsg, sRet, sNil, sDrop, bnd, ret, fail, mVal, mBin, mUn, mCall, aCons, aNil, mVar, mC, gN, mIf, mOr, mAnd, mNot, List.getElem?_cons_zero, List.getElem?_cons_succ, List.set_cons_zero, List.set_cons_succ, if_true, if_false, Bool.false_eq_true, Bool.not_true, Bool.not_false, ↓reduceIte, get_spot h]))) ?_
  refine Eq.trans (seq_nx (put_spot (x := sp + 1) (S1 := S) (S := S) (l := l) (sd := sd) (sp := sp) (i := i) (by simp only [sSeq, sIf, sAsg, sRet, sNil, sDrop, bnd, ret, fail, mVal, mBin, mUn, mCall, aCons, aNil, mVar, mC, gN, mIf, mOr, mAnd, mNot, List.getElem?_cons_zero, List.getElem?_cons_succ, List.set_cons_zero, List.set_cons_succ, if_true, if_false, Bool.false_eq_true, Bool.not_true, Bool.not_false, ↓reduceIte, oAdd_int]) (by simp only [sSeq, sIf, sAsg, sRet, sNil, sDrop, bnd, ret, fail, mVal, mBin, mUn, mCall, aCons, aNil, mVar, mC, gN, mIf, mOr, mAnd, mNot, List.getElem?_cons_zero, List.getElem?_cons_succ, List.set_cons_zero, List.set_cons_succ, if_true, if_false, Bool.false_eq_true, Bool.not_true, Bool.not_false, ↓reduceIte]) (by simp only [sSeq, sIf, sAsg, sRet, sNil, sDrop, bnd, ret, fail, mVal, mBin, mUn, mCall, aCons, aNil, mVar, mC, gN, mIf, mOr, mAnd, mNot, List.getElem?_cons_zero, List.getElem?_cons_succ, List.set_cons_zero, List.set_cons_succ, if_true, if_false, Bool.false_eq_true, Bool.not_true, Bool.not_false, ↓reduceIte]) h)) ?_
  generalize S.set i (mcell l sd (ns.map PD.int) (sp + 1)) = S1 at h' ⊢
  refine Eq.trans (seq_nx (E1 := [some (.ref i), some (.p (.int b)), none, some (.p (.int sp)), some (.p (.lst (ns.map PD.int))), some (.p (.int (sd + 40503 * sp * sp))), none, none]) (S1 := S1) (by simp only [sSeq, sIf, sAsg, sRet, sNil, sDrop, bnd, ret, fail, mVal, mBin, mUn, mCall, aCons, aNil, mVar, mC, gN, mIf, mOr, mAnd, mNot, List.getElem?_cons_zero, List.getElem?_cons_succ, List.set_cons_zero, List.set_cons_succ, if_true, if_false, Bool.false_eq_true, Bool.not_true, Bool.not_false, ↓reduceIte, sPar, get_cells h', get_seed h', oMulG_int f1, oMulG_int f2, oAdd_int])) ?_
  refine Eq.trans (seq_nx (asg_eq (d := .p (.int c)) (S1 := S1) (by simp only [sSeq, sIf, sAsg, sRet, sNil, sDrop, bnd, ret, fail, mVal, mBin, mUn, mCall, aCons, aNil, mVar, mC, gN, mIf, mOr, mAnd, mNot, List.getElem?_cons_zero, List.getElem?_cons_succ, List.set_cons_zero, List.set_cons_succ, if_true, if_false, Bool.false_eq_true, Bool.not_true, Bool.not_false, ↓reduceIte, oInt_int, oLen_lst, List.length_map, oMod_int hlen, oIx_ints hc]))) ?_
  refine Eq.trans (seq_nx (asg_eq (d := .p (.int B)) (S1 := S1) (by simp only [sSeq, sIf, sAsg, sRet, sNil, sDrop, bnd, ret, fail, mVal, mBin, mUn, mCall, aCons, aNil, mVar, mC, gN, mIf, mOr, mAnd, mNot, List.getElem?_cons_zero, List.getElem?_cons_succ, List.set_cons_zero, List.set_cons_succ, if_true, if_false, Bool.false_eq_true, Bool.not_true, Bool.not_false, ↓reduceIte, oMulG_int f3, oMulG_int f4, oAdd_int, oInt_int, oMod_eq p1 hB]))) ?_
  refine Eq.trans (seq_nx (asg_eq (d := .p (.int C)) (S1 := S1) (by show mBin _ _ _ _ _ = _; simp only [sSeq, sIf, sAsg, sRet, sNil, sDrop, bnd, ret, fail, mVal, mBin, mUn, mCall, aCons, aNil, mVar, mC, gN, mIf, mOr, mAnd, mNot, List.getElem?_cons_zero, List.getElem?_cons_succ, List.set_cons_zero, List.set_cons_succ, if_true, if_false, Bool.false_eq_true, Bool.not_true, Bool.not_false, ↓reduceIte, oMulG_int f5, oMulG_int f6, oAdd_int, get_seed h', oInt_int, oMod_eq p2 hC]))) ?_
  refine seq_rt (ret_eq ?_)
  have w1 : mCall oInt (aCons (mBin oAdd (mBin oMulG (mVar 7) (mC (.p (.int 48271)))) (mVar 3)) aNil) ([some (.ref i), some (.p (.int b)), none, some (.p (.int sp)), some (.p (.lst (ns.map PD.int))), some (.p (.int (sd + 40503 * sp * sp))), some (.p (.int c)), some (.p (.int C))]) S1 = some (.p (.int (C * 48271 + sp)), S1) :=
    (call1_eq (bin_eq (bin_eq rfl rfl (oMulG_int f7)) rfl oAdd_int)).trans oInt_int
  exact bin_eq (bin_eq (bin_eq w1 rfl (oMod_int p1)) rfl (oFdiv_int p3 p4)) rfl (oMod_int hb)
end Pt
set_option maxRecDepth 100000
set_option maxHeartbeats 1000000
/-! Q3: what drawing keeps; one of some things; drawn forms. -/
namespace Pt
open PySem PySem.Spec PyProof.Rows L2
/-- the drawing cell at i, at most n draws from its cells -/
def Dn (n : Nat) (S : List Cell) (i : Nat) : Prop := ∃ (l sd : Int) (ns : List Int) (sp : Int), S[i]? = some (mcell l sd (ns.map PD.int) sp) ∧ ns ≠ [] ∧ (∀ z ∈ ns, Builtin.Int.intBits z ≤ 1048600) ∧ 0 ≤ sp ∧ sp ≤ n ∧ sd.natAbs < 2 ^ 32
theorem Dn.mono {n m : Nat} {S : List Cell} {i : Nat} (h : Dn n S i) (l : n ≤ m) : Dn m S i := by
  obtain ⟨a, b, c, d, h1, h2, h3, h4, h5, h6⟩ := h
  exact ⟨a, b, c, d, h1, h2, h3, h4, by omega, h6⟩
/-- only the cell at i has changed -/
structure Sm (i : Nat) (S S1 : List Cell) : Prop where
  len : S1.length = S.length
  oth : ∀ j, j ≠ i → S1[j]? = S[j]?
theorem Sm.refl {i : Nat} {S : List Cell} : Sm i S S := ⟨rfl, fun _ _ => rfl⟩
theorem Sm.trans {i : Nat} {S S1 S2 : List Cell} (a : Sm i S S1) (b : Sm i S1 S2) : Sm i S S2 := ⟨b.len.trans a.len, fun j hj => (b.oth j hj).trans (a.oth j hj)⟩
theorem Sm.set {i : Nat} {S : List Cell} {c : Cell} : Sm i S (S.set i c) := ⟨by simp, fun j hj => List.getElem?_set_ne (Ne.symm hj)⟩
theorem Sm.good {i n : Nat} {S S1 : List Cell} (a : Sm i S S1) (h : Dn n S1 i) : GoodTr S S1 := fun j c hc => by
  by_cases hj : j = i
  · subst hj
    obtain ⟨l, sd, ns, sp, h1, _⟩ := h
    rw [h1] at hc
    cases hc
    exact .inr mcell_ok
  · rw [a.oth j hj] at hc
    exact .inl hc
/-- drawing: at most k draws, a value with P -/
def Drw (i k : Nat) (P : PD → Prop) (f : M D) : Prop := ∀ n S, Dn n S i → n + k < 1000000000 → ∃ y S1, f S = some (.p y, S1) ∧ P y ∧ Sm i S S1 ∧ Dn (n + k) S1 i
theorem Drw.mono {i k m : Nat} {P R : PD → Prop} {f : M D} (h : Drw i k P f) (l : k ≤ m) (hp : ∀ y, P y → R y) : Drw i m R f := fun n S hm hl => by
  obtain ⟨y, S1, h1, h2, h3, h4⟩ := h n S hm (by omega)
  exact ⟨y, S1, h1, hp y h2, h3, h4.mono (by omega)⟩
theorem Drw.pure {i : Nat} {P : PD → Prop} {f : M D} {y : PD} (h : ∀ S, f S = some (.p y, S)) (hp : P y) : Drw i 0 P f := fun n S hm _ => ⟨y, S, h S, hp, Sm.refl, hm⟩
theorem Drw.bnd {i k m : Nat} {P R : PD → Prop} {f : M D} {g : D → M D} (h : Drw i k P f) (hg : ∀ y, P y → Drw i m R (g (.p y))) : Drw i (k + m) R (bnd f g) := fun n S hm hl => by
  obtain ⟨y, S1, h1, h2, h3, h4⟩ := h n S hm (by omega)
  obtain ⟨z, S2, g1, g2, g3, g4⟩ := hg y h2 (n + k) S1 h4 (by omega)
  exact ⟨z, S2, (bnd_eq h1).trans g1, g2, h3.trans g3, by rw [← Nat.add_assoc]; exact g4⟩
/-- a function that draws -/
theorem Drw.fn {N np i k : Nat} {P : PD → Prop} {m : MS} {ds : List D} (hl : ds.length = np) (h : ∀ n S, Dn n S i → n + k < 1000000000 → ∃ y S1 T, m (startE N ds) S = some (.rt (.p y), S1 ++ T) ∧ P y ∧ Sm i S S1 ∧ Dn (n + k) S1 i) : Drw i k P (fnM N np m ds) := fun n S hm hk => by
  obtain ⟨y, S1, T, h1, h2, h3, h4⟩ := h n S hm hk
  exact ⟨y, S1, fnM_set hl h1 h3.len (h3.good h4), h2, h3, h4⟩
/-- a whole number from 0 to less than b -/
def Lt (b : Int) (y : PD) : Prop := ∃ v : Int, y = .int v ∧ 0 ≤ v ∧ v < b
theorem drw_draw {i : Nat} {b : Int} (hb : 0 < b) (hb2 : b < 1000000) : Drw i 1 (Lt b) (fn__law_draw [.ref i, .p (.int b)]) := fun n S hm hk => by
  obtain ⟨l, sd, ns, sp, h1, h2, h3, h4, h5, h6⟩ := hm
  have hil : i < S.length := (List.getElem?_eq_some_iff.mp h1).1
  by_cases hl : 0 < l
  · exact ⟨_, _, draw_left h1 hl hb hb2, ⟨_, rfl, Int.emod_nonneg _ (by omega), Int.emod_lt_of_pos _ hb⟩, Sm.set, l / b, sd, ns, sp, List.getElem?_set_self hil, h2, h3, h4, by omega, h6⟩
  · obtain ⟨v, v0, v1, e⟩ := draw_spot (b := b) h1 hl hb h2 h3 h4 (by omega) h6
    exact ⟨_, _, e, ⟨v, rfl, v0, v1⟩, Sm.set, l, sd, ns, sp + 1, List.getElem?_set_self hil, h2, h3, by omega, by omega, h6⟩
/-- what stands at a place of a list -/
theorem atI_get {xs : List PD} {j : Int} (h0 : 0 ≤ j) (h1 : j < xs.length) : ∃ c, atI xs j = some c ∧ c ∈ xs := by
  obtain ⟨n, rfl⟩ := Int.eq_ofNat_of_zero_le h0
  have hn : n < xs.length := by omega
  refine ⟨xs[n], ?_, List.getElem_mem hn⟩
  unfold atI
  have e : ixN xs.length ((n : Nat) : Int) = some n := by
    unfold ixN
    simp [hn]
  rw [e]
  simp [hn]
theorem pds_map {xs : List PD} : pds (xs.map D.p) = some xs := by
  induction xs with
  | nil => rfl
  | cons x r ih => simp [pds, ih]
/-- a list, as a value or in a cell other than i -/
def IsL (i : Nat) (S : List Cell) (d : D) (xs : List PD) : Prop := d = .p (.lst xs) ∨ ∃ j, j ≠ i ∧ d = .ref j ∧ S[j]? = some (.lst (xs.map .p))
theorem IsL.seq {i : Nat} {S : List Cell} {d : D} {xs : List PD} (h : IsL i S d xs) : seqOf S d = some xs := by
  rcases h with rfl | ⟨j, _, rfl, h⟩
  · rfl
  · simp [seqOf, view, h, pds_map]
theorem IsL.sm {i : Nat} {S S1 : List Cell} {d : D} {xs : List PD} (h : IsL i S d xs) (s : Sm i S S1) : IsL i S1 d xs := by
  rcases h with rfl | ⟨j, hj, rfl, h⟩
  · exact .inl rfl
  · exact .inr ⟨j, hj, rfl, (s.oth j hj).trans h⟩
/-- _law_of: one of some things -/
theorem of_run {i n : Nat} {S : List Cell} {d : D} {xs : List PD} (hx : IsL i S d xs) (hn : xs ≠ []) (hl : xs.length < 1000) (hm : Dn n S i) (hk : n + 1 < 1000000000) : ∃ y S1, fn__law_of [.ref i, d] S = some (.p y, S1) ∧ y ∈ xs ∧ Sm i S S1 ∧ Dn (n + 1) S1 i := by
  have hp := List.length_pos_iff.mpr hn
  obtain ⟨y, S1, h1, ⟨v, rfl, v0, v1⟩, h3, h4⟩ := drw_draw (i := i) (b := (xs.length : Int)) (by omega) (by omega) n S hm hk
  obtain ⟨c, c1, c2⟩ := atI_get v0 v1
  refine ⟨c, S1, ?_, c2, h3, h4⟩
  unfold fn__law_of
  refine fnM_set (T := []) rfl ?_ h3.len (h3.good h4)
  rw [List.append_nil]
  show m__law_of [some (.ref i), some d] S = _
  unfold m__law_of
  refine seq_rt (ret_eq (bin_eq (x := d) (y := .p (.int v)) (S1 := S) (S2 := S1) rfl ?_ ?_))
  · simp only [sSeq, sIf, sAsg, sRet, sNil, sDrop, bnd, ret, fail, mVal, mBin, mUn, mCall, aCons, aNil, mVar, mC, gN, mIf, mOr, mAnd, mNot, List.getElem?_cons_zero, List.getElem?_cons_succ, List.set_cons_zero, List.set_cons_succ, if_true, if_false, Bool.false_eq_true, Bool.not_true, Bool.not_false, ↓reduceIte, oLen, hx.seq, h1]
  · have e := (hx.sm h3).seq
    simp [oIx, oIxSeq, e, c1]
/-- a comprehension that draws -/
theorem lc_drw {i k j : Nat} {P : PD → Prop} {te : ME} : ∀ (xs acc : List PD) (E : Vr) (n : Nat) (S : List Cell), (∀ x ∈ xs, ∀ S0, S0.length = S.length → (∀ j', j' ≠ i → S0[j']? = S[j']?) → ∀ n0, Dn n0 S0 i → n0 + k < 1000000000 → ∃ y S1, te (E.set j (some (.p x))) S0 = some (.p y, S1) ∧ P y ∧ Sm i S0 S1 ∧ Dn (n0 + k) S1 i) →
    Dn n S i → n + k * xs.length < 1000000000 → ∃ ys S1, lcLoop E (gN j) tYes1 te xs acc S = some (acc ++ ys, S1) ∧ ys.length = xs.length ∧ (∀ y ∈ ys, P y) ∧ Sm i S S1 ∧ Dn (n + k * xs.length) S1 i
  | [], acc, E, n, S, _, hm, _ => ⟨[], S, by simp [lcLoop, ret], rfl, by simp, Sm.refl, by simpa using hm⟩
  | x :: xs, acc, E, n, S, h, hm, hk => by
    have ek : k * (x :: xs).length = k + k * xs.length := by simp [Nat.mul_add, Nat.add_comm]
    obtain ⟨y, S1, h1, h2, h3, h4⟩ := h x List.mem_cons_self S rfl (fun _ _ => rfl) n hm (by omega)
    obtain ⟨ys, S2, g1, g2, g3, g4, g5⟩ := lc_drw xs (acc ++ [y]) E (n + k) S1 (fun x hx S0 l0 o0 n0 m0 k0 => h x (List.mem_cons_of_mem _ hx) S0 (l0.trans h3.len) (fun j' hj => (o0 j' hj).trans (h3.oth j' hj)) n0 m0 k0) h4 (by omega)
    refine ⟨y :: ys, S2, ?_, by simp [g2], ?_, h3.trans g4, by rw [ek, ← Nat.add_assoc]; exact g5⟩
    · unfold lcLoop
      simp only [gN, tYes1, h1]
      rw [show acc ++ y :: ys = acc ++ [y] ++ ys by simp]
      exact g1
    · intro z hz
      rcases List.mem_cons.mp hz with rfl | hz
      · exact h2
      · exact g3 z hz
end Pt
set_option maxRecDepth 100000
set_option maxHeartbeats 2000000
/-! Q4: drawn formulas. -/
namespace Pt
open PySem PySem.Spec PyProof.Rows L2
/-! ### tests -/
theorem oEq_int {neg : Bool} {a b : Int} {S : List Cell} : oEq neg (.p (.int a)) (.p (.int b)) S = some (.p (.bl ((a == b) != neg)), S) := by
  simp [oEq, eqD, view, py, SeqAt.shaped, PyData.canLay0, PyData.depth, PyData.eqv]
theorem oEq_str {neg : Bool} {a b : Str} {S : List Cell} (ha : PyData.strOk a = true) (hb : PyData.strOk b = true) : oEq neg (.p (.str a)) (.p (.str b)) S = some (.p (.bl ((a == b) != neg)), S) := by
  simp [oEq, eqD, view, py, SeqAt.shaped, PyData.canLay0, PyData.depth, PyData.eqv, ha, hb]
theorem oEq_nil {neg : Bool} {d : D} {xs : List PD} {S : List Cell} (h : view S d = some (.lst xs)) : oEq neg d (.p (.lst [])) S = some (.p (.bl (xs.isEmpty != neg)), S) := by
  have h2 : view S (.p (.lst [])) = some (.lst []) := rfl
  unfold oEq eqD
  rw [h, h2]
  cases xs with
  | nil => simp [py, pys, SeqAt.shaped, PyData.canLay0, PyData.canLayAll0, PyData.depth, PyData.depthAll, PyData.eqv, PyData.eqvAll]
  | cons x r =>
    have e : (if (SeqAt.shaped (PyData.list (py x :: pys r)) && SeqAt.shaped (PyData.list [])) = true then some false else if (x :: r).length = ([] : List PD).length then none else some false) = some false := by
      split
      · rfl
      · simp
    simp only [py, pys, PyData.eqv, PyData.eqvAll, List.isEmpty_cons]
    rw [e]
theorem IsL.view {i : Nat} {S : List Cell} {d : D} {xs : List PD} (h : IsL i S d xs) : Pt.view S d = some (.lst xs) := by
  rcases h with rfl | ⟨j, _, rfl, h⟩
  · rfl
  · simp [Pt.view, h, pds_map]
theorem oLt_int {a b : Int} {S : List Cell} : oLt (.p (.int a)) (.p (.int b)) S = some (.p (.bl (decide (a < b))), S) := rfl
theorem oSub_int {a b : Int} {S : List Cell} : oSub (.p (.int a)) (.p (.int b)) S = some (.p (.int (a - b)), S) := rfl
/-! ### formulas -/
def FormP (B L : Nat) (y : PD) : Prop := ∃ ns : List Int, y = .tup (ns.map PD.int) ∧ ns.length = L + 1 ∧ ∀ z ∈ ns, z.natAbs ≤ B
inductive GF (nm : List (Str × Nat)) : Nat → Nat → PD → Prop
  | row {d L : Nat} {r : PD} : FormP 4 L r → GF nm d L (.tup [.str "row", r])
  | dv {d L : Nat} {c : Int} {r : PD} : 2 ≤ c → c ≤ 12 → FormP 4 L r → GF nm d L (.tup [.str "divides", .int c, r])
  | not {d L : Nat} {a : PD} : GF nm d L a → GF nm (d + 1) L (.tup [.str "not", a])
  | some {d L : Nat} {a : PD} : GF nm d (L + 1) a → GF nm (d + 1) L (.tup [.str "some", a])
  | named {d L s : Nat} {x : Str} {fs : List PD} : (x, s) ∈ nm → fs.length = s → (∀ f ∈ fs, FormP 2 L f) → GF nm (d + 1) L (.tup [.str "named", .str x, .tup fs])
  | junc {d L : Nat} {w : Str} {l : List PD} : (w = "and" ∨ w = "or") → l.length ≤ 3 → (∀ a ∈ l, GF nm d L a) → GF nm (d + 1) L (.tup (.str w :: l))
def encN (nm : List (Str × Nat)) : List PD := nm.map fun p => .tup [.str p.1, .int p.2]
theorem rgInts_len {lo : Int} {n : Nat} : (rgInts lo n).length = n := by simp [rgInts]
theorem ints_of {B : Nat} : ∀ {ys : List PD}, (∀ y ∈ ys, ∃ z : Int, y = .int z ∧ z.natAbs ≤ B) → ∃ ns : List Int, ys = ns.map PD.int ∧ ∀ z ∈ ns, z.natAbs ≤ B
  | [], _ => ⟨[], rfl, by simp⟩
  | y :: ys, h => by
    obtain ⟨z, rfl, hz⟩ := h _ List.mem_cons_self
    obtain ⟨ns, rfl, hn⟩ := ints_of fun w hw => h w (List.mem_cons_of_mem _ hw)
    exact ⟨z :: ns, rfl, fun w hw => by
      rcases List.mem_cons.mp hw with rfl | hw
      · exact hz
      · exact hn w hw⟩
/-- tuple([_law_draw(m, b) - c for i in range(letters + 1)]) -/
theorem form_run {i n L B : Nat} {b c : Int} {E : Vr} {S : List Cell} (hb : 0 < b) (hb2 : b < 1000) (hB : c.natAbs ≤ B ∧ (b - 1 - c).natAbs ≤ B) (hc : 0 ≤ c ∧ c < b) (h0 : E[0]? = some (some (.ref i))) (h1 : E[1]? = some (some (.p (.int L)))) (hL : L ≤ 1000)
    (hm : Dn n S i) (hk : n + (L + 1) < 1000000000) :
    ∃ y S1, mCall oTuple (aCons (mLc [5] (iRange1 (aCons (mBin oAdd (mVar 1) (mC (.p (.int 1)))) aNil)) (gN 5) tYes1 (mBin oSub (mCall fn__law_draw (aCons (mVar 0) (aCons (mC (.p (.int b))) aNil))) (mC (.p (.int c))))) aNil) E S = some (.p y, S1) ∧ FormP B L y ∧ Sm i S S1 ∧ Dn (n + (L + 1)) S1 i := by
  have hr : iRange1 (aCons (mBin oAdd (mVar 1) (mC (.p (.int 1)))) aNil) E S = some (rgInts 0 (L + 1), S) := by
    have e : ((L : Int) + 1).toNat = L + 1 := by omega
    have q : -100000 ≤ (L : Int) + 1 ∧ (L : Int) + 1 ≤ 100000 := ⟨by omega, by omega⟩
    simp only [iRange1, aCons, aNil, mBin, mVar, mC, bnd, ret, h1, oAdd, q, and_self, if_true, e]
  obtain ⟨ys, S1, g1, g2, g3, g4, g5⟩ := lc_drw (i := i) (k := 1) (j := 5) (P := fun y => ∃ z : Int, y = .int z ∧ z.natAbs ≤ B) (te := mBin oSub (mCall fn__law_draw (aCons (mVar 0) (aCons (mC (.p (.int b))) aNil))) (mC (.p (.int c)))) (rgInts 0 (L + 1)) [] (wipeE E [5]) n S
    (fun x hx S0 l0 o0 n0 m0 k0 => by
      obtain ⟨y, S2, e1, ⟨v, rfl, v0, v1⟩, e3, e4⟩ := drw_draw (i := i) hb (by omega) n0 S0 m0 k0
      refine ⟨.int (v - c), S2, ?_, ⟨_, rfl, by omega⟩, e3, e4⟩
      have h0' : ((wipeE E [5]).set 5 (some (.p x)))[0]? = some (some (.ref i)) := by
        unfold wipeE wipeE
        rw [List.getElem?_set_ne (by decide), List.getElem?_set_ne (by decide)]
        exact h0
      refine bin_eq (x := .p (.int v)) (S1 := S2) ?_ rfl oSub_int
      simp only [mCall, aCons, aNil, mVar, mC, bnd, ret, h0', e1]) hm (by rw [rgInts_len]; omega)
  rw [rgInts_len] at g2 g5
  obtain ⟨ns, rfl, hns⟩ := ints_of g3
  refine ⟨.tup (ns.map PD.int), S1, ?_, ⟨ns, rfl, by simpa using g2, hns⟩, g4, g5.mono (by omega)⟩
  refine (call1_eq (d := .p (.lst (ns.map PD.int))) (S1 := S1) ?_).trans rfl
  unfold mLc
  rw [bnd_eq hr, bnd_eq g1]
  simp [ret]
end Pt
set_option maxRecDepth 100000
set_option maxHeartbeats 2000000
/-! Q5: _law_formula. -/
namespace Pt
open PySem PySem.Spec PyProof.Rows L2
theorem val_eq {m : ME} {E : Vr} {S S1 : List Cell} {b : Bool} (h : m E S = some (.p (.bl b), S1)) : mVal m E S = some (b, S1) := by
  unfold mVal
  rw [bnd_eq h]
theorem and_f {m n : MT} {E : Vr} {S S1 : List Cell} (h : m E S = some (false, S1)) : mAnd m n E S = some (false, S1) := by
  unfold mAnd
  rw [bnd_eq h]
  rfl
theorem and_t {m n : MT} {E : Vr} {S S1 : List Cell} (h : m E S = some (true, S1)) : mAnd m n E S = n E S1 := by
  unfold mAnd
  rw [bnd_eq h]
  rfl
theorem skip_if {t : MT} {m r : MS} {E : Vr} {S S1 : List Cell} (h : t E S = some (false, S1)) : sSeq (sIf t m sNil) r E S = r E S1 := by
  refine seq_nx (E1 := E) (S1 := S1) ?_
  rw [if_f h]
  rfl
theorem take_if {t : MT} {m r : MS} {E : Vr} {S S1 S2 : List Cell} {d : D} (h : t E S = some (true, S1)) (hm : m E S1 = some (.rt d, S2)) : sSeq (sIf t m sNil) r E S = some (.rt d, S2) := by
  refine seq_rt ?_
  rw [if_t h, hm]
theorem a4_eq {a b c d : ME} {E : Vr} {S : List Cell} {x y z w : D} (h1 : a E S = some (x, S)) (h2 : b E S = some (y, S)) (h3 : c E S = some (z, S)) (h4 : d E S = some (w, S)) : aCons a (aCons b (aCons c (aCons d aNil))) E S = some ([x, y, z, w], S) := by
  simp only [aCons, aNil, bnd, ret, h1, h2, h3, h4]
theorem tup1 {a : ME} {E : Vr} {S S1 : List Cell} {y : PD} (h : a E S = some (.p y, S1)) : mTup (aCons a aNil) E S = some (.p (.tup [y]), S1) := by
  simp [mTup, aCons, aNil, bnd, ret, h, pds]
theorem tup2 {a b : ME} {E : Vr} {S S1 S2 : List Cell} {y z : PD} (h : a E S = some (.p y, S1)) (g : b E S1 = some (.p z, S2)) : mTup (aCons a (aCons b aNil)) E S = some (.p (.tup [y, z]), S2) := by
  simp [mTup, aCons, aNil, bnd, ret, h, g, pds]
theorem tup3 {a b c : ME} {E : Vr} {S S1 S2 S3 : List Cell} {y z w : PD} (h : a E S = some (.p y, S1)) (g : b E S1 = some (.p z, S2)) (k : c E S2 = some (.p w, S3)) : mTup (aCons a (aCons b (aCons c aNil))) E S = some (.p (.tup [y, z, w]), S3) := by
  simp [mTup, aCons, aNil, bnd, ret, h, g, k, pds]
theorem asg_eq' {m : ME} {t : Tg} {E E1 : Vr} {S S1 : List Cell} {d : D} (h : m E S = some (d, S1)) (ht : t d E = some E1) : sAsg m t E S = some (.nx E1, S1) := by
  unfold sAsg
  rw [bnd_eq h, ht]
  rfl
theorem a2_eq {a b : ME} {E : Vr} {S : List Cell} {x y : D} (h1 : a E S = some (x, S)) (h2 : b E S = some (y, S)) : aCons a (aCons b aNil) E S = some ([x, y], S) := by
  simp only [aCons, aNil, bnd, ret, h1, h2]
abbrev cost (d : Nat) : Nat := 1000 * 4 ^ d
theorem formula_run {nm : List (Str × Nat)} {i j : Nat} (hj : j ≠ i) (hnl : nm.length < 100) (hns : ∀ p ∈ nm, p.2 ≤ 4) : ∀ (fuel d L n : Nat) (S : List Cell), d < fuel → L + d ≤ 8 → S[j]? = some (.lst ((encN nm).map .p)) → Dn n S i → n + cost d < 1000000000 →
    ∃ y S1, fn__law_formula fuel [.ref i, .p (.int L), .ref j, .p (.int d)] S = some (.p y, S1) ∧ GF nm d L y ∧ Sm i S S1 ∧ Dn (n + cost d) S1 i
  | 0, d, L, n, S, h, _, _, _, _ => absurd h (Nat.not_lt_zero _)
  | fuel + 1, d, L, n, S, hf, hL, hS, hm, hk => by
    have hc : cost d = 1000 * 4 ^ d := rfl
    have hp : 1 ≤ 4 ^ d := Nat.one_le_pow _ _ (by decide)
    suffices hx : ∃ y S1, m__law_formula (fn__law_formula fuel) [some (.ref i), some (.p (.int L)), some (.ref j), some (.p (.int d)), none, none, none, none, none, none, none] S = some (.rt (.p y), S1) ∧ GF nm d L y ∧ Sm i S S1 ∧ Dn (n + cost d) S1 i by
      obtain ⟨y, S1, h1, h2, h3, h4⟩ := hx
      refine ⟨y, S1, ?_, h2, h3, h4⟩
      unfold fn__law_formula
      exact fnM_set (T := []) rfl (by rw [List.append_nil]; exact h1) h3.len (h3.good h4)
    -- the word
    have hw : ∃ w S1, mIf (mVal (mBin oGt (mVar 3) (mC (.p (.int 0))))) (mCall fn__law_draw (aCons (mVar 0) (aCons (mC (.p (.int 9))) aNil))) (mCall fn__law_draw (aCons (mVar 0) (aCons (mC (.p (.int 3))) aNil))) [some (.ref i), some (.p (.int L)), some (.ref j), some (.p (.int d)), none, none, none, none, none, none, none] S = some (.p (.int w), S1) ∧
        0 ≤ w ∧ w < 9 ∧ (d = 0 → w < 3) ∧ Sm i S S1 ∧ Dn (n + 1) S1 i := by
      by_cases hd : d = 0
      · obtain ⟨y, S1, h1, ⟨v, rfl, v0, v1⟩, h3, h4⟩ := drw_draw (i := i) (b := 3) (by decide) (by decide) n S hm (by omega)
        refine ⟨v, S1, ?_, v0, by omega, fun _ => v1, h3, h4⟩
        have t : decide ((0 : Int) < (d : Int)) = false := decide_eq_false (by omega)
        simp only [sSeq, sIf, sAsg, sRet, sNil, sDrop, bnd, ret, fail, mVal, mBin, mUn, mCall, aCons, aNil, mVar, mC, gN, mIf, mOr, mAnd, mNot, List.getElem?_cons_zero, List.getElem?_cons_succ, List.set_cons_zero, List.set_cons_succ, if_true, if_false, Bool.false_eq_true, Bool.not_true, Bool.not_false, ↓reduceIte, oGt_int, t, h1]
      · obtain ⟨y, S1, h1, ⟨v, rfl, v0, v1⟩, h3, h4⟩ := drw_draw (i := i) (b := 9) (by decide) (by decide) n S hm (by omega)
        refine ⟨v, S1, ?_, v0, v1, fun z => absurd z hd, h3, h4⟩
        have t : decide ((0 : Int) < (d : Int)) = true := decide_eq_true (by omega)
        simp only [sSeq, sIf, sAsg, sRet, sNil, sDrop, bnd, ret, fail, mVal, mBin, mUn, mCall, aCons, aNil, mVar, mC, gN, mIf, mOr, mAnd, mNot, List.getElem?_cons_zero, List.getElem?_cons_succ, List.set_cons_zero, List.set_cons_succ, if_true, if_false, Bool.false_eq_true, Bool.not_true, Bool.not_false, ↓reduceIte, oGt_int, t, h1]
    obtain ⟨w, S1, hw, w0, w9, w3, s1, d1⟩ := hw
    have hS1 : S1[j]? = some (.lst ((encN nm).map .p)) := (s1.oth j hj).trans hS
    have tLt : ∀ (c : Int) (a5 a6 a7 a8 a9 a10 : Option D), mVal (mBin oLt (mVar 4) (mC (.p (.int c)))) [some (.ref i), some (.p (.int L)), some (.ref j), some (.p (.int d)), some (.p (.int w)), a5, a6, a7, a8, a9, a10] S1 = some (decide (w < c), S1) := fun c a5 a6 a7 a8 a9 a10 => by
      simp only [sSeq, sIf, sAsg, sRet, sNil, sDrop, bnd, ret, fail, mVal, mBin, mUn, mCall, aCons, aNil, mVar, mC, gN, mIf, mOr, mAnd, mNot, List.getElem?_cons_zero, List.getElem?_cons_succ, List.set_cons_zero, List.set_cons_succ, if_true, if_false, Bool.false_eq_true, Bool.not_true, Bool.not_false, ↓reduceIte, oLt_int]
    have tEq : ∀ (c : Int) (a5 a6 a7 a8 a9 a10 : Option D), mVal (mBin (oEq false) (mVar 4) (mC (.p (.int c)))) [some (.ref i), some (.p (.int L)), some (.ref j), some (.p (.int d)), some (.p (.int w)), a5, a6, a7, a8, a9, a10] S1 = some (decide (w = c), S1) := fun c a5 a6 a7 a8 a9 a10 => by
      simp only [sSeq, sIf, sAsg, sRet, sNil, sDrop, bnd, ret, fail, mVal, mBin, mUn, mCall, aCons, aNil, mVar, mC, gN, mIf, mOr, mAnd, mNot, List.getElem?_cons_zero, List.getElem?_cons_succ, List.set_cons_zero, List.set_cons_succ, if_true, if_false, Bool.false_eq_true, Bool.not_true, Bool.not_false, ↓reduceIte, oEq_int]
      have e : (w == c) = decide (w = c) := Bool.eq_iff_iff.mpr (by simp)
      simp [e]
    -- a son: one less deep
    have son : ∀ (L' d' n' : Nat) (S' : List Cell), d = d' + 1 → L' + d' ≤ 8 → Sm i S1 S' → Dn n' S' i → n' + cost d' < 1000000000 → ∃ y S2, fn__law_formula fuel [.ref i, .p (.int L'), .ref j, .p (.int d')] S' = some (.p y, S2) ∧ GF nm d' L' y ∧ Sm i S' S2 ∧ Dn (n' + cost d') S2 i :=
      fun L' d' n' S' hd hL' hs' hm' hk' => formula_run hj hnl hns fuel d' L' n' S' (by omega) hL' ((hs'.oth j hj).trans hS1) hm' hk'
    unfold m__law_formula
    have hS' : ∀ r : MS, sSeq (sAsg (mIf (mVal (mBin oGt (mVar 3) (mC (.p (.int 0))))) (mCall fn__law_draw (aCons (mVar 0) (aCons (mC (.p (.int 9))) aNil))) (mCall fn__law_draw (aCons (mVar 0) (aCons (mC (.p (.int 3))) aNil)))) (gN 4)) r [some (.ref i), some (.p (.int L)), some (.ref j), some (.p (.int d)), none, none, none, none, none, none, none] S = r [some (.ref i), some (.p (.int L)), some (.ref j), some (.p (.int d)), some (.p (.int w)), none, none, none, none, none, none] S1 := fun r => seq_nx (asg_eq hw)
    rw [hS']
    by_cases c1 : w < 2
    · obtain ⟨y, S2, h1, h2, h3, h4⟩ := form_run (i := i) (n := n + 1) (L := L) (B := 4) (b := 9) (c := 4) (E := [some (.ref i), some (.p (.int L)), some (.ref j), some (.p (.int d)), some (.p (.int w)), none, none, none, none, none, none]) (S := S1) (by decide) (by decide) (by decide) (by decide) rfl rfl (by omega) d1 (by omega)
      exact ⟨_, S2, take_if ((tLt 2 _ _ _ _ _ _).trans (by rw [decide_eq_true c1])) (seq_rt (ret_eq (tup2 rfl h1))), .row h2, s1.trans h3, h4.mono (by omega)⟩
    rw [skip_if ((tLt 2 _ _ _ _ _ _).trans (by rw [decide_eq_false c1]))]
    by_cases c2 : w = 2
    · obtain ⟨y0, S2, g1, ⟨v, rfl, v0, v1⟩, g3, g4⟩ := drw_draw (i := i) (b := 4) (by decide) (by decide) (n + 1) S1 d1 (by omega)
      obtain ⟨y, S3, h1, h2, h3, h4⟩ := form_run (i := i) (n := n + 2) (L := L) (B := 4) (b := 9) (c := 4) (E := [some (.ref i), some (.p (.int L)), some (.ref j), some (.p (.int d)), some (.p (.int w)), none, none, none, none, none, none]) (S := S2) (by decide) (by decide) (by decide) (by decide) rfl rfl (by omega) g4 (by omega)
      refine ⟨_, S3, take_if ((tEq 2 _ _ _ _ _ _).trans (by rw [decide_eq_true c2])) (seq_rt (ret_eq (tup3 rfl (bin_eq (x := .p (.int 2)) (y := .p (.int v)) (S1 := S1) (S2 := S2) rfl ?_ oAdd_int) h1))), .dv (by omega) (by omega) h2, (s1.trans g3).trans h3, h4.mono (by omega)⟩
      simp only [sSeq, sIf, sAsg, sRet, sNil, sDrop, bnd, ret, fail, mVal, mBin, mUn, mCall, aCons, aNil, mVar, mC, gN, mIf, mOr, mAnd, mNot, List.getElem?_cons_zero, List.getElem?_cons_succ, List.set_cons_zero, List.set_cons_succ, if_true, if_false, Bool.false_eq_true, Bool.not_true, Bool.not_false, ↓reduceIte, g1]
    rw [skip_if ((tEq 2 _ _ _ _ _ _).trans (by rw [decide_eq_false c2]))]
    cases d with
    | zero => exact absurd (w3 rfl) (by omega)
    | succ d' =>
      have ed : ((d' + 1 : Nat) : Int) - 1 = (d' : Int) := by omega
      have hc' : cost (d' + 1) = 4 * cost d' := by simp only [cost, Nat.pow_succ]; omega
      have hp' : 1 ≤ 4 ^ d' := Nat.one_le_pow _ _ (by decide)
      have hcd : cost d' = 1000 * 4 ^ d' := rfl
      by_cases c3 : w = 3
      · obtain ⟨y, S2, h1, h2, h3, h4⟩ := son L d' (n + 1) S1 rfl (by omega) Sm.refl d1 (by omega)
        refine ⟨_, S2, take_if ((tEq 3 _ _ _ _ _ _).trans (by rw [decide_eq_true c3])) (seq_rt (ret_eq (tup2 rfl ((call_eq (a4_eq rfl rfl rfl (bin_eq rfl rfl oSub_int))).trans ?_)))), .not h2, s1.trans h3, h4.mono (by omega)⟩
        rw [ed]
        exact h1
      rw [skip_if ((tEq 3 _ _ _ _ _ _).trans (by rw [decide_eq_false c3]))]
      have tL : ∀ (a4 a5 a6 a7 a8 a9 a10 : Option D), mVal (mBin oLt (mVar 1) (mC (.p (.int 9)))) [some (.ref i), some (.p (.int L)), some (.ref j), some (.p (.int ((d' + 1 : Nat) : Int))), a4, a5, a6, a7, a8, a9, a10] S1 = some (true, S1) := fun a4 a5 a6 a7 a8 a9 a10 => by
        have t : decide ((L : Int) < 9) = true := decide_eq_true (by omega)
        simp only [sSeq, sIf, sAsg, sRet, sNil, sDrop, bnd, ret, fail, mVal, mBin, mUn, mCall, aCons, aNil, mVar, mC, gN, mIf, mOr, mAnd, mNot, List.getElem?_cons_zero, List.getElem?_cons_succ, List.set_cons_zero, List.set_cons_succ, if_true, if_false, Bool.false_eq_true, Bool.not_true, Bool.not_false, ↓reduceIte, oLt_int, t]
      by_cases c4 : w = 4
      · obtain ⟨y, S2, h1, h2, h3, h4⟩ := son (L + 1) d' (n + 1) S1 rfl (by omega) Sm.refl d1 (by omega)
        refine ⟨_, S2, take_if ((and_t ((tEq 4 _ _ _ _ _ _).trans (by rw [decide_eq_true c4]))).trans (tL _ _ _ _ _ _ _)) (seq_rt (ret_eq (tup2 rfl ((call_eq (a4_eq rfl (bin_eq rfl rfl oAdd_int) rfl (bin_eq rfl rfl oSub_int))).trans ?_)))), .some h2, s1.trans h3, h4.mono (by omega)⟩
        rw [ed]
        exact h1
      rw [skip_if (and_f ((tEq 4 _ _ _ _ _ _).trans (by rw [decide_eq_false c4])))]
      have hnV : view S1 (.ref j) = some (.lst (encN nm)) := by simp [view, hS1, pds_map]
      have tN : ∀ (a4 a5 a6 a7 a8 a9 a10 : Option D), mVal (mBin (oEq true) (mVar 2) (mLst aNil)) [some (.ref i), some (.p (.int L)), some (.ref j), some (.p (.int ((d' + 1 : Nat) : Int))), a4, a5, a6, a7, a8, a9, a10] S1 = some (!nm.isEmpty, S1) := fun a4 a5 a6 a7 a8 a9 a10 => by
        refine val_eq (bin_eq (x := .ref j) (y := .p (.lst [])) (S1 := S1) (S2 := S1) rfl rfl ?_)
        rw [oEq_nil hnV]
        simp [encN]
      -- and, or
      have junc : ∃ y S2, sSeq (sAsg (mLc [8] (iRange1 (aCons (mCall fn__law_draw (aCons (mVar 0) (aCons (mC (.p (.int 4))) aNil))) aNil)) (gN 8) tYes1 (mCall (fn__law_formula fuel) (aCons (mVar 0) (aCons (mVar 1) (aCons (mVar 2) (aCons (mBin oSub (mVar 3) (mC (.p (.int 1)))) aNil)))))) (gN 10))
          (sSeq (sRet (mBin oAdd (mTup (aCons (mCall fn__law_of (aCons (mVar 0) (aCons (mLst (aCons (mC (.p (.str "and"))) (aCons (mC (.p (.str "or"))) aNil))) aNil))) aNil)) (mCall oTuple (aCons (mVar 10) aNil)))) sNil) [some (.ref i), some (.p (.int L)), some (.ref j), some (.p (.int ((d' + 1 : Nat) : Int))), some (.p (.int w)), none, none, none, none, none, none] S1 = some (.rt (.p y), S2) ∧ GF nm (d' + 1) L y ∧ Sm i S S2 ∧ Dn (n + cost (d' + 1)) S2 i := by
        obtain ⟨y0, S2, g1, ⟨v, rfl, v0, v1⟩, g3, g4⟩ := drw_draw (i := i) (b := 4) (by decide) (by decide) (n + 1) S1 d1 (by omega)
        have hv3 : cost d' * (rgInts 0 v.toNat).length ≤ cost d' * 3 := Nat.mul_le_mul_left _ (by rw [rgInts_len]; omega)
        obtain ⟨ys, S3, h1, h2, h3, h4, h5⟩ := lc_drw (i := i) (k := cost d') (j := 8) (P := GF nm d' L) (te := mCall (fn__law_formula fuel) (aCons (mVar 0) (aCons (mVar 1) (aCons (mVar 2) (aCons (mBin oSub (mVar 3) (mC (.p (.int 1)))) aNil))))) (rgInts 0 v.toNat) [] [some (.ref i), some (.p (.int L)), some (.ref j), some (.p (.int ((d' + 1 : Nat) : Int))), some (.p (.int w)), none, none, none, none, none, none] (n + 2) S2
          (fun x hx S0 l0 o0 n0 m0 k0 => by
            obtain ⟨y, S4, q1, q2, q3, q4⟩ := son L d' n0 S0 rfl (by omega) (g3.trans ⟨l0, o0⟩) m0 k0
            refine ⟨y, S4, (call_eq (a4_eq rfl rfl rfl (bin_eq rfl rfl oSub_int))).trans ?_, q2, q3, q4⟩
            rw [ed]
            exact q1) g4 (by omega)
        rw [rgInts_len] at h2
        obtain ⟨y, S5, k1, k2, k3, k4⟩ := of_run (i := i) (n := n + 2 + cost d' * (rgInts 0 v.toNat).length) (S := S3) (d := .p (.lst [.str "and", .str "or"])) (xs := [.str "and", .str "or"]) (.inl rfl) (by simp) (by decide) h5 (by omega)
        have hy : ∃ x : Str, y = .str x ∧ (x = "and" ∨ x = "or") := by
          simp only [List.mem_cons, List.not_mem_nil, or_false] at k2
          rcases k2 with rfl | rfl
          · exact ⟨_, rfl, .inl rfl⟩
          · exact ⟨_, rfl, .inr rfl⟩
        obtain ⟨x, rfl, hxw⟩ := hy
        refine ⟨.tup (.str x :: ys), S5, ?_, .junc hxw (by omega) h3, ((s1.trans g3).trans h4).trans k3, k4.mono (by omega)⟩
        refine Eq.trans (seq_nx (asg_eq (d := .p (.lst ys)) (S1 := S3) ?_)) (seq_rt (ret_eq (bin_eq (x := .p (.tup [.str x])) (y := .p (.tup ys)) (S1 := S5) (S2 := S5) (tup1 ?_) rfl ?_)))
        · unfold mLc
          have hr : iRange1 (aCons (mCall fn__law_draw (aCons (mVar 0) (aCons (mC (.p (.int 4))) aNil))) aNil) [some (.ref i), some (.p (.int L)), some (.ref j), some (.p (.int ((d' + 1 : Nat) : Int))), some (.p (.int w)), none, none, none, none, none, none] S1 = some (rgInts 0 v.toNat, S2) := by
            have q : -100000 ≤ v ∧ v ≤ 100000 := ⟨by omega, by omega⟩
            unfold iRange1
            simp only [sSeq, sIf, sAsg, sRet, sNil, sDrop, bnd, ret, fail, mVal, mBin, mUn, mCall, aCons, aNil, mVar, mC, gN, mIf, mOr, mAnd, mNot, List.getElem?_cons_zero, List.getElem?_cons_succ, List.set_cons_zero, List.set_cons_succ, if_true, if_false, Bool.false_eq_true, Bool.not_true, Bool.not_false, ↓reduceIte, g1, q, and_self]
          rw [bnd_eq hr]
          refine Eq.trans (bnd_eq (a := ys) (S1 := S3) ?_) rfl
          have := h1
          rw [List.nil_append] at this
          exact this
        · simp only [sSeq, sIf, sAsg, sRet, sNil, sDrop, bnd, ret, fail, mVal, mBin, mUn, mCall, aCons, aNil, mVar, mC, gN, mIf, mOr, mAnd, mNot, List.getElem?_cons_zero, List.getElem?_cons_succ, List.set_cons_zero, List.set_cons_succ, if_true, if_false, Bool.false_eq_true, Bool.not_true, Bool.not_false, ↓reduceIte, mLst, pds, Option.map_some, List.length_cons, List.length_nil]
          exact k1
        · have : 1 + ys.length ≤ sizeLine := by have := line_ge; omega
          simp [oAdd, this]
      by_cases c7 : w < 7
      · by_cases hne : nm = []
        · rw [skip_if ((and_t ((tLt 7 _ _ _ _ _ _).trans (by rw [decide_eq_true c7]))).trans ((tN _ _ _ _ _ _ _).trans (by rw [hne]; rfl)))]
          exact junc
        · obtain ⟨y, S2, k1, k2, k3, k4⟩ := of_run (i := i) (n := n + 1) (S := S1) (d := .ref j) (xs := encN nm) (.inr ⟨j, hj, rfl, hS1⟩) (by simpa [encN] using hne) (by simp [encN]; omega) d1 (by omega)
          obtain ⟨p, hp1, rfl⟩ := List.mem_map.mp k2
          have hs4 := hns p hp1
          have hbd : (L + 1) * (rgInts 0 p.2).length ≤ 9 * 4 := Nat.mul_le_mul (by omega) (by rw [rgInts_len]; exact hs4)
          obtain ⟨ys, S3, h1, h2, h3, h4, h5⟩ := lc_drw (i := i) (k := L + 1) (j := 8) (P := FormP 2 L) (te := mCall oTuple (aCons (mLc [5] (iRange1 (aCons (mBin oAdd (mVar 1) (mC (.p (.int 1)))) aNil)) (gN 5) tYes1 (mBin oSub (mCall fn__law_draw (aCons (mVar 0) (aCons (mC (.p (.int 5))) aNil))) (mC (.p (.int 2))))) aNil)) (rgInts 0 p.2) [] [some (.ref i), some (.p (.int L)), some (.ref j), some (.p (.int ((d' + 1 : Nat) : Int))), some (.p (.int w)), none, some (.p (.str p.1)), some (.p (.int p.2)), none, none, none] (n + 2) S2
            (fun x hx S0 l0 o0 n0 m0 k0 => form_run (i := i) (n := n0) (L := L) (B := 2) (b := 5) (c := 2) (S := S0) (by decide) (by decide) (by decide) (by decide) rfl rfl (by omega) m0 k0) k4 (by omega)
          rw [rgInts_len] at h2
          refine ⟨.tup [.str "named", .str p.1, .tup ys], S3, take_if (S1 := S1) ((and_t ((tLt 7 _ _ _ _ _ _).trans (by rw [decide_eq_true c7]))).trans ((tN _ _ _ _ _ _ _).trans ?_)) ?_, .named (s := p.2) hp1 h2 h3, (s1.trans k3).trans h4, h5.mono (by omega)⟩
          · cases nm with
            | nil => exact absurd rfl hne
            | cons _ _ => rfl
          · refine Eq.trans (seq_nx (asg_eq' (d := .p (.tup [.str p.1, .int p.2])) (S1 := S2) ((call_eq (a2_eq rfl rfl)).trans k1) rfl)) ?_
            refine Eq.trans (seq_nx (asg_eq (d := .p (.lst ys)) (S1 := S3) ?_)) (seq_rt (ret_eq (tup3 rfl rfl rfl)))
            unfold mLc
            have hr : iRange1 (aCons (mVar 7) aNil) [some (.ref i), some (.p (.int L)), some (.ref j), some (.p (.int ((d' + 1 : Nat) : Int))), some (.p (.int w)), none, some (.p (.str p.1)), some (.p (.int p.2)), none, none, none] S2 = some (rgInts 0 p.2, S2) := by
              have q : -100000 ≤ (p.2 : Int) ∧ (p.2 : Int) ≤ 100000 := ⟨by omega, by omega⟩
              unfold iRange1
              simp only [sSeq, sIf, sAsg, sRet, sNil, sDrop, bnd, ret, fail, mVal, mBin, mUn, mCall, aCons, aNil, mVar, mC, gN, mIf, mOr, mAnd, mNot, List.getElem?_cons_zero, List.getElem?_cons_succ, List.set_cons_zero, List.set_cons_succ, if_true, if_false, Bool.false_eq_true, Bool.not_true, Bool.not_false, ↓reduceIte, q, and_self]
              rfl
            refine Eq.trans (bnd_eq hr) ?_
            refine Eq.trans (bnd_eq (a := ys) (S1 := S3) ?_) rfl
            have := h1
            rw [List.nil_append] at this
            exact this
      · rw [skip_if (and_f ((tLt 7 _ _ _ _ _ _).trans (by rw [decide_eq_false c7])))]
        exact junc
end Pt
set_option maxRecDepth 100000
set_option maxHeartbeats 2000000
/-! Q6: _law_begun. -/
namespace Pt
open PySem PySem.Spec PyProof.Rows L2
theorem cutP_ints {ns : List Int} (lo hi : Option Int) : ∃ cs : List Int, cutP (ns.map PD.int) lo hi = cs.map PD.int ∧ ∀ z ∈ cs, z ∈ ns := by
  unfold cutP
  refine ⟨(ns.drop _).take _, by rw [List.map_take, List.map_drop], fun z hz => List.mem_of_mem_drop (List.mem_of_mem_take hz)⟩
/-- a comprehension that reads, with a test -/
theorem lc_sub {j : Nat} {P : PD → Prop} {tt : MT} {te : ME} {S : List Cell} {E : Vr} : ∀ (xs acc : List PD), (∀ x ∈ xs, ∃ b, tt (E.set j (some (.p x))) S = some (b, S) ∧ (b = true → ∃ y, te (E.set j (some (.p x))) S = some (.p y, S) ∧ P y)) →
    ∃ ys, lcLoop E (gN j) tt te xs acc S = some (acc ++ ys, S) ∧ ∀ y ∈ ys, P y
  | [], acc, _ => ⟨[], by simp [lcLoop, ret], by simp⟩
  | x :: xs, acc, h => by
    obtain ⟨b, h1, h2⟩ := h x List.mem_cons_self
    cases b with
    | false =>
      obtain ⟨ys, g1, g2⟩ := lc_sub xs acc fun x hx => h x (List.mem_cons_of_mem _ hx)
      refine ⟨ys, ?_, g2⟩
      unfold lcLoop
      simp only [gN, h1]
      exact g1
    | true =>
      obtain ⟨y, e1, e2⟩ := h2 rfl
      obtain ⟨ys, g1, g2⟩ := lc_sub xs (acc ++ [y]) fun x hx => h x (List.mem_cons_of_mem _ hx)
      refine ⟨y :: ys, ?_, fun z hz => ?_⟩
      · unfold lcLoop
        simp only [gN, h1, e1]
        rw [show acc ++ y :: ys = acc ++ [y] ++ ys by simp]
        exact g1
      · rcases List.mem_cons.mp hz with rfl | hz
        · exact e2
        · exact g2 z hz
/-- a for that keeps something -/
theorem fLoop_inv {t : Tg} {mb : MS} {I : Vr → List Cell → Prop} : ∀ (xs : List PD), (∀ x ∈ xs, ∀ E S, I E S → ∃ E1 E2 S2, t (.p x) E = some E1 ∧ mb E1 S = some (.nx E2, S2) ∧ I E2 S2) → ∀ E S, I E S → ∃ E2 S2, fLoop t mb xs E S = some (.nx E2, S2) ∧ I E2 S2
  | [], _, E, S, h => ⟨E, S, rfl, h⟩
  | x :: xs, hx, E, S, h => by
    obtain ⟨E1, E2, S2, h1, h2, h3⟩ := hx x List.mem_cons_self E S h
    obtain ⟨E3, S3, g1, g2⟩ := fLoop_inv xs (fun y hy => hx y (List.mem_cons_of_mem _ hy)) E2 S2 h3
    refine ⟨E3, S3, ?_, g2⟩
    unfold fLoop
    simp only [h1, h2]
    exact g1
theorem trim_new {S : List Cell} {kvs : List (L2.Key × D)} (h : cellOk S.length (.dK kvs)) : trim S (.ref S.length) (S ++ [.dK kvs]) = some (.ref S.length, S ++ [.dK kvs]) := by
  unfold trim
  have e : (S ++ [Cell.dK kvs]).take S.length = S := by simp
  rw [e, if_pos (goodTr_same S)]
  simp [h]
theorem pairs_cons {mk mv : ME} {r : List (ME × ME)} {E : Vr} {S : List Cell} {x y : D} {k : L2.Key} {ps : List (L2.Key × D)} (h1 : mk E S = some (x, S)) (h2 : mv E S = some (y, S)) (hk : keyOf x = some k) (h3 : mPairs r E S = some (ps, S)) : mPairs ((mk, mv) :: r) E S = some ((k, y) :: ps, S) := by
  unfold mPairs
  rw [bnd_eq h1, bnd_eq h2, bnd_eq h3, hk]
  rfl
theorem lst1 {a : ME} {E : Vr} {S S1 : List Cell} {y : PD} (h : a E S = some (.p y, S1)) : mLst (aCons a aNil) E S = some (.p (.lst [y]), S1) := by
  simp [mLst, aCons, aNil, bnd, ret, h, pds]
theorem begun_run {ns : List Int} {k : Int} {S : List Cell} (hl : ns.length ≤ 63) (hb : ∀ z ∈ ns, Builtin.Int.intBits z ≤ 1048576) (k0 : 0 ≤ k) (k9 : k ≤ 9) : ∃ c, fn__law_begun [.p (.scr ns), .p (.int k)] S = some (.ref S.length, S ++ [c]) ∧ Dn 0 (S ++ [c]) S.length := by
  obtain ⟨c1, e1, m1⟩ := cutP_ints (ns := ns) (some k) none
  obtain ⟨c2, e2, m2⟩ := cutP_ints (ns := ns) none (some k)
  have hcs : ∀ z ∈ c1 ++ c2, Builtin.Int.intBits z ≤ 1048576 := fun z hz => hb z (by
    rcases List.mem_append.mp hz with h | h
    · exact m1 z h
    · exact m2 z h)
  have l1 : c1.length ≤ 63 := by
    have := congrArg List.length e1
    simp [cutP] at this
    omega
  have l2 : c2.length ≤ 63 := by
    have := congrArg List.length e2
    simp [cutP] at this
    omega
  generalize hcs' : c1 ++ c2 = cs at hcs
  have lcs : cs.length ≤ 126 := by rw [← hcs']; simp; omega
  have p1 : (0 : Int) < 2147483647 := by omega
  suffices hx : ∃ l sd, m__law_begun [some (.p (.scr ns)), some (.p (.int k)), none, none, none, none] S = some (.rt (.ref S.length), S ++ [mcell l sd ((cs ++ [53 * k + 11]).map PD.int) 0]) ∧ sd.natAbs < 2 ^ 32 by
    obtain ⟨l, sd, h1, h2⟩ := hx
    refine ⟨mcell l sd ((cs ++ [53 * k + 11]).map PD.int) 0, ?_, l, sd, cs ++ [53 * k + 11], 0, by simp, by simp, fun z hz => ?_, by omega, by omega, h2⟩
    · unfold fn__law_begun
      unfold fnM
      rw [if_pos (show [D.p (PD.scr ns), D.p (PD.int k)].length = 2 from rfl)]
      have e : startE 6 [.p (.scr ns), .p (.int k)] = [some (.p (.scr ns)), some (.p (.int k)), none, none, none, none] := rfl
      rw [e, h1]
      exact trim_new mcell_ok
    · rcases List.mem_append.mp hz with h | h
      · exact Nat.le_trans (hcs z h) (by omega)
      · rw [List.mem_singleton.mp h]
        exact Nat.le_trans (PySem.intBits_le_iff (m := 10).mpr (by omega)) (by omega)
  unfold m__law_begun
  have a0 : mBin oAdd (mSl (mVar 0) (oSome (mVar 1)) oNone) (mSl (mVar 0) oNone (oSome (mVar 1))) [some (.p (.scr ns)), some (.p (.int k)), none, none, none, none] S = some (.p (.lst (cs.map PD.int)), S) := by
    refine bin_eq (x := .p (.lst (c1.map PD.int))) (y := .p (.lst (c2.map PD.int))) (S1 := S) (S2 := S) ?_ ?_ ?_
    · simp only [sSeq, sIf, sAsg, sRet, sNil, sDrop, bnd, ret, fail, mVal, mBin, mUn, mCall, aCons, aNil, mVar, mC, gN, mIf, mOr, mAnd, mNot, List.getElem?_cons_zero, List.getElem?_cons_succ, List.set_cons_zero, List.set_cons_succ, if_true, if_false, Bool.false_eq_true, Bool.not_true, Bool.not_false, ↓reduceIte, mSl, oSome, oNone, oSl, e1]
    · simp only [sSeq, sIf, sAsg, sRet, sNil, sDrop, bnd, ret, fail, mVal, mBin, mUn, mCall, aCons, aNil, mVar, mC, gN, mIf, mOr, mAnd, mNot, List.getElem?_cons_zero, List.getElem?_cons_succ, List.set_cons_zero, List.set_cons_succ, if_true, if_false, Bool.false_eq_true, Bool.not_true, Bool.not_false, ↓reduceIte, mSl, oSome, oNone, oSl, e2]
    · have : c1.length + c2.length ≤ sizeLine := by have := line_ge; omega
      simp [oAdd, this, ← hcs']
  obtain ⟨gr, g1, g2⟩ := lc_sub (j := 3) (P := fun y => ∃ z : Int, y = .int z) (tt := mVal (mBin oGe (mVar 3) (mBin oPow (mC (.p (.int 10))) (mC (.p (.int 18)))))) (te := mVar 3) (S := S) (E := wipeE [some (.p (.scr ns)), some (.p (.int k)), some (.p (.lst (cs.map PD.int))), none, none, none] [3]) (cs.map PD.int) []
    (fun x hx => by
      obtain ⟨z, hz, rfl⟩ := List.mem_map.mp hx
      refine ⟨decide ((10 : Int) ^ (18 : Int).toNat ≤ z), ?_, fun _ => ⟨.int z, rfl, z, rfl⟩⟩
      refine val_eq (bin_eq (x := .p (.int z)) (y := .p (.int ((10 : Int) ^ (18 : Int).toNat))) (S1 := S) (S2 := S) rfl (bin_eq (x := .p (.int 10)) (y := .p (.int 18)) rfl rfl ?_) rfl)
      have q : (0 : Int) ≤ 18 ∧ (18 : Int) ≤ 1000000 ∧ (10 : Int).natAbs < 2 ^ 64 := by decide
      simp only [oPow, if_pos q])
  rw [List.nil_append] at g1
  obtain ⟨gs, rfl⟩ : ∃ gs : List Int, gr = gs.map PD.int := by
    clear g1
    induction gr with
    | nil => exact ⟨[], rfl⟩
    | cons y r ih =>
      obtain ⟨z, rfl⟩ := g2 _ List.mem_cons_self
      obtain ⟨w, rfl⟩ := ih fun y hy => g2 y (List.mem_cons_of_mem _ hy)
      exact ⟨z :: w, rfl⟩
  have a1 : mLc [3] (iSeq (mVar 2)) (gN 3) (mVal (mBin oGe (mVar 3) (mBin oPow (mC (.p (.int 10))) (mC (.p (.int 18)))))) (mVar 3) [some (.p (.scr ns)), some (.p (.int k)), some (.p (.lst (cs.map PD.int))), none, none, none] S = some (.p (.lst (gs.map PD.int)), S) := by
    unfold mLc
    refine Eq.trans (bnd_eq (a := cs.map PD.int) (S1 := S) rfl) ?_
    rw [bnd_eq g1]
    rfl
  refine ⟨(gs.head?.getD 0), ?_⟩
  obtain ⟨E2, S2, f1, ⟨x3, sd, hE2, hS2, hsd⟩⟩ := fLoop_inv (t := gN 3) (mb := sSeq (sAsg (mBin oMod (mCall oInt (aCons (mBin oAdd (mBin oMulG (mVar 5) (mC (.p (.int 48271)))) (mVar 3)) aNil)) (mC (.p (.int 2147483647)))) (gN 5)) sNil)
    (I := fun E S' => ∃ (x3 : Option D) (sd : Int), E = [some (.p (.scr ns)), some (.p (.int k)), some (.p (.lst (cs.map PD.int))), x3, some (.p (.lst (gs.map PD.int))), some (.p (.int sd))] ∧ S' = S ∧ sd.natAbs < 2 ^ 32) (cs.map PD.int)
    (fun x hx E S' ⟨x3, sd, hE, hS, h⟩ => by
      subst hE
      subst hS
      obtain ⟨z, hz, rfl⟩ := List.mem_map.mp hx
      have f : mulFits sd 48271 = true := mul_fits (m := 32) (n := 16) h (by decide) (by decide)
      have q1 := Int.emod_nonneg (sd * 48271 + z) (show (2147483647 : Int) ≠ 0 by omega)
      have q2 := Int.emod_lt_of_pos (sd * 48271 + z) p1
      refine ⟨_, _, S', rfl, ?_, some (.p (.int z)), (sd * 48271 + z) % 2147483647, rfl, rfl, by omega⟩
      refine Eq.trans (seq_nx (asg_eq (d := .p (.int ((sd * 48271 + z) % 2147483647))) (S1 := S') ?_)) rfl
      exact bin_eq ((call1_eq (bin_eq (bin_eq rfl rfl (oMulG_int f)) rfl oAdd_int)).trans oInt_int) rfl (oMod_int p1))
    [some (.p (.scr ns)), some (.p (.int k)), some (.p (.lst (cs.map PD.int))), none, some (.p (.lst (gs.map PD.int))), some (.p (.int (71 + k)))] S ⟨none, 71 + k, rfl, rfl, by omega⟩
  rw [hE2, hS2] at f1
  refine ⟨sd, ?_, hsd⟩
  refine Eq.trans (seq_nx (asg_eq a0)) ?_
  refine Eq.trans (seq_nx (asg_eq a1)) ?_
  refine Eq.trans (seq_nx (asg_eq (d := .p (.int (71 + k))) (S1 := S) (bin_eq rfl rfl oAdd_int))) ?_
  refine Eq.trans (seq_nx (E1 := [some (.p (.scr ns)), some (.p (.int k)), some (.p (.lst (cs.map PD.int))), x3, some (.p (.lst (gs.map PD.int))), some (.p (.int sd))]) (S1 := S) ?_) ?_
  · unfold sFor
    exact Eq.trans (bnd_eq (a := cs.map PD.int) (S1 := S) rfl) f1
  refine seq_rt (ret_eq ?_)
  have f53 : mulFits 53 k = true := mul_fits (m := 6) (n := 8) (by decide) (by omega) (by decide)
  unfold mDict
  refine Eq.trans (bnd_eq (a := [(.inr "left", .p (.int (gs.head?.getD 0))), (.inr "seed", .p (.int sd)), (.inr "cells", .p (.lst ((cs ++ [53 * k + 11]).map PD.int))), (.inr "spot", .p (.int 0))]) (S1 := S) (pairs_cons (x := .p (.str "left")) rfl ?_ rfl (pairs_cons (x := .p (.str "seed")) rfl rfl rfl (pairs_cons (x := .p (.str "cells")) rfl ?_ rfl (pairs_cons (x := .p (.str "spot")) rfl rfl rfl rfl))))) ?_
  · unfold mIf
    have hv : Pt.view S (.p (.lst (gs.map PD.int))) = some (.lst (gs.map PD.int)) := rfl
    refine Eq.trans (bnd_eq (val_eq (bin_eq (x := .p (.lst (gs.map PD.int))) (y := .p (.lst [])) (S1 := S) (S2 := S) rfl rfl (oEq_nil hv)))) ?_
    cases gs with
    | nil => rfl
    | cons z r =>
      refine bin_eq (x := .p (.lst ((z :: r).map PD.int))) (y := .p (.int 0)) (S1 := S) (S2 := S) rfl rfl (oIx_ints ?_)
      simp [atI, ixN]
  · refine bin_eq (x := .p (.lst (cs.map PD.int))) (y := .p (.lst [.int (53 * k + 11)])) (S1 := S) (S2 := S) rfl (lst1 (bin_eq (bin_eq rfl rfl (oMulG_int f53)) rfl oAdd_int)) ?_
    have : cs.length + 1 ≤ sizeLine := by have := line_ge; omega
    simp [oAdd, this]
  · rfl
end Pt
set_option maxRecDepth 100000
set_option maxHeartbeats 2000000
/-! Q7: _law_book. -/
namespace Pt
open PySem PySem.Spec PyProof.Rows L2
def titles : List Str := ["a", "b", "ab", "ba", "cell", "row", "tri", "zz"]
structure Rm where
  t : Str
  k : Nat
  d : Nat
  f : PD
def Rm.pd (r : Rm) : PD := .tup [.int r.k, .int r.d, r.f]
def nmOf (rs : List Rm) : List (Str × Nat) := rs.map fun r => (r.t, r.k + r.d)
def kvOf (rs : List Rm) : List (L2.Key × D) := rs.map fun r => (.inr r.t, .p r.pd)
def room (rs : List Rm) (t : Str) : Option Rm := rs.find? fun r => decide (r.t = t)
/-- drawn rooms, in the sequence in which they were drawn -/
inductive Bk : List Rm → Prop
  | nil : Bk []
  | snoc {rs : List Rm} {r : Rm} : Bk rs → r.t ∈ titles → r.t ∉ rs.map (·.t) → r.k ≤ 2 → r.d ≤ 2 → GF (nmOf rs) 2 (r.k + r.d) r.f → Bk (rs ++ [r])
theorem nodup_len {α : Type} [DecidableEq α] : ∀ {l m : List α}, l.Nodup → (∀ x ∈ l, x ∈ m) → l.length ≤ m.length
  | [], _, _, _ => Nat.zero_le _
  | x :: l, m, h, hs => by
    rw [List.nodup_cons] at h
    have hx := hs x List.mem_cons_self
    have := nodup_len (l := l) (m := m.erase x) h.2 fun y hy => by
      refine (List.mem_erase_of_ne ?_).mpr (hs y (List.mem_cons_of_mem _ hy))
      rintro rfl
      exact h.1 hy
    rw [List.length_erase_of_mem hx] at this
    have hp : 0 < m.length := List.length_pos_of_mem hx
    simp only [List.length_cons]
    omega
theorem Bk.nodup {rs : List Rm} (h : Bk rs) : (rs.map (·.t)).Nodup := by
  induction h with
  | nil => simp
  | snoc _ _ h2 _ _ _ ih =>
    rw [List.map_append, List.nodup_append]
    refine ⟨ih, by simp, fun a ha b hb => ?_⟩
    simp at hb
    subst hb
    rintro rfl
    exact h2 ha
theorem Bk.tit {rs : List Rm} (h : Bk rs) : ∀ r ∈ rs, r.t ∈ titles ∧ r.k ≤ 2 ∧ r.d ≤ 2 := by
  induction h with
  | nil => simp
  | snoc _ h1 _ h3 h4 _ ih =>
    intro r hr
    rcases List.mem_append.mp hr with h | h
    · exact ih r h
    · rw [List.mem_singleton.mp h]
      exact ⟨h1, h3, h4⟩
theorem Bk.len {rs : List Rm} (h : Bk rs) : rs.length ≤ 8 := by
  have := nodup_len h.nodup (m := titles) fun x hx => by
    obtain ⟨r, hr, rfl⟩ := List.mem_map.mp hx
    exact (h.tit r hr).1
  simpa [titles] using this
theorem room_mem {rs : List Rm} {t : Str} {r : Rm} (h : room rs t = some r) : r ∈ rs ∧ r.t = t := ⟨List.mem_of_find?_eq_some h, by simpa using List.find?_some h⟩
theorem room_some {rs : List Rm} {t : Str} (h : t ∈ rs.map (·.t)) : ∃ r, room rs t = some r := by
  obtain ⟨r, hr, e⟩ := List.mem_map.mp h
  cases hq : room rs t with
  | some q => exact ⟨q, rfl⟩
  | none =>
    have := List.find?_eq_none.mp hq r hr
    simp [e] at this
theorem room_none {rs : List Rm} {t : Str} (h : t ∉ rs.map (·.t)) : room rs t = none := by
  unfold room
  rw [List.find?_eq_none]
  intro r hr
  simp
  rintro rfl
  exact h (List.mem_map.mpr ⟨r, hr, rfl⟩)
theorem valD_kv {rs : List Rm} {t : Str} : valD (kvOf rs) (.inr t) = (room rs t).map fun r => D.p r.pd := by
  induction rs with
  | nil => rfl
  | cons r rs ih =>
    unfold valD kvOf room at *
    simp only [List.map_cons, List.find?_cons]
    by_cases h : r.t = t
    · simp [h]
    · have h2 : (Sum.inr r.t : L2.Key) ≠ .inr t := fun z => h (Sum.inr.inj z)
      simp only [decide_eq_false h, decide_eq_false h2]
      exact ih
theorem putD_new {rs : List Rm} {r : Rm} (h : r.t ∉ rs.map (·.t)) : putD (kvOf rs) (.inr r.t) (.p r.pd) = kvOf (rs ++ [r]) := by
  unfold putD
  rw [if_neg]
  · simp [kvOf]
  · simp only [kvOf, List.any_map, List.any_eq_true, not_exists, not_and]
    intro q hq
    simp
    intro e
    exact h (List.mem_map.mpr ⟨q, hq, e⟩)
theorem strKeys_kv : ∀ {rs : List Rm}, strKeys (kvOf rs) = some (rs.map (·.t))
  | [] => rfl
  | r :: rs => by
    have := strKeys_kv (rs := rs)
    simp only [kvOf, List.map_cons, strKeys] at *
    rw [this]
    rfl
/-- what the loop of _law_book keeps -/
structure BI (i n : Nat) (S0 S : List Cell) (rs : List Rm) : Prop where
  len : S.length = S0.length + 2
  oth : ∀ q, q < S0.length → q ≠ i → S[q]? = S0[q]?
  fnd : S[S0.length]? = some (.lst ((encN (nmOf rs)).map .p))
  rms : S[S0.length + 1]? = some (.dK (kvOf rs))
  dn : Dn n S i
  gb : Bk rs
theorem BI.sm {i n m : Nat} {S0 S S1 : List Cell} {rs : List Rm} (b : BI i n S0 S rs) (hi : i < S0.length) (s : Sm i S S1) (d : Dn m S1 i) : BI i m S0 S1 rs :=
  ⟨s.len.trans b.len, fun q h1 h2 => (s.oth q h2).trans (b.oth q h1 h2), (s.oth _ (by omega)).trans b.fnd, (s.oth _ (by omega)).trans b.rms, d, b.gb⟩
theorem Dn.set {n i q : Nat} {S : List Cell} {c : Cell} (h : Dn n S i) (hq : q ≠ i) : Dn n (S.set q c) i := by
  obtain ⟨a, b, c', d, h1, h2⟩ := h
  exact ⟨a, b, c', d, by rw [List.getElem?_set_ne hq]; exact h1, h2⟩
theorem BI.add {i n : Nat} {S0 S : List Cell} {rs : List Rm} {r : Rm} (b : BI i n S0 S rs) (hi : i < S0.length) (h1 : r.t ∈ titles) (h2 : r.t ∉ rs.map (·.t)) (h3 : r.k ≤ 2) (h4 : r.d ≤ 2) (h5 : GF (nmOf rs) 2 (r.k + r.d) r.f) :
    BI i n S0 ((S.set (S0.length + 1) (.dK (putD (kvOf rs) (.inr r.t) (.p r.pd)))).set S0.length (.lst ((encN (nmOf rs)).map .p ++ [.p (.tup [.str r.t, .int ((r.k + r.d : Nat) : Int)])]))) (rs ++ [r]) := by
  refine ⟨by simp [b.len], fun q hq hqi => ?_, ?_, ?_, (b.dn.set (by omega)).set (by omega), .snoc b.gb h1 h2 h3 h4 h5⟩
  · rw [List.getElem?_set_ne (by omega), List.getElem?_set_ne (by omega)]
    exact b.oth q hq hqi
  · rw [List.getElem?_set_self (by simp [b.len])]
    simp [encN, nmOf]
  · rw [List.getElem?_set_ne (by omega), List.getElem?_set_self (by simp [b.len]), putD_new h2]
end Pt
set_option maxRecDepth 100000
set_option maxHeartbeats 2000000
/-! Q8: _law_book runs. -/
namespace Pt
open PySem PySem.Spec PyProof.Rows L2
theorem a1_eq {a : ME} {E : Vr} {S S1 : List Cell} {x : D} (h1 : a E S = some (x, S1)) : aCons a aNil E S = some ([x], S1) := by
  simp only [aCons, aNil, bnd, ret, h1]
theorem par_eq {a b : ME} {i j : Nat} {E : Vr} {S S1 S2 : List Cell} {x y : D} (h1 : a E S = some (x, S1)) (h2 : b E S1 = some (y, S2)) : sPar i j (aCons a (aCons b aNil)) E S = some (.nx ((E.set i (some x)).set j (some y)), S2) := by
  simp only [sPar, aCons, aNil, bnd, ret, h1, h2]
theorem drop_eq {m : ME} {E : Vr} {S S1 : List Cell} {d : D} (h : m E S = some (d, S1)) : sDrop m E S = some (.nx E, S1) := by
  unfold sDrop
  rw [bnd_eq h]
  rfl
theorem app_eq {mo m : ME} {E : Vr} {S : List Cell} {q : Nat} {xs : List D} {d : D} (ho : mo E S = some (.ref q, S)) (h : m E S = some (d, S)) (hS : S[q]? = some (.lst xs)) (hl : xs.length < 100000) : mMeth fAppend mo (aCons m aNil) E S = some (.p .non, S.set q (.lst (xs ++ [d]))) := by
  unfold mMeth
  rw [bnd_eq ho]
  simp only [hS]
  rw [bnd_eq (a1_eq h)]
  simp only [hS, fAppend, hl, if_true]
theorem dput_eq {mo mi mv : ME} {E : Vr} {S S1 : List Cell} {q : Nat} {k : L2.Key} {y d : D} {kvs : List (L2.Key × D)} (hv : mv E S = some (d, S1)) (ho : mo E S1 = some (.ref q, S1)) (hi : mi E S1 = some (y, S1)) (hk : keyOf y = some k) (hS : S1[q]? = some (.dK kvs)) (hl : kvs.length < 100000) :
    sDPutM mo mi mv E S = some (.nx E, S1.set q (.dK (putD kvs k d))) := by
  unfold sDPutM
  rw [bnd_eq hv, bnd_eq ho, bnd_eq hi]
  simp only [hk, hS, hl, if_true]
theorem in_dct {neg : Bool} {t : Str} {q : Nat} {S : List Cell} {kvs : List (L2.Key × D)} (hS : S[q]? = some (.dK kvs)) : oIn neg (.p (.str t)) (.ref q) S = some (.p (.bl ((valD kvs (.inr t)).isSome != neg)), S) := by
  simp [oIn, oInSeq, seqOf, view, hS, oInDct, keyOf, dictOf]
theorem ix_dct {t : Str} {q : Nat} {S : List Cell} {kvs : List (L2.Key × D)} {d : D} (hS : S[q]? = some (.dK kvs)) (h : valD kvs (.inr t) = some d) : oIx (.ref q) (.p (.str t)) S = some (d, S) := by
  simp [oIx, oIxSeq, seqOf, view, hS, oIxDct, keyOf, dictOf, h]
/-- a step of the book -/
noncomputable def bookStep : MS := sSeq (sAsg (mCall fn__law_of (aCons (mVar 0) (aCons (mVar 2) aNil))) (gN 6))
  (sSeq (sIf (mVal (mBin (oIn true) (mVar 6) (mVar 4))) (sSeq (sPar 7 8 (aCons (mCall fn__law_draw (aCons (mVar 0) (aCons (mC (.p (.int 3))) aNil))) (aCons (mCall fn__law_draw (aCons (mVar 0) (aCons (mC (.p (.int 3))) aNil))) aNil)))
  (sSeq (sDPutM (mVar 4) (mVar 6) (mTup (aCons (mVar 7) (aCons (mVar 8) (aCons (mCall (fn__law_formula 64) (aCons (mVar 0) (aCons (mBin oAdd (mVar 7) (mVar 8)) (aCons (mVar 3) (aCons (mC (.p (.int 2))) aNil))))) aNil)))))
  (sSeq (sDrop (mMeth fAppend (mVar 3) (aCons (mTup (aCons (mVar 6) (aCons (mBin oAdd (mVar 7) (mVar 8)) aNil))) aNil)))
  sNil))) sNil)
  sNil)
theorem step_run {i n : Nat} {S0 S : List Cell} {rs : List Rm} {c : Int} {x5 x6 x7 x8 : Option D} (hi : i < S0.length) (b : BI i n S0 S rs) (hk : n + 16003 < 1000000000) :
    ∃ y6 y7 y8 S1 rs1, bookStep [some (.ref i), some (.p (.int c)), some (.p (.lst (titles.map PD.str))), some (.ref S0.length), some (.ref (S0.length + 1)), x5, x6, x7, x8] S = some (.nx [some (.ref i), some (.p (.int c)), some (.p (.lst (titles.map PD.str))), some (.ref S0.length), some (.ref (S0.length + 1)), x5, y6, y7, y8], S1) ∧ BI i (n + 16003) S0 S1 rs1 := by
  obtain ⟨y, S1, k1, k2, k3, k4⟩ := of_run (i := i) (n := n) (S := S) (d := .p (.lst (titles.map PD.str))) (xs := titles.map PD.str) (.inl rfl) (by simp [titles]) (by simp [titles]) b.dn (by omega)
  obtain ⟨t, ht, rfl⟩ := List.mem_map.mp k2
  have b1 := b.sm hi k3 k4
  unfold bookStep
  have hA : ∀ r : MS, sSeq (sAsg (mCall fn__law_of (aCons (mVar 0) (aCons (mVar 2) aNil))) (gN 6)) r [some (.ref i), some (.p (.int c)), some (.p (.lst (titles.map PD.str))), some (.ref S0.length), some (.ref (S0.length + 1)), x5, x6, x7, x8] S =
      r [some (.ref i), some (.p (.int c)), some (.p (.lst (titles.map PD.str))), some (.ref S0.length), some (.ref (S0.length + 1)), x5, some (.p (.str t)), x7, x8] S1 := fun r => seq_nx (asg_eq ((call_eq (a2_eq rfl rfl)).trans k1))
  rw [hA]
  have tI : mVal (mBin (oIn true) (mVar 6) (mVar 4)) [some (.ref i), some (.p (.int c)), some (.p (.lst (titles.map PD.str))), some (.ref S0.length), some (.ref (S0.length + 1)), x5, some (.p (.str t)), x7, x8] S1 = some ((valD (kvOf rs) (.inr t)).isSome != true, S1) :=
    val_eq (bin_eq rfl rfl (in_dct b1.rms))
  by_cases hin : t ∈ rs.map (·.t)
  · obtain ⟨r, hr⟩ := room_some hin
    refine ⟨_, _, _, S1, rs, (skip_if (tI.trans ?_)).trans rfl, b1.sm hi Sm.refl (b1.dn.mono (by omega))⟩
    rw [valD_kv, hr]
    rfl
  · have hv : ((valD (kvOf rs) (.inr t)).isSome != true) = true := by
      rw [valD_kv, room_none hin]
      rfl
    obtain ⟨y1, S2, p1, ⟨k, rfl, p2, p3⟩, p4, p5⟩ := drw_draw (i := i) (b := 3) (by decide) (by decide) (n + 1) S1 b1.dn (by omega)
    obtain ⟨y2, S3, q1, ⟨d, rfl, q2, q3⟩, q4, q5⟩ := drw_draw (i := i) (b := 3) (by decide) (by decide) (n + 2) S2 p5 (by omega)
    have b3 := (b1.sm hi p4 p5).sm hi q4 q5
    obtain ⟨k', rfl⟩ := Int.eq_ofNat_of_zero_le p2
    obtain ⟨d', rfl⟩ := Int.eq_ofNat_of_zero_le q2
    have hlen : rs.length ≤ 8 := b.gb.len
    obtain ⟨f, S4, f1, f2, f3, f4⟩ := formula_run (nm := nmOf rs) (i := i) (j := S0.length) (by omega) (by simp [nmOf]; omega) (fun p hp => by
      obtain ⟨r, hr, rfl⟩ := List.mem_map.mp hp
      have := b.gb.tit r hr
      show r.k + r.d ≤ 4
      omega) 64 2 (k' + d') (n + 3) S3 (by omega) (by omega) b3.fnd q5 (by simp only [cost]; omega)
    have b4 := b3.sm hi f3 f4
    have hadd := b4.add (r := ⟨t, k', d', f⟩) hi ht hin (by show k' ≤ 2; omega) (by show d' ≤ 2; omega) f2
    refine ⟨some (.p (.str t)), some (.p (.int k')), some (.p (.int d')), _, rs ++ [⟨t, k', d', f⟩], ?_, hadd.sm hi Sm.refl (hadd.dn.mono (by simp only [cost]; omega))⟩
    refine Eq.trans (seq_nx (E1 := [some (.ref i), some (.p (.int c)), some (.p (.lst (titles.map PD.str))), some (.ref S0.length), some (.ref (S0.length + 1)), x5, some (.p (.str t)), some (.p (.int k')), some (.p (.int d'))]) (S1 := _) ?_) rfl
    rw [if_t (tI.trans (by rw [hv]))]
    have d3 : ∀ (S S' : List Cell) (v : PD) (x7 x8 : Option D), fn__law_draw [.ref i, .p (.int 3)] S = some (.p v, S') → mCall fn__law_draw (aCons (mVar 0) (aCons (mC (.p (.int 3))) aNil)) [some (.ref i), some (.p (.int c)), some (.p (.lst (titles.map PD.str))), some (.ref S0.length), some (.ref (S0.length + 1)), x5, some (.p (.str t)), x7, x8] S = some (.p v, S') :=
      fun S S' v x7 x8 h => (call_eq (a2_eq rfl rfl)).trans h
    refine Eq.trans (seq_nx (par_eq (d3 _ _ _ _ _ p1) (d3 _ _ _ _ _ q1))) ?_
    refine Eq.trans (seq_nx (dput_eq (k := .inr t) (y := .p (.str t)) (q := S0.length + 1) (S1 := S4) (d := .p (Rm.pd ⟨t, k', d', f⟩)) (tup3 rfl rfl ((call_eq (a4_eq rfl (bin_eq rfl rfl oAdd_int) rfl rfl)).trans f1)) rfl rfl rfl b4.rms (by simp [kvOf]; omega))) ?_
    refine Eq.trans (seq_nx (drop_eq (app_eq (q := S0.length) (d := .p (.tup [.str t, .int ((k' + d' : Nat) : Int)])) (xs := (encN (nmOf rs)).map .p) rfl (tup2 rfl (bin_eq rfl rfl oAdd_int)) ?_ (by simp [encN, nmOf]; omega)))) rfl
    rw [List.getElem?_set_ne (by omega)]
    exact b4.fnd
end Pt
set_option maxRecDepth 100000
set_option maxHeartbeats 2000000
/-! Q9: _law_book as a whole. -/
namespace Pt
open PySem PySem.Spec PyProof.Rows L2
theorem book_loop {i : Nat} {S0 : List Cell} {c : Int} (hi : i < S0.length) : ∀ (xs : List PD) (x5 x6 x7 x8 : Option D) (n : Nat) (S : List Cell) (rs : List Rm), BI i n S0 S rs → n + 16003 * xs.length < 1000000000 →
    ∃ y5 y6 y7 y8 S1 rs1, fLoop (gN 5) bookStep xs [some (.ref i), some (.p (.int c)), some (.p (.lst (titles.map PD.str))), some (.ref S0.length), some (.ref (S0.length + 1)), x5, x6, x7, x8] S = some (.nx [some (.ref i), some (.p (.int c)), some (.p (.lst (titles.map PD.str))), some (.ref S0.length), some (.ref (S0.length + 1)), y5, y6, y7, y8], S1) ∧ BI i (n + 16003 * xs.length) S0 S1 rs1
  | [], x5, x6, x7, x8, n, S, rs, b, _ => ⟨x5, x6, x7, x8, S, rs, rfl, b⟩
  | x :: xs, x5, x6, x7, x8, n, S, rs, b, hk => by
    have ek : 16003 * (x :: xs).length = 16003 + 16003 * xs.length := by simp only [List.length_cons]; omega
    obtain ⟨y6, y7, y8, S1, rs1, h1, b1⟩ := step_run (c := c) (x5 := some (.p x)) (x6 := x6) (x7 := x7) (x8 := x8) hi b (by omega)
    obtain ⟨z5, z6, z7, z8, S2, rs2, h2, b2⟩ := book_loop hi xs (some (.p x)) y6 y7 y8 (n + 16003) S1 rs1 b1 (by omega)
    refine ⟨z5, z6, z7, z8, S2, rs2, ?_, by rw [ek, ← Nat.add_assoc]; exact b2⟩
    unfold fLoop
    simp only [gN, List.set_cons_succ, List.set_cons_zero, h1]
    exact h2
def rowOf (rs : List Rm) (t : Str) : PD := .tup [.str t, match room rs t with
  | some r => r.pd
  | none => .non]
def bookOf (rs : List Rm) : PD := .tup ((sortS (rs.map (·.t))).map (rowOf rs))
theorem mem_sortS {xs : List Str} {x : Str} : x ∈ sortS xs ↔ x ∈ xs := by
  unfold sortS
  exact List.mem_mergeSort
theorem lc_map {j : Nat} {te : ME} {S : List Cell} {E : Vr} {f : PD → PD} : ∀ (xs acc : List PD), (∀ x ∈ xs, te (E.set j (some (.p x))) S = some (.p (f x), S)) → lcLoop E (gN j) tYes1 te xs acc S = some (acc ++ xs.map f, S)
  | [], acc, _ => by simp [lcLoop, ret]
  | x :: xs, acc, h => by
    unfold lcLoop
    simp only [gN, tYes1, h x List.mem_cons_self]
    rw [show acc ++ List.map f (x :: xs) = acc ++ [f x] ++ xs.map f by simp]
    exact lc_map xs _ fun y hy => h y (List.mem_cons_of_mem _ hy)
theorem book_run {i n : Nat} {S : List Cell} {c : Int} (hi : i < S.length) (c0 : 0 ≤ c) (c1 : c ≤ 14) (hm : Dn n S i) (hk : n + 224042 < 1000000000) : ∃ rs S1, fn__law_book [.ref i, .p (.int c)] S = some (.p (bookOf rs), S1) ∧ Bk rs ∧ Sm i S S1 ∧ Dn (n + 224042) S1 i := by
  have hrg : (rgInts 0 c.toNat).length ≤ 14 := by rw [rgInts_len]; omega
  have b0 : BI i n S (S ++ [Cell.lst []] ++ [Cell.dK []]) [] := by
    refine ⟨by simp, fun q h1 h2 => ?_, ?_, ?_, ?_, .nil⟩
    · rw [List.append_assoc, List.getElem?_append_left h1]
    · simp [encN, nmOf]
    · simp [kvOf]
    · obtain ⟨a, b, c', d, h1, h2⟩ := hm
      exact ⟨a, b, c', d, by rw [List.append_assoc, List.getElem?_append_left hi]; exact h1, h2⟩
  obtain ⟨y5, y6, y7, y8, S1, rs, h1, b1⟩ := book_loop (c := c) hi (rgInts 0 c.toNat) none none none none n _ [] b0 (by omega)
  have dnE : Dn (n + 224042) S1 i := b1.dn.mono (by omega)
  have e1 : S1 = S1.take S.length ++ S1.drop S.length := (List.take_append_drop _ _).symm
  have oth : ∀ q, q < S.length → (S1.take S.length)[q]? = S1[q]? := fun q hq => by rw [List.getElem?_take_of_lt hq]
  refine ⟨rs, S1.take S.length, ?_, b1.gb, ⟨by rw [List.length_take, b1.len]; omega, fun q hq => ?_⟩, ?_⟩
  · unfold fn__law_book
    refine fnM_set (T := S1.drop S.length) rfl ?_ (by rw [List.length_take, b1.len]; omega) (Sm.good (i := i) (n := n + 224042) ⟨by rw [List.length_take, b1.len]; omega, fun q hq => ?_⟩ ?_)
    · rw [← e1]
      show m__law_book [some (.ref i), some (.p (.int c)), none, none, none, none, none, none, none] S = _
      unfold m__law_book
      refine Eq.trans (seq_nx (E1 := [some (.ref i), some (.p (.int c)), some (.p (.lst (titles.map PD.str))), some (.ref S.length), some (.ref (S.length + 1)), none, none, none, none]) (S1 := S ++ [Cell.lst []] ++ [Cell.dK []]) ?_) ?_
      · have hl : mLst (aCons (mC (.p (.str "a"))) (aCons (mC (.p (.str "b"))) (aCons (mC (.p (.str "ab"))) (aCons (mC (.p (.str "ba"))) (aCons (mC (.p (.str "cell"))) (aCons (mC (.p (.str "row"))) (aCons (mC (.p (.str "tri"))) (aCons (mC (.p (.str "zz"))) aNil)))))))) [some (.ref i), some (.p (.int c)), none, none, none, none, none, none, none] S = some (.p (.lst (titles.map PD.str)), S) := rfl
        have h2 : mLstR aNil [some (.ref i), some (.p (.int c)), none, none, none, none, none, none, none] S = some (.ref S.length, S ++ [Cell.lst []]) := rfl
        have h3 : mDNew [some (.ref i), some (.p (.int c)), none, none, none, none, none, none, none] (S ++ [Cell.lst []]) = some (.ref (S.length + 1), S ++ [Cell.lst []] ++ [Cell.dK []]) := by
          unfold mDNew
          simp
        unfold sUnp
        refine Eq.trans (bnd_eq (a := [.p (.lst (titles.map PD.str)), .ref S.length, .ref (S.length + 1)]) (S1 := S ++ [Cell.lst []] ++ [Cell.dK []]) ?_) rfl
        simp only [aCons, aNil, bnd, ret] at *
        simp only [hl, h2, h3]
      · refine Eq.trans (seq_nx (E1 := [some (.ref i), some (.p (.int c)), some (.p (.lst (titles.map PD.str))), some (.ref S.length), some (.ref (S.length + 1)), y5, y6, y7, y8]) (S1 := S1) ?_) ?_
        · unfold sFor
          refine Eq.trans (bnd_eq (a := rgInts 0 c.toNat) (S1 := S ++ [Cell.lst []] ++ [Cell.dK []]) ?_) h1
          have q : -100000 ≤ c ∧ c ≤ 100000 := ⟨by omega, by omega⟩
          unfold iRange1
          simp only [sSeq, sIf, sAsg, sRet, sNil, sDrop, bnd, ret, fail, mVal, mBin, mUn, mCall, aCons, aNil, mVar, mC, gN, mIf, mOr, mAnd, mNot, List.getElem?_cons_zero, List.getElem?_cons_succ, List.set_cons_zero, List.set_cons_succ, if_true, if_false, Bool.false_eq_true, Bool.not_true, Bool.not_false, ↓reduceIte, q, and_self]
        · refine seq_rt (ret_eq ((call1_eq (d := .p (.lst ((sortS (rs.map (·.t))).map (rowOf rs)))) (S1 := S1) ?_).trans rfl))
          unfold mLc
          have hv : view S1 (.ref (S.length + 1)) = none := by simp [view, b1.rms]
          have hd : dictOf S1 (.ref (S.length + 1)) = some (kvOf rs) := by simp [dictOf, b1.rms]
          have hs : oSorted [.ref (S.length + 1)] S1 = some (.p (.lst ((sortS (rs.map (·.t))).map PD.str)), S1) := by
            have hl : (rs.map (·.t)).length < 64 := by have := b1.gb.len; simp; omega
            unfold oSorted
            simp only [hv, hd, strKeys_kv, hl, if_true]
          refine Eq.trans (bnd_eq (a := (sortS (rs.map (·.t))).map PD.str) (S1 := S1) ?_) ?_
          · unfold iSeq
            exact bnd_eq ((call1_eq rfl).trans hs)
          · refine Eq.trans (bnd_eq (lc_map (f := fun x => match x with | .str t => rowOf rs t | _ => .non) _ [] fun x hx => ?_)) ?_
            · obtain ⟨t, ht, rfl⟩ := List.mem_map.mp hx
              obtain ⟨r, hr⟩ := room_some (mem_sortS.mp ht)
              have hq : valD (kvOf rs) (.inr t) = some (.p r.pd) := by rw [valD_kv, hr]; rfl
              have e : rowOf rs t = .tup [.str t, r.pd] := by unfold rowOf; rw [hr]
              show _ = some (D.p (rowOf rs t), S1)
              rw [e]
              exact tup2 rfl (bin_eq rfl rfl (ix_dct b1.rms hq))
            · rw [List.nil_append, List.map_map]
              rfl
    · by_cases hl : q < S.length
      · rw [oth q hl]
        exact b1.oth q hl hq
      · rw [List.getElem?_eq_none (by rw [List.length_take]; omega), List.getElem?_eq_none (by omega)]
    · obtain ⟨a, b, c', d, h1, h2⟩ := dnE
      exact ⟨a, b, c', d, by rw [oth i hi]; exact h1, h2⟩
  · by_cases hl : q < S.length
    · rw [oth q hl]
      exact b1.oth q hl hq
    · rw [List.getElem?_eq_none (by rw [List.length_take]; omega), List.getElem?_eq_none (by omega)]
  · obtain ⟨a, b, c', d, h1, h2⟩ := dnE
    exact ⟨a, b, c', d, by rw [oth i hi]; exact h1, h2⟩
end Pt
set_option maxRecDepth 100000
set_option maxHeartbeats 2000000
/-! Q10: calls that only tell a value; tests on words; _law_used, uses_of. -/
namespace Pt
open PySem PySem.Spec PyProof.Rows L2
/-- a call that only tells a value -/
def PR (o : OC) (ds : List D) (y : PD) : Prop := ∀ S, o ds S = some (.p y, S)
theorem PR.fn {N np : Nat} {m : MS} {ds : List D} {y : PD} (hl : ds.length = np) (h : ∀ S, ∃ T, m (startE N ds) S = some (.rt (.p y), S ++ T)) : PR (fnM N np m) ds y := fun S => by
  obtain ⟨T, h⟩ := h S
  exact fnM_p T hl h
theorem PR.fn0 {N np : Nat} {m : MS} {ds : List D} {y : PD} (hl : ds.length = np) (h : ∀ S, m (startE N ds) S = some (.rt (.p y), S)) : PR (fnM N np m) ds y := fun S => fnM_p0 hl (h S)
theorem PR.new {N np : Nat} {m : MS} {ds : List D} {ys : List PD} (hl : ds.length = np) (h : ∀ S, m (startE N ds) S = some (.rt (.ref S.length), S ++ [.lst (ys.map .p)])) : PR (fnM N np m) ds (.lst ys) := fun S => by
  unfold fnM
  rw [if_pos hl, h S]
  show trim S (.ref S.length) (S ++ [.lst (ys.map .p)]) = _
  unfold trim
  have e : (S ++ [Cell.lst (ys.map .p)]).take S.length = S := by simp
  rw [e, if_pos (goodTr_same S)]
  simp [pds_map]
/-! ### places -/
theorem atI_nat {xs : List PD} {n : Nat} {y : PD} (h : xs[n]? = some y) : atI xs (n : Int) = some y := by
  have hn : n < xs.length := (List.getElem?_eq_some_iff.mp h).1
  unfold atI
  have e : ixN xs.length ((n : Nat) : Int) = some n := by
    unfold ixN
    simp [hn]
  rw [e]
  exact h
theorem ix_n {xs : List PD} {n : Nat} {y : PD} {S : List Cell} (h : xs[n]? = some y) : oIx (.p (.tup xs)) (.p (.int (n : Int))) S = some (.p y, S) := by
  simp [oIx, oIxSeq, seqOf, view, atI_nat h]
theorem ix0 {a : PD} {r : List PD} {S : List Cell} : oIx (.p (.tup (a :: r))) (.p (.int 0)) S = some (.p a, S) := ix_n (n := 0) rfl
theorem ix1 {a b : PD} {r : List PD} {S : List Cell} : oIx (.p (.tup (a :: b :: r))) (.p (.int 1)) S = some (.p b, S) := ix_n (n := 1) rfl
theorem ix2 {a b c : PD} {r : List PD} {S : List Cell} : oIx (.p (.tup (a :: b :: c :: r))) (.p (.int 2)) S = some (.p c, S) := ix_n (n := 2) rfl
theorem var_eq {i : Nat} {E : Vr} {S : List Cell} {d : D} (h : E[i]? = some (some d)) : mVar i E S = some (d, S) := by
  unfold mVar
  rw [h]
theorem cut_tail {a : PD} {r : List PD} : cutP (a :: r) (some 1) none = r := by
  unfold cutP HT.sIx
  simp
theorem cut_head {a : PD} {r : List PD} : cutP (a :: r) none (some 1) = [a] := by
  unfold cutP HT.sIx
  simp
theorem sl_tail {i : Nat} {E : Vr} {S : List Cell} {a : PD} {r : List PD} (h : E[i]? = some (some (.p (.tup (a :: r))))) : mSl (mVar i) (oSome (mC (.p (.int 1)))) oNone E S = some (.p (.tup r), S) := by
  unfold mSl
  rw [bnd_eq (var_eq h)]
  show some (D.p (.tup (cutP (a :: r) (some 1) none)), S) = _
  rw [cut_tail]
theorem sl_head {i : Nat} {E : Vr} {S : List Cell} {a : PD} {r : List PD} (h : E[i]? = some (some (.p (.tup (a :: r))))) : mSl (mVar i) oNone (oSome (mC (.p (.int 1)))) E S = some (.p (.tup [a]), S) := by
  unfold mSl
  rw [bnd_eq (var_eq h)]
  show some (D.p (.tup (cutP (a :: r) none (some 1))), S) = _
  rw [cut_head]
/-! ### tests on words -/
theorem t_eq {neg : Bool} {i : Nat} {E : Vr} {S : List Cell} {w v : Str} {r : List PD} {b : Bool} (hE : E[i]? = some (some (.p (.tup (.str w :: r))))) (hb : ((w == v) != neg) = b) (hw : PyData.strOk w = true := by decide +kernel) (hv : PyData.strOk v = true := by decide +kernel) :
    mVal (mBin (oEq neg) (mBin oIx (mVar i) (mC (.p (.int 0)))) (mC (.p (.str v)))) E S = some (b, S) := by
  refine val_eq (bin_eq (x := .p (.str w)) (y := .p (.str v)) (S1 := S) (S2 := S) (bin_eq (x := .p (.tup (.str w :: r))) (y := .p (.int 0)) (S1 := S) (S2 := S) (var_eq hE) rfl ix0) rfl ?_)
  rw [oEq_str hw hv, hb]
theorem eqV_str {a c : Str} : eqV (.str a) (.str c) = (a == c) := rfl
theorem inP_2 {w a c : Str} : inP (.str w) [.str a, .str c] = (a == w || c == w) := by
  simp [inP, inV, toV, eqV_str]
theorem in_2 {neg : Bool} {w a c : Str} {S : List Cell} {d : D} {b : Bool} (hd : seqOf S d = some [.str a, .str c]) (hb : ((a == w || c == w) != neg) = b) : oIn neg (.p (.str w)) d S = some (.p (.bl b), S) := by
  unfold oIn oInSeq
  rw [hd]
  simp only [flatP, List.all_cons, List.all_nil, Bool.and_self, if_true, inP_2]
  subst hb
  cases neg <;> simp
theorem t_inT {neg : Bool} {i : Nat} {E : Vr} {S : List Cell} {w a c : Str} {r : List PD} {b : Bool} (hE : E[i]? = some (some (.p (.tup (.str w :: r))))) (hb : ((a == w || c == w) != neg) = b) :
    mVal (mBin (oIn neg) (mBin oIx (mVar i) (mC (.p (.int 0)))) (mTup (aCons (mC (.p (.str a))) (aCons (mC (.p (.str c))) aNil)))) E S = some (b, S) :=
  val_eq (bin_eq (x := .p (.str w)) (y := .p (.tup [.str a, .str c])) (S1 := S) (S2 := S) (bin_eq (x := .p (.tup (.str w :: r))) (y := .p (.int 0)) (S1 := S) (S2 := S) (var_eq hE) rfl ix0) (tup2 rfl rfl) (in_2 rfl hb))
theorem lst2 {a b : ME} {E : Vr} {S S1 S2 : List Cell} {y z : PD} (h : a E S = some (.p y, S1)) (g : b E S1 = some (.p z, S2)) : mLst (aCons a (aCons b aNil)) E S = some (.p (.lst [y, z]), S2) := by
  simp [mLst, aCons, aNil, bnd, ret, h, g, pds]
theorem t_inL {neg : Bool} {i : Nat} {E : Vr} {S : List Cell} {w a c : Str} {r : List PD} {b : Bool} (hE : E[i]? = some (some (.p (.tup (.str w :: r))))) (hb : ((a == w || c == w) != neg) = b) :
    mVal (mBin (oIn neg) (mBin oIx (mVar i) (mC (.p (.int 0)))) (mLst (aCons (mC (.p (.str a))) (aCons (mC (.p (.str c))) aNil)))) E S = some (b, S) :=
  val_eq (bin_eq (x := .p (.str w)) (y := .p (.lst [.str a, .str c])) (S1 := S) (S2 := S) (bin_eq (x := .p (.tup (.str w :: r))) (y := .p (.int 0)) (S1 := S) (S2 := S) (var_eq hE) rfl ix0) (lst2 rfl rfl) (in_2 rfl hb))
theorem choose_on {α β : Type} [Inhabited β] {l : List α} {P : α → β → Prop} (h : ∀ a ∈ l, ∃ b, P a b) : ∃ f : α → β, ∀ a ∈ l, P a (f a) := by
  classical
  exact ⟨fun a => if ha : a ∈ l then (h a ha).choose else default, fun a ha => by simp only [dif_pos ha]; exact (h a ha).choose_spec⟩
/-! ### the uses of a formula -/
theorem sl_var_seq {m : ME} {E : Vr} {S : List Cell} {l : List PD} (h : m E S = some (.p (.tup l), S)) : iSeq m E S = some (l, S) := by
  unfold iSeq
  rw [bnd_eq h]
/-- for one in ..: found.extend(self(one)) -/
theorem ext_loop {self : OC} {f : PD → List (Str × Nat)} {x0 : Option D} {S : List Cell} : ∀ (l : List PD) (acc : List (Str × Nat)) (x2 : Option D), (∀ a ∈ l, PR self [.p a] (.lst (encN (f a)))) → acc.length + (l.flatMap f).length ≤ 100000 →
    ∃ y2, fLoop (gN 2) (sSeq (sDrop (mMeth fExtend (mVar 1) (aCons (mCall self (aCons (mVar 2) aNil)) aNil))) sNil) l [x0, some (.ref S.length), x2] (S ++ [.lst ((encN acc).map .p)]) = some (.nx [x0, some (.ref S.length), y2], S ++ [.lst ((encN (acc ++ l.flatMap f)).map .p)])
  | [], acc, x2, _, _ => ⟨x2, by simp [fLoop]⟩
  | a :: l, acc, x2, h, hl => by
    have hl' : acc.length + ((f a).length + (l.flatMap f).length) ≤ 100000 := by simpa using hl
    obtain ⟨y2, e⟩ := ext_loop (x0 := x0) (S := S) l (acc ++ f a) (some (.p a)) (fun b hb => h b (List.mem_cons_of_mem _ hb)) (by simp only [List.length_append]; omega)
    refine ⟨y2, ?_⟩
    unfold fLoop
    have h1 := h a List.mem_cons_self (S ++ [.lst ((encN acc).map .p)])
    have hx : mMeth fExtend (mVar 1) (aCons (mCall self (aCons (mVar 2) aNil)) aNil) [x0, some (.ref S.length), some (.p a)] (S ++ [.lst ((encN acc).map .p)]) = some (.p .non, S ++ [.lst ((encN (acc ++ f a)).map .p)]) := by
      unfold mMeth
      rw [bnd_eq (var_eq rfl)]
      have hS : (S ++ [Cell.lst ((encN acc).map .p)])[S.length]? = some (.lst ((encN acc).map .p)) := by simp
      simp only [hS]
      rw [bnd_eq (a1_eq ((call1_eq (var_eq rfl)).trans h1))]
      simp only [hS, fExtend]
      have : ((encN acc).map D.p).length + (encN (f a)).length ≤ 100000 := by simp only [encN, List.length_map]; omega
      rw [if_pos this]
      simp [encN]
    have hm : sSeq (sDrop (mMeth fExtend (mVar 1) (aCons (mCall self (aCons (mVar 2) aNil)) aNil))) sNil [x0, some (.ref S.length), some (.p a)] (S ++ [.lst ((encN acc).map .p)]) = some (.nx [x0, some (.ref S.length), some (.p a)], S ++ [.lst ((encN (acc ++ f a)).map .p)]) :=
      (seq_nx (drop_eq hx)).trans rfl
    simp only [gN, List.set_cons_succ, List.set_cons_zero, hm]
    rw [e]
    simp
theorem used_step {fu : Nat} {w : Str} {l : List PD} {f : PD → List (Str × Nat)} (h : ∀ a ∈ l, PR (fn__law_used fu) [.p a] (.lst (encN (f a)))) (hl : (l.flatMap f).length ≤ 100000) (h1 : (("row" : Str) == w || ("divides" : Str) == w) = false) (h2 : (w == "named") = false) (hw : PyData.strOk w = true) :
    PR (fn__law_used (fu + 1)) [.p (.tup (.str w :: l))] (.lst (encN (l.flatMap f))) := by
  unfold fn__law_used
  refine PR.new rfl fun S => ?_
  show m__law_used (fn__law_used fu) [some (.p (.tup (.str w :: l))), none, none] S = _
  unfold m__law_used
  rw [skip_if (t_inL rfl (by rw [h1]; rfl)), skip_if (t_eq rfl (by rw [h2]; rfl) hw)]
  obtain ⟨y2, e⟩ := ext_loop (self := fn__law_used fu) (f := f) (x0 := some (.p (.tup (.str w :: l)))) (S := S) l [] none h (by simpa using hl)
  rw [List.nil_append] at e
  refine Eq.trans (seq_nx (E1 := [some (.p (.tup (.str w :: l))), some (.ref S.length), none]) (S1 := S ++ [.lst []]) rfl) ?_
  refine Eq.trans (seq_nx (E1 := [some (.p (.tup (.str w :: l))), some (.ref S.length), y2]) ?_) (seq_rt (ret_eq (var_eq rfl)))
  unfold sFor
  exact Eq.trans (bnd_eq (sl_var_seq (sl_tail rfl))) e
theorem uses_step {fu : Nat} {w : Str} {l : List PD} {f : PD → List (Str × Nat)} (h : ∀ a ∈ l, PR (fn_uses_of fu) [.p a] (.lst (encN (f a)))) (hl : (l.flatMap f).length ≤ 100000) (h1 : (("row" : Str) == w || ("divides" : Str) == w) = false) (h2 : (w == "named") = false) (hw : PyData.strOk w = true) :
    PR (fn_uses_of (fu + 1)) [.p (.tup (.str w :: l))] (.lst (encN (l.flatMap f))) := by
  unfold fn_uses_of
  refine PR.new rfl fun S => ?_
  show m_uses_of (fn_uses_of fu) [some (.p (.tup (.str w :: l))), none, none] S = _
  unfold m_uses_of
  rw [skip_if (t_eq rfl (by rw [h2]; rfl) hw)]
  obtain ⟨y2, e⟩ := ext_loop (self := fn_uses_of fu) (f := f) (x0 := some (.p (.tup (.str w :: l)))) (S := S) l [] none h (by simpa using hl)
  rw [List.nil_append] at e
  refine Eq.trans (seq_nx (E1 := [some (.p (.tup (.str w :: l))), some (.ref S.length), none]) (S1 := S ++ [.lst []]) rfl) ?_
  refine Eq.trans (seq_nx (E1 := [some (.p (.tup (.str w :: l))), some (.ref S.length), y2]) ?_) (seq_rt (ret_eq (var_eq rfl)))
  rw [if_t (t_inT rfl (by rw [h1]; rfl))]
  refine Eq.trans (seq_nx (E1 := [some (.p (.tup (.str w :: l))), some (.ref S.length), y2]) ?_) rfl
  unfold sFor
  exact Eq.trans (bnd_eq (sl_var_seq (sl_tail rfl))) e
theorem used_atom {fu : Nat} {w : Str} {l : List PD} (h1 : (("row" : Str) == w || ("divides" : Str) == w) = true) : PR (fn__law_used (fu + 1)) [.p (.tup (.str w :: l))] (.lst []) := by
  unfold fn__law_used
  refine PR.fn0 rfl fun S => ?_
  show m__law_used (fn__law_used fu) [some (.p (.tup (.str w :: l))), none, none] S = _
  unfold m__law_used
  exact take_if (t_inL rfl (by rw [h1]; rfl)) (seq_rt rfl)
theorem uses_atom {fu : Nat} {w : Str} {l : List PD} (h1 : (("row" : Str) == w || ("divides" : Str) == w) = true) (h2 : (w == "named") = false) (hw : PyData.strOk w = true) : PR (fn_uses_of (fu + 1)) [.p (.tup (.str w :: l))] (.lst []) := by
  unfold fn_uses_of
  refine PR.new rfl fun S => ?_
  show m_uses_of (fn_uses_of fu) [some (.p (.tup (.str w :: l))), none, none] S = _
  unfold m_uses_of
  rw [skip_if (t_eq rfl (by rw [h2]; rfl) hw)]
  refine Eq.trans (seq_nx (E1 := [some (.p (.tup (.str w :: l))), some (.ref S.length), none]) (S1 := S ++ [.lst []]) rfl) ?_
  rw [skip_if (t_inT rfl (by rw [h1]; rfl))]
  exact seq_rt rfl
theorem len_tup {d : ME} {E : Vr} {S : List Cell} {xs : List PD} (h : d E S = some (.p (.tup xs), S)) : mCall oLen (aCons d aNil) E S = some (.p (.int xs.length), S) := (call1_eq h).trans rfl
theorem used_named {fu : Nat} {x : Str} {fs : List PD} : PR (fn__law_used (fu + 1)) [.p (.tup [.str "named", .str x, .tup fs])] (.lst (encN [(x, fs.length)])) := by
  unfold fn__law_used
  refine PR.fn0 rfl fun S => ?_
  show m__law_used (fn__law_used fu) [some (.p (.tup [.str "named", .str x, .tup fs])), none, none] S = _
  unfold m__law_used
  rw [skip_if (t_inL (b := false) rfl (by decide +kernel))]
  exact take_if (t_eq rfl (by decide +kernel)) (seq_rt (ret_eq (lst1 (tup2 (bin_eq (var_eq rfl) rfl ix1) (len_tup (bin_eq (var_eq rfl) rfl ix2))))))
theorem uses_named {fu : Nat} {x : Str} {fs : List PD} : PR (fn_uses_of (fu + 1)) [.p (.tup [.str "named", .str x, .tup fs])] (.lst (encN [(x, fs.length)])) := by
  unfold fn_uses_of
  refine PR.fn0 rfl fun S => ?_
  show m_uses_of (fn_uses_of fu) [some (.p (.tup [.str "named", .str x, .tup fs])), none, none] S = _
  unfold m_uses_of
  exact take_if (t_eq rfl (by decide +kernel)) (seq_rt (ret_eq (lst1 (tup2 (bin_eq (var_eq rfl) rfl ix1) (len_tup (bin_eq (var_eq rfl) rfl ix2))))))
theorem uses_run {nm : List (Str × Nat)} {d L : Nat} {f : PD} (h : GF nm d L f) : d ≤ 8 → ∀ fu, d < fu → ∃ us : List (Str × Nat), us.length ≤ 3 ^ d ∧ (∀ p ∈ us, p ∈ nm) ∧ PR (fn__law_used fu) [.p f] (.lst (encN us)) ∧ PR (fn_uses_of fu) [.p f] (.lst (encN us)) := by
  have one : ∀ (w : Str) (a : PD) (fu : Nat) (us : List (Str × Nat)), us.length ≤ 100000 → (("row" : Str) == w || ("divides" : Str) == w) = false → (w == "named") = false → PyData.strOk w = true → PR (fn__law_used fu) [.p a] (.lst (encN us)) → PR (fn_uses_of fu) [.p a] (.lst (encN us)) →
      PR (fn__law_used (fu + 1)) [.p (.tup [.str w, a])] (.lst (encN us)) ∧ PR (fn_uses_of (fu + 1)) [.p (.tup [.str w, a])] (.lst (encN us)) := fun w a fu us hz h1 h2 hw h3 h4 => by
    have e : [a].flatMap (fun _ => us) = us := by simp
    constructor
    · have := used_step (fu := fu) (w := w) (l := [a]) (f := fun _ => us) (fun b hb => by rw [List.mem_singleton.mp hb]; exact h3) (by simpa using hz) h1 h2 hw
      rwa [e] at this
    · have := uses_step (fu := fu) (w := w) (l := [a]) (f := fun _ => us) (fun b hb => by rw [List.mem_singleton.mp hb]; exact h4) (by simpa using hz) h1 h2 hw
      rwa [e] at this
  have p8 : ∀ d, d ≤ 8 → 3 ^ d ≤ 6561 := fun d hd => (Nat.pow_le_pow_right (by decide) hd : 3 ^ d ≤ 3 ^ 8)
  induction h with
  | row _ =>
    intro _ fu hf
    obtain ⟨fu, rfl⟩ : ∃ k, fu = k + 1 := ⟨fu - 1, by omega⟩
    exact ⟨[], by simp, by simp, used_atom (by decide +kernel), uses_atom (by decide +kernel) (by decide +kernel) (by decide +kernel)⟩
  | dv _ _ _ =>
    intro _ fu hf
    obtain ⟨fu, rfl⟩ : ∃ k, fu = k + 1 := ⟨fu - 1, by omega⟩
    exact ⟨[], by simp, by simp, used_atom (by decide +kernel), uses_atom (by decide +kernel) (by decide +kernel) (by decide +kernel)⟩
  | @not d L a _ ih =>
    intro hd fu hf
    obtain ⟨fu, rfl⟩ : ∃ k, fu = k + 1 := ⟨fu - 1, by omega⟩
    obtain ⟨us, h1, h2, h3, h4⟩ := ih (by omega) fu (by omega)
    have hp : 3 ^ d ≤ 3 ^ (d + 1) := Nat.pow_le_pow_right (by decide) (by omega)
    have := p8 d (by omega)
    exact ⟨us, by omega, h2, one "not" a fu us (by omega) (by decide +kernel) (by decide +kernel) (by decide +kernel) h3 h4⟩
  | @some d L a _ ih =>
    intro hd fu hf
    obtain ⟨fu, rfl⟩ : ∃ k, fu = k + 1 := ⟨fu - 1, by omega⟩
    obtain ⟨us, h1, h2, h3, h4⟩ := ih (by omega) fu (by omega)
    have hp : 3 ^ d ≤ 3 ^ (d + 1) := Nat.pow_le_pow_right (by decide) (by omega)
    have := p8 d (by omega)
    exact ⟨us, by omega, h2, one "some" a fu us (by omega) (by decide +kernel) (by decide +kernel) (by decide +kernel) h3 h4⟩
  | @named d L s x fs h1 h2 _ =>
    intro _ fu hf
    obtain ⟨fu, rfl⟩ : ∃ k, fu = k + 1 := ⟨fu - 1, by omega⟩
    subst h2
    exact ⟨[(x, fs.length)], Nat.one_le_pow _ _ (by decide), fun p hp => by rw [List.mem_singleton.mp hp]; exact h1, used_named, uses_named⟩
  | @junc d L w l hw hl _ ih =>
    intro hd fu hf
    obtain ⟨fu, rfl⟩ : ∃ k, fu = k + 1 := ⟨fu - 1, by omega⟩
    obtain ⟨g, hg⟩ := choose_on (fun a ha => ih a ha (by omega) fu (by omega))
    have hlen : ∀ m : List PD, (∀ a ∈ m, a ∈ l) → (m.flatMap g).length ≤ m.length * 3 ^ d := fun m => by
      induction m with
      | nil => simp
      | cons a m im =>
        intro hm
        have i1 := im fun b hb => hm b (List.mem_cons_of_mem _ hb)
        have i2 := (hg a (hm a List.mem_cons_self)).1
        simp only [List.flatMap_cons, List.length_append, List.length_cons, Nat.add_mul, Nat.one_mul]
        omega
    have h0 := hlen l fun a ha => ha
    have h1 : l.length * 3 ^ d ≤ 3 * 3 ^ d := Nat.mul_le_mul_right _ hl
    have e3 : 3 ^ (d + 1) = 3 * 3 ^ d := by rw [Nat.pow_succ, Nat.mul_comm]
    have := p8 d (by omega)
    have b1 : (("row" : Str) == w || ("divides" : Str) == w) = false := by rcases hw with rfl | rfl <;> decide +kernel
    have b2 : (w == "named") = false := by rcases hw with rfl | rfl <;> decide +kernel
    have b3 : PyData.strOk w = true := by rcases hw with rfl | rfl <;> decide +kernel
    refine ⟨l.flatMap g, by omega, fun p hp => ?_, used_step (fun a ha => (hg a ha).2.2.1) (by omega) b1 b2 b3, uses_step (fun a ha => (hg a ha).2.2.2) (by omega) b1 b2 b3⟩
    obtain ⟨a, ha, hp⟩ := List.mem_flatMap.mp hp
    exact (hg a ha).2.1 p hp
theorem mLc_eq {own : List Nat} {ms : MI} {t : Tg} {tt : MT} {te : ME} {E : Vr} {S S1 : List Cell} {ys : List PD} (h : bnd (ms E) (fun xs => lcLoop (wipeE E own) t tt te xs []) S = some (ys, S1)) : mLc own ms t tt te E S = some (.p (.lst ys), S1) := by
  simp only [mLc, bnd] at h ⊢
  revert h
  cases ms E S with
  | none => intro h; cases h
  | some r =>
    intro h
    simp only at h ⊢
    rw [h]
    rfl
theorem mLcR_eq {own : List Nat} {ms : MI} {t : Tg} {tt : MT} {te : ME} {E : Vr} {S S1 : List Cell} {ys : List PD} (h : bnd (ms E) (fun xs => lcLoop (wipeE E own) t tt te xs []) S = some (ys, S1)) : mLcR own ms t tt te E S = some (.ref S1.length, S1 ++ [.lst (ys.map .p)]) := by
  simp only [mLcR, bnd] at h ⊢
  revert h
  cases ms E S with
  | none => intro h; cases h
  | some r =>
    intro h
    simp only at h ⊢
    rw [h]
theorem snoc_cases {α : Type} (l : List α) : l = [] ∨ ∃ (m : List α) (a : α), l = m ++ [a] := by
  rcases List.eq_nil_or_concat l with h | ⟨m, a, h⟩
  · exact .inl h
  · exact .inr ⟨m, a, by rw [h, List.concat_eq_append]⟩
end Pt
set_option maxRecDepth 100000
set_option maxHeartbeats 2000000
/-! Q11: _law_hangs and hung tell the same. -/
namespace Pt
open PySem PySem.Spec PyProof.Rows L2
/-- the rooms as the functions get them: names, the uses of their formulas -/
structure HU (R : PD) (T : List Str) (U : Str → List (Str × Nat)) : Prop where
  rm : ∀ x ∈ T, ∃ (k d : Nat) (f : PD), (∀ S, oIx (.p R) (.p (.str x)) S = some (.p (.tup [.int k, .int d, f]), S)) ∧ PR (fn__law_used 64) [.p f] (.lst (encN (U x))) ∧ PR (fn_uses_of 64) [.p f] (.lst (encN (U x)))
  inn : ∀ x ∈ T, ∀ p ∈ U x, p.1 ∈ T
  len : ∀ x ∈ T, (U x).length ≤ 9
  le8 : T.length ≤ 8
inductive Rch (U : Str → List (Str × Nat)) (n : Str) : Str → Prop
  | base {x : Str} : x ∈ (U n).map (·.1) → Rch U n x
  | step {x y : Str} : Rch U n x → y ∈ (U x).map (·.1) → Rch U n y
theorem while_run {c : MT} {mb : MS} {I : Nat → Vr → List Cell → Prop} {Fin : Vr → List Cell → Prop}
    (h : ∀ p E S, I p E S → (c E S = some (false, S) ∧ Fin E S) ∨ (c E S = some (true, S) ∧ ∃ E2 S2 p2, mb E S = some (.nx E2, S2) ∧ I p2 E2 S2 ∧ p2 < p)) :
    ∀ n p E S, I p E S → p < n → ∃ E2 S2, wLoop c mb n E S = some (.nx E2, S2) ∧ Fin E2 S2
  | 0, p, E, S, _, hp => absurd hp (Nat.not_lt_zero _)
  | n + 1, p, E, S, hI, hp => by
    rcases h p E S hI with ⟨h1, h2⟩ | ⟨h1, E2, S2, p2, h2, h3, h4⟩
    · refine ⟨E, S, ?_, h2⟩
      unfold wLoop
      simp only [h1]
    · obtain ⟨E3, S3, g1, g2⟩ := while_run h n p2 E2 S2 h3 (by omega)
      refine ⟨E3, S3, ?_, g2⟩
      unfold wLoop
      simp only [h1, h2]
      exact g1
abbrev sD (l : List Str) : List D := l.map fun x => D.p (.str x)
theorem pds_sD {l : List Str} : pds (sD l) = some (l.map PD.str) := by
  have : sD l = (l.map PD.str).map D.p := by simp [sD]
  rw [this, pds_map]
theorem flat_strs {l : List Str} : (l.map PD.str).all flatP = true := by
  induction l with
  | nil => rfl
  | cons a l ih => simpa [flatP] using ih
theorem inP_strs {w : Str} {l : List Str} : inP (.str w) (l.map PD.str) = decide (w ∈ l) := by
  induction l with
  | nil => rfl
  | cons a l ih =>
    have e : inP (.str w) ((a :: l).map PD.str) = ((a == w) || inP (.str w) (l.map PD.str)) := rfl
    rw [e, ih]
    by_cases h : a = w
    · subst h
      simp
    · have h2 : ¬ w = a := fun z => h z.symm
      simp [h, h2]
theorem in_strs {neg : Bool} {w : Str} {l : List Str} {S : List Cell} {d : D} (hd : seqOf S d = some (l.map PD.str)) : oIn neg (.p (.str w)) d S = some (.p (.bl (decide (w ∈ l) != neg)), S) := by
  unfold oIn oInSeq
  rw [hd]
  simp only [flatP, flat_strs, Bool.and_self, if_true, inP_strs]
  cases neg <;> simp
theorem seq_sref {S : List Cell} {n : Nat} {l : List Str} (h : S[n]? = some (.lst (sD l))) : seqOf S (.ref n) = some (l.map PD.str) := by
  simp only [seqOf, view, h, pds_sD, Option.map_some]
theorem view_sref {S : List Cell} {n : Nat} {l : List Str} (h : S[n]? = some (.lst (sD l))) : view S (.ref n) = some (.lst (l.map PD.str)) := by
  simp only [view, h, pds_sD, Option.map_some]
theorem pop_eq {mo : ME} {E : Vr} {S : List Cell} {q : Nat} {xs : List D} {d : D} (ho : mo E S = some (.ref q, S)) (hS : S[q]? = some (.lst (xs ++ [d]))) : mMeth fPop mo aNil E S = some (d, S.set q (.lst xs)) := by
  unfold mMeth
  rw [bnd_eq ho]
  simp only [hS]
  rw [bnd_eq (show aNil E S = some ([], S) from rfl)]
  simp only [hS, fPop, List.getLast?_append, List.getLast?_singleton, Option.some_or, List.dropLast_concat]
theorem ext_eq {mo m : ME} {E : Vr} {S : List Cell} {q : Nat} {xs : List D} {ys : List PD} (ho : mo E S = some (.ref q, S)) (h : m E S = some (.p (.lst ys), S)) (hS : S[q]? = some (.lst xs)) (hl : xs.length + ys.length ≤ 100000) : mMeth fExtend mo (aCons m aNil) E S = some (.p .non, S.set q (.lst (xs ++ ys.map .p))) := by
  unfold mMeth
  rw [bnd_eq ho]
  simp only [hS]
  rw [bnd_eq (a1_eq h)]
  simp only [hS, fExtend, hl, if_true]
/-- a comprehension that reads, with any target -/
theorem lc_gen {t : Tg} {te : ME} {S : List Cell} {E : Vr} {f : PD → PD} : ∀ (xs acc : List PD), (∀ x ∈ xs, ∃ E1, t (.p x) E = some E1 ∧ te E1 S = some (.p (f x), S)) → lcLoop E t tYes1 te xs acc S = some (acc ++ xs.map f, S)
  | [], acc, _ => by simp [lcLoop, ret]
  | x :: xs, acc, h => by
    obtain ⟨E1, h1, h2⟩ := h x List.mem_cons_self
    unfold lcLoop
    simp only [h1, tYes1, h2]
    rw [show acc ++ List.map f (x :: xs) = acc ++ [f x] ++ xs.map f by simp]
    exact lc_gen xs _ fun y hy => h y (List.mem_cons_of_mem _ hy)
/-- [used for used, many in self(rooms[name][2])] -/
def fstP : PD → PD
  | .tup (a :: _) => a
  | _ => .non
theorem names_lc {E : Vr} {S : List Cell} {us : List (Str × Nat)} {R : PD} {x : Str} {k d : Nat} {f : PD} {i : Nat} (h0 : E[0]? = some (some (.p R))) (hi : E[i]? = some (some (.p (.str x)))) (hl : 4 < E.length) (hR : oIx (.p R) (.p (.str x)) S = some (.p (.tup [.int k, .int d, f]), S)) (hu : PR (fn__law_used 64) [.p f] (.lst (encN us))) :
    bnd (iSeq (mCall (fn__law_used 64) (aCons (mBin oIx (mBin oIx (mVar 0) (mVar i)) (mC (.p (.int 2)))) aNil)) E) (fun xs => lcLoop (wipeE E [3, 4]) (gT 2 (gsCons (gN 3) (gsCons (gN 4) gsNil))) tYes1 (mVar 3) xs []) S = some ((us.map (·.1)).map PD.str, S) := by
  refine Eq.trans (bnd_eq (a := encN us) (S1 := S) ?_) ?_
  · unfold iSeq
    rw [bnd_eq (show mCall _ _ E S = some (.p (.lst (encN us)), S) from (call1_eq (bin_eq (bin_eq (var_eq h0) (var_eq hi) hR) rfl ix2)).trans (hu S))]
  · rw [lc_gen (f := fstP)]
    · simp [encN, fstP]
    · intro y hy
      obtain ⟨p, hp, rfl⟩ := List.mem_map.mp hy
      refine ⟨((wipeE E [3, 4]).set 3 (some (.p (.str p.1)))).set 4 (some (.p (.int p.2))), rfl, var_eq ?_⟩
      rw [List.getElem?_set_ne (by decide), List.getElem?_set_self]
      · rfl
      · simp only [wipeE, List.length_set]
        omega
theorem nodup_8 {T l : List Str} (h : l.Nodup) (hs : ∀ x ∈ l, x ∈ T) (h8 : T.length ≤ 8) : l.length ≤ 8 := Nat.le_trans (nodup_len h hs) h8
section
variable {R : PD} {T : List Str} {U : Str → List (Str × Nat)}
theorem HU.sub (H : HU R T U) {n : Str} (hn : n ∈ T) {x : Str} (h : Rch U n x) : x ∈ T := by
  induction h with
  | base h =>
    obtain ⟨p, hp, rfl⟩ := List.mem_map.mp h
    exact H.inn _ hn p hp
  | step _ h ih =>
    obtain ⟨p, hp, rfl⟩ := List.mem_map.mp h
    exact H.inn _ ih p hp
theorem ne_t {i : Nat} {E : Vr} {S : List Cell} {d : D} {l : List PD} (h : E[i]? = some (some d)) (hv : view S d = some (.lst l)) : mVal (mBin (oEq true) (mVar i) (mLst aNil)) E S = some (!l.isEmpty, S) :=
  val_eq (bin_eq (x := d) (y := .p (.lst [])) (S1 := S) (S2 := S) (var_eq h) rfl (by rw [oEq_nil hv]; simp))
theorem sorted_ref {S : List Cell} {n : Nat} {l : List Str} (h : S[n]? = some (.lst (sD l))) (hl : l.length < 64) : oSorted [.ref n] S = some (.p (.lst ((sortS l).map PD.str)), S) := by
  have hs : ∀ l : List Str, strsOf (l.map PD.str) = some l := fun l => by
    induction l with
    | nil => rfl
    | cons a l ih => simp [strsOf, ih]
  unfold oSorted
  simp only [view_sref h, hs, hl, if_true]
theorem lawhangs_run (H : HU R T U) {n : Str} (hn : n ∈ T) : ∃ fd : List Str, fd.Nodup ∧ (∀ x, x ∈ fd ↔ Rch U n x) ∧ PR fn__law_hangs [.p R, .p (.str n)] (.lst ((sortS fd).map PD.str)) := by
  suffices hx : ∀ S, ∃ fd : List Str, (fd.Nodup ∧ ∀ x, x ∈ fd ↔ Rch U n x) ∧ fn__law_hangs [.p R, .p (.str n)] S = some (.p (.lst ((sortS fd).map PD.str)), S) by
    obtain ⟨fd, h0, _⟩ := hx []
    refine ⟨fd, h0.1, h0.2, fun S => ?_⟩
    obtain ⟨fd2, h2, e2⟩ := hx S
    have hp : fd.Perm fd2 := (List.perm_ext_iff_of_nodup h0.1 h2.1).mpr fun x => (h0.2 x).trans (h2.2 x).symm
    have : sortS fd = sortS fd2 := by
      unfold sortS
      exact PySem.W.Srt.the_of_perm leS leS_trans leS_total leS_anti ((List.mergeSort_perm fd leS).trans hp) (List.pairwise_mergeSort leS_trans leS_total fd)
    rw [this]
    exact e2
  intro S
  obtain ⟨k, d, f, hR, hu, _⟩ := H.rm n hn
  have T8 := H.le8
  -- the loop
  obtain ⟨E2, S2, w1, fd, x3, x4, x6, rfl, rfl, f1, f2⟩ := while_run (c := mVal (mBin (oEq true) (mVar 5) (mLst aNil)))
    (mb := sSeq (sAsg (mMeth fPop (mVar 5) aNil) (gN 6)) (sSeq (sIf (mVal (mBin (oIn true) (mVar 6) (mVar 2))) (sSeq (sDrop (mMeth fAppend (mVar 2) (aCons (mVar 6) aNil)))
      (sSeq (sDrop (mMeth fExtend (mVar 5) (aCons (mLc [3, 4] (iSeq (mCall (fn__law_used 64) (aCons (mBin oIx (mBin oIx (mVar 0) (mVar 6)) (mC (.p (.int 2)))) aNil))) (gT 2 (gsCons (gN 3) (gsCons (gN 4) gsNil))) tYes1 (mVar 3)) aNil))) sNil)) sNil) sNil))
    (I := fun p E S' => ∃ (fd lf : List Str) (x3 x4 x6 : Option D), E = [some (.p R), some (.p (.str n)), some (.ref S.length), x3, x4, some (.ref (S.length + 1)), x6] ∧ S' = S ++ [.lst (sD fd), .lst (sD lf)] ∧ fd.Nodup ∧ (∀ x ∈ fd, Rch U n x) ∧ (∀ x ∈ lf, Rch U n x) ∧
      (∀ y ∈ (U n).map (·.1), y ∈ fd ∨ y ∈ lf) ∧ (∀ x ∈ fd, ∀ y ∈ (U x).map (·.1), y ∈ fd ∨ y ∈ lf) ∧ lf.length + 9 * (8 - fd.length) ≤ p ∧ p ≤ 90)
    (Fin := fun E S' => ∃ (fd : List Str) (x3 x4 x6 : Option D), E = [some (.p R), some (.p (.str n)), some (.ref S.length), x3, x4, some (.ref (S.length + 1)), x6] ∧ S' = S ++ [.lst (sD fd), .lst []] ∧ fd.Nodup ∧ ∀ x, x ∈ fd ↔ Rch U n x)
    (fun p E S' ⟨fd, lf, x3, x4, x6, hE, hS, i1, i2, i3, i4, i5, i6, i7⟩ => by
      subst hE
      subst hS
      have c0 : (S ++ [Cell.lst (sD fd), .lst (sD lf)])[S.length]? = some (.lst (sD fd)) := by simp
      have c1 : (S ++ [Cell.lst (sD fd), .lst (sD lf)])[S.length + 1]? = some (.lst (sD lf)) := by simp
      have ht := ne_t (i := 5) (E := [some (.p R), some (.p (.str n)), some (.ref S.length), x3, x4, some (.ref (S.length + 1)), x6]) rfl (view_sref c1)
      rcases snoc_cases lf with rfl | ⟨lf', one, rfl⟩
      · refine .inl ⟨ht, fd, x3, x4, x6, rfl, rfl, i1, fun x => ⟨i2 x, fun hr => ?_⟩⟩
        induction hr with
        | base h => exact (i4 _ h).elim id (fun z => nomatch z)
        | step _ h ih => exact (i5 _ ih _ h).elim id (fun z => nomatch z)
      · refine .inr ⟨ht.trans (by simp), ?_⟩
        have e1 : sD (lf' ++ [one]) = sD lf' ++ [D.p (.str one)] := by simp [sD]
        have hp := pop_eq (mo := mVar 5) (E := [some (.p R), some (.p (.str n)), some (.ref S.length), x3, x4, some (.ref (S.length + 1)), x6]) (q := S.length + 1) (xs := sD lf') (d := .p (.str one)) (S := S ++ [Cell.lst (sD fd), .lst (sD (lf' ++ [one]))]) (var_eq rfl) (by rw [c1, e1])
        have s1 : (S ++ [Cell.lst (sD fd), .lst (sD (lf' ++ [one]))]).set (S.length + 1) (.lst (sD lf')) = S ++ [Cell.lst (sD fd), .lst (sD lf')] := by
          rw [List.set_append_right _ _ (by omega)]
          simp
        rw [s1] at hp
        have hb : ∀ r : MS, sSeq (sAsg (mMeth fPop (mVar 5) aNil) (gN 6)) r [some (.p R), some (.p (.str n)), some (.ref S.length), x3, x4, some (.ref (S.length + 1)), x6] (S ++ [Cell.lst (sD fd), .lst (sD (lf' ++ [one]))]) =
            r [some (.p R), some (.p (.str n)), some (.ref S.length), x3, x4, some (.ref (S.length + 1)), some (.p (.str one))] (S ++ [Cell.lst (sD fd), .lst (sD lf')]) := fun r => seq_nx (asg_eq hp)
        rw [hb]
        have d0 : (S ++ [Cell.lst (sD fd), .lst (sD lf')])[S.length]? = some (.lst (sD fd)) := by simp
        have d1 : (S ++ [Cell.lst (sD fd), .lst (sD lf')])[S.length + 1]? = some (.lst (sD lf')) := by simp
        have tt : mVal (mBin (oIn true) (mVar 6) (mVar 2)) [some (.p R), some (.p (.str n)), some (.ref S.length), x3, x4, some (.ref (S.length + 1)), some (.p (.str one))] (S ++ [Cell.lst (sD fd), .lst (sD lf')]) = some (decide (one ∈ fd) != true, S ++ [Cell.lst (sD fd), .lst (sD lf')]) :=
          val_eq (bin_eq (var_eq rfl) (var_eq rfl) (in_strs (seq_sref d0)))
        have ho := i3 one (by simp)
        have hoT := H.sub hn ho
        have len1 : (lf' ++ [one]).length = lf'.length + 1 := by simp
        by_cases hin : one ∈ fd
        · refine ⟨_, _, lf'.length + 9 * (8 - fd.length), (skip_if (tt.trans (by simp [hin]))).trans rfl, ⟨fd, lf', x3, x4, some (.p (.str one)), rfl, rfl, i1, i2, fun x hx => i3 x (by simp [hx]), fun y hy => ?_, fun x hx y hy => ?_, Nat.le_refl _, by omega⟩, by omega⟩
          · rcases i4 y hy with h | h
            · exact .inl h
            · rcases List.mem_append.mp h with h | h
              · exact .inr h
              · rw [List.mem_singleton.mp h]
                exact .inl hin
          · rcases i5 x hx y hy with h | h
            · exact .inl h
            · rcases List.mem_append.mp h with h | h
              · exact .inr h
              · rw [List.mem_singleton.mp h]
                exact .inl hin
        · obtain ⟨k1, d1', f1, hR1, hu1, _⟩ := H.rm one hoT
          have hlen := H.len one hoT
          have nd : (fd ++ [one]).Nodup := by
            rw [List.nodup_append]
            refine ⟨i1, by simp, fun a ha b hb => ?_⟩
            simp at hb
            subst hb
            rintro rfl
            exact hin ha
          have fd8 := nodup_8 nd (fun x hx => by
            rcases List.mem_append.mp hx with h | h
            · exact H.sub hn (i2 x h)
            · rw [List.mem_singleton.mp h]
              exact hoT) T8
          simp only [List.length_append, List.length_singleton] at fd8
          refine ⟨[some (.p R), some (.p (.str n)), some (.ref S.length), x3, x4, some (.ref (S.length + 1)), some (.p (.str one))], S ++ [Cell.lst (sD (fd ++ [one])), .lst (sD (lf' ++ (U one).map (·.1)))], (lf' ++ (U one).map (·.1)).length + 9 * (8 - (fd ++ [one]).length), ?_, ⟨fd ++ [one], lf' ++ (U one).map (·.1), x3, x4, some (.p (.str one)), rfl, rfl, nd, fun x hx => ?_, fun x hx => ?_, fun y hy => ?_, fun x hx y hy => ?_, Nat.le_refl _, ?_⟩, ?_⟩
          · refine (seq_nx (E1 := [some (.p R), some (.p (.str n)), some (.ref S.length), x3, x4, some (.ref (S.length + 1)), some (.p (.str one))]) (S1 := S ++ [Cell.lst (sD (fd ++ [one])), .lst (sD (lf' ++ (U one).map (·.1)))]) ?_).trans rfl
            rw [if_t (S1 := S ++ [Cell.lst (sD fd), .lst (sD lf')]) (tt.trans (by simp [hin]))]
            have sd : (sD fd).length < 100000 := by simp only [sD, List.length_map]; omega
            refine Eq.trans (seq_nx (drop_eq (app_eq (q := S.length) (d := .p (.str one)) (xs := sD fd) (var_eq rfl) (var_eq rfl) d0 sd))) ?_
            have s2 : (S ++ [Cell.lst (sD fd), .lst (sD lf')]).set S.length (.lst (sD fd ++ [.p (.str one)])) = S ++ [Cell.lst (sD (fd ++ [one])), .lst (sD lf')] := by
              rw [List.set_append_right _ _ (by omega)]
              simp
            rw [s2]
            have d2 : (S ++ [Cell.lst (sD (fd ++ [one])), .lst (sD lf')])[S.length + 1]? = some (.lst (sD lf')) := by simp
            have hlc := names_lc (E := [some (.p R), some (.p (.str n)), some (.ref S.length), x3, x4, some (.ref (S.length + 1)), some (.p (.str one))]) (S := S ++ [Cell.lst (sD (fd ++ [one])), .lst (sD lf')]) (us := U one) (i := 6) (x := one) (R := R) rfl rfl (by simp) (hR1 _) hu1
            have hm : mLc [3, 4] (iSeq (mCall (fn__law_used 64) (aCons (mBin oIx (mBin oIx (mVar 0) (mVar 6)) (mC (.p (.int 2)))) aNil))) (gT 2 (gsCons (gN 3) (gsCons (gN 4) gsNil))) tYes1 (mVar 3) [some (.p R), some (.p (.str n)), some (.ref S.length), x3, x4, some (.ref (S.length + 1)), some (.p (.str one))] (S ++ [Cell.lst (sD (fd ++ [one])), .lst (sD lf')]) =
                some (.p (.lst (((U one).map (·.1)).map PD.str)), S ++ [Cell.lst (sD (fd ++ [one])), .lst (sD lf')]) := mLc_eq hlc
            refine Eq.trans (seq_nx (drop_eq (ext_eq (q := S.length + 1) (xs := sD lf') (var_eq rfl) hm d2 (by simp only [sD, List.length_map]; omega)))) ?_
            have s3 : (S ++ [Cell.lst (sD (fd ++ [one])), .lst (sD lf')]).set (S.length + 1) (.lst (sD lf' ++ (((U one).map (·.1)).map PD.str).map .p)) = S ++ [Cell.lst (sD (fd ++ [one])), .lst (sD (lf' ++ (U one).map (·.1)))] := by
              rw [List.set_append_right _ _ (by omega)]
              simp [sD]
            rw [s3]
            rfl
          · rcases List.mem_append.mp hx with h | h
            · exact i2 x h
            · rw [List.mem_singleton.mp h]
              exact ho
          · rcases List.mem_append.mp hx with h | h
            · exact i3 x (by simp [h])
            · exact .step ho h
          · rcases i4 y hy with h | h
            · exact .inl (by simp [h])
            · rcases List.mem_append.mp h with h | h
              · exact .inr (by simp [h])
              · exact .inl (by simp [List.mem_singleton.mp h])
          · rcases List.mem_append.mp hx with hx | hx
            · rcases i5 x hx y hy with h | h
              · exact .inl (by simp [h])
              · rcases List.mem_append.mp h with h | h
                · exact .inr (by simp [h])
                · exact .inl (by simp [List.mem_singleton.mp h])
            · rw [List.mem_singleton.mp hx] at hy
              exact .inr (List.mem_append.mpr (.inr hy))
          · simp only [List.length_append, List.length_map, List.length_singleton]
            omega
          · simp only [List.length_append, List.length_map, List.length_singleton]
            omega)
    100 81 [some (.p R), some (.p (.str n)), some (.ref S.length), none, none, some (.ref (S.length + 1)), none] (S ++ [.lst (sD []), .lst (sD ((U n).map (·.1)))])
    ⟨[], (U n).map (·.1), none, none, none, rfl, rfl, by simp, by simp, fun x hx => .base hx, fun y hy => .inr hy, by simp, by have := H.len n hn; simp only [List.length_map, List.length_nil]; omega, by omega⟩ (by omega)
  refine ⟨fd, ⟨f1, f2⟩, ?_⟩
  have fd8 := nodup_8 f1 (fun x hx => H.sub hn ((f2 x).mp hx)) T8
  unfold fn__law_hangs
  refine fnM_p (T := [.lst (sD fd), .lst []]) rfl ?_
  show m__law_hangs [some (.p R), some (.p (.str n)), none, none, none, none, none] S = _
  unfold m__law_hangs
  refine Eq.trans (seq_nx (E1 := [some (.p R), some (.p (.str n)), some (.ref S.length), none, none, none, none]) (S1 := S ++ [.lst []]) rfl) ?_
  refine Eq.trans (seq_nx (asg_eq (d := .ref (S.length + 1)) (S1 := S ++ [.lst (sD []), .lst (sD ((U n).map (·.1)))]) ?_)) ?_
  · have hlc := names_lc (E := [some (.p R), some (.p (.str n)), some (.ref S.length), none, none, none, none]) (S := S ++ [.lst []]) (us := U n) (i := 1) (x := n) (R := R) rfl rfl (by simp) (hR _) hu
    refine (mLcR_eq hlc).trans ?_
    simp [sD]
  refine Eq.trans (seq_nx w1) ?_
  exact seq_rt (ret_eq ((call1_eq (var_eq rfl)).trans (sorted_ref (n := S.length) (l := fd) (by simp) (by omega))))
end
end Pt
set_option maxRecDepth 100000
set_option maxHeartbeats 2000000
/-! Q12: hung. -/
namespace Pt
open PySem PySem.Spec PyProof.Rows L2
section
variable {R : PD} {T : List Str} {U : Str → List (Str × Nat)}
noncomputable def hungIn : MS := sSeq (sIf (mVal (mBin (oIn true) (mVar 4) (mVar 2))) (sSeq (sDrop (mMeth fAppend (mVar 2) (aCons (mVar 4) aNil))) (sSeq (sDrop (mMeth fAppend (mVar 3) (aCons (mVar 4) aNil))) sNil)) sNil) sNil
theorem hung_in {n : Str} {S : List Cell} : ∀ (us : List (Str × Nat)) (fd lf : List Str) (x4 x5 : Option D), fd.Nodup → fd.length + us.length < 1000 → lf.length + us.length < 1000 →
    ∃ (new : List Str) (y4 y5 : Option D), fLoop (gT 2 (gsCons (gN 4) (gsCons (gN 5) gsNil))) hungIn (encN us) [some (.p R), some (.p (.str n)), some (.ref S.length), some (.ref (S.length + 1)), x4, x5] (S ++ [.lst (sD fd), .lst (sD lf)]) = some (.nx [some (.p R), some (.p (.str n)), some (.ref S.length), some (.ref (S.length + 1)), y4, y5], S ++ [.lst (sD (fd ++ new)), .lst (sD (lf ++ new))]) ∧
      (fd ++ new).Nodup ∧ (∀ x ∈ new, x ∈ us.map (·.1)) ∧ (∀ p ∈ us, p.1 ∈ fd ++ new)
  | [], fd, lf, x4, x5, nd, _, _ => ⟨[], x4, x5, by simp [encN, fLoop], by simpa using nd, by simp, by simp⟩
  | p :: us, fd, lf, x4, x5, nd, l1, l2 => by
    simp only [List.length_cons] at l1 l2
    have d0 : (S ++ [Cell.lst (sD fd), .lst (sD lf)])[S.length]? = some (.lst (sD fd)) := by simp
    have tt : mVal (mBin (oIn true) (mVar 4) (mVar 2)) [some (.p R), some (.p (.str n)), some (.ref S.length), some (.ref (S.length + 1)), some (.p (.str p.1)), some (.p (.int p.2))] (S ++ [Cell.lst (sD fd), .lst (sD lf)]) = some (decide (p.1 ∈ fd) != true, S ++ [Cell.lst (sD fd), .lst (sD lf)]) :=
      val_eq (bin_eq (var_eq rfl) (var_eq rfl) (in_strs (seq_sref d0)))
    have ht : gT 2 (gsCons (gN 4) (gsCons (gN 5) gsNil)) (.p (.tup [.str p.1, .int p.2])) [some (.p R), some (.p (.str n)), some (.ref S.length), some (.ref (S.length + 1)), x4, x5] = some [some (.p R), some (.p (.str n)), some (.ref S.length), some (.ref (S.length + 1)), some (.p (.str p.1)), some (.p (.int p.2))] := rfl
    by_cases hin : p.1 ∈ fd
    · obtain ⟨new, y4, y5, e, h1, h2, h3⟩ := hung_in (n := n) (S := S) us fd lf (some (.p (.str p.1))) (some (.p (.int p.2))) nd (by omega) (by omega)
      refine ⟨new, y4, y5, ?_, h1, fun x hx => by simp [h2 x hx], fun q hq => ?_⟩
      · have hb : hungIn [some (.p R), some (.p (.str n)), some (.ref S.length), some (.ref (S.length + 1)), some (.p (.str p.1)), some (.p (.int p.2))] (S ++ [Cell.lst (sD fd), .lst (sD lf)]) = some (.nx [some (.p R), some (.p (.str n)), some (.ref S.length), some (.ref (S.length + 1)), some (.p (.str p.1)), some (.p (.int p.2))], S ++ [Cell.lst (sD fd), .lst (sD lf)]) := by
          unfold hungIn
          exact (skip_if (tt.trans (by simp [hin]))).trans rfl
        simp only [encN, List.map_cons]
        unfold fLoop
        simp only [ht, hb]
        exact e
      · rcases List.mem_cons.mp hq with rfl | hq
        · simp [hin]
        · exact h3 q hq
    · have nd' : (fd ++ [p.1]).Nodup := by
        rw [List.nodup_append]
        refine ⟨nd, by simp, fun a ha b hb => ?_⟩
        simp at hb
        subst hb
        rintro rfl
        exact hin ha
      obtain ⟨new, y4, y5, e, h1, h2, h3⟩ := hung_in (n := n) (S := S) us (fd ++ [p.1]) (lf ++ [p.1]) (some (.p (.str p.1))) (some (.p (.int p.2))) nd' (by simp only [List.length_append, List.length_singleton]; omega) (by simp only [List.length_append, List.length_singleton]; omega)
      refine ⟨p.1 :: new, y4, y5, ?_, by simpa using h1, fun x hx => ?_, fun q hq => ?_⟩
      · have hb : hungIn [some (.p R), some (.p (.str n)), some (.ref S.length), some (.ref (S.length + 1)), some (.p (.str p.1)), some (.p (.int p.2))] (S ++ [Cell.lst (sD fd), .lst (sD lf)]) = some (.nx [some (.p R), some (.p (.str n)), some (.ref S.length), some (.ref (S.length + 1)), some (.p (.str p.1)), some (.p (.int p.2))], S ++ [Cell.lst (sD (fd ++ [p.1])), .lst (sD (lf ++ [p.1]))]) := by
          unfold hungIn
          refine (seq_nx (E1 := [some (.p R), some (.p (.str n)), some (.ref S.length), some (.ref (S.length + 1)), some (.p (.str p.1)), some (.p (.int p.2))]) (S1 := S ++ [Cell.lst (sD (fd ++ [p.1])), .lst (sD (lf ++ [p.1]))]) ?_).trans rfl
          rw [if_t (S1 := S ++ [Cell.lst (sD fd), .lst (sD lf)]) (tt.trans (by simp [hin]))]
          refine Eq.trans (seq_nx (drop_eq (app_eq (q := S.length) (d := .p (.str p.1)) (xs := sD fd) (var_eq rfl) (var_eq rfl) d0 (by simp only [sD, List.length_map]; omega)))) ?_
          have s2 : (S ++ [Cell.lst (sD fd), .lst (sD lf)]).set S.length (.lst (sD fd ++ [.p (.str p.1)])) = S ++ [Cell.lst (sD (fd ++ [p.1])), .lst (sD lf)] := by
            rw [List.set_append_right _ _ (by omega)]
            simp
          rw [s2]
          refine Eq.trans (seq_nx (drop_eq (app_eq (q := S.length + 1) (d := .p (.str p.1)) (xs := sD lf) (var_eq rfl) (var_eq rfl) (by simp) (by simp only [sD, List.length_map]; omega)))) ?_
          have s3 : (S ++ [Cell.lst (sD (fd ++ [p.1])), .lst (sD lf)]).set (S.length + 1) (.lst (sD lf ++ [.p (.str p.1)])) = S ++ [Cell.lst (sD (fd ++ [p.1])), .lst (sD (lf ++ [p.1]))] := by
            rw [List.set_append_right _ _ (by omega)]
            simp [sD]
          rw [s3]
          rfl
        simp only [encN, List.map_cons]
        unfold fLoop
        simp only [ht, hb]
        rw [show fd ++ p.1 :: new = fd ++ [p.1] ++ new by simp, show lf ++ p.1 :: new = lf ++ [p.1] ++ new by simp]
        exact e
      · rcases List.mem_cons.mp hx with rfl | hx
        · simp
        · simp only [List.map_cons, List.mem_cons]
          exact .inr (h2 x hx)
      · rcases List.mem_cons.mp hq with rfl | hq
        · simp
        · have := h3 q hq
          simpa using this
theorem hung_run (H : HU R T U) {n : Str} (hn : n ∈ T) : ∃ fd : List Str, fd.Nodup ∧ (∀ x, x ∈ fd ↔ Rch U n x) ∧ PR fn_hung [.p R, .p (.str n)] (.tup ((sortS fd).map PD.str)) := by
  suffices hx : ∀ S, ∃ fd : List Str, (fd.Nodup ∧ ∀ x, x ∈ fd ↔ Rch U n x) ∧ fn_hung [.p R, .p (.str n)] S = some (.p (.tup ((sortS fd).map PD.str)), S) by
    obtain ⟨fd, h0, _⟩ := hx []
    refine ⟨fd, h0.1, h0.2, fun S => ?_⟩
    obtain ⟨fd2, h2, e2⟩ := hx S
    have hp : fd.Perm fd2 := (List.perm_ext_iff_of_nodup h0.1 h2.1).mpr fun x => (h0.2 x).trans (h2.2 x).symm
    have : sortS fd = sortS fd2 := by
      unfold sortS
      exact PySem.W.Srt.the_of_perm leS leS_trans leS_total leS_anti ((List.mergeSort_perm fd leS).trans hp) (List.pairwise_mergeSort leS_trans leS_total fd)
    rw [this]
    exact e2
  intro S
  have T8 := H.le8
  obtain ⟨E2, S2, w1, fd, x4, x5, rfl, rfl, f1, f2⟩ := while_run (c := mVal (mBin (oEq true) (mVar 3) (mLst aNil)))
    (mb := sSeq (sFor (iSeq (mCall (fn_uses_of 64) (aCons (mBin oIx (mBin oIx (mVar 0) (mMeth fPop (mVar 3) aNil)) (mC (.p (.int 2)))) aNil))) (gT 2 (gsCons (gN 4) (gsCons (gN 5) gsNil))) hungIn) sNil)
    (I := fun p E S' => ∃ (fd lf : List Str) (x4 x5 : Option D), E = [some (.p R), some (.p (.str n)), some (.ref S.length), some (.ref (S.length + 1)), x4, x5] ∧ S' = S ++ [.lst (sD fd), .lst (sD lf)] ∧ fd.Nodup ∧ (∀ x ∈ fd, Rch U n x) ∧ (∀ x ∈ lf, x = n ∨ Rch U n x) ∧
      (∀ x, x = n ∨ x ∈ fd → x ∈ lf ∨ ∀ y ∈ (U x).map (·.1), y ∈ fd) ∧ lf.length + (8 - fd.length) ≤ p ∧ p ≤ 20)
    (Fin := fun E S' => ∃ (fd : List Str) (x4 x5 : Option D), E = [some (.p R), some (.p (.str n)), some (.ref S.length), some (.ref (S.length + 1)), x4, x5] ∧ S' = S ++ [.lst (sD fd), .lst []] ∧ fd.Nodup ∧ ∀ x, x ∈ fd ↔ Rch U n x)
    (fun p E S' ⟨fd, lf, x4, x5, hE, hS, i1, i2, i3, i4, i6, i7⟩ => by
      subst hE
      subst hS
      have c1 : (S ++ [Cell.lst (sD fd), .lst (sD lf)])[S.length + 1]? = some (.lst (sD lf)) := by simp
      have ht := ne_t (i := 3) (E := [some (.p R), some (.p (.str n)), some (.ref S.length), some (.ref (S.length + 1)), x4, x5]) rfl (view_sref c1)
      rcases snoc_cases lf with rfl | ⟨lf', one, rfl⟩
      · refine .inl ⟨ht, fd, x4, x5, rfl, rfl, i1, fun x => ⟨i2 x, fun hr => ?_⟩⟩
        induction hr with
        | base h => exact (i4 n (.inl rfl)).elim (fun z => nomatch z) (fun q => q _ h)
        | step _ h ih => exact (i4 _ (.inr ih)).elim (fun z => nomatch z) (fun q => q _ h)
      · refine .inr ⟨ht.trans (by simp), ?_⟩
        have e1 : sD (lf' ++ [one]) = sD lf' ++ [D.p (.str one)] := by simp [sD]
        have hp := pop_eq (mo := mVar 3) (E := [some (.p R), some (.p (.str n)), some (.ref S.length), some (.ref (S.length + 1)), x4, x5]) (q := S.length + 1) (xs := sD lf') (d := .p (.str one)) (S := S ++ [Cell.lst (sD fd), .lst (sD (lf' ++ [one]))]) (var_eq rfl) (by rw [c1, e1])
        have s1 : (S ++ [Cell.lst (sD fd), .lst (sD (lf' ++ [one]))]).set (S.length + 1) (.lst (sD lf')) = S ++ [Cell.lst (sD fd), .lst (sD lf')] := by
          rw [List.set_append_right _ _ (by omega)]
          simp
        rw [s1] at hp
        have len1 : (lf' ++ [one]).length = lf'.length + 1 := by simp
        have ho := i3 one (by simp)
        have hoT : one ∈ T := by
          rcases ho with rfl | h
          · exact hn
          · exact H.sub hn h
        obtain ⟨k1, d1', f1, hR1, _, hu1⟩ := H.rm one hoT
        have hlen := H.len one hoT
        have fd8 := nodup_8 i1 (fun x hx => H.sub hn (i2 x hx)) T8
        obtain ⟨new, y4, y5, e, h1, h2, h3⟩ := hung_in (R := R) (n := n) (S := S) (U one) fd lf' x4 x5 i1 (by omega) (by omega)
        have hro : ∀ x ∈ (U one).map (·.1), Rch U n x := fun x hx => by
          rcases ho with rfl | h
          · exact .base hx
          · exact .step h hx
        have fr : ∀ x ∈ fd ++ new, Rch U n x := fun x hx => by
          rcases List.mem_append.mp hx with h | h
          · exact i2 x h
          · exact hro x (h2 x h)
        have nl8 := nodup_8 h1 (fun x hx => H.sub hn (fr x hx)) T8
        simp only [List.length_append] at nl8
        refine ⟨_, _, (lf' ++ new).length + (8 - (fd ++ new).length), (seq_nx ?_).trans rfl, ⟨fd ++ new, lf' ++ new, y4, y5, rfl, rfl, h1, fr, fun x hx => ?_, fun x hx => ?_, Nat.le_refl _, ?_⟩, ?_⟩
        · unfold sFor
          refine Eq.trans (bnd_eq (a := encN (U one)) (S1 := S ++ [Cell.lst (sD fd), .lst (sD lf')]) ?_) e
          unfold iSeq
          rw [bnd_eq (show mCall _ _ _ _ = some (.p (.lst (encN (U one))), S ++ [Cell.lst (sD fd), .lst (sD lf')]) from (call1_eq (bin_eq (bin_eq (var_eq rfl) hp (hR1 _)) rfl ix2)).trans (hu1 _))]
        · rcases List.mem_append.mp hx with h | h
          · exact i3 x (by simp [h])
          · exact .inr (hro x (h2 x h))
        · by_cases hxo : x = one
          · subst hxo
            refine .inr fun y hy => ?_
            obtain ⟨q, hq, rfl⟩ := List.mem_map.mp hy
            exact h3 q hq
          · have hx' : (x = n ∨ x ∈ fd) ∨ x ∈ new := by
              rcases hx with h | h
              · exact .inl (.inl h)
              · rcases List.mem_append.mp h with h | h
                · exact .inl (.inr h)
                · exact .inr h
            rcases hx' with h | h
            · rcases i4 x h with h | h
              · refine .inl ?_
                rcases List.mem_append.mp h with h | h
                · simp [h]
                · exact absurd (List.mem_singleton.mp h) hxo
              · exact .inr fun y hy => by simp [h y hy]
            · exact .inl (by simp [h])
        · simp only [List.length_append]
          omega
        · simp only [List.length_append]
          omega)
    100 9 [some (.p R), some (.p (.str n)), some (.ref S.length), some (.ref (S.length + 1)), none, none] (S ++ [.lst (sD []), .lst (sD [n])])
    ⟨[], [n], none, none, rfl, rfl, by simp, by simp, fun x hx => .inl (List.mem_singleton.mp hx), fun x hx => by
      rcases hx with rfl | h
      · exact .inl (by simp)
      · exact (nomatch h), by simp, by omega⟩ (by omega)
  refine ⟨fd, ⟨f1, f2⟩, ?_⟩
  have fd8 := nodup_8 f1 (fun x hx => H.sub hn ((f2 x).mp hx)) T8
  unfold fn_hung
  refine fnM_p (T := [.lst (sD fd), .lst []]) rfl ?_
  show m_hung [some (.p R), some (.p (.str n)), none, none, none, none] S = _
  unfold m_hung
  refine Eq.trans (seq_nx (E1 := [some (.p R), some (.p (.str n)), some (.ref S.length), some (.ref (S.length + 1)), none, none]) (S1 := S ++ [.lst (sD []), .lst (sD [n])]) ?_) ?_
  · have h1 : mLstR aNil [some (.p R), some (.p (.str n)), none, none, none, none] S = some (.ref S.length, S ++ [.lst []]) := rfl
    have h2 : mLstR (aCons (mVar 1) aNil) [some (.p R), some (.p (.str n)), none, none, none, none] (S ++ [.lst []]) = some (.ref (S.length + 1), S ++ [.lst []] ++ [.lst [.p (.str n)]]) := by
      unfold mLstR
      rw [bnd_eq (a1_eq (var_eq rfl))]
      simp
    have := par_eq (i := 2) (j := 3) h1 h2
    rw [this]
    simp [sD]
  refine Eq.trans (seq_nx w1) ?_
  exact seq_rt (ret_eq ((call1_eq ((call1_eq (var_eq rfl)).trans (sorted_ref (n := S.length) (l := fd) (by simp) (by omega)))).trans rfl))
/-- both tell the same -/
theorem hangs_both (H : HU R T U) {n : Str} (hn : n ∈ T) : ∃ l : List Str, l.length ≤ 8 ∧ (∀ x ∈ l, x ∈ T) ∧ PR fn__law_hangs [.p R, .p (.str n)] (.lst (l.map PD.str)) ∧ PR fn_hung [.p R, .p (.str n)] (.tup (l.map PD.str)) := by
  obtain ⟨f1, a1, b1, c1⟩ := lawhangs_run H hn
  obtain ⟨f2, a2, b2, c2⟩ := hung_run H hn
  have hp : f1.Perm f2 := (List.perm_ext_iff_of_nodup a1 a2).mpr fun x => (b1 x).trans (b2 x).symm
  have : sortS f1 = sortS f2 := by
    unfold sortS
    exact PySem.W.Srt.the_of_perm leS leS_trans leS_total leS_anti ((List.mergeSort_perm f1 leS).trans hp) (List.pairwise_mergeSort leS_trans leS_total f1)
  refine ⟨sortS f1, ?_, fun x hx => H.sub hn ((b1 x).mp (mem_sortS.mp hx)), c1, this ▸ c2⟩
  have := nodup_8 a1 (fun x hx => H.sub hn ((b1 x).mp hx)) H.le8
  unfold sortS
  rw [List.length_mergeSort]
  exact this
end
end Pt
set_option maxRecDepth 100000
set_option maxHeartbeats 2000000
/-! Q13: forms put in. -/
namespace Pt
open PySem PySem.Spec PyProof.Rows L2
abbrev intsP (ns : List Int) : List PD := ns.map PD.int
abbrev tupI (ns : List Int) : PD := .tup (ns.map PD.int)
def stepF (acc : List Int) (p : Int × List Int) : List Int := List.zipWith (fun a b => a + p.1 * b) acc p.2
def putF (c0 : Int) (cs : List Int) (fs : List (List Int)) (n : Nat) : List Int := (cs.zip fs).foldl stepF (c0 :: List.replicate n 0)
def okF (n : Nat) (fs : List (List Int)) : Prop := ∀ f ∈ fs, f.length = n + 1 ∧ ∀ z ∈ f, z.natAbs ≤ 2
theorem zipP_ints : ∀ (a b : List Int), zipP (intsP a) (intsP b) = (a.zip b).map fun p => PD.tpl [.int p.1, .int p.2]
  | [], _ => rfl
  | _ :: _, [] => rfl
  | x :: a, y :: b => by
    have := zipP_ints a b
    simp only [zipP, List.map_cons, List.zipWith_cons_cons, List.zip_cons_cons] at *
    rw [this]
theorem zipP_forms : ∀ (a : List Int) (b : List (List Int)), zipP (intsP a) (b.map tupI) = (a.zip b).map fun p => PD.tpl [.int p.1, tupI p.2]
  | [], _ => rfl
  | _ :: _, [] => rfl
  | x :: a, y :: b => by
    have := zipP_forms a b
    simp only [zipP, List.map_cons, List.zipWith_cons_cons, List.zip_cons_cons] at *
    rw [this]
theorem zipW_zip {f : Int → Int → Int} : ∀ (a b : List Int), List.zipWith f a b = (a.zip b).map fun p => f p.1 p.2
  | [], _ => rfl
  | _ :: _, [] => rfl
  | x :: a, y :: b => by simp [zipW_zip a b]
theorem mulG_ok {c b : Int} {S : List Cell} (hc : c.natAbs < 2 ^ 61) (hb : b.natAbs ≤ 2) : oMulG (.p (.int c)) (.p (.int b)) S = some (.p (.int (c * b)), S) :=
  oMulG_int (mul_fits (m := 61) (n := 2) hc (by omega) (by decide))
/-- a comprehension over what is numbered otherwise -/
theorem lc_gen2 {β : Type} {t : Tg} {te : ME} {S : List Cell} {E : Vr} {x f : β → PD} : ∀ (ps : List β) (acc : List PD), (∀ p ∈ ps, ∃ E1, t (.p (x p)) E = some E1 ∧ te E1 S = some (.p (f p), S)) → lcLoop E t tYes1 te (ps.map x) acc S = some (acc ++ ps.map f, S)
  | [], acc, _ => by simp [lcLoop, ret]
  | p :: ps, acc, h => by
    obtain ⟨E1, h1, h2⟩ := h p List.mem_cons_self
    simp only [List.map_cons]
    unfold lcLoop
    simp only [h1, tYes1, h2]
    rw [show acc ++ f p :: ps.map f = acc ++ [f p] ++ ps.map f by simp]
    exact lc_gen2 ps _ fun q hq => h q (List.mem_cons_of_mem _ hq)
theorem lc2_eq {β : Type} {own : List Nat} {ms : MI} {t : Tg} {te : ME} {E : Vr} {S : List Cell} {x f : β → PD} {ps : List β} (hm : ms E S = some (ps.map x, S)) (h : ∀ p ∈ ps, ∃ E1, t (.p (x p)) (wipeE E own) = some E1 ∧ te E1 S = some (.p (f p), S)) : mLc own ms t tYes1 te E S = some (.p (.lst (ps.map f)), S) :=
  mLc_eq ((bnd_eq hm).trans (by rw [lc_gen2 ps [] h, List.nil_append]))
theorem zip_eq {a b : ME} {E : Vr} {S : List Cell} {x y : D} {xs ys : List PD} {k1 k2 : Bool} (ha : a E S = some (x, S)) (hb : b E S = some (y, S)) (hx : seqP x = some (k1, xs)) (hy : seqP y = some (k2, ys)) : iZip (aCons a (aCons b aNil)) E S = some (zipP xs ys, S) := by
  unfold iZip
  rw [bnd_eq (a2_eq ha hb)]
  simp only [hx, hy]
/-! ### the law's way -/
noncomputable def lpfBody : MS := sSeq (sAsg (mLc [6, 7] (iZip (aCons (mVar 3) (aCons (mVar 5) aNil))) (gT 2 (gsCons (gN 6) (gsCons (gN 7) gsNil))) tYes1 (mBin oAdd (mVar 6) (mBin oMulG (mVar 4) (mVar 7)))) (gN 3)) sNil
theorem lpf_loop {F G : D} {n : Nat} {S : List Cell} : ∀ (ps : List (Int × List Int)) (acc : List Int) (x4 x5 : Option D), (∀ p ∈ ps, p.1.natAbs < 2 ^ 61 ∧ ∀ z ∈ p.2, z.natAbs ≤ 2) →
    ∃ y4 y5, fLoop (gT 2 (gsCons (gN 4) (gsCons (gN 5) gsNil))) lpfBody (ps.map fun p => PD.tpl [.int p.1, tupI p.2]) [some F, some G, some (.p (.int n)), some (.p (.lst (intsP acc))), x4, x5, none, none] S = some (.nx [some F, some G, some (.p (.int n)), some (.p (.lst (intsP (ps.foldl stepF acc)))), y4, y5, none, none], S)
  | [], acc, x4, x5, _ => ⟨x4, x5, rfl⟩
  | p :: ps, acc, x4, x5, h => by
    obtain ⟨y4, y5, e⟩ := lpf_loop (F := F) (G := G) (n := n) (S := S) ps (stepF acc p) (some (.p (.int p.1))) (some (.p (tupI p.2))) fun q hq => h q (List.mem_cons_of_mem _ hq)
    refine ⟨y4, y5, ?_⟩
    obtain ⟨hp1, hp2⟩ := h p List.mem_cons_self
    have ht : gT 2 (gsCons (gN 4) (gsCons (gN 5) gsNil)) (.p (.tpl [.int p.1, tupI p.2])) [some F, some G, some (.p (.int n)), some (.p (.lst (intsP acc))), x4, x5, none, none] = some [some F, some G, some (.p (.int n)), some (.p (.lst (intsP acc))), some (.p (.int p.1)), some (.p (tupI p.2)), none, none] := rfl
    have hb : lpfBody [some F, some G, some (.p (.int n)), some (.p (.lst (intsP acc))), some (.p (.int p.1)), some (.p (tupI p.2)), none, none] S = some (.nx [some F, some G, some (.p (.int n)), some (.p (.lst (intsP (stepF acc p)))), some (.p (.int p.1)), some (.p (tupI p.2)), none, none], S) := by
      unfold lpfBody
      refine (seq_nx (asg_eq (d := .p (.lst (intsP (stepF acc p)))) (S1 := S) ?_)).trans rfl
      have e2 : intsP (stepF acc p) = (acc.zip p.2).map fun q => PD.int (q.1 + p.1 * q.2) := by
        unfold stepF
        rw [zipW_zip]
        simp
      rw [e2]
      refine lc2_eq (x := fun q : Int × Int => PD.tpl [.int q.1, .int q.2]) ((zip_eq (var_eq rfl) (var_eq rfl) rfl rfl).trans (by rw [zipP_ints])) fun q hq => ⟨[some F, some G, some (.p (.int n)), some (.p (.lst (intsP acc))), some (.p (.int p.1)), some (.p (tupI p.2)), some (.p (.int q.1)), some (.p (.int q.2))], rfl, ?_⟩
      exact bin_eq (var_eq rfl) (bin_eq (var_eq rfl) (var_eq rfl) (mulG_ok hp1 (hp2 q.2 (List.of_mem_zip hq).2))) oAdd_int
    simp only [List.map_cons]
    unfold fLoop
    simp only [ht, hb]
    exact e
theorem zip_ok {cs : List Int} {fs : List (List Int)} {n : Nat} (hc : ∀ z ∈ cs, z.natAbs < 2 ^ 61) (hf : okF n fs) : ∀ p ∈ cs.zip fs, p.1.natAbs < 2 ^ 61 ∧ ∀ z ∈ p.2, z.natAbs ≤ 2 := fun p hp =>
  ⟨hc _ (List.of_mem_zip hp).1, (hf _ (List.of_mem_zip hp).2).2⟩
theorem rep_flat {n : Nat} {a : PD} : (List.replicate n [a]).flatten = List.replicate n a := by
  induction n with
  | zero => rfl
  | succ n ih => simp [List.replicate_succ, ih]
theorem lawputform_run {c0 : Int} {cs : List Int} {fs : List (List Int)} {n : Nat} (hc : ∀ z ∈ cs, z.natAbs < 2 ^ 61) (hf : okF n fs) (hn : n ≤ 900) :
    PR fn__law_put_form [.p (tupI (c0 :: cs)), .p (.lst (fs.map tupI)), .p (.int n)] (tupI (putF c0 cs fs n)) := by
  unfold fn__law_put_form
  refine PR.fn0 rfl fun S => ?_
  show m__law_put_form [some (.p (tupI (c0 :: cs))), some (.p (.lst (fs.map tupI))), some (.p (.int n)), none, none, none, none, none] S = _
  unfold m__law_put_form
  obtain ⟨y4, y5, e⟩ := lpf_loop (F := .p (tupI (c0 :: cs))) (G := .p (.lst (fs.map tupI))) (n := n) (S := S) (cs.zip fs) (c0 :: List.replicate n 0) none none (zip_ok hc hf)
  refine Eq.trans (seq_nx (asg_eq (d := .p (.lst (intsP (c0 :: List.replicate n 0)))) (S1 := S) ?_)) ?_
  · have h2 : oMulG (.p (.lst [.int 0])) (.p (.int n)) S = some (.p (.lst (List.replicate n (.int 0))), S) := by
      have q : (0 : Int) ≤ n ∧ (n : Int) ≤ 100000 ∧ ([PD.int 0] : List PD).length * (n : Int).toNat ≤ sizeLine := by
        have := line_ge
        simp only [List.length_singleton]
        omega
      simp only [oMulG, oMul]
      rw [if_pos q]
      simp only [Int.toNat_natCast, rep_flat]
    refine bin_eq (lst1 (bin_eq (var_eq rfl) rfl ix0)) (bin_eq (lst1 rfl) (var_eq rfl) h2) ?_
    have q : ([PD.int c0] : List PD).length + (List.replicate n (PD.int 0)).length ≤ sizeLine := by
      have := line_ge
      simp only [List.length_singleton, List.length_replicate]
      omega
    simp only [oAdd, if_pos q]
    simp
  refine Eq.trans (seq_nx (E1 := [some (.p (tupI (c0 :: cs))), some (.p (.lst (fs.map tupI))), some (.p (.int n)), some (.p (.lst (intsP (putF c0 cs fs n)))), y4, y5, none, none]) (S1 := S) ?_) (seq_rt (ret_eq ((call1_eq (var_eq rfl)).trans rfl)))
  unfold sFor
  refine Eq.trans (bnd_eq ((zip_eq (sl_tail rfl) (var_eq rfl) rfl rfl).trans (by rw [show cs.map PD.int = intsP cs from rfl, zipP_forms]))) ?_
  exact e
/-! ### the program's way -/
theorem times_run {f : List Int} {c : Int} (hc : c.natAbs < 2 ^ 61) (hf : ∀ z ∈ f, z.natAbs ≤ 2) : PR fn_form_times [.p (tupI f), .p (.int c)] (tupI (f.map (c * ·))) := by
  unfold fn_form_times
  refine PR.fn0 rfl fun S => ?_
  show m_form_times [some (.p (tupI f)), some (.p (.int c)), none] S = _
  unfold m_form_times
  refine seq_rt (ret_eq ((call1_eq (d := .p (.lst (f.map fun z => PD.int (c * z)))) (S1 := S) ?_).trans ?_))
  · refine lc2_eq (x := PD.int) (sl_var_seq (var_eq rfl)) fun z hz => ⟨[some (.p (tupI f)), some (.p (.int c)), some (.p (.int z))], rfl, ?_⟩
    exact bin_eq (var_eq rfl) (var_eq rfl) (mulG_ok hc (hf z hz))
  · show some (D.p (.tup (f.map fun z => PD.int (c * z))), S) = _
    simp
theorem sum_run {a b : List Int} : PR fn_form_sum [.p (tupI a), .p (tupI b)] (tupI (List.zipWith (· + ·) a b)) := by
  unfold fn_form_sum
  refine PR.fn0 rfl fun S => ?_
  show m_form_sum [some (.p (tupI a)), some (.p (tupI b)), none, none] S = _
  unfold m_form_sum
  refine seq_rt (ret_eq ((call1_eq (d := .p (.lst ((a.zip b).map fun q => PD.int (q.1 + q.2)))) (S1 := S) ?_).trans ?_))
  · refine lc2_eq (x := fun q : Int × Int => PD.tpl [.int q.1, .int q.2]) ((zip_eq (var_eq rfl) (var_eq rfl) rfl rfl).trans (by rw [zipP_ints])) fun q hq => ⟨[some (.p (tupI a)), some (.p (tupI b)), some (.p (.int q.1)), some (.p (.int q.2))], rfl, ?_⟩
    exact bin_eq (var_eq rfl) (var_eq rfl) oAdd_int
  · show some (D.p (.tup ((a.zip b).map fun q => PD.int (q.1 + q.2))), S) = _
    rw [zipW_zip]
    simp
noncomputable def piBody : MS := sSeq (sAsg (mCall fn_form_sum (aCons (mVar 3) (aCons (mCall fn_form_times (aCons (mVar 5) (aCons (mVar 4) aNil))) aNil))) (gN 3)) sNil
theorem zipW_mul {c : Int} : ∀ (a b : List Int), List.zipWith (· + ·) a (b.map (c * ·)) = List.zipWith (fun x y => x + c * y) a b
  | [], _ => rfl
  | _ :: _, [] => rfl
  | x :: a, y :: b => by simp [zipW_mul a b]
theorem pi_loop {F G : D} {n : Nat} {S : List Cell} : ∀ (ps : List (Int × List Int)) (acc : List Int) (x4 x5 : Option D), (∀ p ∈ ps, p.1.natAbs < 2 ^ 61 ∧ ∀ z ∈ p.2, z.natAbs ≤ 2) →
    ∃ y4 y5, fLoop (gT 2 (gsCons (gN 4) (gsCons (gN 5) gsNil))) piBody (ps.map fun p => PD.tpl [.int p.1, tupI p.2]) [some F, some G, some (.p (.int n)), some (.p (tupI acc)), x4, x5] S = some (.nx [some F, some G, some (.p (.int n)), some (.p (tupI (ps.foldl stepF acc))), y4, y5], S)
  | [], acc, x4, x5, _ => ⟨x4, x5, rfl⟩
  | p :: ps, acc, x4, x5, h => by
    obtain ⟨y4, y5, e⟩ := pi_loop (F := F) (G := G) (n := n) (S := S) ps (stepF acc p) (some (.p (.int p.1))) (some (.p (tupI p.2))) fun q hq => h q (List.mem_cons_of_mem _ hq)
    refine ⟨y4, y5, ?_⟩
    obtain ⟨hp1, hp2⟩ := h p List.mem_cons_self
    have ht : gT 2 (gsCons (gN 4) (gsCons (gN 5) gsNil)) (.p (.tpl [.int p.1, tupI p.2])) [some F, some G, some (.p (.int n)), some (.p (tupI acc)), x4, x5] = some [some F, some G, some (.p (.int n)), some (.p (tupI acc)), some (.p (.int p.1)), some (.p (tupI p.2))] := rfl
    have hb : piBody [some F, some G, some (.p (.int n)), some (.p (tupI acc)), some (.p (.int p.1)), some (.p (tupI p.2))] S = some (.nx [some F, some G, some (.p (.int n)), some (.p (tupI (stepF acc p))), some (.p (.int p.1)), some (.p (tupI p.2))], S) := by
      unfold piBody
      refine (seq_nx (asg_eq (d := .p (tupI (stepF acc p))) (S1 := S) ?_)).trans rfl
      refine (call_eq (a2_eq (var_eq rfl) ((call_eq (a2_eq (var_eq rfl) (var_eq rfl))).trans (times_run hp1 hp2 S)))).trans ((sum_run S).trans ?_)
      unfold stepF
      rw [zipW_mul]
    simp only [List.map_cons]
    unfold fLoop
    simp only [ht, hb]
    exact e
theorem putin_run {c0 : Int} {cs : List Int} {fs : List (List Int)} {n : Nat} (hc : ∀ z ∈ cs, z.natAbs < 2 ^ 61) (hf : okF n fs) (hn : n ≤ 900) :
    PR fn_put_in [.p (tupI (c0 :: cs)), .p (.tup (fs.map tupI)), .p (.int n)] (tupI (putF c0 cs fs n)) := by
  unfold fn_put_in
  refine PR.fn0 rfl fun S => ?_
  show m_put_in [some (.p (tupI (c0 :: cs))), some (.p (.tup (fs.map tupI))), some (.p (.int n)), none, none, none] S = _
  unfold m_put_in
  obtain ⟨y4, y5, e⟩ := pi_loop (F := .p (tupI (c0 :: cs))) (G := .p (.tup (fs.map tupI))) (n := n) (S := S) (cs.zip fs) (c0 :: List.replicate n 0) none none (zip_ok hc hf)
  refine Eq.trans (seq_nx (asg_eq (d := .p (tupI (c0 :: List.replicate n 0))) (S1 := S) ?_)) ?_
  · have h2 : oMulG (.p (.tup [.int 0])) (.p (.int n)) S = some (.p (.tup (List.replicate n (.int 0))), S) := by
      have q : (0 : Int) ≤ n ∧ (n : Int) ≤ 1000 ∧ ([PD.int 0] : List PD).length ≤ 1000 ∧ ([PD.int 0] : List PD) ≠ [] := by
        refine ⟨by omega, by omega, by simp, by simp⟩
      simp only [oMulG, oMul, oMulT]
      rw [if_pos q]
      simp only [Int.toNat_natCast, rep_flat]
    refine bin_eq (tup1 (bin_eq (var_eq rfl) rfl ix0)) (bin_eq (tup1 rfl) (var_eq rfl) h2) ?_
    have q : ([PD.int c0] : List PD).length + (List.replicate n (PD.int 0)).length ≤ sizeLine := by
      have := line_ge
      simp only [List.length_singleton, List.length_replicate]
      omega
    simp only [oAdd, if_pos q]
    simp
  refine Eq.trans (seq_nx (E1 := [some (.p (tupI (c0 :: cs))), some (.p (.tup (fs.map tupI))), some (.p (.int n)), some (.p (tupI (putF c0 cs fs n))), y4, y5]) (S1 := S) ?_) (seq_rt (ret_eq (var_eq rfl)))
  unfold sFor
  refine Eq.trans (bnd_eq ((zip_eq (sl_tail rfl) (var_eq rfl) rfl rfl).trans (by rw [show cs.map PD.int = intsP cs from rfl, zipP_forms]))) ?_
  exact e
/-! ### what comes out -/
theorem step_len {acc : List Int} {p : Int × List Int} {n : Nat} (h : acc.length = n) (h2 : p.2.length = n) : (stepF acc p).length = n := by
  unfold stepF
  rw [List.length_zipWith, h, h2, Nat.min_self]
theorem step_bd {acc : List Int} {p : Int × List Int} {A B : Nat} (h : ∀ z ∈ acc, z.natAbs ≤ A) (h1 : p.1.natAbs ≤ B) (h2 : ∀ z ∈ p.2, z.natAbs ≤ 2) : ∀ z ∈ stepF acc p, z.natAbs ≤ A + 2 * B := fun z hz => by
  unfold stepF at hz
  rw [zipW_zip] at hz
  obtain ⟨q, hq, rfl⟩ := List.mem_map.mp hz
  have q1 := h _ (List.of_mem_zip hq).1
  have q2 := h2 _ (List.of_mem_zip hq).2
  have q3 : (p.1 * q.2).natAbs ≤ B * 2 := by
    rw [Int.natAbs_mul]
    exact Nat.mul_le_mul h1 q2
  have := Int.natAbs_add_le q.1 (p.1 * q.2)
  omega
theorem fold_ok {n B : Nat} : ∀ (ps : List (Int × List Int)) (acc : List Int) (A : Nat), (∀ p ∈ ps, p.1.natAbs ≤ B ∧ p.2.length = n ∧ ∀ z ∈ p.2, z.natAbs ≤ 2) → acc.length = n → (∀ z ∈ acc, z.natAbs ≤ A) → (ps.foldl stepF acc).length = n ∧ ∀ z ∈ ps.foldl stepF acc, z.natAbs ≤ A + ps.length * (2 * B)
  | [], acc, A, _, hl, ha => ⟨hl, fun z hz => by simpa using ha z hz⟩
  | p :: ps, acc, A, h, hl, ha => by
    obtain ⟨h1, h2, h3⟩ := h p List.mem_cons_self
    obtain ⟨g1, g2⟩ := fold_ok ps (stepF acc p) (A + 2 * B) (fun q hq => h q (List.mem_cons_of_mem _ hq)) (step_len hl h2) (step_bd ha h1 h3)
    refine ⟨g1, fun z hz => ?_⟩
    have := g2 z hz
    simp only [List.length_cons, Nat.add_mul, Nat.one_mul]
    omega
theorem putF_ok {c0 : Int} {cs : List Int} {fs : List (List Int)} {n B : Nat} (h0 : c0.natAbs ≤ B) (hc : ∀ z ∈ cs, z.natAbs ≤ B) (hf : okF n fs) (hl : cs.length ≤ 31) : (putF c0 cs fs n).length = n + 1 ∧ ∀ z ∈ putF c0 cs fs n, z.natAbs ≤ 64 * B := by
  obtain ⟨g1, g2⟩ := fold_ok (n := n + 1) (B := B) (cs.zip fs) (c0 :: List.replicate n 0) B (fun p hp => ⟨hc _ (List.of_mem_zip hp).1, hf _ (List.of_mem_zip hp).2⟩) (by simp) (fun z hz => by
    rcases List.mem_cons.mp hz with rfl | hz
    · exact h0
    · rw [(List.mem_replicate.mp hz).2]
      simp)
  refine ⟨g1, fun z hz => ?_⟩
  have := g2 z hz
  have hz : (cs.zip fs).length ≤ 31 := by rw [List.length_zip]; omega
  have := Nat.mul_le_mul_right (2 * B) hz
  omega
end Pt
set_option maxRecDepth 100000
set_option maxHeartbeats 2000000
/-! Q14: forms put in a formula without names. -/
namespace Pt
open PySem PySem.Spec PyProof.Rows L2
def Jw (w : Str) : Prop := w = "not" ∨ w = "and" ∨ w = "or"
structure WdOk (w : Str) : Prop where
  r : (w == "row") = false
  d : (w == "divides") = false
  s : (w == "some") = false
  n : (w == "named") = false
  rd : (("row" : Str) == w || ("divides" : Str) == w) = false
  ok : PyData.strOk w = true
theorem Jw.wd {w : Str} (h : Jw w) : WdOk w := by
  rcases h with rfl | rfl | rfl <;> exact ⟨by decide +kernel, by decide +kernel, by decide +kernel, by decide +kernel, by decide +kernel, by decide +kernel⟩
/-- formulas without names: bound of the numbers, height, letters, nodes -/
inductive NF (B : Nat) : Nat → Nat → Nat → PD → Prop
  | row {h L : Nat} {r : PD} : FormP B L r → NF B h L 1 (.tup [.str "row", r])
  | dv {h L : Nat} {c : Int} {r : PD} : 2 ≤ c → c ≤ 12 → FormP B L r → NF B h L 1 (.tup [.str "divides", .int c, r])
  | some {h L N : Nat} {a : PD} : NF B h (L + 1) N a → NF B (h + 1) L (N + 1) (.tup [.str "some", a])
  | jn {h L : Nat} {w : Str} {ps : List (PD × Nat)} : Jw w → ps.length ≤ 3 → (∀ p ∈ ps, NF B h L p.2 p.1) → NF B (h + 1) L ((ps.map (·.2)).sum + 1) (.tup (.str w :: ps.map (·.1)))
theorem FormP.mono {B C L : Nat} {r : PD} (h : FormP B L r) (hB : B ≤ C) : FormP C L r := by
  obtain ⟨ns, h1, h2, h3⟩ := h
  exact ⟨ns, h1, h2, fun z hz => Nat.le_trans (h3 z hz) hB⟩
theorem NF.mono {B C h L N : Nat} {f : PD} (hf : NF B h L N f) (hB : B ≤ C) : ∀ k, h ≤ k → NF C k L N f := by
  induction hf with
  | row h => exact fun k _ => .row (h.mono hB)
  | dv h1 h2 h => exact fun k _ => .dv h1 h2 (h.mono hB)
  | some _ ih =>
    intro k hk
    obtain ⟨k, rfl⟩ : ∃ j, k = j + 1 := ⟨k - 1, by omega⟩
    exact .some (ih k (by omega))
  | jn h1 h2 _ ih =>
    intro k hk
    obtain ⟨k, rfl⟩ : ∃ j, k = j + 1 := ⟨k - 1, by omega⟩
    exact .jn h1 h2 fun p hp => ih p hp k (by omega)
theorem add_tup {a b : List PD} {S : List Cell} (h : a.length + b.length ≤ 100000) : oAdd (.p (.tup a)) (.p (.tup b)) S = some (.p (.tup (a ++ b)), S) := by
  have : a.length + b.length ≤ sizeLine := by have := line_ge; omega
  simp only [oAdd, if_pos this]
theorem add_lst {a b : List PD} {S : List Cell} (h : a.length + b.length ≤ 100000) : oAdd (.p (.lst a)) (.p (.lst b)) S = some (.p (.lst (a ++ b)), S) := by
  have : a.length + b.length ≤ sizeLine := by have := line_ge; omega
  simp only [oAdd, if_pos this]
theorem a3_eq {a b c : ME} {E : Vr} {S : List Cell} {x y z : D} (h1 : a E S = some (x, S)) (h2 : b E S = some (y, S)) (h3 : c E S = some (z, S)) : aCons a (aCons b (aCons c aNil)) E S = some ([x, y, z], S) := by
  simp only [aCons, aNil, bnd, ret, h1, h2, h3]
/-! ### a letter more -/
def widen (fs : List (List Int)) (n : Nat) : List (List Int) := fs.map (· ++ [0]) ++ [List.replicate (n + 1) 0 ++ [1]]
theorem widen_ok {fs : List (List Int)} {n : Nat} (h : okF n fs) : okF (n + 1) (widen fs n) := by
  intro f hf
  rcases List.mem_append.mp hf with hf | hf
  · obtain ⟨g, hg, rfl⟩ := List.mem_map.mp hf
    obtain ⟨g1, g2⟩ := h g hg
    refine ⟨by simp [g1], fun z hz => ?_⟩
    rcases List.mem_append.mp hz with hz | hz
    · exact g2 z hz
    · rw [List.mem_singleton.mp hz]
      decide
  · rw [List.mem_singleton.mp hf]
    refine ⟨by simp, fun z hz => ?_⟩
    rcases List.mem_append.mp hz with hz | hz
    · rw [(List.mem_replicate.mp hz).2]
      decide
    · rw [List.mem_singleton.mp hz]
      decide
theorem letter_list {n : Nat} : ((List.range (n + 1)).map fun i => PD.int (if i = n then 1 else 0)) = (List.replicate n (0 : Int) ++ [1]).map PD.int := by
  rw [List.range_succ, List.map_append, List.map_append]
  congr 1
  · apply List.ext_getElem
    · simp
    · intro i h1 h2
      simp at h1
      simp
      intro z
      omega
  · simp
theorem letter_run {n : Nat} (hn : n ≤ 900) : PR fn_letter [.p (.int n), .p (.int ((n : Int) + 1))] (tupI (List.replicate (n + 1) 0 ++ [1])) := by
  unfold fn_letter
  refine PR.fn0 rfl fun S => ?_
  show m_letter [some (.p (.int n)), some (.p (.int ((n : Int) + 1))), none] S = _
  unfold m_letter
  refine seq_rt (ret_eq (bin_eq (x := .p (.tup [.int 0])) (y := .p (.tup ((List.replicate n (0 : Int) ++ [1]).map PD.int))) (S1 := S) (S2 := S) (tup1 rfl) ((call1_eq (d := .p (.lst ((List.replicate n (0 : Int) ++ [1]).map PD.int))) (S1 := S) ?_).trans rfl) ?_))
  · rw [← letter_list]
    refine lc2_eq (x := fun i : Nat => PD.int (0 + (i : Int))) ?_ fun i hi => ⟨[some (.p (.int n)), some (.p (.int ((n : Int) + 1))), some (.p (.int (0 + (i : Int))))], rfl, ?_⟩
    · unfold iRange1
      rw [bnd_eq (a1_eq (var_eq rfl))]
      have q : -100000 ≤ (n : Int) + 1 ∧ (n : Int) + 1 ≤ 100000 := by omega
      simp only
      rw [if_pos q]
      have e : ((n : Int) + 1).toNat = n + 1 := by omega
      rw [e]
      rfl
    · have ht : mVal (mBin (oEq false) (mVar 2) (mVar 0)) [some (.p (.int n)), some (.p (.int ((n : Int) + 1))), some (.p (.int (0 + (i : Int))))] S = some (decide (i = n), S) := by
        refine val_eq (bin_eq (var_eq rfl) (var_eq rfl) (oEq_int.trans ?_))
        have e : ((0 : Int) + (i : Int) == (n : Int)) = decide (i = n) := by
          rw [Bool.eq_iff_iff]
          simp
          omega
        simp only [e, Bool.bne_false]
      unfold mIf
      rw [bnd_eq ht]
      by_cases h : i = n
      · simp only [h, decide_true, if_true]
        rfl
      · simp only [h, decide_false, if_false, Bool.false_eq_true]
        rfl
  · rw [add_tup (by simp; omega)]
    simp [List.replicate_succ]
theorem widened_run {fs : List (List Int)} {n : Nat} (hn : n ≤ 900) (hl : fs.length ≤ 900) (hf : okF n fs) : PR fn_widened [.p (.tup (fs.map tupI)), .p (.int n)] (.tup ((widen fs n).map tupI)) := by
  unfold fn_widened
  refine PR.fn0 rfl fun S => ?_
  show m_widened [some (.p (.tup (fs.map tupI))), some (.p (.int n)), none] S = _
  unfold m_widened
  refine seq_rt (ret_eq (bin_eq (x := .p (.tup (fs.map fun f => tupI (f ++ [0])))) (y := .p (.tup [tupI (List.replicate (n + 1) 0 ++ [1])])) (S1 := S) (S2 := S) ((call1_eq (d := .p (.lst (fs.map fun f => tupI (f ++ [0])))) (S1 := S) ?_).trans rfl) (tup1 ((call_eq (a2_eq (var_eq rfl) (bin_eq (var_eq rfl) rfl oAdd_int))).trans (letter_run hn S))) ?_))
  · refine lc2_eq (x := tupI) (sl_var_seq (var_eq rfl)) fun f hf2 => ⟨[some (.p (.tup (fs.map tupI))), some (.p (.int n)), some (.p (tupI f))], rfl, ?_⟩
    refine (bin_eq (var_eq rfl) (tup1 rfl) (add_tup ?_)).trans ?_
    · have := (hf f hf2).1
      simp only [List.length_map, List.length_singleton]
      omega
    · simp
  · rw [add_tup (by simp; omega)]
    simp [widen]
/-! ### the sons -/
theorem jn_eq {i k : Nat} {E : Vr} {S : List Cell} {w : Str} {β : Type} {x f : β → PD} {ps : List β} {te : ME} (hE : E[i]? = some (some (.p (.tup (.str w :: ps.map x))))) (hl : ps.length ≤ 1000) (h : ∀ p ∈ ps, te ((wipeE E [k]).set k (some (.p (x p)))) S = some (.p (f p), S)) :
    mBin oAdd (mSl (mVar i) oNone (oSome (mC (.p (.int 1))))) (mCall oTuple (aCons (mLc [k] (iSeq (mSl (mVar i) (oSome (mC (.p (.int 1)))) oNone)) (gN k) tYes1 te) aNil)) E S = some (.p (.tup (.str w :: ps.map f)), S) := by
  refine bin_eq (sl_head hE) ((call1_eq (lc2_eq (x := x) (f := f) (sl_var_seq (sl_tail hE)) fun p hp => ⟨_, rfl, h p hp⟩)).trans rfl) ((add_tup ?_).trans ?_)
  · simp only [List.length_singleton, List.length_map]
    omega
  · simp
theorem put_atom {fu n : Nat} {fs : List (List Int)} {c0 : Int} {cs : List Int} {v : Str} {pre : List PD} (hv : v = "row" ∧ pre = [] ∨ v = "divides" ∧ ∃ c : Int, pre = [.int c]) (hc : ∀ z ∈ cs, z.natAbs < 2 ^ 61) (hf : okF n fs) (hn : n ≤ 900) :
    PR (fn_formula_put_in (fu + 1)) [.p (.tup (.str v :: (pre ++ [tupI (c0 :: cs)]))), .p (.tup (fs.map tupI)), .p (.int n)] (.tup (.str v :: (pre ++ [tupI (putF c0 cs fs n)]))) ∧
    PR (fn__law_put (fu + 1)) [.p (.tup (.str v :: (pre ++ [tupI (c0 :: cs)]))), .p (.lst (fs.map tupI)), .p (.int n)] (.tup (.str v :: (pre ++ [tupI (putF c0 cs fs n)]))) := by
  have h1 := putin_run (c0 := c0) hc hf hn
  have h2 := lawputform_run (c0 := c0) hc hf hn
  rcases hv with ⟨rfl, rfl⟩ | ⟨rfl, c, rfl⟩
  · constructor
    · unfold fn_formula_put_in
      refine PR.fn0 rfl fun S => ?_
      show m_formula_put_in (fn_formula_put_in fu) [some (.p (.tup [.str "row", tupI (c0 :: cs)])), some (.p (.tup (fs.map tupI))), some (.p (.int n)), none] S = _
      unfold m_formula_put_in
      refine take_if (t_inT rfl (by decide +kernel)) (seq_rt (ret_eq (bin_eq (x := .p (.tup [.str "row"])) (S1 := S) rfl (tup1 ((call_eq (a3_eq (x := .p (tupI (c0 :: cs))) rfl (var_eq rfl) (var_eq rfl))).trans (h1 S))) ((add_tup (by simp)).trans rfl))))
    · unfold fn__law_put
      refine PR.fn0 rfl fun S => ?_
      show m__law_put (fn__law_put fu) [some (.p (.tup [.str "row", tupI (c0 :: cs)])), some (.p (.lst (fs.map tupI))), some (.p (.int n)), none, none, none] S = _
      unfold m__law_put
      exact take_if (t_eq rfl (by decide +kernel)) (seq_rt (ret_eq (tup2 rfl ((call_eq (a3_eq (bin_eq (var_eq rfl) rfl ix1) (var_eq rfl) (var_eq rfl))).trans (h2 S)))))
  · constructor
    · unfold fn_formula_put_in
      refine PR.fn0 rfl fun S => ?_
      show m_formula_put_in (fn_formula_put_in fu) [some (.p (.tup [.str "divides", .int c, tupI (c0 :: cs)])), some (.p (.tup (fs.map tupI))), some (.p (.int n)), none] S = _
      unfold m_formula_put_in
      refine take_if (t_inT rfl (by decide +kernel)) (seq_rt (ret_eq (bin_eq (x := .p (.tup [.str "divides", .int c])) (S1 := S) rfl (tup1 ((call_eq (a3_eq (x := .p (tupI (c0 :: cs))) rfl (var_eq rfl) (var_eq rfl))).trans (h1 S))) ((add_tup (by simp)).trans rfl))))
    · unfold fn__law_put
      refine PR.fn0 rfl fun S => ?_
      show m__law_put (fn__law_put fu) [some (.p (.tup [.str "divides", .int c, tupI (c0 :: cs)])), some (.p (.lst (fs.map tupI))), some (.p (.int n)), none, none, none] S = _
      unfold m__law_put
      rw [skip_if (t_eq (b := false) rfl (by decide +kernel))]
      exact take_if (t_eq rfl (by decide +kernel)) (seq_rt (ret_eq (tup3 rfl (bin_eq (var_eq rfl) rfl ix1) ((call_eq (a3_eq (bin_eq (var_eq rfl) rfl ix2) (var_eq rfl) (var_eq rfl))).trans (h2 S)))))
theorem put_some {fu n : Nat} {fs : List (List Int)} {a g : PD} (hf : okF n fs) (hn : n ≤ 800) (hl : fs.length ≤ 800) (h1 : PR (fn_formula_put_in fu) [.p a, .p (.tup ((widen fs n).map tupI)), .p (.int ((n + 1 : Nat) : Int))] g) (h2 : PR (fn__law_put fu) [.p a, .p (.lst ((widen fs n).map tupI)), .p (.int ((n + 1 : Nat) : Int))] g) :
    PR (fn_formula_put_in (fu + 1)) [.p (.tup [.str "some", a]), .p (.tup (fs.map tupI)), .p (.int n)] (.tup [.str "some", g]) ∧ PR (fn__law_put (fu + 1)) [.p (.tup [.str "some", a]), .p (.lst (fs.map tupI)), .p (.int n)] (.tup [.str "some", g]) := by
  constructor
  · unfold fn_formula_put_in
    refine PR.fn0 rfl fun S => ?_
    show m_formula_put_in (fn_formula_put_in fu) [some (.p (.tup [.str "some", a])), some (.p (.tup (fs.map tupI))), some (.p (.int n)), none] S = _
    unfold m_formula_put_in
    rw [skip_if (t_inT (b := false) rfl (by decide +kernel))]
    exact take_if (t_eq rfl (by decide +kernel)) (seq_rt (ret_eq (tup2 rfl ((call_eq (a3_eq (bin_eq (var_eq rfl) rfl ix1) ((call_eq (a2_eq (var_eq rfl) (var_eq rfl))).trans (widened_run (by omega) (by omega) hf S)) (bin_eq (var_eq rfl) rfl oAdd_int))).trans (h1 S)))))
  · unfold fn__law_put
    refine PR.fn0 rfl fun S => ?_
    show m__law_put (fn__law_put fu) [some (.p (.tup [.str "some", a])), some (.p (.lst (fs.map tupI))), some (.p (.int n)), none, none, none] S = _
    unfold m__law_put
    rw [skip_if (t_eq (b := false) rfl (by decide +kernel)), skip_if (t_eq (b := false) rfl (by decide +kernel))]
    refine take_if (t_eq rfl (by decide +kernel)) (Eq.trans (seq_nx (asg_eq (d := .p (.lst ((widen fs n).map tupI))) (S1 := S) ?_)) (seq_rt (ret_eq (tup2 rfl ((call_eq (a3_eq (bin_eq (var_eq rfl) rfl ix1) (var_eq rfl) (bin_eq (var_eq rfl) rfl oAdd_int))).trans (h2 S))))))
    refine bin_eq (x := .p (.lst (fs.map fun f => tupI (f ++ [0])))) (y := .p (.lst [tupI (List.replicate (n + 1) 0 ++ [1])])) (S1 := S) (S2 := S) ?_ (lst1 ?_) ?_
    · refine lc2_eq (x := tupI) ?_ fun f hf2 => ⟨[some (.p (.tup [.str "some", a])), some (.p (.lst (fs.map tupI))), some (.p (.int n)), some (.p (tupI f)), none, none], rfl, ?_⟩
      · unfold iSeq
        rw [bnd_eq (var_eq rfl)]
      · refine (bin_eq (var_eq rfl) (tup1 rfl) (add_tup ?_)).trans ?_
        · have := (hf f hf2).1
          simp only [List.length_map, List.length_singleton]
          omega
        · simp
    · have h2 : oMulG (.p (.tup [.int 0])) (.p (.int ((n : Int) + 1))) S = some (.p (.tup (List.replicate (n + 1) (.int 0))), S) := by
        have q : (0 : Int) ≤ (n : Int) + 1 ∧ (n : Int) + 1 ≤ 1000 ∧ ([PD.int 0] : List PD).length ≤ 1000 ∧ ([PD.int 0] : List PD) ≠ [] := by
          refine ⟨by omega, by omega, by simp, by simp⟩
        have e : ((n : Int) + 1).toNat = n + 1 := by omega
        simp only [oMulG, oMul, oMulT]
        rw [if_pos q]
        simp only [e, rep_flat]
      refine bin_eq (bin_eq (tup1 rfl) (bin_eq (var_eq rfl) rfl oAdd_int) h2) (tup1 rfl) ((add_tup ?_).trans ?_)
      · simp only [List.length_replicate, List.length_singleton]
        omega
      · simp
    · rw [add_lst (by simp; omega)]
      simp [widen]
theorem put_jn {fu n : Nat} {w : Str} (hw : WdOk w) {fs : List (List Int)} {ps : List (PD × Nat)} {G : PD × Nat → PD} (hl : ps.length ≤ 3) (h1 : ∀ p ∈ ps, PR (fn_formula_put_in fu) [.p p.1, .p (.tup (fs.map tupI)), .p (.int n)] (G p)) (h2 : ∀ p ∈ ps, PR (fn__law_put fu) [.p p.1, .p (.lst (fs.map tupI)), .p (.int n)] (G p)) :
    PR (fn_formula_put_in (fu + 1)) [.p (.tup (.str w :: ps.map (·.1))), .p (.tup (fs.map tupI)), .p (.int n)] (.tup (.str w :: ps.map G)) ∧ PR (fn__law_put (fu + 1)) [.p (.tup (.str w :: ps.map (·.1))), .p (.lst (fs.map tupI)), .p (.int n)] (.tup (.str w :: ps.map G)) := by
  constructor
  · unfold fn_formula_put_in
    refine PR.fn0 rfl fun S => ?_
    show m_formula_put_in (fn_formula_put_in fu) [some (.p (.tup (.str w :: ps.map (·.1)))), some (.p (.tup (fs.map tupI))), some (.p (.int n)), none] S = _
    unfold m_formula_put_in
    rw [skip_if (t_inT (b := false) rfl (by rw [hw.rd]; rfl)), skip_if (t_eq (b := false) rfl (by rw [hw.s]; rfl) hw.ok)]
    exact seq_rt (ret_eq (jn_eq (i := 0) (k := 3) rfl (by omega) fun p hp => (call_eq (a3_eq (var_eq rfl) (var_eq rfl) (var_eq rfl))).trans (h1 p hp S)))
  · unfold fn__law_put
    refine PR.fn0 rfl fun S => ?_
    show m__law_put (fn__law_put fu) [some (.p (.tup (.str w :: ps.map (·.1)))), some (.p (.lst (fs.map tupI))), some (.p (.int n)), none, none, none] S = _
    unfold m__law_put
    rw [skip_if (t_eq (b := false) rfl (by rw [hw.r]; rfl) hw.ok), skip_if (t_eq (b := false) rfl (by rw [hw.d]; rfl) hw.ok), skip_if (t_eq (b := false) rfl (by rw [hw.s]; rfl) hw.ok)]
    exact seq_rt (ret_eq (jn_eq (i := 0) (k := 5) rfl (by omega) fun p hp => (call_eq (a3_eq (var_eq rfl) (var_eq rfl) (var_eq rfl))).trans (h2 p hp S)))
theorem put_run {B h L N : Nat} {f : PD} (hB : B < 2 ^ 55) (hN : NF B h L N f) : ∀ (fs : List (List Int)) (n : Nat), fs.length = L → okF n fs → L + h ≤ 31 → n + h ≤ 800 → ∀ fu, h < fu →
    ∃ g, NF (64 * B) h n N g ∧ PR (fn_formula_put_in fu) [.p f, .p (.tup (fs.map tupI)), .p (.int n)] g ∧ PR (fn__law_put fu) [.p f, .p (.lst (fs.map tupI)), .p (.int n)] g := by
  have form : ∀ {L : Nat} {r : PD}, FormP B L r → ∃ (c0 : Int) (cs : List Int), r = tupI (c0 :: cs) ∧ cs.length = L ∧ c0.natAbs ≤ B ∧ (∀ z ∈ cs, z.natAbs ≤ B) := fun {L r} ⟨ns, h1, h2, h3⟩ => by
    cases ns with
    | nil => simp at h2
    | cons c0 cs => exact ⟨c0, cs, h1, by simpa using h2, h3 c0 List.mem_cons_self, fun z hz => h3 z (List.mem_cons_of_mem _ hz)⟩
  have out : ∀ {c0 : Int} {cs : List Int} {fs : List (List Int)} {n : Nat}, okF n fs → cs.length ≤ 31 → c0.natAbs ≤ B → (∀ z ∈ cs, z.natAbs ≤ B) → FormP (64 * B) n (tupI (putF c0 cs fs n)) := fun hf hl h0 hc => by
    obtain ⟨g1, g2⟩ := putF_ok h0 hc hf hl
    exact ⟨_, rfl, g1, g2⟩
  induction hN with
  | row hr =>
    intro fs n hl hf hL hn fu hfu
    obtain ⟨fu, rfl⟩ : ∃ k, fu = k + 1 := ⟨fu - 1, by omega⟩
    obtain ⟨c0, cs, rfl, h1, h2, h3⟩ := form hr
    obtain ⟨p1, p2⟩ := put_atom (fu := fu) (c0 := c0) (cs := cs) (v := "row") (pre := []) (.inl ⟨rfl, rfl⟩) (fun z hz => Nat.lt_of_le_of_lt (h3 z hz) (by omega)) hf (by omega)
    exact ⟨_, .row (out hf (by omega) h2 h3), p1, p2⟩
  | @dv h L c r hc1 hc2 hr =>
    intro fs n hl hf hL hn fu hfu
    obtain ⟨fu, rfl⟩ : ∃ k, fu = k + 1 := ⟨fu - 1, by omega⟩
    obtain ⟨c0, cs, rfl, h1, h2, h3⟩ := form hr
    obtain ⟨p1, p2⟩ := put_atom (fu := fu) (c0 := c0) (cs := cs) (v := "divides") (pre := [.int c]) (.inr ⟨rfl, c, rfl⟩) (fun z hz => Nat.lt_of_le_of_lt (h3 z hz) (by omega)) hf (by omega)
    exact ⟨_, .dv hc1 hc2 (out hf (by omega) h2 h3), p1, p2⟩
  | @some h L N a _ ih =>
    intro fs n hl hf hL hn fu hfu
    obtain ⟨fu, rfl⟩ : ∃ k, fu = k + 1 := ⟨fu - 1, by omega⟩
    obtain ⟨g, h1, h2, h3⟩ := ih (widen fs n) (n + 1) (by simp [widen, hl]) (widen_ok hf) (by omega) (by omega) fu (by omega)
    obtain ⟨p1, p2⟩ := put_some hf (by omega) (by omega) h2 h3
    exact ⟨_, .some h1, p1, p2⟩
  | @jn h L w ps hw hl3 _ ih =>
    intro fs n hl hf hL hn fu hfu
    obtain ⟨fu, rfl⟩ : ∃ k, fu = k + 1 := ⟨fu - 1, by omega⟩
    have : Inhabited PD := ⟨.non⟩
    obtain ⟨G, hG⟩ := choose_on (fun p hp => ih p hp fs n hl hf (by omega) (by omega) fu (by omega))
    obtain ⟨p1, p2⟩ := put_jn hw.wd (G := G) hl3 (fun p hp => (hG p hp).2.1) (fun p hp => (hG p hp).2.2)
    refine ⟨_, ?_, p1, p2⟩
    have e1 : ps.map G = (ps.map fun p => (G p, p.2)).map (·.1) := by simp
    have e2 : (ps.map (·.2)).sum = ((ps.map fun p => (G p, p.2)).map (·.2)).sum := by simp [Function.comp_def]
    rw [e1, e2]
    refine .jn hw (by simpa using hl3) fun q hq => ?_
    obtain ⟨p, hp, rfl⟩ := List.mem_map.mp hq
    exact (hG p hp).1
end Pt
set_option maxRecDepth 100000
set_option maxHeartbeats 2000000
/-! Q15: written and _law_written tell the same; _law_sizes. -/
namespace Pt
open PySem PySem.Spec PyProof.Rows L2
/-- f over n letters, written out: a formula without names, its number of nodes -/
def WRq (R : PD) (fuel h B n : Nat) (f : PD) (q : PD × Nat) : Prop := NF B h n q.2 q.1 ∧ ∀ fu, fuel ≤ fu → PR (fn_written fu) [.p R, .p f, .p (.int n)] q.1 ∧ PR (fn__law_written fu) [.p R, .p f, .p (.int n)] q.1 ∧
  ∃ A C E : Int, PR (fn__law_sizes fu) [.p R, .p f] (.tup [.int q.2, .int A, .int C, .int E])
theorem WRq.mono {R f : PD} {fuel h B n fuel' h' B' : Nat} {q : PD × Nat} (w : WRq R fuel h B n f q) (h1 : fuel ≤ fuel') (h2 : h ≤ h') (h3 : B ≤ B') : WRq R fuel' h' B' n f q :=
  ⟨w.1.mono h3 _ h2, fun fu hf => w.2 fu (by omega)⟩
noncomputable def szBody (self : OC) : MS := sSeq (sAsg (mCall self (aCons (mVar 0) (aCons (mVar 6) aNil))) (gT 4 (gsCons (gN 7) (gsCons (gN 8) (gsCons (gN 9) (gsCons (gN 10) gsNil))))))
  (sSeq (sPar 2 3 (aCons (mBin oAdd (mVar 2) (mVar 7)) (aCons (mBin oAdd (mVar 3) (mVar 8)) aNil)))
  (sSeq (sPar 4 5 (aCons (mBin oAdd (mVar 4) (mVar 9)) (aCons (mCall oMax2 (aCons (mVar 5) (aCons (mVar 10) aNil))) aNil)))
  sNil))
theorem sz_loop {self : OC} {R F : PD} {N : PD → Nat} : ∀ (l : List PD) (n0 : Nat) (a0 c0 e0 : Int), (∀ a ∈ l, ∃ A C E : Int, PR self [.p R, .p a] (.tup [.int (N a), .int A, .int C, .int E])) →
    ∃ (a1 c1 e1 : Int), ∀ (S : List Cell) (x6 x7 x8 x9 x10 : Option D), ∃ y6 y7 y8 y9 y10 : Option D, fLoop (gN 6) (szBody self) l [some (.p R), some (.p F), some (.p (.int n0)), some (.p (.int a0)), some (.p (.int c0)), some (.p (.int e0)), x6, x7, x8, x9, x10, none] S =
      some (.nx [some (.p R), some (.p F), some (.p (.int ((n0 + (l.map N).sum : Nat) : Int))), some (.p (.int a1)), some (.p (.int c1)), some (.p (.int e1)), y6, y7, y8, y9, y10, none], S)
  | [], n0, a0, c0, e0, _ => ⟨a0, c0, e0, fun S x6 x7 x8 x9 x10 => ⟨x6, x7, x8, x9, x10, rfl⟩⟩
  | a :: l, n0, a0, c0, e0, h => by
    obtain ⟨A, C, E, hp⟩ := h a List.mem_cons_self
    obtain ⟨a1, c1, e1, e⟩ := sz_loop (self := self) (R := R) (F := F) (N := N) l (n0 + N a) (a0 + A) (c0 + C) (if E > e0 then E else e0) fun b hb => h b (List.mem_cons_of_mem _ hb)
    refine ⟨a1, c1, e1, fun S x6 x7 x8 x9 x10 => ?_⟩
    obtain ⟨y6, y7, y8, y9, y10, e⟩ := e S (some (.p a)) (some (.p (.int (N a)))) (some (.p (.int A))) (some (.p (.int C))) (some (.p (.int E)))
    refine ⟨y6, y7, y8, y9, y10, ?_⟩
    have hb : szBody self [some (.p R), some (.p F), some (.p (.int n0)), some (.p (.int a0)), some (.p (.int c0)), some (.p (.int e0)), some (.p a), x7, x8, x9, x10, none] S =
        some (.nx [some (.p R), some (.p F), some (.p (.int ((n0 + N a : Nat) : Int))), some (.p (.int (a0 + A))), some (.p (.int (c0 + C))), some (.p (.int (if E > e0 then E else e0))), some (.p a), some (.p (.int (N a))), some (.p (.int A)), some (.p (.int C)), some (.p (.int E)), none], S) := by
      unfold szBody
      refine Eq.trans (seq_nx (asg_eq' (d := .p (.tup [.int (N a), .int A, .int C, .int E])) (S1 := S) ((call_eq (a2_eq (var_eq rfl) (var_eq rfl))).trans (hp S)) rfl)) ?_
      refine Eq.trans (seq_nx (par_eq (bin_eq (var_eq rfl) (var_eq rfl) oAdd_int) (bin_eq (var_eq rfl) (var_eq rfl) oAdd_int))) ?_
      refine Eq.trans (seq_nx (par_eq (bin_eq (var_eq rfl) (var_eq rfl) oAdd_int) ((call_eq (a2_eq (var_eq rfl) (var_eq rfl))).trans rfl))) ?_
      simp only [Int.natCast_add]
      rfl
    have ht : gN 6 (.p a) [some (.p R), some (.p F), some (.p (.int n0)), some (.p (.int a0)), some (.p (.int c0)), some (.p (.int e0)), x6, x7, x8, x9, x10, none] = some [some (.p R), some (.p F), some (.p (.int n0)), some (.p (.int a0)), some (.p (.int c0)), some (.p (.int e0)), some (.p a), x7, x8, x9, x10, none] := rfl
    unfold fLoop
    simp only [ht, hb, e, List.map_cons, List.sum_cons, Nat.add_assoc]
theorem more_eq {i : Nat} {E : Vr} {S : List Cell} {w : Str} {r : List PD} {a b : ME} {x y : D} {c : Bool} (hE : E[i]? = some (some (.p (.tup (.str w :: r))))) (hw : PyData.strOk w = true) (hc : (w == "some") = c) (ha : a E S = some (x, S)) (hb : b E S = some (y, S)) :
    mIf (mVal (mBin (oEq false) (mBin oIx (mVar i) (mC (.p (.int 0)))) (mC (.p (.str "some"))))) a b E S = some (if c then x else y, S) := by
  unfold mIf
  rw [bnd_eq (t_eq (b := c) hE (by rw [hc, Bool.bne_false]) hw)]
  cases c
  · exact hb
  · exact ha
theorem wr_step {R : PD} {fu n m : Nat} {w : Str} {l : List PD} {Q : PD → PD × Nat} (hrd : (("row" : Str) == w || ("divides" : Str) == w) = false) (hn : (w == "named") = false) (hok : PyData.strOk w = true) (hm : m = if w == "some" then n + 1 else n) (hl : l.length ≤ 3)
    (h1 : ∀ a ∈ l, PR (fn_written fu) [.p R, .p a, .p (.int m)] (Q a).1) (h2 : ∀ a ∈ l, PR (fn__law_written fu) [.p R, .p a, .p (.int m)] (Q a).1) (h3 : ∀ a ∈ l, ∃ A C E : Int, PR (fn__law_sizes fu) [.p R, .p a] (.tup [.int (Q a).2, .int A, .int C, .int E])) :
    PR (fn_written (fu + 1)) [.p R, .p (.tup (.str w :: l)), .p (.int n)] (.tup (.str w :: l.map fun a => (Q a).1)) ∧ PR (fn__law_written (fu + 1)) [.p R, .p (.tup (.str w :: l)), .p (.int n)] (.tup (.str w :: l.map fun a => (Q a).1)) ∧
    ∃ A C E : Int, PR (fn__law_sizes (fu + 1)) [.p R, .p (.tup (.str w :: l))] (.tup [.int ((1 + (l.map fun a => (Q a).2).sum : Nat) : Int), .int A, .int C, .int E]) := by
  have el : l = l.map id := by simp
  refine ⟨?_, ?_, ?_⟩
  · unfold fn_written
    refine PR.fn0 rfl fun S => ?_
    show m_written (fn_written fu) [some (.p R), some (.p (.tup (.str w :: l))), some (.p (.int n)), none, none, none, none, none] S = _
    unfold m_written
    rw [skip_if (t_eq (b := false) rfl (by rw [hn]; rfl) hok), skip_if (t_inT (b := false) rfl (by rw [hrd]; rfl))]
    have e : mIf (mVal (mBin (oEq false) (mBin oIx (mVar 1) (mC (.p (.int 0)))) (mC (.p (.str "some"))))) (mBin oAdd (mVar 2) (mC (.p (.int 1)))) (mVar 2) [some (.p R), some (.p (.tup (.str w :: l))), some (.p (.int n)), none, none, none, none, none] S = some (.p (.int m), S) := by
      refine (more_eq rfl hok (c := (w == "some")) rfl (bin_eq (var_eq rfl) rfl oAdd_int) (var_eq rfl)).trans ?_
      rw [hm]
      cases w == "some" <;> rfl
    refine Eq.trans (seq_nx (asg_eq e)) (seq_rt (ret_eq ?_))
    have := jn_eq (i := 1) (k := 7) (E := [some (.p R), some (.p (.tup (.str w :: l))), some (.p (.int n)), none, none, none, some (.p (.int m)), none]) (S := S) (w := w) (x := id) (f := fun a => (Q a).1) (ps := l) (te := mCall (fn_written fu) (aCons (mVar 0) (aCons (mVar 7) (aCons (mVar 6) aNil)))) (by rw [← el]; rfl) (by omega)
      fun a ha => (call_eq (a3_eq (var_eq rfl) (var_eq rfl) (var_eq rfl))).trans (h1 a ha S)
    exact this
  · unfold fn__law_written
    refine PR.fn0 rfl fun S => ?_
    show m__law_written (fn__law_written fu) [some (.p R), some (.p (.tup (.str w :: l))), some (.p (.int n)), none, none, none, none, none] S = _
    unfold m__law_written
    rw [skip_if (t_inL (b := false) rfl (by rw [hrd]; rfl)), skip_if (t_eq (b := false) rfl (by rw [hn]; rfl) hok)]
    have e := more_eq (i := 1) (E := [some (.p R), some (.p (.tup (.str w :: l))), some (.p (.int n)), none, none, none, none, none]) (S := S) (w := w) (r := l) (a := mC (.p (.int 1))) (b := mC (.p (.int 0))) (c := (w == "some")) rfl hok rfl rfl rfl
    refine Eq.trans (seq_nx (asg_eq e)) (seq_rt (ret_eq ?_))
    have := jn_eq (i := 1) (k := 7) (E := [some (.p R), some (.p (.tup (.str w :: l))), some (.p (.int n)), none, none, none, some (if w == "some" then .p (.int 1) else .p (.int 0)), none]) (S := S) (w := w) (x := id) (f := fun a => (Q a).1) (ps := l) (te := mCall (fn__law_written fu) (aCons (mVar 0) (aCons (mVar 7) (aCons (mBin oAdd (mVar 2) (mVar 6)) aNil)))) (by rw [← el]; rfl) (by omega)
      fun a ha => (call_eq (a3_eq (var_eq rfl) (var_eq rfl) (bin_eq (var_eq rfl) (var_eq rfl) (r := some (.p (.int m), S)) (by
        rw [hm]
        cases w == "some"
        · exact oAdd_int.trans (by simp)
        · exact oAdd_int.trans (by simp))))).trans (h2 a ha S)
    exact this
  · obtain ⟨a1, c1, e1, e⟩ := sz_loop (self := fn__law_sizes fu) (R := R) (F := .tup (.str w :: l)) (N := fun a => (Q a).2) l 1 0 0 0 h3
    refine ⟨a1, c1 + (if w == "some" then 1 else 0), e1 + (if w == "some" then 1 else 0), ?_⟩
    unfold fn__law_sizes
    refine PR.fn0 rfl fun S => ?_
    show m__law_sizes (fn__law_sizes fu) [some (.p R), some (.p (.tup (.str w :: l))), none, none, none, none, none, none, none, none, none, none] S = _
    unfold m__law_sizes
    rw [skip_if (t_inL (b := false) rfl (by rw [hrd]; rfl)), skip_if (t_eq (b := false) rfl (by rw [hn]; rfl) hok)]
    obtain ⟨y6, y7, y8, y9, y10, e⟩ := e S none none none none none
    refine Eq.trans (seq_nx (E1 := [some (.p R), some (.p (.tup (.str w :: l))), some (.p (.int (1 : Nat))), some (.p (.int 0)), some (.p (.int 0)), some (.p (.int 0)), none, none, none, none, none, none]) (S1 := S) rfl) ?_
    refine Eq.trans (seq_nx ((show sFor _ _ _ _ _ = _ from bnd_eq (sl_var_seq (sl_tail rfl))).trans e)) ?_
    have em := more_eq (i := 1) (E := [some (.p R), some (.p (.tup (.str w :: l))), some (.p (.int ((1 + (l.map fun a => (Q a).2).sum : Nat) : Int))), some (.p (.int a1)), some (.p (.int c1)), some (.p (.int e1)), y6, y7, y8, y9, y10, none]) (S := S) (w := w) (r := l) (a := mC (.p (.int 1))) (b := mC (.p (.int 0))) (c := (w == "some")) rfl hok rfl rfl rfl
    refine Eq.trans (seq_nx (asg_eq em)) (seq_rt (ret_eq ?_))
    have t4 : ∀ {a b c d : ME} {E : Vr} {x y z u : PD}, a E S = some (.p x, S) → b E S = some (.p y, S) → c E S = some (.p z, S) → d E S = some (.p u, S) → mTup (aCons a (aCons b (aCons c (aCons d aNil)))) E S = some (.p (.tup [x, y, z, u]), S) := fun h1 h2 h3 h4 => by
      simp [mTup, aCons, aNil, bnd, ret, h1, h2, h3, h4, pds]
    refine t4 (var_eq rfl) (var_eq rfl) (bin_eq (var_eq rfl) (var_eq rfl) ?_) (bin_eq (var_eq rfl) (var_eq rfl) ?_)
    · cases w == "some" <;> exact oAdd_int
    · cases w == "some" <;> exact oAdd_int
theorem wr_atom {R : PD} {fu n : Nat} {w : Str} {l : List PD} (hrd : (("row" : Str) == w || ("divides" : Str) == w) = true) (hn : (w == "named") = false) (hok : PyData.strOk w = true) :
    PR (fn_written (fu + 1)) [.p R, .p (.tup (.str w :: l)), .p (.int n)] (.tup (.str w :: l)) ∧ PR (fn__law_written (fu + 1)) [.p R, .p (.tup (.str w :: l)), .p (.int n)] (.tup (.str w :: l)) ∧
    ∃ A C E : Int, PR (fn__law_sizes (fu + 1)) [.p R, .p (.tup (.str w :: l))] (.tup [.int ((1 : Nat) : Int), .int A, .int C, .int E]) := by
  refine ⟨?_, ?_, 1, 0, 0, ?_⟩
  · unfold fn_written
    refine PR.fn0 rfl fun S => ?_
    show m_written (fn_written fu) [some (.p R), some (.p (.tup (.str w :: l))), some (.p (.int n)), none, none, none, none, none] S = _
    unfold m_written
    rw [skip_if (t_eq (b := false) rfl (by rw [hn]; rfl) hok)]
    exact take_if (t_inT rfl (by rw [hrd]; rfl)) (seq_rt (ret_eq (var_eq rfl)))
  · unfold fn__law_written
    refine PR.fn0 rfl fun S => ?_
    show m__law_written (fn__law_written fu) [some (.p R), some (.p (.tup (.str w :: l))), some (.p (.int n)), none, none, none, none, none] S = _
    unfold m__law_written
    exact take_if (t_inL rfl (by rw [hrd]; rfl)) (seq_rt (ret_eq (var_eq rfl)))
  · unfold fn__law_sizes
    refine PR.fn0 rfl fun S => ?_
    show m__law_sizes (fn__law_sizes fu) [some (.p R), some (.p (.tup (.str w :: l))), none, none, none, none, none, none, none, none, none, none] S = _
    unfold m__law_sizes
    exact take_if (t_inL rfl (by rw [hrd]; rfl)) rfl
theorem wr_named {R : PD} {fu n k d : Nat} {x : Str} {fs : List PD} {f g0 g : PD} {N : Nat} (hR : ∀ S, oIx (.p R) (.p (.str x)) S = some (.p (.tup [.int k, .int d, f]), S))
    (h1 : PR (fn_written fu) [.p R, .p f, .p (.int ((k + d : Nat) : Int))] g0) (h2 : PR (fn__law_written fu) [.p R, .p f, .p (.int ((k + d : Nat) : Int))] g0) (h3 : ∃ A C E : Int, PR (fn__law_sizes fu) [.p R, .p f] (.tup [.int (N : Nat), .int A, .int C, .int E]))
    (p1 : PR (fn_formula_put_in 64) [.p g0, .p (.tup fs), .p (.int n)] g) (p2 : PR (fn__law_put 64) [.p g0, .p (.lst fs), .p (.int n)] g) :
    PR (fn_written (fu + 1)) [.p R, .p (.tup [.str "named", .str x, .tup fs]), .p (.int n)] g ∧ PR (fn__law_written (fu + 1)) [.p R, .p (.tup [.str "named", .str x, .tup fs]), .p (.int n)] g ∧
    ∃ A C E : Int, PR (fn__law_sizes (fu + 1)) [.p R, .p (.tup [.str "named", .str x, .tup fs])] (.tup [.int (N : Nat), .int A, .int C, .int E]) := by
  have ekd : ∀ S, oAdd (.p (.int k)) (.p (.int d)) S = some (.p (.int ((k + d : Nat) : Int)), S) := fun S => by rw [oAdd_int, Int.natCast_add]
  refine ⟨?_, ?_, ?_⟩
  · unfold fn_written
    refine PR.fn0 rfl fun S => ?_
    show m_written (fn_written fu) [some (.p R), some (.p (.tup [.str "named", .str x, .tup fs])), some (.p (.int n)), none, none, none, none, none] S = _
    unfold m_written
    refine take_if (t_eq rfl (by decide +kernel)) (Eq.trans (seq_nx (asg_eq' (d := .p (.tup [.int k, .int d, f])) (S1 := S) (bin_eq (var_eq rfl) (bin_eq (var_eq rfl) rfl ix1) (hR S)) rfl)) (seq_rt (ret_eq ?_)))
    exact (call_eq (a3_eq ((call_eq (a3_eq (var_eq rfl) (var_eq rfl) (bin_eq (var_eq rfl) (var_eq rfl) (ekd S)))).trans (h1 S)) (bin_eq (var_eq rfl) rfl ix2) (var_eq rfl))).trans (p1 S)
  · unfold fn__law_written
    refine PR.fn0 rfl fun S => ?_
    show m__law_written (fn__law_written fu) [some (.p R), some (.p (.tup [.str "named", .str x, .tup fs])), some (.p (.int n)), none, none, none, none, none] S = _
    unfold m__law_written
    rw [skip_if (t_inL (b := false) rfl (by decide +kernel))]
    refine take_if (t_eq rfl (by decide +kernel)) (Eq.trans (seq_nx (asg_eq' (d := .p (.tup [.int k, .int d, f])) (S1 := S) (bin_eq (var_eq rfl) (bin_eq (var_eq rfl) rfl ix1) (hR S)) rfl)) (seq_rt (ret_eq ?_)))
    exact (call_eq (a3_eq ((call_eq (a3_eq (var_eq rfl) (var_eq rfl) (bin_eq (var_eq rfl) (var_eq rfl) (ekd S)))).trans (h2 S)) ((call1_eq (bin_eq (var_eq rfl) rfl ix2)).trans rfl) (var_eq rfl))).trans (p2 S)
  · obtain ⟨A, C, E, h3⟩ := h3
    refine ⟨A, C, E, ?_⟩
    unfold fn__law_sizes
    refine PR.fn0 rfl fun S => ?_
    show m__law_sizes (fn__law_sizes fu) [some (.p R), some (.p (.tup [.str "named", .str x, .tup fs])), none, none, none, none, none, none, none, none, none, none] S = _
    unfold m__law_sizes
    rw [skip_if (t_inL (b := false) rfl (by decide +kernel))]
    exact take_if (t_eq rfl (by decide +kernel)) (seq_rt (ret_eq ((call_eq (a2_eq (var_eq rfl) (bin_eq (bin_eq (var_eq rfl) (bin_eq (var_eq rfl) rfl ix1) (hR S)) rfl ix2))).trans (h3 S))))
theorem wr_run {R : PD} {nm : List (Str × Nat)} {fu0 h0 B d n : Nat} {f : PD} (hB : 4 ≤ B) (hB2 : B < 2 ^ 55) (hh : h0 ≤ 20)
    (hR : ∀ p ∈ nm, ∃ (k d : Nat) (f : PD), p.2 = k + d ∧ k + d ≤ 4 ∧ (∀ S, oIx (.p R) (.p (.str p.1)) S = some (.p (.tup [.int k, .int d, f]), S)) ∧ ∃ q, WRq R fu0 h0 B (k + d) f q) (hf : GF nm d n f) : n + d ≤ 8 →
    ∃ q, WRq R (fu0 + d + 1) (h0 + d) (64 * B) n f q := by
  have : Inhabited (PD × Nat) := ⟨(.non, 0)⟩
  -- not, and, or
  have jn : ∀ {d n : Nat} {w : Str} {l : List PD}, Jw w → l.length ≤ 3 → (∀ a ∈ l, ∃ q, WRq R (fu0 + d + 1) (h0 + d) (64 * B) n a q) → ∃ q, WRq R (fu0 + (d + 1) + 1) (h0 + (d + 1)) (64 * B) n (.tup (.str w :: l)) q := fun {d n w l} hw hl h => by
    obtain ⟨Q, hQ⟩ := choose_on h
    have w' := hw.wd
    refine ⟨(.tup (.str w :: (l.map Q).map (·.1)), ((l.map Q).map (·.2)).sum + 1), .jn hw (by simpa using hl) fun p hp => ?_, fun fu hfu => ?_⟩
    · obtain ⟨a, ha, rfl⟩ := List.mem_map.mp hp
      exact (hQ a ha).1
    · obtain ⟨fu, rfl⟩ : ∃ j, fu = j + 1 := ⟨fu - 1, by omega⟩
      have := wr_step (R := R) (fu := fu) (n := n) (m := n) (w := w) (l := l) (Q := Q) w'.rd w'.n w'.ok (by rw [w'.s]; rfl) hl (fun a ha => ((hQ a ha).2 fu (by omega)).1) (fun a ha => ((hQ a ha).2 fu (by omega)).2.1) (fun a ha => ((hQ a ha).2 fu (by omega)).2.2)
      simp only [List.map_map, Function.comp_def, Nat.add_comm (List.sum _) 1]
      exact this
  induction hf with
  | @row d n r hr =>
    intro _
    refine ⟨(_, 1), .row (hr.mono (by omega)), fun fu hfu => ?_⟩
    obtain ⟨fu, rfl⟩ : ∃ j, fu = j + 1 := ⟨fu - 1, by omega⟩
    exact wr_atom (by decide +kernel) (by decide +kernel) (by decide +kernel)
  | @dv d n c r h1 h2 hr =>
    intro _
    refine ⟨(_, 1), .dv h1 h2 (hr.mono (by omega)), fun fu hfu => ?_⟩
    obtain ⟨fu, rfl⟩ : ∃ j, fu = j + 1 := ⟨fu - 1, by omega⟩
    exact wr_atom (by decide +kernel) (by decide +kernel) (by decide +kernel)
  | @not d n a _ ih =>
    intro hn
    exact jn (.inl rfl) (by simp) fun b hb => by
      rw [List.mem_singleton.mp hb]
      exact ih (by omega)
  | @some d n a _ ih =>
    intro hn
    obtain ⟨q, hq⟩ := ih (by omega)
    refine ⟨(.tup [.str "some", q.1], q.2 + 1), .some hq.1, fun fu hfu => ?_⟩
    obtain ⟨fu, rfl⟩ : ∃ j, fu = j + 1 := ⟨fu - 1, by omega⟩
    have := wr_step (R := R) (fu := fu) (n := n) (m := n + 1) (w := "some") (l := [a]) (Q := fun _ => q) (by decide +kernel) (by decide +kernel) (by decide +kernel) (by rw [if_pos (by decide +kernel)]) (by simp)
      (fun b hb => by rw [List.mem_singleton.mp hb]; exact (hq.2 fu (by omega)).1) (fun b hb => by rw [List.mem_singleton.mp hb]; exact (hq.2 fu (by omega)).2.1) (fun b hb => by rw [List.mem_singleton.mp hb]; exact (hq.2 fu (by omega)).2.2)
    simp only [Nat.add_comm q.2 1]
    exact this
  | @named d n s x fs hx hs hfs =>
    intro hn
    obtain ⟨k, d', f, e1, e2, e3, q, hq⟩ := hR _ hx
    simp only at e1 e3
    obtain ⟨fl, rfl, hfl⟩ : ∃ fl : List (List Int), fs = fl.map tupI ∧ okF n fl := by
      clear hs
      induction fs with
      | nil => exact ⟨[], rfl, fun f hf => nomatch hf⟩
      | cons a fs ih =>
        obtain ⟨ns, h1, h2, h3⟩ := hfs a List.mem_cons_self
        obtain ⟨fl, h4, h5⟩ := ih fun b hb => hfs b (List.mem_cons_of_mem _ hb)
        refine ⟨ns :: fl, by rw [h1, h4]; rfl, fun b hb => ?_⟩
        rcases List.mem_cons.mp hb with rfl | hb
        · exact ⟨h2, h3⟩
        · exact h5 b hb
    have hlen : fl.length = k + d' := by simpa using hs.trans e1
    obtain ⟨g, g1, g2, g3⟩ := put_run hB2 hq.1 fl n hlen hfl (by omega) (by omega) 64 (by omega)
    refine ⟨(g, q.2), g1.mono (Nat.le_refl _) _ (by omega), fun fu hfu => ?_⟩
    obtain ⟨fu, rfl⟩ : ∃ j, fu = j + 1 := ⟨fu - 1, by omega⟩
    obtain ⟨w1, w2, w3⟩ := hq.2 fu (by omega)
    exact wr_named e3 w1 w2 w3 g2 g3
  | @junc d n w l hw hl _ ih =>
    intro hn
    exact jn (.inr hw) hl fun a ha => ih a ha (by omega)
end Pt
set_option maxRecDepth 100000
set_option maxHeartbeats 2000000
/-! Q16: the rooms of a drawn book. -/
namespace Pt
open PySem PySem.Spec PyProof.Rows L2
def roomP (rs : List Rm) (t : Str) : PD := match room rs t with
  | some r => r.pd
  | none => .non
def namesOf (rs : List Rm) : List Str := sortS (rs.map (·.t))
def RD (rs : List Rm) : PD := .dct ((namesOf rs).map fun t => (.inr t, roomP rs t))
theorem rowOf_eq {rs : List Rm} {t : Str} : rowOf rs t = .tup [.str t, roomP rs t] := rfl
theorem bookOf_eq {rs : List Rm} : bookOf rs = .tup ((namesOf rs).map fun t => .tup [.str t, roomP rs t]) := rfl
theorem names_nodup {rs : List Rm} (h : Bk rs) : (namesOf rs).Nodup := by
  unfold namesOf sortS
  exact (List.mergeSort_perm _ _).nodup_iff.mpr h.nodup
theorem names_len {rs : List Rm} (h : Bk rs) : (namesOf rs).length ≤ 8 := by
  unfold namesOf sortS
  rw [List.length_mergeSort, List.length_map]
  exact h.len
theorem names_mem {rs : List Rm} {t : Str} : t ∈ namesOf rs ↔ t ∈ rs.map (·.t) := mem_sortS
theorem names_tit {rs : List Rm} (h : Bk rs) : ∀ t ∈ namesOf rs, t ∈ titles := fun t ht => by
  obtain ⟨r, hr, rfl⟩ := List.mem_map.mp (names_mem.mp ht)
  exact (h.tit r hr).1
theorem find_map {v : Str → PD} {x : Str} : ∀ l : List Str, valD (mapP (l.map fun t => ((.inr t : L2.Key), v t))) (.inr x) = if x ∈ l then some (D.p (v x)) else none
  | [] => rfl
  | t :: l => by
    have ih := find_map (v := v) (x := x) l
    unfold valD mapP at *
    simp only [List.map_cons, List.find?_cons]
    by_cases h : t = x
    · subst h
      simp
    · have h2 : (Sum.inr t : L2.Key) ≠ .inr x := fun z => h (Sum.inr.inj z)
      simp only [decide_eq_false h2]
      rw [ih]
      have h3 : (x ∈ t :: l) ↔ (x ∈ l) := by simp [show ¬ x = t from fun z => h z.symm]
      simp only [h3]
theorem valD_RD {rs : List Rm} {x : Str} : valD (mapP ((namesOf rs).map fun t => ((.inr t : L2.Key), roomP rs t))) (.inr x) = if x ∈ namesOf rs then some (D.p (roomP rs x)) else none := find_map _
theorem ix_RD {rs : List Rm} {x : Str} {S : List Cell} (h : x ∈ namesOf rs) : oIx (.p (RD rs)) (.p (.str x)) S = some (.p (roomP rs x), S) := by
  have := valD_RD (rs := rs) (x := x)
  rw [if_pos h] at this
  unfold mapP at this
  simp only [oIx, oIxSeq, seqOf, view, RD, oIxDct, dictOf, keyOf, this]
theorem in_RD {neg : Bool} {rs : List Rm} {x : Str} {S : List Cell} : oIn neg (.p (.str x)) (.p (RD rs)) S = some (.p (.bl (decide (x ∈ namesOf rs) != neg)), S) := by
  have := valD_RD (rs := rs) (x := x)
  unfold mapP at this
  simp only [oIn, oInSeq, seqOf, view, RD, oInDct, dictOf, keyOf, this]
  by_cases h : x ∈ namesOf rs <;> simp [h]
theorem roomP_eq {rs : List Rm} {r : Rm} (hb : Bk rs) (h : r ∈ rs) : roomP rs r.t = r.pd := by
  have : room rs r.t = some r := by
    obtain ⟨q, hq⟩ := room_some (rs := rs) (t := r.t) (List.mem_map.mpr ⟨r, h, rfl⟩)
    obtain ⟨q1, q2⟩ := room_mem hq
    rw [hq]
    congr 1
    have nd := hb.nodup
    clear hq hb
    induction rs with
    | nil => exact nomatch h
    | cons a rs ih =>
      simp only [List.map_cons, List.nodup_cons] at nd
      rcases List.mem_cons.mp h with h | h <;> rcases List.mem_cons.mp q1 with q1 | q1
      · rw [h, q1]
      · exact absurd (List.mem_map.mpr ⟨q, q1, by rw [q2, h]⟩) nd.1
      · exact absurd (List.mem_map.mpr ⟨r, h, by rw [← q2, q1]⟩) nd.1
      · exact ih h q1 nd.2
  unfold roomP
  rw [this]
theorem room_at {rs : List Rm} (hb : Bk rs) {t : Str} (h : t ∈ namesOf rs) : ∃ r ∈ rs, r.t = t ∧ roomP rs t = r.pd := by
  obtain ⟨r, hr, rfl⟩ := List.mem_map.mp (names_mem.mp h)
  exact ⟨r, hr, rfl, roomP_eq hb hr⟩
theorem Bk.gf {rs : List Rm} (h : Bk rs) : ∀ r ∈ rs, ∃ nm : List (Str × Nat), (∀ p ∈ nm, p ∈ nmOf rs) ∧ GF nm 2 (r.k + r.d) r.f := by
  induction h with
  | nil => exact fun r hr => nomatch hr
  | @snoc rs q _ _ _ _ _ g ih =>
    intro r hr
    rcases List.mem_append.mp hr with hr | hr
    · obtain ⟨nm, h1, h2⟩ := ih r hr
      exact ⟨nm, fun p hp => by
        have := h1 p hp
        simp only [nmOf, List.map_append, List.mem_append] at this ⊢
        exact .inl this, h2⟩
    · rw [List.mem_singleton.mp hr]
      exact ⟨nmOf rs, fun p hp => by
        simp only [nmOf, List.map_append, List.mem_append] at hp ⊢
        exact .inl hp, g⟩
/-- the uses of the rooms -/
theorem hu_of {rs : List Rm} (hb : Bk rs) : ∃ U, HU (RD rs) (namesOf rs) U ∧ ∀ t ∈ namesOf rs, ∀ p ∈ U t, p ∈ nmOf rs := by
  have h : ∀ t ∈ namesOf rs, ∃ us : List (Str × Nat), us.length ≤ 9 ∧ (∀ p ∈ us, p ∈ nmOf rs) ∧ ∃ (k d : Nat) (f : PD), (∀ S, oIx (.p (RD rs)) (.p (.str t)) S = some (.p (.tup [.int k, .int d, f]), S)) ∧ PR (fn__law_used 64) [.p f] (.lst (encN us)) ∧ PR (fn_uses_of 64) [.p f] (.lst (encN us)) := fun t ht => by
    obtain ⟨r, hr, e1, e2⟩ := room_at hb ht
    obtain ⟨nm, h1, h2⟩ := hb.gf r hr
    obtain ⟨us, u1, u2, u3, u4⟩ := uses_run h2 (by omega) 64 (by omega)
    exact ⟨us, u1, fun p hp => h1 p (u2 p hp), r.k, r.d, r.f, fun S => by rw [ix_RD ht, e2]; rfl, u3, u4⟩
  obtain ⟨U, hU⟩ := choose_on h
  refine ⟨U, ⟨fun x hx => ?_, fun x hx p hp => ?_, fun x hx => (hU x hx).1, names_len hb⟩, fun t ht => (hU t ht).2.1⟩
  · exact (hU x hx).2.2
  · have := (hU x hx).2.1 p hp
    obtain ⟨r, hr, rfl⟩ := List.mem_map.mp this
    exact names_mem.mpr (List.mem_map.mpr ⟨r, hr, rfl⟩)
/-- each room written out -/
theorem wr_rooms {R : PD} {rs : List Rm} (h : Bk rs) : (∀ r ∈ rs, ∀ S, oIx (.p R) (.p (.str r.t)) S = some (.p r.pd, S)) → ∀ r ∈ rs, ∃ q, WRq R (3 * rs.length) (2 * rs.length) (4 * 64 ^ rs.length) (r.k + r.d) r.f q := by
  induction h with
  | nil => exact fun _ r hr => nomatch hr
  | @snoc rs q hb _ h2 h3 h4 g ih =>
    intro hR r hr
    have e : (rs ++ [q]).length = rs.length + 1 := by simp
    have p64 : 64 ^ (rs.length + 1) = 64 * 64 ^ rs.length := by rw [Nat.pow_succ, Nat.mul_comm]
    have h1 : 1 ≤ 64 ^ rs.length := Nat.one_le_pow _ _ (by decide)
    have h8 : 64 ^ rs.length ≤ 64 ^ 8 := Nat.pow_le_pow_right (by decide) hb.len
    have hlen := hb.len
    have ih' := ih fun r hr => hR r (List.mem_append_left _ hr)
    rw [e]
    rcases List.mem_append.mp hr with hr | hr
    · obtain ⟨p, hp⟩ := ih' r hr
      exact ⟨p, hp.mono (by omega) (by omega) (by omega)⟩
    · rw [List.mem_singleton.mp hr]
      obtain ⟨p, hp⟩ := wr_run (R := R) (fu0 := 3 * rs.length) (h0 := 2 * rs.length) (B := 4 * 64 ^ rs.length) (by omega) (by omega) (by omega) (fun p hp => by
        obtain ⟨s, hs, rfl⟩ := List.mem_map.mp hp
        have := hb.tit s hs
        exact ⟨s.k, s.d, s.f, rfl, by omega, fun S => hR s (List.mem_append_left _ hs) S, ih' s hs⟩) g (by omega)
      exact ⟨p, hp.mono (by omega) (by omega) (by omega)⟩
theorem wr_all {rs : List Rm} (hb : Bk rs) : ∀ r ∈ rs, ∃ q, WRq (RD rs) 24 16 (2 ^ 50) (r.k + r.d) r.f q := fun r hr => by
  have h8 : 64 ^ rs.length ≤ 64 ^ 8 := Nat.pow_le_pow_right (by decide) hb.len
  have hlen := hb.len
  obtain ⟨q, hq⟩ := wr_rooms (R := RD rs) hb (fun r hr S => by rw [ix_RD (names_mem.mpr (List.mem_map.mpr ⟨r, hr, rfl⟩)), roomP_eq hb hr]) r hr
  exact ⟨q, hq.mono (by omega) (by omega) (by omega)⟩
/-! ### dict(book), {one: room for one, room in book} -/
theorem putP_new {acc : List (L2.Key × PD)} {k : L2.Key} {d : PD} (h : ∀ p ∈ acc, p.1 ≠ k) : putP acc k d = acc ++ [(k, d)] := by
  unfold putP
  rw [if_neg]
  simp only [List.any_eq_true, not_exists, not_and, decide_eq_true_eq]
  exact fun p hp => h p hp
theorem pairs_rows {v : Str → PD} : ∀ l : List Str, pairsOf (l.map fun t => PD.tup [.str t, v t]) = some (l.map fun t => (.inr t, v t))
  | [] => rfl
  | t :: l => by
    have := pairs_rows (v := v) l
    simp only [List.map_cons, pairsOf, keyOf, this, Option.map_some]
theorem merge_rows {v : Str → PD} : ∀ (l : List Str) (acc : List (L2.Key × PD)), l.Nodup → (∀ p ∈ acc, ∀ t ∈ l, p.1 ≠ .inr t) → mergeP acc (l.map fun t => (.inr t, v t)) = acc ++ l.map fun t => (.inr t, v t)
  | [], acc, _, _ => by simp [mergeP]
  | t :: l, acc, nd, h => by
    rw [List.nodup_cons] at nd
    have e : mergeP acc ((t :: l).map fun t => ((.inr t : L2.Key), v t)) = mergeP (putP acc (.inr t) (v t)) (l.map fun t => (.inr t, v t)) := rfl
    rw [e, putP_new fun p hp => h p hp t List.mem_cons_self, merge_rows l _ nd.2]
    · simp
    · intro p hp x hx
      rcases List.mem_append.mp hp with hp | hp
      · exact h p hp x (List.mem_cons_of_mem _ hx)
      · rw [List.mem_singleton.mp hp]
        intro z
        have := Sum.inr.inj z
        subst this
        exact nd.1 hx
theorem dict_run {rs : List Rm} (hb : Bk rs) {S : List Cell} : oDictP [.p (bookOf rs)] S = some (.p (RD rs), S) := by
  have h1 := pairs_rows (v := roomP rs) (namesOf rs)
  have h2 := merge_rows (v := roomP rs) (namesOf rs) [] (names_nodup hb) (fun p hp => nomatch hp)
  unfold oDictP
  rw [bookOf_eq]
  simp only [h1, h2]
  rfl
theorem dc_rows {v : Str → PD} {E : Vr} {S : List Cell} {i j : Nat} (hij : i ≠ j) (hi : i < E.length) (hj : j < E.length) : ∀ (l : List Str) (acc : List (L2.Key × PD)), l.Nodup → (∀ p ∈ acc, ∀ t ∈ l, p.1 ≠ .inr t) →
    dcLoop E (gT 2 (gsCons (gN i) (gsCons (gN j) gsNil))) tYes1 (mVar i) (mVar j) (l.map fun t => PD.tup [.str t, v t]) acc S = some (acc ++ l.map fun t => (.inr t, v t), S)
  | [], acc, _, _ => by simp [dcLoop, ret]
  | t :: l, acc, nd, h => by
    rw [List.nodup_cons] at nd
    have ht : gT 2 (gsCons (gN i) (gsCons (gN j) gsNil)) (.p (.tup [.str t, v t])) E = some ((E.set i (some (.p (.str t)))).set j (some (.p (v t)))) := rfl
    have v1 : mVar i ((E.set i (some (.p (.str t)))).set j (some (.p (v t)))) S = some (.p (.str t), S) := var_eq (by rw [List.getElem?_set_ne hij.symm, List.getElem?_set_self hi])
    have v2 : mVar j ((E.set i (some (.p (.str t)))).set j (some (.p (v t)))) S = some (.p (v t), S) := var_eq (by rw [List.getElem?_set_self (by simpa using hj)])
    simp only [List.map_cons]
    unfold dcLoop
    simp only [ht, tYes1, v1, keyOf, v2]
    rw [putP_new fun p hp => h p hp t List.mem_cons_self, dc_rows hij hi hj l _ nd.2]
    · simp
    · intro p hp x hx
      rcases List.mem_append.mp hp with hp | hp
      · exact h p hp x (List.mem_cons_of_mem _ hx)
      · rw [List.mem_singleton.mp hp]
        intro z
        have := Sum.inr.inj z
        subst this
        exact nd.1 hx
end Pt
set_option maxRecDepth 100000
set_option maxHeartbeats 2000000
/-! Q17: names; rooms_with; what is refused. -/
namespace Pt
open PySem PySem.Spec PyProof.Rows L2
abbrev ltrs : Str := "abcdefghijklmnopqrstuvwxyz"
theorem or_f {m n : MT} {E : Vr} {S S1 : List Cell} (h : m E S = some (false, S1)) : mOr m n E S = n E S1 := by
  unfold mOr
  rw [bnd_eq h]
  rfl
theorem or_t {m n : MT} {E : Vr} {S S1 : List Cell} (h : m E S = some (true, S1)) : mOr m n E S = some (true, S1) := by
  unfold mOr
  rw [bnd_eq h]
  rfl
theorem not_eq {m : MT} {E : Vr} {S S1 : List Cell} {b : Bool} (h : m E S = some (b, S1)) : mNot m E S = some (!b, S1) := by
  unfold mNot
  rw [bnd_eq h]
  rfl
theorem isi_eq {E : Vr} {S : List Cell} {m : ME} {d : D} {n T : String} {b : Bool} (h : m E S = some (d, S)) (ht : tyName S d = some n) (hb : isTy n T = some b) : mVal (mCall oIsi (aCons m (aCons (mC (.v (.ty T))) aNil))) E S = some (b, S) := by
  refine val_eq ((call_eq (a2_eq h rfl)).trans ?_)
  unfold oIsi
  simp only [ht, hb]
theorem len_str {t : Str} {S : List Cell} (h : t.length ≤ 1000) : oLen [.p (.str t)] S = some (.p (.int t.length), S) := by
  have : t.length ≤ sizeLine := by have := line_ge; omega
  simp only [oLen, seqOf, view, if_pos this]
theorem chain_eq {ma mb mc : ME} {E : Vr} {S : List Cell} {x y z : Int} (ha : ma E S = some (.p (.int x), S)) (hb : mb E S = some (.p (.int y), S)) (hc : mc E S = some (.p (.int z), S)) : mVal (mChain oLe oLe ma mb mc) E S = some (decide (x ≤ y) && decide (y ≤ z), S) := by
  refine val_eq ?_
  unfold mChain
  rw [bnd_eq ha, bnd_eq hb]
  rw [bnd_eq (show oLe (.p (.int x)) (.p (.int y)) S = some (.p (.bl (decide (x ≤ y))), S) from rfl)]
  cases decide (x ≤ y)
  · rfl
  · show bnd (mc E) _ S = _
    rw [bnd_eq hc]
    simp only [Bool.true_and]
    rfl
theorem lc_none {j : Nat} {tt : MT} {te : ME} {S : List Cell} {E : Vr} : ∀ (xs acc : List PD), (∀ x ∈ xs, tt (E.set j (some (.p x))) S = some (false, S)) → lcLoop E (gN j) tt te xs acc S = some (acc, S)
  | [], acc, _ => rfl
  | x :: xs, acc, h => by
    unfold lcLoop
    simp only [gN, h x List.mem_cons_self]
    exact lc_none xs acc fun y hy => h y (List.mem_cons_of_mem _ hy)
def isLt (c : Nat) : Bool := !(Builtin.Str.occurrences ltrs ⟨#[c]⟩ 0 ltrs.length 1).isEmpty
def goodN (t : Str) : Bool := decide (1 ≤ t.length) && decide (t.length ≤ 20) && decide (t.cps.size ≤ 100000) && t.cps.toList.all isLt
theorem in_ltrs {c : Nat} {S : List Cell} : oIn true (.p (.str ⟨#[c]⟩)) (.p (.str ltrs)) S = some (.p (.bl (!isLt c)), S) := by
  simp only [oIn, oInSeq, seqOf, view, oInDct, dictOf, keyOf, oInStr, isLt, Bool.not_not, if_true]
theorem isname_str {t : Str} (hl : t.length ≤ 1000) {b : Bool} (h : (decide ((1 : Int) ≤ t.length) && decide ((t.length : Int) ≤ 20)) = b) (hb : b = true → t.cps.size ≤ 100000 ∧ t.cps.toList.all isLt = true) : PR fn_is_name [.p (.str t)] (.bl b) := by
  unfold fn_is_name
  refine PR.fn0 rfl fun S => ?_
  show m_is_name [some (.p (.str t)), none] S = _
  unfold m_is_name
  have t1 : mNot (mVal (mCall oIsi (aCons (mVar 0) (aCons (mC (.v (.ty "str"))) aNil)))) [some (.p (.str t)), none] S = some (false, S) := not_eq (isi_eq (n := "str") (T := "str") (b := true) (var_eq rfl) rfl (by decide +kernel))
  have t2 : mNot (mVal (mChain oLe oLe (mC (.p (.int 1))) (mCall oLen (aCons (mVar 0) aNil)) (mC (.p (.int 20))))) [some (.p (.str t)), none] S = some (!b, S) := by
    rw [← h]
    exact not_eq (chain_eq rfl ((call1_eq (var_eq rfl)).trans (len_str hl)) rfl)
  cases b with
  | false => exact take_if ((or_f t1).trans t2) (seq_rt rfl)
  | true =>
    obtain ⟨h1, h2⟩ := hb rfl
    rw [skip_if ((or_f t1).trans t2)]
    have hq : iSeq (mVar 0) [some (.p (.str t)), none] S = some (signs t, S) := by
      unfold iSeq
      rw [bnd_eq (var_eq rfl)]
      simp only [if_pos h1]
    have hm : mLc [1] (iSeq (mVar 0)) (gN 1) (mVal (mBin (oIn true) (mVar 1) (mC (.p (.str ltrs))))) (mVar 1) [some (.p (.str t)), none] S = some (.p (.lst []), S) := by
      refine mLc_eq ((bnd_eq hq).trans (lc_none _ _ fun x hx => ?_))
      obtain ⟨c, hc, rfl⟩ := List.mem_map.mp hx
      have hc' := List.all_eq_true.mp h2 c hc
      refine val_eq (bin_eq (x := .p (.str ⟨#[c]⟩)) (S1 := S) rfl rfl (in_ltrs.trans ?_))
      rw [hc']
      rfl
    exact seq_rt (ret_eq (bin_eq hm rfl ((oEq_nil rfl).trans rfl)))
theorem isname_ok {t : Str} (h : goodN t = true) : PR fn_is_name [.p (.str t)] (.bl true) := by
  simp only [goodN, Bool.and_eq_true, decide_eq_true_eq] at h
  obtain ⟨⟨⟨h1, h2⟩, h3⟩, h4⟩ := h
  refine isname_str (by omega) ?_ fun _ => ⟨h3, h4⟩
  simp only [Bool.and_eq_true, decide_eq_true_eq]
  omega
theorem isname_no {y : PD} {n : String} (ht : ∀ S, tyName S (.p y) = some n) (hb : isTy n "str" = some false) : PR fn_is_name [.p y] (.bl false) := by
  unfold fn_is_name
  refine PR.fn0 rfl fun S => ?_
  show m_is_name [some (.p y), none] S = _
  unfold m_is_name
  exact take_if (or_t (not_eq (isi_eq (var_eq rfl) (ht S) hb))) (seq_rt rfl)
theorem isname_empty : PR fn_is_name [.p (.str "")] (.bl false) := isname_str (by decide +kernel) (by decide +kernel) (fun z => nomatch z)
theorem isname_A : PR fn_is_name [.p (.str "A")] (.bl false) := by
  unfold fn_is_name
  refine PR.fn0 rfl fun S => ?_
  show m_is_name [some (.p (.str "A")), none] S = _
  unfold m_is_name
  have t1 : mNot (mVal (mCall oIsi (aCons (mVar 0) (aCons (mC (.v (.ty "str"))) aNil)))) [some (.p (.str "A")), none] S = some (false, S) := not_eq (isi_eq (n := "str") (T := "str") (b := true) (var_eq rfl) rfl (by decide +kernel))
  have t2 : mNot (mVal (mChain oLe oLe (mC (.p (.int 1))) (mCall oLen (aCons (mVar 0) aNil)) (mC (.p (.int 20))))) [some (.p (.str "A")), none] S = some (false, S) :=
    (not_eq (chain_eq rfl ((call1_eq (var_eq rfl)).trans (len_str (by decide +kernel))) rfl)).trans (by
      have : (!(decide ((1 : Int) ≤ ((("A" : Str).length : Nat) : Int)) && decide (((("A" : Str).length : Nat) : Int) ≤ 20))) = false := by decide +kernel
      rw [this])
  rw [skip_if ((or_f t1).trans t2)]
  have hq : iSeq (mVar 0) [some (.p (.str "A")), none] S = some ([.str ⟨#[65]⟩], S) := by
    unfold iSeq
    rw [bnd_eq (var_eq rfl)]
    have : ("A" : Str).cps.size ≤ 100000 := by decide +kernel
    simp only [if_pos this]
    rfl
  have hm : mLc [1] (iSeq (mVar 0)) (gN 1) (mVal (mBin (oIn true) (mVar 1) (mC (.p (.str ltrs))))) (mVar 1) [some (.p (.str "A")), none] S = some (.p (.lst [.str ⟨#[65]⟩]), S) := by
    have hc : isLt 65 = false := by decide +kernel
    have tt : mVal (mBin (oIn true) (mVar 1) (mC (.p (.str ltrs)))) [some (.p (.str "A")), some (.p (.str ⟨#[65]⟩))] S = some (true, S) := val_eq (bin_eq (x := .p (.str ⟨#[65]⟩)) (S1 := S) rfl rfl (in_ltrs.trans (by rw [hc]; rfl)))
    refine mLc_eq ((bnd_eq hq).trans ?_)
    unfold lcLoop
    simp only [gN, wipeE, List.set_cons_succ, List.set_cons_zero, tt]
    rfl
  exact seq_rt (ret_eq (bin_eq hm rfl ((oEq_nil rfl).trans rfl)))
theorem tit_good : ∀ t ∈ titles, goodN t = true := by decide +kernel
/-! ### rooms_with -/
def PX (o : OCX) (ds : List D) (r : Except Exc D) : Prop := ∀ S, o ds S = some (r, S)
theorem trim_same {S : List Cell} {y : PD} : trim S (.p y) S = some (.p y, S) := trim_p0
theorem PX.ok {N np : Nat} {m : MSX} {ds : List D} {y : PD} (hl : ds.length = np) (h : ∀ S, m (startE N ds) S = some (.ok (.rt (.p y)), S)) : PX (fnX N np m) ds (.ok (.p y)) := fun S => by
  unfold fnX
  rw [if_pos hl, h S]
  show okX (fun _ => trim S (.p y) S) S = _
  unfold okX
  simp only [trim_same]
theorem PX.err {N np : Nat} {m : MSX} {ds : List D} {e : Exc} (hl : ds.length = np) (h : ∀ S, ∃ E, m (startE N ds) S = some (.error (e, E), S)) : PX (fnX N np m) ds (.error e) := fun S => by
  obtain ⟨E, h⟩ := h S
  unfold fnX
  rw [if_pos hl, h]
  simp only [trim_same]
theorem sx_nx {m n : MSX} {E E1 : Vr} {S S1 : List Cell} (h : m E S = some (.ok (.nx E1), S1)) : sxSeq m n E S = n E1 S1 := by
  unfold sxSeq
  rw [h]
theorem sx_err {m n : MSX} {E E1 : Vr} {S S1 : List Cell} {e : Exc} (h : m E S = some (.error (e, E1), S1)) : sxSeq m n E S = some (.error (e, E1), S1) := by
  unfold sxSeq
  rw [h]
theorem sx_rt {m n : MSX} {E : Vr} {S S1 : List Cell} {d : D} (h : m E S = some (.ok (.rt d), S1)) : sxSeq m n E S = some (.ok (.rt d), S1) := by
  unfold sxSeq
  rw [h]
theorem sxOf_eq {m : MS} {E : Vr} {S S1 : List Cell} {f : Fl} (h : m E S = some (f, S1)) : sxOf m E S = some (.ok f, S1) := by
  unfold sxOf
  rw [h]
def exN (y : PD) : Exc := (cNotNamed, [("name", y)])
section
variable {rs : List Rm}
theorem rw_first (hb : Bk rs) {y : PD} {S : List Cell} : sxOf (sAsg (mDc [2, 3] (iSeq (mVar 0)) (gT 2 (gsCons (gN 2) (gsCons (gN 3) gsNil))) tYes1 (mVar 2) (mVar 3)) (gN 4)) [some (.p (bookOf rs)), some (.p y), none, none, none] S = some (.ok (.nx [some (.p (bookOf rs)), some (.p y), none, none, some (.p (RD rs))]), S) := by
  refine sxOf_eq (asg_eq (d := .p (RD rs)) (S1 := S) ?_)
  unfold mDc
  refine Eq.trans (bnd_eq (sl_var_seq (l := (namesOf rs).map fun t => PD.tup [.str t, roomP rs t]) (S := S) (var_eq rfl))) ?_
  have := dc_rows (v := roomP rs) (E := wipeE [some (.p (bookOf rs)), some (.p y), none, none, none] [2, 3]) (S := S) (i := 2) (j := 3) (by decide) (by simp [wipeE]) (by simp [wipeE]) (namesOf rs) [] (names_nodup hb) (fun p hp => nomatch hp)
  rw [bnd_eq this]
  rfl
theorem rw_no (hb : Bk rs) {y : PD} (hy : PR fn_is_name [.p y] (.bl false) ∨ ∃ t, y = .str t ∧ goodN t = true ∧ t ∉ titles) : PX fx_rooms_with [.p (bookOf rs), .p y] (.error (exN y)) := by
  unfold fx_rooms_with
  refine PX.err rfl fun S => ⟨[some (.p (bookOf rs)), some (.p y), none, none, some (.p (RD rs))], ?_⟩
  show m_rooms_with [some (.p (bookOf rs)), some (.p y), none, none, none] S = _
  unfold m_rooms_with
  rw [sx_nx (rw_first hb)]
  refine sx_err ?_
  have ht : mOr (mNot (mVal (mCall fn_is_name (aCons (mVar 1) aNil)))) (mVal (mBin (oIn true) (mVar 1) (mVar 4))) [some (.p (bookOf rs)), some (.p y), none, none, some (.p (RD rs))] S = some (true, S) := by
    rcases hy with h | ⟨t, rfl, h1, h2⟩
    · exact or_t (not_eq (val_eq ((call1_eq (var_eq rfl)).trans (h S))))
    · refine (or_f (not_eq (val_eq ((call1_eq (var_eq rfl)).trans (isname_ok h1 S))))).trans (val_eq (bin_eq (var_eq rfl) (var_eq rfl) (in_RD.trans ?_)))
      have : t ∉ namesOf rs := fun z => h2 (names_tit hb t z)
      simp [this]
  unfold sxIf
  rw [ht]
  simp only
  refine sx_err ?_
  unfold sxRaise1
  rw [var_eq rfl]
  rfl
theorem rw_yes (hb : Bk rs) {t : Str} (h : t ∈ namesOf rs) : PX fx_rooms_with [.p (bookOf rs), .p (.str t)] (.ok (.p (RD rs))) := by
  unfold fx_rooms_with
  refine PX.ok rfl fun S => ?_
  show m_rooms_with [some (.p (bookOf rs)), some (.p (.str t)), none, none, none] S = _
  unfold m_rooms_with
  rw [sx_nx (rw_first hb)]
  have ht : mOr (mNot (mVal (mCall fn_is_name (aCons (mVar 1) aNil)))) (mVal (mBin (oIn true) (mVar 1) (mVar 4))) [some (.p (bookOf rs)), some (.p (.str t)), none, none, some (.p (RD rs))] S = some (false, S) := by
    refine (or_f (not_eq (val_eq ((call1_eq (var_eq rfl)).trans (isname_ok (tit_good t (names_tit hb t h)) S))))).trans (val_eq (bin_eq (var_eq rfl) (var_eq rfl) (in_RD.trans ?_)))
    simp [h]
  refine Eq.trans (sx_nx (E1 := [some (.p (bookOf rs)), some (.p (.str t)), none, none, some (.p (RD rs))]) (S1 := S) ?_) ?_
  · unfold sxIf
    rw [ht]
    rfl
  · exact sxOf_eq (seq_rt (ret_eq (var_eq rfl)))
theorem xcall_eq {o : OCX} {ma : MA} {E : Vr} {S : List Cell} {ds : List D} {r : Except Exc D} (h : ma E S = some (ds, S)) (ho : PX o ds r) : xCall o ma E S = some (r, S) := by
  unfold xCall okX bndX
  simp only [h]
  exact ho S
theorem wo_no (hb : Bk rs) {y : PD} (hy : PX fx_rooms_with [.p (bookOf rs), .p y] (.error (exN y))) : PX fx_written_out [.p (bookOf rs), .p y] (.error (exN y)) := by
  unfold fx_written_out
  refine PX.err rfl fun S => ⟨[some (.p (bookOf rs)), some (.p y), none, none, none, none], ?_⟩
  show m_written_out [some (.p (bookOf rs)), some (.p y), none, none, none, none] S = _
  unfold m_written_out
  refine sx_err ?_
  unfold sxSet sxE
  rw [xcall_eq (a2_eq (var_eq rfl) (var_eq rfl)) hy]
theorem ho_no (hb : Bk rs) {y : PD} (hy : PX fx_rooms_with [.p (bookOf rs), .p y] (.error (exN y))) : PX fx_hangs_on [.p (bookOf rs), .p y] (.error (exN y)) := by
  unfold fx_hangs_on
  refine PX.err rfl fun S => ⟨[some (.p (bookOf rs)), some (.p y)], ?_⟩
  show m_hangs_on [some (.p (bookOf rs)), some (.p y)] S = _
  unfold m_hangs_on
  refine sx_err ?_
  unfold sxRet sxE xCallN xaCons bndX
  rw [xcall_eq (a2_eq (var_eq rfl) (var_eq rfl)) hy]
theorem wo_yes (hb : Bk rs) {t : Str} (h : t ∈ namesOf rs) {k d : Nat} {f g : PD} (hr : roomP rs t = .tup [.int k, .int d, f]) (hw : PR (fn_written 64) [.p (RD rs), .p f, .p (.int ((k + d : Nat) : Int))] g) :
    PR fn_written_out [.p (bookOf rs), .p (.str t)] (.tup [.int k, .int d, g]) := by
  have hx : PX fx_written_out [.p (bookOf rs), .p (.str t)] (.ok (.p (.tup [.int k, .int d, g]))) := by
    unfold fx_written_out
    refine PX.ok rfl fun S => ?_
    show m_written_out [some (.p (bookOf rs)), some (.p (.str t)), none, none, none, none] S = _
    unfold m_written_out
    refine Eq.trans (sx_nx (E1 := [some (.p (bookOf rs)), some (.p (.str t)), some (.p (RD rs)), none, none, none]) (S1 := S) ?_) ?_
    · unfold sxSet sxE
      rw [xcall_eq (a2_eq (var_eq rfl) (var_eq rfl)) (rw_yes hb h)]
      rfl
    · have ekd : oAdd (.p (.int k)) (.p (.int d)) S = some (.p (.int ((k + d : Nat) : Int)), S) := by rw [oAdd_int, Int.natCast_add]
      refine sxOf_eq (Eq.trans (seq_nx (asg_eq' (d := .p (.tup [.int k, .int d, f])) (S1 := S) (bin_eq (var_eq rfl) (var_eq rfl) ((ix_RD h).trans (by rw [hr]))) rfl)) (seq_rt (ret_eq ?_)))
      exact tup3 (var_eq rfl) (var_eq rfl) ((call_eq (a3_eq (var_eq rfl) (var_eq rfl) (bin_eq (var_eq rfl) (var_eq rfl) ekd))).trans (hw S))
  intro S
  unfold fn_written_out okOf
  rw [hx S]
theorem ho_yes (hb : Bk rs) {t : Str} (h : t ∈ namesOf rs) {y : PD} (hh : PR fn_hung [.p (RD rs), .p (.str t)] y) : PR fn_hangs_on [.p (bookOf rs), .p (.str t)] y := by
  have hx : PX fx_hangs_on [.p (bookOf rs), .p (.str t)] (.ok (.p y)) := by
    unfold fx_hangs_on
    refine PX.ok rfl fun S => ?_
    show m_hangs_on [some (.p (bookOf rs)), some (.p (.str t))] S = _
    unfold m_hangs_on
    refine sx_rt ?_
    have e : xCallN fn_hung (xaCons (xCall fx_rooms_with (aCons (mVar 0) (aCons (mVar 1) aNil))) (aCons (mVar 1) aNil)) [some (.p (bookOf rs)), some (.p (.str t))] S = some (.ok (.p y), S) := by
      unfold xCallN xaCons bndX
      rw [xcall_eq (a2_eq (var_eq rfl) (var_eq rfl)) (rw_yes hb h)]
      have e2 : bnd (aCons (mVar 1) aNil [some (.p (bookOf rs)), some (.p (.str t))]) (fun ds => ret (D.p (RD rs) :: ds)) S = some ([.p (RD rs), .p (.str t)], S) := bnd_eq (a1_eq (var_eq rfl))
      simp only [okX, e2, hh S]
    unfold sxRet sxE
    rw [e]
    rfl
  intro S
  unfold fn_hangs_on okOf
  rw [hx S]
end
end Pt
set_option maxRecDepth 100000
set_option maxHeartbeats 2000000
/-! Q18: _law_unnamed at each of the names. -/
namespace Pt
open PySem PySem.Spec PyProof.Rows L2
theorem like_run {y : PD} {z : Str} (h : ∀ S, oReprA [.p y] S = some (.p (.str z), S)) (hz : PyData.strOk z = true) : PR fn__law_like [.p y, .p y] (.bl true) := by
  unfold fn__law_like
  refine PR.fn0 rfl fun S => ?_
  show m__law_like [some (.p y), some (.p y)] S = _
  unfold m__law_like
  refine seq_rt (ret_eq (bin_eq ((call1_eq (var_eq rfl)).trans (h S)) ((call1_eq (var_eq rfl)).trans (h S)) ((oEq_str hz hz).trans ?_)))
  simp
abbrev Ex1 (y : PD) : PD := .exc cNotNamed [("name", y)]
theorem mref_eq {m : MEX} {E : Vr} {S : List Cell} {y : PD} (h : m E S = some (.error (exN y), S)) : mRef [cNotNamed] m E S = some (.p (Ex1 y), S) := by
  unfold mRef
  rw [h]
  rfl
theorem isiA_eq {E : Vr} {S : List Cell} {m : ME} {y : PD} {T : V} {b : Bool} (h : m E S = some (.p (Ex1 y), S)) (hT : oIsiE kitT [.p (Ex1 y), .v T] S = some (.p (.bl b), S)) : mVal (mCall (oIsiA kitT) (aCons m (aCons (mC (.v T)) aNil))) E S = some (b, S) := by
  refine val_eq ((call_eq (a2_eq h rfl)).trans ?_)
  unfold oIsiA
  have e : oIsi [.p (Ex1 y), .v T] S = none := by
    cases T <;> rfl
  rw [e]
  exact hT
theorem isi_list {y : PD} {S : List Cell} : oIsiE kitT [.p (Ex1 y), .v (.ty "list")] S = some (.p (.bl false), S) := by
  simp [oIsiE, kitT]
theorem isi_nn {y : PD} {S : List Cell} : oIsiE kitT [.p (Ex1 y), .v (.ref cNotNamed)] S = some (.p (.bl true), S) := by
  simp [oIsiE, kitT]
theorem isi_nb {y : PD} {S : List Cell} : oIsiE kitT [.p (Ex1 y), .v (.ref cNotBook)] S = some (.p (.bl false), S) := by
  simp [oIsiE, kitT, cNotBook, cNotNamed]
theorem unnamed_run {rs : List Rm} (hb : Bk rs) {y : PD} {z : Str} (hy : PR fn_is_name [.p y] (.bl false) ∨ ∃ t, y = .str t ∧ goodN t = true ∧ t ∉ titles) (h : ∀ S, oReprA [.p y] S = some (.p (.str z), S)) (hz : PyData.strOk z = true) : PR fn__law_unnamed [.p (bookOf rs), .p y] (.bl true) := by
  have hx := rw_no hb hy
  unfold fn__law_unnamed
  refine PR.fn0 rfl fun S => ?_
  show m__law_unnamed [some (.p (bookOf rs)), some (.p y), none, none] S = _
  unfold m__law_unnamed
  refine Eq.trans (seq_nx (asg_eq (d := .p (Ex1 y)) (S1 := S) (mref_eq (xcall_eq (a2_eq (var_eq rfl) (var_eq rfl)) (wo_no hb hx))))) ?_
  have body : ∀ r : Option D, sSeq (sIf (mOr (mVal (mCall (oIsiA kitT) (aCons (mVar 3) (aCons (mC (.v (.ty "list"))) aNil)))) (mOr (mNot (mVal (mCall (oIsiA kitT) (aCons (mVar 3) (aCons (mC (.v (.ref cNotNamed))) aNil))))) (mVal (mCall (oIsiA kitT) (aCons (mVar 3) (aCons (mC (.v (.ref cNotBook))) aNil)))))) (sSeq (sRet (mC (.p (.bl false)))) sNil) sNil)
      (sSeq (sIf (mNot (mVal (mCall fn__law_like (aCons (mXf [cNotNamed] "name" (mVar 3)) (aCons (mVar 1) aNil))))) (sSeq (sRet (mC (.p (.bl false)))) sNil) sNil) sNil) [some (.p (bookOf rs)), some (.p y), some (.p (Ex1 y)), some (.p (Ex1 y))] S = some (.nx [some (.p (bookOf rs)), some (.p y), some (.p (Ex1 y)), some (.p (Ex1 y))], S) := fun _ => by
    rw [skip_if ((or_f (isiA_eq (var_eq rfl) isi_list)).trans ((or_f (not_eq (isiA_eq (var_eq rfl) isi_nn))).trans (isiA_eq (var_eq rfl) isi_nb)))]
    have hl : mVal (mCall fn__law_like (aCons (mXf [cNotNamed] "name" (mVar 3)) (aCons (mVar 1) aNil))) [some (.p (bookOf rs)), some (.p y), some (.p (Ex1 y)), some (.p (Ex1 y))] S = some (true, S) := by
      refine val_eq ((call_eq (a2_eq (x := .p y) ?_ (var_eq rfl))).trans (like_run h hz S))
      unfold mXf
      rw [bnd_eq (var_eq rfl)]
      simp [List.lookup]
    exact (skip_if (not_eq hl)).trans rfl
  refine Eq.trans (seq_nx (E1 := [some (.p (bookOf rs)), some (.p y), some (.p (Ex1 y)), some (.p (Ex1 y))]) (S1 := S) ?_) rfl
  unfold sFor
  have hq : iSeq (mLst (aCons (mVar 2) (aCons (mRef [cNotNamed] (xCall fx_hangs_on (aCons (mVar 0) (aCons (mVar 1) aNil)))) aNil))) [some (.p (bookOf rs)), some (.p y), some (.p (Ex1 y)), none] S = some ([Ex1 y, Ex1 y], S) := by
    unfold iSeq
    rw [bnd_eq (lst2 (var_eq rfl) (mref_eq (xcall_eq (a2_eq (var_eq rfl) (var_eq rfl)) (ho_no hb hx))))]
  refine Eq.trans (bnd_eq hq) ?_
  unfold fLoop
  simp only [gN, List.set_cons_succ, List.set_cons_zero] at body ⊢
  rw [body none]
  simp only
  unfold fLoop
  simp only [gN, List.set_cons_succ, List.set_cons_zero]
  rw [body none]
  rfl
theorem repr_s {x : Str} (h : (reprText x).length ≤ 1000) : ∀ S, oReprA [.p (.str x)] S = some (.p (.str (reprText x)), S) := fun S => by
  have : (reprText x).length ≤ sizeLine := by have := line_ge; omega
  simp only [oReprA, oRepr, if_pos this]
def badNames : List PD := [.str "q", .str "", .str "A", .int 7, .non, .tup [], .bl true, .str "aa", .lst [], .dct [], .tup [.lst []], .lst [.str "a"]]
theorem unnamed_all {rs : List Rm} (hb : Bk rs) : ∀ y ∈ badNames, PR fn__law_unnamed [.p (bookOf rs), .p y] (.bl true) := by
  intro y hy
  simp only [badNames, List.mem_cons, List.not_mem_nil, or_false] at hy
  have rT : ∀ (xs : List PD) (S : List Cell), (PyData.canLay0 (py (.tup xs)) && PyData.showable (py (.tup xs)) && decide ((py (.tup xs)).shown.length ≤ 1000) && decide ((py (.tup xs)).depth ≤ 60)) = true → oReprA [.p (.tup xs)] S = some (.p (.str (py (.tup xs)).shown), S) := fun xs S h => by
    have h' : (PyData.canLay0 (py (.tup xs)) && PyData.showable (py (.tup xs)) && decide ((py (.tup xs)).shown.length ≤ sizeLine) && decide ((py (.tup xs)).depth ≤ 60)) = true := by
      have := line_ge
      simp only [Bool.and_eq_true, decide_eq_true_eq] at h ⊢
      exact ⟨⟨h.1.1, by omega⟩, h.2⟩
    simp only [oReprA, oRepr, if_pos h']
  have rL : ∀ (xs : List PD) (S : List Cell), (PyData.canLay0 (py (.lst xs)) && PyData.showable (py (.lst xs)) && decide ((py (.lst xs)).shown.length ≤ 1000) && decide ((py (.lst xs)).depth ≤ 60)) = true → oReprA [.p (.lst xs)] S = some (.p (.str (py (.lst xs)).shown), S) := fun xs S h => by
    have h' : (PyData.canLay0 (py (.lst xs)) && PyData.showable (py (.lst xs)) && decide ((py (.lst xs)).shown.length ≤ sizeLine) && decide ((py (.lst xs)).depth ≤ 60)) = true := by
      have := line_ge
      simp only [Bool.and_eq_true, decide_eq_true_eq] at h ⊢
      exact ⟨⟨h.1.1, by omega⟩, h.2⟩
    simp only [oReprA, oRepr, if_pos h']
  rcases hy with rfl | rfl | rfl | rfl | rfl | rfl | rfl | rfl | rfl | rfl | rfl | rfl
  · exact unnamed_run hb (.inr ⟨"q", rfl, by decide +kernel, by decide +kernel⟩) (repr_s (by decide +kernel)) (by decide +kernel)
  · exact unnamed_run hb (.inl isname_empty) (repr_s (by decide +kernel)) (by decide +kernel)
  · exact unnamed_run hb (.inl isname_A) (repr_s (by decide +kernel)) (by decide +kernel)
  · refine unnamed_run (z := toString (7 : Int)) hb (.inl (isname_no (n := "int") (fun _ => rfl) (by decide +kernel))) (fun S => ?_) (by decide +kernel)
    have : (7 : Int).natAbs.log2 < 1920 := by decide +kernel
    simp only [oReprA, oRepr, if_pos this]
  · exact unnamed_run (z := "None") hb (.inl (isname_no (n := "NoneType") (fun _ => rfl) (by decide +kernel))) (fun S => rfl) (by decide +kernel)
  · exact unnamed_run hb (.inl (isname_no (n := "tuple") (fun _ => rfl) (by decide +kernel))) (fun S => rT [] S (by decide +kernel)) (by decide +kernel)
  · exact unnamed_run (z := "True") hb (.inl (isname_no (n := "bool") (fun _ => rfl) (by decide +kernel))) (fun S => rfl) (by decide +kernel)
  · exact unnamed_run hb (.inr ⟨"aa", rfl, by decide +kernel, by decide +kernel⟩) (repr_s (by decide +kernel)) (by decide +kernel)
  · exact unnamed_run hb (.inl (isname_no (n := "list") (fun _ => rfl) (by decide +kernel))) (fun S => rL [] S (by decide +kernel)) (by decide +kernel)
  · exact unnamed_run (z := (PyData.dict []).shown) hb (.inl (isname_no (n := "dict") (fun _ => rfl) (by decide +kernel))) (fun S => rfl) (by decide +kernel)
  · exact unnamed_run hb (.inl (isname_no (n := "tuple") (fun _ => rfl) (by decide +kernel))) (fun S => rT [.lst []] S (by decide +kernel)) (by decide +kernel)
  · exact unnamed_run hb (.inl (isname_no (n := "list") (fun _ => rfl) (by decide +kernel))) (fun S => rL [.str "a"] S (by decide +kernel)) (by decide +kernel)
end Pt
set_option maxRecDepth 100000
set_option maxHeartbeats 2000000
/-! Q19: what repr tells of a written out formula fits. -/
namespace Pt
open PySem PySem.Spec PyProof.Rows L2
def okT (x : Str) : Prop := ∀ c ∈ x.cps.toList, c < 0x110000
theorem okT_iff {x : Str} : PyData.strOk x = true ↔ okT x := by
  unfold PyData.strOk okT
  rw [Array.all_eq_true_iff_forall_mem]
  simp only [decide_eq_true_eq, Array.mem_toList_iff]
theorem okT_app {a b : Str} (ha : okT a) (hb : okT b) : okT (a ++ b) := fun c hc => by
  rcases mem_cps_append.mp hc with h | h
  · exact ha c h
  · exact hb c h
theorem okT_dec {x : Str} (h : PyData.strOk x = true) : okT x := okT_iff.mp h
theorem okT_join {sep : Str} (hs : okT sep) : ∀ ts : List Str, (∀ t ∈ ts, okT t) → okT (Str.join sep ts)
  | [], _ => (okT_dec (by decide +kernel) : okT Str.empty)
  | [x], h => h x List.mem_cons_self
  | x :: y :: r, h => by
    have := okT_join hs (y :: r) fun t ht => h t (List.mem_cons_of_mem _ ht)
    exact okT_app (okT_app (h x List.mem_cons_self) hs) this
theorem okT_int (i : Int) : okT (PyData.int i).shown := fun c hc => by
  refine Nat.lt_of_not_le fun h => shown_int_free' (k := c) ⟨by omega, by omega⟩ i hc
structure Nice (h W : Nat) (d : PyData) : Prop where
  lay : d.canLay0 = true
  sh : d.showable = true
  it : d.intsShort 21 = true
  dp : d.depth ≤ h
  wt : d.weight ≤ W
  ok : okT d.shown
structure NiceAll (h W : Nat) (ds : List PyData) : Prop where
  lay : PyData.canLayAll0 ds = true
  sh : PyData.showableAll ds = true
  it : PyData.intsShortAll 21 ds = true
  dp : PyData.depthAll ds ≤ h
  wt : PyData.weightAll ds ≤ W
  ok : ∀ t ∈ PyData.shownAll ds, okT t
theorem NiceAll.nil {h : Nat} : NiceAll h 0 [] := ⟨rfl, rfl, rfl, Nat.zero_le _, Nat.le_refl _, fun t ht => nomatch ht⟩
theorem NiceAll.cons {h W V : Nat} {d : PyData} {ds : List PyData} (a : Nice h W d) (b : NiceAll h V ds) : NiceAll h (W + 1 + V) (d :: ds) := by
  refine ⟨?_, ?_, ?_, ?_, ?_, ?_⟩
  · simp only [PyData.canLayAll0, a.lay, b.lay, Bool.and_self]
  · simp only [PyData.showableAll, a.sh, b.sh, Bool.and_self]
  · simp only [PyData.intsShortAll, a.it, b.it, Bool.and_self]
  · simp only [PyData.depthAll]
    have := a.dp
    have := b.dp
    omega
  · simp only [PyData.weightAll]
    have := a.wt
    have := b.wt
    omega
  · intro t ht
    simp only [PyData.shownAll, List.mem_cons] at ht
    rcases ht with rfl | ht
    · exact a.ok
    · exact b.ok t ht
theorem Nice.mono {h W h' W' : Nat} {d : PyData} (a : Nice h W d) (hh : h ≤ h') (hW : W ≤ W') : Nice h' W' d := ⟨a.lay, a.sh, a.it, Nat.le_trans a.dp hh, Nat.le_trans a.wt hW, a.ok⟩
theorem NiceAll.mono {h W h' W' : Nat} {d : List PyData} (a : NiceAll h W d) (hh : h ≤ h') (hW : W ≤ W') : NiceAll h' W' d := ⟨a.lay, a.sh, a.it, Nat.le_trans a.dp hh, Nat.le_trans a.wt hW, a.ok⟩
theorem nice_tup {h W : Nat} {ds : List PD} (a : NiceAll h W (pys ds)) : Nice (h + 1) W (py (.tup ds)) := by
  refine ⟨?_, ?_, ?_, ?_, ?_, ?_⟩
  · simp only [py, PyData.canLay0, a.lay]
  · simp only [py, PyData.showable, a.sh]
  · simp only [py, PyData.intsShort, a.it]
  · simp only [py, PyData.depth]
    have := a.dp
    omega
  · simp only [py, PyData.weight]
    exact a.wt
  · simp only [py]
    rw [PyData.shown_tuple]
    refine okT_app (okT_app (okT_dec (by decide +kernel)) (okT_join (okT_dec (by decide +kernel)) _ a.ok)) ?_
    split
    · exact okT_dec (by decide +kernel)
    · exact okT_dec (by decide +kernel)
theorem textFrom_ok : ∀ (ts : List Str) (k : Nat) (acc : Str), okT acc → (∀ t ∈ ts, okT t) → okT (textFrom k acc ts)
  | [], k, acc, ha, _ => ha
  | t :: ts, k, acc, ha, h => by
    unfold textFrom
    refine textFrom_ok ts _ _ (okT_app (okT_app ha ?_) (h t List.mem_cons_self)) fun x hx => h x (List.mem_cons_of_mem _ hx)
    split
    · exact okT_dec (by decide +kernel)
    · exact okT_dec (by decide +kernel)
theorem nice_lst {h W : Nat} {ds : List PD} (a : NiceAll h W (pys ds)) : Nice (h + 1) W (py (.lst ds)) := by
  refine ⟨?_, ?_, ?_, ?_, ?_, ?_⟩
  · simp only [py, PyData.canLay0, a.lay]
  · simp only [py, PyData.showable, a.sh]
  · simp only [py, PyData.intsShort, a.it]
  · simp only [py, PyData.depth]
    have := a.dp
    omega
  · simp only [py, PyData.weight]
    exact a.wt
  · simp only [py, PyData.shown]
    unfold listText
    exact okT_app (textFrom_ok _ _ _ (okT_dec (by decide +kernel)) a.ok) (okT_dec (by decide +kernel))
theorem nice_int {h : Nat} {i : Int} (hi : i.natAbs < 2 ^ 60) : Nice h 60 (py (.int i)) := by
  have hl : i.natAbs = 0 ∨ i.natAbs.log2 < 60 := by
    by_cases z : i.natAbs = 0
    · exact .inl z
    · exact .inr ((Nat.log2_lt z).mpr hi)
  refine ⟨rfl, ?_, ?_, Nat.zero_le _, ?_, okT_int i⟩
  · simp only [py, PyData.showable, decide_eq_true_eq]
    rcases hl with z | z
    · rw [z]
      decide
    · omega
  · simp only [py, PyData.intsShort, decide_eq_true_eq]
    have e := int_text_length_le10 (a := i) (k := 20) (by decide) (by omega)
    show (Str.ofString (toString i)).length ≤ 21
    rw [PySem.ofString_length]
    exact e
  · simp only [py, PyData.weight]
    split
    · omega
    · rename_i z
      rcases hl with y | y
      · have : i = 0 := Int.natAbs_eq_zero.mp y
        simp [this] at z
      · omega
theorem nice_str {h : Nat} {x : Str} (h1 : PyData.strOk x = true) (h2 : PyData.strOk (reprText x) = true) {n : Nat} (h3 : x.cps.size ≤ n) : Nice h n (py (.str x)) := by
  refine ⟨?_, rfl, rfl, Nat.zero_le _, ?_, ?_⟩
  · simp only [py, PyData.canLay0, h1]
  · simp only [py, PyData.weight]
    exact h3
  · simp only [py, PyData.shown]
    exact okT_dec h2
theorem nice_ints {h : Nat} : ∀ ns : List Int, (∀ z ∈ ns, z.natAbs < 2 ^ 60) → NiceAll h (61 * ns.length) (pys (ns.map PD.int))
  | [], _ => NiceAll.nil
  | z :: ns, hz => by
    have := NiceAll.cons (h := h) (nice_int (hz z List.mem_cons_self)) (nice_ints ns fun y hy => hz y (List.mem_cons_of_mem _ hy))
    refine this.mono (Nat.le_refl _) ?_
    simp only [List.length_cons]
    omega
theorem nice_form {B L : Nat} {r : PD} (hr : FormP B L r) (hB : B < 2 ^ 60) (hL : L ≤ 31) : Nice 1 1952 (py r) := by
  obtain ⟨ns, rfl, h1, h2⟩ := hr
  refine (nice_tup (nice_ints (h := 0) ns fun z hz => Nat.lt_of_le_of_lt (h2 z hz) hB)).mono (Nat.le_refl _) ?_
  rw [h1]
  omega
theorem pys_map {α : Type} (f : α → PD) : ∀ l : List α, pys (l.map f) = l.map fun a => py (f a)
  | [] => rfl
  | a :: l => by simp [pys, pys_map f l]
theorem nice_wd {h : Nat} {w : Str} (hw : Jw w) : Nice h 3 (py (.str w)) := by
  rcases hw with rfl | rfl | rfl <;> exact nice_str (by decide +kernel) (by decide +kernel) (by decide +kernel)
/-- a written out formula -/
theorem nf_nice {B h L N : Nat} {f : PD} (hB : B < 2 ^ 60) (hf : NF B h L N f) : L + h ≤ 31 → Nice (h + 2) (2000 * N) (py f) := by
  induction hf with
  | @row h L r hr =>
    intro hL
    have a := NiceAll.cons (h := 1) (nice_str (n := 3) (x := "row") (by decide +kernel) (by decide +kernel) (by decide +kernel)) (NiceAll.cons (nice_form hr hB (by omega)) NiceAll.nil)
    exact (nice_tup (ds := [.str "row", r]) a).mono (by omega) (by omega)
  | @dv h L c r h1 h2 hr =>
    intro hL
    have a := NiceAll.cons (h := 1) (nice_str (n := 7) (x := "divides") (by decide +kernel) (by decide +kernel) (by decide +kernel)) (NiceAll.cons (nice_int (i := c) (by omega)) (NiceAll.cons (nice_form hr hB (by omega)) NiceAll.nil))
    refine ((nice_tup (ds := [.str "divides", .int c, r]) (h := 1) (W := 2000) ⟨a.lay, a.sh, a.it, a.dp, ?_, a.ok⟩)).mono (by omega) (by omega)
    have hw : PyData.weight (py (.int c)) ≤ 4 := by
      simp only [py, PyData.weight]
      split
      · omega
      · have : c.natAbs.log2 < 4 := (Nat.log2_lt (by omega)).mpr (by omega)
        omega
    have hr' := (nice_form hr hB (by omega)).wt
    have hs : PyData.weight (py (.str "divides")) ≤ 7 := (nice_str (h := 1) (n := 7) (x := "divides") (by decide +kernel) (by decide +kernel) (by decide +kernel)).wt
    simp only [pys, PyData.weightAll]
    omega
  | @some h L N a _ ih =>
    intro hL
    have b := NiceAll.cons (h := h + 2) (nice_str (n := 4) (x := "some") (by decide +kernel) (by decide +kernel) (by decide +kernel)) (NiceAll.cons (ih (by omega)) NiceAll.nil)
    exact (nice_tup (ds := [.str "some", a]) b).mono (by omega) (by omega)
  | @jn h L w ps hw hl _ ih =>
    intro hL
    have hps : ∀ qs : List (PD × Nat), (∀ p ∈ qs, p ∈ ps) → NiceAll (h + 2) (2000 * (qs.map (·.2)).sum + qs.length) (pys (qs.map (·.1))) := fun qs => by
      induction qs with
      | nil => exact fun _ => NiceAll.nil
      | cons q qs im =>
        intro hq
        have := NiceAll.cons (ih q (hq q List.mem_cons_self) (by omega)) (im fun p hp => hq p (List.mem_cons_of_mem _ hp))
        refine this.mono (Nat.le_refl _) ?_
        simp only [List.map_cons, List.sum_cons, List.length_cons]
        omega
    have b := NiceAll.cons (nice_wd (h := h + 2) hw) (hps ps fun p hp => hp)
    have c := nice_tup (ds := .str w :: ps.map (·.1)) b
    exact Nice.mono (h' := h + 1 + 2) (W' := 2000 * ((ps.map (·.2)).sum + 1)) c (by omega) (by omega)
theorem nice_repr {h W : Nat} {xs : List PD} (a : Nice h W (py (.lst xs))) (hh : h ≤ 60) (hW : W ≤ 600000) : ∀ S, oReprA [.p (.lst xs)] S = some (.p (.str (py (.lst xs)).shown), S) := fun S => by
  have h1 := PyData.shown_le 21 (by decide) _ (PyData.leavesShort_of_canLay0 21 _ a.lay a.it)
  have h2 := a.wt
  have h3 : (py (.lst xs)).shown.length ≤ sizeLine := by
    rw [sizeLine_eq]
    omega
  have h4 : (PyData.canLay0 (py (.lst xs)) && PyData.showable (py (.lst xs)) && decide ((py (.lst xs)).shown.length ≤ sizeLine) && decide ((py (.lst xs)).depth ≤ 60)) = true := by
    simp only [Bool.and_eq_true, decide_eq_true_eq]
    have := a.dp
    exact ⟨⟨⟨a.lay, a.sh⟩, h3⟩, by omega⟩
  simp only [oReprA, oRepr, if_pos h4]
theorem nf_used {B h L N : Nat} {f : PD} (hf : NF B h L N f) : ∀ fu, h < fu → PR (fn__law_used fu) [.p f] (.lst []) := by
  have e0 : ∀ l : List PD, l.flatMap (fun _ => ([] : List (Str × Nat))) = [] := fun l => by simp
  induction hf with
  | row hr =>
    intro fu hfu
    obtain ⟨fu, rfl⟩ : ∃ j, fu = j + 1 := ⟨fu - 1, by omega⟩
    exact used_atom (by decide +kernel)
  | dv h1 h2 hr =>
    intro fu hfu
    obtain ⟨fu, rfl⟩ : ∃ j, fu = j + 1 := ⟨fu - 1, by omega⟩
    exact used_atom (by decide +kernel)
  | @some h L N a _ ih =>
    intro fu hfu
    obtain ⟨fu, rfl⟩ : ∃ j, fu = j + 1 := ⟨fu - 1, by omega⟩
    have := used_step (fu := fu) (w := "some") (l := [a]) (f := fun _ => []) (fun b hb => by rw [List.mem_singleton.mp hb]; exact ih fu (by omega)) (by rw [e0]; simp) (by decide +kernel) (by decide +kernel) (by decide +kernel)
    rw [e0] at this
    exact this
  | @jn h L w ps hw hl _ ih =>
    intro fu hfu
    obtain ⟨fu, rfl⟩ : ∃ j, fu = j + 1 := ⟨fu - 1, by omega⟩
    have := used_step (fu := fu) (w := w) (l := ps.map (·.1)) (f := fun _ => []) (fun b hb => by
      obtain ⟨p, hp, rfl⟩ := List.mem_map.mp hb
      exact ih p hp fu (by omega)) (by rw [e0]; simp) hw.wd.rd hw.wd.n hw.wd.ok
    rw [e0] at this
    exact this
end Pt
set_option maxRecDepth 100000
set_option maxHeartbeats 2000000
/-! Q20: _law_right. -/
namespace Pt
open PySem PySem.Spec PyProof.Rows L2
theorem PR.uniq {o : OC} {ds : List D} {y z : PD} (h : PR o ds y) (g : PR o ds z) : y = z := by
  have := (h []).symm.trans (g [])
  simpa using this
theorem tit_nice {h : Nat} : ∀ t ∈ titles, Nice h 4 (py (.str t)) := fun t ht => by
  have h1 : ∀ t ∈ titles, PyData.strOk t = true ∧ PyData.strOk (reprText t) = true ∧ t.cps.size ≤ 4 := by decide +kernel
  exact nice_str (h1 t ht).1 (h1 t ht).2.1 (h1 t ht).2.2
theorem tits_nice {h : Nat} : ∀ l : List Str, (∀ t ∈ l, t ∈ titles) → NiceAll h (5 * l.length) (pys (l.map PD.str))
  | [], _ => NiceAll.nil
  | t :: l, ht => by
    have := NiceAll.cons (tit_nice (h := h) t (ht t List.mem_cons_self)) (tits_nice l fun x hx => ht x (List.mem_cons_of_mem _ hx))
    refine this.mono (Nat.le_refl _) ?_
    simp only [List.length_cons]
    omega
def SzOk (rs : List Rm) : Prop := ∀ r ∈ rs, ∃ N A C E : Int, PR (fn__law_sizes 64) [.p (RD rs), .p r.f] (.tup [.int N, .int A, .int C, .int E]) ∧ N ≤ 200
theorem right_run {rs : List Rm} (hb : Bk rs) (hs : SzOk rs) : PR fn__law_right [.p (bookOf rs)] (.bl true) := by
  obtain ⟨U, HU, _⟩ := hu_of hb
  unfold fn__law_right
  refine PR.fn0 rfl fun S => ?_
  show m__law_right [some (.p (bookOf rs)), none, none, none, none, none, none] S = _
  unfold m__law_right
  refine Eq.trans (seq_nx (asg_eq (d := .p (RD rs)) (S1 := S) ((call1_eq (var_eq rfl)).trans (dict_run hb)))) ?_
  obtain ⟨E2, S2, e, ⟨rfl, _⟩⟩ := fLoop_inv (t := gT 2 (gsCons (gN 2) (gsCons (gT 3 (gsCons (gN 3) (gsCons (gN 4) (gsCons (gN 5) gsNil)))) gsNil)))
    (mb := sSeq (sAsg (mTup (aCons (mVar 3) (aCons (mVar 4) (aCons (mCall (fn__law_written 64) (aCons (mVar 1) (aCons (mVar 5) (aCons (mBin oAdd (mVar 3) (mVar 4)) aNil)))) aNil)))) (gN 6))
      (sSeq (sIf (mNot (mVal (mCall fn__law_like (aCons (mLst (aCons (mCall fn_written_out (aCons (mVar 0) (aCons (mVar 2) aNil))) (aCons (mCall fn_hangs_on (aCons (mVar 0) (aCons (mVar 2) aNil))) aNil))) (aCons (mLst (aCons (mVar 6) (aCons (mCall oTuple (aCons (mCall fn__law_hangs (aCons (mVar 1) (aCons (mVar 2) aNil))) aNil)) aNil))) aNil))))) (sSeq (sRet (mC (.p (.bl false)))) sNil) sNil)
      (sSeq (sIf (mVal (mBin (oEq true) (mCall (fn__law_used 64) (aCons (mBin oIx (mVar 6) (mC (.p (.int 2)))) aNil)) (mLst aNil))) (sSeq (sRet (mC (.p (.bl false)))) sNil) sNil) sNil)))
    (I := fun E S' => S' = S ∧ ∃ x2 x3 x4 x5 x6 : Option D, E = [some (.p (bookOf rs)), some (.p (RD rs)), x2, x3, x4, x5, x6]) ((namesOf rs).map fun t => PD.tup [.str t, roomP rs t])
    (fun x hx E S' ⟨hS, x2, x3, x4, x5, x6, hE⟩ => by
      subst hE
      subst hS
      obtain ⟨t, ht, rfl⟩ := List.mem_map.mp hx
      obtain ⟨r, hr, rfl, er⟩ := room_at hb ht
      obtain ⟨⟨g, N⟩, hnf, hw⟩ := wr_all hb r hr
      obtain ⟨w1, w2, A, C, Z, w3⟩ := hw 64 (by omega)
      obtain ⟨N', A', C', Z', s1, s2⟩ := hs r hr
      have hN : N ≤ 200 := by
        have := w3.uniq s1
        simp only [PD.tup.injEq, List.cons.injEq, PD.int.injEq] at this
        omega
      obtain ⟨l, l1, l2, l3, l4⟩ := hangs_both HU ht
      have hr' : roomP rs r.t = .tup [.int r.k, .int r.d, r.f] := er
      have hkd := hb.tit r hr
      have hwo := wo_yes hb ht hr' w1
      have hho := ho_yes hb ht l4
      rw [hr']
      refine ⟨[some (.p (bookOf rs)), some (.p (RD rs)), some (.p (.str r.t)), some (.p (.int r.k)), some (.p (.int r.d)), some (.p r.f), x6], [some (.p (bookOf rs)), some (.p (RD rs)), some (.p (.str r.t)), some (.p (.int r.k)), some (.p (.int r.d)), some (.p r.f), some (.p (.tup [.int r.k, .int r.d, g]))], S', rfl, ?_, rfl, _, _, _, _, _, rfl⟩
      have ekd : oAdd (.p (.int r.k)) (.p (.int r.d)) S' = some (.p (.int ((r.k + r.d : Nat) : Int)), S') := by rw [oAdd_int, Int.natCast_add]
      refine Eq.trans (seq_nx (asg_eq (d := .p (.tup [.int r.k, .int r.d, g])) (S1 := S') (tup3 (var_eq rfl) (var_eq rfl) ((call_eq (a3_eq (var_eq rfl) (var_eq rfl) (bin_eq (var_eq rfl) (var_eq rfl) ekd))).trans (w2 S'))))) ?_
      -- repr
      have ng := nf_nice (by decide) hnf (by omega)
      have ni : ∀ j : Nat, j ≤ 2 → Nice 18 60 (py (.int j)) := fun j hj => nice_int (by omega)
      have n1 : Nice 19 500000 (py (.tup [.int r.k, .int r.d, g])) := by
        have b := NiceAll.cons (ni r.k hkd.2.1) (NiceAll.cons (ni r.d hkd.2.2) (NiceAll.cons ng NiceAll.nil))
        exact (nice_tup (ds := [.int r.k, .int r.d, g]) b).mono (by omega) (by omega)
      have n2 : Nice 19 100 (py (.tup (l.map PD.str))) := (nice_tup (tits_nice (h := 18) l fun x hx => names_tit hb x (l2 x hx))).mono (by omega) (by omega)
      have n3 : Nice 20 600000 (py (.lst [.tup [.int r.k, .int r.d, g], .tup (l.map PD.str)])) := by
        have b := NiceAll.cons n1 (NiceAll.cons n2 NiceAll.nil)
        exact (nice_lst (ds := [.tup [.int r.k, .int r.d, g], .tup (l.map PD.str)]) b).mono (by omega) (by omega)
      have hl := like_run (nice_repr n3 (by omega) (by omega)) (okT_iff.mpr n3.ok)
      have t1 : mNot (mVal (mCall fn__law_like (aCons (mLst (aCons (mCall fn_written_out (aCons (mVar 0) (aCons (mVar 2) aNil))) (aCons (mCall fn_hangs_on (aCons (mVar 0) (aCons (mVar 2) aNil))) aNil))) (aCons (mLst (aCons (mVar 6) (aCons (mCall oTuple (aCons (mCall fn__law_hangs (aCons (mVar 1) (aCons (mVar 2) aNil))) aNil)) aNil))) aNil)))) [some (.p (bookOf rs)), some (.p (RD rs)), some (.p (.str r.t)), some (.p (.int r.k)), some (.p (.int r.d)), some (.p r.f), some (.p (.tup [.int r.k, .int r.d, g]))] S' = some (false, S') :=
        not_eq (val_eq ((call_eq (a2_eq (lst2 ((call_eq (a2_eq (var_eq rfl) (var_eq rfl))).trans (hwo S')) ((call_eq (a2_eq (var_eq rfl) (var_eq rfl))).trans (hho S'))) (lst2 (var_eq rfl) ((call1_eq ((call_eq (a2_eq (var_eq rfl) (var_eq rfl))).trans (l3 S'))).trans rfl)))).trans (hl S')))
      have t2 : mVal (mBin (oEq true) (mCall (fn__law_used 64) (aCons (mBin oIx (mVar 6) (mC (.p (.int 2)))) aNil)) (mLst aNil)) [some (.p (bookOf rs)), some (.p (RD rs)), some (.p (.str r.t)), some (.p (.int r.k)), some (.p (.int r.d)), some (.p r.f), some (.p (.tup [.int r.k, .int r.d, g]))] S' = some (false, S') :=
        val_eq (bin_eq ((call1_eq (bin_eq (var_eq rfl) rfl ix2)).trans (nf_used hnf 64 (by omega) S')) rfl ((oEq_nil rfl).trans rfl))
      exact (skip_if t1).trans ((skip_if t2).trans rfl))
    [some (.p (bookOf rs)), some (.p (RD rs)), none, none, none, none, none] S ⟨rfl, _, _, _, _, _, rfl⟩
  refine Eq.trans (seq_nx (E1 := E2) (S1 := S2) ?_) rfl
  unfold sFor
  exact Eq.trans (bnd_eq (sl_var_seq (l := (namesOf rs).map fun t => PD.tup [.str t, roomP rs t]) (var_eq rfl))) e
end Pt
set_option maxRecDepth 100000
set_option maxHeartbeats 2000000
/-! Q21: _law_is_formula and what leans on it, at drawn books. -/
namespace Pt
open PySem PySem.Spec PyProof.Rows L2
theorem andV_t {m n : ME} {E : Vr} {S S1 : List Cell} (h : m E S = some (.p (.bl true), S1)) : mAndV m n E S = n E S1 := by
  unfold mAndV
  rw [bnd_eq h]
theorem notV_eq {m : ME} {E : Vr} {S S1 : List Cell} {b : Bool} (h : m E S = some (.p (.bl b), S1)) : mNotV m E S = some (.p (.bl (!b)), S1) := by
  unfold mNotV
  rw [bnd_eq h]
  rfl
theorem isiE_eq {E : Vr} {S : List Cell} {m : ME} {d : D} {n T : String} {b : Bool} (h : m E S = some (d, S)) (ht : tyName S d = some n) (hb : isTy n T = some b) : mCall oIsi (aCons m (aCons (mC (.v (.ty T))) aNil)) E S = some (.p (.bl b), S) := by
  refine (call_eq (a2_eq h rfl)).trans ?_
  unfold oIsi
  simp only [ht, hb]
theorem whole_run {i : Int} : PR fn__law_is_whole [.p (.int i)] (.bl true) := by
  unfold fn__law_is_whole
  refine PR.fn0 rfl fun S => ?_
  show m__law_is_whole [some (.p (.int i))] S = _
  unfold m__law_is_whole
  exact seq_rt (ret_eq ((andV_t (isiE_eq (n := "int") (T := "int") (b := true) (var_eq rfl) rfl (by decide +kernel))).trans (notV_eq (isiE_eq (n := "int") (T := "bool") (b := false) (var_eq rfl) rfl (by decide +kernel)))))
theorem tup_isi {E : Vr} {S : List Cell} {m : ME} {l : List PD} (h : m E S = some (.p (.tup l), S)) : mVal (mCall oIsi (aCons m (aCons (mC (.v (.ty "tuple"))) aNil))) E S = some (true, S) :=
  isi_eq (n := "tuple") (T := "tuple") (b := true) h rfl (by decide +kernel)
theorem none_lc {own : List Nat} {ms : MI} {j : Nat} {tt : MT} {te : ME} {E : Vr} {S : List Cell} {xs : List PD} (h : ms E S = some (xs, S)) (h2 : ∀ x ∈ xs, tt ((wipeE E own).set j (some (.p x))) S = some (false, S)) :
    mBin (oEq false) (mLc own ms (gN j) tt te) (mLst aNil) E S = some (.p (.bl true), S) :=
  bin_eq (mLc_eq ((bnd_eq h).trans (lc_none _ _ h2))) rfl ((oEq_nil rfl).trans rfl)
theorem form_ok {B L : Nat} {r : PD} (hr : FormP B L r) : PR fn__law_is_form [.p r, .p (.int L)] (.bl true) := by
  obtain ⟨ns, rfl, h1, _⟩ := hr
  unfold fn__law_is_form
  refine PR.fn0 rfl fun S => ?_
  show m__law_is_form [some (.p (.tup (ns.map PD.int))), some (.p (.int L)), none] S = _
  unfold m__law_is_form
  have t2 : mVal (mBin (oEq true) (mCall oLen (aCons (mVar 0) aNil)) (mBin oAdd (mVar 1) (mC (.p (.int 1))))) [some (.p (.tup (ns.map PD.int))), some (.p (.int L)), none] S = some (false, S) := by
    refine val_eq (bin_eq (len_tup (var_eq rfl)) (bin_eq (var_eq rfl) rfl oAdd_int) (oEq_int.trans ?_))
    have e : ((((ns.map PD.int).length : Nat) : Int) == ((L : Nat) : Int) + 1) = true := by
      rw [List.length_map, h1]
      simp
    rw [e]
    rfl
  rw [skip_if ((or_f (not_eq (tup_isi (var_eq rfl)))).trans t2)]
  refine seq_rt (ret_eq (none_lc (sl_var_seq (var_eq rfl)) fun x hx => ?_))
  obtain ⟨z, _, rfl⟩ := List.mem_map.mp hx
  exact not_eq (val_eq ((call1_eq (var_eq rfl)).trans (whole_run S)))
/-! ### formulas -/
theorem shaped_of {y : PD} {n : Nat} (h : (py y).canLay0 = true ∧ (py y).depth ≤ n) (hn : n ≤ 64) : SeqAt.shaped (py y) = true := by
  unfold SeqAt.shaped
  simp only [Bool.and_eq_true, decide_eq_true_eq]
  exact ⟨h.1, by omega⟩
theorem lay_tup {l : List PD} {n : Nat} (h : ∀ a ∈ l, (py a).canLay0 = true ∧ (py a).depth ≤ n) : (py (.tup l)).canLay0 = true ∧ (py (.tup l)).depth ≤ n + 1 := by
  have : PyData.canLayAll0 (pys l) = true ∧ PyData.depthAll (pys l) ≤ n := by
    induction l with
    | nil => exact ⟨rfl, Nat.zero_le _⟩
    | cons a l ih =>
      obtain ⟨h1, h2⟩ := h a List.mem_cons_self
      obtain ⟨h3, h4⟩ := ih fun b hb => h b (List.mem_cons_of_mem _ hb)
      simp only [pys, PyData.canLayAll0, PyData.depthAll, h1, h3, Bool.and_self, true_and]
      omega
  simp only [py, PyData.canLay0, PyData.depth]
  exact ⟨this.1, by omega⟩
theorem lay_str {x : Str} {n : Nat} (h : PyData.strOk x = true) : (py (.str x)).canLay0 = true ∧ (py (.str x)).depth ≤ n := by
  simp only [py, PyData.canLay0, PyData.depth]
  exact ⟨h, Nat.zero_le _⟩
theorem lay_form {B L : Nat} {r : PD} (hr : FormP B L r) : (py r).canLay0 = true ∧ (py r).depth ≤ 1 := by
  obtain ⟨ns, rfl, _, _⟩ := hr
  refine lay_tup (n := 0) fun a ha => ?_
  obtain ⟨z, _, rfl⟩ := List.mem_map.mp ha
  exact ⟨rfl, Nat.le_refl _⟩
theorem tit_ok : ∀ t ∈ titles, PyData.strOk t = true := by decide +kernel
theorem gf_lay {nm : List (Str × Nat)} (hnm : ∀ p ∈ nm, p.1 ∈ titles) {d L : Nat} {f : PD} (h : GF nm d L f) : (py f).canLay0 = true ∧ (py f).depth ≤ d + 3 := by
  have one : ∀ {a b : PD} {n : Nat}, (py a).canLay0 = true ∧ (py a).depth ≤ n → (py b).canLay0 = true ∧ (py b).depth ≤ n → (py (.tup [a, b])).canLay0 = true ∧ (py (.tup [a, b])).depth ≤ n + 1 := fun h1 h2 => lay_tup fun x hx => by
    simp only [List.mem_cons, List.not_mem_nil, or_false] at hx
    rcases hx with rfl | rfl
    · exact h1
    · exact h2
  induction h with
  | row hr =>
    have := one (lay_str (n := 1) (x := "row") (by decide +kernel)) (lay_form hr)
    exact ⟨this.1, by omega⟩
  | @dv d L c r _ _ hr =>
    have := lay_tup (n := 1) (l := [.str "divides", .int c, r]) fun x hx => by
      simp only [List.mem_cons, List.not_mem_nil, or_false] at hx
      rcases hx with rfl | rfl | rfl
      · exact lay_str (by decide +kernel)
      · exact ⟨rfl, Nat.zero_le _⟩
      · exact lay_form hr
    exact ⟨this.1, by omega⟩
  | not _ ih => exact one (lay_str (by decide +kernel)) ih
  | some _ ih => exact one (lay_str (by decide +kernel)) ih
  | @named d L s x fs hx _ hf =>
    have h2 := lay_tup (n := 1) (l := fs) fun y hy => lay_form (hf y hy)
    have := lay_tup (n := 2) (l := [.str "named", .str x, .tup fs]) fun y hy => by
      simp only [List.mem_cons, List.not_mem_nil, or_false] at hy
      rcases hy with rfl | rfl | rfl
      · exact lay_str (by decide +kernel)
      · exact lay_str (tit_ok x (hnm _ hx))
      · exact h2
    exact ⟨this.1, by omega⟩
  | @junc d L w l hw _ _ ih =>
    refine lay_tup fun y hy => ?_
    rcases List.mem_cons.mp hy with rfl | hy
    · exact lay_str (by rcases hw with rfl | rfl <;> decide +kernel)
    · exact ih y hy
theorem eq_tup0 {i : Nat} {E : Vr} {S : List Cell} {a : PD} {r : List PD} (hE : E[i]? = some (some (.p (.tup (a :: r))))) (h : SeqAt.shaped (py (.tup (a :: r))) = true) : mVal (mBin (oEq false) (mVar i) (mTup aNil)) E S = some (false, S) := by
  refine val_eq (bin_eq (var_eq hE) (show mTup aNil E S = some (.p (.tup []), S) from rfl) ?_)
  have h2 : SeqAt.shaped (py (.tup [])) = true := by decide +kernel
  unfold oEq eqD
  simp only [view, h, h2, Bool.and_self, if_true]
  simp [py, pys, PyData.eqv, PyData.eqvAll]
/-- the tests on a word in a variable -/
theorem w_eq {neg : Bool} {i : Nat} {E : Vr} {S : List Cell} {w v : Str} {b : Bool} (hE : E[i]? = some (some (.p (.str w)))) (hw : PyData.strOk w = true) (hb : ((w == v) != neg) = b) (hv : PyData.strOk v = true := by decide +kernel) : mVal (mBin (oEq neg) (mVar i) (mC (.p (.str v)))) E S = some (b, S) :=
  val_eq (bin_eq (var_eq hE) rfl (by rw [oEq_str hw hv, hb]))
theorem w_in2 {i : Nat} {E : Vr} {S : List Cell} {w a c : Str} {b : Bool} (hE : E[i]? = some (some (.p (.str w)))) (hb : decide (w ∈ [a, c]) = b) : mVal (mBin (oIn false) (mVar i) (mLst (aCons (mC (.p (.str a))) (aCons (mC (.p (.str c))) aNil)))) E S = some (b, S) :=
  val_eq (bin_eq (y := .p (.lst [.str a, .str c])) (var_eq hE) (lst2 rfl rfl) (by rw [in_strs (l := [a, c]) rfl, hb]; simp))
theorem w_in3 {i : Nat} {E : Vr} {S : List Cell} {w a c e : Str} {b : Bool} (hE : E[i]? = some (some (.p (.str w)))) (hb : decide (w ∈ [a, c, e]) = b) : mVal (mBin (oIn false) (mVar i) (mLst (aCons (mC (.p (.str a))) (aCons (mC (.p (.str c))) (aCons (mC (.p (.str e))) aNil))))) E S = some (b, S) :=
  val_eq (bin_eq (y := .p (.lst [.str a, .str c, .str e])) (var_eq hE) rfl (by rw [in_strs (l := [a, c, e]) rfl, hb]; simp))
section
variable {self : OC} {m : Nat} {w : Str} {l : List PD} {S : List Cell}
abbrev E6 (w : Str) (l : List PD) (m : Nat) : Vr := [some (.p (.tup (.str w :: l))), some (.p (.int m)), some (.p (.str w)), some (.p (.tup l)), none, none]
/-- as far as the word -/
theorem isf_start (hw : PyData.strOk w = true) (hs : SeqAt.shaped (py (.tup (.str w :: l))) = true) {b : Bool} (hb : decide (w ∈ [("and" : Str), "or"]) = b) {r : Fl}
    (hr : b = true → r = .rt (.p (.bl true)) ∧ ∀ a ∈ l, ∀ S, self [.p a, .p (.int m)] S = some (.p (.bl true), S))
    (hk : b = false → sSeq (sIf (mOr (mAnd (mVal (mBin (oIn false) (mVar 2) (mLst (aCons (mC (.p (.str "row"))) (aCons (mC (.p (.str "not"))) (aCons (mC (.p (.str "some"))) aNil)))))) (mVal (mBin (oEq true) (mCall oLen (aCons (mVar 3) aNil)) (mC (.p (.int 1)))))) (mAnd (mVal (mBin (oIn false) (mVar 2) (mLst (aCons (mC (.p (.str "divides"))) (aCons (mC (.p (.str "named"))) aNil))))) (mVal (mBin (oEq true) (mCall oLen (aCons (mVar 3) aNil)) (mC (.p (.int 2))))))) (sSeq (sRet (mC (.p (.bl false)))) sNil) sNil)
  (sSeq (sIf (mVal (mBin (oEq false) (mVar 2) (mC (.p (.str "row"))))) (sSeq (sRet (mCall fn__law_is_form (aCons (mBin oIx (mVar 3) (mC (.p (.int 0)))) (aCons (mVar 1) aNil)))) sNil) sNil)
  (sSeq (sIf (mVal (mBin (oEq false) (mVar 2) (mC (.p (.str "divides"))))) (sSeq (sRet (mAndV (mCall fn__law_is_whole (aCons (mBin oIx (mVar 3) (mC (.p (.int 0)))) aNil)) (mAndV (mChain oLe oLe (mC (.p (.int 2))) (mBin oIx (mVar 3) (mC (.p (.int 0)))) (mC (.p (.int 12)))) (mCall fn__law_is_form (aCons (mBin oIx (mVar 3) (mC (.p (.int 1)))) (aCons (mVar 1) aNil)))))) sNil) sNil)
  (sSeq (sIf (mVal (mBin (oEq false) (mVar 2) (mC (.p (.str "not"))))) (sSeq (sRet (mCall self (aCons (mBin oIx (mVar 3) (mC (.p (.int 0)))) (aCons (mVar 1) aNil)))) sNil) sNil)
  (sSeq (sIf (mVal (mBin (oEq false) (mVar 2) (mC (.p (.str "some"))))) (sSeq (sRet (mAndV (mBin oLt (mVar 1) (mC (.p (.int 9)))) (mCall self (aCons (mBin oIx (mVar 3) (mC (.p (.int 0)))) (aCons (mBin oAdd (mVar 1) (mC (.p (.int 1)))) aNil))))) sNil) sNil)
  (sSeq (sIf (mOr (mVal (mBin (oEq true) (mVar 2) (mC (.p (.str "named"))))) (mOr (mNot (mVal (mCall fn__law_is_name (aCons (mBin oIx (mVar 3) (mC (.p (.int 0)))) aNil)))) (mNot (mVal (mCall oIsi (aCons (mBin oIx (mVar 3) (mC (.p (.int 1)))) (aCons (mC (.v (.ty "tuple"))) aNil))))))) (sSeq (sRet (mC (.p (.bl false)))) sNil) sNil)
  (sSeq (sRet (mBin (oEq false) (mLc [5] (iSeq (mBin oIx (mVar 3) (mC (.p (.int 1))))) (gN 5) (mNot (mVal (mCall fn__law_is_form (aCons (mVar 5) (aCons (mVar 1) aNil))))) (mVar 5)) (mLst aNil))) sNil)))))) (E6 w l m) S = some (r, S)) :
    m__law_is_formula self [some (.p (.tup (.str w :: l))), some (.p (.int m)), none, none, none, none] S = some (r, S) := by
  unfold m__law_is_formula
  have t1 : mOr (mNot (mVal (mCall oIsi (aCons (mVar 0) (aCons (mC (.v (.ty "tuple"))) aNil))))) (mOr (mVal (mBin (oEq false) (mVar 0) (mTup aNil))) (mNot (mVal (mCall oIsi (aCons (mBin oIx (mVar 0) (mC (.p (.int 0)))) (aCons (mC (.v (.ty "str"))) aNil)))))) [some (.p (.tup (.str w :: l))), some (.p (.int m)), none, none, none, none] S = some (false, S) :=
    (or_f (not_eq (tup_isi (var_eq rfl)))).trans ((or_f (eq_tup0 rfl hs)).trans (not_eq (isi_eq (n := "str") (T := "str") (b := true) (bin_eq (var_eq rfl) rfl ix0) rfl (by decide +kernel))))
  rw [skip_if t1]
  refine Eq.trans (seq_nx (par_eq (bin_eq (var_eq rfl) rfl ix0) (sl_tail rfl))) ?_
  cases b with
  | true =>
    obtain ⟨rfl, h2⟩ := hr rfl
    refine take_if (w_in2 rfl hb) (seq_rt (ret_eq (none_lc (sl_var_seq (var_eq rfl)) fun x hx => ?_)))
    exact not_eq (val_eq ((call_eq (a2_eq (var_eq rfl) (var_eq rfl))).trans (h2 x hx S)))
  | false =>
    rw [skip_if (w_in2 rfl hb)]
    exact hk rfl
theorem len_ne {E : Vr} {l : List PD} {n : Int} (hE : E[3]? = some (some (.p (.tup l)))) (h : ((l.length : Nat) : Int) = n) : mVal (mBin (oEq true) (mCall oLen (aCons (mVar 3) aNil)) (mC (.p (.int n)))) E S = some (false, S) := by
  refine val_eq (bin_eq (len_tup (var_eq hE)) rfl (oEq_int.trans ?_))
  subst h
  simp
end
theorem isf_run {nm : List (Str × Nat)} (hnm : ∀ p ∈ nm, p.1 ∈ titles) {d L : Nat} {f : PD} (h : GF nm d L f) : d + L ≤ 8 → ∀ fu, d < fu → PR (fn__law_is_formula fu) [.p f, .p (.int L)] (.bl true) := by
  have sh : ∀ {d L : Nat} {f : PD}, GF nm d L f → d + L ≤ 8 → SeqAt.shaped (py f) = true := fun h hd => shaped_of (gf_lay hnm h) (by omega)
  induction h with
  | @row d L r hr =>
    intro hd fu hfu
    obtain ⟨fu, rfl⟩ : ∃ j, fu = j + 1 := ⟨fu - 1, by omega⟩
    unfold fn__law_is_formula
    refine PR.fn0 rfl fun S => ?_
    refine isf_start (w := "row") (l := [r]) (m := L) (by decide +kernel) (sh (d := d) (L := L) (.row hr) hd) (b := false) (by decide +kernel) (fun z => nomatch z) fun _ => ?_
    refine Eq.trans (skip_if ((or_f ((and_t (w_in3 (b := true) rfl (by decide +kernel))).trans (len_ne (n := 1) rfl rfl))).trans (and_f (w_in2 (b := false) rfl (by decide +kernel))))) ?_
    exact take_if (w_eq (b := true) rfl (by decide +kernel) (by decide +kernel)) (seq_rt (ret_eq ((call_eq (a2_eq (bin_eq (var_eq rfl) rfl ix0) (var_eq rfl))).trans (form_ok hr S))))
  | @dv d L c r h1 h2 hr =>
    intro hd fu hfu
    obtain ⟨fu, rfl⟩ : ∃ j, fu = j + 1 := ⟨fu - 1, by omega⟩
    unfold fn__law_is_formula
    refine PR.fn0 rfl fun S => ?_
    refine isf_start (w := "divides") (l := [.int c, r]) (m := L) (by decide +kernel) (sh (d := d) (L := L) (.dv h1 h2 hr) hd) (b := false) (by decide +kernel) (fun z => nomatch z) fun _ => ?_
    refine Eq.trans (skip_if ((or_f (and_f (w_in3 (b := false) rfl (by decide +kernel)))).trans ((and_t (w_in2 (b := true) rfl (by decide +kernel))).trans (len_ne (n := 2) rfl rfl)))) ?_
    refine Eq.trans (skip_if (w_eq (b := false) rfl (by decide +kernel) (by decide +kernel))) ?_
    refine take_if (w_eq (b := true) rfl (by decide +kernel) (by decide +kernel)) (seq_rt (ret_eq ((andV_t ((call1_eq (bin_eq (var_eq rfl) rfl ix0)).trans (whole_run S))).trans ((andV_t ?_).trans ((call_eq (a2_eq (bin_eq (var_eq rfl) rfl ix1) (var_eq rfl))).trans (form_ok hr S))))))
    unfold mChain
    rw [bnd_eq (show mC (.p (.int 2)) _ S = some (.p (.int 2), S) from rfl), bnd_eq (bin_eq (var_eq rfl) rfl ix0)]
    rw [bnd_eq (show oLe (.p (.int 2)) (.p (.int c)) S = some (.p (.bl true), S) by simp [oCmpI, h1])]
    show oLe (.p (.int c)) (.p (.int 12)) S = _
    simp [oCmpI, h2]
  | @not d L a ha ih =>
    intro hd fu hfu
    obtain ⟨fu, rfl⟩ : ∃ j, fu = j + 1 := ⟨fu - 1, by omega⟩
    unfold fn__law_is_formula
    refine PR.fn0 rfl fun S => ?_
    refine isf_start (w := "not") (l := [a]) (m := L) (by decide +kernel) (sh (d := d + 1) (L := L) (.not ha) hd) (b := false) (by decide +kernel) (fun z => nomatch z) fun _ => ?_
    refine Eq.trans (skip_if ((or_f ((and_t (w_in3 (b := true) rfl (by decide +kernel))).trans (len_ne (n := 1) rfl rfl))).trans (and_f (w_in2 (b := false) rfl (by decide +kernel))))) ?_
    refine Eq.trans (skip_if (w_eq (b := false) rfl (by decide +kernel) (by decide +kernel))) ?_
    refine Eq.trans (skip_if (w_eq (b := false) rfl (by decide +kernel) (by decide +kernel))) ?_
    exact take_if (w_eq (b := true) rfl (by decide +kernel) (by decide +kernel)) (seq_rt (ret_eq ((call_eq (a2_eq (bin_eq (var_eq rfl) rfl ix0) (var_eq rfl))).trans (ih (by omega) fu (by omega) S))))
  | @some d L a ha ih =>
    intro hd fu hfu
    obtain ⟨fu, rfl⟩ : ∃ j, fu = j + 1 := ⟨fu - 1, by omega⟩
    unfold fn__law_is_formula
    refine PR.fn0 rfl fun S => ?_
    refine isf_start (w := "some") (l := [a]) (m := L) (by decide +kernel) (sh (d := d + 1) (L := L) (.some ha) hd) (b := false) (by decide +kernel) (fun z => nomatch z) fun _ => ?_
    refine Eq.trans (skip_if ((or_f ((and_t (w_in3 (b := true) rfl (by decide +kernel))).trans (len_ne (n := 1) rfl rfl))).trans (and_f (w_in2 (b := false) rfl (by decide +kernel))))) ?_
    refine Eq.trans (skip_if (w_eq (b := false) rfl (by decide +kernel) (by decide +kernel))) ?_
    refine Eq.trans (skip_if (w_eq (b := false) rfl (by decide +kernel) (by decide +kernel))) ?_
    refine Eq.trans (skip_if (w_eq (b := false) rfl (by decide +kernel) (by decide +kernel))) ?_
    refine take_if (w_eq (b := true) rfl (by decide +kernel) (by decide +kernel)) (seq_rt (ret_eq ((andV_t (bin_eq (var_eq rfl) rfl ?_)).trans ((call_eq (a2_eq (bin_eq (var_eq rfl) rfl ix0) (bin_eq (var_eq rfl) rfl oAdd_int))).trans (ih (by omega) fu (by omega) S)))))
    rw [oLt_int]
    have : decide ((L : Int) < 9) = true := decide_eq_true (by omega)
    rw [this]
  | @named d L s x fs hx hs hf =>
    intro hd fu hfu
    obtain ⟨fu, rfl⟩ : ∃ j, fu = j + 1 := ⟨fu - 1, by omega⟩
    unfold fn__law_is_formula
    refine PR.fn0 rfl fun S => ?_
    refine isf_start (w := "named") (l := [.str x, .tup fs]) (m := L) (by decide +kernel) (sh (d := d + 1) (L := L) (.named hx hs hf) hd) (b := false) (by decide +kernel) (fun z => nomatch z) fun _ => ?_
    refine Eq.trans (skip_if ((or_f (and_f (w_in3 (b := false) rfl (by decide +kernel)))).trans ((and_t (w_in2 (b := true) rfl (by decide +kernel))).trans (len_ne (n := 2) rfl rfl)))) ?_
    refine Eq.trans (skip_if (w_eq (b := false) rfl (by decide +kernel) (by decide +kernel))) ?_
    refine Eq.trans (skip_if (w_eq (b := false) rfl (by decide +kernel) (by decide +kernel))) ?_
    refine Eq.trans (skip_if (w_eq (b := false) rfl (by decide +kernel) (by decide +kernel))) ?_
    refine Eq.trans (skip_if (w_eq (b := false) rfl (by decide +kernel) (by decide +kernel))) ?_
    have hn : PR fn__law_is_name [.p (.str x)] (.bl true) := isname_ok (tit_good x (hnm _ hx))
    refine Eq.trans (skip_if ((or_f (w_eq (b := false) rfl (by decide +kernel) (by decide +kernel))).trans ((or_f (not_eq (val_eq ((call1_eq (bin_eq (var_eq rfl) rfl ix0)).trans (hn S))))).trans (not_eq (tup_isi (bin_eq (var_eq rfl) rfl ix1)))))) ?_
    refine seq_rt (ret_eq (none_lc (sl_var_seq (bin_eq (var_eq rfl) rfl ix1)) fun y hy => ?_))
    exact not_eq (val_eq ((call_eq (a2_eq (var_eq rfl) (var_eq rfl))).trans (form_ok (hf y hy) S)))
  | @junc d L w l hw hl ha ih =>
    intro hd fu hfu
    obtain ⟨fu, rfl⟩ : ∃ j, fu = j + 1 := ⟨fu - 1, by omega⟩
    unfold fn__law_is_formula
    refine PR.fn0 rfl fun S => ?_
    refine isf_start (w := w) (l := l) (m := L) (by rcases hw with rfl | rfl <;> decide +kernel) (sh (d := d + 1) (L := L) (.junc hw hl ha) hd) (b := true) (by rcases hw with rfl | rfl <;> decide +kernel) (fun _ => ⟨rfl, fun a ha' S => ih a ha' (by omega) fu (by omega) S⟩) (fun z => nomatch z)
theorem room_run {nm : List (Str × Nat)} (hnm : ∀ p ∈ nm, p.1 ∈ titles) {r : Rm} (hk : r.k ≤ 2) (hd : r.d ≤ 2) (h : GF nm 2 (r.k + r.d) r.f) : PR fn__law_is_room [.p r.pd] (.bl true) := by
  unfold fn__law_is_room
  refine PR.fn0 rfl fun S => ?_
  show m__law_is_room [some (.p (.tup [.int r.k, .int r.d, r.f])), none, none, none] S = _
  unfold m__law_is_room
  have t1 : mVal (mBin (oEq true) (mCall oLen (aCons (mVar 0) aNil)) (mC (.p (.int 3)))) [some (.p (.tup [.int r.k, .int r.d, r.f])), none, none, none] S = some (false, S) :=
    val_eq (bin_eq (len_tup (var_eq rfl)) rfl (oEq_int.trans rfl))
  refine Eq.trans (skip_if ((or_f (not_eq (tup_isi (var_eq rfl)))).trans t1)) ?_
  refine Eq.trans (seq_nx (asg_eq' (d := .p (.tup [.int r.k, .int r.d, r.f])) (S1 := S) (var_eq rfl) rfl)) ?_
  have wh : ∀ (i : Nat) (E : Vr) (z : Int), E[i]? = some (some (.p (.int z))) → mNot (mVal (mCall fn__law_is_whole (aCons (mVar i) aNil))) E S = some (false, S) := fun i E z hE => not_eq (val_eq ((call1_eq (var_eq hE)).trans (whole_run S)))
  have ch : ∀ (i : Nat) (E : Vr) (z : Nat) (u : Int), E[i]? = some (some (.p (.int z))) → z ≤ 2 → 2 ≤ u → mNot (mVal (mChain oLe oLe (mC (.p (.int 0))) (mVar i) (mC (.p (.int u))))) E S = some (false, S) := fun i E z u hE h2 hu => by
    refine (not_eq (chain_eq rfl (var_eq hE) rfl)).trans ?_
    have e1 : decide ((0 : Int) ≤ (z : Int)) = true := decide_eq_true (by omega)
    have e2 : decide ((z : Int) ≤ u) = true := decide_eq_true (by omega)
    rw [e1, e2]
    rfl
  refine Eq.trans (skip_if ((or_f (wh 1 _ _ rfl)).trans ((or_f (wh 2 _ _ rfl)).trans ((or_f (ch 1 _ _ 3 rfl hk (by omega))).trans (ch 2 _ _ 6 rfl hd (by omega)))))) ?_
  have ekd : oAdd (.p (.int r.k)) (.p (.int r.d)) S = some (.p (.int ((r.k + r.d : Nat) : Int)), S) := by rw [oAdd_int, Int.natCast_add]
  exact seq_rt (ret_eq ((call_eq (a2_eq (var_eq rfl) (bin_eq (var_eq rfl) (var_eq rfl) ekd))).trans (isf_run hnm h (by omega) 64 (by omega) S)))
end Pt
set_option maxRecDepth 100000
set_option maxHeartbeats 2000000
/-! Q22: _law_form_place and _law_breach at drawn books. -/
namespace Pt
open PySem PySem.Spec PyProof.Rows L2
/-- a for that may return -/
theorem fLoop_two {t : Tg} {mb : MS} {I : Vr → List Cell → Prop} {Rt : D → List Cell → Prop} {P : PD → Prop} : ∀ (xs : List PD), (∀ x ∈ xs, ∀ E S, I E S → ∃ E1, t (.p x) E = some E1 ∧ ((∃ E2 S2, mb E1 S = some (.nx E2, S2) ∧ I E2 S2 ∧ P x) ∨ ∃ d S2, mb E1 S = some (.rt d, S2) ∧ Rt d S2)) → ∀ E S, I E S →
    (∃ E2 S2, fLoop t mb xs E S = some (.nx E2, S2) ∧ I E2 S2 ∧ ∀ x ∈ xs, P x) ∨ ∃ d S2, fLoop t mb xs E S = some (.rt d, S2) ∧ Rt d S2
  | [], _, E, S, h => .inl ⟨E, S, rfl, h, fun x hx => nomatch hx⟩
  | x :: xs, hx, E, S, h => by
    obtain ⟨E1, h1, h2⟩ := hx x List.mem_cons_self E S h
    rcases h2 with ⟨E2, S2, h2, h3, h4⟩ | ⟨d, S2, h2, h3⟩
    · rcases fLoop_two xs (fun y hy => hx y (List.mem_cons_of_mem _ hy)) E2 S2 h3 with ⟨E3, S3, g1, g2, g3⟩ | ⟨d, S3, g1, g2⟩
      · refine .inl ⟨E3, S3, ?_, g2, fun y hy => ?_⟩
        · unfold fLoop
          simp only [h1, h2]
          exact g1
        · rcases List.mem_cons.mp hy with rfl | hy
          · exact h4
          · exact g3 y hy
      · refine .inr ⟨d, S3, ?_, g2⟩
        unfold fLoop
        simp only [h1, h2]
        exact g1
    · refine .inr ⟨d, S2, ?_, h3⟩
      unfold fLoop
      simp only [h1, h2]
theorem nm_tit {rs : List Rm} (hb : Bk rs) : ∀ p ∈ nmOf rs, p.1 ∈ titles := fun p hp => by
  obtain ⟨r, hr, rfl⟩ := List.mem_map.mp hp
  exact (hb.tit r hr).1
theorem rooms_ok {rs : List Rm} (hb : Bk rs) : ∀ r ∈ rs, PR fn__law_is_room [.p r.pd] (.bl true) := fun r hr => by
  obtain ⟨nm, h1, h2⟩ := hb.gf r hr
  exact room_run (fun p hp => nm_tit hb p (h1 p hp)) (hb.tit r hr).2.1 (hb.tit r hr).2.2 h2
theorem lt_str {a b : Str} {S : List Cell} : oLt (.p (.str a)) (.p (.str b)) S = some (.p (.bl (strLt a b)), S) := rfl
theorem place_run {rs : List Rm} (hb : Bk rs) (S : List Cell) : ∃ y, fn__law_form_place [.p (bookOf rs)] S = some (.p y, S) := by
  have hl := names_len hb
  have hrows : bookOf rs = .tup ((namesOf rs).map fun t => PD.tup [.str t, roomP rs t]) := rfl
  unfold fn__law_form_place
  suffices hx : ∃ y, m__law_form_place [some (.p (bookOf rs)), none, none] S = some (.rt (.p y), S) by
    obtain ⟨y, h⟩ := hx
    exact ⟨y, fnM_p0 rfl h⟩
  unfold m__law_form_place
  have t0 : mVal (mBin oGt (mCall oLen (aCons (mVar 0) aNil)) (mC (.p (.int 100)))) [some (.p (bookOf rs)), none, none] S = some (false, S) := by
    refine val_eq (bin_eq (len_tup (xs := (namesOf rs).map fun t => PD.tup [.str t, roomP rs t]) (var_eq rfl)) rfl (oGt_int.trans ?_))
    have : decide ((100 : Int) < ((((namesOf rs).map fun t => PD.tup [.str t, roomP rs t]).length : Nat) : Int)) = false := by
      apply decide_eq_false
      simp only [List.length_map]
      omega
    rw [this]
  have e0 : ∀ r : MS, sSeq (sIf (mOr (mNot (mVal (mCall oIsi (aCons (mVar 0) (aCons (mC (.v (.ty "tuple"))) aNil))))) (mVal (mBin oGt (mCall oLen (aCons (mVar 0) aNil)) (mC (.p (.int 100)))))) (sSeq (sRet (mUn oNeg (mC (.p (.int 1))))) sNil) sNil) r [some (.p (bookOf rs)), none, none] S = r [some (.p (bookOf rs)), none, none] S :=
    fun r => skip_if ((or_f (not_eq (tup_isi (var_eq rfl)))).trans t0)
  rw [e0]
  have hr : iRange1 (aCons (mCall oLen (aCons (mVar 0) aNil)) aNil) [some (.p (bookOf rs)), none, none] S = some (rgInts 0 (namesOf rs).length, S) := by
    unfold iRange1
    rw [bnd_eq (a1_eq (len_tup (xs := (namesOf rs).map fun t => PD.tup [.str t, roomP rs t]) (var_eq rfl)))]
    have q : -100000 ≤ ((((namesOf rs).map fun t => PD.tup [.str t, roomP rs t]).length : Nat) : Int) ∧ ((((namesOf rs).map fun t => PD.tup [.str t, roomP rs t]).length : Nat) : Int) ≤ 100000 := by
      simp only [List.length_map]
      omega
    simp only [if_pos q]
    simp
  have key := fLoop_two (t := gN 1) (mb := sSeq (sAsg (mBin oIx (mVar 0) (mVar 1)) (gN 2))
      (sSeq (sIf (mOr (mNot (mVal (mCall oIsi (aCons (mVar 2) (aCons (mC (.v (.ty "tuple"))) aNil))))) (mOr (mVal (mBin (oEq true) (mCall oLen (aCons (mVar 2) aNil)) (mC (.p (.int 2))))) (mOr (mNot (mVal (mCall fn__law_is_name (aCons (mBin oIx (mVar 2) (mC (.p (.int 0)))) aNil)))) (mNot (mVal (mCall fn__law_is_room (aCons (mBin oIx (mVar 2) (mC (.p (.int 1)))) aNil))))))) (sSeq (sRet (mVar 1)) sNil) sNil)
      (sSeq (sIf (mAnd (mVal (mBin oGt (mVar 1) (mC (.p (.int 0))))) (mNot (mVal (mBin oLt (mBin oIx (mBin oIx (mVar 0) (mBin oSub (mVar 1) (mC (.p (.int 1))))) (mC (.p (.int 0)))) (mBin oIx (mVar 2) (mC (.p (.int 0)))))))) (sSeq (sRet (mVar 1)) sNil) sNil) sNil)))
    (I := fun E S' => S' = S ∧ ∃ x1 x2 : Option D, E = [some (.p (bookOf rs)), x1, x2]) (Rt := fun d S' => S' = S ∧ ∃ y, d = .p y) (P := fun _ => True) (rgInts 0 (namesOf rs).length)
    (fun x hx E S' ⟨hS, x1, x2, hE⟩ => by
      subst hE
      subst hS
      obtain ⟨i, hi, rfl⟩ := List.mem_map.mp hx
      have hi' : i < (namesOf rs).length := by simpa using hi
      have hrow : ∀ j (hj : j < (namesOf rs).length), oIx (.p (bookOf rs)) (.p (.int (j : Int))) S' = some (.p (.tup [.str (namesOf rs)[j], roomP rs (namesOf rs)[j]]), S') := fun j hj => by
        rw [hrows]
        refine ix_n ?_
        simp [hj]
      refine ⟨[some (.p (bookOf rs)), some (.p (.int (0 + (i : Int)))), x2], rfl, ?_⟩
      rw [Int.zero_add]
      generalize ht : (namesOf rs)[i] = t at *
      have htm : t ∈ namesOf rs := by rw [← ht]; exact List.getElem_mem hi'
      obtain ⟨r, hrm, rfl, er⟩ := room_at hb htm
      have h1 : ∀ r' : MS, sSeq (sAsg (mBin oIx (mVar 0) (mVar 1)) (gN 2)) r' [some (.p (bookOf rs)), some (.p (.int (i : Int))), x2] S' = r' [some (.p (bookOf rs)), some (.p (.int (i : Int))), some (.p (.tup [.str r.t, roomP rs r.t]))] S' := fun r' => seq_nx (asg_eq (bin_eq (var_eq rfl) (var_eq rfl) ((hrow i hi').trans (by rw [ht]))))
      rw [h1]
      have hn : PR fn__law_is_name [.p (.str r.t)] (.bl true) := isname_ok (tit_good r.t (hb.tit r hrm).1)
      have hro : PR fn__law_is_room [.p (roomP rs r.t)] (.bl true) := by
        rw [er]
        exact rooms_ok hb r hrm
      have t1 : mOr (mNot (mVal (mCall oIsi (aCons (mVar 2) (aCons (mC (.v (.ty "tuple"))) aNil))))) (mOr (mVal (mBin (oEq true) (mCall oLen (aCons (mVar 2) aNil)) (mC (.p (.int 2))))) (mOr (mNot (mVal (mCall fn__law_is_name (aCons (mBin oIx (mVar 2) (mC (.p (.int 0)))) aNil)))) (mNot (mVal (mCall fn__law_is_room (aCons (mBin oIx (mVar 2) (mC (.p (.int 1)))) aNil)))))) [some (.p (bookOf rs)), some (.p (.int (i : Int))), some (.p (.tup [.str r.t, roomP rs r.t]))] S' = some (false, S') :=
        (or_f (not_eq (tup_isi (var_eq rfl)))).trans ((or_f (val_eq (bin_eq (len_tup (var_eq rfl)) rfl (oEq_int.trans rfl)))).trans ((or_f (not_eq (val_eq ((call1_eq (bin_eq (var_eq rfl) rfl ix0)).trans (hn S'))))).trans (not_eq (val_eq ((call1_eq (bin_eq (var_eq rfl) rfl ix1)).trans (hro S'))))))
      rw [skip_if t1]
      have hg : mVal (mBin oGt (mVar 1) (mC (.p (.int 0)))) [some (.p (bookOf rs)), some (.p (.int (i : Int))), some (.p (.tup [.str r.t, roomP rs r.t]))] S' = some (decide ((0 : Int) < (i : Int)), S') := val_eq (bin_eq (var_eq rfl) rfl oGt_int)
      by_cases hi0 : i = 0
      · refine .inl ⟨_, S', (skip_if (and_f (hg.trans (by rw [hi0]; rfl)))).trans rfl, ⟨rfl, _, _, rfl⟩, trivial⟩
      · have e1 : ((i : Int) - 1) = ((i - 1 : Nat) : Int) := by omega
        have hg' : decide ((0 : Int) < (i : Int)) = true := decide_eq_true (by omega)
        have hlt : mNot (mVal (mBin oLt (mBin oIx (mBin oIx (mVar 0) (mBin oSub (mVar 1) (mC (.p (.int 1))))) (mC (.p (.int 0)))) (mBin oIx (mVar 2) (mC (.p (.int 0)))))) [some (.p (bookOf rs)), some (.p (.int (i : Int))), some (.p (.tup [.str r.t, roomP rs r.t]))] S' = some (!(strLt (namesOf rs)[i - 1] r.t), S') :=
          not_eq (val_eq (bin_eq (bin_eq (bin_eq (var_eq rfl) (bin_eq (var_eq rfl) rfl oSub_int) (by rw [e1]; exact hrow (i - 1) (by omega))) rfl ix0) (bin_eq (var_eq rfl) rfl ix0) lt_str))
        have hcond := (and_t (hg.trans (by rw [hg']))).trans hlt
        cases hs : strLt (namesOf rs)[i - 1] r.t with
        | true =>
          rw [hs] at hcond
          exact .inl ⟨_, S', (skip_if hcond).trans rfl, ⟨rfl, _, _, rfl⟩, trivial⟩
        | false =>
          rw [hs] at hcond
          exact .inr ⟨.p (.int (i : Int)), S', take_if hcond (seq_rt (ret_eq (var_eq rfl))), rfl, _, rfl⟩)
    [some (.p (bookOf rs)), none, none] S ⟨rfl, _, _, rfl⟩
  rcases key with ⟨E2, S2, e, ⟨rfl, x1, x2, rfl⟩, _⟩ | ⟨d, S2, e, rfl, y, rfl⟩
  · refine ⟨.non, Eq.trans (seq_nx (E1 := [some (.p (bookOf rs)), x1, x2]) (S1 := S2) ?_) rfl⟩
    unfold sFor
    exact (bnd_eq hr).trans e
  · refine ⟨y, seq_rt ?_⟩
    unfold sFor
    exact (bnd_eq hr).trans e
end Pt
set_option maxRecDepth 100000
set_option maxHeartbeats 4000000
/-! Q23: _law_breach at drawn books. -/
namespace Pt
open PySem PySem.Spec PyProof.Rows L2
theorem lc_noneG {t : Tg} {tt : MT} {te : ME} {S : List Cell} {E : Vr} : ∀ (xs acc : List PD), (∀ x ∈ xs, ∃ E1, t (.p x) E = some E1 ∧ tt E1 S = some (false, S)) → lcLoop E t tt te xs acc S = some (acc, S)
  | [], acc, _ => rfl
  | x :: xs, acc, h => by
    obtain ⟨E1, h1, h2⟩ := h x List.mem_cons_self
    unfold lcLoop
    simp only [h1, h2]
    exact lc_noneG xs acc fun y hy => h y (List.mem_cons_of_mem _ hy)
theorem lcV_none {own : List Nat} {ms : ME} {t : Tg} {tt : MT} {te : ME} {E : Vr} {S : List Cell} {n : Nat} {us : List PD} (hm : ms E S = some (.ref n, S)) (hS : S[n]? = some (.lst (us.map .p))) (h : ∀ u ∈ us, ∃ E1, t (.p u) (wipeE E own) = some E1 ∧ tt E1 S = some (false, S)) :
    mLcV own ms t tt te E S = some (.p (.lst []), S) := by
  unfold mLcV
  rw [bnd_eq hm]
  simp only [hS, pds_map]
  rw [bnd_eq (lc_noneG us [] fun u hu => by
    obtain ⟨E1, h1, h2⟩ := h u hu
    exact ⟨E1, h1, by simp [pureT, h2]⟩)]
  rfl
theorem sorted_nil {S : List Cell} : oSorted [.p (.lst [])] S = some (.p (.lst []), S) := by
  simp [oSorted, view, strsOf, sortS]
theorem ne_nil {i : Nat} {E : Vr} {S : List Cell} {l : List PD} (h : E[i]? = some (some (.p (.lst l)))) : mVal (mBin (oEq true) (mVar i) (mLst aNil)) E S = some (!l.isEmpty, S) := ne_t h rfl
theorem sorted_RD {rs : List Rm} (hb : Bk rs) {S : List Cell} : oSorted [.p (RD rs)] S = some (.p (.lst ((sortS (namesOf rs)).map PD.str)), S) := by
  have hk : ∀ l : List Str, strKeys (l.map fun t => ((.inr t : L2.Key), D.p (roomP rs t))) = some l := fun l => by
    induction l with
    | nil => rfl
    | cons a l ih => simp [strKeys, ih]
  have hl : (namesOf rs).length < 64 := by have := names_len hb; omega
  have hd : dictOf S (.p (RD rs)) = some ((namesOf rs).map fun t => (.inr t, D.p (roomP rs t))) := by
    simp only [dictOf, RD, List.map_map]
    rfl
  have hv : view S (.p (RD rs)) = some (RD rs) := rfl
  unfold oSorted
  simp only [hv, RD] at hd ⊢
  simp only [hd, hk, hl, if_true]
  rfl
section
variable {rs : List Rm} {U : Str → List (Str × Nat)} {S : List Cell}
abbrev E16 (rs : List Rm) (n : Nat) (x4 x5 x6 x7 x8 x9 x10 x11 x12 x13 x14 x15 : Option D) : Vr := [some (.p (bookOf rs)), some (.p .non), some (.p (RD rs)), some (.ref n), x4, x5, x6, x7, x8, x9, x10, x11, x12, x13, x14, x15]
def UsOk (rs : List Rm) (us : List PD) : Prop := ∀ u ∈ us, ∃ (p : Str × Nat) (t : Str), p ∈ nmOf rs ∧ u = .tup [.str p.1, .int p.2, .str t]
theorem used_room (hb : Bk rs) (H : HU (RD rs) (namesOf rs) U) {t : Str} (ht : t ∈ namesOf rs) : ∃ (k d : Nat) (f : PD), roomP rs t = .tup [.int k, .int d, f] ∧ PR (fn__law_used 64) [.p f] (.lst (encN (U t))) := by
  obtain ⟨k, d, f, h1, h2, _⟩ := H.rm t ht
  refine ⟨k, d, f, ?_, h2⟩
  have := (ix_RD (S := []) ht).symm.trans (h1 [])
  simpa using this
theorem used_loop (hb : Bk rs) (H : HU (RD rs) (namesOf rs) U) (hU : ∀ t ∈ namesOf rs, ∀ p ∈ U t, p ∈ nmOf rs) : ∀ (l : List Str) (us : List PD) (x4 x5 : Option D), (∀ t ∈ l, t ∈ namesOf rs) → us.length + 9 * l.length ≤ 1000 → UsOk rs us →
    ∃ us' y4 y5, fLoop (gT 2 (gsCons (gN 4) (gsCons (gN 5) gsNil))) (sSeq (sDrop (mMeth fExtend (mVar 3) (aCons (mLc [6, 7] (iSeq (mCall (fn__law_used 64) (aCons (mBin oIx (mVar 5) (mC (.p (.int 2)))) aNil))) (gT 2 (gsCons (gN 6) (gsCons (gN 7) gsNil))) tYes1 (mTup (aCons (mVar 6) (aCons (mVar 7) (aCons (mVar 4) aNil))))) aNil))) sNil)
      (l.map fun t => PD.tup [.str t, roomP rs t]) (E16 rs S.length x4 x5 none none none none none none none none none none) (S ++ [.lst (us.map .p)]) = some (.nx (E16 rs S.length y4 y5 none none none none none none none none none none), S ++ [.lst (us'.map .p)]) ∧ UsOk rs us'
  | [], us, x4, x5, _, _, hu => ⟨us, x4, x5, rfl, hu⟩
  | t :: l, us, x4, x5, hl, hz, hu => by
    simp only [List.length_cons] at hz
    have ht := hl t List.mem_cons_self
    obtain ⟨k, d, f, h1, h2⟩ := used_room hb H ht
    have h9 := H.len t ht
    obtain ⟨us', y4, y5, e, hu'⟩ := used_loop hb H hU l (us ++ (U t).map fun p => PD.tup [.str p.1, .int p.2, .str t]) (some (.p (.str t))) (some (.p (roomP rs t))) (fun x hx => hl x (List.mem_cons_of_mem _ hx)) (by simp only [List.length_append, List.length_map]; omega) (fun u hx => by
      rcases List.mem_append.mp hx with hx | hx
      · exact hu u hx
      · obtain ⟨p, hp, rfl⟩ := List.mem_map.mp hx
        exact ⟨p, t, hU t ht p hp, rfl⟩)
    refine ⟨us', y4, y5, ?_, hu'⟩
    have hg : gT 2 (gsCons (gN 4) (gsCons (gN 5) gsNil)) (.p (.tup [.str t, roomP rs t])) (E16 rs S.length x4 x5 none none none none none none none none none none) = some (E16 rs S.length (some (.p (.str t))) (some (.p (roomP rs t))) none none none none none none none none none none) := rfl
    have hm : ∀ S', mLc [6, 7] (iSeq (mCall (fn__law_used 64) (aCons (mBin oIx (mVar 5) (mC (.p (.int 2)))) aNil))) (gT 2 (gsCons (gN 6) (gsCons (gN 7) gsNil))) tYes1 (mTup (aCons (mVar 6) (aCons (mVar 7) (aCons (mVar 4) aNil)))) (E16 rs S.length (some (.p (.str t))) (some (.p (roomP rs t))) none none none none none none none none none none) S' =
        some (.p (.lst ((U t).map fun p => PD.tup [.str p.1, .int p.2, .str t])), S') := fun S' => by
      refine lc2_eq (x := fun p : Str × Nat => PD.tup [.str p.1, .int p.2]) ?_ fun p hp => ⟨E16 rs S.length (some (.p (.str t))) (some (.p (roomP rs t))) (some (.p (.str p.1))) (some (.p (.int p.2))) none none none none none none none none, rfl, tup3 (var_eq rfl) (var_eq rfl) (var_eq rfl)⟩
      unfold iSeq
      rw [bnd_eq (show mCall _ _ _ _ = some (.p (.lst (encN (U t))), S') from (call1_eq (bin_eq (var_eq (d := .p (.tup [.int k, .int d, f])) (by rw [← h1]; rfl)) rfl ix2)).trans (h2 S'))]
      rfl
    have hb' : sSeq (sDrop (mMeth fExtend (mVar 3) (aCons (mLc [6, 7] (iSeq (mCall (fn__law_used 64) (aCons (mBin oIx (mVar 5) (mC (.p (.int 2)))) aNil))) (gT 2 (gsCons (gN 6) (gsCons (gN 7) gsNil))) tYes1 (mTup (aCons (mVar 6) (aCons (mVar 7) (aCons (mVar 4) aNil))))) aNil))) sNil (E16 rs S.length (some (.p (.str t))) (some (.p (roomP rs t))) none none none none none none none none none none) (S ++ [.lst (us.map .p)]) =
        some (.nx (E16 rs S.length (some (.p (.str t))) (some (.p (roomP rs t))) none none none none none none none none none none), S ++ [.lst ((us ++ (U t).map fun p => PD.tup [.str p.1, .int p.2, .str t]).map .p)]) := by
      refine Eq.trans (seq_nx (drop_eq (ext_eq (q := S.length) (xs := us.map .p) (var_eq rfl) (hm _) (by simp) (by simp only [List.length_map]; omega)))) ?_
      have s3 : (S ++ [Cell.lst (us.map .p)]).set S.length (.lst (us.map .p ++ ((U t).map fun p => PD.tup [.str p.1, .int p.2, .str t]).map .p)) = S ++ [Cell.lst ((us ++ (U t).map fun p => PD.tup [.str p.1, .int p.2, .str t]).map .p)] := by
        rw [List.set_append_right _ _ (by omega)]
        simp
      rw [s3]
      rfl
    simp only [List.map_cons]
    unfold fLoop
    simp only [hg, hb']
    exact e
theorem letters_run (hb : Bk rs) {r : Rm} {m N A C Z : Int} (h : PR (fn__law_sizes 64) [.p (RD rs), .p r.f] (.tup [.int N, .int A, .int C, .int Z])) : PR fn__law_letters [.p (RD rs), .p r.f, .p (.int m)] (.int (m + Z)) := by
  unfold fn__law_letters
  refine PR.fn0 rfl fun S => ?_
  show m__law_letters [some (.p (RD rs)), some (.p r.f), some (.p (.int m))] S = _
  unfold m__law_letters
  exact seq_rt (ret_eq (bin_eq (var_eq rfl) (bin_eq ((call_eq (a2_eq (var_eq rfl) (var_eq rfl))).trans (h S)) rfl (ix_n (n := 3) rfl)) oAdd_int))
noncomputable def grBody : MS := sSeq (sAsg (mBin oIx (mVar 2) (mVar 4)) (gT 3 (gsCons (gN 9) (gsCons (gN 10) (gsCons (gN 11) gsNil)))))
  (sSeq (sAsg (mCall (fn__law_sizes 64) (aCons (mVar 2) (aCons (mVar 11) aNil))) (gT 4 (gsCons (gN 12) (gsCons (gN 13) (gsCons (gN 14) (gsCons (gN 15) gsNil))))))
  (sSeq (sIf (mOr (mVal (mBin oGt (mVar 12) (mC (.p (.int 200))))) (mOr (mVal (mBin oGt (mVar 13) (mC (.p (.int 12))))) (mOr (mVal (mBin oGt (mVar 14) (mC (.p (.int 3))))) (mVal (mBin oGt (mCall fn__law_letters (aCons (mVar 2) (aCons (mVar 11) (aCons (mBin oAdd (mVar 9) (mVar 10)) aNil)))) (mC (.p (.int 9)))))))) (sSeq (sRet (mTup (aCons (mC (.p (.str "great"))) (aCons (mVar 4) aNil)))) sNil) sNil)
  sNil))
def SzP (rs : List Rm) (x : PD) : Prop := ∀ r ∈ rs, x = .str r.t → ∃ N A C Z : Int, PR (fn__law_sizes 64) [.p (RD rs), .p r.f] (.tup [.int N, .int A, .int C, .int Z]) ∧ N ≤ 200
theorem gr_step (hb : Bk rs) {n : Nat} {t : Str} (ht : t ∈ namesOf rs) (x5 x6 x7 x8 x9 x10 x11 x12 x13 x14 x15 : Option D) (S : List Cell) :
    (∃ y9 y10 y11 y12 y13 y14 y15 : Option D, grBody (E16 rs n (some (.p (.str t))) x5 x6 x7 x8 x9 x10 x11 x12 x13 x14 x15) S = some (.nx (E16 rs n (some (.p (.str t))) x5 x6 x7 x8 y9 y10 y11 y12 y13 y14 y15), S) ∧ SzP rs (.str t)) ∨ grBody (E16 rs n (some (.p (.str t))) x5 x6 x7 x8 x9 x10 x11 x12 x13 x14 x15) S = some (.rt (.p (.tup [.str "great", .str t])), S) := by
  obtain ⟨r, hr, rfl, er⟩ := room_at hb ht
  obtain ⟨⟨g, N⟩, hnf, hw⟩ := wr_all hb r hr
  obtain ⟨_, _, A, C, Z, w3⟩ := hw 64 (by omega)
  simp only at w3
  have hR : oIx (.p (RD rs)) (.p (.str r.t)) S = some (.p (.tup [.int r.k, .int r.d, r.f]), S) := by
    rw [ix_RD ht, er]
    rfl
  have h1 : ∀ q : MS, sSeq (sAsg (mBin oIx (mVar 2) (mVar 4)) (gT 3 (gsCons (gN 9) (gsCons (gN 10) (gsCons (gN 11) gsNil))))) q (E16 rs n (some (.p (.str r.t))) x5 x6 x7 x8 x9 x10 x11 x12 x13 x14 x15) S = q (E16 rs n (some (.p (.str r.t))) x5 x6 x7 x8 (some (.p (.int r.k))) (some (.p (.int r.d))) (some (.p r.f)) x12 x13 x14 x15) S := fun q =>
    seq_nx (asg_eq' (d := .p (.tup [.int r.k, .int r.d, r.f])) (S1 := S) (bin_eq (var_eq rfl) (var_eq rfl) hR) rfl)
  have h2 : ∀ q : MS, sSeq (sAsg (mCall (fn__law_sizes 64) (aCons (mVar 2) (aCons (mVar 11) aNil))) (gT 4 (gsCons (gN 12) (gsCons (gN 13) (gsCons (gN 14) (gsCons (gN 15) gsNil)))))) q (E16 rs n (some (.p (.str r.t))) x5 x6 x7 x8 (some (.p (.int r.k))) (some (.p (.int r.d))) (some (.p r.f)) x12 x13 x14 x15) S =
      q (E16 rs n (some (.p (.str r.t))) x5 x6 x7 x8 (some (.p (.int r.k))) (some (.p (.int r.d))) (some (.p r.f)) (some (.p (.int (N : Int)))) (some (.p (.int A))) (some (.p (.int C))) (some (.p (.int Z)))) S := fun q =>
    seq_nx (asg_eq' (d := .p (.tup [.int (N : Int), .int A, .int C, .int Z])) (S1 := S) ((call_eq (a2_eq (var_eq rfl) (var_eq rfl))).trans (w3 S)) rfl)
  have ekd : oAdd (.p (.int r.k)) (.p (.int r.d)) S = some (.p (.int ((r.k + r.d : Nat) : Int)), S) := by rw [oAdd_int, Int.natCast_add]
  unfold grBody
  rw [h1, h2]
  have g1 : mVal (mBin oGt (mVar 12) (mC (.p (.int 200)))) (E16 rs n (some (.p (.str r.t))) x5 x6 x7 x8 (some (.p (.int r.k))) (some (.p (.int r.d))) (some (.p r.f)) (some (.p (.int (N : Int)))) (some (.p (.int A))) (some (.p (.int C))) (some (.p (.int Z)))) S = some (decide ((200 : Int) < (N : Int)), S) := val_eq (bin_eq (var_eq rfl) rfl oGt_int)
  have g2 : mVal (mBin oGt (mVar 13) (mC (.p (.int 12)))) (E16 rs n (some (.p (.str r.t))) x5 x6 x7 x8 (some (.p (.int r.k))) (some (.p (.int r.d))) (some (.p r.f)) (some (.p (.int (N : Int)))) (some (.p (.int A))) (some (.p (.int C))) (some (.p (.int Z)))) S = some (decide ((12 : Int) < A), S) := val_eq (bin_eq (var_eq rfl) rfl oGt_int)
  have g3 : mVal (mBin oGt (mVar 14) (mC (.p (.int 3)))) (E16 rs n (some (.p (.str r.t))) x5 x6 x7 x8 (some (.p (.int r.k))) (some (.p (.int r.d))) (some (.p r.f)) (some (.p (.int (N : Int)))) (some (.p (.int A))) (some (.p (.int C))) (some (.p (.int Z)))) S = some (decide ((3 : Int) < C), S) := val_eq (bin_eq (var_eq rfl) rfl oGt_int)
  have g4 : mVal (mBin oGt (mCall fn__law_letters (aCons (mVar 2) (aCons (mVar 11) (aCons (mBin oAdd (mVar 9) (mVar 10)) aNil)))) (mC (.p (.int 9)))) (E16 rs n (some (.p (.str r.t))) x5 x6 x7 x8 (some (.p (.int r.k))) (some (.p (.int r.d))) (some (.p r.f)) (some (.p (.int (N : Int)))) (some (.p (.int A))) (some (.p (.int C))) (some (.p (.int Z)))) S = some (decide ((9 : Int) < ((r.k + r.d : Nat) : Int) + Z), S) :=
    val_eq (bin_eq ((call_eq (a3_eq (var_eq rfl) (var_eq rfl) (bin_eq (var_eq rfl) (var_eq rfl) ekd))).trans (letters_run hb w3 S)) rfl oGt_int)
  have tot : ∃ b : Bool, mOr (mVal (mBin oGt (mVar 12) (mC (.p (.int 200))))) (mOr (mVal (mBin oGt (mVar 13) (mC (.p (.int 12))))) (mOr (mVal (mBin oGt (mVar 14) (mC (.p (.int 3))))) (mVal (mBin oGt (mCall fn__law_letters (aCons (mVar 2) (aCons (mVar 11) (aCons (mBin oAdd (mVar 9) (mVar 10)) aNil)))) (mC (.p (.int 9))))))) (E16 rs n (some (.p (.str r.t))) x5 x6 x7 x8 (some (.p (.int r.k))) (some (.p (.int r.d))) (some (.p r.f)) (some (.p (.int (N : Int)))) (some (.p (.int A))) (some (.p (.int C))) (some (.p (.int Z)))) S = some (b, S) ∧ (b = false → N ≤ 200) := by
    by_cases q1 : (200 : Int) < (N : Int)
    · exact ⟨true, or_t (g1.trans (by rw [decide_eq_true q1])), fun z => nomatch z⟩
    · have k1 := fun {n : MT} => or_f (n := n) (g1.trans (by rw [decide_eq_false q1]))
      have hN : N ≤ 200 := by omega
      rw [k1]
      cases hA : decide ((12 : Int) < A) with
      | true => exact ⟨true, or_t (g2.trans (by rw [hA])), fun z => nomatch z⟩
      | false =>
        rw [or_f (g2.trans (by rw [hA]))]
        cases hC : decide ((3 : Int) < C) with
        | true => exact ⟨true, or_t (g3.trans (by rw [hC])), fun z => nomatch z⟩
        | false =>
          rw [or_f (g3.trans (by rw [hC]))]
          exact ⟨_, g4, fun _ => hN⟩
  obtain ⟨b, hb1, hb2⟩ := tot
  cases b with
  | true => exact .inr (take_if hb1 (seq_rt (ret_eq (tup2 rfl (var_eq rfl)))))
  | false =>
    refine .inl ⟨_, _, _, _, _, _, _, (skip_if hb1).trans rfl, fun q hq e => ?_⟩
    have et : q.t = r.t := (PD.str.inj e).symm
    have eq : q.pd = r.pd := by rw [← roomP_eq hb hq, ← roomP_eq hb hr, et]
    have ef : q.f = r.f := by
      simp only [Rm.pd, PD.tup.injEq, List.cons.injEq] at eq
      exact eq.2.2.1
    rw [ef]
    exact ⟨N, A, C, Z, w3, by have := hb2 rfl; omega⟩
end
end Pt
set_option maxRecDepth 100000
set_option maxHeartbeats 4000000
/-! Q24: _law_breach as a whole. -/
namespace Pt
open PySem PySem.Spec PyProof.Rows L2
theorem isnone_t {i : Nat} {E : Vr} {S : List Cell} {y : PD} (h : E[i]? = some (some (.p y))) : ∃ b, mVal (mBin (oIs true) (mVar i) (mC (.p .non))) E S = some (b, S) ∧ (b = false → y = .non) ∧ (y = .non → b = false) := by
  cases y with
  | non => exact ⟨false, val_eq (bin_eq (var_eq h) rfl rfl), fun _ => rfl, fun _ => rfl⟩
  | bl b => exact ⟨true, val_eq (bin_eq (var_eq h) rfl rfl), (fun z => nomatch z), (fun z => nomatch z)⟩
  | int b => exact ⟨true, val_eq (bin_eq (var_eq h) rfl rfl), (fun z => nomatch z), (fun z => nomatch z)⟩
  | str b => exact ⟨true, val_eq (bin_eq (var_eq h) rfl rfl), (fun z => nomatch z), (fun z => nomatch z)⟩
  | tup b => exact ⟨true, val_eq (bin_eq (var_eq h) rfl rfl), (fun z => nomatch z), (fun z => nomatch z)⟩
  | lst b => exact ⟨true, val_eq (bin_eq (var_eq h) rfl rfl), (fun z => nomatch z), (fun z => nomatch z)⟩
  | dct b => exact ⟨true, val_eq (bin_eq (var_eq h) rfl rfl), (fun z => nomatch z), (fun z => nomatch z)⟩
  | scr b => exact ⟨true, val_eq (bin_eq (var_eq h) rfl rfl), (fun z => nomatch z), (fun z => nomatch z)⟩
  | tpl b => exact ⟨true, val_eq (bin_eq (var_eq h) rfl rfl), (fun z => nomatch z), (fun z => nomatch z)⟩
  | exc b c => exact ⟨true, val_eq (bin_eq (var_eq h) rfl rfl), (fun z => nomatch z), (fun z => nomatch z)⟩
theorem ne_nil0 {i : Nat} {E : Vr} {S : List Cell} (h : E[i]? = some (some (.p (.lst [])))) : mVal (mBin (oEq true) (mVar i) (mLst aNil)) E S = some (false, S) := ne_nil h
theorem a2s_eq {a b : ME} {E : Vr} {S S1 S2 : List Cell} {x y : D} (h1 : a E S = some (x, S1)) (h2 : b E S1 = some (y, S2)) : aCons a (aCons b aNil) E S = some ([x, y], S2) := by
  simp only [aCons, aNil, bnd, ret, h1, h2]
theorem ex_T {A : Option (Fl × List Cell)} {S : List Cell} {Q : PD → Prop} (T : List Cell) (h : ∃ y, A = some (.rt (.p y), S ++ T) ∧ Q y) : ∃ y T, A = some (.rt (.p y), S ++ T) ∧ Q y :=
  let ⟨y, h⟩ := h
  ⟨y, T, h⟩
theorem ex_seq {A B : Option (Fl × List Cell)} {R : PD → Option (Fl × List Cell)} {Q : PD → Prop} (h : A = B) (hx : ∃ y, B = R y ∧ Q y) : ∃ y, A = R y ∧ Q y := by
  rw [h]
  exact hx
theorem breach_run {rs : List Rm} (hb : Bk rs) (S : List Cell) : ∃ y, fn__law_breach [.p (bookOf rs)] S = some (.p y, S) ∧ (y = .non → SzOk rs) := by
  obtain ⟨U, H, hU⟩ := hu_of hb
  have hl8 := names_len hb
  suffices hx : ∃ y T, m__law_breach [some (.p (bookOf rs)), none, none, none, none, none, none, none, none, none, none, none, none, none, none, none] S = some (.rt (.p y), S ++ T) ∧ (y = .non → SzOk rs) by
    obtain ⟨y, T, h1, h2⟩ := hx
    refine ⟨y, ?_, h2⟩
    unfold fn__law_breach
    exact fnM_p T rfl h1
  obtain ⟨y0, hy0⟩ := place_run hb S
  unfold m__law_breach
  have s1 : ∀ q : MS, sSeq (sAsg (mCall fn__law_form_place (aCons (mVar 0) aNil)) (gN 1)) q [some (.p (bookOf rs)), none, none, none, none, none, none, none, none, none, none, none, none, none, none, none] S = q [some (.p (bookOf rs)), some (.p y0), none, none, none, none, none, none, none, none, none, none, none, none, none, none] S := fun q =>
    seq_nx (asg_eq ((call1_eq (var_eq rfl)).trans hy0))
  rw [s1]
  obtain ⟨b0, hb0, hy1, _⟩ := isnone_t (i := 1) (E := [some (.p (bookOf rs)), some (.p y0), none, none, none, none, none, none, none, none, none, none, none, none, none, none]) (S := S) (y := y0) rfl
  cases b0 with
  | true =>
    refine ⟨.tup [.str "form", y0], [], ?_, fun z => nomatch z⟩
    rw [List.append_nil]
    exact take_if hb0 (seq_rt (ret_eq (tup2 rfl (var_eq rfl))))
  | false =>
    obtain rfl := hy1 rfl
    rw [skip_if hb0]
    have s2 : ∀ q : MS, sSeq (sUnp (aCons (mCall oDictP (aCons (mVar 0) aNil)) (aCons (mLstR aNil) aNil)) 2 (gsCons (gN 2) (gsCons (gN 3) gsNil))) q [some (.p (bookOf rs)), some (.p .non), none, none, none, none, none, none, none, none, none, none, none, none, none, none] S =
        q (E16 rs S.length none none none none none none none none none none none none) (S ++ [.lst []]) := fun q => by
      refine seq_nx ?_
      have h1 : mCall oDictP (aCons (mVar 0) aNil) [some (.p (bookOf rs)), some (.p .non), none, none, none, none, none, none, none, none, none, none, none, none, none, none] S = some (.p (RD rs), S) := (call1_eq (var_eq rfl)).trans (dict_run hb)
      have h2 : mLstR aNil [some (.p (bookOf rs)), some (.p .non), none, none, none, none, none, none, none, none, none, none, none, none, none, none] S = some (.ref S.length, S ++ [.lst []]) := rfl
      unfold sUnp
      exact (bnd_eq (a2s_eq h1 h2)).trans rfl
    rw [s2]
    obtain ⟨us, y4, y5, e, hu⟩ := used_loop (S := S) hb H hU (namesOf rs) [] none none (fun t ht => ht) (by simp only [List.length_nil]; omega) (fun u hu => nomatch hu)
    generalize hS' : S ++ [Cell.lst (us.map .p)] = S' at e
    have hc : S'[S.length]? = some (.lst (us.map .p)) := by rw [← hS']; simp
    refine ex_T [.lst (us.map .p)] ?_
    rw [hS']
    refine ex_seq (seq_nx (E1 := E16 rs S.length y4 y5 none none none none none none none none none none) (S1 := S') ((show sFor _ _ _ _ _ = _ from bnd_eq (sl_var_seq (l := (namesOf rs).map fun t => PD.tup [.str t, roomP rs t]) (var_eq rfl))).trans e)) ?_
    -- names that stand nowhere
    have l1 : mCall oSorted (aCons (mLcV [6, 7, 4] (mVar 3) (gT 3 (gsCons (gN 6) (gsCons (gN 7) (gsCons (gN 4) gsNil)))) (mVal (mBin (oIn true) (mVar 6) (mVar 2))) (mVar 6)) aNil) (E16 rs S.length y4 y5 none none none none none none none none none none) S' = some (.p (.lst []), S') := by
      refine (call1_eq (lcV_none (n := S.length) (us := us) (var_eq rfl) hc fun u hu' => ?_)).trans sorted_nil
      obtain ⟨p, t, hp, rfl⟩ := hu u hu'
      refine ⟨E16 rs S.length (some (.p (.str t))) y5 (some (.p (.str p.1))) (some (.p (.int p.2))) none none none none none none none none, rfl, val_eq (bin_eq (var_eq rfl) (var_eq rfl) (in_RD.trans ?_))⟩
      have : p.1 ∈ namesOf rs := by
        obtain ⟨r, hr, rfl⟩ := List.mem_map.mp hp
        exact names_mem.mpr (List.mem_map.mpr ⟨r, hr, rfl⟩)
      simp [this]
    refine ex_seq (Eq.trans (seq_nx (asg_eq l1)) (skip_if (ne_nil0 rfl))) ?_
    -- numbers of forms
    have l2 : mCall oSorted (aCons (mLcV [6, 7, 4] (mVar 3) (gT 3 (gsCons (gN 6) (gsCons (gN 7) (gsCons (gN 4) gsNil)))) (mVal (mBin (oEq true) (mVar 7) (mBin oAdd (mBin oIx (mBin oIx (mVar 2) (mVar 6)) (mC (.p (.int 0)))) (mBin oIx (mBin oIx (mVar 2) (mVar 6)) (mC (.p (.int 1))))))) (mVar 4)) aNil) (E16 rs S.length y4 y5 none none (some (.p (.lst []))) none none none none none none none) S' = some (.p (.lst []), S') := by
      refine (call1_eq (lcV_none (n := S.length) (us := us) (var_eq rfl) hc fun u hu' => ?_)).trans sorted_nil
      obtain ⟨p, t, hp, rfl⟩ := hu u hu'
      obtain ⟨r, hr, rfl⟩ := List.mem_map.mp hp
      have hm : r.t ∈ namesOf rs := names_mem.mpr (List.mem_map.mpr ⟨r, hr, rfl⟩)
      have hR : oIx (.p (RD rs)) (.p (.str r.t)) S' = some (.p (.tup [.int r.k, .int r.d, r.f]), S') := by
        rw [ix_RD hm, roomP_eq hb hr]
        rfl
      refine ⟨E16 rs S.length (some (.p (.str t))) y5 (some (.p (.str r.t))) (some (.p (.int ((r.k + r.d : Nat) : Int)))) (some (.p (.lst []))) none none none none none none none, rfl, ?_⟩
      refine val_eq (bin_eq (var_eq rfl) (bin_eq (bin_eq (bin_eq (var_eq rfl) (var_eq rfl) hR) rfl ix0) (bin_eq (bin_eq (var_eq rfl) (var_eq rfl) hR) rfl ix1) oAdd_int) (oEq_int.trans ?_))
      simp
    refine ex_seq (Eq.trans (seq_nx (asg_eq l2)) (skip_if (ne_nil0 rfl))) ?_
    -- rings
    have hso : mCall oSorted (aCons (mVar 2) aNil) = mCall oSorted (aCons (mVar 2) aNil) := rfl
    have hmem : ∀ x ∈ (sortS (namesOf rs)).map PD.str, ∃ t ∈ namesOf rs, x = .str t := fun x hx => by
      obtain ⟨t, ht, rfl⟩ := List.mem_map.mp hx
      exact ⟨t, mem_sortS.mp ht, rfl⟩
    obtain ⟨ys, q1, q2⟩ := lc_sub (j := 4) (P := fun y => ∃ t ∈ namesOf rs, y = .str t) (tt := mVal (mBin (oIn false) (mVar 4) (mCall fn__law_hangs (aCons (mVar 2) (aCons (mVar 4) aNil))))) (te := mVar 4) (S := S') (E := wipeE (E16 rs S.length y4 y5 none none (some (.p (.lst []))) none none none none none none none) [4]) ((sortS (namesOf rs)).map PD.str) []
      (fun x hx => by
        obtain ⟨t, ht, rfl⟩ := hmem x hx
        obtain ⟨l, _, _, g3, _⟩ := hangs_both H ht
        refine ⟨decide (t ∈ l) != false, val_eq (bin_eq (x := .p (.str t)) (S1 := S') rfl ((call_eq (a2_eq (x := .p (RD rs)) (y := .p (.str t)) rfl rfl)).trans (g3 S')) (in_strs rfl)), fun _ => ⟨.str t, rfl, t, ht, rfl⟩⟩)
    rw [List.nil_append] at q1
    have l3 : mLc [4] (iSeq (mCall oSorted (aCons (mVar 2) aNil))) (gN 4) (mVal (mBin (oIn false) (mVar 4) (mCall fn__law_hangs (aCons (mVar 2) (aCons (mVar 4) aNil))))) (mVar 4) (E16 rs S.length y4 y5 none none (some (.p (.lst []))) none none none none none none none) S' = some (.p (.lst ys), S') := by
      refine mLc_eq (Eq.trans (bnd_eq (a := (sortS (namesOf rs)).map PD.str) (S1 := S') ?_) q1)
      unfold iSeq
      rw [bnd_eq ((call1_eq (var_eq rfl)).trans (sorted_RD hb))]
    have hne := ne_nil (i := 8) (E := E16 rs S.length y4 y5 none none (some (.p (.lst ys))) none none none none none none none) (S := S') (l := ys) rfl
    cases ys with
    | cons y ys =>
      refine ⟨.tup [.str "ring", y], ?_, fun z => nomatch z⟩
      refine Eq.trans (seq_nx (asg_eq l3)) (take_if hne (seq_rt (ret_eq (tup2 rfl (bin_eq (var_eq rfl) rfl ?_)))))
      have : atI (y :: ys) 0 = some y := atI_nat (n := 0) rfl
      simp [oIx, oIxSeq, seqOf, view, this]
    | nil =>
      refine ex_seq (Eq.trans (seq_nx (asg_eq l3)) (skip_if hne)) ?_
      -- too great
      have hq : ∀ E : Vr, E[2]? = some (some (.p (RD rs))) → iSeq (mCall oSorted (aCons (mVar 2) aNil)) E S' = some ((sortS (namesOf rs)).map PD.str, S') := fun E hE => by
        unfold iSeq
        rw [bnd_eq ((call1_eq (var_eq hE)).trans (sorted_RD hb))]
      have key := fLoop_two (t := gN 4) (mb := grBody) (I := fun E S2 => S2 = S' ∧ ∃ x4 x5 x6 x7 x8 x9 x10 x11 x12 x13 x14 x15 : Option D, E = E16 rs S.length x4 x5 x6 x7 x8 x9 x10 x11 x12 x13 x14 x15) (Rt := fun d S2 => S2 = S' ∧ ∃ l, d = .p (.tup l)) (P := SzP rs) ((sortS (namesOf rs)).map PD.str)
        (fun x hx E S2 ⟨hS, x4, x5, x6, x7, x8, x9, x10, x11, x12, x13, x14, x15, hE⟩ => by
          subst hE
          subst hS
          obtain ⟨t, ht, rfl⟩ := hmem x hx
          refine ⟨E16 rs S.length (some (.p (.str t))) x5 x6 x7 x8 x9 x10 x11 x12 x13 x14 x15, rfl, ?_⟩
          rcases gr_step hb (n := S.length) ht x5 x6 x7 x8 x9 x10 x11 x12 x13 x14 x15 S2 with ⟨y9, y10, y11, y12, y13, y14, y15, g1, g2⟩ | g1
          · exact .inl ⟨_, S2, g1, ⟨rfl, _, _, _, _, _, _, _, _, _, _, _, _, rfl⟩, g2⟩
          · exact .inr ⟨_, S2, g1, rfl, _, rfl⟩)
        (E16 rs S.length y4 y5 none none (some (.p (.lst []))) none none none none none none none) S' ⟨rfl, _, _, _, _, _, _, _, _, _, _, _, _, rfl⟩
      rcases key with ⟨E2, S2, g1, ⟨rfl, _⟩, g3⟩ | ⟨d, S2, g1, rfl, l, rfl⟩
      · refine ⟨.non, Eq.trans (seq_nx (E1 := E2) (S1 := S2) ((show sFor _ _ _ _ _ = _ from bnd_eq (hq _ rfl)).trans g1)) rfl, fun _ r hr => ?_⟩
        exact g3 (.str r.t) (List.mem_map.mpr ⟨r.t, mem_sortS.mpr (names_mem.mpr (List.mem_map.mpr ⟨r, hr, rfl⟩)), rfl⟩) r hr rfl
      · exact ⟨.tup l, seq_rt ((show sFor _ _ _ _ _ = _ from bnd_eq (hq _ rfl)).trans g1), fun z => nomatch z⟩
end Pt
set_option maxRecDepth 100000
set_option maxHeartbeats 4000000
/-! Q25: the plain law of k92. -/
namespace Pt
open PySem PySem.Spec PyProof.Rows L2
theorem isnone_m {m : ME} {E : Vr} {S S1 : List Cell} {y : PD} (h : m E S = some (.p y, S1)) : ∃ b, mVal (mBin (oIs true) m (mC (.p .non))) E S = some (b, S1) ∧ (b = false → y = .non) := by
  obtain ⟨b, h1, h2, _⟩ := isnone_t (i := 0) (E := [some (.p y)]) (S := S1) (y := y) rfl
  refine ⟨b, ?_, h2⟩
  have e : mVal (mBin (oIs true) m (mC (.p .non))) E S = mVal (mBin (oIs true) (mVar 0) (mC (.p .non))) [some (.p y)] S1 := by
    unfold mVal mBin
    unfold bnd
    simp only [h]
    rfl
  rw [e]
  exact h1
section
variable {sc : PD} {i : Nat}
noncomputable def reBody : MS := sSeq (sIf (mVal (mBin (oIs true) (mCall fn__law_breach (aCons (mVar 3) aNil)) (mC (.p .non)))) (sSeq (sAsg (mCall fn__law_book (aCons (mVar 2) (aCons (mBin oSub (mC (.p (.int 6))) (mBin oFdiv (mVar 4) (mC (.p (.int 2))))) aNil))) (gN 3)) sNil) sNil) sNil
theorem re_loop {x1 x5 : Option D} : ∀ (xs : List PD) (n : Nat) (S : List Cell) (rs : List Rm) (x4 : Option D), (∀ x ∈ xs, ∃ j : Nat, j < 8 ∧ x = .int (0 + (j : Int))) → Bk rs → i < S.length → Dn n S i → n + 224042 * xs.length < 1000000000 →
    ∃ rs' y4 S', fLoop (gN 4) reBody xs [some (.p sc), x1, some (.ref i), some (.p (bookOf rs)), x4, x5] S = some (.nx [some (.p sc), x1, some (.ref i), some (.p (bookOf rs')), y4, x5], S') ∧ Bk rs'
  | [], n, S, rs, x4, _, hb, _, _, _ => ⟨rs, x4, S, rfl, hb⟩
  | x :: xs, n, S, rs, x4, hx, hb, hi, hd, hn => by
    simp only [List.length_cons] at hn
    obtain ⟨j, hj, rfl⟩ := hx x List.mem_cons_self
    have hx' := fun y hy => hx y (List.mem_cons_of_mem _ hy)
    obtain ⟨y, h1, _⟩ := breach_run hb S
    obtain ⟨b, h2, _⟩ := isnone_m (m := mCall fn__law_breach (aCons (mVar 3) aNil)) (E := [some (.p sc), x1, some (.ref i), some (.p (bookOf rs)), some (.p (.int (0 + (j : Int)))), x5]) (S := S) (S1 := S) (y := y) ((call1_eq (var_eq rfl)).trans h1)
    cases b with
    | false =>
      obtain ⟨rs', y4, S', e, hb'⟩ := re_loop (x1 := x1) (x5 := x5) xs n S rs (some (.p (.int (0 + (j : Int))))) hx' hb hi hd (by omega)
      refine ⟨rs', y4, S', ?_, hb'⟩
      have hbd : reBody [some (.p sc), x1, some (.ref i), some (.p (bookOf rs)), some (.p (.int (0 + (j : Int)))), x5] S = some (.nx [some (.p sc), x1, some (.ref i), some (.p (bookOf rs)), some (.p (.int (0 + (j : Int)))), x5], S) := by
        unfold reBody
        exact (skip_if h2).trans rfl
      have hg : gN 4 (.p (.int (0 + (j : Int)))) [some (.p sc), x1, some (.ref i), some (.p (bookOf rs)), x4, x5] = some [some (.p sc), x1, some (.ref i), some (.p (bookOf rs)), some (.p (.int (0 + (j : Int)))), x5] := rfl
      unfold fLoop
      simp only [hg, hbd]
      exact e
    | true =>
      have hk1 : 224042 * 1 ≤ 224042 * (xs.length + 1) := Nat.mul_le_mul_left _ (Nat.le_add_left 1 _)
      have hk0 : n + 224042 < 1000000000 := Nat.lt_of_le_of_lt (Nat.add_le_add_left hk1 n) hn
      have hc0 : 0 ≤ 6 - (0 + (j : Int)) / 2 := by omega
      have hc1 : 6 - (0 + (j : Int)) / 2 ≤ 14 := by omega
      obtain ⟨rs1, S1, b1, b2, b3, b4⟩ := book_run (i := i) (n := n) (S := S) (c := 6 - (0 + (j : Int)) / 2) hi hc0 hc1 hd hk0
      have hi1 : i < S1.length := by rw [b3.len]; exact hi
      obtain ⟨rs', y4, S', e, hb'⟩ := re_loop (x1 := x1) (x5 := x5) xs (n + 224042) S1 rs1 (some (.p (.int (0 + (j : Int))))) hx' b2 hi1 b4 (by omega)
      refine ⟨rs', y4, S', ?_, hb'⟩
      have hbd : reBody [some (.p sc), x1, some (.ref i), some (.p (bookOf rs)), some (.p (.int (0 + (j : Int)))), x5] S = some (.nx [some (.p sc), x1, some (.ref i), some (.p (bookOf rs1)), some (.p (.int (0 + (j : Int)))), x5], S1) := by
        unfold reBody
        refine (seq_nx (E1 := [some (.p sc), x1, some (.ref i), some (.p (bookOf rs1)), some (.p (.int (0 + (j : Int)))), x5]) (S1 := S1) ?_).trans rfl
        rw [if_t h2]
        have hdiv : oFdiv (.p (.int (0 + (j : Int)))) (.p (.int 2)) S = some (.p (.int ((0 + (j : Int)) / 2)), S) := oFdiv_int (by omega) (by decide +kernel)
        exact (seq_nx (asg_eq ((call_eq (a2_eq (var_eq rfl) (bin_eq (x := .p (.int 6)) (S1 := S) rfl (bin_eq (y := .p (.int 2)) (S2 := S) (var_eq rfl) rfl hdiv) oSub_int))).trans b1))).trans rfl
      have hg : gN 4 (.p (.int (0 + (j : Int)))) [some (.p sc), x1, some (.ref i), some (.p (bookOf rs)), x4, x5] = some [some (.p sc), x1, some (.ref i), some (.p (bookOf rs)), some (.p (.int (0 + (j : Int)))), x5] := rfl
      unfold fLoop
      simp only [hg, hbd]
      exact e
end
theorem book_nil : bookOf [] = .tup [] := by simp [bookOf, sortS]
noncomputable def turnBody : MS := (sSeq (sAsg (mCall fn__law_begun (aCons (mVar 0) (aCons (mVar 1) aNil))) (gN 2))
  (sSeq (sAsg (mCall fn__law_book (aCons (mVar 2) (aCons (mCall fn__law_draw (aCons (mVar 2) (aCons (mC (.p (.int 14))) aNil))) aNil))) (gN 3))
  (sSeq (sFor (iRange1 (aCons (mC (.p (.int 8))) aNil)) (gN 4) reBody)
  (sSeq (sIf (mVal (mBin (oIs true) (mCall fn__law_breach (aCons (mVar 3) aNil)) (mC (.p .non)))) (sSeq (sAsg (mTup aNil) (gN 3))
  sNil) sNil)
  (sSeq (sIf (mNot (mVal (mCall fn__law_right (aCons (mVar 3) aNil)))) (sSeq (sRet (mC (.p (.bl false))))
  sNil) sNil)
  (sSeq (sFor (iSeq (mLst (aCons (mC (.p (.str "q"))) (aCons (mC (.p (.str ""))) (aCons (mC (.p (.str "A"))) (aCons (mC (.p (.int 7))) (aCons (mC (.p .non)) (aCons (mTup aNil) (aCons (mC (.p (.bl true))) (aCons (mC (.p (.str "aa"))) (aCons (mLst aNil) (aCons (mC (.p (.dct []))) (aCons (mTup (aCons (mLst aNil) aNil)) (aCons (mLst (aCons (mC (.p (.str "a"))) aNil)) aNil)))))))))))))) (gN 5) (sSeq (sIf (mNot (mVal (mCall fn__law_unnamed (aCons (mVar 3) (aCons (mVar 5) aNil))))) (sSeq (sRet (mC (.p (.bl false))))
  sNil) sNil)
  sNil))
  sNil))))))
theorem turn_run {ns : List Int} (hl : ns.length ≤ 63) (hz : ∀ z ∈ ns, Builtin.Int.intBits z ≤ 1048576) {k : Nat} (hk : k ≤ 9) (x2 x3 x4 x5 : Option D) (S : List Cell) :
    ∃ y2 y3 y4 y5 S', turnBody [some (.p (.scr ns)), some (.p (.int (0 + (k : Int)))), x2, x3, x4, x5] S = some (.nx [some (.p (.scr ns)), some (.p (.int (0 + (k : Int)))), y2, y3, y4, y5], S') := by
  obtain ⟨c, h1, d1⟩ := begun_run (S := S) hl hz (k := 0 + (k : Int)) (by omega) (by omega)
  have i1 : S.length < (S ++ [c]).length := by simp
  obtain ⟨v, S2, h2, ⟨v', rfl, v0, v1⟩, s2, d2⟩ := drw_draw (i := S.length) (b := 14) (by decide) (by decide) 0 (S ++ [c]) d1 (by omega)
  have i2 : S.length < S2.length := by rw [s2.len]; exact i1
  obtain ⟨rs, S3, h3, hb, s3, d3⟩ := book_run (i := S.length) (n := 0 + 1) (S := S2) (c := v') i2 v0 (by omega) d2 (by omega)
  have i3 : S.length < S3.length := by rw [s3.len]; exact i2
  obtain ⟨rs', y4, S4, h4, hb'⟩ := re_loop (sc := .scr ns) (i := S.length) (x1 := some (.p (.int (0 + (k : Int))))) (x5 := x5) (rgInts 0 8) (0 + 1 + 224042) S3 rs x4 (fun x hx => by
    obtain ⟨j, hj, rfl⟩ := List.mem_map.mp hx
    exact ⟨j, by simpa using hj, rfl⟩) hb i3 d3 (by rw [rgInts_len]; omega)
  -- the book at last
  obtain ⟨y, h5, hsz⟩ := breach_run hb' S4
  obtain ⟨b, h6, h7⟩ := isnone_m (m := mCall fn__law_breach (aCons (mVar 3) aNil)) (E := [some (.p (.scr ns)), some (.p (.int (0 + (k : Int)))), some (.ref S.length), some (.p (bookOf rs')), y4, x5]) (S := S4) (S1 := S4) (y := y) ((call1_eq (var_eq rfl)).trans h5)
  have h8 : ∃ rq, Bk rq ∧ SzOk rq ∧ sIf (mVal (mBin (oIs true) (mCall fn__law_breach (aCons (mVar 3) aNil)) (mC (.p .non)))) (sSeq (sAsg (mTup aNil) (gN 3)) sNil) sNil [some (.p (.scr ns)), some (.p (.int (0 + (k : Int)))), some (.ref S.length), some (.p (bookOf rs')), y4, x5] S4 =
      some (.nx [some (.p (.scr ns)), some (.p (.int (0 + (k : Int)))), some (.ref S.length), some (.p (bookOf rq)), y4, x5], S4) := by
    cases b with
    | true =>
      refine ⟨[], .nil, fun r hr => (nomatch hr), ?_⟩
      rw [if_t h6, book_nil]
      rfl
    | false =>
      refine ⟨rs', hb', hsz (h7 rfl), ?_⟩
      rw [if_f h6]
      rfl
  obtain ⟨rq, hq, hqs, h8⟩ := h8
  have hun := unnamed_all hq
  obtain ⟨E9, S9, h9, ⟨rfl, y5, rfl⟩⟩ := fLoop_inv (t := gN 5) (mb := sSeq (sIf (mNot (mVal (mCall fn__law_unnamed (aCons (mVar 3) (aCons (mVar 5) aNil))))) (sSeq (sRet (mC (.p (.bl false)))) sNil) sNil) sNil)
    (I := fun E S' => S' = S4 ∧ ∃ y5 : Option D, E = [some (.p (.scr ns)), some (.p (.int (0 + (k : Int)))), some (.ref S.length), some (.p (bookOf rq)), y4, y5]) badNames
    (fun x hx E S' ⟨hS, y5, hE⟩ => by
      subst hE
      subst hS
      refine ⟨[some (.p (.scr ns)), some (.p (.int (0 + (k : Int)))), some (.ref S.length), some (.p (bookOf rq)), y4, some (.p x)], [some (.p (.scr ns)), some (.p (.int (0 + (k : Int)))), some (.ref S.length), some (.p (bookOf rq)), y4, some (.p x)], S', rfl, ?_, rfl, _, rfl⟩
      exact (skip_if (not_eq (val_eq ((call_eq (a2_eq (var_eq rfl) (var_eq rfl))).trans (hun x hx S'))))).trans rfl)
    [some (.p (.scr ns)), some (.p (.int (0 + (k : Int)))), some (.ref S.length), some (.p (bookOf rq)), y4, x5] S4 ⟨rfl, _, rfl⟩
  refine ⟨some (.ref S.length), some (.p (bookOf rq)), y4, y5, S9, ?_⟩
  unfold turnBody
  refine Eq.trans (seq_nx (asg_eq ((call_eq (a2_eq (var_eq rfl) (var_eq rfl))).trans h1))) ?_
  refine Eq.trans (seq_nx (asg_eq (d := .p (bookOf rs)) (S1 := S3) ((call_eq (a2s_eq (var_eq rfl) ((call_eq (a2_eq (var_eq rfl) rfl)).trans h2))).trans h3))) ?_
  refine Eq.trans (seq_nx (E1 := [some (.p (.scr ns)), some (.p (.int (0 + (k : Int)))), some (.ref S.length), some (.p (bookOf rs')), y4, x5]) (S1 := S9) ?_) ?_
  · unfold sFor
    refine Eq.trans (bnd_eq (a := rgInts 0 8) (S1 := S3) rfl) h4
  refine Eq.trans (seq_nx h8) ?_
  refine Eq.trans (skip_if (not_eq (val_eq ((call1_eq (var_eq rfl)).trans (right_run hq hqs S9))))) ?_
  refine Eq.trans (seq_nx (E1 := [some (.p (.scr ns)), some (.p (.int (0 + (k : Int)))), some (.ref S.length), some (.p (bookOf rq)), y4, y5]) (S1 := S9) ?_) rfl
  unfold sFor
  exact Eq.trans (bnd_eq (a := badNames) (S1 := S9) rfl) h9
theorem q_law (ns : List Int) (h : ns.length ≤ 63) (hb : ∀ z ∈ ns, PySem.Builtin.Int.intBits z ≤ 1048576) : ∃ S', fn_law [.p (.scr ns)] [] = some (.p (.bl true), S') := by
  refine ⟨[], ?_⟩
  unfold fn_law
  have hN : ∃ N : Nat, N ≤ 7 ∧ ∀ S, iRange1 (aCons (mCall oMax2 (aCons (mC (.p (.int 4))) (aCons (mCall oMin2 (aCons (mCall oLen (aCons (mVar 0) aNil)) (aCons (mC (.p (.int 7))) aNil))) aNil))) aNil) [some (.p (.scr ns)), none, none, none, none, none] S = some (rgInts 0 N, S) := by
    refine ⟨(if (if (7 : Int) < ((ns.map PD.int).length : Int) then (7 : Int) else ((ns.map PD.int).length : Int)) > 4 then (if (7 : Int) < ((ns.map PD.int).length : Int) then (7 : Int) else ((ns.map PD.int).length : Int)) else 4).toNat, ?_, fun S => ?_⟩
    · split <;> split <;> omega
    · have h1 : mCall oLen (aCons (mVar 0) aNil) [some (.p (.scr ns)), none, none, none, none, none] S = some (.p (.int ((ns.map PD.int).length : Int)), S) := (call1_eq (var_eq rfl)).trans rfl
      have h2 := (call_eq (o := oMin2) (a2_eq h1 (show mC (.p (.int 7)) [some (.p (.scr ns)), none, none, none, none, none] S = some (.p (.int 7), S) from rfl))).trans rfl
      have h3 := (call_eq (o := oMax2) (a2_eq (show mC (.p (.int 4)) [some (.p (.scr ns)), none, none, none, none, none] S = some (.p (.int 4), S) from rfl) h2)).trans rfl
      unfold iRange1
      rw [bnd_eq (a1_eq h3)]
      have q : -100000 ≤ (if (if (7 : Int) < ((ns.map PD.int).length : Int) then (7 : Int) else ((ns.map PD.int).length : Int)) > 4 then (if (7 : Int) < ((ns.map PD.int).length : Int) then (7 : Int) else ((ns.map PD.int).length : Int)) else 4) ∧ (if (if (7 : Int) < ((ns.map PD.int).length : Int) then (7 : Int) else ((ns.map PD.int).length : Int)) > 4 then (if (7 : Int) < ((ns.map PD.int).length : Int) then (7 : Int) else ((ns.map PD.int).length : Int)) else 4) ≤ 100000 := by
        split <;> split <;> omega
      simp only [if_pos q]
  obtain ⟨N, hN7, hN⟩ := hN
  obtain ⟨E2, S2, e, _⟩ := fLoop_inv (t := gN 1) (mb := turnBody) (I := fun E S' => ∃ x1 x2 x3 x4 x5 : Option D, E = [some (.p (.scr ns)), x1, x2, x3, x4, x5]) (rgInts 0 N)
    (fun x hx E S' ⟨x1, x2, x3, x4, x5, hE⟩ => by
      subst hE
      obtain ⟨k, hk, rfl⟩ := List.mem_map.mp hx
      have hk' : k < N := by simpa using hk
      obtain ⟨y2, y3, y4, y5, S1, h1⟩ := turn_run h hb (k := k) (by omega) x2 x3 x4 x5 S'
      exact ⟨_, _, S1, rfl, h1, _, _, _, _, _, rfl⟩)
    [some (.p (.scr ns)), none, none, none, none, none] [] ⟨_, _, _, _, _, rfl⟩
  refine fnM_p (T := S2) rfl ?_
  show m_law [some (.p (.scr ns)), none, none, none, none, none] [] = _
  rw [List.nil_append]
  unfold m_law
  refine Eq.trans (seq_nx (E1 := E2) (S1 := S2) ?_) rfl
  unfold sFor
  exact Eq.trans (bnd_eq (hN [])) e
end Pt
open PySem PySem.W PyProof.Rows

set_option maxRecDepth 100000 in
set_option maxHeartbeats 0 in
theorem PySem.Challenge.cw_pointtally_k92_whole_rooms_written_out_holds : PySem.Challenge.rw_pointtally_k92_whole_rooms_written_out.Holds := by
  w_on; o_law; k_head; (case hw => w_witness2)
  k_fill
  refine Pt.walk_G (l := PySem.Challenge.rw_pointtally_k92_whole_rooms_written_out) (n := 63) (k := 136) rfl (by decide +kernel) rfl rfl ⟨⟨rfl, by decide, by decide⟩, fun _ => rfl⟩ (fun w h Y => PySem.W.km_in_of Y) (fun w h Y => PySem.W.km_tabs_of Y 271 (by decide)) ?F
  case F =>
    intro w mg h Y KX G
    refine' Pt.all_mk KX G ?d_form_sum ?d_form_times ?d_put_in ?d_letter ?d_widened ?d_formula_put_in ?d_is_name ?d_uses_of ?d_hung ?d_rooms_with ?d_hangs_on ?d_written ?d_written_out ?d__law_begun ?d__law_draw ?d__law_of ?d__law_like ?d__law_refused ?d__law_is_whole ?d__law_is_form ?d__law_is_name ?d__law_is_formula ?d__law_is_room ?d__law_used ?d__law_hangs ?d__law_sizes ?d__law_letters ?d__law_form_place ?d__law_breach ?d__law_formula ?d__law_book ?d__law_put_form ?d__law_put ?d__law_written ?d__law_unnamed ?d__law_right ?d_law ?rr ?aNN ?aNB ?aTE ?aLE ?aSU ?b_len ?b_int ?b_str ?b_bool ?b_tuple ?b_list ?b_dict ?b_range ?b_zip ?b_sorted ?b_max ?b_min ?b_repr ?b_isinstance ?xL ?sa ?ga ?ggt ?iC ?tC ?kC ?exC ?vC ?sC ?tyC ?hdC ?sup ?op ?nnm ?lI ?cI ?lcc ?lcd ?ca ?cg ?tk ?ob ?iNN ?iNB ?iTE ?tNB ?tTE ?eTE ?s1 ?s2 ?s3 ?pU ?aU ?lU ?lC ?hvs ?hfile ?top0 ?hcU ?hx ?hQ
    case d_form_sum =>
      refine' Pt.DefAt.mk' KX G ?a ?l ?c ?k (fun _ _ _ _ _ _ us hl => match us, hl with | [_, _], _ => rfl)
      (case a => k_is); (case l => k_is); (case c => k_is); (case k => k_is)
    case d_form_times =>
      refine' Pt.DefAt.mk' KX G ?a ?l ?c ?k (fun _ _ _ _ _ _ us hl => match us, hl with | [_, _], _ => rfl)
      (case a => k_is); (case l => k_is); (case c => k_is); (case k => k_is)
    case d_put_in =>
      refine' Pt.DefAt.mk' KX G ?a ?l ?c ?k (fun _ _ _ _ _ _ us hl => match us, hl with | [_, _, _], _ => rfl)
      (case a => k_is); (case l => k_is); (case c => k_is); (case k => k_is)
    case d_letter =>
      refine' Pt.DefAt.mk' KX G ?a ?l ?c ?k (fun _ _ _ _ _ _ us hl => match us, hl with | [_, _], _ => rfl)
      (case a => k_is); (case l => k_is); (case c => k_is); (case k => k_is)
    case d_widened =>
      refine' Pt.DefAt.mk' KX G ?a ?l ?c ?k (fun _ _ _ _ _ _ us hl => match us, hl with | [_, _], _ => rfl)
      (case a => k_is); (case l => k_is); (case c => k_is); (case k => k_is)
    case d_formula_put_in =>
      refine' Pt.DefAt.mk' KX G ?a ?l ?c ?k (fun _ _ _ _ _ _ us hl => match us, hl with | [_, _, _], _ => rfl)
      (case a => k_is); (case l => k_is); (case c => k_is); (case k => k_is)
    case d_is_name =>
      refine' Pt.DefAt.mk' KX G ?a ?l ?c ?k (fun _ _ _ _ _ _ us hl => match us, hl with | [_], _ => rfl)
      (case a => k_is); (case l => k_is); (case c => k_is); (case k => k_is)
    case d_uses_of =>
      refine' Pt.DefAt.mk' KX G ?a ?l ?c ?k (fun _ _ _ _ _ _ us hl => match us, hl with | [_], _ => rfl)
      (case a => k_is); (case l => k_is); (case c => k_is); (case k => k_is)
    case d_hung =>
      refine' Pt.DefAt.mk' KX G ?a ?l ?c ?k (fun _ _ _ _ _ _ us hl => match us, hl with | [_, _], _ => rfl)
      (case a => k_is); (case l => k_is); (case c => k_is); (case k => k_is)
    case d_rooms_with =>
      refine' Pt.DefAt.mk' KX G ?a ?l ?c ?k (fun _ _ _ _ _ _ us hl => match us, hl with | [_, _], _ => rfl)
      (case a => k_is); (case l => k_is); (case c => k_is); (case k => k_is)
    case d_hangs_on =>
      refine' Pt.DefAt.mk' KX G ?a ?l ?c ?k (fun _ _ _ _ _ _ us hl => match us, hl with | [_, _], _ => rfl)
      (case a => k_is); (case l => k_is); (case c => k_is); (case k => k_is)
    case d_written =>
      refine' Pt.DefAt.mk' KX G ?a ?l ?c ?k (fun _ _ _ _ _ _ us hl => match us, hl with | [_, _, _], _ => rfl)
      (case a => k_is); (case l => k_is); (case c => k_is); (case k => k_is)
    case d_written_out =>
      refine' Pt.DefAt.mk' KX G ?a ?l ?c ?k (fun _ _ _ _ _ _ us hl => match us, hl with | [_, _], _ => rfl)
      (case a => k_is); (case l => k_is); (case c => k_is); (case k => k_is)
    case d__law_begun =>
      refine' Pt.DefAt.mk' KX G ?a ?l ?c ?k (fun _ _ _ _ _ _ us hl => match us, hl with | [_, _], _ => rfl)
      (case a => k_is); (case l => k_is); (case c => k_is); (case k => k_is)
    case d__law_draw =>
      refine' Pt.DefAt.mk' KX G ?a ?l ?c ?k (fun _ _ _ _ _ _ us hl => match us, hl with | [_, _], _ => rfl)
      (case a => k_is); (case l => k_is); (case c => k_is); (case k => k_is)
    case d__law_of =>
      refine' Pt.DefAt.mk' KX G ?a ?l ?c ?k (fun _ _ _ _ _ _ us hl => match us, hl with | [_, _], _ => rfl)
      (case a => k_is); (case l => k_is); (case c => k_is); (case k => k_is)
    case d__law_like =>
      refine' Pt.DefAt.mk' KX G ?a ?l ?c ?k (fun _ _ _ _ _ _ us hl => match us, hl with | [_, _], _ => rfl)
      (case a => k_is); (case l => k_is); (case c => k_is); (case k => k_is)
    case d__law_refused =>
      refine' Pt.DefAt.mk' KX G ?a ?l ?c ?k (fun _ _ _ _ _ _ us hl => match us, hl with | [_], _ => rfl)
      (case a => k_is); (case l => k_is); (case c => k_is); (case k => k_is)
    case d__law_is_whole =>
      refine' Pt.DefAt.mk' KX G ?a ?l ?c ?k (fun _ _ _ _ _ _ us hl => match us, hl with | [_], _ => rfl)
      (case a => k_is); (case l => k_is); (case c => k_is); (case k => k_is)
    case d__law_is_form =>
      refine' Pt.DefAt.mk' KX G ?a ?l ?c ?k (fun _ _ _ _ _ _ us hl => match us, hl with | [_, _], _ => rfl)
      (case a => k_is); (case l => k_is); (case c => k_is); (case k => k_is)
    case d__law_is_name =>
      refine' Pt.DefAt.mk' KX G ?a ?l ?c ?k (fun _ _ _ _ _ _ us hl => match us, hl with | [_], _ => rfl)
      (case a => k_is); (case l => k_is); (case c => k_is); (case k => k_is)
    case d__law_is_formula =>
      refine' Pt.DefAt.mk' KX G ?a ?l ?c ?k (fun _ _ _ _ _ _ us hl => match us, hl with | [_, _], _ => rfl)
      (case a => k_is); (case l => k_is); (case c => k_is); (case k => k_is)
    case d__law_is_room =>
      refine' Pt.DefAt.mk' KX G ?a ?l ?c ?k (fun _ _ _ _ _ _ us hl => match us, hl with | [_], _ => rfl)
      (case a => k_is); (case l => k_is); (case c => k_is); (case k => k_is)
    case d__law_used =>
      refine' Pt.DefAt.mk' KX G ?a ?l ?c ?k (fun _ _ _ _ _ _ us hl => match us, hl with | [_], _ => rfl)
      (case a => k_is); (case l => k_is); (case c => k_is); (case k => k_is)
    case d__law_hangs =>
      refine' Pt.DefAt.mk' KX G ?a ?l ?c ?k (fun _ _ _ _ _ _ us hl => match us, hl with | [_, _], _ => rfl)
      (case a => k_is); (case l => k_is); (case c => k_is); (case k => k_is)
    case d__law_sizes =>
      refine' Pt.DefAt.mk' KX G ?a ?l ?c ?k (fun _ _ _ _ _ _ us hl => match us, hl with | [_, _], _ => rfl)
      (case a => k_is); (case l => k_is); (case c => k_is); (case k => k_is)
    case d__law_letters =>
      refine' Pt.DefAt.mk' KX G ?a ?l ?c ?k (fun _ _ _ _ _ _ us hl => match us, hl with | [_, _, _], _ => rfl)
      (case a => k_is); (case l => k_is); (case c => k_is); (case k => k_is)
    case d__law_form_place =>
      refine' Pt.DefAt.mk' KX G ?a ?l ?c ?k (fun _ _ _ _ _ _ us hl => match us, hl with | [_], _ => rfl)
      (case a => k_is); (case l => k_is); (case c => k_is); (case k => k_is)
    case d__law_breach =>
      refine' Pt.DefAt.mk' KX G ?a ?l ?c ?k (fun _ _ _ _ _ _ us hl => match us, hl with | [_], _ => rfl)
      (case a => k_is); (case l => k_is); (case c => k_is); (case k => k_is)
    case d__law_formula =>
      refine' Pt.DefAt.mk' KX G ?a ?l ?c ?k (fun _ _ _ _ _ _ us hl => match us, hl with | [_, _, _, _], _ => rfl)
      (case a => k_is); (case l => k_is); (case c => k_is); (case k => k_is)
    case d__law_book =>
      refine' Pt.DefAt.mk' KX G ?a ?l ?c ?k (fun _ _ _ _ _ _ us hl => match us, hl with | [_, _], _ => rfl)
      (case a => k_is); (case l => k_is); (case c => k_is); (case k => k_is)
    case d__law_put_form =>
      refine' Pt.DefAt.mk' KX G ?a ?l ?c ?k (fun _ _ _ _ _ _ us hl => match us, hl with | [_, _, _], _ => rfl)
      (case a => k_is); (case l => k_is); (case c => k_is); (case k => k_is)
    case d__law_put =>
      refine' Pt.DefAt.mk' KX G ?a ?l ?c ?k (fun _ _ _ _ _ _ us hl => match us, hl with | [_, _, _], _ => rfl)
      (case a => k_is); (case l => k_is); (case c => k_is); (case k => k_is)
    case d__law_written =>
      refine' Pt.DefAt.mk' KX G ?a ?l ?c ?k (fun _ _ _ _ _ _ us hl => match us, hl with | [_, _, _], _ => rfl)
      (case a => k_is); (case l => k_is); (case c => k_is); (case k => k_is)
    case d__law_unnamed =>
      refine' Pt.DefAt.mk' KX G ?a ?l ?c ?k (fun _ _ _ _ _ _ us hl => match us, hl with | [_, _], _ => rfl)
      (case a => k_is); (case l => k_is); (case c => k_is); (case k => k_is)
    case d__law_right =>
      refine' Pt.DefAt.mk' KX G ?a ?l ?c ?k (fun _ _ _ _ _ _ us hl => match us, hl with | [_], _ => rfl)
      (case a => k_is); (case l => k_is); (case c => k_is); (case k => k_is)
    case d_law =>
      refine' Pt.DefAt.mk' KX G ?a ?l ?c ?k (fun _ _ _ _ _ _ us hl => match us, hl with | [_], _ => rfl)
      (case a => k_is); (case l => k_is); (case c => k_is); (case k => k_is)
    case rr =>
      refine' Pt.RefD.mk' KX G ?a ?l ?c ?k
      (case a => k_is); (case l => k_is); (case c => k_is); (case k => k_is)
    (case aNN => k_is)
    (case aNB => k_is)
    (case aTE => k_is)
    (case aLE => k_is)
    (case aSU => k_is)
    (case b_len => k_is)
    (case b_int => k_is)
    (case b_str => k_is)
    (case b_bool => k_is)
    (case b_tuple => k_is)
    (case b_list => k_is)
    (case b_dict => k_is)
    (case b_range => k_is)
    (case b_zip => k_is)
    (case b_sorted => k_is)
    (case b_max => k_is)
    (case b_min => k_is)
    (case b_repr => k_is)
    (case b_isinstance => k_is)
    (case xL => k_is)
    (case sa => k_is)
    (case ga => k_is)
    (case ggt => k_is)
    (case iC => k_is)
    (case tC => k_is)
    (case kC => k_is)
    (case exC => k_is)
    (case vC => k_is)
    (case sC => first | k_is | rfl)
    (case tyC => k_is)
    (case hdC => k_is)
    (case sup => first | ks_is | k_is | rfl)
    (case op => first | k_is | rfl)
    (case nnm => k_is)
    (case lI => k_is)
    (case cI => k_is)
    (case lcc => k_is)
    (case lcd => k_is)
    (case ca => first | k_is | rfl)
    (case cg => first | k_is | rfl)
    (case tk => first | k_is | rfl)
    (case ob => first | k_is | rfl)
    (case iNN => k_is)
    (case iNB => k_is)
    (case iTE => k_is)
    (case tNB => k_is)
    (case tTE => k_is)
    (case eTE => k_is)
    (case s1 => first | k_is | rfl)
    (case s2 => first | k_is | rfl)
    (case s3 => first | k_is | rfl)
    (case pU => first | k_is | rfl)
    (case aU => k_is)
    (case lU => k_is)
    (case lC => k_is)
    (case hvs => rfl); (case hfile => rfl); (case top0 => rfl); (case hcU => rfl); (case hx => first | k_is | rfl)
    case hQ => exact Pt.q_law
