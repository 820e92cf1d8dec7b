import PyProof.Rows.All
import Wide.All
import OpenK.AllK
import Wide.FinOn
import HandS.ForMost
import HandS.ForExc
import HandS.ExcOwn
import HandS.ExcValue
import HandS.WordsExc
import HandS.CallSlots
import HandS.IsInst
import HandS.Conv
import HandS.Flow
import HandS.Deep
import HandS.Defaults
import HandS.HeadHook2
import HandS.TupAny
import HandS.Walk
import HandS.Lambda
import HandS.ExcInit
import HandS.ExcIs
import HandS.ExcField
import KE.KExcSuper
import KE.KExcIs
import HandS.SortInts
import HandS.More
import PyProof.Rows.NestFoldShow
import PyProof.RowDictHeap
import KE.KDictPairs
import HandS.Zip
import HandS.MapObj
import KE.KDictZip
import HandS.HeadEnd
import HandS.Star
import HandS.Style
import HandS.Head0
import HandS.Head1
import HandS.Head2
import HandS.HeadHook4
import HandS.Words
import PyProof.StrLawsRepr
import PyProof.ReprLen
import PySem.Challenge.RW_novalueleft_k00_errors_apart
set_option Elab.async false
set_option linter.all false
set_option maxRecDepth 100000
/-! Ev, part 1: data, a store of mutable objects, and how they lie to the hand layer's values and heap. -/
namespace Ev
open PySem PySem.Spec PyProof.Rows L2

/-- data: immutable values (frozen lists and dicts among them), references into the store -/
inductive D where
  | non | bl (b : Bool) | int (i : Int) | str (x : Str)
  | tup (ds : List D) | lst (ds : List D) | dic (kvs : List (Key × D)) | ref (l : Nat)
  | pr (ds : List D) | scr (ds : List D) | fn (f : Nat) | ty (n : String) | cls (c : Nat) | exc (c : Nat) (ns : List Str) (ds : List D) | clo (l : Nat) (ws : List D)
/-- a mutable object; hid: one that nobody may look at any more -/
inductive O where
  | lst (ds : List D) | dic (kvs : List (Key × D)) | hid
abbrev Sto := List O
/-- where the defs and the classes stand -/
structure Cfg where
  K : PySem.W.Frag
  fA : Nat → Addr
  cA : Nat → Addr
  /-- the tables of code objects: where they stand, and the names of their code objects -/
  tb : List (Addr × Str) := []
  /-- how many classes there are -/
  nc : Nat := 0
/-- an exception object of the class cls at a, its dict at d -/
def XO (cls : Value) (d : Option Addr) (a : Addr) : HO := .ext fun h => ∃ (oe : Obj) (vs : Array Value), h.get? a = some oe ∧ Zc cls d oe ∧ oe.data = .fields vs
theorem xo_ok {P : Program} {w : World} {H : Hp} {h : Heap} {a : Addr} {cls : Value} {d : Option Addr} {oe : Obj} {vs : Array Value} (e : h.get? a = some oe) (z : Zc cls d oe) (dd : oe.data = .fields vs) : ObjOk P w H h a (XO cls d a) :=
  ⟨⟨oe, vs, e, z, dd⟩, ⟨oe, e⟩, fun _ _ ⟨o, v, q, r⟩ k => ⟨o, v, k o q, r⟩⟩
/-- no table -/
def NT (o : HO) : Prop := ∀ ps, o ≠ .tbl ps
/-- a list, a tuple, a dict .. -/
def NX (o : HO) : Prop := (∀ φ, o ≠ .ext φ) ∧ ∀ ps, o ≠ .tbl ps
theorem nx_lst {xs : List V} : NX (.lst xs) := ⟨(fun _ z => nomatch z), (fun _ z => nomatch z)⟩
theorem nx_dK {xs : List (Key × V)} : NX (.dK xs) := ⟨(fun _ z => nomatch z), (fun _ z => nomatch z)⟩
theorem nt_xo {cls : Value} {d : Option Addr} {a : Addr} : NT (XO cls d a) := fun ps z => by unfold XO at z; cases z

def KT' (K : PySem.W.Frag) (a : Addr) (xs : List V) : Prop :=
  ∃ (o : Obj) (its : Array Value) (n : Nat), K.lookup a = some o ∧ o.cls = .type "tuple" ∧ o.dict = none ∧ o.data = .seq its n ∧ its.size ≤ sizeLine ∧ Vals xs its.toList
/-- a stands, tracked, and is none of the store's own objects -/
def Fz (ρ hid : List Addr) (a : Addr) : Prop := a ∉ ρ ∧ a ∉ hid
def LstA (C : Cfg) (ρ hid : List Addr) (H : Hp) (a : Addr) (vs : List V) : Prop :=
  (Rd H a (.lst vs) ∧ vs.length ≤ sizeLine) ∧ Fz ρ hid a
/-- the script, wherever it stands -/
def ScrA (C : Cfg) (ρ hid : List Addr) (H : Hp) (a : Addr) (vs : List V) : Prop := LstA C ρ hid H a vs ∨ ((∀ G : Hp, SqL C.K G a vs) ∧ vs.length ≤ sizeLine)
/-- a tuple object that has no dict of its own -/
abbrev TupO (us : List Value) : Obj := { cls := .type "tuple", data := .seq us.toArray }
def TupT (H : Hp) (a : Addr) (vs : List V) : Prop := ∃ us, H a = some (.frz (TupO us) (.tup vs))
def TupA (C : Cfg) (ρ hid : List Addr) (H : Hp) (a : Addr) (vs : List V) : Prop :=
  ((TupT H a vs ∧ vs.length ≤ sizeLine) ∧ Fz ρ hid a) ∨ KT' C.K a vs

mutual
inductive Rl (C : Cfg) (ρ hid : List Addr) (H : Hp) : D → V → Prop
  | non : Rl C ρ hid H .non .non
  | bl (b : Bool) : Rl C ρ hid H (.bl b) (.bl b)
  | int (i : Int) : Rl C ρ hid H (.int i) (.int i)
  | str (x : Str) : x.length ≤ sizeLine → Rl C ρ hid H (.str x) (.str x)
  | tup {a : Addr} {ds : List D} {vs : List V} : TupA C ρ hid H a vs → RlAll C ρ hid H ds vs → Rl C ρ hid H (.tup ds) (.ref a)
  | pr {a : Addr} {ds : List D} {vs : List V} : H a = some (.tup vs) → Fz ρ hid a → RlAll C ρ hid H ds vs → Rl C ρ hid H (.pr ds) (.ref a)
  | scr {a : Addr} {ds : List D} {vs : List V} : ScrA C ρ hid H a vs → RlAll C ρ hid H ds vs → Rl C ρ hid H (.scr ds) (.ref a)
  | lst {a : Addr} {ds : List D} {vs : List V} : LstA C ρ hid H a vs → RlAll C ρ hid H ds vs → Rl C ρ hid H (.lst ds) (.ref a)
  | dic {a : Addr} {kvs : List (Key × D)} {ws : List (Key × V)} : Rd H a (.dK ws) → Fz ρ hid a → RlKv C ρ hid H kvs ws → Rl C ρ hid H (.dic kvs) (.ref a)
  | ref {a : Addr} {l : Nat} : ρ[l]? = some a → Rl C ρ hid H (.ref l) (.ref a)
  | fn (f : Nat) : Rl C ρ hid H (.fn f) (.ref (C.fA f))
  | ty (n : String) : Rl C ρ hid H (.ty n) (.ty n)
  | cls (c : Nat) : c < C.nc → Rl C ρ hid H (.cls c) (.ref (C.cA c))
  | exc0 {a : Addr} {c : Nat} : c < C.nc → H a = some (XO (.ref (C.cA c)) none a) → Fz ρ hid a → Rl C ρ hid H (.exc c [] []) (.ref a)
  | exc1 {a dd : Addr} {c : Nat} {ns : List Str} {ds : List D} {ws : List (Str × V)} : c < C.nc → H a = some (XO (.ref (C.cA c)) (some dd) a) → Fz ρ hid a → H dd = some (.xd ws) → Fz ρ hid dd → ns = ws.map (·.1) → RlAll C ρ hid H ds (ws.map (·.2)) → Rl C ρ hid H (.exc c ns ds) (.ref a)
inductive RlAll (C : Cfg) (ρ hid : List Addr) (H : Hp) : List D → List V → Prop
  | nil : RlAll C ρ hid H [] []
  | cons {d : D} {v : V} {ds : List D} {vs : List V} : Rl C ρ hid H d v → RlAll C ρ hid H ds vs → RlAll C ρ hid H (d :: ds) (v :: vs)
inductive RlKv (C : Cfg) (ρ hid : List Addr) (H : Hp) : List (Key × D) → List (Key × V) → Prop
  | nil : RlKv C ρ hid H [] []
  | cons {k : Key} {d : D} {v : V} {ds : List (Key × D)} {vs : List (Key × V)} : Rl C ρ hid H d v → RlKv C ρ hid H ds vs → RlKv C ρ hid H ((k, d) :: ds) ((k, v) :: vs)
end

/-- what an evaluation may do: new objects, changes of the store's own ones -/
structure Ext (ρ : List Addr) (H : Hp) (ρ' : List Addr) (H' : Hp) : Prop where
  pre : ∃ e, ρ' = ρ ++ e
  keep : ∀ a o, H a = some o → a ∉ ρ → NT o → H' a = some o
  stay : ∀ a o, H a = some o → a ∉ ρ → ∃ o', H' a = some o'
  new : ∀ a, a ∈ ρ' → a ∈ ρ ∨ H a = none
theorem Ext.refl {ρ : List Addr} {H : Hp} : Ext ρ H ρ H := ⟨⟨[], by simp⟩, fun _ _ e _ _ => e, fun _ o e _ => ⟨o, e⟩, fun _ h => .inl h⟩
theorem Ext.mem {ρ ρ' : List Addr} {H H' : Hp} (e : Ext ρ H ρ' H') {a : Addr} (h : a ∈ ρ) : a ∈ ρ' := by
  obtain ⟨z, rfl⟩ := e.pre
  exact List.mem_append_left _ h
theorem Ext.at {ρ ρ' : List Addr} {H H' : Hp} (e : Ext ρ H ρ' H') {l : Nat} {a : Addr} (h : ρ[l]? = some a) : ρ'[l]? = some a := by
  obtain ⟨z, rfl⟩ := e.pre
  obtain ⟨hl, _⟩ := List.getElem?_eq_some_iff.mp h
  rw [List.getElem?_append_left hl]
  exact h
theorem Ext.out {ρ ρ' : List Addr} {H H' : Hp} (e : Ext ρ H ρ' H') {a : Addr} {o : HO} (h : H a = some o) (n : a ∉ ρ) : a ∉ ρ' := fun z => by
  rcases e.new a z with q | q
  · exact n q
  · rw [h] at q; cases q
theorem Ext.trans {ρ ρ' ρ'' : List Addr} {H H' H'' : Hp} (e : Ext ρ H ρ' H') (f : Ext ρ' H' ρ'' H'') : Ext ρ H ρ'' H'' := by
  refine ⟨?_, fun a o h n t => f.keep a o (e.keep a o h n t) (e.out h n) t, fun a o h n => let ⟨o', h'⟩ := e.stay a o h n; f.stay a o' h' (e.out h n), fun a h => ?_⟩
  · obtain ⟨z, rfl⟩ := e.pre
    obtain ⟨y, rfl⟩ := f.pre
    exact ⟨z ++ y, by simp⟩
  · rcases f.new a h with q | q
    · exact e.new a q
    · by_cases n : a ∈ ρ
      · exact .inl n
      · cases r : H a with
        | none => exact .inr rfl
        | some o => obtain ⟨o', r'⟩ := e.stay a o r n; rw [r'] at q; cases q
theorem Ext.fz {ρ ρ' hid : List Addr} {H H' : Hp} (e : Ext ρ H ρ' H') {a : Addr} {o : HO} (h : H a = some o) (n : Fz ρ hid a) : Fz ρ' hid a := ⟨e.out h n.1, n.2⟩
/-- a new object that the store doesn't own -/
theorem Ext.laid {ρ : List Addr} {H : Hp} {p : Addr} {o : HO} (h : H p = none) : Ext ρ H ρ (upd H p o) :=
  ⟨⟨[], by simp⟩, fun a u e _ _ => by rw [upd_ne (ne_of_none e h)]; exact e, fun a u e _ => ⟨u, by rw [upd_ne (ne_of_none e h)]; exact e⟩, fun _ h => .inl h⟩
/-- a new object of the store -/
theorem Ext.box {ρ : List Addr} {H : Hp} {p : Addr} {o : HO} (h : H p = none) : Ext ρ H (ρ ++ [p]) (upd H p o) :=
  ⟨⟨[p], rfl⟩, fun a u e _ _ => by rw [upd_ne (ne_of_none e h)]; exact e, fun a u e _ => ⟨u, by rw [upd_ne (ne_of_none e h)]; exact e⟩, fun a z => by
    rcases List.mem_append.mp z with q | q
    · exact .inl q
    · rw [List.mem_singleton] at q; subst q; exact .inr h⟩
/-- a change of an object of the store -/
theorem Ext.set {ρ : List Addr} {H : Hp} {p : Addr} {o : HO} (h : p ∈ ρ) : Ext ρ H ρ (upd H p o) :=
  ⟨⟨[], by simp⟩, fun a u e n _ => by rw [upd_ne (fun z => n (by rw [z]; exact h))]; exact e, fun a u e n => ⟨u, by rw [upd_ne (fun z => n (by rw [z]; exact h))]; exact e⟩, fun _ h => .inl h⟩

section
variable {C : Cfg} {ρ ρ' hid hid' : List Addr} {H H' : Hp} {a : Addr} {vs : List V}
theorem Rd.ext (e : Ext ρ H ρ' H') (n : a ∉ ρ) {u : HO} (h : Rd H a u) (t : NT u) : Rd H' a u := by
  rcases h with h | ⟨o, h⟩
  · exact .inl (e.keep _ _ h n t)
  · exact .inr ⟨o, e.keep _ _ h n (fun _ z => nomatch z)⟩
theorem Rd.there {u : HO} (h : Rd H a u) : ∃ o, H a = some o := by
  rcases h with h | ⟨o, h⟩
  · exact ⟨_, h⟩
  · exact ⟨_, h⟩
theorem Rd.fz (e : Ext ρ H ρ' H') {u : HO} (h : Rd H a u) (n : Fz ρ hid a) : Fz ρ' hid a := by
  obtain ⟨o, q⟩ := Rd.there h
  exact e.fz q n
theorem Rd.ne {p : Addr} {u : HO} (h : Rd H a u) (hp : H p = none) : a ≠ p := by
  obtain ⟨o, q⟩ := Rd.there h
  exact ne_of_none q hp
theorem Rd.upd {p : Addr} {u w : HO} (h : Rd H a u) (ne : a ≠ p) : Rd (upd H p w) a u := by
  rcases h with h | ⟨o, h⟩
  · exact .inl (by rw [upd_ne ne]; exact h)
  · exact .inr ⟨o, by rw [upd_ne ne]; exact h⟩
theorem LstA.ext (e : Ext ρ H ρ' H') (h : LstA C ρ hid H a vs) : LstA C ρ' hid H' a vs := by
  obtain ⟨⟨h, z⟩, n⟩ := h
  obtain ⟨o, q⟩ := Rd.there h
  exact ⟨⟨Rd.ext e n.1 h (fun _ z => nomatch z), z⟩, e.fz q n⟩
theorem ScrA.ext (e : Ext ρ H ρ' H') (h : ScrA C ρ hid H a vs) : ScrA C ρ' hid H' a vs := h.imp (fun h => h.ext e) id
theorem ScrA.sq (h : ScrA C ρ hid H a vs) : SqL C.K H a vs := h.elim (fun h => .inl h.1.1) fun h => h.1 H
theorem ScrA.size (h : ScrA C ρ hid H a vs) : vs.length ≤ sizeLine := h.elim (fun h => h.1.2) fun h => h.2
theorem TupA.ext (e : Ext ρ H ρ' H') (h : TupA C ρ hid H a vs) : TupA C ρ' hid H' a vs := by
  rcases h with ⟨⟨⟨us, h⟩, z⟩, n⟩ | h
  · exact .inl ⟨⟨⟨us, e.keep _ _ h n.1 (fun _ z => nomatch z)⟩, z⟩, e.fz h n⟩
  · exact .inr h
theorem LstA.sq (h : LstA C ρ hid H a vs) : SqL C.K H a vs := .inl h.1.1
theorem TupA.sq (h : TupA C ρ hid H a vs) : SqT C.K H a vs := by
  rcases h with ⟨⟨⟨us, h⟩, _⟩, _⟩ | ⟨o, its, n, h1, h2, _, h3⟩
  · exact .inl (.inr ⟨_, h⟩)
  · exact .inr ⟨o, its, n, h1, h2, h3⟩
theorem LstA.size (h : LstA C ρ hid H a vs) : vs.length ≤ sizeLine := h.1.2
theorem TupA.size (h : TupA C ρ hid H a vs) : vs.length ≤ sizeLine := by
  rcases h with ⟨⟨_, z⟩, _⟩ | ⟨o, its, n, _, _, _, _, z, r⟩
  · exact z
  · have := r.length
    simp only [Array.length_toList] at this
    omega
/-- other hidden objects: fewer -/
theorem LstA.fewer (hh : ∀ a, a ∈ ρ' → a ∈ ρ) (hi : ∀ a, a ∈ hid' → a ∈ hid) (h : LstA C ρ hid H a vs) : LstA C ρ' hid' H a vs :=
  ⟨h.1, fun z => h.2.1 (hh _ z), fun z => h.2.2 (hi _ z)⟩
theorem TupA.fewer (hh : ∀ a, a ∈ ρ' → a ∈ ρ) (hi : ∀ a, a ∈ hid' → a ∈ hid) (h : TupA C ρ hid H a vs) : TupA C ρ' hid' H a vs := by
  rcases h with ⟨h, n⟩ | h
  · exact .inl ⟨h, fun z => n.1 (hh _ z), fun z => n.2 (hi _ z)⟩
  · exact .inr h
end

section
variable {C : Cfg} {ρ ρ' hid hid' : List Addr} {H H' : Hp}
mutual
theorem Rl.ext (e : Ext ρ H ρ' H') : ∀ {d : D} {v : V}, Rl C ρ hid H d v → Rl C ρ' hid H' d v
  | _, _, .non => .non
  | _, _, .bl b => .bl b
  | _, _, .int i => .int i
  | _, _, .str x h => .str x h
  | _, _, .tup h r => .tup (h.ext e) (RlAll.ext e r)
  | _, _, .pr h n r => .pr (e.keep _ _ h n.1 (fun _ z => nomatch z)) (e.fz h n) (RlAll.ext e r)
  | _, _, .scr h r => .scr (h.ext e) (RlAll.ext e r)
  | _, _, .lst h r => .lst (h.ext e) (RlAll.ext e r)
  | _, _, .dic h n r => .dic (Rd.ext e n.1 h (fun _ z => nomatch z)) (Rd.fz e h n) (RlKv.ext e r)
  | _, _, .ref h => .ref (e.at h)
  | _, _, .fn f => .fn f
  | _, _, .ty n => .ty n
  | _, _, .cls c z => .cls c z
  | _, _, .exc0 z h n => .exc0 z (e.keep _ _ h n.1 nt_xo) (e.fz h n)
  | _, _, .exc1 z h n h2 n2 hn r => .exc1 z (e.keep _ _ h n.1 nt_xo) (e.fz h n) (e.keep _ _ h2 n2.1 (fun _ z => nomatch z)) (e.fz h2 n2) hn (RlAll.ext e r)
theorem RlAll.ext (e : Ext ρ H ρ' H') : ∀ {ds : List D} {vs : List V}, RlAll C ρ hid H ds vs → RlAll C ρ' hid H' ds vs
  | _, _, .nil => .nil
  | _, _, .cons h r => .cons (Rl.ext e h) (RlAll.ext e r)
theorem RlKv.ext (e : Ext ρ H ρ' H') : ∀ {ds : List (Key × D)} {vs : List (Key × V)}, RlKv C ρ hid H ds vs → RlKv C ρ' hid H' ds vs
  | _, _, .nil => .nil
  | _, _, .cons h r => .cons (Rl.ext e h) (RlKv.ext e r)
end
mutual
/-- fewer hidden objects, the same store -/
theorem Rl.open (hi : ∀ a, a ∈ hid' → a ∈ hid) : ∀ {d : D} {v : V}, Rl C ρ hid H d v → Rl C ρ hid' H d v
  | _, _, .non => .non
  | _, _, .bl b => .bl b
  | _, _, .int i => .int i
  | _, _, .str x h => .str x h
  | _, _, .tup h r => .tup (h.fewer (fun _ z => z) hi) (RlAll.open hi r)
  | _, _, .pr h n r => .pr h ⟨n.1, fun z => n.2 (hi _ z)⟩ (RlAll.open hi r)
  | _, _, .scr h r => .scr (h.imp (fun h => h.fewer (fun _ z => z) hi) id) (RlAll.open hi r)
  | _, _, .lst h r => .lst (h.fewer (fun _ z => z) hi) (RlAll.open hi r)
  | _, _, .dic h n r => .dic h ⟨n.1, fun z => n.2 (hi _ z)⟩ (RlKv.open hi r)
  | _, _, .ref h => .ref h
  | _, _, .fn f => .fn f
  | _, _, .ty n => .ty n
  | _, _, .cls c z => .cls c z
  | _, _, .exc0 z h n => .exc0 z h ⟨n.1, fun z => n.2 (hi _ z)⟩
  | _, _, .exc1 z h n h2 n2 hn r => .exc1 z h ⟨n.1, fun z => n.2 (hi _ z)⟩ h2 ⟨n2.1, fun z => n2.2 (hi _ z)⟩ hn (RlAll.open hi r)
theorem RlAll.open (hi : ∀ a, a ∈ hid' → a ∈ hid) : ∀ {ds : List D} {vs : List V}, RlAll C ρ hid H ds vs → RlAll C ρ hid' H ds vs
  | _, _, .nil => .nil
  | _, _, .cons h r => .cons (Rl.open hi h) (RlAll.open hi r)
theorem RlKv.open (hi : ∀ a, a ∈ hid' → a ∈ hid) : ∀ {ds : List (Key × D)} {vs : List (Key × V)}, RlKv C ρ hid H ds vs → RlKv C ρ hid' H ds vs
  | _, _, .nil => .nil
  | _, _, .cons h r => .cons (Rl.open hi h) (RlKv.open hi r)
end
theorem RlAll.length : ∀ {ds : List D} {vs : List V}, RlAll C ρ hid H ds vs → ds.length = vs.length
  | _, _, .nil => rfl
  | _, _, .cons _ r => by rw [List.length_cons, List.length_cons, RlAll.length r]
theorem RlKv.length : ∀ {ds : List (Key × D)} {vs : List (Key × V)}, RlKv C ρ hid H ds vs → ds.length = vs.length
  | _, _, .nil => rfl
  | _, _, .cons _ r => by rw [List.length_cons, List.length_cons, RlKv.length r]
theorem RlAll.append : ∀ {ds es : List D} {vs ws : List V}, RlAll C ρ hid H ds vs → RlAll C ρ hid H es ws → RlAll C ρ hid H (ds ++ es) (vs ++ ws)
  | _, _, _, _, .nil, s => s
  | _, _, _, _, .cons h r, s => .cons h (RlAll.append r s)
theorem RlAll.take : ∀ {ds : List D} {vs : List V} (n : Nat), RlAll C ρ hid H ds vs → RlAll C ρ hid H (ds.take n) (vs.take n)
  | _, _, 0, _ => .nil
  | _, _, _ + 1, .nil => .nil
  | _, _, n + 1, .cons h r => .cons h (RlAll.take n r)
theorem RlAll.drop : ∀ {ds : List D} {vs : List V} (n : Nat), RlAll C ρ hid H ds vs → RlAll C ρ hid H (ds.drop n) (vs.drop n)
  | _, _, 0, r => r
  | _, _, _ + 1, .nil => .nil
  | _, _, n + 1, .cons _ r => RlAll.drop n r
theorem RlAll.get : ∀ {ds : List D} {vs : List V} {i : Nat} {d : D}, RlAll C ρ hid H ds vs → ds[i]? = some d → ∃ v, vs[i]? = some v ∧ Rl C ρ hid H d v
  | _, _, _, _, .nil, e => by simp at e
  | _, _, 0, _, .cons h _, e => by simp at e; subst e; exact ⟨_, rfl, h⟩
  | _, _, i + 1, _, .cons _ r, e => by
    obtain ⟨v, h1, h2⟩ := RlAll.get (i := i) r (by simpa using e)
    exact ⟨v, by simpa using h1, h2⟩
theorem RlAll.getV : ∀ {ds : List D} {vs : List V} {i : Nat} {v : V}, RlAll C ρ hid H ds vs → vs[i]? = some v → ∃ d, ds[i]? = some d ∧ Rl C ρ hid H d v
  | _, _, _, _, .nil, e => by simp at e
  | _, _, 0, _, .cons h _, e => by simp at e; subst e; exact ⟨_, rfl, h⟩
  | _, _, i + 1, _, .cons _ r, e => by
    obtain ⟨v, h1, h2⟩ := RlAll.getV (i := i) r (by simpa using e)
    exact ⟨v, by simpa using h1, h2⟩
theorem RlAll.set : ∀ {ds : List D} {vs : List V} (i : Nat) {d : D} {v : V}, RlAll C ρ hid H ds vs → Rl C ρ hid H d v → RlAll C ρ hid H (ds.set i d) (vs.set i v)
  | _, _, _, _, _, .nil, _ => .nil
  | _, _, 0, _, _, .cons _ r, h => .cons h r
  | _, _, i + 1, _, _, .cons q r, h => .cons q (RlAll.set i r h)
theorem RlAll.eraseIdx : ∀ {ds : List D} {vs : List V} (i : Nat), RlAll C ρ hid H ds vs → RlAll C ρ hid H (ds.eraseIdx i) (vs.eraseIdx i)
  | _, _, _, .nil => .nil
  | _, _, 0, .cons _ r => r
  | _, _, i + 1, .cons q r => .cons q (RlAll.eraseIdx i r)
theorem RlAll.reverse {ds : List D} {vs : List V} (h : RlAll C ρ hid H ds vs) : RlAll C ρ hid H ds.reverse vs.reverse := by
  induction ds generalizing vs with
  | nil => cases h; exact .nil
  | cons d r ih =>
    cases h with
    | cons q t =>
      rw [List.reverse_cons, List.reverse_cons]
      exact (ih t).append (.cons q .nil)
end

/-- the ground: the table of modules and the tables of code objects -/
structure Gr (C : Cfg) (H : Hp) : Prop where
  sm : ∃ φ, H sysModules = some (.ext φ)
  tabs : LamX.Tabs C.tb H
theorem Gr.kept {C : Cfg} {H H' : Hp} (g : Gr C H) (k : ∀ a u, H a = some u → ¬ NX u → H' a = some u) : Gr C H' := by
  obtain ⟨φ, q⟩ := g.sm
  refine ⟨⟨φ, k _ _ q fun n => n.1 φ rfl⟩, fun p hp => ?_⟩
  obtain ⟨ps, h1, h2, h3⟩ := g.tabs p hp
  refine ⟨ps, k _ _ h1 fun n => n.2 ps rfl, h2, fun pos cv hc => ?_⟩
  obtain ⟨c, e1, e2⟩ := h3 pos cv hc
  exact ⟨c, e1, k _ _ e2 fun n => n.1 _ rfl⟩
theorem Gr.laid {C : Cfg} {H : Hp} {p : Addr} {o : HO} (g : Gr C H) (h : H p = none) : Gr C (upd H p o) :=
  g.kept fun a u q _ => by rw [upd_ne (ne_of_none q h)]; exact q
theorem Gr.set {C : Cfg} {H : Hp} {p : Addr} {o o' : HO} (g : Gr C H) (h : H p = some o') (n : NX o') : Gr C (upd H p o) :=
  g.kept fun a u q m => by
    rw [upd_ne fun z => ?_]
    · exact q
    · rw [z, h] at q; cases q; exact m n
/-- the store stands in the abstract heap, its objects at ρ -/
def OOk (C : Cfg) (ρ hid : List Addr) (H : Hp) (a : Addr) : O → Prop
  | .lst ds => ∃ vs, H a = some (.lst vs) ∧ vs.length ≤ sizeLine ∧ RlAll C ρ hid H ds vs
  | .dic kvs => ∃ ws, H a = some (.dK ws) ∧ ws.length ≤ sizeLine ∧ RlKv C ρ hid H kvs ws
  | .hid => ∃ o, H a = some o ∧ NX o
structure StoOk (C : Cfg) (hid ρ : List Addr) (H : Hp) (S : Sto) : Prop where
  len : ρ.length = S.length
  nd : ρ.Nodup
  obj : ∀ (l : Nat) (a : Addr) (o : O), ρ[l]? = some a → S[l]? = some o → OOk C ρ hid H a o
  hidT : ∀ a ∈ hid, (∃ o, H a = some o ∧ NX o) ∧ a ∉ ρ
  gr : Gr C H
section
variable {C : Cfg} {ρ ρ' hid : List Addr} {H H' : Hp} {S : Sto} {p : Addr}
theorem OOk.thereX {a : Addr} {o : O} (h : OOk C ρ hid H a o) : ∃ u, H a = some u ∧ NX u := by
  cases o with
  | lst ds => obtain ⟨vs, e, _⟩ := h; exact ⟨_, e, nx_lst⟩
  | dic kvs => obtain ⟨vs, e, _⟩ := h; exact ⟨_, e, nx_dK⟩
  | hid => exact h
theorem StoOk.thereX (s : StoOk C hid ρ H S) {a : Addr} (h : a ∈ ρ) : ∃ u, H a = some u ∧ NX u := by
  obtain ⟨l, hl⟩ := List.mem_iff_getElem?.mp h
  have hl2 : l < S.length := by
    obtain ⟨z, _⟩ := List.getElem?_eq_some_iff.mp hl
    rw [← s.len]; exact z
  exact (s.obj l a _ hl (List.getElem?_eq_getElem hl2)).thereX
theorem StoOk.there (s : StoOk C hid ρ H S) {a : Addr} (h : a ∈ ρ) : ∃ u, H a = some u := let ⟨u, e, _⟩ := s.thereX h; ⟨u, e⟩
theorem StoOk.freshR (s : StoOk C hid ρ H S) (h : H p = none) : p ∉ ρ := fun z => by
  obtain ⟨u, e⟩ := s.there z
  rw [h] at e; cases e
theorem StoOk.freshH (s : StoOk C hid ρ H S) (h : H p = none) : p ∉ hid := fun z => by
  obtain ⟨u, e, _⟩ := (s.hidT p z).1
  rw [h] at e; cases e
theorem StoOk.fresh (s : StoOk C hid ρ H S) (h : H p = none) : Fz ρ hid p := ⟨s.freshR h, s.freshH h⟩
/-- a new object that the store doesn't own -/
theorem StoOk.laid (s : StoOk C hid ρ H S) (h : H p = none) (o : HO) : StoOk C hid ρ (upd H p o) S := by
  have e : Ext ρ H ρ (upd H p o) := .laid h
  have ke : ∀ a u, H a = some u → upd H p o a = some u := fun a u q => by rw [upd_ne (ne_of_none q h)]; exact q
  refine ⟨s.len, s.nd, fun l a ob h1 h2 => ?_, fun a ha => ⟨?_, (s.hidT a ha).2⟩, s.gr.laid h⟩
  · have q := s.obj l a ob h1 h2
    cases ob with
    | lst ds => obtain ⟨vs, e1, z, r⟩ := q; exact ⟨vs, ke _ _ e1, z, r.ext e⟩
    | dic kvs => obtain ⟨vs, e1, z, r⟩ := q; exact ⟨vs, ke _ _ e1, z, r.ext e⟩
    | hid => obtain ⟨u, e1, n1⟩ := q; exact ⟨u, ke _ _ e1, n1⟩
  · obtain ⟨u, e1, n1⟩ := (s.hidT a ha).1
    exact ⟨u, ke _ _ e1, n1⟩
/-- the kind of object that may stand for o -/
def OOk.mk {a : Addr} {o : O} (h : OOk C ρ hid H a o) : OOk C ρ hid H a o := h
/-- a new object of the store -/
theorem StoOk.box (s : StoOk C hid ρ H S) (h : H p = none) {o : HO} {x : O} (hx : OOk C (ρ ++ [p]) hid (upd H p o) p x) : StoOk C hid (ρ ++ [p]) (upd H p o) (S ++ [x]) := by
  have e : Ext ρ H (ρ ++ [p]) (upd H p o) := .box h
  have ke : ∀ a u, H a = some u → upd H p o a = some u := fun a u q => by rw [upd_ne (ne_of_none q h)]; exact q
  have hp := s.freshR h
  refine ⟨by simp [s.len], ?_, fun l a ob h1 h2 => ?_, fun a ha => ⟨?_, fun z => ?_⟩, s.gr.laid h⟩
  · exact List.nodup_append.mpr ⟨s.nd, by simp, fun a ha b hb => by rw [List.mem_singleton] at hb; rintro rfl; exact hp (hb ▸ ha)⟩
  · by_cases hl : l < ρ.length
    · rw [List.getElem?_append_left hl] at h1
      rw [List.getElem?_append_left (by rw [← s.len]; exact hl)] at h2
      have q := s.obj l a ob h1 h2
      cases ob with
      | lst ds => obtain ⟨vs, e1, z, r⟩ := q; exact ⟨vs, ke _ _ e1, z, r.ext e⟩
      | dic kvs => obtain ⟨vs, e1, z, r⟩ := q; exact ⟨vs, ke _ _ e1, z, r.ext e⟩
      | hid => obtain ⟨u, e1, n1⟩ := q; exact ⟨u, ke _ _ e1, n1⟩
    · rw [List.getElem?_append_right (by omega)] at h1
      rw [List.getElem?_append_right (by rw [← s.len]; omega)] at h2
      obtain ⟨z1, z2⟩ := List.getElem?_eq_some_iff.mp h1
      have z3 : l - ρ.length = 0 := by simp at z1; omega
      rw [z3] at h1
      rw [← s.len, z3] at h2
      simp at h1 h2
      subst h1 h2
      exact hx
  · obtain ⟨u, e1, n1⟩ := (s.hidT a ha).1
    exact ⟨u, ke _ _ e1, n1⟩
  · rcases List.mem_append.mp z with q | q
    · exact (s.hidT a ha).2 q
    · rw [List.mem_singleton] at q
      subst q
      exact s.freshH h ha
/-- an object of the store is changed -/
theorem StoOk.set (s : StoOk C hid ρ H S) {l : Nat} (hl : ρ[l]? = some p) {o : HO} {x : O} (hx : OOk C ρ hid (upd H p o) p x) : StoOk C hid ρ (upd H p o) (S.set l x) := by
  have e : Ext ρ H ρ (upd H p o) := .set (List.mem_of_getElem? hl)
  refine ⟨by simp [s.len], s.nd, fun m a ob h1 h2 => ?_, fun a ha => ⟨?_, (s.hidT a ha).2⟩, let ⟨_, e, n⟩ := s.thereX (List.mem_of_getElem? hl); s.gr.set e n⟩
  · by_cases hm : m = l
    · subst hm
      rw [hl] at h1
      cases h1
      obtain ⟨z, _⟩ := List.getElem?_eq_some_iff.mp h2
      rw [List.getElem?_set_self (by simpa using z)] at h2
      cases h2
      exact hx
    · rw [List.getElem?_set_ne (Ne.symm hm)] at h2
      have q := s.obj m a ob h1 h2
      have ne : a ≠ p := fun z => by
        rw [z] at h1
        obtain ⟨l1, _⟩ := List.getElem?_eq_some_iff.mp h1
        obtain ⟨l2, _⟩ := List.getElem?_eq_some_iff.mp hl
        rw [List.getElem?_eq_getElem l1] at h1
        rw [List.getElem?_eq_getElem l2] at hl
        exact hm ((List.getElem_inj s.nd).mp (Option.some.inj (h1.trans hl.symm)))
      have ke : ∀ u, H a = some u → upd H p o a = some u := fun u q => by rw [upd_ne ne]; exact q
      cases ob with
      | lst ds => obtain ⟨vs, e1, z, r⟩ := q; exact ⟨vs, ke _ e1, z, r.ext e⟩
      | dic kvs => obtain ⟨vs, e1, z, r⟩ := q; exact ⟨vs, ke _ e1, z, r.ext e⟩
      | hid => obtain ⟨u, e1, n1⟩ := q; exact ⟨u, ke _ e1, n1⟩
  · obtain ⟨u, e1, n1⟩ := (s.hidT a ha).1
    have ne : a ≠ p := fun z => (s.hidT a ha).2 (by rw [z]; exact List.mem_of_getElem? hl)
    exact ⟨u, by rw [upd_ne ne]; exact e1, n1⟩
end

/-! ### results -/
abbrev Env' := List (Option D)
/-- exc: an exception of the class c with its fields, raised where the names held env -/
inductive R (α : Type) where
  | ok (a : α) (S : Sto) | exc (c : Nat) (fs : List (Str × D)) (env : Env') (S : Sto) | bad
def R.bind {α β : Type} (r : R α) (k : α → Sto → R β) : R β := match r with
  | .ok a S => k a S
  | .exc c fs env S => .exc c fs env S
  | .bad => .bad
/-- an exception out of a call -/
def R.at {α : Type} (r : R α) (env : Env') : R α := match r with
  | .ok a S => .ok a S
  | .exc c fs _ S => .exc c fs env S
  | .bad => .bad
theorem R.bind_ok {α β : Type} (a : α) (S : Sto) (k : α → Sto → R β) : (R.ok a S).bind k = k a S := rfl
theorem R.bind_exc {α β : Type} (c : Nat) (fs : List (Str × D)) (env : Env') (S : Sto) (k : α → Sto → R β) : (R.exc c fs env S : R α).bind k = .exc c fs env S := rfl
theorem R.bind_bad {α β : Type} (k : α → Sto → R β) : (R.bad : R α).bind k = .bad := rfl

/-- the fields of an exception -/
def XOk (C : Cfg) (ρ hid : List Addr) (H : Hp) (c : Nat) (fs : List (Str × D)) (cls : Value) (d : Option Addr) : Prop :=
  cls = .ref (C.cA c) ∧ ((fs = [] ∧ d = none) ∨ ∃ dd ws, d = some dd ∧ H dd = some (.xd ws) ∧ Fz ρ hid dd ∧ fs.map (·.1) = ws.map (·.1) ∧ RlAll C ρ hid H (fs.map (·.2)) (ws.map (·.2)))
abbrev XP := Nat → List (Str × D) → Env' → Sto → List Addr → Hp → Prop
def okR {α : Type} (C : Cfg) (hid ρ : List Addr) (H : Hp) (r : R α) (P : α → Sto → List Addr → Hp → Prop) (X : XP) : Prop :=
  match r with
  | .ok a S => ∀ ρ' H', Ext ρ H ρ' H' → StoOk C hid ρ' H' S → P a S ρ' H'
  | .exc c fs env S => ∀ ρ' H', Ext ρ H ρ' H' → StoOk C hid ρ' H' S → X c fs env S ρ' H'
  | .bad => False
theorem okR.bind {α β : Type} {C : Cfg} {hid ρ : List Addr} {H : Hp} {r : R α} {k : α → Sto → R β} {P : β → Sto → List Addr → Hp → Prop} {X : XP} (h : okR C hid ρ H (r.bind k) P X) :
    okR C hid ρ H r (fun a S ρ' H' => okR C hid ρ' H' (k a S) P X) X := by
  cases r with
  | ok a S =>
    intro ρ' H' e s
    have h' : okR C hid ρ H (k a S) P X := h
    revert h'
    cases k a S with
    | ok b S' => exact fun h' ρ'' H'' e' s' => h' ρ'' H'' (e.trans e') s'
    | exc c fs S' => exact fun h' ρ'' H'' e' s' => h' ρ'' H'' (e.trans e') s'
    | bad => exact fun h' => h'
  | exc c fs env S => exact h
  | bad => exact h
theorem okR.imp {α : Type} {C : Cfg} {hid ρ : List Addr} {H : Hp} {r : R α} {P P' : α → Sto → List Addr → Hp → Prop} {X X' : XP} (h : okR C hid ρ H r P X)
    (hp : ∀ a S ρ' H', Ext ρ H ρ' H' → StoOk C hid ρ' H' S → P a S ρ' H' → P' a S ρ' H') (hx : ∀ c fs env S ρ' H', Ext ρ H ρ' H' → StoOk C hid ρ' H' S → X c fs env S ρ' H' → X' c fs env S ρ' H') : okR C hid ρ H r P' X' := by
  cases r with
  | ok a S => exact fun ρ' H' e s => hp _ _ _ _ e s (h ρ' H' e s)
  | exc c fs env S => exact fun ρ' H' e s => hx _ _ _ _ _ _ e s (h ρ' H' e s)
  | bad => exact h
/-- nothing was done -/
theorem okR.here {α : Type} {C : Cfg} {hid ρ : List Addr} {H : Hp} {a : α} {S : Sto} {P : α → Sto → List Addr → Hp → Prop} {X : XP} (h : okR C hid ρ H (.ok a S) P X) (s : StoOk C hid ρ H S) : P a S ρ H := h ρ H .refl s

/-! ### readings -/
abbrev Call := Nat → List D → Sto → R D
abbrev EE := Call → Env' → Sto → R D
abbrev EA := Call → Env' → Sto → R (List D)
abbrev EB := Call → Env' → Sto → R Bool
def EnvOk (C : Cfg) (ρ hid : List Addr) (H : Hp) (env : Env') (σ : L2.St) : Prop :=
  env.length = σ.length ∧ ∀ (i : Nat) (d : D), env[i]? = some (some d) → ∃ v, σ[i]? = some (some v) ∧ Rl C ρ hid H d v
theorem EnvOk.ext {C : Cfg} {ρ ρ' hid : List Addr} {H H' : Hp} {env : Env'} {σ : L2.St} (e : Ext ρ H ρ' H') (h : EnvOk C ρ hid H env σ) : EnvOk C ρ' hid H' env σ :=
  ⟨h.1, fun i d q => let ⟨v, h1, h2⟩ := h.2 i d q; ⟨v, h1, h2.ext e⟩⟩
/-- an exception's way out -/
def xOut (C : Cfg) (hid : List Addr) (W : WX) : XP := fun c fs env _ ρ' H' => ∀ cls d σ', EnvOk C ρ' hid H' env σ' → XOk C ρ' hid H' c fs cls d → W cls d σ' H'
def tE (C : Cfg) (W : WX) (call : Call) (f : EE) : TE := fun σ H Q => ∃ ρ hid S env, StoOk C hid ρ H S ∧ EnvOk C ρ hid H env σ ∧
  okR C hid ρ H (f call env S) (fun d _ ρ' H' => ∀ v, Rl C ρ' hid H' d v → Q v H') (xOut C hid W)
def tA (C : Cfg) (W : WX) (call : Call) (f : EA) : TA := fun σ H Q => ∃ ρ hid S env, StoOk C hid ρ H S ∧ EnvOk C ρ hid H env σ ∧
  okR C hid ρ H (f call env S) (fun ds _ ρ' H' => ∀ vs, RlAll C ρ' hid H' ds vs → Q vs H') (xOut C hid W)
def tT (C : Cfg) (W : WX) (call : Call) (f : EB) : TT := fun σ H Q => ∃ ρ hid S env, StoOk C hid ρ H S ∧ EnvOk C ρ hid H env σ ∧
  okR C hid ρ H (f call env S) (fun b _ _ H' => Q b H') (xOut C hid W)
/-- flows -/
inductive F where
  | nx (env : Env') | rt (d : D) | bk (env : Env') | ct (env : Env')
abbrev ES := Call → Env' → Sto → R F
def endsOk (C : Cfg) (hid : List Addr) (En : Ends) : F → Sto → List Addr → Hp → Prop
  | .nx env, _, ρ', H' => ∀ σ', EnvOk C ρ' hid H' env σ' → En.nx σ' H'
  | .rt d, _, ρ', H' => ∀ v, Rl C ρ' hid H' d v → En.rt v H'
  | .bk env, _, ρ', H' => ∀ σ', EnvOk C ρ' hid H' env σ' → En.bk σ' H'
  | .ct env, _, ρ', H' => ∀ σ', EnvOk C ρ' hid H' env σ' → En.ct σ' H'
def tS (C : Cfg) (W : WX) (call : Call) (f : ES) : TS := fun En σ H => ∃ ρ hid S env, StoOk C hid ρ H S ∧ EnvOk C ρ hid H env σ ∧
  okR C hid ρ H (f call env S) (endsOk C hid En) (xOut C hid W)
end Ev

set_option Elab.async false
set_option linter.all false
set_option maxRecDepth 100000
/-! Ev: new tuples, told with their objects (the layer tells a new tuple's items alone; that it has no dict is asked by dict(t)). -/
namespace Ev
open PySem PySem.Spec PyProof.Rows L2

/-- what may be done with a new tuple of these -/
def newT (H : Hp) (xs : List V) (Q : VK) : Prop := ∀ (p : Addr) (us : List Value), H p = none → Q (.ref p) (upd H p (.frz (TupO us) (.tup xs)))
section
variable {X : Cx} {pins : List (Addr × Obj)} {σ : L2.St} {H : Hp} {s : Shared} {Q : VK} {xs : List V} {us : List Value}
theorem tup_new {tk : Nat} (I : Inv X pins σ H s) (r : Vals xs us) (hz : xs.length ≤ sizeLine) (q : newT H xs Q) : EP X pins σ Q (.ref s.heap.objs.size) { s with heap := s.heap.push (TupO us), toks := tk } := by
  have there : (s.heap.push (TupO us)).get? s.heap.objs.size = some (TupO us) := Heap.get?_push_size _ rfl
  have I2 : Inv X pins σ (upd H s.heap.objs.size (.frz (TupO us) (.tup xs))) { s with heap := s.heap.push (TupO us), toks := tk } :=
    I.laid (fun b u e => Heap.get?_push_of_some _ e) (Nat.le_refl _) ⟨there, hz, us, r, ⟨_, there, rfl, _, rfl⟩⟩
  exact ⟨.ref s.heap.objs.size, _, I2, rfl, q _ us (I.hok.fresh (Nat.le_refl _))⟩
end
section
variable {X : Cx} {es : List Expr} {t : TA} {pos : Pos}
theorem pe_tupF {j : Nat} (h : PA X es t) : PE X (.Tuple es j pos) (tCB (fun xs H Q => xs.length ≤ sizeLine ∧ newT H xs Q) t) :=
  ⟨fun pins s σ H Q I hq => wpAny_Tuple_spliced (thn (h.run pos pins s σ H _ I hq) fun us s1 ⟨xs, H1, I1, r, z, q⟩ => ⟨by rw [← r.length]; exact z, tup_new I1 r z q⟩)⟩
/-- t[lo:hi] -/
def rSlF (K : PySem.W.Frag) : V → Option Int → Option Int → Hp → VK → Prop := fun x lo hi H Q => ∃ a xs, x = .ref a ∧ SqT K H a xs ∧
  if HT.sIx xs.length 0 lo = 0 ∧ HT.sIx xs.length xs.length hi = xs.length then Q (.ref a) H else newT H (cutV xs lo hi) Q
theorem sl_tupF : SlR X (rSlF X.K) := by
  rintro pins s σ H x v vl vu lo hi sl Q I rx hs pl pu ⟨a, xs, rfl, hx, q⟩
  split at q
  · rename_i w
    exact sl_tupA pins s σ H _ v vl vu lo hi sl Q I rx hs pl pu ⟨a, xs, rfl, hx, fun _ => q, fun n => (n w).elim⟩
  · rename_i w
    cases rx
    obtain ⟨its, r, ht, hz⟩ := I.tuple hx
    have e : its.toArray.size = xs.length := by rw [List.size_toArray, r.length]
    refine ⟨"tuple", _, PyProof.Rows.slot_tuple_getitem.lookup, ht.typeIs, HT.getItem_tuple_cut ht hs pl pu (by rw [e]; exact w) ?_ (by rw [e]; exact hz)⟩
    rw [e]
    exact tup_new (tk := s.toks) I ((r.drop _).take _) (Nat.le_trans (cutV_length xs lo hi) hz) q
/-- t + u, t not empty -/
def rCatF (K : PySem.W.Frag) : R2 := fun x y H Q => ∃ a b xs ys, x = .ref a ∧ y = .ref b ∧ SqT K H a xs ∧ SqT K H b ys ∧ xs ≠ [] ∧ xs.length + ys.length ≤ sizeLine ∧ (ys = [] → Q (.ref a) H) ∧ (ys ≠ [] → newT H (xs ++ ys) Q)
theorem op_catF : OpR X (binaryOp .Add) (rCatF X.K) := by
  rintro pins s σ H x y v u Q I rx ry ⟨a, b, xs, ys, rfl, rfl, ha, hb, hx, hz, q1, q2⟩
  cases rx
  cases ry
  obtain ⟨its, r1, p1, _⟩ := I.tuple ha
  obtain ⟨its2, r2, p2, _⟩ := I.tuple hb
  refine HT.cat_tup p1 p2 (fun z => hx (r1.nil_iff.mp z)) (fun z => ⟨.ref a, H, I, rfl, q1 (r2.nil_iff.mp z)⟩) (fun z => tup_new (tk := s.toks) I (r1.append r2) (by rw [List.length_append]; exact hz) (q2 fun w => z (r2.nil_iff.mpr w))) (by rw [← r1.length, ← r2.length]; exact hz)
/-- tuple(x) of a list, of a tuple -/
def rTupOfF (K : PySem.W.Frag) : List V → Hp → VK → Prop := fun xs H Q => ∃ p ys, xs = [.ref p] ∧ ((SqL K H p ys ∧ newT H ys Q) ∨ (SqT K H p ys ∧ Q (.ref p) H))
theorem call_tupOfF : CallR X (.type "tuple") (rTupOfF X.K) := by
  rintro pins s σ H xs us Q I r ⟨p, ys, rfl, h⟩
  obtain ⟨u, rfl, rx⟩ := vals1 r
  cases rx
  rcases h with ⟨hq, q⟩ | ⟨hq, q⟩
  · obtain ⟨its, r', pl, hz⟩ := I.list hq
    refine call_tuple_list pl.isList (fun h' kp => ?_) (by have := r'.length; simp only [List.size_toArray]; omega)
    exact tup_new (tk := s.toks) (s := { s with heap := h' }) (I.kept (t' := s.toks) kp) r' hz q
  · obtain ⟨its, _, pl, _⟩ := I.tuple hq
    exact call_tuple_same pl ⟨.ref p, H, I, rfl, q⟩
/-- isinstance(x, (c1, c2, ..)) -/
def rIsiF (K : PySem.W.Frag) : List V → Hp → VK → Prop := fun xs H Q => ∃ (x : V) (tp : Addr) (cs : List V) (t : Value) (us : List Value) (b : Bool), xs = [x, .ref tp] ∧ TupT H tp cs ∧ Paired ClsV cs us ∧ TyX K H x t ∧ PySem.W.kitAny K t us = some b ∧ Q (.bl b) H
theorem call_isiF : CallR X (.builtin "isinstance") (rIsiF X.K) := by
  rintro pins s σ H xs us Q I r ⟨x, tp, cs, t, ws, b, rfl, ⟨vs, hT⟩, k, ty, e, q⟩
  obtain ⟨u1, u2, rfl, r1, r2⟩ := vals2 r
  cases (show u2 = Value.ref tp from r2)
  obtain ⟨P, Z, p, hx⟩ := kit_of I r1 ty
  obtain ⟨h0, _, its, rv, o, h1, h2, n, h3⟩ := (show ObjOk X.prog X.w H s.heap tp (.frz (TupO vs) (.tup cs)) from I.hok tp _ hT)
  have e3 := ClsV.all k rv
  subst e3
  obtain ⟨oc, od, dt, sl⟩ := o
  simp only at h2 h3
  subst h2 h3
  exact PySem.W.kia_tup Z I.kIn p h1 e hx fun tk => ⟨.bl b, H, I.tok tk, rfl, q⟩
end
end Ev

set_option Elab.async false
set_option linter.all false
set_option maxRecDepth 100000
set_option maxHeartbeats 1000000
/-! Ev, part 2: expressions. -/
namespace Ev
open PySem PySem.Spec PyProof.Rows L2

/-! ### what is asked of a context -/
structure Good (X : Cx) (C : Cfg) : Prop where
  K : X.K = C.K
  hc : X.calm = true
  nd : X.N.Nodup
  hu : X.A.units + 200 < cLine
  hh : X.A.handled = none
  gd : X.A.guards = some []
theorem Good.blk {X : Cx} {C : Cfg} (g : Good X C) {s : Shared} {H : Hp} {scope : Scope} {cenv : Env} {fp : List Addr} : Good (X.blk s H scope cenv fp) C := ⟨g.K, g.hc, g.nd, g.hu, g.hh, g.gd⟩

theorem _root_.L2.PE.imp {X : Cx} {e : Expr} {t t' : TE} (h : PE X e t) (i : ∀ σ H Q, t' σ H Q → t σ H Q) : PE X e t' := ⟨fun pins s σ H Q I q => h.run pins s σ H Q I (i _ _ _ q)⟩
theorem _root_.L2.PT.imp {X : Cx} {e : Expr} {t t' : TT} (h : PT X e t) (i : ∀ σ H Q, t' σ H Q → t σ H Q) : PT X e t' := ⟨fun pins s σ H Q I q => h.run pins s σ H Q I (i _ _ _ q)⟩
theorem _root_.L2.PA.imp {X : Cx} {es : List Expr} {t t' : TA} (h : PA X es t) (i : ∀ σ H Q, t' σ H Q → t σ H Q) : PA X es t' := ⟨fun pos pins s σ H Q I q => h.run pos pins s σ H Q I (i _ _ _ q)⟩
theorem _root_.L2.PS.imp {X : Cx} {st : Stmt} {t t' : TS} (h : PS X st t) (i : ∀ D σ H, t' D σ H → t D σ H) : PS X st t' := ⟨fun pins s σ H D I q => h.run pins s σ H D I (i _ _ _ q)⟩
theorem _root_.L2.PSs.imp {X : Cx} {st : List Stmt} {t t' : TS} (h : PSs X st t) (i : ∀ D σ H, t' D σ H → t D σ H) : PSs X st t' := ⟨fun pins s σ H D I q => h.run pins s σ H D I (i _ _ _ q)⟩
theorem _root_.L2.PE.or {X : Cx} {e : Expr} {t t' : TE} (h : PE X e t) (h' : PE X e t') : PE X e (fun σ H Q => t σ H Q ∨ t' σ H Q) := ⟨fun pins s σ H Q I q => q.elim (h.run pins s σ H Q I) (h'.run pins s σ H Q I)⟩

/-! ### primitives -/
abbrev PostE (C : Cfg) (hid : List Addr) (Q : VK) : D → Sto → List Addr → Hp → Prop := fun d _ ρ' H' => ∀ v, Rl C ρ' hid H' d v → Q v H'
def P2Ok (C : Cfg) (r : R2) (p : D → D → Sto → R D) : Prop := ∀ ρ hid H S x y vx vy Q (XX : XP), StoOk C hid ρ H S → Rl C ρ hid H x vx → Rl C ρ hid H y vy → okR C hid ρ H (p x y S) (PostE C hid Q) XX → r vx vy H Q
def PAOk (C : Cfg) (r : List V → Hp → VK → Prop) (p : List D → Sto → R D) : Prop := ∀ ρ hid H S ds vs Q (XX : XP), StoOk C hid ρ H S → RlAll C ρ hid H ds vs → okR C hid ρ H (p ds S) (PostE C hid Q) XX → r vs H Q

section
variable {C : Cfg} {ρ hid : List Addr} {H : Hp} {S : Sto} {Q : VK} {XX : XP} {ds : List D} {vs : List V}
theorem lay_tup (s : StoOk C hid ρ H S) (r : RlAll C ρ hid H ds vs) (z : vs.length ≤ sizeLine) (h : okR C hid ρ H (.ok (.tup ds) S) (PostE C hid Q) XX) : newT H vs Q := fun p us hp =>
  h ρ _ (.laid hp) (s.laid hp _) _ (.tup (.inl ⟨⟨⟨us, upd_same⟩, z⟩, s.fresh hp⟩) (r.ext (.laid hp)))
theorem lay_lst (s : StoOk C hid ρ H S) (r : RlAll C ρ hid H ds vs) (z : vs.length ≤ sizeLine) (h : okR C hid ρ H (.ok (.lst ds) S) (PostE C hid Q) XX) : ∀ p, H p = none → Q (.ref p) (upd H p (.lst vs)) := fun p hp =>
  h ρ _ (.laid hp) (s.laid hp _) _ (.lst ⟨⟨.inl upd_same, z⟩, s.fresh hp⟩ (r.ext (.laid hp)))
theorem box_lst (s : StoOk C hid ρ H S) (r : RlAll C ρ hid H ds vs) (z : vs.length ≤ sizeLine) (h : okR C hid ρ H (.ok (.ref S.length) (S ++ [.lst ds])) (PostE C hid Q) XX) : ∀ p, H p = none → Q (.ref p) (upd H p (.lst vs)) := fun p hp =>
  h (ρ ++ [p]) _ (.box hp) (s.box hp ⟨vs, upd_same, z, r.ext (.box hp)⟩) _ (.ref (by rw [← s.len]; simp))
end
/-- a new list: the store's own, or a frozen one -/
def mkL (bx : Bool) (ds : List D) (S : Sto) : R D := if bx then .ok (.ref S.length) (S ++ [.lst ds]) else .ok (.lst ds) S
theorem lay_mkL {C : Cfg} {ρ hid : List Addr} {H : Hp} {S : Sto} {Q : VK} {XX : XP} {ds : List D} {vs : List V} {bx : Bool} (s : StoOk C hid ρ H S) (r : RlAll C ρ hid H ds vs) (z : vs.length ≤ sizeLine)
    (h : okR C hid ρ H (mkL bx ds S) (PostE C hid Q) XX) : ∀ p, H p = none → Q (.ref p) (upd H p (.lst vs)) := by
  cases bx with
  | true => exact box_lst s r z h
  | false => exact lay_lst s r z h

/-- what a reference shows -/
def deref (S : Sto) : D → D
  | .ref l => match S[l]? with
    | some (.lst ds) => .lst ds
    | some (.dic kvs) => .dic kvs
    | _ => .ref l
  | d => d

/-! ### data as the library's -/
mutual
def D.py : D → Option PyData
  | .non => some .none
  | .bl b => some (.bool b)
  | .int i => some (.int i)
  | .str x => if PyData.strOk x then some (.str x) else none
  | .tup ds => (pyAll ds).map .tuple
  | .lst ds => (pyAll ds).map .list
  | _ => none
def pyAll : List D → Option (List PyData)
  | [] => some []
  | d :: ds => (d.py).bind fun p => (pyAll ds).map fun ps => p :: ps
end
section
variable {C : Cfg} {ρ hid : List Addr} {H : Hp} {S : Sto}
mutual
theorem py_dp : ∀ {d : D} {v : V} {p : PyData}, Rl C ρ hid H d v → d.py = some p → Dp C.K H v p ∧ p.canLay0 = true
  | .non, _, _, .non, e => by simp [D.py] at e; subst e; exact ⟨.non, rfl⟩
  | .bl b, _, _, .bl _, e => by simp [D.py] at e; subst e; exact ⟨.bl _, rfl⟩
  | .int i, _, _, .int _, e => by simp [D.py] at e; subst e; exact ⟨.int _, rfl⟩
  | .str x, _, _, .str _ _, e => by
    simp only [D.py] at e
    split at e
    · rename_i hx
      cases e
      exact ⟨.str _, by simpa [PyData.canLay0] using hx⟩
    · cases e
  | .tup ds, _, _, .tup h r, e => by
    simp only [D.py] at e
    obtain ⟨ps, e1, e2⟩ := Option.map_eq_some_iff.mp e
    subst e2
    obtain ⟨q1, q2⟩ := pyAll_dp r e1
    exact ⟨.tup h.sq q1, by simpa [PyData.canLay0] using q2⟩
  | .lst ds, _, _, .lst h r, e => by
    simp only [D.py] at e
    obtain ⟨ps, e1, e2⟩ := Option.map_eq_some_iff.mp e
    subst e2
    obtain ⟨q1, q2⟩ := pyAll_dp r e1
    exact ⟨.lst h.sq q1, by simpa [PyData.canLay0] using q2⟩
  | .dic _, _, _, _, e => by simp [D.py] at e
  | .ref _, _, _, _, e => by simp [D.py] at e
  | .fn _, _, _, _, e => by simp [D.py] at e
  | .ty _, _, _, _, e => by simp [D.py] at e
  | .cls _, _, _, _, e => by simp [D.py] at e
  | .exc _ _ _, _, _, _, e => by simp [D.py] at e
  | .clo _ _, _, _, _, e => by simp [D.py] at e
theorem pyAll_dp : ∀ {ds : List D} {vs : List V} {ps : List PyData}, RlAll C ρ hid H ds vs → pyAll ds = some ps → DpAll C.K H vs ps ∧ PyData.canLayAll0 ps = true
  | [], _, _, .nil, e => by simp [pyAll] at e; subst e; exact ⟨.nil, rfl⟩
  | d :: ds, _, _, .cons h r, e => by
    simp only [pyAll] at e
    obtain ⟨p, e1, e2⟩ := Option.bind_eq_some_iff.mp e
    obtain ⟨ps, e3, e4⟩ := Option.map_eq_some_iff.mp e2
    subst e4
    obtain ⟨q1, q2⟩ := py_dp h e1
    obtain ⟨q3, q4⟩ := pyAll_dp r e3
    exact ⟨.cons q1 q3, by simp [PyData.canLayAll0, q2, q4]⟩
end
/-- .. of a list of the store, too -/
theorem py_dpS (s : StoOk C hid ρ H S) {d : D} {v : V} {p : PyData} (h : Rl C ρ hid H d v) (e : (deref S d).py = some p) : Dp C.K H v p ∧ p.canLay0 = true := by
  cases d with
  | ref l =>
    cases h with
    | ref hl =>
    rename_i a
    simp only [deref] at e
    split at e
    · rename_i ds hs
      obtain ⟨vs, e1, z, r⟩ := s.obj l a _ hl hs
      simp only [D.py] at e
      obtain ⟨ps, e2, e3⟩ := Option.map_eq_some_iff.mp e
      subst e3
      obtain ⟨q1, q2⟩ := pyAll_dp r e2
      exact ⟨.lst (SqL.of e1) q1, by simpa [PyData.canLay0] using q2⟩
    · simp [D.py] at e
    · simp [D.py] at e
  | _ => exact py_dp h e
end
/-- == of data -/
def eqD (x y : D) : Option Bool := match x.py, y.py with
  | some a, some b => if min a.depth b.depth ≤ 180 then some (PyData.eqv a b) else none
  | _, _ => none
/-- x in the items of c -/
def inD (x c : D) : Option Bool := match c.py, x.py with
  | some (.list ps), some p => if min (PyData.depthAll ps) p.depth ≤ 180 then some (ps.any fun y => PyData.eqv y p) else none
  | some (.tuple ps), some p => if min (PyData.depthAll ps) p.depth ≤ 180 then some (ps.any fun y => PyData.eqv y p) else none
  | _, _ => none
section
variable {X : Cx}
def rEqA (K : PySem.W.Frag) (neg : Bool) : R2 := fun x y H Q => ∃ d e, Dp K H x d ∧ Dp K H y e ∧ d.canLay0 = true ∧ e.canLay0 = true ∧ min d.depth e.depth ≤ 180 ∧ Q (.bl (if neg then !PyData.eqv d e else PyData.eqv d e)) H
theorem op_eqA (hu : X.A.units + 200 < cLine) : OpR X (compareOp .Eq) (rEqA X.K false) := by
  intro pins s σ H x y v u Q I rx ry h
  obtain ⟨d, e, hd, he, sd, se, hz, q⟩ := h
  obtain ⟨as, r1⟩ := Dp.reads I d x v hd rx
  obtain ⟨bs, r2⟩ := Dp.reads I e y u he ry
  exact SeqAt.compareEq_reads r1 r2 sd se (by omega) ⟨.bl _, H, I, rfl, q⟩
theorem op_neA (hu : X.A.units + 200 < cLine) : OpR X (compareOp .NotEq) (rEqA X.K true) := by
  intro pins s σ H x y v u Q I rx ry h
  obtain ⟨d, e, hd, he, sd, se, hz, q⟩ := h
  obtain ⟨as, r1⟩ := Dp.reads I d x v hd rx
  obtain ⟨bs, r2⟩ := Dp.reads I e y u he ry
  exact SeqAt.compareNe_reads r1 r2 sd se (by omega) ⟨.bl _, H, I, rfl, q⟩
def rInA (K : PySem.W.Frag) (neg : Bool) : R2 := fun x y H Q => ∃ d ds, Dp K H x d ∧ (Dp K H y (.list ds) ∨ Dp K H y (.tuple ds)) ∧ d.canLay0 = true ∧ PyData.canLayAll0 ds = true ∧ min (PyData.depthAll ds) d.depth ≤ 180 ∧ Q (.bl (if neg then !(ds.any fun z => PyData.eqv z d) else ds.any fun z => PyData.eqv z d)) H
theorem op_inA (hu : X.A.units + 200 < cLine) : OpR X (compareOp .In) (rInA X.K false) := by
  intro pins s σ H x y v u Q I rx ry h
  obtain ⟨d, ds, hd, he, sd, se, hz, q⟩ := h
  obtain ⟨as, r1⟩ := Dp.reads I d x v hd rx
  rcases he with he | he
  · obtain ⟨bs, r2⟩ := Dp.reads I _ y u he ry
    exact SeqAt.in_list_reads r2 r1 se sd (by omega) ⟨.bl _, H, I, rfl, q⟩
  · obtain ⟨bs, r2⟩ := Dp.reads I _ y u he ry
    exact SeqAt.in_tuple_reads r2 r1 se sd (by omega) ⟨.bl _, H, I, rfl, q⟩
theorem op_notInA (hu : X.A.units + 200 < cLine) : OpR X (compareOp .NotIn) (rInA X.K true) := by
  intro pins s σ H x y v u Q I rx ry h
  obtain ⟨d, ds, hd, he, sd, se, hz, q⟩ := h
  obtain ⟨as, r1⟩ := Dp.reads I d x v hd rx
  rcases he with he | he
  · obtain ⟨bs, r2⟩ := Dp.reads I _ y u he ry
    exact SeqAt.notIn_list_reads r2 r1 se sd (by omega) ⟨.bl _, H, I, rfl, q⟩
  · obtain ⟨bs, r2⟩ := Dp.reads I _ y u he ry
    exact SeqAt.notIn_tuple_reads r2 r1 se sd (by omega) ⟨.bl _, H, I, rfl, q⟩
end

/-! ### the parts of an expression, one after another -/
mutual
/-- no reference behind n -/
def clsD (n : Nat) : D → Bool
  | .ref l => decide (l < n)
  | .tup ds => clsDs n ds
  | .lst ds => clsDs n ds
  | .dic kvs => clsKv n kvs
  | .pr _ => false
  | .scr _ => false
  | .exc _ _ ds => clsDs n ds
  | .clo _ _ => false
  | _ => true
def clsDs (n : Nat) : List D → Bool
  | [] => true
  | d :: ds => clsD n d && clsDs n ds
def clsKv (n : Nat) : List (Key × D) → Bool
  | [] => true
  | (_, d) :: ds => clsD n d && clsKv n ds
end
def clsO (n : Nat) : O → Bool
  | .lst ds => clsDs n ds
  | .dic kvs => clsKv n kvs
  | .hid => true
/-- a call whose arguments hold no references runs over a store of its own -/
def iso (r : R D) (S : Sto) : R D := match r with
  | .ok d [] => if clsD 0 d then .ok d S else .bad
  | .ok (.ref 0) [o] => if clsO 0 o then .ok (.ref S.length) (S ++ [o]) else .bad
  | .exc c fs _ [] => if clsDs 0 (fs.map (·.2)) then .exc c fs [] S else .bad
  | _ => .bad
def cVar (i : Nat) : EE := fun _ env S => match env[i]? with
  | some (some d) => .ok d S
  | _ => .bad
def cK (d : D) : EE := fun _ _ S => .ok d S
def cBin (p : D → D → Sto → R D) (fa fb : EE) : EE := fun call env S => (fa call env S).bind fun x S1 => (fb call env S1).bind fun y S2 => p x y S2
def cUn (p : D → Sto → R D) (fa : EE) : EE := fun call env S => (fa call env S).bind fun x S1 => p x S1
def cNil : EA := fun _ _ S => .ok [] S
def cCons (fa : EE) (fr : EA) : EA := fun call env S => (fa call env S).bind fun x S1 => (fr call env S1).bind fun xs S2 => .ok (x :: xs) S2
def cPrim (p : List D → Sto → R D) (fr : EA) : EE := fun call env S => (fr call env S).bind fun xs S1 => p xs S1
def cCall (f n : Nat) (dfl : List D) (fr : EA) : EE := fun call env S => (fr call env S).bind fun xs S1 => if (xs ++ dfl).length = n then (if clsDs 0 (xs ++ dfl) = true then iso (call f (xs ++ dfl) []) S1 else call f (xs ++ dfl) S1).at env else .bad
def cIf (ft : EB) (fa fb : EE) : EE := fun call env S => (ft call env S).bind fun b S1 => if b then fa call env S1 else fb call env S1
/-- a value's truth -/
def isRef : D → Bool
  | .ref _ => true
  | _ => false
def truthD (S : Sto) (d : D) : R Bool := match deref S d with
  | .non => .ok false S
  | .bl b => .ok b S
  | .int i => .ok (i != 0) S
  | .str x => .ok ((x.length : Int) != 0) S
  | .tup ds => .ok (!ds.isEmpty) S
  | .lst ds => .ok (!ds.isEmpty) S
  | .dic kvs => if isRef d then .ok (!kvs.isEmpty) S else .bad
  | _ => .bad
def cTru (fa : EE) : EB := fun call env S => (fa call env S).bind fun x S1 => truthD S1 x
def cNotT (ft : EB) : EB := fun call env S => (ft call env S).bind fun b S1 => .ok (!b) S1
def cAndT (fa fb : EB) : EB := fun call env S => (fa call env S).bind fun b S1 => if b then fb call env S1 else .ok false S1
def cOrT (fa fb : EB) : EB := fun call env S => (fa call env S).bind fun b S1 => if b then .ok true S1 else fb call env S1
/-- and, or, not as values -/
def cAndV (fa fb : EE) : EE := fun call env S => (fa call env S).bind fun x S1 => (truthD S1 x).bind fun b S2 => if b then fb call env S2 else .ok x S2
def cOrV (fa fb : EE) : EE := fun call env S => (fa call env S).bind fun x S1 => (truthD S1 x).bind fun b S2 => if b then .ok x S2 else fb call env S2
def cNotV (fa : EE) : EE := fun call env S => (fa call env S).bind fun x S1 => (truthD S1 x).bind fun b S2 => .ok (.bl (!b)) S2
/-- a test of bools as a value -/
def cB (fa : EE) : EB := fun call env S => (fa call env S).bind fun x S1 => match x with
  | .bl b => .ok b S1
  | _ => .bad

section
variable {X : Cx} {C : Cfg} {W : WX} {call : Call} {fa fb : EE} {fr : EA} {ft fu : EB} {a b e : Expr} {es rest : List Expr} {pos : Pos}
/-- the reading of an expression, taken apart -/
theorem tE_of {σ : L2.St} {H : Hp} {Q : VK} {ρ hid : List Addr} {S : Sto} {env : Env'} {f : EE} (s : StoOk C hid ρ H S) (n : EnvOk C ρ hid H env σ) (h : okR C hid ρ H (f call env S) (PostE C hid Q) (xOut C hid W)) : tE C W call f σ H Q := ⟨ρ, hid, S, env, s, n, h⟩

theorem ev_var {i : Nat} {x : Str} (hN : X.N[i]? = some x) (hv : Vis X.env.scope x) (hd : (x == ("__debug__" : Str)) = false) (hcd : (x == ("__classdict__" : Str)) = false) : PE X (.Name x pos) (tE C W call (cVar i)) :=
  (pe_var hN hv hd hcd).imp fun σ H Q ⟨ρ, hid, S, env, s, n, h⟩ => by
    unfold cVar at h
    split at h
    · rename_i d hd
      obtain ⟨v, e1, r⟩ := n.2 i d hd
      exact ⟨v, e1, h.here s v r⟩
    · exact h.elim
theorem ev_k {d : D} {v : V} (h : PE X e (tC v)) (r : ∀ ρ hid H, Rl C ρ hid H d v) : PE X e (tE C W call (cK d)) :=
  h.imp fun σ H Q ⟨ρ, hid, S, env, s, n, h⟩ => h.here s v (r _ _ _)
theorem ev_op {r : R2} {p : D → D → Sto → R D} (hp : P2Ok C r p) (h : PE X e (tOp r (tE C W call fa) (tE C W call fb))) : PE X e (tE C W call (cBin p fa fb)) :=
  h.imp fun σ H Q ⟨ρ, hid, S, env, s, n, h⟩ => by
    refine ⟨ρ, hid, S, env, s, n, (okR.bind h).imp (fun x S1 ρ1 H1 e1 s1 h1 vx rx => ?_) fun _ _ _ _ _ _ _ _ q => q⟩
    refine ⟨ρ1, hid, S1, env, s1, n.ext e1, (okR.bind h1).imp (fun y S2 ρ2 H2 e2 s2 h2 vy ry => ?_) fun _ _ _ _ _ _ _ _ q => q⟩
    exact hp ρ2 hid H2 S2 x y vx vy Q _ s2 (rx.ext e2) ry h2
theorem ev_un {r : V → Hp → VK → Prop} {p : D → Sto → R D} (hp : ∀ ρ hid H S x vx Q (XX : XP), StoOk C hid ρ H S → Rl C ρ hid H x vx → okR C hid ρ H (p x S) (PostE C hid Q) XX → r vx H Q) (h : PE X e (tUn r (tE C W call fa))) : PE X e (tE C W call (cUn p fa)) :=
  h.imp fun σ H Q ⟨ρ, hid, S, env, s, n, h⟩ => by
    refine ⟨ρ, hid, S, env, s, n, (okR.bind h).imp (fun x S1 ρ1 H1 e1 s1 h1 vx rx => ?_) fun _ _ _ _ _ _ _ _ q => q⟩
    exact hp ρ1 hid H1 S1 x vx Q _ s1 rx h1
theorem ev_nil : PA X [] (tA C W call cNil) := pa_nil.imp fun σ H Q ⟨ρ, hid, S, env, s, n, h⟩ => h.here s [] .nil
theorem ev_cons (ha : PE X e (tE C W call fa)) (hr : PA X es (tA C W call fr)) (hs : starEach (e :: es) X.env = (false, eval e X.env) :: starEach es X.env) : PA X (e :: es) (tA C W call (cCons fa fr)) :=
  (pa_cons ha hr hs).imp fun σ H Q ⟨ρ, hid, S, env, s, n, h⟩ => by
    refine ⟨ρ, hid, S, env, s, n, (okR.bind h).imp (fun x S1 ρ1 H1 e1 s1 h1 vx rx => ?_) fun _ _ _ _ _ _ _ _ q => q⟩
    refine ⟨ρ1, hid, S1, env, s1, n.ext e1, (okR.bind h1).imp (fun xs S2 ρ2 H2 e2 s2 h2 vs rs => ?_) fun _ _ _ _ _ _ _ _ q => q⟩
    exact okR.here h2 s2 _ (.cons (rx.ext e2) rs)
/-- a built-in's call, a display: an argument list, then a primitive -/
theorem ev_prim {r : List V → Hp → VK → Prop} {p : List D → Sto → R D} (hp : PAOk C r p) (h : PE X e (tCB r (tA C W call fr))) : PE X e (tE C W call (cPrim p fr)) :=
  h.imp fun σ H Q ⟨ρ, hid, S, env, s, n, h⟩ =>
    ⟨ρ, hid, S, env, s, n, (okR.bind h).imp (fun xs S1 ρ1 H1 e1 s1 h1 vs rs => hp ρ1 hid H1 S1 xs vs Q _ s1 rs h1) fun _ _ _ _ _ _ _ _ q => q⟩
/-- the truth of a value -/
theorem truthD_ok {ρ hid : List Addr} {H : Hp} {S : Sto} {d : D} {v : V} {P : Bool → Sto → List Addr → Hp → Prop} {XX : XP} (s : StoOk C hid ρ H S) (r : Rl C ρ hid H d v) (h : okR C hid ρ H (truthD S d) P XX) : ∃ k, TruV C.K v H k ∧ P k S ρ H := by
  unfold truthD at h
  cases r with
  | non => exact ⟨_, rfl, h.here s⟩
  | bl b => exact ⟨_, rfl, h.here s⟩
  | int i => exact ⟨_, rfl, h.here s⟩
  | str x hx => exact ⟨_, ⟨hx, rfl⟩, h.here s⟩
  | tup hA r =>
    rename_i a ds vs
    have e : (!ds.isEmpty) = !vs.isEmpty := by cases r <;> rfl
    exact ⟨_, .inr (.inl ⟨_, hA.sq, rfl⟩), by rw [← e]; exact h.here s⟩
  | lst hA r =>
    rename_i a ds vs
    have e : (!ds.isEmpty) = !vs.isEmpty := by cases r <;> rfl
    exact ⟨_, .inl ⟨_, hA.sq, rfl⟩, by rw [← e]; exact h.here s⟩
  | dic hA hn r => exact h.elim
  | ref hl =>
    rename_i a l
    cases q : S[l]? with
    | none => simp only [deref, q] at h; exact h.elim
    | some o =>
      have ob := s.obj l a o hl q
      cases o with
      | lst ds =>
        simp only [deref, q] at h
        obtain ⟨vs, e1, z, r⟩ := ob
        have e : (!ds.isEmpty) = !vs.isEmpty := by cases r <;> rfl
        exact ⟨_, .inl ⟨_, SqL.of e1, rfl⟩, by rw [← e]; exact h.here s⟩
      | dic ds =>
        simp only [deref, q, isRef, if_true] at h
        obtain ⟨vs, e1, z, r⟩ := ob
        have e : (!ds.isEmpty) = !vs.isEmpty := by cases r <;> rfl
        exact ⟨_, .inr (.inr ⟨_, e1, rfl⟩), by rw [← e]; exact h.here s⟩
      | hid => simp only [deref, q] at h; exact h.elim
  | pr _ _ _ => exact h.elim
  | scr _ _ => exact h.elim
  | fn _ => exact h.elim
  | ty _ => exact h.elim
  | cls _ _ => exact h.elim
  | exc0 _ _ _ => exact h.elim
  | exc1 _ _ _ _ _ _ _ => exact h.elim
theorem ev_tru (g : Good X C) (ha : PE X a (tE C W call fa)) (he : ∀ whole, isTrue a X.env whole = (do let v ← whole; standAt a.pos; holding [v] (truthy v))) : PT X a (tT C W call (cTru fa)) :=
  (pt_truth ha he).imp fun σ H Q ⟨ρ, hid, S, env, s, n, h⟩ => by
    refine ⟨ρ, hid, S, env, s, n, (okR.bind h).imp (fun x S1 ρ1 H1 e1 s1 h1 vx rx => ?_) fun _ _ _ _ _ _ _ _ q => q⟩
    rw [g.K]
    exact truthD_ok s1 rx h1
theorem ev_notT (ha : PT X a (tT C W call ft)) : PT X (.UnaryOp .Not a pos) (tT C W call (cNotT ft)) :=
  (pt_not ha).imp fun σ H Q ⟨ρ, hid, S, env, s, n, h⟩ =>
    ⟨ρ, hid, S, env, s, n, (okR.bind h).imp (fun b S1 ρ1 H1 e1 s1 h1 => okR.here h1 s1) fun _ _ _ _ _ _ _ _ q => q⟩
end
end Ev

set_option Elab.async false
set_option linter.all false
set_option maxRecDepth 100000
set_option maxHeartbeats 1000000
/-! Ev, part 3: the primitives: operators, comparisons, subscripts, built-ins. -/
namespace Ev
open PySem PySem.Spec PyProof.Rows L2

section
variable {C : Cfg} {ρ hid : List Addr} {H : Hp} {S : Sto} {d : D} {v : V}
theorem rd_int {i : Int} (h : Rl C ρ hid H d v) (e : deref S d = .int i) : v = .int i := by
  cases h with
  | int => cases e; rfl
  | ref => simp only [deref] at e; split at e <;> cases e
  | _ => cases e
theorem rd_bl {b : Bool} (h : Rl C ρ hid H d v) (e : deref S d = .bl b) : v = .bl b := by
  cases h with
  | bl => cases e; rfl
  | ref => simp only [deref] at e; split at e <;> cases e
  | _ => cases e
theorem rd_non (h : Rl C ρ hid H d v) (e : deref S d = .non) : v = .non := by
  cases h with
  | non => rfl
  | ref => simp only [deref] at e; split at e <;> cases e
  | _ => cases e
theorem rd_str {x : Str} (h : Rl C ρ hid H d v) (e : deref S d = .str x) : v = .str x ∧ x.length ≤ sizeLine := by
  cases h with
  | str _ z => cases e; exact ⟨rfl, z⟩
  | ref => simp only [deref] at e; split at e <;> cases e
  | _ => cases e
theorem rd_ty {x : String} (h : Rl C ρ hid H d v) (e : deref S d = .ty x) : v = .ty x := by
  cases h with
  | ty _ => cases e; rfl
  | ref => simp only [deref] at e; split at e <;> cases e
  | _ => cases e
theorem rd_tup {ds : List D} (h : Rl C ρ hid H d v) (e : deref S d = .tup ds) : ∃ a vs, v = .ref a ∧ TupA C ρ hid H a vs ∧ RlAll C ρ hid H ds vs := by
  cases h with
  | tup hA r => cases e; exact ⟨_, _, rfl, hA, r⟩
  | ref => simp only [deref] at e; split at e <;> cases e
  | _ => cases e
theorem rd_scr {ds : List D} (h : Rl C ρ hid H d v) (e : deref S d = .scr ds) : ∃ a vs, v = .ref a ∧ ScrA C ρ hid H a vs ∧ RlAll C ρ hid H ds vs := by
  cases h with
  | scr hA r =>
    cases e
    exact ⟨_, _, rfl, hA, r⟩
  | ref => simp only [deref] at e; split at e <;> cases e
  | _ => cases e
theorem rd_lst (s : StoOk C hid ρ H S) {ds : List D} (h : Rl C ρ hid H d v) (e : deref S d = .lst ds) : ∃ a vs, v = .ref a ∧ Rd H a (.lst vs) ∧ vs.length ≤ sizeLine ∧ RlAll C ρ hid H ds vs := by
  cases h with
  | lst hA r =>
    cases e
    exact ⟨_, _, rfl, hA.1.1, hA.1.2, r⟩
  | ref hl =>
    rename_i a l
    simp only [deref] at e
    split at e
    · rename_i es hs
      cases e
      obtain ⟨vs, e1, z, r⟩ := s.obj l a _ hl hs
      exact ⟨_, _, rfl, .inl e1, z, r⟩
    · cases e
    · cases e
  | _ => cases e
theorem DGetR {H : Hp} {a : Addr} {kvs : List (Key × V)} {k : Key} (e : Rd H a (.dK kvs)) : DGet H a (kV k) (valV kvs k) := .inl ⟨kvs, k, e, rfl, rfl⟩
theorem rd_dic (s : StoOk C hid ρ H S) {ds : List (Key × D)} (h : Rl C ρ hid H d v) (e : deref S d = .dic ds) : ∃ a vs, v = .ref a ∧ Rd H a (.dK vs) ∧ RlKv C ρ hid H ds vs := by
  cases h with
  | dic hA n r =>
    cases e
    exact ⟨_, _, rfl, hA, r⟩
  | ref hl =>
    rename_i a l
    simp only [deref] at e
    split at e
    · cases e
    · rename_i es hs
      cases e
      obtain ⟨vs, e1, z, r⟩ := s.obj l a _ hl hs
      exact ⟨_, _, rfl, .inl e1, r⟩
    · cases e
  | _ => cases e
end

/-! ### + -/
section
variable {X : Cx}
def rCatL : R2 := fun x y H Q => ∃ l b xs zs, x = .ref l ∧ y = .ref b ∧ Rd H l (.lst xs) ∧ Rd H b (.lst zs) ∧ xs.length + zs.length ≤ sizeLine ∧ ∀ p, H p = none → Q (.ref p) (upd H p (.lst (xs ++ zs)))
theorem lstAt {pins : List (Addr × Obj)} {σ : L2.St} {H : Hp} {s : Shared} {l : Addr} {xs : List V} (I : Inv X pins σ H s) (h : Rd H l (.lst xs)) : xs.length ≤ sizeLine ∧ ∃ (its : List Value) (n : Nat), Vals xs its ∧ xs.length = its.length ∧ s.heap.get? l = some { cls := .type "list", data := .seq its.toArray n } := by
  obtain ⟨z, its, n, r, e⟩ := h.ok I.hok
  exact ⟨z, its, n, r, r.length, e⟩
theorem op_catL : OpR X (binaryOp .Add) rCatL := by
  intro pins s σ H x y v u Q I rx ry h
  obtain ⟨l, b, xs, zs, rfl, rfl, hH, hB, hz, q⟩ := h
  cases rx
  cases ry
  obtain ⟨z, its, n, r, hl, e⟩ := lstAt I hH
  obtain ⟨z2, its2, n2, r2, hl2, e2⟩ := lstAt I hB
  refine PySem.P.add_list e e2 ?_ (by rw [List.size_toArray, List.size_toArray]; omega)
  have ea : its.toArray ++ its2.toArray = (its ++ its2).toArray := by simp
  rw [ea]
  exact ⟨.ref _, _, I.lnew (t' := s.toks) (r.append r2) (by rw [List.length_append]; omega), rfl, q _ I.fresh⟩
/-- () + u -/
def rCatT0 (K : PySem.W.Frag) : R2 := fun x y H Q => ∃ a b ys, x = .ref a ∧ y = .ref b ∧ SqT K H a [] ∧ SqT K H b ys ∧ Q (.ref b) H
theorem op_catT0 : OpR X (binaryOp .Add) (rCatT0 X.K) := by
  intro pins s σ H x y v u Q I rx ry h
  obtain ⟨a, b, ys, rfl, rfl, ha, hb, q⟩ := h
  cases rx
  cases ry
  obtain ⟨its, r1, p1, _⟩ := I.tuple ha
  obtain ⟨its2, r2, p2, _⟩ := I.tuple hb
  cases r1
  obtain ⟨⟨cls, dd, data, sl⟩, ho, hc, n, hd⟩ := id p1
  obtain ⟨⟨cls2, dd2, data2, sl2⟩, ho2, hc2, n2, hd2⟩ := id p2
  simp only at hc hd hc2 hd2
  subst hc hd hc2 hd2
  exact concat_meets ⟨_, ho, rfl⟩ ⟨_, ho2, rfl⟩ noFill_tuple_add seq_tuple_add PySem.F.slot_tuple_add PySem.F.entry_tuple_add (PySem.F.args_tuple_add_2 _ _)
      (tuple_addW0 a b _ its2.toArray n n2 dd dd2 sl sl2 (by simp)) ⟨ho, ho2, ⟨.ref b, H, I, rfl, q⟩⟩
def rRepL : R2 := fun x y H Q => ∃ l k xs, x = .ref l ∧ y = .int k ∧ Rd H l (.lst xs) ∧ -(2 ^ 63) ≤ k ∧ k < 2 ^ 63 ∧ xs.length * k.toNat ≤ sizeLine ∧
  ∀ p, H p = none → Q (.ref p) (upd H p (.lst (List.replicate k.toNat xs).flatten))
theorem op_repL : OpR X (binaryOp .Mult) rRepL := by
  intro pins s σ H x y v u Q I rx ry h
  obtain ⟨l, k, xs, rfl, rfl, hH, h1, h2, hz, q⟩ := h
  cases rx
  obtain ⟨t, rfl⟩ := ry
  obtain ⟨z, its, n, r, hl, e⟩ := lstAt I hH
  have hlen : its.toArray.size * k.toNat ≤ sizeLine := by rw [List.size_toArray, ← hl]; exact hz
  have hcap : ¬ its.toArray.size * k.toNat > (2 ^ 63 - 1) / 8 := by
    have : (sizeLine : Nat) ≤ (2 ^ 63 - 1) / 8 := by decide
    omega
  have hfit : ¬ (!Builtin.List.listFitsIndex k) = true := by
    rw [fitsIndex_both h1 h2]
    exact Bool.false_ne_true
  have hlong : ¬ Builtin.List.listTooLong (its.toArray.size * k.toNat) = true := by
    rw [notLongL hlen]
    exact Bool.false_ne_true
  have hnew : List.foldl (fun x1 x2 => x1 ++ x2) #[] (List.replicate (if its.toArray.isEmpty = true then 0 else k.toNat) its.toArray) = (List.replicate k.toNat its).flatten.toArray := by
    have f0 : ∀ m : Nat, List.foldl (fun x1 x2 => x1 ++ x2) #[] (List.replicate m its.toArray) = (List.replicate m its).flatten.toArray := fun m => by
      have := foldl_rep its m []
      rw [List.nil_append] at this
      exact this
    rw [f0]
    cases its with
    | nil => simp
    | cons a r' => rw [if_neg (by simp)]
  refine wpAny_binaryOp_repeat_ref (T := "list") (U := "int") (by decide) ⟨_, e, rfl⟩ (fun s' => typeIs_int s' k t) noFill_list_mul F.fills_int_mul F.slot_int_rmul repeat_list F.slot_int_index.lookup
    (call_meets F.slot_int_rmul (typeIs_int s k t) F.entry_int_rmul (F.args_int_rmul_2 _ _) (int___rmul___int_list k t l its.toArray n)
      ⟨e, rfl, ⟨_, e, rfl⟩, call_meets F.slot_list_mul ⟨_, e, rfl⟩ F.entry_list_mul (F.args_list_mul_2 _ _) (AutoListH.list___mul___list_int_3 l its.toArray n k t hfit hcap hlong) ⟨e, ?_⟩⟩)
  rw [hnew]
  exact ⟨.ref _, _, I.lnew (t' := s.toks) (r.rep k.toNat) (by rw [PyProof.Rows.lm_len_rep_flat, Nat.mul_comm]; exact hz), rfl, q _ I.fresh⟩
end
theorem RlAll.rep {C : Cfg} {ρ hid : List Addr} {H : Hp} {ds : List D} {vs : List V} (r : RlAll C ρ hid H ds vs) : ∀ k : Nat, RlAll C ρ hid H (List.replicate k ds).flatten (List.replicate k vs).flatten
  | 0 => .nil
  | k + 1 => by rw [List.replicate_succ, List.replicate_succ, List.flatten_cons, List.flatten_cons]; exact r.append (RlAll.rep r k)

def pAdd (bx : Bool) (x y : D) (S : Sto) : R D := match deref S x, deref S y with
  | .int i, .int j => .ok (.int (i + j)) S
  | .str a, .str b => if a.length + b.length ≤ sizeLine then .ok (.str (a ++ b)) S else .bad
  | .lst a, .lst b => if a.length + b.length ≤ sizeLine then mkL bx (a ++ b) S else .bad
  | .tup a, .tup b => if a.length + b.length ≤ sizeLine then .ok (.tup (a ++ b)) S else .bad
  | _, _ => .bad
def rAddA (K : PySem.W.Frag) : R2 := fun x y H Q => rI0 (fun i j => .int (i + j)) x y H Q ∨ ((∃ i j, x = .str i ∧ y = .str j ∧ i.length + j.length ≤ sizeLine ∧ Q (.str (i ++ j)) H) ∨ (rCatL x y H Q ∨ (rCatF K x y H Q ∨ rCatT0 K x y H Q)))
theorem op_addA {X : Cx} : OpR X (binaryOp .Add) (rAddA X.K) := op_add.or (op_add_str.or (op_catL.or (op_catF.or op_catT0)))
theorem str_len_app (a b : Str) : (a ++ b).length = a.length + b.length := by
  show (a.cps ++ b.cps).size = _
  rw [Array.size_append]
  rfl
theorem p_add {C : Cfg} {bx : Bool} : P2Ok C (rAddA C.K) (pAdd bx) := by
  intro ρ hid H S x y vx vy Q XX s rx ry h
  unfold pAdd at h
  split at h
  · rename_i i j ex ey
    exact .inl ⟨i, j, rd_int rx ex, rd_int ry ey, h.here s _ (.int _)⟩
  · rename_i a b ex ey
    split at h
    · rename_i hz
      exact .inr (.inl ⟨a, b, (rd_str rx ex).1, (rd_str ry ey).1, hz, h.here s _ (.str _ (by rw [str_len_app]; exact hz))⟩)
    · exact h.elim
  · rename_i a b ex ey
    split at h
    · rename_i hz
      obtain ⟨p, vs, rfl, h1, z1, r1⟩ := rd_lst s rx ex
      obtain ⟨p', ws, rfl, h2, z2, r2⟩ := rd_lst s ry ey
      have l1 := r1.length
      have l2 := r2.length
      exact .inr (.inr (.inl ⟨p, p', vs, ws, rfl, rfl, h1, h2, by omega, lay_mkL s (r1.append r2) (by rw [List.length_append]; omega) h⟩))
    · exact h.elim
  · rename_i a b ex ey
    split at h
    · rename_i hz
      obtain ⟨p, vs, rfl, h1, r1⟩ := rd_tup rx ex
      obtain ⟨p', ws, rfl, h2, r2⟩ := rd_tup ry ey
      have l1 := r1.length
      have l2 := r2.length
      cases r1 with
      | nil => exact .inr (.inr (.inr (.inr ⟨p, p', ws, rfl, rfl, h1.sq, h2.sq, h.here s _ (by rw [List.nil_append]; exact .tup h2 r2)⟩)))
      | cons q1 q2 =>
        refine .inr (.inr (.inr (.inl ⟨p, p', _, ws, rfl, rfl, h1.sq, h2.sq, List.cons_ne_nil _ _, by omega, fun e => ?_, fun _ => lay_tup s ((RlAll.cons q1 q2).append r2) (by rw [List.length_append]; omega) h⟩)))
        subst e
        cases r2
        rw [List.append_nil] at h
        exact h.here s _ (.tup h1 (.cons q1 q2))
    · exact h.elim
  · exact h.elim
/-! ### the other operators -/
def pSub (x y : D) (S : Sto) : R D := match x, y with
  | .int i, .int j => .ok (.int (i - j)) S
  | _, _ => .bad
theorem p_sub {C : Cfg} : P2Ok C (rI0 fun i j => .int (i - j)) pSub := by
  intro ρ hid H S x y vx vy Q XX s rx ry h
  unfold pSub at h
  split at h
  · cases rx; cases ry; exact ⟨_, _, rfl, rfl, h.here s _ (.int _)⟩
  · exact h.elim
def pMul (bx : Bool) (x y : D) (S : Sto) : R D := match deref S x, y with
  | .int i, .int j => if (-(2 ^ 64) < i ∧ i < 2 ^ 64) ∨ (-(2 ^ 64) < j ∧ j < 2 ^ 64) then .ok (.int (i * j)) S else .bad
  | .lst a, .int k => if 0 ≤ k ∧ k < 2 ^ 63 ∧ a.length * k.toNat ≤ sizeLine then mkL bx (List.replicate k.toNat a).flatten S else .bad
  | _, _ => .bad
def rMulA : R2 := fun x y H Q => rI CMul (fun i j => .int (i * j)) x y H Q ∨ rRepL x y H Q
theorem op_mulA {X : Cx} : OpR X (binaryOp .Mult) rMulA := op_mul.or op_repL
theorem p_mul {C : Cfg} {bx : Bool} : P2Ok C rMulA (pMul bx) := by
  intro ρ hid H S x y vx vy Q XX s rx ry h
  unfold pMul at h
  split at h
  · rename_i i j ex
    split at h
    · rename_i hz
      cases ry
      exact .inl ⟨_, _, rd_int rx ex, rfl, hz, h.here s _ (.int _)⟩
    · exact h.elim
  · rename_i a k ex
    split at h
    · rename_i hz
      cases ry
      obtain ⟨p, vs, rfl, h1, z1, r1⟩ := rd_lst s rx ex
      have l1 := r1.length
      have hl : vs.length * k.toNat ≤ sizeLine := by rw [← l1]; exact hz.2.2
      exact .inr ⟨p, k, vs, rfl, rfl, h1, by omega, hz.2.1, hl, lay_mkL s (r1.rep k.toNat) (by rw [PyProof.Rows.lm_len_rep_flat, Nat.mul_comm]; exact hl) h⟩
    · exact h.elim
  · exact h.elim
def pMod (x y : D) (S : Sto) : R D := match x, y with
  | .int i, .int j => if 0 < j then .ok (.int (i % j)) S else .bad
  | _, _ => .bad
theorem p_mod {C : Cfg} : P2Ok C (rI (fun _ j => 0 < j) fun i j => .int (i % j)) pMod := by
  intro ρ hid H S x y vx vy Q XX s rx ry h
  unfold pMod at h
  split at h
  · split at h
    · rename_i hz
      cases rx; cases ry; exact ⟨_, _, rfl, rfl, hz, h.here s _ (.int _)⟩
    · exact h.elim
  · exact h.elim
def pFdiv (x y : D) (S : Sto) : R D := match x, y with
  | .int i, .int j => if 0 < j ∧ j < 1073741824 then .ok (.int (i / j)) S else .bad
  | _, _ => .bad
theorem p_fdiv {C : Cfg} : P2Ok C (rI CDiv fun i j => .int (i / j)) pFdiv := by
  intro ρ hid H S x y vx vy Q XX s rx ry h
  unfold pFdiv at h
  split at h
  · split at h
    · rename_i hz
      cases rx; cases ry; exact ⟨_, _, rfl, rfl, hz, h.here s _ (.int _)⟩
    · exact h.elim
  · exact h.elim
def pPow (x y : D) (S : Sto) : R D := match x, y with
  | .int i, .int j => if 0 ≤ j ∧ j ≤ 1000000 ∧ i.natAbs < 2 ^ 64 then .ok (.int (i ^ j.toNat)) S else .bad
  | _, _ => .bad
theorem p_pow {C : Cfg} : P2Ok C (rI CPow fun i j => .int (i ^ j.toNat)) pPow := by
  intro ρ hid H S x y vx vy Q XX s rx ry h
  unfold pPow at h
  split at h
  · split at h
    · rename_i hz
      cases rx; cases ry; exact ⟨_, _, rfl, rfl, hz, h.here s _ (.int _)⟩
    · exact h.elim
  · exact h.elim
def pNeg (x : D) (S : Sto) : R D := match x with
  | .int i => .ok (.int (-i)) S
  | _ => .bad

/-! ### comparisons -/
def pEq (neg : Bool) (x y : D) (S : Sto) : R D := match eqD (deref S x) (deref S y) with
  | some b => .ok (.bl (if neg then !b else b)) S
  | none => .bad
theorem p_eq {C : Cfg} {neg : Bool} : P2Ok C (rEqA C.K neg) (pEq neg) := by
  intro ρ hid H S x y vx vy Q XX s rx ry h
  unfold pEq eqD at h
  split at h
  · rename_i b eb
    split at eb
    · rename_i p q e1 e2
      split at eb
      · rename_i hz
        cases eb
        obtain ⟨d1, c1⟩ := py_dpS s rx e1
        obtain ⟨d2, c2⟩ := py_dpS s ry e2
        exact ⟨p, q, d1, d2, c1, c2, hz, h.here s _ (.bl _)⟩
      · cases eb
    · cases eb
  · exact h.elim
def keyOf : D → Option Key
  | .int i => some (.inl i)
  | .str x => some (.inr x)
  | _ => none
def valD (kvs : List (Key × D)) (k : Key) : Option D := (kvs.find? fun kv => decide (kv.1 = k)).map (·.2)
theorem RlKv.val {C : Cfg} {ρ hid : List Addr} {H : Hp} : ∀ {ds : List (Key × D)} {vs : List (Key × V)} (k : Key), RlKv C ρ hid H ds vs → (valD ds k = none ∧ valV vs k = none) ∨ ∃ d v, valD ds k = some d ∧ valV vs k = some v ∧ Rl C ρ hid H d v
  | _, _, _, .nil => .inl ⟨rfl, rfl⟩
  | _, _, k, .cons (k := j) (d := d) (v := v) (ds := ds) (vs := vs) h r => by
    by_cases e : j = k
    · exact .inr ⟨d, v, by simp [valD, e], valV_pos e, h⟩
    · have e1 : valD ((j, d) :: ds) k = valD ds k := by simp [valD, List.find?_cons, e]
      rw [e1, valV_neg (p := (j, v)) e]
      exact RlKv.val k r
theorem rl_key {C : Cfg} {ρ hid : List Addr} {H : Hp} {d : D} {v : V} {k : Key} (h : Rl C ρ hid H d v) (e : keyOf d = some k) : v = kV k := by
  cases h with
  | int i => cases e; rfl
  | str x _ => cases e; rfl
  | _ => cases e
def strIn (x y : Str) : Bool := !(Builtin.Str.occurrences y x 0 y.length 1).isEmpty
def pIn (neg : Bool) (x y : D) (S : Sto) : R D := match deref S y with
  | .str b => match x with
    | .str a => .ok (.bl (if neg then !strIn a b else strIn a b)) S
    | _ => .bad
  | .dic kvs => match keyOf x with
    | some k => .ok (.bl (if neg then !(valD kvs k).isSome else (valD kvs k).isSome)) S
    | none => .bad
  | c => match inD x c with
    | some b => .ok (.bl (if neg then !b else b)) S
    | none => .bad
def rInDic : R2 := fun x y H Q => ∃ a o, y = .ref a ∧ DGet H a x o ∧ Q (.bl o.isSome) H
def rNotInDic : R2 := fun x y H Q => ∃ a o, y = .ref a ∧ DGet H a x o ∧ Q (.bl (!o.isSome)) H
section
variable {X : Cx}
theorem op_inDic (hu : X.A.units + 200 < cLine) : OpR X (compareOp .In) rInDic := by
  intro pins s σ H x y v u Q I rx ry h
  obtain ⟨a, o, rfl, g, q⟩ := h
  cases ry
  exact d_in (by omega) I g rx fun s' I' => ⟨.bl _, H, I', rfl, q⟩
theorem op_notInDic (hu : X.A.units + 200 < cLine) : OpR X (compareOp .NotIn) rNotInDic := by
  intro pins s σ H x y v u Q I rx ry h
  obtain ⟨a, o, rfl, g, q⟩ := h
  cases ry
  exact d_notIn (by omega) I g rx fun s' I' => ⟨.bl _, H, I', rfl, q⟩
def rInAll (K : PySem.W.Frag) : R2 := fun x y H Q => (∃ i j, x = .str i ∧ y = .str j ∧ Q (.bl (strIn i j)) H) ∨ (rInDic x y H Q ∨ rInA K false x y H Q)
def rNotInAll (K : PySem.W.Frag) : R2 := fun x y H Q => (∃ i j, x = .str i ∧ y = .str j ∧ Q (.bl (!strIn i j)) H) ∨ (rNotInDic x y H Q ∨ rInA K true x y H Q)
theorem op_inAll (hu : X.A.units + 200 < cLine) : OpR X (compareOp .In) (rInAll X.K) := op_in_str.or ((op_inDic hu).or (op_inA hu))
theorem op_notInAll (hu : X.A.units + 200 < cLine) : OpR X (compareOp .NotIn) (rNotInAll X.K) := op_notin_str.or ((op_notInDic hu).or (op_notInA hu))
end
theorem in_dat {C : Cfg} {ρ hid : List Addr} {H : Hp} {S : Sto} {x c : D} {vx vc : V} {b : Bool} (s : StoOk C hid ρ H S) (rx : Rl C ρ hid H x vx) (rc : Rl C ρ hid H c vc) (e : inD x (deref S c) = some b) :
    ∃ d ds, Dp C.K H vx d ∧ (Dp C.K H vc (.list ds) ∨ Dp C.K H vc (.tuple ds)) ∧ d.canLay0 = true ∧ PyData.canLayAll0 ds = true ∧ min (PyData.depthAll ds) d.depth ≤ 180 ∧ b = ds.any fun z => PyData.eqv z d := by
  unfold inD at e
  split at e
  · rename_i ps p e1 e2
    split at e
    · rename_i hz
      cases e
      obtain ⟨d1, c1⟩ := py_dpS s rc e1
      obtain ⟨d2, c2⟩ := py_dp rx e2
      exact ⟨p, ps, d2, .inl d1, c2, by simpa [PyData.canLay0] using c1, hz, rfl⟩
    · cases e
  · rename_i ps p e1 e2
    split at e
    · rename_i hz
      cases e
      obtain ⟨d1, c1⟩ := py_dpS s rc e1
      obtain ⟨d2, c2⟩ := py_dp rx e2
      exact ⟨p, ps, d2, .inr d1, c2, by simpa [PyData.canLay0] using c1, hz, rfl⟩
    · cases e
  · cases e
theorem p_in {C : Cfg} : P2Ok C (rInAll C.K) (pIn false) := by
  intro ρ hid H S x y vx vy Q XX s rx ry h
  unfold pIn at h
  split at h
  · rename_i b ey
    split at h
    · cases rx
      exact .inl ⟨_, _, rfl, (rd_str ry ey).1, h.here s _ (.bl _)⟩
    · exact h.elim
  · rename_i kvs ey
    split at h
    · rename_i k ek
      obtain ⟨a, ws, rfl, hA, r⟩ := rd_dic s ry ey
      have hv := rl_key rx ek
      subst hv
      have q := h.here s _ (.bl _)
      refine .inr (.inl ⟨a, _, rfl, DGetR hA, ?_⟩)
      rcases r.val k with ⟨q1, q2⟩ | ⟨d, v, q1, q2, _⟩
      · rw [q2]; rw [q1] at q; exact q
      · rw [q2]; rw [q1] at q; exact q
    · exact h.elim
  · split at h
    · rename_i b eb
      obtain ⟨d, ds, h1, h2, h3, h4, h5, rfl⟩ := in_dat s rx ry eb
      exact .inr (.inr ⟨d, ds, h1, h2, h3, h4, h5, h.here s _ (.bl _)⟩)
    · exact h.elim
theorem p_notIn {C : Cfg} : P2Ok C (rNotInAll C.K) (pIn true) := by
  intro ρ hid H S x y vx vy Q XX s rx ry h
  unfold pIn at h
  split at h
  · rename_i b ey
    split at h
    · cases rx
      exact .inl ⟨_, _, rfl, (rd_str ry ey).1, h.here s _ (.bl _)⟩
    · exact h.elim
  · rename_i kvs ey
    split at h
    · rename_i k ek
      obtain ⟨a, ws, rfl, hA, r⟩ := rd_dic s ry ey
      have hv := rl_key rx ek
      subst hv
      have q := h.here s _ (.bl _)
      refine .inr (.inl ⟨a, _, rfl, DGetR hA, ?_⟩)
      rcases r.val k with ⟨q1, q2⟩ | ⟨d, v, q1, q2, _⟩
      · rw [q2]; rw [q1] at q; exact q
      · rw [q2]; rw [q1] at q; exact q
    · exact h.elim
  · split at h
    · rename_i b eb
      obtain ⟨d, ds, h1, h2, h3, h4, h5, rfl⟩ := in_dat s rx ry eb
      exact .inr (.inr ⟨d, ds, h1, h2, h3, h4, h5, h.here s _ (.bl _)⟩)
    · exact h.elim
/-- is None -/
def pIs (neg : Bool) (x y : D) (S : Sto) : R D := match x, y with
  | .non, .non => .ok (.bl (!neg)) S
  | _, .non => .ok (.bl neg) S
  | _, _ => .bad
def rIsA (neg : Bool) : R2 := fun x y H Q => y = .non ∧ Q (.bl (if neg then !decide (x = .non) else decide (x = .non))) H
theorem p_is {C : Cfg} {neg : Bool} : P2Ok C (rIsA neg) (pIs neg) := by
  intro ρ hid H S x y vx vy Q XX s rx ry h
  cases ry with
  | non =>
    refine ⟨rfl, ?_⟩
    cases rx with
    | non => have q := h.here s _ (.bl _); cases neg <;> exact q
    | _ => have q := h.here s _ (.bl _); cases neg <;> exact q
  | _ => cases rx <;> exact h.elim
/-- < and its like: ints, and < of texts -/
def pLt (x y : D) (S : Sto) : R D := match x, y with
  | .int i, .int j => .ok (.bl (decide (i < j))) S
  | .str i, .str j => .ok (.bl (decide (i.cps.toList < j.cps.toList))) S
  | _, _ => .bad
def rLtA : R2 := fun x y H Q => rI0 (fun i j => .bl (decide (i < j))) x y H Q ∨ (∃ i j, x = .str i ∧ y = .str j ∧ Q (.bl (decide (i.cps.toList < j.cps.toList))) H)
theorem op_ltA {X : Cx} : OpR X (compareOp .Lt) rLtA := op_lt.or op_lt_str
theorem p_lt {C : Cfg} : P2Ok C rLtA pLt := by
  intro ρ hid H S x y vx vy Q XX s rx ry h
  unfold pLt at h
  split at h
  · cases rx; cases ry; exact .inl ⟨_, _, rfl, rfl, h.here s _ (.bl _)⟩
  · cases rx; cases ry; exact .inr ⟨_, _, rfl, rfl, h.here s _ (.bl _)⟩
  · exact h.elim
def pLe (x y : D) (S : Sto) : R D := match x, y with
  | .int i, .int j => .ok (.bl (decide (i ≤ j))) S
  | .str i, .str j => .ok (.bl (!decide (j.cps.toList < i.cps.toList))) S
  | _, _ => .bad
def rLeA : R2 := fun x y H Q => rI0 (fun i j => .bl (decide (i ≤ j))) x y H Q ∨ (∃ i j, x = .str i ∧ y = .str j ∧ Q (.bl (!decide (j.cps.toList < i.cps.toList))) H)
theorem op_leA {X : Cx} : OpR X (compareOp .LtE) rLeA := op_le.or op_le_str
theorem p_le {C : Cfg} : P2Ok C rLeA pLe := by
  intro ρ hid H S x y vx vy Q XX s rx ry h
  unfold pLe at h
  split at h
  · cases rx; cases ry; exact .inl ⟨_, _, rfl, rfl, h.here s _ (.bl _)⟩
  · cases rx; cases ry; exact .inr ⟨_, _, rfl, rfl, h.here s _ (.bl _)⟩
  · exact h.elim
def pCmpI (f : Int → Int → Bool) (x y : D) (S : Sto) : R D := match x, y with
  | .int i, .int j => .ok (.bl (f i j)) S
  | _, _ => .bad
theorem p_cmpI {C : Cfg} {f : Int → Int → Bool} : P2Ok C (rI0 fun i j => .bl (f i j)) (pCmpI f) := by
  intro ρ hid H S x y vx vy Q XX s rx ry h
  unfold pCmpI at h
  split at h
  · cases rx; cases ry; exact ⟨_, _, rfl, rfl, h.here s _ (.bl _)⟩
  · exact h.elim
/-! ### subscripts -/
theorem RlAll.atI {C : Cfg} {ρ hid : List Addr} {H : Hp} {ds : List D} {vs : List V} {i : Int} {d : D} (r : RlAll C ρ hid H ds vs) (h : L2.atI ds i = some d) : ∃ v, L2.atI vs i = some v ∧ Rl C ρ hid H d v := by
  unfold L2.atI at h ⊢
  rw [← r.length]
  cases q : ixN ds.length i with
  | none => rw [q] at h; cases h
  | some j =>
    rw [q] at h
    exact r.get h
def pIx (x y : D) (S : Sto) : R D := match deref S x, y with
  | .tup ds, .int i => match L2.atI ds i with
    | some d => .ok d S
    | none => .bad
  | .lst ds, .int i => match L2.atI ds i with
    | some d => .ok d S
    | none => .bad
  | .str z, .int i => match L2.atI z.cps.toList i with
    | some c => .ok (.str ⟨#[c]⟩) S
    | none => .bad
  | .dic kvs, k => match (keyOf k).bind (valD kvs) with
    | some d => .ok d S
    | none => .bad
  | _, _ => .bad
def rIxDic : R2 := fun x y H Q => ∃ a v, x = .ref a ∧ DGet H a y (some v) ∧ Q v H
section
variable {X : Cx}
theorem ix_dic (hu : X.A.units + 200 < cLine) : IxR X rIxDic := by
  intro value slice pins s σ H x y v u Q I rx ry h hs
  obtain ⟨a, z, rfl, g, q⟩ := h
  cases rx
  exact tail_any (dict_typeIs I g) PySem.F.slot_dict_getitem.lookup (d_getItem (by omega) I g ry fun w' s' I' r' => ⟨z, H, I', r', q⟩) hs
def rIxA (K : PySem.W.Frag) : R2 := fun x y H Q => rIx K x y H Q ∨ rIxDic x y H Q
theorem ix_all (hu : X.A.units + 200 < cLine) : IxR X (rIxA X.K) := ix_seq.or (ix_dic hu)
end
theorem p_ix {C : Cfg} : P2Ok C (rIxA C.K) pIx := by
  intro ρ hid H S x y vx vy Q XX s rx ry h
  unfold pIx at h
  split at h
  · rename_i ds i ex
    split at h
    · rename_i d hd
      obtain ⟨a, vs, rfl, hA, r⟩ := rd_tup rx ex
      obtain ⟨v, hv, rv⟩ := r.atI hd
      cases ry
      exact .inl (.inr (.inl ⟨a, vs, _, v, rfl, rfl, hA.sq, hv, h.here s _ rv⟩))
    · exact h.elim
  · rename_i ds i ex
    split at h
    · rename_i d hd
      obtain ⟨a, vs, rfl, hA, z, r⟩ := rd_lst s rx ex
      obtain ⟨v, hv, rv⟩ := r.atI hd
      cases ry
      exact .inl (.inl ⟨a, vs, _, v, rfl, rfl, .inl hA, hv, h.here s _ rv⟩)
    · exact h.elim
  · rename_i z i ex
    split at h
    · rename_i c hc
      obtain ⟨rfl, hz⟩ := rd_str rx ex
      cases ry
      exact .inl (.inr (.inr ⟨z, _, c, rfl, rfl, hz, hc, h.here s _ (.str _ (by show 1 ≤ sizeLine; decide))⟩))
    · exact h.elim
  · rename_i kvs k ex
    split at h
    · rename_i d hd
      obtain ⟨k', hk, hd⟩ := Option.bind_eq_some_iff.mp hd
      obtain ⟨a, ws, rfl, hA, r⟩ := rd_dic s rx ex
      have hv := rl_key ry hk
      subst hv
      rcases r.val k' with ⟨q1, q2⟩ | ⟨d', v, q1, q2, rv⟩
      · rw [q1] at hd; cases hd
      · rw [q1] at hd; cases hd
        exact .inr ⟨a, v, rfl, by rw [← q2]; exact DGetR hA, h.here s _ rv⟩
    · exact h.elim
  · exact h.elim
end Ev

set_option Elab.async false
set_option linter.all false
set_option maxRecDepth 100000
set_option maxHeartbeats 1000000
/-! Ev, part 4: displays, slices, calls, tests, comparisons. -/
namespace Ev
open PySem PySem.Spec PyProof.Rows L2

/-! ### displays -/
def pTup (ds : List D) (S : Sto) : R D := if ds.length ≤ sizeLine then .ok (.tup ds) S else .bad
def pLst (bx : Bool) (ds : List D) (S : Sto) : R D := if ds.length ≤ sizeLine then mkL bx ds S else .bad
/-! ### slices -/
def cutD {α : Type} (xs : List α) (lo hi : Option Int) : List α := (xs.drop (HT.sIx xs.length 0 lo)).take (HT.sIx xs.length xs.length hi - HT.sIx xs.length 0 lo)
abbrev EO := Call → Env' → Sto → R (Option Int)
def cNoPart : EO := fun _ _ S => .ok none S
def cPart (f : EE) : EO := fun call env S => (f call env S).bind fun x S1 => match x with
  | .int i => .ok (some i) S1
  | _ => .bad
def pSl (bx : Bool) (x : D) (lo hi : Option Int) (S : Sto) : R D := match deref S x with
  | .tup ds => .ok (.tup (cutD ds lo hi)) S
  | .lst ds => mkL bx (cutD ds lo hi) S
  | .str z => .ok (.str (cutS z lo hi)) S
  | _ => .bad
def cSl (bx : Bool) (fe : EE) (fl fh : EO) : EE := fun call env S => (fe call env S).bind fun x S1 => (fl call env S1).bind fun lo S2 => (fh call env S2).bind fun hi S3 => pSl bx x lo hi S3
def tO (C : Cfg) (W : WX) (call : Call) (f : EO) : TO := fun σ H Q => ∃ ρ hid S env, StoOk C hid ρ H S ∧ EnvOk C ρ hid H env σ ∧
  okR C hid ρ H (f call env S) (fun o _ _ H' => Q o H') (xOut C hid W)
/-- a comprehension's or a display's element: bools -/
def boolsOf : List D → Option (List Bool)
  | [] => some []
  | .bl b :: r => (boolsOf r).map (b :: ·)
  | _ => none
def intsOf : List D → Option (List Int)
  | [] => some []
  | .int b :: r => (intsOf r).map (b :: ·)
  | _ => none
def strsOf : List D → Option (List Str)
  | [] => some []
  | .str b :: r => (strsOf r).map (b :: ·)
  | _ => none
section
variable {C : Cfg} {ρ hid : List Addr} {H : Hp}
theorem rl_bools : ∀ {ds : List D} {vs : List V} {bs : List Bool}, RlAll C ρ hid H ds vs → boolsOf ds = some bs → vs = bs.map V.bl
  | [], _, _, .nil, e => by simp [boolsOf] at e; subst e; rfl
  | d :: ds, _, _, .cons h r, e => by
    cases h with
    | bl b =>
      simp only [boolsOf] at e
      obtain ⟨bs, e1, rfl⟩ := Option.map_eq_some_iff.mp e
      rw [rl_bools r e1] <;> rfl
    | _ => simp [boolsOf] at e
theorem rl_ints : ∀ {ds : List D} {vs : List V} {bs : List Int}, RlAll C ρ hid H ds vs → intsOf ds = some bs → vs = bs.map V.int
  | [], _, _, .nil, e => by simp [intsOf] at e; subst e; rfl
  | d :: ds, _, _, .cons h r, e => by
    cases h with
    | int b =>
      simp only [intsOf] at e
      obtain ⟨bs, e1, rfl⟩ := Option.map_eq_some_iff.mp e
      rw [rl_ints r e1] <;> rfl
    | _ => simp [intsOf] at e
theorem rl_strs : ∀ {ds : List D} {vs : List V} {bs : List Str}, RlAll C ρ hid H ds vs → strsOf ds = some bs → vs = bs.map V.str ∧ ∀ x ∈ bs, x.length ≤ sizeLine
  | [], _, _, .nil, e => by simp [strsOf] at e; subst e; exact ⟨rfl, fun _ h => by simp at h⟩
  | d :: ds, _, _, .cons h r, e => by
    cases h with
    | str b z =>
      simp only [strsOf] at e
      obtain ⟨bs, e1, rfl⟩ := Option.map_eq_some_iff.mp e
      obtain ⟨q1, q2⟩ := rl_strs r e1
      refine ⟨by rw [q1] <;> rfl, fun x hx => ?_⟩
      rcases List.mem_cons.mp hx with rfl | hx
      · exact z
      · exact q2 x hx
    | _ => simp [strsOf] at e
end

section
variable {X : Cx} {C : Cfg} {W : WX} {call : Call} {fa fb fc fe : EE} {fr : EA} {ft fu : EB} {fl fh : EO} {a b e : Expr} {es rest : List Expr} {pos p : Pos} {lo hi : Option Expr}
theorem ev_tup {x1 : Nat} (h : PA X es (tA C W call fr)) : PE X (.Tuple es x1 pos) (tE C W call (cPrim pTup fr)) := by
  refine ev_prim (r := fun xs H Q => xs.length ≤ sizeLine ∧ newT H xs Q) (fun ρ hid H S ds vs Q XX s r h => ?_) (pe_tupF h)
  unfold pTup at h
  split at h
  · rename_i hz
    rw [r.length] at hz
    exact ⟨hz, lay_tup s r hz h⟩
  · exact h.elim
theorem ev_lst {bx : Bool} (h : PA X es (tA C W call fr)) : PE X (.List es pos) (tE C W call (cPrim (pLst bx) fr)) := by
  refine ev_prim (r := fun xs H1 Q => xs.length ≤ sizeLine ∧ ∀ p, H1 p = none → Q (.ref p) (upd H1 p (.lst xs))) (fun ρ hid H S ds vs Q XX s r h => ?_) (pe_lst h)
  unfold pLst at h
  split at h
  · rename_i hz
    rw [r.length] at hz
    exact ⟨hz, lay_mkL s r hz h⟩
  · exact h.elim
theorem ev_ix (g : Good X C) (ha : PE X a (tE C W call fa)) (hb : PE X b (tE C W call fb)) (hs : PlainIx b) : PE X (.Subscript a b pos) (tE C W call (cBin pIx fa fb)) :=
  ev_op (C := C) (r := rIxA C.K) p_ix (by rw [← g.K]; exact pe_ix (ix_all g.hu) ha hb hs)
theorem ev_noPart : PO X none (tO C W call cNoPart) := ⟨fun pins s σ H Q I ⟨ρ, hid, S, env, so, n, h⟩ => po_none.run pins s σ H Q I (h.here so)⟩
theorem ev_part (h : PE X e (tE C W call fe)) : PO X (some e) (tO C W call (cPart fe)) := ⟨fun pins s σ H Q I ⟨ρ, hid, S, env, so, n, q⟩ => by
  refine (po_some h).run pins s σ H Q I ⟨ρ, hid, S, env, so, n, (okR.bind q).imp (fun x S1 ρ1 H1 e1 s1 h1 vx rx => ?_) fun _ _ _ _ _ _ _ _ q => q⟩
  split at h1
  · cases rx
    exact ⟨_, rfl, okR.here h1 s1⟩
  · exact h1.elim⟩
def rSlAll (K : PySem.W.Frag) : V → Option Int → Option Int → Hp → VK → Prop := fun x lo hi H Q => rSlF K x lo hi H Q ∨ (rSlL K x lo hi H Q ∨ rSlS x lo hi H Q)
theorem sl_all : SlR X (rSlAll X.K) := sl_tupF.or (sl_list.or sl_str)
theorem RlAll.cut {ρ hid : List Addr} {H : Hp} {ds : List D} {vs : List V} (r : RlAll C ρ hid H ds vs) (lo hi : Option Int) : RlAll C ρ hid H (cutD ds lo hi) (cutV vs lo hi) := by
  unfold cutD cutV
  rw [r.length]
  exact (r.drop _).take _
theorem cutV_whole {vs : List V} {lo hi : Option Int} (h : HT.sIx vs.length 0 lo = 0 ∧ HT.sIx vs.length vs.length hi = vs.length) : cutV vs lo hi = vs := by
  unfold cutV
  rw [h.1, h.2]
  simp
theorem ev_sl {bx : Bool} {p2 : Pos} (g : Good X C) (he : PE X e (tE C W call fe)) (hl : PO X lo (tO C W call fl)) (hh : PO X hi (tO C W call fh)) : PE X (.Subscript e (.Slice lo hi none p2) pos) (tE C W call (cSl bx fe fl fh)) := by
  have h0 := pe_slice (pos := pos) (p2 := p2) sl_all he hl hh
  rw [g.K] at h0
  refine h0.imp fun σ H Q ⟨ρ, hid, S, env, s, n, h⟩ => ?_
  refine ⟨ρ, hid, S, env, s, n, (okR.bind h).imp (fun x S1 ρ1 H1 e1 s1 h1 vx rx => ?_) fun _ _ _ _ _ _ _ _ q => q⟩
  refine ⟨ρ1, hid, S1, env, s1, n.ext e1, (okR.bind h1).imp (fun l S2 ρ2 H2 e2 s2 h2 => ?_) fun _ _ _ _ _ _ _ _ q => q⟩
  refine ⟨ρ2, hid, S2, env, s2, (n.ext e1).ext e2, (okR.bind h2).imp (fun u S3 ρ3 H3 e3 s3 h3 => ?_) fun _ _ _ _ _ _ _ _ q => q⟩
  have r3 := (rx.ext e2).ext e3
  unfold pSl at h3
  split at h3
  · rename_i ds ex
    obtain ⟨a, vs, rfl, hA, r⟩ := rd_tup r3 ex
    refine .inl ⟨a, vs, rfl, hA.sq, ?_⟩
    have rc := r.cut l u
    split
    · rename_i w
      rw [cutV_whole w] at rc
      exact okR.here h3 s3 _ (.tup hA rc)
    · exact lay_tup s3 rc (Nat.le_trans (cutV_length _ _ _) hA.size) h3
  · rename_i ds ex
    obtain ⟨a, vs, rfl, hA, z, r⟩ := rd_lst s3 r3 ex
    exact .inr (.inl ⟨a, vs, rfl, .inl hA, lay_mkL s3 (r.cut l u) (Nat.le_trans (cutV_length _ _ _) z) h3⟩)
  · rename_i z ex
    obtain ⟨rfl, hz⟩ := rd_str r3 ex
    exact .inr (.inr ⟨z, rfl, hz, okR.here h3 s3 _ (.str _ (Nat.le_trans (cutS_length _ _ _) hz))⟩)
  · exact h3.elim

/-! ### conditional expressions, and, or, not -/
theorem ev_if {c : Expr} (hc : PT X c (tT C W call ft)) (ha : PE X a (tE C W call fa)) (hb : PE X b (tE C W call fb)) : PE X (.IfExp c a b pos) (tE C W call (cIf ft fa fb)) :=
  (pe_ifExp hc ha hb).imp fun σ H Q ⟨ρ, hid, S, env, s, n, h⟩ => by
    refine ⟨ρ, hid, S, env, s, n, (okR.bind h).imp (fun k S1 ρ1 H1 e1 s1 h1 => ?_) fun _ _ _ _ _ _ _ _ q => q⟩
    cases k with
    | true => exact ⟨ρ1, hid, S1, env, s1, n.ext e1, h1⟩
    | false => exact ⟨ρ1, hid, S1, env, s1, n.ext e1, h1⟩
theorem ev_one {op : BoolOp} (h : PE X a (tE C W call fa)) : PE X (.BoolOp op [a] pos) (tE C W call fa) := pe_one h
theorem ev_andV (g : Good X C) (ha : PE X a (tE C W call fa)) (hb : PE X (.BoolOp .And (b :: rest) pos) (tE C W call fb)) : PE X (.BoolOp .And (a :: b :: rest) pos) (tE C W call (cAndV fa fb)) :=
  (pe_andT ha hb).imp fun σ H Q ⟨ρ, hid, S, env, s, n, h⟩ => by
    refine ⟨ρ, hid, S, env, s, n, (okR.bind h).imp (fun x S1 ρ1 H1 e1 s1 h1 vx rx => ?_) fun _ _ _ _ _ _ _ _ q => q⟩
    obtain ⟨k, tk, h2⟩ := truthD_ok s1 rx (okR.bind h1)
    rw [g.K]
    refine ⟨k, tk, ?_⟩
    cases k with
    | true => exact ⟨ρ1, hid, S1, env, s1, n.ext e1, h2⟩
    | false => exact okR.here h2 s1 _ rx
theorem ev_orV (g : Good X C) (ha : PE X a (tE C W call fa)) (hb : PE X (.BoolOp .Or (b :: rest) pos) (tE C W call fb)) : PE X (.BoolOp .Or (a :: b :: rest) pos) (tE C W call (cOrV fa fb)) :=
  (pe_orT ha hb).imp fun σ H Q ⟨ρ, hid, S, env, s, n, h⟩ => by
    refine ⟨ρ, hid, S, env, s, n, (okR.bind h).imp (fun x S1 ρ1 H1 e1 s1 h1 vx rx => ?_) fun _ _ _ _ _ _ _ _ q => q⟩
    obtain ⟨k, tk, h2⟩ := truthD_ok s1 rx (okR.bind h1)
    rw [g.K]
    refine ⟨k, tk, ?_⟩
    cases k with
    | true => exact okR.here h2 s1 _ rx
    | false => exact ⟨ρ1, hid, S1, env, s1, n.ext e1, h2⟩
theorem ev_notV (g : Good X C) (ha : PE X a (tE C W call fa)) : PE X (.UnaryOp .Not a pos) (tE C W call (cNotV fa)) :=
  (pe_notT ha).imp fun σ H Q ⟨ρ, hid, S, env, s, n, h⟩ => by
    refine ⟨ρ, hid, S, env, s, n, (okR.bind h).imp (fun x S1 ρ1 H1 e1 s1 h1 vx rx => ?_) fun _ _ _ _ _ _ _ _ q => q⟩
    obtain ⟨k, tk, h2⟩ := truthD_ok s1 rx (okR.bind h1)
    rw [g.K]
    exact ⟨k, tk, okR.here h2 s1 _ (.bl _)⟩
theorem ev_neg (ha : PE X a (tE C W call fa)) : PE X (.UnaryOp .USub a pos) (tE C W call (cUn pNeg fa)) := by
  refine ev_un (r := rU fun i => .int (-i)) (fun ρ hid H S x vx Q XX s rx h => ?_) (pe_un un_neg ha)
  unfold pNeg at h
  split at h
  · cases rx; exact ⟨_, rfl, h.here s _ (.int _)⟩
  · exact h.elim
/-! tests -/
theorem ev_oneT {op : BoolOp} (h : ∀ whole, isTrue (.BoolOp op [a] pos) X.env whole = isTrue (.BoolOp op [a] pos) X.env whole) (ha : PW X (.BoolOp op [a] pos) (tT C W call ft)) : PT X (.BoolOp op [a] pos) (tT C W call ft) := ha.pt
theorem PW.imp {t t' : TT} (h : PW X e t) (i : ∀ σ H Q, t' σ H Q → t σ H Q) : PW X e t' := ⟨fun wh pins s σ H Q I q => h.run wh pins s σ H Q I (i _ _ _ q)⟩
theorem ev_andT (ha : PT X a (tT C W call ft)) (hb : PW X (.BoolOp .And (b :: rest) pos) (tT C W call fu)) : PW X (.BoolOp .And (a :: b :: rest) pos) (tT C W call (cAndT ft fu)) :=
  PW.imp (pw_and ha hb) fun σ H Q ⟨ρ, hid, S, env, s, n, h⟩ => by
    refine ⟨ρ, hid, S, env, s, n, (okR.bind h).imp (fun k S1 ρ1 H1 e1 s1 h1 => ?_) fun _ _ _ _ _ _ _ _ q => q⟩
    cases k with
    | true => exact ⟨ρ1, hid, S1, env, s1, n.ext e1, h1⟩
    | false => exact okR.here h1 s1
theorem ev_orT (ha : PT X a (tT C W call ft)) (hb : PW X (.BoolOp .Or (b :: rest) pos) (tT C W call fu)) : PW X (.BoolOp .Or (a :: b :: rest) pos) (tT C W call (cOrT ft fu)) :=
  PW.imp (pw_or ha hb) fun σ H Q ⟨ρ, hid, S, env, s, n, h⟩ => by
    refine ⟨ρ, hid, S, env, s, n, (okR.bind h).imp (fun k S1 ρ1 H1 e1 s1 h1 => ?_) fun _ _ _ _ _ _ _ _ q => q⟩
    cases k with
    | true => exact okR.here h1 s1
    | false => exact ⟨ρ1, hid, S1, env, s1, n.ext e1, h1⟩
/-! ### comparisons -/
theorem ev_cmp {op : CmpOp} {r : R2} {q : D → D → Sto → R D} (ho : OpR X (compareOp op) r) (hq : P2Ok C r q) (ha : PE X a (tE C W call fa)) (hb : PE X b (tE C W call fb)) (hm : behindInMarks op b = false) : PE X (.Compare a [op] [b] pos) (tE C W call (cBin q fa fb)) :=
  ev_op hq (pe_cmpR ho ha hb hm)
theorem tTest_of {f : EE} {t : TE} (h : ∀ σ H Q, tE C W call f σ H Q → t σ H Q) : ∀ σ H Q, tT C W call (cB f) σ H Q → tTest t σ H Q := fun σ H Q ⟨ρ, hid, S, env, s, n, q⟩ => by
  refine h σ H _ ⟨ρ, hid, S, env, s, n, (okR.bind q).imp (fun x S1 ρ1 H1 e1 s1 h1 vx rx => ?_) fun _ _ _ _ _ _ _ _ q => q⟩
  split at h1
  · cases rx
    exact ⟨_, rfl, okR.here h1 s1⟩
  · exact h1.elim
theorem op_step {r : R2} {q : D → D → Sto → R D} (hq : P2Ok C r q) : ∀ σ H Q, tE C W call (cBin q fa fb) σ H Q → tOp r (tE C W call fa) (tE C W call fb) σ H Q := fun σ H Q ⟨ρ, hid, S, env, s, n, h⟩ => by
  refine ⟨ρ, hid, S, env, s, n, (okR.bind h).imp (fun x S1 ρ1 H1 e1 s1 h1 vx rx => ?_) fun _ _ _ _ _ _ _ _ q => q⟩
  refine ⟨ρ1, hid, S1, env, s1, n.ext e1, (okR.bind h1).imp (fun y S2 ρ2 H2 e2 s2 h2 vy ry => ?_) fun _ _ _ _ _ _ _ _ q => q⟩
  exact hq ρ2 hid H2 S2 x y vx vy Q _ s2 (rx.ext e2) ry h2
theorem ev_cmpT {op : CmpOp} {r : R2} {q : D → D → Sto → R D} (ho : OpR X (compareOp op) r) (hq : P2Ok C r q) (ha : PE X a (tE C W call fa)) (hb : PE X b (tE C W call fb)) (hm : behindInMarks op b = false) : PT X (.Compare a [op] [b] pos) (tT C W call (cB (cBin q fa fb))) :=
  (pt_cmpR ho ha hb hm).imp (tTest_of (op_step hq))
/-- a op b op' c -/
def cChain (q q' : D → D → Sto → R D) (fa fb fc : EE) : EE := fun call env S => (fa call env S).bind fun x S1 => (fb call env S1).bind fun y S2 => (q x y S2).bind fun z S3 => match z with
  | .bl true => (fc call env S3).bind fun w S4 => q' y w S4
  | .bl false => .ok (.bl false) S3
  | _ => .bad
theorem chain_step {r r' : R2} {q q' : D → D → Sto → R D} (hq : P2Ok C r q) (hq' : P2Ok C r' q') : ∀ σ H Q, tE C W call (cChain q q' fa fb fc) σ H Q → tChain r r' (tE C W call fa) (tE C W call fb) (tE C W call fc) σ H Q := fun σ H Q ⟨ρ, hid, S, env, s, n, h⟩ => by
  refine ⟨ρ, hid, S, env, s, n, (okR.bind h).imp (fun x S1 ρ1 H1 e1 s1 h1 vx rx => ?_) fun _ _ _ _ _ _ _ _ q => q⟩
  refine ⟨ρ1, hid, S1, env, s1, n.ext e1, (okR.bind h1).imp (fun y S2 ρ2 H2 e2 s2 h2 vy ry => ?_) fun _ _ _ _ _ _ _ _ q => q⟩
  refine hq ρ2 hid H2 S2 x y vx vy _ (xOut C hid W) s2 (rx.ext e2) ry ((okR.bind h2).imp (fun z S3 ρ3 H3 e3 s3 h3 vz rz => ?_) fun _ _ _ _ _ _ _ _ q => q)
  split at h3
  · cases rz
    refine ⟨true, rfl, ?_⟩
    rw [if_pos rfl]
    refine ⟨ρ3, hid, S3, env, s3, ((n.ext e1).ext e2).ext e3, (okR.bind h3).imp (fun w S4 ρ4 H4 e4 s4 h4 vw rw' => ?_) fun _ _ _ _ _ _ _ _ q => q⟩
    exact hq' ρ4 hid H4 S4 y w vy vw Q _ s4 ((ry.ext e3).ext e4) rw' h4
  · cases rz
    refine ⟨false, rfl, ?_⟩
    rw [if_neg Bool.false_ne_true]
    exact okR.here h3 s3 _ (.bl _)
  · exact h3.elim
theorem ev_chain {op op' : CmpOp} {r r' : R2} {q q' : D → D → Sto → R D} {c : Expr} (ho : OpR X (compareOp op) r) (hq : P2Ok C r q) (ho' : OpR X (compareOp op') r') (hq' : P2Ok C r' q') (ha : PE X a (tE C W call fa)) (hb : PE X b (tE C W call fb)) (hc : PE X c (tE C W call fc))
    (hm : lastMarks [op, op'] [b, c] = false) : PE X (.Compare a [op, op'] [b, c] pos) (tE C W call (cChain q q' fa fb fc)) := (pe_chain ho ho' ha hb hc hm).imp (chain_step hq hq')
theorem ev_chainT {op op' : CmpOp} {r r' : R2} {q q' : D → D → Sto → R D} {c : Expr} (ho : OpR X (compareOp op) r) (hq : P2Ok C r q) (ho' : OpR X (compareOp op') r') (hq' : P2Ok C r' q') (ha : PE X a (tE C W call fa)) (hb : PE X b (tE C W call fb)) (hc : PE X c (tE C W call fc))
    (hm : lastMarks [op, op'] [b, c] = false) : PT X (.Compare a [op, op'] [b, c] pos) (tT C W call (cB (cChain q q' fa fb fc))) := (pt_chain ho ho' ha hb hc hm).imp (tTest_of (chain_step hq hq'))
end

/-! ### calls of the text's own defs -/
/-- what a def promises: what the evaluator finds -/
def spF (C : Cfg) (call : Call) (f n : Nat) : Sp := fun vs H Q E => ∃ ρ hid S ds, ds.length = n ∧ StoOk C hid ρ H S ∧ RlAll C ρ hid H ds vs ∧
  okR C hid ρ H (call f ds S) (PostE C hid Q) (fun c fs _ _ ρ' H' => ∀ cls d, XOk C ρ' hid H' c fs cls d → E cls d H')
section
variable {X : Cx} {C : Cfg} {W : WX} {call : Call} {fr : EA} {e : Expr} {es : List Expr} {pos p : Pos}
theorem spF_len {C : Cfg} {call : Call} {f n : Nat} {vs : List V} {H : Hp} {Q : VK} {E : XK} (h : spF C call f n vs H Q E) : vs.length = n := by
  obtain ⟨ρ, hid, S, ds, hn, _, r, _⟩ := h
  rw [← hn, r.length]
section
variable {ρ1 ρ2 hid1 hid2 : List Addr} {H : Hp}
mutual
/-- data without references stand wherever the store stands -/
theorem pure_rl (hf : ∀ b, Fz ρ1 hid1 b → Fz ρ2 hid2 b) : ∀ {d : D} {v : V}, Rl C ρ1 hid1 H d v → clsD 0 d = true → Rl C ρ2 hid2 H d v
  | _, _, .non, _ => .non
  | _, _, .bl b, _ => .bl b
  | _, _, .int i, _ => .int i
  | _, _, .str x z, _ => .str x z
  | _, _, .tup h r, e => .tup (h.imp (fun h => ⟨h.1, hf _ h.2⟩) id) (pure_rls hf r (by simpa [clsD] using e))
  | _, _, .pr _ _ _, e => by simp [clsD] at e
  | _, _, .scr _ _, e => by simp [clsD] at e
  | _, _, .lst h r, e => .lst ⟨h.1, hf _ h.2⟩ (pure_rls hf r (by simpa [clsD] using e))
  | _, _, .dic h n r, e => .dic h (hf _ n) (pure_rlk hf r (by simpa [clsD] using e))
  | _, _, .ref _, e => by simp [clsD] at e
  | _, _, .fn f, _ => .fn f
  | _, _, .ty n, _ => .ty n
  | _, _, .cls c z, _ => .cls c z
  | _, _, .exc0 z h n, _ => .exc0 z h (hf _ n)
  | _, _, .exc1 z h n h2 n2 hn r, e => .exc1 z h (hf _ n) h2 (hf _ n2) hn (pure_rls hf r (by simpa [clsD] using e))
theorem pure_rls (hf : ∀ b, Fz ρ1 hid1 b → Fz ρ2 hid2 b) : ∀ {d : List D} {v : List V}, RlAll C ρ1 hid1 H d v → clsDs 0 d = true → RlAll C ρ2 hid2 H d v
  | _, _, .nil, _ => .nil
  | _, _, .cons r rs, e => by
    simp only [clsDs, Bool.and_eq_true] at e
    exact .cons (pure_rl hf r e.1) (pure_rls hf rs e.2)
theorem pure_rlk (hf : ∀ b, Fz ρ1 hid1 b → Fz ρ2 hid2 b) : ∀ {d : List (Key × D)} {v : List (Key × V)}, RlKv C ρ1 hid1 H d v → clsKv 0 d = true → RlKv C ρ2 hid2 H d v
  | _, _, .nil, _ => .nil
  | _, _, .cons r rs, e => by
    simp only [clsKv, Bool.and_eq_true] at e
    exact .cons (pure_rl hf r e.1) (pure_rlk hf rs e.2)
end
end
theorem NX.nt {o : HO} (h : NX o) : NT o := h.2
theorem nt_lst {xs : List V} : NT (.lst xs) := nx_lst.nt
theorem nt_dK {xs : List (Key × V)} : NT (.dK xs) := nx_dK.nt
theorem StoOk.all {ρ hid : List Addr} {H H' : Hp} {S : Sto} (s : StoOk C hid ρ H S) (k : ∀ a o, H a = some o → NT o → H' a = some o) (st : ∀ a o, H a = some o → ∃ o', H' a = some o') (g : Gr C H') : StoOk C hid ρ H' S := by
  have e : Ext ρ H ρ H' := ⟨⟨[], by simp⟩, fun a o h _ t => k a o h t, fun a o h _ => st a o h, fun _ h => .inl h⟩
  refine ⟨s.len, s.nd, fun l b o h1 h2 => ?_, fun b m => ⟨let ⟨o, h, n⟩ := (s.hidT b m).1; ⟨o, k _ _ h n.nt, n⟩, (s.hidT b m).2⟩, g⟩
  have q := s.obj l b o h1 h2
  cases o with
  | lst ds => obtain ⟨vs, e1, z, r⟩ := q; exact ⟨vs, k _ _ e1 nt_lst, z, r.ext e⟩
  | dic ds => obtain ⟨vs, e1, z, r⟩ := q; exact ⟨vs, k _ _ e1 nt_dK, z, r.ext e⟩
  | hid => obtain ⟨u, e1, n1⟩ := q; exact ⟨u, k _ _ e1 n1.nt, n1⟩
/-- such a call's promise, over a store of its own -/
theorem iso_ok {ρ hid : List Addr} {H : Hp} {S : Sto} {r : R D} {Q : VK} {E : XK} (s : StoOk C hid ρ H S)
    (h : okR C hid ρ H (iso r S) (PostE C hid Q) (fun c fs _ _ ρ' H' => ∀ cls d, XOk C ρ' hid H' c fs cls d → E cls d H')) :
    okR C (hid ++ ρ) [] H r (PostE C (hid ++ ρ) Q) (fun c fs _ _ ρ' H' => ∀ cls d, XOk C ρ' (hid ++ ρ) H' c fs cls d → E cls d H') := by
  have kept : ∀ {H' : Hp} {ρ' : List Addr}, Ext [] H ρ' H' → ∀ a o, H a = some o → NT o → H' a = some o := fun e a o q t => e.keep a o q (by simp) t
  have stay : ∀ {H' : Hp} {ρ' : List Addr}, Ext [] H ρ' H' → ∀ a o, H a = some o → ∃ o', H' a = some o' := fun e a o q => e.stay a o q (by simp)
  have fz : ∀ b, Fz [] (hid ++ ρ) b → Fz ρ hid b := fun b q => ⟨fun m => q.2 (List.mem_append_right _ m), fun m => q.2 (List.mem_append_left _ m)⟩
  have ext0 : ∀ {H' : Hp} {ρ' : List Addr}, Ext [] H ρ' H' → Ext ρ H ρ H' := fun e => ⟨⟨[], by simp⟩, fun a o q _ t => kept e a o q t, fun a o q _ => stay e a o q, fun _ q => .inl q⟩
  cases r with
  | bad => exact h
  | exc c fs en T =>
    cases T with
    | cons _ _ => exact h.elim
    | nil =>
      intro ρ' H' e s' cls d x
      have e0 : ρ' = [] := List.eq_nil_of_length_eq_zero s'.len
      subst e0
      simp only [iso] at h
      split at h
      · rename_i hp
        refine h ρ H' (ext0 e) (s.all (kept e) (stay e) s'.gr) cls d ⟨x.1, x.2.imp id fun ⟨dd, ws, a1, a2, a3, a4, a5⟩ => ⟨dd, ws, a1, a2, fz _ a3, a4, pure_rls fz a5 hp⟩⟩
      · exact h.elim
  | ok d T =>
    match T, h with
    | [], h =>
      intro ρ' H' e s' v rv
      have e0 : ρ' = [] := List.eq_nil_of_length_eq_zero s'.len
      subst e0
      simp only [iso] at h
      split at h
      · rename_i hp
        exact h ρ H' (ext0 e) (s.all (kept e) (stay e) s'.gr) v (pure_rl fz rv hp)
      · exact h.elim
    | _ :: _ :: _, h => cases d <;> exact h.elim
    | [o], h =>
      match d, h with
      | .ref (l + 1), h => exact h.elim
      | .ref 0, h =>
        intro ρ' H' e s' v rv
        simp only [iso] at h
        split at h
        · rename_i hp
          have hl := s'.len
          match ρ', hl, e, s', rv with
          | [a], _, e, s', rv =>
            cases rv with
            | ref h0 =>
              simp at h0
              subst h0
              have ha : H a = none := (e.new a (by simp)).resolve_left (by simp)
              have hR := s.freshR ha
              have ex : Ext ρ H (ρ ++ [a]) H' := ⟨⟨[a], rfl⟩, fun b o q _ t => kept e b o q t, fun b o q _ => stay e b o q, fun b m => by
                rcases List.mem_append.mp m with m | m
                · exact .inl m
                · rw [List.mem_singleton] at m; subst m; exact .inr ha⟩
              have fz2 : ∀ b, Fz [a] (hid ++ ρ) b → Fz (ρ ++ [a]) hid b := fun b q => ⟨fun m => by
                rcases List.mem_append.mp m with m | m
                · exact q.2 (List.mem_append_right _ m)
                · exact q.1 m, fun m => q.2 (List.mem_append_left _ m)⟩
              have so : StoOk C hid (ρ ++ [a]) H' (S ++ [o]) := by
                refine ⟨by simp [s.len], List.nodup_append.mpr ⟨s.nd, by simp, fun b hb c hc => by rw [List.mem_singleton] at hc; rintro rfl; exact hR (hc ▸ hb)⟩, fun l b ob h1 h2 => ?_, fun b m => ⟨let ⟨o, q, n⟩ := (s.hidT b m).1; ⟨o, kept e _ _ q n.nt, n⟩, fun z => ?_⟩, s'.gr⟩
                · by_cases hlt : l < ρ.length
                  · rw [List.getElem?_append_left hlt] at h1
                    rw [List.getElem?_append_left (by rw [← s.len]; exact hlt)] at h2
                    have q := s.obj l b ob h1 h2
                    cases ob with
                    | lst ds => obtain ⟨vs, e1, z, r⟩ := q; exact ⟨vs, kept e _ _ e1 nt_lst, z, r.ext ex⟩
                    | dic ds => obtain ⟨vs, e1, z, r⟩ := q; exact ⟨vs, kept e _ _ e1 nt_dK, z, r.ext ex⟩
                    | hid => obtain ⟨u, e1, n1⟩ := q; exact ⟨u, kept e _ _ e1 n1.nt, n1⟩
                  · rw [List.getElem?_append_right (by omega)] at h1
                    rw [List.getElem?_append_right (by rw [← s.len]; omega)] at h2
                    have e0 : l - ρ.length = 0 := by
                      obtain ⟨q, _⟩ := List.getElem?_eq_some_iff.mp h1
                      simp at q
                      omega
                    rw [e0] at h1
                    rw [← s.len, e0] at h2
                    simp at h1 h2
                    subst h1 h2
                    have q := s'.obj 0 a o rfl rfl
                    cases o with
                    | lst ds => obtain ⟨vs, e1, z, r⟩ := q; exact ⟨vs, e1, z, pure_rls fz2 r hp⟩
                    | dic ds => obtain ⟨vs, e1, z, r⟩ := q; exact ⟨vs, e1, z, pure_rlk fz2 r hp⟩
                    | hid => exact q
                · rcases List.mem_append.mp z with z | z
                  · exact (s.hidT b m).2 z
                  · rw [List.mem_singleton] at z
                    subst z
                    obtain ⟨o', q, _⟩ := (s.hidT b m).1
                    rw [ha] at q
                    cases q
              exact h (ρ ++ [a]) H' ex so _ (.ref (by rw [← s.len]; simp))
        · exact h.elim
      | .non, h => exact h.elim
      | .bl _, h => exact h.elim
      | .int _, h => exact h.elim
      | .str _, h => exact h.elim
      | .tup _, h => exact h.elim
      | .lst _, h => exact h.elim
      | .dic _, h => exact h.elim
      | .pr _, h => exact h.elim
      | .scr _, h => exact h.elim
      | .fn _, h => exact h.elim
      | .ty _, h => exact h.elim
      | .cls _, h => exact h.elim
      | .exc _ _ _, h => exact h.elim
      | .clo _ _, h => exact h.elim
theorem sto_iso {ρ hid : List Addr} {H : Hp} {S : Sto} (s : StoOk C hid ρ H S) : StoOk C (hid ++ ρ) [] H [] :=
  ⟨rfl, .nil, fun l a o h => by simp at h, fun a m => ⟨by
    rcases List.mem_append.mp m with m | m
    · exact (s.hidT a m).1
    · exact s.thereX m, by simp⟩, s.gr⟩
/-- the reading of a call -/
theorem call_step {f n : Nat} {dfl : List D} {dvs : List V} (hl : ∀ ρ hid H, RlAll C ρ hid H dfl dvs) :
    ∀ σ H Q, tE C W call (cCall f n dfl fr) σ H Q → tCallSD (spF C call f n) dvs (WE W) (tA C W call fr) σ H Q := fun σ H Q ⟨ρ, hid, S, env, s, nv, h⟩ => by
  refine ⟨ρ, hid, S, env, s, nv, (okR.bind h).imp (fun xs S1 ρ1 H1 e1 s1 h1 vs rs => ?_) fun _ _ _ _ _ _ _ _ q => q⟩
  split at h1
  · rename_i hlen
    have rr := rs.append (hl ρ1 hid H1)
    have out : ∀ {r : R D}, okR C hid ρ1 H1 (r.at env) (fun d _ ρ' H' => ∀ v, Rl C ρ' hid H' d v → Q v H') (xOut C hid W) → okR C hid ρ1 H1 r (PostE C hid Q) (fun c fs _ _ ρ' H' => ∀ cls d, XOk C ρ' hid H' c fs cls d → WE W σ cls d H') := fun {r} => by
      cases r with
      | ok d S2 => exact fun h1 => h1
      | exc c fs en S2 => exact fun h1 ρ2 H2 e2 s2 cls d x => h1 ρ2 H2 e2 s2 cls d σ ((nv.ext e1).ext e2) x
      | bad => exact fun h1 => h1
    split at h1
    · rename_i hp
      refine ⟨[], hid ++ ρ1, [], xs ++ dfl, hlen, sto_iso s1, pure_rls (fun b q => ⟨by simp, fun m => by rcases List.mem_append.mp m with m | m; exact q.2 m; exact q.1 m⟩) rr hp, iso_ok s1 (out h1)⟩
    · exact ⟨ρ1, hid, S1, xs ++ dfl, hlen, s1, rr, out h1⟩
  · exact h1.elim
end
end Ev

set_option Elab.async false
set_option linter.all false
set_option maxRecDepth 100000
set_option maxHeartbeats 1000000
/-! Ev, part 5: what loops and comprehensions walk; their targets; comprehensions. -/
namespace Ev
open PySem PySem.Spec PyProof.Rows L2

section
variable {C : Cfg} {ρ hid : List Addr} {H : Hp} {p : Addr} {o : HO}
theorem TupA.hide {a : Addr} {vs : List V} (hp : H p = none) (h : TupA C ρ hid H a vs) : TupA C ρ (p :: hid) (upd H p o) a vs := by
  rcases h with ⟨⟨⟨us, h⟩, z⟩, n⟩ | h
  · have ne := ne_of_none h hp
    exact .inl ⟨⟨⟨us, by rw [upd_ne ne]; exact h⟩, z⟩, n.1, fun q => by rcases List.mem_cons.mp q with q | q; exact ne q; exact n.2 q⟩
  · exact .inr h
theorem LstA.hide {a : Addr} {vs : List V} (hp : H p = none) (h : LstA C ρ hid H a vs) : LstA C ρ (p :: hid) (upd H p o) a vs := by
  obtain ⟨⟨h, z⟩, n⟩ := h
  obtain ⟨u, q⟩ := Rd.there h
  have ne := ne_of_none q hp
  refine ⟨⟨?_, z⟩, n.1, fun q => by rcases List.mem_cons.mp q with q | q; exact ne q; exact n.2 q⟩
  rcases h with h | ⟨w, h⟩
  · exact .inl (by rw [upd_ne ne]; exact h)
  · exact .inr ⟨w, by rw [upd_ne ne]; exact h⟩
mutual
/-- a new object that nobody else may look at -/
theorem Rl.hide (hp : H p = none) : ∀ {d : D} {v : V}, Rl C ρ hid H d v → Rl C ρ (p :: hid) (upd H p o) d v
  | _, _, .non => .non
  | _, _, .bl b => .bl b
  | _, _, .int i => .int i
  | _, _, .str x h => .str x h
  | _, _, .tup h r => .tup (h.hide hp) (RlAll.hide hp r)
  | _, _, .pr h n r => .pr (by rw [upd_ne (ne_of_none h hp)]; exact h) ⟨n.1, fun q => by rcases List.mem_cons.mp q with q | q; exact ne_of_none h hp q; exact n.2 q⟩ (RlAll.hide hp r)
  | _, _, .scr h r => .scr (h.imp (fun h => h.hide hp) id) (RlAll.hide hp r)
  | _, _, .lst h r => .lst (h.hide hp) (RlAll.hide hp r)
  | _, _, .dic h n r => .dic (Rd.upd h (Rd.ne h hp)) ⟨n.1, fun q => by rcases List.mem_cons.mp q with q | q; exact Rd.ne h hp q; exact n.2 q⟩ (RlKv.hide hp r)
  | _, _, .ref h => .ref h
  | _, _, .fn f => .fn f
  | _, _, .ty n => .ty n
  | _, _, .cls c z => .cls c z
  | _, _, .exc0 z h n => .exc0 z (by rw [upd_ne (ne_of_none h hp)]; exact h) ⟨n.1, fun q => by rcases List.mem_cons.mp q with q | q; exact ne_of_none h hp q; exact n.2 q⟩
  | _, _, .exc1 z h n h2 n2 hn r => .exc1 z (by rw [upd_ne (ne_of_none h hp)]; exact h) ⟨n.1, fun q => by rcases List.mem_cons.mp q with q | q; exact ne_of_none h hp q; exact n.2 q⟩ (by rw [upd_ne (ne_of_none h2 hp)]; exact h2) ⟨n2.1, fun q => by rcases List.mem_cons.mp q with q | q; exact ne_of_none h2 hp q; exact n2.2 q⟩ hn (RlAll.hide hp r)
theorem RlAll.hide (hp : H p = none) : ∀ {ds : List D} {vs : List V}, RlAll C ρ hid H ds vs → RlAll C ρ (p :: hid) (upd H p o) ds vs
  | _, _, .nil => .nil
  | _, _, .cons h r => .cons (Rl.hide hp h) (RlAll.hide hp r)
theorem RlKv.hide (hp : H p = none) : ∀ {ds : List (Key × D)} {vs : List (Key × V)}, RlKv C ρ hid H ds vs → RlKv C ρ (p :: hid) (upd H p o) ds vs
  | _, _, .nil => .nil
  | _, _, .cons h r => .cons (Rl.hide hp h) (RlKv.hide hp r)
end
theorem StoOk.hide {S : Sto} (s : StoOk C hid ρ H S) (hp : H p = none) (no : NX o := by exact ⟨(fun _ z => nomatch z), (fun _ z => nomatch z)⟩) : StoOk C (p :: hid) ρ (upd H p o) S := by
  have ke : ∀ a u, H a = some u → upd H p o a = some u := fun a u q => by rw [upd_ne (ne_of_none q hp)]; exact q
  refine ⟨s.len, s.nd, fun l a ob h1 h2 => ?_, fun a ha => ?_, s.gr.laid hp⟩
  · have q := s.obj l a ob h1 h2
    cases ob with
    | lst ds => obtain ⟨vs, e1, z, r⟩ := q; exact ⟨vs, ke _ _ e1, z, r.hide hp⟩
    | dic kvs => obtain ⟨vs, e1, z, r⟩ := q; exact ⟨vs, ke _ _ e1, z, r.hide hp⟩
    | hid => obtain ⟨u, e1, n1⟩ := q; exact ⟨u, ke _ _ e1, n1⟩
  · rcases List.mem_cons.mp ha with rfl | ha
    · exact ⟨⟨_, upd_same, no⟩, s.freshR hp⟩
    · obtain ⟨⟨u, e1, n1⟩, n⟩ := s.hidT a ha
      exact ⟨⟨u, ke _ _ e1, n1⟩, n⟩
theorem StoOk.unhide {S : Sto} (s : StoOk C (p :: hid) ρ H S) : StoOk C hid ρ H S := by
  have hi : ∀ a, a ∈ hid → a ∈ p :: hid := fun a h => List.mem_cons_of_mem _ h
  refine ⟨s.len, s.nd, fun l a ob h1 h2 => ?_, fun a ha => s.hidT a (hi a ha), s.gr⟩
  have q := s.obj l a ob h1 h2
  cases ob with
  | lst ds => obtain ⟨vs, e1, z, r⟩ := q; exact ⟨vs, e1, z, r.open hi⟩
  | dic kvs => obtain ⟨vs, e1, z, r⟩ := q; exact ⟨vs, e1, z, r.open hi⟩
  | hid => exact q
theorem TupA.turn {a : Addr} {vs : List V} (hp : p ∈ hid) (h : TupA C ρ hid H a vs) : TupA C ρ hid (upd H p o) a vs := by
  rcases h with ⟨⟨⟨us, h⟩, z⟩, n⟩ | h
  · exact .inl ⟨⟨⟨us, by rw [upd_ne (fun e => n.2 (by rw [e]; exact hp))]; exact h⟩, z⟩, n⟩
  · exact .inr h
theorem LstA.turn {a : Addr} {vs : List V} (hp : p ∈ hid) (h : LstA C ρ hid H a vs) : LstA C ρ hid (upd H p o) a vs := by
  obtain ⟨⟨h, z⟩, n⟩ := h
  have ne : a ≠ p := fun e => n.2 (by rw [e]; exact hp)
  refine ⟨⟨?_, z⟩, n⟩
  rcases h with h | ⟨w, h⟩
  · exact .inl (by rw [upd_ne ne]; exact h)
  · exact .inr ⟨w, by rw [upd_ne ne]; exact h⟩
mutual
/-- a hidden object changes -/
theorem Rl.turn (hp : p ∈ hid) : ∀ {d : D} {v : V}, Rl C ρ hid H d v → Rl C ρ hid (upd H p o) d v
  | _, _, .non => .non
  | _, _, .bl b => .bl b
  | _, _, .int i => .int i
  | _, _, .str x h => .str x h
  | _, _, .tup h r => .tup (h.turn hp) (RlAll.turn hp r)
  | _, _, .pr h n r => .pr (by rw [upd_ne (fun e => n.2 (by rw [e]; exact hp))]; exact h) n (RlAll.turn hp r)
  | _, _, .scr h r => .scr (h.imp (fun h => h.turn hp) id) (RlAll.turn hp r)
  | _, _, .lst h r => .lst (h.turn hp) (RlAll.turn hp r)
  | _, _, .dic h n r => .dic (Rd.upd h (fun e => n.2 (by rw [e]; exact hp))) n (RlKv.turn hp r)
  | _, _, .ref h => .ref h
  | _, _, .fn f => .fn f
  | _, _, .ty n => .ty n
  | _, _, .cls c z => .cls c z
  | _, _, .exc0 z h n => .exc0 z (by rw [upd_ne (fun e => n.2 (by rw [e]; exact hp))]; exact h) n
  | _, _, .exc1 z h n h2 n2 hn r => .exc1 z (by rw [upd_ne (fun e => n.2 (by rw [e]; exact hp))]; exact h) n (by rw [upd_ne (fun e => n2.2 (by rw [e]; exact hp))]; exact h2) n2 hn (RlAll.turn hp r)
theorem RlAll.turn (hp : p ∈ hid) : ∀ {ds : List D} {vs : List V}, RlAll C ρ hid H ds vs → RlAll C ρ hid (upd H p o) ds vs
  | _, _, .nil => .nil
  | _, _, .cons h r => .cons (Rl.turn hp h) (RlAll.turn hp r)
theorem RlKv.turn (hp : p ∈ hid) : ∀ {ds : List (Key × D)} {vs : List (Key × V)}, RlKv C ρ hid H ds vs → RlKv C ρ hid (upd H p o) ds vs
  | _, _, .nil => .nil
  | _, _, .cons h r => .cons (Rl.turn hp h) (RlKv.turn hp r)
end
mutual
/-- the store's and the hidden objects told otherwise -/
theorem Rl.move {ρ' hid' : List Addr} (hf : ∀ a, Fz ρ hid a → Fz ρ' hid' a) (hr : ∀ (l : Nat) (a : Addr), ρ[l]? = some a → ρ'[l]? = some a) : ∀ {d : D} {v : V}, Rl C ρ hid H d v → Rl C ρ' hid' H d v
  | _, _, .non => .non
  | _, _, .bl b => .bl b
  | _, _, .int i => .int i
  | _, _, .str x h => .str x h
  | _, _, .tup h r => .tup (h.elim (fun q => .inl ⟨q.1, hf _ q.2⟩) .inr) (RlAll.move hf hr r)
  | _, _, .pr h n r => .pr h (hf _ n) (RlAll.move hf hr r)
  | _, _, .scr h r => .scr (h.imp (fun h => ⟨h.1, hf _ h.2⟩) id) (RlAll.move hf hr r)
  | _, _, .lst h r => .lst ⟨h.1, hf _ h.2⟩ (RlAll.move hf hr r)
  | _, _, .dic h n r => .dic h (hf _ n) (RlKv.move hf hr r)
  | _, _, .ref h => .ref (hr _ _ h)
  | _, _, .fn f => .fn f
  | _, _, .ty n => .ty n
  | _, _, .cls c z => .cls c z
  | _, _, .exc0 z h n => .exc0 z h (hf _ n)
  | _, _, .exc1 z h n h2 n2 hn r => .exc1 z h (hf _ n) h2 (hf _ n2) hn (RlAll.move hf hr r)
theorem RlAll.move {ρ' hid' : List Addr} (hf : ∀ a, Fz ρ hid a → Fz ρ' hid' a) (hr : ∀ (l : Nat) (a : Addr), ρ[l]? = some a → ρ'[l]? = some a) : ∀ {ds : List D} {vs : List V}, RlAll C ρ hid H ds vs → RlAll C ρ' hid' H ds vs
  | _, _, .nil => .nil
  | _, _, .cons h r => .cons (Rl.move hf hr h) (RlAll.move hf hr r)
theorem RlKv.move {ρ' hid' : List Addr} (hf : ∀ a, Fz ρ hid a → Fz ρ' hid' a) (hr : ∀ (l : Nat) (a : Addr), ρ[l]? = some a → ρ'[l]? = some a) : ∀ {ds : List (Key × D)} {vs : List (Key × V)}, RlKv C ρ hid H ds vs → RlKv C ρ' hid' H ds vs
  | _, _, .nil => .nil
  | _, _, .cons h r => .cons (Rl.move hf hr h) (RlKv.move hf hr r)
end
theorem StoOk.turn {S : Sto} (s : StoOk C hid ρ H S) (hp : p ∈ hid) (no : NX o := by exact ⟨(fun _ z => nomatch z), (fun _ z => nomatch z)⟩) : StoOk C hid ρ (upd H p o) S := by
  have hn := (s.hidT p hp).2
  refine ⟨s.len, s.nd, fun l a ob h1 h2 => ?_, fun a ha => ?_, let ⟨_, e, n⟩ := (s.hidT p hp).1; s.gr.set e n⟩
  · have ne : a ≠ p := fun e => hn (by rw [← e]; exact List.mem_of_getElem? h1)
    have q := s.obj l a ob h1 h2
    cases ob with
    | lst ds => obtain ⟨vs, e1, z, r⟩ := q; exact ⟨vs, by rw [upd_ne ne]; exact e1, z, r.turn hp⟩
    | dic kvs => obtain ⟨vs, e1, z, r⟩ := q; exact ⟨vs, by rw [upd_ne ne]; exact e1, z, r.turn hp⟩
    | hid => obtain ⟨w, e1, n1⟩ := q; exact ⟨w, by rw [upd_ne ne]; exact e1, n1⟩
  · obtain ⟨⟨w, e1, n1⟩, n⟩ := s.hidT a ha
    by_cases ne : a = p
    · subst ne; exact ⟨⟨_, upd_same, no⟩, n⟩
    · exact ⟨⟨w, by rw [upd_ne ne]; exact e1, n1⟩, n⟩
end

/-! ### what is walked -/
inductive Src where
  | frz (items : List D) | box (l : Nat)
structure Sta (ok : List Addr → List Addr → Hp → Prop) : Prop where
  ext : ∀ ρ hid H ρ' H', Ext ρ H ρ' H' → ok ρ hid H → ok ρ' hid H'
  hide : ∀ ρ hid H p o, H p = none → ok ρ hid H → ok ρ (p :: hid) (upd H p o)
  turn : ∀ ρ hid H p u, p ∈ hid → ok ρ hid H → ok ρ hid (upd H p u)
def WalkAt (C : Cfg) (hid ρ : List Addr) (H : Hp) (J : It) : Src → Prop
  | .frz items => items.length ≤ sizeLine ∧ ∃ ok, Sta ok ∧ ok ρ hid H ∧ ∀ ρ' hid' H' S i, ok ρ' hid' H' → StoOk C hid' ρ' H' S →
      (i < items.length → J.go i H' ∧ ∀ x H'', J.yld i H' x H'' → Ext ρ' H' ρ' H'' ∧ StoOk C hid' ρ' H'' S ∧ ∃ d, items[i]? = some d ∧ Rl C ρ' hid' H'' d x) ∧ (items.length ≤ i → J.stop i H')
  | .box l => ∃ a, ρ[l]? = some a ∧ J = Itl C.K a
abbrev EI := Call → Env' → Sto → R Src
def tI (C : Cfg) (W : WX) (call : Call) (f : EI) : TI := fun σ H Rw => ∃ ρ hid S env, StoOk C hid ρ H S ∧ EnvOk C ρ hid H env σ ∧
  okR C hid ρ H (f call env S) (fun src _ ρ' H' => ∀ J, WalkAt C hid ρ' H' J src → Rw J H') (xOut C hid W)
theorem _root_.L2.PI.imp {X : Cx} {tg e : Expr} {t t' : TI} (h : PI X tg e t) (i : ∀ σ H Q, t' σ H Q → t σ H Q) : PI X tg e t' := ⟨fun pins s σ H Q I q => h.run pins s σ H Q I (i _ _ _ q)⟩
theorem _root_.L2.PI.or {X : Cx} {tg e : Expr} {t t' : TI} (h : PI X tg e t) (h' : PI X tg e t') : PI X tg e (fun σ H Q => t σ H Q ∨ t' σ H Q) := ⟨fun pins s σ H Q I q => q.elim (h.run pins s σ H Q I) (h'.run pins s σ H Q I)⟩

/-- a condition on a list that stays -/
def okL (C : Cfg) (a : Addr) (ds : List D) (vs : List V) : List Addr → List Addr → Hp → Prop := fun ρ hid H => LstA C ρ hid H a vs ∧ RlAll C ρ hid H ds vs
theorem staL {C : Cfg} {a : Addr} {ds : List D} {vs : List V} : Sta (okL C a ds vs) :=
  ⟨fun ρ hid H ρ' H' e h => ⟨h.1.ext e, h.2.ext e⟩, fun ρ hid H p o hp h => ⟨h.1.hide hp, h.2.hide hp⟩, fun ρ hid H p u hp h => ⟨h.1.turn hp, h.2.turn hp⟩⟩
def okT (C : Cfg) (a : Addr) (ds : List D) (vs : List V) : List Addr → List Addr → Hp → Prop := fun ρ hid H => TupA C ρ hid H a vs ∧ RlAll C ρ hid H ds vs
theorem staT {C : Cfg} {a : Addr} {ds : List D} {vs : List V} : Sta (okT C a ds vs) :=
  ⟨fun ρ hid H ρ' H' e h => ⟨h.1.ext e, h.2.ext e⟩, fun ρ hid H p o hp h => ⟨h.1.hide hp, h.2.hide hp⟩, fun ρ hid H p u hp h => ⟨h.1.turn hp, h.2.turn hp⟩⟩
def okAll (C : Cfg) : List Addr → List Addr → Hp → Prop := fun _ _ _ => True
theorem staAll {C : Cfg} : Sta (okAll C) := ⟨fun _ _ _ _ _ _ _ => trivial, fun _ _ _ _ _ _ _ => trivial, fun _ _ _ _ _ _ _ => trivial⟩
/-- zip, enumerate: two lists -/
def okZ (C : Cfg) (a b : Addr) (ds es : List D) (vs ws : List V) : List Addr → List Addr → Hp → Prop := fun ρ hid H => okL C a ds vs ρ hid H ∧ okL C b es ws ρ hid H
theorem staZ {C : Cfg} {a b : Addr} {ds es : List D} {vs ws : List V} : Sta (okZ C a b ds es vs ws) :=
  ⟨fun ρ hid H ρ' H' e h => ⟨staL.ext _ _ _ _ _ e h.1, staL.ext _ _ _ _ _ e h.2⟩, fun ρ hid H p o hp h => ⟨staL.hide _ _ _ _ _ hp h.1, staL.hide _ _ _ _ _ hp h.2⟩, fun ρ hid H p u hp h => ⟨staL.turn _ _ _ _ _ hp h.1, staL.turn _ _ _ _ _ hp h.2⟩⟩

section
variable {C : Cfg} {ρ hid : List Addr} {H : Hp}
theorem walkAt_lst {a : Addr} {ds : List D} {vs : List V} (hA : LstA C ρ hid H a vs) (r : RlAll C ρ hid H ds vs) : WalkAt C hid ρ H (Itl C.K a) (.frz ds) := by
  refine ⟨by rw [r.length]; exact hA.size, okL C a ds vs, staL, ⟨hA, r⟩, fun ρ' hid' H' S i ⟨h1, h2⟩ s => ⟨fun hi => ?_, fun hi => ⟨vs, h1.sq, by rw [← h2.length]; exact hi⟩⟩⟩
  obtain ⟨v, hv, rv⟩ := h2.get (List.getElem?_eq_getElem hi)
  refine ⟨⟨vs, v, h1.sq, hv⟩, fun x H'' y => ?_⟩
  obtain ⟨rfl, y⟩ := y
  have := y vs h1.sq
  rw [hv] at this
  cases this
  exact ⟨.refl, s, _, List.getElem?_eq_getElem hi, rv⟩
def okS (C : Cfg) (a : Addr) (ds : List D) (vs : List V) : List Addr → List Addr → Hp → Prop := fun ρ hid H => ScrA C ρ hid H a vs ∧ RlAll C ρ hid H ds vs
theorem staS {a : Addr} {ds : List D} {vs : List V} : Sta (okS C a ds vs) :=
  ⟨fun ρ hid H ρ' H' e h => ⟨h.1.ext e, h.2.ext e⟩, fun ρ hid H p o hp h => ⟨h.1.imp (fun h => h.hide hp) id, h.2.hide hp⟩, fun ρ hid H p u hp h => ⟨h.1.imp (fun h => h.turn hp) id, h.2.turn hp⟩⟩
theorem walkAt_scr {a : Addr} {ds : List D} {vs : List V} (hA : ScrA C ρ hid H a vs) (r : RlAll C ρ hid H ds vs) : WalkAt C hid ρ H (Itl C.K a) (.frz ds) := by
  refine ⟨by rw [r.length]; exact hA.size, okS C a ds vs, staS, ⟨hA, r⟩, fun ρ' hid' H' S i ⟨h1, h2⟩ s => ⟨fun hi => ?_, fun hi => ⟨vs, h1.sq, by rw [← h2.length]; exact hi⟩⟩⟩
  obtain ⟨v, hv, rv⟩ := h2.get (List.getElem?_eq_getElem hi)
  refine ⟨⟨vs, v, h1.sq, hv⟩, fun x H'' ⟨e, y⟩ => ?_⟩
  subst e
  have := y vs h1.sq
  rw [hv] at this
  cases this
  exact ⟨.refl, s, _, List.getElem?_eq_getElem hi, rv⟩
theorem walkAt_tup {a : Addr} {ds : List D} {vs : List V} (hA : TupA C ρ hid H a vs) (r : RlAll C ρ hid H ds vs) : WalkAt C hid ρ H (Itt C.K a) (.frz ds) := by
  refine ⟨by rw [r.length]; exact hA.size, okT C a ds vs, staT, ⟨hA, r⟩, fun ρ' hid' H' S i ⟨h1, h2⟩ s => ⟨fun hi => ?_, fun hi => ⟨vs, h1.sq, by rw [← h2.length]; exact hi⟩⟩⟩
  obtain ⟨v, hv, rv⟩ := h2.get (List.getElem?_eq_getElem hi)
  refine ⟨⟨vs, v, h1.sq, hv⟩, fun x H'' y => ?_⟩
  obtain ⟨rfl, y⟩ := y
  have := y vs h1.sq
  rw [hv] at this
  cases this
  exact ⟨.refl, s, _, List.getElem?_eq_getElem hi, rv⟩
def chars (x : Str) : List D := x.cps.toList.map fun c => .str ⟨#[c]⟩
theorem walkAt_str {x : Str} (hx : x.length ≤ sizeLine) : WalkAt C hid ρ H (Its x) (.frz (chars x)) := by
  have hl : (chars x).length = x.cps.size := by simp [chars]
  refine ⟨by rw [hl]; exact hx, okAll C, staAll, trivial, fun ρ' hid' H' S i _ s => ⟨fun hi => ⟨by show i < x.cps.size; rw [← hl]; exact hi, fun v H'' y => ?_⟩, fun hi => by show x.cps.size ≤ i; rw [← hl]; exact hi⟩⟩
  obtain ⟨rfl, c, hc, rfl⟩ := y
  refine ⟨.refl, s, .str ⟨#[c]⟩, ?_, .str _ (by show 1 ≤ sizeLine; decide)⟩
  unfold chars
  rw [List.getElem?_map]
  have : x.cps.toList[i]? = some c := by simpa using hc
  rw [this] <;> rfl
def rangeD (lo : Int) (n : Nat) : List D := (List.range n).map fun i => .int (lo + (i : Nat))
theorem walkAt_range {lo : Int} {n : Nat} (hn : n ≤ sizeLine) : WalkAt C hid ρ H (Itr lo n) (.frz (rangeD lo n)) := by
  have hl : (rangeD lo n).length = n := by simp [rangeD]
  refine ⟨by rw [hl]; exact hn, okAll C, staAll, trivial, fun ρ' hid' H' S i _ s => ⟨fun hi => ⟨by rw [hl] at hi; exact hi, fun v H'' y => ?_⟩, fun hi => by rw [hl] at hi; exact hi⟩⟩
  obtain ⟨rfl, rfl⟩ := y
  rw [hl] at hi
  exact ⟨.refl, s, .int (lo + (i : Nat)), by simp [rangeD, hi], .int _⟩
/-- a pair made at each turn -/
theorem pairTurn {ρ' hid' : List Addr} {H' H'' : Hp} {S : Sto} {x y : D} {vx vy : V} {T : Addr} (s : StoOk C hid' ρ' H' S) (hT : H' T = none) (e : H'' = upd H' T (.tup [vx, vy])) (rx : Rl C ρ' hid' H' x vx) (ry : Rl C ρ' hid' H' y vy) :
    Ext ρ' H' ρ' H'' ∧ StoOk C hid' ρ' H'' S ∧ Rl C ρ' hid' H'' (.pr [x, y]) (.ref T) := by
  subst e
  refine ⟨.laid hT, s.laid hT _, .pr upd_same (s.fresh hT) ?_⟩
  exact .cons (rx.ext (.laid hT)) (.cons (ry.ext (.laid hT)) .nil)
def enumD : Nat → List D → List D
  | _, [] => []
  | k, d :: r => .pr [.int (k : Nat), d] :: enumD (k + 1) r
theorem enumD_get : ∀ (ds : List D) (k i : Nat), (enumD k ds)[i]? = ds[i]?.map fun d => .pr [.int ((k + i : Nat) : Int), d]
  | [], _, _ => by simp [enumD]
  | d :: r, k, 0 => by simp [enumD]
  | d :: r, k, i + 1 => by
    simp only [enumD, List.getElem?_cons_succ]
    rw [enumD_get r (k + 1) i]
    have : k + 1 + i = k + (i + 1) := by omega
    rw [this]
theorem enumD_len : ∀ (ds : List D) (k : Nat), (enumD k ds).length = ds.length
  | [], _ => rfl
  | d :: r, k => by simp [enumD, enumD_len r]
theorem walkAt_enum {a : Addr} {ds : List D} {vs : List V} (hA : LstA C ρ hid H a vs) (r : RlAll C ρ hid H ds vs) : WalkAt C hid ρ H (Ite C.K a) (.frz (enumD 0 ds)) := by
  refine ⟨by rw [enumD_len, r.length]; exact hA.size, okL C a ds vs, staL, ⟨hA, r⟩, fun ρ' hid' H' S i ⟨h1, h2⟩ s => ⟨fun hi => ?_, fun hi => ⟨vs, h1.sq, by rw [← h2.length, ← enumD_len ds 0]; exact hi⟩⟩⟩
  rw [enumD_len] at hi
  obtain ⟨v, hv, rv⟩ := h2.get (List.getElem?_eq_getElem hi)
  refine ⟨⟨vs, v, h1.sq, hv⟩, fun x H'' y => ?_⟩
  obtain ⟨T, x', rfl, hT, e, y⟩ := y
  have := y vs h1.sq
  rw [hv] at this
  cases this
  obtain ⟨q1, q2, q3⟩ := pairTurn s hT e (.int (i : Nat)) rv
  refine ⟨q1, q2, _, ?_, q3⟩
  rw [enumD_get, List.getElem?_eq_getElem hi]
  simp
def zipD : List D → List D → List D
  | d :: r, e :: t => .pr [d, e] :: zipD r t
  | _, _ => []
theorem zipD_get : ∀ (ds es : List D) (i : Nat) (d e : D), ds[i]? = some d → es[i]? = some e → (zipD ds es)[i]? = some (.pr [d, e])
  | [], _, _, _, _, h, _ => by simp at h
  | _ :: _, [], _, _, _, _, h => by simp at h
  | x :: r, y :: t, 0, d, e, h1, h2 => by simp at h1 h2; subst h1 h2; rfl
  | x :: r, y :: t, i + 1, d, e, h1, h2 => by
    simp only [zipD, List.getElem?_cons_succ]
    exact zipD_get r t i d e (by simpa using h1) (by simpa using h2)
theorem zipD_len : ∀ (ds es : List D), (zipD ds es).length = min ds.length es.length
  | [], _ => by simp [zipD]
  | _ :: _, [] => by simp [zipD]
  | _ :: r, _ :: t => by simp only [zipD, List.length_cons, zipD_len r t]; omega
theorem walkAt_zip {a b : Addr} {ds es : List D} {vs ws : List V} (hA : LstA C ρ hid H a vs) (r : RlAll C ρ hid H ds vs) (hB : LstA C ρ hid H b ws) (q : RlAll C ρ hid H es ws) : WalkAt C hid ρ H (Itz C.K a b) (.frz (zipD ds es)) := by
  have l1 := r.length
  have l2 := q.length
  have z1 := hA.size
  refine ⟨by rw [zipD_len]; omega, okZ C a b ds es vs ws, staZ, ⟨⟨hA, r⟩, hB, q⟩, fun ρ' hid' H' S i ⟨⟨h1, h2⟩, h3, h4⟩ s => ⟨fun hi => ?_, fun hi => ⟨vs, ws, h1.sq, h3.sq, by rw [zipD_len] at hi; omega⟩⟩⟩
  rw [zipD_len] at hi
  have i1 : i < ds.length := by omega
  have i2 : i < es.length := by omega
  obtain ⟨v, hv, rv⟩ := h2.get (List.getElem?_eq_getElem i1)
  obtain ⟨w, hw, rw'⟩ := h4.get (List.getElem?_eq_getElem i2)
  refine ⟨⟨vs, ws, v, w, h1.sq, h3.sq, hv, hw⟩, fun x H'' y => ?_⟩
  obtain ⟨T, x', y', rfl, hT, e, y1, y2⟩ := y
  have e1 := y1 vs h1.sq
  rw [hv] at e1
  cases e1
  have e2 := y2 ws h3.sq
  rw [hw] at e2
  cases e2
  obtain ⟨q1, q2, q3⟩ := pairTurn s hT e rv rw'
  exact ⟨q1, q2, _, zipD_get _ _ _ _ _ (List.getElem?_eq_getElem i1) (List.getElem?_eq_getElem i2), q3⟩
end

/-! ### the sources -/
/-- a value that is walked -/
def srcOf (d : D) (S : Sto) : R Src := match d with
  | .tup ds => .ok (.frz ds) S
  | .lst ds => .ok (.frz ds) S
  | .scr ds => .ok (.frz ds) S
  | .str x => .ok (.frz (chars x)) S
  | .ref l => match S[l]? with
    | some (.lst _) => .ok (.box l) S
    | _ => .bad
  | _ => .bad
def cSrc (fe : EE) : EI := fun call env S => (fe call env S).bind fun d S1 => srcOf d S1
def cRange1 (fr : EA) : EI := fun call env S => (fr call env S).bind fun ds S1 => match ds with
  | [.int j] => if -(2 ^ 62) ≤ j ∧ j < 2 ^ 62 ∧ j.toNat ≤ sizeLine then .ok (.frz (rangeD 0 j.toNat)) S1 else .bad
  | _ => .bad
def cRange2 (fr : EA) : EI := fun call env S => (fr call env S).bind fun ds S1 => match ds with
  | [.int i, .int j] => if (-(2 ^ 62) ≤ i ∧ i < 2 ^ 62 ∧ -(2 ^ 62) ≤ j ∧ j < 2 ^ 62) ∧ (j - i).toNat ≤ sizeLine then .ok (.frz (rangeD i (j - i).toNat)) S1 else .bad
  | _ => .bad
def cEnum (fr : EA) : EI := fun call env S => (fr call env S).bind fun ds S1 => match ds with
  | [.lst es] => .ok (.frz (enumD 0 es)) S1
  | _ => .bad
def cZip (fr : EA) : EI := fun call env S => (fr call env S).bind fun ds S1 => match ds with
  | [.lst es, .lst fs] => .ok (.frz (zipD es fs)) S1
  | _ => .bad
section
variable {X : Cx} {C : Cfg} {W : WX} {call : Call} {fe : EE} {fr : EA} {tg e e2 : Expr} {pos p : Pos}
theorem ev_src (g : Good X C) (he : PE X e (tE C W call fe)) : PI X tg e (tI C W call (cSrc fe)) := by
  have h0 := (pi_list (tg := tg) he).or ((pi_tup (tg := tg) he).or (pi_str (tg := tg) he))
  rw [g.K] at h0
  refine h0.imp fun σ H Rw ⟨ρ, hid, S, env, s, n, h⟩ => ?_
  have hb := okR.bind h
  cases q : fe call env S with
  | bad => rw [q] at hb; exact hb.elim
  | exc c fs en S1 => rw [q] at hb; exact .inl ⟨ρ, hid, S, env, s, n, by rw [q]; exact hb⟩
  | ok d S1 =>
    rw [q] at hb
    cases d with
    | tup ds =>
      refine .inr (.inl ⟨ρ, hid, S, env, s, n, ?_⟩)
      rw [q]
      intro ρ1 H1 e1 s1 v rv
      cases rv with
      | tup hA r =>
        have h1 := okR.here (hb ρ1 H1 e1 s1) s1
        exact ⟨_, rfl, ⟨_, hA.sq⟩, h1 _ (walkAt_tup hA r)⟩
    | lst ds =>
      refine .inl ⟨ρ, hid, S, env, s, n, ?_⟩
      rw [q]
      intro ρ1 H1 e1 s1 v rv
      cases rv with
      | lst hA r =>
        have h1 := okR.here (hb ρ1 H1 e1 s1) s1
        exact ⟨_, rfl, ⟨_, hA.sq⟩, h1 _ (walkAt_lst hA r)⟩
    | scr ds =>
      refine .inl ⟨ρ, hid, S, env, s, n, ?_⟩
      rw [q]
      intro ρ1 H1 e1 s1 v rv
      cases rv with
      | scr hA r =>
        have h1 := okR.here (hb ρ1 H1 e1 s1) s1
        exact ⟨_, rfl, ⟨_, hA.sq⟩, h1 _ (walkAt_scr hA r)⟩
    | str x =>
      refine .inr (.inr ⟨ρ, hid, S, env, s, n, ?_⟩)
      rw [q]
      intro ρ1 H1 e1 s1 v rv
      cases rv with
      | str _ hx =>
        have h1 := okR.here (hb ρ1 H1 e1 s1) s1
        exact ⟨_, rfl, h1 _ (walkAt_str hx)⟩
    | ref l =>
      refine .inl ⟨ρ, hid, S, env, s, n, ?_⟩
      rw [q]
      intro ρ1 H1 e1 s1 v rv
      have h1 := hb ρ1 H1 e1 s1
      simp only [srcOf] at h1
      split at h1
      · rename_i ds hs
        cases rv with
        | ref hl =>
          obtain ⟨vs, e2, z, r⟩ := s1.obj l _ _ hl hs
          have h2 := okR.here h1 s1
          exact ⟨_, rfl, ⟨_, SqL.of e2⟩, h2 _ ⟨_, hl, rfl⟩⟩
      · exact h1.elim
    | _ => exact .inl ⟨ρ, hid, S, env, s, n, by rw [q]; exact fun ρ1 H1 e1 s1 v rv => (hb ρ1 H1 e1 s1).elim⟩
end
end Ev

set_option Elab.async false
set_option linter.all false
set_option maxRecDepth 100000
set_option maxHeartbeats 1000000
/-! Ev, part 6: targets, list comprehensions. -/
namespace Ev
open PySem PySem.Spec PyProof.Rows L2

section
variable {X : Cx} {C : Cfg} {W : WX} {call : Call} {fe : EE} {fr : EA} {tg e e2 : Expr} {elts : List Expr} {kk : Nat} {pos p tpos : Pos}
theorem ev_range1 (hg : Gl X "range") (hm : X.mg "range" = none) (ha : PA X [e] (tA C W call fr)) (hs : starEach [e] X.env = [(false, eval e X.env)]) : PI X tg (.Call (.Name "range" p) [e] [] pos) (tI C W call (cRange1 fr)) :=
  (pi_range1 hg hm ha hs).imp fun σ H Rw ⟨ρ, hid, S, env, s, n, h⟩ => by
    refine ⟨ρ, hid, S, env, s, n, (okR.bind h).imp (fun ds S1 ρ1 H1 e1 s1 h1 vs rs => ?_) fun _ _ _ _ _ _ _ _ q => q⟩
    split at h1
    · split at h1
      · rename_i j hz
        cases rs with
        | cons r1 r2 =>
          cases r1
          cases r2
          have h2 := okR.here h1 s1
          exact ⟨j, rfl, hz.1, hz.2.1, h2 _ (walkAt_range hz.2.2)⟩
      · exact h1.elim
    · exact h1.elim
theorem ev_range2 (hg : Gl X "range") (hm : X.mg "range" = none) (ha : PA X [e, e2] (tA C W call fr)) (hs : starEach [e, e2] X.env = [(false, eval e X.env), (false, eval e2 X.env)]) (hs2 : starEach [e2] X.env = [(false, eval e2 X.env)]) : PI X tg (.Call (.Name "range" p) [e, e2] [] pos) (tI C W call (cRange2 fr)) :=
  (pi_range2 hg hm ha hs hs2).imp fun σ H Rw ⟨ρ, hid, S, env, s, n, h⟩ => by
    refine ⟨ρ, hid, S, env, s, n, (okR.bind h).imp (fun ds S1 ρ1 H1 e1 s1 h1 vs rs => ?_) fun _ _ _ _ _ _ _ _ q => q⟩
    split at h1
    · split at h1
      · rename_i i j hz
        cases rs with
        | cons r1 r2 =>
          cases r1
          cases r2 with
          | cons r3 r4 =>
            cases r3
            cases r4
            have h2 := okR.here h1 s1
            exact ⟨i, j, rfl, hz.1, h2 _ (walkAt_range hz.2)⟩
      · exact h1.elim
    · exact h1.elim
theorem ev_enum (g : Good X C) (hg : Gl X "enumerate") (hm : X.mg "enumerate" = none) (ha : PA X [e] (tA C W call fr)) (hs : starEach [e] X.env = [(false, eval e X.env)]) : PI X (.Tuple elts kk tpos) (.Call (.Name "enumerate" p) [e] [] pos) (tI C W call (cEnum fr)) :=
  (pi_enum hg hm ha hs).imp fun σ H Rw ⟨ρ, hid, S, env, s, n, h⟩ => by
    refine ⟨ρ, hid, S, env, s, n, (okR.bind h).imp (fun ds S1 ρ1 H1 e1 s1 h1 vs rs => ?_) fun _ _ _ _ _ _ _ _ q => q⟩
    rw [g.K]
    split at h1
    · cases rs with
      | cons r1 r2 =>
        cases r2
        cases r1 with
        | lst hA r =>
          have h2 := okR.here h1 s1
          exact ⟨_, _, rfl, hA.sq, h2 _ (walkAt_enum hA r)⟩
    · exact h1.elim
theorem ev_zip (g : Good X C) (hg : Gl X "zip") (hm : X.mg "zip" = none) (ha : PA X [e, e2] (tA C W call fr)) (hs : starEach [e, e2] X.env = (false, eval e X.env) :: starEach [e2] X.env) (hpl : (backTo pos (starEach [e2] X.env)).any (·.1) = false) :
    PI X (.Tuple elts kk tpos) (.Call (.Name "zip" p) [e, e2] [] pos) (tI C W call (cZip fr)) :=
  (pi_zip hg hm ha hs hpl).imp fun σ H Rw ⟨ρ, hid, S, env, s, n, h⟩ => by
    refine ⟨ρ, hid, S, env, s, n, (okR.bind h).imp (fun ds S1 ρ1 H1 e1 s1 h1 vs rs => ?_) fun _ _ _ _ _ _ _ _ q => q⟩
    rw [g.K]
    split at h1
    · cases rs with
      | cons r1 r2 =>
        cases r2 with
        | cons r3 r4 =>
          cases r4
          cases r1 with
          | lst hA r =>
            cases r3 with
            | lst hB q =>
              have h2 := okR.here h1 s1
              exact ⟨_, _, _, _, rfl, hA.sq, hB.sq, h2 _ (walkAt_zip hA r hB q)⟩
    · exact h1.elim
end

/-! ### targets: names, tuples of these -/
inductive Tg where
  | nm (i : Nat) | tup (ts : List Tg)
mutual
def bindT : Tg → D → Env' → Option Env'
  | .nm i, d, env => some (env.set i (some d))
  | .tup ts, .tup ds, env => bindTs ts ds env
  | .tup ts, .lst ds, env => bindTs ts ds env
  | .tup ts, .pr ds, env => bindTs ts ds env
  | .tup _, _, _ => none
def bindTs : List Tg → List D → Env' → Option Env'
  | [], [], env => some env
  | t :: ts, d :: ds, env => (bindT t d env).bind fun env1 => bindTs ts ds env1
  | _, _, _ => none
def slots : Tg → List Nat
  | .nm i => [i]
  | .tup ts => slotsL ts
def slotsL : List Tg → List Nat
  | [] => []
  | t :: ts => slots t ++ slotsL ts
/-- the hand layer's reading of a target -/
def gOf (K : PySem.W.Frag) : Tg → TG
  | .nm i => gName i
  | .tup ts => fun v σ H Q => gTup K ts.length (gsOf K ts) v σ H Q ∨ gLst K ts.length (gsOf K ts) v σ H Q
def gsOf (K : PySem.W.Frag) : List Tg → TGs
  | [] => gNil
  | t :: ts => gCons (gOf K t) (gsOf K ts)
end
theorem wipe_get : ∀ (ws : List Nat) (σ : L2.St) (j : Nat), (wipe σ ws)[j]? = if j ∈ ws then (if j < σ.length then some none else none) else σ[j]?
  | [], σ, j => by simp [wipe]
  | w :: ws, σ, j => by
    unfold wipe
    have ih := wipe_get ws σ j
    by_cases e : w = j
    · subst e
      by_cases hl : w < σ.length
      · rw [List.getElem?_set_self (by rw [wipe_length]; exact hl)]
        simp [hl]
      · rw [List.getElem?_eq_none (by rw [List.length_set, wipe_length]; omega)]
        simp [hl]
    · rw [List.getElem?_set_ne e, ih]
      have e' : ¬ j = w := fun z => e z.symm
      by_cases m : j ∈ ws <;> simp [m, e']
/-- σ' is σ but for some slots -/
def Only (vs : List Nat) (σ σ' : L2.St) : Prop := ∀ ws, (∀ j ∈ vs, j ∈ ws) → wipe σ' ws = wipe σ ws
theorem Only.refl {σ : L2.St} {vs : List Nat} : Only vs σ σ := fun _ _ => rfl
theorem Only.set {σ : L2.St} {i : Nat} {x : Option V} : Only [i] σ (σ.set i x) := fun ws h => by
  have hi : i ∈ ws := h i (by simp)
  apply List.ext_getElem?
  intro j
  rw [wipe_get, wipe_get, List.length_set]
  by_cases m : j ∈ ws
  · simp [m]
  · simp only [m, if_false]
    exact List.getElem?_set_ne (fun e => m (by rw [← e]; exact hi))
theorem Only.trans {σ σ' σ'' : L2.St} {vs ws : List Nat} (a : Only vs σ σ') (b : Only ws σ' σ'') : Only (vs ++ ws) σ σ'' := fun us h =>
  (b us fun j hj => h j (List.mem_append_right _ hj)).trans (a us fun j hj => h j (List.mem_append_left _ hj))
section
variable {C : Cfg} {ρ hid : List Addr} {H : Hp}
theorem EnvOk.set {env : Env'} {σ : L2.St} {d : D} {v : V} (n : EnvOk C ρ hid H env σ) (r : Rl C ρ hid H d v) (i : Nat) : EnvOk C ρ hid H (env.set i (some d)) (σ.set i (some v)) := by
  refine ⟨by rw [List.length_set, List.length_set]; exact n.1, fun j e h => ?_⟩
  by_cases hj : i = j
  · subst hj
    by_cases hl : i < env.length
    · rw [List.getElem?_set_self hl] at h
      cases h
      exact ⟨v, List.getElem?_set_self (by rw [← n.1]; exact hl), r⟩
    · rw [List.getElem?_eq_none (by rw [List.length_set]; omega)] at h
      cases h
  · rw [List.getElem?_set_ne hj] at h
    obtain ⟨w, h1, h2⟩ := n.2 j e h
    exact ⟨w, by rw [List.getElem?_set_ne hj]; exact h1, h2⟩
mutual
theorem bind_ok : ∀ (t : Tg) {d : D} {v : V} {env env' : Env'} {σ : L2.St} {Q : L2.St → Hp → Prop}, Rl C ρ hid H d v → EnvOk C ρ hid H env σ → bindT t d env = some env' →
    (∀ σ', EnvOk C ρ hid H env' σ' → Only (slots t) σ σ' → Q σ' H) → gOf C.K t v σ H Q
  | .nm i, d, v, env, env', σ, Q, r, n, e, q => by
    simp only [bindT] at e
    cases e
    exact q _ (n.set r i) Only.set
  | .tup ts, d, v, env, env', σ, Q, r, n, e, q => by
    cases r with
    | tup hA ra =>
      rename_i a ds vs
      simp only [bindT] at e
      obtain ⟨hl, hb⟩ := binds_ok ts ra n e (Q := Q) q
      exact .inl ⟨a, vs, rfl, hA.sq, hl, hb⟩
    | lst hA ra =>
      rename_i a ds vs
      simp only [bindT] at e
      obtain ⟨hl, hb⟩ := binds_ok ts ra n e (Q := Q) q
      exact .inr ⟨a, vs, rfl, hA.sq, hl, hb⟩
    | pr hA hn ra =>
      rename_i a ds vs
      simp only [bindT] at e
      obtain ⟨hl, hb⟩ := binds_ok ts ra n e (Q := Q) q
      exact .inl ⟨a, vs, rfl, .inl (.inl hA), hl, hb⟩
    | _ => simp [bindT] at e
theorem binds_ok : ∀ (ts : List Tg) {ds : List D} {vs : List V} {env env' : Env'} {σ : L2.St} {Q : L2.St → Hp → Prop}, RlAll C ρ hid H ds vs → EnvOk C ρ hid H env σ → bindTs ts ds env = some env' →
    (∀ σ', EnvOk C ρ hid H env' σ' → Only (slotsL ts) σ σ' → Q σ' H) → vs.length = ts.length ∧ gsOf C.K ts vs σ H Q
  | [], ds, vs, env, env', σ, Q, r, n, e, q => by
    cases r with
    | nil =>
      simp only [bindTs] at e
      cases e
      exact ⟨rfl, rfl, q _ n Only.refl⟩
    | cons _ _ => simp [bindTs] at e
  | t :: ts, ds, vs, env, env', σ, Q, r, n, e, q => by
    cases r with
    | nil => simp [bindTs] at e
    | cons h r =>
      rename_i d v ds vs
      simp only [bindTs] at e
      obtain ⟨env1, e1, e2⟩ := Option.bind_eq_some_iff.mp e
      have hlen : vs.length = ts.length := by
        have := binds_len ts ds env1 env' e2
        rw [← this, r.length]
      refine ⟨by rw [List.length_cons, List.length_cons, hlen], v, vs, rfl, ?_⟩
      exact bind_ok t h n e1 fun σ1 n1 o1 => (binds_ok ts r n1 e2 fun σ2 n2 o2 => q σ2 n2 (o1.trans o2)).2
theorem binds_len : ∀ (ts : List Tg) (ds : List D) (env env' : Env'), bindTs ts ds env = some env' → ds.length = ts.length
  | [], [], _, _, _ => rfl
  | [], _ :: _, _, _, e => by simp [bindTs] at e
  | _ :: _, [], _, _, e => by simp [bindTs] at e
  | t :: ts, d :: ds, env, env', e => by
    simp only [bindTs] at e
    obtain ⟨env1, e1, e2⟩ := Option.bind_eq_some_iff.mp e
    rw [List.length_cons, List.length_cons, binds_len ts ds env1 env' e2]
end
def wipeD (env : Env') : List Nat → Env'
  | [] => env
  | v :: vs => (wipeD env vs).set v none
theorem EnvOk.wipe {env : Env'} {σ : L2.St} (n : EnvOk C ρ hid H env σ) : ∀ vs : List Nat, EnvOk C ρ hid H (wipeD env vs) (L2.wipe σ vs)
  | [] => n
  | w :: ws => by
    have ih := EnvOk.wipe n ws
    unfold wipeD L2.wipe
    refine ⟨by rw [List.length_set, List.length_set]; exact ih.1, fun j d h => ?_⟩
    by_cases hj : w = j
    · subst hj
      by_cases hl : w < (wipeD env ws).length
      · rw [List.getElem?_set_self hl] at h; cases h
      · rw [List.getElem?_eq_none (by rw [List.length_set]; omega)] at h; cases h
    · rw [List.getElem?_set_ne hj] at h ⊢
      exact ih.2 j d h
theorem EnvOk.turn {env : Env'} {σ : L2.St} {p : Addr} {u : HO} (n : EnvOk C ρ hid H env σ) (hp : p ∈ hid) : EnvOk C ρ hid (upd H p u) env σ :=
  ⟨n.1, fun i d q => let ⟨v, h1, h2⟩ := n.2 i d q; ⟨v, h1, h2.turn hp⟩⟩
theorem EnvOk.hide {env : Env'} {σ : L2.St} {p : Addr} {u : HO} (n : EnvOk C ρ hid H env σ) (hp : H p = none) : EnvOk C ρ (p :: hid) (upd H p u) env σ :=
  ⟨n.1, fun i d q => let ⟨v, h1, h2⟩ := n.2 i d q; ⟨v, h1, h2.hide hp⟩⟩
theorem Ext.turn {ρ' : List Addr} {H' : Hp} {p : Addr} {u : HO} (e : Ext ρ H ρ' H') (hp : H p = none) : Ext ρ H ρ' (upd H' p u) :=
  ⟨e.pre, fun a o h n t => by rw [upd_ne (ne_of_none h hp)]; exact e.keep a o h n t, fun a o h n => by rw [upd_ne (ne_of_none h hp)]; exact e.stay a o h n, e.new⟩
end

/-! ### list comprehensions -/
def lcL (call : Call) (tg : Tg) (ft : EB) (fe : EE) (env : Env') : List D → List D → Sto → R (List D)
  | [], acc, S => .ok acc S
  | d :: r, acc, S => match bindT tg d env with
    | none => .bad
    | some env1 => (ft call env1 S).bind fun b S1 => if b then (fe call env1 S1).bind fun y S2 => lcL call tg ft fe env r (acc ++ [y]) S2 else lcL call tg ft fe env r acc S1
/-- over a list of the store, as it stands at each turn -/
def lcB (call : Call) (tg : Tg) (ft : EB) (fe : EE) (env : Env') (l : Nat) : Nat → Nat → List D → Sto → R (List D)
  | 0, _, _, _ => .bad
  | n + 1, i, acc, S => match S[l]? with
    | some (.lst ds) => match ds[i]? with
      | none => .ok acc S
      | some d => match bindT tg d env with
        | none => .bad
        | some env1 => (ft call env1 S).bind fun b S1 => if b then (fe call env1 S1).bind fun y S2 => lcB call tg ft fe env l n (i + 1) (acc ++ [y]) S2 else lcB call tg ft fe env l n (i + 1) acc S1
    | _ => .bad
def noExc {α : Type} (r : R α) : R α := match r with
  | .ok a S => .ok a S
  | _ => .bad
def turnsMost : Nat := 16777217
def lcRun (call : Call) (tg : Tg) (ft : EB) (fe : EE) (env : Env') (src : Src) (S : Sto) : R (List D) := match src with
  | .frz items => noExc (lcL call tg ft fe env items [] S)
  | .box l => noExc (lcB call tg ft fe env l turnsMost 0 [] S)
def cLc (bx : Bool) (tg : Tg) (vs : List Nat) (ft : EB) (fe : EE) (fi : EI) : EE := fun call env S => (fi call env S).bind fun src S1 => (lcRun call tg ft fe (wipeD env vs) src S1).bind fun ds S2 => mkL bx ds S2
abbrev W0 : WX := fun _ _ _ _ => False

section
variable {X : Cx} {C : Cfg} {W : WX} {call : Call}
/-- the end: the new list is nobody's any more -/
theorem lc_end {bx : Bool} {ρ0 ρ hid : List Addr} {H0 H : Hp} {Dp : Addr} {acc : List D} {accV : List V} {S : Sto} {Q : VK} {XX : XP} (e : Ext ρ0 H0 ρ H) (h0 : H0 Dp = none) (s : StoOk C (Dp :: hid) ρ H S) (hf : Dp ∉ hid)
    (hD : H Dp = some (.lst accV)) (hz : accV.length ≤ sizeLine) (r : RlAll C ρ (Dp :: hid) H acc accV) (h : okR C hid ρ0 H0 (mkL bx acc S) (PostE C hid Q) XX) : Q (.ref Dp) H := by
  have hi : ∀ a, a ∈ hid → a ∈ Dp :: hid := fun a h => List.mem_cons_of_mem _ h
  have s' := s.unhide
  have nR := (s.hidT Dp List.mem_cons_self).2
  have r' := r.open hi
  cases bx with
  | false => exact h ρ H e s' _ (.lst ⟨⟨.inl hD, hz⟩, nR, hf⟩ r')
  | true =>
    have e2 : Ext ρ0 H0 (ρ ++ [Dp]) H := by
      refine ⟨?_, e.keep, e.stay, fun a ha => ?_⟩
      · obtain ⟨z, rfl⟩ := e.pre
        exact ⟨z ++ [Dp], by simp⟩
      · rcases List.mem_append.mp ha with q | q
        · exact e.new a q
        · rw [List.mem_singleton] at q; subst q; exact .inr h0
    have mv : ∀ a, Fz ρ (Dp :: hid) a → Fz (ρ ++ [Dp]) hid a := fun a n => by
      refine ⟨fun z => ?_, fun z => n.2 (hi _ z)⟩
      rcases List.mem_append.mp z with q | q
      · exact n.1 q
      · rw [List.mem_singleton] at q; exact n.2 (by rw [q]; exact List.mem_cons_self)
    have mr : ∀ (l : Nat) (a : Addr), ρ[l]? = some a → (ρ ++ [Dp])[l]? = some a := fun l a hl => by
      obtain ⟨z, _⟩ := List.getElem?_eq_some_iff.mp hl
      rw [List.getElem?_append_left z]; exact hl
    have s2 : StoOk C hid (ρ ++ [Dp]) H (S ++ [.lst acc]) := by
      refine ⟨by simp [s.len], ?_, fun l a ob h1 h2 => ?_, fun a ha => ⟨(s'.hidT a ha).1, fun z => ?_⟩, s.gr⟩
      · exact List.nodup_append.mpr ⟨s.nd, by simp, fun a ha b hb => by rw [List.mem_singleton] at hb; rintro rfl; exact nR (hb ▸ ha)⟩
      · by_cases hl : l < ρ.length
        · rw [List.getElem?_append_left hl] at h1
          rw [List.getElem?_append_left (by rw [← s.len]; exact hl)] at h2
          have q := s.obj l a ob h1 h2
          cases ob with
          | lst ds => obtain ⟨vs, e1, z, r⟩ := q; exact ⟨vs, e1, z, r.move mv mr⟩
          | dic kvs => obtain ⟨vs, e1, z, r⟩ := q; exact ⟨vs, e1, z, r.move mv mr⟩
          | hid => exact q
        · rw [List.getElem?_append_right (by omega)] at h1
          rw [List.getElem?_append_right (by rw [← s.len]; omega)] at h2
          obtain ⟨z1, z2⟩ := List.getElem?_eq_some_iff.mp h1
          have z3 : l - ρ.length = 0 := by simp at z1; omega
          rw [z3] at h1
          rw [← s.len, z3] at h2
          simp at h1 h2
          subst h1 h2
          exact ⟨accV, hD, hz, r.move mv mr⟩
      · rcases List.mem_append.mp z with q | q
        · exact (s'.hidT a ha).2 q
        · rw [List.mem_singleton] at q; rw [q] at ha; exact hf ha
    exact h _ H e2 s2 _ (.ref (by rw [← s.len]; simp))
/-- the turn of a comprehension, whatever it walks -/
theorem lc_turn {tg : Tg} {vs : List Nat} {ft : EB} {fe : EE} {envw : Env'} {σ : L2.St} {ρ hid : List Addr} {H : Hp} {S SF : Sto} {Dp : Addr} {acc dsF : List D} {accV : List V} {d : D} {x : V} {env1 : Env'} {Nx : Hp → Prop} (g : List D → Sto → R (List D))
    (hs : ∀ j ∈ slots tg, j ∈ vs) (s : StoOk C (Dp :: hid) ρ H S) (n : EnvOk C ρ (Dp :: hid) H envw (wipe σ vs)) (hD : H Dp = some (.lst accV)) (hz : accV.length < sizeLine) (r : RlAll C ρ (Dp :: hid) H acc accV) (rx : Rl C ρ (Dp :: hid) H d x) (hb : bindT tg d envw = some env1)
    (he : ((ft call env1 S).bind fun b S1 => if b then (fe call env1 S1).bind fun y S2 => g (acc ++ [y]) S2 else g acc S1) = .ok dsF SF)
    (hN : ∀ ρ' H' S' acc' accV', Ext ρ H ρ' H' ∨ (∃ H'' u, Ext ρ H ρ' H'' ∧ H' = upd H'' Dp u) → StoOk C (Dp :: hid) ρ' H' S' → H' Dp = some (.lst accV') → accV'.length ≤ accV.length + 1 → RlAll C ρ' (Dp :: hid) H' acc' accV' → g acc' S' = .ok dsF SF → Nx H') :
    gOf C.K tg x (wipe σ vs) H fun σ2 H2 => wipe σ2 vs = wipe σ vs ∧ (tT C W0 call ft) σ2 H2 fun b H3 =>
      if b = true then (tE C W0 call fe) σ2 H3 fun y H4 => ∃ ac, H4 Dp = some (.lst ac) ∧ ac.length < sizeLine ∧ Nx (upd H4 Dp (.lst (ac ++ [y]))) else Nx H3 := by
  have ww : ∀ ws, (∀ j ∈ vs, j ∈ ws) → wipe (wipe σ vs) ws = wipe σ ws := fun ws h => by
    apply List.ext_getElem?
    intro j
    rw [wipe_get, wipe_get, wipe_get, wipe_length]
    by_cases m : j ∈ ws
    · simp [m]
    · simp only [m, if_false]
      rw [if_neg (fun q => m (h j q))]
  refine bind_ok tg rx n hb fun σ2 n2 o2 => ⟨(o2 vs hs).trans (ww vs fun _ z => z), ?_⟩
  cases q : ft call env1 S with
  | bad => rw [q] at he; cases he
  | exc c fs en S1 => rw [q] at he; cases he
  | ok b S1 =>
    rw [q] at he
    refine ⟨ρ, Dp :: hid, S, env1, s, n2, ?_⟩
    rw [q]
    intro ρ3 H3 e3 s3
    have nD := (s.hidT Dp List.mem_cons_self).2
    have hD3 := e3.keep _ _ hD nD nt_lst
    have he2 : (if b then (fe call env1 S1).bind fun y S2 => g (acc ++ [y]) S2 else g acc S1) = .ok dsF SF := he
    cases b with
    | false => exact hN ρ3 H3 S1 acc accV (.inl e3) s3 hD3 (Nat.le_succ _) (r.ext e3) he2
    | true =>
      simp only [if_true] at he2 ⊢
      cases q2 : fe call env1 S1 with
      | bad => rw [q2] at he2; cases he2
      | exc c fs en S2 => rw [q2] at he2; cases he2
      | ok y S2 =>
        rw [q2] at he2
        refine ⟨ρ3, Dp :: hid, S1, env1, s3, n2.ext e3, ?_⟩
        rw [q2]
        intro ρ4 H4 e4 s4 v rv
        have nD3 := (s3.hidT Dp List.mem_cons_self).2
        have hD4 := e4.keep _ _ hD3 nD3 nt_lst
        refine ⟨accV, hD4, hz, ?_⟩
        have mem : Dp ∈ Dp :: hid := List.mem_cons_self
        refine hN ρ4 _ S2 (acc ++ [y]) (accV ++ [v]) (.inr ⟨H4, _, e3.trans e4, rfl⟩) (s4.turn mem) upd_same (by simp) ?_ he2
        exact (((r.ext e3).ext e4).turn mem).append (.cons (rv.turn mem) .nil)
end
end Ev

set_option Elab.async false
set_option linter.all false
set_option maxRecDepth 100000
set_option maxHeartbeats 1000000
/-! Ev, part 7: list comprehensions, for loops. -/
namespace Ev
open PySem PySem.Spec PyProof.Rows L2

theorem noExc_ok {α : Type} {r : R α} {a : α} {S : Sto} (h : noExc r = .ok a S) : r = .ok a S := by
  cases r with
  | ok b T => exact h
  | exc => cases h
  | bad => cases h
section
variable {X : Cx} {C : Cfg} {W : WX} {call : Call}
/-- what stands between two turns -/
structure LcAt (C : Cfg) (ρ1 hid : List Addr) (H1 : Hp) (Dp : Addr) (envw : Env') (σw : L2.St) (i : Nat) (ρ : List Addr) (H : Hp) (S : Sto) (acc : List D) (accV : List V) : Prop where
  ext : Ext ρ1 H1 ρ H
  sto : StoOk C (Dp :: hid) ρ H S
  env : EnvOk C ρ (Dp :: hid) H envw σw
  at_ : H Dp = some (.lst accV)
  few : accV.length ≤ i
  size : accV.length ≤ sizeLine
  acc : RlAll C ρ (Dp :: hid) H acc accV
theorem LcAt.start {ρ1 hid : List Addr} {H1 : Hp} {Dp : Addr} {env : Env'} {σ : L2.St} {S : Sto} (s : StoOk C hid ρ1 H1 S) (n : EnvOk C ρ1 hid H1 env σ) (h : H1 Dp = none) (vs : List Nat) :
    LcAt C ρ1 hid H1 Dp (wipeD env vs) (wipe σ vs) 0 ρ1 (upd H1 Dp (.lst [])) S [] [] :=
  ⟨.laid h, s.hide h, (n.wipe vs).hide h, upd_same, Nat.le_refl _, Nat.zero_le _, .nil⟩
theorem LcAt.next {ρ1 hid : List Addr} {H1 : Hp} {Dp : Addr} {envw : Env'} {σw : L2.St} {i : Nat} {ρ ρ' : List Addr} {H Hy H' : Hp} {S S' : Sto} {acc acc' : List D} {accV accV' : List V} (A : LcAt C ρ1 hid H1 Dp envw σw i ρ H S acc accV) (h : H1 Dp = none)
    (ey : Ext ρ H ρ Hy) (e : Ext ρ Hy ρ' H' ∨ (∃ H'' u, Ext ρ Hy ρ' H'' ∧ H' = upd H'' Dp u)) (s : StoOk C (Dp :: hid) ρ' H' S') (hD : H' Dp = some (.lst accV')) (hz : accV'.length ≤ accV.length + 1) (hs : accV.length < sizeLine) (r : RlAll C ρ' (Dp :: hid) H' acc' accV') : LcAt C ρ1 hid H1 Dp envw σw (i + 1) ρ' H' S' acc' accV' := by
  have hl : accV'.length ≤ i + 1 := by have := A.few; omega
  rcases e with e | ⟨H'', u, e, rfl⟩
  · exact ⟨(A.ext.trans ey).trans e, s, (A.env.ext ey).ext e, hD, hl, by omega, r⟩
  · exact ⟨((A.ext.trans ey).trans e).turn h, s, ((A.env.ext ey).ext e).turn List.mem_cons_self, hD, hl, by omega, r⟩
theorem lc_core {bx : Bool} {tg : Tg} {vs : List Nat} {ft : EB} {fe : EE} {fi : EI} {ρ hid : List Addr} {H : Hp} {S : Sto} {env : Env'} {σ : L2.St} {Q : VK} (hs : ∀ j ∈ slots tg, j ∈ vs) (n : EnvOk C ρ hid H env σ)
    (h : okR C hid ρ H (cLc bx tg vs ft fe fi call env S) (PostE C hid Q) (xOut C hid W)) :
    okR C hid ρ H (fi call env S) (fun src _ ρ1 H1 => ∀ J, WalkAt C hid ρ1 H1 J src → tLc (fun _ H R => R J H) (gOf C.K tg) (tT C W0 call ft) (tE C W0 call fe) vs σ H1 Q) (xOut C hid W) := by
  refine (okR.bind h).imp (fun src S1 ρ1 H1 e1 s1 h1 J wk => ?_) fun _ _ _ _ _ _ _ _ q => q
  intro Dp hDp
  have n1 := n.ext e1
  have hf := s1.freshH hDp
  cases q : lcRun call tg ft fe (wipeD env vs) src S1 with
  | bad => rw [q] at h1; exact h1.elim
  | exc c fs en S2 => cases src <;> (simp only [lcRun, noExc] at q; split at q <;> cases q)
  | ok dsF SF =>
    rw [q] at h1
    have fin : okR C hid ρ1 H1 (mkL bx dsF SF) (PostE C hid Q) (xOut C hid W) := h1
    cases src with
    | frz items =>
      obtain ⟨hsz, ok, sta, ok0, step⟩ := wk
      have q' := noExc_ok (show noExc (lcL call tg ft fe (wipeD env vs) items [] S1) = _ from q)
      refine ⟨fun i m H => m = items.length - i ∧ i ≤ items.length ∧ ∃ ρ S acc accV, LcAt C ρ1 hid H1 Dp (wipeD env vs) (wipe σ vs) i ρ H S acc accV ∧ ok ρ (Dp :: hid) H ∧ lcL call tg ft fe (wipeD env vs) (items.drop i) acc S = .ok dsF SF,
        ⟨items.length, rfl, Nat.zero_le _, ρ1, S1, [], [], LcAt.start s1 n1 hDp vs, sta.hide _ _ _ _ _ hDp ok0, q'⟩, ?_⟩
      rintro i m H2 ⟨rfl, hi, ρ2, S2, acc, accV, A, ok2, run⟩
      obtain ⟨go, stop⟩ := step ρ2 (Dp :: hid) H2 S2 i ok2 A.sto
      by_cases hlt : i < items.length
      · obtain ⟨g1, g2⟩ := go hlt
        refine .inr ⟨g1, fun H' => ∃ m', m' < items.length - i ∧ (m' = items.length - (i + 1) ∧ i + 1 ≤ items.length ∧ ∃ ρ S acc accV, LcAt C ρ1 hid H1 Dp (wipeD env vs) (wipe σ vs) (i + 1) ρ H' S acc accV ∧ ok ρ (Dp :: hid) H' ∧ lcL call tg ft fe (wipeD env vs) (items.drop (i + 1)) acc S = .ok dsF SF), fun H' z => z, fun x H' y => ?_⟩
        obtain ⟨ey, sy, d, hd, rd⟩ := g2 x H' y
        have ed : items.drop i = d :: items.drop (i + 1) := by
          rw [List.drop_eq_getElem_cons hlt]
          have : items[i]? = some items[i] := List.getElem?_eq_getElem hlt
          rw [hd] at this
          rw [← Option.some.inj this]
        rw [ed] at run
        simp only [lcL] at run
        cases hb : bindT tg d (wipeD env vs) with
        | none => rw [hb] at run; cases run
        | some env1 =>
          rw [hb] at run
          refine lc_turn (fun a S' => lcL call tg ft fe (wipeD env vs) (items.drop (i + 1)) a S') hs sy (A.env.ext ey) (ey.keep _ _ A.at_ (A.sto.hidT Dp List.mem_cons_self).2 nt_lst) (by have := A.few; omega) (A.acc.ext ey) rd hb run fun ρ' H'' S' acc' accV' e s' hD' hl' r' run' => ?_
          refine ⟨items.length - (i + 1), by omega, rfl, hlt, ρ', S', acc', accV', A.next hDp ey e s' hD' hl' (by have := A.few; omega) r', ?_, run'⟩
          rcases e with e | ⟨H3, u, e, rfl⟩
          · exact sta.ext _ _ _ _ _ (ey.trans e) ok2
          · exact sta.turn _ _ _ _ _ List.mem_cons_self (sta.ext _ _ _ _ _ (ey.trans e) ok2)
      · have e : i = items.length := by omega
        rw [e, List.drop_length] at run
        cases run
        exact .inl ⟨stop (by omega), lc_end A.ext hDp A.sto hf A.at_ A.size A.acc fin⟩
    | box l =>
      obtain ⟨a, hl, rfl⟩ := wk
      have q' := noExc_ok (show noExc (lcB call tg ft fe (wipeD env vs) l turnsMost 0 [] S1) = _ from q)
      refine ⟨fun i m H => ∃ ρ S acc accV, LcAt C ρ1 hid H1 Dp (wipeD env vs) (wipe σ vs) i ρ H S acc accV ∧ lcB call tg ft fe (wipeD env vs) l m i acc S = .ok dsF SF,
        ⟨turnsMost, ρ1, S1, [], [], LcAt.start s1 n1 hDp vs, q'⟩, ?_⟩
      rintro i m H2 ⟨ρ2, S2, acc, accV, A, run⟩
      cases m with
      | zero => simp [lcB] at run
      | succ m =>
        simp only [lcB] at run
        split at run
        · rename_i ds hds
          have hl2 := A.ext.at hl
          obtain ⟨ws, ha, hz, rds⟩ := A.sto.obj l a _ hl2 hds
          split at run
          · rename_i hn
            cases run
            refine .inl ⟨⟨ws, SqL.of ha, ?_⟩, lc_end A.ext hDp A.sto hf A.at_ A.size A.acc fin⟩
            rw [← rds.length]; exact List.getElem?_eq_none_iff.mp hn
          · rename_i d hd
            obtain ⟨v, hv, rv⟩ := rds.get hd
            refine .inr ⟨⟨ws, v, SqL.of ha, hv⟩, fun H' => ∃ m', m' < m + 1 ∧ ∃ ρ S acc accV, LcAt C ρ1 hid H1 Dp (wipeD env vs) (wipe σ vs) (i + 1) ρ H' S acc accV ∧ lcB call tg ft fe (wipeD env vs) l m' (i + 1) acc S = .ok dsF SF, fun H' z => z, fun x H' y => ?_⟩
            obtain ⟨rfl, y⟩ := y
            have e2 := y ws (SqL.of ha)
            rw [hv] at e2
            cases e2
            cases hb : bindT tg d (wipeD env vs) with
            | none => rw [hb] at run; cases run
            | some env1 =>
              rw [hb] at run
              have hil : i < ds.length := (List.getElem?_eq_some_iff.mp hd).1
              have hzz : accV.length < sizeLine := by have := A.few; have := rds.length; omega
              refine lc_turn (fun a S' => lcB call tg ft fe (wipeD env vs) l m (i + 1) a S') hs A.sto A.env A.at_ hzz A.acc rv hb run fun ρ' H'' S' acc' accV' e s' hD' hl' r' run' => ?_
              exact ⟨m, Nat.lt_succ_self _, ρ', S', acc', accV', A.next hDp .refl e s' hD' hl' hzz r', run'⟩
        · cases run
theorem lc_step {bx : Bool} {tg : Tg} {vs : List Nat} {ft : EB} {fe : EE} {fi : EI} (hs : ∀ j ∈ slots tg, j ∈ vs) :
    ∀ σ H Q, tE C W call (cLc bx tg vs ft fe fi) σ H Q → tLc (tI C W call fi) (gOf C.K tg) (tT C W0 call ft) (tE C W0 call fe) vs σ H Q := fun σ H Q ⟨ρ, hid, S, env, s, n, h⟩ =>
  ⟨ρ, hid, S, env, s, n, lc_core hs n h⟩
/-- the block's context is a good one -/
theorem ev_lc {bx : Bool} {tg : Tg} {elt tge iter : Expr} {ifs : List Expr} {scope : Scope} {own : List (Str × Nat)} {pos : Pos} {ft : EB} {fe : EE} {fi : EI} (g : Good X C) (hi : PI X tge iter (tI C W call fi)) (ok : BlkOk X.N X.env.scope scope own)
    (hg : ∀ (s : Shared) (H : Hp) (Cc : Addr) (cl : List (Str × Addr)) (fp : List Addr), PG (X.blk s H scope (compEnvC scope cl Cc X.env) fp) tge (gOf C.K tg))
    (ht : ∀ (s : Shared) (H : Hp) (Cc : Addr) (cl : List (Str × Addr)) (fp : List Addr), PTs (X.blk s H scope (compEnvC scope cl Cc X.env) fp) ifs (tT C W0 call ft))
    (he : ∀ (s : Shared) (H : Hp) (Cc : Addr) (cl : List (Str × Addr)) (fp : List Addr), PE (X.blk s H scope (compEnvC scope cl Cc X.env) fp) elt (tE C W0 call fe))
    (hs : ∀ j ∈ slots tg, j ∈ own.map (·.2)) (hf : ∀ x, foldedSetIterable iter X.env x = pure x) : PE X (.ListComp elt [⟨tge, iter, ifs, 0⟩] scope pos) (tE C W call (cLc bx tg (own.map (·.2)) ft fe fi)) :=
  (pe_lc g.hc g.nd hi ok hg ht he hf).imp (lc_step hs)
/-- a target's assignment: x = e, a, b = e -/
def cAsg (tg : Tg) (fe : EE) : ES := fun call env S => (fe call env S).bind fun d S1 => match bindT tg d env with
  | some env1 => .ok (.nx env1) S1
  | none => .bad
theorem asg_step {tg : Tg} {fe : EE} {te : TE} (hte : ∀ σ H Q, tE C W call fe σ H Q → te σ H Q) : ∀ D σ H, tS C W call (cAsg tg fe) D σ H → tAsg te (gOf C.K tg) D σ H := fun En σ H ⟨ρ, hid, S, env, s, n, h⟩ => by
  refine hte σ H _ ⟨ρ, hid, S, env, s, n, (okR.bind h).imp (fun d S1 ρ1 H1 e1 s1 h1 v rv => ?_) fun _ _ _ _ _ _ _ _ q => q⟩
  cases hb : bindT tg d env with
  | none => rw [hb] at h1; exact h1.elim
  | some env1 =>
    rw [hb] at h1
    have h2 := okR.here h1 s1
    exact bind_ok tg rv (n.ext e1) hb fun σ' n' _ => h2 σ' n'
theorem ev_asg {tg : Tg} {fe : EE} {tge e : Expr} {pos : Pos} (he : PE X e (tE C W call fe)) (hg : PG X tge (gOf C.K tg)) (hs : swapsWithSole [tge] e pos.line X.env = pure false) (hw : swappedStores [tge] e X.env = pure none) (h1 : (assignEach [tge] X.env).map (·.2) = [assign tge X.env]) : PS X (.Assign [tge] e pos) (tS C W call (cAsg tg fe)) :=
  (ps_asg he hg hs hw h1).imp (asg_step fun _ _ _ q => q)
/-- y = [..] on one line -/
theorem ev_asgLc {bx : Bool} {tg : Tg} {elt tge iter : Expr} {ifs : List Expr} {scope : Scope} {own : List (Str × Nat)} {pos spos py : Pos} {ft : EB} {fe : EE} {fi : EI} {i : Nat} {y : Str} (g : Good X C) (hy : X.N[i]? = some y) (hyl : X.env.scope.names.lookup y = some .local)
    (hsw : swapsWith (.ListComp elt [⟨tge, iter, ifs, 0⟩] scope pos) (some (.Name y py)) spos.line X.env = pure true) (hi : PI X tge iter (tI C W call fi)) (ok : BlkOk X.N X.env.scope scope own)
    (hg : ∀ (s : Shared) (H : Hp) (Cc : Addr) (cl : List (Str × Addr)) (fp : List Addr), PG (X.blk s H scope (compEnvC scope cl Cc X.env) fp) tge (gOf C.K tg))
    (ht : ∀ (s : Shared) (H : Hp) (Cc : Addr) (cl : List (Str × Addr)) (fp : List Addr), PTs (X.blk s H scope (compEnvC scope cl Cc X.env) fp) ifs (tT C W0 call ft))
    (he : ∀ (s : Shared) (H : Hp) (Cc : Addr) (cl : List (Str × Addr)) (fp : List Addr), PE (X.blk s H scope (compEnvC scope cl Cc X.env) fp) elt (tE C W0 call fe))
    (hs : ∀ j ∈ slots tg, j ∈ own.map (·.2)) (hf : ∀ x, foldedSetIterable iter X.env x = pure x) : PS X (.Assign [.Name y py] (.ListComp elt [⟨tge, iter, ifs, 0⟩] scope pos) spos) (tS C W call (cAsg (.nm i) (cLc bx tg (own.map (·.2)) ft fe fi))) :=
  (ps_setLc g.hc g.nd hy hyl hsw hi ok hg ht he hf).imp fun D σ H q => asg_step (tg := .nm i) (lc_step hs) D σ H q

/-! ### for -/
/-- what a turn's flow leads to -/
def turnF (r : R F) (k : Env' → Sto → R F) : R F := r.bind fun f S => match f with
  | .nx env => k env S
  | .ct env => k env S
  | .bk env => .ok (.nx env) S
  | .rt d => .ok (.rt d) S
def forL (call : Call) (tg : Tg) (fb : ES) : List D → Env' → Sto → R F
  | [], env, S => .ok (.nx env) S
  | d :: r, env, S => match bindT tg d env with
    | none => .bad
    | some env1 => turnF (fb call env1 S) fun env2 S2 => forL call tg fb r env2 S2
def forB (call : Call) (tg : Tg) (fb : ES) (l : Nat) : Nat → Nat → Env' → Sto → R F
  | 0, _, _, _ => .bad
  | n + 1, i, env, S => match S[l]? with
    | some (.lst ds) => match ds[i]? with
      | none => .ok (.nx env) S
      | some d => match bindT tg d env with
        | none => .bad
        | some env1 => turnF (fb call env1 S) fun env2 S2 => forB call tg fb l n (i + 1) env2 S2
    | _ => .bad
def cFor (tg : Tg) (fi : EI) (fb : ES) : ES := fun call env S => (fi call env S).bind fun src S1 => match src with
  | .frz items => forL call tg fb items env S1
  | .box l => forB call tg fb l turnsMost 0 env S1
/-- a turn of a loop -/
theorem for_turn {tg : Tg} {fb : ES} {ρ hid : List Addr} {H : Hp} {S : Sto} {env env1 : Env'} {σ : L2.St} {d : D} {x : V} {En : Ends} {N : L2.St → Hp → Prop} (k : Env' → Sto → R F) (s : StoOk C hid ρ H S) (n : EnvOk C ρ hid H env σ) (rx : Rl C ρ hid H d x) (hb : bindT tg d env = some env1)
    (h : okR C hid ρ H (turnF (fb call env1 S) k) (endsOk C hid En) (xOut C hid W))
    (hN : ∀ ρ' H' S' env' σ', Ext ρ H ρ' H' → StoOk C hid ρ' H' S' → EnvOk C ρ' hid H' env' σ' → okR C hid ρ' H' (k env' S') (endsOk C hid En) (xOut C hid W) → N σ' H') :
    gOf C.K tg x σ H fun σ2 H2 => tS C W call fb { En with nx := N, ct := N, bk := En.nx } σ2 H2 := by
  refine bind_ok tg rx n hb fun σ2 n2 _ => ⟨ρ, hid, S, env1, s, n2, ?_⟩
  refine (okR.bind h).imp (fun f S1 ρ1 H1 e1 s1 h1 => ?_) fun _ _ _ _ _ _ _ _ q => q
  cases f with
  | nx env2 => exact fun σ' n' => hN ρ1 H1 S1 env2 σ' e1 s1 n' h1
  | ct env2 => exact fun σ' n' => hN ρ1 H1 S1 env2 σ' e1 s1 n' h1
  | bk env2 =>
    have h2 : okR C hid ρ1 H1 (.ok (.nx env2) S1) (endsOk C hid En) (xOut C hid W) := h1
    have h3 := okR.here h2 s1
    exact h3
  | rt d =>
    have h2 : okR C hid ρ1 H1 (.ok (.rt d) S1) (endsOk C hid En) (xOut C hid W) := h1
    have h3 := okR.here h2 s1
    exact h3
theorem for_step {tg : Tg} {fi : EI} {fb : ES} : ∀ D σ H, tS C W call (cFor tg fi fb) D σ H → tFor (tI C W call fi) (gOf C.K tg) (tS C W call fb) D σ H := fun En σ H ⟨ρ, hid, S, env, s, n, h⟩ => by
  refine ⟨ρ, hid, S, env, s, n, (okR.bind h).imp (fun src S1 ρ1 H1 e1 s1 h1 J wk => ?_) fun _ _ _ _ _ _ _ _ q => q⟩
  have n1 := n.ext e1
  cases src with
  | frz items =>
    obtain ⟨hsz, ok, sta, ok0, step⟩ := wk
    refine ⟨fun i m σ H => m = items.length - i ∧ i ≤ items.length ∧ ∃ ρ S env, ok ρ hid H ∧ StoOk C hid ρ H S ∧ EnvOk C ρ hid H env σ ∧ okR C hid ρ H (forL call tg fb (items.drop i) env S) (endsOk C hid En) (xOut C hid W),
      ⟨items.length, rfl, Nat.zero_le _, ρ1, S1, env, ok0, s1, n1, h1⟩, ?_⟩
    rintro i m σ2 H2 ⟨rfl, hi, ρ2, S2, env2, ok2, s2, n2, run⟩
    obtain ⟨go, stop⟩ := step ρ2 hid H2 S2 i ok2 s2
    by_cases hlt : i < items.length
    · obtain ⟨g1, g2⟩ := go hlt
      refine .inr ⟨g1, fun σ' H' => ∃ m', m' < items.length - i ∧ (m' = items.length - (i + 1) ∧ i + 1 ≤ items.length ∧ ∃ ρ S env, ok ρ hid H' ∧ StoOk C hid ρ H' S ∧ EnvOk C ρ hid H' env σ' ∧ okR C hid ρ H' (forL call tg fb (items.drop (i + 1)) env S) (endsOk C hid En) (xOut C hid W)), fun σ' H' z => z, fun x H' y => ?_⟩
      obtain ⟨ey, sy, d, hd, rd⟩ := g2 x H' y
      have ed : items.drop i = d :: items.drop (i + 1) := by
        rw [List.drop_eq_getElem_cons hlt]
        have : items[i]? = some items[i] := List.getElem?_eq_getElem hlt
        rw [hd] at this
        rw [← Option.some.inj this]
      rw [ed] at run
      simp only [forL] at run
      cases hb : bindT tg d env2 with
      | none => rw [hb] at run; exact run.elim
      | some env1 =>
        rw [hb] at run
        have run' : okR C hid ρ2 H' (turnF (fb call env1 S2) fun env2 S2 => forL call tg fb (items.drop (i + 1)) env2 S2) (endsOk C hid En) (xOut C hid W) := by
          revert run
          show okR C hid ρ2 H2 (turnF (fb call env1 S2) fun env2 S2 => forL call tg fb (items.drop (i + 1)) env2 S2) (endsOk C hid En) (xOut C hid W) → _
          cases turnF (fb call env1 S2) fun env2 S2 => forL call tg fb (items.drop (i + 1)) env2 S2 with
          | ok a S3 => exact fun run ρ' H'' e s => run ρ' H'' (ey.trans e) s
          | exc c fs en S3 => exact fun run ρ' H'' e s => run ρ' H'' (ey.trans e) s
          | bad => exact fun run => run
        refine for_turn (fun env2 S2 => forL call tg fb (items.drop (i + 1)) env2 S2) sy (n2.ext ey) rd hb run' fun ρ' H'' S' env' σ' e s' n' run'' => ?_
        exact ⟨items.length - (i + 1), by omega, rfl, hlt, ρ', S', env', sta.ext _ _ _ _ _ (ey.trans e) ok2, s', n', run''⟩
    · have e : i = items.length := by omega
      rw [e, List.drop_length] at run
      have run' := okR.here run s2
      exact .inl ⟨stop (by omega), run' σ2 n2⟩
  | box l =>
    obtain ⟨a, hl, rfl⟩ := wk
    refine ⟨fun i m σ H => ∃ ρ S env, Ext ρ1 H1 ρ H ∧ StoOk C hid ρ H S ∧ EnvOk C ρ hid H env σ ∧ okR C hid ρ H (forB call tg fb l m i env S) (endsOk C hid En) (xOut C hid W),
      ⟨turnsMost, ρ1, S1, env, .refl, s1, n1, h1⟩, ?_⟩
    rintro i m σ2 H2 ⟨ρ2, S2, env2, e2, s2, n2, run⟩
    cases m with
    | zero => exact run.elim
    | succ m =>
      simp only [forB] at run
      split at run
      · rename_i ds hds
        have hl2 := e2.at hl
        obtain ⟨ws, ha, hz, rds⟩ := s2.obj l a _ hl2 hds
        split at run
        · rename_i hn
          have run' := okR.here run s2
          exact .inl ⟨⟨ws, SqL.of ha, by rw [← rds.length]; exact List.getElem?_eq_none_iff.mp hn⟩, run' σ2 n2⟩
        · rename_i d hd
          obtain ⟨v, hv, rv⟩ := rds.get hd
          refine .inr ⟨⟨ws, v, SqL.of ha, hv⟩, fun σ' H' => ∃ m', m' < m + 1 ∧ ∃ ρ S env, Ext ρ1 H1 ρ H' ∧ StoOk C hid ρ H' S ∧ EnvOk C ρ hid H' env σ' ∧ okR C hid ρ H' (forB call tg fb l m' (i + 1) env S) (endsOk C hid En) (xOut C hid W), fun σ' H' z => z, fun x H' y => ?_⟩
          obtain ⟨rfl, y⟩ := y
          have e3 := y ws (SqL.of ha)
          rw [hv] at e3
          cases e3
          cases hb : bindT tg d env2 with
          | none => rw [hb] at run; exact run.elim
          | some env1 =>
            rw [hb] at run
            refine for_turn (fun env2 S2 => forB call tg fb l m (i + 1) env2 S2) s2 n2 rv hb run fun ρ' H'' S' env' σ' e s' n' run'' => ?_
            exact ⟨m, Nat.lt_succ_self _, ρ', S', env', e2.trans e, s', n', run''⟩
      · exact run.elim
theorem ev_for {tg : Tg} {fi : EI} {fb : ES} {tge iter : Expr} {body : List Stmt} {pos : Pos} (g : Good X C) (hp : PassesOwn (model X.prog X.w) X.A X.env X.xe) (hi : PI X tge iter (tI C W call fi)) (hg : PG X tge (gOf C.K tg)) (hb : PSs X body (tS C W call fb))
    (hs : ∀ x, foldedSetIterable iter X.env x = pure x) : PS X (.For tge iter body [] pos) (tS C W call (cFor tg fi fb)) := (ps_for hp g.hc hi hg hb hs).imp for_step

/-! ### while -/
def whL (call : Call) (ft : EB) (fb : ES) : Nat → Env' → Sto → R F
  | 0, _, _ => .bad
  | n + 1, env, S => (ft call env S).bind fun b S1 => if b then turnF (fb call env S1) fun env2 S2 => whL call ft fb n env2 S2 else .ok (.nx env) S1
def cWhile (most : Nat) (ft : EB) (fb : ES) : ES := fun call env S => whL call ft fb most env S
theorem while_step {most : Nat} {ft : EB} {fb : ES} : ∀ D σ H, tS C W call (cWhile most ft fb) D σ H → tWhile (tT C W call ft) (tS C W call fb) D σ H := fun En σ H ⟨ρ, hid, S, env, s, n, h⟩ => by
  refine ⟨fun m σ H => ∃ ρ S env, StoOk C hid ρ H S ∧ EnvOk C ρ hid H env σ ∧ okR C hid ρ H (whL call ft fb m env S) (endsOk C hid En) (xOut C hid W), ⟨most, ρ, S, env, s, n, h⟩, ?_⟩
  rintro m σ2 H2 ⟨ρ2, S2, env2, s2, n2, run⟩
  cases m with
  | zero => exact run.elim
  | succ m =>
    simp only [whL] at run
    refine ⟨ρ2, hid, S2, env2, s2, n2, (okR.bind run).imp (fun b S3 ρ3 H3 e3 s3 h3 => ?_) fun _ _ _ _ _ _ _ _ q => q⟩
    cases b with
    | false =>
      have h4 := okR.here h3 s3
      exact h4 σ2 (n2.ext e3)
    | true =>
      refine ⟨fun σ' H' => ∃ m', m' < m + 1 ∧ ∃ ρ S env, StoOk C hid ρ H' S ∧ EnvOk C ρ hid H' env σ' ∧ okR C hid ρ H' (whL call ft fb m' env S) (endsOk C hid En) (xOut C hid W), fun σ' H' z => z, ρ3, hid, S3, env2, s3, n2.ext e3, ?_⟩
      refine (okR.bind h3).imp (fun f S4 ρ4 H4 e4 s4 h4 => ?_) fun _ _ _ _ _ _ _ _ q => q
      cases f with
      | nx env4 => exact fun σ' n' => ⟨m, Nat.lt_succ_self _, ρ4, S4, env4, s4, n', h4⟩
      | ct env4 => exact fun σ' n' => ⟨m, Nat.lt_succ_self _, ρ4, S4, env4, s4, n', h4⟩
      | bk env4 =>
        have h5 : okR C hid ρ4 H4 (.ok (.nx env4) S4) (endsOk C hid En) (xOut C hid W) := h4
        have h6 := okR.here h5 s4
        exact h6
      | rt d =>
        have h5 : okR C hid ρ4 H4 (.ok (.rt d) S4) (endsOk C hid En) (xOut C hid W) := h4
        have h6 := okR.here h5 s4
        exact h6
theorem ev_while {most : Nat} {ft : EB} {fb : ES} {c : Expr} {body : List Stmt} {pos : Pos} (hp : PassesOwn (model X.prog X.w) X.A X.env X.xe) (hc : PT X c (tT C W call ft)) (hb : PSs X body (tS C W call fb)) : PS X (.While c body [] pos) (tS C W call (cWhile most ft fb)) := (ps_while hp hc hb).imp while_step

/-! ### the other statements -/
def cSkip : ES := fun _ env S => .ok (.nx env) S
def cSeq (fa fb : ES) : ES := fun call env S => (fa call env S).bind fun f S1 => match f with
  | .nx env1 => fb call env1 S1
  | f => .ok f S1
def cExp (fe : EE) : ES := fun call env S => (fe call env S).bind fun _ S1 => .ok (.nx env) S1
def cRet (fe : EE) : ES := fun call env S => (fe call env S).bind fun d S1 => .ok (.rt d) S1
def cRetN : ES := fun _ _ S => .ok (.rt .non) S
def cBrk : ES := fun _ env S => .ok (.bk env) S
def cCnt : ES := fun _ env S => .ok (.ct env) S
def cIfS (ft : EB) (fa fb : ES) : ES := fun call env S => (ft call env S).bind fun b S1 => if b then fa call env S1 else fb call env S1
section
variable {fa fb : ES} {fe : EE} {ft : EB} {st : Stmt} {rest : List Stmt} {e c : Expr} {pos : Pos}
theorem ev_skipNil : PSs X [] (tS C W call cSkip) := pss_nil.imp fun En σ H ⟨ρ, hid, S, env, s, n, h⟩ => okR.here h s σ n
theorem ev_skip (h : PS X st tNext) : PS X st (tS C W call cSkip) := h.imp fun En σ H ⟨ρ, hid, S, env, s, n, h⟩ => okR.here h s σ n
theorem ev_seq (ha : PS X st (tS C W call fa)) (hb : PSs X rest (tS C W call fb)) : PSs X (st :: rest) (tS C W call (cSeq fa fb)) := (pss_cons ha hb).imp fun En σ H ⟨ρ, hid, S, env, s, n, h⟩ => by
  refine ⟨ρ, hid, S, env, s, n, (okR.bind h).imp (fun f S1 ρ1 H1 e1 s1 h1 => ?_) fun _ _ _ _ _ _ _ _ q => q⟩
  cases f with
  | nx env1 => exact fun σ' n' => ⟨ρ1, hid, S1, env1, s1, n', h1⟩
  | rt d =>
    have h2 : okR C hid ρ1 H1 (.ok (.rt d) S1) (endsOk C hid En) (xOut C hid W) := h1
    have h3 := okR.here h2 s1
    exact h3
  | bk env1 =>
    have h2 : okR C hid ρ1 H1 (.ok (.bk env1) S1) (endsOk C hid En) (xOut C hid W) := h1
    have h3 := okR.here h2 s1
    exact h3
  | ct env1 =>
    have h2 : okR C hid ρ1 H1 (.ok (.ct env1) S1) (endsOk C hid En) (xOut C hid W) := h1
    have h3 := okR.here h2 s1
    exact h3
theorem ev_exp (he : PE X e (tE C W call fe)) (hs : swapsWith e none pos.line X.env = pure false) : PS X (.Expr e pos) (tS C W call (cExp fe)) := (ps_expr he hs).imp fun En σ H ⟨ρ, hid, S, env, s, n, h⟩ =>
  ⟨ρ, hid, S, env, s, n, (okR.bind h).imp (fun d S1 ρ1 H1 e1 s1 h1 v rv => okR.here h1 s1 σ (n.ext e1)) fun _ _ _ _ _ _ _ _ q => q⟩
theorem ev_ret (he : PE X e (tE C W call fe)) : PS X (.Return (some e) pos) (tS C W call (cRet fe)) := (ps_ret he).imp fun En σ H ⟨ρ, hid, S, env, s, n, h⟩ =>
  ⟨ρ, hid, S, env, s, n, (okR.bind h).imp (fun d S1 ρ1 H1 e1 s1 h1 v rv => okR.here h1 s1 v rv) fun _ _ _ _ _ _ _ _ q => q⟩
theorem ev_retN : PS X (.Return none pos) (tS C W call cRetN) := ps_retN.imp fun En σ H ⟨ρ, hid, S, env, s, n, h⟩ => okR.here h s .non .non
theorem ev_brk : PS X (.Break pos) (tS C W call cBrk) := ps_break.imp fun En σ H ⟨ρ, hid, S, env, s, n, h⟩ => okR.here h s σ n
theorem ev_cnt : PS X (.Continue pos) (tS C W call cCnt) := ps_continue.imp fun En σ H ⟨ρ, hid, S, env, s, n, h⟩ => okR.here h s σ n
theorem ev_ifS {a b : List Stmt} (hc : PT X c (tT C W call ft)) (ha : PSs X a (tS C W call fa)) (hb : PSs X b (tS C W call fb)) : PS X (.If c a b pos) (tS C W call (cIfS ft fa fb)) := (ps_if hc ha hb).imp fun En σ H ⟨ρ, hid, S, env, s, n, h⟩ => by
  refine ⟨ρ, hid, S, env, s, n, (okR.bind h).imp (fun k S1 ρ1 H1 e1 s1 h1 => ?_) fun _ _ _ _ _ _ _ _ q => q⟩
  cases k with
  | true => exact ⟨ρ1, hid, S1, env, s1, n.ext e1, h1⟩
  | false => exact ⟨ρ1, hid, S1, env, s1, n.ext e1, h1⟩
end
end
end Ev

set_option Elab.async false
set_option linter.all false
set_option maxRecDepth 100000
set_option maxHeartbeats 4000000
/-! Ev: an own error whose __init__ says super().__init__('..') and keeps one field: the call of that def. -/
namespace Ev
open PySem PySem.Spec PySem.W PySem.Calls PyProof.Rows

/-- the text of such an __init__ -/
structure IniS (params : Arguments) (body : List Stmt) (scope : Scope) (f : Str) : Prop where
  par : ∃ ar, (params.posonlyargs ++ params.args).head? = some ar ∧ ar.arg = ("self" : Str)
  bd : ∃ (m : Str) (j : Nat) (p0 p1 p2 p3 p4 p5 p6 p7 p8 p9 : Pos), body = [.Expr (.Call (.Attribute (.Call (.Name "super" p0) [] [] p1) "__init__" p2) [.Constant (.str m) j p3] [] p4) p5, .Assign [.Attribute (.Name "self" p6) f p7] (.Name f p8) p9] ∧
    ∃ pl : Sem Bool, ∀ env : Env, eval (.Call (.Attribute (.Call (.Name "super" p0) [] [] p1) "__init__" p2) [.Constant (.str m) j p3] [] p4) env = (do
      let ov ← attributeBase (.Call (.Name "super" p0) [] [] p1) "__init__" env (eval (.Call (.Name "super" p0) [] [] p1) env)
      standAt p2.atName
      let (f, first) ← holding [ov] (getMethod ov "__init__" pl)
      callWith p4 f first (backTo p4 (starEach [.Constant (.str m) j p3] env)) [])
  kind : scope.kind = .function
  co : scope.isCoroutine = false
  gen : scope.isGenerator = false
  cell : ∀ x ∈ scope.names, x.2 ≠ .cell
  ks : scope.names.lookup ("super" : Str) = some .globalImplicit
  kc : scope.names.lookup ("__class__" : Str) = some .free
  kse : scope.names.lookup ("self" : Str) = some .local
  kf : scope.names.lookup f = some .local
  ne : f ≠ ("self" : Str)
  nd : (f == ("__debug__" : Str)) = false
  bp : ∀ (qual : Str) (body' : List Stmt) (scope' : Scope) (doc pm : Value) (an : Option Addr) (cdv ct : Value) (cc : Addr) (a v : Value), bindArgs (ksFn "__init__" qual params body' scope' .none .none doc pm an cdv ct cc) ⟨[a, v], []⟩ = pure [(("self" : Str), a), (f, v)]
  bk : ∀ (qual : Str) (body' : List Stmt) (scope' : Scope) (doc pm : Value) (an : Option Addr) (cdv ct : Value) (cc : Addr) (a v : Value), bindArgs (ksFn "__init__" qual params body' scope' .none .none doc pm an cdv ct cc) ⟨[a], [(f, v)]⟩ = pure [(("self" : Str), a), (f, v)]
/-- where it stands -/
structure IniK (K : PySem.W.Frag) (P : Program) (C C0 : Addr) (qual : Str) (params : Arguments) (body : List Stmt) (scope : Scope) (fI : Addr) : Prop where
  iC : findIn K (.ref C) "__init__" = some (some (.ref fI))
  tI : typeIn K (.ref fI) = some (.type "function")
  ex : ∃ (oc : Value) (od : Option Addr) (doc pm : Value) (an : Option Addr) (cda : Addr) (ct : Value) (cc : Addr) (osl : Array (Option Value)),
    K.lookup fI = some ⟨oc, od, .func (ksFn "__init__" qual params body scope .none .none doc pm an (.ref cda) ct cc), osl⟩ ∧ codeIn K (.ref cda) qual = true ∧
    (∃ (ccl : Value) (cdd : Option Addr) (vs : Array Value) (ccs : Array (Option Value)) (file : Str) (tf : Tok), K.lookup cda = some ⟨ccl, cdd, .fields vs, ccs⟩ ∧ vs[2]? = some (.str file tf) ∧ ((P.main.file : Str) == file) = true) ∧
    ∃ (cl : Value) (cld : Option Addr) (csl : Array (Option Value)), K.lookup cc = some ⟨cl, cld, .cell (some (.ref C)), csl⟩
  cls : ∃ cd, clsIn K C = some cd ∧ HandSPX.refsVE cd.mro = true ∧ cd.hasDict = true ∧ ∃ rest, cd.mro = .ref C :: rest ∧ alongIn K "__init__" rest = some (some (.builtin "ValueError.__init__"))
  exo : ∃ nm q N bs bm hdct sn sub ab col dd k0 k1 k2 k3 k5, K.lookup C = some (excClassObj nm q C N bs bm hdct sn sub ab col dd k0 k1 k2 k3 k5 "ValueError.__new__") ∧ HandSPX.refsVE bm = true
  sa : findIn K (.ref C) "__setattr__" = some (some (.builtin "object.__setattr__"))
  veS : subIn K (.ref C) (.type "ValueError") = some true
  self : mroIn K C (.ref C) = some true
  opq : nsIn K cStatics "thirdparty.any" = some none
  top : (P.main.scope.names.lookup ("super" : Str)).isSome = false
  sup : nsIn K mainGlobals "super" = some none

section
variable {P : Program} {w : World} {A : Around} {R : Result → Shared → Prop} {K : PySem.W.Frag} {hp : Heap} {g : Array GenState} {d : Drawn} {t : Nat} {os : OsState}
/-- the call of such an __init__ -/
theorem init_raw {mg mb : Str → Option Value} {C C0 fI x t0 : Addr} {f qual : Str} {params : Arguments} {body : List Stmt} {scope : Scope} {v : Value} {args : Args} (I : IniK K P C C0 qual params body scope fI) (S : IniS params body scope f) (hno : findIn K (.ref C) f = some none)
    (X : K.In hp) (hg : hp.Ns mainGlobals mg) (hb : hp.Ns builtinsNs mb) (hbb : mb "super" = bootBuiltins "super") (lim : hp.NoLimit) (hroom : A.depth < recursionLimit)
    (hbind : ∀ (body' : List Stmt) (scope' : Scope) (doc pm : Value) (an : Option Addr) (cdv ct : Value) (cc : Addr), bindArgs (ksFn "__init__" qual params body' scope' .none .none doc pm an cdv ct cc) args = pure [(("self" : Str), .ref x), (f, v)])
    (hx : hp.get? x = some (HandSPX.excO C t0)) (hK : K.lookup x = none)
    (hq : ∀ h' tk' dx t1, (∀ b o, b ≠ x → hp.get? b = some o → h'.get? b = some o) → hp.objs.size ≤ dx → dx ≠ x → h'.get? x = some { cls := .ref C, dict := some dx, data := .fields #[.ref t1, .none, .none, .none, .bool false, .none] } →
      h'.Ns1 dx (fun y => if y = f then some v else none) → R (.ok (.ret .none)) ⟨h', g, d, tk', os⟩) :
    codeAny (model P w) A (.call (.ref fI) args) R ⟨hp, g, d, t, os⟩ := by
  obtain ⟨sk, snm, sc1, sc2, sc3⟩ := scope
  obtain rfl : sk = .function := S.kind
  obtain ⟨oc, od, doc, pm, an, cda, ct, cc, osl, ho, hcd, ⟨ccl, cdd, vs, ccs, file, tf, hcode, hvs, hfile⟩, cl, cld, csl, hcell⟩ := I.ex
  obtain ⟨ar, hpar, harg⟩ := S.par
  obtain ⟨m, j, p0, p1, p2, p3, p4, p5, p6, p7, p8, p9, rfl, pl, hev⟩ := S.bd
  obtain ⟨cd, hcl, hmro, hdct, rest, hm1, hal⟩ := I.cls
  refine ks_codeAny_call_defAt (fd := ksFn "__init__" qual params _ _ .none .none doc pm an (.ref cda) ct cc) (binds := [("self", .ref x), (f, v)]) hroom (X _ _ ho) rfl lim (codeRec_of X hcd) rfl (BindsTo.of_eq (hbind _ _ _ _ _ _ _ _)) S.cell ?_ (fun h₁ hns hk₁ => ?_) S.co S.gen S.kind
  · intro y hy
    rcases List.mem_cons.mp hy with rfl | hy
    · exact S.kse
    · rw [List.mem_singleton] at hy; subst hy; exact S.kf
  have X1 : K.In h₁ := X.keeps hk₁
  have hx1 := hk₁ _ _ hx
  have I1 : InstAt h₁ x (HandSPX.excO C t0) C none := ⟨hx1, rfl, rfl, trivial⟩
  obtain ⟨oD, hD1, hD2⟩ : ∃ oD, h₁.get? C = some oD ∧ oD.data = .cls cd := by
    have hD := hcl
    unfold clsIn at hD
    split at hD
    · rename_i c d cd' sl ho
      cases hD
      exact ⟨_, X1 _ _ ho, rfl⟩
    · cases hD
  refine ks_wpAt_execs_cons (ks_wpAt_Expr_any (ks_wpAt_MethodCall (pl := pl) ?_ (hev _)))
  refine ks_wpAt_super_base (env := ksEnv qual ⟨.function, snm, sc1, sc2, sc3⟩ hp.objs.size fI (.ref cda) cc) S.ks S.kc (by decide) rfl (X1 _ _ ho) rfl hpar rfl (X1 _ _ hcode) rfl hvs hfile I.top ?_
  refine ks_loadName_global S.kind S.ks (loadGlobal_builtin (env := ksEnv qual ⟨.function, snm, sc1, sc2, sc3⟩ hp.objs.size fI (.ref cda) cc) (hg.keeps hk₁) (mg_none_of X hg I.sup) (hb.keeps hk₁) (hbb.trans (by decide +kernel)) ⟨rfl, ?_⟩)
  refine wpAny_loadName_free S.kind S.kc rfl ⟨_, X1 _ _ hcell, rfl⟩ ?_
  rw [harg]
  have hself : ([(("self" : Str), Value.ref x), (f, v)] : List (Str × Value)).reverse.lookup ("self" : Str) = some (.ref x) := by
    have e : (("self" : Str) == f) = false := by simpa using Ne.symm S.ne
    simp [List.lookup, e]
  refine wpAny_loadName_local S.kind S.kse hns hself ?_
  refine ks_wpAny_isType_cls hD1 hD2 ⟨rfl, ?_⟩
  refine ks_wpAny_call_super hD1 hD2 I1.at_ I1.cls (fun c e => by cases e) (looks_mroIn X1 I.self) (fun h2 e2 k2 => ?_)
  have X2 : K.In h2 := X1.keeps k2
  have hx2 := k2 _ _ hx1
  have I2 : InstAt h2 x (HandSPX.excO C t0) C none := ⟨hx2, rfl, rfl, trivial⟩
  refine kxs_getMethod kxs_ValueError e2 (looks_opaque X2 I.opq) (l₀ := cd.mro) (fun A Q E s k q => wpAny_bind ((looks_clsIn X2 hcl) A _ E s k (wpAny_pure q))) (by rw [hm1]; simp [List.dropWhile_cons]) X2 hal (I2.type.andThen (looks_subIn X2 I.veS)) (ks_ne X2 I2 hcl) (by decide) ?_
  have k3 : ∀ b o, h2.get? b = some o → (h2.push (kxs_mw "ValueError.__init__" x)).get? b = some o := fun b o e => Heap.get?_push_of_some _ e
  have hmw : (h2.push (kxs_mw "ValueError.__init__" x)).get? h2.objs.size = some (kxs_mw "ValueError.__init__" x) := Heap.get?_push_at rfl rfl
  have hx3 := k3 _ _ hx2
  have X3 : K.In (h2.push (kxs_mw "ValueError.__init__" x)) := X2.keeps k3
  show wpAny _ _ (callWith p4 (.ref h2.objs.size) [] (backTo p4 (starEach [.Constant (.str m) j p3] (ksEnv qual ⟨.function, snm, sc1, sc2, sc3⟩ hp.objs.size fI (.ref cda) cc))) []) _ _ _
  refine kxs_callWith (i := "ValueError.__init__") (x := x) (by rfl) ?_
  refine evalArgs_plain ?_
  refine Calls.spliced_cons (Calls.Constant_str (k := j) (pos := p3) ?_)
  refine Calls.spliced_nil ⟨hmw, ?_⟩
  obtain ⟨nm, q, N, bs, bm, hdc, sn, sub, ab, col, dd, k0, k1, k2', k3', k5, hCl, hbm⟩ := I.exo
  have hT : ∀ Y : String, bm.contains (.type Y) = HandSPX.veTail.contains (.type Y) := fun Y => HandSPX.refsVE_contains Y bm hbm
  have hC3 := X3 _ _ hCl
  have FB := F.excBase_ValueError
  -- what follows
  have fin : ∀ (h4 : Heap) (t1 tk : Nat), (∀ b o, b ≠ x → (h2.push (kxs_mw "ValueError.__init__" x)).get? b = some o → h4.get? b = some o) → h4.get? x = some (HandSPX.excO C t1) →
      ∀ (A' : Around) (E' : Value → Shared → Prop), wpAny (model P w) A' (execs [.Assign [.Attribute (.Name "self" p6) f p7] (.Name f p8) p9] (ksEnv qual ⟨.function, snm, sc1, sc2, sc3⟩ hp.objs.size fI (.ref cda) cc)) (fun f s' => R (.ok (.ret (match f with | .ret v => v | _ => .none))) s') E' ⟨h4, g, d, tk, os⟩ := by
    intro h4 t1 tk k4 hx4 A' E'
    have neL : hp.objs.size ≠ x := (Nat.ne_of_lt (Heap.lt_size hx)).symm
    have k14 : ∀ b o, b ≠ x → h₁.get? b = some o → h4.get? b = some o := fun b o n e => k4 b o n (k3 b o (k2 b o e))
    have X4 : K.In h4 := fun b o e => k14 b o (fun z => by rw [z, hK] at e; cases e) (X1 b o e)
    have hns4 : h4.Ns hp.objs.size (fun y => ([(("self" : Str), Value.ref x), (f, v)] : List (Str × Value)).reverse.lookup y) := by
      obtain ⟨oL, es, ep, hL, r⟩ := hns
      exact ⟨oL, es, ep, k14 _ _ neL hL, r⟩
    have hfv : ([(("self" : Str), Value.ref x), (f, v)] : List (Str × Value)).reverse.lookup f = some v := by simp [List.lookup]
    refine wpAny_execs_cons (plainObj_wpAny_Assign_Attribute (wpAny_Name (wpAny_loadName_local S.kind S.kf hns4 hfv ?_) S.nd) (by rfl))
    refine wpAny_Name (wpAny_loadName_local S.kind S.kse hns4 hself ?_) (by decide)
    refine PySem.W.set_plain X4 (ox := HandSPX.excO C t1) (od := none) ⟨hx4, rfl, rfl, trivial⟩ I.sa ?_
    refine PySem.HandSPX.exc_osa X4 hx4 hcl hmro hdct hno (fun h' tk' dx k dn dne hxx hn => ?_)
    refine wpAny_execs_nil (hq h' tk' dx t1 (fun b o nb e => k b o nb (k14 b o nb (hk₁ b o e))) ?_ dne hxx hn)
    obtain ⟨oL, _, _, hL, _⟩ := hns4
    exact Nat.le_trans (Nat.le_of_lt (Heap.lt_size hL)) dn
  refine wpAny_call (codeAny_of_tree ?_)
  show wpAny _ _ (callAny (.ref h2.objs.size) ⟨[.str m _], []⟩) _ _ _
  simp only [callAny]
  refine wpAny_bind (wpAny_load hmw ?_)
  simp only [kxs_mw, show (Value.type "method-wrapper" == Value.type "method" || Value.type "method-wrapper" == Value.type "builtin_function_or_method" || Value.type "method-wrapper" == Value.type "method-wrapper") = true by decide, if_true]
  refine KFB.if_so (by decide) ?_
  refine wpAny_bind (check_bound_init FB.toExcCallFacts hC3 hx3 rfl ?_)
  refine wpAny_bind (wpAny_pure (wpAny_pure ?_))
  refine ⟨plainId_quiet FB.init.plain _, codeAny_builtin FB.initEntry ?_⟩
  rw [Around.under_plainId FB.init.plain _]
  wp_walk
  refine PySem.wpAt_of_wpAny (fin _ (h2.push (kxs_mw "ValueError.__init__" x)).objs.size _ (fun b o hb ho => ?_) ?_ _ _)
  · rw [Heap.get?_update_other _ _ (Ne.symm hb)]
    exact Heap.get?_push_of_some _ ho
  · rw [Heap.get?_update_self _ (Heap.get?_push_of_some _ hx3) rfl]
    rfl
end
end Ev

set_option Elab.async false
set_option linter.all false
set_option maxRecDepth 100000
set_option maxHeartbeats 4000000
/-! Ev: an own error is made by a call with arguments by position or by name. -/
namespace Ev
open PySem PySem.Spec PySem.W PySem.Calls PyProof.Rows PySem.HandSPX
section
variable {M : Model} {prog : Program} {w : World} {A : Around} {E : Value → Shared → Prop} {R : Result → Shared → Prop} {h : Heap} {g : Array GenState} {d : Drawn} {t : Nat} {os : OsState}
variable {nm q : Str} {C N : Addr} {bs bm bmB : List Value} {hdct : Bool} {sn : List Str} {sub : List Value} {ab : Bool} {col : Option Bool} {dd : Option Addr} {k0 k1 k2 k3 k5 : Option Value} {B newId initId : String} {kw : List (Str × Value)}

theorem check_new_ownK (F : ExcBaseFacts B newId initId bmB) (hT : ∀ X : String, bm.contains (.type X) = bmB.contains (.type X)) {rest : List Value} {Q : Unit → Shared → Prop}
    (hC : h.get? C = some (excClassObj nm q C N bs bm hdct sn sub ab col dd k0 k1 k2 k3 k5 newId)) (hq : Q () ⟨h, g, d, t, os⟩) : wpAny M A (checkBuiltinCall newId ⟨.ref C :: rest, kw⟩) Q E ⟨h, g, d, t, os⟩ := by
  have hcont : (Value.ref C :: bm).contains (.type B) = true := by rw [List.contains_cons, hT, F.hasB, Bool.or_true]
  have hstar := F.noStar
  simp only [checkBuiltinCall, F.newKind, F.newSplit, F.newRow]
  repeat (first | refine wpAny_loadPart_at hC ?_ | (refine wpAny_isSubtype_exc hC ?_; rw [hcont]) | refine wpAny_staticBase_exc hC ?_ | refine wpAny_madeBy_exc hC ?_ | simp only [bne_self_eq_false, Bool.false_eq_true, if_false] | wp_step)
  exact hq
theorem new_ownK (F : ExcBaseFacts B newId initId bmB) (hT : ∀ X : String, bm.contains (.type X) = bmB.contains (.type X)) {rest : List Value}
    (hC : h.get? C = some (excClassObj nm q C N bs bm hdct sn sub ab col dd k0 k1 k2 k3 k5 newId))
    (hq : R (.ok (.ret (.ref (h.objs.size + 1)))) ⟨(h.push { cls := .type "tuple", data := .seq rest.toArray }).push
      { cls := .ref C, data := .fields #[.ref h.objs.size, .none, .none, .none, .bool false, .none] }, g, d, t, os⟩) (hrest : rest.length ≤ sizeLine) :
    codeAny (model prog w) A (.builtin newId ⟨.ref C :: rest, kw⟩) R ⟨h, g, d, t, os⟩ := by
  have hends := F.ends
  have hcB : (Value.ref C :: bm).contains (.type B) = true := by rw [List.contains_cons, hT, F.hasB, Bool.or_true]
  have hcA : (Value.ref C :: bm).contains (.type "AttributeError") = false := by rw [List.contains_cons, hT, F.noAttr]; rfl
  have hcN : (Value.ref C :: bm).contains (.type "NameError") = false := by rw [List.contains_cons, hT, F.noName]; rfl
  refine codeAny_builtinAt F.entry ?_
  unfold Builtin.«BaseException.__new__»
  refine PySem.wpAt_bind ?_
  show PySem.wpAt _ _ _ (stack >>= _) _ _ _
  refine PySem.wpAt_bind (PySem.wpAt_stack fun p below => PySem.wpAt_of_wpAny ?_)
  wp_walk
  refine PySem.wpAt_of_wpAny ?_
  rw [F.owner]
  repeat (first | with_reducible refine wpAny_madeHere_exc F.canon hC ?_ | with_reducible refine wpAny_loadPart_at hC ?_ | (with_reducible refine wpAny_isSubtype_exc hC ?_; first | rw [hcB] | rw [hcA] | rw [hcN]) | wp_step)
  show R _ _
  rw [Heap.size_push]
  exact hq
theorem type_call_ownK (F : ExcBaseFacts B newId initId bmB) (hT : ∀ X : String, bm.contains (.type X) = bmB.contains (.type X)) {rest : List Value} {fI : Addr} {Q : Fin → Shared → Prop}
    (hC : h.get? C = some (excClassObj nm q C N bs bm hdct sn sub ab col dd k0 k1 k2 k3 k5 newId))
    (hi : W.Looks (model prog w) h (typeLookup (.ref C) "__init__") (some (.ref fI))) (hb : ∀ self, W.Looks (model prog w) h (bindSpecial (.ref fI) self) (.ref fI, [self])) (hrest : rest.length ≤ sizeLine)
    (hq : codeAny (model prog w) A (.call (.ref fI) ⟨.ref (h.objs.size + 1) :: rest, kw⟩)
      (fun r s' => match r with | .ok (.ret v) => v = .none ∧ Q (.done (.ret (.ref (h.objs.size + 1)))) s' | .ok _ => False | .error e => E e s')
      ⟨(h.push (W.kdv_tup rest)).push (excO C h.objs.size), g, d, t, os⟩) :
    wpAny (model prog w) A (Builtin.«type.__call__» ⟨.ref C :: rest, kw⟩) Q E ⟨h, g, d, t, os⟩ := by
  repeat (first | with_reducible refine wpAny_loadPart_at hC ?_ | with_reducible refine wpAny_madeBy_exc hC ?_ | wp_step)
  refine codeAny_call_builtin_code (Code.quiet_builtin _ F.quiet) (check_new_ownK F hT hC ?_)
  refine new_ownK F hT hC ?_ hrest
  show wpAny _ _ _ _ _ _
  have k : ∀ b o, h.get? b = some o → ((h.push (W.kdv_tup rest)).push (excO C h.objs.size)).get? b = some o := fun b o e => Heap.get?_push_of_some _ (Heap.get?_push_of_some _ e)
  have hC₁ := k _ _ hC
  have hget : ((h.push (W.kdv_tup rest)).push (excO C h.objs.size)).get? (h.objs.size + 1) = some (excO C h.objs.size) := by heap_get
  have hcC : (Value.ref C :: bm).contains (.ref C) = true := by simp
  have i1 := hi.keeps k
  have b1 := (hb (.ref (h.objs.size + 1))).keeps k
  unfold isInstance
  repeat (first | with_reducible refine wpAny_loadPart_at hget ?_ | (with_reducible refine wpAny_isSubtype_exc hC₁ ?_; rw [hcC]) | wp_step)
  show wpAny _ _ (typeLookup (.ref C) _) _ _ _
  refine i1.at ?_
  refine wpAny_holding (wpAny_bind (b1.at ?_))
  refine wpAny_bind (wpAny_call (codeAny_mono hq fun r s' z => ?_))
  rcases r with e | (v | _ | _ | _) <;> first | exact z | exact z.elim | skip
  obtain ⟨rfl, z⟩ := z
  first
    | exact wpAny_pure (wpAny_pure z)
    | (wp_walk; exact z)
theorem call_ownK (F : ExcBaseFacts B newId initId bmB) (hT : ∀ X : String, bm.contains (.type X) = bmB.contains (.type X)) {rest : List Value} {fI : Addr}
    (hC : h.get? C = some (excClassObj nm q C N bs bm hdct sn sub ab col dd k0 k1 k2 k3 k5 newId))
    (hi : W.Looks (model prog w) h (typeLookup (.ref C) "__init__") (some (.ref fI))) (hb : ∀ self, W.Looks (model prog w) h (bindSpecial (.ref fI) self) (.ref fI, [self])) (hrest : rest.length ≤ sizeLine)
    (hq : codeAny (model prog w) (A.under (.builtin "type.__call__" ⟨.ref C :: rest, kw⟩)) (.call (.ref fI) ⟨.ref (h.objs.size + 1) :: rest, kw⟩) (W.InitBack (h.objs.size + 1) R)
      ⟨(h.push (W.kdv_tup rest)).push (excO C h.objs.size), g, d, t, os⟩) :
    codeAny (model prog w) A (.call (.ref C) ⟨rest, kw⟩) R ⟨h, g, d, t, os⟩ := by
  have f1 := tc_lookup
  have f2 := tc_bind (.ref C)
  have hTy : (⟨h, g, d, t, os⟩ : Shared).TypeIs (.ref C) "type" := ⟨_, hC, rfl⟩
  refine codeAny_of_tree ?_
  show wpAny _ _ (callAny (.ref C) _) _ _ _
  repeat (any_goals (first | assumption | with_reducible refine wpAny_loadPart_at hC ?_ | wp_step))
  refine ⟨rfl, ?_⟩
  refine codeAny_call_builtin_at (Code.quiet_builtin _ (by decide +kernel)) entry_typeCall (wpAny_check_type_call_sub hC (type_call_ownK F hT hC hi hb hrest ?_))
  refine codeAny_mono hq fun r s' z => ?_
  rcases r with e | (v | _ | _ | _) <;> exact z
end
end Ev

set_option Elab.async false
set_option linter.all false
set_option maxRecDepth 100000
set_option maxHeartbeats 4000000
/-! Ev: errors as values: made, asked for their class, their field read. -/
namespace Ev
open PySem PySem.Spec PyProof.Rows L2

section
variable {X : Cx} {pins : List (Addr × Obj)} {σ : L2.St} {H : Hp} {s : Shared}
/-- two new objects laid and tracked -/
theorem inv_laid2 {h' : Heap} {a b : Addr} {o u : HO} {t' : Nat} (I : Inv X pins σ H s) (k : ∀ c v, s.heap.get? c = some v → h'.get? c = some v) (ha : s.heap.get? a = none) (hb : s.heap.get? b = none) (na : H a = none) (nb : H b = none)
    (newA : ObjOk X.prog X.w (upd (upd H b u) a o) h' a o) (newB : ObjOk X.prog X.w (upd (upd H b u) a o) h' b u) : Inv X pins σ (upd (upd H b u) a o) { s with heap := h', toks := t' } := by
  have at_ : ∀ c v, H c = some v → upd (upd H b u) a o c = some v := fun c v q => by rw [upd_ne (ne_of_none q na), upd_ne (ne_of_none q nb)]; exact q
  have ne : ∀ {c : Addr} {v : Obj} {e : Addr}, s.heap.get? c = some v → s.heap.get? e = none → c ≠ e := fun q n z => by rw [z, n] at q; cases q
  refine I.un ⟨fun c v q _ _ _ => k c v q, fun c v q _ _ _ => ⟨v.slots, k c v q⟩, fun c v q n _ => by rw [upd_ne (ne q ha), upd_ne (ne q hb)]; exact n, fun c v q _ => ⟨v, k c v q⟩, fun c xs q => at_ _ _ q, fun c v xs q => at_ _ _ q, fun c ps q => ⟨#[], by rw [at_ _ _ q]; simp⟩⟩ fun c v e => ?_
  by_cases hc : c = a
  · subst hc
    rw [upd_same] at e
    cases e
    exact newA
  · rw [upd_ne hc] at e
    by_cases hc2 : c = b
    · subst hc2
      rw [upd_same] at e
      cases e
      exact newB
    · rw [upd_ne hc2] at e
      exact (I.hok c v e).stay (fun d w _ q => k d w q) (fun d q => at_ _ _ q) fun d xs q => at_ _ _ q
end
/-! ### made -/
section
variable {X : Cx} {x f qual : Str} {C C0 fI : Addr} {params : Arguments} {body : List Stmt} {scope : Scope} {e : Expr} {te : TE} {p pos kpos : Pos}
/-- a new error with its field -/
def newX (C : Addr) (f : Str) (y : V) (H : Hp) (Q : VK) : Prop := ∀ a dd, H a = none → H dd = none → dd ≠ a → Q (.ref a) (upd (upd H dd (.xd [(f, y)])) a (XO (.ref C) (some dd) a))
theorem run_mkF {pins : List (Addr × Obj)} {σ : L2.St} {H : Hp} {s : Shared} {Q : VK} {us : List Value} {kw : List (Str × Value)} {y : V} {v : Value} (I0 : IniK X.K X.prog C C0 qual params body scope fI) (S : IniS params body scope f) (hno : PySem.W.findIn X.K (.ref C) f = some none) (hr : Room 1 X.A)
    (hb : ∀ (a : Value) (body' : List Stmt) (scope' : Scope) (doc pm : Value) (an : Option Addr) (cdv ct : Value) (cc : Addr), bindArgs (PySem.W.ksFn "__init__" qual params body' scope' .none .none doc pm an cdv ct cc) ⟨a :: us, kw⟩ = pure [(("self" : Str), a), (f, v)]) (hz : us.length ≤ sizeLine)
    (I : Inv X pins σ H s) (r : RelV y v) (h : newX C f y H Q) : wpAny (model X.prog X.w) X.A (call (.ref C) us kw) (EP X pins σ Q) X.xe s := by
  obtain ⟨nm, q, N, bs, bm, hdct, sn, sub, ab, col, dd, k0, k1, k2, k3, k5, hC, hbm⟩ := I0.exo
  obtain ⟨mb, hbl, hbb⟩ := I.mod.blt
  obtain ⟨hp, g, dr, tk, os⟩ := s
  have kk : ∀ b o, hp.get? b = some o → ((hp.push (PySem.W.kdv_tup us)).push (PySem.HandSPX.excO C hp.objs.size)).get? b = some o := fun b o e => Heap.get?_push_of_some _ (Heap.get?_push_of_some _ e)
  have hget : ((hp.push (PySem.W.kdv_tup us)).push (PySem.HandSPX.excO C hp.objs.size)).get? (hp.objs.size + 1) = some (PySem.HandSPX.excO C hp.objs.size) := by heap_get
  have hsz : hp.objs.size ≤ hp.objs.size + 1 := Nat.le_succ _
  have nh : ∀ {b : Addr}, hp.objs.size ≤ b → hp.get? b = none := fun {b} q => by
    cases e : hp.get? b with
    | none => rfl
    | some o => exact absurd (Heap.lt_size e) (Nat.not_lt.mpr q)
  have hK : X.K.lookup (hp.objs.size + 1) = none := by
    cases e : X.K.lookup (hp.objs.size + 1) with
    | none => rfl
    | some o => have := I.kIn _ _ e; rw [nh hsz] at this; cases this
  have I1 := I.kept (h' := (hp.push (PySem.W.kdv_tup us)).push (PySem.HandSPX.excO C hp.objs.size)) (t' := tk) kk
  refine wpAny_call (call_ownK F.excBase_ValueError (fun Y => PySem.HandSPX.refsVE_contains Y bm hbm) (I.kIn _ _ hC) (PySem.W.looks_findIn I.kIn I0.iC) (fun self => PySem.W.bind_fn I.kIn self I0.tI) hz ?_)
  refine init_raw I0 S hno I1.kIn (I1.mod.glob.keeps I1.bk) (hbl.keeps I1.bk) (hbb _ (by decide)) I1.nolimit (hr.make C us kw).depth (hb _) hget hK fun h' tk' dx t1 k4 hs hne hx hn => ?_
  refine ⟨rfl, ?_⟩
  have k' : ∀ b o, hp.get? b = some o → h'.get? b = some o := fun b o e => k4 b o (Nat.ne_of_lt (Nat.lt_of_lt_of_le (Heap.lt_size e) hsz)) (kk b o e)
  have hsd : hp.objs.size ≤ dx := Nat.le_trans (by rw [Heap.size_push, Heap.size_push]; omega) hs
  have na : H (hp.objs.size + 1) = none := I.hok.fresh hsz
  have nd : H dx = none := I.hok.fresh hsd
  refine ⟨.ref (hp.objs.size + 1), _, inv_laid2 I k' (nh hsz) (nh hsd) na nd (o := XO (.ref C) (some dx) (hp.objs.size + 1)) (u := .xd [(f, y)]) (xo_ok hx ⟨rfl, rfl⟩ rfl) ⟨_, hn, fun g => ?_⟩, rfl, h _ _ na nd hne⟩
  by_cases hg : g = f
  · subst hg; simp [List.lookup]; exact r
  · have : (g == f) = false := by simpa using hg
    simp only [List.lookup, this, if_neg hg]
    exact True.intro
/-- C(e) -/
theorem pe_mkF (I0 : IniK X.K X.prog C C0 qual params body scope fI) (S : IniS params body scope f) (hno : PySem.W.findIn X.K (.ref C) f = some none) (hr : Room 1 X.A) (gC : X.mg x = some (.ref C)) (kC : PySem.W.keepIn X.K (.ref C) = true) (hg : Gl X x)
    (he : PE X e te) (hs : starEach [e] X.env = (false, eval e X.env) :: starEach [] X.env) (hdb : (x == ("__debug__" : Str)) = false) :
    PE X (.Call (.Name x p) [e] [] pos) (fun σ H Q => te σ H fun y H1 => newX C f y H1 Q) := by
  refine ⟨fun pins s σ H Q I h => ?_⟩
  refine wpAny_Call_Name_kw (ld_glob I hg gC ?_ hdb)
  refine PySem.W.callWith_K (h₀ := X.base) I.ok.mod.kin kC ?_ hs (by rfl)
  rw [hs]
  show wpAny _ _ (spliced ((false, eval e X.env) :: backTo pos (starEach [] X.env))) _ _ s
  refine Calls.spliced_cons (thn (he.run pins s σ H _ I h) fun u s1 ⟨v, H1, I1, r1, q1⟩ => ?_)
  refine Calls.spliced_nil ⟨I1.kIn, ?_⟩
  exact run_mkF (us := [u]) (kw := []) I0 S hno hr (fun a body' scope' doc pm an cdv ct cc => S.bp _ _ _ _ _ _ _ _ _ _ _) (by show 1 ≤ sizeLine; rw [sizeLine_eq]; omega) I1 r1 q1
/-- C(f = e) -/
theorem pe_mkK (I0 : IniK X.K X.prog C C0 qual params body scope fI) (S : IniS params body scope f) (hno : PySem.W.findIn X.K (.ref C) f = some none) (hr : Room 1 X.A) (gC : X.mg x = some (.ref C)) (kC : PySem.W.keepIn X.K (.ref C) = true) (hg : Gl X x)
    (he : PE X e te) (hdb : (x == ("__debug__" : Str)) = false) :
    PE X (.Call (.Name x p) [] [⟨some f, e, kpos⟩] pos) (fun σ H Q => te σ H fun y H1 => newX C f y H1 Q) := by
  refine ⟨fun pins s σ H Q I h => ?_⟩
  refine wpAny_Call_Name_kw (ld_glob I hg gC ?_ hdb)
  refine PySem.W.callWith_KW0 (h₀ := X.base) I.ok.mod.kin kC (by rfl) ?_ (by rfl)
  refine thn ((pk_cons (nm := some f) (kpos := kpos) he pk_nil).run pos pins s σ H (fun vs H1 => match vs with | [y] => newX C f y H1 Q | _ => False) I h) fun us s1 ⟨vs, H1, I1, r1, q1⟩ => ⟨I1.kIn, ?_⟩
  match vs, q1, r1 with
  | [y], q1, r1 =>
    obtain ⟨v, rfl, rv⟩ := vals1 r1
    exact run_mkF (us := []) (kw := [(f, v)]) I0 S hno hr (fun a body' scope' doc pm an cdv ct cc => S.bk _ _ _ _ _ _ _ _ _ _ _) (Nat.zero_le _) I1 rv q1
  | [], q1, _ => exact q1.elim
  | _ :: _ :: _, q1, _ => exact q1.elim
/-- C(e), no __init__ of its own -/
theorem pe_mk0 {bmB : List Value} {B newId initId : String} (F : ExcBaseFacts B newId initId bmB) (q : PySem.W.excIn X.K C bmB newId = true) (gC : X.mg x = some (.ref C)) (kC : PySem.W.keepIn X.K (.ref C) = true) (hg : Gl X x)
    (he : PE X e te) (hs : starEach [e] X.env = (false, eval e X.env) :: starEach [] X.env) (hdb : (x == ("__debug__" : Str)) = false) :
    PE X (.Call (.Name x p) [e] [] pos) (fun σ H Q => te σ H fun _ H1 => ∀ a, H1 a = none → Q (.ref a) (upd H1 a (XO (.ref C) none a))) := by
  refine ⟨fun pins s σ H Q I h => ?_⟩
  refine wpAny_Call_Name_kw (ld_glob I hg gC ?_ hdb)
  refine PySem.W.callWith_K (h₀ := X.base) I.ok.mod.kin kC ?_ hs (by rfl)
  rw [hs]
  show wpAny _ _ (spliced ((false, eval e X.env) :: backTo pos (starEach [] X.env))) _ _ s
  refine Calls.spliced_cons (thn (he.run pins s σ H _ I h) fun u s1 ⟨v, H1, I1, r1, q1⟩ => ?_)
  refine Calls.spliced_nil ⟨I1.kIn, ?_⟩
  show wpAny _ _ (call (.ref C) [u]) _ _ _
  obtain ⟨bm, N, nm, qn, bs, hdct, sn, sub, ab, col, dd, k0, k1, k2, k3, k5, mN, hC, hN, hni, T⟩ := exc_obj I1.kIn q
  refine wpAny_call_exc_subT F T hC hN hni (fun h' a hm => ?_) (by show 1 ≤ sizeLine; rw [sizeLine_eq]; omega)
  have hn : H1 a = none := I1.hok.gone hm.new
  obtain ⟨t, ht, _, _⟩ := hm.there
  exact ⟨.ref a, upd H1 a (XO (.ref C) none a), I1.laidN hm.keeps hm.new hn (xo_ok ht ⟨rfl, rfl⟩ rfl), rfl, q1 a hn⟩
end
/-! ### asked for their class -/
/-- what the class D must say, so that isinstance asks its instances rightly -/
structure IsX (K : PySem.W.Frag) (D : Addr) : Prop where
  cl : (PySem.W.clsIn K D).isSome = true
  ga : PySem.W.findIn K (.ref D) "__getattribute__" = some (some (.builtin "BaseException.__getattribute__"))
  gt : PySem.W.findIn K (.ref D) "__getattr__" = some none
  sub : PySem.W.subIn K (.ref D) (.type "BaseException") = some true
  hd : PySem.W.hasDictIn K D = true
  ca : PySem.W.findIn K (.ref D) "__class__" = some (some (.builtin "object.__class__"))
  cg : PySem.W.specialIn K (.builtin "object.__class__") "__get__" = some (some (.builtin "getset_descriptor.__get__"))
  ct : PySem.W.takesIn K (.builtin "object.__class__") = some true
  ob : PySem.W.mroIn K D (.type "object") = some true
/-- an error of the class D at a, as it is tracked -/
def XAt (H : Hp) (a D : Addr) : Prop := H a = some (XO (.ref D) none a) ∨ ∃ dd ws, H a = some (XO (.ref D) (some dd) a) ∧ H dd = some (.xd ws)
theorem xat_inst {X : Cx} {pins : List (Addr × Obj)} {σ : L2.St} {H : Hp} {s : Shared} {a D : Addr} (I : Inv X pins σ H s) (h : XAt H a D) : ∃ oe od, PySem.W.InstAt s.heap a oe D od := by
  rcases h with h | ⟨dd, ws, h, h2⟩
  · obtain ⟨⟨oe, vs, e, z, d⟩, _, _⟩ := I.hok a _ h
    exact ⟨oe, none, e, z.1, by unfold PySem.W.notCls; rw [d] <;> rfl, by rw [z.2]; trivial⟩
  · obtain ⟨⟨oe, vs, e, z, d⟩, _, _⟩ := I.hok a _ h
    have hx : ObjOk X.prog X.w H s.heap dd (.xd ws) := I.hok dd _ h2
    obtain ⟨mA, hns, hr⟩ := hx
    obtain ⟨od, ho, _⟩ := lookIn_ns hns
    exact ⟨oe, some od, e, z.1, by unfold PySem.W.notCls; rw [d] <;> rfl, by rw [z.2]; exact ho⟩
def rIsX (K : PySem.W.Frag) : List V → Hp → VK → Prop := fun xs H Q => ∃ (a D : Addr) (c : V) (cv : Value) (b : Bool), xs = [.ref a, c] ∧ XAt H a D ∧ IsX K D ∧ (∀ u, RelV c u → u = cv) ∧ PySem.W.kitOne K (.ref D) cv = some b ∧ Q (.bl b) H
theorem call_isX {X : Cx} : CallR X (.builtin "isinstance") (rIsX X.K) := by
  intro pins s σ H xs us Q I r h
  obtain ⟨a, D, c, cv, b, rfl, hX, C, hcv, e, q⟩ := h
  cases r with
  | cons rx rr =>
    cases rr with
    | cons rt rr =>
      cases rr
      cases rx
      have ec := hcv _ rt
      subst ec
      obtain ⟨oe, od, J⟩ := xat_inst I hX
      exact PySem.W.kia_one (PySem.W.kitx_exc C.cl C.ga C.gt C.sub C.ca C.cg C.ct C.ob) I.kIn J e (fun z => nomatch z) fun tk => ⟨.bl b, H, I.kept (t' := tk) fun _ _ z => z, rfl, q⟩
/-! ### a field -/
def tXF (K : PySem.W.Frag) (n : Str) (te : TE) : TE := fun σ H Q => te σ H fun x H1 => ∃ (a D dd : Addr) (ws : List (Str × V)) (v : V), x = .ref a ∧ XfC K D ∧ PySem.W.findIn K (.ref D) n = some none ∧ H1 a = some (XO (.ref D) (some dd) a) ∧ H1 dd = some (.xd ws) ∧ ws.lookup n = some v ∧ Q v H1
theorem pe_xF {X : Cx} {e : Expr} {te : TE} {pos : Pos} {n : Str} (he : PE X e te) (hb : attributeBase e n X.env (eval e X.env) = eval e X.env) : PE X (.Attribute e n pos) (tXF X.K n te) := by
  refine ⟨fun pins s σ H Q I h => ?_⟩
  refine attr_of hb (thn (he.run pins s σ H _ I h) fun u s1 hh => ?_)
  obtain ⟨x, H1, I1, rx, a, D, dd, ws, v, ex, T, hno, ea, ed, l, q⟩ := hh
  subst ex
  obtain rfl : u = Value.ref a := rx
  obtain ⟨⟨oe, vs, e, z, d⟩, _, _⟩ := I1.hok a _ ea
  have hx : ObjOk X.prog X.w H1 s1.heap dd (.xd ws) := I1.hok dd _ ed
  obtain ⟨mA, hns, hr⟩ := hx
  obtain ⟨od, ho, hl⟩ := lookIn_ns hns
  obtain ⟨u, hu, ru⟩ := RelO.some_of (v := v) (o := mA n) (by rw [← l]; exact hr n)
  have J : PySem.W.InstAt s1.heap a oe D (some od) := ⟨e, z.1, by unfold PySem.W.notCls; rw [d] <;> rfl, by rw [z.2]; exact ho⟩
  exact HandSPX.exc_get I1.kIn J T.ga T.gg T.exC (PySem.W.findObj_own T.hdC hno rfl (by rw [hl, hu])) (handed_of ru) ⟨v, H1, I1.tok _, ru, q⟩
end Ev

set_option Elab.async false
set_option linter.all false
set_option maxRecDepth 100000
set_option maxHeartbeats 1000000
/-! Ev, part 8: built-in functions, methods of lists, stores into dicts and lists. -/
namespace Ev
open PySem PySem.Spec PyProof.Rows L2

/-! ### len -/
def pLen (ds : List D) (S : Sto) : R D := match ds with
  | [x] => match deref S x with
    | .scr es => .ok (.int es.length) S
    | .tup es => .ok (.int es.length) S
    | .lst es => .ok (.int es.length) S
    | .str z => .ok (.int z.length) S
    | .dic kvs => .ok (.int kvs.length) S
    | _ => .bad
  | _ => .bad
def rLenA (K : PySem.W.Frag) : List V → Hp → VK → Prop := fun xs H Q => (∃ x n, xs = [x] ∧ LenV K x H n ∧ Q (.int n) H) ∨ (∃ a kvs, xs = [V.ref a] ∧ Rd H a (.dK kvs) ∧ Q (.int kvs.length) H)
theorem call_lenR {X : Cx} : CallR X (.builtin "len") (fun xs H Q => ∃ a kvs, xs = [V.ref a] ∧ Rd H a (.dK kvs) ∧ Q (.int kvs.length) H) := by
  intro pins s σ H xs us Q I r h
  obtain ⟨a, kvs, rfl, ha, q⟩ := h
  obtain ⟨u, rfl, ru⟩ := vals1 r
  cases ru
  exact d_len I ha fun t s' I' => ⟨.int kvs.length, H, I', ⟨t, rfl⟩, q⟩
theorem call_lenA {X : Cx} : CallR X (.builtin "len") (rLenA X.K) := call_len.or call_lenR
theorem one_of {C : Cfg} {ρ hid : List Addr} {H : Hp} {x : D} {vs : List V} (r : RlAll C ρ hid H [x] vs) : ∃ v, vs = [v] ∧ Rl C ρ hid H x v := by
  cases r with
  | cons h t => cases t; exact ⟨_, rfl, h⟩
theorem two_of {C : Cfg} {ρ hid : List Addr} {H : Hp} {x y : D} {vs : List V} (r : RlAll C ρ hid H [x, y] vs) : ∃ v w, vs = [v, w] ∧ Rl C ρ hid H x v ∧ Rl C ρ hid H y w := by
  cases r with
  | cons h t =>
    obtain ⟨w, rfl, hw⟩ := one_of t
    exact ⟨_, _, rfl, h, hw⟩
theorem p_len {C : Cfg} : PAOk C (rLenA C.K) pLen := by
  intro ρ hid H S ds vs Q XX s r h
  unfold pLen at h
  split at h
  · rename_i x
    obtain ⟨v, rfl, rv⟩ := one_of r
    split at h
    · rename_i es e
      obtain ⟨a, ws, rfl, hA, ra⟩ := rd_scr rv e
      exact .inl ⟨_, ws.length, rfl, .inl ⟨ws, hA.sq, rfl⟩, by rw [← ra.length]; exact h.here s _ (.int _)⟩
    · rename_i es e
      obtain ⟨a, ws, rfl, hA, ra⟩ := rd_tup rv e
      exact .inl ⟨_, ws.length, rfl, .inr ⟨ws, hA.sq, rfl⟩, by rw [← ra.length]; exact h.here s _ (.int _)⟩
    · rename_i es e
      obtain ⟨a, ws, rfl, hA, z, ra⟩ := rd_lst s rv e
      exact .inl ⟨_, ws.length, rfl, .inl ⟨ws, .inl hA, rfl⟩, by rw [← ra.length]; exact h.here s _ (.int _)⟩
    · rename_i z e
      obtain ⟨rfl, hz⟩ := rd_str rv e
      exact .inl ⟨_, _, rfl, ⟨hz, rfl⟩, h.here s _ (.int _)⟩
    · rename_i kvs e
      obtain ⟨a, ws, rfl, hA, ra⟩ := rd_dic s rv e
      exact .inr ⟨a, ws, rfl, hA, by rw [← ra.length]; exact h.here s _ (.int _)⟩
    · exact h.elim
  · exact h.elim

/-! ### isinstance, of built-in types -/
def tyD (S : Sto) (d : D) : Option String := match deref S d with
  | .non => some "NoneType"
  | .bl _ => some "bool"
  | .int _ => some "int"
  | .str _ => some "str"
  | .tup _ => some "tuple"
  | .lst _ => some "list"
  | .dic _ => some "dict"
  | _ => none
def isTys : List String := ["NoneType", "bool", "int", "str", "tuple", "list", "dict"]
def isCls : List String := ["bool", "int", "str", "tuple", "list", "dict"]
def isI (a b : String) : Option Bool := if a ∈ isTys ∧ b ∈ isCls then some (a == b || (a == "bool" && b == "int")) else none
theorem isI_all : (isTys.all fun a => isCls.all fun b => decide (kitB a b = some (a == b || (a == "bool" && b == "int")))) = true := by decide +kernel
theorem isI_ok {a b : String} {r : Bool} (h : isI a b = some r) : kitB a b = some r := by
  unfold isI at h
  split at h
  · rename_i hm
    have q := List.all_eq_true.mp (List.all_eq_true.mp isI_all a hm.1) b hm.2
    rw [← h]
    exact of_decide_eq_true q
  · cases h
def tysOf : List D → Option (List String)
  | [] => some []
  | .ty n :: r => (tysOf r).map (n :: ·)
  | _ => none
def isAny (a : String) : List String → Option Bool
  | [] => some false
  | b :: r => match isI a b with
    | some true => some true
    | some false => isAny a r
    | none => none
/-- class 0 is the root, all others are its children -/
def subC (c c' : Nat) : Bool := decide (c = c') || decide (c' = 0)
structure ClsG (C : Cfg) : Prop where
  is : ∀ c, c < C.nc → IsX C.K (C.cA c)
  sub : ∀ c c', c < C.nc → c' < C.nc → PySem.W.kitOne C.K (.ref (C.cA c)) (.ref (C.cA c')) = some (subC c c')
  ve : ∀ c, c < C.nc → PySem.W.kitOne C.K (.ref (C.cA c)) (.type "ValueError") = some true
def isExcTy (x : D) (n : String) (S : Sto) : R D := match x with
  | .exc _ _ _ => if n = "ValueError" then .ok (.bl true) S else .bad
  | _ => .bad
def isExcCls (x : D) (c' : Nat) (S : Sto) : R D := match x with
  | .exc c _ _ => .ok (.bl (subC c c')) S
  | _ => .bad
def pIsi (ds : List D) (S : Sto) : R D := match ds with
  | [x, .ty n] => match (tyD S x).bind fun t => isI t n with
    | some b => .ok (.bl b) S
    | none => isExcTy x n S
  | [x, .cls c] => isExcCls x c S
  | [x, .tup cs] => match (tyD S x).bind fun t => (tysOf cs).bind fun ns => isAny t ns with
    | some b => .ok (.bl b) S
    | none => .bad
  | _ => .bad
def rIsiA (K : PySem.W.Frag) : List V → Hp → VK → Prop := fun xs H Q => rIsX K xs H Q ∨ (rIsi K xs H Q ∨ (rIsiF K xs H Q ∨ rIsiK K xs H Q))
theorem call_isiA {X : Cx} : CallR X (.builtin "isinstance") (rIsiA X.K) := call_isX.or (call_isi.or (call_isiF.or call_isiK))
theorem tyD_ok {C : Cfg} {ρ hid : List Addr} {H : Hp} {S : Sto} {d : D} {v : V} {t : String} (s : StoOk C hid ρ H S) (r : Rl C ρ hid H d v) (h : tyD S d = some t) : TyX C.K H v (.type t) := by
  unfold tyD at h
  split at h
  · rename_i e; cases h; rw [rd_non r e]; exact .base .non
  · rename_i b e; cases h; rw [rd_bl r e]; exact .base (.bl _)
  · rename_i b e; cases h; rw [rd_int r e]; exact .base (.int _)
  · rename_i b e; cases h; rw [(rd_str r e).1]; exact .base (.str _)
  · rename_i b e
    cases h
    obtain ⟨a, vs, rfl, hA, _⟩ := rd_tup r e
    rcases hA with ⟨⟨h, _⟩, _⟩ | ⟨o, its, n, h1, h2, _⟩
    · obtain ⟨us, h⟩ := h
      exact .fTuple h
    · exact .kTuple h1 h2
  · rename_i b e
    cases h
    obtain ⟨a, vs, rfl, hA, _⟩ := rd_lst s r e
    rcases hA with h | ⟨o, h⟩
    · exact .base (.lst h)
    · exact .base (.frz h)
  · rename_i b e
    cases h
    obtain ⟨a, vs, rfl, hA, _⟩ := rd_dic s r e
    rcases hA with h | ⟨o, h⟩
    · exact .base (.dK h)
    · exact .fDict h
  · cases h
theorem tys_ok {C : Cfg} {ρ hid : List Addr} {H : Hp} : ∀ {cs : List D} {vs : List V} {ns : List String}, RlAll C ρ hid H cs vs → tysOf cs = some ns → Paired ClsV vs (ns.map Value.type)
  | [], _, _, .nil, e => by simp [tysOf] at e; subst e; exact .nil
  | c :: cs, _, _, .cons h r, e => by
    cases h with
    | ty n =>
      simp only [tysOf] at e
      obtain ⟨ns, e1, rfl⟩ := Option.map_eq_some_iff.mp e
      exact .cons (.ty n) (tys_ok r e1)
    | _ => simp [tysOf] at e
theorem isAny_ok {K : PySem.W.Frag} {a : String} : ∀ {ns : List String} {b : Bool}, isAny a ns = some b → PySem.W.kitAny K (.type a) (ns.map Value.type) = some b
  | [], b, h => by simp [isAny] at h; subst h; exact kitAny_nil
  | n :: r, b, h => by
    simp only [isAny] at h
    split at h
    · rename_i e
      cases h
      exact kitAny_cons (kit_ty (isI_ok e)) (fun z => nomatch z) fun _ => rfl
    · rename_i e
      exact kitAny_cons (kit_ty (isI_ok e)) (fun _ => isAny_ok h) fun z => nomatch z
    · cases h
theorem exc_xat {C : Cfg} {ρ hid : List Addr} {H : Hp} {c : Nat} {ns : List Str} {ds : List D} {v : V} (r : Rl C ρ hid H (.exc c ns ds) v) : c < C.nc ∧ ∃ a, v = .ref a ∧ XAt H a (C.cA c) := by
  cases r with
  | exc0 z h _ => exact ⟨z, _, rfl, .inl h⟩
  | exc1 z h _ h2 _ _ _ => exact ⟨z, _, rfl, .inr ⟨_, _, h, h2⟩⟩
theorem p_isi {C : Cfg} (g : ClsG C) : PAOk C (rIsiA C.K) pIsi := by
  intro ρ hid H S ds vs Q XX s r h
  unfold pIsi at h
  split at h
  · rename_i x n
    obtain ⟨v, w, rfl, rv, rw'⟩ := two_of r
    split at h
    · rename_i b e
      obtain ⟨t, e1, e2⟩ := Option.bind_eq_some_iff.mp e
      cases rw'
      exact .inr (.inl ⟨v, .ty n, .type t, .type n, b, rfl, .ty n, tyD_ok s rv e1, kit_ty (isI_ok e2), h.here s _ (.bl _)⟩)
    · unfold isExcTy at h
      split at h
      · split at h
        · rename_i hn
          subst hn
          obtain ⟨z, a, rfl, hX⟩ := exc_xat rv
          cases rw'
          exact .inl ⟨a, _, .ty "ValueError", .type "ValueError", true, rfl, hX, g.is _ z, fun u q => q, g.ve _ z, h.here s _ (.bl _)⟩
        · exact h.elim
      · exact h.elim
  · rename_i x c'
    obtain ⟨v, w, rfl, rv, rw'⟩ := two_of r
    unfold isExcCls at h
    split at h
    · obtain ⟨z, a, rfl, hX⟩ := exc_xat rv
      cases rw' with
      | cls _ z2 => exact .inl ⟨a, _, .ref (C.cA c'), .ref (C.cA c'), _, rfl, hX, g.is _ z, fun u q => q, g.sub _ _ z z2, h.here s _ (.bl _)⟩
    · exact h.elim
  · rename_i x cs
    obtain ⟨v, w, rfl, rv, rw'⟩ := two_of r
    split at h
    · rename_i b e
      obtain ⟨t, e1, e2⟩ := Option.bind_eq_some_iff.mp e
      obtain ⟨ns, e3, e4⟩ := Option.bind_eq_some_iff.mp e2
      cases rw' with
      | tup hA ra =>
        rename_i a ws
        have hp := tys_ok ra e3
        rcases hA with ⟨⟨hH, _⟩, _⟩ | ⟨o, its, n, h1, h2, _, h3, h4, h5⟩
        · exact .inr (.inr (.inl ⟨v, a, ws, .type t, _, b, rfl, hH, hp, tyD_ok s rv e1, isAny_ok e4, h.here s _ (.bl _)⟩))
        · obtain ⟨oc, od, dt, sl⟩ := o
          simp only at h2 h3
          subst h2 h3
          have e5 := ClsV.all hp h5
          refine .inr (.inr (.inr ⟨v, a, od, ns.map Value.type, n, sl, .type t, b, rfl, ?_, tyD_ok s rv e1, isAny_ok e4, h.here s _ (.bl _)⟩))
          rw [h1, ← e5]
    · exact h.elim
  · exact h.elim

/-! ### tuple(x), list(x) -/
def pTupOf (ds : List D) (S : Sto) : R D := match ds with
  | [x] => match deref S x with
    | .tup es => .ok (.tup es) S
    | .lst es => .ok (.tup es) S
    | _ => .bad
  | _ => .bad
theorem p_tupOf {C : Cfg} : PAOk C (rTupOfF C.K) pTupOf := by
  intro ρ hid H S ds vs Q XX s r h
  unfold pTupOf at h
  split at h
  · obtain ⟨v, rfl, rv⟩ := one_of r
    split at h
    · rename_i es e
      obtain ⟨a, ws, rfl, hA, ra⟩ := rd_tup rv e
      exact ⟨a, ws, rfl, .inr ⟨hA.sq, h.here s _ (.tup hA ra)⟩⟩
    · rename_i es e
      obtain ⟨a, ws, rfl, hA, z, ra⟩ := rd_lst s rv e
      exact ⟨a, ws, rfl, .inl ⟨.inl hA, lay_tup s ra z h⟩⟩
    · exact h.elim
  · exact h.elim
def pLstOf (bx : Bool) (ds : List D) (S : Sto) : R D := match ds with
  | [x] => match deref S x with
    | .tup es => mkL bx es S
    | .lst es => mkL bx es S
    | _ => .bad
  | _ => .bad
theorem p_lstOf {C : Cfg} {bx : Bool} : PAOk C (fun xs H Q => ∃ p ys, xs = [.ref p] ∧ (SqL C.K H p ys ∨ SqT C.K H p ys) ∧ ∀ l, H l = none → Q (.ref l) (upd H l (.lst ys))) (pLstOf bx) := by
  intro ρ hid H S ds vs Q XX s r h
  unfold pLstOf at h
  split at h
  · obtain ⟨v, rfl, rv⟩ := one_of r
    split at h
    · rename_i es e
      obtain ⟨a, ws, rfl, hA, ra⟩ := rd_tup rv e
      exact ⟨a, ws, rfl, .inr hA.sq, lay_mkL s ra hA.size h⟩
    · rename_i es e
      obtain ⟨a, ws, rfl, hA, z, ra⟩ := rd_lst s rv e
      exact ⟨a, ws, rfl, .inl (.inl hA), lay_mkL s ra z h⟩
    · exact h.elim
  · exact h.elim

/-! ### all, any, sum -/
def pAll (any : Bool) (ds : List D) (S : Sto) : R D := match ds with
  | [x] => match deref S x with
    | .lst es => match boolsOf es with
      | some bs => .ok (.bl (if any then bs.any id else bs.all id)) S
      | none => .bad
    | _ => .bad
  | _ => .bad
theorem p_all {C : Cfg} : PAOk C (rAll C.K) (pAll false) := by
  intro ρ hid H S ds vs Q XX s r h
  unfold pAll at h
  split at h
  · obtain ⟨v, rfl, rv⟩ := one_of r
    split at h
    · rename_i es e
      split at h
      · rename_i bs eb
        obtain ⟨a, ws, rfl, hA, z, ra⟩ := rd_lst s rv e
        exact ⟨a, bs, rfl, by rw [← rl_bools ra eb]; exact .inl hA, h.here s _ (.bl _)⟩
      · exact h.elim
    · exact h.elim
  · exact h.elim
theorem p_any {C : Cfg} : PAOk C (rAny C.K) (pAll true) := by
  intro ρ hid H S ds vs Q XX s r h
  unfold pAll at h
  split at h
  · obtain ⟨v, rfl, rv⟩ := one_of r
    split at h
    · rename_i es e
      split at h
      · rename_i bs eb
        obtain ⟨a, ws, rfl, hA, z, ra⟩ := rd_lst s rv e
        exact ⟨a, bs, rfl, by rw [← rl_bools ra eb]; exact .inl hA, h.here s _ (.bl _)⟩
      · exact h.elim
    · exact h.elim
  · exact h.elim
def pSum (ds : List D) (S : Sto) : R D := match ds with
  | [x] => match deref S x with
    | .lst es => match intsOf es with
      | some bs => .ok (.int bs.sum) S
      | none => .bad
    | _ => .bad
  | _ => .bad
theorem p_sum {C : Cfg} : PAOk C (rSum C.K) pSum := by
  intro ρ hid H S ds vs Q XX s r h
  unfold pSum at h
  split at h
  · obtain ⟨v, rfl, rv⟩ := one_of r
    split at h
    · rename_i es e
      split at h
      · rename_i bs eb
        obtain ⟨a, ws, rfl, hA, z, ra⟩ := rd_lst s rv e
        exact ⟨a, bs, rfl, by rw [← rl_ints ra eb]; exact .inl hA, h.here s _ (.int _)⟩
      · exact h.elim
    · exact h.elim
  · exact h.elim

/-! ### abs, int, min, max of ints -/
def pAbs (ds : List D) (S : Sto) : R D := match ds with
  | [.int i] => .ok (.int (if i < 0 then -i else i)) S
  | _ => .bad
theorem p_abs {C : Cfg} : PAOk C (fun xs H Q => ∃ i, xs = [.int i] ∧ Q (.int (if i < 0 then -i else i)) H) pAbs := by
  intro ρ hid H S ds vs Q XX s r h
  unfold pAbs at h
  split at h
  · obtain ⟨v, rfl, rv⟩ := one_of r
    cases rv
    exact ⟨_, rfl, h.here s _ (.int _)⟩
  · exact h.elim
def pInt (ds : List D) (S : Sto) : R D := match ds with
  | [.int i] => .ok (.int i) S
  | [.bl k] => .ok (.int (if k then 1 else 0)) S
  | _ => .bad
theorem p_int {C : Cfg} : PAOk C (fun xs H Q => (∃ i, xs = [.int i] ∧ Q (.int i) H) ∨ ∃ k, xs = [.bl k] ∧ Q (.int (if k then 1 else 0)) H) pInt := by
  intro ρ hid H S ds vs Q XX s r h
  unfold pInt at h
  split at h
  · obtain ⟨v, rfl, rv⟩ := one_of r
    cases rv
    exact .inl ⟨_, rfl, h.here s _ (.int _)⟩
  · obtain ⟨v, rfl, rv⟩ := one_of r
    cases rv
    exact .inr ⟨_, rfl, h.here s _ (.int _)⟩
  · exact h.elim
def pMin (ds : List D) (S : Sto) : R D := match ds with
  | [.int i, .int j] => .ok (.int (if j < i then j else i)) S
  | _ => .bad
theorem p_min {C : Cfg} : PAOk C (fun xs H Q => ∃ i j, xs = [.int i, .int j] ∧ Q (.int (if j < i then j else i)) H) pMin := by
  intro ρ hid H S ds vs Q XX s r h
  unfold pMin at h
  split at h
  · obtain ⟨v, w, rfl, rv, rw'⟩ := two_of r
    cases rv
    cases rw'
    exact ⟨_, _, rfl, h.here s _ (.int _)⟩
  · exact h.elim
def pMax (ds : List D) (S : Sto) : R D := match ds with
  | [.int i, .int j] => .ok (.int (if j > i then j else i)) S
  | _ => .bad
theorem p_max {C : Cfg} : PAOk C (fun xs H Q => ∃ i j, xs = [.int i, .int j] ∧ Q (.int (if j > i then j else i)) H) pMax := by
  intro ρ hid H S ds vs Q XX s r h
  unfold pMax at h
  split at h
  · obtain ⟨v, w, rfl, rv, rw'⟩ := two_of r
    cases rv
    cases rw'
    exact ⟨_, _, rfl, h.here s _ (.int _)⟩
  · exact h.elim

/-! ### methods of lists of the store -/
def isBoxL (S : Sto) (d : D) : Bool := match d with
  | .ref l => match S[l]? with
    | some (.lst _) => true
    | _ => false
  | _ => false
/-- o.m(..): the receiver is looked at first -/
def cMeth (p : D → List D → Sto → R D) (fo : EE) (fr : EA) : EE := fun call env S => (fo call env S).bind fun x S1 => if isBoxL S1 x then (fr call env S1).bind fun xs S2 => p x xs S2 else .bad
def cMeth0 (p : D → List D → Sto → R D) (fo : EE) : EE := fun call env S => (fo call env S).bind fun x S1 => if isBoxL S1 x then p x [] S1 else .bad
def PMOk (C : Cfg) (r : V → List V → Hp → VK → Prop) (p : D → List D → Sto → R D) : Prop := ∀ ρ hid H S x ds vx vs Q (XX : XP), StoOk C hid ρ H S → Rl C ρ hid H x vx → RlAll C ρ hid H ds vs → okR C hid ρ H (p x ds S) (PostE C hid Q) XX → r vx vs H Q
theorem box_ty {C : Cfg} {ρ hid : List Addr} {H : Hp} {S : Sto} {d : D} {v : V} (s : StoOk C hid ρ H S) (r : Rl C ρ hid H d v) (h : isBoxL S d = true) : tyV C.K "list" v H := by
  unfold isBoxL at h
  split at h
  · cases r with
    | ref hl =>
      split at h
      · rename_i ds hs
        obtain ⟨vs, e1, z, _⟩ := s.obj _ _ _ hl hs
        exact .inl ⟨rfl, vs, SqL.of e1⟩
      · cases h
  · cases h
section
variable {X : Cx} {C : Cfg} {W : WX} {call : Call} {fo : EE} {fr : EA} {o e : Expr} {es : List Expr}
theorem meth_step {r : V → List V → Hp → VK → Prop} {p : D → List D → Sto → R D} (hp : PMOk C r p) : ∀ σ H Q, tE C W call (cMeth p fo fr) σ H Q → tBM C.K "list" r (tE C W call fo) (tA C W call fr) σ H Q := fun σ H Q ⟨ρ, hid, S, env, s, n, h⟩ => by
  refine ⟨ρ, hid, S, env, s, n, (okR.bind h).imp (fun x S1 ρ1 H1 e1 s1 h1 vx rx => ?_) fun _ _ _ _ _ _ _ _ q => q⟩
  split at h1
  · rename_i hb
    refine ⟨box_ty s1 rx hb, ρ1, hid, S1, env, s1, n.ext e1, (okR.bind h1).imp (fun xs S2 ρ2 H2 e2 s2 h2 vs rs => ?_) fun _ _ _ _ _ _ _ _ q => q⟩
    exact hp ρ2 hid H2 S2 x xs vx vs Q _ s2 (rx.ext e2) rs h2
  · exact h1.elim
theorem meth0_step {r : V → List V → Hp → VK → Prop} {p : D → List D → Sto → R D} (hp : PMOk C r p) : ∀ σ H Q, tE C W call (cMeth0 p fo) σ H Q → tBM0 C.K "list" r (tE C W call fo) σ H Q := fun σ H Q ⟨ρ, hid, S, env, s, n, h⟩ => by
  refine ⟨ρ, hid, S, env, s, n, (okR.bind h).imp (fun x S1 ρ1 H1 e1 s1 h1 vx rx => ?_) fun _ _ _ _ _ _ _ _ q => q⟩
  split at h1
  · rename_i hb
    exact ⟨box_ty s1 rx hb, hp ρ1 hid H1 S1 x [] vx [] Q _ s1 rx .nil h1⟩
  · exact h1.elim
end
def pAppend (x : D) (ds : List D) (S : Sto) : R D := match x, ds with
  | .ref l, [d] => match S[l]? with
    | some (.lst es) => if es.length < sizeLine then .ok .non (S.set l (.lst (es ++ [d]))) else .bad
    | _ => .bad
  | _, _ => .bad
theorem p_append {C : Cfg} : PMOk C rAppend pAppend := by
  intro ρ hid H S x ds vx vs Q XX s rx rs h
  unfold pAppend at h
  split at h
  · rename_i l d
    obtain ⟨v, rfl, rv⟩ := one_of rs
    split at h
    · rename_i es he
      split at h
      · rename_i hz
        cases rx with
        | ref hl =>
          rename_i a
          obtain ⟨ws, e1, z, ra⟩ := s.obj _ _ _ hl he
          have lz : ws.length < sizeLine := by rw [← ra.length]; exact hz
          refine ⟨a, ws, v, rfl, rfl, e1, lz, ?_⟩
          have ex : Ext ρ H ρ (upd H a (.lst (ws ++ [v]))) := .set (List.mem_of_getElem? hl)
          refine h ρ _ ex (s.set hl ⟨ws ++ [v], upd_same, by simp; omega, (ra.ext ex).append (.cons (rv.ext ex) .nil)⟩) _ .non
      · exact h.elim
    · exact h.elim
  · exact h.elim
def pPop (x : D) (ds : List D) (S : Sto) : R D := match x, ds with
  | .ref l, [] => match S[l]? with
    | some (.lst es) => match es[es.length - 1]? with
      | some d => .ok d (S.set l (.lst es.dropLast))
      | none => .bad
    | _ => .bad
  | _, _ => .bad
theorem RlAll.dropLast {C : Cfg} {ρ hid : List Addr} {H : Hp} {ds : List D} {vs : List V} (r : RlAll C ρ hid H ds vs) : RlAll C ρ hid H ds.dropLast vs.dropLast := by
  rw [List.dropLast_eq_take, List.dropLast_eq_take, r.length]
  exact r.take _
theorem p_pop {C : Cfg} : PMOk C rPop pPop := by
  intro ρ hid H S x ds vx vs Q XX s rx rs h
  unfold pPop at h
  split at h
  · rename_i l
    cases rs
    split at h
    · rename_i es he
      split at h
      · rename_i d hd
        cases rx with
        | ref hl =>
          rename_i a
          obtain ⟨ws, e1, z, ra⟩ := s.obj _ _ _ hl he
          obtain ⟨v, hv, rv⟩ := ra.get hd
          rw [ra.length] at hv
          refine ⟨a, ws, v, rfl, rfl, e1, hv, ?_⟩
          have ex : Ext ρ H ρ (upd H a (.lst ws.dropLast)) := .set (List.mem_of_getElem? hl)
          exact h ρ _ ex (s.set hl ⟨ws.dropLast, upd_same, by rw [List.length_dropLast]; omega, (ra.ext ex).dropLast⟩) _ (rv.ext ex)
      · exact h.elim
    · exact h.elim
  · exact h.elim
def pPopAt (x : D) (ds : List D) (S : Sto) : R D := match x, ds with
  | .ref l, [.int i] => match S[l]? with
    | some (.lst es) => if -(2 ^ 63) ≤ i ∧ i < 2 ^ 63 then match seqIndex? i es.length with
      | some k => match es[k]? with
        | some d => .ok d (S.set l (.lst (es.eraseIdx k)))
        | none => .bad
      | none => .bad
      else .bad
    | _ => .bad
  | _, _ => .bad
theorem p_popAt {C : Cfg} : PMOk C rPopAt pPopAt := by
  intro ρ hid H S x ds vx vs Q XX s rx rs h
  unfold pPopAt at h
  split at h
  · rename_i l i
    obtain ⟨w, rfl, rw'⟩ := one_of rs
    cases rw'
    split at h
    · rename_i es he
      split at h
      · rename_i hi
        split at h
        · rename_i k hk
          split at h
          · rename_i d hd
            cases rx with
            | ref hl =>
              rename_i a
              obtain ⟨ws, e1, z, ra⟩ := s.obj _ _ _ hl he
              obtain ⟨v, hv, rv⟩ := ra.get hd
              rw [ra.length] at hk
              refine ⟨a, ws, i, k, v, rfl, rfl, e1, hi.1, hi.2, hk, hv, ?_⟩
              have ex : Ext ρ H ρ (upd H a (.lst (ws.eraseIdx k))) := .set (List.mem_of_getElem? hl)
              exact h ρ _ ex (s.set hl ⟨ws.eraseIdx k, upd_same, Nat.le_trans (len_erase _ _) z, (ra.ext ex).eraseIdx k⟩) _ (rv.ext ex)
          · exact h.elim
        · exact h.elim
      · exact h.elim
    · exact h.elim
  · exact h.elim

/-! ### dicts: displays with written keys, stores -/
def putD (kvs : List (Key × D)) (k : Key) (v : D) : List (Key × D) := if kvs.any (fun kv => decide (kv.1 = k)) then kvs.map fun kv => if kv.1 = k then (kv.1, v) else kv else kvs ++ [(k, v)]
end Ev

set_option Elab.async false
set_option linter.all false
set_option maxRecDepth 100000
set_option maxHeartbeats 1000000
/-! Ev, part 9: dicts: displays, stores; stores into lists. -/
namespace Ev
open PySem PySem.Spec PyProof.Rows L2

def mkD (bx : Bool) (kvs : List (Key × D)) (S : Sto) : R D := if bx then .ok (.ref S.length) (S ++ [.dic kvs]) else .ok (.dic kvs) S
/-- an object that was hidden becomes the store's own -/
theorem own_box {C : Cfg} {ρ hid : List Addr} {H : Hp} {p : Addr} {S : Sto} {o : O} (s : StoOk C (p :: hid) ρ H S) (hf : p ∉ hid) (h : ∀ ρ' hid', (∀ a, Fz ρ (p :: hid) a → Fz ρ' hid' a) → (∀ (l : Nat) (a : Addr), ρ[l]? = some a → ρ'[l]? = some a) → OOk C ρ' hid' H p o) : StoOk C hid (ρ ++ [p]) H (S ++ [o]) := by
  have hi : ∀ a, a ∈ hid → a ∈ p :: hid := fun a h => List.mem_cons_of_mem _ h
  have s' := s.unhide
  have nR := (s.hidT p List.mem_cons_self).2
  have mv : ∀ a, Fz ρ (p :: hid) a → Fz (ρ ++ [p]) hid a := fun a n => by
    refine ⟨fun z => ?_, fun z => n.2 (hi _ z)⟩
    rcases List.mem_append.mp z with q | q
    · exact n.1 q
    · rw [List.mem_singleton] at q; exact n.2 (by rw [q]; exact List.mem_cons_self)
  have mr : ∀ (l : Nat) (a : Addr), ρ[l]? = some a → (ρ ++ [p])[l]? = some a := fun l a hl => by
    obtain ⟨z, _⟩ := List.getElem?_eq_some_iff.mp hl
    rw [List.getElem?_append_left z]; exact hl
  refine ⟨by simp [s.len], ?_, fun l a ob h1 h2 => ?_, fun a ha => ⟨(s'.hidT a ha).1, fun z => ?_⟩, s.gr⟩
  · exact List.nodup_append.mpr ⟨s.nd, by simp, fun a ha b hb => by rw [List.mem_singleton] at hb; rintro rfl; exact nR (hb ▸ ha)⟩
  · by_cases hl : l < ρ.length
    · rw [List.getElem?_append_left hl] at h1
      rw [List.getElem?_append_left (by rw [← s.len]; exact hl)] at h2
      have q := s.obj l a ob h1 h2
      cases ob with
      | lst ds => obtain ⟨vs, e1, z, r⟩ := q; exact ⟨vs, e1, z, r.move mv mr⟩
      | dic kvs => obtain ⟨vs, e1, z, r⟩ := q; exact ⟨vs, e1, z, r.move mv mr⟩
      | hid => exact q
    · rw [List.getElem?_append_right (by omega)] at h1
      rw [List.getElem?_append_right (by rw [← s.len]; omega)] at h2
      obtain ⟨z1, z2⟩ := List.getElem?_eq_some_iff.mp h1
      have z3 : l - ρ.length = 0 := by simp at z1; omega
      rw [z3] at h1
      rw [← s.len, z3] at h2
      simp at h1 h2
      subst h1 h2
      exact h _ _ mv mr
  · rcases List.mem_append.mp z with q | q
    · exact (s'.hidT a ha).2 q
    · rw [List.mem_singleton] at q; rw [q] at ha; exact hf ha
theorem own_ext {ρ0 ρ : List Addr} {H0 H : Hp} {p : Addr} (e : Ext ρ0 H0 ρ H) (h0 : H0 p = none) : Ext ρ0 H0 (ρ ++ [p]) H := by
  refine ⟨?_, e.keep, e.stay, fun a ha => ?_⟩
  · obtain ⟨z, rfl⟩ := e.pre
    exact ⟨z ++ [p], by simp⟩
  · rcases List.mem_append.mp ha with q | q
    · exact e.new a q
    · rw [List.mem_singleton] at q; subst q; exact .inr h0
theorem dic_end {bx : Bool} {C : Cfg} {ρ0 ρ hid : List Addr} {H0 H : Hp} {p : Addr} {kvs : List (Key × D)} {ws : List (Key × V)} {S : Sto} {Q : VK} {XX : XP} (e : Ext ρ0 H0 ρ H) (h0 : H0 p = none) (s : StoOk C (p :: hid) ρ H S) (hf : p ∉ hid)
    (hD : H p = some (.dK ws)) (hz : ws.length ≤ sizeLine) (r : RlKv C ρ (p :: hid) H kvs ws) (h : okR C hid ρ0 H0 (mkD bx kvs S) (PostE C hid Q) XX) : Q (.ref p) H := by
  have hi : ∀ a, a ∈ hid → a ∈ p :: hid := fun a h => List.mem_cons_of_mem _ h
  have nR := (s.hidT p List.mem_cons_self).2
  cases bx with
  | false => exact h ρ H e s.unhide _ (.dic (.inl hD) ⟨nR, hf⟩ (r.open hi))
  | true => exact h _ H (own_ext e h0) (own_box s hf fun ρ' hid' mv mr => ⟨ws, hD, hz, r.move mv mr⟩) _ (.ref (by rw [← s.len]; simp))

/-! ### stores -/
theorem RlKv.put {C : Cfg} {ρ hid : List Addr} {H : Hp} {ds : List (Key × D)} {vs : List (Key × V)} (k : Key) {d : D} {v : V} (r : RlKv C ρ hid H ds vs) (h : Rl C ρ hid H d v) : RlKv C ρ hid H (putD ds k d) (putK vs k v) := by
  have ha : (ds.any fun kv => decide (kv.1 = k)) = vs.any fun kv => decide (kv.1 = k) := by
    induction ds generalizing vs with
    | nil => cases r; rfl
    | cons p t ih =>
      cases r with
      | cons q r => simp only [List.any_cons, ih r]
  have hm : RlKv C ρ hid H (ds.map fun kv => if kv.1 = k then (kv.1, d) else kv) (vs.map fun kv => if kv.1 = k then (kv.1, v) else kv) := by
    clear ha
    induction ds generalizing vs with
    | nil => cases r; exact .nil
    | cons p t ih =>
      cases r with
      | cons q r =>
        rename_i j _ _ _
        simp only [List.map_cons]
        by_cases e : j = k
        · simp only [e, if_true]; exact .cons h (ih r)
        · simp only [e, if_false]; exact .cons q (ih r)
  have hs : RlKv C ρ hid H (ds ++ [(k, d)]) (vs ++ [(k, v)]) := by
    clear ha hm
    induction ds generalizing vs with
    | nil => cases r; exact .cons h .nil
    | cons p t ih =>
      cases r with
      | cons q r => exact .cons q (ih r)
  unfold putD putK
  rw [ha]
  split
  · exact hm
  · exact hs
/-- o[i] = v -/
def pSet (o i v : D) (S : Sto) : Option Sto := match o with
  | .ref l => match S[l]? with
    | some (.dic kvs) => match keyOf i with
      | some k => if kvs.length < sizeLine then some (S.set l (.dic (putD kvs k v))) else none
      | none => none
    | some (.lst es) => match i with
      | .int j => match ixN es.length j with
        | some m => some (S.set l (.lst (es.set m v)))
        | none => none
      | _ => none
    | _ => none
  | _ => none
def cSet (fo fi fv : EE) : ES := fun call env S => (fv call env S).bind fun v S1 => (fo call env S1).bind fun o S2 => (fi call env S2).bind fun i S3 => match pSet o i v S3 with
  | some S4 => .ok (.nx env) S4
  | none => .bad
theorem _root_.L2.PS.or {X : Cx} {st : Stmt} {t t' : TS} (h : PS X st t) (h' : PS X st t') : PS X st (fun D σ H => t D σ H ∨ t' D σ H) := ⟨fun pins s σ H D I q => q.elim (h.run pins s σ H D I) (h'.run pins s σ H D I)⟩
section
variable {X : Cx} {C : Cfg} {W : WX} {call : Call} {fo fi fv : EE} {o i value : Expr} {pos pos' : Pos}
def rSetDic : TSet := fun o i v H Q => ∃ a H4, o = .ref a ∧ DPut H a i v H4 ∧ Q H4
theorem set_dic (hu : X.A.units + 200 < cLine) : PSet X rSetDic := by
  intro pins s σ H x y v ov iv u Q I rx ry rv h
  obtain ⟨a, H4, rfl, g, q⟩ := h
  cases rx
  exact d_setItem (by omega) I g ry rv fun s' I' => ⟨H4, I', q⟩
theorem PSet.or {t t' : TSet} (h : PSet X t) (h' : PSet X t') : PSet X (fun o i v H Q => t o i v H Q ∨ t' o i v H Q) := by
  intro pins s σ H x y v ov iv u Q I rx ry rv q
  rcases q with q | q
  · exact h pins s σ H x y v ov iv u Q I rx ry rv q
  · exact h' pins s σ H x y v ov iv u Q I rx ry rv q
theorem pSet_ok {ρ hid : List Addr} {H : Hp} {S S' : Sto} {o i v : D} {vo vi vv : V} (s : StoOk C hid ρ H S) (ro : Rl C ρ hid H o vo) (ri : Rl C ρ hid H i vi) (rv : Rl C ρ hid H v vv) (e : pSet o i v S = some S') :
    ∃ H', Ext ρ H ρ H' ∧ StoOk C hid ρ H' S' ∧ ∀ Q : Hp → Prop, Q H' → rSetDic vo vi vv H Q ∨ rSetL vo vi vv H Q := by
  unfold pSet at e
  split at e
  · rename_i l
    cases ro with
    | ref hl =>
      rename_i a
      split at e
      · rename_i kvs hk
        obtain ⟨ws, e1, z, r⟩ := s.obj _ _ _ hl hk
        split at e
        · rename_i k ek
          split at e
          · rename_i hz
            cases e
            have hv := rl_key ri ek
            subst hv
            have lz : ws.length < sizeLine := by rw [← r.length]; exact hz
            have ex : Ext ρ H ρ (upd H a (.dK (putK ws k vv))) := .set (List.mem_of_getElem? hl)
            exact ⟨_, ex, s.set hl ⟨putK ws k vv, upd_same, Nat.le_trans (length_putK _ _ _) lz, (r.ext ex).put k (rv.ext ex)⟩, fun Q q => .inl ⟨a, _, rfl, DPut.k e1 lz, q⟩⟩
          · cases e
        · cases e
      · rename_i es hk
        obtain ⟨ws, e1, z, r⟩ := s.obj _ _ _ hl hk
        split at e
        · rename_i j
          split at e
          · rename_i m hm
            cases e
            cases ri
            rw [r.length] at hm
            have ex : Ext ρ H ρ (upd H a (.lst (ws.set m vv))) := .set (List.mem_of_getElem? hl)
            exact ⟨_, ex, s.set hl ⟨ws.set m vv, upd_same, by rw [List.length_set]; exact z, (r.ext ex).set m (rv.ext ex)⟩, fun Q q => .inr ⟨a, ws, j, m, rfl, rfl, e1, hm, q⟩⟩
          · cases e
        · cases e
      · cases e
  · cases e
theorem ev_set (g : Good X C) (ho : PE X o (tE C W call fo)) (hi : PE X i (tE C W call fi)) (hv : PE X value (tE C W call fv)) (hs : swapsWithSole [.Subscript o i pos'] value pos.line X.env = pure false) (hw : swappedStores [.Subscript o i pos'] value X.env = pure none)
    (ha : ∀ v, assign (.Subscript o i pos') X.env v = (do
      let ov ← holding [v] (eval o X.env)
      let iv ← holding [v, ov] (eval i X.env)
      standAt pos'
      holding [v, ov, iv] (setItem ov iv v)
      release [v, ov, iv] [])) : PS X (.Assign [.Subscript o i pos'] value pos) (tS C W call (cSet fo fi fv)) :=
  (ps_asg hv (pg_sub ho hi (PSet.or (set_dic g.hu) set_list) ha) hs hw rfl).imp fun En σ H ⟨ρ, hid, S, env, s, n, h⟩ => by
    refine ⟨ρ, hid, S, env, s, n, (okR.bind h).imp (fun v S1 ρ1 H1 e1 s1 h1 vv rv => ?_) fun _ _ _ _ _ _ _ _ q => q⟩
    refine ⟨ρ1, hid, S1, env, s1, n.ext e1, (okR.bind h1).imp (fun ob S2 ρ2 H2 e2 s2 h2 vo ro => ?_) fun _ _ _ _ _ _ _ _ q => q⟩
    refine ⟨ρ2, hid, S2, env, s2, (n.ext e1).ext e2, (okR.bind h2).imp (fun ix S3 ρ3 H3 e3 s3 h3 vi ri => ?_) fun _ _ _ _ _ _ _ _ q => q⟩
    split at h3
    · rename_i S4 e4
      obtain ⟨H4, ex, s4, q⟩ := pSet_ok s3 (ro.ext e3) ri ((rv.ext e2).ext e3) e4
      exact q _ (h3 ρ3 H4 ex s4 σ ((((n.ext e1).ext e2).ext e3).ext ex))
    · exact h3.elim
end

/-! ### displays -/
abbrev EP' := Call → Env' → Sto → R (List (Key × D))
def cPNil : EP' := fun _ _ S => .ok [] S
def cPCons (fk fv : EE) (fr : EP') : EP' := fun call env S => (fk call env S).bind fun k S1 => (fv call env S1).bind fun v S2 => (fr call env S2).bind fun kvs S3 => match keyOf k with
  | some key => .ok ((key, v) :: kvs) S3
  | none => .bad
def mergeD (kvs more : List (Key × D)) : List (Key × D) := more.foldl (fun acc kv => putD acc kv.1 kv.2) kvs
def cDic (bx : Bool) (fr : EP') : EE := fun call env S => (noExc (fr call env S)).bind fun kvs S1 => if kvs.length ≤ 15 then mkD bx (mergeD [] kvs) S1 else .bad
/-- the readings of a display's parts -/
structure PrP (X : Cx) (C : Cfg) (W : WX) (call : Call) (pos : Pos) (keys : List (Option Expr)) (values : List Expr) (fr : EP') : Prop where
  ex : ∃ trs, PPs X pos keys values trs ∧ ∀ ρ hid H S env σ (P : List (Key × D) → Sto → List Addr → Hp → Prop) (Q : List (V × V) → Hp → Prop), StoOk C hid ρ H S → EnvOk C ρ hid H env σ →
    (∃ kvs S', fr call env S = .ok kvs S' ∧ ∀ ρ' H' ws, Ext ρ H ρ' H' → StoOk C hid ρ' H' S' → RlKv C ρ' hid H' kvs ws → Q (ws.map fun kv => (kV kv.1, kv.2)) H') → tPairs trs σ H Q
section
variable {X : Cx} {C : Cfg} {W : WX} {call : Call} {pos : Pos} {keys : List (Option Expr)} {values : List Expr} {fk fv : EE} {fr : EP'} {k v : Expr}
theorem prp_nil : PrP X C W call pos [] [] cPNil := ⟨[], pps_nil, fun ρ hid H S env σ P Q s n ⟨kvs, S', e, q⟩ => by
  cases e
  exact q ρ H [] .refl s .nil⟩
theorem prp_cons (hk : PE X k (tE C W call fk)) (hv : PE X v (tE C W call fv)) (hr : PrP X C W call pos keys values fr) : PrP X C W call pos (some k :: keys) (v :: values) (cPCons fk fv fr) := by
  obtain ⟨trs, h1, h2⟩ := hr
  refine ⟨(tE C W call fk, tE C W call fv) :: trs, pps_cons hk hv h1, fun ρ hid H S env σ P Q s n ⟨kvs, S', e, q⟩ => ?_⟩
  unfold cPCons at e
  cases e1 : fk call env S with
  | bad => rw [e1] at e; cases e
  | exc => rw [e1] at e; cases e
  | ok kd S1 =>
    rw [e1] at e
    refine ⟨ρ, hid, S, env, s, n, ?_⟩
    rw [e1]
    intro ρ1 H1 x1 s1 kv rk
    simp only [R.bind] at e
    cases e2 : fv call env S1 with
    | bad => rw [e2] at e; cases e
    | exc => rw [e2] at e; cases e
    | ok vd S2 =>
      rw [e2] at e
      refine ⟨ρ1, hid, S1, env, s1, n.ext x1, ?_⟩
      rw [e2]
      intro ρ2 H2 x2 s2 vv rv
      simp only at e
      cases e3 : fr call env S2 with
      | bad => rw [e3] at e; cases e
      | exc => rw [e3] at e; cases e
      | ok more S3 =>
        rw [e3] at e
        simp only at e
        split at e
        · rename_i key ek
          cases e
          refine h2 ρ2 hid H2 S2 env σ (fun _ _ _ _ => True) _ s2 ((n.ext x1).ext x2) ⟨more, _, e3, fun ρ3 H3 ws x3 s3 r3 => ?_⟩
          have hkv := rl_key rk ek
          subst hkv
          exact q ρ3 H3 ((key, vv) :: ws) ((x1.trans x2).trans x3) s3 (.cons (rv.ext x3) r3)
        · cases e
theorem mergeD_ok {ρ hid : List Addr} {H : Hp} {more : List (Key × D)} {ws : List (Key × V)} {kvs : List (Key × D)} {vs : List (Key × V)} (h : RlKv C ρ hid H more ws) (r : RlKv C ρ hid H kvs vs) : RlKv C ρ hid H (mergeD kvs more) (mergeK vs ws) := by
  induction more generalizing ws kvs vs with
  | nil => cases h; exact r
  | cons p t ih =>
    cases h with
    | cons h t =>
      rename_i k _ _ _
      have q := ih t (r.put k h)
      exact q
theorem ev_dic {bx : Bool} (h : PrP X C W call pos keys values fr) (hall : keys.all (·.isSome) = true) (hl : keys.length = values.length) (h0 : keys ≠ []) (h15 : keys.length ≤ 15) : PE X (.Dict keys values pos) (tE C W call (cDic bx fr)) := by
  obtain ⟨trs, h1, h2⟩ := h
  refine (pe_disp h1 hall hl h0 h15).imp fun σ H Q ⟨ρ, hid, S, env, s, n, h⟩ p hp => ?_
  unfold cDic at h
  cases e : fr call env S with
  | bad => rw [e] at h; exact h.elim
  | exc => rw [e] at h; exact h.elim
  | ok kvs S1 =>
    rw [e] at h
    have h3 : okR C hid ρ H (if kvs.length ≤ 15 then mkD bx (mergeD [] kvs) S1 else .bad) (PostE C hid Q) (xOut C hid W) := h
    split at h3
    · rename_i hz
      refine h2 ρ (p :: hid) (upd H p (.dK [])) S env σ (fun _ _ _ _ => True) _ (s.hide hp) (n.hide hp) ⟨kvs, S1, e, fun ρ' H' ws x s' r => ?_⟩
      have mem : p ∈ p :: hid := List.mem_cons_self
      have nR := s.freshR hp
      have hD := x.keep p _ upd_same nR nt_dK
      refine ⟨hD, ws, rfl, by rw [← r.length]; exact hz, ?_⟩
      have hl2 := length_mergeK ws []
      have hws : ws.length ≤ 15 := by rw [← r.length]; exact hz
      have hsz : (15 : Nat) ≤ sizeLine := by decide
      simp only [List.length_nil, Nat.zero_add] at hl2
      have x0 : Ext ρ H ρ' H' := ⟨x.pre, fun a o q nn t => x.keep a o (by rw [upd_ne (ne_of_none q hp)]; exact q) nn t, fun a o q nn => x.stay a o (by rw [upd_ne (ne_of_none q hp)]; exact q) nn, fun a ha => by
        rcases x.new a ha with q | q
        · exact .inl q
        · by_cases ea : a = p
          · subst ea; exact .inr hp
          · rw [upd_ne ea] at q; exact .inr q⟩
      exact dic_end (x0.turn hp) hp (s'.turn mem) (s.freshH hp) upd_same (by omega) (mergeD_ok (r.turn mem) .nil) h3
    · exact h3.elim
theorem ev_dic0 {bx : Bool} : PE X (.Dict [] [] pos) (tE C W call (fun _ _ S => mkD bx [] S)) := pe_dnewK.imp fun σ H Q ⟨ρ, hid, S, env, s, n, h⟩ p hp => by
  refine dic_end (ρ := ρ) (hid := hid) (H := upd H p (.dK [])) (.laid hp) hp (s.hide hp) (s.freshH hp) upd_same (Nat.zero_le _) .nil h
end
end Ev

set_option Elab.async false
set_option linter.all false
set_option maxRecDepth 100000
set_option maxHeartbeats 2000000
/-! Ev, part 17: comprehensions over dicts, with two fors. -/
namespace Ev
open PySem PySem.Spec PyProof.Rows L2

def keyD : Key → D
  | .inl i => .int i
  | .inr x => .str x
def keyS : Key → Bool
  | .inl _ => true
  | .inr x => decide (x.length ≤ sizeLine)
/-- a name's value is walked; a dict's keys, while it is locked -/
def cSrcN (i : Nat) : EI := fun _ env S => match env[i]? with
  | some (some d) => match d with
    | .dic kvs => if kvs.length ≤ sizeLine ∧ (kvs.all fun kv => keyS kv.1) = true then .ok (.frz (kvs.map fun kv => keyD kv.1)) S else .bad
    | d => srcOf d S
  | _ => .bad
section
variable {C : Cfg} {ρ ρ' hid : List Addr} {H H' : Hp} {S : Sto}
theorem RlKv.keys : ∀ {kvs : List (Key × D)} {ws : List (Key × V)}, RlKv C ρ hid H kvs ws → kvs.map (·.1) = ws.map (·.1)
  | _, _, .nil => rfl
  | _, _, .cons _ r => by rw [List.map_cons, List.map_cons, RlKv.keys r]
/-- the dict at a is locked -/
def okK (C : Cfg) (a : Addr) (o : Obj) (ws : List (Key × V)) : List Addr → List Addr → Hp → Prop := fun ρ hid H => H a = some (.frz o (.dK ws)) ∧ Fz ρ hid a
theorem staK {a : Addr} {o : Obj} {ws : List (Key × V)} : Sta (okK C a o ws) :=
  ⟨fun ρ hid H ρ' H' e h => ⟨e.keep _ _ h.1 h.2.1 (fun _ z => nomatch z), e.fz h.1 h.2⟩, fun ρ hid H p u hp h => ⟨by rw [upd_ne (ne_of_none h.1 hp)]; exact h.1, h.2.1, fun q => by rcases List.mem_cons.mp q with q | q; exact ne_of_none h.1 hp q; exact h.2.2 q⟩,
    fun ρ hid H p u hp h => ⟨by rw [upd_ne (fun e => h.2.2 (by rw [e]; exact hp))]; exact h.1, h.2⟩⟩
theorem key_rl {k : Key} (h : keyS k = true) : Rl C ρ hid H (keyD k) (kV k) := by
  cases k with
  | inl i => exact .int i
  | inr x => exact .str x (by simpa [keyS] using h)
theorem walkAt_keys {a : Addr} {o : Obj} {kvs : List (Key × D)} {ws : List (Key × V)} (ho : H a = some (.frz o (.dK ws))) (fz : Fz ρ hid a) (hk : kvs.map (·.1) = ws.map (·.1)) (hz : kvs.length ≤ sizeLine) (hs : (kvs.all fun kv => keyS kv.1) = true) :
    WalkAt C hid ρ H (Itk a o ws) (.frz (kvs.map fun kv => keyD kv.1)) := by
  have hl : kvs.length = ws.length := by have := congrArg List.length hk; simpa using this
  refine ⟨by rw [List.length_map]; exact hz, okK C a o ws, staK, ⟨ho, fz⟩, fun ρ' hid' H' S i h s => ⟨fun hi => ?_, fun hi => ⟨h.1, by rw [List.length_map, hl] at hi; exact hi⟩⟩⟩
  rw [List.length_map] at hi
  refine ⟨⟨h.1, by omega⟩, fun x H'' y => ?_⟩
  obtain ⟨rfl, k, v, e, rfl⟩ := y
  have e2 : (kvs.map (·.1))[i]? = some k := by rw [hk, List.getElem?_map, e]; rfl
  rw [List.getElem?_map] at e2
  obtain ⟨kv, e3, e4⟩ := Option.map_eq_some_iff.mp e2
  refine ⟨.refl, s, keyD k, by rw [List.getElem?_map, e3]; simp [e4], ?_⟩
  have := List.all_eq_true.mp hs kv (List.mem_of_getElem? e3)
  rw [e4] at this
  exact key_rl this
/-- the same things stand, one of them locked perhaps -/
structure Same (H H' : Hp) : Prop where
  lst : ∀ b vs, Rd H b (.lst vs) → Rd H' b (.lst vs)
  tup : ∀ b vs, H b = some (.tup vs) → H' b = some (.tup vs)
  tupF : ∀ b vs, TupT H b vs → TupT H' b vs
  dic : ∀ b ws, Rd H b (.dK ws) → Rd H' b (.dK ws)
  nx : ∀ b u, H b = some u → ¬ NX u → H' b = some u
  xd : ∀ b ws, H b = some (.xd ws) → H' b = some (.xd ws)
theorem not_nx_ext {φ : Heap → Prop} : ¬ NX (.ext φ) := fun n => n.1 φ rfl
theorem not_nx_xo {cls : Value} {d : Option Addr} {a : Addr} : ¬ NX (XO cls d a) := not_nx_ext
mutual
theorem Rl.same (e : Same H H') : ∀ {d : D} {v : V}, Rl C ρ hid H d v → Rl C ρ hid H' d v
  | _, _, .non => .non
  | _, _, .bl b => .bl b
  | _, _, .int i => .int i
  | _, _, .str x h => .str x h
  | _, _, .tup h r => .tup (h.imp (fun h => ⟨⟨e.tupF _ _ h.1.1, h.1.2⟩, h.2⟩) id) (RlAll.same e r)
  | _, _, .pr h n r => .pr (e.tup _ _ h) n (RlAll.same e r)
  | _, _, .scr h r => .scr (h.imp (fun h => ⟨⟨e.lst _ _ h.1.1, h.1.2⟩, h.2⟩) id) (RlAll.same e r)
  | _, _, .lst h r => .lst ⟨⟨e.lst _ _ h.1.1, h.1.2⟩, h.2⟩ (RlAll.same e r)
  | _, _, .dic h n r => .dic (e.dic _ _ h) n (RlKv.same e r)
  | _, _, .ref h => .ref h
  | _, _, .fn f => .fn f
  | _, _, .ty n => .ty n
  | _, _, .cls c z => .cls c z
  | _, _, .exc0 z h n => .exc0 z (e.nx _ _ h not_nx_xo) n
  | _, _, .exc1 z h n h2 n2 hn r => .exc1 z (e.nx _ _ h not_nx_xo) n (e.xd _ _ h2) n2 hn (RlAll.same e r)
theorem RlAll.same (e : Same H H') : ∀ {d : List D} {v : List V}, RlAll C ρ hid H d v → RlAll C ρ hid H' d v
  | _, _, .nil => .nil
  | _, _, .cons h r => .cons (Rl.same e h) (RlAll.same e r)
theorem RlKv.same (e : Same H H') : ∀ {d : List (Key × D)} {v : List (Key × V)}, RlKv C ρ hid H d v → RlKv C ρ hid H' d v
  | _, _, .nil => .nil
  | _, _, .cons h r => .cons (Rl.same e h) (RlKv.same e r)
end
theorem same_lock {a : Addr} {ws : List (Key × V)} {o : Obj} (h : H a = some (.dK ws)) : Same H (upd H a (.frz o (.dK ws))) := by
  refine ⟨fun b vs r => ?_, fun b vs r => ?_, fun b vs ⟨us, r⟩ => ⟨us, by rw [upd_ne (fun e => by subst e; rw [h] at r; cases r)]; exact r⟩, fun b us r => ?_, fun b u r n => by rw [upd_ne (fun e => by subst e; rw [h] at r; cases r; exact n ⟨(fun _ z => nomatch z), (fun _ z => nomatch z)⟩)]; exact r, fun b ws' r => by rw [upd_ne (fun e => by subst e; rw [h] at r; cases r)]; exact r⟩
  · refine Rd.upd r fun e => ?_
    subst e
    rcases r with r | ⟨_, r⟩ <;> (rw [h] at r; cases r)
  · rw [upd_ne (fun e => by subst e; rw [h] at r; cases r)]
    exact r
  · by_cases e : b = a
    · subst e
      rcases r with r | ⟨_, r⟩
      · rw [h] at r; cases r; exact .inr ⟨o, upd_same⟩
      · rw [h] at r; cases r
    · exact Rd.upd r e
theorem same_unlock {a : Addr} {ws : List (Key × V)} {o : Obj} (h : H a = some (.frz o (.dK ws))) : Same H (upd H a (.dK ws)) := by
  refine ⟨fun b vs r => ?_, fun b vs r => ?_, fun b vs ⟨us, r⟩ => ⟨us, by rw [upd_ne (fun e => by subst e; rw [h] at r; cases r)]; exact r⟩, fun b us r => ?_, fun b u r n => by rw [upd_ne (fun e => by subst e; rw [h] at r; cases r; exact n ⟨(fun _ z => nomatch z), (fun _ z => nomatch z)⟩)]; exact r, fun b ws' r => by rw [upd_ne (fun e => by subst e; rw [h] at r; cases r)]; exact r⟩
  · refine Rd.upd r fun e => ?_
    subst e
    rcases r with r | ⟨_, r⟩ <;> (rw [h] at r; cases r)
  · rw [upd_ne (fun e => by subst e; rw [h] at r; cases r)]
    exact r
  · by_cases e : b = a
    · subst e
      rcases r with r | ⟨_, r⟩
      · rw [h] at r; cases r
      · rw [h] at r; cases r; exact .inl upd_same
    · exact Rd.upd r e
theorem StoOk.same (s : StoOk C hid ρ H S) (e : Same H H') (k : ∀ b ∈ ρ, H' b = H b) (k2 : ∀ b ∈ hid, ∃ o, H' b = some o ∧ NX o) : StoOk C hid ρ H' S := by
  refine ⟨s.len, s.nd, fun l b o h1 h2 => ?_, fun b m => ⟨k2 b m, (s.hidT b m).2⟩, s.gr.kept e.nx⟩
  have q := s.obj l b o h1 h2
  have eb := k b (List.mem_of_getElem? h1)
  cases o with
  | lst ds => obtain ⟨vs, e1, z, r⟩ := q; exact ⟨vs, by rw [eb]; exact e1, z, r.same e⟩
  | dic ds => obtain ⟨vs, e1, z, r⟩ := q; exact ⟨vs, by rw [eb]; exact e1, z, r.same e⟩
  | hid => obtain ⟨u, e1, n1⟩ := q; exact ⟨u, by rw [eb]; exact e1, n1⟩
theorem EnvOk.same {env : Env'} {σ : L2.St} (n : EnvOk C ρ hid H env σ) (e : Same H H') : EnvOk C ρ hid H' env σ := ⟨n.1, fun i d h => let ⟨v, h1, h2⟩ := n.2 i d h; ⟨v, h1, h2.same e⟩⟩
theorem StoOk.lock {a : Addr} {ws : List (Key × V)} {o : Obj} (s : StoOk C hid ρ H S) (h : H a = some (.dK ws)) (fz : Fz ρ hid a) : StoOk C hid ρ (upd H a (.frz o (.dK ws))) S :=
  s.same (same_lock h) (fun b m => upd_ne (fun e => fz.1 (by rw [← e]; exact m))) fun b m => by rw [upd_ne (fun e => fz.2 (by rw [← e]; exact m))]; exact (s.hidT b m).1
theorem StoOk.unlock {a : Addr} {ws : List (Key × V)} {o : Obj} (s : StoOk C hid ρ H S) (h : H a = some (.frz o (.dK ws))) (fz : Fz ρ hid a) : StoOk C hid ρ (upd H a (.dK ws)) S :=
  s.same (same_unlock h) (fun b m => upd_ne (fun e => fz.1 (by rw [← e]; exact m))) fun b m => by rw [upd_ne (fun e => fz.2 (by rw [← e]; exact m))]; exact (s.hidT b m).1
/-- what runs while the dict is locked -/
theorem lock_run {a : Addr} {ws : List (Key × V)} {o : Obj} {r : R D} {Q : VK} {XX : XP} (s : StoOk C hid ρ H S) (h : H a = some (.dK ws)) (fz : Fz ρ hid a) (hx : ∀ c fs en S', r ≠ .exc c fs en S') (q : okR C hid ρ H r (PostE C hid Q) XX) :
    okR C hid ρ (upd H a (.frz o (.dK ws))) r (PostE C hid fun v H' => H' a = some (.frz o (.dK ws)) ∧ Q v (upd H' a (.dK ws))) (fun _ _ _ _ _ _ => False) := by
  cases r with
  | bad => exact q
  | exc c fs en S' => exact (hx _ _ _ _ rfl).elim
  | ok d S' =>
    intro ρ' H' e s' v rv
    have ha : H' a = some (.frz o (.dK ws)) := e.keep _ _ upd_same fz.1 (fun _ z => nomatch z)
    have fz' : Fz ρ' hid a := e.fz upd_same fz
    have e2 : Ext ρ H ρ' (upd H' a (.dK ws)) := by
      refine ⟨e.pre, fun b u hb nb t => ?_, fun b u hb nb => ?_, fun b m => ?_⟩
      · by_cases eb : b = a
        · subst eb; rw [h] at hb; cases hb; exact upd_same
        · rw [upd_ne eb]; exact e.keep b u (by rw [upd_ne eb]; exact hb) nb t
      · by_cases eb : b = a
        · subst eb; exact ⟨_, upd_same⟩
        · rw [upd_ne eb]; exact e.stay b u (by rw [upd_ne eb]; exact hb) nb
      · rcases e.new b m with z | z
        · exact .inl z
        · by_cases eb : b = a
          · subst eb; rw [upd_same] at z; cases z
          · rw [upd_ne eb] at z; exact .inr z
    exact ⟨ha, q ρ' _ e2 (s'.unlock ha fz') v (rv.same (same_unlock ha))⟩
end
/-- a comprehension as a value, and stored under a name on one line -/
structure LcP (X : Cx) (e : Expr) (te : TE) : Prop where
  pe : PE X e te
  ps : ∀ (i : Nat) (y : Str) (py spos : Pos), X.N[i]? = some y → X.env.scope.names.lookup y = some .local → swapsWith e (some (.Name y py)) spos.line X.env = pure true → PS X (.Assign [.Name y py] e spos) (tAsg te (gName i))
section
variable {X : Cx} {e : Expr} {te te' : TE}
theorem LcP.imp (h : LcP X e te) (i : ∀ σ H Q, te' σ H Q → te σ H Q) : LcP X e te' := ⟨h.pe.imp i, fun j y py spos h1 h2 h3 => (h.ps j y py spos h1 h2 h3).imp fun D σ H q => i _ _ _ q⟩
theorem LcP.or (h : LcP X e te) (h' : LcP X e te') : LcP X e (fun σ H Q => te σ H Q ∨ te' σ H Q) := ⟨h.pe.or h'.pe, fun j y py spos h1 h2 h3 =>
  ⟨fun pins s σ H D I q => q.elim ((h.ps j y py spos h1 h2 h3).run pins s σ H D I) ((h'.ps j y py spos h1 h2 h3).run pins s σ H D I)⟩⟩
theorem LcP.lock (h : LcP X e te) : LcP X e (tLockE te) := ⟨pe_lock h.pe, fun j y py spos h1 h2 h3 => (ps_lock (h.ps j y py spos h1 h2 h3)).imp fun D σ H q => q⟩
end
section
variable {X : Cx} {C : Cfg} {W : WX} {call : Call}
theorem noExc_no {α : Type} {r : R α} {c : Nat} {fs : List (Str × D)} {en : Env'} {S' : Sto} : noExc r ≠ .exc c fs en S' := by
  cases r <;> simp [noExc]
theorem mkL_no {bx : Bool} {ds : List D} {S : Sto} {c : Nat} {fs : List (Str × D)} {en : Env'} {S' : Sto} : mkL bx ds S ≠ .exc c fs en S' := by
  cases bx <;> simp [mkL]
theorem lcRun_no {tg : Tg} {ft : EB} {fe : EE} {env : Env'} {src : Src} {S : Sto} {c : Nat} {fs : List (Str × D)} {en : Env'} {S' : Sto} : lcRun call tg ft fe env src S ≠ .exc c fs en S' := by
  cases src <;> exact noExc_no
theorem lcN_no {bx : Bool} {tg : Tg} {vs : List Nat} {ft : EB} {fe : EE} {items : List D} {env : Env'} {S : Sto} {c : Nat} {fs : List (Str × D)} {en : Env'} {S' : Sto} :
    ((lcRun call tg ft fe (wipeD env vs) (.frz items) S).bind fun ds S2 => mkL bx ds S2) ≠ .exc c fs en S' := by
  intro h
  cases q : lcRun call tg ft fe (wipeD env vs) (.frz items) S with
  | bad => rw [q] at h; cases h
  | exc => exact lcRun_no q
  | ok ds S2 => rw [q] at h; exact mkL_no h
/-- the dict is locked -/
theorem lcK {bx : Bool} {tg : Tg} {vs : List Nat} {ft : EB} {fe : EE} {i : Nat} {ρ hid : List Addr} {H : Hp} {S : Sto} {env : Env'} {σ : L2.St} {Q : VK} {kvs : List (Key × D)} {ws : List (Key × V)} {a : Addr} {o : Obj} {W' : WX} (hs : ∀ j ∈ slots tg, j ∈ vs) (s : StoOk C hid ρ H S) (n : EnvOk C ρ hid H env σ)
    (hv : σ[i]? = some (some (.ref a))) (ha : H a = some (.frz o (.dK ws))) (fz : Fz ρ hid a) (r : RlKv C ρ hid H kvs ws) (hz : kvs.length ≤ sizeLine) (hks : (kvs.all fun kv => keyS kv.1) = true)
    (h : okR C hid ρ H ((lcRun call tg ft fe (wipeD env vs) (.frz (kvs.map fun kv => keyD kv.1)) S).bind fun ds S2 => mkL bx ds S2) (PostE C hid Q) (xOut C hid W')) : tLc (iKeys (tVar i)) (gOf C.K tg) (tT C W0 call ft) (tE C W0 call fe) vs σ H Q := by
  have h' : okR C hid ρ H (cLc bx tg vs ft fe (fun _ _ S => .ok (.frz (kvs.map fun kv => keyD kv.1)) S) call env S) (PostE C hid Q) (xOut C hid W') := h
  have q := lc_core hs n h'
  refine ⟨.ref a, hv, a, o, rfl, .inl ⟨ws, ha, ?_⟩⟩
  exact okR.here q s _ (walkAt_keys ha fz r.keys hz hks)
theorem lcP1 {elt tge iter : Expr} {ifs : List Expr} {scope : Scope} {own : List (Str × Nat)} {pos : Pos} {wi : TI} {gt : TG} {tt : TT} {te : TE} (hc : X.calm = true) (hN : X.N.Nodup) (hi : PI X tge iter wi) (ok : BlkOk X.N X.env.scope scope own)
    (hg : ∀ (s : Shared) (H : Hp) (Cc : Addr) (cl : List (Str × Addr)) (fp : List Addr), PG (X.blk s H scope (compEnvC scope cl Cc X.env) fp) tge gt)
    (ht : ∀ (s : Shared) (H : Hp) (Cc : Addr) (cl : List (Str × Addr)) (fp : List Addr), PTs (X.blk s H scope (compEnvC scope cl Cc X.env) fp) ifs tt)
    (he : ∀ (s : Shared) (H : Hp) (Cc : Addr) (cl : List (Str × Addr)) (fp : List Addr), PE (X.blk s H scope (compEnvC scope cl Cc X.env) fp) elt te) (hs : ∀ x, foldedSetIterable iter X.env x = pure x) :
    LcP X (.ListComp elt [⟨tge, iter, ifs, 0⟩] scope pos) (tLc wi gt tt te (own.map (·.2))) :=
  ⟨pe_lc hc hN hi ok hg ht he hs, fun i y py spos hy hyl hsw => ps_setLc hc hN hy hyl hsw hi ok hg ht he hs⟩
theorem lcN_step {bx : Bool} {tg : Tg} {vs : List Nat} {ft : EB} {fe : EE} {i : Nat} (hs : ∀ j ∈ slots tg, j ∈ vs) : ∀ σ H Q, tE C W call (cLc bx tg vs ft fe (cSrcN i)) σ H Q →
    tLc (tI C W call (cSrc (cVar i))) (gOf C.K tg) (tT C W0 call ft) (tE C W0 call fe) vs σ H Q ∨ (tLc (iKeys (tVar i)) (gOf C.K tg) (tT C W0 call ft) (tE C W0 call fe) vs σ H Q ∨ tLockE (tLc (iKeys (tVar i)) (gOf C.K tg) (tT C W0 call ft) (tE C W0 call fe) vs) σ H Q) := by
  intro σ H Q ⟨ρ, hid, S, env, s, n, h⟩
  cases e : env[i]? with
  | none => simp only [cLc, cSrcN, e] at h; exact h.elim
  | some od =>
    cases od with
    | none => simp only [cLc, cSrcN, e] at h; exact h.elim
    | some d =>
      have gen : (∀ kvs, d ≠ .dic kvs) → tLc (tI C W call (cSrc (cVar i))) (gOf C.K tg) (tT C W0 call ft) (tE C W0 call fe) vs σ H Q := fun nd => by
        refine lc_step (bx := bx) hs σ H Q ⟨ρ, hid, S, env, s, n, ?_⟩
        have e2 : cSrcN i call env S = cSrc (cVar i) call env S := by
          unfold cSrcN cSrc cVar
          rw [e]
          cases d <;> first | rfl | exact (nd _ rfl).elim
        unfold cLc at h ⊢
        rw [← e2]
        exact h
      cases d with
      | dic kvs =>
        simp only [cLc, cSrcN, e] at h
        split at h
        · rename_i hc
          obtain ⟨v, hv, rv⟩ := n.2 i _ e
          cases rv with
          | dic hA fz r =>
            rename_i a ws
            have h : okR C hid ρ H ((lcRun call tg ft fe (wipeD env vs) (.frz (kvs.map fun kv => keyD kv.1)) S).bind fun ds S2 => mkL bx ds S2) (PostE C hid Q) (xOut C hid W) := h
            rcases hA with hA | ⟨o, hA⟩
            · refine .inr (.inr ⟨a, .dK ws, hA, trivial, fun od => ?_⟩)
              have q := (lock_run (o := od) s hA fz (fun c fs en S' => lcN_no) h).imp (X' := xOut C hid W) (fun _ _ _ _ _ _ q => q) fun _ _ _ _ _ _ _ _ q => q.elim
              exact lcK hs (s.lock hA fz) (n.same (same_lock hA)) hv upd_same fz (r.same (same_lock hA)) hc.1 hc.2 q
            · exact .inr (.inl (lcK hs s n hv hA fz r hc.1 hc.2 h))
        · exact h.elim
      | _ => exact .inl (gen (by intros; simp))
end
end Ev

set_option Elab.async false
set_option linter.all false
set_option maxRecDepth 100000
set_option maxHeartbeats 2000000
/-! Ev, part 18: comprehensions with two fors. -/
namespace Ev
open PySem PySem.Spec PyProof.Rows L2

def lc2L (call : Call) (tg : Tg) (ft : EB) (fi1 : EI) (tg1 : Tg) (vs1 : List Nat) (ft1 : EB) (fe : EE) (env : Env') : List D → List D → Sto → R (List D)
  | [], acc, S => .ok acc S
  | d :: r, acc, S => match bindT tg d env with
    | none => .bad
    | some env1 => (ft call env1 S).bind fun b S1 => if b then (fi1 call env1 S1).bind fun src S2 => match src with
        | .frz items => (lcL call tg1 ft1 fe (wipeD env1 vs1) items acc S2).bind fun acc' S3 => lc2L call tg ft fi1 tg1 vs1 ft1 fe env r acc' S3
        | .box l => (lcB call tg1 ft1 fe (wipeD env1 vs1) l turnsMost 0 acc S2).bind fun acc' S3 => lc2L call tg ft fi1 tg1 vs1 ft1 fe env r acc' S3
      else lc2L call tg ft fi1 tg1 vs1 ft1 fe env r acc S1
def lc2Run (call : Call) (tg : Tg) (ft : EB) (fi1 : EI) (tg1 : Tg) (vs1 : List Nat) (ft1 : EB) (fe : EE) (env : Env') (src : Src) (S : Sto) : R (List D) := match src with
  | .frz items => noExc ((lc2L call tg ft fi1 tg1 vs1 ft1 fe env items [] S).bind fun ds S' => if ds.length < sizeLine then .ok ds S' else .bad)
  | .box _ => .bad
def cLc2 (bx : Bool) (tg : Tg) (vs : List Nat) (ft : EB) (fi1 : EI) (tg1 : Tg) (vs1 : List Nat) (ft1 : EB) (fe : EE) (fi : EI) : EE := fun call env S => (fi call env S).bind fun src S1 => (lc2Run call tg ft fi1 tg1 vs1 ft1 fe (wipeD env vs) src S1).bind fun ds S2 => mkL bx ds S2
section
variable {X : Cx} {C : Cfg} {W : WX} {call : Call} {tg tg1 : Tg} {vs vs1 : List Nat} {ft ft1 : EB} {fi fi1 : EI} {fe : EE}
theorem R.bind_ok' {α β : Type} {r : R α} {k : α → Sto → R β} {b : β} {S : Sto} (h : r.bind k = .ok b S) : ∃ a S', r = .ok a S' ∧ k a S' = .ok b S := by
  cases r with
  | ok a S' => exact ⟨a, S', rfl, h⟩
  | exc => cases h
  | bad => cases h
theorem lcL_more {env : Env'} : ∀ {items acc : List D} {S SF : Sto} {ds : List D}, lcL call tg1 ft1 fe env items acc S = .ok ds SF → acc.length ≤ ds.length
  | [], acc, S, SF, ds, h => by simp only [lcL] at h; cases h; exact Nat.le_refl _
  | d :: r, acc, S, SF, ds, h => by
    simp only [lcL] at h
    split at h
    · cases h
    · obtain ⟨b, S1, _, h⟩ := R.bind_ok' h
      split at h
      · obtain ⟨y, S2, _, h⟩ := R.bind_ok' h
        have := lcL_more h
        rw [List.length_append] at this
        omega
      · exact lcL_more h
theorem lcB_more {env : Env'} {l : Nat} : ∀ {n i : Nat} {acc : List D} {S SF : Sto} {ds : List D}, lcB call tg1 ft1 fe env l n i acc S = .ok ds SF → acc.length ≤ ds.length
  | 0, _, _, _, _, _, h => by simp [lcB] at h
  | n + 1, i, acc, S, SF, ds, h => by
    simp only [lcB] at h
    split at h
    · split at h
      · cases h; exact Nat.le_refl _
      · split at h
        · cases h
        · obtain ⟨b, S1, _, h⟩ := R.bind_ok' h
          split at h
          · obtain ⟨y, S2, _, h⟩ := R.bind_ok' h
            have := lcB_more h
            rw [List.length_append] at this
            omega
          · exact lcB_more h
    · cases h
theorem lc2L_more {env : Env'} : ∀ {items acc : List D} {S SF : Sto} {ds : List D}, lc2L call tg ft fi1 tg1 vs1 ft1 fe env items acc S = .ok ds SF → acc.length ≤ ds.length
  | [], acc, S, SF, ds, h => by simp only [lc2L] at h; cases h; exact Nat.le_refl _
  | d :: r, acc, S, SF, ds, h => by
    simp only [lc2L] at h
    split at h
    · cases h
    · obtain ⟨b, S1, _, h⟩ := R.bind_ok' h
      split at h
      · obtain ⟨src, S2, _, h⟩ := R.bind_ok' h
        split at h
        · obtain ⟨acc', S3, h1, h⟩ := R.bind_ok' h
          exact Nat.le_trans (lcL_more h1) (lc2L_more h)
        · obtain ⟨acc', S3, h1, h⟩ := R.bind_ok' h
          exact Nat.le_trans (lcB_more h1) (lc2L_more h)
      · exact lc2L_more h
theorem LcAt.re {ρ1 hid : List Addr} {H1 : Hp} {Dp : Addr} {envw : Env'} {σw : L2.St} {i : Nat} {ρ : List Addr} {H : Hp} {S : Sto} {acc : List D} {accV : List V} (A : LcAt C ρ1 hid H1 Dp envw σw i ρ H S acc accV) : LcAt C ρ1 hid H1 Dp envw σw accV.length ρ H S acc accV :=
  ⟨A.ext, A.sto, A.env, A.at_, Nat.le_refl _, A.size, A.acc⟩
theorem LcAt.nextE {ρ1 hid : List Addr} {H1 : Hp} {Dp : Addr} {envw : Env'} {σw : L2.St} {i : Nat} {ρ ρ' : List Addr} {H H' : Hp} {S S' : Sto} {acc : List D} {accV : List V} (A : LcAt C ρ1 hid H1 Dp envw σw i ρ H S acc accV)
    (e : Ext ρ H ρ' H') (s : StoOk C (Dp :: hid) ρ' H' S') : LcAt C ρ1 hid H1 Dp envw σw i ρ' H' S' acc accV :=
  ⟨A.ext.trans e, s, A.env.ext e, e.keep _ _ A.at_ (A.sto.hidT Dp List.mem_cons_self).2 nt_lst, A.few, A.size, A.acc.ext e⟩
theorem lc2_core {bx : Bool} {ρ hid : List Addr} {H : Hp} {S : Sto} {env : Env'} {σ : L2.St} {Q : VK} (hs : ∀ j ∈ slots tg, j ∈ vs) (hs1 : ∀ j ∈ slots tg1, j ∈ vs1) (n : EnvOk C ρ hid H env σ)
    (h : okR C hid ρ H (cLc2 bx tg vs ft fi1 tg1 vs1 ft1 fe fi call env S) (PostE C hid Q) (xOut C hid W)) :
    okR C hid ρ H (fi call env S) (fun src _ ρ1 H1 => ∀ J, WalkAt C hid ρ1 H1 J src → tLc2 (fun _ H R => R J H) (gOf C.K tg) (tT C W0 call ft) (tI C W0 call fi1) (gOf C.K tg1) (tT C W0 call ft1) (tE C W0 call fe) vs vs1 σ H1 Q) (xOut C hid W) := by
  refine (okR.bind h).imp (fun src S1 ρ1 H1 e1 s1 h1 J wk => ?_) fun _ _ _ _ _ _ _ _ q => q
  intro Dp hDp
  have n1 := n.ext e1
  have hf := s1.freshH hDp
  have ww : ∀ ws, (∀ j ∈ vs, j ∈ ws) → wipe (wipe σ vs) ws = wipe σ ws := fun ws h => by
    apply List.ext_getElem?
    intro j
    rw [wipe_get, wipe_get, wipe_get, wipe_length]
    by_cases m : j ∈ ws
    · simp [m]
    · simp only [m, if_false]
      rw [if_neg (fun q => m (h j q))]
  cases src with
  | box l => exact h1.elim
  | frz items =>
    cases q : lc2Run call tg ft fi1 tg1 vs1 ft1 fe (wipeD env vs) (.frz items) S1 with
    | bad => rw [q] at h1; exact h1.elim
    | exc c fs en S2 => exact (noExc_no q).elim
    | ok dsF SF =>
      rw [q] at h1
      have fin : okR C hid ρ1 H1 (mkL bx dsF SF) (PostE C hid Q) (xOut C hid W) := h1
      obtain ⟨dsF', SF', q1, q2⟩ := R.bind_ok' (noExc_ok q)
      split at q2
      · rename_i hsz2
        cases q2
        obtain ⟨hsz, ok, sta, ok0, step⟩ := wk
        refine ⟨fun i m H => m = items.length - i ∧ i ≤ items.length ∧ ∃ ρ S acc accV, LcAt C ρ1 hid H1 Dp (wipeD env vs) (wipe σ vs) accV.length ρ H S acc accV ∧ ok ρ (Dp :: hid) H ∧ lc2L call tg ft fi1 tg1 vs1 ft1 fe (wipeD env vs) (items.drop i) acc S = .ok dsF SF,
          ⟨items.length, rfl, Nat.zero_le _, ρ1, S1, [], [], LcAt.start s1 n1 hDp vs, sta.hide _ _ _ _ _ hDp ok0, q1⟩, ?_⟩
        rintro i m H2 ⟨rfl, hi, ρ2, S2, acc, accV, A, ok2, run⟩
        obtain ⟨go, stop⟩ := step ρ2 (Dp :: hid) H2 S2 i ok2 A.sto
        by_cases hlt : i < items.length
        · obtain ⟨g1, g2⟩ := go hlt
          refine .inr ⟨g1, fun H' => ∃ m', m' < items.length - i ∧ (m' = items.length - (i + 1) ∧ i + 1 ≤ items.length ∧ ∃ ρ S acc accV, LcAt C ρ1 hid H1 Dp (wipeD env vs) (wipe σ vs) accV.length ρ H' S acc accV ∧ ok ρ (Dp :: hid) H' ∧ lc2L call tg ft fi1 tg1 vs1 ft1 fe (wipeD env vs) (items.drop (i + 1)) acc S = .ok dsF SF), fun H' z => z, fun x H' y => ?_⟩
          obtain ⟨ey, sy, d, hd, rd⟩ := g2 x H' y
          have ed : items.drop i = d :: items.drop (i + 1) := by
            rw [List.drop_eq_getElem_cons hlt]
            have : items[i]? = some items[i] := List.getElem?_eq_getElem hlt
            rw [hd] at this
            rw [← Option.some.inj this]
          rw [ed] at run
          simp only [lc2L] at run
          cases hb : bindT tg d (wipeD env vs) with
          | none => rw [hb] at run; cases run
          | some env1 =>
            rw [hb] at run
            have Ay := A.nextE ey sy
            refine bind_ok tg rd Ay.env hb fun σ2 n2 o2 => ⟨(o2 vs hs).trans (ww vs fun _ z => z), ?_⟩
            obtain ⟨b, S3, qb, run⟩ := R.bind_ok' run
            refine ⟨ρ2, Dp :: hid, S2, env1, sy, n2, ?_⟩
            rw [qb]
            intro ρ3 H3 e3 s3
            have A3 := Ay.nextE e3 s3
            have ok3 := sta.ext _ _ _ _ _ (ey.trans e3) ok2
            cases b with
            | false => exact ⟨items.length - (i + 1), by omega, rfl, hlt, ρ3, S3, acc, accV, A3, ok3, run⟩
            | true =>
              simp only [if_true] at run ⊢
              obtain ⟨src1, S4, q4, run⟩ := R.bind_ok' run
              refine ⟨ρ3, Dp :: hid, S3, env1, s3, n2.ext e3, ?_⟩
              rw [q4]
              intro ρ4 H4 e4 s4 J1 wk1
              cases src1 with
              | box l =>
                simp only at run
                obtain ⟨la, hla, rfl⟩ := wk1
                have A4 := A3.nextE e4 s4
                have ok4 := sta.ext _ _ _ _ _ e4 ok3
                refine ⟨fun j m H => ∃ ρ S acc accV, ρ[l]? = some la ∧ LcAt C ρ1 hid H1 Dp (wipeD env vs) (wipe σ vs) accV.length ρ H S acc accV ∧ ok ρ (Dp :: hid) H ∧ EnvOk C ρ (Dp :: hid) H (wipeD env1 vs1) (wipe σ2 vs1) ∧
                    ((lcB call tg1 ft1 fe (wipeD env1 vs1) l m j acc S).bind fun acc' S3 => lc2L call tg ft fi1 tg1 vs1 ft1 fe (wipeD env vs) (items.drop (i + 1)) acc' S3) = .ok dsF SF,
                  ⟨turnsMost, ρ4, S4, acc, accV, hla, A4, ok4, ((n2.ext e3).ext e4).wipe vs1, run⟩, ?_⟩
                rintro j m H5 ⟨ρ5, S5, acc5, accV5, e5, A5, ok5, n5, run5⟩
                have hz5 : accV5.length < sizeLine := by
                  obtain ⟨acc', S', r1, r2⟩ := R.bind_ok' run5
                  have := lcB_more r1
                  have := lc2L_more r2
                  have := A5.acc.length
                  omega
                cases m with
                | zero => simp only [lcB] at run5; cases run5
                | succ m =>
                  simp only [lcB] at run5
                  split at run5
                  · rename_i ds hds
                    have hl5 := e5
                    obtain ⟨ws, ha, hz, rds⟩ := A5.sto.obj l la _ hl5 hds
                    split at run5
                    · rename_i hnone
                      exact .inl ⟨⟨ws, SqL.of ha, by rw [← rds.length]; exact List.getElem?_eq_none_iff.mp hnone⟩, items.length - (i + 1), by omega, rfl, hlt, ρ5, S5, acc5, accV5, A5, ok5, run5⟩
                    · rename_i d1 hd1
                      obtain ⟨v1, hv1, rv1⟩ := rds.get hd1
                      refine .inr ⟨⟨ws, v1, SqL.of ha, hv1⟩, fun H' => ∃ m', m' < m + 1 ∧ ∃ ρ S acc accV, ρ[l]? = some la ∧ LcAt C ρ1 hid H1 Dp (wipeD env vs) (wipe σ vs) accV.length ρ H' S acc accV ∧ ok ρ (Dp :: hid) H' ∧ EnvOk C ρ (Dp :: hid) H' (wipeD env1 vs1) (wipe σ2 vs1) ∧
                        ((lcB call tg1 ft1 fe (wipeD env1 vs1) l m' (j + 1) acc S).bind fun acc' S3 => lc2L call tg ft fi1 tg1 vs1 ft1 fe (wipeD env vs) (items.drop (i + 1)) acc' S3) = .ok dsF SF, fun H' z => z, fun x1 H6 y1 => ?_⟩
                      obtain ⟨rfl, y1⟩ := y1
                      have y2 := y1 ws (SqL.of ha)
                      rw [hv1] at y2
                      cases y2
                      cases hb1 : bindT tg1 d1 (wipeD env1 vs1) with
                      | none => rw [hb1] at run5; cases run5
                      | some env2 =>
                        rw [hb1] at run5
                        dsimp only at run5
                        have run6 : ((ft1 call env2 S5).bind fun b S1 => if b then (fe call env2 S1).bind fun y S2 => (lcB call tg1 ft1 fe (wipeD env1 vs1) l m (j + 1) (acc5 ++ [y]) S2).bind fun acc' S3 => lc2L call tg ft fi1 tg1 vs1 ft1 fe (wipeD env vs) (items.drop (i + 1)) acc' S3
                            else (lcB call tg1 ft1 fe (wipeD env1 vs1) l m (j + 1) acc5 S1).bind fun acc' S3 => lc2L call tg ft fi1 tg1 vs1 ft1 fe (wipeD env vs) (items.drop (i + 1)) acc' S3) = .ok dsF SF := by
                          rw [← run5]
                          cases ft1 call env2 S5 with
                          | bad => rfl
                          | exc => rfl
                          | ok b T =>
                            cases b with
                            | false => rfl
                            | true =>
                              simp only [R.bind, if_true]
                              cases fe call env2 T <;> rfl
                        refine lc_turn (fun a S' => (lcB call tg1 ft1 fe (wipeD env1 vs1) l m (j + 1) a S').bind fun acc' S3 => lc2L call tg ft fi1 tg1 vs1 ft1 fe (wipeD env vs) (items.drop (i + 1)) acc' S3) hs1 A5.sto n5 A5.at_ hz5 A5.acc rv1 hb1 run6 fun ρ' H'' S' acc' accV' e s' hD' hl' r' run' => ?_
                        refine ⟨m, Nat.lt_succ_self _, ρ', S', acc', accV', ?_, (A5.next hDp .refl e s' hD' hl' hz5 r').re, ?_, ?_, run'⟩
                        · rcases e with e | ⟨H3', u, e, rfl⟩
                          · exact e.at e5
                          · exact e.at e5
                        · rcases e with e | ⟨H3', u, e, rfl⟩
                          · exact sta.ext _ _ _ _ _ e ok5
                          · exact sta.turn _ _ _ _ _ List.mem_cons_self (sta.ext _ _ _ _ _ e ok5)
                        · rcases e with e | ⟨H3', u, e, rfl⟩
                          · exact n5.ext e
                          · exact (n5.ext e).turn List.mem_cons_self
                  · cases run5
              | frz items1 =>
                simp only at run
                obtain ⟨hsz1, ok1, sta1, ok10, step1⟩ := wk1
                have A4 := A3.nextE e4 s4
                have ok4 := sta.ext _ _ _ _ _ e4 ok3
                refine ⟨fun j k H => k = items1.length - j ∧ j ≤ items1.length ∧ ∃ ρ S acc accV, LcAt C ρ1 hid H1 Dp (wipeD env vs) (wipe σ vs) accV.length ρ H S acc accV ∧ ok ρ (Dp :: hid) H ∧ ok1 ρ (Dp :: hid) H ∧ EnvOk C ρ (Dp :: hid) H (wipeD env1 vs1) (wipe σ2 vs1) ∧
                    ((lcL call tg1 ft1 fe (wipeD env1 vs1) (items1.drop j) acc S).bind fun acc' S3 => lc2L call tg ft fi1 tg1 vs1 ft1 fe (wipeD env vs) (items.drop (i + 1)) acc' S3) = .ok dsF SF,
                  ⟨items1.length, rfl, Nat.zero_le _, ρ4, S4, acc, accV, A4, ok4, ok10, ((n2.ext e3).ext e4).wipe vs1, run⟩, ?_⟩
                rintro j k H5 ⟨rfl, hj, ρ5, S5, acc5, accV5, A5, ok5, ok15, n5, run5⟩
                obtain ⟨go1, stop1⟩ := step1 ρ5 (Dp :: hid) H5 S5 j ok15 A5.sto
                by_cases hlt1 : j < items1.length
                · obtain ⟨g3, g4⟩ := go1 hlt1
                  refine .inr ⟨g3, fun H' => ∃ k', k' < items1.length - j ∧ (k' = items1.length - (j + 1) ∧ j + 1 ≤ items1.length ∧ ∃ ρ S acc accV, LcAt C ρ1 hid H1 Dp (wipeD env vs) (wipe σ vs) accV.length ρ H' S acc accV ∧ ok ρ (Dp :: hid) H' ∧ ok1 ρ (Dp :: hid) H' ∧ EnvOk C ρ (Dp :: hid) H' (wipeD env1 vs1) (wipe σ2 vs1) ∧
                      ((lcL call tg1 ft1 fe (wipeD env1 vs1) (items1.drop (j + 1)) acc S).bind fun acc' S3 => lc2L call tg ft fi1 tg1 vs1 ft1 fe (wipeD env vs) (items.drop (i + 1)) acc' S3) = .ok dsF SF), fun H' z => z, fun x1 H6 y1 => ?_⟩
                  obtain ⟨ey1, sy1, d1, hd1, rd1⟩ := g4 x1 H6 y1
                  have ed1 : items1.drop j = d1 :: items1.drop (j + 1) := by
                    rw [List.drop_eq_getElem_cons hlt1]
                    have : items1[j]? = some items1[j] := List.getElem?_eq_getElem hlt1
                    rw [hd1] at this
                    rw [← Option.some.inj this]
                  have hz5 : accV5.length < sizeLine := by
                    obtain ⟨acc', S', r1, r2⟩ := R.bind_ok' run5
                    have := lcL_more r1
                    have := lc2L_more r2
                    have := A5.acc.length
                    omega
                  rw [ed1] at run5
                  simp only [lcL] at run5
                  cases hb1 : bindT tg1 d1 (wipeD env1 vs1) with
                  | none => rw [hb1] at run5; cases run5
                  | some env2 =>
                    rw [hb1] at run5
                    dsimp only at run5
                    have A6 := A5.nextE ey1 sy1
                    have run6 : ((ft1 call env2 S5).bind fun b S1 => if b then (fe call env2 S1).bind fun y S2 => (lcL call tg1 ft1 fe (wipeD env1 vs1) (items1.drop (j + 1)) (acc5 ++ [y]) S2).bind fun acc' S3 => lc2L call tg ft fi1 tg1 vs1 ft1 fe (wipeD env vs) (items.drop (i + 1)) acc' S3
                        else (lcL call tg1 ft1 fe (wipeD env1 vs1) (items1.drop (j + 1)) acc5 S1).bind fun acc' S3 => lc2L call tg ft fi1 tg1 vs1 ft1 fe (wipeD env vs) (items.drop (i + 1)) acc' S3) = .ok dsF SF := by
                      rw [← run5]
                      cases ft1 call env2 S5 with
                      | bad => rfl
                      | exc => rfl
                      | ok b T =>
                        cases b with
                        | false => rfl
                        | true =>
                          simp only [R.bind, if_true]
                          cases fe call env2 T <;> rfl
                    refine lc_turn (fun a S' => (lcL call tg1 ft1 fe (wipeD env1 vs1) (items1.drop (j + 1)) a S').bind fun acc' S3 => lc2L call tg ft fi1 tg1 vs1 ft1 fe (wipeD env vs) (items.drop (i + 1)) acc' S3) hs1 sy1 (n5.ext ey1) A6.at_ hz5 A6.acc rd1 hb1 run6 fun ρ' H'' S' acc' accV' e s' hD' hl' r' run' => ?_
                    refine ⟨items1.length - (j + 1), by omega, rfl, hlt1, ρ', S', acc', accV', (A5.next hDp ey1 e s' hD' hl' hz5 r').re, ?_, ?_, ?_, run'⟩
                    · rcases e with e | ⟨H3', u, e, rfl⟩
                      · exact sta.ext _ _ _ _ _ (ey1.trans e) ok5
                      · exact sta.turn _ _ _ _ _ List.mem_cons_self (sta.ext _ _ _ _ _ (ey1.trans e) ok5)
                    · rcases e with e | ⟨H3', u, e, rfl⟩
                      · exact sta1.ext _ _ _ _ _ (ey1.trans e) ok15
                      · exact sta1.turn _ _ _ _ _ List.mem_cons_self (sta1.ext _ _ _ _ _ (ey1.trans e) ok15)
                    · rcases e with e | ⟨H3', u, e, rfl⟩
                      · exact (n5.ext ey1).ext e
                      · exact ((n5.ext ey1).ext e).turn List.mem_cons_self
                · have e5 : j = items1.length := by omega
                  rw [e5, List.drop_length] at run5
                  exact .inl ⟨stop1 (by omega), items.length - (i + 1), by omega, rfl, hlt, ρ5, S5, acc5, accV5, A5, ok5, run5⟩
        · have e : i = items.length := by omega
          rw [e, List.drop_length] at run
          cases run
          exact .inl ⟨stop (by omega), lc_end A.ext hDp A.sto hf A.at_ A.size A.acc fin⟩
      · cases q2
theorem lc2N_no {bx : Bool} {items : List D} {env : Env'} {S : Sto} {c : Nat} {fs : List (Str × D)} {en : Env'} {S' : Sto} :
    ((lc2Run call tg ft fi1 tg1 vs1 ft1 fe (wipeD env vs) (.frz items) S).bind fun ds S2 => mkL bx ds S2) ≠ .exc c fs en S' := by
  intro h
  cases q : lc2Run call tg ft fi1 tg1 vs1 ft1 fe (wipeD env vs) (.frz items) S with
  | bad => rw [q] at h; cases h
  | exc => exact noExc_no q
  | ok ds S2 => rw [q] at h; exact mkL_no h
theorem lc2K {bx : Bool} {i : Nat} {ρ hid : List Addr} {H : Hp} {S : Sto} {env : Env'} {σ : L2.St} {Q : VK} {kvs : List (Key × D)} {ws : List (Key × V)} {a : Addr} {o : Obj} {W' : WX} (hs : ∀ j ∈ slots tg, j ∈ vs) (hs1 : ∀ j ∈ slots tg1, j ∈ vs1) (s : StoOk C hid ρ H S) (n : EnvOk C ρ hid H env σ)
    (hv : σ[i]? = some (some (.ref a))) (ha : H a = some (.frz o (.dK ws))) (fz : Fz ρ hid a) (r : RlKv C ρ hid H kvs ws) (hz : kvs.length ≤ sizeLine) (hks : (kvs.all fun kv => keyS kv.1) = true)
    (h : okR C hid ρ H ((lc2Run call tg ft fi1 tg1 vs1 ft1 fe (wipeD env vs) (.frz (kvs.map fun kv => keyD kv.1)) S).bind fun ds S2 => mkL bx ds S2) (PostE C hid Q) (xOut C hid W')) :
    tLc2 (iKeys (tVar i)) (gOf C.K tg) (tT C W0 call ft) (tI C W0 call fi1) (gOf C.K tg1) (tT C W0 call ft1) (tE C W0 call fe) vs vs1 σ H Q := by
  have h' : okR C hid ρ H (cLc2 bx tg vs ft fi1 tg1 vs1 ft1 fe (fun _ _ S => .ok (.frz (kvs.map fun kv => keyD kv.1)) S) call env S) (PostE C hid Q) (xOut C hid W') := h
  have q := lc2_core hs hs1 n h'
  refine ⟨.ref a, hv, a, o, rfl, .inl ⟨ws, ha, ?_⟩⟩
  exact okR.here q s _ (walkAt_keys ha fz r.keys hz hks)
theorem lc2_step {bx : Bool} (hs : ∀ j ∈ slots tg, j ∈ vs) (hs1 : ∀ j ∈ slots tg1, j ∈ vs1) : ∀ σ H Q, tE C W call (cLc2 bx tg vs ft fi1 tg1 vs1 ft1 fe fi) σ H Q →
    tLc2 (tI C W call fi) (gOf C.K tg) (tT C W0 call ft) (tI C W0 call fi1) (gOf C.K tg1) (tT C W0 call ft1) (tE C W0 call fe) vs vs1 σ H Q := fun σ H Q ⟨ρ, hid, S, env, s, n, h⟩ =>
  ⟨ρ, hid, S, env, s, n, lc2_core hs hs1 n h⟩
theorem lcP2 {elt tge iter tge1 iter1 : Expr} {ifs ifs1 : List Expr} {scope : Scope} {own : List (Str × Nat)} {pos : Pos} {wi wi1 : TI} {gt gt1 : TG} {tt tt1 : TT} {te : TE} (hc : X.calm = true) (hN : X.N.Nodup) (hi : PI X tge iter wi) (ok : BlkOk X.N X.env.scope scope own) (hv1 : ∀ i ∈ vs1, i ∈ own.map (·.2))
    (hg : ∀ (s : Shared) (H : Hp) (Cc : Addr) (cl : List (Str × Addr)) (fp : List Addr), PG (X.blk s H scope (compEnvC scope cl Cc X.env) fp) tge gt)
    (ht : ∀ (s : Shared) (H : Hp) (Cc : Addr) (cl : List (Str × Addr)) (fp : List Addr), PTs (X.blk s H scope (compEnvC scope cl Cc X.env) fp) ifs tt)
    (hi1 : ∀ (s : Shared) (H : Hp) (Cc : Addr) (cl : List (Str × Addr)) (fp : List Addr), PI (X.blk s H scope (compEnvC scope cl Cc X.env) fp) tge1 iter1 wi1)
    (hg1 : ∀ (s : Shared) (H : Hp) (Cc : Addr) (cl : List (Str × Addr)) (fp : List Addr), PG (X.blk s H scope (compEnvC scope cl Cc X.env) fp) tge1 gt1)
    (ht1 : ∀ (s : Shared) (H : Hp) (Cc : Addr) (cl : List (Str × Addr)) (fp : List Addr), PTs (X.blk s H scope (compEnvC scope cl Cc X.env) fp) ifs1 tt1)
    (he : ∀ (s : Shared) (H : Hp) (Cc : Addr) (cl : List (Str × Addr)) (fp : List Addr), PE (X.blk s H scope (compEnvC scope cl Cc X.env) fp) elt te)
    (hf : ∀ x, foldedSetIterable iter X.env x = pure x) (hf1 : ∀ env x, foldedSetIterable iter1 env x = pure x) :
    LcP X (.ListComp elt [⟨tge, iter, ifs, 0⟩, ⟨tge1, iter1, ifs1, 0⟩] scope pos) (tLc2 wi gt tt wi1 gt1 tt1 te (own.map (·.2)) vs1) :=
  ⟨pe_lc2 hc hN hi ok hv1 hg ht hi1 hg1 ht1 he hf hf1, fun i y py spos hy hyl hsw => ps_setLc2 hc hN hy hyl hsw hi ok hv1 hg ht hi1 hg1 ht1 he hf hf1⟩
theorem lc2N_step {bx : Bool} {i : Nat} (hs : ∀ j ∈ slots tg, j ∈ vs) (hs1 : ∀ j ∈ slots tg1, j ∈ vs1) : ∀ σ H Q, tE C W call (cLc2 bx tg vs ft fi1 tg1 vs1 ft1 fe (cSrcN i)) σ H Q →
    tLc2 (tI C W call (cSrc (cVar i))) (gOf C.K tg) (tT C W0 call ft) (tI C W0 call fi1) (gOf C.K tg1) (tT C W0 call ft1) (tE C W0 call fe) vs vs1 σ H Q ∨
    (tLc2 (iKeys (tVar i)) (gOf C.K tg) (tT C W0 call ft) (tI C W0 call fi1) (gOf C.K tg1) (tT C W0 call ft1) (tE C W0 call fe) vs vs1 σ H Q ∨
    tLockE (tLc2 (iKeys (tVar i)) (gOf C.K tg) (tT C W0 call ft) (tI C W0 call fi1) (gOf C.K tg1) (tT C W0 call ft1) (tE C W0 call fe) vs vs1) σ H Q) := by
  intro σ H Q ⟨ρ, hid, S, env, s, n, h⟩
  cases e : env[i]? with
  | none => simp only [cLc2, cSrcN, e] at h; exact h.elim
  | some od =>
    cases od with
    | none => simp only [cLc2, cSrcN, e] at h; exact h.elim
    | some d =>
      have gen : (∀ kvs, d ≠ .dic kvs) → tLc2 (tI C W call (cSrc (cVar i))) (gOf C.K tg) (tT C W0 call ft) (tI C W0 call fi1) (gOf C.K tg1) (tT C W0 call ft1) (tE C W0 call fe) vs vs1 σ H Q := fun nd => by
        refine lc2_step (bx := bx) hs hs1 σ H Q ⟨ρ, hid, S, env, s, n, ?_⟩
        have e2 : cSrcN i call env S = cSrc (cVar i) call env S := by
          unfold cSrcN cSrc cVar
          rw [e]
          cases d <;> first | rfl | exact (nd _ rfl).elim
        unfold cLc2 at h ⊢
        rw [← e2]
        exact h
      cases d with
      | dic kvs =>
        simp only [cLc2, cSrcN, e] at h
        split at h
        · rename_i hc
          obtain ⟨v, hv, rv⟩ := n.2 i _ e
          cases rv with
          | dic hA fz r =>
            rename_i a ws
            have h : okR C hid ρ H ((lc2Run call tg ft fi1 tg1 vs1 ft1 fe (wipeD env vs) (.frz (kvs.map fun kv => keyD kv.1)) S).bind fun ds S2 => mkL bx ds S2) (PostE C hid Q) (xOut C hid W) := h
            rcases hA with hA | ⟨o, hA⟩
            · refine .inr (.inr ⟨a, .dK ws, hA, trivial, fun od => ?_⟩)
              have q := (lock_run (o := od) s hA fz (fun c fs en S' => lc2N_no) h).imp (X' := xOut C hid W) (fun _ _ _ _ _ _ q => q) fun _ _ _ _ _ _ _ _ q => q.elim
              exact lc2K hs hs1 (s.lock hA fz) (n.same (same_lock hA)) hv upd_same fz (r.same (same_lock hA)) hc.1 hc.2 q
            · exact .inr (.inl (lc2K hs hs1 s n hv hA fz r hc.1 hc.2 h))
        · exact h.elim
      | _ => exact .inl (gen (by intros; simp))
end
end Ev

set_option Elab.async false
set_option linter.all false
set_option maxRecDepth 100000
set_option maxHeartbeats 2000000
/-! Ev, part 19: sorted. -/
namespace Ev
open PySem PySem.Spec PyProof.Rows L2

theorem ltC_tot : ∀ {a b : List Nat}, ltCps a b = false → ltCps b a = false → a = b
  | [], [], _, _ => rfl
  | [], _ :: _, h, _ => by simp [ltCps] at h
  | _ :: _, [], _, h => by simp [ltCps] at h
  | x :: a, y :: b, h1, h2 => by
    simp only [ltCps, Bool.or_eq_false_iff, decide_eq_false_iff_not] at h1 h2
    have e : x = y := by omega
    subst e
    simp at h1 h2
    rw [ltC_tot h1 h2]
theorem ltC_asym : ∀ {a b : List Nat}, ltCps a b = true → ltCps b a = false
  | [], [], h => by simp [ltCps] at h
  | [], _ :: _, _ => by simp [ltCps]
  | _ :: _, [], h => by simp [ltCps] at h
  | x :: a, y :: b, h => by
    simp only [ltCps, Bool.or_eq_true, decide_eq_true_eq, Bool.and_eq_true, beq_iff_eq, Bool.or_eq_false_iff, decide_eq_false_iff_not] at h ⊢
    rcases h with h | ⟨h1, h2⟩
    · refine ⟨by omega, ?_⟩
      have : (y == x) = false := by simp; omega
      simp [this]
    · subst h1
      simp [ltC_asym h2]
theorem ltC_trans : ∀ {a b c : List Nat}, ltCps a b = true → ltCps b c = true → ltCps a c = true
  | [], [], _, h, _ => by simp [ltCps] at h
  | _, _ :: _, [], _, h => by simp [ltCps] at h
  | [], _ :: _, _ :: _, _, _ => by simp [ltCps]
  | _ :: _, [], _, h, _ => by simp [ltCps] at h
  | x :: a, y :: b, z :: c, h1, h2 => by
    simp only [ltCps, Bool.or_eq_true, decide_eq_true_eq, Bool.and_eq_true, beq_iff_eq] at h1 h2 ⊢
    rcases h1 with h1 | ⟨rfl, h1⟩
    · rcases h2 with h2 | ⟨rfl, _⟩
      · exact .inl (by omega)
      · exact .inl h1
    · rcases h2 with h2 | ⟨rfl, h2⟩
      · exact .inl h2
      · exact .inr ⟨rfl, ltC_trans h1 h2⟩
/-- a ≤ b -/
def leS (a b : Str) : Bool := !ltCps b.cps.toList a.cps.toList
theorem leS_total (a b : Str) : leS a b = true ∨ leS b a = true := by
  unfold leS
  cases h : ltCps b.cps.toList a.cps.toList with
  | false => exact .inl rfl
  | true => exact .inr (by rw [ltC_asym h]; rfl)
theorem leS_antisymm {a b : Str} (h1 : leS a b = true) (h2 : leS b a = true) : a = b := by
  unfold leS at h1 h2
  simp at h1 h2
  have := ltC_tot h2 h1
  obtain ⟨⟨a⟩⟩ := a
  obtain ⟨⟨b⟩⟩ := b
  simp at this
  subst this
  rfl
theorem leS_trans {a b c : Str} (h1 : leS a b = true) (h2 : leS b c = true) : leS a c = true := by
  rcases leS_total a c with h | h
  · exact h
  · unfold leS at *
    cases q : ltCps c.cps.toList a.cps.toList with
    | false => rfl
    | true =>
      simp at h1 h2
      cases q1 : ltCps a.cps.toList b.cps.toList with
      | true =>
        have := ltC_trans q q1
        rw [h2] at this
        cases this
      | false =>
        have e := ltC_tot q1 h1
        rw [e] at q
        rw [q] at h2
        cases h2
def insS (x : Str) : List Str → List Str
  | [] => [x]
  | y :: r => if leS x y then x :: y :: r else y :: insS x r
def sortS : List Str → List Str
  | [] => []
  | x :: r => insS x (sortS r)
theorem insS_perm (x : Str) : ∀ l, (insS x l).Perm (x :: l)
  | [] => .refl _
  | y :: r => by
    unfold insS
    split
    · exact .refl _
    · exact ((insS_perm x r).cons y).trans (.swap ..)
theorem sortS_perm : ∀ l, (sortS l).Perm l
  | [] => .refl _
  | x :: r => (insS_perm x _).trans ((sortS_perm r).cons x)
theorem insS_sorted {x : Str} : ∀ {l : List Str}, l.Pairwise (fun a b => leS a b = true) → (insS x l).Pairwise (fun a b => leS a b = true)
  | [], _ => by simp [insS]
  | y :: r, h => by
    unfold insS
    obtain ⟨h1, h2⟩ := List.pairwise_cons.mp h
    split
    · rename_i e
      exact List.pairwise_cons.mpr ⟨fun z m => by rcases List.mem_cons.mp m with rfl | m; exact e; exact leS_trans e (h1 _ m), h⟩
    · rename_i e
      have e' : leS y x = true := by
        rcases leS_total x y with q | q
        · exact (e q).elim
        · exact q
      refine List.pairwise_cons.mpr ⟨fun z m => ?_, insS_sorted h2⟩
      rcases List.mem_cons.mp ((insS_perm x r).mem_iff.mp m) with rfl | m
      · exact e'
      · exact h1 _ m
theorem sortS_sorted : ∀ l, (sortS l).Pairwise (fun a b => leS a b = true)
  | [] => .nil
  | x :: r => insS_sorted (sortS_sorted r)
theorem rising_pw : ∀ (p : Str) (l : List Str), risingS p l = true → (p :: l).Pairwise (fun a b => leS a b = true)
  | p, [], _ => by simp
  | p, x :: r, h => by
    simp only [risingS, Bool.and_eq_true] at h
    have ih := rising_pw x r h.2
    refine List.pairwise_cons.mpr ⟨fun z m => ?_, ih⟩
    rcases List.mem_cons.mp m with rfl | m
    · exact h.1
    · exact leS_trans h.1 ((List.pairwise_cons.mp ih).1 z m)
theorem sortedS_pw {l : List Str} (h : sortedS l = true) : l.Pairwise (fun a b => leS a b = true) := by
  cases l with
  | nil => exact .nil
  | cons x r => exact rising_pw x r h
theorem sortS_eq {ys xs : List Str} (h : ys.Perm xs) (s : sortedS ys = true) : ys = sortS xs :=
  List.Perm.eq_of_pairwise (fun _ _ _ _ => leS_antisymm) (sortedS_pw s) (sortS_sorted xs) (h.trans (sortS_perm xs).symm)
/-! ints -/
def insI (x : Int) : List Int → List Int
  | [] => [x]
  | y :: r => if x ≤ y then x :: y :: r else y :: insI x r
def sortI : List Int → List Int
  | [] => []
  | x :: r => insI x (sortI r)
theorem insI_perm (x : Int) : ∀ l, (insI x l).Perm (x :: l)
  | [] => .refl _
  | y :: r => by
    unfold insI
    split
    · exact .refl _
    · exact ((insI_perm x r).cons y).trans (.swap ..)
theorem sortI_perm : ∀ l, (sortI l).Perm l
  | [] => .refl _
  | x :: r => (insI_perm x _).trans ((sortI_perm r).cons x)
theorem insI_sorted {x : Int} : ∀ {l : List Int}, l.Pairwise (· ≤ ·) → (insI x l).Pairwise (· ≤ ·)
  | [], _ => by simp [insI]
  | y :: r, h => by
    unfold insI
    obtain ⟨h1, h2⟩ := List.pairwise_cons.mp h
    split
    · rename_i e
      exact List.pairwise_cons.mpr ⟨fun z m => by rcases List.mem_cons.mp m with rfl | m; exact e; exact Int.le_trans e (h1 _ m), h⟩
    · rename_i e
      refine List.pairwise_cons.mpr ⟨fun z m => ?_, insI_sorted h2⟩
      rcases List.mem_cons.mp ((insI_perm x r).mem_iff.mp m) with rfl | m
      · omega
      · exact h1 _ m
theorem sortI_sorted : ∀ l, (sortI l).Pairwise (· ≤ ·)
  | [] => .nil
  | x :: r => insI_sorted (sortI_sorted r)
theorem sortI_eq {ys xs : List Int} (h : ys.Perm xs) (s : ys.Pairwise (· ≤ ·)) : ys = sortI xs :=
  List.Perm.eq_of_pairwise (fun _ _ _ _ => Int.le_antisymm) s (sortI_sorted xs) (h.trans (sortI_perm xs).symm)

/-! ### sorted(x) -/
def strKeys : List (Key × D) → Option (List Str)
  | [] => some []
  | (.inr x, _) :: r => if x.length ≤ sizeLine then (strKeys r).map (x :: ·) else none
  | (.inl _, _) :: _ => none
def pSorted (bx : Bool) (ds : List D) (S : Sto) : R D := match ds with
  | [x] => match deref S x with
    | .lst es => match strsOf es with
      | some xs => if xs.length < 64 then mkL bx ((sortS xs).map .str) S else .bad
      | none => match intsOf es with
        | some ns => mkL bx ((sortI ns).map .int) S
        | none => .bad
    | .dic kvs => match strKeys kvs with
      | some xs => if xs.length < 64 then mkL bx ((sortS xs).map .str) S else .bad
      | none => .bad
    | _ => .bad
  | _ => .bad
def rSortedD : List V → Hp → VK → Prop := fun xs H Q => ∃ (a : Addr) (kvs : List (Key × V)) (ks : List Str), xs = [.ref a] ∧ Rd H a (.dK kvs) ∧ kvs.map (·.1) = ks.map Sum.inr ∧ ks.length < 64 ∧
    ∀ ys p, ys.Perm ks → sortedS ys = true → H p = none → Q (.ref p) (upd H p (.lst (ys.map V.str)))
def rSortedA (K : PySem.W.Frag) : List V → Hp → VK → Prop := fun xs H Q => rSortedS K xs H Q ∨ (rSortedI K xs H Q ∨ rSortedD xs H Q)
theorem call_sortedA {X : Cx} (hc : X.calm = true) : CallR X (.builtin "sorted") (rSortedA X.K) := cr_sortedS.or (cr_sortedI.or (call_sortedD hc))
theorem strKeys_ok {kvs : List (Key × D)} {xs : List Str} (h : strKeys kvs = some xs) : kvs.map (·.1) = xs.map Sum.inr ∧ ∀ x ∈ xs, x.length ≤ sizeLine := by
  induction kvs generalizing xs with
  | nil => simp [strKeys] at h; subst h; exact ⟨rfl, by simp⟩
  | cons p r ih =>
    obtain ⟨k, d⟩ := p
    cases k with
    | inl i => simp [strKeys] at h
    | inr x =>
      simp only [strKeys] at h
      split at h
      · rename_i hz
        obtain ⟨ys, hy, rfl⟩ := Option.map_eq_some_iff.mp h
        obtain ⟨h1, h2⟩ := ih hy
        exact ⟨by rw [List.map_cons, List.map_cons, h1], fun y m => by rcases List.mem_cons.mp m with rfl | m; exact hz; exact h2 y m⟩
      · cases h
theorem strs_rl {C : Cfg} {ρ hid : List Addr} {H : Hp} : ∀ {xs : List Str}, (∀ x ∈ xs, x.length ≤ sizeLine) → RlAll C ρ hid H (xs.map .str) (xs.map V.str)
  | [], _ => .nil
  | x :: r, h => .cons (.str x (h x (by simp))) (strs_rl fun y m => h y (List.mem_cons_of_mem _ m))
theorem ints_rl {C : Cfg} {ρ hid : List Addr} {H : Hp} : ∀ {xs : List Int}, RlAll C ρ hid H (xs.map .int) (xs.map V.int)
  | [] => .nil
  | x :: r => .cons (.int x) ints_rl
theorem strsOf_rl {C : Cfg} {ρ hid : List Addr} {H : Hp} : ∀ {ds : List D} {vs : List V} {xs : List Str}, RlAll C ρ hid H ds vs → strsOf ds = some xs → vs = xs.map V.str ∧ ∀ x ∈ xs, x.length ≤ sizeLine
  | [], _, _, .nil, h => by simp [strsOf] at h; subst h; exact ⟨rfl, by simp⟩
  | d :: ds, _, xs, .cons r rs, h => by
    cases r with
    | str x z =>
      simp only [strsOf] at h
      obtain ⟨ys, hy, rfl⟩ := Option.map_eq_some_iff.mp h
      obtain ⟨h1, h2⟩ := strsOf_rl rs hy
      exact ⟨by rw [List.map_cons, h1], fun y m => by rcases List.mem_cons.mp m with rfl | m; exact z; exact h2 y m⟩
    | _ => simp [strsOf] at h
theorem intsOf_rl {C : Cfg} {ρ hid : List Addr} {H : Hp} : ∀ {ds : List D} {vs : List V} {xs : List Int}, RlAll C ρ hid H ds vs → intsOf ds = some xs → vs = xs.map V.int
  | [], _, _, .nil, h => by simp [intsOf] at h; subst h; rfl
  | d :: ds, _, xs, .cons r rs, h => by
    cases r with
    | int x =>
      simp only [intsOf] at h
      obtain ⟨ys, hy, rfl⟩ := Option.map_eq_some_iff.mp h
      rw [List.map_cons, intsOf_rl rs hy]
    | _ => simp [intsOf] at h
theorem lay_any {C : Cfg} {ρ hid : List Addr} {H : Hp} {bx : Bool} {S : Sto} {ds : List D} {vs : List V} {Q : VK} {XX : XP} (s : StoOk C hid ρ H S) (r : RlAll C ρ hid H ds vs) (z : vs.length ≤ sizeLine) (h : okR C hid ρ H (mkL bx ds S) (PostE C hid Q) XX) : ∀ p, H p = none → Q (.ref p) (upd H p (.lst vs)) := by
  cases bx with
  | false => exact lay_lst s r z h
  | true => exact box_lst s r z h
theorem p_sorted {C : Cfg} {bx : Bool} : PAOk C (rSortedA C.K) (pSorted bx) := by
  intro ρ hid H S ds vs Q XX s r h
  unfold pSorted at h
  split at h
  · rename_i x
    obtain ⟨v, rfl, rv⟩ := one_of r
    split at h
    · rename_i es e
      obtain ⟨a, ws, rfl, hA, z, ra⟩ := rd_lst s rv e
      split at h
      · rename_i xs hx
        split at h
        · rename_i h64
          obtain ⟨rfl, hz⟩ := strsOf_rl ra hx
          refine .inl ⟨a, xs, rfl, .inl hA, h64, fun ys p hp hs hn => ?_⟩
          rw [sortS_eq hp hs]
          refine lay_any s (strs_rl fun x m => hz x ((sortS_perm xs).mem_iff.mp m)) ?_ h p hn
          rw [List.length_map, (sortS_perm xs).length_eq]
          rw [List.length_map] at z
          exact z
        · exact h.elim
      · split at h
        · rename_i ns hx
          have e := intsOf_rl ra hx
          subst e
          refine .inr (.inl ⟨a, ns, rfl, .inl hA, fun ys p hp hs hn => ?_⟩)
          rw [sortI_eq hp hs]
          refine lay_any s ints_rl ?_ h p hn
          rw [List.length_map, (sortI_perm ns).length_eq]
          rw [List.length_map] at z
          exact z
        · exact h.elim
    · rename_i kvs e
      obtain ⟨a, ws, rfl, hA, ra⟩ := rd_dic s rv e
      split at h
      · rename_i xs hx
        split at h
        · rename_i h64
          obtain ⟨h1, hz⟩ := strKeys_ok hx
          refine .inr (.inr ⟨a, ws, xs, rfl, hA, by rw [← ra.keys]; exact h1, h64, fun ys p hp hs hn => ?_⟩)
          rw [sortS_eq hp hs]
          refine lay_any s (strs_rl fun x m => hz x ((sortS_perm xs).mem_iff.mp m)) ?_ h p hn
          rw [List.length_map, (sortS_perm xs).length_eq]
          exact small64 h64
        · exact h.elim
      · exact h.elim
    · exact h.elim
  · exact h.elim
end Ev

set_option Elab.async false
set_option linter.all false
set_option maxRecDepth 100000
set_option maxHeartbeats 2000000
/-! Ev, part 20: repr. -/
namespace Ev
open PySem PySem.Spec PyProof.Rows L2

/-- .. dicts among it -/
def keyPy : Key → Option PyData
  | .inl i => some (.int i)
  | .inr x => some (.str x)
def encK : Key → PyData
  | .inl i => .int i
  | .inr x => .str x
mutual
def D.pyX : D → Option PyData
  | .non => some .none
  | .bl b => some (.bool b)
  | .int i => some (.int i)
  | .str x => some (.str x)
  | .tup ds => (pyXs ds).map .tuple
  | .lst ds => (pyXs ds).map .list
  | .dic kvs => (pyXk kvs).map .dict
  | _ => none
def pyXs : List D → Option (List PyData)
  | [] => some []
  | d :: ds => match d.pyX, pyXs ds with
    | some p, some ps => some (p :: ps)
    | _, _ => none
def pyXk : List (Key × D) → Option (List (PyData × PyData))
  | [] => some []
  | (k, d) :: ds => match d.pyX, pyXk ds with
    | some p, some ps => some ((encK k, p) :: ps)
    | _, _ => none
end
def showD (d : PyData) (S : Sto) : R D := if d.showable = true ∧ d.depth ≤ 190 ∧ d.shown.length ≤ sizeLine then .ok (.str d.shown) S else .bad
def pRepr (ds : List D) (S : Sto) : R D := match ds with
  | [x] => match (deref S x).py with
    | some d => if (d.showable = true ∧ d.hasDict = false) ∧ d.depth ≤ 190 ∧ d.shown.length ≤ sizeLine then .ok (.str d.shown) S else .bad
    | none => match (deref S x).pyX with
      | some d => showD d S
      | none => .bad
  | _ => .bad
def rReprA (K : PySem.W.Frag) : List V → Hp → VK → Prop := fun xs H Q => ∃ x d, xs = [x] ∧ Dp K H x d ∧ (d.showable = true ∧ d.hasDict = false) ∧ d.depth ≤ 190 ∧ d.shown.length ≤ sizeLine ∧ Q (.str d.shown) H
theorem call_reprA {X : Cx} (hg : X.A.guards = some []) (hu : X.A.units + 200 < cLine) : CallR X (.builtin "repr") (rReprA X.K) := by
  intro pins s σ H xs us Q I r h
  obtain ⟨x, d, rfl, hd, ⟨hs, hnd⟩, hdep, hz, q⟩ := h
  obtain ⟨u, rfl, ru⟩ := vals1 r
  have fin : ∀ (h' : Heap) (t tk : Nat), (∀ b o, s.heap.get? b = some o → h'.get? b = some o) → EP X pins σ Q (.str d.shown t) { s with heap := h', toks := tk } := fun h' t tk hk => ⟨.str d.shown, H, I.kept (t' := tk) hk, ⟨t, rfl⟩, q⟩
  cases hd with
  | non => cases ru; exact PySem.P.repr_of_none (fin s.heap s.toks _ fun _ _ e => e)
  | bl b => cases ru; exact PySem.P.repr_of_bool (fin s.heap s.toks _ fun _ _ e => e)
  | int i => obtain ⟨t, rfl⟩ := ru; exact PySem.P.repr_of_int (by simpa [PyData.showable] using hs) (fin s.heap s.toks _ fun _ _ e => e)
  | str y => obtain ⟨t, rfl⟩ := ru; exact PySem.P.repr_of_str (fin s.heap s.toks _ fun _ _ e => e) hz
  | lst h1 h2 =>
    have hd' := Dp.lst h1 h2
    obtain ⟨as, rd⟩ := Dp.reads I _ _ _ hd' ru
    cases ru
    exact repr_of_reads' rd hs (fun e => by rw [hnd] at e; cases e) hg (by omega) (fun _ _ e => e) (fun h' t tk hk => fin h' t tk hk) hz
  | tup h1 h2 =>
    have hd' := Dp.tup h1 h2
    obtain ⟨as, rd⟩ := Dp.reads I _ _ _ hd' ru
    cases ru
    exact repr_of_reads' rd hs (fun e => by rw [hnd] at e; cases e) hg (by omega) (fun _ _ e => e) (fun h' t tk hk => fin h' t tk hk) hz
section
variable {X : Cx} {pins : List (Addr × Obj)} {σ : L2.St} {H : Hp} {s : Shared} {C : Cfg} {ρ hid : List Addr}
theorem gr_ne (g : Gr C H) {a : Addr} {o : HO} (h : H a = some o) (n : NX o) : a ≠ sysModules := fun z => by
  obtain ⟨φ, q⟩ := g.sm
  rw [z, q] at h
  cases h
  exact n.1 _ rfl
theorem rd_ne (g : Gr C H) {a : Addr} {u : HO} (h : Rd H a u) (n : NX u) : a ≠ sysModules := by
  rcases h with h | ⟨o, h⟩
  · exact gr_ne g h n
  · exact gr_ne g h ⟨(fun _ z => nomatch z), (fun _ z => nomatch z)⟩
theorem dK_obj (I : Inv X pins σ H s) {a : Addr} {ws : List (Key × V)} (h : Rd H a (.dK ws)) : ∃ vs, KV ws vs ∧ s.heap.DictOf (mixKind X.prog X.w) a vs := by
  rcases h with h | ⟨o, h⟩
  · obtain ⟨_, _, vs, h1, h2⟩ := (show ObjOk X.prog X.w H s.heap a (.dK ws) from I.hok a _ h)
    exact ⟨vs, h1, h2⟩
  · obtain ⟨_, _, _, vs, h1, h2⟩ := (show ObjOk X.prog X.w H s.heap a (.frz o (.dK ws)) from I.hok a _ h)
    exact ⟨vs, h1, h2⟩
theorem key_reads {h : Heap} : ∀ (k : Key) (key : Value), (mixKind X.prog X.w).is k key = true → PySem.Reads h key (encK k) [] := fun k key e => by
  cases k with
  | inl i =>
    obtain ⟨t, rfl⟩ := Value.isInt_shape (show Value.isInt i key = true from e)
    exact .int i t
  | inr x =>
    obtain ⟨t, rfl⟩ := Value.isStrOf_shape (show Value.isStrOf x key = true from e)
    exact .str x t
mutual
theorem rl_reads (hK : X.K = C.K) (I : Inv X pins σ H s) (g : Gr C H) : ∀ {d : D} {v : V} {p : PyData} {u : Value}, Rl C ρ hid H d v → d.pyX = some p → RelV v u → ∃ as, PySem.Reads s.heap u p as ∧ sysModules ∉ as
  | .non, _, _, _, .non, e, r => by simp [D.pyX] at e; subst e; cases r; exact ⟨_, .none, by simp⟩
  | .bl b, _, _, _, .bl _, e, r => by simp [D.pyX] at e; subst e; cases r; exact ⟨_, .bool b, by simp⟩
  | .int i, _, _, _, .int _, e, r => by simp [D.pyX] at e; subst e; obtain ⟨t, rfl⟩ := r; exact ⟨_, .int i t, by simp⟩
  | .str x, _, _, _, .str _ _, e, r => by simp [D.pyX] at e; subst e; obtain ⟨t, rfl⟩ := r; exact ⟨_, .str x t, by simp⟩
  | .tup ds, _, _, _, .tup h rs, e, r => by
    simp only [D.pyX] at e
    obtain ⟨ps, e1, rfl⟩ := Option.map_eq_some_iff.mp e
    cases r
    obtain ⟨its, rv, pl, _⟩ := I.tuple (by rw [hK]; exact h.sq)
    obtain ⟨as, ra, hs⟩ := rl_readsAll hK I g rs e1 rv
    obtain ⟨o, ho, hc, n, hd⟩ := (show IsTup s.heap _ its.toArray from pl)
    exact ⟨as, .tuple ho hc hd ra, hs⟩
  | .lst ds, _, _, _, .lst h rs, e, r => by
    simp only [D.pyX] at e
    obtain ⟨ps, e1, rfl⟩ := Option.map_eq_some_iff.mp e
    cases r
    have hne := rd_ne g h.1.1 nx_lst
    obtain ⟨its, rv, pl, _⟩ := I.list (show SqL X.K H _ _ from .inl h.1.1)
    obtain ⟨as, ra, hs⟩ := rl_readsAll hK I g rs e1 rv
    obtain ⟨o, n, ho, hc, _, hd⟩ := pl
    exact ⟨_, .list ho hc hd ra, fun m => by rcases List.mem_cons.mp m with q | q; exact hne q.symm; exact hs q⟩
  | .dic kvs, _, _, _, .dic h n rs, e, r => by
    simp only [D.pyX] at e
    obtain ⟨ps, e1, rfl⟩ := Option.map_eq_some_iff.mp e
    cases r
    have hne := rd_ne g h nx_dK
    obtain ⟨vs, hv, o, es, ep, ho, hex, hd, _, hp, _⟩ := dK_obj I h
    obtain ⟨bs, rb, hs⟩ := rl_readsKv hK I g rs e1 hv
    obtain ⟨r1, r2⟩ := PyProof.V.readsAll_of_pairs (h := s.heap) (enc := encK) (key_reads (X := X)) hp rb
    refine ⟨_, .dict ho hex.1 hd r1 r2, fun m => ?_⟩
    simp only [List.append_nil, List.cons_append, List.mem_cons] at m
    rcases m with q | q
    · exact hne q.symm
    · exact hs (by simpa using q)
  | .ref _, _, _, _, _, e, _ => by simp [D.pyX] at e
  | .pr _, _, _, _, _, e, _ => by simp [D.pyX] at e
  | .scr _, _, _, _, _, e, _ => by simp [D.pyX] at e
  | .fn _, _, _, _, _, e, _ => by simp [D.pyX] at e
  | .ty _, _, _, _, _, e, _ => by simp [D.pyX] at e
  | .cls _, _, _, _, _, e, _ => by simp [D.pyX] at e
  | .exc _ _ _, _, _, _, _, e, _ => by simp [D.pyX] at e
  | .clo _ _, _, _, _, _, e, _ => by simp [D.pyX] at e
theorem rl_readsAll (hK : X.K = C.K) (I : Inv X pins σ H s) (g : Gr C H) : ∀ {ds : List D} {vs : List V} {ps : List PyData} {us : List Value}, RlAll C ρ hid H ds vs → pyXs ds = some ps → Vals vs us → ∃ as, PySem.ReadsAll s.heap us ps as ∧ sysModules ∉ as
  | [], _, _, _, .nil, e, r => by simp [pyXs] at e; subst e; cases r; exact ⟨_, .nil, by simp⟩
  | d :: ds, _, _, _, .cons h rs, e, r => by
    simp only [pyXs] at e
    split at e
    · rename_i p ps e1 e2
      cases e
      cases r with
      | cons r1 r2 =>
        obtain ⟨as, h1, n1⟩ := rl_reads hK I g h e1 r1
        obtain ⟨bs, h2, n2⟩ := rl_readsAll hK I g rs e2 r2
        exact ⟨_, .cons h1 h2, fun m => (List.mem_append.mp m).elim n1 n2⟩
    · cases e
theorem rl_readsKv (hK : X.K = C.K) (I : Inv X pins σ H s) (g : Gr C H) : ∀ {kvs : List (Key × D)} {ws : List (Key × V)} {ps : List (PyData × PyData)} {us : List (Key × Value)}, RlKv C ρ hid H kvs ws → pyXk kvs = some ps → KV ws us → ∃ bs, PyProof.V.PairsRead s.heap encK us ps bs ∧ sysModules ∉ bs
  | [], _, _, _, .nil, e, r => by simp [pyXk] at e; subst e; cases r; exact ⟨_, .nil, by simp⟩
  | (k, d) :: ds, _, _, _, .cons h rs, e, r => by
    simp only [pyXk] at e
    split at e
    · rename_i p ps e1 e2
      cases e
      cases r with
      | @cons _ q _ _ r1 r2 =>
        obtain ⟨k', u⟩ := q
        obtain ⟨hk, ru⟩ := r1
        dsimp only at hk ru
        subst hk
        obtain ⟨as, h1, n1⟩ := rl_reads hK I g h e1 ru
        obtain ⟨bs, h2, n2⟩ := rl_readsKv hK I g rs e2 r2
        exact ⟨_, .cons h1 h2, fun m => (List.mem_append.mp m).elim n1 n2⟩
    · cases e
end
end
/-- repr of data with dicts -/
def rReprX (C : Cfg) : List V → Hp → VK → Prop := fun xs H Q => ∃ (x : V) (ρ hid : List Addr) (d : D) (p : PyData), xs = [x] ∧ Gr C H ∧ Rl C ρ hid H d x ∧ d.pyX = some p ∧ p.showable = true ∧ p.depth ≤ 190 ∧ p.shown.length ≤ sizeLine ∧ Q (.str p.shown) H
theorem call_reprX {X : Cx} {C : Cfg} (hK : X.K = C.K) (hg : X.A.guards = some []) (hu : X.A.units + 200 < cLine) : CallR X (.builtin "repr") (rReprX C) := by
  intro pins s σ H xs us Q I r h
  obtain ⟨x, ρ, hid, d, p, rfl, g, rl, e, hs, hdep, hz, q⟩ := h
  obtain ⟨u, rfl, ru⟩ := vals1 r
  have fin : ∀ (h' : Heap) (t tk : Nat), (∀ b o, s.heap.get? b = some o → h'.get? b = some o) → EP X pins σ Q (.str p.shown t) { s with heap := h', toks := tk } := fun h' t tk hk => ⟨.str p.shown, H, I.kept (t' := tk) hk, ⟨t, rfl⟩, q⟩
  obtain ⟨as, rd, hn⟩ := rl_reads hK I g rl e ru
  cases u with
  | ref a => exact repr_of_reads' rd hs (fun _ => hn) hg (by omega) (fun _ _ e => e) (fun h' t tk hk => fin h' t tk hk) hz
  | none => cases rd; exact PySem.P.repr_of_none (fin s.heap s.toks _ fun _ _ e => e)
  | bool b => cases rd; exact PySem.P.repr_of_bool (fin s.heap s.toks _ fun _ _ e => e)
  | int i t => cases rd; exact PySem.P.repr_of_int (by simpa [PyData.showable] using hs) (fin s.heap s.toks _ fun _ _ e => e)
  | str y t => cases rd; exact PySem.P.repr_of_str (fin s.heap s.toks _ fun _ _ e => e) hz
  | _ => cases rd
def rReprB (C : Cfg) : List V → Hp → VK → Prop := fun xs H Q => rReprA C.K xs H Q ∨ rReprX C xs H Q
theorem call_reprB {X : Cx} {C : Cfg} (hK : X.K = C.K) (hg : X.A.guards = some []) (hu : X.A.units + 200 < cLine) : CallR X (.builtin "repr") (rReprB C) := by
  have h := (call_reprA (X := X) hg hu).or (call_reprX (C := C) hK hg hu)
  rw [hK] at h
  exact h
mutual
theorem pyX_cls : ∀ {d : D} {p : PyData}, d.pyX = some p → clsD 0 d = true
  | .non, _, _ => rfl
  | .bl _, _, _ => rfl
  | .int _, _, _ => rfl
  | .str _, _, _ => rfl
  | .tup ds, _, e => by
    simp only [D.pyX] at e
    obtain ⟨ps, e1, _⟩ := Option.map_eq_some_iff.mp e
    exact pyXs_cls e1
  | .lst ds, _, e => by
    simp only [D.pyX] at e
    obtain ⟨ps, e1, _⟩ := Option.map_eq_some_iff.mp e
    exact pyXs_cls e1
  | .dic ds, _, e => by
    simp only [D.pyX] at e
    obtain ⟨ps, e1, _⟩ := Option.map_eq_some_iff.mp e
    exact pyXk_cls e1
  | .ref _, _, e => by simp [D.pyX] at e
  | .pr _, _, e => by simp [D.pyX] at e
  | .scr _, _, e => by simp [D.pyX] at e
  | .fn _, _, e => by simp [D.pyX] at e
  | .ty _, _, e => by simp [D.pyX] at e
  | .cls _, _, e => by simp [D.pyX] at e
  | .exc _ _ _, _, e => by simp [D.pyX] at e
  | .clo _ _, _, e => by simp [D.pyX] at e
theorem pyXs_cls : ∀ {ds : List D} {ps : List PyData}, pyXs ds = some ps → clsDs 0 ds = true
  | [], _, _ => rfl
  | d :: ds, _, e => by
    simp only [pyXs] at e
    split at e
    · rename_i p ps e1 e2
      simp [clsDs, pyX_cls e1, pyXs_cls e2]
    · cases e
theorem pyXk_cls : ∀ {ds : List (Key × D)} {ps : List (PyData × PyData)}, pyXk ds = some ps → clsKv 0 ds = true
  | [], _, _ => rfl
  | (k, d) :: ds, _, e => by
    simp only [pyXk] at e
    split at e
    · rename_i p ps e1 e2
      simp [clsKv, pyX_cls e1, pyXk_cls e2]
    · cases e
end
theorem deref_rlX {C : Cfg} {ρ hid : List Addr} {H : Hp} {S : Sto} {d : D} {v : V} {p : PyData} (s : StoOk C hid ρ H S) (r : Rl C ρ hid H d v) (h : (deref S d).pyX = some p) : ∃ ρ' hid' d', Rl C ρ' hid' H d' v ∧ d'.pyX = some p := by
  cases d with
  | ref l =>
    cases r with
    | ref hl =>
      simp only [deref] at h
      split at h
      · rename_i ds hS
        obtain ⟨vs, e, z, rr⟩ := s.obj l _ _ hl hS
        have hc : clsDs 0 ds = true := pyX_cls h
        exact ⟨[], [], .lst ds, .lst ⟨⟨.inl e, z⟩, by simp, by simp⟩ (pure_rls (fun b _ => ⟨by simp, by simp⟩) rr hc), h⟩
      · rename_i ds hS
        obtain ⟨vs, e, z, rr⟩ := s.obj l _ _ hl hS
        have hc : clsKv 0 ds = true := pyX_cls h
        exact ⟨[], [], .dic ds, .dic (.inl e) ⟨by simp, by simp⟩ (pure_rlk (fun b _ => ⟨by simp, by simp⟩) rr hc), h⟩
      · simp [D.pyX] at h
  | _ => exact ⟨ρ, hid, _, r, h⟩
theorem p_repr {C : Cfg} : PAOk C (rReprB C) pRepr := by
  intro ρ hid H S ds vs Q XX s r h
  unfold pRepr at h
  split at h
  · rename_i x
    obtain ⟨v, rfl, rv⟩ := one_of r
    split at h
    · rename_i d e
      split at h
      · rename_i hc
        exact .inl ⟨v, d, rfl, (py_dpS s rv e).1, hc.1, hc.2.1, hc.2.2, h.here s _ (.str _ hc.2.2)⟩
      · exact h.elim
    · split at h
      · rename_i d e
        unfold showD at h
        split at h
        · rename_i hc
          obtain ⟨ρ', hid', d', r', e'⟩ := deref_rlX s rv e
          exact .inr ⟨v, ρ', hid', d', d, rfl, s.gr, r', e', hc.1, hc.2.1, hc.2.2, h.here s _ (.str _ hc.2.2)⟩
        · exact h.elim
      · exact h.elim
  · exact h.elim
end Ev

set_option Elab.async false
set_option linter.all false
set_option maxRecDepth 100000
set_option maxHeartbeats 2000000
/-! Ev, part 21: dict(pairs), dict(d). -/
namespace Ev
open PySem PySem.Spec PyProof.Rows L2

/-- a tuple object without a dict of its own -/
def TupD (K : PySem.W.Frag) (H : Hp) (a : Addr) (vs : List V) : Prop := TupT H a vs ∨ KT' K a vs
theorem TupA.d {C : Cfg} {ρ hid : List Addr} {H : Hp} {a : Addr} {vs : List V} (h : TupA C ρ hid H a vs) : TupD C.K H a vs := h.imp (fun h => h.1.1) id
section
variable {X : Cx} {pins : List (Addr × Obj)} {σ : L2.St} {H : Hp} {s : Shared}
theorem TupD.plain {a : Addr} {vs : List V} (I : Inv X pins σ H s) (h : TupD X.K H a vs) : ∃ us : List Value, Vals vs us ∧ PlainSeq "tuple" s.heap a us.toArray ∧ vs.length ≤ sizeLine := by
  rcases h with ⟨us, h⟩ | ⟨o, its, n, h1, h2, h3, h4, h5, h6⟩
  · obtain ⟨h0, hz, us', rv, o, e1, e2, n, e3⟩ := (show ObjOk X.prog X.w H s.heap a (.frz (TupO us) (.tup vs)) from I.hok a _ h)
    rw [h0] at e1
    cases e1
    have e4 : us = us' := by
      have : Data.seq us.toArray _ = Data.seq us'.toArray n := e3
      injection this with this _
      simpa using this
    subst e4
    exact ⟨us, rv, ⟨_, _, h0, rfl, rfl, rfl⟩, hz⟩
  · refine ⟨its.toList, h6, ⟨o, n, I.kIn a o h1, h2, h3, by simpa using h4⟩, ?_⟩
    rw [h6.length]
    simpa using h5
theorem pairs_two (I : Inv X pins σ H s) : ∀ {ps : List Addr} {kvs : List (Key × V)}, Paired (fun p kv => SqT X.K H p [kV kv.1, kv.2]) ps kvs →
    ∃ (prs : List (Key × Value)) (us : List (Value × Value)), KV kvs prs ∧ prs.length = ps.length ∧ us.length = ps.length ∧
      (∀ (j : Nat) (k v : Value), us[j]? = some (k, v) → ∃ b, ps[j]? = some b ∧ s.heap.IsTuple b #[k, v]) ∧ ∀ (j : Nat) (k v : Value), us[j]? = some (k, v) → ∃ key, prs[j]? = some (key, v) ∧ (mixKind X.prog X.w).is key k = true
  | _, _, .nil => ⟨[], [], .nil, rfl, rfl, fun j k v e => by simp at e, fun j k v e => by simp at e⟩
  | _, _, .cons (a := p) (b := kv) h t => by
    obtain ⟨prs, us, r, l1, l2, q1, q2⟩ := pairs_two I t
    obtain ⟨its, rv, ht, _⟩ := I.tuple h
    obtain ⟨u, y, rfl, ru, ry⟩ := vals2 rv
    refine ⟨(kv.1, y) :: prs, (u, y) :: us, .cons ⟨rfl, ry⟩ r, by simp [l1], by simp [l2], fun j k v e => ?_, fun j k v e => ?_⟩
    · cases j with
      | zero => simp at e; obtain ⟨rfl, rfl⟩ := e; exact ⟨p, rfl, ht⟩
      | succ j => exact q1 j k v (by simpa using e)
    · cases j with
      | zero => simp at e; obtain ⟨rfl, rfl⟩ := e; exact ⟨kv.1, rfl, kV_is ru⟩
      | succ j => exact q2 j k v (by simpa using e)
def rDictT (K : PySem.W.Frag) : List V → Hp → VK → Prop := fun xs H Q => ∃ (a : Addr) (ps : List Addr) (kvs : List (Key × V)), xs = [.ref a] ∧ TupD K H a (ps.map V.ref) ∧ Paired (fun p kv => SqT K H p [kV kv.1, kv.2]) ps kvs ∧
  ∀ p, H p = none → Q (.ref p) (upd H p (.dK (mergeK [] kvs)))
theorem call_dictT (hcalm : X.calm = true) : CallR X (.type "dict") (rDictT X.K) := by
  rintro pins s σ H xs us Q I r ⟨a, ps, kvs, rfl, ha, hp, q⟩
  obtain ⟨u, rfl, rx⟩ := vals1 r
  cases rx
  obtain ⟨its, rv, pl, hz⟩ := ha.plain I
  have ei := refs_at rv
  subst ei
  obtain ⟨prs, ts, rel, l1, l2, q1, q2⟩ := pairs_two I hp
  rw [List.length_map] at hz
  have items : PairItems s.heap (ps.map Value.ref).toArray (fun j => (ps[j]?).getD 0) ts := by
    refine ⟨by simp [l2], fun j k v e => ?_⟩
    obtain ⟨b, hb, ht⟩ := q1 j k v e
    exact ⟨by simp [hb], .inl (by simp [hb]; exact ht)⟩
  refine PySem.call_dict_pairs (knd := mixKind X.prog X.w) (kvs := prs) (PairArg.tuple a (ps.map Value.ref).toArray (fun j => (ps[j]?).getD 0) ts) (I.ok.hd hcalm) ⟨pl, items⟩ ⟨by rw [l1, l2], fun i key v e => q2 i key v e⟩ (by rw [l2]; exact hz) fun h' tk hd' k => ?_
  have hm : (s.heap.objs.size == sysModules) = false := beq_eq_false_iff_ne.mpr (Nat.ne_of_gt I.big)
  have hlen : (mergeK [] kvs).length ≤ sizeLine := Nat.le_trans (length_mergeK kvs []) (by rw [List.length_nil, Nat.zero_add, rel.length, l1]; exact hz)
  exact ⟨.ref s.heap.objs.size, upd H s.heap.objs.size (.dK (mergeK [] kvs)), I.laid (t' := tk) (fun b o e => k b o (by simp) e) (Nat.le_refl _) ⟨hlen, hm, merged [] prs, KV.merge rel .nil, hd'⟩, rfl, q _ (I.hok.fresh (Nat.le_refl _))⟩
end
/-- pairs of a key and a value -/
def pairsOf : List D → Option (List (Key × D))
  | [] => some []
  | .tup [k, d] :: r => match keyOf k, pairsOf r with
    | some k, some r => some ((k, d) :: r)
    | _, _ => none
  | _ :: _ => none
def pDict (bx : Bool) (ds : List D) (S : Sto) : R D := match ds with
  | [x] => match deref S x with
    | .tup es => match pairsOf es with
      | some kvs => if es.length ≤ sizeLine then mkD bx (mergeD [] kvs) S else .bad
      | none => .bad
    | .lst es => match pairsOf es with
      | some kvs => if es.length ≤ sizeLine then mkD bx (mergeD [] kvs) S else .bad
      | none => .bad
    | .dic kvs => if kvs.length ≤ sizeLine then mkD bx kvs S else .bad
    | _ => .bad
  | _ => .bad
def rDictL (K : PySem.W.Frag) : List V → Hp → VK → Prop := fun xs H Q => ∃ (a : Addr) (ps : List Addr) (kvs : List (Key × V)), xs = [.ref a] ∧ SqL K H a (ps.map V.ref) ∧ Paired (fun p kv => SqT K H p [kV kv.1, kv.2]) ps kvs ∧
  ∀ p, H p = none → Q (.ref p) (upd H p (.dK (mergeK [] kvs)))
def rDictD : List V → Hp → VK → Prop := fun xs H Q => ∃ (a : Addr) (kvs : List (Key × V)), xs = [.ref a] ∧ Rd H a (.dK kvs) ∧ ∀ p, H p = none → Q (.ref p) (upd H p (.dK kvs))
def rDictA (K : PySem.W.Frag) : List V → Hp → VK → Prop := fun xs H Q => rDictT K xs H Q ∨ (rDictL K xs H Q ∨ rDictD xs H Q)
theorem call_dictA {X : Cx} (hc : X.calm = true) : CallR X (.type "dict") (rDictA X.K) := (call_dictT hc).or ((call_dictP hc).or call_dictD)
section
variable {C : Cfg} {ρ hid : List Addr} {H : Hp} {S : Sto}
theorem pairsOf_rl : ∀ {es : List D} {vs : List V} {kvs : List (Key × D)}, RlAll C ρ hid H es vs → pairsOf es = some kvs → ∃ (ps : List Addr) (ws : List (Key × V)), vs = ps.map V.ref ∧ RlKv C ρ hid H kvs ws ∧ Paired (fun p kv => SqT C.K H p [kV kv.1, kv.2]) ps ws
  | [], _, _, .nil, h => by simp [pairsOf] at h; subst h; exact ⟨[], [], rfl, .nil, .nil⟩
  | e :: es, _, kvs, .cons r rs, h => by
    cases r with
    | tup hA ra =>
      rename_i a ds vs
      match ds, ra, h with
      | [], _, h => simp [pairsOf] at h
      | [_], _, h => simp [pairsOf] at h
      | _ :: _ :: _ :: _, _, h => simp [pairsOf] at h
      | [k, d], ra, h =>
        simp only [pairsOf] at h
        split at h
        · rename_i key r hk hr
          cases h
          obtain ⟨v, w, rfl, rk, rd⟩ := two_of ra
          obtain ⟨ps, ws, rfl, q1, q2⟩ := pairsOf_rl rs hr
          have e1 := rl_key rk hk
          subst e1
          exact ⟨a :: ps, (key, w) :: ws, rfl, .cons rd q1, .cons hA.sq q2⟩
        · cases h
    | _ => simp [pairsOf] at h
theorem lay_dic {bx : Bool} {kvs : List (Key × D)} {ws : List (Key × V)} {Q : VK} {XX : XP} (s : StoOk C hid ρ H S) (r : RlKv C ρ hid H kvs ws) (z : ws.length ≤ sizeLine) (h : okR C hid ρ H (mkD bx kvs S) (PostE C hid Q) XX) : ∀ p, H p = none → Q (.ref p) (upd H p (.dK ws)) := fun p hp =>
  dic_end (.laid hp) hp (s.hide hp) (s.freshH hp) upd_same z (r.hide hp) h
theorem mergeD_len (more : List (Key × D)) : ∀ kvs : List (Key × D), (mergeD kvs more).length ≤ kvs.length + more.length := by
  induction more with
  | nil => intro kvs; exact Nat.le_refl _
  | cons p t ih =>
    intro kvs
    have h1 : (putD kvs p.1 p.2).length ≤ kvs.length + 1 := by
      unfold putD
      split
      · simp
      · simp
    have h2 := ih (putD kvs p.1 p.2)
    show (mergeD (putD kvs p.1 p.2) t).length ≤ _
    rw [List.length_cons]
    omega
theorem pairsOf_len : ∀ {es : List D} {kvs : List (Key × D)}, pairsOf es = some kvs → kvs.length = es.length
  | [], _, h => by simp [pairsOf] at h; subst h; rfl
  | e :: es, kvs, h => by
    unfold pairsOf at h
    split at h
    · rename_i h0; cases h0
    · rename_i h0
      cases h0
      split at h
      · rename_i hr
        cases h
        rw [List.length_cons, List.length_cons, pairsOf_len hr]
      · cases h
    · cases h
end
theorem p_dict {C : Cfg} {bx : Bool} : PAOk C (rDictA C.K) (pDict bx) := by
  intro ρ hid H S ds vs Q XX s r h
  unfold pDict at h
  split at h
  · rename_i x
    obtain ⟨v, rfl, rv⟩ := one_of r
    split at h
    · rename_i es e
      obtain ⟨a, ws, rfl, hA, ra⟩ := rd_tup rv e
      split at h
      · rename_i kvs hk
        split at h
        · rename_i hz
          obtain ⟨ps, zs, rfl, q1, q2⟩ := pairsOf_rl ra hk
          have m := mergeD_ok (C := C) (ρ := ρ) (hid := hid) (H := H) q1 .nil
          have l := m.length
          have l2 := mergeD_len kvs []
          have l3 := pairsOf_len hk
          simp only [List.length_nil] at l2
          exact .inl ⟨a, ps, zs, rfl, hA.d, q2, lay_dic s m (by omega) h⟩
        · exact h.elim
      · exact h.elim
    · rename_i es e
      obtain ⟨a, ws, rfl, hA, z, ra⟩ := rd_lst s rv e
      split at h
      · rename_i kvs hk
        split at h
        · rename_i hz
          obtain ⟨ps, zs, rfl, q1, q2⟩ := pairsOf_rl ra hk
          have m := mergeD_ok (C := C) (ρ := ρ) (hid := hid) (H := H) q1 .nil
          have l := m.length
          have l2 := mergeD_len kvs []
          have l3 := pairsOf_len hk
          simp only [List.length_nil] at l2
          exact .inr (.inl ⟨a, ps, zs, rfl, .inl hA, q2, lay_dic s m (by omega) h⟩)
        · exact h.elim
      · exact h.elim
    · rename_i kvs e
      obtain ⟨a, ws, rfl, hA, ra⟩ := rd_dic s rv e
      split at h
      · rename_i hz
        have l := ra.length
        exact .inr (.inr ⟨a, ws, rfl, hA, lay_dic s ra (by omega) h⟩)
      · exact h.elim
    · exact h.elim
  · exact h.elim
end Ev

set_option Elab.async false
set_option linter.all false
set_option maxRecDepth 100000
set_option maxHeartbeats 2000000
/-! Ev, part 22: tuple(zip(t, u)), t and u tuples. -/
namespace Ev
open PySem PySem.Spec PyProof.Rows L2

section
variable {prog : Program} {w : World} {A : Around} {E : Value → Shared → Prop} {s : Shared} {z TI TO T i1 i2 l1 l2 : Addr} {f : Bool} {oT : Obj} {k1 k2 : Nat} {xs ys : Array Value}
/-- the zip's next pair while its last one is held -/
theorem heldT_item {x y : Value} {Q : Value → Shared → Prop} (D : ZipApart z TI TO i1 i2 l1 l2) (hz : IsZipHeld s.heap z TI TO T f) (hT : s.heap.get? T = some oT) (hTI : IsPair s.heap TI (.ref i1) (.ref i2))
    (h1 : s.heap.IsTupleIter i1 l1 k1) (h2 : s.heap.IsTupleIter i2 l2 k2) (hl1 : s.heap.IsTuple l1 xs) (hl2 : s.heap.IsTuple l2 ys) (hx : xs[k1]? = some x) (hy : ys[k2]? = some y)
    (hQ : ∀ h', IsZipHeld h' z TI TO T true → h'.IsTupleIter i1 l1 (k1 + 1) → h'.IsTupleIter i2 l2 (k2 + 1) → IsPair h' s.heap.objs.size x y → h'.objs.size = s.heap.objs.size + 1 →
      (∀ c o, c ≠ z → c ≠ i1 → c ≠ i2 → s.heap.get? c = some o → h'.get? c = some o) → Q (.ref s.heap.objs.size) { s with heap := h' }) :
    wpAny (model prog w) A (Builtin.«zip.__next__» ⟨[.ref z], []⟩) (fun fin s' => ∃ v, fin = .done (.ret v) ∧ Q v s') E s := by
  show wpAny _ _ (field (.ref z) 2 >>= _) _ _ _
  refine wpAny_bind (wpAny_field hz rfl (x := .bool false) rfl ?_)
  show wpAny _ _ (field (.ref z) 3 >>= _) _ _ _
  refine wpAny_bind (wpAny_field hz rfl (x := .ref TI) rfl ?_)
  refine wpAny_bind (wpAny_seqItems hTI rfl ?_)
  show wpAny _ _ (Builtin.SmallTypes.ownedTupleIsFree (.ref z) >>= _) _ _ _
  refine wpAny_bind (wpAny_tupleHeld_zip hz hT fun ha hza sa => ?_)
  simp only [Bool.false_eq_true, if_false]
  refine wpAny_bind ?_
  rw [← Array.forIn_toList]
  simp only [List.forIn_cons, List.forIn_nil]
  refine wpAny_bind (wpAny_bind (wpAny_holding ?_))
  show wpAny _ _ (Builtin.SmallTypes.nextOf (.ref i1) >>= _) _ _ _
  refine wpAny_bind (RZ.nextOf_tuple_item (s := { s with heap := ha }) (h1.extBut sa.extBut D.i1z) (hl1.extBut sa.extBut D.l1z) hx fun hb h1b sb => wpAny_pure (wpAny_pure ?_))
  refine wpAny_bind (wpAny_bind (wpAny_holding ?_))
  show wpAny _ _ (Builtin.SmallTypes.nextOf (.ref i2) >>= _) _ _ _
  refine wpAny_bind (RZ.nextOf_tuple_item (s := { s with heap := hb }) ((h2.extBut sa.extBut D.i2z).extBut sb.extBut D.i12.symm) ((hl2.extBut sa.extBut D.l2z).extBut sb.extBut D.l2i1) hy fun hc h2c sc => wpAny_pure (wpAny_pure (wpAny_pure ?_)))
  show wpAny _ _ (newTuple [x, y] >>= _) _ _ _
  refine wpAny_bind (wpAny_newTuple ?_)
  have hsz : hc.objs.size = s.heap.objs.size := by rw [sc.1, sb.1, sa.1]
  have hzc : IsZipHeld hc z TI TO T true := sc.extBut _ _ D.i2z.symm (sb.extBut _ _ D.i1z.symm hza)
  have keep : ∀ c o, c ≠ z → c ≠ i1 → c ≠ i2 → s.heap.get? c = some o → hc.get? c = some o := fun c o c1 c2 c3 e => sc.extBut _ _ c3 (sb.extBut _ _ c2 (sa.extBut _ _ c1 e))
  have h1c : hc.IsTupleIter i1 l1 (k1 + 1) := h1b.extBut sc.extBut D.i12
  have up : ∀ c o, hc.get? c = some o → (hc.push { cls := .type "tuple", data := .seq #[x, y] }).get? c = some o := fun c o e => Heap.get?_push_of_some _ e
  refine wpAny_pure ⟨_, rfl, ?_⟩
  show Q (.ref hc.objs.size) _
  have hp : IsPair (hc.push { cls := .type "tuple", data := .seq #[x, y] }) hc.objs.size x y := Heap.get?_push_size _ rfl
  have hz4 : (hc.push { cls := .type "tuple", data := .seq #[x, y] }).objs.size = hc.objs.size + 1 := Heap.size_push ..
  rw [hsz] at hp hz4 ⊢
  exact hQ _ (up _ _ hzc) (h1c.at (up _)) (h2c.at (up _)) hp hz4 fun c o c1 c2 c3 e => up _ _ (keep c o c1 c2 c3 e)
theorem heldT_end {Q : Fin → Shared → Prop} (hh : A.handled = none) (D : ZipApart z TI TO i1 i2 l1 l2) (hz : IsZipHeld s.heap z TI TO T f) (hT : s.heap.get? T = some oT) (hTI : IsPair s.heap TI (.ref i1) (.ref i2))
    (h1 : s.heap.IsTupleIter i1 l1 k1) (h2 : s.heap.IsTupleIter i2 l2 k2) (hl1 : s.heap.IsTuple l1 xs) (hl2 : s.heap.IsTuple l2 ys) (hend : xs[k1]? = none ∨ ys[k2]? = none)
    (hE : ∀ h' e, (∀ c o, c ≠ z → c ≠ i1 → c ≠ i2 → s.heap.get? c = some o → h'.get? c = some o) → (∃ o, h'.get? e = some o ∧ o.cls = .type "StopIteration") → E (.ref e) { s with heap := h' }) :
    wpAny (model prog w) A (Builtin.«zip.__next__» ⟨[.ref z], []⟩) Q E s := by
  show wpAny _ _ (field (.ref z) 2 >>= _) _ _ _
  refine wpAny_bind (wpAny_field hz rfl (x := .bool false) rfl ?_)
  show wpAny _ _ (field (.ref z) 3 >>= _) _ _ _
  refine wpAny_bind (wpAny_field hz rfl (x := .ref TI) rfl ?_)
  refine wpAny_bind (wpAny_seqItems hTI rfl ?_)
  show wpAny _ _ (Builtin.SmallTypes.ownedTupleIsFree (.ref z) >>= _) _ _ _
  refine wpAny_bind (wpAny_tupleHeld_zip hz hT fun ha hza sa => ?_)
  simp only [Bool.false_eq_true, if_false]
  refine wpAny_bind ?_
  rw [← Array.forIn_toList]
  simp only [List.forIn_cons, List.forIn_nil]
  refine wpAny_bind (wpAny_bind (wpAny_holding ?_))
  show wpAny _ _ (Builtin.SmallTypes.nextOf (.ref i1) >>= _) _ _ _
  cases hx : xs[k1]? with
  | none =>
    exact wpAny_bind (RZ.nextOf_tuple_end (s := { s with heap := ha }) hh (h1.extBut sa.extBut D.i1z) (hl1.extBut sa.extBut D.l1z) hx fun hb e sb he => hE hb e (fun c o c1 c2 _ q => sb _ _ c2 (sa.extBut _ _ c1 q)) he)
  | some x =>
    have hy : ys[k2]? = none := hend.resolve_left fun h => by rw [hx] at h; cases h
    refine wpAny_bind (RZ.nextOf_tuple_item (s := { s with heap := ha }) (h1.extBut sa.extBut D.i1z) (hl1.extBut sa.extBut D.l1z) hx fun hb h1b sb => wpAny_pure (wpAny_pure ?_))
    refine wpAny_bind (wpAny_bind (wpAny_holding ?_))
    show wpAny _ _ (Builtin.SmallTypes.nextOf (.ref i2) >>= _) _ _ _
    exact wpAny_bind (RZ.nextOf_tuple_end (s := { s with heap := hb }) hh ((h2.extBut sa.extBut D.i2z).extBut sb.extBut D.i12.symm) ((hl2.extBut sa.extBut D.l2z).extBut sb.extBut D.l2i1) hy fun hc e sc he =>
      hE hc e (fun c o c1 c2 c3 q => sc _ _ c3 (sb.extBut _ _ c2 (sa.extBut _ _ c1 q))) he)
theorem pyNext_heldT_item {x y : Value} {Q : Option Value → Shared → Prop} (D : ZipApart z TI TO i1 i2 l1 l2) (hz : IsZipHeld s.heap z TI TO T f) (hT : s.heap.get? T = some oT) (hTI : IsPair s.heap TI (.ref i1) (.ref i2))
    (h1 : s.heap.IsTupleIter i1 l1 k1) (h2 : s.heap.IsTupleIter i2 l2 k2) (hl1 : s.heap.IsTuple l1 xs) (hl2 : s.heap.IsTuple l2 ys) (hx : xs[k1]? = some x) (hy : ys[k2]? = some y)
    (hQ : ∀ h', IsZipHeld h' z TI TO T true → h'.IsTupleIter i1 l1 (k1 + 1) → h'.IsTupleIter i2 l2 (k2 + 1) → IsPair h' s.heap.objs.size x y → h'.objs.size = s.heap.objs.size + 1 →
      (∀ c o, c ≠ z → c ≠ i1 → c ≠ i2 → s.heap.get? c = some o → h'.get? c = some o) → Q (some (.ref s.heap.objs.size)) { s with heap := h' }) :
    wpAny (model prog w) A (pyNext (.ref z)) Q E s := by
  have ty : s.TypeIs (.ref z) "zip" := ⟨_, hz, rfl⟩
  unfold pyNext
  exact wpAny_bind (wpAny_attempt (wpAny_callSpecial?_slot (name := Str.ofString "__next__") ty F.slot_zip_next (wpAny_call_entry F.slot_zip_next ty F.entry_zip_next
    (heldT_item D hz hT hTI h1 h2 hl1 hl2 hx hy fun h' a1 a3 a4 a5 a6 a7 => wpAny_pure (hQ h' a1 a3 a4 a5 a6 a7)) (F.args_zip_next_1 _))))
theorem pyNext_heldT_end {Q : Option Value → Shared → Prop} (hh : A.handled = none) (D : ZipApart z TI TO i1 i2 l1 l2) (hz : IsZipHeld s.heap z TI TO T f) (hT : s.heap.get? T = some oT) (hTI : IsPair s.heap TI (.ref i1) (.ref i2))
    (h1 : s.heap.IsTupleIter i1 l1 k1) (h2 : s.heap.IsTupleIter i2 l2 k2) (hl1 : s.heap.IsTuple l1 xs) (hl2 : s.heap.IsTuple l2 ys) (hend : xs[k1]? = none ∨ ys[k2]? = none)
    (hQ : ∀ h', (∀ c o, c ≠ z → c ≠ i1 → c ≠ i2 → s.heap.get? c = some o → h'.get? c = some o) → Q none { s with heap := h' }) :
    wpAny (model prog w) A (pyNext (.ref z)) Q E s := by
  have ty : s.TypeIs (.ref z) "zip" := ⟨_, hz, rfl⟩
  unfold pyNext
  refine wpAny_bind (wpAny_attempt (wpAny_callSpecial?_slot (name := Str.ofString "__next__") ty F.slot_zip_next (wpAny_call_entry F.slot_zip_next ty F.entry_zip_next
    (heldT_end hh D hz hT hTI h1 h2 hl1 hl2 hend fun h' e hk he => ?_) (F.args_zip_next_1 _))))
  obtain ⟨o, ho, hc⟩ := he
  refine wpAny_bind (wpAny_isInstance (T := "StopIteration") (b := true) ⟨o, ho, hc⟩ isSubtype_stop ?_)
  exact wpAny_pure (hQ _ hk)
end
end Ev

set_option Elab.async false
set_option linter.all false
set_option maxRecDepth 100000
set_option maxHeartbeats 2000000
/-! Ev, part 23: tuple(zip(t, u)), the walk. -/
namespace Ev
open PySem PySem.Spec PyProof.Rows L2

/-- new pairs, one behind another -/
def newPs : List (V × V) → Hp → (List Addr → Hp → Prop) → Prop
  | [], H, k => k [] H
  | p :: r, H, k => ∀ T us, H T = none → newPs r (upd H T (.frz (TupO us) (.tup [p.1, p.2]))) fun Ts H' => k (T :: Ts) H'
/-- a zip of two tuples, i pairs out; S: an object that is no part of it -/
structure ZS (h : Heap) (z TI TO i1 i2 l1 l2 S : Addr) (us vs : Array Value) (i : Nat) : Prop where
  ti : IsPair h TI (.ref i1) (.ref i2)
  it1 : h.IsTupleIter i1 l1 i
  it2 : h.IsTupleIter i2 l2 i
  t1 : h.IsTuple l1 us
  t2 : h.IsTuple l2 vs
  tO : ∃ o, h.get? TO = some o
  st : (IsZip h z TI TO .none ∧ ∃ a b, IsPair h TO a b) ∨ ∃ T f oT, IsZipHeld h z TI TO T f ∧ h.get? T = some oT ∧ T ≠ S
section
variable {prog : Program} {w : World} {A : Around} {E : Value → Shared → Prop} {s : Shared} {z TI TO i1 i2 l1 l2 S : Addr} {us vs : Array Value} {i : Nat}
theorem ZS.keeps {h h' : Heap} (Z : ZS h z TI TO i1 i2 l1 l2 S us vs i) (D : ZipApart z TI TO i1 i2 l1 l2) (hS : S ≠ z ∧ S ≠ TI ∧ S ≠ TO ∧ S ≠ i1 ∧ S ≠ i2 ∧ S ≠ l1 ∧ S ≠ l2) (k : ∀ b o, b ≠ S → h.get? b = some o → h'.get? b = some o) : ZS h' z TI TO i1 i2 l1 l2 S us vs i := by
  obtain ⟨n1, n2, n3, n4, n5, n6, n7⟩ := hS
  refine ⟨k _ _ n2.symm Z.ti, Z.it1.at fun o e => k _ o n4.symm e, Z.it2.at fun o e => k _ o n5.symm e, Z.t1.at fun o e => k _ o n6.symm e, Z.t2.at fun o e => k _ o n7.symm e, let ⟨o, e⟩ := Z.tO; ⟨o, k _ _ n3.symm e⟩, ?_⟩
  rcases Z.st with ⟨h1, a, b, h2⟩ | ⟨T, f, oT, h1, h2, h3⟩
  · exact .inl ⟨k _ _ n1.symm h1, a, b, k _ _ n3.symm h2⟩
  · exact .inr ⟨T, f, oT, k _ _ n1.symm h1, k _ _ h3 h2, h3⟩
theorem ZS.item {x y : Value} {Q : Option Value → Shared → Prop} (D : ZipApart z TI TO i1 i2 l1 l2) (Z : ZS s.heap z TI TO i1 i2 l1 l2 S us vs i) (hS : S < s.heap.objs.size) (hx : us[i]? = some x) (hy : vs[i]? = some y)
    (hQ : ∀ h', ZS h' z TI TO i1 i2 l1 l2 S us vs (i + 1) → IsPair h' s.heap.objs.size x y → h'.objs.size = s.heap.objs.size + 1 → (∀ c o, c ≠ z → c ≠ TO → c ≠ i1 → c ≠ i2 → s.heap.get? c = some o → h'.get? c = some o) → Q (some (.ref s.heap.objs.size)) { s with heap := h' }) :
    wpAny (model prog w) A (pyNext (.ref z)) Q E s := by
  have nS : s.heap.objs.size ≠ S := Nat.ne_of_gt hS
  rcases Z.st with ⟨h1, a, b, h2⟩ | ⟨T, f, oT, h1, h2, h3⟩
  · refine RZ.pyNext_zipT_item D h1 Z.ti h2 Z.it1 Z.it2 Z.t1 Z.t2 hx hy fun h' q1 q2 q3 q4 q5 q6 k => hQ h' ⟨k _ _ D.TIz D.TITO D.TIi1 D.TIi2 Z.ti, q3, q4, Z.t1.at fun o e => k _ o D.l1z D.l1TO D.l1i1 D.l1i2 e, Z.t2.at fun o e => k _ o D.l2z D.l2TO D.l2i1 D.l2i2 e, ⟨_, q2⟩, .inr ⟨_, false, _, q1, q5, nS⟩⟩ q5 q6 k
  · refine pyNext_heldT_item D h1 h2 Z.ti Z.it1 Z.it2 Z.t1 Z.t2 hx hy fun h' q1 q3 q4 q5 q6 k => ?_
    have kT : ∃ o, h'.get? T = some o := by
      by_cases e1 : T = z
      · exact ⟨_, by rw [e1]; exact q1⟩
      · by_cases e2 : T = i1
        · obtain ⟨o, e, _⟩ := q3
          exact ⟨o, by rw [e2]; exact e⟩
        · by_cases e3 : T = i2
          · obtain ⟨o, e, _⟩ := q4
            exact ⟨o, by rw [e3]; exact e⟩
          · exact ⟨_, k _ _ e1 e2 e3 h2⟩
    obtain ⟨o, hT⟩ := kT
    exact hQ h' ⟨k _ _ D.TIz D.TIi1 D.TIi2 Z.ti, q3, q4, Z.t1.at fun o e => k _ o D.l1z D.l1i1 D.l1i2 e, Z.t2.at fun o e => k _ o D.l2z D.l2i1 D.l2i2 e, let ⟨o, e⟩ := Z.tO; ⟨o, k _ _ D.TOz D.TOi1 D.TOi2 e⟩, .inr ⟨T, true, o, q1, hT, h3⟩⟩ q5 q6 fun c o c1 _ c3 c4 e => k c o c1 c3 c4 e
theorem ZS.done {Q : Option Value → Shared → Prop} (hh : A.handled = none) (D : ZipApart z TI TO i1 i2 l1 l2) (Z : ZS s.heap z TI TO i1 i2 l1 l2 S us vs i) (hend : us[i]? = none ∨ vs[i]? = none)
    (hQ : ∀ h', (∀ c o, c ≠ z → c ≠ TO → c ≠ i1 → c ≠ i2 → s.heap.get? c = some o → h'.get? c = some o) → Q none { s with heap := h' }) : wpAny (model prog w) A (pyNext (.ref z)) Q E s := by
  rcases Z.st with ⟨h1, a, b, h2⟩ | ⟨T, f, oT, h1, h2, h3⟩
  · exact RZ.pyNext_zipT_end hh D h1 Z.ti h2 Z.it1 Z.it2 Z.t1 Z.t2 hend hQ
  · exact pyNext_heldT_end hh D h1 h2 Z.ti Z.it1 Z.it2 Z.t1 Z.t2 hend fun h' k => hQ h' fun c o c1 _ c3 c4 e => k c o c1 c3 c4 e
end
section
variable {X : Cx} {pins : List (Addr × Obj)} {σ : L2.St} {z TI TO i1 i2 l1 l2 S : Addr}
/-- the list fills -/
theorem zip_fill {A : Around} {R : Result → Shared → Prop} {res : Value} {us vs : List Value} {xs ys : List V} (hh : A.handled = none) (D : ZipApart z TI TO i1 i2 l1 l2) (hS : S ≠ z ∧ S ≠ TI ∧ S ≠ TO ∧ S ≠ i1 ∧ S ≠ i2 ∧ S ≠ l1 ∧ S ≠ l2) (hu : Vals xs us) (hv : Vals ys vs) (hsz : xs.length ≤ sizeLine) :
    ∀ (k i : Nat) (s : Shared) (H : Hp) (acc : Array Value) (c : Nat) (kN : List Addr → Hp → Prop), min xs.length ys.length - i = k → i ≤ min xs.length ys.length → Inv X pins σ H s → (∀ b ∈ [S, z, TO, i1, i2], FpOk X pins H b) → ZS s.heap z TI TO i1 i2 l1 l2 S us.toArray vs.toArray i →
      s.heap.get? S = some { cls := .type "list", dict := none, data := .seq acc c, slots := #[] } → acc.size = i → newPs ((xs.zip ys).drop i) H kN →
      (∀ s' H' Ts c', Inv X pins σ H' s' → s'.heap.get? S = some { cls := .type "list", dict := none, data := .seq (acc ++ (Ts.map Value.ref).toArray) c', slots := #[] } → kN Ts H' → R (.ok (.ret res)) s') →
      codeAny (model X.prog X.w) A (.builtin "list.extend.loop" ⟨[.ref S, .ref z, res], []⟩) R s := by
  have lu := hu.length
  have lv := hv.length
  have inS : ∀ b, b ≠ z → b ≠ TO → b ≠ i1 → b ≠ i2 → b ≠ S → b ∉ [S, z, TO, i1, i2] := fun b c1 c2 c3 c4 c5 m => by simp at m; rcases m with m | m | m | m | m <;> contradiction
  intro k
  induction k with
  | zero =>
    intro i s H acc c kN hk hi I hf Z hl ha hn hR
    have e : i = min xs.length ys.length := by omega
    have hd : (xs.zip ys).drop i = [] := by rw [List.drop_eq_nil_iff, List.length_zip]; omega
    rw [hd] at hn
    refine codeAny_builtin F.entry_extend_loop ?_
    rw [Around.under_plainId F.plain_extend_loop _]
    show wpAny _ A.in1 (pyNext (.ref z) >>= _) _ _ s
    refine wpAny_bind (Z.done (A := A.in1) hh D (by simp only [List.getElem?_toArray]; rcases Nat.le_total xs.length ys.length with q | q; exact .inl (List.getElem?_eq_none (by omega)); exact .inr (List.getElem?_eq_none (by omega))) fun h' kp => wpAny_pure ?_)
    have hl' := kp _ _ hS.1 hS.2.2.1 hS.2.2.2.1 hS.2.2.2.2.1 hl
    exact hR _ H [] c (I.turnedL (t' := s.toks) (ch := [S, z, TO, i1, i2]) (fun b o nb q => kp b o (fun e => nb (by simp [e])) (fun e => nb (by simp [e])) (fun e => nb (by simp [e])) (fun e => nb (by simp [e])) q) hf) (by simpa using hl') hn
  | succ k ih =>
    intro i s H acc c kN hk hi I hf Z hl ha hn hR
    have hlt : i < min xs.length ys.length := by omega
    obtain ⟨x, hx⟩ : ∃ x, xs[i]? = some x := ⟨_, List.getElem?_eq_getElem (by omega)⟩
    obtain ⟨y, hy⟩ : ∃ y, ys[i]? = some y := ⟨_, List.getElem?_eq_getElem (by omega)⟩
    obtain ⟨u, hu1, ru⟩ := hu.get hx
    obtain ⟨v, hv1, rv⟩ := hv.get hy
    have hz : (xs.zip ys)[i]? = some (x, y) := by rw [List.getElem?_zip_eq_some]; exact ⟨hx, hy⟩
    have hd : (xs.zip ys).drop i = (x, y) :: (xs.zip ys).drop (i + 1) := by
      obtain ⟨hl0, e0⟩ := List.getElem?_eq_some_iff.mp hz
      rw [List.drop_eq_getElem_cons hl0, e0]
    rw [hd] at hn
    refine codeAny_builtin F.entry_extend_loop ?_
    rw [Around.under_plainId F.plain_extend_loop _]
    show wpAny _ A.in1 (pyNext (.ref z) >>= _) _ _ s
    have hSlt : S < s.heap.objs.size := Heap.lt_size hl
    refine wpAny_bind (Z.item (A := A.in1) D hSlt (x := u) (y := v) (by simpa using hu1) (by simpa using hv1) fun h' Z' hp hs' kp => ?_)
    have hl' : h'.get? S = _ := kp _ _ hS.1 hS.2.2.1 hS.2.2.2.1 hS.2.2.2.2.1 hl
    show wpAny _ A.in1 (updateSeq S (·.push (.ref s.heap.objs.size)) >>= _) _ _ _
    refine wpAny_bind (wpAny_updateSeq (s := { s with heap := h' }) hl' rfl (wpAny_pure ⟨plainId_quiet F.plain_extend_loop _, ?_⟩) (by omega) (by show (acc.push _).size ≤ sizeLine + 1; rw [Array.size_push]; omega))
    have oth : ∀ b o, b ≠ S → h'.get? b = some o → (h'.update S (Obj.mapSeq (·.push (.ref s.heap.objs.size)))).get? b = some o := fun b o nb e => (Heap.get?_update_other _ _ (Ne.symm nb)).trans e
    have nT : s.heap.objs.size ≠ S := Nat.ne_of_gt hSlt
    have hT2 : (h'.update S (Obj.mapSeq (·.push (.ref s.heap.objs.size)))).get? s.heap.objs.size = some (TupO [u, v]) := oth _ _ nT hp
    have I2 : Inv X pins σ (upd H s.heap.objs.size (.frz (TupO [u, v]) (.tup [x, y]))) { s with heap := h'.update S (Obj.mapSeq (·.push (.ref s.heap.objs.size))) } :=
      I.turnedNew (t' := s.toks) (ch := [S, z, TO, i1, i2]) (fun b o nb q => oth b o (fun e => nb (by simp [e])) (kp b o (fun e => nb (by simp [e])) (fun e => nb (by simp [e])) (fun e => nb (by simp [e])) (fun e => nb (by simp [e])) q)) hf (Nat.le_refl _)
        ⟨hT2, by show 2 ≤ sizeLine; decide, [u, v], .cons ru (.cons rv .nil), ⟨_, hT2, rfl, _, rfl⟩⟩
    have hf2 : ∀ b ∈ [S, z, TO, i1, i2], FpOk X pins (upd H s.heap.objs.size (.frz (TupO [u, v]) (.tup [x, y]))) b := fun b m => by
      obtain ⟨f0, f1, f2, f3, f4, f5⟩ := hf b m
      refine ⟨?_, f1, f2, f3, f4, f5⟩
      have lt : b < s.heap.objs.size := by
        simp only [List.mem_cons, List.not_mem_nil, or_false] at m
        rcases m with m | m | m | m | m
        · rw [m]; exact hSlt
        · rw [m]
          rcases Z.st with ⟨q, _⟩ | ⟨_, _, _, q, _⟩ <;> exact Heap.lt_size q
        · rw [m]; obtain ⟨_, q⟩ := Z.tO; exact Heap.lt_size q
        · rw [m]; obtain ⟨_, q, _⟩ := Z.it1; exact Heap.lt_size q
        · rw [m]; obtain ⟨_, q, _⟩ := Z.it2; exact Heap.lt_size q
      rw [upd_ne (Nat.ne_of_lt lt)]
      exact f0
    have Z2 := Z'.keeps D hS oth
    refine ih (i + 1) _ _ (acc.push (.ref s.heap.objs.size)) _ _ (by omega) hlt I2 hf2 Z2 (Heap.get?_update_self _ hl' rfl) (by rw [Array.size_push, ha]) (hn _ [u, v] (I.hok.fresh (Nat.le_refl _))) fun s' H' Ts c' J q1 q2 => ?_
    refine hR s' H' (s.heap.objs.size :: Ts) c' J ?_ q2
    rw [q1]
    simp
/-- all of a zip's pairs in a list -/
theorem zip_collect {A : Around} {s : Shared} {H : Hp} {Q : List Value → Shared → Prop} {E : Value → Shared → Prop} {us vs : List Value} {xs ys : List V} (hh : A.handled = none) (D : ZipApart z TI TO i1 i2 l1 l2) (I : Inv X pins σ H s) (hf : ∀ b ∈ [z, TO, i1, i2], FpOk X pins H b)
    (Z : ∀ S, s.heap.objs.size ≤ S → ZS s.heap z TI TO i1 i2 l1 l2 S us.toArray vs.toArray 0) (hz : IsZip s.heap z TI TO .none) (hu : Vals xs us) (hv : Vals ys vs) (hsz : xs.length ≤ sizeLine) (hn : newPs (xs.zip ys) H fun Ts H' => ∀ s', Inv X pins σ H' s' → Q (Ts.map Value.ref) s') :
    wpAny (model X.prog X.w) A (collect (.ref z)) Q E s := by
  have old : ∀ b o, s.heap.get? b = some o → s.heap.objs.size ≠ b := fun b o e => Nat.ne_of_gt (Heap.lt_size e)
  have Z0 := Z _ (Nat.le_refl _)
  have hS : s.heap.objs.size ≠ z ∧ s.heap.objs.size ≠ TI ∧ s.heap.objs.size ≠ TO ∧ s.heap.objs.size ≠ i1 ∧ s.heap.objs.size ≠ i2 ∧ s.heap.objs.size ≠ l1 ∧ s.heap.objs.size ≠ l2 := by
    obtain ⟨o1, e1⟩ := Z0.tO
    obtain ⟨o2, e2, _⟩ := Z0.it1
    obtain ⟨o3, e3, _⟩ := Z0.it2
    obtain ⟨o4, e4, _⟩ := Z0.t1
    obtain ⟨o5, e5, _⟩ := Z0.t2
    exact ⟨old _ _ hz, old _ _ Z0.ti, old _ _ e1, old _ _ e2, old _ _ e3, old _ _ e4, old _ _ e5⟩
  have ty : ∀ h', IsZip h' z TI TO .none → ∀ t', ({ s with heap := h', toks := t' } : Shared).TypeIs (.ref z) "zip" := fun h' e t' => ⟨_, e, rfl⟩
  unfold collect
  refine wpAny_bind (wpAny_runValue (codeAny_builtin F.entry_proto_collect ?_))
  rw [Around.under_plainId F.plain_proto_collect _]
  show wpAny _ A.in1 (newList [] >>= fun l => again (.builtin "list.__iadd__" ⟨[l, .ref z], []⟩)) _ _ s
  refine wpAny_bind (wpAny_newObj_type (wpAny_pure ⟨plainId_quiet F.plain_list_iadd _, codeAny_builtin F.entry_list_iadd ?_⟩))
  rw [Around.under_plainId F.plain_list_iadd _]
  show wpAny _ A.in1 (Builtin.List.listExtendWith (.ref s.heap.objs.size) (.ref z) (.ref s.heap.objs.size)) _ _ _
  have z1 : IsZip (s.heap.push { cls := .type "list", data := .seq ([] : List Value).toArray }) z TI TO .none := Heap.get?_push_of_some _ hz
  unfold Builtin.List.listExtendWith
  refine wpAny_bind (wpAny_typeOf (ty _ z1 _) ?_)
  have h1 : Builtin.List.listSameRef (.ref s.heap.objs.size) (.ref z) = false := by simp [Builtin.List.listSameRef, hS.1]
  have h2 : (Value.type "zip" == Value.type "list") = false := by decide
  have h3 : (Value.type "zip" == Value.type "tuple") = false := by decide
  simp only [h1, h2, h3, Bool.or_false, Bool.false_eq_true, if_false]
  refine wpAny_bind (wpAny_pyIter_zip z1 (wpAny_bind (wpAny_holding ?_)))
  unfold Builtin.List.listLengthHint
  refine wpAny_bind (wpAny_specialOf (ty _ z1 _) (show typeLookup (.type "zip") "__len__" = pure none from am_miss_of_fast (by decide +kernel)) ?_)
  show wpAny _ A.in1 (specialOf (Value.ref z) (Str.ofString "__length_hint__") >>= _) _ _ _
  refine wpAny_bind (wpAny_specialOf (ty _ z1 _) (show typeLookup (.type "zip") "__length_hint__" = pure none from am_miss_of_fast (by decide +kernel)) (wpAny_pure ?_))
  show wpAny _ A.in1 (rule "list.extend.makes-room" >>= fun _ => Builtin.List.listTouch (.ref s.heap.objs.size) >>= fun _ => again (.builtin "list.extend.loop" ⟨[.ref s.heap.objs.size, .ref z, .ref s.heap.objs.size], []⟩)) _ _ _
  refine wpAny_bind (wpAny_rule (wpAny_bind ?_))
  have hS1 : (s.heap.push { cls := .type "list", data := .seq ([] : List Value).toArray }).get? s.heap.objs.size = some { cls := .type "list", dict := none, data := .seq ([] : List Value).toArray, slots := #[] } := Heap.get?_push_size _ rfl
  show wpAny _ A.in1 (updateSeq s.heap.objs.size (·.push .none) >>= fun _ => updateSeq s.heap.objs.size (·.pop)) _ _ _
  refine wpAny_bind (wpAny_updateSeq hS1 rfl ?_)
  have hS2 := Heap.get?_update_self (Obj.mapSeq (·.push Value.none)) hS1 rfl
  refine wpAny_updateSeq hS2 rfl ?_
  have hS3 := Heap.get?_update_self (Obj.mapSeq (·.pop)) hS2 rfl
  have oth : ∀ b o, s.heap.get? b = some o → (((s.heap.push { cls := .type "list", data := .seq ([] : List Value).toArray }).update s.heap.objs.size (Obj.mapSeq (·.push Value.none))).update s.heap.objs.size (Obj.mapSeq (·.pop))).get? b = some o :=
    fun b o e => (Heap.get?_update_other _ _ (old _ _ e)).trans ((Heap.get?_update_other _ _ (old _ _ e)).trans (Heap.get?_push_of_some _ e))
  have I1 : Inv X pins σ H { s with heap := ((s.heap.push { cls := .type "list", data := .seq ([] : List Value).toArray }).update s.heap.objs.size (Obj.mapSeq (·.push Value.none))).update s.heap.objs.size (Obj.mapSeq (·.pop)) } := I.kept (t' := s.toks) oth
  have hf1 : ∀ b ∈ [s.heap.objs.size, z, TO, i1, i2], FpOk X pins H b := fun b m => by
    rcases List.mem_cons.mp m with rfl | m
    · exact I.fpOk (Nat.le_refl _) (I.hok.fresh (Nat.le_refl _))
    · exact hf b m
  refine wpAny_pure ⟨plainId_quiet F.plain_extend_loop _, zip_fill (A := A) (xs := xs) (ys := ys) (us := us) (vs := vs) hh D hS hu hv hsz _ 0 _ H #[] _ (fun Ts H' => ∀ s', Inv X pins σ H' s' → Q (Ts.map Value.ref) s') rfl (Nat.zero_le _) I1 hf1 (Z0.keeps D hS fun b o _ e => oth b o e) hS3 rfl hn fun s' H' Ts c' J q1 q2 => ?_⟩
  show wpAny _ A (load s.heap.objs.size >>= _) _ _ s'
  refine wpAny_bind (wpAny_load q1 (wpAny_pure ?_))
  have := q2 s' J
  simpa using this
end
end Ev

set_option Elab.async false
set_option linter.all false
set_option maxRecDepth 100000
set_option maxHeartbeats 2000000
/-! Ev, part 24: tuple(zip(t, u)), the rule and its reading. -/
namespace Ev
open PySem PySem.Spec PyProof.Rows L2

theorem newPs_imp : ∀ {l : List (V × V)} {H : Hp} {k k' : List Addr → Hp → Prop}, (∀ Ts H', Ts.length = l.length → k Ts H' → k' Ts H') → newPs l H k → newPs l H k'
  | [], _, _, _, i, h => i _ _ rfl h
  | _ :: r, _, _, _, i, h => fun T us hT => newPs_imp (l := r) (fun Ts H' hl q => i _ _ (by simp [hl]) q) (h T us hT)
section
variable {X : Cx} {pins : List (Addr × Obj)} {σ : L2.St} {z TI TO i1 i2 l1 l2 : Addr} {A : Around} {s : Shared} {H : Hp} {E : Value → Shared → Prop} {us vs : List Value} {xs ys : List V}
theorem tuple_new_zip {Q₁ : Value → Shared → Prop} (hh : A.handled = none) (D : ZipApart z TI TO i1 i2 l1 l2) (I : Inv X pins σ H s) (hf : ∀ b ∈ [z, TO, i1, i2], FpOk X pins H b) (Z : ∀ S, s.heap.objs.size ≤ S → ZS s.heap z TI TO i1 i2 l1 l2 S us.toArray vs.toArray 0)
    (hz : IsZip s.heap z TI TO .none) (hu : Vals xs us) (hv : Vals ys vs) (hsz : xs.length ≤ sizeLine) (hn : newPs (xs.zip ys) H fun Ts H' => ∀ s', Inv X pins σ H' s' → Q₁ (.ref s'.heap.objs.size) { s' with heap := s'.heap.push (TupO (Ts.map Value.ref)) }) :
    codeAny (model X.prog X.w) A (.call (.builtin "tuple.__new__") ⟨[.type "tuple", .ref z], []⟩) (wants Q₁ E) s := by
  refine codeAny_of_tree ?_
  show wpAny _ A.in1 (do checkBuiltinCall "tuple.__new__" ⟨[.type "tuple", .ref z], []⟩; again (.builtin "tuple.__new__" ⟨[.type "tuple", .ref z], []⟩)) _ _ s
  refine wpAny_bind (wpAny_of_eq (F.newCall_tuple_1 _) (wpAny_pure ⟨plainId_quiet F.plain_tuple_new _, codeAny_builtin F.entry_tuple_new ?_⟩))
  rw [Around.under_plainId F.plain_tuple_new _]
  have hsub := sub_tuple_self
  have hinit := init_tuple_lookup
  have hmh := madeHere_tuple
  have hTI : s.TypeIs (.ref z) "zip" := ⟨_, hz, rfl⟩
  have hh1 : A.in1.handled = none := hh
  wp_walk using wpAny_typeOf hTI, zip_collect (A := A.in1) hh1 D I hf Z hz hu hv hsz
  refine newPs_imp (fun Ts H' hl q s' J => ?_) hn
  have q' := q s' J
  show wpAny _ _ (Builtin.Tuple.tupleExact (Ts.map Value.ref).toArray >>= fun v => ret v) _ _ _
  unfold Builtin.Tuple.tupleExact
  refine wpAny_bind (wpAny_newObj_type (wpAny_pure q') ?_)
  show (Ts.map Value.ref).toArray.size ≤ sizeLine
  rw [List.size_toArray, List.length_map, hl, List.length_zip]
  omega
theorem call_tuple_zip {Q : Value → Shared → Prop} (hh : A.handled = none) (D : ZipApart z TI TO i1 i2 l1 l2) (I : Inv X pins σ H s) (hf : ∀ b ∈ [z, TO, i1, i2], FpOk X pins H b) (Z : ∀ S, s.heap.objs.size ≤ S → ZS s.heap z TI TO i1 i2 l1 l2 S us.toArray vs.toArray 0)
    (hz : IsZip s.heap z TI TO .none) (hu : Vals xs us) (hv : Vals ys vs) (hsz : xs.length ≤ sizeLine) (hn : newPs (xs.zip ys) H fun Ts H' => ∀ s', Inv X pins σ H' s' → Q (.ref s'.heap.objs.size) { s' with heap := s'.heap.push (TupO (Ts.map Value.ref)) }) :
    wpAny (model X.prog X.w) A (call (.type "tuple") [.ref z]) Q E s := by
  refine callType_codes (Q₁ := fun obj s₁ => s₁.TypeIs obj "tuple" ∧ Q obj s₁) F.called_tuple (F.typeCall_tuple_1 _) F.entry_object_init
    (tuple_new_zip (A := A.in1) hh D I hf Z hz hu hv hsz (newPs_imp (fun Ts H' _ q s' J => ⟨⟨_, Heap.get?_push_size _ rfl, rfl⟩, q s' J⟩) hn)) fun obj s₁ h₁ => ?_
  exact ⟨h₁.1, F.args_object_init_2 obj _, object_init_meets F.called_tuple.init.lookup F.called_tuple.made (by decide) X.prog X.w A.in1 _ s₁ ⟨h₁.1, rfl, h₁.2⟩⟩
end
section
variable {X : Cx} {e1 e2 : Expr} {ta : TA} {p p2 q pos : Pos}
def rTupZip (K : PySem.W.Frag) : List V → Hp → VK → Prop := fun vs H Q => ∃ (a b : Addr) (xs ys : List V), vs = [.ref a, .ref b] ∧ SqT K H a xs ∧ SqT K H b ys ∧ newPs (xs.zip ys) H fun Ts H' => newT H' (Ts.map V.ref) Q
theorem vals_refs : ∀ Ts : List Addr, Vals (Ts.map V.ref) (Ts.map Value.ref)
  | [] => .nil
  | T :: r => .cons rfl (vals_refs r)
theorem pe_tupZip (hc : X.calm = true) (hg : Gl X "tuple") (hm : X.mg "tuple" = none) (hg2 : Gl X "zip") (hm2 : X.mg "zip" = none) (ha : PA X [e1, e2] ta) (hs : starEach [e1, e2] X.env = (false, eval e1 X.env) :: starEach [e2] X.env) (hpl : (backTo q (starEach [e2] X.env)).any (·.1) = false) :
    PE X (.Call (.Name "tuple" p) [.Call (.Name "zip" p2) [e1, e2] [] q] [] pos) (tCB (rTupZip X.K) ta) := by
  refine ⟨fun pins s σ H Q I h => ?_⟩
  have na : starEach [.Call (.Name "zip" p2) [e1, e2] [] q] X.env = (false, eval (.Call (.Name "zip" p2) [e1, e2] [] q) X.env) :: starEach [] X.env := rfl
  refine Call_ (ld_blt I hg hm boot_tuple (PyProof.Rows.callWith_type1 (args_cons ?_ na) na))
  refine Call_ (ld_blt I hg2 hm2 PyProof.Rows.boot_zip (PyProof.Rows.callWith_type1 (thn (ha.run q pins s σ H _ I h) fun us s1 ⟨vs, H1, I1, r1, q1⟩ => ?_) hs hpl))
  obtain ⟨a, b, xs, ys, ex, hqx, hqy, q1⟩ := q1
  subst ex
  obtain ⟨u1, u2, rfl, r, r'⟩ := vals2 r1
  cases r
  cases r'
  obtain ⟨its, rv, p1, hzx⟩ := I1.tuple hqx
  obtain ⟨its2, rv2, p2', _⟩ := I1.tuple hqy
  refine RZ.call_zipT p1 p2' fun h' hz hTI hTO h1 h2 hsz hk => args_nil ?_
  have I2 : Inv X pins σ H1 { s1 with heap := h' } := I1.kept (t' := s1.toks) hk
  have la : a < s1.heap.objs.size := p1.lt
  have lb : b < s1.heap.objs.size := p2'.lt
  refine call_tuple_zip (s := { s1 with heap := h' }) (I2.ok.hd hc) (PySem.W.ktu_apart s1.heap.objs.size a b la lb) I2 (fun c hcm => ?_) (fun S hS => ⟨hTI, h1, h2, p1.keeps hk, p2'.keeps hk, ⟨_, hTO⟩, .inl ⟨hz, _, _, hTO⟩⟩) hz rv rv2 hzx (newPs_imp (fun Ts H' hl k s' J => ?_) q1)
  · have hle : s1.heap.objs.size ≤ c := by
      simp only [List.mem_cons, List.not_mem_nil, or_false] at hcm
      rcases hcm with z | z | z | z <;> (rw [z]; first | exact Nat.le_refl _ | exact Nat.le_add_right _ _)
    exact I1.fpOk hle (I1.hok.fresh hle)
  · exact tup_new (tk := s'.toks) J (vals_refs Ts) (by rw [List.length_map, hl, List.length_zip]; omega) k
end
/-! ### the reading -/
def tupD : List D → List D → List D
  | d :: r, e :: t => .tup [d, e] :: tupD r t
  | _, _ => []
def pTupZip (ds : List D) (S : Sto) : R D := match ds with
  | [x, y] => match deref S x, deref S y with
    | .tup es, .tup fs => .ok (.tup (tupD es fs)) S
    | _, _ => .bad
  | _ => .bad
section
variable {C : Cfg} {ρ hid : List Addr} {S : Sto}
theorem newPs_ev {Q : VK} {XX : XP} : ∀ {es fs : List D} {xs ys : List V} {H : Hp} {done : List D} {doneV : List V}, StoOk C hid ρ H S → RlAll C ρ hid H es xs → RlAll C ρ hid H fs ys → RlAll C ρ hid H done doneV → doneV.length + xs.length ≤ sizeLine →
    okR C hid ρ H (.ok (.tup (done ++ tupD es fs)) S) (PostE C hid Q) XX → newPs (xs.zip ys) H fun Ts H' => newT H' (doneV ++ Ts.map V.ref) Q
  | [], fs, xs, ys, H, done, doneV, s, r1, r2, r3, hz, h => by
    cases r1
    simp only [List.zip_nil_left, newPs, List.map_nil, List.append_nil]
    simp only [tupD, List.append_nil] at h
    exact lay_tup s r3 (by simpa using hz) h
  | e :: es, [], xs, ys, H, done, doneV, s, r1, r2, r3, hz, h => by
    cases r2
    simp only [List.zip_nil_right, newPs, List.map_nil, List.append_nil]
    simp only [tupD, List.append_nil] at h
    exact lay_tup s r3 (by omega) h
  | e :: es, f :: fs, xs, ys, H, done, doneV, s, r1, r2, r3, hz, h => by
    cases r1 with
    | cons q1 r1 =>
      cases r2 with
      | cons q2 r2 =>
        rename_i v vs w ws
        intro T us hT
        have ex : Ext ρ H ρ (upd H T (.frz (TupO us) (.tup [v, w]))) := .laid hT
        have new : Rl C ρ hid (upd H T (.frz (TupO us) (.tup [v, w]))) (.tup [e, f]) (.ref T) :=
          .tup (.inl ⟨⟨⟨us, upd_same⟩, by show 2 ≤ sizeLine; decide⟩, s.fresh hT⟩) (.cons (q1.ext ex) (.cons (q2.ext ex) .nil))
        have h' : okR C hid ρ (upd H T (.frz (TupO us) (.tup [v, w]))) (.ok (.tup ((done ++ [.tup [e, f]]) ++ tupD es fs)) S) (PostE C hid Q) XX := by
          rw [List.append_assoc]
          exact fun ρ' H' e' s' => h ρ' H' (ex.trans e') s'
        have := newPs_ev (s.laid hT _) (r1.ext ex) (r2.ext ex) ((r3.ext ex).append (.cons new .nil)) (by simp only [List.length_append, List.length_cons, List.length_nil] at hz ⊢; omega) h'
        refine newPs_imp (fun Ts H' _ q => ?_) this
        simpa using q
end
theorem p_tupZip {C : Cfg} : PAOk C (rTupZip C.K) pTupZip := by
  intro ρ hid H S ds vs Q XX s r h
  unfold pTupZip at h
  split at h
  · rename_i x y
    obtain ⟨v, w, rfl, rv, rw'⟩ := two_of r
    split at h
    · rename_i es fs ex ey
      obtain ⟨a, xs, rfl, hA, ra⟩ := rd_tup rv ex
      obtain ⟨b, ys, rfl, hB, rb⟩ := rd_tup rw' ey
      have := newPs_ev (done := []) (doneV := []) s ra rb .nil (by simpa using hA.size) h
      exact ⟨a, b, xs, ys, rfl, hA.sq, hB.sq, by simpa using this⟩
    · exact h.elim
  · exact h.elim
end Ev

set_option Elab.async false
set_option linter.all false
set_option maxRecDepth 100000
set_option maxHeartbeats 1000000
/-! Ev: promises of defs that are called where no repr is under way (the layer's FnOk says nothing of the guards; repr of lists and tuples asks them). The proofs follow the layer's own of FnOk. -/
namespace Ev
open PySem PySem.Spec PyProof.Rows L2

structure FnG (P : Program) (w : World) (K : PySem.W.Frag) (mg : Str → Option Value) (base : Heap) (CX : CXT) (k : Nat) (f : Addr) (fd : FuncData) (ps : List Str) (sp : Sp) : Prop where
  len : ∀ vs H Q E, sp vs H Q E → vs.length = ps.length
  run : ∀ (A : Around) (outer : List Env) (s : Shared) (H : Hp) (args : Args) (us : List Value) (vs : List V) (Q : VK) (E : XK), Room k A → A.guards = some [] → Env0 P w K mg base A outer s H → BindsTo s fd args (ps.zip us) → Vals vs us → sp vs H Q E →
    codeAny (model P w) A (.call (.ref f) args) (CR CX outer P w H s Q E) s
theorem guards_deeper {A : Around} {env : Env} (h : A.guards = some []) : (A.deeper env).guards = some [] := h
section
variable {CX : CXT} {P : Program} {w : World} {K : PySem.W.Frag} {mg : Str → Option Value} {base : Heap} {k : Nat} {f : Addr} {fd : FuncData} {ps N : List Str} {sp : Sp}
theorem fnG_of {name qual : Str} {params : Arguments} {body : List Stmt} {scope : Scope} {dV kV doc pm cdv ct oc : Value} {an od : Option Addr} {osl : Array (Option Value)}
    (lk : K.lookup f = some ⟨oc, od, .func (PySem.W.fnOf name qual params body scope dV kV doc pm an cdv ct), osl⟩) (hcd : PySem.W.codeIn K cdv qual = true) (S : FnScope N ps scope) (len : ∀ vs H Q E, sp vs H Q E → vs.length = ps.length)
    (hbody : ∀ (A : Around) (outer : List Env) (s : Shared) (H : Hp) (vs : List V) (Q : VK) (E : XK), Room k (A.deeper (envOfC qual scope s.heap.objs.size f cdv)) → A.guards = some [] → sp vs H Q E →
      ∃ t, PSs (cxOf CX P w K mg base N qual scope f cdv A outer s H E) body t ∧ t { nx := fun _ H' => Q .non H', rt := Q } (L2.start N vs) H) :
    FnG P w K mg base CX (k + 1) f (PySem.W.fnOf name qual params body scope dV kV doc pm an cdv ct) ps sp := by
  refine ⟨len, fun A outer s H args us vs Q E room gd e0 hb r hsp => ?_⟩
  have below : ∀ b o, base.get? b = some o → s.heap.get? b = some o := fun b o e => (e0.bs b o e).1
  have kin : K.In s.heap := e0.mod.kin.keeps below
  have place : ∀ y ∈ ps.zip us, scope.names.lookup y.1 = some .local ∨ (scope.names.lookup y.1 = some .cell ∧ ((cellsFrom (s.heap.objs.size + 1) scope.names []).lookup y.1).isSome = true) := by
    rintro ⟨n, v⟩ hy
    have q := S.par n (List.of_mem_zip hy).1
    exact q.imp id fun q => ⟨q, PySem.W.cellsFrom_some _ _ _ (.inl q)⟩
  refine codeAny_call_function room.depth (kin _ _ lk) rfl S.co S.gen rfl (PySem.W.codeRec_of kin hcd) (hb _ _ _ _ (wpAny_newFunctionEnv_cells S.kind place fun env he s1 x => ?_))
  subst he
  refine ⟨(e0.mod.nolimit.keeps below).keeps x.toInCall.keep, codeAny_func ?_⟩
  obtain ⟨t, ht, hq⟩ := hbody A outer s H vs Q E (room.deeper _) gd hsp
  refine wpAny_mono (ht.run [] s1 _ H _ (inv_start S room.hd e0 (len _ _ _ _ hsp) r x) hq) (fun fl s' hs => ?_) fun e s' hs => hs
  cases fl with
  | ret u =>
    obtain ⟨v, σ', H', J, rv, q⟩ := hs
    exact ⟨v, H', J.os, J.bare, J.base, J.hok, rv, q⟩
  | next =>
    obtain ⟨σ', H', J, q⟩ := hs
    exact ⟨V.non, H', J.os, J.bare, J.base, J.hok, rfl, q⟩
  | brk =>
    obtain ⟨_, _, _, q⟩ := hs
    exact (show False from q).elim
  | cont =>
    obtain ⟨_, _, _, q⟩ := hs
    exact (show False from q).elim
theorem fnG_ofD {x qual : Str} {params : Arguments} {body : List Stmt} {scope : Scope} {dvs : List V} {kws : List (Str × V)} (F : FunD K x qual params body scope dvs kws f fd) (S : FnScope N ps scope) (len : ∀ vs H Q E, sp vs H Q E → vs.length = ps.length)
    (hbody : ∀ (cdv : Value) (A : Around) (outer : List Env) (s : Shared) (H : Hp) (vs : List V) (Q : VK) (E : XK), Room k (A.deeper (envOfC qual scope s.heap.objs.size f cdv)) → A.guards = some [] → sp vs H Q E →
      ∃ t, PSs (cxOf CX P w K mg base N qual scope f cdv A outer s H E) body t ∧ t { nx := fun _ H' => Q .non H', rt := Q } (L2.start N vs) H) : FnG P w K mg base CX (k + 1) f fd ps sp := by
  obtain ⟨oc, od, dV, kV, doc, pm, an, cdv, ct, osl, rfl, lk, hcd, _, _⟩ := F.ex
  exact fnG_of lk hcd S len fun A outer s H vs Q E => hbody cdv A outer s H vs Q E
end
section
variable {X : Cx} {CX : CXT} {k : Nat} {f : Addr} {fd : FuncData} {ps : List Str} {sp : Sp} {dvs : List V} {ds : List Value} {E : L2.St → XK} {x : Str} {p pos : Pos} {e : Expr} {es : List Expr} {t : TA}
theorem run_fnG {pins : List (Addr × Obj)} {σ : L2.St} {H : Hp} {s : Shared} {Q : VK} {us : List Value} {vs : List V} (F : FnG X.prog X.w X.K X.mg X.base CX k f fd ps sp) (hr : Room k X.A) (gd : X.A.guards = some []) (hb : L2.Binds X.K fd ps ds) (hd : Vals dvs ds) (hx : PassesAt CX X σ (E σ))
    (I : Inv X pins σ H s) (r : Vals vs us) (h : sp (vs ++ dvs) H Q (E σ)) : wpAny (model X.prog X.w) X.A (call (.ref f) us) (EP X pins σ Q) X.xe s := by
  have r2 : Vals (vs ++ dvs) (us ++ ds) := r.append hd
  have hl : (us ++ ds).length = ps.length := by rw [← r2.length]; exact F.len _ _ _ _ h
  refine wpAny_call (codeAny_mono (F.run X.A X.stack s H ⟨us, []⟩ (us ++ ds) _ Q (E σ) hr gd I.env0 (hb s us I.kIn hl) r2 h) fun r s' hq => ?_)
  cases r with
  | error e => exact hx pins H s e s' I hq
  | ok fl =>
    cases fl with
    | ret u => exact I.after hq
    | next => exact hq.elim
    | brk => exact hq.elim
    | cont => exact hq.elim
theorem pe_callG0 (F : FnG X.prog X.w X.K X.mg X.base CX k f fd ps sp) (hr : Room k X.A) (gd : X.A.guards = some []) (hg : Gl X x) (hm : X.mg x = some (.ref f)) (hk : PySem.W.keepIn X.K (.ref f) = true) (hb : L2.Binds X.K fd ps ds) (hd : Vals dvs ds) (hx : ∀ σ, PassesAt CX X σ (E σ))
    (hdb : (x == ("__debug__" : Str)) = false) : PE X (.Call (.Name x p) [] [] pos) (tCallSD sp dvs E tNil) := by
  refine ⟨fun pins s σ H Q I h => ?_⟩
  refine wpAny_Call_Name_kw (ld_glob I hg hm ?_ hdb)
  exact PySem.W.callWith_K0 I.kIn hk (run_fnG (us := []) F hr gd hb hd (hx σ) I .nil h)
theorem pe_callG (F : FnG X.prog X.w X.K X.mg X.base CX k f fd ps sp) (hr : Room k X.A) (gd : X.A.guards = some []) (hg : Gl X x) (hm : X.mg x = some (.ref f)) (hk : PySem.W.keepIn X.K (.ref f) = true) (hb : L2.Binds X.K fd ps ds) (hd : Vals dvs ds) (hx : ∀ σ, PassesAt CX X σ (E σ))
    (ha : PA X (e :: es) t) (hdb : (x == ("__debug__" : Str)) = false) (he : starEach (e :: es) X.env = (false, eval e X.env) :: starEach es X.env) (hpl : (backTo pos (starEach es X.env)).any (·.1) = false) :
    PE X (.Call (.Name x p) (e :: es) [] pos) (tCallSD sp dvs E t) := by
  refine ⟨fun pins s σ H Q I h => ?_⟩
  refine wpAny_Call_Name_kw (ld_glob I hg hm ?_ hdb)
  refine PySem.W.callWith_K (h₀ := X.base) I.ok.mod.kin hk (thn (ha.run pos pins s σ H _ I h) fun us s1 ⟨vs, H1, I1, r, q⟩ => ⟨I1.kIn, ?_⟩) he hpl
  exact run_fnG F hr gd hb hd (hx σ) I1 r q
end
/-- the law's own call -/
theorem law_callG {P : Program} {w : World} {K : PySem.W.Frag} {mg mb : Str → Option Value} {CX : CXT} {k : Nat} {fa a : Addr} {fd : FuncData} {x : Str} {sp : Sp} {s₁ : Shared} {vs : List Value} {ns : List Int}
    (KX : K.In s₁.heap) (hns : s₁.heap.Ns mainGlobals mg) (hb : s₁.heap.Ns builtinsNs mb) (hbb : ∀ x : Str, x ≠ "__name__" → mb x = bootBuiltins x) (hlim : s₁.heap.NoLimit) (hg : s₁.gens = #[])
    (ha : s₁.heap.get? a = some { cls := .type "list", data := .seq vs.toArray }) (hi : IntsAre vs ns) (hl : ns.length ≤ sizeLine) (hr : Room k callerA)
    (F : ∀ base : Heap, K.In base → base.Ns mainGlobals mg → FnG P w K mg base CX k fa fd [x] sp) (hbind : ∀ (s : Shared) (u : Value), BindsTo s fd ⟨[u], []⟩ [(x, u)])
    (hsp : ∀ H : Hp, L2.Only H → SqL K H a (ns.map V.int) → sp [.ref a] H (fun v _ => v = .bl true) fun _ _ _ => False)
    (hCX : ∀ H e s', CX [] H s₁ (fun _ _ _ => False) e s' → False) :
    codeAny (model P w) callerA (.call (.ref fa) ⟨[.ref a], []⟩) (fun r s' => r = .ok (.ret (.bool true)) ∧ OldK s₁.heap s'.heap ∧ s'.os = s₁.os ∧ AllBare s'.gens) s₁ := by
  have rv := vals_ints hi
  have lenV := hi.length
  have core : ∀ H : Hp, L2.Only H → SqL K H a (ns.map V.int) → HOk P w H s₁.heap → (∀ b, H b ≠ none → b = a) → (H a ≠ none → K.lookup a = none) →
      codeAny (model P w) callerA (.call (.ref fa) ⟨[.ref a], []⟩) (fun r s' => r = .ok (.ret (.bool true)) ∧ OldK s₁.heap s'.heap ∧ s'.os = s₁.os ∧ AllBare s'.gens) s₁ := by
    intro H hO hS hok hA hK
    have free : ∀ {b : Addr}, b ≠ a → H b = none := fun {b} n => by
      cases q : H b with
      | none => rfl
      | some u => exact (n (hA b (by rw [q]; simp))).elim
    have noA : ∀ {b : Addr} {o : Obj} {es : Array DictEntry} {ep : Nat}, s₁.heap.get? b = some o → o.data = .dict es ep → H b = none := fun {b o es ep} e d => free fun e' => by
      subst e'
      rw [ha] at e
      cases e
      exact nomatch (show Data.seq vs.toArray _ = Data.dict es ep from d)
    have nsK : ∀ {b : Addr} {m : Str → Option Value}, s₁.heap.Ns b m → (hidT s₁.heap H).Ns b m := fun {b m} ⟨o, es, ep, e, d, r⟩ => ⟨o, es, ep, hidT_get e (noA e d), d, r⟩
    have hKb : K.In (hidT s₁.heap H) := fun b o e => by
      refine hidT_get (KX b o e) ?_
      by_cases n : b = a
      · subst n
        cases q : H b with
        | none => rfl
        | some u => rw [hK (by rw [q]; simp)] at e; cases e
      · exact free n
    have e0 : Env0 P w K mg (hidT s₁.heap H) callerA [] s₁ H :=
      ⟨rfl, ⟨hKb, nsK hns, ⟨mb, nsK hb, hbb⟩, let ⟨mc, h1, h2⟩ := hlim; ⟨mc, nsK h1, h2⟩⟩, fun b o e => of_hidT e, Nat.le_of_eq (hidT_size _ _), trivial, fun b hb => absurd (show b ∈ ([] : List Addr) from hb) (by simp), hok, .of_eq hg⟩
    refine codeAny_mono ((F _ hKb (nsK hns)).run callerA [] s₁ H ⟨[.ref a], []⟩ [.ref a] [.ref a] _ _ hr rfl e0 (hbind s₁ (.ref a)) (.cons rfl .nil) (hsp H hO hS)) fun r s' h => ?_
    cases r with
    | error e => exact (hCX H e s' h).elim
    | ok fl =>
      cases fl with
      | next => exact h.elim
      | brk => exact h.elim
      | cont => exact h.elim
      | ret u =>
        obtain ⟨v, H', os, bare, un, hok', r', q⟩ := h
        obtain rfl : v = .bl true := q
        obtain rfl : u = Value.bool true := r'
        refine ⟨rfl, OldK.of_keep fun b o e => ?_, os, bare⟩
        cases q : H b with
        | none => exact un.keep b o e q (fun z => nomatch z) (by simp)
        | some u =>
          rcases hO b with z | ⟨ob, xs, z⟩
          · rw [q] at z; cases z
          · obtain ⟨e1, _⟩ := hok b _ z
            obtain ⟨e2, _⟩ := hok' b _ (un.frzs b ob _ z)
            rw [e] at e1; cases e1
            exact e2
  cases hk : K.lookup a with
  | some o =>
    have e := KX a o hk
    rw [ha] at e
    cases e
    exact core (fun _ => none) (fun _ => .inl rfl) (.inr ⟨_, vs.toArray, _, hk, rfl, rfl, rfl, by rw [List.size_toArray, lenV]; exact hl, by simpa using rv⟩) (fun b u z => nomatch (show (none : Option HO) = some u from z)) (fun b z => absurd rfl z) fun z => absurd rfl z
  | none =>
    refine core (fun b => if b = a then some (.frz { cls := .type "list", data := .seq vs.toArray } (.lst (ns.map V.int))) else none) (fun b => ?_) (.inl (.inr ⟨{ cls := .type "list", data := .seq vs.toArray }, if_pos rfl⟩)) (fun b u z => ?_) (fun b z => ?_) fun _ => hk
    · by_cases hb : b = a
      · exact .inr ⟨_, _, if_pos hb⟩
      · exact .inl (if_neg hb)
    · by_cases hb : b = a
      · subst hb
        cases (if_pos rfl).symm.trans z
        exact ⟨ha, by rw [List.length_map]; exact hl, vs, _, rv, ha⟩
      · exact nomatch (if_neg hb).symm.trans z
    · by_cases hb : b = a
      · exact hb
      · exact absurd (if_neg hb) z
theorem walk_ofG {l : PySem.W.OpenLaw} {n k : Nat} {q : Program} {loose : List Str} {XP : (Str → Option Value) → Heap → Prop} {YP : World → Heap → Prop} {d : DefRec} {CX : CXT} {x : Str}
    (hn : l.most = some n) (hn2 : n ≤ sizeLine) (hdf : d.params.defaults = []) (hr : Room k callerA)
    (F : ∀ (w : World) (mg : Str → Option Value) (fa : Addr) (h : Heap), YP w h → h.Ns mainGlobals mg → mg d.name = some (.ref fa) →
      ∃ (K : PySem.W.Frag) (CX : CXT) (fd : FuncData) (sp : Sp), K.In h ∧ (∀ (s : Shared) (u : Value), BindsTo s fd ⟨[u], []⟩ [(x, u)]) ∧
        (∀ (H : Hp) (a : Addr) (ns : List Int), ns.length ≤ n → L2.Only H → SqL K H a (ns.map V.int) → sp [.ref a] H (fun v _ => v = .bl true) fun _ _ _ => False) ∧
        (∀ base : Heap, K.In base → base.Ns mainGlobals mg → FnG l.prog w K mg base CX k fa fd [x] sp) ∧ ∀ (H : Hp) (s : Shared) (e : Value) (s' : Shared), CX [] H s (fun _ _ _ => False) e s' → False) :
    PySem.W.WalkO q loose XP YP l.row.toRowW d [] (fun f vs => PySem.call f vs) := by
  refine Att.attach_call hn hdf fun w s₀ s₁ mg mb fa o pm cd doc a vs ns G Y ho hd hcd hmg hobj hints hlen hg => ?_
  obtain ⟨K, CX, fd, sp, KX, hb, hsp, hF, hCX⟩ := F w mg fa _ Y G.T.g hmg
  exact law_callG KX G.T.g G.T.b G.T.builtins G.T.nolimit hg hobj hints (Nat.le_trans hlen hn2) hr hF hb (fun H hO hS => hsp H a ns hlen hO hS) fun H e s' => hCX H s₁ e s'
end Ev

set_option Elab.async false
set_option linter.all false
set_option maxRecDepth 100000
set_option maxHeartbeats 2000000
/-! Ev: readings of errors as values, of fields, of join. -/
namespace Ev
open PySem PySem.Spec PyProof.Rows L2

/-- a class of errors, and the field that its own __init__ keeps -/
structure ClsI where
  name : Str
  fld : Option Str := none
  deriving DecidableEq
def fldNames : List Str := ["index", "name", "path", "most"]
def cMk (c : Nat) (fa : EE) : EE := fun call env S => (fa call env S).bind fun _ S1 => .ok (.exc c [] []) S1
def cMkF (c : Nat) (f : Str) (fa : EE) : EE := fun call env S => (fa call env S).bind fun x S1 => .ok (.exc c [f] [x]) S1
def fldOf (f : Str) : List Str → List D → Option D
  | n :: ns, d :: ds => if f = n then some d else fldOf f ns ds
  | _, _ => none
def cAttr (f : Str) (fa : EE) : EE := fun call env S => (fa call env S).bind fun x S1 => match x with
  | .exc _ ns ds => match fldOf f ns ds with
    | some d => .ok d S1
    | none => .bad
  | _ => .bad
def strsJ : List D → Option (List Str)
  | [] => some []
  | .str x :: r => (strsJ r).map (x :: ·)
  | _ => none
def pJoin (x y : D) (S : Sto) : R D := match x with
  | .str a => match deref S y with
    | .lst ds => match strsJ ds with
      | some ys => if (ys.map (·.length)).sum + ys.length * a.length ≤ 16777216 ∧ (Txt.join a ys).length ≤ sizeLine then .ok (.str (Txt.join a ys)) S else .bad
      | none => .bad
    | _ => .bad
  | _ => .bad
def isStrD : D → Bool
  | .str _ => true
  | _ => false
def cJoin (fo fe : EE) : EE := fun call env S => (fo call env S).bind fun x S1 => if isStrD x then (fe call env S1).bind fun y S2 => pJoin x y S2 else .bad

/-- what stands behind the classes' names -/
structure ClsM (K : PySem.W.Frag) (P : Program) (mg : Str → Option Value) (cs : List ClsI) (C : Cfg) : Prop where
  nc : C.nc = cs.length
  g : ClsG C
  nm : ∀ i ci, cs[i]? = some ci → mg ci.name = some (.ref (C.cA i)) ∧ PySem.W.keepIn K (.ref (C.cA i)) = true
  no : ∀ i ci, cs[i]? = some ci → ci.fld = none → PySem.W.excIn K (C.cA i) PySem.HandSPX.veTail "ValueError.__new__" = true
  own : ∀ i ci f, cs[i]? = some ci → ci.fld = some f → ∃ qual params body scope fI, IniK K P (C.cA i) 0 qual params body scope fI ∧ IniS params body scope f ∧ PySem.W.findIn K (.ref (C.cA i)) f = some none
  fl : ∀ i ci, cs[i]? = some ci → ∀ f ∈ fldNames, PySem.W.findIn K (.ref (C.cA i)) f = some none

section
variable {X : Cx} {C : Cfg} {W : WX} {call : Call} {fa fo fe : EE} {e o : Expr} {x f : Str} {p pos kpos apos : Pos} {cs : List ClsI} {i : Nat} {ci : ClsI}
theorem ClsM.lt (M : ClsM X.K X.prog X.mg cs C) (h : cs[i]? = some ci) : i < C.nc := by rw [M.nc]; exact (List.getElem?_eq_some_iff.mp h).1
theorem ev_mk (M : ClsM X.K X.prog X.mg cs C) (h : cs[i]? = some ci) (hn : ci.fld = none) (hg : Gl X ci.name) (he : PE X e (tE C W call fa)) (hs : starEach [e] X.env = (false, eval e X.env) :: starEach [] X.env) (hdb : (ci.name == ("__debug__" : Str)) = false) :
    PE X (.Call (.Name ci.name p) [e] [] pos) (tE C W call (cMk i fa)) :=
  (pe_mk0 F.excBase_ValueError (M.no i ci h hn) (M.nm i ci h).1 (M.nm i ci h).2 hg he hs hdb).imp fun σ H Q ⟨ρ, hid, S, env, s, n, q⟩ => by
    refine ⟨ρ, hid, S, env, s, n, (okR.bind q).imp (fun x S1 ρ1 H1 e1 s1 h1 vx rx => ?_) fun _ _ _ _ _ _ _ _ q => q⟩
    intro a na
    exact h1 ρ1 _ (.laid na) (s1.laid na _) _ (.exc0 (M.lt h) upd_same (s1.fresh na))
theorem newX_ok {ρ hid : List Addr} {H : Hp} {S : Sto} {Q : VK} {XX : XP} {y : D} {v : V} (hi : i < C.nc) (s : StoOk C hid ρ H S) (r : Rl C ρ hid H y v) (h : okR C hid ρ H (.ok (.exc i [f] [y]) S) (PostE C hid Q) XX) : newX (C.cA i) f v H Q := by
  intro a dd na nd ne
  have e1 : Ext ρ H ρ (upd H dd (.xd [(f, v)])) := .laid nd
  have s1 := s.laid nd (.xd [(f, v)])
  have na' : upd H dd (.xd [(f, v)]) a = none := by rw [upd_ne (Ne.symm ne)]; exact na
  have e2 : Ext ρ (upd H dd (.xd [(f, v)])) ρ (upd (upd H dd (.xd [(f, v)])) a (XO (.ref (C.cA i)) (some dd) a)) := .laid na'
  have s2 := s1.laid na' (XO (.ref (C.cA i)) (some dd) a)
  refine h ρ _ (e1.trans e2) s2 _ (.exc1 (ws := [(f, v)]) hi upd_same (s1.fresh na') ?_ (s.fresh nd) rfl (.cons ((r.ext e1).ext e2) .nil))
  rw [upd_ne ne]
  exact upd_same
theorem ev_mkF (M : ClsM X.K X.prog X.mg cs C) (h : cs[i]? = some ci) (hn : ci.fld = some f) (hr : Room 1 X.A) (hg : Gl X ci.name) (he : PE X e (tE C W call fa)) (hs : starEach [e] X.env = (false, eval e X.env) :: starEach [] X.env) (hdb : (ci.name == ("__debug__" : Str)) = false) :
    PE X (.Call (.Name ci.name p) [e] [] pos) (tE C W call (cMkF i f fa)) := by
  obtain ⟨qual, params, body, scope, fI, IK, IS, hno⟩ := M.own i ci f h hn
  refine (pe_mkF IK IS hno hr (M.nm i ci h).1 (M.nm i ci h).2 hg he hs hdb).imp fun σ H Q ⟨ρ, hid, S, env, s, n, q⟩ => ?_
  refine ⟨ρ, hid, S, env, s, n, (okR.bind q).imp (fun x S1 ρ1 H1 e1 s1 h1 vx rx => ?_) fun _ _ _ _ _ _ _ _ q => q⟩
  exact newX_ok (M.lt h) s1 rx h1
theorem ev_mkK (M : ClsM X.K X.prog X.mg cs C) (h : cs[i]? = some ci) (hn : ci.fld = some f) (hr : Room 1 X.A) (hg : Gl X ci.name) (he : PE X e (tE C W call fa)) (hdb : (ci.name == ("__debug__" : Str)) = false) :
    PE X (.Call (.Name ci.name p) [] [⟨some f, e, kpos⟩] pos) (tE C W call (cMkF i f fa)) := by
  obtain ⟨qual, params, body, scope, fI, IK, IS, hno⟩ := M.own i ci f h hn
  refine (pe_mkK IK IS hno hr (M.nm i ci h).1 (M.nm i ci h).2 hg he hdb).imp fun σ H Q ⟨ρ, hid, S, env, s, n, q⟩ => ?_
  refine ⟨ρ, hid, S, env, s, n, (okR.bind q).imp (fun x S1 ρ1 H1 e1 s1 h1 vx rx => ?_) fun _ _ _ _ _ _ _ _ q => q⟩
  exact newX_ok (M.lt h) s1 rx h1
theorem fld_rl {ρ hid : List Addr} {H : Hp} {f : Str} {d : D} : ∀ {ws : List (Str × V)} {ds : List D}, RlAll C ρ hid H ds (ws.map (·.2)) → fldOf f (ws.map (·.1)) ds = some d → ∃ v, ws.lookup f = some v ∧ Rl C ρ hid H d v
  | [], _, _, h => by cases ‹List D› <;> simp [fldOf] at h
  | (n, w) :: ws, ds, r, h => by
    cases r with
    | cons r rs =>
      simp only [List.map_cons, fldOf] at h
      split at h
      · rename_i e
        cases h
        exact ⟨w, by rw [e]; simp [List.lookup], r⟩
      · rename_i e
        obtain ⟨v, h1, h2⟩ := fld_rl rs h
        have : (f == n) = false := by simpa using e
        exact ⟨v, by simp only [List.lookup, this]; exact h1, h2⟩
theorem isX_xf {K : PySem.W.Frag} {D : Addr} (h : IsX K D) : XfC K D := ⟨h.ga, h.gt, h.sub, h.hd⟩
theorem ev_attr (M : ClsM X.K X.prog X.mg cs C) (g : X.K = C.K) (hf : f ∈ fldNames) (he : PE X e (tE C W call fa)) (hb : attributeBase e f X.env (eval e X.env) = eval e X.env) : PE X (.Attribute e f pos) (tE C W call (cAttr f fa)) :=
  (pe_xF he hb).imp fun σ H Q ⟨ρ, hid, S, env, s, n, q⟩ => by
    refine ⟨ρ, hid, S, env, s, n, (okR.bind q).imp (fun x S1 ρ1 H1 e1 s1 h1 vx rx => ?_) fun _ _ _ _ _ _ _ _ q => q⟩
    split at h1
    · rename_i c ns ds
      split at h1
      · rename_i d hd
        cases rx with
        | exc0 z h2 f2 => simp [fldOf] at hd
        | exc1 z h2 f2 h3 f3 hn r =>
          subst hn
          obtain ⟨v, hv, rv⟩ := fld_rl r hd
          have hl : c < cs.length := by rw [← M.nc]; exact z
          refine ⟨_, C.cA c, _, _, v, rfl, by rw [g]; exact isX_xf (M.g.is c z), M.fl c _ (List.getElem?_eq_getElem hl) f hf, h2, h3, hv, h1.here s1 _ rv⟩
      · exact h1.elim
    · exact h1.elim
theorem strsJ_rl {ρ hid : List Addr} {H : Hp} : ∀ {ds : List D} {vs : List V} {ys : List Str}, RlAll C ρ hid H ds vs → strsJ ds = some ys → vs = ys.map V.str
  | [], _, _, .nil, e => by simp [strsJ] at e; subst e; rfl
  | d :: ds, _, ys, .cons h r, e => by
    cases h with
    | str x z =>
      simp only [strsJ] at e
      obtain ⟨zs, e1, rfl⟩ := Option.map_eq_some_iff.mp e
      rw [strsJ_rl r e1]
      rfl
    | _ => simp [strsJ] at e
theorem ev_join (g : X.K = C.K) (ho : PE X o (tE C W call fo)) (he : PE X e (tE C W call fe)) (hj : ∀ {to te : TE}, PE X o to → PE X e te → PE X (.Call (.Attribute o "join" apos) [e] [] pos) (tM1 (fun x xs H Q => ∃ a p, ∃ ys : List Str, x = .str a ∧ xs = [.ref p] ∧ (SqL X.K H p (ys.map V.str) ∨ SqT X.K H p (ys.map V.str)) ∧
    (ys.map (·.length)).sum + ys.length * a.length ≤ 16777216 ∧ Q (.str (Txt.join a ys)) H) to te)) : PE X (.Call (.Attribute o "join" apos) [e] [] pos) (tE C W call (cJoin fo fe)) :=
  (hj ho he).imp fun σ H Q ⟨ρ, hid, S, env, s, n, q⟩ => by
    refine ⟨ρ, hid, S, env, s, n, (okR.bind q).imp (fun x S1 ρ1 H1 e1 s1 h1 vx rx => ?_) fun _ _ _ _ _ _ _ _ q => q⟩
    cases x with
    | str a =>
      cases rx
      simp only [isStrD, if_true] at h1
      refine ⟨⟨a, rfl⟩, ρ1, hid, S1, env, s1, n.ext e1, (okR.bind h1).imp (fun y S2 ρ2 H2 e2 s2 h2 vy ry => ?_) fun _ _ _ _ _ _ _ _ q => q⟩
      simp only [pJoin] at h2
      split at h2
      · rename_i ds hd
        obtain ⟨b, vs, rfl, hA, rr⟩ := rd_lst s2 ry hd
        split at h2
        · rename_i ys hys
          split at h2
          · rename_i hc
            have e3 := strsJ_rl rr.2 hys
            subst e3
            exact ⟨a, b, ys, rfl, rfl, .inl (.inl hA), hc.1, h2.here s2 _ (.str _ hc.2)⟩
          · exact h2.elim
        · exact h2.elim
      · exact h2.elim
    | _ => simp only [isStrD] at h1; exact h1.elim
end
end Ev

set_option Elab.async false
set_option linter.all false
set_option maxRecDepth 100000
set_option maxHeartbeats 2000000
/-! Ev, part 10: from the text to its readings. -/
namespace Ev
open PySem PySem.Spec PyProof.Rows L2

/-- a def, as callers see it: kws: the forms of calls by keywords (how many by position, the keywords, whence each parameter comes) -/
structure FnI where
  name : Str
  ps : List Str
  dfl : List D := []
  kws : List (Nat × List Str × List Nat) := []
structure Tab where
  fns : List FnI
  cons : List (Str × D)
  free : List Str
  bx : Nat → Nat → Bool
  most : Nat
  clss : List ClsI := []

def isVis (sc : Scope) (x : Str) : Bool := match sc.names.lookup x with
  | some .local => true
  | some .cell => true
  | some .free => true
  | _ => false
def isLoc (sc : Scope) (x : Str) : Bool := match sc.names.lookup x with
  | some .local => true
  | some .cell => true
  | _ => false
def isGl (sc : Scope) (x : Str) : Bool := match sc.names.lookup x with
  | some .globalImplicit => true
  | _ => false
def plainN (x : Str) : Bool := !(x == ("__debug__" : Str)) && (!(x == ("__classdict__" : Str)) && !(x == ("__name__" : Str)))
def idx (N : List Str) (x : Str) : Option Nat := N.findIdx? fun y => decide (y = x)
theorem idx_ok {N : List Str} {x : Str} {i : Nat} (h : idx N x = some i) : N[i]? = some x := by
  unfold idx at h
  obtain ⟨hl, h1, _⟩ := List.findIdx?_eq_some_iff_getElem.mp h
  rw [List.getElem?_eq_getElem hl]
  rw [of_decide_eq_true h1]
def builtinTys : List (Str × String) := [("int", "int"), ("bool", "bool"), ("str", "str"), ("list", "list"), ("tuple", "tuple"), ("dict", "dict"), ("ValueError", "ValueError")]
theorem builtinTys_ok : (builtinTys.all fun p => match bootBuiltins p.1 with
  | some (.type n) => n == p.2
  | _ => false) = true := by decide +kernel
def clsIdx (T : Tab) (x : Str) : Option Nat := T.clss.findIdx? fun f => decide (f.name = x)
def fnIdx (T : Tab) (x : Str) : Option Nat := T.fns.findIdx? fun f => decide (f.name = x)
def compName (T : Tab) (N : List Str) (sc : Scope) (x : Str) : Option EE :=
  if plainN x then
    if isVis sc x then (idx N x).map cVar
    else if isGl sc x then match T.cons.lookup x with
      | some d => some (cK d)
      | none => match fnIdx T x with
        | some i => some (cK (.fn i))
        | none => match clsIdx T x with
        | some i => some (cK (.cls i))
        | none => if x ∈ T.free then (builtinTys.lookup x).map fun n => cK (.ty n) else none
    else none
  else none
def constD : Const → Option D
  | .none => some .non
  | .bool b => some (.bl b)
  | .int i => some (.int i)
  | .str x => if x.length ≤ sizeLine then some (.str x) else none
  | _ => none
def binP (bx : Bool) : Operator → Option (D → D → Sto → R D)
  | .Add => some (pAdd bx)
  | .Sub => some pSub
  | .Mult => some (pMul bx)
  | .Mod => some pMod
  | .FloorDiv => some pFdiv
  | .Pow => some pPow
  | _ => none
def pGt : D → D → Sto → R D := pCmpI fun i j => decide (j < i)
def pGe : D → D → Sto → R D := pCmpI fun i j => decide (j ≤ i)
def cYes : EB := fun _ _ S => .ok true S
def cNever : ES := fun _ _ _ => .bad
def cmpP : CmpOp → Option (D → D → Sto → R D)
  | .Eq => some (pEq false)
  | .NotEq => some (pEq true)
  | .Lt => some pLt
  | .LtE => some pLe
  | .Gt => some (pCmpI fun i j => decide (j < i))
  | .GtE => some (pCmpI fun i j => decide (j ≤ i))
  | .In => some (pIn false)
  | .NotIn => some (pIn true)
  | .Is => some (pIs false)
  | .IsNot => some (pIs true)
def bltTab (bx : Bool) : List (Str × (List D → Sto → R D)) :=
  [("len", pLen), ("isinstance", pIsi), ("all", pAll false), ("any", pAll true), ("sum", pSum), ("abs", pAbs), ("min", pMin), ("max", pMax), ("int", pInt), ("tuple", pTupOf), ("list", pLstOf bx), ("sorted", pSorted bx), ("repr", pRepr), ("dict", pDict bx)]
def bltP (bx : Bool) (x : Str) : Option (List D → Sto → R D) := (bltTab bx).lookup x
def methP (x : Str) : Option (D → List D → Sto → R D) := if x = "append" then some pAppend else if x = "pop" then some pPopAt else none
def meth0P (x : Str) : Option (D → List D → Sto → R D) := if x = "pop" then some pPop else none
mutual
def compG (N : List Str) (sc : Scope) : Nat → Expr → Option Tg
  | 0, _ => none
  | n + 1, e => match e with
    | .Name x _ => if isLoc sc x then (idx N x).map .nm else none
    | .Tuple es _ _ => (compGs N sc n es).map .tup
    | _ => none
def compGs (N : List Str) (sc : Scope) : Nat → List Expr → Option (List Tg)
  | 0, _ => none
  | _ + 1, [] => some []
  | n + 1, e :: es => match compG N sc n e, compGs N sc n es with
    | some t, some ts => some (t :: ts)
    | _, _ => none
end
mutual
def tgNames : Nat → Expr → List Str
  | 0, _ => []
  | n + 1, e => match e with
    | .Name x _ => [x]
    | .Tuple es _ _ => tgNamesL n es
    | _ => []
def tgNamesL : Nat → List Expr → List Str
  | 0, _ => []
  | _ + 1, [] => []
  | n + 1, e :: es => tgNames n e ++ tgNamesL n es
end
def ownOf (N : List Str) (tge : Expr) : List (Str × Nat) := (tgNames 8 tge).filterMap fun x => (idx N x).map fun i => (x, i)
def isSet : Expr → Bool
  | .Set .. => true
  | _ => false
def isSlice : Expr → Bool
  | .Slice .. => true
  | _ => false
def isStar : Expr → Bool
  | .Starred .. => true
  | _ => false
def noStar (es : List Expr) : Bool := es.all fun e => !isStar e
def isComp : Expr → Bool
  | .ListComp .. => true
  | .SetComp .. => true
  | .DictComp .. => true
  | _ => false
def simpleO : Expr → Bool
  | .Name .. => true
  | .Subscript .. => true
  | .Attribute .. => true
  | _ => false
def isConst : Expr → Bool
  | .Constant .. => true
  | _ => false
def isTupE : Expr → Bool
  | .Tuple .. => true
  | _ => false
/-- tuple(zip(a, b)) -/
def zipParts (T : Tab) (sc : Scope) (x : Str) : List Expr → Option (List Expr)
  | [.Call (.Name y _) [a, b] [] _] => if (x = "tuple" ∧ y = "zip") ∧ (("tuple" : Str) ∈ T.free ∧ ("zip" : Str) ∈ T.free) ∧ (isGl sc "tuple" = true ∧ isGl sc "zip" = true) ∧ noStar [a, b] = true then some [a, b] else none
  | _ => none
/-- *e in a display -/
def cStar (fe : EE) (fr : EA) : EA := fun call env S => (fe call env S).bind fun x S1 => match deref S1 x with
  | .tup ds => (fr call env S1).bind fun es S2 => .ok (ds ++ es) S2
  | .lst ds => (fr call env S1).bind fun es S2 => .ok (ds ++ es) S2
  | _ => .bad
mutual
def compE (T : Tab) (N : List Str) : Nat → Scope → Expr → Option EE
  | 0, _, _ => none
  | n + 1, sc, e => match e with
    | .Constant c _ _ => (constD c).map cK
    | .Name x _ => compName T N sc x
    | .BinOp a op b p => match compE T N n sc a, compE T N n sc b, binP (T.bx p.line p.col) op with
      | some fa, some fb, some q => some (cBin q fa fb)
      | _, _, _ => none
    | .UnaryOp .Not a _ => (compE T N n sc a).map cNotV
    | .UnaryOp .USub a _ => (compE T N n sc a).map (cUn pNeg)
    | .BoolOp op es _ => compB T N n sc op es
    | .IfExp t a b _ => match compT T N n sc t, compE T N n sc a, compE T N n sc b with
      | some ft, some fa, some fb => some (cIf ft fa fb)
      | _, _, _ => none
    | .Compare a [op] [b] _ => match compE T N n sc a, compE T N n sc b, cmpP op with
      | some fa, some fb, some q => if isSet b then none else some (cBin q fa fb)
      | _, _, _ => none
    | .Compare a [op, op'] [b, c] _ => match compE T N n sc a, compE T N n sc b, compE T N n sc c, cmpP op, cmpP op' with
      | some fa, some fb, some fc, some q, some q' => if isSet c then none else some (cChain q q' fa fb fc)
      | _, _, _, _, _ => none
    | .Tuple es _ _ => (compA T N n sc es).map (cPrim pTup)
    | .List es p => (compA T N n sc es).map (cPrim (pLst (T.bx p.line p.col)))
    | .Dict keys values p => match keys with
      | [] => match values with
        | [] => some fun _ _ S => mkD (T.bx p.line p.col) [] S
        | _ => none
      | _ => if keys.all (·.isSome) && (decide (keys.length = values.length) && decide (keys.length ≤ 15)) then (compP T N n sc keys values).map (cDic (T.bx p.line p.col)) else none
    | .Subscript a i p => match i with
      | .Slice lo hi none _ => match compE T N n sc a, compO T N n sc lo, compO T N n sc hi with
        | some fa, some fl, some fh => some (cSl (T.bx p.line p.col) fa fl fh)
        | _, _, _ => none
      | .Slice .. => none
      | i => match compE T N n sc a, compE T N n sc i with
        | some fa, some fb => some (cBin pIx fa fb)
        | _, _ => none
    | .Call (.Name x _) args [] p => match zipParts T sc x args with
      | some as => (compA T N n sc as).map (cPrim pTupZip)
      | none => if plainN x && (isGl sc x && noStar args) then match compA T N n sc args with
      | none => none
      | some fr => match fnIdx T x with
        | some i => match T.fns[i]? with
          | some f => match args with
            | [] => if f.ps.length ≤ f.dfl.length then some (cCall i f.ps.length (f.dfl.drop (f.dfl.length - f.ps.length)) cNil) else none
            | _ => if args.length ≤ f.ps.length ∧ f.ps.length - args.length ≤ f.dfl.length then some (cCall i f.ps.length (f.dfl.drop (f.dfl.length - (f.ps.length - args.length))) fr) else none
          | none => none
        | none => match clsIdx T x with
        | some i => match args with
          | [e] => match T.clss[i]?, compE T N n sc e with
            | some ci, some fe => match ci.fld with
              | none => some (cMk i fe)
              | some f => some (cMkF i f fe)
            | _, _ => none
          | _ => none
        | none => if x ∈ T.free then match args with
          | [] => none
          | _ => (bltP (T.bx p.line p.col) x).map fun q => cPrim q fr
          else none
      else none
    | .Call (.Name x _) [] [⟨some f, e, _⟩] _ => if plainN x && isGl sc x then match T.cons.lookup x, fnIdx T x, clsIdx T x with
      | none, none, some i => match T.clss[i]?, compE T N n sc e with
        | some ci, some fe => if ci.fld = some f then some (cMkF i f fe) else none
        | _, _ => none
      | _, _, _ => none
      else none
    | .Attribute e f _ => if simpleO e ∧ f ∈ fldNames then (compE T N n sc e).map (cAttr f) else none
    | .Call (.Attribute o m apos) args [] cpos => if m = "join" then (match args with
      | [e] => if isConst o && (!isStar e && decide (apos.endLine = cpos.line)) then match compE T N n sc o, compE T N n sc e with
        | some fo, some fe => some (cJoin fo fe)
        | _, _ => none
        else none
      | _ => none) else if (simpleO o && noStar args) && (decide (apos.endLine = cpos.line) && decide (args.length < 30)) then match compE T N n sc o, compA T N n sc args with
      | some fo, some fr => match args with
        | [] => (meth0P m).map fun q => cMeth0 q fo
        | _ => (methP m).map fun q => cMeth q fo fr
      | _, _ => none
      else none
    | .ListComp elt gens scope p => match gens with
      | [⟨tge, iter, ifs, isA⟩] => if isA = 0 then match compIN T N n sc tge iter, compG N scope 8 tge, compF T N n (relS scope sc) ifs, compE T N n (relS scope sc) elt with
        | some fi, some tg, some ft, some fe => if blkC N sc scope (ownOf N tge) && (decide (∀ j ∈ slots tg, j ∈ (ownOf N tge).map (·.2)) && !isSet iter) then some (cLc (T.bx p.line p.col) tg ((ownOf N tge).map (·.2)) ft fe fi) else none
        | _, _, _, _ => none
        else none
      | [⟨tge, iter, ifs, isA⟩, ⟨tge1, iter1, ifs1, isA1⟩] => if isA = 0 ∧ isA1 = 0 then match compIN T N n sc tge iter, compG N scope 8 tge, compF T N n (relS scope sc) ifs, compI T N n (relS scope sc) tge1 iter1, compG N scope 8 tge1, compF T N n (relS scope sc) ifs1, compE T N n (relS scope sc) elt with
        | some fi, some tg, some ft, some fi1, some tg1, some ft1, some fe => if (blkC N sc scope (ownOf N tge ++ ownOf N tge1) && (decide (∀ j ∈ slots tg, j ∈ (ownOf N tge ++ ownOf N tge1).map (·.2)) && !isSet iter)) && (decide (∀ j ∈ slots tg1, j ∈ (ownOf N tge1).map (·.2)) && !isSet iter1)
          then some (cLc2 (T.bx p.line p.col) tg ((ownOf N tge ++ ownOf N tge1).map (·.2)) ft fi1 tg1 ((ownOf N tge1).map (·.2)) ft1 fe fi) else none
        | _, _, _, _, _, _, _ => none
        else none
      | _ => none
    | _ => none
/-- tests -/
def compT (T : Tab) (N : List Str) : Nat → Scope → Expr → Option EB
  | 0, _, _ => none
  | n + 1, sc, e => match e with
    | .UnaryOp .Not a _ => (compT T N n sc a).map cNotT
    | .BoolOp op es _ => compTB T N n sc op es
    | .IfExp .. => none
    | .Compare .. => (compE T N n sc e).map cB
    | e => (compE T N n sc e).map cTru
def compB (T : Tab) (N : List Str) : Nat → Scope → BoolOp → List Expr → Option EE
  | 0, _, _, _ => none
  | n + 1, sc, op, es => match es with
    | [] => none
    | [a] => compE T N n sc a
    | a :: rest => match compE T N n sc a, compB T N n sc op rest with
      | some fa, some fb => match op with
        | .And => some (cAndV fa fb)
        | .Or => some (cOrV fa fb)
      | _, _ => none
def compTB (T : Tab) (N : List Str) : Nat → Scope → BoolOp → List Expr → Option EB
  | 0, _, _, _ => none
  | n + 1, sc, op, es => match es with
    | [] => none
    | [a] => compT T N n sc a
    | a :: rest => match compT T N n sc a, compTB T N n sc op rest with
      | some fa, some fb => match op with
        | .And => some (cAndT fa fb)
        | .Or => some (cOrT fa fb)
      | _, _ => none
def compA (T : Tab) (N : List Str) : Nat → Scope → List Expr → Option EA
  | 0, _, _ => none
  | n + 1, sc, es => match es with
    | [] => some cNil
    | e :: rest => match e with
      | .Starred e' _ => match compE T N n sc e', compA T N n sc rest with
        | some fe, some fr => some (cStar fe fr)
        | _, _ => none
      | e => match compE T N n sc e, compA T N n sc rest with
        | some fe, some fr => some (cCons fe fr)
        | _, _ => none
def compO (T : Tab) (N : List Str) : Nat → Scope → Option Expr → Option EO
  | 0, _, _ => none
  | n + 1, sc, o => match o with
    | none => some cNoPart
    | some e => (compE T N n sc e).map cPart
def compP (T : Tab) (N : List Str) : Nat → Scope → List (Option Expr) → List Expr → Option EP'
  | 0, _, _, _ => none
  | n + 1, sc, ks, vs => match ks, vs with
    | [], [] => some cPNil
    | some k :: ks, v :: vs => match compE T N n sc k, compE T N n sc v, compP T N n sc ks vs with
      | some fk, some fv, some fr => some (cPCons fk fv fr)
      | _, _, _ => none
    | _, _ => none
/-- a comprehension's tests -/
def compF (T : Tab) (N : List Str) : Nat → Scope → List Expr → Option EB
  | 0, _, _ => none
  | n + 1, sc, ifs => match ifs with
    | [] => some fun _ _ S => .ok true S
    | [c] => compT T N n sc c
    | _ => none
/-- what a comprehension walks: a name may stand for a dict -/
def compIN (T : Tab) (N : List Str) : Nat → Scope → Expr → Expr → Option EI
  | 0, _, _, _ => none
  | n + 1, sc, tge, e => match e with
    | .Name x _ => if plainN x && isVis sc x then (idx N x).map cSrcN else compI T N n sc tge e
    | e => compI T N n sc tge e
/-- what a loop walks -/
def compI (T : Tab) (N : List Str) : Nat → Scope → Expr → Expr → Option EI
  | 0, _, _, _ => none
  | n + 1, sc, tge, e => match e with
    | .Call (.Name x _) args [] _ => if x = "range" ∧ x ∈ T.free ∧ isGl sc x = true ∧ noStar args = true then match args with
        | [a] => (compA T N n sc [a]).map cRange1
        | [a, b] => (compA T N n sc [a, b]).map cRange2
        | _ => none
      else if x = "enumerate" ∧ x ∈ T.free ∧ isGl sc x = true ∧ noStar args = true then match args with
        | [a] => if isTupE tge then (compA T N n sc [a]).map cEnum else none
        | _ => none
      else if x = "zip" ∧ x ∈ T.free ∧ isGl sc x = true ∧ noStar args = true then match args with
        | [a, b] => if isTupE tge then (compA T N n sc [a, b]).map cZip else none
        | _ => none
      else (compE T N n sc e).map cSrc
    | e => (compE T N n sc e).map cSrc
end
end Ev

set_option Elab.async false
set_option linter.all false
set_option maxRecDepth 100000
set_option maxHeartbeats 4000000
/-! Ev, part 11: the readings are right. -/
namespace Ev
open PySem PySem.Spec PyProof.Rows L2

/-- what is known where code runs that calls to the depth k -/
structure CtxG (X : Cx) (T : Tab) (C : Cfg) (call : Call) (k : Nat) : Prop where
  g : Good X C
  room : Room (k + 1) X.A
  kind : X.env.scope.kind = .function
  fn : ∀ i f, T.fns[i]? = some f → X.mg f.name = some (.ref (C.fA i)) ∧ PySem.W.keepIn X.K (.ref (C.fA i)) = true ∧ ∃ fd, FnG X.prog X.w X.K X.mg X.base (L2.CX X.prog X.w) (k + 1) (C.fA i) fd f.ps (spF C call i f.ps.length) ∧
    (∀ m, m ≤ f.dfl.length → ∃ dvs ds, (∀ ρ hid H, RlAll C ρ hid H (f.dfl.drop (f.dfl.length - m)) dvs) ∧ Vals dvs ds ∧ Binds X.K fd f.ps ds)
  free : ∀ x ∈ T.free, X.mg x = none
  con : ∀ x d, T.cons.lookup x = some d → ∃ u v, X.mg x = some u ∧ RelV v u ∧ ∀ ρ hid H, Rl C ρ hid H d v
  cl : ClsM X.K X.prog X.mg T.clss C
theorem CtxG.blk {X : Cx} {T : Tab} {C : Cfg} {call : Call} {k : Nat} (c : CtxG X T C call k) {s : Shared} {H : Hp} {scope : Scope} {Cc : Addr} {cl : List (Str × Addr)} {fp : List Addr} (hk : scope.kind = .function) : CtxG (X.blk s H scope (compEnvC scope cl Cc X.env) fp) T C call k :=
  ⟨c.g.blk, c.room, hk, c.fn, c.free, c.con, c.cl⟩

theorem boot_dict : bootBuiltins "dict" = some (.type "dict") := by decide +kernel
theorem boot_sorted : bootBuiltins "sorted" = some (.builtin "sorted") := by decide +kernel
section
variable {X : Cx} {T : Tab} {C : Cfg} {call : Call} {k : Nat} {W : WX} {sc : Scope} {N : List Str}
theorem vis_ok {x : Str} (h : isVis sc x = true) (hs : X.env.scope = sc) : Vis X.env.scope x := by
  subst hs
  unfold isVis at h
  split at h
  · rename_i e; exact .inl e
  · rename_i e; exact .inr (.inl e)
  · rename_i e; exact .inr (.inr e)
  · cases h
theorem loc_ok {x : Str} (h : isLoc sc x = true) : sc.names.lookup x = some .local ∨ sc.names.lookup x = some .cell := by
  unfold isLoc at h
  split at h
  · rename_i e; exact .inl e
  · rename_i e; exact .inr e
  · cases h
theorem gl_ok {x : Str} (h : isGl sc x = true) (hs : X.env.scope = sc) : Gl X x := by
  subst hs
  unfold isGl at h
  split at h
  · rename_i e; exact e
  · cases h
theorem plainN_ok {x : Str} (h : plainN x = true) : (x == ("__debug__" : Str)) = false ∧ (x == ("__classdict__" : Str)) = false ∧ x ≠ "__name__" := by
  unfold plainN at h
  simp only [Bool.and_eq_true, Bool.not_eq_true'] at h
  obtain ⟨h1, h2, h3⟩ := h
  exact ⟨h1, h2, fun e => by rw [e] at h3; simp at h3⟩
theorem fnIdx_ok {x : Str} {i : Nat} (h : fnIdx T x = some i) : ∃ f, T.fns[i]? = some f ∧ f.name = x := by
  unfold fnIdx at h
  obtain ⟨hl, h1, _⟩ := List.findIdx?_eq_some_iff_getElem.mp h
  exact ⟨_, List.getElem?_eq_getElem hl, of_decide_eq_true h1⟩
theorem clsIdx_ok {x : Str} {i : Nat} (h : clsIdx T x = some i) : ∃ f, T.clss[i]? = some f ∧ f.name = x := by
  unfold clsIdx at h
  obtain ⟨hl, h1, _⟩ := List.findIdx?_eq_some_iff_getElem.mp h
  exact ⟨_, List.getElem?_eq_getElem hl, of_decide_eq_true h1⟩
theorem lookup_mem' {α : Type} {l : List (Str × α)} {x : Str} {a : α} (h : l.lookup x = some a) : (x, a) ∈ l := PySem.mem_of_lookup h
theorem name_ok (c : CtxG X T C call k) (hN : X.N = N) (hs : X.env.scope = sc) {x : Str} {pos : Pos} {f : EE} (h : compName T N sc x = some f) : PE X (.Name x pos) (tE C W call f) := by
  subst hN
  unfold compName at h
  split at h
  · rename_i hp
    obtain ⟨h1, h2, h3⟩ := plainN_ok hp
    split at h
    · rename_i hv
      obtain ⟨i, hi, rfl⟩ := Option.map_eq_some_iff.mp h
      exact ev_var (idx_ok hi) (vis_ok hv hs) h1 h2
    · split at h
      · rename_i hg
        split at h
        · rename_i d hd
          cases h
          obtain ⟨u, v, m, r, rl⟩ := c.con x d hd
          exact ev_k (pe_glob (gl_ok hg hs) m r h1) rl
        · split at h
          · rename_i i hi
            cases h
            obtain ⟨f, hf, rfl⟩ := fnIdx_ok hi
            obtain ⟨m, _⟩ := c.fn i f hf
            exact ev_k (pe_glob (v := .ref (C.fA i)) (gl_ok hg hs) m rfl h1) fun _ _ _ => .fn i
          · split at h
            · rename_i i hi
              cases h
              obtain ⟨f, hf, rfl⟩ := clsIdx_ok hi
              exact ev_k (pe_glob (v := .ref (C.cA i)) (gl_ok hg hs) (c.cl.nm i f hf).1 rfl h1) fun _ _ _ => .cls i (c.cl.lt hf)
            split at h
            · rename_i hfree
              obtain ⟨n, hn, rfl⟩ := Option.map_eq_some_iff.mp h
              have q := List.all_eq_true.mp builtinTys_ok _ (lookup_mem' hn)
              simp only at q
              split at q
              · rename_i n' e
                have e2 : n' = n := by simpa using q
                subst e2
                exact ev_k (pe_bltn (v := .ty n') (gl_ok hg hs) (c.free x hfree) e rfl h3 h1) fun _ _ _ => .ty n'
              · cases q
            · cases h
      · cases h
  · cases h
theorem const_ok {cc : Const} {j : Nat} {pos : Pos} {d : D} (h : constD cc = some d) : PE X (.Constant cc j pos) (tE C W call (cK d)) := by
  unfold constD at h
  split at h
  · cases h; exact ev_k pe_non fun _ _ _ => .non
  · cases h; exact ev_k pe_bl fun _ _ _ => .bl _
  · cases h; exact ev_k pe_int fun _ _ _ => .int _
  · split at h
    · rename_i hz; cases h; exact ev_k pe_str fun _ _ _ => .str _ hz
    · cases h
  · cases h
theorem bin_ok (g : Good X C) {bx : Bool} {op : Operator} {q : D → D → Sto → R D} {a b : Expr} {pos : Pos} {fa fb : EE} (h : binP bx op = some q) (ha : PE X a (tE C W call fa)) (hb : PE X b (tE C W call fb)) : PE X (.BinOp a op b pos) (tE C W call (cBin q fa fb)) := by
  unfold binP at h
  split at h
  · cases h
    have h0 := pe_op (pos := pos) (op_addA (X := X)) ha hb
    rw [g.K] at h0
    exact ev_op p_add h0
  · cases h; exact ev_op p_sub (pe_op op_sub ha hb)
  · cases h; exact ev_op p_mul (pe_op op_mulA ha hb)
  · cases h; exact ev_op p_mod (pe_op op_mod ha hb)
  · cases h; exact ev_op p_fdiv (pe_op op_fdiv ha hb)
  · cases h; exact ev_op p_pow (pe_op op_pow ha hb)
  · cases h
theorem op_isA (neg : Bool) : OpR X (compareOp (if neg then .IsNot else .Is)) (rIsA neg) := by
  cases neg with
  | true => exact op_notN
  | false => exact op_isN
/-- a comparison's rule -/
theorem cmp_ok (g : Good X C) {op : CmpOp} {q : D → D → Sto → R D} (h : cmpP op = some q) : ∃ r, OpR X (compareOp op) r ∧ P2Ok C r q := by
  have hu := g.hu
  unfold cmpP at h
  split at h
  · cases h; exact ⟨_, by have z := op_eqA (X := X) hu; rw [g.K] at z; exact z, p_eq⟩
  · cases h; exact ⟨_, by have z := op_neA (X := X) hu; rw [g.K] at z; exact z, p_eq⟩
  · cases h; exact ⟨_, op_ltA, p_lt⟩
  · cases h; exact ⟨_, op_leA, p_le⟩
  · cases h; exact ⟨_, op_gt, p_cmpI⟩
  · cases h; exact ⟨_, op_ge, p_cmpI⟩
  · cases h; exact ⟨_, by have z := op_inAll (X := X) hu; rw [g.K] at z; exact z, p_in⟩
  · cases h; exact ⟨_, by have z := op_notInAll (X := X) hu; rw [g.K] at z; exact z, p_notIn⟩
  · cases h; exact ⟨_, op_isA false, p_is⟩
  · cases h; exact ⟨_, op_isA true, p_is⟩
theorem marks_ok {op : CmpOp} {b : Expr} (h : isSet b = false) : behindInMarks op b = false := by
  cases b <;> first | rfl | cases h
theorem lastMarks_ok {op op' : CmpOp} {b c : Expr} (h : isSet c = false) : lastMarks [op, op'] [b, c] = false := by
  show behindInMarks op' c = false
  exact marks_ok h
theorem fold_ok {iter : Expr} {env : Env} (h : isSet iter = false) : ∀ x, foldedSetIterable iter env x = pure x := by
  intro x
  cases iter <;> first | rfl | cases h
theorem bltP_ok (g : Good X C) (gc : ClsG C) {bx : Bool} {x : Str} {q : List D → Sto → R D} {e : Expr} {es : List Expr} {p pos : Pos} {fr : EA} (h : bltP bx x = some q) (hg : Gl X x) (hm : X.mg x = none) (hn : x ≠ "__name__") (hd : (x == ("__debug__" : Str)) = false)
    (ha : PA X (e :: es) (tA C W call fr)) (he : starEach (e :: es) X.env = (false, eval e X.env) :: starEach es X.env) (hpl : (backTo pos (starEach es X.env)).any (·.1) = false) : PE X (.Call (.Name x p) (e :: es) [] pos) (tE C W call (cPrim q fr)) := by
  have m := lookup_mem' h
  have K := g.K
  have hc := g.hc
  clear h
  unfold bltTab at m
  rcases List.mem_cons.mp m with e0 | m
  · cases e0
    have z := pe_callB (p := p) (pos := pos) call_lenA hg hm boot_len ha hn hd he hpl
    rw [K] at z
    exact ev_prim p_len z
  rcases List.mem_cons.mp m with e0 | m
  · cases e0
    have z := pe_callB (p := p) (pos := pos) call_isiA hg hm boot_isinstance ha hn hd he hpl
    rw [K] at z
    exact ev_prim (p_isi gc) z
  rcases List.mem_cons.mp m with e0 | m
  · cases e0
    have z := pe_callB (p := p) (pos := pos) (cr_all hc) hg hm boot_all ha hn hd he hpl
    rw [K] at z
    exact ev_prim p_all z
  rcases List.mem_cons.mp m with e0 | m
  · cases e0
    have z := pe_callB (p := p) (pos := pos) (cr_any hc) hg hm boot_any ha hn hd he hpl
    rw [K] at z
    exact ev_prim p_any z
  rcases List.mem_cons.mp m with e0 | m
  · cases e0
    have z := pe_callB (p := p) (pos := pos) (cr_sum hc) hg hm boot_sum ha hn hd he hpl
    rw [K] at z
    exact ev_prim p_sum z
  rcases List.mem_cons.mp m with e0 | m
  · cases e0
    have z := pe_callB (p := p) (pos := pos) call_abs hg hm boot_abs ha hn hd he hpl
    exact ev_prim p_abs z
  rcases List.mem_cons.mp m with e0 | m
  · cases e0
    have z := pe_callB (p := p) (pos := pos) (call_min2 hc) hg hm boot_min ha hn hd he hpl
    exact ev_prim p_min z
  rcases List.mem_cons.mp m with e0 | m
  · cases e0
    have z := pe_callB (p := p) (pos := pos) (call_max2 hc) hg hm boot_max ha hn hd he hpl
    exact ev_prim p_max z
  rcases List.mem_cons.mp m with e0 | m
  · cases e0
    have z := pe_callTy (p := p) (pos := pos) call_int1 hg hm boot_int ha hn hd he hpl
    exact ev_prim p_int z
  rcases List.mem_cons.mp m with e0 | m
  · cases e0
    have z := pe_callTy (p := p) (pos := pos) call_tupOfF hg hm boot_tuple ha hn hd he hpl
    rw [K] at z
    exact ev_prim p_tupOf z
  rcases List.mem_cons.mp m with e0 | m
  · cases e0
    have z := pe_callTy (p := p) (pos := pos) call_list_of hg hm boot_list ha hn hd he hpl
    rw [K] at z
    exact ev_prim p_lstOf z
  rcases List.mem_cons.mp m with e0 | m
  · cases e0
    have z := pe_callB (p := p) (pos := pos) (call_sortedA hc) hg hm boot_sorted ha hn hd he hpl
    rw [K] at z
    exact ev_prim p_sorted z
  rcases List.mem_cons.mp m with e0 | m
  · cases e0
    have z := pe_callB (p := p) (pos := pos) (call_reprB K g.gd g.hu) hg hm bootS_repr ha hn hd he hpl
    exact ev_prim p_repr z
  rcases List.mem_cons.mp m with e0 | m
  · cases e0
    have z := pe_callTy (p := p) (pos := pos) (call_dictA hc) hg hm boot_dict ha hn hd he hpl
    rw [K] at z
    exact ev_prim p_dict z
  cases m
end
end Ev

set_option Elab.async false
set_option linter.all false
set_option maxRecDepth 100000
set_option maxHeartbeats 4000000
/-! Ev, part 12: the readings are right, the big round. -/
namespace Ev
open PySem PySem.Spec PyProof.Rows L2

theorem star_cons {e : Expr} {es : List Expr} {env : Env} (h : isStar e = false) : starEach (e :: es) env = (false, eval e env) :: starEach es env := by
  cases e <;> first | rfl | cases h
theorem star_all {env : Env} : ∀ {es : List Expr}, (∀ e ∈ es, isStar e = false) → ∀ x ∈ starEach es env, x.1 = false
  | [], _, x, h => by cases h
  | e :: es, h, x, hx => by
    rw [star_cons (h e (by simp))] at hx
    rcases List.mem_cons.mp hx with rfl | hx
    · rfl
    · exact star_all (fun e' m => h e' (List.mem_cons_of_mem _ m)) x hx
theorem back_any {env : Env} {pos : Pos} {es : List Expr} (h : ∀ e ∈ es, isStar e = false) : (backTo pos (starEach es env)).any (·.1) = false := by
  rw [List.any_eq_false]
  intro x hx
  unfold backTo at hx
  obtain ⟨y, hy, rfl⟩ := List.mem_map.mp hx
  rw [show (_ : Bool × Sem Value).1 = y.1 from rfl, star_all h y hy]
  simp
theorem back_all {env : Env} {pos : Pos} {es : List Expr} (h : ∀ e ∈ es, isStar e = false) : (backTo pos (starEach es env)).all (fun x => !x.1) = true := by
  rw [List.all_eq_true]
  intro x hx
  unfold backTo at hx
  obtain ⟨y, hy, rfl⟩ := List.mem_map.mp hx
  rw [show (_ : Bool × Sem Value).1 = y.1 from rfl, star_all h y hy]
  rfl
theorem noStar_ok {es : List Expr} (h : noStar es = true) : ∀ e ∈ es, isStar e = false := fun e m => by
  have := List.all_eq_true.mp h e m
  simpa using this
theorem compE_star {T : Tab} {N : List Str} {n : Nat} {sc : Scope} {e : Expr} {f : EE} (h : compE T N n sc e = some f) : isStar e = false := by
  cases n with
  | zero => simp [compE] at h
  | succ n => cases e <;> first | rfl | (simp [compE] at h)
theorem ev_star {X : Cx} {C : Cfg} {W : WX} {call : Call} {e : Expr} {p : Pos} {es : List Expr} {fe : EE} {fr : EA} (g : Good X C) (he : PE X e (tE C W call fe)) (hr : PA X es (tA C W call fr)) : PA X (.Starred e p :: es) (tA C W call (cStar fe fr)) :=
  (StX.pa_star he hr).imp fun σ H Q ⟨ρ, hid, S, env, s, n, h⟩ => by
    refine ⟨ρ, hid, S, env, s, n, (okR.bind h).imp (fun x S1 ρ1 H1 e1 s1 h1 v rv => ?_) fun _ _ _ _ _ _ _ _ q => q⟩
    rw [g.K]
    split at h1
    · rename_i ds ex
      obtain ⟨a, vs, rfl, hA, r⟩ := rd_tup rv ex
      refine ⟨a, vs, rfl, .inl hA.sq, ρ1, hid, S1, env, s1, n.ext e1, (okR.bind h1).imp (fun es S2 ρ2 H2 e2 s2 h2 ws rw' => ?_) fun _ _ _ _ _ _ _ _ q => q⟩
      exact okR.here h2 s2 _ ((r.ext e2).append rw')
    · rename_i ds ex
      obtain ⟨a, vs, rfl, hA, z, r⟩ := rd_lst s1 rv ex
      refine ⟨a, vs, rfl, .inr (.inl hA), ρ1, hid, S1, env, s1, n.ext e1, (okR.bind h1).imp (fun es S2 ρ2 H2 e2 s2 h2 ws rw' => ?_) fun _ _ _ _ _ _ _ _ q => q⟩
      exact okR.here h2 s2 _ ((r.ext e2).append rw')
    · exact h1.elim

/-! ### targets -/
theorem assign_len {env : Env} : ∀ {es : List Expr}, (assignEach es env).length = es.length
  | [] => rfl
  | e :: es => by cases e <;> simp [assignEach, assign_len (es := es)]
theorem assign_cons {e : Expr} {es : List Expr} {env : Env} : (assignEach (e :: es) env).map (·.2) = assign e env :: (assignEach es env).map (·.2) ∨ isStar e = true := by
  cases e <;> first | exact .inl rfl | exact .inr rfl
theorem assign_no {env : Env} : ∀ {es : List Expr}, (∀ e ∈ es, isStar e = false) → (assignEach es env).findIdx? (·.1) = none
  | [], _ => rfl
  | e :: es, h => by
    have ih := assign_no (env := env) (es := es) fun e' m => h e' (List.mem_cons_of_mem _ m)
    have h0 := h e (by simp)
    cases e <;> first | (simp [assignEach, List.findIdx?_cons, ih]; done) | cases h0
theorem compG_star {N : List Str} {n : Nat} {sc : Scope} {e : Expr} {t : Tg} (h : compG N sc n e = some t) : isStar e = false := by
  cases n with
  | zero => simp [compG] at h
  | succ n => cases e <;> first | rfl | (simp [compG] at h)
theorem compGs_star {N : List Str} {sc : Scope} : ∀ {n : Nat} {es : List Expr} {ts : List Tg}, compGs N sc n es = some ts → ∀ e ∈ es, isStar e = false
  | 0, _, _, h => by simp [compGs] at h
  | n + 1, [], _, h => fun e m => by cases m
  | n + 1, e :: es, ts, h => fun e' m => by
    simp only [compGs] at h
    split at h
    · rename_i t ts h1 h2
      rcases List.mem_cons.mp m with rfl | m
      · exact compG_star h1
      · exact compGs_star h2 e' m
    · cases h
theorem compGs_len {N : List Str} {sc : Scope} : ∀ {n : Nat} {es : List Expr} {ts : List Tg}, compGs N sc n es = some ts → es.length = ts.length
  | 0, _, _, h => by simp [compGs] at h
  | n + 1, [], _, h => by simp [compGs] at h; subst h; rfl
  | n + 1, e :: es, ts, h => by
    simp only [compGs] at h
    split at h
    · rename_i t ts h1 h2
      cases h
      rw [List.length_cons, List.length_cons, compGs_len h2]
    · cases h
theorem PG.or' {X : Cx} {e : Expr} {t u : TG} (a : PG X e t) (b : PG X e u) : PG X e (fun v σ H Q => t v σ H Q ∨ u v σ H Q) := ⟨fun pins s σ H v w Q I r h => by
  rcases h with h | h
  · exact a.run pins s σ H v w Q I r h
  · exact b.run pins s σ H v w Q I r h⟩
/-- targets, where a name that is one's own may be stored -/
theorem tg_ok {X : Cx} {N : List Str} {sc : Scope} {K : PySem.W.Frag} (hc : X.calm = true) (hK : X.K = K) (hN : X.N = N) (hnd : X.N.Nodup) (own : ∀ x, isLoc sc x = true → Loc X.env.scope x ∧ (X.fn x = true ∨ X.env.scope.names.lookup x = some .local)) :
    ∀ n, (∀ e t, compG N sc n e = some t → PG X e (gOf K t)) ∧ (∀ es ts, compGs N sc n es = some ts → PGs X es (gsOf K ts))
  | 0 => ⟨fun e t h => by simp [compG] at h, fun es ts h => by simp [compGs] at h⟩
  | n + 1 => by
    obtain ⟨ih1, ih2⟩ := tg_ok hc hK hN hnd own n
    subst hK
    subst hN
    refine ⟨fun e t h => ?_, fun es ts h => ?_⟩
    · simp only [compG] at h
      split at h
      · rename_i x _
        split at h
        · rename_i hl
          obtain ⟨i, hi, rfl⟩ := Option.map_eq_some_iff.mp h
          exact pg_name hnd (idx_ok hi) (own x hl).1 (own x hl).2
        · cases h
      · rename_i es _ _
        obtain ⟨ts, hts, rfl⟩ := Option.map_eq_some_iff.mp h
        have hl := compGs_len hts
        refine PG.or' ?_ ?_
        · exact pg_tup hc (ih2 es ts hts) (by rw [assign_len, hl]) (assign_no (compGs_star hts))
        · exact pg_lst hc (ih2 es ts hts) (by rw [assign_len, hl]) (assign_no (compGs_star hts))
      · cases h
    · cases es with
      | nil =>
        simp only [compGs] at h
        cases h
        exact pgs_nil
      | cons e es =>
        simp only [compGs] at h
        split at h
        · rename_i t ts h1 h2
          cases h
          refine pgs_cons (ih1 e t h1) (ih2 es ts h2) ?_
          rcases assign_cons (e := e) (es := es) (env := X.env) with q | q
          · exact q
          · rw [compG_star h1] at q; cases q
        · cases h
theorem own_blk {X : Cx} {scope : Scope} {s : Shared} {H : Hp} {Cc : Addr} {cl : List (Str × Addr)} {fp : List Addr} : ∀ x, isLoc scope x = true →
    Loc (X.blk s H scope (compEnvC scope cl Cc X.env) fp).env.scope x ∧ ((X.blk s H scope (compEnvC scope cl Cc X.env) fp).fn x = true ∨ (X.blk s H scope (compEnvC scope cl Cc X.env) fp).env.scope.names.lookup x = some .local) := by
  intro x h
  rcases loc_ok h with h | h
  · have := lookup_relS_keep (sc := X.env.scope) (by decide) h
    exact ⟨.inl this, .inr this⟩
  · have := lookup_relS_keep (sc := X.env.scope) (by decide) h
    exact ⟨.inr this, .inl (by show (scope.names.lookup x == some .cell) = true; rw [h]; rfl)⟩
end Ev

set_option Elab.async false
set_option linter.all false
set_option maxRecDepth 100000
set_option maxHeartbeats 8000000
/-! Ev, part 13: the readings are right, the big round. -/
namespace Ev
open PySem PySem.Spec PyProof.Rows L2

def isCmp : Expr → Bool
  | .Compare .. => true
  | _ => false
/-- all readings at one fuel -/
structure AllOk (T : Tab) (N : List Str) (C : Cfg) (call : Call) (k n : Nat) : Prop where
  run : ∀ (X : Cx) (W : WX) (sc : Scope), CtxG X T C call k → X.N = N → X.env.scope = sc → Takes X W →
    (∀ e f, compE T N n sc e = some f → PE X e (tE C W call f)) ∧
    (∀ e f, compE T N n sc e = some f → isCmp e = true → PT X e (tT C W call (cB f))) ∧
    (∀ e f, compT T N n sc e = some f → PT X e (tT C W call f)) ∧
    (∀ op es f pos, compB T N n sc op es = some f → PE X (.BoolOp op es pos) (tE C W call f)) ∧
    (∀ op es f pos, compTB T N n sc op es = some f → PW X (.BoolOp op es pos) (tT C W call f)) ∧
    (∀ es f, compA T N n sc es = some f → PA X es (tA C W call f)) ∧
    (∀ o f, compO T N n sc o = some f → PO X o (tO C W call f)) ∧
    (∀ ks vs f pos, compP T N n sc ks vs = some f → PrP X C W call pos ks vs f) ∧
    (∀ cs f, compF T N n sc cs = some f → PTs X cs (tT C W call f)) ∧
    (∀ tg e f, compI T N n sc tg e = some f → PI X tg e (tI C W call f)) ∧
    (∀ tg e f, compIN T N n sc tg e = some f → PI X tg e (tI C W call f) ∨ ∃ x px i, e = .Name x px ∧ plainN x = true ∧ isVis sc x = true ∧ idx N x = some i ∧ f = cSrcN i)
section
variable {T : Tab} {N : List Str} {C : Cfg} {call : Call} {k n : Nat} {X : Cx} {W : WX} {sc : Scope}
theorem AllOk.e (A : AllOk T N C call k n) (c : CtxG X T C call k) (hN : X.N = N) (hs : X.env.scope = sc) (tk : Takes X W) {e : Expr} {f : EE} (h : compE T N n sc e = some f) : PE X e (tE C W call f) := (A.run X W sc c hN hs tk).1 e f h
theorem AllOk.cm (A : AllOk T N C call k n) (c : CtxG X T C call k) (hN : X.N = N) (hs : X.env.scope = sc) (tk : Takes X W) {e : Expr} {f : EE} (h : compE T N n sc e = some f) (hc : isCmp e = true) : PT X e (tT C W call (cB f)) := (A.run X W sc c hN hs tk).2.1 e f h hc
theorem AllOk.t (A : AllOk T N C call k n) (c : CtxG X T C call k) (hN : X.N = N) (hs : X.env.scope = sc) (tk : Takes X W) {e : Expr} {f : EB} (h : compT T N n sc e = some f) : PT X e (tT C W call f) := (A.run X W sc c hN hs tk).2.2.1 e f h
theorem AllOk.b (A : AllOk T N C call k n) (c : CtxG X T C call k) (hN : X.N = N) (hs : X.env.scope = sc) (tk : Takes X W) {op : BoolOp} {es : List Expr} {f : EE} {pos : Pos} (h : compB T N n sc op es = some f) : PE X (.BoolOp op es pos) (tE C W call f) := (A.run X W sc c hN hs tk).2.2.2.1 op es f pos h
theorem AllOk.tb (A : AllOk T N C call k n) (c : CtxG X T C call k) (hN : X.N = N) (hs : X.env.scope = sc) (tk : Takes X W) {op : BoolOp} {es : List Expr} {f : EB} {pos : Pos} (h : compTB T N n sc op es = some f) : PW X (.BoolOp op es pos) (tT C W call f) := (A.run X W sc c hN hs tk).2.2.2.2.1 op es f pos h
theorem AllOk.a (A : AllOk T N C call k n) (c : CtxG X T C call k) (hN : X.N = N) (hs : X.env.scope = sc) (tk : Takes X W) {es : List Expr} {f : EA} (h : compA T N n sc es = some f) : PA X es (tA C W call f) := (A.run X W sc c hN hs tk).2.2.2.2.2.1 es f h
theorem AllOk.o (A : AllOk T N C call k n) (c : CtxG X T C call k) (hN : X.N = N) (hs : X.env.scope = sc) (tk : Takes X W) {o : Option Expr} {f : EO} (h : compO T N n sc o = some f) : PO X o (tO C W call f) := (A.run X W sc c hN hs tk).2.2.2.2.2.2.1 o f h
theorem AllOk.p (A : AllOk T N C call k n) (c : CtxG X T C call k) (hN : X.N = N) (hs : X.env.scope = sc) (tk : Takes X W) {ks : List (Option Expr)} {vs : List Expr} {f : EP'} {pos : Pos} (h : compP T N n sc ks vs = some f) : PrP X C W call pos ks vs f := (A.run X W sc c hN hs tk).2.2.2.2.2.2.2.1 ks vs f pos h
theorem AllOk.f (A : AllOk T N C call k n) (c : CtxG X T C call k) (hN : X.N = N) (hs : X.env.scope = sc) (tk : Takes X W) {cs : List Expr} {f : EB} (h : compF T N n sc cs = some f) : PTs X cs (tT C W call f) := (A.run X W sc c hN hs tk).2.2.2.2.2.2.2.2.1 cs f h
theorem AllOk.i (A : AllOk T N C call k n) (c : CtxG X T C call k) (hN : X.N = N) (hs : X.env.scope = sc) (tk : Takes X W) {tg e : Expr} {f : EI} (h : compI T N n sc tg e = some f) : PI X tg e (tI C W call f) := (A.run X W sc c hN hs tk).2.2.2.2.2.2.2.2.2.1 tg e f h
theorem AllOk.iN (A : AllOk T N C call k n) (c : CtxG X T C call k) (hN : X.N = N) (hs : X.env.scope = sc) (tk : Takes X W) {tg e : Expr} {f : EI} (h : compIN T N n sc tg e = some f) : PI X tg e (tI C W call f) ∨ ∃ x px i, e = .Name x px ∧ plainN x = true ∧ isVis sc x = true ∧ idx N x = some i ∧ f = cSrcN i := (A.run X W sc c hN hs tk).2.2.2.2.2.2.2.2.2.2 tg e f h

theorem cmp1_ok (A : AllOk T N C call k n) (c : CtxG X T C call k) (hN : X.N = N) (hs : X.env.scope = sc) (tk : Takes X W) {a b : Expr} {op : CmpOp} {pos : Pos} {f : EE} (h : compE T N (n + 1) sc (.Compare a [op] [b] pos) = some f) :
    PE X (.Compare a [op] [b] pos) (tE C W call f) ∧ PT X (.Compare a [op] [b] pos) (tT C W call (cB f)) := by
  simp only [compE] at h
  split at h
  · rename_i fa fb q h1 h2 h3
    split at h
    · cases h
    · rename_i hst
      cases h
      obtain ⟨r, ho, hq⟩ := cmp_ok c.g h3
      have hb : isSet b = false := by simpa using hst
      exact ⟨ev_cmp ho hq (A.e c hN hs tk h1) (A.e c hN hs tk h2) (marks_ok hb), ev_cmpT ho hq (A.e c hN hs tk h1) (A.e c hN hs tk h2) (marks_ok hb)⟩
  · cases h
theorem cmp2_ok (A : AllOk T N C call k n) (c : CtxG X T C call k) (hN : X.N = N) (hs : X.env.scope = sc) (tk : Takes X W) {a b d : Expr} {op op' : CmpOp} {pos : Pos} {f : EE} (h : compE T N (n + 1) sc (.Compare a [op, op'] [b, d] pos) = some f) :
    PE X (.Compare a [op, op'] [b, d] pos) (tE C W call f) ∧ PT X (.Compare a [op, op'] [b, d] pos) (tT C W call (cB f)) := by
  simp only [compE] at h
  split at h
  · rename_i fa fb fc q q' h1 h2 h3 h4 h5
    split at h
    · cases h
    · rename_i hst
      cases h
      obtain ⟨r, ho, hq⟩ := cmp_ok c.g h4
      obtain ⟨r', ho', hq'⟩ := cmp_ok c.g h5
      have hb : isSet d = false := by simpa using hst
      exact ⟨ev_chain ho hq ho' hq' (A.e c hN hs tk h1) (A.e c hN hs tk h2) (A.e c hN hs tk h3) (lastMarks_ok hb), ev_chainT ho hq ho' hq' (A.e c hN hs tk h1) (A.e c hN hs tk h2) (A.e c hN hs tk h3) (lastMarks_ok hb)⟩
  · cases h
theorem cmpAny_ok (A : AllOk T N C call k n) (c : CtxG X T C call k) (hN : X.N = N) (hs : X.env.scope = sc) (tk : Takes X W) {a : Expr} {ops : List CmpOp} {cs : List Expr} {pos : Pos} {f : EE} (h : compE T N (n + 1) sc (.Compare a ops cs pos) = some f) :
    PE X (.Compare a ops cs pos) (tE C W call f) ∧ PT X (.Compare a ops cs pos) (tT C W call (cB f)) := by
  match ops, cs, h with
  | [op], [b], h => exact cmp1_ok A c hN hs tk h
  | [op, op'], [b, d], h => exact cmp2_ok A c hN hs tk h
  | [], _, h => simp [compE] at h
  | [_], [], h => simp [compE] at h
  | [_], _ :: _ :: _, h => simp [compE] at h
  | [_, _], [], h => simp [compE] at h
  | [_, _], [_], h => simp [compE] at h
  | [_, _], _ :: _ :: _ :: _, h => simp [compE] at h
  | _ :: _ :: _ :: _, _, h => simp [compE] at h
theorem plainIx {i : Expr} (h : isSlice i = false) : PlainIx i := by
  intro o v
  cases i <;> first | rfl | cases h
theorem sub_ok (A : AllOk T N C call k n) (c : CtxG X T C call k) (hN : X.N = N) (hs : X.env.scope = sc) (tk : Takes X W) {a i : Expr} {p : Pos} {f : EE} (h : compE T N (n + 1) sc (.Subscript a i p) = some f) : PE X (.Subscript a i p) (tE C W call f) := by
  simp only [compE] at h
  split at h
  · split at h
    · rename_i fa fl fh h1 h2 h3
      cases h
      exact ev_sl c.g (A.e c hN hs tk h1) (A.o c hN hs tk h2) (A.o c hN hs tk h3)
    · cases h
  · cases h
  · rename_i hn1 hn2
    split at h
    · rename_i fa fb h1 h2
      cases h
      refine ev_ix c.g (A.e c hN hs tk h1) (A.e c hN hs tk h2) (plainIx ?_)
      cases i <;> first | rfl | exact (hn2 _ _ _ _ rfl).elim
    · cases h
theorem dict_ok (A : AllOk T N C call k n) (c : CtxG X T C call k) (hN : X.N = N) (hs : X.env.scope = sc) (tk : Takes X W) {keys : List (Option Expr)} {values : List Expr} {p : Pos} {f : EE} (h : compE T N (n + 1) sc (.Dict keys values p) = some f) : PE X (.Dict keys values p) (tE C W call f) := by
  cases keys with
  | nil =>
    cases values with
    | nil =>
      simp only [compE] at h
      cases h
      exact ev_dic0
    | cons _ _ => simp [compE] at h
  | cons ky ks =>
    simp only [compE] at h
    split at h
    · rename_i hc
      simp only [Bool.and_eq_true, decide_eq_true_eq] at hc
      obtain ⟨fr, hfr, rfl⟩ := Option.map_eq_some_iff.mp h
      exact ev_dic (A.p c hN hs tk hfr) hc.1 hc.2.1 (by simp) hc.2.2
    · cases h
theorem lc_ok (A : AllOk T N C call k n) (c : CtxG X T C call k) (hN : X.N = N) (hs : X.env.scope = sc) (tk : Takes X W) {elt : Expr} {gens : List Comprehension} {scope : Scope} {p : Pos} {f : EE} (h : compE T N (n + 1) sc (.ListComp elt gens scope p) = some f) :
    LcP X (.ListComp elt gens scope p) (tE C W call f) := by
  have pg : ∀ (tge : Expr) (tg : Tg), compG N scope 8 tge = some tg → ∀ (s : Shared) (H : Hp) (Cc : Addr) (cl : List (Str × Addr)) (fp : List Addr), PG (X.blk s H scope (compEnvC scope cl Cc X.env) fp) tge (gOf C.K tg) := fun tge tg h2 s H Cc cl fp => by
    subst hN
    exact (tg_ok (X := X.blk s H scope (compEnvC scope cl Cc X.env) fp) c.g.hc c.g.K rfl c.g.nd own_blk 8).1 tge tg h2
  simp only [compE] at h
  split at h
  · rename_i tge iter ifs isA
    split at h
    · rename_i hA
      subst hA
      split at h
      · rename_i fi tg ft fe h1 h2 h3 h4
        split at h
        · rename_i hc
          simp only [Bool.and_eq_true, decide_eq_true_eq, Bool.not_eq_true'] at hc
          cases h
          subst hs
          have ok : BlkOk X.N X.env.scope scope (ownOf N tge) := by rw [hN]; exact blkOk_by hc.1
          have ht : ∀ (s : Shared) (H : Hp) (Cc : Addr) (cl : List (Str × Addr)) (fp : List Addr), PTs (X.blk s H scope (compEnvC scope cl Cc X.env) fp) ifs (tT C W0 call ft) := fun s H Cc cl fp => A.f (c.blk ok.kind) hN rfl takes0 h3
          have he : ∀ (s : Shared) (H : Hp) (Cc : Addr) (cl : List (Str × Addr)) (fp : List Addr), PE (X.blk s H scope (compEnvC scope cl Cc X.env) fp) elt (tE C W0 call fe) := fun s H Cc cl fp => A.e (c.blk ok.kind) hN rfl takes0 h4
          have hf := fold_ok (env := X.env) hc.2.2
          rcases A.iN c hN rfl tk h1 with hi | ⟨x, px, i, rfl, hp, hv, hi, rfl⟩
          · exact (lcP1 c.g.hc c.g.nd hi ok (pg _ _ h2) ht he hf).imp (lc_step hc.2.1)
          · obtain ⟨e1, e2, _⟩ := plainN_ok hp
            have hNi : X.N[i]? = some x := by rw [hN]; exact idx_ok hi
            have hv' := vis_ok hv rfl
            have l1 := lcP1 (pos := p) c.g.hc c.g.nd (ev_src (W := W) (call := call) (tg := tge) c.g (ev_var (pos := px) hNi hv' e1 e2)) ok (pg _ _ h2) ht he hf
            have l2 := lcP1 (pos := p) c.g.hc c.g.nd (pi_keys (tg := tge) (pe_var (pos := px) hNi hv' e1 e2)) ok (pg _ _ h2) ht he hf
            exact (l1.or (l2.or l2.lock)).imp (lcN_step hc.2.1)
        · cases h
      · cases h
    · cases h
  · rename_i tge iter ifs isA tge1 iter1 ifs1 isA1
    split at h
    · rename_i hA
      obtain ⟨hA, hB⟩ := hA
      subst hA hB
      split at h
      · rename_i fi tg ft fi1 tg1 ft1 fe h1 h2 h3 h5 h6 h7 h4
        split at h
        · rename_i hc
          simp only [Bool.and_eq_true, decide_eq_true_eq, Bool.not_eq_true'] at hc
          cases h
          subst hs
          obtain ⟨⟨hc1, hc2, hc3⟩, hc4, hc5⟩ := hc
          have ok : BlkOk X.N X.env.scope scope (ownOf N tge ++ ownOf N tge1) := by rw [hN]; exact blkOk_by hc1
          have hv1 : ∀ i ∈ (ownOf N tge1).map (·.2), i ∈ (ownOf N tge ++ ownOf N tge1).map (·.2) := fun i m => by rw [List.map_append]; exact List.mem_append_right _ m
          have ht : ∀ (s : Shared) (H : Hp) (Cc : Addr) (cl : List (Str × Addr)) (fp : List Addr), PTs (X.blk s H scope (compEnvC scope cl Cc X.env) fp) ifs (tT C W0 call ft) := fun s H Cc cl fp => A.f (c.blk ok.kind) hN rfl takes0 h3
          have hi1 : ∀ (s : Shared) (H : Hp) (Cc : Addr) (cl : List (Str × Addr)) (fp : List Addr), PI (X.blk s H scope (compEnvC scope cl Cc X.env) fp) tge1 iter1 (tI C W0 call fi1) := fun s H Cc cl fp => A.i (c.blk ok.kind) hN rfl takes0 h5
          have ht1 : ∀ (s : Shared) (H : Hp) (Cc : Addr) (cl : List (Str × Addr)) (fp : List Addr), PTs (X.blk s H scope (compEnvC scope cl Cc X.env) fp) ifs1 (tT C W0 call ft1) := fun s H Cc cl fp => A.f (c.blk ok.kind) hN rfl takes0 h7
          have he : ∀ (s : Shared) (H : Hp) (Cc : Addr) (cl : List (Str × Addr)) (fp : List Addr), PE (X.blk s H scope (compEnvC scope cl Cc X.env) fp) elt (tE C W0 call fe) := fun s H Cc cl fp => A.e (c.blk ok.kind) hN rfl takes0 h4
          have hf := fold_ok (env := X.env) hc3
          have hf1 : ∀ env x, foldedSetIterable iter1 env x = pure x := fun env => fold_ok hc5
          rcases A.iN c hN rfl tk h1 with hi | ⟨x, px, i, rfl, hp, hv, hi, rfl⟩
          · exact (lcP2 c.g.hc c.g.nd hi ok hv1 (pg _ _ h2) ht hi1 (pg _ _ h6) ht1 he hf hf1).imp (lc2_step hc2 hc4)
          · obtain ⟨e1, e2, _⟩ := plainN_ok hp
            have hNi : X.N[i]? = some x := by rw [hN]; exact idx_ok hi
            have hv' := vis_ok hv rfl
            have l1 := lcP2 (pos := p) c.g.hc c.g.nd (ev_src (W := W) (call := call) (tg := tge) c.g (ev_var (pos := px) hNi hv' e1 e2)) ok hv1 (pg _ _ h2) ht hi1 (pg _ _ h6) ht1 he hf hf1
            have l2 := lcP2 (pos := p) c.g.hc c.g.nd (pi_keys (tg := tge) (pe_var (pos := px) hNi hv' e1 e2)) ok hv1 (pg _ _ h2) ht hi1 (pg _ _ h6) ht1 he hf hf1
            exact (l1.or (l2.or l2.lock)).imp (lc2N_step hc2 hc4)
        · cases h
      · cases h
    · cases h
  · cases h
theorem zipParts_ok {x : Str} {args as : List Expr} (h : zipParts T sc x args = some as) : ∃ a b pz q, x = "tuple" ∧ args = [.Call (.Name "zip" pz) [a, b] [] q] ∧ as = [a, b] ∧ (("tuple" : Str) ∈ T.free ∧ ("zip" : Str) ∈ T.free) ∧ (isGl sc "tuple" = true ∧ isGl sc "zip" = true) ∧ noStar [a, b] = true := by
  unfold zipParts at h
  split at h
  · rename_i y pz a b q
    split at h
    · rename_i hc
      obtain ⟨⟨rfl, rfl⟩, h1, h2, h3⟩ := hc
      cases h
      exact ⟨a, b, pz, q, rfl, rfl, rfl, h1, h2, h3⟩
    · cases h
  · cases h
theorem call_ok (A : AllOk T N C call k n) (c : CtxG X T C call k) (hN : X.N = N) (hs : X.env.scope = sc) (tk : Takes X W) {x : Str} {px p : Pos} {args : List Expr} {f : EE} (h : compE T N (n + 1) sc (.Call (.Name x px) args [] p) = some f) : PE X (.Call (.Name x px) args [] p) (tE C W call f) := by
  simp only [compE] at h
  split at h
  · rename_i as hz
    obtain ⟨a, b, pz, q, rfl, rfl, rfl, ⟨f1, f2⟩, ⟨g1, g2⟩, hns⟩ := zipParts_ok hz
    obtain ⟨fr, hr, rfl⟩ := Option.map_eq_some_iff.mp h
    have hst := noStar_ok hns
    have z := pe_tupZip (p := px) (p2 := pz) (q := q) (pos := p) c.g.hc (gl_ok g1 hs) (c.free _ f1) (gl_ok g2 hs) (c.free _ f2) (A.a c hN hs tk hr) (star_cons (hst a (by simp))) (back_any fun e m => hst e (List.mem_cons_of_mem _ m))
    rw [c.g.K] at z
    exact ev_prim p_tupZip z
  split at h
  · rename_i hc
    simp only [Bool.and_eq_true] at hc
    obtain ⟨hp, hgl, hns⟩ := hc
    obtain ⟨hd, _, hnm⟩ := plainN_ok hp
    have hg := gl_ok hgl hs
    split at h
    · cases h
    · rename_i fr hfr
      have ha := A.a c hN hs tk hfr
      have hst := noStar_ok hns
      split at h
      · rename_i i hi
        obtain ⟨f0, hf0, rfl⟩ := fnIdx_ok hi
        obtain ⟨hm, hk, fd, F, hdf⟩ := c.fn i f0 hf0
        split at h
        · rename_i f1 hf1
          rw [hf0] at hf1
          cases hf1
          cases args with
          | nil =>
            simp only at h
            split at h
            · rename_i hle
              cases h
              obtain ⟨dvs, ds, hl, hv, hb⟩ := hdf _ hle
              exact (pe_callG0 F c.room c.g.gd hg hm hk hb hv (passAt tk) hd).imp fun σ H Q q => by
                obtain ⟨ρ, hid, S, env, s, n, h⟩ := call_step hl σ H Q q
                have h2 := okR.here h s
                exact h2 [] .nil
            · cases h
          | cons e es =>
            simp only at h
            split at h
            · rename_i hle
              cases h
              obtain ⟨dvs, ds, hl, hv, hb⟩ := hdf _ hle.2
              exact (pe_callG F c.room c.g.gd hg hm hk hb hv (passAt tk) ha hd (star_cons (hst _ (by simp))) (back_any fun e m => hst e (List.mem_cons_of_mem _ m))).imp (call_step hl)
            · cases h
        · cases h
      · split at h
        · rename_i i hi
          obtain ⟨ci, hci, rfl⟩ := clsIdx_ok hi
          split at h
          · rename_i e hae
            split at h
            · rename_i ci' fe hc2 hfe
              rw [hci] at hc2
              cases hc2
              have hE := A.e c hN hs tk hfe
              have hsr := star_cons (env := X.env) (es := []) (hst e (by simp))
              split at h
              · rename_i hn
                cases h
                exact ev_mk c.cl hci hn hg hE hsr hd
              · rename_i f hn
                cases h
                exact ev_mkF c.cl hci hn (c.room.mono (by omega)) hg hE hsr hd
            · cases h
          · cases h
        split at h
        · rename_i hfree
          cases args with
          | nil => simp only at h; cases h
          | cons e es =>
            simp only at h
            obtain ⟨q, hq, rfl⟩ := Option.map_eq_some_iff.mp h
            exact bltP_ok c.g c.cl.g hq hg (c.free x hfree) hnm hd ha (star_cons (hst _ (by simp))) (back_any fun e m => hst e (List.mem_cons_of_mem _ m))
        · cases h
  · cases h
theorem base_ok {o : Expr} {m : Str} {env : Env} (h : simpleO o = true) : attributeBase o m env (eval o env) = eval o env := by
  cases o <;> first | rfl | cases h
theorem meth_ok (A : AllOk T N C call k n) (c : CtxG X T C call k) (hN : X.N = N) (hs : X.env.scope = sc) (tk : Takes X W) {o : Expr} {m : Str} {px p : Pos} {args : List Expr} {f : EE} (h : compE T N (n + 1) sc (.Call (.Attribute o m px) args [] p) = some f) : PE X (.Call (.Attribute o m px) args [] p) (tE C W call f) := by
  simp only [compE] at h
  split at h
  · rename_i hm
    subst hm
    split at h
    · rename_i e
      split at h
      · rename_i hc
        simp only [Bool.and_eq_true, decide_eq_true_eq, Bool.not_eq_true'] at hc
        obtain ⟨hco, hst, hln⟩ := hc
        split at h
        · rename_i fo fe h1 h2
          cases h
          refine ev_join c.g.K (A.e c hN hs tk h1) (A.e c hN hs tk h2) fun ho he => pe_join ho he (star_cons (es := []) hst) ?_ (by rw [hln]; exact beq_self_eq_true _)
          cases o <;> first | rfl | cases hco
        · cases h
      · cases h
    · cases h
  split at h
  · rename_i hc
    simp only [Bool.and_eq_true, decide_eq_true_eq] at hc
    obtain ⟨⟨hso, hns⟩, hln, h30⟩ := hc
    have hline : (px.endLine == p.line) = true := by rw [hln]; exact beq_self_eq_true _
    split at h
    · rename_i fo fr h1 h2
      have hst := noStar_ok hns
      split at h
      · obtain ⟨q, hq, rfl⟩ := Option.map_eq_some_iff.mp h
        unfold meth0P at hq
        split at hq
        · rename_i e0
          subst e0
          cases hq
          have z := pe_bm0 (X := X) (cpos := p) (apos := px) F.plainAttrs_list F.slot_list_pop (by rfl) mt_pop (A.e c hN hs tk h1) (base_ok hso) hline
          rw [c.g.K] at z
          exact z.imp (meth0_step p_pop)
        · cases hq
      · rename_i es hes
        obtain ⟨q, hq, rfl⟩ := Option.map_eq_some_iff.mp h
        match args, hes, h2, hst, h30 with
        | e :: es, _, h2, hst, h30 =>
          have hfew : ((backTo p (starEach (e :: es) X.env)).all (fun x => !x.1) && (backToKw p (keywordEach [] X.env)).all (fun x => x.1.isSome)
      && decide ((e :: es).length + ([] : List Keyword).length + (if ([] : List Keyword).isEmpty then 0 else 1) < 30)) = true := by
            rw [back_all hst]
            simpa [backToKw, keywordEach] using h30
          have hs1 := star_cons (env := X.env) (es := es) (hst e (by simp))
          have hs2 : (backTo p (starEach es X.env)).any (·.1) = false := back_any fun e m => hst e (List.mem_cons_of_mem _ m)
          unfold methP at hq
          split at hq
          · rename_i e0
            subst e0
            cases hq
            have z := pe_bm (X := X) (cpos := p) (apos := px) F.plainAttrs_list F.slot_list_append (by rfl) mt_append (A.e c hN hs tk h1) (A.a c hN hs tk h2) (base_ok hso) hfew hline hs1 hs2
            rw [c.g.K] at z
            exact z.imp (meth_step p_append)
          split at hq
          · rename_i e0
            subst e0
            cases hq
            have z := pe_bm (X := X) (cpos := p) (apos := px) F.plainAttrs_list F.slot_list_pop (by rfl) mt_popAt (A.e c hN hs tk h1) (A.a c hN hs tk h2) (base_ok hso) hfew hline hs1 hs2
            rw [c.g.K] at z
            exact z.imp (meth_step p_popAt)
          · cases hq
    · cases h
  · cases h
end
end Ev

set_option Elab.async false
set_option linter.all false
set_option maxRecDepth 100000
set_option maxHeartbeats 8000000
/-! Ev, part 14: the readings are right: the induction. -/
namespace Ev
open PySem PySem.Spec PyProof.Rows L2

section
variable {T : Tab} {N : List Str} {C : Cfg} {call : Call} {k n : Nat} {X : Cx} {W : WX} {sc : Scope}
theorem caseE (A : AllOk T N C call k n) (c : CtxG X T C call k) (hN : X.N = N) (hs : X.env.scope = sc) (tk : Takes X W) : ∀ e f, compE T N (n + 1) sc e = some f → PE X e (tE C W call f) := by
  intro e f h
  cases e with
  | Constant cc j pos =>
    simp only [compE] at h
    obtain ⟨d, hd, rfl⟩ := Option.map_eq_some_iff.mp h
    exact const_ok hd
  | Name x pos =>
    simp only [compE] at h
    exact name_ok c hN hs h
  | BinOp a op b p =>
    simp only [compE] at h
    split at h
    · rename_i fa fb q h1 h2 h3
      cases h
      exact bin_ok c.g h3 (A.e c hN hs tk h1) (A.e c hN hs tk h2)
    · cases h
  | UnaryOp op a p =>
    cases op with
    | Not =>
      simp only [compE] at h
      obtain ⟨fa, ha, rfl⟩ := Option.map_eq_some_iff.mp h
      exact ev_notV c.g (A.e c hN hs tk ha)
    | USub =>
      simp only [compE] at h
      obtain ⟨fa, ha, rfl⟩ := Option.map_eq_some_iff.mp h
      exact ev_neg (A.e c hN hs tk ha)
    | _ => simp [compE] at h
  | BoolOp op es p =>
    simp only [compE] at h
    exact A.b c hN hs tk h
  | IfExp t a b p =>
    simp only [compE] at h
    split at h
    · rename_i ft fa fb h1 h2 h3
      cases h
      exact ev_if (A.t c hN hs tk h1) (A.e c hN hs tk h2) (A.e c hN hs tk h3)
    · cases h
  | Compare a ops cs p => exact (cmpAny_ok A c hN hs tk h).1
  | Tuple es x p =>
    simp only [compE] at h
    obtain ⟨fr, hr, rfl⟩ := Option.map_eq_some_iff.mp h
    exact ev_tup (A.a c hN hs tk hr)
  | List es p =>
    simp only [compE] at h
    obtain ⟨fr, hr, rfl⟩ := Option.map_eq_some_iff.mp h
    exact ev_lst (A.a c hN hs tk hr)
  | Dict ks vs p => exact dict_ok A c hN hs tk h
  | Subscript a i p => exact sub_ok A c hN hs tk h
  | ListComp elt gens scope p => exact (lc_ok A c hN hs tk h).pe
  | Call fn args kws p =>
    cases kws with
    | cons kw kws =>
      cases fn with
      | Name x px =>
        cases kws with
        | cons _ _ => cases args <;> simp [compE] at h
        | nil =>
          obtain ⟨nm, e, kpos⟩ := kw
          cases args with
          | cons _ _ => cases nm <;> simp [compE] at h
          | nil =>
            cases nm with
            | none => simp [compE] at h
            | some fd =>
              simp only [compE] at h
              split at h
              · rename_i hc
                simp only [Bool.and_eq_true] at hc
                obtain ⟨hp, hgl⟩ := hc
                obtain ⟨hd, _, hnm⟩ := plainN_ok hp
                have hg := gl_ok hgl hs
                split at h
                · rename_i i _ _ hi
                  obtain ⟨ci, hci, rfl⟩ := clsIdx_ok hi
                  split at h
                  · rename_i ci' fe hc2 hfe
                    rw [hci] at hc2
                    cases hc2
                    split at h
                    · rename_i hn
                      cases h
                      exact ev_mkK c.cl hci hn (c.room.mono (by omega)) hg (A.e c hN hs tk hfe) hd
                    · cases h
                  · cases h
                · cases h
              · cases h
      | _ => simp [compE] at h
    | nil =>
      cases fn with
      | Name x px => exact call_ok A c hN hs tk h
      | Attribute o m px => exact meth_ok A c hN hs tk h
      | _ => simp [compE] at h
  | Attribute e0 f0 p0 =>
    simp only [compE] at h
    split at h
    · rename_i hc
      obtain ⟨fe, hfe, rfl⟩ := Option.map_eq_some_iff.mp h
      exact ev_attr c.cl c.g.K hc.2 (A.e c hN hs tk hfe) (base_ok hc.1)
    · cases h
  | _ => simp [compE] at h
theorem caseT (A : AllOk T N C call k n) (c : CtxG X T C call k) (hN : X.N = N) (hs : X.env.scope = sc) (tk : Takes X W) : ∀ e f, compT T N (n + 1) sc e = some f → PT X e (tT C W call f) := by
  intro e f h
  cases e with
  | UnaryOp op a p =>
    cases op with
    | Not =>
      simp only [compT] at h
      obtain ⟨fa, ha, rfl⟩ := Option.map_eq_some_iff.mp h
      exact ev_notT (A.t c hN hs tk ha)
    | _ =>
      simp only [compT] at h
      obtain ⟨fa, ha, rfl⟩ := Option.map_eq_some_iff.mp h
      exact ev_tru c.g (A.e c hN hs tk ha) fun _ => rfl
  | BoolOp op es p =>
    simp only [compT] at h
    exact (A.tb c hN hs tk h).pt
  | IfExp t a b p => simp [compT] at h
  | Compare a ops cs p =>
    simp only [compT] at h
    obtain ⟨fa, ha, rfl⟩ := Option.map_eq_some_iff.mp h
    exact A.cm c hN hs tk ha rfl
  | _ =>
    simp only [compT] at h
    obtain ⟨fa, ha, rfl⟩ := Option.map_eq_some_iff.mp h
    exact ev_tru c.g (A.e c hN hs tk ha) fun _ => rfl
theorem caseB (A : AllOk T N C call k n) (c : CtxG X T C call k) (hN : X.N = N) (hs : X.env.scope = sc) (tk : Takes X W) : ∀ op es f pos, compB T N (n + 1) sc op es = some f → PE X (.BoolOp op es pos) (tE C W call f) := by
  intro op es f pos h
  match es, h with
  | [], h => simp [compB] at h
  | [a], h =>
    simp only [compB] at h
    exact ev_one (A.e c hN hs tk h)
  | a :: b :: rest, h =>
    simp only [compB] at h
    split at h
    · rename_i fa fb h1 h2
      cases op with
      | And => cases h; exact ev_andV c.g (A.e c hN hs tk h1) (A.b c hN hs tk h2)
      | Or => cases h; exact ev_orV c.g (A.e c hN hs tk h1) (A.b c hN hs tk h2)
    · cases h
theorem caseTB (A : AllOk T N C call k n) (c : CtxG X T C call k) (hN : X.N = N) (hs : X.env.scope = sc) (tk : Takes X W) : ∀ op es f pos, compTB T N (n + 1) sc op es = some f → PW X (.BoolOp op es pos) (tT C W call f) := by
  intro op es f pos h
  match es, h with
  | [], h => simp [compTB] at h
  | [a], h =>
    simp only [compTB] at h
    have h1 := A.t c hN hs tk h
    cases op with
    | And => exact pw_and1 h1
    | Or => exact pw_or1 h1
  | a :: b :: rest, h =>
    simp only [compTB] at h
    split at h
    · rename_i fa fb h1 h2
      cases op with
      | And => cases h; exact ev_andT (A.t c hN hs tk h1) (A.tb c hN hs tk h2)
      | Or => cases h; exact ev_orT (A.t c hN hs tk h1) (A.tb c hN hs tk h2)
    · cases h
theorem caseA (A : AllOk T N C call k n) (c : CtxG X T C call k) (hN : X.N = N) (hs : X.env.scope = sc) (tk : Takes X W) : ∀ es f, compA T N (n + 1) sc es = some f → PA X es (tA C W call f) := by
  intro es f h
  cases es with
  | nil => simp only [compA] at h; cases h; exact ev_nil
  | cons e es =>
    simp only [compA] at h
    split at h
    · split at h
      · rename_i fe fr h1 h2
        cases h
        exact ev_star c.g (A.e c hN hs tk h1) (A.a c hN hs tk h2)
      · cases h
    · split at h
      · rename_i fe fr h1 h2
        cases h
        exact ev_cons (A.e c hN hs tk h1) (A.a c hN hs tk h2) (star_cons (compE_star h1))
      · cases h
theorem caseO (A : AllOk T N C call k n) (c : CtxG X T C call k) (hN : X.N = N) (hs : X.env.scope = sc) (tk : Takes X W) : ∀ o f, compO T N (n + 1) sc o = some f → PO X o (tO C W call f) := by
  intro o f h
  cases o with
  | none => simp only [compO] at h; cases h; exact ev_noPart
  | some e =>
    simp only [compO] at h
    obtain ⟨fe, he, rfl⟩ := Option.map_eq_some_iff.mp h
    exact ev_part (A.e c hN hs tk he)
theorem caseP (A : AllOk T N C call k n) (c : CtxG X T C call k) (hN : X.N = N) (hs : X.env.scope = sc) (tk : Takes X W) : ∀ ks vs f pos, compP T N (n + 1) sc ks vs = some f → PrP X C W call pos ks vs f := by
  intro ks vs f pos h
  match ks, vs, h with
  | [], [], h => simp only [compP] at h; cases h; exact prp_nil
  | some ky :: ks, v :: vs, h =>
    simp only [compP] at h
    split at h
    · rename_i fk fv fr h1 h2 h3
      cases h
      exact prp_cons (A.e c hN hs tk h1) (A.e c hN hs tk h2) (A.p c hN hs tk h3)
    · cases h
  | none :: _, _, h => simp [compP] at h
  | [], _ :: _, h => simp [compP] at h
  | some _ :: _, [], h => simp [compP] at h
theorem caseF (A : AllOk T N C call k n) (c : CtxG X T C call k) (hN : X.N = N) (hs : X.env.scope = sc) (tk : Takes X W) : ∀ cs f, compF T N (n + 1) sc cs = some f → PTs X cs (tT C W call f) := by
  intro cs f h
  match cs, h with
  | [], h =>
    simp only [compF] at h
    cases h
    exact ⟨fun pins s σ H Q I ⟨ρ, hid, S, env, so, n, q⟩ => pts_nil.run pins s σ H Q I (okR.here q so)⟩
  | [e], h =>
    simp only [compF] at h
    exact pts_one (A.t c hN hs tk h)
  | _ :: _ :: _, h => simp [compF] at h
theorem caseI (A : AllOk T N C call k n) (c : CtxG X T C call k) (hN : X.N = N) (hs : X.env.scope = sc) (tk : Takes X W) : ∀ tg e f, compI T N (n + 1) sc tg e = some f → PI X tg e (tI C W call f) := by
  intro tg e f h
  have gen : ∀ fe, compE T N n sc e = some fe → PI X tg e (tI C W call (cSrc fe)) := fun fe hfe => ev_src c.g (A.e c hN hs tk hfe)
  have gen' : (compE T N n sc e).map cSrc = some f → PI X tg e (tI C W call f) := fun h => by
    obtain ⟨fe, hfe, rfl⟩ := Option.map_eq_some_iff.mp h
    exact gen fe hfe
  cases e with
  | Call fn args kws p =>
    cases fn with
    | Name x px =>
      cases kws with
      | cons _ _ => simp only [compI] at h; exact gen' h
      | nil =>
        simp only [compI] at h
        split at h
        · rename_i hx
          obtain ⟨rfl, hf, hg, hns⟩ := hx
          have hst := noStar_ok hns
          clear hns
          match args, h, hst with
          | [a], h, hst =>
            obtain ⟨fr, hr, rfl⟩ := Option.map_eq_some_iff.mp h
            exact ev_range1 (gl_ok hg hs) (c.free _ hf) (A.a c hN hs tk hr) (star_cons (hst a (by simp)))
          | [a, b], h, hst =>
            obtain ⟨fr, hr, rfl⟩ := Option.map_eq_some_iff.mp h
            have s2 : starEach [b] X.env = [(false, eval b X.env)] := star_cons (hst b (by simp))
            exact ev_range2 (gl_ok hg hs) (c.free _ hf) (A.a c hN hs tk hr) (by rw [star_cons (hst a (by simp)), s2]) s2
          | [], h, _ => cases h
          | _ :: _ :: _ :: _, h, _ => cases h
        split at h
        · rename_i hx
          obtain ⟨rfl, hf, hg, hns⟩ := hx
          have hst := noStar_ok hns
          clear hns
          match args, h, hst with
          | [a], h, hst =>
            simp only at h
            split at h
            · rename_i ht
              obtain ⟨fr, hr, rfl⟩ := Option.map_eq_some_iff.mp h
              cases tg with
              | Tuple ts j tp => exact ev_enum c.g (gl_ok hg hs) (c.free _ hf) (A.a c hN hs tk hr) (star_cons (hst a (by simp)))
              | _ => cases ht
            · cases h
          | [], h, _ => cases h
          | _ :: _ :: _, h, _ => cases h
        split at h
        · rename_i hx
          obtain ⟨rfl, hf, hg, hns⟩ := hx
          have hst := noStar_ok hns
          clear hns
          match args, h, hst with
          | [a, b], h, hst =>
            simp only at h
            split at h
            · rename_i ht
              obtain ⟨fr, hr, rfl⟩ := Option.map_eq_some_iff.mp h
              cases tg with
              | Tuple ts j tp => exact ev_zip c.g (gl_ok hg hs) (c.free _ hf) (A.a c hN hs tk hr) (star_cons (hst a (by simp))) (back_any fun e m => hst e (List.mem_cons_of_mem _ m))
              | _ => cases ht
            · cases h
          | [], h, _ => cases h
          | [_], h, _ => cases h
          | _ :: _ :: _ :: _, h, _ => cases h
        · exact gen' h
    | _ => simp only [compI] at h; exact gen' h
  | _ => simp only [compI] at h; exact gen' h
theorem caseIN (A : AllOk T N C call k n) (c : CtxG X T C call k) (hN : X.N = N) (hs : X.env.scope = sc) (tk : Takes X W) : ∀ tg e f, compIN T N (n + 1) sc tg e = some f → PI X tg e (tI C W call f) ∨ ∃ x px i, e = .Name x px ∧ plainN x = true ∧ isVis sc x = true ∧ idx N x = some i ∧ f = cSrcN i := by
  intro tg e f h
  simp only [compIN] at h
  split at h
  · rename_i x px
    split at h
    · rename_i hc
      simp only [Bool.and_eq_true] at hc
      obtain ⟨i, hi, rfl⟩ := Option.map_eq_some_iff.mp h
      exact .inr ⟨x, px, i, rfl, hc.1, hc.2, hi, rfl⟩
    · exact .inl (A.i c hN hs tk h)
  · exact .inl (A.i c hN hs tk h)
theorem caseCm (A : AllOk T N C call k n) (c : CtxG X T C call k) (hN : X.N = N) (hs : X.env.scope = sc) (tk : Takes X W) : ∀ e f, compE T N (n + 1) sc e = some f → isCmp e = true → PT X e (tT C W call (cB f)) := by
  intro e f h hc
  cases e with
  | Compare a ops cs p => exact (cmpAny_ok A c hN hs tk h).2
  | _ => cases hc
end
/-- every reading is right -/
theorem all_ok {T : Tab} {N : List Str} {C : Cfg} {call : Call} {k : Nat} : ∀ n, AllOk T N C call k n
  | 0 => ⟨fun X W sc c hN hs tk => ⟨fun e f h => by simp [compE] at h, fun e f h => by simp [compE] at h, fun e f h => by simp [compT] at h, fun op es f pos h => by simp [compB] at h, fun op es f pos h => by simp [compTB] at h,
    fun es f h => by simp [compA] at h, fun o f h => by simp [compO] at h, fun ks vs f pos h => by simp [compP] at h, fun cs f h => by simp [compF] at h, fun tg e f h => by simp [compI] at h, fun tg e f h => by simp [compIN] at h⟩⟩
  | n + 1 => ⟨fun X W sc c hN hs tk => ⟨caseE (all_ok n) c hN hs tk, caseCm (all_ok n) c hN hs tk, caseT (all_ok n) c hN hs tk, caseB (all_ok n) c hN hs tk, caseTB (all_ok n) c hN hs tk, caseA (all_ok n) c hN hs tk, caseO (all_ok n) c hN hs tk, caseP (all_ok n) c hN hs tk, caseF (all_ok n) c hN hs tk, caseI (all_ok n) c hN hs tk, caseIN (all_ok n) c hN hs tk⟩⟩
end Ev

set_option Elab.async false
set_option linter.all false
set_option maxRecDepth 100000
set_option maxHeartbeats 8000000
/-! Ev, part 15: statements. -/
namespace Ev
open PySem PySem.Spec PyProof.Rows L2

def cPar (is : List Nat) (fr : EA) : ES := fun call env S => (fr call env S).bind fun ds S1 => match is, ds with
  | [i, j], [a, b] => .ok (.nx ((env.set i (some a)).set j (some b))) S1
  | [i, j, l], [a, b, c] => .ok (.nx (((env.set i (some a)).set j (some b)).set l (some c))) S1
  | _, _ => .bad
/-- names that are stored from the right -/
def parNames (sc : Scope) (line : Nat) : List Expr → Option (List Str)
  | [] => some []
  | .Name x p :: es => if sc.names.lookup x = some .local ∧ p.line = line then (parNames sc line es).map (x :: ·) else none
  | _ :: _ => none
def idxs (N : List Str) : List Str → Option (List Nat)
  | [] => some []
  | x :: xs => match idx N x, idxs N xs with
    | some i, some is => some (i :: is)
    | _, _ => none
def headLine : List Expr → Nat
  | e :: _ => e.pos.line
  | [] => 0
mutual
def compS (T : Tab) (N : List Str) : Nat → Scope → Stmt → Option ES
  | 0, _, _ => none
  | n + 1, sc, st => match st with
    | .Assign [tge] e _ => match tge with
      | .Subscript o i _ => if isSlice i then none else match compE T N n sc o, compE T N n sc i, compE T N n sc e with
        | some fo, some fi, some fv => if isComp e then none else some (cSet fo fi fv)
        | _, _, _ => none
      | .Tuple ts _ _ => match e with
        | .Tuple vs _ _ => match parNames sc (headLine ts) ts with
          | some xs => if xs.Nodup ∧ ts.length = vs.length ∧ (ts.length = 2 ∨ ts.length = 3) ∧ noStar vs = true then
              (if vs.all (foldedForSure 8) then match compG N sc n tge, compE T N n sc e with
                | some tg, some fe => some (cAsg tg fe)
                | _, _ => none
              else if vs.all (constantsAlone 8) then none else match idxs N xs, compA T N n sc vs with
                | some is, some fr => some (cPar is fr)
                | _, _ => none)
            else none
          | none => match compG N sc n tge, compE T N n sc e with
            | some tg, some fe => some (cAsg tg fe)
            | _, _ => none
        | _ => match compG N sc n tge, compE T N n sc e with
          | some tg, some fe => some (cAsg tg fe)
          | _, _ => none
      | .Name _ _ => match compG N sc n tge, compE T N n sc e with
        | some tg, some fe => some (cAsg tg fe)
        | _, _ => none
      | _ => none
    | .Expr (.Constant (.str _) _ _) _ => some cSkip
    | .Expr e _ => if isComp e then none else (compE T N n sc e).map cExp
    | .For tge iter body [] _ => if isSet iter then none else match compG N sc 8 tge, compI T N n sc tge iter, compSs T N n sc body with
      | some tg, some fi, some fb => some (cFor tg fi fb)
      | _, _, _ => none
    | .While c body [] _ => match compT T N n sc c, compSs T N n sc body with
      | some ft, some fb => some (cWhile T.most ft fb)
      | _, _ => none
    | .If c a b _ => match compT T N n sc c, compSs T N n sc a, compSs T N n sc b with
      | some ft, some fa, some fb => some (cIfS ft fa fb)
      | _, _, _ => none
    | .Return none _ => some cRetN
    | .Return (some e) _ => (compE T N n sc e).map cRet
    | .Break _ => some cBrk
    | .Continue _ => some cCnt
    | .Pass _ => some cSkip
    | .Raise _ _ _ => some fun _ _ _ => .bad
    | _ => none
def compSs (T : Tab) (N : List Str) : Nat → Scope → List Stmt → Option ES
  | 0, _, _ => none
  | _ + 1, _, [] => some cSkip
  | n + 1, sc, st :: rest => match compS T N n sc st, compSs T N n sc rest with
    | some fa, some fb => some (cSeq fa fb)
    | _, _ => none
end
/-- a frame's context -/
structure CtxF (X : Cx) (T : Tab) (C : Cfg) (call : Call) (k : Nat) : Prop where
  c : CtxG X T C call k
  ps : PassesOwn (model X.prog X.w) X.A X.env X.xe
  fn : ∀ x, X.fn x = true
section
variable {T : Tab} {N : List Str} {C : Cfg} {call : Call} {k n : Nat} {X : Cx} {W : WX} {sc : Scope}
theorem kind_ok {X : Cx} (h : X.env.scope.kind = .function) : X.env.blockKind = .function := by
  unfold Env.blockKind
  rw [h]
  rfl
theorem own_frame (hs : X.env.scope = sc) (fn : ∀ x, X.fn x = true) : ∀ x, isLoc sc x = true → Loc X.env.scope x ∧ (X.fn x = true ∨ X.env.scope.names.lookup x = some .local) := by
  intro x h
  subst hs
  exact ⟨loc_ok h, .inl (fn x)⟩
theorem swaps_no {e : Expr} {t : Option Expr} {l : Nat} {env : Env} (h : isComp e = false) : swapsWith e t l env = pure false := by
  cases e <;> first | rfl | cases h
theorem swaps_tup {e : Expr} {ts : List Expr} {j : Nat} {p : Pos} {l : Nat} {env : Env} (h : ∀ a b c d e', e ≠ .DictComp a b c d e') : swapsWith e (some (.Tuple ts j p)) l env = pure false := by
  cases e <;> rfl
theorem swappedNo {tge e : Expr} {env : Env} (h : isTupE tge = false ∨ isTupE e = false) (hl : ∀ es p, tge ≠ .List es p) : swappedStores [tge] e env = pure none := by
  cases tge <;> first | rfl | exact (hl _ _ rfl).elim | skip
  cases e <;> first | rfl | skip
  rcases h with h | h <;> cases h
theorem asg_ok {tge e : Expr} {pos : Pos} {tg : Tg} {fe : EE} (c : CtxF X T C call k) (hN : X.N = N) (hs : X.env.scope = sc) (tk : Takes X W) (hg : compG N sc n tge = some tg) (he : compE T N n sc e = some fe) (hw : swappedStores [tge] e X.env = pure none) :
    PS X (.Assign [tge] e pos) (tS C W call (cAsg tg fe)) := by
  have g := c.c.g
  have hpg := (tg_ok (X := X) g.hc g.K hN g.nd (own_frame hs c.fn) n).1 tge tg hg
  have h1 : (assignEach [tge] X.env).map (·.2) = [assign tge X.env] := by
    rcases assign_cons (e := tge) (es := []) (env := X.env) with q | q
    · exact q
    · rw [compG_star hg] at q; cases q
  by_cases hc : isComp e = true
  · cases e with
    | ListComp elt gens scope cp =>
      cases n with
      | zero => simp [compE] at he
      | succ n =>
        have hE := (all_ok (T := T) (N := N) (C := C) (call := call) (k := k) (n + 1)).e c.c hN hs tk he
        have fin : swapsWith (.ListComp elt gens scope cp) (some tge) pos.line X.env = pure false → PS X (.Assign [tge] (.ListComp elt gens scope cp) pos) (tS C W call (cAsg tg fe)) := fun hsw => ev_asg hE hpg hsw hw h1
        cases tge with
        | Name y py =>
          have hb : ∃ b, swapsWith (.ListComp elt gens scope cp) (some (.Name y py)) pos.line X.env = pure b ∧ (b = true → X.env.scope.names.lookup y = some .local) := by
            refine ⟨_, rfl, fun hb => ?_⟩
            simp only [Bool.and_eq_true] at hb
            have q := hb.1.1.2
            have q2 : X.env.kindOf y = some .local := by
              revert q
              cases X.env.kindOf y with
              | none => intro q; cases q
              | some z => cases z <;> intro q <;> first | rfl | cases q
            exact q2
          obtain ⟨b, hb, hl⟩ := hb
          cases b with
          | false => exact fin hb
          | true =>
            have L := lc_ok (all_ok n) c.c hN hs tk he
            simp only [compG] at hg
            split at hg
            · obtain ⟨i, hi', rfl⟩ := Option.map_eq_some_iff.mp hg
              subst hN
              exact (L.ps i y py pos (idx_ok hi') (hl rfl) hb).imp fun D σ H q => asg_step (tg := .nm i) (fun _ _ _ q => q) D σ H q
            · cases hg
        | Tuple ts j p => exact fin rfl
        | _ => simp [compG] at hg
    | SetComp => cases n <;> simp [compE] at he
    | DictComp => cases n <;> simp [compE] at he
    | _ => cases hc
  · exact ev_asg ((all_ok n).e c.c hN hs tk he) hpg (swaps_no (by simpa using hc)) hw h1
theorem eraseDups_self {α : Type} [BEq α] [LawfulBEq α] : ∀ {xs : List α}, xs.Nodup → xs.eraseDups = xs
  | [], _ => rfl
  | x :: xs, h => by
    rw [List.eraseDups_cons]
    obtain ⟨h1, h2⟩ := List.nodup_cons.mp h
    rw [List.filter_eq_self.mpr, eraseDups_self h2]
    intro y hy
    have : y ≠ x := fun e => h1 (e ▸ hy)
    simpa using this
theorem parNames_len {line : Nat} : ∀ {ts : List Expr} {xs : List Str}, parNames sc line ts = some xs → xs.length = ts.length
  | [], _, h => by simp [parNames] at h; subst h; rfl
  | t :: ts, xs, h => by
    cases t <;> simp only [parNames] at h <;> first | (cases h; done) | skip
    split at h
    · obtain ⟨ys, hy, rfl⟩ := Option.map_eq_some_iff.mp h
      rw [List.length_cons, List.length_cons, parNames_len hy]
    · cases h
theorem parNames_map {line : Nat} {env : Env} {F : Expr → Option Str} (hs : env.scope = sc) (hF : ∀ id pos, F (.Name id pos) = if env.kindOf id == some .local && pos.line == line then some id else none) : ∀ {ts : List Expr} {xs : List Str}, parNames sc line ts = some xs → ts.filterMap F = xs
  | [], _, h => by simp [parNames] at h; subst h; rfl
  | t :: ts, xs, h => by
    cases t <;> simp only [parNames] at h <;> first | (cases h; done) | skip
    split at h
    · rename_i x px hc
      obtain ⟨ys, hy, rfl⟩ := Option.map_eq_some_iff.mp h
      have ih := parNames_map hs hF hy
      have hk : env.kindOf x = some NameKind.local := by unfold Env.kindOf; rw [hs]; exact hc.1
      rw [List.filterMap_cons, hF, hk, hc.2, ih]
      simp
    · cases h
theorem parNames_no {line : Nat} {env : Env} {F : Expr → Option Str} (hs : env.scope = sc) (hF : ∀ id pos, F (.Name id pos) = if env.kindOf id == some .local && pos.line == line then some id else none) (hO : ∀ e, (∀ id pos, e ≠ .Name id pos) → F e = none) :
    ∀ {ts : List Expr}, parNames sc line ts = none → (ts.filterMap F).length < ts.length
  | [], h => by simp [parNames] at h
  | t :: ts, h => by
    have le : (ts.filterMap F).length ≤ ts.length := List.length_filterMap_le _ _
    rw [List.filterMap_cons, List.length_cons]
    by_cases hn : ∃ id pos, t = .Name id pos
    · obtain ⟨x, px, rfl⟩ := hn
      simp only [parNames] at h
      split at h
      · have ih := parNames_no hs hF hO (Option.map_eq_none_iff.mp h)
        split
        · omega
        · rw [List.length_cons]; omega
      · rename_i hc
        have e0 : F (.Name x px) = none := by
          rw [hF, if_neg]
          intro hh
          simp only [Bool.and_eq_true, beq_iff_eq] at hh
          refine hc ⟨?_, hh.2⟩
          have q := hh.1
          unfold Env.kindOf at q
          rw [hs] at q
          revert q
          cases sc.names.lookup x with
          | none => intro q; cases q
          | some z => cases z <;> intro q <;> first | rfl | cases q
        rw [e0]
        simp only
        omega
    · rw [hO t fun id pos e => hn ⟨id, pos, e⟩]
      simp only
      omega
theorem any_no {F : Expr → Bool} (hF : ∀ e, F e = isStar e) {vs : List Expr} (hst : ∀ e ∈ vs, isStar e = false) : vs.any F = false := by
  rw [List.any_eq_false]
  intro e he
  rw [hF, hst e he]
  simp
theorem swapped_eq {ts vs : List Expr} {xs : List Str} {j j' : Nat} {p p' : Pos} {env : Env} (hs : env.scope = sc) (hk : env.blockKind = .function) (hl : ts.length = vs.length) (h23 : ts.length = 2 ∨ ts.length = 3) (hx : parNames sc (headLine ts) ts = some xs) (hnd : xs.Nodup) (hst : ∀ e ∈ vs, isStar e = false)
    (b : Bool) (hf : vs.all (foldedForSure 8) = b) (hb : b = false → vs.all (constantsAlone 8) = false) : swappedStores [.Tuple ts j p] (.Tuple vs j' p') env = pure (if b then none else some xs) := by
  have hlen := parNames_len hx
  have hd : (ts.head?.map (·.pos.line)).getD 0 = headLine ts := by cases ts <;> rfl
  have h1 : (!(ts.length == 2 || ts.length == 3) || vs.length != ts.length || env.blockKind != .function) = false := by
    rw [hk, hl]
    rcases h23 with h | h <;> simp [← hl, h] <;> rfl
  have h2 : (xs.length != ts.length || xs.eraseDups.length != xs.length) = false := by
    rw [eraseDups_self hnd, hlen]; simp
  unfold swappedStores
  simp only [hd, h1]
  rw [any_no ?hA hst, parNames_map hs ?hB hx]
  case hA => intro e; cases e <;> rfl
  case hB => intro id pos; rfl
  simp only [h2, hf]
  cases b with
  | true => rfl
  | false =>
    rw [hb rfl]
    rfl
theorem swapped_none {ts vs : List Expr} {j j' : Nat} {p p' : Pos} {env : Env} (hs : env.scope = sc) (hx : parNames sc (headLine ts) ts = none) : swappedStores [.Tuple ts j p] (.Tuple vs j' p') env = pure none := by
  have hd : (ts.head?.map (·.pos.line)).getD 0 = headLine ts := by cases ts <;> rfl
  unfold swappedStores
  simp only [hd]
  split
  · rfl
  · split
    · rfl
    · rw [if_pos]
      simp only [Bool.or_eq_true, bne_iff_ne]
      refine .inl (Nat.ne_of_lt (parNames_no hs ?_ ?_ hx))
      · intro id pos; rfl
      · intro e he
        cases e <;> first | rfl | exact (he _ _ rfl).elim
theorem par_ok {ts vs : List Expr} {xs : List Str} {is : List Nat} {j j' : Nat} {p p' pos : Pos} {fr : EA} (c : CtxF X T C call k) (hN : X.N = N) (hs : X.env.scope = sc) (tk : Takes X W) (hl : ts.length = vs.length) (h23 : ts.length = 2 ∨ ts.length = 3) (hx : parNames sc (headLine ts) ts = some xs) (hnd : xs.Nodup) (hst : ∀ e ∈ vs, isStar e = false)
    (hf : vs.all (foldedForSure 8) = false) (hb : vs.all (constantsAlone 8) = false) (hi : idxs N xs = some is) (ha : compA T N n sc vs = some fr) : PS X (.Assign [.Tuple ts j p] (.Tuple vs j' p') pos) (tS C W call (cPar is fr)) := by
  have g := c.c.g
  have hw := swapped_eq (j := j) (j' := j') (p := p) (p' := p') hs (kind_ok c.c.kind) hl h23 hx hnd hst false hf fun _ => hb
  have hA := (all_ok n).a c.c hN hs tk ha
  have hsw : swapsWithSole [.Tuple ts j p] (.Tuple vs j' p') pos.line X.env = pure false := rfl
  subst hN
  subst hs
  match ts, vs, hl, h23, hx, hw, hA, hsw with
  | [t1, t2], [a, b], _, _, hx, hw, hA, hsw =>
    cases t1 <;> simp only [parNames] at hx <;> first | (cases hx; done) | skip
    split at hx
    · rename_i x px hc1
      obtain ⟨ys, hy, rfl⟩ := Option.map_eq_some_iff.mp hx
      cases t2 <;> simp only [parNames] at hy <;> first | (cases hy; done) | skip
      split at hy
      · rename_i y py hc2
        simp only [Option.map_some, Option.some.injEq] at hy
        subst hy
        simp only [idxs] at hi
        split at hi
        · rename_i i is' h1 h2
          split at h2
          · rename_i i2 is2 h3 h4
            cases h4
            cases h2
            cases hi
            have hij : i ≠ i2 := by
              rintro rfl
              have e1 := idx_ok h1
              rw [idx_ok h3] at e1
              simp at hnd
              exact hnd (Option.some.inj e1).symm
            refine (ps_par g.hc g.nd (idx_ok h1) (idx_ok h3) hij hc1.1 hc2.1 hA hw hsw).imp fun D σ H q => ?_
            obtain ⟨ρ, hid, S, env, s, n, q⟩ := q
            refine ⟨ρ, hid, S, env, s, n, (okR.bind q).imp (fun ds S1 ρ1 H1 e1 s1 h1 vs rs => ?_) fun _ _ _ _ _ _ _ _ q => q⟩
            match ds, h1 with
            | [a, b], h1 =>
              cases rs with
              | cons ra rs =>
                cases rs with
                | cons rb rs =>
                  cases rs
                  exact ⟨_, _, rfl, okR.here h1 s1 _ (((n.ext e1).set ra _).set rb _)⟩
            | [], h1 => exact h1.elim
            | [_], h1 => exact h1.elim
            | _ :: _ :: _ :: _, h1 => exact h1.elim
          · cases h2
        · cases hi
      · cases hy
    · cases hx
  | [t1, t2, t3], [a, b, d], _, _, hx, hw, hA, hsw =>
    cases t1 <;> simp only [parNames] at hx <;> first | (cases hx; done) | skip
    split at hx
    · rename_i x px hc1
      obtain ⟨ys, hy, rfl⟩ := Option.map_eq_some_iff.mp hx
      cases t2 <;> simp only [parNames] at hy <;> first | (cases hy; done) | skip
      split at hy
      · rename_i y py hc2
        obtain ⟨zs, hz, rfl⟩ := Option.map_eq_some_iff.mp hy
        cases t3 <;> simp only [parNames] at hz <;> first | (cases hz; done) | skip
        split at hz
        · rename_i z pz hc3
          simp only [Option.map_some, Option.some.injEq] at hz
          subst hz
          simp only [idxs] at hi
          split at hi
          · rename_i i is' h1 h2
            split at h2
            · rename_i i2 is2 h3 h4
              split at h4
              · rename_i i3 is3 h5 h6
                cases h6
                cases h4
                cases h2
                cases hi
                have ne : ∀ {a b : Str} {i j : Nat}, idx X.N a = some i → idx X.N b = some j → a ≠ b → i ≠ j := by
                  rintro a b i _ ha hb hab rfl
                  have e1 := idx_ok ha
                  rw [idx_ok hb] at e1
                  exact hab (Option.some.inj e1).symm
                simp at hnd
                refine (ps_par3 g.hc g.nd (idx_ok h1) (idx_ok h3) (idx_ok h5) (ne h1 h3 hnd.1.1) (ne h1 h5 hnd.1.2) (ne h3 h5 hnd.2) hc1.1 hc2.1 hc3.1 hA hw hsw).imp fun D σ H q => ?_
                obtain ⟨ρ, hid, S, env, s, n, q⟩ := q
                refine ⟨ρ, hid, S, env, s, n, (okR.bind q).imp (fun ds S1 ρ1 H1 e1 s1 h1 vs rs => ?_) fun _ _ _ _ _ _ _ _ q => q⟩
                match ds, h1 with
                | [a, b, c], h1 =>
                  cases rs with
                  | cons ra rs =>
                    cases rs with
                    | cons rb rs =>
                      cases rs with
                      | cons rc rs =>
                        cases rs
                        exact ⟨_, _, _, rfl, okR.here h1 s1 _ ((((n.ext e1).set ra _).set rb _).set rc _)⟩
                | [], h1 => exact h1.elim
                | [_], h1 => exact h1.elim
                | [_, _], h1 => exact h1.elim
                | _ :: _ :: _ :: _ :: _, h1 => exact h1.elim
              · cases h4
            · cases h2
          · cases hi
        · cases hz
      · cases hy
    · cases hx
  | [], _, _, h23, _, _, _, _ => simp at h23
  | [_], _, _, h23, _, _, _, _ => simp at h23
  | _ :: _ :: _ :: _ :: _, _, _, h23, _, _, _, _ => simp at h23
/-- all statements at one fuel -/
theorem stmt_ok : ∀ n (X : Cx) (W : WX) (sc : Scope), CtxF X T C call k → X.N = N → X.env.scope = sc → Takes X W →
    (∀ st f, compS T N n sc st = some f → PS X st (tS C W call f)) ∧ (∀ sts f, compSs T N n sc sts = some f → PSs X sts (tS C W call f))
  | 0, X, W, sc, c, hN, hs, tk => ⟨fun st f h => by simp [compS] at h, fun st f h => by simp [compSs] at h⟩
  | n + 1, X, W, sc, c, hN, hs, tk => by
    have ih := stmt_ok n X W sc c hN hs tk
    have A := all_ok (T := T) (N := N) (C := C) (call := call) (k := k) n
    have g := c.c.g
    refine ⟨fun st f h => ?_, fun sts f h => ?_⟩
    · cases st with
      | Assign tgs e pos =>
        match tgs, h with
        | [], h => simp [compS] at h
        | _ :: _ :: _, h => simp [compS] at h
        | [tge], h =>
          cases tge with
          | Name x px =>
            simp only [compS] at h
            split at h
            · rename_i tg fe h1 h2
              cases h
              exact asg_ok c hN hs tk h1 h2 (swappedNo (.inl rfl) (by intros; simp))
            · cases h
          | Subscript o i pi =>
            simp only [compS] at h
            split at h
            · cases h
            · rename_i hsl
              split at h
              · rename_i fo fi fv h1 h2 h3
                split at h
                · cases h
                · rename_i hc
                  cases h
                  refine ev_set g (A.e c.c hN hs tk h1) (A.e c.c hN hs tk h2) (A.e c.c hN hs tk h3) (show swapsWithSole [.Subscript o i pi] e pos.line X.env = pure false from swaps_no (e := e) (t := some (.Subscript o i pi)) (l := pos.line) (env := X.env) (by simpa using hc)) (swappedNo (.inl rfl) (by intros; simp)) ?_
                  intro v
                  cases i <;> first | rfl | exact (hsl rfl).elim
              · cases h
          | Tuple ts j p =>
            by_cases ht : isTupE e = true
            · cases e with
              | Tuple vs j' p' =>
                simp only [compS] at h
                split at h
                · rename_i xs hx
                  split at h
                  · rename_i hc
                    obtain ⟨hnd, hl, h23, hns⟩ := hc
                    have hst := noStar_ok hns
                    split at h
                    · rename_i hf
                      split at h
                      · rename_i tg fe h1 h2
                        cases h
                        exact asg_ok c hN hs tk h1 h2 (swapped_eq hs (kind_ok c.c.kind) hl h23 hx hnd hst true hf (by simp))
                      · cases h
                    · rename_i hf
                      split at h
                      · cases h
                      · rename_i hb
                        split at h
                        · rename_i is fr h1 h2
                          cases h
                          exact par_ok c hN hs tk hl h23 hx hnd hst (by simpa using hf) (by simpa using hb) h1 h2
                        · cases h
                  · cases h
                · rename_i hx
                  split at h
                  · rename_i tg fe h1 h2
                    cases h
                    exact asg_ok c hN hs tk h1 h2 (swapped_none hs hx)
                  · cases h
              | _ => cases ht
            · have hno : ∀ {α : Type} (a b : α), isTupE e = true → a = b := fun _ _ q => (ht q).elim
              have h' : (match compG N sc n (.Tuple ts j p), compE T N n sc e with
                | some tg, some fe => some (cAsg tg fe)
                | _, _ => none) = some f := by
                cases e <;> first | exact (ht rfl).elim | (simp only [compS] at h; exact h)
              split at h'
              · rename_i tg fe h1 h2
                cases h'
                exact asg_ok c hN hs tk h1 h2 (swappedNo (.inr (by simpa using ht)) (by intros; simp))
              · cases h'
          | _ => simp [compS] at h
      | Expr e pos =>
        have gen : (if isComp e then none else (compE T N n sc e).map cExp) = some f → PS X (.Expr e pos) (tS C W call f) := fun h => by
          split at h
          · cases h
          · rename_i hc
            obtain ⟨fe, he, rfl⟩ := Option.map_eq_some_iff.mp h
            exact ev_exp (A.e c.c hN hs tk he) (swaps_no (by simpa using hc))
        cases e with
        | Constant cc j p =>
          cases cc with
          | str x =>
            simp only [compS] at h
            cases h
            exact ev_skip ps_doc
          | _ => simp only [compS] at h; exact gen h
        | _ => simp only [compS] at h; exact gen h
      | For tge iter body els pos =>
        cases els with
        | cons _ _ => simp [compS] at h
        | nil =>
          simp only [compS] at h
          split at h
          · cases h
          · rename_i hset
            split at h
            · rename_i tg fi fb h1 h2 h3
              cases h
              exact ev_for g c.ps (A.i c.c hN hs tk h2) ((tg_ok (X := X) g.hc g.K hN g.nd (own_frame hs c.fn) 8).1 tge tg h1) (ih.2 _ _ h3) (fold_ok (by simpa using hset))
            · cases h
      | While cnd body els pos =>
        cases els with
        | cons _ _ => simp [compS] at h
        | nil =>
          simp only [compS] at h
          split at h
          · rename_i ft fb h1 h2
            cases h
            exact ev_while c.ps (A.t c.c hN hs tk h1) (ih.2 _ _ h2)
          · cases h
      | If cnd a b pos =>
        simp only [compS] at h
        split at h
        · rename_i ft fa fb h1 h2 h3
          cases h
          exact ev_ifS (A.t c.c hN hs tk h1) (ih.2 _ _ h2) (ih.2 _ _ h3)
        · cases h
      | Return o pos =>
        cases o with
        | none => simp only [compS] at h; cases h; exact ev_retN
        | some e =>
          simp only [compS] at h
          obtain ⟨fe, he, rfl⟩ := Option.map_eq_some_iff.mp h
          exact ev_ret (A.e c.c hN hs tk he)
      | Break pos => simp only [compS] at h; cases h; exact ev_brk
      | Continue pos => simp only [compS] at h; cases h; exact ev_cnt
      | Pass pos => simp only [compS] at h; cases h; exact ev_skip ps_pass
      | Raise a b pos => simp only [compS] at h; cases h; exact ps_never.imp fun D σ H q => by obtain ⟨_, _, _, _, _, _, q⟩ := q; exact q.elim
      | _ => simp [compS] at h
    · cases sts with
      | nil => simp only [compSs] at h; cases h; exact ev_skipNil
      | cons st rest =>
        simp only [compSs] at h
        split at h
        · rename_i fa fb h1 h2
          cases h
          exact ev_seq (ih.1 _ _ h1) (ih.2 _ _ h2)
        · cases h
end
end Ev

set_option Elab.async false
set_option linter.all false
set_option maxRecDepth 100000
set_option maxHeartbeats 4000000
/-! Ev, part 16: defs. -/
namespace Ev
open PySem PySem.Spec PyProof.Rows L2

/-! ### what leaves a def is frozen: the boxes it made go -/
mutual
def frzD (rf : Nat → Option D) : D → Option D
  | .ref l => rf l
  | .tup ds => (frzDs rf ds).map .tup
  | .lst ds => (frzDs rf ds).map .lst
  | .dic kvs => (frzKv rf kvs).map .dic
  | .non => some .non
  | .bl b => some (.bl b)
  | .int i => some (.int i)
  | .str x => some (.str x)
  | .fn i => some (.fn i)
  | .ty n => some (.ty n)
  | .cls c => some (.cls c)
  | .pr _ => none
  | .scr _ => none
  | .exc c ns ds => (frzDs rf ds).map (.exc c ns)
  | .clo _ _ => none
def frzDs (rf : Nat → Option D) : List D → Option (List D)
  | [] => some []
  | d :: ds => match frzD rf d, frzDs rf ds with
    | some d', some ds' => some (d' :: ds')
    | _, _ => none
def frzKv (rf : Nat → Option D) : List (Key × D) → Option (List (Key × D))
  | [] => some []
  | (k, d) :: ds => match frzD rf d, frzKv rf ds with
    | some d', some ds' => some ((k, d') :: ds')
    | _, _ => none
end
/-- kr: the boxes that stay, and where -/
def frzR (kr : Nat → Option Nat) (S : Sto) : Nat → Nat → Option D
  | 0, _ => none
  | k + 1, l => match kr l with
    | some j => some (.ref j)
    | none => match S[l]? with
      | some (.lst ds) => (frzDs (frzR kr S k) ds).map .lst
      | some (.dic kvs) => (frzKv (frzR kr S k) kvs).map .dic
      | _ => none
def kr0 (n : Nat) (l : Nat) : Option Nat := if l < n then some l else none
/-- the box at t stays, too -/
def kr1 (n t : Nat) (l : Nat) : Option Nat := if l < n then some l else if l = t then some n else none
def frzO (rf : Nat → Option D) : O → Option O
  | .lst ds => (frzDs rf ds).map .lst
  | .dic kvs => (frzKv rf kvs).map .dic
  | .hid => none
def frzMost : Nat := 40
def done0 (n : Nat) (d : D) (S : Sto) : R D := match frzD (frzR (kr0 n) S frzMost) d with
  | some d' => if (S.take n).all (clsO n) then .ok d' (S.take n) else .bad
  | none => .bad
/-- keep: 0: all is frozen; 1: the box that is told stays one; else: all stays -/
def done (keep : Nat) (n : Nat) (d : D) (S : Sto) : R D := match keep with
  | 0 => done0 n d S
  | 1 => match d with
    | .ref t => if t < n then done0 n d S else match S[t]? with
      | some o => match frzO (frzR (kr1 n t) S frzMost) o with
        | some o' => if (S.take n).all (clsO n) then .ok (.ref n) (S.take n ++ [o']) else .bad
        | none => .bad
      | none => .bad
    | d => done0 n d S
  | _ => .ok d S
def doneX (n : Nat) (c : Nat) (fs : List (Str × D)) (S : Sto) : R D := match frzDs (frzR (kr0 n) S frzMost) (fs.map (·.2)) with
  | some ds => if (S.take n).all (clsO n) then .exc c ((fs.map (·.1)).zip ds) [] (S.take n) else .bad
  | none => .bad
def finish (keep : Nat) (n : Nat) : R F → R D
  | .ok (.rt d) S => done keep n d S
  | .ok (.nx _) S => done keep n .non S
  | .ok _ _ => .bad
  | .exc c fs _ S => doneX n c fs S
  | .bad => .bad

section
variable {C : Cfg} {ρ ρ1 hid : List Addr} {H : Hp} {S : Sto} {n : Nat}
theorem fz_sub (h3 : ∀ b ∈ ρ1, b ∈ ρ) {a : Addr} (h : Fz ρ hid a) : Fz ρ1 hid a := ⟨fun m => h.1 (h3 _ m), h.2⟩
theorem tupA_sub (h3 : ∀ b ∈ ρ1, b ∈ ρ) {a : Addr} {vs : List V} (h : TupA C ρ hid H a vs) : TupA C ρ1 hid H a vs := h.imp (fun h => ⟨h.1, fz_sub h3 h.2⟩) id
mutual
theorem frzD_ok (h3 : ∀ b ∈ ρ1, b ∈ ρ) {rf : Nat → Option D} (hr : ∀ l a d', ρ[l]? = some a → rf l = some d' → Rl C ρ1 hid H d' (.ref a)) : ∀ {d d' : D} {v : V}, Rl C ρ hid H d v → frzD rf d = some d' → Rl C ρ1 hid H d' v
  | _, _, _, .non, h => by simp [frzD] at h; subst h; exact .non
  | _, _, _, .bl b, h => by simp [frzD] at h; subst h; exact .bl b
  | _, _, _, .int b, h => by simp [frzD] at h; subst h; exact .int b
  | _, _, _, .str x z, h => by simp [frzD] at h; subst h; exact .str x z
  | _, _, _, .tup hA r, h => by
    simp only [frzD] at h
    obtain ⟨ds', h', rfl⟩ := Option.map_eq_some_iff.mp h
    exact .tup (tupA_sub h3 hA) (frzDs_ok h3 hr r h')
  | _, _, _, .lst hA r, h => by
    simp only [frzD] at h
    obtain ⟨ds', h', rfl⟩ := Option.map_eq_some_iff.mp h
    exact .lst ⟨hA.1, fz_sub h3 hA.2⟩ (frzDs_ok h3 hr r h')
  | _, _, _, .dic e f r, h => by
    simp only [frzD] at h
    obtain ⟨ds', h', rfl⟩ := Option.map_eq_some_iff.mp h
    exact .dic e (fz_sub h3 f) (frzKv_ok h3 hr r h')
  | _, _, _, .ref hl, h => by
    simp only [frzD] at h
    exact hr _ _ _ hl h
  | _, _, _, .pr _ _ _, h => by simp [frzD] at h
  | _, _, _, .scr _ _, h => by simp [frzD] at h
  | _, _, _, .fn b, h => by simp [frzD] at h; subst h; exact .fn b
  | _, _, _, .ty b, h => by simp [frzD] at h; subst h; exact .ty b
  | _, _, _, .cls b z, h => by simp [frzD] at h; subst h; exact .cls b z
  | _, _, _, .exc0 z e f, h => by simp [frzD, frzDs] at h; subst h; exact .exc0 z e (fz_sub h3 f)
  | _, _, _, .exc1 z e f e2 f2 hn r, h => by
    simp only [frzD] at h
    obtain ⟨ds', h', rfl⟩ := Option.map_eq_some_iff.mp h
    exact .exc1 z e (fz_sub h3 f) e2 (fz_sub h3 f2) hn (frzDs_ok h3 hr r h')
theorem frzDs_ok (h3 : ∀ b ∈ ρ1, b ∈ ρ) {rf : Nat → Option D} (hr : ∀ l a d', ρ[l]? = some a → rf l = some d' → Rl C ρ1 hid H d' (.ref a)) : ∀ {d d' : List D} {v : List V}, RlAll C ρ hid H d v → frzDs rf d = some d' → RlAll C ρ1 hid H d' v
  | _, _, _, .nil, h => by simp [frzDs] at h; subst h; exact .nil
  | _, _, _, .cons r rs, h => by
    simp only [frzDs] at h
    split at h
    · rename_i h1 h2
      cases h
      exact .cons (frzD_ok h3 hr r h1) (frzDs_ok h3 hr rs h2)
    · cases h
theorem frzKv_ok (h3 : ∀ b ∈ ρ1, b ∈ ρ) {rf : Nat → Option D} (hr : ∀ l a d', ρ[l]? = some a → rf l = some d' → Rl C ρ1 hid H d' (.ref a)) : ∀ {d d' : List (Key × D)} {v : List (Key × V)}, RlKv C ρ hid H d v → frzKv rf d = some d' → RlKv C ρ1 hid H d' v
  | _, _, _, .nil, h => by simp [frzKv] at h; subst h; exact .nil
  | _, _, _, .cons r rs, h => by
    simp only [frzKv] at h
    split at h
    · rename_i h1 h2
      cases h
      exact .cons (frzD_ok h3 hr r h1) (frzKv_ok h3 hr rs h2)
    · cases h
end
theorem not_take {l : Nat} {a : Addr} (nd : ρ.Nodup) (h : ρ[l]? = some a) (hl : ¬ l < n) : a ∉ ρ.take n := fun m => by
  obtain ⟨j, hj⟩ := List.mem_iff_getElem?.mp m
  rw [List.getElem?_take] at hj
  split at hj
  · rename_i hjn
    obtain ⟨hl1, e1⟩ := List.getElem?_eq_some_iff.mp h
    obtain ⟨hj1, e2⟩ := List.getElem?_eq_some_iff.mp hj
    have := (List.getElem_inj nd).mp (e1.trans e2.symm)
    omega
  · cases hj
/-- the boxes that stay stand in ρ1 -/
structure KrOk (kr : Nat → Option Nat) (ρ ρ1 : List Addr) : Prop where
  at_ : ∀ l j a, kr l = some j → ρ[l]? = some a → ρ1[j]? = some a
  no : ∀ l a, kr l = none → ρ[l]? = some a → a ∉ ρ1
  sub : ∀ b ∈ ρ1, b ∈ ρ
theorem kr0_ok (s : StoOk C hid ρ H S) : KrOk (kr0 n) ρ (ρ.take n) := by
  refine ⟨fun l j a h e => ?_, fun l a h e => ?_, fun b m => List.mem_of_mem_take m⟩
  · unfold kr0 at h
    split at h
    · rename_i hl; cases h; rw [List.getElem?_take, if_pos hl]; exact e
    · cases h
  · unfold kr0 at h
    split at h
    · cases h
    · rename_i hl; exact not_take s.nd e hl
theorem kr1_ok (s : StoOk C hid ρ H S) {t : Nat} {a : Addr} (ht : ρ[t]? = some a) (hn : n ≤ ρ.length) : KrOk (kr1 n t) ρ (ρ.take n ++ [a]) := by
  have hl0 : (ρ.take n).length = n := by rw [List.length_take]; omega
  refine ⟨fun l j b h e => ?_, fun l b h e => ?_, fun b m => ?_⟩
  · unfold kr1 at h
    split at h
    · rename_i hl; cases h; rw [List.getElem?_append_left (by omega), List.getElem?_take, if_pos hl]; exact e
    · split at h
      · rename_i e2; cases h; subst e2; rw [ht] at e; cases e; rw [List.getElem?_append_right (by omega), hl0]; simp
      · cases h
  · unfold kr1 at h
    split at h
    · cases h
    · rename_i hl
      split at h
      · cases h
      · rename_i hne
        intro m
        rcases List.mem_append.mp m with m | m
        · exact not_take s.nd e hl m
        · rw [List.mem_singleton] at m
          subst m
          obtain ⟨hl1, e1⟩ := List.getElem?_eq_some_iff.mp e
          obtain ⟨hj1, e2⟩ := List.getElem?_eq_some_iff.mp ht
          exact hne ((List.getElem_inj s.nd).mp (e1.trans e2.symm))
  · rcases List.mem_append.mp m with m | m
    · exact List.mem_of_mem_take m
    · rw [List.mem_singleton] at m; subst m; exact List.mem_of_getElem? ht
theorem frzR_ok (s : StoOk C hid ρ H S) {kr : Nat → Option Nat} (kh : KrOk kr ρ ρ1) : ∀ k l a d', ρ[l]? = some a → frzR kr S k l = some d' → Rl C ρ1 hid H d' (.ref a)
  | 0, _, _, _, _, h => by simp [frzR] at h
  | k + 1, l, a, d', hl, h => by
    simp only [frzR] at h
    split at h
    · rename_i j hj
      cases h
      exact .ref (kh.at_ _ _ _ hj hl)
    · rename_i hj
      have hfz : Fz ρ1 hid a := ⟨kh.no _ _ hj hl, fun m => (s.hidT a m).2 (List.mem_of_getElem? hl)⟩
      split at h
      · rename_i ds hS
        obtain ⟨ds', h', rfl⟩ := Option.map_eq_some_iff.mp h
        obtain ⟨vs, e, z, r⟩ := s.obj l a _ hl hS
        exact .lst ⟨⟨.inl e, z⟩, hfz⟩ (frzDs_ok kh.sub (frzR_ok s kh k) r h')
      · rename_i kvs hS
        obtain ⟨ds', h', rfl⟩ := Option.map_eq_some_iff.mp h
        obtain ⟨vs, e, z, r⟩ := s.obj l a _ hl hS
        exact .dic (.inl e) hfz (frzKv_ok kh.sub (frzR_ok s kh k) r h')
      · cases h
mutual
theorem clsD_ok (h3 : ∀ b ∈ ρ1, b ∈ ρ) (hr : ∀ l a, l < n → ρ[l]? = some a → ρ1[l]? = some a) : ∀ {d : D} {v : V}, Rl C ρ hid H d v → clsD n d = true → Rl C ρ1 hid H d v
  | _, _, .non, h => .non
  | _, _, .bl b, h => .bl b
  | _, _, .int b, h => .int b
  | _, _, .str x z, h => .str x z
  | _, _, .tup hA r, h => .tup (tupA_sub h3 hA) (clsDs_ok h3 hr r (by simpa [clsD] using h))
  | _, _, .lst hA r, h => .lst ⟨hA.1, fz_sub h3 hA.2⟩ (clsDs_ok h3 hr r (by simpa [clsD] using h))
  | _, _, .dic e f r, h => .dic e (fz_sub h3 f) (clsKv_ok h3 hr r (by simpa [clsD] using h))
  | _, _, .ref hl, h => .ref (hr _ _ (by simpa [clsD] using h) hl)
  | _, _, .pr _ _ _, h => by simp [clsD] at h
  | _, _, .scr _ _, h => by simp [clsD] at h
  | _, _, .fn b, h => .fn b
  | _, _, .ty b, h => .ty b
  | _, _, .cls b z, h => .cls b z
  | _, _, .exc0 z e f, _ => .exc0 z e (fz_sub h3 f)
  | _, _, .exc1 z e f e2 f2 hn r, h => .exc1 z e (fz_sub h3 f) e2 (fz_sub h3 f2) hn (clsDs_ok h3 hr r (by simpa [clsD] using h))
theorem clsDs_ok (h3 : ∀ b ∈ ρ1, b ∈ ρ) (hr : ∀ l a, l < n → ρ[l]? = some a → ρ1[l]? = some a) : ∀ {d : List D} {v : List V}, RlAll C ρ hid H d v → clsDs n d = true → RlAll C ρ1 hid H d v
  | _, _, .nil, h => .nil
  | _, _, .cons r rs, h => by
    simp only [clsDs, Bool.and_eq_true] at h
    exact .cons (clsD_ok h3 hr r h.1) (clsDs_ok h3 hr rs h.2)
theorem clsKv_ok (h3 : ∀ b ∈ ρ1, b ∈ ρ) (hr : ∀ l a, l < n → ρ[l]? = some a → ρ1[l]? = some a) : ∀ {d : List (Key × D)} {v : List (Key × V)}, RlKv C ρ hid H d v → clsKv n d = true → RlKv C ρ1 hid H d v
  | _, _, .nil, h => .nil
  | _, _, .cons r rs, h => by
    simp only [clsKv, Bool.and_eq_true] at h
    exact .cons (clsD_ok h3 hr r h.1) (clsKv_ok h3 hr rs h.2)
end
theorem old_ok (s : StoOk C hid ρ H S) (h3 : ∀ b ∈ ρ1, b ∈ ρ) (hr : ∀ l a, l < n → ρ[l]? = some a → ρ1[l]? = some a) (h : (S.take n).all (clsO n) = true) {l : Nat} {a : Addr} {o : O} (h1 : ρ[l]? = some a) (h2 : (S.take n)[l]? = some o) : OOk C ρ1 hid H a o := by
  have hc := List.all_eq_true.mp h o (List.mem_of_getElem? h2)
  rw [List.getElem?_take] at h2
  split at h2
  · have q := s.obj l a o h1 h2
    cases o with
    | lst ds => obtain ⟨vs, e, z, r⟩ := q; exact ⟨vs, e, z, clsDs_ok h3 hr r hc⟩
    | dic kvs => obtain ⟨vs, e, z, r⟩ := q; exact ⟨vs, e, z, clsKv_ok h3 hr r hc⟩
    | hid => exact q
  · cases h2
theorem StoOk.take (s : StoOk C hid ρ H S) (h : (S.take n).all (clsO n) = true) : StoOk C hid (ρ.take n) H (S.take n) := by
  have h3 : ∀ b ∈ ρ.take n, b ∈ ρ := fun b m => List.mem_of_mem_take m
  refine ⟨by rw [List.length_take, List.length_take, s.len], s.nd.sublist (List.take_sublist _ _), fun l a o h1 h2 => ?_, fun a m => ⟨(s.hidT a m).1, fun z => (s.hidT a m).2 (List.mem_of_mem_take z)⟩, s.gr⟩
  rw [List.getElem?_take] at h1
  split at h1
  · exact old_ok s h3 (fun l a hl e => by rw [List.getElem?_take, if_pos hl]; exact e) h h1 h2
  · cases h1
theorem StoOk.take1 (s : StoOk C hid ρ H S) (hn : n ≤ ρ.length) (h : (S.take n).all (clsO n) = true) {t : Nat} {a : Addr} (ht : ρ[t]? = some a) (htn : ¬ t < n) {o o' : O} (ho : S[t]? = some o) (hf : frzO (frzR (kr1 n t) S frzMost) o = some o') :
    StoOk C hid (ρ.take n ++ [a]) H (S.take n ++ [o']) := by
  have kh := kr1_ok s ht hn
  have hl0 : (ρ.take n).length = n := by rw [List.length_take]; omega
  have hl1 : (S.take n).length = n := by rw [List.length_take, ← s.len]; omega
  refine ⟨by simp [hl0, hl1], ?_, fun l b ob h1 h2 => ?_, fun b m => ⟨(s.hidT b m).1, fun z => (s.hidT b m).2 (kh.sub _ z)⟩, s.gr⟩
  · refine List.nodup_append.mpr ⟨s.nd.sublist (List.take_sublist _ _), by simp, fun b hb c hc => ?_⟩
    rw [List.mem_singleton] at hc
    subst hc
    rintro rfl
    exact not_take s.nd ht htn hb
  · by_cases hl : l < n
    · rw [List.getElem?_append_left (by omega)] at h1 h2
      rw [List.getElem?_take, if_pos hl] at h1
      exact old_ok s kh.sub (fun l a hl e => by rw [List.getElem?_append_left (by omega), List.getElem?_take, if_pos hl]; exact e) h h1 h2
    · rw [List.getElem?_append_right (by omega)] at h1 h2
      have e0 : l - n = 0 := by
        obtain ⟨q, _⟩ := List.getElem?_eq_some_iff.mp h1
        simp only [List.length_singleton, hl0] at q
        omega
      rw [hl0, e0] at h1
      rw [hl1, e0] at h2
      simp only [List.getElem?_cons_zero, Option.some.injEq] at h1 h2
      subst h1 h2
      have q := s.obj t a o ht ho
      cases o with
      | lst ds =>
        obtain ⟨ds', h', rfl⟩ := Option.map_eq_some_iff.mp hf
        obtain ⟨vs, e, z, r⟩ := q
        exact ⟨vs, e, z, frzDs_ok kh.sub (frzR_ok s kh frzMost) r h'⟩
      | dic ds =>
        obtain ⟨ds', h', rfl⟩ := Option.map_eq_some_iff.mp hf
        obtain ⟨vs, e, z, r⟩ := q
        exact ⟨vs, e, z, frzKv_ok kh.sub (frzR_ok s kh frzMost) r h'⟩
      | hid => cases hf
theorem Ext.take {ρ0 : List Addr} {H0 : Hp} (e : Ext ρ0 H0 ρ H) : ρ.take ρ0.length = ρ0 := by
  obtain ⟨z, rfl⟩ := e.pre
  simp
theorem Ext.cut {ρ0 : List Addr} {H0 : Hp} (e : Ext ρ0 H0 ρ H) : Ext ρ0 H0 (ρ.take ρ0.length) H := by
  rw [e.take]
  exact ⟨⟨[], by simp⟩, e.keep, e.stay, fun _ m => .inl m⟩
theorem Ext.cut1 {ρ0 : List Addr} {H0 : Hp} (e : Ext ρ0 H0 ρ H) {a : Addr} (h : a ∈ ρ) : Ext ρ0 H0 (ρ.take ρ0.length ++ [a]) H := by
  rw [e.take]
  refine ⟨⟨[a], rfl⟩, e.keep, e.stay, fun b m => ?_⟩
  rcases List.mem_append.mp m with m | m
  · exact .inl m
  · rw [List.mem_singleton] at m; subst m; exact e.new _ h
end

/-! ### what a def computes -/
def startD (n : Nat) (ds : List D) : Env' := ds.map some ++ List.replicate (n - ds.length) none
structure DefI where
  qual : Str
  params : Arguments
  body : List Stmt
  scope : Scope
  N : List Str
  keep : Nat := 0
def fuelMost : Nat := 200
/-- the readings of all defs -/
structure Rd' where
  f : ES
  n : Nat
  keep : Nat
def readsOf (T : Tab) : List DefI → Option (List Rd')
  | [] => some []
  | d :: ds => match compSs T d.N fuelMost d.scope d.body, readsOf T ds with
    | some f, some r => some (⟨f, d.N.length, d.keep⟩ :: r)
    | _, _ => none
def runF (rs : List Rd') : Nat → Call
  | 0, _, _, _ => .bad
  | k + 1, i, ds, S => match rs[i]? with
    | none => .bad
    | some r => finish r.keep S.length (r.f (runF rs k) (startD r.n ds) S)
theorem readsOf_at {T : Tab} : ∀ {ds : List DefI} {rs : List Rd'} {i : Nat} {d : DefI}, readsOf T ds = some rs → ds[i]? = some d → ∃ f, compSs T d.N fuelMost d.scope d.body = some f ∧ rs[i]? = some ⟨f, d.N.length, d.keep⟩
  | [], _, _, _, _, h => by simp at h
  | e :: ds, rs, i, d, h, hi => by
    simp only [readsOf] at h
    split at h
    · rename_i f r h1 h2
      cases h
      cases i with
      | zero => simp at hi; subst hi; exact ⟨f, h1, rfl⟩
      | succ i =>
        simp at hi
        obtain ⟨f', e1, e2⟩ := readsOf_at h2 hi
        exact ⟨f', e1, by simpa using e2⟩
    · cases h
/-- what stands behind the text's top -/
structure ModOk (P : Program) (K : PySem.W.Frag) (mg : Str → Option Value) (T : Tab) (C : Cfg) (Ds : List DefI) : Prop where
  eqK : K = C.K
  len : Ds.length = T.fns.length
  fn : ∀ (i : Nat) (f : FnI) (d : DefI), T.fns[i]? = some f → Ds[i]? = some d → mg f.name = some (.ref (C.fA i)) ∧ FnScope d.N f.ps d.scope ∧
    ∃ dvs kws fd, FunD K f.name d.qual d.params d.body d.scope dvs kws (C.fA i) fd ∧
    (∀ m, m ≤ f.dfl.length → ∃ dvs ds, (∀ ρ hid H, RlAll C ρ hid H (f.dfl.drop (f.dfl.length - m)) dvs) ∧ Vals dvs ds ∧ Binds K fd f.ps ds)
  free : ∀ x ∈ T.free, mg x = none
  con : ∀ x d, T.cons.lookup x = some d → ∃ u v, mg x = some u ∧ RelV v u ∧ ∀ ρ hid H, Rl C ρ hid H d v
  cl : ClsM K P mg T.clss C

theorem start_ok {C : Cfg} {ρ hid : List Addr} {H : Hp} {N : List Str} {ds : List D} {vs : List V} (r : RlAll C ρ hid H ds vs) : EnvOk C ρ hid H (startD N.length ds) (L2.start N vs) := by
  have hl := r.length
  unfold startD L2.start
  refine ⟨by simp [hl], fun i d h => ?_⟩
  by_cases hi : i < ds.length
  · rw [List.getElem?_append_left (by simpa using hi), List.getElem?_map] at h
    cases e : ds[i]? with
    | none => rw [e] at h; cases h
    | some d' =>
      rw [e] at h
      cases h
      obtain ⟨v, hv, rv⟩ := r.get e
      exact ⟨v, by rw [List.getElem?_append_left (by simpa [← hl] using hi), List.getElem?_map, hv]; rfl, rv⟩
  · rw [List.getElem?_append_right (by simpa using hi), List.getElem?_replicate] at h
    split at h <;> cases h
section
variable {P : Program} {w : World} {K : PySem.W.Frag} {mg : Str → Option Value} {base : Heap} {T : Tab} {C : Cfg} {Ds : List DefI} {rs : List Rd'}
/-- the way out of a def -/
theorem done0_ok {hid ρ : List Addr} {H : Hp} {S : Sto} {Q : VK} {XX : XP} (s0 : StoOk C hid ρ H S) {d : D} {S' : Sto} (h : okR C hid ρ H (done0 S.length d S') (PostE C hid Q) XX) : ∀ ρ' H', Ext ρ H ρ' H' → StoOk C hid ρ' H' S' → ∀ v, Rl C ρ' hid H' d v → Q v H' := by
  intro ρ' H' e s v rv
  unfold done0 at h
  split at h
  · rename_i d' hd
    split at h
    · rename_i hc
      rw [← s0.len] at h hd hc
      have kh := kr0_ok (n := ρ.length) s
      exact h _ _ e.cut (s.take hc) v (frzD_ok kh.sub (frzR_ok s kh frzMost) rv hd)
    · exact h.elim
  · exact h.elim
theorem done_ok {keep : Nat} {hid ρ : List Addr} {H : Hp} {S : Sto} {Q : VK} {XX : XP} (s0 : StoOk C hid ρ H S) {d : D} {S' : Sto} (h : okR C hid ρ H (done keep S.length d S') (PostE C hid Q) XX) : ∀ ρ' H', Ext ρ H ρ' H' → StoOk C hid ρ' H' S' → ∀ v, Rl C ρ' hid H' d v → Q v H' := by
  unfold done at h
  split at h
  · exact done0_ok s0 h
  · split at h
    · rename_i t
      split at h
      · exact done0_ok s0 h
      · rename_i htn
        split at h
        · rename_i o ho
          split at h
          · rename_i o' hf
            split at h
            · rename_i hc
              intro ρ' H' e s v rv
              rw [← s0.len] at h hf hc htn
              have hn : ρ.length ≤ ρ'.length := by
                obtain ⟨z, rfl⟩ := e.pre
                simp
              cases rv with
              | ref ht =>
                refine h _ _ (e.cut1 (List.mem_of_getElem? ht)) (s.take1 hn hc ht htn ho hf) _ (.ref ?_)
                rw [List.getElem?_append_right (by rw [List.length_take]; omega)]
                simp [hn]
            · exact h.elim
          · exact h.elim
        · exact h.elim
    · exact done0_ok s0 h
  · exact fun ρ' H' e s v rv => h ρ' H' e s v rv
/-- the way out of a def -/
theorem finish_ok {keep : Nat} {hid ρ : List Addr} {H : Hp} {S : Sto} {r : R F} {Q : VK} {E : XK} (s0 : StoOk C hid ρ H S)
    (h : okR C hid ρ H (finish keep S.length r) (PostE C hid Q) (fun c fs _ _ ρ' H' => ∀ cls d, XOk C ρ' hid H' c fs cls d → E cls d H')) :
    okR C hid ρ H r (endsOk C hid { nx := fun _ H' => Q .non H', rt := Q }) (fun c fs _ _ ρ' H' => ∀ cls d, XOk C ρ' hid H' c fs cls d → E cls d H') := by
  cases r with
  | bad => exact h
  | exc c fs env S' =>
    intro ρ' H' e s cls d x
    have h : okR C hid ρ H (doneX S.length c fs S') _ _ := h
    unfold doneX at h
    split at h
    · rename_i ds hds
      split at h
      · rename_i hc
        rw [← s0.len] at h hds hc
        refine h _ _ e.cut (s.take hc) cls d ⟨x.1, ?_⟩
        rcases x.2 with ⟨rfl, rfl⟩ | ⟨dd, ws, rfl, e1, f1, e2, r⟩
        · exact .inl ⟨rfl, rfl⟩
        · have kh := kr0_ok (n := ρ.length) s
          have q := frzDs_ok kh.sub (frzR_ok s kh frzMost) r hds
          have hl : ds.length = fs.length := by rw [q.length, ← r.length, List.length_map]
          refine .inr ⟨dd, ws, rfl, e1, fz_sub kh.sub f1, ?_, ?_⟩
          · rw [List.map_fst_zip (by simp [hl])]; exact e2
          · rw [List.map_snd_zip (by simp [hl])]; exact q
      · exact h.elim
    · exact h.elim
  | ok f S' =>
    cases f with
    | nx env => exact fun ρ' H' e s σ' n' => done_ok s0 (d := .non) h ρ' H' e s .non .non
    | rt d => exact fun ρ' H' e s v rv => done_ok s0 h ρ' H' e s v rv
    | bk env => exact h.elim
    | ct env => exact h.elim
/-- every def keeps its promise -/
theorem fns_ok (M : ModOk P K mg T C Ds) (hrs : readsOf T Ds = some rs) : ∀ k (i : Nat) (f : FnI) (d : DefI), T.fns[i]? = some f → Ds[i]? = some d → ∀ dvs kws fd, FunD K f.name d.qual d.params d.body d.scope dvs kws (C.fA i) fd →
    FnG P w K mg base (L2.CX P w) (k + 1) (C.fA i) fd f.ps (spF C (runF rs k) i f.ps.length)
  | 0, i, f, d, hf, hd, dvs, kws, fd, F => ⟨fun vs H Q E h => spF_len h, fun A outer s H args us vs Q E _ _ _ _ _ ⟨_, _, _, _, _, _, _, h⟩ => h.elim⟩
  | k + 1, i, f, d, hf, hd, dvs, kws, fd, F => by
    obtain ⟨hm, hS, _⟩ := M.fn i f d hf hd
    obtain ⟨fr, hfr, hri⟩ := readsOf_at hrs hd
    refine fnG_ofD F hS (fun vs H Q E h => spF_len h) fun cdv A outer s H vs Q E hr gd hsp => ?_
    refine ⟨tS C (fun cls d _ H => E cls d H) (runF rs k) fr, ?_, ?_⟩
    · refine (stmt_ok (k := k) fuelMost _ _ d.scope ⟨⟨⟨M.eqK, rfl, hS.nd, by have := hr.un; show (A.deeper (envOfC d.qual d.scope s.heap.objs.size (C.fA i) cdv)).units + 200 < cLine; omega, hr.hd, gd⟩, hr, hS.kind, fun j g hj => ?_, M.free, M.con, M.cl⟩, ?_, fun _ => rfl⟩ rfl rfl ?_).2 _ _ hfr
      · have hj2 : j < Ds.length := by rw [M.len]; exact (List.getElem?_eq_some_iff.mp hj).1
        obtain ⟨m1, _, dv1, kw1, fd1, F1, b1⟩ := M.fn j g _ hj (List.getElem?_eq_getElem hj2)
        exact ⟨m1, F1.kp, fd1, fns_ok M hrs k j g _ hj (List.getElem?_eq_getElem hj2) _ _ _ F1, b1⟩
      · exact passes_of rfl
      · exact takes_of rfl rfl rfl rfl
    · obtain ⟨ρ, hid, S, ds, hl, so, r, h⟩ := hsp
      refine ⟨ρ, hid, S, startD d.N.length ds, so, start_ok r, ?_⟩
      simp only [runF, hri] at h
      exact (finish_ok so h).imp (fun _ _ _ _ _ _ q => q) fun c fs env S' ρ' H' e s q cls dd σ' n' x => q cls dd x
end
end Ev

set_option Elab.async false
set_option linter.all false
set_option maxRecDepth 100000
set_option maxHeartbeats 2000000
/-! Ev, part 25: from the head's facts to the readings' context; the law. -/
namespace Ev
open PySem PySem.Spec PyProof.Rows L2

/-! ### constants of the module -/
mutual
def conV (K : PySem.W.Frag) : D → Value → Bool
  | .non, .none => true
  | .bl b, .bool c => b == c
  | .int i, .int j _ => decide (i = j)
  | .str x, .str y _ => decide (x = y) && decide (x.length ≤ sizeLine)
  | .tup ds, .ref a => match K.lookup a with
    | some ⟨.type c, none, .seq its _, _⟩ => decide (c = "tuple") && (decide (its.size ≤ sizeLine) && conVs K ds its.toList)
    | _ => false
  | _, _ => false
def conVs (K : PySem.W.Frag) : List D → List Value → Bool
  | [], [] => true
  | d :: ds, v :: vs => conV K d v && conVs K ds vs
  | _, _ => false
end
def conB (K : PySem.W.Frag) (p : Str × D) : Bool := match PySem.W.nsIn K mainGlobals p.1 with
  | some (some u) => conV K p.2 u
  | _ => false
theorem conV_tup {K : PySem.W.Frag} {ds : List D} {a : Addr} (h : conV K (.tup ds) (.ref a) = true) : ∃ its n sl, K.lookup a = some ⟨.type "tuple", none, .seq its n, sl⟩ ∧ its.size ≤ sizeLine ∧ conVs K ds its.toList = true := by
  unfold conV at h
  split at h
  · rename_i c its n sl e
    simp only [Bool.and_eq_true, decide_eq_true_eq] at h
    obtain ⟨rfl, h1, h2⟩ := h
    exact ⟨its, n, sl, e, h1, h2⟩
  · cases h
mutual
theorem conV_ok {K : PySem.W.Frag} : ∀ {d : D} {u : Value}, conV K d u = true → ∃ v, RelV v u ∧ ∀ (C : Cfg), C.K = K → ∀ ρ hid H, Rl C ρ hid H d v
  | .non, u, h => by cases u <;> first | exact ⟨.non, rfl, fun _ _ _ _ _ => .non⟩ | simp [conV] at h
  | .bl b, u, h => by
    cases u <;> first | (simp [conV] at h; subst h; exact ⟨.bl _, rfl, fun _ _ _ _ _ => .bl _⟩) | simp [conV] at h
  | .int b, u, h => by
    cases u <;> first | (simp [conV] at h; subst h; exact ⟨.int _, ⟨_, rfl⟩, fun _ _ _ _ _ => .int _⟩) | simp [conV] at h
  | .str b, u, h => by
    cases u <;> first | (simp [conV] at h; obtain ⟨rfl, hz⟩ := h; exact ⟨.str _, ⟨_, rfl⟩, fun _ _ _ _ _ => .str _ hz⟩) | simp [conV] at h
  | .tup ds, u, h => by
    cases u with
    | ref a =>
      obtain ⟨its, n, sl, e, hz, h2⟩ := conV_tup h
      obtain ⟨vs, rv, rl⟩ := conVs_ok h2
      exact ⟨.ref a, rfl, fun C hC ρ hid H => .tup (.inr ⟨_, its, n, by rw [hC]; exact e, rfl, rfl, rfl, hz, rv⟩) (rl C hC ρ hid H)⟩
    | _ => simp [conV] at h
  | .pr _, u, h => by cases u <;> simp [conV] at h
  | .scr _, u, h => by cases u <;> simp [conV] at h
  | .lst _, u, h => by cases u <;> simp [conV] at h
  | .dic _, u, h => by cases u <;> simp [conV] at h
  | .ref _, u, h => by cases u <;> simp [conV] at h
  | .fn _, u, h => by cases u <;> simp [conV] at h
  | .ty _, u, h => by cases u <;> simp [conV] at h
  | .cls _, u, h => by cases u <;> simp [conV] at h
  | .exc _ _ _, u, h => by cases u <;> simp [conV] at h
  | .clo _ _, u, h => by cases u <;> simp [conV] at h
theorem conVs_ok {K : PySem.W.Frag} : ∀ {ds : List D} {us : List Value}, conVs K ds us = true → ∃ vs, Vals vs us ∧ ∀ (C : Cfg), C.K = K → ∀ ρ hid H, RlAll C ρ hid H ds vs
  | [], [], _ => ⟨[], .nil, fun _ _ _ _ _ => .nil⟩
  | [], _ :: _, h => by simp [conVs] at h
  | _ :: _, [], h => by simp [conVs] at h
  | d :: ds, u :: us, h => by
    simp only [conVs, Bool.and_eq_true] at h
    obtain ⟨v, r1, l1⟩ := conV_ok h.1
    obtain ⟨vs, r2, l2⟩ := conVs_ok h.2
    exact ⟨v :: vs, .cons r1 r2, fun C hC ρ hid H => .cons (l1 C hC ρ hid H) (l2 C hC ρ hid H)⟩
end
/-! ### the table's own facts -/
/-- a simple default -/
def dvOf : D → He.Dv
  | .bl b => .bl b
  | .int i => .int i
  | .str x => .str x
  | _ => .non
def dvOk : D → Bool
  | .non => true
  | .bl _ => true
  | .int _ => true
  | .str x => decide (x.length ≤ sizeLine)
  | _ => false
theorem dv_rl {C : Cfg} {K : PySem.W.Frag} {d : D} (h : dvOk d = true) : ∀ ρ hid H, Rl C ρ hid H d ((dvOf d).v K) := fun ρ hid H => by
  cases d <;> first | exact .non | exact .bl _ | exact .int _ | exact .str _ (by simpa [dvOk] using h) | simp [dvOk] at h
theorem dvs_rl {C : Cfg} {K : PySem.W.Frag} : ∀ {ds : List D}, (ds.all dvOk) = true → ∀ ρ hid H, RlAll C ρ hid H ds ((ds.map dvOf).map (He.Dv.v K))
  | [], _, _, _, _ => .nil
  | d :: ds, h, ρ, hid, H => by
    simp only [List.all_cons, Bool.and_eq_true] at h
    exact .cons (dv_rl h.1 ρ hid H) (dvs_rl h.2 ρ hid H)
def defsOf : List FnI → List DefI → List He.DefD
  | f :: fs, d :: ds => ⟨(f.name, none), f.name, d.qual, d.params, d.body, d.scope, f.dfl.map dvOf, []⟩ :: defsOf fs ds
  | _, _ => []
def factsOf (T : Tab) : List He.Fa := (T.fns.map fun f => .glo f.name) ++ (T.free.map .free ++ T.clss.map fun c => .glo c.name)
/-! ### classes of errors -/
/-- an own __init__'s text -/
structure IniD where
  cls : Str
  qual : Str
  params : Arguments
  body : List Stmt
  scope : Scope
  fld : Str
abbrev IniW : Type := Option (Str × Str × Arguments × FuncBody × Scope × Addr × List Str × Addr)
def iniAt (K : PySem.W.Frag) (x : Str) : Addr := match PySem.W.findIn K (.ref (He.ga K x)) "__init__" with
  | some (some (.ref f)) => f
  | _ => 0
def iniW (K : PySem.W.Frag) (x : Str) : IniW := match K.lookup (iniAt K x) with
  | some ⟨_, _, .func fd, _⟩ => some (fd.name, fd.qualname, fd.params, fd.body, fd.scope, fd.globals, fd.closure.map (·.1), fd.builtins)
  | _ => none
def IniD.val (d : IniD) : IniW := some ("__init__", d.qual, d.params, .stmts d.body, d.scope, mainGlobals, ["__class__"], builtinsNs)
def fileB (K : PySem.W.Frag) (P : Program) (cd : Value) : Bool := match cd with
  | .ref cda => match K.lookup cda with
    | some ⟨_, _, .fields vs, _⟩ => match (vs[2]? : Option Value) with
      | some (Value.str file _) => (P.main.file : Str) == file
      | _ => false
    | _ => false
  | _ => false
def cellB (K : PySem.W.Frag) (D : Addr) : List (Str × Addr) → Bool
  | [(_, cc)] => match K.lookup cc with
    | some ⟨_, _, .cell (some (.ref E)), _⟩ => E == D
    | _ => false
  | _ => false
def exoB (K : PySem.W.Frag) (C : Addr) : Bool := match K.lookup C with
  | some ⟨.type "type", _, .cls cd, sl⟩ => (match cd.mro, sl.toList with
    | .ref C' :: bm, [_, _, _, _, some (.builtin n), _] => C' == C && (n == "ValueError.__new__" && (!cd.hasDel && PySem.HandSPX.refsVE bm))
    | _, _ => false)
  | _ => false
def iniB (K : PySem.W.Frag) (P : Program) (d : IniD) : Bool :=
  let D := He.ga K d.cls
  decide (PySem.W.findIn K (.ref D) "__init__" = some (some (.ref (iniAt K d.cls)))) && (decide (PySem.W.typeIn K (.ref (iniAt K d.cls)) = some (.type "function")) &&
  ((match K.lookup (iniAt K d.cls) with
    | some ⟨_, _, .func fd, _⟩ => (decide (fd.defaults = .none) && decide (fd.kwdefaults = .none)) && (PySem.W.codeIn K fd.code d.qual && (fileB K P fd.code && cellB K D fd.closure))
    | _ => false) &&
  ((match PySem.W.clsIn K D with
    | some cd => PySem.HandSPX.refsVE cd.mro && (cd.hasDict && (match cd.mro with
      | .ref C' :: rest => C' == D && decide (PySem.W.alongIn K "__init__" rest = some (some (.builtin "ValueError.__init__")))
      | _ => false))
    | none => false) &&
  (exoB K D && (decide (PySem.W.findIn K (.ref D) "__setattr__" = some (some (.builtin "object.__setattr__"))) && (decide (PySem.W.subIn K (.ref D) (.type "ValueError") = some true) && (decide (PySem.W.mroIn K D (.ref D) = some true) &&
  (decide (PySem.W.nsIn K cStatics "thirdparty.any" = some none) && ((!(P.main.scope.names.lookup ("super" : Str)).isSome) && decide (PySem.W.nsIn K mainGlobals "super" = some none))))))))))
def mroX (K : PySem.W.Frag) (cs : List ClsI) (i : Nat) (a : Addr) : List Value := .ref a :: (if i = 0 then PySem.HandSPX.veTail else .ref (He.ga K ((cs[0]?.map (·.name)).getD "")) :: PySem.HandSPX.veTail)
def isXB (K : PySem.W.Frag) (D : Addr) : Bool := (PySem.W.clsIn K D).isSome && (decide (PySem.W.findIn K (.ref D) "__getattribute__" = some (some (.builtin "BaseException.__getattribute__"))) && (decide (PySem.W.findIn K (.ref D) "__getattr__" = some none) &&
  (decide (PySem.W.subIn K (.ref D) (.type "BaseException") = some true) && (PySem.W.hasDictIn K D && (decide (PySem.W.findIn K (.ref D) "__class__" = some (some (.builtin "object.__class__"))) &&
  (decide (PySem.W.specialIn K (.builtin "object.__class__") "__get__" = some (some (.builtin "getset_descriptor.__get__"))) && (decide (PySem.W.takesIn K (.builtin "object.__class__") = some true) && decide (PySem.W.mroIn K D (.type "object") = some true))))))))
def clsB1 (K : PySem.W.Frag) (cs : List ClsI) (i : Nat) (c : ClsI) : Bool :=
  let D := He.ga K c.name
  PySem.W.keepIn K (.ref D) && (isXB K D && (decide (PySem.W.typeIn K (.ref D) = some (.type "type")) && (decide ((PySem.W.clsIn K D).map (·.mro) = some (mroX K cs i D)) &&
  ((match c.fld with | none => PySem.W.excIn K D PySem.HandSPX.veTail "ValueError.__new__" | some _ => true) && fldNames.all fun f => decide (PySem.W.findIn K (.ref D) f = some none)))))
def clsBs (K : PySem.W.Frag) (cs : List ClsI) : Nat → List ClsI → Bool
  | _, [] => true
  | i, c :: r => clsB1 K cs i c && clsBs K cs (i + 1) r
def exOf (T : Tab) (P : Program) (ini : List IniD) (K : PySem.W.Frag) : Bool := T.cons.all (conB K) && ((K.lookup sysModules).isNone && (clsBs K T.clss 0 T.clss && (decide ((T.clss.map fun c => He.ga K c.name).Nodup) && ini.all (iniB K P))))
theorem defsOf_at : ∀ {fs : List FnI} {ds : List DefI} {i : Nat} {f : FnI} {d : DefI}, fs[i]? = some f → ds[i]? = some d → (⟨(f.name, none), f.name, d.qual, d.params, d.body, d.scope, f.dfl.map dvOf, []⟩ : He.DefD) ∈ defsOf fs ds
  | [], _, _, _, _, h, _ => by simp at h
  | _ :: _, [], _, _, _, _, h => by simp at h
  | f :: fs, d :: ds, 0, _, _, h1, h2 => by
    simp at h1 h2
    subst h1 h2
    exact List.mem_cons_self
  | f :: fs, d :: ds, i + 1, _, _, h1, h2 => List.mem_cons_of_mem _ (defsOf_at (by simpa using h1) (by simpa using h2))
/-- what is to be shown of each def: its scope; that a call with m of its defaults lacking binds -/
structure DefOk (f : FnI) (d : DefI) : Prop where
  sc : FnScope d.N f.ps d.scope
  dv : (f.dfl.all dvOk) = true
  bind : ∀ (K : PySem.W.Frag) (a : Addr) (fd : FuncData), FunD K f.name d.qual d.params d.body d.scope ((f.dfl.map dvOf).map (He.Dv.v K)) [] a fd → ∀ m, m ≤ f.dfl.length → ∃ ds, Vals (((f.dfl.map dvOf).map (He.Dv.v K)).drop (f.dfl.length - m)) ds ∧ L2.Binds K fd f.ps ds
inductive DefsOk : List FnI → List DefI → Prop
  | nil : DefsOk [] []
  | cons {f : FnI} {d : DefI} {fs : List FnI} {ds : List DefI} : DefOk f d → DefsOk fs ds → DefsOk (f :: fs) (d :: ds)
theorem DefsOk.len : ∀ {fs : List FnI} {ds : List DefI}, DefsOk fs ds → ds.length = fs.length
  | _, _, .nil => rfl
  | _, _, .cons _ h => by rw [List.length_cons, List.length_cons, h.len]
theorem DefsOk.at : ∀ {fs : List FnI} {ds : List DefI} {i : Nat} {f : FnI} {d : DefI}, DefsOk fs ds → fs[i]? = some f → ds[i]? = some d → DefOk f d
  | _, _, _, _, _, .nil, h, _ => by simp at h
  | _, _, 0, _, _, .cons h _, h1, h2 => by simp at h1 h2; subst h1 h2; exact h
  | _, _, i + 1, _, _, .cons _ h, h1, h2 => h.at (by simpa using h1) (by simpa using h2)
theorem andT {a b : Bool} (h : (a && b) = true) : a = true ∧ b = true := Bool.and_eq_true_iff.mp h
theorem exoB_ok {K : PySem.W.Frag} {C : Addr} (h : exoB K C = true) : ∃ nm q N bs bm hdct sn sub ab col dd k0 k1 k2 k3 k5, K.lookup C = some (excClassObj nm q C N bs bm hdct sn sub ab col dd k0 k1 k2 k3 k5 "ValueError.__new__") ∧ HandSPX.refsVE bm = true := by
  unfold exoB at h
  split at h
  · rename_i dd cd sl ho
    split at h
    · rename_i C' bm k0 k1 k2 k3 n k5 hm hs
      simp only [Bool.and_eq_true, beq_iff_eq, Bool.not_eq_true'] at h
      obtain ⟨rfl, rfl, hdel, hr⟩ := h
      obtain ⟨nm, bs, mro, ns, qn, hd, sn, sub, ab, col, del⟩ := cd
      dsimp only at hm hdel
      subst hm hdel
      have hsl : sl = #[k0, k1, k2, k3, some (.builtin "ValueError.__new__"), k5] := by
        obtain ⟨l⟩ := sl
        simp only at hs
        rw [hs]
      subst hsl
      exact ⟨nm, qn, ns, bs, bm, hd, sn, sub, ab, col, dd, k0, k1, k2, k3, k5, ho, hr⟩
    · cases h
  · cases h
theorem iniK_of {K : PySem.W.Frag} {P : Program} {d : IniD} (e : iniW K d.cls = d.val) (b : iniB K P d = true) : IniK K P (He.ga K d.cls) 0 d.qual d.params d.body d.scope (iniAt K d.cls) := by
  unfold iniB at b
  obtain ⟨b1, b⟩ := andT b
  obtain ⟨b2, b⟩ := andT b
  obtain ⟨b3, b⟩ := andT b
  obtain ⟨b4, b⟩ := andT b
  obtain ⟨b5, b⟩ := andT b
  obtain ⟨b6, b⟩ := andT b
  obtain ⟨b7, b⟩ := andT b
  obtain ⟨b8, b⟩ := andT b
  obtain ⟨b9, b⟩ := andT b
  obtain ⟨b10, b11⟩ := andT b
  refine ⟨of_decide_eq_true b1, of_decide_eq_true b2, ?_, ?_, exoB_ok b5, of_decide_eq_true b6, of_decide_eq_true b7, of_decide_eq_true b8, of_decide_eq_true b9, by simpa using b10, of_decide_eq_true b11⟩
  · unfold iniW at e
    cases q : K.lookup (iniAt K d.cls) with
    | none => rw [q] at b3; cases b3
    | some o =>
      obtain ⟨oc, od, dt, osl⟩ := o
      rw [q] at b3 e
      cases dt with
      | func fd =>
        obtain ⟨n1, n2, n3, n4, n5, n6, n7, n8, n9, n10, n11, n12, n13, n14, n15⟩ := fd
        have e2 : (some (n1, n2, n3, n4, n5, n6, n7.map (·.1), n15) : IniW) = some (("__init__" : Str), d.qual, d.params, FuncBody.stmts d.body, d.scope, mainGlobals, [("__class__" : Str)], builtinsNs) := e
        simp only [Option.some.injEq, Prod.mk.injEq] at e2
        obtain ⟨h1, h2, h3, h4, h5, h6, h7, h8⟩ := e2
        subst h1 h2 h3 h4 h5 h6 h8
        have b3 : ((decide (n8 = .none) && decide (n9 = .none)) && (PySem.W.codeIn K n13 d.qual && (fileB K P n13 && cellB K (He.ga K d.cls) n7))) = true := b3
        obtain ⟨c0, c1'⟩ := andT b3
        obtain ⟨c01, c02⟩ := andT c0
        obtain rfl := of_decide_eq_true c01
        obtain rfl := of_decide_eq_true c02
        obtain ⟨c1, c23⟩ := andT c1'
        obtain ⟨c2, c3⟩ := andT c23
        clear c23 c1' c0 b3
        unfold fileB at c2
        cases n13 with
        | ref cda =>
          simp only at c2
          split at c2
          · rename_i ccl cdd vs ccs hcode
            split at c2
            · rename_i file tf hvs
              match n7, h7, c3 with
              | [(y, cc)], h7, c3 =>
                simp at h7
                subst h7
                simp only [cellB] at c3
                split at c3
                · rename_i cl cld E csl hcell
                  simp only [beq_iff_eq] at c3
                  subst c3
                  exact ⟨oc, od, n10, n11, n12, cda, n14, cc, osl, rfl, c1, ⟨ccl, cdd, vs, ccs, file, tf, hcode, hvs, c2⟩, cl, cld, csl, hcell⟩
                · cases c3
            · cases c2
          · cases c2
        | _ => cases c2
      | _ => cases b3
  · split at b4
    · rename_i cd hcd
      obtain ⟨c1, c2⟩ := andT b4
      obtain ⟨c2, c3⟩ := andT c2
      split at c3
      · rename_i C' rest hm
        obtain ⟨c4, c5⟩ := andT c3
        simp only [beq_iff_eq] at c4
        subst c4
        exact ⟨cd, hcd, c1, c2, rest, hm, of_decide_eq_true c5⟩
      · cases c3
    · cases b4
theorem isXB_ok {K : PySem.W.Frag} {D : Addr} (b : isXB K D = true) : IsX K D := by
  unfold isXB at b
  obtain ⟨b1, b⟩ := andT b
  obtain ⟨b2, b⟩ := andT b
  obtain ⟨b3, b⟩ := andT b
  obtain ⟨b4, b⟩ := andT b
  obtain ⟨b5, b⟩ := andT b
  obtain ⟨b6, b⟩ := andT b
  obtain ⟨b7, b⟩ := andT b
  obtain ⟨b8, b9⟩ := andT b
  exact ⟨b1, of_decide_eq_true b2, of_decide_eq_true b3, of_decide_eq_true b4, b5, of_decide_eq_true b6, of_decide_eq_true b7, of_decide_eq_true b8, of_decide_eq_true b9⟩
theorem clsBs_at {K : PySem.W.Frag} {cs : List ClsI} : ∀ {l : List ClsI} {n i : Nat} {c : ClsI}, clsBs K cs n l = true → l[i]? = some c → clsB1 K cs (n + i) c = true
  | [], _, _, _, _, h => by simp at h
  | c :: l, n, 0, _, b, h => by simp at h; subst h; exact (andT b).1
  | c :: l, n, i + 1, _, b, h => by
    have := clsBs_at (n := n + 1) (i := i) (andT b).2 (by simpa using h)
    rwa [Nat.add_right_comm] at this
def cfgOf (T : Tab) (K : PySem.W.Frag) : Cfg where
  K := K
  fA := fun i => match T.fns[i]? with
    | some f => He.ga K f.name
    | none => 0
  cA := fun i => match T.clss[i]? with
    | some c => He.ga K c.name
    | none => 0
  nc := T.clss.length
structure InisOk (T : Tab) (ini : List IniD) : Prop where
  at_ : ∀ ci ∈ T.clss, ∀ f, ci.fld = some f → ∃ d ∈ ini, d.cls = ci.name ∧ f ∈ fldNames ∧ IniS d.params d.body d.scope f
theorem clsM_of {T : Tab} {P : Program} {ini : List IniD} {K : PySem.W.Frag} {h : Heap} {mg : Str → Option Value} (X : K.In h) (G : h.Ns mainGlobals mg) {fs : List He.DefD} (c : He.SaysD (factsOf T) fs K) (hi : ini.map (fun d => iniW K d.cls) = ini.map IniD.val) (ex : exOf T P ini K = true) (io : InisOk T ini) :
    ClsM K P mg T.clss (cfgOf T K) := by
  obtain ⟨_, b⟩ := andT ex
  obtain ⟨_, b⟩ := andT b
  obtain ⟨bc, b⟩ := andT b
  obtain ⟨bn, bi⟩ := andT b
  have nd := of_decide_eq_true bn
  have cA : ∀ {i : Nat} {ci : ClsI}, T.clss[i]? = some ci → (cfgOf T K).cA i = He.ga K ci.name := fun {i : Nat} {ci : ClsI} h => by show (match T.clss[i]? with | some c => He.ga K c.name | none => 0) = _; rw [h]
  have key : ∀ {i : Nat} {ci : ClsI}, T.clss[i]? = some ci → clsB1 K T.clss i ci = true := fun {i : Nat} {ci : ClsI} h => by have := clsBs_at bc h; rwa [Nat.zero_add] at this
  have at_ : ∀ {i : Nat}, i < T.clss.length → ∃ ci, T.clss[i]? = some ci := fun {i} hl => ⟨_, List.getElem?_eq_getElem hl⟩
  have inj : ∀ {i j : Nat} {ci cj : ClsI}, T.clss[i]? = some ci → T.clss[j]? = some cj → He.ga K ci.name = He.ga K cj.name → i = j := fun {i j ci cj} h1 h2 e => by
    obtain ⟨l1, e1⟩ := List.getElem?_eq_some_iff.mp h1
    obtain ⟨l2, e2⟩ := List.getElem?_eq_some_iff.mp h2
    have := (List.getElem_inj (xs := T.clss.map fun c => He.ga K c.name) (i := i) (j := j) (h₀ := by simpa using l1) (h₁ := by simpa using l2) nd).mp (by simp [e1, e2, e])
    exact this
  have mro : ∀ {i : Nat} {ci : ClsI}, T.clss[i]? = some ci → ∃ cd, PySem.W.clsIn K (He.ga K ci.name) = some cd ∧ cd.mro = mroX K T.clss i (He.ga K ci.name) := fun {i : Nat} {ci : ClsI} h => by
    have q := key h
    unfold clsB1 at q
    obtain ⟨_, q⟩ := andT q
    obtain ⟨_, q⟩ := andT q
    obtain ⟨_, q⟩ := andT q
    obtain ⟨q, _⟩ := andT q
    obtain ⟨cd, e1, e2⟩ := Option.map_eq_some_iff.mp (of_decide_eq_true q)
    exact ⟨cd, e1, e2⟩
  have ty : ∀ {i : Nat} {ci : ClsI}, T.clss[i]? = some ci → PySem.W.typeIn K (.ref (He.ga K ci.name)) = some (.type "type") := fun {i : Nat} {ci : ClsI} h => by
    have q := key h
    unfold clsB1 at q
    obtain ⟨_, q⟩ := andT q
    obtain ⟨_, q⟩ := andT q
    obtain ⟨q, _⟩ := andT q
    exact of_decide_eq_true q
  have sub : ∀ {i : Nat} {ci : ClsI} (b : Value), T.clss[i]? = some ci → PySem.W.subIn K (.ref (He.ga K ci.name)) b = some ((mroX K T.clss i (He.ga K ci.name)).contains b) := fun {i ci} b h => by
    obtain ⟨cd, e1, e2⟩ := mro h
    show PySem.W.mroIn K _ b = _
    unfold PySem.W.mroIn
    rw [e1, Option.bind_some, e2, if_neg]
    unfold mroX
    simp
  refine ⟨rfl, ⟨fun i hl => ?_, fun i j hi hj => ?_, fun i hl => ?_⟩, fun i ci h => ?_, fun i ci h hn => ?_, fun i ci f h hn => ?_, fun i ci h f hf => ?_⟩
  · obtain ⟨ci, h⟩ := at_ hl
    have q := key h
    unfold clsB1 at q
    obtain ⟨_, q⟩ := andT q
    obtain ⟨q, _⟩ := andT q
    rw [cA h]
    exact isXB_ok q
  · obtain ⟨ci, h1⟩ := at_ hi
    obtain ⟨cj, h2⟩ := at_ hj
    rw [cA h1, cA h2]
    unfold PySem.W.kitOne
    by_cases e : He.ga K ci.name = He.ga K cj.name
    · rw [e, if_pos (by simp), inj h1 h2 e]
      simp [subC]
    · rw [if_neg (by simp [e])]
      obtain ⟨cd, e1, _⟩ := mro h2
      show (if ((PySem.W.clsIn K (He.ga K cj.name)).isSome && PySem.W.typeIn K (.ref (He.ga K cj.name)) == some (.type "type")) = true then PySem.W.subIn K (.ref (He.ga K ci.name)) (.ref (He.ga K cj.name)) else none) = _
      rw [e1, ty h2, if_pos (by rfl), sub _ h1]
      have hij : i ≠ j := fun z => by
        subst z
        rw [h1] at h2
        cases h2
        exact e rfl
      have h00 : ∃ c0, T.clss[0]? = some c0 := at_ (Nat.lt_of_le_of_lt (Nat.zero_le _) hi)
      obtain ⟨c0, h0⟩ := h00
      have tail : PySem.HandSPX.veTail.contains (Value.ref (He.ga K cj.name)) = false := by rfl
      unfold mroX
      rw [h0]
      simp only [Option.map_some, Option.getD_some, List.contains_cons]
      have e3 : (Value.ref (He.ga K cj.name) == Value.ref (He.ga K ci.name)) = false := by simpa using Ne.symm e
      rw [e3, Bool.false_or]
      by_cases hi0 : i = 0
      · rw [if_pos hi0, tail]
        have : j ≠ 0 := fun z => hij (by omega)
        simp [subC, hij, this]
      · rw [if_neg hi0, List.contains_cons, tail, Bool.or_false]
        by_cases hj0 : j = 0
        · subst hj0
          rw [h0] at h2
          cases h2
          simp [subC]
        · have : (Value.ref (He.ga K cj.name) == Value.ref (He.ga K c0.name)) = false := by
            have : He.ga K cj.name ≠ He.ga K c0.name := fun z => hj0 (inj h2 h0 z)
            simpa using this
          rw [this]
          simp [subC, hij, hj0]
  · obtain ⟨ci, h⟩ := at_ hl
    rw [cA h]
    unfold PySem.W.kitOne
    rw [if_neg (by simp)]
    show (if PySem.W.kitMeta "ValueError" = true then PySem.W.subIn K (.ref (He.ga K ci.name)) (.type "ValueError") else none) = _
    rw [if_pos (by decide +kernel), sub _ h]
    unfold mroX
    split <;> simp
  · have q := key h
    unfold clsB1 at q
    rw [cA h]
    exact ⟨He.glo_ok X G (c.facts (f := .glo ci.name) (List.mem_append_right _ (List.mem_append_right _ (List.mem_map.mpr ⟨ci, List.mem_of_getElem? h, rfl⟩)))), (andT q).1⟩
  · have q := key h
    unfold clsB1 at q
    obtain ⟨_, q⟩ := andT q
    obtain ⟨_, q⟩ := andT q
    obtain ⟨_, q⟩ := andT q
    obtain ⟨_, q⟩ := andT q
    obtain ⟨q, _⟩ := andT q
    rw [hn] at q
    rw [cA h]
    exact q
  · obtain ⟨d, hd, e1, hf, is⟩ := io.at_ ci (List.mem_of_getElem? h) f hn
    have q := key h
    unfold clsB1 at q
    obtain ⟨_, q⟩ := andT q
    obtain ⟨_, q⟩ := andT q
    obtain ⟨_, q⟩ := andT q
    obtain ⟨_, q⟩ := andT q
    obtain ⟨_, q⟩ := andT q
    have ew : iniW K d.cls = d.val := List.map_inj_left.mp hi d hd
    have ik := iniK_of ew (List.all_eq_true.mp bi d hd)
    rw [cA h]
    rw [e1] at ik
    exact ⟨_, _, _, _, _, ik, is, of_decide_eq_true (List.all_eq_true.mp q f hf)⟩
  · have q := key h
    unfold clsB1 at q
    obtain ⟨_, q⟩ := andT q
    obtain ⟨_, q⟩ := andT q
    obtain ⟨_, q⟩ := andT q
    obtain ⟨_, q⟩ := andT q
    obtain ⟨_, q⟩ := andT q
    rw [cA h]
    exact of_decide_eq_true (List.all_eq_true.mp q f hf)
theorem modOk_of {T : Tab} {P : Program} {ini : List IniD} {Ds : List DefI} {K : PySem.W.Frag} {h : Heap} {mg : Str → Option Value} (X : K.In h) (G : h.Ns mainGlobals mg) (c : He.SaysD (factsOf T) (defsOf T.fns Ds) K) (hi : ini.map (fun d => iniW K d.cls) = ini.map IniD.val) (ex : exOf T P ini K = true) (io : InisOk T ini) (dk : DefsOk T.fns Ds) : ModOk P K mg T (cfgOf T K) Ds where
  eqK := rfl
  len := dk.len
  fn := fun i f d hf hd => by
    have ok := dk.at hf hd
    obtain ⟨fd, F⟩ := c.defs (defsOf_at hf hd)
    have e1 : (cfgOf T K).fA i = He.ga K f.name := by show (match T.fns[i]? with | some f => He.ga K f.name | none => 0) = _; rw [hf]
    have hg := He.glo_ok X G (c.facts (f := .glo f.name) (List.mem_append_left _ (List.mem_map.mpr ⟨f, List.mem_of_getElem? hf, rfl⟩)))
    refine ⟨by rw [e1]; exact hg, ok.sc, _, _, fd, by rw [e1]; exact F, fun m hm => ?_⟩
    obtain ⟨ds, hv, hb⟩ := ok.bind K _ fd F m hm
    refine ⟨_, ds, fun ρ hid H => (dvs_rl ok.dv ρ hid H).drop _, hv, hb⟩
  free := fun x hx => He.free_ok X G (c.facts (f := .free x) (List.mem_append_right _ (List.mem_append_left _ (List.mem_map.mpr ⟨x, hx, rfl⟩))))
  con := fun x d hx => by
    have q := List.all_eq_true.mp (andT ex).1 _ (lookup_mem' hx)
    unfold conB at q
    split at q
    · rename_i u e
      obtain ⟨v, r, l⟩ := conV_ok q
      exact ⟨u, v, PySem.W.mg_of X G e, r, fun ρ hid H => l (cfgOf T K) rfl ρ hid H⟩
    · cases q
  cl := clsM_of X G c hi ex io
/-! ### the law -/
theorem sqK_any {K : PySem.W.Frag} {H : Hp} {a : Addr} {vs : List V} (h : SqL K H a vs) : Rd H a (.lst vs) ∨ ∀ G : Hp, SqL K G a vs := by
  rcases h with h | h
  · exact .inl h
  · exact .inr fun G => .inr h
theorem law_says {C : Cfg} {call : Call} {i : Nat} {H : Hp} {a : Addr} {ns : List Int} (gr : Gr C H) (hl : ns.length ≤ sizeLine) (hS : SqL C.K H a (ns.map V.int)) {S : Sto} (h : call i [.scr (ns.map .int)] [] = .ok (.bl true) S) :
    spF C call i 1 [.ref a] H (fun v H' => v = .bl true ∧ H' sysModules = H sysModules) fun _ _ _ => False := by
  refine ⟨[], [], [], [.scr (ns.map .int)], rfl, ⟨rfl, .nil, fun l b o h => by simp at h, fun b m => (by cases m), gr⟩, .cons (.scr ?_ ints_rl) .nil, ?_⟩
  · rcases sqK_any hS with h | h
    · exact .inl ⟨⟨h, by rw [List.length_map]; exact hl⟩, by simp, by simp⟩
    · exact .inr ⟨h, by rw [List.length_map]; exact hl⟩
  · rw [h]
    intro ρ' H' e s v r
    cases r
    obtain ⟨φ, hφ⟩ := gr.sm
    exact ⟨rfl, by rw [hφ]; exact e.keep _ _ hφ (by simp) (fun _ z => nomatch z)⟩
theorem cx_end {P : Program} {w : World} (H : Hp) (s : Shared) (e : Value) (s' : Shared) : L2.CX P w [] H s (fun _ _ _ => False) e s' → False := by
  rintro ⟨_, _, _, _, _, _, _, _, _, _, _, _, z⟩
  exact z
end Ev

set_option Elab.async false
set_option linter.all false
set_option maxRecDepth 100000
set_option maxHeartbeats 2000000
/-! Ev: the head's facts with classes; the law's own call with the ground told. -/
namespace Ev
open PySem PySem.Spec PyProof.Rows L2

def isDictO : Option Obj → Bool
  | some ⟨_, _, .dict _ _, _⟩ => true
  | _ => false
theorem isDictO_ok {o : Option Obj} (h : isDictO o = true) : ∃ u, o = some u ∧ ∃ es n, u.data = .dict es n := by
  unfold isDictO at h
  split at h
  · exact ⟨_, rfl, _, _, rfl⟩
  · cases h
def kE (g : Addr → Option Obj) : PySem.W.Frag := He.frT g (He.asD g 4 ++ [cStatics])
abbrev AlE : Type := He.AlD × List IniW × Bool × Bool
def obsE (fa : List He.Fa) (fn : List He.DefD) (ini : List IniD) (ex : PySem.W.Frag → Bool) (g : Addr → Option Obj) : AlE := (He.obsD fa fn (kE g), ini.map (fun d => iniW (kE g) d.cls), ex (kE g), isDictO (g sysModules))
def hookE (fa : List He.Fa) (fn : List He.DefD) (ini : List IniD) (ex : PySem.W.Frag → Bool) : PySem.W.Hook where
  α := AlE
  obs := fun s => obsE fa fn ini ex s.heap.get?
  val := fun _ => (He.valD fn, ini.map IniD.val, true, true)
  says := fun _ h => ∃ K : PySem.W.Frag, K.In h ∧ He.SaysD fa fn K ∧ ini.map (fun d => iniW K d.cls) = ini.map IniD.val ∧ ex K = true ∧ ∃ o, h.get? sysModules = some o ∧ ∃ es n, o.data = .dict es n
  of := fun _ s e => by
    have e' : ((He.obsD fa fn (kE s.heap.get?), ini.map (fun d => iniW (kE s.heap.get?) d.cls), ex (kE s.heap.get?), isDictO (s.heap.get? sysModules)) : AlE) = (He.valD fn, ini.map IniD.val, true, true) := e
    simp only [Prod.mk.injEq] at e'
    obtain ⟨e1, e2, e3, e4⟩ := e'
    exact ⟨_, He.frT_in, e1, e2, e3, isDictO_ok e4⟩
  keeps := fun _ _ _ ⟨K, hK, c1, c2, c3, o, c4, c5⟩ k => ⟨K, PySem.W.Frag.In.keeps hK k, c1, c2, c3, o, k _ _ c4, c5⟩
theorem obsE_eq {fa : List He.Fa} {fn : List He.DefD} {ini : List IniD} {ex : PySem.W.Frag → Bool} {g : Addr → Option Obj} {s : Shared} (h : ∀ a, g a = s.heap.get? a) : obsE fa fn ini ex g = (hookE fa fn ini ex).obs s := by
  have e : g = s.heap.get? := funext h
  rw [e] <;> rfl

/-- what is tracked at the law's call: the script, perhaps, and the table of modules -/
def OnlyE (H : Hp) : Prop := ∀ b, H b = none ∨ (∃ ob xs, H b = some (.frz ob (.lst xs))) ∨ b = sysModules
/-- the table of modules, as it stands -/
def smO (o : Obj) : HO := .ext fun h => h.get? sysModules = some o
theorem law_callE {P : Program} {w : World} {K : PySem.W.Frag} {mg mb : Str → Option Value} {CX : CXT} {k : Nat} {fa a : Addr} {fd : FuncData} {x : Str} {sp : Sp} {s₁ : Shared} {vs : List Value} {ns : List Int} {o1 : Obj}
    (KX : K.In s₁.heap) (hsm : s₁.heap.get? sysModules = some o1) (hKs : K.lookup sysModules = none) (hns : s₁.heap.Ns mainGlobals mg) (hb : s₁.heap.Ns builtinsNs mb) (hbb : ∀ x : Str, x ≠ "__name__" → mb x = bootBuiltins x) (hlim : s₁.heap.NoLimit) (hg : s₁.gens = #[])
    (ha : s₁.heap.get? a = some { cls := .type "list", data := .seq vs.toArray }) (ha1 : a ≠ sysModules) (hi : IntsAre vs ns) (hl : ns.length ≤ sizeLine) (hr : Room k callerA)
    (F : ∀ base : Heap, K.In base → base.Ns mainGlobals mg → FnG P w K mg base CX k fa fd [x] sp) (hbind : ∀ (s : Shared) (u : Value), BindsTo s fd ⟨[u], []⟩ [(x, u)])
    (hsp : ∀ H : Hp, (∃ φ, H sysModules = some (.ext φ)) → SqL K H a (ns.map V.int) → sp [.ref a] H (fun v H' => v = .bl true ∧ H' sysModules = H sysModules) fun _ _ _ => False)
    (hCX : ∀ H e s', CX [] H s₁ (fun _ _ _ => False) e s' → False) :
    codeAny (model P w) callerA (.call (.ref fa) ⟨[.ref a], []⟩) (fun r s' => r = .ok (.ret (.bool true)) ∧ OldK s₁.heap s'.heap ∧ s'.os = s₁.os ∧ AllBare s'.gens) s₁ := by
  have rv := vals_ints hi
  have lenV := hi.length
  have core : ∀ H : Hp, OnlyE H → H sysModules = some (smO o1) → SqL K H a (ns.map V.int) → HOk P w H s₁.heap → (∀ b, H b ≠ none → b = a ∨ b = sysModules) → (H a ≠ none → K.lookup a = none) →
      codeAny (model P w) callerA (.call (.ref fa) ⟨[.ref a], []⟩) (fun r s' => r = .ok (.ret (.bool true)) ∧ OldK s₁.heap s'.heap ∧ s'.os = s₁.os ∧ AllBare s'.gens) s₁ := by
    intro H hO hS1 hS hok hA hK
    have free : ∀ {b : Addr}, b ≠ a → b ≠ sysModules → H b = none := fun {b} n n2 => by
      cases q : H b with
      | none => rfl
      | some u => exact ((hA b (by rw [q]; simp)).elim n n2).elim
    have noA : ∀ {b : Addr} {o : Obj} {es : Array DictEntry} {ep : Nat}, b ≠ sysModules → s₁.heap.get? b = some o → o.data = .dict es ep → H b = none := fun {b o es ep} n e d => free (fun e' => by
      subst e'
      rw [ha] at e
      cases e
      exact nomatch (show Data.seq vs.toArray _ = Data.dict es ep from d)) n
    have nsK : ∀ {b : Addr} {m : Str → Option Value}, b ≠ sysModules → s₁.heap.Ns b m → (hidT s₁.heap H).Ns b m := fun {b m} n ⟨o, es, ep, e, d, r⟩ => ⟨o, es, ep, hidT_get e (noA n e d), d, r⟩
    have hKb : K.In (hidT s₁.heap H) := fun b o e => by
      refine hidT_get (KX b o e) ?_
      by_cases n : b = a
      · subst n
        cases q : H b with
        | none => rfl
        | some u => rw [hK (by rw [q]; simp)] at e; cases e
      · exact free n fun z => by rw [z, hKs] at e; cases e
    have e0 : Env0 P w K mg (hidT s₁.heap H) callerA [] s₁ H :=
      ⟨rfl, ⟨hKb, nsK (by decide) hns, ⟨mb, nsK (by decide) hb, hbb⟩, let ⟨mc, h1, h2⟩ := hlim; ⟨mc, nsK (by decide) h1, h2⟩⟩, fun b o e => of_hidT e, Nat.le_of_eq (hidT_size _ _), trivial, fun b hb => absurd (show b ∈ ([] : List Addr) from hb) (by simp), hok, .of_eq hg⟩
    refine codeAny_mono ((F _ hKb (nsK (by decide) hns)).run callerA [] s₁ H ⟨[.ref a], []⟩ [.ref a] [.ref a] _ _ hr rfl e0 (hbind s₁ (.ref a)) (.cons rfl .nil) (hsp H ⟨_, hS1⟩ hS)) fun r s' h => ?_
    cases r with
    | error e => exact (hCX H e s' h).elim
    | ok fl =>
      cases fl with
      | next => exact h.elim
      | brk => exact h.elim
      | cont => exact h.elim
      | ret u =>
        obtain ⟨v, H', os, bare, un, hok', r', q, q2⟩ := h
        obtain rfl : v = .bl true := q
        obtain rfl : u = Value.bool true := r'
        refine ⟨rfl, OldK.of_keep fun b o e => ?_, os, bare⟩
        cases q : H b with
        | none => exact un.keep b o e q (fun z => nomatch z) (by simp)
        | some u =>
          rcases hO b with z | ⟨ob, xs, z⟩ | z
          · rw [q] at z; cases z
          · obtain ⟨e1, _⟩ := hok b _ z
            obtain ⟨e2, _⟩ := hok' b _ (un.frzs b ob _ z)
            rw [e] at e1; cases e1
            exact e2
          · subst z
            obtain ⟨e2, _⟩ := hok' sysModules _ (q2.trans hS1)
            rw [hsm] at e
            cases e
            exact e2
  have smOk : ∀ H : Hp, ObjOk P w H s₁.heap sysModules (smO o1) := fun H => ⟨hsm, ⟨o1, hsm⟩, fun h1 h2 e k => k _ e⟩
  cases hk : K.lookup a with
  | some o =>
    have e := KX a o hk
    rw [ha] at e
    cases e
    refine core (fun b => if b = sysModules then some (smO o1) else none) (fun b => ?_) (if_pos rfl) (.inr ⟨_, vs.toArray, _, hk, rfl, rfl, rfl, by rw [List.size_toArray, lenV]; exact hl, by simpa using rv⟩) (fun b u z => ?_) (fun b z => ?_) fun z => absurd (if_neg ha1) z
    · by_cases hb : b = sysModules
      · exact .inr (.inr hb)
      · exact .inl (if_neg hb)
    · by_cases hb : b = sysModules
      · subst hb
        cases (if_pos rfl).symm.trans z
        exact smOk _
      · exact nomatch (if_neg hb).symm.trans z
    · by_cases hb : b = sysModules
      · exact .inr hb
      · exact absurd (if_neg hb) z
  | none =>
    refine core (fun b => if b = a then some (.frz { cls := .type "list", data := .seq vs.toArray } (.lst (ns.map V.int))) else if b = sysModules then some (smO o1) else none) (fun b => ?_) ?_ (.inl (.inr ⟨{ cls := .type "list", data := .seq vs.toArray }, if_pos rfl⟩)) (fun b u z => ?_) (fun b z => ?_) fun _ => hk
    · by_cases hb : b = a
      · exact .inr (.inl ⟨_, _, if_pos hb⟩)
      · by_cases hb2 : b = sysModules
        · exact .inr (.inr hb2)
        · exact .inl (by simp only [if_neg hb, if_neg hb2])
    · show (if sysModules = a then _ else if sysModules = sysModules then some (smO o1) else none) = _
      rw [if_neg (Ne.symm ha1), if_pos rfl]
    · by_cases hb : b = a
      · subst hb
        cases (if_pos rfl).symm.trans z
        exact ⟨ha, by rw [List.length_map]; exact hl, vs, _, rv, ha⟩
      · by_cases hb2 : b = sysModules
        · have z2 := (if_neg hb).symm.trans z
          rw [if_pos hb2] at z2
          cases z2
          rw [hb2]
          exact smOk _
        · have z2 := (if_neg hb).symm.trans z
          rw [if_neg hb2] at z2
          cases z2
    · by_cases hb : b = a
      · exact .inl hb
      · by_cases hb2 : b = sysModules
        · exact .inr hb2
        · exact absurd (by simp only [if_neg hb, if_neg hb2]) z
theorem walk_ofE {l : PySem.W.OpenLaw} {n k : Nat} {q : Program} {loose : List Str} {XP : (Str → Option Value) → Heap → Prop} {YP : World → Heap → Prop} {d : DefRec} {CX : CXT} {x : Str}
    (hn : l.most = some n) (hn2 : n ≤ sizeLine) (hdf : d.params.defaults = []) (hr : Room k callerA)
    (F : ∀ (w : World) (mg : Str → Option Value) (fa : Addr) (h : Heap), YP w h → h.Ns mainGlobals mg → mg d.name = some (.ref fa) →
      ∃ (K : PySem.W.Frag) (CX : CXT) (fd : FuncData) (sp : Sp), K.In h ∧ K.lookup sysModules = none ∧ (∃ o, h.get? sysModules = some o ∧ ∃ es n, o.data = .dict es n) ∧ (∀ (s : Shared) (u : Value), BindsTo s fd ⟨[u], []⟩ [(x, u)]) ∧
        (∀ (H : Hp) (a : Addr) (ns : List Int), ns.length ≤ n → (∃ φ, H sysModules = some (.ext φ)) → SqL K H a (ns.map V.int) → sp [.ref a] H (fun v H' => v = .bl true ∧ H' sysModules = H sysModules) fun _ _ _ => False) ∧
        (∀ base : Heap, K.In base → base.Ns mainGlobals mg → FnG l.prog w K mg base CX k fa fd [x] sp) ∧ ∀ (H : Hp) (s : Shared) (e : Value) (s' : Shared), CX [] H s (fun _ _ _ => False) e s' → False) :
    PySem.W.WalkO q loose XP YP l.row.toRowW d [] (fun f vs => PySem.call f vs) := by
  refine Att.attach_call hn hdf fun w s₀ s₁ mg mb fa o pm cd doc a vs ns G Y ho hd hcd hmg hobj hints hlen hg => ?_
  obtain ⟨K, CX, fd, sp, KX, hKs, ⟨o1, hsm, es, m, hd1⟩, hb, hsp, hF, hCX⟩ := F w mg fa _ Y G.T.g hmg
  have ha1 : a ≠ sysModules := fun z => by
    rw [z, hsm] at hobj
    cases hobj
    cases hd1
  exact law_callE KX hsm hKs G.T.g G.T.b G.T.builtins G.T.nolimit hg hobj ha1 hints (Nat.le_trans hlen hn2) hr hF hb (fun H hS => hsp H a ns hlen hS) fun H e s' => hCX H s₁ e s'
end Ev

set_option Elab.async false
set_option linter.all false
set_option maxRecDepth 100000
set_option maxHeartbeats 0
namespace Ev.K00
open PySem PySem.Spec PyProof.Rows L2
abbrev pw : Program := PySem.Challenge.pw_novalueleft_k00_errors_apart
def top (i : Nat) : Stmt := pw.main.body.getD i (.Pass ⟨0, 0, 0, 0⟩)
def bxOf (l c : Nat) : Bool := [(113, 17), (114, 11), (132, 17), (159, 17), (185, 17), (212, 17), (234, 17)].contains (l, c)
def T : Tab where
  fns := [⟨"_law_begun", ["_law_script"], [], []⟩,
    ⟨"_law_draw", ["_law_state", "_law_size_here"], [], []⟩,
    ⟨"_law_pick", ["_law_state", "_law_several"], [], []⟩,
    ⟨"_law_odd", ["_law_state"], [], []⟩,
    ⟨"_law_kinds_a", ["_law_caught"], [], []⟩,
    ⟨"_law_kinds_b", ["_law_caught"], [], []⟩,
    ⟨"_law_plain_a", ["_law_text_here"], [], []⟩,
    ⟨"_law_plain_b", ["_law_text_here"], [], []⟩,
    ⟨"_law_held", ["_law_item"], [], []⟩,
    ⟨"_law_is_alone", ["_law_caught", "_law_name_here"], [], []⟩,
    ⟨"law", ["_law_script"], [], []⟩]
  cons := []
  free := ["range", "len", "isinstance", "abs", "min", "int", "repr", "super", "ValueError"]
  bx := bxOf
  most := 100000
  clss := [⟨"ValueLeftError", none⟩, ⟨"BadArrows", none⟩, ⟨"BadBook", none⟩, ⟨"BadChoices", none⟩, ⟨"BadClaim", none⟩, ⟨"BadClosure", none⟩, ⟨"BadCode", none⟩, ⟨"BadConstants", none⟩, ⟨"BadExpression", none⟩, ⟨"BadForm", none⟩, ⟨"BadGiven", none⟩, ⟨"BadInequalities", none⟩, ⟨"BadKey", none⟩, ⟨"BadKind", none⟩, ⟨"BadLabel", none⟩, ⟨"BadLabels", none⟩, ⟨"BadMarks", none⟩, ⟨"BadMost", none⟩, ⟨"BadName", none⟩, ⟨"BadPath", none⟩, ⟨"BadPattern", none⟩, ⟨"BadPatterns", none⟩, ⟨"BadProgram", none⟩, ⟨"BadPut", none⟩, ⟨"BadPuts", none⟩, ⟨"BadRunValue", none⟩, ⟨"BadShape", none⟩, ⟨"BadSize", none⟩, ⟨"BadText", some "index"⟩, ⟨"BadTree", none⟩, ⟨"BadType", none⟩, ⟨"BadValue", none⟩, ⟨"BadValues", none⟩, ⟨"BadVariable", none⟩, ⟨"BadVariables", none⟩, ⟨"IsHere", none⟩, ⟨"Missing", some "name"⟩, ⟨"NoGraph", none⟩, ⟨"NoRecord", none⟩, ⟨"NotFunctions", none⟩, ⟨"NotHere", none⟩, ⟨"NotTaken", none⟩, ⟨"NotThere", some "path"⟩, ⟨"NothingDone", none⟩, ⟨"NothingUndone", none⟩, ⟨"Refused", none⟩, ⟨"Rigid", none⟩, ⟨"TooMany", some "most"⟩]
def clsSt (s : Stmt) (j : Nat) : Stmt := match s with
  | .ClassDef _ _ _ b _ _ _ _ _ _ _ => b.getD j (.Pass ⟨0, 0, 0, 0⟩)
  | s => s
def inis : List IniD := [⟨"BadText", "BadText.__init__", defArgs (clsSt (top 29) 0), defBody (clsSt (top 29) 0), defScope (clsSt (top 29) 0), "index"⟩, ⟨"Missing", "Missing.__init__", defArgs (clsSt (top 37) 0), defBody (clsSt (top 37) 0), defScope (clsSt (top 37) 0), "name"⟩, ⟨"NotThere", "NotThere.__init__", defArgs (clsSt (top 43) 0), defBody (clsSt (top 43) 0), defScope (clsSt (top 43) 0), "path"⟩, ⟨"TooMany", "TooMany.__init__", defArgs (clsSt (top 48) 0), defBody (clsSt (top 48) 0), defScope (clsSt (top 48) 0), "most"⟩]
def Ds : List DefI := [⟨"_law_begun", defArgs (top 50), defBody (top 50), defScope (top 50), ["_law_script", "_law_cells_here", "_law_large", "_law_cell"], 2⟩,
  ⟨"_law_draw", defArgs (top 51), defBody (top 51), defScope (top 51), ["_law_state", "_law_size_here", "_law_turn", "_law_cell", "_law_mixed", "_law_found"], 0⟩,
  ⟨"_law_pick", defArgs (top 52), defBody (top 52), defScope (top 52), ["_law_state", "_law_several"], 0⟩,
  ⟨"_law_odd", defArgs (top 53), defBody (top 53), defScope (top 53), ["_law_state"], 0⟩,
  ⟨"_law_kinds_a", defArgs (top 54), defBody (top 54), defScope (top 54), ["_law_caught", "_law_found", "_law_each"], 0⟩,
  ⟨"_law_kinds_b", defArgs (top 55), defBody (top 55), defScope (top 55), ["_law_caught", "_law_found", "_law_each"], 0⟩,
  ⟨"_law_plain_a", defArgs (top 56), defBody (top 56), defScope (top 56), ["_law_text_here", "_law_found"], 0⟩,
  ⟨"_law_plain_b", defArgs (top 57), defBody (top 57), defScope (top 57), ["_law_text_here", "_law_found"], 0⟩,
  ⟨"_law_held", defArgs (top 58), defBody (top 58), defScope (top 58), ["_law_item", "_law_found", "_law_caught"], 0⟩,
  ⟨"_law_is_alone", defArgs (top 59), defBody (top 59), defScope (top 59), ["_law_caught", "_law_name_here", "_law_kinds_here"], 0⟩,
  ⟨"law", defArgs (top 60), defBody (top 60), defScope (top 60), ["_law_script", "_law_state", "_law_turn", "_law_text_here", "_law_item", "_law_some", "_law_name_here", "_law_caught", "_law_told", "_law_spot"], 0⟩]
/- 0 _law_begun, 1 _law_draw, 2 _law_pick, 3 _law_odd, 4 _law_kinds_a, 5 _law_kinds_b, 6 _law_plain_a, 7 _law_plain_b, 8 _law_held, 9 _law_is_alone, 10 law -/
theorem hT : T.fns.length = 11 := rfl
theorem dk0 : DefOk (T.fns[0]'(by decide)) (Ds[0]'(by decide)) where
  sc := ⟨rfl, rfl, rfl, by decide +kernel, rfl, by decide +kernel, by decide +kernel⟩
  dv := by decide +kernel
  bind := fun K a fd F m hm => by
    have e : m = 0 := Nat.le_zero.mp hm
    subst e
    exact ⟨[], .nil, F.bindsN fun _ _ _ _ _ _ us hl => match us, hl with | [_], _ => rfl⟩
theorem dk1 : DefOk (T.fns[1]'(by decide)) (Ds[1]'(by decide)) where
  sc := ⟨rfl, rfl, rfl, by decide +kernel, rfl, by decide +kernel, by decide +kernel⟩
  dv := by decide +kernel
  bind := fun K a fd F m hm => by
    have e : m = 0 := Nat.le_zero.mp hm
    subst e
    exact ⟨[], .nil, F.bindsN fun _ _ _ _ _ _ us hl => match us, hl with | [_, _], _ => rfl⟩
theorem dk2 : DefOk (T.fns[2]'(by decide)) (Ds[2]'(by decide)) where
  sc := ⟨rfl, rfl, rfl, by decide +kernel, rfl, by decide +kernel, by decide +kernel⟩
  dv := by decide +kernel
  bind := fun K a fd F m hm => by
    have e : m = 0 := Nat.le_zero.mp hm
    subst e
    exact ⟨[], .nil, F.bindsN fun _ _ _ _ _ _ us hl => match us, hl with | [_, _], _ => rfl⟩
theorem dk3 : DefOk (T.fns[3]'(by decide)) (Ds[3]'(by decide)) where
  sc := ⟨rfl, rfl, rfl, by decide +kernel, rfl, by decide +kernel, by decide +kernel⟩
  dv := by decide +kernel
  bind := fun K a fd F m hm => by
    have e : m = 0 := Nat.le_zero.mp hm
    subst e
    exact ⟨[], .nil, F.bindsN fun _ _ _ _ _ _ us hl => match us, hl with | [_], _ => rfl⟩
theorem dk4 : DefOk (T.fns[4]'(by decide)) (Ds[4]'(by decide)) where
  sc := ⟨rfl, rfl, rfl, by decide +kernel, rfl, by decide +kernel, by decide +kernel⟩
  dv := by decide +kernel
  bind := fun K a fd F m hm => by
    have e : m = 0 := Nat.le_zero.mp hm
    subst e
    exact ⟨[], .nil, F.bindsN fun _ _ _ _ _ _ us hl => match us, hl with | [_], _ => rfl⟩
theorem dk5 : DefOk (T.fns[5]'(by decide)) (Ds[5]'(by decide)) where
  sc := ⟨rfl, rfl, rfl, by decide +kernel, rfl, by decide +kernel, by decide +kernel⟩
  dv := by decide +kernel
  bind := fun K a fd F m hm => by
    have e : m = 0 := Nat.le_zero.mp hm
    subst e
    exact ⟨[], .nil, F.bindsN fun _ _ _ _ _ _ us hl => match us, hl with | [_], _ => rfl⟩
theorem dk6 : DefOk (T.fns[6]'(by decide)) (Ds[6]'(by decide)) where
  sc := ⟨rfl, rfl, rfl, by decide +kernel, rfl, by decide +kernel, by decide +kernel⟩
  dv := by decide +kernel
  bind := fun K a fd F m hm => by
    have e : m = 0 := Nat.le_zero.mp hm
    subst e
    exact ⟨[], .nil, F.bindsN fun _ _ _ _ _ _ us hl => match us, hl with | [_], _ => rfl⟩
theorem dk7 : DefOk (T.fns[7]'(by decide)) (Ds[7]'(by decide)) where
  sc := ⟨rfl, rfl, rfl, by decide +kernel, rfl, by decide +kernel, by decide +kernel⟩
  dv := by decide +kernel
  bind := fun K a fd F m hm => by
    have e : m = 0 := Nat.le_zero.mp hm
    subst e
    exact ⟨[], .nil, F.bindsN fun _ _ _ _ _ _ us hl => match us, hl with | [_], _ => rfl⟩
theorem dk8 : DefOk (T.fns[8]'(by decide)) (Ds[8]'(by decide)) where
  sc := ⟨rfl, rfl, rfl, by decide +kernel, rfl, by decide +kernel, by decide +kernel⟩
  dv := by decide +kernel
  bind := fun K a fd F m hm => by
    have e : m = 0 := Nat.le_zero.mp hm
    subst e
    exact ⟨[], .nil, F.bindsN fun _ _ _ _ _ _ us hl => match us, hl with | [_], _ => rfl⟩
theorem dk9 : DefOk (T.fns[9]'(by decide)) (Ds[9]'(by decide)) where
  sc := ⟨rfl, rfl, rfl, by decide +kernel, rfl, by decide +kernel, by decide +kernel⟩
  dv := by decide +kernel
  bind := fun K a fd F m hm => by
    have e : m = 0 := Nat.le_zero.mp hm
    subst e
    exact ⟨[], .nil, F.bindsN fun _ _ _ _ _ _ us hl => match us, hl with | [_, _], _ => rfl⟩
theorem dk10 : DefOk (T.fns[10]'(by decide)) (Ds[10]'(by decide)) where
  sc := ⟨rfl, rfl, rfl, by decide +kernel, rfl, by decide +kernel, by decide +kernel⟩
  dv := by decide +kernel
  bind := fun K a fd F m hm => by
    have e : m = 0 := Nat.le_zero.mp hm
    subst e
    exact ⟨[], .nil, F.bindsN fun _ _ _ _ _ _ us hl => match us, hl with | [_], _ => rfl⟩
theorem dks : DefsOk T.fns Ds := .cons dk0 (.cons dk1 (.cons dk2 (.cons dk3 (.cons dk4 (.cons dk5 (.cons dk6 (.cons dk7 (.cons dk8 (.cons dk9 (.cons dk10 (.nil)))))))))))
def loose0 : List Str := ["__name__", "ValueLeftError", "BadArrows", "BadBook", "BadChoices", "BadClaim", "BadClosure", "BadCode", "BadConstants", "BadExpression", "BadForm", "BadGiven", "BadInequalities", "BadKey", "BadKind", "BadLabel", "BadLabels", "BadMarks", "BadMost", "BadName", "BadPath", "BadPattern", "BadPatterns", "BadProgram", "BadPut", "BadPuts", "BadRunValue", "BadShape", "BadSize", "BadText"]
def loose1 : List Str := ["BadTree", "BadType", "BadValue", "BadValues", "BadVariable", "BadVariables", "IsHere", "Missing", "NoGraph", "NoRecord", "NotFunctions", "NotHere", "NotTaken", "NotThere", "NothingDone", "NothingUndone", "Refused", "Rigid", "TooMany", "_law_begun", "_law_draw", "_law_pick", "_law_odd", "_law_kinds_a", "_law_kinds_b", "_law_plain_a", "_law_plain_b", "_law_held", "_law_is_alone"]
def loose : List Str := loose0 ++ loose1
theorem is0 : IniS (defArgs (clsSt (top 29) 0)) (defBody (clsSt (top 29) 0)) (defScope (clsSt (top 29) 0)) "index" where
  par := ⟨_, rfl, rfl⟩
  bd := ⟨_, _, _, _, _, _, _, _, _, _, _, _, rfl, _, fun env => rfl⟩
  kind := rfl
  co := rfl
  gen := rfl
  cell := by decide +kernel
  ks := by rfl
  kc := by rfl
  kse := by rfl
  kf := by rfl
  ne := by decide
  nd := by decide
  bp := fun _ _ _ _ _ _ _ _ _ _ _ => rfl
  bk := fun _ _ _ _ _ _ _ _ _ _ _ => rfl
theorem is1 : IniS (defArgs (clsSt (top 37) 0)) (defBody (clsSt (top 37) 0)) (defScope (clsSt (top 37) 0)) "name" where
  par := ⟨_, rfl, rfl⟩
  bd := ⟨_, _, _, _, _, _, _, _, _, _, _, _, rfl, _, fun env => rfl⟩
  kind := rfl
  co := rfl
  gen := rfl
  cell := by decide +kernel
  ks := by rfl
  kc := by rfl
  kse := by rfl
  kf := by rfl
  ne := by decide
  nd := by decide
  bp := fun _ _ _ _ _ _ _ _ _ _ _ => rfl
  bk := fun _ _ _ _ _ _ _ _ _ _ _ => rfl
theorem is2 : IniS (defArgs (clsSt (top 43) 0)) (defBody (clsSt (top 43) 0)) (defScope (clsSt (top 43) 0)) "path" where
  par := ⟨_, rfl, rfl⟩
  bd := ⟨_, _, _, _, _, _, _, _, _, _, _, _, rfl, _, fun env => rfl⟩
  kind := rfl
  co := rfl
  gen := rfl
  cell := by decide +kernel
  ks := by rfl
  kc := by rfl
  kse := by rfl
  kf := by rfl
  ne := by decide
  nd := by decide
  bp := fun _ _ _ _ _ _ _ _ _ _ _ => rfl
  bk := fun _ _ _ _ _ _ _ _ _ _ _ => rfl
theorem is3 : IniS (defArgs (clsSt (top 48) 0)) (defBody (clsSt (top 48) 0)) (defScope (clsSt (top 48) 0)) "most" where
  par := ⟨_, rfl, rfl⟩
  bd := ⟨_, _, _, _, _, _, _, _, _, _, _, _, rfl, _, fun env => rfl⟩
  kind := rfl
  co := rfl
  gen := rfl
  cell := by decide +kernel
  ks := by rfl
  kc := by rfl
  kse := by rfl
  kf := by rfl
  ne := by decide
  nd := by decide
  bp := fun _ _ _ _ _ _ _ _ _ _ _ => rfl
  bk := fun _ _ _ _ _ _ _ _ _ _ _ => rfl
theorem inisOk : InisOk T inis where
  at_ := fun ci h f e => by
    have key : ∀ c ∈ T.clss, c.fld = none ∨ (c = ⟨"BadText", some "index"⟩ ∨ c = ⟨"Missing", some "name"⟩ ∨ c = ⟨"NotThere", some "path"⟩ ∨ c = ⟨"TooMany", some "most"⟩) := by decide +kernel
    rcases key ci h with h | rfl | rfl | rfl | rfl
    · rw [h] at e; cases e
    · cases e; exact ⟨inis[0]'(by decide), List.getElem_mem _, rfl, by decide, is0⟩
    · cases e; exact ⟨inis[1]'(by decide), List.getElem_mem _, rfl, by decide, is1⟩
    · cases e; exact ⟨inis[2]'(by decide), List.getElem_mem _, rfl, by decide, is2⟩
    · cases e; exact ⟨inis[3]'(by decide), List.getElem_mem _, rfl, by decide, is3⟩
abbrev R0 : PySem.W.OpenRow := PySem.W.OpenLaw.row PySem.Challenge.rw_novalueleft_k00_errors_apart
abbrev hk : PySem.W.Hook := hookE (factsOf T) (defsOf T.fns Ds) inis (exOf T pw inis)
def ob (s : PySem.W.SharedT) : AlE := obsE (factsOf T) (defsOf T.fns Ds) inis (exOf T pw inis) (HandSHeadRun.getT s)
theorem ob_eq (s : PySem.W.SharedT) : ob s = hk.obs s.abs := obsE_eq (HandSHeadRun.getT_eq s)
theorem run (w : World) : HandSHeadRun.RunEq R0 (PySem.W.view R0.prog [60]) hk ob 20000 loose w := by
  intro os
  kernel_rfl
end Ev.K00

set_option Elab.async false
set_option linter.all false
set_option maxRecDepth 100000
set_option maxHeartbeats 0
namespace Ev.K00
open PySem PySem.Spec PyProof.Rows L2
def rs : List Rd' := (readsOf T Ds).getD []
theorem hrs : readsOf T Ds = some rs := by
  have h : (readsOf T Ds).isSome = true := by kernel_rfl
  obtain ⟨r, hr⟩ := Option.isSome_iff_exists.mp h
  rw [hr, rs, hr]
  rfl
def kMost : Nat := 200
abbrev lawI : Nat := 10
abbrev topI : Nat := 60
/-- what stays to show -/
def Plain : Prop := ∀ ns : List Int, ns.length ≤ 63 → ∃ S, runF rs kMost lawI [.scr (ns.map .int)] [] = .ok (.bl true) S
end Ev.K00

set_option Elab.async false
set_option linter.all false
set_option maxRecDepth 100000
set_option maxHeartbeats 2000000
/-! Ev, part 26: reckoning with readings. -/
namespace Ev
open PySem PySem.Spec PyProof.Rows L2

theorem R.bind_okk {α β : Type} (a : α) (S : Sto) (k : α → Sto → R β) : (R.ok a S).bind k = k a S := rfl
theorem R.at_okk {α : Type} (a : α) (S : Sto) (env : Env') : (R.ok a S).at env = .ok a S := rfl
/-- a store whose references lead to its own boxes -/
def Cl (S : Sto) : Prop := S.all (clsO S.length) = true
mutual
theorem clsD_mono {n m : Nat} (h : n ≤ m) : ∀ {d : D}, clsD n d = true → clsD m d = true
  | .ref l, e => by simp only [clsD, decide_eq_true_eq] at e ⊢; omega
  | .tup ds, e => by simp only [clsD] at e ⊢; exact clsDs_mono h e
  | .lst ds, e => by simp only [clsD] at e ⊢; exact clsDs_mono h e
  | .dic ds, e => by simp only [clsD] at e ⊢; exact clsKv_mono h e
  | .non, _ => rfl
  | .bl _, _ => rfl
  | .int _, _ => rfl
  | .str _, _ => rfl
  | .fn _, _ => rfl
  | .ty _, _ => rfl
  | .cls _, _ => rfl
  | .pr _, e => by simp [clsD] at e
  | .scr _, e => by simp [clsD] at e
  | .exc _ _ ds, e => by simp only [clsD] at e ⊢; exact clsDs_mono h e
  | .clo _ _, e => by simp [clsD] at e
theorem clsDs_mono {n m : Nat} (h : n ≤ m) : ∀ {ds : List D}, clsDs n ds = true → clsDs m ds = true
  | [], _ => rfl
  | d :: ds, e => by
    simp only [clsDs, Bool.and_eq_true] at e ⊢
    exact ⟨clsD_mono h e.1, clsDs_mono h e.2⟩
theorem clsKv_mono {n m : Nat} (h : n ≤ m) : ∀ {ds : List (Key × D)}, clsKv n ds = true → clsKv m ds = true
  | [], _ => rfl
  | (_, d) :: ds, e => by
    simp only [clsKv, Bool.and_eq_true] at e ⊢
    exact ⟨clsD_mono h e.1, clsKv_mono h e.2⟩
end
theorem clsO_mono {n m : Nat} (h : n ≤ m) : ∀ {o : O}, clsO n o = true → clsO m o = true
  | .lst _, e => clsDs_mono h e
  | .dic _, e => clsKv_mono h e
  | .hid, _ => rfl
mutual
theorem frzD_pure (rf : Nat → Option D) : ∀ {d : D}, clsD 0 d = true → frzD rf d = some d
  | .ref l, e => by simp [clsD] at e
  | .tup ds, e => by simp only [clsD] at e; simp [frzD, frzDs_pure rf e]
  | .lst ds, e => by simp only [clsD] at e; simp [frzD, frzDs_pure rf e]
  | .dic ds, e => by simp only [clsD] at e; simp [frzD, frzKv_pure rf e]
  | .non, _ => rfl
  | .bl _, _ => rfl
  | .int _, _ => rfl
  | .str _, _ => rfl
  | .fn _, _ => rfl
  | .ty _, _ => rfl
  | .cls _, _ => rfl
  | .pr _, e => by simp [clsD] at e
  | .scr _, e => by simp [clsD] at e
  | .exc _ _ ds, e => by simp only [clsD] at e; simp [frzD, frzDs_pure rf e]
  | .clo _ _, e => by simp [clsD] at e
theorem frzDs_pure (rf : Nat → Option D) : ∀ {ds : List D}, clsDs 0 ds = true → frzDs rf ds = some ds
  | [], _ => rfl
  | d :: ds, e => by
    simp only [clsDs, Bool.and_eq_true] at e
    simp [frzDs, frzD_pure rf e.1, frzDs_pure rf e.2]
theorem frzKv_pure (rf : Nat → Option D) : ∀ {ds : List (Key × D)}, clsKv 0 ds = true → frzKv rf ds = some ds
  | [], _ => rfl
  | (k, d) :: ds, e => by
    simp only [clsKv, Bool.and_eq_true] at e
    simp [frzKv, frzD_pure rf e.1, frzKv_pure rf e.2]
end
/-- a def's end: pure data, the boxes it made go -/
theorem done_pure {d : D} {S T : Sto} (hd : clsD 0 d = true) (hS : Cl S) : done 0 S.length d (S ++ T) = .ok d S := by
  unfold done done0
  rw [frzD_pure _ hd, List.take_left]
  simp only
  exact if_pos hS
theorem done_pure0 {d : D} {S : Sto} (hd : clsD 0 d = true) (hS : Cl S) : done 0 S.length d S = .ok d S := by
  have := done_pure (T := []) hd hS
  simpa using this
theorem run_at {rs : List Rd'} {i : Nat} {f : ES} {n keep : Nat} (h : rs[i]? = some ⟨f, n, keep⟩) (k : Nat) (ds : List D) (S : Sto) : runF rs (k + 1) i ds S = finish keep S.length (f (runF rs k) (startD n ds) S) := by
  simp only [runF, h]
theorem fin_rt {keep n : Nat} {d : D} {S : Sto} : finish keep n (.ok (.rt d) S) = done keep n d S := rfl
theorem fin_nx {keep n : Nat} {env : Env'} {S : Sto} : finish keep n (.ok (.nx env) S) = done keep n .non S := rfl
theorem pu_bl (b : Bool) : clsD 0 (.bl b) = true := rfl
theorem pu_int (i : Int) : clsD 0 (.int i) = true := rfl
theorem pu_str (x : Str) : clsD 0 (.str x) = true := rfl
theorem deref_pu {S : Sto} {d : D} (h : clsD 0 d = true) : deref S d = d := by
  cases d <;> first | rfl | simp [clsD] at h
end Ev

set_option Elab.async false
set_option linter.all false
set_option maxRecDepth 100000
set_option maxHeartbeats 2000000
/-! Nv: readings of the program's defs and of the laws' common helpers, over a shared numbering; printed by gen_nv.py. -/
namespace Ev.Nv
open PySem PySem.Spec PyProof.Rows L2
/- 0 is_number(thing): names thing -/
def r_is_number (ix : Nat → Nat) : ES := (cSeq (cRet (cAndV (cPrim pIsi (cCons (cVar 0) (cCons (cK (.ty "int")) cNil))) (cNotV (cPrim pIsi (cCons (cVar 0) (cCons (cK (.ty "bool")) cNil))))))
  cSkip)
class At_is_number (rs : List Rd') (ix : Nat → Nat) : Prop where
  h : rs[ix 0]? = some ⟨r_is_number ix, 1, 0⟩
/- 1 is_between(thing, low, high): names thing, low, high -/
def r_is_between (ix : Nat → Nat) : ES := (cSeq (cRet (cAndV (cCall (ix 0) 1 [] (cCons (cVar 0) cNil)) (cChain pLe pLe (cVar 1) (cVar 0) (cVar 2))))
  cSkip)
class At_is_between (rs : List Rd') (ix : Nat → Nat) : Prop where
  h : rs[ix 1]? = some ⟨r_is_between ix, 3, 0⟩
/- 2 is_list(thing): names thing -/
def r_is_list (ix : Nat → Nat) : ES := (cSeq (cRet (cPrim pIsi (cCons (cVar 0) (cCons (cPrim pTup (cCons (cK (.ty "list")) (cCons (cK (.ty "tuple")) cNil))) cNil))))
  cSkip)
class At_is_list (rs : List Rd') (ix : Nat → Nat) : Prop where
  h : rs[ix 2]? = some ⟨r_is_list ix, 1, 0⟩
/- 3 is_name(thing): names thing, letter -/
def r_is_name_c1 (ix : Nat → Nat) : EE := (cLc false (.nm 1) [1] cYes (cChain pLe pLe (cK (.str "a")) (cVar 1) (cK (.str "z"))) (cSrcN 0))
def r_is_name (ix : Nat → Nat) : ES := (cSeq (cIfS (cOrT (cNotT (cTru (cPrim pIsi (cCons (cVar 0) (cCons (cK (.ty "str")) cNil))))) (cNotT (cB (cChain pLe pLe (cK (.int 1)) (cPrim pLen (cCons (cVar 0) cNil)) (cK (.int 8)))))) (cSeq (cRet (cK (.bl false)))
  cSkip) cSkip)
  (cSeq (cRet (cPrim (pAll false) (cCons (r_is_name_c1 ix) cNil)))
  cSkip))
class At_is_name (rs : List Rd') (ix : Nat → Nat) : Prop where
  h : rs[ix 3]? = some ⟨r_is_name ix, 2, 0⟩
/- 4 is_constant(thing): names thing -/
def r_is_constant (ix : Nat → Nat) : ES := (cSeq (cRet (cOrV (cCall (ix 0) 1 [] (cCons (cVar 0) cNil)) (cCall (ix 3) 1 [] (cCons (cVar 0) cNil))))
  cSkip)
class At_is_constant (rs : List Rd') (ix : Nat → Nat) : Prop where
  h : rs[ix 4]? = some ⟨r_is_constant ix, 1, 0⟩
/- 5 is_tagged(thing, word, size): names thing, word, size -/
def r_is_tagged (ix : Nat → Nat) : ES := (cSeq (cRet (cAndV (cPrim pIsi (cCons (cVar 0) (cCons (cK (.ty "tuple")) cNil))) (cAndV (cBin (pEq false) (cPrim pLen (cCons (cVar 0) cNil)) (cVar 2)) (cAndV (cPrim pIsi (cCons (cBin pIx (cVar 0) (cK (.int 0))) (cCons (cK (.ty "str")) cNil))) (cBin (pEq false) (cBin pIx (cVar 0) (cK (.int 0))) (cVar 1))))))
  cSkip)
class At_is_tagged (rs : List Rd') (ix : Nat → Nat) : Prop where
  h : rs[ix 5]? = some ⟨r_is_tagged ix, 3, 0⟩
/- 6 is_rising(several): names several, one, other -/
def r_is_rising_c1 (ix : Nat → Nat) : EE := (cLc false (.tup [(.nm 1), (.nm 2)]) [1, 2] cYes (cBin pLt (cVar 1) (cVar 2)) (cZip (cCons (cVar 0) (cCons (cSl false (cVar 0) (cPart (cK (.int 1))) cNoPart) cNil))))
def r_is_rising (ix : Nat → Nat) : ES := (cSeq (cRet (cPrim (pAll false) (cCons (r_is_rising_c1 ix) cNil)))
  cSkip)
class At_is_rising (rs : List Rd') (ix : Nat → Nat) : Prop where
  h : rs[ix 6]? = some ⟨r_is_rising ix, 3, 0⟩
/- 7 bounds_right(low, high): names low, high, bound -/
def r_bounds_right_c1 (ix : Nat → Nat) : EE := (cLc false (.nm 2) [2] cYes (cOrV (cBin (pIs false) (cVar 2) (cK (.non))) (cCall (ix 0) 1 [] (cCons (cVar 2) cNil))) (cSrc (cPrim pTup (cCons (cVar 0) (cCons (cVar 1) cNil)))))
def r_bounds_right (ix : Nat → Nat) : ES := (cSeq (cIfS (cNotT (cTru (cPrim (pAll false) (cCons (r_bounds_right_c1 ix) cNil)))) (cSeq (cRet (cK (.bl false)))
  cSkip) cSkip)
  (cSeq (cRet (cOrV (cBin (pIs false) (cVar 0) (cK (.non))) (cOrV (cBin (pIs false) (cVar 1) (cK (.non))) (cBin pLe (cVar 0) (cVar 1)))))
  cSkip))
class At_bounds_right (rs : List Rd') (ix : Nat → Nat) : Prop where
  h : rs[ix 7]? = some ⟨r_bounds_right ix, 3, 0⟩
/- 8 told_fields_right(thing, levels, variables): names thing, levels, variables, label, told, must, field -/
def r_told_fields_right_c1 (ix : Nat → Nat) : EE := (cLc false (.tup [(.nm 3), (.nm 4), (.nm 5)]) [3, 4, 5] cYes (cVar 3) (cSrcN 0))
def r_told_fields_right_c2 (ix : Nat → Nat) : EE := (cLc false (.tup [(.nm 3), (.nm 4), (.nm 5)]) [3, 4, 5] cYes (cCall (ix 9) 3 [] (cCons (cVar 4) (cCons (cVar 1) (cCons (cVar 2) cNil)))) (cSrcN 0))
def r_told_fields_right_c3 (ix : Nat → Nat) : EE := (cLc false (.tup [(.nm 3), (.nm 4), (.nm 5)]) [3, 4, 5] cYes (cAndV (cCall (ix 3) 1 [] (cCons (cVar 3) cNil)) (cPrim pIsi (cCons (cVar 5) (cCons (cK (.ty "bool")) cNil)))) (cSrcN 0))
def r_told_fields_right_c4 (ix : Nat → Nat) : EE := (cLc false (.nm 6) [6] cYes (cAndV (cPrim pIsi (cCons (cVar 6) (cCons (cK (.ty "tuple")) cNil))) (cBin (pEq false) (cPrim pLen (cCons (cVar 6) cNil)) (cK (.int 3)))) (cSrcN 0))
def r_told_fields_right (ix : Nat → Nat) : ES := (cSeq (cIfS (cOrT (cNotT (cTru (cPrim pIsi (cCons (cVar 0) (cCons (cK (.ty "tuple")) cNil))))) (cNotT (cTru (cPrim (pAll false) (cCons (r_told_fields_right_c4 ix) cNil))))) (cSeq (cRet (cK (.bl false)))
  cSkip) cSkip)
  (cSeq (cIfS (cNotT (cTru (cPrim (pAll false) (cCons (r_told_fields_right_c3 ix) cNil)))) (cSeq (cRet (cK (.bl false)))
  cSkip) cSkip)
  (cSeq (cIfS (cNotT (cTru (cPrim (pAll false) (cCons (r_told_fields_right_c2 ix) cNil)))) (cSeq (cRet (cK (.bl false)))
  cSkip) cSkip)
  (cSeq (cRet (cCall (ix 6) 1 [] (cCons (r_told_fields_right_c1 ix) cNil)))
  cSkip))))
class At_told_fields_right (rs : List Rd') (ix : Nat → Nat) : Prop where
  h : rs[ix 8]? = some ⟨r_told_fields_right ix, 7, 0⟩
/- 9 form_right(thing, levels, variables): names thing, levels, variables -/
def r_form_right (ix : Nat → Nat) : ES := (cSeq (cIfS (cOrT (cB (cBin (pEq false) (cVar 1) (cK (.int 0)))) (cOrT (cNotT (cTru (cPrim pIsi (cCons (cVar 0) (cCons (cK (.ty "tuple")) cNil))))) (cOrT (cB (cBin (pEq false) (cPrim pLen (cCons (cVar 0) cNil)) (cK (.int 0)))) (cNotT (cTru (cPrim pIsi (cCons (cBin pIx (cVar 0) (cK (.int 0))) (cCons (cK (.ty "str")) cNil)))))))) (cSeq (cRet (cK (.bl false)))
  cSkip) cSkip)
  (cSeq (cIfS (cB (cBin (pIn false) (cVar 0) (cPrim pTup (cCons (cK (.tup [.str "any"])) (cCons (cK (.tup [.str "none"])) (cCons (cPrim pTup (cCons (cK (.str "names")) cNil)) cNil)))))) (cSeq (cRet (cK (.bl true)))
  cSkip) cSkip)
  (cSeq (cIfS (cTru (cCall (ix 5) 3 [] (cCons (cVar 0) (cCons (cK (.str "is")) (cCons (cK (.int 2)) cNil))))) (cSeq (cRet (cCall (ix 4) 1 [] (cCons (cBin pIx (cVar 0) (cK (.int 1))) cNil)))
  cSkip) cSkip)
  (cSeq (cIfS (cOrT (cTru (cCall (ix 5) 3 [] (cCons (cVar 0) (cCons (cK (.str "the")) (cCons (cK (.int 2)) cNil))))) (cAndT (cTru (cVar 2)) (cTru (cCall (ix 5) 3 [] (cCons (cVar 0) (cCons (cK (.str "var")) (cCons (cK (.int 2)) cNil))))))) (cSeq (cRet (cCall (ix 3) 1 [] (cCons (cBin pIx (cVar 0) (cK (.int 1))) cNil)))
  cSkip) cSkip)
  (cSeq (cIfS (cTru (cCall (ix 5) 3 [] (cCons (cVar 0) (cCons (cK (.str "from")) (cCons (cK (.int 3)) cNil))))) (cSeq (cRet (cCall (ix 7) 2 [] (cCons (cBin pIx (cVar 0) (cK (.int 1))) (cCons (cBin pIx (cVar 0) (cK (.int 2))) cNil))))
  cSkip) cSkip)
  (cSeq (cIfS (cTru (cCall (ix 5) 3 [] (cCons (cVar 0) (cCons (cK (.str "not")) (cCons (cK (.int 2)) cNil))))) (cSeq (cRet (cCall (ix 9) 3 [] (cCons (cBin pIx (cVar 0) (cK (.int 1))) (cCons (cBin pSub (cVar 1) (cK (.int 1))) (cCons (cVar 2) cNil)))))
  cSkip) cSkip)
  (cSeq (cIfS (cTru (cCall (ix 5) 3 [] (cCons (cVar 0) (cCons (cK (.str "record")) (cCons (cK (.int 3)) cNil))))) (cSeq (cRet (cAndV (cPrim pIsi (cCons (cBin pIx (cVar 0) (cK (.int 2))) (cCons (cK (.ty "bool")) cNil))) (cCall (ix 8) 3 [] (cCons (cBin pIx (cVar 0) (cK (.int 1))) (cCons (cBin pSub (cVar 1) (cK (.int 1))) (cCons (cVar 2) cNil))))))
  cSkip) cSkip)
  (cSeq (cIfS (cOrT (cB (cBin (pEq true) (cPrim pLen (cCons (cVar 0) cNil)) (cK (.int 3)))) (cB (cBin (pIn true) (cBin pIx (cVar 0) (cK (.int 0))) (cPrim pTup (cCons (cK (.str "pair")) (cCons (cK (.str "fun")) (cCons (cK (.str "or")) (cCons (cK (.str "and")) cNil)))))))) (cSeq (cRet (cK (.bl false)))
  cSkip) cSkip)
  (cSeq (cRet (cAndV (cCall (ix 9) 3 [] (cCons (cBin pIx (cVar 0) (cK (.int 1))) (cCons (cBin pSub (cVar 1) (cK (.int 1))) (cCons (cVar 2) cNil)))) (cCall (ix 9) 3 [] (cCons (cBin pIx (cVar 0) (cK (.int 2))) (cCons (cBin pSub (cVar 1) (cK (.int 1))) (cCons (cVar 2) cNil))))))
  cSkip)))))))))
class At_form_right (rs : List Rd') (ix : Nat → Nat) : Prop where
  h : rs[ix 9]? = some ⟨r_form_right ix, 3, 0⟩
/- 10 below(told): names told, label, part, must -/
def r_below_c1 (ix : Nat → Nat) : EE := (cLc false (.tup [(.nm 1), (.nm 2), (.nm 3)]) [1, 2, 3] cYes (cVar 2) (cSrc (cBin pIx (cVar 0) (cK (.int 1)))))
def r_below (ix : Nat → Nat) : ES := (cSeq (cIfS (cB (cBin (pEq false) (cBin pIx (cVar 0) (cK (.int 0))) (cK (.str "record")))) (cSeq (cRet (r_below_c1 ix))
  cSkip) cSkip)
  (cSeq (cIfS (cB (cBin (pIn false) (cBin pIx (cVar 0) (cK (.int 0))) (cPrim pTup (cCons (cK (.str "pair")) (cCons (cK (.str "fun")) (cCons (cK (.str "or")) (cCons (cK (.str "and")) cNil))))))) (cSeq (cRet (cPrim (pLst false) (cCons (cBin pIx (cVar 0) (cK (.int 1))) (cCons (cBin pIx (cVar 0) (cK (.int 2))) cNil))))
  cSkip) cSkip)
  (cSeq (cRet (cIf (cB (cBin (pEq false) (cBin pIx (cVar 0) (cK (.int 0))) (cK (.str "not")))) (cPrim (pLst false) (cCons (cBin pIx (cVar 0) (cK (.int 1))) cNil)) (cPrim (pLst false) cNil)))
  cSkip)))
class At_below (rs : List Rd') (ix : Nat → Nat) : Prop where
  h : rs[ix 10]? = some ⟨r_below ix, 4, 0⟩
/- 11 parts_of(told): names told, part -/
def r_parts_of_c1 (ix : Nat → Nat) : EE := (cLc false (.nm 1) [1] cYes (cCall (ix 11) 1 [] (cCons (cVar 1) cNil)) (cSrc (cCall (ix 10) 1 [] (cCons (cVar 0) cNil))))
def r_parts_of (ix : Nat → Nat) : ES := (cSeq (cRet (cBin (pAdd false) (cK (.int 1)) (cPrim pSum (cCons (r_parts_of_c1 ix) cNil))))
  cSkip)
class At_parts_of (rs : List Rd') (ix : Nat → Nat) : Prop where
  h : rs[ix 11]? = some ⟨r_parts_of ix, 2, 0⟩
/- 12 leaves(told, word): names told, word, part, name -/
def r_leaves_c1 (ix : Nat → Nat) : EE := (cLc2 false (.nm 2) [2, 3] cYes (cSrc (cCall (ix 12) 2 [] (cCons (cVar 2) (cCons (cVar 1) cNil)))) (.nm 3) [3] cYes (cVar 3) (cSrc (cCall (ix 10) 1 [] (cCons (cVar 0) cNil))))
def r_leaves (ix : Nat → Nat) : ES := (cSeq (cIfS (cB (cBin (pEq false) (cBin pIx (cVar 0) (cK (.int 0))) (cVar 1))) (cSeq (cRet (cPrim (pLst false) (cCons (cBin pIx (cVar 0) (cK (.int 1))) cNil)))
  cSkip) cSkip)
  (cSeq (cRet (r_leaves_c1 ix))
  cSkip))
class At_leaves (rs : List Rd') (ix : Nat → Nat) : Prop where
  h : rs[ix 12]? = some ⟨r_leaves ix, 4, 0⟩
/- 13 near_names(told): names told, part, name -/
def r_near_names_c1 (ix : Nat → Nat) : EE := (cLc2 true (.nm 1) [1, 2] cYes (cSrc (cCall (ix 13) 1 [] (cCons (cVar 1) cNil))) (.nm 2) [2] cYes (cVar 2) (cSrc (cCall (ix 10) 1 [] (cCons (cVar 0) cNil))))
def r_near_names (ix : Nat → Nat) : ES := (cSeq (cIfS (cB (cBin (pEq false) (cBin pIx (cVar 0) (cK (.int 0))) (cK (.str "the")))) (cSeq (cRet (cPrim (pLst true) (cCons (cBin pIx (cVar 0) (cK (.int 1))) cNil)))
  cSkip) cSkip)
  (cSeq (cRet (cIf (cB (cBin (pIn false) (cBin pIx (cVar 0) (cK (.int 0))) (cPrim pTup (cCons (cK (.str "or")) (cCons (cK (.str "and")) (cCons (cK (.str "not")) cNil)))))) (r_near_names_c1 ix) (cPrim (pLst true) cNil)))
  cSkip))
class At_near_names (rs : List Rd') (ix : Nat → Nat) : Prop where
  h : rs[ix 13]? = some ⟨r_near_names ix, 3, 1⟩
/- 14 comes_back(book, name): names book, name, line, seen, here -/
def r_comes_back_b1 (ix : Nat → Nat) : ES := (cSeq (cAsg (.nm 4) (cMeth0 pPop (cVar 2)))
  (cSeq (cIfS (cB (cBin (pEq false) (cVar 4) (cVar 1))) (cSeq (cRet (cK (.bl true)))
  cSkip) cSkip)
  (cSeq (cIfS (cB (cBin (pIn true) (cVar 4) (cVar 3))) (cSeq (cSet (cVar 3) (cVar 4) (cK (.bl true)))
  (cSeq (cAsg (.nm 2) (cBin (pAdd true) (cVar 2) (cCall (ix 13) 1 [] (cCons (cBin pIx (cVar 0) (cVar 4)) cNil))))
  cSkip)) cSkip)
  cSkip)))
def r_comes_back (ix : Nat → Nat) : ES := (cSeq (cPar [2, 3] (cCons (cCall (ix 13) 1 [] (cCons (cBin pIx (cVar 0) (cVar 1)) cNil)) (cCons (fun _ _ S => mkD true [] S) cNil)))
  (cSeq (cWhile 100000 (cB (cBin (pEq true) (cVar 2) (cPrim (pLst false) cNil))) (r_comes_back_b1 ix))
  (cSeq (cRet (cK (.bl false)))
  cSkip)))
class At_comes_back (rs : List Rd') (ix : Nat → Nat) : Prop where
  h : rs[ix 14]? = some ⟨r_comes_back ix, 5, 0⟩
/- 15 book_right(thing): names thing, name, other -/
def r_book_right_c1 (ix : Nat → Nat) : EE := (cLc false (.nm 1) [1] cYes (cCall (ix 14) 2 [] (cCons (cVar 0) (cCons (cVar 1) cNil))) (cSrcN 0))
def r_book_right_c2 (ix : Nat → Nat) : EE := (cLc2 false (.nm 1) [1, 2] cYes (cSrc (cCall (ix 12) 2 [] (cCons (cBin pIx (cVar 0) (cVar 1)) (cCons (cK (.str "the")) cNil)))) (.nm 2) [2] cYes (cBin (pIn false) (cVar 2) (cVar 0)) (cSrcN 0))
def r_book_right_c3 (ix : Nat → Nat) : EE := (cLc false (.nm 1) [1] cYes (cBin pGt (cCall (ix 11) 1 [] (cCons (cBin pIx (cVar 0) (cVar 1)) cNil)) (cK (.int 400))) (cSrcN 0))
def r_book_right_c4 (ix : Nat → Nat) : EE := (cLc false (.nm 1) [1] cYes (cCall (ix 9) 3 [] (cCons (cBin pIx (cVar 0) (cVar 1)) (cCons (cK (.int 60)) (cCons (cK (.bl false)) cNil)))) (cSrcN 0))
def r_book_right_c5 (ix : Nat → Nat) : EE := (cLc false (.nm 1) [1] cYes (cCall (ix 3) 1 [] (cCons (cVar 1) cNil)) (cSrcN 0))
def r_book_right (ix : Nat → Nat) : ES := (cSeq (cIfS (cOrT (cNotT (cTru (cPrim pIsi (cCons (cVar 0) (cCons (cK (.ty "dict")) cNil))))) (cOrT (cB (cBin pGt (cPrim pLen (cCons (cVar 0) cNil)) (cK (.int 60)))) (cNotT (cTru (cPrim (pAll false) (cCons (r_book_right_c5 ix) cNil)))))) (cSeq (cRet (cK (.bl false)))
  cSkip) cSkip)
  (cSeq (cIfS (cNotT (cTru (cPrim (pAll false) (cCons (r_book_right_c4 ix) cNil)))) (cSeq (cRet (cK (.bl false)))
  cSkip) cSkip)
  (cSeq (cIfS (cTru (cPrim (pAll true) (cCons (r_book_right_c3 ix) cNil))) (cSeq (cRet (cK (.bl false)))
  cSkip) cSkip)
  (cSeq (cIfS (cNotT (cTru (cPrim (pAll false) (cCons (r_book_right_c2 ix) cNil)))) (cSeq (cRet (cK (.bl false)))
  cSkip) cSkip)
  (cSeq (cRet (cNotV (cPrim (pAll true) (cCons (r_book_right_c1 ix) cNil))))
  cSkip)))))
class At_book_right (rs : List Rd') (ix : Nat → Nat) : Prop where
  h : rs[ix 15]? = some ⟨r_book_right ix, 3, 0⟩
/- 16 type_right(book, thing, variables): names book, thing, variables, name -/
def r_type_right_c1 (ix : Nat → Nat) : EE := (cLc false (.nm 3) [3] cYes (cBin (pIn false) (cVar 3) (cVar 0)) (cSrc (cCall (ix 12) 2 [] (cCons (cVar 1) (cCons (cK (.str "the")) cNil)))))
def r_type_right (ix : Nat → Nat) : ES := (cSeq (cIfS (cOrT (cNotT (cTru (cCall (ix 9) 3 [] (cCons (cVar 1) (cCons (cK (.int 60)) (cCons (cVar 2) cNil)))))) (cB (cBin pGt (cCall (ix 11) 1 [] (cCons (cVar 1) cNil)) (cK (.int 400))))) (cSeq (cRet (cK (.bl false)))
  cSkip) cSkip)
  (cSeq (cRet (cPrim (pAll false) (cCons (r_type_right_c1 ix) cNil)))
  cSkip))
class At_type_right (rs : List Rd') (ix : Nat → Nat) : Prop where
  h : rs[ix 16]? = some ⟨r_type_right ix, 4, 0⟩
/- 17 need_book(book): names book -/
def r_need_book (ix : Nat → Nat) : ES := (cSeq (cIfS (cNotT (cTru (cCall (ix 15) 1 [] (cCons (cVar 0) cNil)))) (cSeq cNever
  cSkip) cSkip)
  cSkip)
class At_need_book (rs : List Rd') (ix : Nat → Nat) : Prop where
  h : rs[ix 17]? = some ⟨r_need_book ix, 1, 0⟩
/- 18 need_type(book, told): names book, told -/
def r_need_type (ix : Nat → Nat) : ES := (cSeq (cIfS (cNotT (cTru (cCall (ix 16) 3 [.bl false] (cCons (cVar 0) (cCons (cVar 1) cNil))))) (cSeq cNever
  cSkip) cSkip)
  cSkip)
class At_need_type (rs : List Rd') (ix : Nat → Nat) : Prop where
  h : rs[ix 18]? = some ⟨r_need_type ix, 2, 0⟩
/- 19 unfolded_of(book, told): names book, told -/
def r_unfolded_of (ix : Nat → Nat) : ES := (cSeq (cIfS (cB (cBin (pEq false) (cBin pIx (cVar 1) (cK (.int 0))) (cK (.str "the")))) (cSeq (cRet (cCall (ix 19) 2 [] (cCons (cVar 0) (cCons (cBin pIx (cVar 0) (cBin pIx (cVar 1) (cK (.int 1)))) cNil))))
  cSkip) cSkip)
  (cSeq (cIfS (cB (cBin (pIn false) (cBin pIx (cVar 1) (cK (.int 0))) (cPrim pTup (cCons (cK (.str "or")) (cCons (cK (.str "and")) cNil))))) (cSeq (cRet (cPrim pTup (cCons (cBin pIx (cVar 1) (cK (.int 0))) (cCons (cCall (ix 19) 2 [] (cCons (cVar 0) (cCons (cBin pIx (cVar 1) (cK (.int 1))) cNil))) (cCons (cCall (ix 19) 2 [] (cCons (cVar 0) (cCons (cBin pIx (cVar 1) (cK (.int 2))) cNil))) cNil)))))
  cSkip) cSkip)
  (cSeq (cRet (cIf (cB (cBin (pEq false) (cBin pIx (cVar 1) (cK (.int 0))) (cK (.str "not")))) (cPrim pTup (cCons (cK (.str "not")) (cCons (cCall (ix 19) 2 [] (cCons (cVar 0) (cCons (cBin pIx (cVar 1) (cK (.int 1))) cNil))) cNil))) (cVar 1)))
  cSkip)))
class At_unfolded_of (rs : List Rd') (ix : Nat → Nat) : Prop where
  h : rs[ix 19]? = some ⟨r_unfolded_of ix, 2, 0⟩
/- 20 unfolded(book, told): names book, told -/
def r_unfolded (ix : Nat → Nat) : ES := (cSeq (cExp (cCall (ix 17) 1 [] (cCons (cVar 0) cNil)))
  (cSeq (cExp (cCall (ix 18) 2 [] (cCons (cVar 0) (cCons (cVar 1) cNil))))
  (cSeq (cRet (cCall (ix 19) 2 [] (cCons (cVar 0) (cCons (cVar 1) cNil))))
  cSkip)))
class At_unfolded (rs : List Rd') (ix : Nat → Nat) : Prop where
  h : rs[ix 20]? = some ⟨r_unfolded ix, 2, 0⟩
/- 21 fields_right(thing, deep): names thing, deep, label, part, pair -/
def r_fields_right_c1 (ix : Nat → Nat) : EE := (cLc false (.tup [(.nm 2), (.nm 3)]) [2, 3] cYes (cVar 2) (cSrcN 0))
def r_fields_right_c2 (ix : Nat → Nat) : EE := (cLc false (.tup [(.nm 2), (.nm 3)]) [2, 3] cYes (cAndV (cCall (ix 3) 1 [] (cCons (cVar 2) cNil)) (cCall (ix 23) 2 [] (cCons (cVar 3) (cCons (cVar 1) cNil)))) (cSrcN 0))
def r_fields_right_c3 (ix : Nat → Nat) : EE := (cLc false (.nm 4) [4] cYes (cAndV (cPrim pIsi (cCons (cVar 4) (cCons (cK (.ty "tuple")) cNil))) (cBin (pEq false) (cPrim pLen (cCons (cVar 4) cNil)) (cK (.int 2)))) (cSrcN 0))
def r_fields_right (ix : Nat → Nat) : ES := (cSeq (cIfS (cOrT (cNotT (cTru (cPrim pIsi (cCons (cVar 0) (cCons (cK (.ty "tuple")) cNil))))) (cNotT (cTru (cPrim (pAll false) (cCons (r_fields_right_c3 ix) cNil))))) (cSeq (cRet (cK (.bl false)))
  cSkip) cSkip)
  (cSeq (cIfS (cNotT (cTru (cPrim (pAll false) (cCons (r_fields_right_c2 ix) cNil)))) (cSeq (cRet (cK (.bl false)))
  cSkip) cSkip)
  (cSeq (cRet (cCall (ix 6) 1 [] (cCons (r_fields_right_c1 ix) cNil)))
  cSkip)))
class At_fields_right (rs : List Rd') (ix : Nat → Nat) : Prop where
  h : rs[ix 21]? = some ⟨r_fields_right ix, 5, 0⟩
/- 22 pairs_right(thing, deep): names thing, deep, spot, pair, before, behind -/
def r_pairs_right_c1 (ix : Nat → Nat) : EE := (cLc false (.nm 2) [2] cYes (cBin (pIn true) (cBin pIx (cVar 0) (cVar 2)) (cSl false (cVar 0) cNoPart (cPart (cVar 2)))) (cRange1 (cCons (cPrim pLen (cCons (cVar 0) cNil)) cNil)))
def r_pairs_right_c2 (ix : Nat → Nat) : EE := (cLc false (.tup [(.nm 4), (.nm 5)]) [4, 5] cYes (cOrV (cBin (pIs false) (cVar 5) (cK (.non))) (cCall (ix 23) 2 [] (cCons (cVar 5) (cCons (cVar 1) cNil)))) (cSrcN 0))
def r_pairs_right_c3 (ix : Nat → Nat) : EE := (cLc false (.tup [(.nm 4), (.nm 5)]) [4, 5] cYes (cCall (ix 23) 2 [] (cCons (cVar 4) (cCons (cVar 1) cNil))) (cSrcN 0))
def r_pairs_right_c4 (ix : Nat → Nat) : EE := (cLc false (.nm 3) [3] cYes (cAndV (cPrim pIsi (cCons (cVar 3) (cCons (cK (.ty "tuple")) cNil))) (cBin (pEq false) (cPrim pLen (cCons (cVar 3) cNil)) (cK (.int 2)))) (cSrcN 0))
def r_pairs_right (ix : Nat → Nat) : ES := (cSeq (cIfS (cOrT (cNotT (cTru (cPrim pIsi (cCons (cVar 0) (cCons (cK (.ty "tuple")) cNil))))) (cNotT (cTru (cPrim (pAll false) (cCons (r_pairs_right_c4 ix) cNil))))) (cSeq (cRet (cK (.bl false)))
  cSkip) cSkip)
  (cSeq (cIfS (cNotT (cTru (cPrim (pAll false) (cCons (r_pairs_right_c3 ix) cNil)))) (cSeq (cRet (cK (.bl false)))
  cSkip) cSkip)
  (cSeq (cIfS (cNotT (cTru (cPrim (pAll false) (cCons (r_pairs_right_c2 ix) cNil)))) (cSeq (cRet (cK (.bl false)))
  cSkip) cSkip)
  (cSeq (cRet (cPrim (pAll false) (cCons (r_pairs_right_c1 ix) cNil)))
  cSkip))))
class At_pairs_right (rs : List Rd') (ix : Nat → Nat) : Prop where
  h : rs[ix 22]? = some ⟨r_pairs_right ix, 6, 0⟩
/- 23 right_within(thing, deep): names thing, deep -/
def r_right_within (ix : Nat → Nat) : ES := (cSeq (cIfS (cTru (cCall (ix 4) 1 [] (cCons (cVar 0) cNil))) (cSeq (cRet (cBin pGt (cVar 1) (cK (.int 0))))
  cSkip) cSkip)
  (cSeq (cIfS (cB (cBin (pEq false) (cVar 1) (cK (.int 0)))) (cSeq (cRet (cK (.bl false)))
  cSkip) cSkip)
  (cSeq (cIfS (cTru (cCall (ix 5) 3 [] (cCons (cVar 0) (cCons (cK (.str "pair")) (cCons (cK (.int 3)) cNil))))) (cSeq (cRet (cAndV (cCall (ix 23) 2 [] (cCons (cBin pIx (cVar 0) (cK (.int 1))) (cCons (cBin pSub (cVar 1) (cK (.int 1))) cNil))) (cCall (ix 23) 2 [] (cCons (cBin pIx (cVar 0) (cK (.int 2))) (cCons (cBin pSub (cVar 1) (cK (.int 1))) cNil)))))
  cSkip) cSkip)
  (cSeq (cIfS (cTru (cCall (ix 5) 3 [] (cCons (cVar 0) (cCons (cK (.str "record")) (cCons (cK (.int 2)) cNil))))) (cSeq (cRet (cCall (ix 21) 2 [] (cCons (cBin pIx (cVar 0) (cK (.int 1))) (cCons (cBin pSub (cVar 1) (cK (.int 1))) cNil))))
  cSkip) cSkip)
  (cSeq (cRet (cAndV (cCall (ix 5) 3 [] (cCons (cVar 0) (cCons (cK (.str "graph")) (cCons (cK (.int 2)) cNil)))) (cCall (ix 22) 2 [] (cCons (cBin pIx (cVar 0) (cK (.int 1))) (cCons (cBin pSub (cVar 1) (cK (.int 1))) cNil)))))
  cSkip)))))
class At_right_within (rs : List Rd') (ix : Nat → Nat) : Prop where
  h : rs[ix 23]? = some ⟨r_right_within ix, 2, 0⟩
/- 24 value_right(thing): names thing -/
def r_value_right (ix : Nat → Nat) : ES := (cSeq (cRet (cAndV (cCall (ix 23) 2 [] (cCons (cVar 0) (cCons (cK (.int 60)) cNil))) (cBin pLe (cCall (ix 26) 1 [] (cCons (cVar 0) cNil)) (cK (.int 2000)))))
  cSkip)
class At_value_right (rs : List Rd') (ix : Nat → Nat) : Prop where
  h : rs[ix 24]? = some ⟨r_value_right ix, 1, 0⟩
/- 25 need_value(value): names value -/
def r_need_value (ix : Nat → Nat) : ES := (cSeq (cIfS (cNotT (cTru (cCall (ix 24) 1 [] (cCons (cVar 0) cNil)))) (cSeq cNever
  cSkip) cSkip)
  cSkip)
class At_need_value (rs : List Rd') (ix : Nat → Nat) : Prop where
  h : rs[ix 25]? = some ⟨r_need_value ix, 1, 0⟩
/- 26 nodes(value): names value, before, behind, label, part -/
def r_nodes_c1 (ix : Nat → Nat) : EE := (cLc false (.tup [(.nm 1), (.nm 2)]) [1, 2] cYes (cBin (pAdd false) (cCall (ix 26) 1 [] (cCons (cVar 1) cNil)) (cCall (ix 26) 1 [] (cCons (cVar 2) cNil))) (cSrc (cBin pIx (cVar 0) (cK (.int 1)))))
def r_nodes_c2 (ix : Nat → Nat) : EE := (cLc false (.tup [(.nm 3), (.nm 4)]) [3, 4] cYes (cCall (ix 26) 1 [] (cCons (cVar 4) cNil)) (cSrc (cBin pIx (cVar 0) (cK (.int 1)))))
def r_nodes (ix : Nat → Nat) : ES := (cSeq (cIfS (cOrT (cB (cBin (pIs false) (cVar 0) (cK (.non)))) (cTru (cCall (ix 4) 1 [] (cCons (cVar 0) cNil)))) (cSeq (cRet (cK (.int 1)))
  cSkip) cSkip)
  (cSeq (cIfS (cB (cBin (pEq false) (cBin pIx (cVar 0) (cK (.int 0))) (cK (.str "pair")))) (cSeq (cRet (cBin (pAdd false) (cBin (pAdd false) (cK (.int 1)) (cCall (ix 26) 1 [] (cCons (cBin pIx (cVar 0) (cK (.int 1))) cNil))) (cCall (ix 26) 1 [] (cCons (cBin pIx (cVar 0) (cK (.int 2))) cNil))))
  cSkip) cSkip)
  (cSeq (cIfS (cB (cBin (pEq false) (cBin pIx (cVar 0) (cK (.int 0))) (cK (.str "record")))) (cSeq (cRet (cBin (pAdd false) (cK (.int 1)) (cPrim pSum (cCons (r_nodes_c2 ix) cNil))))
  cSkip) cSkip)
  (cSeq (cRet (cBin (pAdd false) (cK (.int 1)) (cPrim pSum (cCons (r_nodes_c1 ix) cNil))))
  cSkip))))
class At_nodes (rs : List Rd') (ix : Nat → Nat) : Prop where
  h : rs[ix 26]? = some ⟨r_nodes ix, 5, 0⟩
/- 27 kind_told(value): names value -/
def r_kind_told (ix : Nat → Nat) : ES := (cSeq (cIfS (cTru (cCall (ix 0) 1 [] (cCons (cVar 0) cNil))) (cSeq (cRet (cK (.str "number")))
  cSkip) cSkip)
  (cSeq (cRet (cIf (cTru (cPrim pIsi (cCons (cVar 0) (cCons (cK (.ty "str")) cNil)))) (cK (.str "name")) (cBin pIx (cVar 0) (cK (.int 0)))))
  cSkip))
class At_kind_told (rs : List Rd') (ix : Nat → Nat) : Prop where
  h : rs[ix 27]? = some ⟨r_kind_told ix, 1, 0⟩
/- 28 parted(total, count): names total, count, found, first, rest -/
def r_parted_c1 (ix : Nat → Nat) : EE := (cLc false (.nm 4) [4] cYes (cPrim pTup (cCons (cVar 3) (cStar (cVar 4) cNil))) (cSrc (cCall (ix 28) 2 [] (cCons (cBin pSub (cVar 0) (cVar 3)) (cCons (cBin pSub (cVar 1) (cK (.int 1))) cNil)))))
def r_parted_b1 (ix : Nat → Nat) : ES := (cSeq (cAsg (.nm 2) (cBin (pAdd false) (cVar 2) (r_parted_c1 ix)))
  cSkip)
def r_parted (ix : Nat → Nat) : ES := (cSeq (cIfS (cB (cBin (pEq false) (cVar 1) (cK (.int 0)))) (cSeq (cRet (cIf (cB (cBin (pEq false) (cVar 0) (cK (.int 0)))) (cPrim (pLst false) (cCons (cPrim pTup cNil) cNil)) (cPrim (pLst false) cNil)))
  cSkip) cSkip)
  (cSeq (cAsg (.nm 2) (cPrim (pLst false) cNil))
  (cSeq (cFor (.nm 3) (cRange2 (cCons (cK (.int 1)) (cCons (cBin (pAdd false) (cBin pSub (cVar 0) (cVar 1)) (cK (.int 2))) cNil))) (r_parted_b1 ix))
  (cSeq (cRet (cVar 2))
  cSkip))))
class At_parted (rs : List Rd') (ix : Nat → Nat) : Prop where
  h : rs[ix 28]? = some ⟨r_parted ix, 5, 0⟩
/- 29 chosen_from(lots): names lots, found, lot, told, item -/
def r_chosen_from_c1 (ix : Nat → Nat) : EE := (cLc2 false (.nm 3) [3, 4] cYes (cSrc (cVar 2)) (.nm 4) [4] cYes (cPrim pTup (cStar (cVar 3) (cCons (cVar 4) cNil))) (cSrcN 1))
def r_chosen_from_b1 (ix : Nat → Nat) : ES := (cSeq (cAsg (.nm 1) (r_chosen_from_c1 ix))
  (cSeq (cIfS (cB (cBin pGt (cPrim pLen (cCons (cVar 1) cNil)) (cK (.int 20000)))) (cSeq cNever
  cSkip) cSkip)
  cSkip))
def r_chosen_from (ix : Nat → Nat) : ES := (cSeq (cAsg (.nm 1) (cPrim (pLst false) (cCons (cPrim pTup cNil) cNil)))
  (cSeq (cFor (.nm 2) (cSrc (cVar 0)) (r_chosen_from_b1 ix))
  (cSeq (cRet (cVar 1))
  cSkip)))
class At_chosen_from (rs : List Rd') (ix : Nat → Nat) : Prop where
  h : rs[ix 29]? = some ⟨r_chosen_from ix, 5, 0⟩
/- 30 lots_of(several, count): names several, count, found, spot, item, told -/
def r_lots_of_c1 (ix : Nat → Nat) : EE := (cLc false (.nm 5) [5] (cB (cBin (pEq false) (cPrim pLen (cCons (cVar 5) cNil)) (cVar 1))) (cVar 5) (cSrcN 2))
def r_lots_of_c2 (ix : Nat → Nat) : EE := (cLc false (.nm 5) [5] (cB (cBin pLt (cPrim pLen (cCons (cVar 5) cNil)) (cVar 1))) (cPrim pTup (cStar (cVar 5) (cCons (cVar 4) cNil))) (cSrcN 2))
def r_lots_of_b1 (ix : Nat → Nat) : ES := (cSeq (cAsg (.nm 2) (cBin (pAdd false) (cVar 2) (r_lots_of_c2 ix)))
  cSkip)
def r_lots_of (ix : Nat → Nat) : ES := (cSeq (cAsg (.nm 2) (cPrim (pLst false) (cCons (cPrim pTup cNil) cNil)))
  (cSeq (cFor (.tup [(.nm 3), (.nm 4)]) (cEnum (cCons (cVar 0) cNil)) (r_lots_of_b1 ix))
  (cSeq (cRet (r_lots_of_c1 ix))
  cSkip)))
class At_lots_of (rs : List Rd') (ix : Nat → Nat) : Prop where
  h : rs[ix 30]? = some ⟨r_lots_of ix, 6, 0⟩
/- 31 records_at(known, labels, size): names known, labels, size, found, count, chosen, sizes, parts, number -/
def r_records_at_c1 (ix : Nat → Nat) : EE := (cLc false (.nm 8) [8] cYes (cBin pIx (cVar 0) (cVar 8)) (cSrcN 6))
def r_records_at_b1 (ix : Nat → Nat) : ES := (cSeq (cExp (cMeth pAppend (cVar 3) (cCons (cPrim pTup (cCons (cK (.str "record")) (cCons (cPrim pTupZip (cCons (cVar 5) (cCons (cVar 7) cNil))) cNil))) cNil)))
  cSkip)
def r_records_at_b2 (ix : Nat → Nat) : ES := (cSeq (cFor (.nm 7) (cSrc (cCall (ix 29) 1 [] (cCons (r_records_at_c1 ix) cNil))) (r_records_at_b1 ix))
  cSkip)
def r_records_at_b3 (ix : Nat → Nat) : ES := (cSeq (cFor (.nm 6) (cSrc (cCall (ix 28) 2 [] (cCons (cBin pSub (cVar 2) (cK (.int 1))) (cCons (cVar 4) cNil)))) (r_records_at_b2 ix))
  cSkip)
def r_records_at_b4 (ix : Nat → Nat) : ES := (cSeq (cFor (.nm 5) (cSrc (cCall (ix 30) 2 [] (cCons (cVar 1) (cCons (cVar 4) cNil)))) (r_records_at_b3 ix))
  cSkip)
def r_records_at (ix : Nat → Nat) : ES := (cSeq (cAsg (.nm 3) (cPrim (pLst true) cNil))
  (cSeq (cFor (.nm 4) (cRange1 (cCons (cBin (pAdd false) (cPrim pLen (cCons (cVar 1) cNil)) (cK (.int 1))) cNil)) (r_records_at_b4 ix))
  (cSeq (cRet (cVar 3))
  cSkip)))
class At_records_at (rs : List Rd') (ix : Nat → Nat) : Prop where
  h : rs[ix 31]? = some ⟨r_records_at ix, 9, 0⟩
/- 32 pairs_at(known, size): names known, size, found, first, second, one, other -/
def r_pairs_at_c1 (ix : Nat → Nat) : EE := (cLc false (.tup [(.nm 5), (.nm 6)]) [5, 6] cYes (cPrim pTup (cCons (cK (.str "pair")) (cCons (cVar 5) (cCons (cVar 6) cNil)))) (cSrc (cCall (ix 29) 1 [] (cCons (cPrim (pLst false) (cCons (cBin pIx (cVar 0) (cVar 3)) (cCons (cBin pIx (cVar 0) (cVar 4)) cNil))) cNil))))
def r_pairs_at_b1 (ix : Nat → Nat) : ES := (cSeq (cAsg (.nm 2) (cBin (pAdd false) (cVar 2) (r_pairs_at_c1 ix)))
  cSkip)
def r_pairs_at (ix : Nat → Nat) : ES := (cSeq (cAsg (.nm 2) (cPrim (pLst false) cNil))
  (cSeq (cFor (.tup [(.nm 3), (.nm 4)]) (cSrc (cCall (ix 28) 2 [] (cCons (cBin pSub (cVar 1) (cK (.int 1))) (cCons (cK (.int 2)) cNil)))) (r_pairs_at_b1 ix))
  (cSeq (cRet (cVar 2))
  cSkip)))
class At_pairs_at (rs : List Rd') (ix : Nat → Nat) : Prop where
  h : rs[ix 32]? = some ⟨r_pairs_at ix, 7, 0⟩
/- 33 graphs_at(known, size): names known, size, told, total, lines, pair, first, second, outputs, held, pairs -/
def r_graphs_at_c1 (ix : Nat → Nat) : EE := (cLc false (.tup [(.nm 9), (.nm 10)]) [9, 10] (cB (cBin (pEq false) (cVar 9) (cVar 1))) (cPrim pTup (cCons (cK (.str "graph")) (cCons (cVar 10) cNil))) (cSrcN 4))
def r_graphs_at_c2 (ix : Nat → Nat) : EE := (cLc false (.tup [(.nm 9), (.nm 10)]) [9, 10] (cB (cBin pLe (cBin (pAdd false) (cVar 9) (cVar 3)) (cVar 1))) (cPrim pTup (cCons (cBin (pAdd false) (cVar 9) (cVar 3)) (cCons (cPrim pTup (cStar (cVar 10) (cCons (cVar 5) cNil))) cNil))) (cSrcN 4))
def r_graphs_at_b1 (ix : Nat → Nat) : ES := (cSeq (cAsg (.nm 4) (cBin (pAdd false) (cVar 4) (r_graphs_at_c2 ix)))
  (cSeq (cIfS (cB (cBin pGt (cPrim pLen (cCons (cVar 4) cNil)) (cK (.int 20000)))) (cSeq cNever
  cSkip) cSkip)
  cSkip))
def r_graphs_at_c3 (ix : Nat → Nat) : EE := (cLc false (.nm 5) [5] cYes (cPrim pTup (cCons (cVar 3) (cCons (cVar 5) cNil))) (cSrc (cCall (ix 29) 1 [] (cCons (cPrim (pLst false) (cCons (cBin pIx (cVar 0) (cVar 6)) (cCons (cVar 8) cNil))) cNil))))
def r_graphs_at_b2 (ix : Nat → Nat) : ES := (cSeq (cAsg (.nm 8) (cPrim (pLst false) (cStar (cIf (cB (cBin (pEq false) (cVar 7) (cK (.int 1)))) (cPrim (pLst false) (cCons (cK (.non)) cNil)) (cPrim (pLst false) cNil)) (cStar (cBin pIx (cVar 0) (cVar 7)) cNil))))
  (cSeq (cAsg (.nm 2) (cBin (pAdd false) (cVar 2) (r_graphs_at_c3 ix)))
  cSkip))
def r_graphs_at_b3 (ix : Nat → Nat) : ES := (cSeq (cFor (.tup [(.nm 6), (.nm 7)]) (cSrc (cCall (ix 28) 2 [] (cCons (cVar 3) (cCons (cK (.int 2)) cNil)))) (r_graphs_at_b2 ix))
  cSkip)
def r_graphs_at (ix : Nat → Nat) : ES := (cSeq (cAsg (.nm 2) (cPrim (pLst false) cNil))
  (cSeq (cFor (.nm 3) (cRange2 (cCons (cK (.int 2)) (cCons (cVar 1) cNil))) (r_graphs_at_b3 ix))
  (cSeq (cAsg (.nm 4) (cPrim (pLst false) (cCons (cPrim pTup (cCons (cK (.int 1)) (cCons (cPrim pTup cNil) cNil))) cNil)))
  (cSeq (cFor (.tup [(.nm 3), (.nm 5)]) (cSrc (cVar 2)) (r_graphs_at_b1 ix))
  (cSeq (cRet (r_graphs_at_c1 ix))
  cSkip)))))
class At_graphs_at (rs : List Rd') (ix : Nat → Nat) : Prop where
  h : rs[ix 33]? = some ⟨r_graphs_at ix, 11, 0⟩
/- 34 world(constants, labels, size): names constants, labels, size, number, known, found, spot, item, label -/
def r_world_b1 (ix : Nat → Nat) : ES := (cSeq (cSet (cVar 4) (cVar 3) (cIf (cB (cBin (pEq false) (cVar 3) (cK (.int 1)))) (cPrim (pLstOf false) (cCons (cVar 0) cNil)) (cCall (ix 32) 2 [] (cCons (cVar 4) (cCons (cVar 3) cNil)))))
  (cSeq (cSet (cVar 4) (cVar 3) (cBin (pAdd false) (cBin (pAdd false) (cBin pIx (cVar 4) (cVar 3)) (cCall (ix 31) 3 [] (cCons (cVar 4) (cCons (cVar 1) (cCons (cVar 3) cNil))))) (cCall (ix 33) 2 [] (cCons (cVar 4) (cCons (cVar 3) cNil)))))
  (cSeq (cAsg (.nm 5) (cBin (pAdd false) (cVar 5) (cBin pIx (cVar 4) (cVar 3))))
  (cSeq (cIfS (cB (cBin pGt (cPrim pLen (cCons (cVar 5) cNil)) (cK (.int 20000)))) (cSeq cNever
  cSkip) cSkip)
  cSkip))))
def r_world_c1 (ix : Nat → Nat) : EE := (cLc false (.nm 8) [8] cYes (cCall (ix 3) 1 [] (cCons (cVar 8) cNil)) (cSrcN 1))
def r_world_c2 (ix : Nat → Nat) : EE := (cLc false (.nm 6) [6] cYes (cBin (pIn true) (cBin pIx (cVar 0) (cVar 6)) (cSl false (cVar 0) cNoPart (cPart (cVar 6)))) (cRange1 (cCons (cPrim pLen (cCons (cVar 0) cNil)) cNil)))
def r_world_c3 (ix : Nat → Nat) : EE := (cLc false (.nm 7) [7] cYes (cCall (ix 4) 1 [] (cCons (cVar 7) cNil)) (cSrcN 0))
def r_world (ix : Nat → Nat) : ES := (cSeq (cIfS (cOrT (cNotT (cTru (cCall (ix 2) 1 [] (cCons (cVar 0) cNil)))) (cNotT (cTru (cPrim (pAll false) (cCons (r_world_c3 ix) cNil))))) (cSeq cNever
  cSkip) cSkip)
  (cSeq (cIfS (cNotT (cTru (cPrim (pAll false) (cCons (r_world_c2 ix) cNil)))) (cSeq cNever
  cSkip) cSkip)
  (cSeq (cIfS (cOrT (cNotT (cTru (cCall (ix 2) 1 [] (cCons (cVar 1) cNil)))) (cOrT (cNotT (cTru (cPrim (pAll false) (cCons (r_world_c1 ix) cNil)))) (cNotT (cTru (cCall (ix 6) 1 [] (cCons (cVar 1) cNil)))))) (cSeq cNever
  cSkip) cSkip)
  (cSeq (cIfS (cNotT (cTru (cCall (ix 1) 3 [] (cCons (cVar 2) (cCons (cK (.int 0)) (cCons (cK (.int 60)) cNil)))))) (cSeq cNever
  cSkip) cSkip)
  (cSeq (cPar [4, 5] (cCons (fun _ _ S => mkD true [] S) (cCons (cPrim (pLst false) cNil) cNil)))
  (cSeq (cFor (.nm 3) (cRange2 (cCons (cK (.int 1)) (cCons (cBin (pAdd false) (cVar 2) (cK (.int 1))) cNil))) (r_world_b1 ix))
  (cSeq (cRet (cVar 5))
  cSkip)))))))
class At_world (rs : List Rd') (ix : Nat → Nat) : Prop where
  h : rs[ix 34]? = some ⟨r_world ix, 9, 0⟩
/- 35 constant_of(value, told): names value, told, low, high -/
def r_constant_of (ix : Nat → Nat) : ES := (cSeq (cIfS (cB (cBin (pEq false) (cBin pIx (cVar 1) (cK (.int 0))) (cK (.str "is")))) (cSeq (cRet (cAndV (cCall (ix 4) 1 [] (cCons (cVar 0) cNil)) (cBin (pEq false) (cVar 0) (cBin pIx (cVar 1) (cK (.int 1))))))
  cSkip) cSkip)
  (cSeq (cIfS (cB (cBin (pEq false) (cBin pIx (cVar 1) (cK (.int 0))) (cK (.str "names")))) (cSeq (cRet (cPrim pIsi (cCons (cVar 0) (cCons (cK (.ty "str")) cNil))))
  cSkip) cSkip)
  (cSeq (cPar [2, 3] (cCons (cBin pIx (cVar 1) (cK (.int 1))) (cCons (cBin pIx (cVar 1) (cK (.int 2))) cNil)))
  (cSeq (cRet (cAndV (cCall (ix 0) 1 [] (cCons (cVar 0) cNil)) (cAndV (cOrV (cBin (pIs false) (cVar 2) (cK (.non))) (cBin pLe (cVar 2) (cVar 0))) (cOrV (cBin (pIs false) (cVar 3) (cK (.non))) (cBin pLe (cVar 0) (cVar 3))))))
  cSkip))))
class At_constant_of (rs : List Rd') (ix : Nat → Nat) : Prop where
  h : rs[ix 35]? = some ⟨r_constant_of ix, 4, 0⟩
/- 36 record_of(book, value, told): names book, value, told, held, labels, label, part, must -/
def r_record_of_b1 (ix : Nat → Nat) : ES := (cSeq (cIfS (cB (cBin (pIn false) (cVar 5) (cVar 3))) (cSeq (cIfS (cNotT (cTru (cCall (ix 38) 3 [] (cCons (cVar 0) (cCons (cBin pIx (cVar 3) (cVar 5)) (cCons (cVar 6) cNil)))))) (cSeq (cRet (cK (.bl false)))
  cSkip) cSkip)
  cSkip) (cSeq (cIfS (cTru (cVar 7)) (cSeq (cRet (cK (.bl false)))
  cSkip) cSkip)
  cSkip))
  cSkip)
def r_record_of_c1 (ix : Nat → Nat) : EE := (cLc false (.nm 5) [5] cYes (cBin (pIn true) (cVar 5) (cVar 4)) (cSrcN 3))
def r_record_of_c2 (ix : Nat → Nat) : EE := (cLc false (.tup [(.nm 5), (.nm 6), (.nm 7)]) [5, 6, 7] cYes (cVar 5) (cSrc (cBin pIx (cVar 2) (cK (.int 1)))))
def r_record_of (ix : Nat → Nat) : ES := (cSeq (cIfS (cB (cBin (pEq true) (cCall (ix 27) 1 [] (cCons (cVar 1) cNil)) (cK (.str "record")))) (cSeq (cRet (cK (.bl false)))
  cSkip) cSkip)
  (cSeq (cAsg (.tup [(.nm 3), (.nm 4)]) (cPrim pTup (cCons (cPrim (pDict false) (cCons (cBin pIx (cVar 1) (cK (.int 1))) cNil)) (cCons (r_record_of_c2 ix) cNil))))
  (cSeq (cIfS (cAndT (cNotT (cTru (cBin pIx (cVar 2) (cK (.int 2))))) (cTru (cPrim (pAll true) (cCons (r_record_of_c1 ix) cNil)))) (cSeq (cRet (cK (.bl false)))
  cSkip) cSkip)
  (cSeq (cFor (.tup [(.nm 5), (.nm 6), (.nm 7)]) (cSrc (cBin pIx (cVar 2) (cK (.int 1)))) (r_record_of_b1 ix))
  (cSeq (cRet (cK (.bl true)))
  cSkip)))))
class At_record_of (rs : List Rd') (ix : Nat → Nat) : Prop where
  h : rs[ix 36]? = some ⟨r_record_of ix, 8, 0⟩
/- 37 graph_of(book, value, told): names book, value, told, before, behind -/
def r_graph_of_b1 (ix : Nat → Nat) : ES := (cSeq (cIfS (cAndT (cTru (cCall (ix 38) 3 [] (cCons (cVar 0) (cCons (cVar 3) (cCons (cBin pIx (cVar 2) (cK (.int 1))) cNil))))) (cOrT (cB (cBin (pIs false) (cVar 4) (cK (.non)))) (cNotT (cTru (cCall (ix 38) 3 [] (cCons (cVar 0) (cCons (cVar 4) (cCons (cBin pIx (cVar 2) (cK (.int 2))) cNil)))))))) (cSeq (cRet (cK (.bl false)))
  cSkip) cSkip)
  cSkip)
def r_graph_of (ix : Nat → Nat) : ES := (cSeq (cIfS (cB (cBin (pEq true) (cCall (ix 27) 1 [] (cCons (cVar 1) cNil)) (cK (.str "graph")))) (cSeq (cRet (cK (.bl false)))
  cSkip) cSkip)
  (cSeq (cFor (.tup [(.nm 3), (.nm 4)]) (cSrc (cBin pIx (cVar 1) (cK (.int 1)))) (r_graph_of_b1 ix))
  (cSeq (cRet (cK (.bl true)))
  cSkip)))
class At_graph_of (rs : List Rd') (ix : Nat → Nat) : Prop where
  h : rs[ix 37]? = some ⟨r_graph_of ix, 5, 0⟩
/- 38 of(book, value, told): names book, value, told, word -/
def r_of (ix : Nat → Nat) : ES := (cSeq (cAsg (.nm 3) (cBin pIx (cVar 2) (cK (.int 0))))
  (cSeq (cIfS (cB (cBin (pIn false) (cVar 3) (cPrim pTup (cCons (cK (.str "any")) (cCons (cK (.str "none")) cNil))))) (cSeq (cRet (cBin (pEq false) (cVar 3) (cK (.str "any"))))
  cSkip) cSkip)
  (cSeq (cIfS (cB (cBin (pEq false) (cVar 3) (cK (.str "the")))) (cSeq (cRet (cCall (ix 38) 3 [] (cCons (cVar 0) (cCons (cVar 1) (cCons (cBin pIx (cVar 0) (cBin pIx (cVar 2) (cK (.int 1)))) cNil)))))
  cSkip) cSkip)
  (cSeq (cIfS (cB (cBin (pEq false) (cVar 3) (cK (.str "not")))) (cSeq (cRet (cNotV (cCall (ix 38) 3 [] (cCons (cVar 0) (cCons (cVar 1) (cCons (cBin pIx (cVar 2) (cK (.int 1))) cNil))))))
  cSkip) cSkip)
  (cSeq (cIfS (cB (cBin (pEq false) (cVar 3) (cK (.str "or")))) (cSeq (cRet (cOrV (cCall (ix 38) 3 [] (cCons (cVar 0) (cCons (cVar 1) (cCons (cBin pIx (cVar 2) (cK (.int 1))) cNil)))) (cCall (ix 38) 3 [] (cCons (cVar 0) (cCons (cVar 1) (cCons (cBin pIx (cVar 2) (cK (.int 2))) cNil))))))
  cSkip) cSkip)
  (cSeq (cIfS (cB (cBin (pEq false) (cVar 3) (cK (.str "and")))) (cSeq (cRet (cAndV (cCall (ix 38) 3 [] (cCons (cVar 0) (cCons (cVar 1) (cCons (cBin pIx (cVar 2) (cK (.int 1))) cNil)))) (cCall (ix 38) 3 [] (cCons (cVar 0) (cCons (cVar 1) (cCons (cBin pIx (cVar 2) (cK (.int 2))) cNil))))))
  cSkip) cSkip)
  (cSeq (cIfS (cB (cBin (pEq false) (cVar 3) (cK (.str "pair")))) (cSeq (cRet (cAndV (cBin (pEq false) (cCall (ix 27) 1 [] (cCons (cVar 1) cNil)) (cK (.str "pair"))) (cAndV (cCall (ix 38) 3 [] (cCons (cVar 0) (cCons (cBin pIx (cVar 1) (cK (.int 1))) (cCons (cBin pIx (cVar 2) (cK (.int 1))) cNil)))) (cCall (ix 38) 3 [] (cCons (cVar 0) (cCons (cBin pIx (cVar 1) (cK (.int 2))) (cCons (cBin pIx (cVar 2) (cK (.int 2))) cNil)))))))
  cSkip) cSkip)
  (cSeq (cIfS (cB (cBin (pEq false) (cVar 3) (cK (.str "record")))) (cSeq (cRet (cCall (ix 36) 3 [] (cCons (cVar 0) (cCons (cVar 1) (cCons (cVar 2) cNil)))))
  cSkip) cSkip)
  (cSeq (cRet (cIf (cB (cBin (pEq false) (cVar 3) (cK (.str "fun")))) (cCall (ix 37) 3 [] (cCons (cVar 0) (cCons (cVar 1) (cCons (cVar 2) cNil)))) (cCall (ix 35) 2 [] (cCons (cVar 1) (cCons (cVar 2) cNil)))))
  cSkip)))))))))
class At_of (rs : List Rd') (ix : Nat → Nat) : Prop where
  h : rs[ix 38]? = some ⟨r_of ix, 4, 0⟩
/- 39 is_of(book, value, told): names book, value, told -/
def r_is_of (ix : Nat → Nat) : ES := (cSeq (cExp (cCall (ix 17) 1 [] (cCons (cVar 0) cNil)))
  (cSeq (cExp (cCall (ix 25) 1 [] (cCons (cVar 1) cNil)))
  (cSeq (cExp (cCall (ix 18) 2 [] (cCons (cVar 0) (cCons (cVar 2) cNil))))
  (cSeq (cRet (cCall (ix 38) 3 [] (cCons (cVar 0) (cCons (cVar 1) (cCons (cVar 2) cNil)))))
  cSkip))))
class At_is_of (rs : List Rd') (ix : Nat → Nat) : Prop where
  h : rs[ix 39]? = some ⟨r_is_of ix, 3, 0⟩
/- 40 members(book, values, told): names book, values, told, value -/
def r_members_c1 (ix : Nat → Nat) : EE := (cLc false (.nm 3) [3] (cTru (cCall (ix 38) 3 [] (cCons (cVar 0) (cCons (cVar 3) (cCons (cVar 2) cNil))))) (cVar 3) (cSrcN 1))
def r_members_c2 (ix : Nat → Nat) : EE := (cLc false (.nm 3) [3] cYes (cCall (ix 24) 1 [] (cCons (cVar 3) cNil)) (cSrcN 1))
def r_members (ix : Nat → Nat) : ES := (cSeq (cExp (cCall (ix 17) 1 [] (cCons (cVar 0) cNil)))
  (cSeq (cIfS (cOrT (cNotT (cTru (cCall (ix 2) 1 [] (cCons (cVar 1) cNil)))) (cNotT (cTru (cPrim (pAll false) (cCons (r_members_c2 ix) cNil))))) (cSeq cNever
  cSkip) cSkip)
  (cSeq (cExp (cCall (ix 18) 2 [] (cCons (cVar 0) (cCons (cVar 2) cNil))))
  (cSeq (cRet (r_members_c1 ix))
  cSkip))))
class At_members (rs : List Rd') (ix : Nat → Nat) : Prop where
  h : rs[ix 40]? = some ⟨r_members ix, 4, 0⟩
/- 41 _law_begun(_law_script): names _law_script, _law_cells_here, _law_large, _law_cell -/
def r__law_begun_c1 (ix : Nat → Nat) : EE := (cLc true (.nm 3) [3] (cB (cBin pGe (cVar 3) (cBin pPow (cK (.int 10)) (cK (.int 18))))) (cBin pSub (cVar 3) (cBin pPow (cK (.int 10)) (cK (.int 18)))) (cSrcN 1))
def r__law_begun_c2 (ix : Nat → Nat) : EE := (cLc false (.nm 3) [3] cYes (cPrim pAbs (cCons (cVar 3) cNil)) (cSrcN 0))
def r__law_begun (ix : Nat → Nat) : ES := (cSeq (cAsg (.nm 1) (r__law_begun_c2 ix))
  (cSeq (cAsg (.nm 2) (r__law_begun_c1 ix))
  (cSeq (cRet (cDic true (cPCons (cK (.str "large")) (cVar 2) (cPCons (cK (.str "cells")) (cVar 1) (cPCons (cK (.str "left")) (cK (.int 0)) (cPCons (cK (.str "turn")) (cK (.int 0)) cPNil))))))
  cSkip)))
class At__law_begun (rs : List Rd') (ix : Nat → Nat) : Prop where
  h : rs[ix 41]? = some ⟨r__law_begun ix, 4, 2⟩
/- 42 _law_draw(_law_state, _law_size_here): names _law_state, _law_size_here, _law_turn, _law_cell, _law_mixed_here, _law_found -/
def r__law_draw_b1 (ix : Nat → Nat) : ES := (cSeq (cSet (cVar 0) (cK (.str "left")) (cMeth pPopAt (cBin pIx (cVar 0) (cK (.str "large"))) (cCons (cK (.int 0)) cNil)))
  cSkip)
def r__law_draw (ix : Nat → Nat) : ES := (cSeq (cWhile 100000 (cAndT (cB (cBin (pEq false) (cBin pIx (cVar 0) (cK (.str "left"))) (cK (.int 0)))) (cB (cBin (pEq true) (cBin pIx (cVar 0) (cK (.str "large"))) (cPrim (pLst false) cNil)))) (r__law_draw_b1 ix))
  (cSeq (cIfS (cB (cBin pGt (cBin pIx (cVar 0) (cK (.str "left"))) (cK (.int 0)))) (cSeq (cAsg (.nm 5) (cBin pMod (cPrim pInt (cCons (cBin pIx (cVar 0) (cK (.str "left"))) cNil)) (cVar 1)))
  (cSeq (cSet (cVar 0) (cK (.str "left")) (cBin pFdiv (cBin pIx (cVar 0) (cK (.str "left"))) (cVar 1)))
  (cSeq (cRet (cVar 5))
  cSkip))) cSkip)
  (cSeq (cAsg (.nm 2) (cBin (pAdd false) (cBin pIx (cVar 0) (cK (.str "turn"))) (cK (.int 1))))
  (cSeq (cSet (cVar 0) (cK (.str "turn")) (cVar 2))
  (cSeq (cAsg (.nm 3) (cIf (cB (cBin (pEq true) (cBin pIx (cVar 0) (cK (.str "cells"))) (cPrim (pLst false) cNil))) (cBin pIx (cBin pIx (cVar 0) (cK (.str "cells"))) (cBin pMod (cPrim pInt (cCons (cVar 2) cNil)) (cPrim pLen (cCons (cBin pIx (cVar 0) (cK (.str "cells"))) cNil)))) (cK (.int 0))))
  (cSeq (cAsg (.nm 4) (cBin pMod (cPrim pInt (cCons (cBin pPow (cBin (pAdd false) (cBin (pAdd false) (cBin pMod (cPrim pInt (cCons (cVar 3) cNil)) (cK (.int 2147483563))) (cBin (pMul false) (cK (.int 40692)) (cVar 2))) (cK (.int 24681))) (cK (.int 3))) cNil)) (cK (.int 2147483629))))
  (cSeq (cRet (cBin pMod (cPrim pInt (cCons (cBin pFdiv (cBin pMod (cPrim pInt (cCons (cBin pPow (cBin (pAdd false) (cVar 4) (cBin (pMul false) (cK (.int 104917)) (cVar 2))) (cK (.int 5))) cNil)) (cK (.int 2147483579))) (cK (.int 29))) cNil)) (cVar 1)))
  cSkip)))))))
class At__law_draw (rs : List Rd') (ix : Nat → Nat) : Prop where
  h : rs[ix 42]? = some ⟨r__law_draw ix, 6, 0⟩
/- 43 _law_pick(_law_state, _law_several): names _law_state, _law_several -/
def r__law_pick (ix : Nat → Nat) : ES := (cSeq (cRet (cBin pIx (cVar 1) (cCall (ix 42) 2 [] (cCons (cVar 0) (cCons (cPrim pLen (cCons (cVar 1) cNil)) cNil)))))
  cSkip)
class At__law_pick (rs : List Rd') (ix : Nat → Nat) : Prop where
  h : rs[ix 43]? = some ⟨r__law_pick ix, 2, 0⟩
/- 44 _law_mixed(_law_state, _law_several): names _law_state, _law_several, _law_line, _law_found -/
def r__law_mixed_b1 (ix : Nat → Nat) : ES := (cSeq (cExp (cMeth pAppend (cVar 3) (cCons (cMeth pPopAt (cVar 2) (cCons (cCall (ix 42) 2 [] (cCons (cVar 0) (cCons (cPrim pLen (cCons (cVar 2) cNil)) cNil))) cNil)) cNil)))
  cSkip)
def r__law_mixed (ix : Nat → Nat) : ES := (cSeq (cPar [2, 3] (cCons (cPrim (pLstOf true) (cCons (cVar 1) cNil)) (cCons (cPrim (pLst true) cNil) cNil)))
  (cSeq (cWhile 100000 (cB (cBin (pEq true) (cVar 2) (cPrim (pLst false) cNil))) (r__law_mixed_b1 ix))
  (cSeq (cRet (cVar 3))
  cSkip)))
class At__law_mixed (rs : List Rd') (ix : Nat → Nat) : Prop where
  h : rs[ix 44]? = some ⟨r__law_mixed ix, 4, 0⟩
/- 45 _law_constant(_law_state): names _law_state -/
def r__law_constant (ix : Nat → Nat) : ES := (cSeq (cRet (cCall (ix 43) 2 [] (cCons (cVar 0) (cCons (cPrim (pLst false) (cCons (cK (.int 0)) (cCons (cK (.int 1)) (cCons (cK (.int 2)) (cCons (cK (.int 3)) (cCons (cK (.str "a")) (cCons (cK (.str "b")) (cCons (cK (.int 0)) (cCons (cK (.int 1)) (cCons (cK (.str "a")) (cCons (cUn pNeg (cK (.int 1))) (cCons (cK (.int 7)) (cCons (cK (.str "ok")) (cCons (cK (.str "none")) (cCons (cBin pPow (cK (.int 10)) (cK (.int 8))) (cCons (cK (.str "abcdefgh")) cNil)))))))))))))))) cNil))))
  cSkip)
class At__law_constant (rs : List Rd') (ix : Nat → Nat) : Prop where
  h : rs[ix 45]? = some ⟨r__law_constant ix, 1, 0⟩
/- 46 _law_labels(_law_state, _law_most): names _law_state, _law_most -/
def r__law_labels (ix : Nat → Nat) : ES := (cSeq (cRet (cPrim (pSorted false) (cCons (cSl false (cCall (ix 44) 2 [] (cCons (cVar 0) (cCons (cPrim (pLst false) (cCons (cK (.str "a")) (cCons (cK (.str "b")) (cCons (cK (.str "k")) (cCons (cK (.str "z")) cNil))))) cNil))) cNoPart (cPart (cCall (ix 42) 2 [] (cCons (cVar 0) (cCons (cBin (pAdd false) (cVar 1) (cK (.int 1))) cNil))))) cNil)))
  cSkip)
class At__law_labels (rs : List Rd') (ix : Nat → Nat) : Prop where
  h : rs[ix 46]? = some ⟨r__law_labels ix, 2, 0⟩
/- 47 _law_value(_law_state, _law_deep): names _law_state, _law_deep, _law_way, _law_found, _law_lap, _law_pair, _law_label -/
def r__law_value_b1 (ix : Nat → Nat) : ES := (cSeq (cAsg (.nm 5) (cPrim pTup (cCons (cCall (ix 47) 2 [] (cCons (cVar 0) (cCons (cBin pSub (cVar 1) (cK (.int 1))) cNil))) (cCons (cIf (cB (cBin (pEq false) (cCall (ix 42) 2 [] (cCons (cVar 0) (cCons (cK (.int 4)) cNil))) (cK (.int 0)))) (cK (.non)) (cCall (ix 47) 2 [] (cCons (cVar 0) (cCons (cBin pSub (cVar 1) (cK (.int 1))) cNil)))) cNil))))
  (cSeq (cIfS (cB (cBin (pIn true) (cVar 5) (cVar 3))) (cSeq (cExp (cMeth pAppend (cVar 3) (cCons (cVar 5) cNil)))
  cSkip) cSkip)
  cSkip))
def r__law_value_c1 (ix : Nat → Nat) : EE := (cLc false (.nm 6) [6] cYes (cPrim pTup (cCons (cVar 6) (cCons (cCall (ix 47) 2 [] (cCons (cVar 0) (cCons (cBin pSub (cVar 1) (cK (.int 1))) cNil))) cNil))) (cSrc (cCall (ix 46) 2 [] (cCons (cVar 0) (cCons (cK (.int 2)) cNil)))))
def r__law_value (ix : Nat → Nat) : ES := (cSeq (cAsg (.nm 2) (cCall (ix 42) 2 [] (cCons (cVar 0) (cCons (cK (.int 8)) cNil))))
  (cSeq (cIfS (cOrT (cB (cBin pLt (cVar 1) (cK (.int 2)))) (cB (cBin pLt (cVar 2) (cK (.int 3))))) (cSeq (cRet (cCall (ix 45) 1 [] (cCons (cVar 0) cNil)))
  cSkip) cSkip)
  (cSeq (cIfS (cB (cBin pLt (cVar 2) (cK (.int 5)))) (cSeq (cRet (cPrim pTup (cCons (cK (.str "pair")) (cCons (cCall (ix 47) 2 [] (cCons (cVar 0) (cCons (cBin pSub (cVar 1) (cK (.int 1))) cNil))) (cCons (cCall (ix 47) 2 [] (cCons (cVar 0) (cCons (cBin pSub (cVar 1) (cK (.int 1))) cNil))) cNil)))))
  cSkip) cSkip)
  (cSeq (cIfS (cB (cBin (pEq false) (cVar 2) (cK (.int 5)))) (cSeq (cRet (cPrim pTup (cCons (cK (.str "record")) (cCons (cPrim pTupOf (cCons (r__law_value_c1 ix) cNil)) cNil))))
  cSkip) cSkip)
  (cSeq (cAsg (.nm 3) (cPrim (pLst true) cNil))
  (cSeq (cFor (.nm 4) (cRange1 (cCons (cCall (ix 42) 2 [] (cCons (cVar 0) (cCons (cK (.int 3)) cNil))) cNil)) (r__law_value_b1 ix))
  (cSeq (cRet (cPrim pTup (cCons (cK (.str "graph")) (cCons (cPrim pTupOf (cCons (cVar 3) cNil)) cNil))))
  cSkip)))))))
class At__law_value (rs : List Rd') (ix : Nat → Nat) : Prop where
  h : rs[ix 47]? = some ⟨r__law_value ix, 7, 0⟩
/- 48 _law_atom(_law_state, _law_names, _law_deep): names _law_state, _law_names, _law_deep, _law_way, _law_low, _law_some, _law_fields, _law_label -/
def r__law_atom_c1 (ix : Nat → Nat) : EE := (cLc false (.nm 7) [7] cYes (cPrim pTup (cCons (cVar 7) (cCons (cCall (ix 49) 3 [] (cCons (cVar 0) (cCons (cVar 1) (cCons (cBin pSub (cVar 2) (cK (.int 1))) cNil)))) (cCons (cBin pGt (cCall (ix 42) 2 [] (cCons (cVar 0) (cCons (cK (.int 3)) cNil))) (cK (.int 0))) cNil)))) (cSrc (cCall (ix 46) 2 [] (cCons (cVar 0) (cCons (cK (.int 2)) cNil)))))
def r__law_atom (ix : Nat → Nat) : ES := (cSeq (cAsg (.nm 3) (cCall (ix 42) 2 [] (cCons (cVar 0) (cCons (cK (.int 10)) cNil))))
  (cSeq (cIfS (cAndT (cB (cBin (pEq true) (cVar 1) (cPrim (pLst false) cNil))) (cB (cBin (pEq false) (cVar 3) (cK (.int 0))))) (cSeq (cRet (cPrim pTup (cCons (cK (.str "the")) (cCons (cCall (ix 43) 2 [] (cCons (cVar 0) (cCons (cVar 1) cNil))) cNil))))
  cSkip) cSkip)
  (cSeq (cIfS (cOrT (cB (cBin pLt (cVar 2) (cK (.int 2)))) (cB (cBin pLt (cVar 3) (cK (.int 4))))) (cSeq (cAsg (.nm 4) (cBin pSub (cCall (ix 42) 2 [] (cCons (cVar 0) (cCons (cK (.int 5)) cNil))) (cK (.int 1))))
  (cSeq (cAsg (.nm 5) (cPrim (pLst false) (cCons (cPrim pTup (cCons (cK (.str "any")) cNil)) (cCons (cPrim pTup (cCons (cK (.str "none")) cNil)) (cCons (cPrim pTup (cCons (cK (.str "names")) cNil)) (cCons (cPrim pTup (cCons (cK (.str "from")) (cCons (cK (.non)) (cCons (cK (.non)) cNil)))) (cCons (cPrim pTup (cCons (cK (.str "from")) (cCons (cVar 4) (cCons (cBin (pAdd false) (cVar 4) (cCall (ix 42) 2 [] (cCons (cVar 0) (cCons (cK (.int 4)) cNil)))) cNil)))) (cCons (cPrim pTup (cCons (cK (.str "from")) (cCons (cVar 4) (cCons (cK (.non)) cNil)))) (cCons (cPrim pTup (cCons (cK (.str "from")) (cCons (cK (.non)) (cCons (cVar 4) cNil)))) cNil)))))))))
  (cSeq (cRet (cCall (ix 43) 2 [] (cCons (cVar 0) (cCons (cBin (pAdd false) (cVar 5) (cPrim (pLst false) (cCons (cPrim pTup (cCons (cK (.str "is")) (cCons (cCall (ix 45) 1 [] (cCons (cVar 0) cNil)) cNil))) (cCons (cPrim pTup (cCons (cK (.str "is")) (cCons (cCall (ix 45) 1 [] (cCons (cVar 0) cNil)) cNil))) (cCons (cPrim pTup (cCons (cK (.str "is")) (cCons (cCall (ix 45) 1 [] (cCons (cVar 0) cNil)) cNil))) cNil))))) cNil))))
  cSkip))) cSkip)
  (cSeq (cIfS (cB (cBin pLt (cVar 3) (cK (.int 7)))) (cSeq (cRet (cPrim pTup (cCons (cK (.str "pair")) (cCons (cCall (ix 49) 3 [] (cCons (cVar 0) (cCons (cVar 1) (cCons (cBin pSub (cVar 2) (cK (.int 1))) cNil)))) (cCons (cCall (ix 49) 3 [] (cCons (cVar 0) (cCons (cVar 1) (cCons (cBin pSub (cVar 2) (cK (.int 1))) cNil)))) cNil)))))
  cSkip) cSkip)
  (cSeq (cIfS (cB (cBin (pEq false) (cVar 3) (cK (.int 7)))) (cSeq (cAsg (.nm 6) (r__law_atom_c1 ix))
  (cSeq (cRet (cPrim pTup (cCons (cK (.str "record")) (cCons (cPrim pTupOf (cCons (cVar 6) cNil)) (cCons (cBin (pEq false) (cCall (ix 42) 2 [] (cCons (cVar 0) (cCons (cK (.int 2)) cNil))) (cK (.int 0))) cNil)))))
  cSkip)) cSkip)
  (cSeq (cRet (cPrim pTup (cCons (cK (.str "fun")) (cCons (cCall (ix 49) 3 [] (cCons (cVar 0) (cCons (cVar 1) (cCons (cBin pSub (cVar 2) (cK (.int 1))) cNil)))) (cCons (cCall (ix 49) 3 [] (cCons (cVar 0) (cCons (cVar 1) (cCons (cBin pSub (cVar 2) (cK (.int 1))) cNil)))) cNil)))))
  cSkip))))))
class At__law_atom (rs : List Rd') (ix : Nat → Nat) : Prop where
  h : rs[ix 48]? = some ⟨r__law_atom ix, 8, 0⟩
/- 49 _law_type(_law_state, _law_names, _law_deep): names _law_state, _law_names, _law_deep, _law_way -/
def r__law_type (ix : Nat → Nat) : ES := (cSeq (cAsg (.nm 3) (cCall (ix 42) 2 [] (cCons (cVar 0) (cCons (cK (.int 7)) cNil))))
  (cSeq (cIfS (cOrT (cB (cBin pLt (cVar 2) (cK (.int 2)))) (cB (cBin pLt (cVar 3) (cK (.int 3))))) (cSeq (cRet (cCall (ix 48) 3 [] (cCons (cVar 0) (cCons (cVar 1) (cCons (cVar 2) cNil)))))
  cSkip) cSkip)
  (cSeq (cIfS (cB (cBin (pEq false) (cVar 3) (cK (.int 3)))) (cSeq (cRet (cPrim pTup (cCons (cK (.str "not")) (cCons (cCall (ix 49) 3 [] (cCons (cVar 0) (cCons (cVar 1) (cCons (cBin pSub (cVar 2) (cK (.int 1))) cNil)))) cNil))))
  cSkip) cSkip)
  (cSeq (cRet (cPrim pTup (cCons (cCall (ix 43) 2 [] (cCons (cVar 0) (cCons (cPrim (pLst false) (cCons (cK (.str "or")) (cCons (cK (.str "or")) (cCons (cK (.str "and")) cNil)))) cNil))) (cCons (cCall (ix 49) 3 [] (cCons (cVar 0) (cCons (cVar 1) (cCons (cBin pSub (cVar 2) (cK (.int 1))) cNil)))) (cCons (cCall (ix 49) 3 [] (cCons (cVar 0) (cCons (cVar 1) (cCons (cBin pSub (cVar 2) (cK (.int 1))) cNil)))) cNil)))))
  cSkip))))
class At__law_type (rs : List Rd') (ix : Nat → Nat) : Prop where
  h : rs[ix 49]? = some ⟨r__law_type ix, 4, 0⟩
/- 50 _law_book(_law_state): names _law_state, _law_names, _law_found, _law_name, _law_ends, _law_head, _law_round_here, _law_other, _law_way -/
def r__law_book_b1 (ix : Nat → Nat) : ES := (cSeq (cPar [7, 8] (cCons (cCall (ix 43) 2 [] (cCons (cVar 0) (cCons (cVar 1) cNil))) (cCons (cCall (ix 42) 2 [] (cCons (cVar 0) (cCons (cK (.int 4)) cNil))) cNil)))
  (cSeq (cAsg (.nm 4) (cCall (ix 43) 2 [] (cCons (cVar 0) (cCons (cPrim (pLst false) (cCons (cPrim pTup (cCons (cK (.str "is")) (cCons (cK (.str "end")) cNil))) (cCons (cPrim pTup (cCons (cK (.str "from")) (cCons (cK (.int 0)) (cCons (cK (.non)) cNil)))) (cCons (cPrim pTup (cCons (cK (.str "none")) cNil)) (cCons (cPrim pTup (cCons (cK (.str "is")) (cCons (cK (.int 0)) cNil))) (cCons (cPrim pTup (cCons (cK (.str "names")) cNil)) cNil)))))) cNil))))
  (cSeq (cAsg (.nm 5) (cIf (cB (cBin (pEq false) (cCall (ix 42) 2 [] (cCons (cVar 0) (cCons (cK (.int 2)) cNil))) (cK (.int 0)))) (cCall (ix 48) 3 [] (cCons (cVar 0) (cCons (cPrim (pLst false) cNil) (cCons (cK (.int 2)) cNil)))) (cPrim pTup (cCons (cK (.str "the")) (cCons (cCall (ix 43) 2 [] (cCons (cVar 0) (cCons (cVar 1) cNil))) cNil)))))
  (cSeq (cAsg (.nm 6) (cIf (cB (cBin pLt (cVar 8) (cK (.int 2)))) (cPrim pTup (cCons (cK (.str "pair")) (cCons (cVar 5) (cCons (cPrim pTup (cCons (cK (.str "the")) (cCons (cVar 7) cNil))) cNil)))) (cPrim pTup (cCons (cK (.str "fun")) (cCons (cVar 5) (cCons (cPrim pTup (cCons (cK (.str "the")) (cCons (cVar 7) cNil))) cNil))))))
  (cSeq (cIfS (cB (cBin (pEq false) (cVar 8) (cK (.int 3)))) (cSeq (cAsg (.nm 6) (cPrim pTup (cCons (cK (.str "record")) (cCons (cPrim pTup (cCons (cPrim pTup (cCons (cK (.str "a")) (cCons (cPrim pTup (cCons (cK (.str "the")) (cCons (cVar 7) cNil))) (cCons (cBin (pEq false) (cCall (ix 42) 2 [] (cCons (cVar 0) (cCons (cK (.int 2)) cNil))) (cK (.int 0))) cNil)))) cNil)) (cCons (cK (.bl false)) cNil)))))
  cSkip) cSkip)
  (cSeq (cSet (cVar 2) (cVar 3) (cPrim pTup (cCons (cK (.str "or")) (cCons (cVar 4) (cCons (cVar 6) cNil)))))
  cSkip))))))
def r__law_book (ix : Nat → Nat) : ES := (cSeq (cAsg (.nm 1) (cSl false (cCall (ix 44) 2 [] (cCons (cVar 0) (cCons (cPrim (pLst false) (cCons (cK (.str "list")) (cCons (cK (.str "tree")) (cCons (cK (.str "u")) cNil)))) cNil))) cNoPart (cPart (cCall (ix 42) 2 [] (cCons (cVar 0) (cCons (cK (.int 4)) cNil))))))
  (cSeq (cAsg (.nm 2) (fun _ _ S => mkD true [] S))
  (cSeq (cFor (.nm 3) (cSrc (cPrim (pSorted false) (cCons (cVar 1) cNil))) (r__law_book_b1 ix))
  (cSeq (cRet (cVar 2))
  cSkip))))
class At__law_book (rs : List Rd') (ix : Nat → Nat) : Prop where
  h : rs[ix 50]? = some ⟨r__law_book ix, 9, 0⟩
end Ev.Nv

set_option Elab.async false
set_option linter.all false
set_option maxRecDepth 100000
set_option maxHeartbeats 2000000
namespace Ev.K00
open PySem PySem.Spec PyProof.Rows L2 Ev.Nv
theorem rs_of {i : Nat} {d : DefI} {f : ES} (hd : Ds[i]? = some d) (hf : compSs T d.N fuelMost d.scope d.body = some f) : rs[i]? = some ⟨f, d.N.length, d.keep⟩ := by
  obtain ⟨g, h1, h2⟩ := readsOf_at hrs hd
  rw [hf] at h1
  cases h1
  exact h2
def ixL : List (Nat × Nat) := [(41, 0), (42, 1), (43, 2), (53, 3), (54, 4), (55, 5), (56, 6), (57, 7), (58, 8), (59, 9), (60, 10)]
def ix (g : Nat) : Nat := (ixL.lookup g).getD 9999
theorem rd__law_begun : compSs T (Ds[0]'(by decide)).N fuelMost (Ds[0]'(by decide)).scope (Ds[0]'(by decide)).body = some (r__law_begun ix) := by kernel_rfl
theorem rd__law_draw : compSs T (Ds[1]'(by decide)).N fuelMost (Ds[1]'(by decide)).scope (Ds[1]'(by decide)).body = some (r__law_draw ix) := by kernel_rfl
theorem rd__law_pick : compSs T (Ds[2]'(by decide)).N fuelMost (Ds[2]'(by decide)).scope (Ds[2]'(by decide)).body = some (r__law_pick ix) := by kernel_rfl
def r__law_odd (ix : Nat → Nat) : ES := (cSeq (cRet (cCall (ix 43) 2 [] (cCons (cVar 0) (cCons (cPrim (pLst false) (cCons (cK (.non)) (cCons (cK (.bl true)) (cCons (cK (.bl false)) (cCons (cK (.str "")) (cCons (cK (.str "A")) (cCons (cPrim (pLst false) cNil) (cCons (fun _ _ S => mkD false [] S) (cCons (cPrim pTup (cCons (cK (.non)) cNil)) (cCons (cPrim pTup (cCons (cK (.str "a")) (cCons (cK (.int 1)) cNil))) (cCons (cPrim (pLst false) (cCons (cPrim (pLst false) (cCons (cK (.int 0)) cNil)) cNil)) (cCons (cPrim pTup (cCons (cK (.bl true)) cNil)) (cCons (cPrim pTup (cCons (cPrim pTup cNil) cNil)) (cCons (cPrim pTup (cCons (cK (.str "pair")) (cCons (cK (.int 1)) cNil))) (cCons (cK (.str "toolongname")) cNil))))))))))))))) cNil))))
  cSkip)
theorem rd__law_odd : compSs T (Ds[3]'(by decide)).N fuelMost (Ds[3]'(by decide)).scope (Ds[3]'(by decide)).body = some (r__law_odd ix) := by kernel_rfl
def r__law_kinds_a_c1 (ix : Nat → Nat) : EE := (cLc false (.nm 2) [2] (cB (cBin (pEq true) (cVar 2) (cK (.str "")))) (cVar 2) (cSrcN 1))
def r__law_kinds_a (ix : Nat → Nat) : ES := (cSeq (cAsg (.nm 1) (cPrim (pLst true) cNil))
  (cSeq (cExp (cMeth pAppend (cVar 1) (cCons (cIf (cTru (cPrim pIsi (cCons (cVar 0) (cCons (cK (.cls 1)) cNil)))) (cK (.str "BadArrows")) (cK (.str ""))) cNil)))
  (cSeq (cExp (cMeth pAppend (cVar 1) (cCons (cIf (cTru (cPrim pIsi (cCons (cVar 0) (cCons (cK (.cls 2)) cNil)))) (cK (.str "BadBook")) (cK (.str ""))) cNil)))
  (cSeq (cExp (cMeth pAppend (cVar 1) (cCons (cIf (cTru (cPrim pIsi (cCons (cVar 0) (cCons (cK (.cls 3)) cNil)))) (cK (.str "BadChoices")) (cK (.str ""))) cNil)))
  (cSeq (cExp (cMeth pAppend (cVar 1) (cCons (cIf (cTru (cPrim pIsi (cCons (cVar 0) (cCons (cK (.cls 4)) cNil)))) (cK (.str "BadClaim")) (cK (.str ""))) cNil)))
  (cSeq (cExp (cMeth pAppend (cVar 1) (cCons (cIf (cTru (cPrim pIsi (cCons (cVar 0) (cCons (cK (.cls 5)) cNil)))) (cK (.str "BadClosure")) (cK (.str ""))) cNil)))
  (cSeq (cExp (cMeth pAppend (cVar 1) (cCons (cIf (cTru (cPrim pIsi (cCons (cVar 0) (cCons (cK (.cls 6)) cNil)))) (cK (.str "BadCode")) (cK (.str ""))) cNil)))
  (cSeq (cExp (cMeth pAppend (cVar 1) (cCons (cIf (cTru (cPrim pIsi (cCons (cVar 0) (cCons (cK (.cls 7)) cNil)))) (cK (.str "BadConstants")) (cK (.str ""))) cNil)))
  (cSeq (cExp (cMeth pAppend (cVar 1) (cCons (cIf (cTru (cPrim pIsi (cCons (cVar 0) (cCons (cK (.cls 8)) cNil)))) (cK (.str "BadExpression")) (cK (.str ""))) cNil)))
  (cSeq (cExp (cMeth pAppend (cVar 1) (cCons (cIf (cTru (cPrim pIsi (cCons (cVar 0) (cCons (cK (.cls 9)) cNil)))) (cK (.str "BadForm")) (cK (.str ""))) cNil)))
  (cSeq (cExp (cMeth pAppend (cVar 1) (cCons (cIf (cTru (cPrim pIsi (cCons (cVar 0) (cCons (cK (.cls 10)) cNil)))) (cK (.str "BadGiven")) (cK (.str ""))) cNil)))
  (cSeq (cExp (cMeth pAppend (cVar 1) (cCons (cIf (cTru (cPrim pIsi (cCons (cVar 0) (cCons (cK (.cls 11)) cNil)))) (cK (.str "BadInequalities")) (cK (.str ""))) cNil)))
  (cSeq (cExp (cMeth pAppend (cVar 1) (cCons (cIf (cTru (cPrim pIsi (cCons (cVar 0) (cCons (cK (.cls 12)) cNil)))) (cK (.str "BadKey")) (cK (.str ""))) cNil)))
  (cSeq (cExp (cMeth pAppend (cVar 1) (cCons (cIf (cTru (cPrim pIsi (cCons (cVar 0) (cCons (cK (.cls 13)) cNil)))) (cK (.str "BadKind")) (cK (.str ""))) cNil)))
  (cSeq (cExp (cMeth pAppend (cVar 1) (cCons (cIf (cTru (cPrim pIsi (cCons (cVar 0) (cCons (cK (.cls 14)) cNil)))) (cK (.str "BadLabel")) (cK (.str ""))) cNil)))
  (cSeq (cExp (cMeth pAppend (cVar 1) (cCons (cIf (cTru (cPrim pIsi (cCons (cVar 0) (cCons (cK (.cls 15)) cNil)))) (cK (.str "BadLabels")) (cK (.str ""))) cNil)))
  (cSeq (cExp (cMeth pAppend (cVar 1) (cCons (cIf (cTru (cPrim pIsi (cCons (cVar 0) (cCons (cK (.cls 16)) cNil)))) (cK (.str "BadMarks")) (cK (.str ""))) cNil)))
  (cSeq (cExp (cMeth pAppend (cVar 1) (cCons (cIf (cTru (cPrim pIsi (cCons (cVar 0) (cCons (cK (.cls 17)) cNil)))) (cK (.str "BadMost")) (cK (.str ""))) cNil)))
  (cSeq (cExp (cMeth pAppend (cVar 1) (cCons (cIf (cTru (cPrim pIsi (cCons (cVar 0) (cCons (cK (.cls 18)) cNil)))) (cK (.str "BadName")) (cK (.str ""))) cNil)))
  (cSeq (cExp (cMeth pAppend (cVar 1) (cCons (cIf (cTru (cPrim pIsi (cCons (cVar 0) (cCons (cK (.cls 19)) cNil)))) (cK (.str "BadPath")) (cK (.str ""))) cNil)))
  (cSeq (cExp (cMeth pAppend (cVar 1) (cCons (cIf (cTru (cPrim pIsi (cCons (cVar 0) (cCons (cK (.cls 20)) cNil)))) (cK (.str "BadPattern")) (cK (.str ""))) cNil)))
  (cSeq (cExp (cMeth pAppend (cVar 1) (cCons (cIf (cTru (cPrim pIsi (cCons (cVar 0) (cCons (cK (.cls 21)) cNil)))) (cK (.str "BadPatterns")) (cK (.str ""))) cNil)))
  (cSeq (cExp (cMeth pAppend (cVar 1) (cCons (cIf (cTru (cPrim pIsi (cCons (cVar 0) (cCons (cK (.cls 22)) cNil)))) (cK (.str "BadProgram")) (cK (.str ""))) cNil)))
  (cSeq (cExp (cMeth pAppend (cVar 1) (cCons (cIf (cTru (cPrim pIsi (cCons (cVar 0) (cCons (cK (.cls 23)) cNil)))) (cK (.str "BadPut")) (cK (.str ""))) cNil)))
  (cSeq (cExp (cMeth pAppend (cVar 1) (cCons (cIf (cTru (cPrim pIsi (cCons (cVar 0) (cCons (cK (.cls 24)) cNil)))) (cK (.str "BadPuts")) (cK (.str ""))) cNil)))
  (cSeq (cRet (r__law_kinds_a_c1 ix))
  cSkip))))))))))))))))))))))))))
theorem rd__law_kinds_a : compSs T (Ds[4]'(by decide)).N fuelMost (Ds[4]'(by decide)).scope (Ds[4]'(by decide)).body = some (r__law_kinds_a ix) := by kernel_rfl
def r__law_kinds_b_c1 (ix : Nat → Nat) : EE := (cLc false (.nm 2) [2] (cB (cBin (pEq true) (cVar 2) (cK (.str "")))) (cVar 2) (cSrcN 1))
def r__law_kinds_b (ix : Nat → Nat) : ES := (cSeq (cAsg (.nm 1) (cPrim (pLst true) cNil))
  (cSeq (cExp (cMeth pAppend (cVar 1) (cCons (cIf (cTru (cPrim pIsi (cCons (cVar 0) (cCons (cK (.cls 25)) cNil)))) (cK (.str "BadRunValue")) (cK (.str ""))) cNil)))
  (cSeq (cExp (cMeth pAppend (cVar 1) (cCons (cIf (cTru (cPrim pIsi (cCons (cVar 0) (cCons (cK (.cls 26)) cNil)))) (cK (.str "BadShape")) (cK (.str ""))) cNil)))
  (cSeq (cExp (cMeth pAppend (cVar 1) (cCons (cIf (cTru (cPrim pIsi (cCons (cVar 0) (cCons (cK (.cls 27)) cNil)))) (cK (.str "BadSize")) (cK (.str ""))) cNil)))
  (cSeq (cExp (cMeth pAppend (cVar 1) (cCons (cIf (cTru (cPrim pIsi (cCons (cVar 0) (cCons (cK (.cls 28)) cNil)))) (cK (.str "BadText")) (cK (.str ""))) cNil)))
  (cSeq (cExp (cMeth pAppend (cVar 1) (cCons (cIf (cTru (cPrim pIsi (cCons (cVar 0) (cCons (cK (.cls 29)) cNil)))) (cK (.str "BadTree")) (cK (.str ""))) cNil)))
  (cSeq (cExp (cMeth pAppend (cVar 1) (cCons (cIf (cTru (cPrim pIsi (cCons (cVar 0) (cCons (cK (.cls 30)) cNil)))) (cK (.str "BadType")) (cK (.str ""))) cNil)))
  (cSeq (cExp (cMeth pAppend (cVar 1) (cCons (cIf (cTru (cPrim pIsi (cCons (cVar 0) (cCons (cK (.cls 31)) cNil)))) (cK (.str "BadValue")) (cK (.str ""))) cNil)))
  (cSeq (cExp (cMeth pAppend (cVar 1) (cCons (cIf (cTru (cPrim pIsi (cCons (cVar 0) (cCons (cK (.cls 32)) cNil)))) (cK (.str "BadValues")) (cK (.str ""))) cNil)))
  (cSeq (cExp (cMeth pAppend (cVar 1) (cCons (cIf (cTru (cPrim pIsi (cCons (cVar 0) (cCons (cK (.cls 33)) cNil)))) (cK (.str "BadVariable")) (cK (.str ""))) cNil)))
  (cSeq (cExp (cMeth pAppend (cVar 1) (cCons (cIf (cTru (cPrim pIsi (cCons (cVar 0) (cCons (cK (.cls 34)) cNil)))) (cK (.str "BadVariables")) (cK (.str ""))) cNil)))
  (cSeq (cExp (cMeth pAppend (cVar 1) (cCons (cIf (cTru (cPrim pIsi (cCons (cVar 0) (cCons (cK (.cls 35)) cNil)))) (cK (.str "IsHere")) (cK (.str ""))) cNil)))
  (cSeq (cExp (cMeth pAppend (cVar 1) (cCons (cIf (cTru (cPrim pIsi (cCons (cVar 0) (cCons (cK (.cls 36)) cNil)))) (cK (.str "Missing")) (cK (.str ""))) cNil)))
  (cSeq (cExp (cMeth pAppend (cVar 1) (cCons (cIf (cTru (cPrim pIsi (cCons (cVar 0) (cCons (cK (.cls 37)) cNil)))) (cK (.str "NoGraph")) (cK (.str ""))) cNil)))
  (cSeq (cExp (cMeth pAppend (cVar 1) (cCons (cIf (cTru (cPrim pIsi (cCons (cVar 0) (cCons (cK (.cls 38)) cNil)))) (cK (.str "NoRecord")) (cK (.str ""))) cNil)))
  (cSeq (cExp (cMeth pAppend (cVar 1) (cCons (cIf (cTru (cPrim pIsi (cCons (cVar 0) (cCons (cK (.cls 39)) cNil)))) (cK (.str "NotFunctions")) (cK (.str ""))) cNil)))
  (cSeq (cExp (cMeth pAppend (cVar 1) (cCons (cIf (cTru (cPrim pIsi (cCons (cVar 0) (cCons (cK (.cls 40)) cNil)))) (cK (.str "NotHere")) (cK (.str ""))) cNil)))
  (cSeq (cExp (cMeth pAppend (cVar 1) (cCons (cIf (cTru (cPrim pIsi (cCons (cVar 0) (cCons (cK (.cls 41)) cNil)))) (cK (.str "NotTaken")) (cK (.str ""))) cNil)))
  (cSeq (cExp (cMeth pAppend (cVar 1) (cCons (cIf (cTru (cPrim pIsi (cCons (cVar 0) (cCons (cK (.cls 42)) cNil)))) (cK (.str "NotThere")) (cK (.str ""))) cNil)))
  (cSeq (cExp (cMeth pAppend (cVar 1) (cCons (cIf (cTru (cPrim pIsi (cCons (cVar 0) (cCons (cK (.cls 43)) cNil)))) (cK (.str "NothingDone")) (cK (.str ""))) cNil)))
  (cSeq (cExp (cMeth pAppend (cVar 1) (cCons (cIf (cTru (cPrim pIsi (cCons (cVar 0) (cCons (cK (.cls 44)) cNil)))) (cK (.str "NothingUndone")) (cK (.str ""))) cNil)))
  (cSeq (cExp (cMeth pAppend (cVar 1) (cCons (cIf (cTru (cPrim pIsi (cCons (cVar 0) (cCons (cK (.cls 45)) cNil)))) (cK (.str "Refused")) (cK (.str ""))) cNil)))
  (cSeq (cExp (cMeth pAppend (cVar 1) (cCons (cIf (cTru (cPrim pIsi (cCons (cVar 0) (cCons (cK (.cls 46)) cNil)))) (cK (.str "Rigid")) (cK (.str ""))) cNil)))
  (cSeq (cExp (cMeth pAppend (cVar 1) (cCons (cIf (cTru (cPrim pIsi (cCons (cVar 0) (cCons (cK (.cls 47)) cNil)))) (cK (.str "TooMany")) (cK (.str ""))) cNil)))
  (cSeq (cRet (r__law_kinds_b_c1 ix))
  cSkip)))))))))))))))))))))))))
theorem rd__law_kinds_b : compSs T (Ds[5]'(by decide)).N fuelMost (Ds[5]'(by decide)).scope (Ds[5]'(by decide)).body = some (r__law_kinds_b ix) := by kernel_rfl
def r__law_plain_a (ix : Nat → Nat) : ES := (cSeq (cAsg (.nm 1) (cPrim (pLst true) cNil))
  (cSeq (cExp (cMeth pAppend (cVar 1) (cCons (cPrim pTup (cCons (cK (.str "BadArrows")) (cCons (cMk 1 (cVar 0)) cNil))) cNil)))
  (cSeq (cExp (cMeth pAppend (cVar 1) (cCons (cPrim pTup (cCons (cK (.str "BadBook")) (cCons (cMk 2 (cVar 0)) cNil))) cNil)))
  (cSeq (cExp (cMeth pAppend (cVar 1) (cCons (cPrim pTup (cCons (cK (.str "BadChoices")) (cCons (cMk 3 (cVar 0)) cNil))) cNil)))
  (cSeq (cExp (cMeth pAppend (cVar 1) (cCons (cPrim pTup (cCons (cK (.str "BadClaim")) (cCons (cMk 4 (cVar 0)) cNil))) cNil)))
  (cSeq (cExp (cMeth pAppend (cVar 1) (cCons (cPrim pTup (cCons (cK (.str "BadClosure")) (cCons (cMk 5 (cVar 0)) cNil))) cNil)))
  (cSeq (cExp (cMeth pAppend (cVar 1) (cCons (cPrim pTup (cCons (cK (.str "BadCode")) (cCons (cMk 6 (cVar 0)) cNil))) cNil)))
  (cSeq (cExp (cMeth pAppend (cVar 1) (cCons (cPrim pTup (cCons (cK (.str "BadConstants")) (cCons (cMk 7 (cVar 0)) cNil))) cNil)))
  (cSeq (cExp (cMeth pAppend (cVar 1) (cCons (cPrim pTup (cCons (cK (.str "BadExpression")) (cCons (cMk 8 (cVar 0)) cNil))) cNil)))
  (cSeq (cExp (cMeth pAppend (cVar 1) (cCons (cPrim pTup (cCons (cK (.str "BadForm")) (cCons (cMk 9 (cVar 0)) cNil))) cNil)))
  (cSeq (cExp (cMeth pAppend (cVar 1) (cCons (cPrim pTup (cCons (cK (.str "BadGiven")) (cCons (cMk 10 (cVar 0)) cNil))) cNil)))
  (cSeq (cExp (cMeth pAppend (cVar 1) (cCons (cPrim pTup (cCons (cK (.str "BadInequalities")) (cCons (cMk 11 (cVar 0)) cNil))) cNil)))
  (cSeq (cExp (cMeth pAppend (cVar 1) (cCons (cPrim pTup (cCons (cK (.str "BadKey")) (cCons (cMk 12 (cVar 0)) cNil))) cNil)))
  (cSeq (cExp (cMeth pAppend (cVar 1) (cCons (cPrim pTup (cCons (cK (.str "BadKind")) (cCons (cMk 13 (cVar 0)) cNil))) cNil)))
  (cSeq (cExp (cMeth pAppend (cVar 1) (cCons (cPrim pTup (cCons (cK (.str "BadLabel")) (cCons (cMk 14 (cVar 0)) cNil))) cNil)))
  (cSeq (cExp (cMeth pAppend (cVar 1) (cCons (cPrim pTup (cCons (cK (.str "BadLabels")) (cCons (cMk 15 (cVar 0)) cNil))) cNil)))
  (cSeq (cExp (cMeth pAppend (cVar 1) (cCons (cPrim pTup (cCons (cK (.str "BadMarks")) (cCons (cMk 16 (cVar 0)) cNil))) cNil)))
  (cSeq (cExp (cMeth pAppend (cVar 1) (cCons (cPrim pTup (cCons (cK (.str "BadMost")) (cCons (cMk 17 (cVar 0)) cNil))) cNil)))
  (cSeq (cExp (cMeth pAppend (cVar 1) (cCons (cPrim pTup (cCons (cK (.str "BadName")) (cCons (cMk 18 (cVar 0)) cNil))) cNil)))
  (cSeq (cExp (cMeth pAppend (cVar 1) (cCons (cPrim pTup (cCons (cK (.str "BadPath")) (cCons (cMk 19 (cVar 0)) cNil))) cNil)))
  (cSeq (cExp (cMeth pAppend (cVar 1) (cCons (cPrim pTup (cCons (cK (.str "BadPattern")) (cCons (cMk 20 (cVar 0)) cNil))) cNil)))
  (cSeq (cExp (cMeth pAppend (cVar 1) (cCons (cPrim pTup (cCons (cK (.str "BadPatterns")) (cCons (cMk 21 (cVar 0)) cNil))) cNil)))
  (cSeq (cExp (cMeth pAppend (cVar 1) (cCons (cPrim pTup (cCons (cK (.str "BadProgram")) (cCons (cMk 22 (cVar 0)) cNil))) cNil)))
  (cSeq (cExp (cMeth pAppend (cVar 1) (cCons (cPrim pTup (cCons (cK (.str "BadPut")) (cCons (cMk 23 (cVar 0)) cNil))) cNil)))
  (cSeq (cExp (cMeth pAppend (cVar 1) (cCons (cPrim pTup (cCons (cK (.str "BadPuts")) (cCons (cMk 24 (cVar 0)) cNil))) cNil)))
  (cSeq (cRet (cVar 1))
  cSkip))))))))))))))))))))))))))
theorem rd__law_plain_a : compSs T (Ds[6]'(by decide)).N fuelMost (Ds[6]'(by decide)).scope (Ds[6]'(by decide)).body = some (r__law_plain_a ix) := by kernel_rfl
def r__law_plain_b (ix : Nat → Nat) : ES := (cSeq (cAsg (.nm 1) (cPrim (pLst true) cNil))
  (cSeq (cExp (cMeth pAppend (cVar 1) (cCons (cPrim pTup (cCons (cK (.str "BadRunValue")) (cCons (cMk 25 (cVar 0)) cNil))) cNil)))
  (cSeq (cExp (cMeth pAppend (cVar 1) (cCons (cPrim pTup (cCons (cK (.str "BadShape")) (cCons (cMk 26 (cVar 0)) cNil))) cNil)))
  (cSeq (cExp (cMeth pAppend (cVar 1) (cCons (cPrim pTup (cCons (cK (.str "BadSize")) (cCons (cMk 27 (cVar 0)) cNil))) cNil)))
  (cSeq (cExp (cMeth pAppend (cVar 1) (cCons (cPrim pTup (cCons (cK (.str "BadTree")) (cCons (cMk 29 (cVar 0)) cNil))) cNil)))
  (cSeq (cExp (cMeth pAppend (cVar 1) (cCons (cPrim pTup (cCons (cK (.str "BadType")) (cCons (cMk 30 (cVar 0)) cNil))) cNil)))
  (cSeq (cExp (cMeth pAppend (cVar 1) (cCons (cPrim pTup (cCons (cK (.str "BadValue")) (cCons (cMk 31 (cVar 0)) cNil))) cNil)))
  (cSeq (cExp (cMeth pAppend (cVar 1) (cCons (cPrim pTup (cCons (cK (.str "BadValues")) (cCons (cMk 32 (cVar 0)) cNil))) cNil)))
  (cSeq (cExp (cMeth pAppend (cVar 1) (cCons (cPrim pTup (cCons (cK (.str "BadVariable")) (cCons (cMk 33 (cVar 0)) cNil))) cNil)))
  (cSeq (cExp (cMeth pAppend (cVar 1) (cCons (cPrim pTup (cCons (cK (.str "BadVariables")) (cCons (cMk 34 (cVar 0)) cNil))) cNil)))
  (cSeq (cExp (cMeth pAppend (cVar 1) (cCons (cPrim pTup (cCons (cK (.str "IsHere")) (cCons (cMk 35 (cVar 0)) cNil))) cNil)))
  (cSeq (cExp (cMeth pAppend (cVar 1) (cCons (cPrim pTup (cCons (cK (.str "NoGraph")) (cCons (cMk 37 (cVar 0)) cNil))) cNil)))
  (cSeq (cExp (cMeth pAppend (cVar 1) (cCons (cPrim pTup (cCons (cK (.str "NoRecord")) (cCons (cMk 38 (cVar 0)) cNil))) cNil)))
  (cSeq (cExp (cMeth pAppend (cVar 1) (cCons (cPrim pTup (cCons (cK (.str "NotFunctions")) (cCons (cMk 39 (cVar 0)) cNil))) cNil)))
  (cSeq (cExp (cMeth pAppend (cVar 1) (cCons (cPrim pTup (cCons (cK (.str "NotHere")) (cCons (cMk 40 (cVar 0)) cNil))) cNil)))
  (cSeq (cExp (cMeth pAppend (cVar 1) (cCons (cPrim pTup (cCons (cK (.str "NotTaken")) (cCons (cMk 41 (cVar 0)) cNil))) cNil)))
  (cSeq (cExp (cMeth pAppend (cVar 1) (cCons (cPrim pTup (cCons (cK (.str "NothingDone")) (cCons (cMk 43 (cVar 0)) cNil))) cNil)))
  (cSeq (cExp (cMeth pAppend (cVar 1) (cCons (cPrim pTup (cCons (cK (.str "NothingUndone")) (cCons (cMk 44 (cVar 0)) cNil))) cNil)))
  (cSeq (cExp (cMeth pAppend (cVar 1) (cCons (cPrim pTup (cCons (cK (.str "Refused")) (cCons (cMk 45 (cVar 0)) cNil))) cNil)))
  (cSeq (cExp (cMeth pAppend (cVar 1) (cCons (cPrim pTup (cCons (cK (.str "Rigid")) (cCons (cMk 46 (cVar 0)) cNil))) cNil)))
  (cSeq (cRet (cVar 1))
  cSkip)))))))))))))))))))))
theorem rd__law_plain_b : compSs T (Ds[7]'(by decide)).N fuelMost (Ds[7]'(by decide)).scope (Ds[7]'(by decide)).body = some (r__law_plain_b ix) := by kernel_rfl
def r__law_held (ix : Nat → Nat) : ES := (cSeq (cAsg (.nm 1) (cPrim (pLst true) cNil))
  (cSeq (cAsg (.nm 2) (cMkF 28 "index" (cVar 0)))
  (cSeq (cExp (cMeth pAppend (cVar 1) (cCons (cPrim pTup (cCons (cK (.str "BadText")) (cCons (cVar 2) (cCons (cAttr "index" (cVar 2)) cNil)))) cNil)))
  (cSeq (cAsg (.nm 2) (cMkF 28 "index" (cVar 0)))
  (cSeq (cExp (cMeth pAppend (cVar 1) (cCons (cPrim pTup (cCons (cK (.str "BadText")) (cCons (cVar 2) (cCons (cAttr "index" (cVar 2)) cNil)))) cNil)))
  (cSeq (cAsg (.nm 2) (cMkF 36 "name" (cVar 0)))
  (cSeq (cExp (cMeth pAppend (cVar 1) (cCons (cPrim pTup (cCons (cK (.str "Missing")) (cCons (cVar 2) (cCons (cAttr "name" (cVar 2)) cNil)))) cNil)))
  (cSeq (cAsg (.nm 2) (cMkF 36 "name" (cVar 0)))
  (cSeq (cExp (cMeth pAppend (cVar 1) (cCons (cPrim pTup (cCons (cK (.str "Missing")) (cCons (cVar 2) (cCons (cAttr "name" (cVar 2)) cNil)))) cNil)))
  (cSeq (cAsg (.nm 2) (cMkF 42 "path" (cVar 0)))
  (cSeq (cExp (cMeth pAppend (cVar 1) (cCons (cPrim pTup (cCons (cK (.str "NotThere")) (cCons (cVar 2) (cCons (cAttr "path" (cVar 2)) cNil)))) cNil)))
  (cSeq (cAsg (.nm 2) (cMkF 42 "path" (cVar 0)))
  (cSeq (cExp (cMeth pAppend (cVar 1) (cCons (cPrim pTup (cCons (cK (.str "NotThere")) (cCons (cVar 2) (cCons (cAttr "path" (cVar 2)) cNil)))) cNil)))
  (cSeq (cAsg (.nm 2) (cMkF 47 "most" (cVar 0)))
  (cSeq (cExp (cMeth pAppend (cVar 1) (cCons (cPrim pTup (cCons (cK (.str "TooMany")) (cCons (cVar 2) (cCons (cAttr "most" (cVar 2)) cNil)))) cNil)))
  (cSeq (cAsg (.nm 2) (cMkF 47 "most" (cVar 0)))
  (cSeq (cExp (cMeth pAppend (cVar 1) (cCons (cPrim pTup (cCons (cK (.str "TooMany")) (cCons (cVar 2) (cCons (cAttr "most" (cVar 2)) cNil)))) cNil)))
  (cSeq (cRet (cVar 1))
  cSkip))))))))))))))))))
theorem rd__law_held : compSs T (Ds[8]'(by decide)).N fuelMost (Ds[8]'(by decide)).scope (Ds[8]'(by decide)).body = some (r__law_held ix) := by kernel_rfl
def r__law_is_alone (ix : Nat → Nat) : ES := (cSeq (cAsg (.nm 2) (cBin (pAdd false) (cCall (ix 54) 1 [] (cCons (cVar 0) cNil)) (cCall (ix 55) 1 [] (cCons (cVar 0) cNil))))
  (cSeq (cRet (cAndV (cBin (pEq false) (cVar 2) (cPrim (pLst false) (cCons (cVar 1) cNil))) (cAndV (cPrim pIsi (cCons (cVar 0) (cCons (cK (.cls 0)) cNil))) (cPrim pIsi (cCons (cVar 0) (cCons (cK (.ty "ValueError")) cNil))))))
  cSkip))
theorem rd__law_is_alone : compSs T (Ds[9]'(by decide)).N fuelMost (Ds[9]'(by decide)).scope (Ds[9]'(by decide)).body = some (r__law_is_alone ix) := by kernel_rfl
def r_law_363a_b1 (ix : Nat → Nat) : ES := (cSeq (cIfS (cOrT (cNotT (cTru (cCall (ix 59) 2 [] (cCons (cVar 7) (cCons (cVar 6) cNil))))) (cB (cBin (pEq true) (cPrim pRepr (cCons (cVar 8) cNil)) (cPrim pRepr (cCons (cVar 4) cNil))))) (cSeq (cRet (cK (.bl false)))
  cSkip) cSkip)
  cSkip)
def r_law_363a_c1 (ix : Nat → Nat) : EE := (cLc false (.tup [(.nm 6), (.nm 7)]) [6, 7] (cNotT (cTru (cCall (ix 59) 2 [] (cCons (cVar 7) (cCons (cVar 6) cNil))))) (cK (.int 1)) (cSrcN 5))
def r_law_363a_c2 (ix : Nat → Nat) : EE := (cLc false (.nm 9) [9] cYes (cCall (ix 43) 2 [] (cCons (cVar 1) (cCons (cPrim (pLst false) (cCons (cK (.str "a")) (cCons (cK (.str "b")) (cCons (cK (.str " ")) (cCons (cK (.str "0")) (cCons (cK (.str "-")) cNil)))))) cNil))) (cRange1 (cCons (cCall (ix 42) 2 [] (cCons (cVar 1) (cCons (cK (.int 9)) cNil))) cNil)))
def r_law_363a_b2 (ix : Nat → Nat) : ES := (cSeq (cAsg (.nm 3) (cJoin (cK (.str "")) (r_law_363a_c2 ix)))
  (cSeq (cAsg (.nm 4) (cCall (ix 43) 2 [] (cCons (cVar 1) (cCons (cPrim (pLst false) (cCons (cCall (ix 53) 1 [] (cCons (cVar 1) cNil)) (cCons (cBin pSub (cCall (ix 42) 2 [] (cCons (cVar 1) (cCons (cK (.int 41)) cNil))) (cK (.int 20))) (cCons (cPrim pTup (cCons (cK (.int 0)) (cCons (cK (.int 1)) cNil))) (cCons (cK (.str "type")) (cCons (cBin pPow (cK (.int 10)) (cK (.int 8))) cNil)))))) cNil))))
  (cSeq (cAsg (.nm 5) (cBin (pAdd false) (cCall (ix 56) 1 [] (cCons (cVar 3) cNil)) (cCall (ix 57) 1 [] (cCons (cVar 3) cNil))))
  (cSeq (cIfS (cB (cBin (pEq true) (r_law_363a_c1 ix) (cPrim (pLst false) cNil))) (cSeq (cRet (cK (.bl false)))
  cSkip) cSkip)
  (cSeq (cFor (.tup [(.nm 6), (.nm 7), (.nm 8)]) (cSrc (cCall (ix 58) 1 [] (cCons (cVar 4) cNil))) (r_law_363a_b1 ix))
  cSkip)))))
def r_law_363a (ix : Nat → Nat) : ES := (cSeq (cAsg (.nm 1) (cCall (ix 41) 1 [] (cCons (cVar 0) cNil)))
  (cSeq (cFor (.nm 2) (cRange1 (cCons (cBin (pAdd false) (cK (.int 1)) (cPrim pMin (cCons (cPrim pLen (cCons (cVar 0) cNil)) (cCons (cK (.int 3)) cNil)))) cNil)) (r_law_363a_b2 ix))
  (cSeq (cRet (cK (.bl true)))
  cSkip)))
theorem rd_law_363a : compSs T (Ds[10]'(by decide)).N fuelMost (Ds[10]'(by decide)).scope (Ds[10]'(by decide)).body = some (r_law_363a ix) := by kernel_rfl
instance : At__law_begun rs ix := ⟨rs_of (i := 0) (d := Ds[0]'(by decide)) rfl rd__law_begun⟩
instance : At__law_draw rs ix := ⟨rs_of (i := 1) (d := Ds[1]'(by decide)) rfl rd__law_draw⟩
instance : At__law_pick rs ix := ⟨rs_of (i := 2) (d := Ds[2]'(by decide)) rfl rd__law_pick⟩
theorem at__law_odd : rs[ix 53]? = some ⟨r__law_odd ix, 1, 0⟩ := rs_of (i := 3) (d := Ds[3]'(by decide)) rfl rd__law_odd
theorem at__law_kinds_a : rs[ix 54]? = some ⟨r__law_kinds_a ix, 3, 0⟩ := rs_of (i := 4) (d := Ds[4]'(by decide)) rfl rd__law_kinds_a
theorem at__law_kinds_b : rs[ix 55]? = some ⟨r__law_kinds_b ix, 3, 0⟩ := rs_of (i := 5) (d := Ds[5]'(by decide)) rfl rd__law_kinds_b
theorem at__law_plain_a : rs[ix 56]? = some ⟨r__law_plain_a ix, 2, 0⟩ := rs_of (i := 6) (d := Ds[6]'(by decide)) rfl rd__law_plain_a
theorem at__law_plain_b : rs[ix 57]? = some ⟨r__law_plain_b ix, 2, 0⟩ := rs_of (i := 7) (d := Ds[7]'(by decide)) rfl rd__law_plain_b
theorem at__law_held : rs[ix 58]? = some ⟨r__law_held ix, 3, 0⟩ := rs_of (i := 8) (d := Ds[8]'(by decide)) rfl rd__law_held
theorem at__law_is_alone : rs[ix 59]? = some ⟨r__law_is_alone ix, 3, 0⟩ := rs_of (i := 9) (d := Ds[9]'(by decide)) rfl rd__law_is_alone
theorem at_law_363a : rs[ix 60]? = some ⟨r_law_363a ix, 10, 0⟩ := rs_of (i := 10) (d := Ds[10]'(by decide)) rfl rd_law_363a
end Ev.K00

set_option Elab.async false
set_option linter.all false
set_option maxRecDepth 100000
set_option maxHeartbeats 2000000
/-! Nv, part 1: reckoning with readings: texts, equality, comprehensions. -/
namespace Ev
open PySem PySem.Spec PyProof.Rows L2

theorem map_toNat_inj : ∀ {a b : List Char}, a.map Char.toNat = b.map Char.toNat → a = b
  | [], [], _ => rfl
  | [], _ :: _, h => by cases h
  | _ :: _, [], h => by cases h
  | x :: xs, y :: ys, h => by
    simp only [List.map_cons, List.cons.injEq] at h
    rw [map_toNat_inj h.2]
    have : x = y := by
      apply Char.ext
      apply UInt32.toNat_inj.mp
      exact h.1
    rw [this]
theorem ofS_inj {a b : String} : (Str.ofString a = Str.ofString b) ↔ a = b := by
  constructor
  · intro h
    rw [Str.ofString_eq_toList, Str.ofString_eq_toList] at h
    have h1 : a.toList.map Char.toNat = b.toList.map Char.toNat := by
      have := congrArg (fun s => s.cps.toList) h
      simpa using this
    have h2 := map_toNat_inj h1
    exact String.toList_inj.mp h2
  · rintro rfl; rfl

/-! ### runs that end well -/
def Sat {α : Type} (r : R α) (P : α → Sto → Prop) : Prop := ∃ a S, r = .ok a S ∧ P a S
theorem sat_ok {α : Type} {a : α} {S : Sto} {P : α → Sto → Prop} : Sat (.ok a S) P ↔ P a S :=
  ⟨fun ⟨_, _, e, h⟩ => by cases e; exact h, fun h => ⟨_, _, rfl, h⟩⟩
theorem sat_bind {α β : Type} {r : R α} {k : α → Sto → R β} {P : β → Sto → Prop} : Sat (r.bind k) P ↔ Sat r fun a S => Sat (k a S) P := by
  cases r with
  | ok a S => rw [R.bind_okk, sat_ok]
  | exc c fs env S => exact ⟨fun h => (by obtain ⟨_, _, e, _⟩ := h; cases e), fun h => (by obtain ⟨_, _, e, _⟩ := h; cases e)⟩
  | bad => exact ⟨fun h => (by obtain ⟨_, _, e, _⟩ := h; cases e), fun h => (by obtain ⟨_, _, e, _⟩ := h; cases e)⟩
theorem Sat.imp {α : Type} {r : R α} {P Q : α → Sto → Prop} (h : Sat r P) (f : ∀ a S, P a S → Q a S) : Sat r Q := by
  obtain ⟨a, S, e, p⟩ := h
  exact ⟨a, S, e, f _ _ p⟩
theorem Sat.bind {α β : Type} {r : R α} {k : α → Sto → R β} {P : α → Sto → Prop} {Q : β → Sto → Prop} (h : Sat r P) (f : ∀ a S, P a S → Sat (k a S) Q) : Sat (r.bind k) Q := sat_bind.mpr (h.imp f)

/-! ### values shown -/
section
variable {S : Sto}
theorem deref_non : deref S .non = .non := rfl
theorem deref_bl {b : Bool} : deref S (.bl b) = .bl b := rfl
theorem deref_int {b : Int} : deref S (.int b) = .int b := rfl
theorem deref_str {b : Str} : deref S (.str b) = .str b := rfl
theorem deref_tup {ds : List D} : deref S (.tup ds) = .tup ds := rfl
theorem deref_lst {ds : List D} : deref S (.lst ds) = .lst ds := rfl
theorem deref_dic {ds : List (Key × D)} : deref S (.dic ds) = .dic ds := rfl
theorem deref_scr {ds : List D} : deref S (.scr ds) = .scr ds := rfl
theorem deref_ty {n : String} : deref S (.ty n) = .ty n := rfl
theorem sz_lit {n : Nat} (h : n ≤ 1000) : (n ≤ sizeLine) = True := eq_true (Nat.le_trans h (by decide))
theorem done_nil {d : D} (h : clsD 0 d = true) : done 0 0 d [] = .ok d [] := done_pure0 (S := []) h rfl
theorem cl_non {n : Nat} : clsD n .non = true := Eq.symm rfl
theorem cl_bl {n : Nat} {b : Bool} : clsD n (.bl b) = true := Eq.symm rfl
theorem cl_int {n : Nat} {b : Int} : clsD n (.int b) = true := Eq.symm rfl
theorem cl_str {n : Nat} {b : Str} : clsD n (.str b) = true := Eq.symm rfl
theorem cl_ty {n : Nat} {b : String} : clsD n (.ty b) = true := Eq.symm rfl
theorem cl_tup {n : Nat} {ds : List D} : clsD n (.tup ds) = clsDs n ds := Eq.symm rfl
theorem cl_lst {n : Nat} {ds : List D} : clsD n (.lst ds) = clsDs n ds := Eq.symm rfl
theorem cl_dic {n : Nat} {ds : List (Key × D)} : clsD n (.dic ds) = clsKv n ds := Eq.symm rfl
theorem cl_ref {n l : Nat} : clsD n (.ref l) = decide (l < n) := Eq.symm rfl
theorem cls_nil {n : Nat} : clsDs n [] = true := Eq.symm rfl
theorem cls_cons {n : Nat} {d : D} {ds : List D} : clsDs n (d :: ds) = (clsD n d && clsDs n ds) := Eq.symm rfl
theorem clk_nil {n : Nat} : clsKv n [] = true := Eq.symm rfl
theorem clk_cons {n : Nat} {k : Key} {d : D} {ds : List (Key × D)} : clsKv n ((k, d) :: ds) = (clsD n d && clsKv n ds) := Eq.symm rfl
theorem iso_okD {d : D} (h : clsD 0 d = true) : iso (.ok d []) S = .ok d S := by simp [iso, h]
end

/-! ### plain data, without bools: == is equality -/
mutual
def nsD : D → Bool
  | .non => true
  | .int _ => true
  | .str x => PyData.strOk x
  | .tup ds => nsDs ds
  | _ => false
def nsDs : List D → Bool
  | [] => true
  | d :: ds => nsD d && nsDs ds
end
theorem ns_non : nsD .non = true := Eq.symm rfl
theorem ns_int {i : Int} : nsD (.int i) = true := Eq.symm rfl
theorem ns_str {x : Str} : nsD (.str x) = PyData.strOk x := Eq.symm rfl
theorem ns_tup {ds : List D} : nsD (.tup ds) = nsDs ds := Eq.symm rfl
theorem nss_nil : nsDs [] = true := Eq.symm rfl
theorem nss_cons {d : D} {ds : List D} : nsDs (d :: ds) = (nsD d && nsDs ds) := Eq.symm rfl
def dpD : D → Nat → Prop := fun d n => ∀ p, d.py = some p → p.depth ≤ n
mutual
theorem nsD_py : ∀ {d : D}, nsD d = true → ∃ p, d.py = some p
  | .non, _ => ⟨_, rfl⟩
  | .int _, _ => ⟨_, rfl⟩
  | .str x, h => by simp only [nsD] at h; exact ⟨.str x, by simp [D.py, h]⟩
  | .tup ds, h => by
    simp only [nsD] at h
    obtain ⟨ps, e⟩ := nsDs_py h
    exact ⟨.tuple ps, by simp [D.py, e]⟩
  | .bl _, h => by simp [nsD] at h
  | .lst _, h => by simp [nsD] at h
  | .dic _, h => by simp [nsD] at h
  | .ref _, h => by simp [nsD] at h
  | .pr _, h => by simp [nsD] at h
  | .scr _, h => by simp [nsD] at h
  | .fn _, h => by simp [nsD] at h
  | .ty _, h => by simp [nsD] at h
  | .cls _, h => by simp [nsD] at h
  | .exc _ _ _, h => by simp [nsD] at h
  | .clo _ _, h => by simp [nsD] at h
theorem nsDs_py : ∀ {ds : List D}, nsDs ds = true → ∃ ps, pyAll ds = some ps
  | [], _ => ⟨[], rfl⟩
  | d :: ds, h => by
    simp only [nsDs, Bool.and_eq_true] at h
    obtain ⟨p, e⟩ := nsD_py h.1
    obtain ⟨ps, e2⟩ := nsDs_py h.2
    exact ⟨p :: ps, by simp [pyAll, e, e2]⟩
end
mutual
theorem ns_eqv : ∀ {d e : D} {p q : PyData}, nsD d = true → nsD e = true → d.py = some p → e.py = some q → (PyData.eqv p q = true ↔ d = e)
  | .non, e, p, q, _, he, hp, hq => by
    simp only [D.py, Option.some.injEq] at hp; subst hp
    cases e <;> simp_all [nsD, D.py] <;> first | (subst hq; simp [PyData.eqv]) | (obtain ⟨_, _, rfl⟩ := hq; simp [PyData.eqv])
  | .int i, e, p, q, _, he, hp, hq => by
    simp only [D.py, Option.some.injEq] at hp; subst hp
    cases e <;> simp_all [nsD, D.py] <;> first | (subst hq; simp [PyData.eqv]) | (obtain ⟨_, _, rfl⟩ := hq; simp [PyData.eqv])
  | .str x, e, p, q, hd, he, hp, hq => by
    simp only [nsD] at hd
    simp only [D.py, hd, if_true, Option.some.injEq] at hp; subst hp
    cases e <;> simp_all [nsD, D.py] <;> first | (subst hq; simp [PyData.eqv]) | (obtain ⟨_, _, rfl⟩ := hq; simp [PyData.eqv])
  | .tup ds, e, p, q, hd, he, hp, hq => by
    simp only [D.py, Option.map_eq_some_iff] at hp
    obtain ⟨ps, h1, rfl⟩ := hp
    cases e with
    | tup es =>
      simp only [nsD] at hd he
      simp only [D.py, Option.map_eq_some_iff] at hq
      obtain ⟨qs, h2, rfl⟩ := hq
      simp only [PyData.eqv, D.tup.injEq]
      exact ns_eqvs hd he h1 h2
    | _ => simp_all [nsD, D.py] <;> first | (subst hq; simp [PyData.eqv]) | (obtain ⟨_, _, rfl⟩ := hq; simp [PyData.eqv])
  | .bl _, _, _, _, h, _, _, _ => by simp [nsD] at h
  | .lst _, _, _, _, h, _, _, _ => by simp [nsD] at h
  | .dic _, _, _, _, h, _, _, _ => by simp [nsD] at h
  | .ref _, _, _, _, h, _, _, _ => by simp [nsD] at h
  | .pr _, _, _, _, h, _, _, _ => by simp [nsD] at h
  | .scr _, _, _, _, h, _, _, _ => by simp [nsD] at h
  | .fn _, _, _, _, h, _, _, _ => by simp [nsD] at h
  | .ty _, _, _, _, h, _, _, _ => by simp [nsD] at h
  | .cls _, _, _, _, h, _, _, _ => by simp [nsD] at h
  | .exc _ _ _, _, _, _, h, _, _, _ => by simp [nsD] at h
  | .clo _ _, _, _, _, h, _, _, _ => by simp [nsD] at h
theorem ns_eqvs : ∀ {ds es : List D} {ps qs : List PyData}, nsDs ds = true → nsDs es = true → pyAll ds = some ps → pyAll es = some qs → (PyData.eqvAll ps qs = true ↔ ds = es)
  | [], [], ps, qs, _, _, hp, hq => by
    simp only [pyAll, Option.some.injEq] at hp hq; subst hp hq; simp [PyData.eqvAll]
  | [], e :: es, ps, qs, _, _, hp, hq => by
    simp only [pyAll, Option.some.injEq, Option.bind_eq_some_iff, Option.map_eq_some_iff] at hp hq
    obtain ⟨_, _, _, _, rfl⟩ := hq
    subst hp
    simp [PyData.eqvAll]
  | d :: ds, [], ps, qs, _, _, hp, hq => by
    simp only [pyAll, Option.some.injEq, Option.bind_eq_some_iff, Option.map_eq_some_iff] at hp hq
    obtain ⟨_, _, _, _, rfl⟩ := hp
    subst hq
    simp [PyData.eqvAll]
  | d :: ds, e :: es, ps, qs, hd, he, hp, hq => by
    simp only [nsDs, Bool.and_eq_true] at hd he
    simp only [pyAll, Option.bind_eq_some_iff, Option.map_eq_some_iff] at hp hq
    obtain ⟨p, h1, ps', h2, rfl⟩ := hp
    obtain ⟨q, h3, qs', h4, rfl⟩ := hq
    simp only [PyData.eqvAll, Bool.and_eq_true, List.cons.injEq]
    rw [ns_eqv hd.1 he.1 h1 h3, ns_eqvs hd.2 he.2 h2 h4]
end
mutual
def depD : D → Nat
  | .tup ds => depDs ds + 1
  | .lst ds => depDs ds + 1
  | _ => 0
def depDs : List D → Nat
  | [] => 0
  | d :: ds => max (depD d) (depDs ds)
end
mutual
theorem py_depth : ∀ {d : D} {p : PyData}, d.py = some p → p.depth = depD d
  | .non, p, h => by simp only [D.py, Option.some.injEq] at h; subst h; rfl
  | .bl _, p, h => by simp only [D.py, Option.some.injEq] at h; subst h; rfl
  | .int _, p, h => by simp only [D.py, Option.some.injEq] at h; subst h; rfl
  | .str x, p, h => by
    simp only [D.py] at h
    split at h
    · cases h; rfl
    · cases h
  | .tup ds, p, h => by
    simp only [D.py, Option.map_eq_some_iff] at h
    obtain ⟨ps, h1, rfl⟩ := h
    simp only [PyData.depth, depD, pyAll_depth h1]
  | .lst ds, p, h => by
    simp only [D.py, Option.map_eq_some_iff] at h
    obtain ⟨ps, h1, rfl⟩ := h
    simp only [PyData.depth, depD, pyAll_depth h1]
  | .dic _, _, h => by simp [D.py] at h
  | .ref _, _, h => by simp [D.py] at h
  | .pr _, _, h => by simp [D.py] at h
  | .scr _, _, h => by simp [D.py] at h
  | .fn _, _, h => by simp [D.py] at h
  | .ty _, _, h => by simp [D.py] at h
  | .cls _, _, h => by simp [D.py] at h
  | .exc _ _ _, _, h => by simp [D.py] at h
  | .clo _ _, _, h => by simp [D.py] at h
theorem pyAll_depth : ∀ {ds : List D} {ps : List PyData}, pyAll ds = some ps → PyData.depthAll ps = depDs ds
  | [], ps, h => by simp only [pyAll, Option.some.injEq] at h; subst h; rfl
  | d :: ds, ps, h => by
    simp only [pyAll, Option.bind_eq_some_iff, Option.map_eq_some_iff] at h
    obtain ⟨p, h1, ps', h2, rfl⟩ := h
    simp only [PyData.depthAll, depDs, py_depth h1, pyAll_depth h2]
end
open Classical in
theorem eqD_ns {d e : D} (hd : nsD d = true) (he : nsD e = true) (hm : min (depD d) (depD e) ≤ 180) : eqD d e = some (decide (d = e)) := by
  obtain ⟨p, hp⟩ := nsD_py hd
  obtain ⟨q, hq⟩ := nsD_py he
  have h := ns_eqv hd he hp hq
  simp only [eqD, hp, hq, py_depth hp, py_depth hq, if_pos hm, Option.some.injEq]
  by_cases e : d = e
  · rw [h.mpr e]; simp [e]
  · have : PyData.eqv p q ≠ true := fun z => e (h.mp z)
    simp [e, this]
theorem pyAll_mem {ds : List D} {ps : List PyData} (h : pyAll ds = some ps) (hn : nsDs ds = true) {e : D} (he : nsD e = true) {q : PyData} (hq : e.py = some q) : (ps.any fun y => PyData.eqv y q) = true ↔ e ∈ ds := by
  induction ds generalizing ps with
  | nil => simp only [pyAll, Option.some.injEq] at h; subst h; simp
  | cons d ds ih =>
    simp only [nsDs, Bool.and_eq_true] at hn
    simp only [pyAll, Option.bind_eq_some_iff, Option.map_eq_some_iff] at h
    obtain ⟨p, h1, ps', h2, rfl⟩ := h
    simp only [List.any_cons, Bool.or_eq_true, List.mem_cons]
    rw [ih h2 hn.2, ns_eqv hn.1 he h1 hq]
    constructor
    · rintro (rfl | h)
      · exact .inl rfl
      · exact .inr h
    · rintro (rfl | h)
      · exact .inl rfl
      · exact .inr h
open Classical in
theorem inD_lst {ds : List D} {e : D} (hn : nsDs ds = true) (he : nsD e = true) (hm : min (depDs ds) (depD e) ≤ 180) : inD e (.lst ds) = some (decide (e ∈ ds)) := by
  obtain ⟨ps, hp⟩ := nsDs_py hn
  obtain ⟨q, hq⟩ := nsD_py he
  have h := pyAll_mem hp hn he hq
  simp only [inD, D.py, hp, hq, Option.map_some, pyAll_depth hp, py_depth hq, if_pos hm, Option.some.injEq]
  by_cases m : e ∈ ds
  · rw [h.mpr m]; simp [m]
  · have : (ps.any fun y => PyData.eqv y q) ≠ true := fun z => m (h.mp z)
    simp only [Bool.not_eq_true] at this
    rw [this]; simp [m]
open Classical in
theorem inD_tup {ds : List D} {e : D} (hn : nsDs ds = true) (he : nsD e = true) (hm : min (depDs ds) (depD e) ≤ 180) : inD e (.tup ds) = some (decide (e ∈ ds)) := by
  obtain ⟨ps, hp⟩ := nsDs_py hn
  obtain ⟨q, hq⟩ := nsD_py he
  have h := pyAll_mem hp hn he hq
  simp only [inD, D.py, hp, hq, Option.map_some, pyAll_depth hp, py_depth hq, if_pos hm, Option.some.injEq]
  by_cases m : e ∈ ds
  · rw [h.mpr m]; simp [m]
  · have : (ps.any fun y => PyData.eqv y q) ≠ true := fun z => m (h.mp z)
    simp only [Bool.not_eq_true] at this
    rw [this]; simp [m]
/-! texts -/
theorem eqD_str {x y : Str} (hx : PyData.strOk x = true) (hy : PyData.strOk y = true) : eqD (.str x) (.str y) = some (decide (x = y)) := by
  simp only [eqD, D.py, hx, hy, if_true, PyData.depth, PyData.eqv]
  by_cases e : x = y <;> simp [e]
theorem eqD_int {i j : Int} : eqD (.int i) (.int j) = some (decide (i = j)) := by
  simp only [eqD, D.py, PyData.depth, PyData.eqv]
  by_cases e : i = j <;> simp [e]
theorem inD_s2 {x a b : Str} (hx : PyData.strOk x = true) (ha : PyData.strOk a = true) (hb : PyData.strOk b = true) : inD (.str x) (.tup [.str a, .str b]) = some (decide (x = a) || decide (x = b)) := by
  rw [inD_tup (by simp [nsDs, nsD, ha, hb]) (by simp [nsD, hx]) (by simp [depD])]
  by_cases e1 : x = a <;> by_cases e2 : x = b <;> simp [e1, e2]
theorem inD_s3 {x a b c : Str} (hx : PyData.strOk x = true) (ha : PyData.strOk a = true) (hb : PyData.strOk b = true) (hc : PyData.strOk c = true) : inD (.str x) (.tup [.str a, .str b, .str c]) = some (decide (x = a) || (decide (x = b) || decide (x = c))) := by
  rw [inD_tup (by simp [nsDs, nsD, ha, hb, hc]) (by simp [nsD, hx]) (by simp [depD])]
  by_cases e1 : x = a <;> by_cases e2 : x = b <;> by_cases e3 : x = c <;> simp [e1, e2, e3]
theorem inD_s4 {x a b c d : Str} (hx : PyData.strOk x = true) (ha : PyData.strOk a = true) (hb : PyData.strOk b = true) (hc : PyData.strOk c = true) (hd : PyData.strOk d = true) : inD (.str x) (.tup [.str a, .str b, .str c, .str d]) = some (decide (x = a) || (decide (x = b) || (decide (x = c) || decide (x = d)))) := by
  rw [inD_tup (by simp [nsDs, nsD, ha, hb, hc, hd]) (by simp [nsD, hx]) (by simp [depD])]
  by_cases e1 : x = a <;> by_cases e2 : x = b <;> by_cases e3 : x = c <;> by_cases e4 : x = d <;> simp [e1, e2, e3, e4]
theorem strOk_ofS (s : String) : PyData.strOk (Str.ofString s) = true := by
  rw [Str.ofString_eq_toList]
  simp only [PyData.strOk, Array.all_eq_true]
  intro i hi
  simp only [List.getElem_toArray, List.getElem_map, decide_eq_true_eq]
  have := (s.toList[i]'(by simpa using hi)).valid
  rcases this with h | h
  · exact Nat.lt_trans h (by decide)
  · exact h.2
theorem atI0 {α : Type} {a : α} {r : List α} : L2.atI (a :: r) 0 = some a := by simp [L2.atI, L2.ixN]
theorem atI1 {α : Type} {a b : α} {r : List α} : L2.atI (a :: b :: r) 1 = some b := by
  have : (1 : Int) < (((a :: b :: r).length : Nat) : Int) := by simp only [List.length_cons]; omega
  simp only [L2.atI, L2.ixN, if_pos this]
  rfl
theorem atI2 {α : Type} {a b c : α} {r : List α} : L2.atI (a :: b :: c :: r) 2 = some c := by
  have : (2 : Int) < (((a :: b :: c :: r).length : Nat) : Int) := by simp only [List.length_cons]; omega
  simp only [L2.atI, L2.ixN, if_pos this]
  rfl
theorem atI_nat {α : Type} {xs : List α} {i : Nat} (h : i < xs.length) : L2.atI xs (i : Int) = some xs[i] := by
  simp [L2.atI, L2.ixN, h]

/-! ### plain data -/
mutual
def plB : D → Bool
  | .non => true
  | .bl _ => true
  | .int _ => true
  | .str _ => true
  | .tup ds => plBs ds
  | .lst ds => plBs ds
  | .dic ds => plBk ds
  | _ => false
def plBs : List D → Bool
  | [] => true
  | d :: ds => plB d && plBs ds
def plBk : List (Key × D) → Bool
  | [] => true
  | (_, d) :: ds => plB d && plBk ds
end
mutual
theorem plB_cls : ∀ {d : D}, plB d = true → clsD 0 d = true
  | .non, _ => rfl
  | .bl _, _ => rfl
  | .int _, _ => rfl
  | .str _, _ => rfl
  | .tup ds, h => by simp only [plB] at h; simp only [clsD]; exact plBs_cls h
  | .lst ds, h => by simp only [plB] at h; simp only [clsD]; exact plBs_cls h
  | .dic ds, h => by simp only [plB] at h; simp only [clsD]; exact plBk_cls h
  | .ref _, h => by simp [plB] at h
  | .pr _, h => by simp [plB] at h
  | .scr _, h => by simp [plB] at h
  | .fn _, h => by simp [plB] at h
  | .ty _, h => by simp [plB] at h
  | .cls _, h => by simp [plB] at h
  | .exc _ _ _, h => by simp [plB] at h
  | .clo _ _, h => by simp [plB] at h
theorem plBs_cls : ∀ {ds : List D}, plBs ds = true → clsDs 0 ds = true
  | [], _ => rfl
  | d :: ds, h => by
    simp only [plBs, Bool.and_eq_true] at h
    simp only [clsDs, Bool.and_eq_true]
    exact ⟨plB_cls h.1, plBs_cls h.2⟩
theorem plBk_cls : ∀ {ds : List (Key × D)}, plBk ds = true → clsKv 0 ds = true
  | [], _ => rfl
  | (_, d) :: ds, h => by
    simp only [plBk, Bool.and_eq_true] at h
    simp only [clsKv, Bool.and_eq_true]
    exact ⟨plB_cls h.1, plBk_cls h.2⟩
end
theorem plBs_mem {ds : List D} : plBs ds = true ↔ ∀ d ∈ ds, plB d = true := by
  induction ds with
  | nil => simp [plBs]
  | cons d ds ih => simp [plBs, ih]
theorem clsDs_mem {n : Nat} {ds : List D} : clsDs n ds = true ↔ ∀ d ∈ ds, clsD n d = true := by
  induction ds with
  | nil => simp [clsDs]
  | cons d ds ih => simp [clsDs, ih]
theorem nsDs_mem {ds : List D} : nsDs ds = true ↔ ∀ d ∈ ds, nsD d = true := by
  induction ds with
  | nil => simp [nsDs]
  | cons d ds ih => simp [nsDs, ih]
theorem depDs_le {ds : List D} {n : Nat} : depDs ds ≤ n ↔ ∀ d ∈ ds, depD d ≤ n := by
  induction ds with
  | nil => simp [depDs]
  | cons d ds ih => simp [depDs, ih, Nat.max_le]
theorem pl_non : plB .non = true := Eq.symm rfl
theorem pl_bl {b : Bool} : plB (.bl b) = true := Eq.symm rfl
theorem pl_int {b : Int} : plB (.int b) = true := Eq.symm rfl
theorem pl_str {b : Str} : plB (.str b) = true := Eq.symm rfl
theorem pl_tup {ds : List D} : plB (.tup ds) = plBs ds := Eq.symm rfl
theorem pl_lst {ds : List D} : plB (.lst ds) = plBs ds := Eq.symm rfl
theorem pls_nil : plBs [] = true := Eq.symm rfl
theorem pls_cons {d : D} {ds : List D} : plBs (d :: ds) = (plB d && plBs ds) := Eq.symm rfl
/-! ### one statement after another -/
section
variable {call : Call} {env env1 : Env'} {S S1 S2 : Sto} {fa fb fc : ES} {ft : EB} {fe : EE} {d : D} {r : R F} {tg : Tg}
theorem seq_nx (h : fa call env S = .ok (.nx env1) S1) (h2 : fb call env1 S1 = r) : cSeq fa fb call env S = r := by simp only [cSeq, h, R.bind_okk, h2]
theorem seq_rtX (h : fa call env S = .ok (.rt d) S1) : cSeq fa fb call env S = .ok (.rt d) S1 := by simp only [cSeq, h, R.bind_okk]
theorem seq_rt (h : fe call env S = .ok d S1) : cSeq (cRet fe) fb call env S = .ok (.rt d) S1 := by simp only [cSeq, cRet, h, R.bind_okk]
theorem seq_if_f (h : ft call env S = .ok false S1) (h2 : fb call env S1 = r) : cSeq (cIfS ft fa cSkip) fb call env S = r := by
  simp only [cSeq, cIfS, h, R.bind_okk, Bool.false_eq_true, if_false, cSkip, h2]
theorem seq_if_t (h : ft call env S = .ok true S1) (h2 : fa call env S1 = .ok (.rt d) S2) : cSeq (cIfS ft fa fc) fb call env S = .ok (.rt d) S2 := by
  simp only [cSeq, cIfS, h, R.bind_okk, if_true, h2]
theorem seq_if_tn (h : ft call env S = .ok true S1) (h2 : fa call env S1 = .ok (.nx env1) S2) (h3 : fb call env1 S2 = r) : cSeq (cIfS ft fa fc) fb call env S = r := by
  simp only [cSeq, cIfS, h, R.bind_okk, if_true, h2, h3]
theorem seq_if_fn (h : ft call env S = .ok false S1) (h2 : fc call env S1 = .ok (.nx env1) S2) (h3 : fb call env1 S2 = r) : cSeq (cIfS ft fa fc) fb call env S = r := by
  simp only [cSeq, cIfS, h, R.bind_okk, Bool.false_eq_true, if_false, h2, h3]
theorem seq_asg (h : fe call env S = .ok d S1) (hb : bindT tg d env = some env1) (h2 : fb call env1 S1 = r) : cSeq (cAsg tg fe) fb call env S = r := by
  simp only [cSeq, cAsg, h, R.bind_okk, hb, h2]
theorem seq_exp (h : fe call env S = .ok d S1) (h2 : fb call env S1 = r) : cSeq (cExp fe) fb call env S = r := by
  simp only [cSeq, cExp, h, R.bind_okk, h2]
theorem seq_skip : cSeq cSkip fb call env S = fb call env S := rfl
theorem pu_f (h : ft call env S = .ok false S) (h2 : fb call env S = r) : cSeq (cIfS ft fa cSkip) fb call env S = r := seq_if_f h h2
theorem pu_t (h : ft call env S = .ok true S) (h2 : fa call env S = .ok (.rt d) S) : cSeq (cIfS ft fa fc) fb call env S = .ok (.rt d) S := seq_if_t h h2
theorem pu_tr {fd : ES} (h : ft call env S = .ok true S) (h2 : fe call env S = .ok d S) : cSeq (cIfS ft (cSeq (cRet fe) fd) fc) fb call env S = .ok (.rt d) S := seq_if_t h (seq_rt h2)
theorem pu_a (h : fe call env S = .ok d S) (hb : bindT tg d env = some env1) (h2 : fb call env1 S = r) : cSeq (cAsg tg fe) fb call env S = r := seq_asg h hb h2
theorem pu_e (h : fe call env S = .ok d S) (h2 : fb call env S = r) : cSeq (cExp fe) fb call env S = r := seq_exp h h2
theorem pu_r (h : fe call env S = .ok d S) : cSeq (cRet fe) fb call env S = .ok (.rt d) S := seq_rt h
theorem fin_pure {x : R F} (h : x = .ok (.rt d) []) (hd : clsD 0 d = true) : finish 0 0 x = .ok d [] := by rw [h]; exact done_nil hd
theorem fin_pureN {x : R F} (h : x = .ok (.nx env) []) : finish 0 0 x = .ok .non [] := by rw [h]; exact done_nil (d := .non) rfl
end
/-! ### comprehensions over data -/
section
variable {call : Call} {tg : Tg} {ft : EB} {fe : EE} {env : Env'} {S : Sto}
theorem lcL_pure {p : D → Bool} {g : D → D} : ∀ {items acc : List D}, (∀ d ∈ items, ∃ env1, bindT tg d env = some env1 ∧ ft call env1 S = .ok (p d) S ∧ (p d = true → fe call env1 S = .ok (g d) S)) →
    lcL call tg ft fe env items acc S = .ok (acc ++ (items.filter p).map g) S
  | [], acc, _ => by simp [lcL]
  | d :: r, acc, h => by
    obtain ⟨env1, h1, h2, h3⟩ := h d List.mem_cons_self
    have ih := fun acc => lcL_pure (items := r) (acc := acc) fun x hx => h x (List.mem_cons_of_mem _ hx)
    simp only [lcL, h1, h2, R.bind_okk]
    cases hp : p d with
    | true => simp only [if_true, h3 hp, R.bind_okk, ih, List.filter_cons_of_pos hp, List.map_cons, List.append_assoc, List.singleton_append]
    | false => simp [ih, List.filter_cons, hp]
theorem cLc_pure {fi : EI} {vs : List Nat} {items : List D} (p : D → Bool) (g : D → D) (hs : fi call env S = .ok (.frz items) S)
    (h : ∀ d ∈ items, ∃ env1, bindT tg d (wipeD env vs) = some env1 ∧ ft call env1 S = .ok (p d) S ∧ (p d = true → fe call env1 S = .ok (g d) S)) : cLc false tg vs ft fe fi call env S = .ok (.lst ((items.filter p).map g)) S := by
  simp only [cLc, hs, R.bind_okk, lcRun, lcL_pure h, noExc, mkL, List.nil_append, Bool.false_eq_true, if_false]
/-- without a test -/
theorem cLc_map {fi : EI} {vs : List Nat} {items : List D} (g : D → D) (hs : fi call env S = .ok (.frz items) S)
    (h : ∀ d ∈ items, ∃ env1, bindT tg d (wipeD env vs) = some env1 ∧ fe call env1 S = .ok (g d) S) : cLc false tg vs cYes fe fi call env S = .ok (.lst (items.map g)) S := by
  rw [cLc_pure (fun _ => true) g hs fun d hd => ?_]
  · rw [List.filter_eq_self.mpr fun _ _ => rfl]
  · obtain ⟨env1, h1, h2⟩ := h d hd
    exact ⟨env1, h1, rfl, fun _ => h2⟩
/-- the items of a comprehension with draws: S goes on -/
theorem lcL_sat {P : Sto → Prop} {Q : D → Prop} : ∀ {items acc : List D} {S : Sto}, P S → (∀ d ∈ items, ∀ S, P S → ∃ env1, bindT tg d env = some env1 ∧ Sat (fe call env1 S) fun y S' => P S' ∧ Q y) → (∀ y ∈ acc, Q y) →
    Sat (lcL call tg cYes fe env items acc S) fun ys S' => P S' ∧ ys.length = acc.length + items.length ∧ ∀ y ∈ ys, Q y
  | [], acc, S, hP, _, hq => sat_ok.mpr ⟨hP, by simp, hq⟩
  | d :: r, acc, S, hP, h, hq => by
    obtain ⟨env1, h1, h2⟩ := h d List.mem_cons_self S hP
    simp only [lcL, h1, cYes, R.bind_okk, if_true]
    refine h2.bind fun y S' ⟨hP', hy⟩ => ?_
    refine (lcL_sat (items := r) hP' (fun x hx => h x (List.mem_cons_of_mem _ hx)) fun z hz => ?_).imp fun ys S2 ⟨a1, a2, a3⟩ => ⟨a1, ?_, a3⟩
    · rcases List.mem_append.mp hz with q | q
      · exact hq z q
      · rw [List.mem_singleton] at q; exact q ▸ hy
    · rw [a2]; simp; omega
end
def trues (n : Nat) : List D := List.replicate n (.bl true)
theorem map_trues {α : Type} : ∀ l : List α, (l.map fun _ => D.bl true) = trues l.length
  | [] => rfl
  | _ :: r => by
    have := map_trues r
    simp only [trues] at this ⊢
    rw [List.map_cons, this, List.length_cons, List.replicate_succ]
theorem cLc_true {call : Call} {tg : Tg} {fe : EE} {env : Env'} {S : Sto} {fi : EI} {vs : List Nat} {items : List D} (hs : fi call env S = .ok (.frz items) S)
    (h : ∀ d ∈ items, ∃ env1, bindT tg d (wipeD env vs) = some env1 ∧ fe call env1 S = .ok (.bl true) S) : cLc false tg vs cYes fe fi call env S = .ok (.lst (trues items.length)) S := by
  rw [cLc_map (fun _ => .bl true) hs h, map_trues]
theorem boolsOf_map {α : Type} (f : α → Bool) : ∀ l : List α, boolsOf (l.map fun x => .bl (f x)) = some (l.map f)
  | [] => rfl
  | x :: r => by simp [boolsOf, boolsOf_map f r]
theorem all_true (n : Nat) (S : Sto) : pAll false [.lst (trues n)] S = .ok (.bl true) S := by
  have h : boolsOf (trues n) = some (List.replicate n true) := by
    induction n with
    | zero => rfl
    | succ n ih =>
      simp only [trues] at ih ⊢
      rw [List.replicate_succ, boolsOf, ih]; rfl
  simp only [pAll, deref_lst, h]
  congr 2
  simp
theorem intsOf_map {α : Type} (f : α → Int) : ∀ l : List α, intsOf (l.map fun x => .int (f x)) = some (l.map f)
  | [] => rfl
  | x :: r => by simp [intsOf, intsOf_map f r]
theorem strsOf_map {α : Type} (f : α → Str) : ∀ l : List α, strsOf (l.map fun x => .str (f x)) = some (l.map f)
  | [] => rfl
  | x :: r => by simp [strsOf, strsOf_map f r]
theorem cut_from1 {α : Type} (xs : List α) : cutD xs (some 1) none = xs.drop 1 := by
  unfold cutD
  cases xs with
  | nil => simp [HT.sIx]
  | cons x r =>
    have e : HT.sIx (x :: r).length 0 (some 1) = 1 := by simp [HT.sIx]
    rw [e, HT.sIx_none, List.take_of_length_le]
    simp
theorem cut_to {α : Type} (xs : List α) (n : Nat) : cutD xs none (some (n : Int)) = xs.take n := by
  unfold cutD
  rw [HT.sIx_none, HT.sIx_nat]
  simp only [List.drop_zero, Nat.sub_zero]
  rcases Nat.le_total n xs.length with h | h
  · rw [Nat.min_eq_left h]
  · rw [Nat.min_eq_right h, List.take_of_length_le (Nat.le_refl _), List.take_of_length_le h]
theorem pSl_from1 {ds : List D} {S : Sto} : pSl false (.lst ds) (some 1) none S = .ok (.lst (ds.drop 1)) S := by
  simp [pSl, deref_lst, mkL, cut_from1]
theorem pSl_to {ds : List D} {n : Nat} {S : Sto} : pSl false (.lst ds) none (some (n : Int)) S = .ok (.lst (ds.take n)) S := by
  simp [pSl, deref_lst, mkL, cut_to]
def isNon : D → Bool
  | .non => true
  | _ => false
theorem pIs_non {d : D} {S : Sto} : pIs false d .non S = .ok (.bl (isNon d)) S := by cases d <;> rfl
theorem pIs_nonN {d : D} {S : Sto} : pIs true d .non S = .ok (.bl (!isNon d)) S := by cases d <;> rfl
theorem isNon_non : isNon .non = true := rfl
theorem isNon_int {i : Int} : isNon (.int i) = false := rfl
theorem isNon_str {i : Str} : isNon (.str i) = false := rfl
theorem isNon_tup {i : List D} : isNon (.tup i) = false := rfl
theorem isNon_bl {i : Bool} : isNon (.bl i) = false := rfl
theorem range1_ok {fr : EA} {call : Call} {env : Env'} {S S1 : Sto} {n : Nat} (h : fr call env S = .ok [.int ((n : Nat) : Int)] S1) (hn : n ≤ 100000) : cRange1 fr call env S = .ok (.frz (rangeD 0 n)) S1 := by
  have e : -(2 ^ 62) ≤ ((n : Nat) : Int) ∧ ((n : Nat) : Int) < 2 ^ 62 ∧ ((n : Nat) : Int).toNat ≤ sizeLine := ⟨by omega, by omega, Nat.le_trans hn (by decide)⟩
  unfold cRange1
  rw [h, R.bind_okk]
  exact if_pos e
theorem chars_len (x : Str) : (chars x).length = x.length := by simp [chars, Str.length]
end Ev

set_option Elab.async false
set_option linter.all false
set_option maxRecDepth 100000
set_option maxHeartbeats 2000000
/-! Nv, part 2: kinds.py. -/
namespace Ev.Nv
open PySem PySem.Spec PyProof.Rows L2
local macro_rules
  | `(tactic| simp! [$ls,*]) => `(tactic| simp [List.getElem?_cons_zero, List.getElem?_cons_succ, List.set_cons_zero, List.set_cons_succ, pl_non, pl_bl, pl_int, pl_str, pl_tup, pl_lst, pls_nil, pls_cons, ns_non, ns_int, ns_str, ns_tup, nss_nil, nss_cons, cSeq, cRet, cIfS, cAsg, cExp, cSkip, cPar, cRetN, cVar, cK, cBin, cUn, cPrim, cCons, cNil, cCall, cIf, cTru, cNotT, cAndT, cOrT, cAndV, cOrV, cNotV, cB, cSl, cPart, cNoPart, cChain, cYes, R.bind_okk, R.at_okk, startD, bindT, bindTs, pIsi, tyD, isI, isTys, isCls, tysOf, isAny, pLen, pTup, pLst, pIx, pEq, pIs_non, pIs_nonN, isNon_non, isNon_int, isNon_str, isNon_tup, isNon_bl, wipeD, -List.map_map, pLt, pLe, pGt, pGe, pCmpI, pSub, mkL, truthD, deref_non, deref_bl, deref_int, deref_str, deref_tup, deref_lst, deref_dic, deref_scr, deref_ty, fin_rt, fin_nx, iso_okD, cl_non, cl_bl, cl_int, cl_str, cl_ty, cl_tup, cl_lst, cl_dic, cls_nil, cls_cons, clk_nil, clk_cons, done_nil, sz_lit, ofS_inj, atI0, atI1, atI2, strOk_ofS, eqD_str, eqD_int, inD_s2, inD_s3, inD_s4, all_true, $ls,*])
theorem succ_of {k n : Nat} (h : n + 1 ≤ k) : ∃ j, k = j + 1 ∧ n ≤ j := ⟨k - 1, by omega, by omega⟩
variable {rs : List Rd'} {ix : Nat → Nat} {k : Nat} {d : D}
def isNum : D → Bool
  | .int _ => true
  | _ => false
def nmC (c : Nat) : Bool := decide (97 ≤ c) && decide (c ≤ 122)
def nmB (s : Str) : Bool := decide (1 ≤ s.length) && (decide (s.length ≤ 8) && s.cps.toList.all nmC)
def isNm : D → Bool
  | .str s => nmB s
  | _ => false
theorem leC {c : Nat} : (!decide ((⟨#[c]⟩ : Str).cps.toList < ("a" : Str).cps.toList)) = decide (97 ≤ c) := by
  have e : ("a" : Str) = ⟨#[97]⟩ := by decide +kernel
  rw [e]
  by_cases h : 97 ≤ c <;> simp [h, List.cons_lt_cons_iff] <;> omega
theorem leC' {c : Nat} : (!decide (("z" : Str).cps.toList < (⟨#[c]⟩ : Str).cps.toList)) = decide (c ≤ 122) := by
  have e : ("z" : Str) = ⟨#[122]⟩ := by decide +kernel
  rw [e]
  by_cases h : c ≤ 122 <;> simp [h, List.cons_lt_cons_iff] <;> omega
section
variable [At_is_number rs ix]
theorem is_number_ok (hk : 1 ≤ k) (hd : plB d = true) : runF rs k (ix 0) [d] [] = .ok (.bl (isNum d)) [] := by
  obtain ⟨k, rfl, hj⟩ := succ_of hk
  have hc := plB_cls hd
  rw [run_at At_is_number.h]
  cases d <;> simp_all [plB] <;> simp! [r_is_number, isNum]
end
section
variable [At_is_list rs ix]
def isLst : D → Bool
  | .tup _ => true
  | .lst _ => true
  | _ => false
theorem is_list_ok (hk : 1 ≤ k) (hd : plB d = true) : runF rs k (ix 2) [d] [] = .ok (.bl (isLst d)) [] := by
  obtain ⟨k, rfl, hj⟩ := succ_of hk
  have hc := plB_cls hd
  rw [run_at At_is_list.h]
  cases d <;> simp_all [plB] <;> simp! [r_is_list, isLst]
end
section
variable [At_is_name rs ix]
theorem is_name_ok (hk : 1 ≤ k) (hd : plB d = true) : runF rs k (ix 3) [d] [] = .ok (.bl (isNm d)) [] := by
  obtain ⟨k, rfl, hj⟩ := succ_of hk
  have hc := plB_cls hd
  rw [run_at At_is_name.h]
  cases d <;> try (simp_all [plB] <;> simp! [r_is_name, isNm])
  rename_i s
  have h0 : ∀ S : Sto, r_is_name_c1 ix (runF rs k) [some (.str s), none] S = .ok (.lst ((chars s).map fun d => .bl (match d with
      | .str x => (match x.cps.toList with
        | [c] => nmC c
        | _ => false)
      | _ => false))) S := fun S => by
    refine cLc_map _ (items := chars s) rfl fun d hd => ?_
    obtain ⟨c, hc, rfl⟩ := List.mem_map.mp hd
    refine ⟨[some (.str s), some (.str ⟨#[c]⟩)], rfl, ?_⟩
    have a1 := @leC c
    have a2 := @leC' c
    simp only [cChain, cK, cVar, pLe, R.bind_okk, List.getElem?_cons_zero, List.getElem?_cons_succ, a1, a2]
    by_cases e1 : 97 ≤ c <;> simp [e1, nmC, a2]
  have h1 : s.cps.toList.all nmC = ((chars s).map fun d => (match d with
      | .str x => (match x.cps.toList with
        | [c] => nmC c
        | _ => false)
      | _ => false)).all id := by
    rw [List.all_map, chars, List.all_map]
    rfl
  have i1 : (1 ≤ (s.length : Int)) ↔ 1 ≤ s.length := by omega
  have i2 : ((s.length : Int) ≤ 8) ↔ s.length ≤ 8 := by omega
  by_cases h2 : 1 ≤ s.length <;> by_cases h3 : s.length ≤ 8 <;> simp! [r_is_name, isNm, nmB, h0, h1, h2, h3, i1, i2, pAll, boolsOf_map] <;> omega
end

section
variable [At_is_number rs ix] [At_is_between rs ix]
theorem is_between_ok (hk : 2 ≤ k) (hd : plB d = true) {lo hi : Int} : runF rs k (ix 1) [d, .int lo, .int hi] [] = .ok (.bl (match d with
    | .int i => decide (lo ≤ i) && decide (i ≤ hi)
    | _ => false)) [] := by
  obtain ⟨k, rfl, hj⟩ := succ_of hk
  have hc := plB_cls hd
  have h0 := is_number_ok (rs := rs) (ix := ix) hj hd
  rw [run_at At_is_between.h]
  cases d <;> try (simp_all [plB] <;> simp! [r_is_between, h0, isNum]; done)
  rename_i i
  by_cases h1 : lo ≤ i <;> simp! [r_is_between, h0, isNum, h1]
end
section
variable [At_is_number rs ix] [At_is_name rs ix] [At_is_constant rs ix]
def isCst : D → Bool
  | .int _ => true
  | .str s => nmB s
  | _ => false
theorem is_constant_ok (hk : 2 ≤ k) (hd : plB d = true) : runF rs k (ix 4) [d] [] = .ok (.bl (isCst d)) [] := by
  obtain ⟨k, rfl, hj⟩ := succ_of hk
  have hc := plB_cls hd
  have h0 := is_number_ok (rs := rs) (ix := ix) hj hd
  have h1 := is_name_ok (rs := rs) (ix := ix) hj hd
  rw [run_at At_is_constant.h]
  cases d <;> simp! [r_is_constant, h0, h1, hc, isNum, isCst, isNm]
end
section
variable [At_is_tagged rs ix]
/-- a tuple of so many whose first item is the word -/
def isTag (w : Str) (n : Nat) : D → Bool
  | .tup (.str x :: r) => decide (r.length + 1 = n) && decide (x = w)
  | _ => false
theorem is_tagged_ok {w : String} {n : Nat} (hk : 1 ≤ k) (hd : plB d = true) (hn : 1 ≤ n) (ho : ∀ x r, d = .tup (.str x :: r) → PyData.strOk x = true) : runF rs k (ix 5) [d, .str w, .int (n : Nat)] [] = .ok (.bl (isTag w n d)) [] := by
  obtain ⟨k, rfl, hj⟩ := succ_of hk
  have hc := plB_cls hd
  rw [run_at At_is_tagged.h]
  cases d <;> try (simp_all [plB] <;> simp! [r_is_tagged, isTag]; done)
  rename_i ds
  cases ds with
  | nil =>
    have : ¬ ((0 : Int) = (n : Nat)) := by omega
    simp! [r_is_tagged, isTag, this]
  | cons x r =>
    have e : (((r.length : Nat) : Int) + 1 = (n : Nat)) ↔ r.length + 1 = n := by omega
    by_cases h1 : r.length + 1 = n
    · cases x <;> simp [pl_tup, pls_cons, plB] at hd <;> try (simp! [r_is_tagged, isTag, e, h1]; done)
      rename_i s
      have := ho s r rfl
      simp! [r_is_tagged, isTag, e, h1, this]
    · cases x <;> simp [pl_tup, pls_cons, plB] at hd <;> simp! [r_is_tagged, isTag, e, h1]
end
section
variable [At_is_rising rs ix]
def risB : List Str → Bool
  | a :: b :: r => decide (a.cps.toList < b.cps.toList) && risB (b :: r)
  | _ => true
def ltP : D → Bool
  | .pr [.str a, .str b] => decide (a.cps.toList < b.cps.toList)
  | _ => false
theorem zip_ris : ∀ xs : List Str, ((zipD (xs.map D.str) ((xs.map D.str).drop 1)).map ltP).all id = risB xs
  | [] => rfl
  | [_] => rfl
  | a :: b :: r => by
    have ih := zip_ris (b :: r)
    simp only [List.map_cons, List.drop_succ_cons, List.drop_zero, zipD, List.all_cons, risB, ltP, id] at ih ⊢
    rw [ih]
theorem zip_mem : ∀ {xs ys : List D} {d : D}, d ∈ zipD xs ys → ∃ x y, d = .pr [x, y] ∧ x ∈ xs ∧ y ∈ ys
  | [], _, _, h => by simp [zipD] at h
  | _ :: _, [], _, h => by simp [zipD] at h
  | x :: xs, y :: ys, d, h => by
    simp only [zipD, List.mem_cons] at h
    rcases h with rfl | h
    · exact ⟨x, y, rfl, by simp, by simp⟩
    · obtain ⟨a, b, e, h1, h2⟩ := zip_mem h
      exact ⟨a, b, e, by simp [h1], by simp [h2]⟩
theorem is_rising_ok {xs : List Str} (hk : 1 ≤ k) : runF rs k (ix 6) [.lst (xs.map .str)] [] = .ok (.bl (risB xs)) [] := by
  obtain ⟨k, rfl, hj⟩ := succ_of hk
  rw [run_at At_is_rising.h]
  have h0 : r_is_rising_c1 ix (runF rs k) [some (.lst (xs.map .str)), none, none] [] = .ok (.lst ((zipD (xs.map D.str) ((xs.map D.str).drop 1)).map fun d => .bl (ltP d))) [] := by
    refine cLc_map _ (items := zipD (xs.map D.str) ((xs.map D.str).drop 1)) ?_ fun d hd => ?_
    · simp! [cZip, pSl_from1]
    · obtain ⟨x, y, rfl, hx, hy⟩ := zip_mem hd
      obtain ⟨a, _, rfl⟩ := List.mem_map.mp hx
      obtain ⟨b, _, rfl⟩ := List.mem_map.mp (List.mem_of_mem_drop hy)
      exact ⟨[some (.lst (xs.map .str)), some (.str a), some (.str b)], rfl, by simp! [ltP]⟩
  have h1 := zip_ris xs
  simp only [startD, List.map_cons, List.map_nil, List.length_cons, List.length_nil, List.replicate, List.cons_append, List.nil_append, r_is_rising, cSeq, cRet, cPrim, cCons, cNil, h0, R.bind_okk, pAll, deref_lst, boolsOf_map, Bool.false_eq_true, if_false, h1, fin_rt]
  exact done_nil rfl
end
end Ev.Nv

set_option Elab.async false
set_option linter.all false
set_option maxRecDepth 100000
set_option maxHeartbeats 4000000
/-! Nv, part 3: values: what the makers give, what the judges say of it. -/
namespace Ev.Nv
open PySem PySem.Spec PyProof.Rows L2
local macro_rules
  | `(tactic| simp! [$ls,*]) => `(tactic| simp [List.getElem?_cons_zero, List.getElem?_cons_succ, List.set_cons_zero, List.set_cons_succ, pl_non, pl_bl, pl_int, pl_str, pl_tup, pl_lst, pls_nil, pls_cons, ns_non, ns_int, ns_str, ns_tup, nss_nil, nss_cons, cSeq, cRet, cIfS, cAsg, cExp, cSkip, cPar, cRetN, cVar, cK, cBin, cUn, cPrim, cCons, cNil, cCall, cIf, cTru, cNotT, cAndT, cOrT, cAndV, cOrV, cNotV, cB, cSl, cPart, cNoPart, cChain, cYes, R.bind_okk, R.at_okk, startD, bindT, bindTs, pIsi, tyD, isI, isTys, isCls, tysOf, isAny, pLen, pTup, pLst, pIx, pEq, pIs_non, pIs_nonN, isNon_non, isNon_int, isNon_str, isNon_tup, isNon_bl, wipeD, -List.map_map, pLt, pLe, pGt, pGe, pCmpI, pSub, mkL, truthD, deref_non, deref_bl, deref_int, deref_str, deref_tup, deref_lst, deref_dic, deref_scr, deref_ty, fin_rt, fin_nx, iso_okD, cl_non, cl_bl, cl_int, cl_str, cl_ty, cl_tup, cl_lst, cl_dic, cls_nil, cls_cons, clk_nil, clk_cons, done_nil, sz_lit, ofS_inj, atI0, atI1, atI2, strOk_ofS, eqD_str, eqD_int, inD_s2, inD_s3, inD_s4, all_true, $ls,*])
def cstB : D → Bool
  | .int i => decide (-1000000000 ≤ i) && decide (i ≤ 1000000000)
  | .str s => nmB s
  | _ => false
def fieldD (f : Str × D) : D := .tup [.str f.1, f.2]
def pairD (p : D × D) : D := .tup [p.1, p.2]
/-- values of at most n levels, with at most two fields or pairs each -/
def VP : Nat → D → Prop
  | 0, _ => False
  | n + 1, d => cstB d = true ∨ (∃ a b, d = .tup [.str "pair", a, b] ∧ VP n a ∧ VP n b) ∨
    (∃ fs : List (Str × D), d = .tup [.str "record", .tup (fs.map fieldD)] ∧ fs.length ≤ 2 ∧ risB (fs.map (·.1)) = true ∧ ∀ f ∈ fs, nmB f.1 = true ∧ VP n f.2) ∨
    (∃ ps : List (D × D), d = .tup [.str "graph", .tup (ps.map pairD)] ∧ ps.length ≤ 2 ∧ ps.Nodup ∧ ∀ p ∈ ps, VP n p.1 ∧ (p.2 = .non ∨ VP n p.2))
theorem cstB_cases {d : D} (h : cstB d = true) : (∃ i, d = .int i ∧ -1000000000 ≤ i ∧ i ≤ 1000000000) ∨ ∃ s, d = .str s ∧ nmB s = true := by
  cases d <;> simp_all [cstB]
theorem nm_ok {s : Str} (h : nmB s = true) : PyData.strOk s = true ∧ 1 ≤ s.length ∧ s.length ≤ 8 := by
  simp only [nmB, Bool.and_eq_true, decide_eq_true_eq, List.all_eq_true] at h
  refine ⟨?_, h.1, h.2.1⟩
  simp only [PyData.strOk, Array.all_eq_true, decide_eq_true_eq]
  intro i hi
  have := h.2.2 s.cps[i] (by simp)
  simp only [nmC, Bool.and_eq_true, decide_eq_true_eq] at this
  omega
theorem VP.cases {n : Nat} {d : D} {P : Prop} (h : VP n d) (c1 : ∀ m, n = m + 1 → cstB d = true → P) (c2 : ∀ m a b, n = m + 1 → d = .tup [.str "pair", a, b] → VP m a → VP m b → P)
    (c3 : ∀ m (fs : List (Str × D)), n = m + 1 → d = .tup [.str "record", .tup (fs.map fieldD)] → fs.length ≤ 2 → risB (fs.map (·.1)) = true → (∀ f ∈ fs, nmB f.1 = true ∧ VP m f.2) → P)
    (c4 : ∀ m (ps : List (D × D)), n = m + 1 → d = .tup [.str "graph", .tup (ps.map pairD)] → ps.length ≤ 2 → ps.Nodup → (∀ p ∈ ps, VP m p.1 ∧ (p.2 = .non ∨ VP m p.2)) → P) : P := by
  cases n with
  | zero => exact h.elim
  | succ m =>
    rcases h with h | ⟨a, b, e, h1, h2⟩ | ⟨fs, e, h1, h2, h3⟩ | ⟨ps, e, h1, h2, h3⟩
    · exact c1 m rfl h
    · exact c2 m a b rfl e h1 h2
    · exact c3 m fs rfl e h1 h2 h3
    · exact c4 m ps rfl e h1 h2 h3
theorem VP.le : ∀ {n m : Nat} {d : D}, n ≤ m → VP n d → VP m d
  | 0, _, _, _, h => h.elim
  | n + 1, 0, _, h, _ => by omega
  | n + 1, m + 1, d, hl, h => by
    have ih : ∀ {d : D}, VP n d → VP m d := fun h => VP.le (by omega) h
    rcases h with h | ⟨a, b, e, h1, h2⟩ | ⟨fs, e, h1, h2, h3⟩ | ⟨ps, e, h1, h2, h3⟩
    · exact .inl h
    · exact .inr (.inl ⟨a, b, e, ih h1, ih h2⟩)
    · exact .inr (.inr (.inl ⟨fs, e, h1, h2, fun f hf => ⟨(h3 f hf).1, ih (h3 f hf).2⟩⟩))
    · exact .inr (.inr (.inr ⟨ps, e, h1, h2, fun p hp => ⟨ih (h3 p hp).1, (h3 p hp).2.imp id ih⟩⟩))
theorem VP.pl : ∀ {n : Nat} {d : D}, VP n d → plB d = true
  | 0, _, h => h.elim
  | n + 1, d, h => by
    rcases h with h | ⟨a, b, rfl, h1, h2⟩ | ⟨fs, rfl, h1, h2, h3⟩ | ⟨ps, rfl, h1, h2, h3⟩
    · rcases cstB_cases h with ⟨i, rfl, _⟩ | ⟨s, rfl, _⟩ <;> rfl
    · simp [plB, plBs, VP.pl h1, VP.pl h2]
    · simp only [plB, plBs, Bool.and_true, Bool.true_and, plBs_mem, List.mem_map]
      rintro _ ⟨f, hf, rfl⟩
      simp [fieldD, plB, plBs, VP.pl (h3 f hf).2]
    · simp only [plB, plBs, Bool.and_true, Bool.true_and, plBs_mem, List.mem_map]
      rintro _ ⟨p, hp, rfl⟩
      have := h3 p hp
      have q : plB p.2 = true := by rcases this.2 with e | e; rw [e]; rfl; exact VP.pl e
      simp [pairD, plB, plBs, VP.pl this.1, q]
theorem VP.ns : ∀ {n : Nat} {d : D}, VP n d → nsD d = true
  | 0, _, h => h.elim
  | n + 1, d, h => by
    rcases h with h | ⟨a, b, rfl, h1, h2⟩ | ⟨fs, rfl, h1, h2, h3⟩ | ⟨ps, rfl, h1, h2, h3⟩
    · rcases cstB_cases h with ⟨i, rfl, _⟩ | ⟨s, rfl, hs⟩
      · rfl
      · exact (nm_ok hs).1
    · simp [nsD, nsDs, VP.ns h1, VP.ns h2, strOk_ofS]
    · simp only [nsD, nsDs, strOk_ofS, Bool.and_true, Bool.true_and, nsDs_mem, List.mem_map]
      rintro _ ⟨f, hf, rfl⟩
      simp [fieldD, nsD, nsDs, VP.ns (h3 f hf).2, (nm_ok (h3 f hf).1).1]
    · simp only [nsD, nsDs, strOk_ofS, Bool.and_true, Bool.true_and, nsDs_mem, List.mem_map]
      rintro _ ⟨p, hp, rfl⟩
      have := h3 p hp
      have q : nsD p.2 = true := by rcases this.2 with e | e; rw [e]; rfl; exact VP.ns e
      simp [pairD, nsD, nsDs, VP.ns this.1, q]
theorem VP.dep : ∀ {n : Nat} {d : D}, VP n d → depD d ≤ 3 * n
  | 0, _, h => h.elim
  | n + 1, d, h => by
    rcases h with h | ⟨a, b, rfl, h1, h2⟩ | ⟨fs, rfl, h1, h2, h3⟩ | ⟨ps, rfl, h1, h2, h3⟩
    · rcases cstB_cases h with ⟨i, rfl, _⟩ | ⟨s, rfl, hs⟩ <;> simp [depD]
    · have := VP.dep h1; have := VP.dep h2
      simp only [depD, depDs]; omega
    · have q : depDs (fs.map fieldD) ≤ 3 * n + 1 := depDs_le.mpr fun d hd => by
        obtain ⟨f, hf, rfl⟩ := List.mem_map.mp hd
        have := VP.dep (h3 f hf).2
        simp only [fieldD, depD, depDs]; omega
      simp only [depD, depDs]; omega
    · have q : depDs (ps.map pairD) ≤ 3 * n + 1 := depDs_le.mpr fun d hd => by
        obtain ⟨p, hp, rfl⟩ := List.mem_map.mp hd
        have := h3 p hp
        have := VP.dep this.1
        have q : depD p.2 ≤ 3 * n := by rcases (h3 p hp).2 with e | e; rw [e]; simp [depD]; exact VP.dep e
        simp only [pairD, depD, depDs]; omega
      simp only [depD, depDs]; omega
end Ev.Nv

set_option Elab.async false
set_option linter.all false
set_option maxRecDepth 100000
set_option maxHeartbeats 4000000
/-! Nv, part 4: values.py: value_right and its like. -/
namespace Ev.Nv
open PySem PySem.Spec PyProof.Rows L2
local macro_rules
  | `(tactic| simp! [$ls,*]) => `(tactic| simp [List.getElem?_cons_zero, List.getElem?_cons_succ, List.set_cons_zero, List.set_cons_succ, pl_non, pl_bl, pl_int, pl_str, pl_tup, pl_lst, pls_nil, pls_cons, ns_non, ns_int, ns_str, ns_tup, nss_nil, nss_cons, cSeq, cRet, cIfS, cAsg, cExp, cSkip, cPar, cRetN, cVar, cK, cBin, cUn, cPrim, cCons, cNil, cCall, cIf, cTru, cNotT, cAndT, cOrT, cAndV, cOrV, cNotV, cB, cSl, cPart, cNoPart, cChain, cYes, R.bind_okk, R.at_okk, startD, bindT, bindTs, pIsi, tyD, isI, isTys, isCls, tysOf, isAny, pLen, pTup, pLst, pIx, pEq, pIs_non, pIs_nonN, isNon_non, isNon_int, isNon_str, isNon_tup, isNon_bl, wipeD, -List.map_map, pLt, pLe, pGt, pGe, pCmpI, pSub, mkL, truthD, deref_non, deref_bl, deref_int, deref_str, deref_tup, deref_lst, deref_dic, deref_scr, deref_ty, fin_rt, fin_nx, iso_okD, cl_non, cl_bl, cl_int, cl_str, cl_ty, cl_tup, cl_lst, cl_dic, cls_nil, cls_cons, clk_nil, clk_cons, done_nil, sz_lit, ofS_inj, atI0, atI1, atI2, strOk_ofS, eqD_str, eqD_int, inD_s2, inD_s3, inD_s4, all_true, $ls,*])
variable {rs : List Rd'} {ix : Nat → Nat} {k : Nat} {d : D}
theorem VP.cl {n : Nat} {d : D} (h : VP n d) : clsD 0 d = true := plB_cls h.pl
theorem fieldD_cl {fs : List (Str × D)} {n : Nat} (h : ∀ f ∈ fs, nmB f.1 = true ∧ VP n f.2) : clsDs 0 (fs.map fieldD) = true := clsDs_mem.mpr fun d hd => by
  obtain ⟨f, hf, rfl⟩ := List.mem_map.mp hd
  simp [fieldD, cl_tup, cls_cons, cl_str, cls_nil, (h f hf).2.cl]
theorem VP2.cl {n : Nat} {d : D} (h : d = .non ∨ VP n d) : clsD 0 d = true := by
  rcases h with e | e
  · rw [e]; rfl
  · exact e.cl
theorem pairD_cl {ps : List (D × D)} {n : Nat} (h : ∀ p ∈ ps, VP n p.1 ∧ (p.2 = .non ∨ VP n p.2)) : clsDs 0 (ps.map pairD) = true := clsDs_mem.mpr fun d hd => by
  obtain ⟨p, hp, rfl⟩ := List.mem_map.mp hd
  simp [pairD, cl_tup, cls_cons, cls_nil, (h p hp).1.cl, VP2.cl (h p hp).2]
theorem pairD_inj {a b : D × D} (h : pairD a = pairD b) : a = b := by
  cases a; cases b; simp [pairD] at h; simp [h]
theorem pairD_ns {p : D × D} {n : Nat} (h : VP n p.1 ∧ (p.2 = .non ∨ VP n p.2)) : nsD (pairD p) = true := by
  have q : nsD p.2 = true := by rcases h.2 with e | e; rw [e]; rfl; exact VP.ns e
  simp [pairD, nsD, nsDs, VP.ns h.1, q]
theorem pairD_dep {p : D × D} {n : Nat} (h : VP n p.1 ∧ (p.2 = .non ∨ VP n p.2)) : depD (pairD p) ≤ 3 * n + 1 := by
  have a := VP.dep h.1
  have q : depD p.2 ≤ 3 * n := by rcases h.2 with e | e; rw [e]; simp [depD]; exact VP.dep e
  simp only [pairD, depD, depDs]; omega
section
variable [At_is_number rs ix] [At_is_name rs ix] [At_is_constant rs ix] [At_is_tagged rs ix] [At_is_rising rs ix] [At_fields_right rs ix] [At_pairs_right rs ix] [At_right_within rs ix]
theorem fields_right_ok {fs : List (Str × D)} {z : Int} (hk : 1 ≤ k) (hc : clsDs 0 (fs.map fieldD) = true) (h : ∀ f ∈ fs, nmB f.1 = true ∧ plB f.2 = true ∧ runF rs k (ix 23) [f.2, .int z] [] = .ok (.bl true) []) (hr : risB (fs.map (·.1)) = true) :
    runF rs (k + 1) (ix 21) [.tup (fs.map fieldD), .int z] [] = .ok (.bl true) [] := by
  rw [run_at At_fields_right.h]
  have c3 : r_fields_right_c3 ix (runF rs k) [some (.tup (fs.map fieldD)), some (.int z), none, none, none] [] = .ok (.lst (trues (fs.map fieldD).length)) [] := cLc_true rfl fun d hd => by
    obtain ⟨f, hf, rfl⟩ := List.mem_map.mp hd
    exact ⟨_, rfl, by simp! [fieldD]⟩
  have c2 : r_fields_right_c2 ix (runF rs k) [some (.tup (fs.map fieldD)), some (.int z), none, none, none] [] = .ok (.lst (trues (fs.map fieldD).length)) [] := cLc_true rfl fun d hd => by
    obtain ⟨f, hf, rfl⟩ := List.mem_map.mp hd
    have h1 := is_name_ok (rs := rs) (ix := ix) (d := .str f.1) hk rfl
    have h2 := h f hf
    have h3 := plB_cls h2.2.1
    simp only [isNm, h2.1] at h1
    exact ⟨_, rfl, by simp! [fieldD, h1, h2.2.2, h3]⟩
  have c1 : r_fields_right_c1 ix (runF rs k) [some (.tup (fs.map fieldD)), some (.int z), none, none, none] [] = .ok (.lst ((fs.map (·.1)).map .str)) [] := by
    have := cLc_map (call := runF rs k) (tg := .tup [(.nm 2), (.nm 3)]) (vs := [2, 3]) (fe := cVar 2) (fi := cSrcN 0) (env := [some (.tup (fs.map fieldD)), some (.int z), none, none, none]) (S := []) (items := fs.map fieldD)
      (fun d => match d with
        | .tup [x, _] => x
        | d => d) rfl fun d hd => by
      obtain ⟨f, hf, rfl⟩ := List.mem_map.mp hd
      exact ⟨_, rfl, by simp! [fieldD]⟩
    refine this.trans ?_
    simp only [List.map_map]
    rfl
  have h6 := is_rising_ok (rs := rs) (ix := ix) (xs := fs.map (·.1)) hk
  have hs : clsDs 0 ((fs.map (·.1)).map D.str) = true := clsDs_mem.mpr fun d hd => by
    obtain ⟨x, _, rfl⟩ := List.mem_map.mp hd; rfl
  rw [hr] at h6
  simp! [r_fields_right, c1, c2, c3, h6, hs]
theorem pairs_nodup {ps : List (D × D)} {n i : Nat} (hn : 3 * n + 2 ≤ 180) (h : ∀ p ∈ ps, VP n p.1 ∧ (p.2 = .non ∨ VP n p.2)) (hnd : ps.Nodup) (hi : i < ps.length) :
    inD (pairD ps[i]) (.tup ((ps.map pairD).take i)) = some false := by
  have h2 : nsDs ((ps.map pairD).take i) = true := nsDs_mem.mpr fun d hd => by
    obtain ⟨p, hp, rfl⟩ := List.mem_map.mp (List.mem_of_mem_take hd)
    exact pairD_ns (h p hp)
  have h3 : nsD (pairD ps[i]) = true := pairD_ns (h _ (List.getElem_mem _))
  have h4 : depD (pairD ps[i]) ≤ 3 * n + 1 := pairD_dep (h _ (List.getElem_mem _))
  have h5 : pairD ps[i] ∉ (ps.map pairD).take i := fun m => by
    rw [← List.map_take] at m
    obtain ⟨p, hp, e⟩ := List.mem_map.mp m
    have e := pairD_inj e
    obtain ⟨j, hj, rfl⟩ := List.mem_iff_getElem.mp hp
    rw [List.getElem_take] at e
    simp only [List.length_take] at hj
    have := (List.getElem_inj hnd).mp e
    omega
  have hm : min (depDs ((ps.map pairD).take i)) (depD (pairD ps[i])) ≤ 180 := Nat.le_trans (Nat.min_le_right _ _) (by omega)
  rw [inD_tup h2 h3 hm]; simp [h5]
theorem pairs_right_ok {ps : List (D × D)} {z : Int} {n : Nat} (hn : 3 * n + 2 ≤ 180) (hl : ps.length ≤ 1000) (hc : clsDs 0 (ps.map pairD) = true) (h : ∀ p ∈ ps, VP n p.1 ∧ (p.2 = .non ∨ VP n p.2)) (hnd : ps.Nodup)
    (hr : ∀ p ∈ ps, runF rs k (ix 23) [p.1, .int z] [] = .ok (.bl true) [] ∧ (p.2 = .non ∨ runF rs k (ix 23) [p.2, .int z] [] = .ok (.bl true) [])) :
    runF rs (k + 1) (ix 22) [.tup (ps.map pairD), .int z] [] = .ok (.bl true) [] := by
  rw [run_at At_pairs_right.h]
  have c4 : r_pairs_right_c4 ix (runF rs k) [some (.tup (ps.map pairD)), some (.int z), none, none, none, none] [] = .ok (.lst (trues (ps.map pairD).length)) [] := cLc_true rfl fun d hd => by
    obtain ⟨p, hp, rfl⟩ := List.mem_map.mp hd
    exact ⟨_, rfl, by simp! [pairD]⟩
  have c3 : r_pairs_right_c3 ix (runF rs k) [some (.tup (ps.map pairD)), some (.int z), none, none, none, none] [] = .ok (.lst (trues (ps.map pairD).length)) [] := cLc_true rfl fun d hd => by
    obtain ⟨p, hp, rfl⟩ := List.mem_map.mp hd
    have h1 := (h p hp).1.cl
    exact ⟨_, rfl, by simp! [pairD, (hr p hp).1, h1]⟩
  have c2 : r_pairs_right_c2 ix (runF rs k) [some (.tup (ps.map pairD)), some (.int z), none, none, none, none] [] = .ok (.lst (trues (ps.map pairD).length)) [] := cLc_true rfl fun d hd => by
    obtain ⟨p, hp, rfl⟩ := List.mem_map.mp hd
    refine ⟨_, rfl, ?_⟩
    have h2 := VP2.cl (h p hp).2
    obtain ⟨x, y⟩ := p
    rcases (hr _ hp).2 with e | e
    · simp only at e; subst e; simp! [pairD]
    · simp only at e h2
      cases hy : isNon y <;> simp! [pairD, e, h2, hy]
  have c1 : r_pairs_right_c1 ix (runF rs k) [some (.tup (ps.map pairD)), some (.int z), none, none, none, none] [] = .ok (.lst (trues (rangeD 0 ps.length).length)) [] := by
    refine cLc_true (items := rangeD 0 ps.length) ?_ fun d hd => ?_
    · exact range1_ok (by simp! [List.length_map]) (by omega)
    · obtain ⟨i, hi, rfl⟩ := List.mem_map.mp hd
      rw [List.mem_range] at hi
      refine ⟨_, rfl, ?_⟩
      have hi2 : i < (ps.map pairD).length := by simpa using hi
      have h1 : L2.atI (ps.map pairD) ((i : Nat) : Int) = some (pairD ps[i]) := by rw [atI_nat hi2]; simp
      have hi3 : i < ps.length := by simpa using hi
      have h6 := pairs_nodup hn h hnd hi3
      have h7 : pSl false (.tup (ps.map pairD)) none (some ((i : Nat) : Int)) [] = .ok (.tup ((ps.map pairD).take i)) [] := by
        simp [pSl, deref_tup, cut_to]
      simp! [h1, h7, pIn, h6, Int.zero_add]
  refine fin_pure (d := .bl true) ?_ rfl
  refine pu_f (by simp! [c4]) ?_
  refine pu_f (by simp! [c3]) ?_
  refine pu_f (by simp! [c2]) ?_
  exact pu_r (by simp! [c1])
end
end Ev.Nv

set_option Elab.async false
set_option linter.all false
set_option maxRecDepth 100000
set_option maxHeartbeats 4000000
/-! Nv, part 5: right_within, nodes, value_right. -/
namespace Ev.Nv
open PySem PySem.Spec PyProof.Rows L2
local macro_rules
  | `(tactic| simp! [$ls,*]) => `(tactic| simp [List.getElem?_cons_zero, List.getElem?_cons_succ, List.set_cons_zero, List.set_cons_succ, pl_non, pl_bl, pl_int, pl_str, pl_tup, pl_lst, pls_nil, pls_cons, ns_non, ns_int, ns_str, ns_tup, nss_nil, nss_cons, cSeq, cRet, cIfS, cAsg, cExp, cSkip, cPar, cRetN, cVar, cK, cBin, cUn, cPrim, cCons, cNil, cCall, cIf, cTru, cNotT, cAndT, cOrT, cAndV, cOrV, cNotV, cB, cSl, cPart, cNoPart, cChain, cYes, R.bind_okk, R.at_okk, startD, bindT, bindTs, pIsi, tyD, isI, isTys, isCls, tysOf, isAny, pLen, pTup, pLst, pIx, pEq, pIs_non, pIs_nonN, isNon_non, isNon_int, isNon_str, isNon_tup, isNon_bl, wipeD, -List.map_map, pLt, pLe, pGt, pGe, pCmpI, pSub, mkL, truthD, deref_non, deref_bl, deref_int, deref_str, deref_tup, deref_lst, deref_dic, deref_scr, deref_ty, fin_rt, fin_nx, iso_okD, cl_non, cl_bl, cl_int, cl_str, cl_ty, cl_tup, cl_lst, cl_dic, cls_nil, cls_cons, clk_nil, clk_cons, done_nil, sz_lit, ofS_inj, atI0, atI1, atI2, strOk_ofS, eqD_str, eqD_int, inD_s2, inD_s3, inD_s4, all_true, $ls,*])
variable {rs : List Rd'} {ix : Nat → Nat} {k : Nat} {d : D}
theorem tag_side {w : String} {r : List D} : ∀ x r', D.tup (.str (Str.ofString w) :: r) = .tup (.str x :: r') → PyData.strOk x = true := fun x r' e => by
  simp only [D.tup.injEq, List.cons.injEq, D.str.injEq] at e
  rw [← e.1]; exact strOk_ofS _
theorem isTag_ofS {w v : String} {n : Nat} {r : List D} : isTag (Str.ofString w) n (.tup (.str (Str.ofString v) :: r)) = (decide (r.length + 1 = n) && decide (v = w)) := by
  simp only [isTag, ofS_inj]
theorem isCst_tup {ds : List D} : isCst (.tup ds) = false := rfl
theorem isCst_of {d : D} (h : cstB d = true) : isCst d = true := by
  rcases cstB_cases h with ⟨i, rfl, _⟩ | ⟨s, rfl, hs⟩
  · rfl
  · exact hs
section
variable [At_is_tagged rs ix]
theorem tagged_w {w v : String} {r : List D} {n : Nat} {z : Int} (hz : z = (n : Nat)) (hn : 1 ≤ n) (hk : 1 ≤ k) (hd : plBs r = true) : runF rs k (ix 5) [.tup (.str (Str.ofString v) :: r), .str (Str.ofString w), .int z] [] = .ok (.bl (decide (r.length + 1 = n) && decide (v = w))) [] := by
  subst hz
  have h := is_tagged_ok (rs := rs) (ix := ix) (d := .tup (.str (Str.ofString v) :: r)) (w := w) (n := n) hk (by simp [pl_tup, pls_cons, pl_str, hd]) hn tag_side
  rw [isTag_ofS] at h
  exact h
end
section
variable [At_is_number rs ix] [At_is_name rs ix] [At_is_constant rs ix] [At_is_tagged rs ix] [At_is_rising rs ix] [At_fields_right rs ix] [At_pairs_right rs ix] [At_right_within rs ix]
theorem right_within_ok : ∀ {n k : Nat} {d : D} {z : Int}, n ≤ 50 → VP n d → (n : Int) ≤ z → 2 * n + 3 ≤ k → runF rs k (ix 23) [d, .int z] [] = .ok (.bl true) []
  | 0, _, _, _, _, h, _, _ => h.elim
  | n + 1, k, d, z, h50, h, hz, hk => by
    have hp := h.pl
    have hc := h.cl
    obtain ⟨k, rfl, hj⟩ := succ_of (n := 2 * n + 4) (by omega)
    have h4 := is_constant_ok (rs := rs) (ix := ix) (k := k) (by omega) hp
    have z0 : (0 : Int) < z := by omega
    have z1 : ¬ (z = 0) := by omega
    have ih : ∀ {d : D} {k : Nat}, VP n d → 2 * n + 3 ≤ k → runF rs k (ix 23) [d, .int (z - 1)] [] = .ok (.bl true) [] := fun h hk => right_within_ok (by omega) h (by omega) hk
    rw [run_at At_right_within.h]
    refine fin_pure (d := .bl true) ?_ rfl
    refine h.cases (fun m e hcst => ?_) (fun m a b e e2 h1 h2 => ?_) (fun m fs e e2 h1 h2 h3 => ?_) fun m ps e e2 h1 h2 h3 => ?_
    · rw [isCst_of hcst] at h4
      exact pu_tr (by simp! [h4, hc]) (by simp! [z0])
    · cases e; subst e2
      rw [isCst_tup] at h4
      have t1 := tagged_w (rs := rs) (ix := ix) (k := k) (w := "pair") (v := "pair") (r := [a, b]) (n := 3) (z := 3) rfl (by omega) (by omega) (by simp [pls_cons, pls_nil, h1.pl, h2.pl])
      have i1 := ih h1 (k := k) (by omega)
      have i2 := ih h2 (k := k) (by omega)
      refine pu_f (by simp! [h4, hc, h1.cl, h2.cl]) ?_
      refine pu_f (by simp! [z1]) ?_
      exact pu_tr (by simp! [t1, h1.cl, h2.cl]) (by simp! [i1, i2, h1.cl, h2.cl])
    · cases e; subst e2
      rw [isCst_tup] at h4
      have hl : plBs [.tup (fs.map fieldD)] = true := by have := h.pl; simpa [pl_tup, pls_cons, pl_str] using this
      have hf := fieldD_cl h3
      have t1 := tagged_w (rs := rs) (ix := ix) (k := k) (w := "pair") (v := "record") (r := [.tup (fs.map fieldD)]) (n := 3) (z := 3) rfl (by omega) (by omega) hl
      have t2 := tagged_w (rs := rs) (ix := ix) (k := k) (w := "record") (v := "record") (r := [.tup (fs.map fieldD)]) (n := 2) (z := 2) rfl (by omega) (by omega) hl
      obtain ⟨k, rfl, hj2⟩ := succ_of (n := 2 * n + 3) (k := k) (by omega)
      have f1 := fields_right_ok (rs := rs) (ix := ix) (k := k) (fs := fs) (z := z - 1) (by omega) hf (fun f hf => ⟨(h3 f hf).1, (h3 f hf).2.pl, ih (h3 f hf).2 (by omega)⟩) h2
      refine pu_f (by simp! [h4, hc, hf]) ?_
      refine pu_f (by simp! [z1]) ?_
      refine pu_f (by simp! [t1, hf]) ?_
      exact pu_tr (by simp! [t2, hf]) (by simp! [f1, hf])
    · cases e; subst e2
      rw [isCst_tup] at h4
      have hl : plBs [.tup (ps.map pairD)] = true := by have := h.pl; simpa [pl_tup, pls_cons, pl_str] using this
      have hf := pairD_cl h3
      have t1 := tagged_w (rs := rs) (ix := ix) (k := k) (w := "pair") (v := "graph") (r := [.tup (ps.map pairD)]) (n := 3) (z := 3) rfl (by omega) (by omega) hl
      have t2 := tagged_w (rs := rs) (ix := ix) (k := k) (w := "record") (v := "graph") (r := [.tup (ps.map pairD)]) (n := 2) (z := 2) rfl (by omega) (by omega) hl
      have t3 := tagged_w (rs := rs) (ix := ix) (k := k) (w := "graph") (v := "graph") (r := [.tup (ps.map pairD)]) (n := 2) (z := 2) rfl (by omega) (by omega) hl
      obtain ⟨k, rfl, hj2⟩ := succ_of (n := 2 * n + 3) (k := k) (by omega)
      have f1 := pairs_right_ok (rs := rs) (ix := ix) (k := k) (ps := ps) (z := z - 1) (n := n) (by omega) (by omega) hf h3 h2 (fun p hp => ⟨ih (h3 p hp).1 (by omega), (h3 p hp).2.imp id fun q => ih q (by omega)⟩)
      refine pu_f (by simp! [h4, hc, hf]) ?_
      refine pu_f (by simp! [z1]) ?_
      refine pu_f (by simp! [t1, hf]) ?_
      refine pu_f (by simp! [t2, hf]) ?_
      exact pu_r (by simp! [t3, f1, hf])
end
end Ev.Nv

set_option Elab.async false
set_option linter.all false
set_option maxRecDepth 100000
set_option maxHeartbeats 4000000
/-! Nv, part 6: nodes, value_right, kind_told. -/
namespace Ev.Nv
open PySem PySem.Spec PyProof.Rows L2
local macro_rules
  | `(tactic| simp! [$ls,*]) => `(tactic| simp [List.getElem?_cons_zero, List.getElem?_cons_succ, List.set_cons_zero, List.set_cons_succ, pl_non, pl_bl, pl_int, pl_str, pl_tup, pl_lst, pls_nil, pls_cons, ns_non, ns_int, ns_str, ns_tup, nss_nil, nss_cons, cSeq, cRet, cIfS, cAsg, cExp, cSkip, cPar, cRetN, cVar, cK, cBin, cUn, cPrim, cCons, cNil, cCall, cIf, cTru, cNotT, cAndT, cOrT, cAndV, cOrV, cNotV, cB, cSl, cPart, cNoPart, cChain, cYes, R.bind_okk, R.at_okk, startD, bindT, bindTs, pIsi, tyD, isI, isTys, isCls, tysOf, isAny, pLen, pTup, pLst, pIx, pEq, pIs_non, pIs_nonN, isNon_non, isNon_int, isNon_str, isNon_tup, isNon_bl, wipeD, -List.map_map, pLt, pLe, pGt, pGe, pCmpI, pSub, mkL, truthD, deref_non, deref_bl, deref_int, deref_str, deref_tup, deref_lst, deref_dic, deref_scr, deref_ty, fin_rt, fin_nx, iso_okD, cl_non, cl_bl, cl_int, cl_str, cl_ty, cl_tup, cl_lst, cl_dic, cls_nil, cls_cons, clk_nil, clk_cons, done_nil, sz_lit, ofS_inj, atI0, atI1, atI2, strOk_ofS, eqD_str, eqD_int, inD_s2, inD_s3, inD_s4, all_true, $ls,*])
variable {rs : List Rd'} {ix : Nat → Nat} {k : Nat} {d : D}
def outI (r : R D) : Int := match r with
  | .ok (.int c) _ => c
  | _ => 0
theorem sum_le {α : Type} {g : α → Int} {B : Int} : ∀ {l : List α}, (∀ x ∈ l, 0 ≤ g x ∧ g x ≤ B) → 0 ≤ (l.map g).sum ∧ (l.map g).sum ≤ l.length * B
  | [], _ => by simp
  | x :: l, h => by
    have a := h x (by simp)
    have b := sum_le (l := l) fun y hy => h y (by simp [hy])
    simp only [List.map_cons, List.sum_cons, List.length_cons]
    have e : ((l.length + 1 : Nat) : Int) * B = l.length * B + B := by rw [Int.natCast_add]; simp [Int.add_mul]
    rw [e]
    omega
theorem isNum_tup {ds : List D} : isNum (.tup ds) = false := rfl
section
variable [At_is_number rs ix] [At_is_name rs ix] [At_is_constant rs ix] [At_nodes rs ix]
theorem nodes_non (hk : 1 ≤ k) : runF rs k (ix 26) [.non] [] = .ok (.int 1) [] := by
  obtain ⟨k, rfl, hj⟩ := succ_of hk
  rw [run_at At_nodes.h]
  refine fin_pure (d := .int 1) ?_ rfl
  exact pu_tr (by simp! [R.bind_okk]) (by simp! [R.bind_okk])
theorem nodes_ok : ∀ {n k : Nat} {d : D}, VP n d → 2 * n + 3 ≤ k → ∃ c : Int, runF rs k (ix 26) [d] [] = .ok (.int c) [] ∧ 1 ≤ c ∧ c ≤ 5 ^ n
  | 0, _, _, h, _ => h.elim
  | n + 1, k, d, h, hk => by
    have hp := h.pl
    have hc := h.cl
    obtain ⟨k, rfl, hj⟩ := succ_of (n := 2 * n + 4) (by omega)
    have h4 := is_constant_ok (rs := rs) (ix := ix) (k := k) (by omega) hp
    have ih : ∀ {d : D}, VP n d → ∃ c : Int, runF rs k (ix 26) [d] [] = .ok (.int c) [] ∧ 1 ≤ c ∧ c ≤ 5 ^ n := fun h => nodes_ok h (by omega)
    have hB : (1 : Int) ≤ 5 ^ n := Int.pow_pos (by decide)
    have e5 : (5 : Int) ^ (n + 1) = 5 * 5 ^ n := by rw [Int.pow_succ, Int.mul_comm]
    generalize hBe : (5 : Int) ^ n = B at *
    rw [run_at At_nodes.h, e5]
    refine h.cases (fun m e hcst => ?_) (fun m a b e e2 h1 h2 => ?_) (fun m fs e e2 h1 h2 h3 => ?_) fun m ps e e2 h1 h2 h3 => ?_
    · rw [isCst_of hcst] at h4
      have hn : isNon d = false := by rcases cstB_cases hcst with ⟨i, rfl, _⟩ | ⟨s, rfl, _⟩ <;> rfl
      exact ⟨1, fin_pure (pu_tr (by simp! [h4, hc, hn]) (by simp! [R.bind_okk])) rfl, by omega, by omega⟩
    · cases e; subst e2
      rw [isCst_tup] at h4
      obtain ⟨c1, i1, l1, u1⟩ := ih h1
      obtain ⟨c2, i2, l2, u2⟩ := ih h2
      refine ⟨1 + c1 + c2, fin_pure ?_ rfl, by omega, by omega⟩
      refine pu_f (by simp! [h4, h1.cl, h2.cl]) ?_
      exact pu_tr (by simp! [R.bind_okk]) (by simp! [i1, i2, h1.cl, h2.cl, pAdd])
    · cases e; subst e2
      rw [isCst_tup] at h4
      have hf := fieldD_cl h3
      have c1 : r_nodes_c2 ix (runF rs k) [some (.tup [.str (Str.ofString "record"), .tup (fs.map fieldD)]), none, none, none, none] [] = .ok (.lst (fs.map fun f => .int (outI (runF rs k (ix 26) [f.2] [])))) [] := by
        have := cLc_map (call := runF rs k) (tg := .tup [(.nm 3), (.nm 4)]) (vs := [3, 4]) (fe := cCall (ix 26) 1 [] (cCons (cVar 4) cNil)) (fi := cSrc (cBin pIx (cVar 0) (cK (.int 1)))) (env := [some (.tup [.str (Str.ofString "record"), .tup (fs.map fieldD)]), none, none, none, none]) (S := []) (items := fs.map fieldD)
          (fun d => match d with
            | .tup [_, v] => .int (outI (runF rs k (ix 26) [v] []))
            | d => d) (by simp! [cSrc, srcOf]) fun d hd => by
            obtain ⟨f, hf, rfl⟩ := List.mem_map.mp hd
            obtain ⟨c, i1, _⟩ := ih (h3 f hf).2
            exact ⟨_, rfl, by simp! [fieldD, i1, (h3 f hf).2.cl, outI]⟩
        refine this.trans ?_
        simp only [List.map_map]
        rfl
      have hs := sum_le (g := fun f : Str × D => outI (runF rs k (ix 26) [f.2] [])) (B := B) (l := fs) fun f hf => by
        obtain ⟨c, i1, l1, u1⟩ := ih (h3 f hf).2
        simp only [i1, outI]; omega
      refine ⟨1 + (fs.map fun f => outI (runF rs k (ix 26) [f.2] [])).sum, fin_pure ?_ rfl, by omega, ?_⟩
      · refine pu_f (by simp! [h4, hf]) ?_
        refine pu_f (by simp! [R.bind_okk]) ?_
        exact pu_tr (by simp! [R.bind_okk]) (by simp! [c1, pSum, intsOf_map, pAdd])
      · have : (fs.length : Int) * B ≤ 2 * B := Int.mul_le_mul_of_nonneg_right (by omega) (by omega)
        omega
    · cases e; subst e2
      rw [isCst_tup] at h4
      have hf := pairD_cl h3
      have ih2 : ∀ {d : D}, d = .non ∨ VP n d → ∃ c : Int, runF rs k (ix 26) [d] [] = .ok (.int c) [] ∧ 1 ≤ c ∧ c ≤ B := fun h => by
        rcases h with e | e
        · subst e; exact ⟨1, nodes_non (by omega), by omega, by omega⟩
        · exact ih e
      have c1 : r_nodes_c1 ix (runF rs k) [some (.tup [.str (Str.ofString "graph"), .tup (ps.map pairD)]), none, none, none, none] [] = .ok (.lst (ps.map fun p => .int (outI (runF rs k (ix 26) [p.1] []) + outI (runF rs k (ix 26) [p.2] [])))) [] := by
        have := cLc_map (call := runF rs k) (tg := .tup [(.nm 1), (.nm 2)]) (vs := [1, 2]) (fe := cBin (pAdd false) (cCall (ix 26) 1 [] (cCons (cVar 1) cNil)) (cCall (ix 26) 1 [] (cCons (cVar 2) cNil))) (fi := cSrc (cBin pIx (cVar 0) (cK (.int 1)))) (env := [some (.tup [.str (Str.ofString "graph"), .tup (ps.map pairD)]), none, none, none, none]) (S := []) (items := ps.map pairD)
          (fun d => match d with
            | .tup [u, v] => .int (outI (runF rs k (ix 26) [u] []) + outI (runF rs k (ix 26) [v] []))
            | d => d) (by simp! [cSrc, srcOf]) fun d hd => by
            obtain ⟨f, hf, rfl⟩ := List.mem_map.mp hd
            obtain ⟨c, i1, _⟩ := ih (h3 f hf).1
            obtain ⟨c, i2, _⟩ := ih2 (h3 f hf).2
            exact ⟨_, rfl, by simp! [pairD, i1, i2, (h3 f hf).1.cl, VP2.cl (h3 f hf).2, outI, pAdd]⟩
        refine this.trans ?_
        simp only [List.map_map]
        rfl
      have hs := sum_le (g := fun p : D × D => outI (runF rs k (ix 26) [p.1] []) + outI (runF rs k (ix 26) [p.2] [])) (B := 2 * B) (l := ps) fun f hf => by
        obtain ⟨c, i1, l1, u1⟩ := ih (h3 f hf).1
        obtain ⟨c', i2, l2, u2⟩ := ih2 (h3 f hf).2
        simp only [i1, i2, outI]; omega
      refine ⟨1 + (ps.map fun p => outI (runF rs k (ix 26) [p.1] []) + outI (runF rs k (ix 26) [p.2] [])).sum, fin_pure ?_ rfl, by omega, ?_⟩
      · refine pu_f (by simp! [h4, hf]) ?_
        refine pu_f (by simp! [R.bind_okk]) ?_
        refine pu_f (by simp! [R.bind_okk]) ?_
        exact pu_r (by simp! [c1, pSum, intsOf_map, pAdd])
      · have : (ps.length : Int) * (2 * B) ≤ 2 * (2 * B) := Int.mul_le_mul_of_nonneg_right (by omega) (by omega)
        omega
end
section
variable [At_is_number rs ix] [At_is_name rs ix] [At_is_constant rs ix] [At_is_tagged rs ix] [At_is_rising rs ix] [At_fields_right rs ix] [At_pairs_right rs ix] [At_right_within rs ix] [At_nodes rs ix] [At_value_right rs ix]
theorem value_right_ok {n : Nat} (hn : n ≤ 4) (h : VP n d) (hk : 20 ≤ k) : runF rs k (ix 24) [d] [] = .ok (.bl true) [] := by
  obtain ⟨k, rfl, hj⟩ := succ_of (n := 19) hk
  have i1 := right_within_ok (rs := rs) (ix := ix) (k := k) (z := 60) (n := n) (by omega) h (by omega) (by omega)
  obtain ⟨c, i2, _, u⟩ := nodes_ok (rs := rs) (ix := ix) (k := k) h (by omega)
  have u2 : c ≤ 2000 := by
    have : (5 : Int) ^ n ≤ 5 ^ 4 := by
      have := Nat.pow_le_pow_right (n := 5) (by decide) hn
      exact_mod_cast this
    omega
  rw [run_at At_value_right.h]
  refine fin_pure (d := .bl true) ?_ rfl
  exact pu_r (by simp! [i1, i2, h.cl, u2])
end
section
variable [At_is_number rs ix] [At_is_name rs ix] [At_is_constant rs ix] [At_is_tagged rs ix] [At_is_rising rs ix] [At_fields_right rs ix] [At_pairs_right rs ix] [At_right_within rs ix] [At_nodes rs ix] [At_value_right rs ix] [At_need_value rs ix]
theorem need_value_ok {n : Nat} (hn : n ≤ 4) (h : VP n d) (hk : 21 ≤ k) : runF rs k (ix 25) [d] [] = .ok .non [] := by
  obtain ⟨k, rfl, hj⟩ := succ_of (n := 20) hk
  have i1 := value_right_ok (rs := rs) (ix := ix) (k := k) hn h (by omega)
  rw [run_at At_need_value.h]
  refine fin_pureN (env := [some d]) ?_
  exact pu_f (by simp! [i1, h.cl]) rfl
end
section
variable [At_is_number rs ix] [At_kind_told rs ix]
/-- the word of a value's kind -/
def kindD : D → D
  | .int _ => .str "number"
  | .str _ => .str "name"
  | .tup (w :: _) => w
  | d => d
theorem kind_told_ok {n : Nat} (h : VP n d) (hk : 2 ≤ k) : runF rs k (ix 27) [d] [] = .ok (kindD d) [] := by
  obtain ⟨k, rfl, hj⟩ := succ_of (n := 1) hk
  have h0 := is_number_ok (rs := rs) (ix := ix) (k := k) (by omega) h.pl
  have hc := h.cl
  rw [run_at At_kind_told.h]
  refine h.cases (fun m e hcst => ?_) (fun m a b e e2 h1 h2 => ?_) (fun m fs e e2 h1 h2 h3 => ?_) fun m ps e e2 h1 h2 h3 => ?_
  · rcases cstB_cases hcst with ⟨i, rfl, _⟩ | ⟨s, rfl, _⟩
    · exact fin_pure (pu_tr (by simp! [h0, isNum]) (by simp! [kindD])) rfl
    · exact fin_pure (pu_f (by simp! [h0, isNum]) (pu_r (by simp! [kindD]))) rfl
  all_goals
    subst e2
    exact fin_pure (pu_f (by simp! [h0, hc, isNum_tup]) (pu_r (by simp! [kindD]))) rfl
end
end Ev.Nv

set_option Elab.async false
set_option linter.all false
set_option maxRecDepth 100000
set_option maxHeartbeats 4000000
/-! Nv, part 7: types: what the makers give. -/
namespace Ev.Nv
open PySem PySem.Spec PyProof.Rows L2
local macro_rules
  | `(tactic| simp! [$ls,*]) => `(tactic| simp [List.getElem?_cons_zero, List.getElem?_cons_succ, List.set_cons_zero, List.set_cons_succ, pl_non, pl_bl, pl_int, pl_str, pl_tup, pl_lst, pls_nil, pls_cons, ns_non, ns_int, ns_str, ns_tup, nss_nil, nss_cons, cSeq, cRet, cIfS, cAsg, cExp, cSkip, cPar, cRetN, cVar, cK, cBin, cUn, cPrim, cCons, cNil, cCall, cIf, cTru, cNotT, cAndT, cOrT, cAndV, cOrV, cNotV, cB, cSl, cPart, cNoPart, cChain, cYes, R.bind_okk, R.at_okk, startD, bindT, bindTs, pIsi, tyD, isI, isTys, isCls, tysOf, isAny, pLen, pTup, pLst, pIx, pEq, pIs_non, pIs_nonN, isNon_non, isNon_int, isNon_str, isNon_tup, isNon_bl, wipeD, -List.map_map, pLt, pLe, pGt, pGe, pCmpI, pSub, mkL, truthD, deref_non, deref_bl, deref_int, deref_str, deref_tup, deref_lst, deref_dic, deref_scr, deref_ty, fin_rt, fin_nx, iso_okD, cl_non, cl_bl, cl_int, cl_str, cl_ty, cl_tup, cl_lst, cl_dic, cls_nil, cls_cons, clk_nil, clk_cons, done_nil, sz_lit, ofS_inj, atI0, atI1, atI2, strOk_ofS, eqD_str, eqD_int, inD_s2, inD_s3, inD_s4, all_true, $ls,*])
variable {rs : List Rd'} {ix : Nat → Nat} {k : Nat} {d : D}
def tfD (f : Str × D × Bool) : D := .tup [.str f.1, f.2.1, .bl f.2.2]
def bndB : D → D → Bool
  | .non, .non => true
  | .non, .int _ => true
  | .int _, .non => true
  | .int a, .int b => decide (a ≤ b)
  | _, _ => false
def Bin (w : String) : Prop := w = "pair" ∨ w = "fun" ∨ w = "or" ∨ w = "and"
def LeafP (nm : List Str) (t : D) : Prop := (∃ w : String, (w = "any" ∨ w = "none" ∨ w = "names") ∧ t = .tup [.str w]) ∨ (∃ c, cstB c = true ∧ t = .tup [.str "is", c]) ∨
  (∃ lo hi, bndB lo hi = true ∧ t = .tup [.str "from", lo, hi]) ∨ (∃ x, x ∈ nm ∧ nmB x = true ∧ t = .tup [.str "the", .str x])
/-- types of at most m levels over some names, with at most two fields a record -/
def TP (nm : List Str) : Nat → D → Prop
  | 0, _ => False
  | m + 1, t => LeafP nm t ∨ (∃ a, TP nm m a ∧ t = .tup [.str "not", a]) ∨ (∃ (w : String) (a b : D), Bin w ∧ TP nm m a ∧ TP nm m b ∧ t = .tup [.str w, a, b]) ∨
    (∃ (fs : List (Str × D × Bool)) (o : Bool), fs.length ≤ 2 ∧ risB (fs.map (·.1)) = true ∧ (∀ f ∈ fs, nmB f.1 = true ∧ TP nm m f.2.1) ∧ t = .tup [.str "record", .tup (fs.map tfD), .bl o])
theorem TP.le {nm : List Str} : ∀ {n m : Nat} {d : D}, n ≤ m → TP nm n d → TP nm m d
  | 0, _, _, _, h => h.elim
  | n + 1, 0, _, h, _ => by omega
  | n + 1, m + 1, d, hl, h => by
    have ih : ∀ {d : D}, TP nm n d → TP nm m d := fun h => TP.le (by omega) h
    rcases h with h | ⟨a, h1, e⟩ | ⟨w, a, b, hw, h1, h2, e⟩ | ⟨fs, o, h1, h2, h3, e⟩
    · exact .inl h
    · exact .inr (.inl ⟨a, ih h1, e⟩)
    · exact .inr (.inr (.inl ⟨w, a, b, hw, ih h1, ih h2, e⟩))
    · exact .inr (.inr (.inr ⟨fs, o, h1, h2, fun f hf => ⟨(h3 f hf).1, ih (h3 f hf).2⟩, e⟩))
theorem LeafP.tp {nm : List Str} {t : D} (h : LeafP nm t) : TP nm 1 t := .inl h
theorem cstB_pl {c : D} (h : cstB c = true) : plB c = true ∧ ∃ p, c.py = some p := by
  rcases cstB_cases h with ⟨i, rfl, _⟩ | ⟨s, rfl, hs⟩
  · exact ⟨rfl, _, rfl⟩
  · exact ⟨rfl, .str s, by simp [D.py, (nm_ok hs).1]⟩
theorem bndB_cases {a b : D} (h : bndB a b = true) : (a = .non ∨ ∃ i, a = .int i) ∧ (b = .non ∨ ∃ i, b = .int i) := by
  unfold bndB at h
  split at h <;> simp_all
theorem LeafP.pl {nm : List Str} {t : D} (h : LeafP nm t) : plB t = true ∧ ∃ p, t.py = some p := by
  rcases h with ⟨w, hw, rfl⟩ | ⟨c, hc, rfl⟩ | ⟨lo, hi, hb, rfl⟩ | ⟨x, _, hx, rfl⟩
  · exact ⟨rfl, _, by simp [D.py, pyAll, strOk_ofS]; rfl⟩
  · obtain ⟨h1, p, h2⟩ := cstB_pl hc
    exact ⟨by simp [plB, plBs, h1], _, by simp [D.py, pyAll, strOk_ofS, h2]; rfl⟩
  · obtain ⟨h1, h2⟩ := bndB_cases hb
    rcases h1 with rfl | ⟨i, rfl⟩ <;> rcases h2 with rfl | ⟨j, rfl⟩ <;> exact ⟨rfl, _, by simp [D.py, pyAll, strOk_ofS]; rfl⟩
  · exact ⟨rfl, _, by simp [D.py, pyAll, strOk_ofS, (nm_ok hx).1]; rfl⟩
theorem pyAll_ok {ds : List D} (h : ∀ d ∈ ds, ∃ p, d.py = some p) : ∃ ps, pyAll ds = some ps := by
  induction ds with
  | nil => exact ⟨[], rfl⟩
  | cons d ds ih =>
    obtain ⟨p, hp⟩ := h d (by simp)
    obtain ⟨ps, hps⟩ := ih fun x hx => h x (by simp [hx])
    exact ⟨p :: ps, by simp [pyAll, hp, hps]⟩
theorem TP.pl {nm : List Str} : ∀ {m : Nat} {t : D}, TP nm m t → plB t = true ∧ ∃ p, t.py = some p
  | 0, _, h => h.elim
  | m + 1, t, h => by
    have ih : ∀ {d : D}, TP nm m d → plB d = true ∧ ∃ p, d.py = some p := fun h => TP.pl h
    rcases h with h | ⟨a, h1, rfl⟩ | ⟨w, a, b, hw, h1, h2, rfl⟩ | ⟨fs, o, h1, h2, h3, rfl⟩
    · exact h.pl
    · obtain ⟨q1, p, q2⟩ := ih h1
      exact ⟨by simp [plB, plBs, q1], _, by simp [D.py, pyAll, strOk_ofS, q2]; rfl⟩
    · obtain ⟨q1, p, q2⟩ := ih h1
      obtain ⟨q3, p', q4⟩ := ih h2
      exact ⟨by simp [plB, plBs, q1, q3], _, by simp [D.py, pyAll, strOk_ofS, q2, q4]; rfl⟩
    · have a1 : plBs (fs.map tfD) = true := plBs_mem.mpr fun d hd => by
        obtain ⟨f, hf, rfl⟩ := List.mem_map.mp hd
        simp [tfD, plB, plBs, (ih (h3 f hf).2).1]
      obtain ⟨ps, a2⟩ : ∃ ps, pyAll (fs.map tfD) = some ps := pyAll_ok fun d hd => by
        obtain ⟨f, hf, rfl⟩ := List.mem_map.mp hd
        obtain ⟨_, p, q⟩ := ih (h3 f hf).2
        exact ⟨_, by simp [tfD, D.py, pyAll, q, (nm_ok (h3 f hf).1).1]; rfl⟩
      exact ⟨by simp [plB, plBs, a1], _, by simp [D.py, pyAll, strOk_ofS, a2]; rfl⟩
theorem TP.cl {nm : List Str} {m : Nat} {t : D} (h : TP nm m t) : clsD 0 t = true := plB_cls h.pl.1
theorem inANN {w : String} {r : List D} (h : ∃ p, (D.tup (.str w :: r)).py = some p) : inD (.tup (.str w :: r)) (.tup [.tup [.str "any"], .tup [.str "none"], .tup [.str "names"]]) = some (r.isEmpty && (decide (w = "any") || (decide (w = "none") || decide (w = "names")))) := by
  obtain ⟨p, hp⟩ := h
  have hp0 := hp
  simp only [D.py, pyAll, strOk_ofS, if_true, Option.bind_some, Option.map_map, Option.map_eq_some_iff] at hp
  obtain ⟨ps, hps, rfl⟩ := hp
  have hd : min (PyData.depthAll [.tuple [.str (Str.ofString "any")], .tuple [.str (Str.ofString "none")], .tuple [.str (Str.ofString "names")]]) (PyData.depth (.tuple (.str (Str.ofString w) :: ps))) ≤ 180 :=
    Nat.le_trans (Nat.min_le_left _ _) (by simp [PyData.depthAll, PyData.depth])
  have he : ps.isEmpty = r.isEmpty := by
    cases r with
    | nil => simp [pyAll] at hps; subst hps; rfl
    | cons x r => simp only [pyAll, Option.bind_eq_some_iff, Option.map_eq_some_iff] at hps; obtain ⟨_, _, _, _, rfl⟩ := hps; rfl
  have ee : ∀ a : String, PyData.eqv (.tuple [.str (Str.ofString a)]) (.tuple (.str (Str.ofString w) :: ps)) = (r.isEmpty && decide (w = a)) := fun a => by
    rw [← he]
    have : (Str.ofString a == Str.ofString w) = decide (w = a) := by
      by_cases e : w = a
      · subst e; simp
      · have : ¬ Str.ofString a = Str.ofString w := fun z => e (ofS_inj.mp z).symm
        simp [e, this]
    cases ps <;> simp [PyData.eqv, PyData.eqvAll, this]
  have e1 : D.py (.tup [.tup [.str "any"], .tup [.str "none"], .tup [.str "names"]]) = some (.tuple [.tuple [.str (Str.ofString "any")], .tuple [.str (Str.ofString "none")], .tuple [.str (Str.ofString "names")]]) := by simp [D.py, pyAll, strOk_ofS]
  have e2 : (D.tup (.str (Str.ofString w) :: r)).py = some (.tuple (.str (Str.ofString w) :: ps)) := by simp [D.py, pyAll, strOk_ofS, hps]
  simp only [inD, e1, e2, if_pos hd, List.any_cons, List.any_nil, ee, Bool.or_false, Option.some.injEq]
  cases r.isEmpty <;> simp
end Ev.Nv

set_option Elab.async false
set_option linter.all false
set_option maxRecDepth 100000
set_option maxHeartbeats 4000000
/-! Nv, part 8: form_right. -/
namespace Ev.Nv
open PySem PySem.Spec PyProof.Rows L2
local macro_rules
  | `(tactic| simp! [$ls,*]) => `(tactic| simp [List.getElem?_cons_zero, List.getElem?_cons_succ, List.set_cons_zero, List.set_cons_succ, pl_non, pl_bl, pl_int, pl_str, pl_tup, pl_lst, pls_nil, pls_cons, ns_non, ns_int, ns_str, ns_tup, nss_nil, nss_cons, cSeq, cRet, cIfS, cAsg, cExp, cSkip, cPar, cRetN, cVar, cK, cBin, cUn, cPrim, cCons, cNil, cCall, cIf, cTru, cNotT, cAndT, cOrT, cAndV, cOrV, cNotV, cB, cSl, cPart, cNoPart, cChain, cYes, R.bind_okk, R.at_okk, startD, bindT, bindTs, pIsi, tyD, isI, isTys, isCls, tysOf, isAny, pLen, pTup, pLst, pIx, pEq, pIs_non, pIs_nonN, isNon_non, isNon_int, isNon_str, isNon_tup, isNon_bl, wipeD, -List.map_map, pLt, pLe, pGt, pGe, pCmpI, pSub, mkL, truthD, deref_non, deref_bl, deref_int, deref_str, deref_tup, deref_lst, deref_dic, deref_scr, deref_ty, fin_rt, fin_nx, iso_okD, cl_non, cl_bl, cl_int, cl_str, cl_ty, cl_tup, cl_lst, cl_dic, cls_nil, cls_cons, clk_nil, clk_cons, done_nil, sz_lit, ofS_inj, atI0, atI1, atI2, strOk_ofS, eqD_str, eqD_int, inD_s2, inD_s3, inD_s4, all_true, $ls,*])
variable {rs : List Rd'} {ix : Nat → Nat} {k : Nat} {d : D} {nm : List Str}
theorem tfD_cl {fs : List (Str × D × Bool)} {n : Nat} (h : ∀ f ∈ fs, nmB f.1 = true ∧ TP nm n f.2.1) : clsDs 0 (fs.map tfD) = true := clsDs_mem.mpr fun d hd => by
  obtain ⟨f, hf, rfl⟩ := List.mem_map.mp hd
  simp [tfD, cl_tup, cls_cons, cl_str, cl_bl, cls_nil, (h f hf).2.cl]
theorem tfD_pl {fs : List (Str × D × Bool)} {n : Nat} (h : ∀ f ∈ fs, nmB f.1 = true ∧ TP nm n f.2.1) : plBs (fs.map tfD) = true := plBs_mem.mpr fun d hd => by
  obtain ⟨f, hf, rfl⟩ := List.mem_map.mp hd
  simp [tfD, pl_tup, pls_cons, pl_str, pl_bl, pls_nil, (h f hf).2.pl.1]
section
variable [At_is_number rs ix] [At_bounds_right rs ix]
theorem bounds_right_ok {lo hi : D} (hk : 2 ≤ k) (hb : bndB lo hi = true) : runF rs k (ix 7) [lo, hi] [] = .ok (.bl true) [] := by
  obtain ⟨k, rfl, hj⟩ := succ_of hk
  have h0 : ∀ i : Int, runF rs k (ix 0) [.int i] [] = .ok (.bl true) [] := fun i => is_number_ok (rs := rs) (ix := ix) hj rfl
  have hc := bndB_cases hb
  rw [run_at At_bounds_right.h]
  have c1 : r_bounds_right_c1 ix (runF rs k) [some lo, some hi, none] [] = .ok (.lst (trues [lo, hi].length)) [] := by
    refine cLc_true (items := [lo, hi]) (by simp! [cSrc, srcOf]) fun d hd => ⟨_, rfl, ?_⟩
    have : d = .non ∨ ∃ i, d = .int i := by
      simp only [List.mem_cons, List.not_mem_nil, or_false] at hd
      rcases hd with rfl | rfl
      · exact hc.1
      · exact hc.2
    rcases this with rfl | ⟨i, rfl⟩ <;> simp! [h0]
  refine fin_pure (d := .bl true) ?_ rfl
  refine pu_f (by simp! [c1]) ?_
  refine pu_r ?_
  obtain ⟨h1, h2⟩ := hc
  rcases h1 with rfl | ⟨i, rfl⟩ <;> rcases h2 with rfl | ⟨j, rfl⟩ <;> simp! [R.bind_okk]
  simpa [bndB] using hb
end
section
variable [At_is_number rs ix] [At_is_name rs ix] [At_is_constant rs ix] [At_is_tagged rs ix] [At_is_rising rs ix] [At_bounds_right rs ix] [At_told_fields_right rs ix] [At_form_right rs ix]
theorem told_fields_right_ok {fs : List (Str × D × Bool)} {z : Int} (hk : 1 ≤ k) (hc : clsDs 0 (fs.map tfD) = true) (h : ∀ f ∈ fs, nmB f.1 = true ∧ clsD 0 f.2.1 = true ∧ runF rs k (ix 9) [f.2.1, .int z, .bl false] [] = .ok (.bl true) []) (hr : risB (fs.map (·.1)) = true) :
    runF rs (k + 1) (ix 8) [.tup (fs.map tfD), .int z, .bl false] [] = .ok (.bl true) [] := by
  rw [run_at At_told_fields_right.h]
  have c4 : r_told_fields_right_c4 ix (runF rs k) [some (.tup (fs.map tfD)), some (.int z), some (.bl false), none, none, none, none] [] = .ok (.lst (trues (fs.map tfD).length)) [] := cLc_true rfl fun d hd => by
    obtain ⟨f, hf, rfl⟩ := List.mem_map.mp hd
    exact ⟨_, rfl, by simp! [tfD]⟩
  have c3 : r_told_fields_right_c3 ix (runF rs k) [some (.tup (fs.map tfD)), some (.int z), some (.bl false), none, none, none, none] [] = .ok (.lst (trues (fs.map tfD).length)) [] := cLc_true rfl fun d hd => by
    obtain ⟨f, hf, rfl⟩ := List.mem_map.mp hd
    have h1 := is_name_ok (rs := rs) (ix := ix) (d := .str f.1) hk rfl
    simp only [isNm, (h f hf).1] at h1
    exact ⟨_, rfl, by simp! [tfD, h1]⟩
  have c2 : r_told_fields_right_c2 ix (runF rs k) [some (.tup (fs.map tfD)), some (.int z), some (.bl false), none, none, none, none] [] = .ok (.lst (trues (fs.map tfD).length)) [] := cLc_true rfl fun d hd => by
    obtain ⟨f, hf, rfl⟩ := List.mem_map.mp hd
    exact ⟨_, rfl, by simp! [tfD, (h f hf).2.2, (h f hf).2.1]⟩
  have c1 : r_told_fields_right_c1 ix (runF rs k) [some (.tup (fs.map tfD)), some (.int z), some (.bl false), none, none, none, none] [] = .ok (.lst ((fs.map (·.1)).map .str)) [] := by
    have := cLc_map (call := runF rs k) (tg := .tup [(.nm 3), (.nm 4), (.nm 5)]) (vs := [3, 4, 5]) (fe := cVar 3) (fi := cSrcN 0) (env := [some (.tup (fs.map tfD)), some (.int z), some (.bl false), none, none, none, none]) (S := []) (items := fs.map tfD)
      (fun d => match d with
        | .tup [x, _, _] => x
        | d => d) rfl fun d hd => by
      obtain ⟨f, hf, rfl⟩ := List.mem_map.mp hd
      exact ⟨_, rfl, by simp! [tfD]⟩
    refine this.trans ?_
    simp only [List.map_map]
    rfl
  have h6 := is_rising_ok (rs := rs) (ix := ix) (xs := fs.map (·.1)) hk
  have hs : clsDs 0 ((fs.map (·.1)).map D.str) = true := clsDs_mem.mpr fun d hd => by
    obtain ⟨x, _, rfl⟩ := List.mem_map.mp hd; rfl
  rw [hr] at h6
  refine fin_pure (d := .bl true) ?_ rfl
  refine pu_f (by simp! [c4]) ?_
  refine pu_f (by simp! [c3]) ?_
  refine pu_f (by simp! [c2]) ?_
  exact pu_r (by simp! [c1, h6, hs])
theorem form_right_ok : ∀ {m k : Nat} {t : D} {z : Int}, TP nm m t → (m : Int) ≤ z → 2 * m + 4 ≤ k → runF rs k (ix 9) [t, .int z, .bl false] [] = .ok (.bl true) []
  | 0, _, _, _, h, _, _ => h.elim
  | m + 1, k, t, z, h, hz, hk => by
    obtain ⟨k, rfl, hj⟩ := succ_of (n := 2 * m + 5) (by omega)
    have z0 : ¬ (z = 0) := by omega
    have ih : ∀ {t : D} {k : Nat}, TP nm m t → 2 * m + 4 ≤ k → runF rs k (ix 9) [t, .int (z - 1), .bl false] [] = .ok (.bl true) [] := fun h hk => form_right_ok h (by omega) hk
    have hpy := h.pl
    have T2 : ∀ {v : String} {r : List D}, plBs r = true → ∀ w : String, runF rs k (ix 5) [.tup (.str (Str.ofString v) :: r), .str (Str.ofString w), .int 2] [] = .ok (.bl (decide (r.length + 1 = 2) && decide (v = w))) [] := fun hr w => tagged_w (n := 2) rfl (by omega) (by omega) hr
    have T3 : ∀ {v : String} {r : List D}, plBs r = true → ∀ w : String, runF rs k (ix 5) [.tup (.str (Str.ofString v) :: r), .str (Str.ofString w), .int 3] [] = .ok (.bl (decide (r.length + 1 = 3) && decide (v = w))) [] := fun hr w => tagged_w (n := 3) rfl (by omega) (by omega) hr
    rw [run_at At_form_right.h]
    refine fin_pure (d := .bl true) ?_ rfl
    rcases h with h | ⟨a, h1, rfl⟩ | ⟨w, a, b, hw, h1, h2, rfl⟩ | ⟨fs, o, h1, h2, h3, rfl⟩
    · rcases h with ⟨w, hw, rfl⟩ | ⟨c, hc, rfl⟩ | ⟨lo, hi, hb, rfl⟩ | ⟨x, _, hx, rfl⟩
      · have i1 := inANN hpy.2
        refine pu_f (by simp! [z0]) ?_
        exact pu_tr (by rcases hw with rfl | rfl | rfl <;> simp! [pIn, i1]) (by simp! [R.bind_okk])
      · have i1 := inANN hpy.2
        have hp := cstB_pl hc
        have q1 := T2 (v := "is") (r := [c]) (by simp [pls_cons, pls_nil, hp.1])
        have q2 := is_constant_ok (rs := rs) (ix := ix) (k := k) (by omega) hp.1
        rw [isCst_of hc] at q2
        refine pu_f (by simp! [z0]) ?_
        refine pu_f (by simp! [pIn, i1]) ?_
        exact pu_tr (by simp! [q1, plB_cls hp.1]) (by simp! [q2, plB_cls hp.1])
      · have i1 := inANN hpy.2
        have hp1 : plB lo = true ∧ plB hi = true := by
          have := hpy.1
          simpa [pl_tup, pls_cons, pl_str, pls_nil] using this
        have q2 := T2 (v := "from") (r := [lo, hi]) (by simp [pls_cons, pls_nil, hp1])
        have q3 := T3 (v := "from") (r := [lo, hi]) (by simp [pls_cons, pls_nil, hp1])
        have q := bounds_right_ok (rs := rs) (ix := ix) (k := k) (by omega) hb
        have c1 := plB_cls hp1.1
        have c2 := plB_cls hp1.2
        refine pu_f (by simp! [z0]) ?_
        refine pu_f (by simp! [pIn, i1]) ?_
        refine pu_f (by simp! [q2, c1, c2]) ?_
        refine pu_f (by simp! [q2, c1, c2]) ?_
        exact pu_tr (by simp! [q3, c1, c2]) (by simp! [q, c1, c2])
      · have i1 := inANN hpy.2
        have q1 := T2 (v := "the") (r := [.str x]) rfl
        have q2 := is_name_ok (rs := rs) (ix := ix) (k := k) (d := .str x) (by omega) rfl
        simp only [isNm, hx] at q2
        refine pu_f (by simp! [z0]) ?_
        refine pu_f (by simp! [pIn, i1]) ?_
        refine pu_f (by simp! [q1]) ?_
        exact pu_tr (by simp! [q1]) (by simp! [q2])
    · have i1 := inANN hpy.2
      have hp := h1.pl.1
      have hc := h1.cl
      have q2 := T2 (v := "not") (r := [a]) (by simp [pls_cons, pls_nil, hp])
      have q3 := T3 (v := "not") (r := [a]) (by simp [pls_cons, pls_nil, hp])
      have q := ih (k := k) h1 (by omega)
      refine pu_f (by simp! [z0]) ?_
      refine pu_f (by simp! [pIn, i1]) ?_
      refine pu_f (by simp! [q2, hc]) ?_
      refine pu_f (by simp! [q2, hc]) ?_
      refine pu_f (by simp! [q3, hc]) ?_
      exact pu_tr (by simp! [q2, hc]) (by simp! [q, hc])
    · have hp1 := h1.pl.1
      have hp2 := h2.pl.1
      have c1 := h1.cl
      have c2 := h2.cl
      have i1 := inANN hpy.2
      have q2 := T2 (v := w) (r := [a, b]) (by simp [pls_cons, pls_nil, hp1, hp2])
      have q3 := T3 (v := w) (r := [a, b]) (by simp [pls_cons, pls_nil, hp1, hp2])
      have r1 := ih (k := k) h1 (by omega)
      have r2 := ih (k := k) h2 (by omega)
      have hw1 : ¬ (w = "from") ∧ ¬ (w = "record") := by rcases hw with rfl | rfl | rfl | rfl <;> decide
      have hw2 : inD (.str (Str.ofString w)) (.tup [.str "pair", .str "fun", .str "or", .str "and"]) = some true := by
        rw [inD_s4 (strOk_ofS _) (strOk_ofS _) (strOk_ofS _) (strOk_ofS _) (strOk_ofS _)]
        rcases hw with rfl | rfl | rfl | rfl <;> simp [ofS_inj]
      refine pu_f (by simp! [z0]) ?_
      refine pu_f (by simp! [pIn, i1]) ?_
      refine pu_f (by simp! [q2, c1, c2]) ?_
      refine pu_f (by simp! [q2, c1, c2]) ?_
      refine pu_f (by simp! [q3, c1, c2, hw1]) ?_
      refine pu_f (by simp! [q2, c1, c2]) ?_
      refine pu_f (by simp! [q3, c1, c2, hw1]) ?_
      refine pu_f (by simp! [pIn, hw2]) ?_
      exact pu_r (by simp! [r1, r2, c1, c2])
    · have i1 := inANN hpy.2
      have hf := tfD_cl h3
      have hp := tfD_pl h3
      have q2 := T2 (v := "record") (r := [.tup (fs.map tfD), .bl o]) (by simp [pls_cons, pls_nil, pl_tup, pl_bl, hp])
      have q3 := T3 (v := "record") (r := [.tup (fs.map tfD), .bl o]) (by simp [pls_cons, pls_nil, pl_tup, pl_bl, hp])
      obtain ⟨k, rfl, hj2⟩ := succ_of (n := 2 * m + 4) (k := k) (by omega)
      have f1 := told_fields_right_ok (rs := rs) (ix := ix) (k := k) (fs := fs) (z := z - 1) (by omega) hf (fun f hf => ⟨(h3 f hf).1, (h3 f hf).2.cl, ih (h3 f hf).2 (by omega)⟩) h2
      refine pu_f (by simp! [z0]) ?_
      refine pu_f (by simp! [pIn, i1]) ?_
      refine pu_f (by simp! [q2, hf]) ?_
      refine pu_f (by simp! [q2, hf]) ?_
      refine pu_f (by simp! [q3, hf]) ?_
      refine pu_f (by simp! [q2, hf]) ?_
      exact pu_tr (by simp! [q3, hf]) (by simp! [f1, hf])
end
end Ev.Nv

set_option Elab.async false
set_option linter.all false
set_option maxRecDepth 100000
set_option maxHeartbeats 4000000
/-! Nv, part 9: parts_of, leaves, books. -/
namespace Ev.Nv
open PySem PySem.Spec PyProof.Rows L2
local macro_rules
  | `(tactic| simp! [$ls,*]) => `(tactic| simp [List.getElem?_cons_zero, List.getElem?_cons_succ, List.set_cons_zero, List.set_cons_succ, pl_non, pl_bl, pl_int, pl_str, pl_tup, pl_lst, pls_nil, pls_cons, ns_non, ns_int, ns_str, ns_tup, nss_nil, nss_cons, cSeq, cRet, cIfS, cAsg, cExp, cSkip, cPar, cRetN, cVar, cK, cBin, cUn, cPrim, cCons, cNil, cCall, cIf, cTru, cNotT, cAndT, cOrT, cAndV, cOrV, cNotV, cB, cSl, cPart, cNoPart, cChain, cYes, R.bind_okk, R.at_okk, startD, bindT, bindTs, pIsi, tyD, isI, isTys, isCls, tysOf, isAny, pLen, pTup, pLst, pIx, pEq, pIs_non, pIs_nonN, isNon_non, isNon_int, isNon_str, isNon_tup, isNon_bl, wipeD, -List.map_map, pLt, pLe, pGt, pGe, pCmpI, pSub, mkL, truthD, deref_non, deref_bl, deref_int, deref_str, deref_tup, deref_lst, deref_dic, deref_scr, deref_ty, fin_rt, fin_nx, iso_okD, cl_non, cl_bl, cl_int, cl_str, cl_ty, cl_tup, cl_lst, cl_dic, cls_nil, cls_cons, clk_nil, clk_cons, done_nil, sz_lit, ofS_inj, atI0, atI1, atI2, strOk_ofS, eqD_str, eqD_int, inD_s2, inD_s3, inD_s4, all_true, $ls,*])
section
variable {call : Call} {tg tg1 : Tg} {fe : EE} {fi fi1 : EI} {env : Env'} {S : Sto} {vs vs1 : List Nat}
theorem lc2L_pure {inn : D → List D} {g : D → D} : ∀ {items acc : List D}, (∀ d ∈ items, ∃ env1, bindT tg d env = some env1 ∧ fi1 call env1 S = .ok (.frz (inn d)) S ∧ ∀ e ∈ inn d, ∃ env2, bindT tg1 e (wipeD env1 vs1) = some env2 ∧ fe call env2 S = .ok (g e) S) →
    lc2L call tg cYes fi1 tg1 vs1 cYes fe env items acc S = .ok (acc ++ items.flatMap fun d => (inn d).map g) S
  | [], acc, _ => by simp [lc2L]
  | d :: r, acc, h => by
    obtain ⟨env1, h1, h2, h3⟩ := h d List.mem_cons_self
    have i1 : ∀ acc, lcL call tg1 cYes fe (wipeD env1 vs1) (inn d) acc S = .ok (acc ++ (inn d).map g) S := fun acc => by
      rw [lcL_pure (p := fun _ => true) (g := g) fun e he => ?_, List.filter_eq_self.mpr fun _ _ => rfl]
      obtain ⟨env2, q1, q2⟩ := h3 e he
      exact ⟨env2, q1, rfl, fun _ => q2⟩
    have ih := fun acc => lc2L_pure (items := r) (acc := acc) fun x hx => h x (List.mem_cons_of_mem _ hx)
    have hy : cYes call env1 S = .ok true S := rfl
    simp only [lc2L, h1, hy, R.bind_okk, if_true, h2, i1]
    exact (ih _).trans (by rw [List.flatMap_cons, List.append_assoc])
theorem cLc2_pure {items : List D} (inn : D → List D) (g : D → D) (hs : fi call env S = .ok (.frz items) S)
    (h : ∀ d ∈ items, ∃ env1, bindT tg d (wipeD env vs) = some env1 ∧ fi1 call env1 S = .ok (.frz (inn d)) S ∧ ∀ e ∈ inn d, ∃ env2, bindT tg1 e (wipeD env1 vs1) = some env2 ∧ fe call env2 S = .ok (g e) S)
    (hl : (items.flatMap fun d => (inn d).map g).length < sizeLine) : cLc2 false tg vs cYes fi1 tg1 vs1 cYes fe fi call env S = .ok (.lst (items.flatMap fun d => (inn d).map g)) S := by
  have e := lc2L_pure (acc := []) h
  rw [List.nil_append] at e
  unfold cLc2
  rw [hs, R.bind_okk]
  show (noExc ((lc2L call tg cYes fi1 tg1 vs1 cYes fe (wipeD env vs) items [] S).bind fun ds S' => if ds.length < sizeLine then .ok ds S' else .bad)).bind _ = _
  rw [e, R.bind_okk, if_pos hl]
  rfl
def falses (n : Nat) : List D := List.replicate n (.bl false)
theorem map_falses {α : Type} : ∀ l : List α, (l.map fun _ => D.bl false) = falses l.length
  | [] => rfl
  | _ :: r => by
    have := map_falses r
    simp only [falses] at this ⊢
    rw [List.map_cons, this, List.length_cons, List.replicate_succ]
theorem cLc_false {items : List D} (hs : fi call env S = .ok (.frz items) S)
    (h : ∀ d ∈ items, ∃ env1, bindT tg d (wipeD env vs) = some env1 ∧ fe call env1 S = .ok (.bl false) S) : cLc false tg vs cYes fe fi call env S = .ok (.lst (falses items.length)) S := by
  rw [cLc_map (fun _ => .bl false) hs h, map_falses]
theorem any_false (n : Nat) (S : Sto) : pAll true [.lst (falses n)] S = .ok (.bl false) S := by
  have h : boolsOf (falses n) = some (List.replicate n false) := by
    induction n with
    | zero => rfl
    | succ n ih =>
      simp only [falses] at ih ⊢
      rw [List.replicate_succ, boolsOf, ih]; rfl
  simp only [pAll, deref_lst, h]
  congr 2
  simp
end
variable {rs : List Rd'} {ix : Nat → Nat} {k : Nat} {d : D} {nm : List Str}
/-- the word of a type, and what stands behind -/
theorem LeafP.word {t : D} (h : LeafP nm t) : ∃ (w : String) (r : List D), t = .tup (.str w :: r) ∧ (w = "any" ∨ w = "none" ∨ w = "names" ∨ w = "is" ∨ w = "from" ∨ w = "the") ∧ (w = "the" → ∃ x, x ∈ nm ∧ r = [.str x]) := by
  rcases h with ⟨w, hw, rfl⟩ | ⟨c, hc, rfl⟩ | ⟨lo, hi, hb, rfl⟩ | ⟨x, h1, hx, rfl⟩
  · exact ⟨w, [], rfl, by rcases hw with rfl | rfl | rfl <;> simp, by rintro rfl; simp at hw⟩
  · exact ⟨"is", _, rfl, by simp, by simp⟩
  · exact ⟨"from", _, rfl, by simp, by simp⟩
  · exact ⟨"the", _, rfl, by simp, fun _ => ⟨x, h1, rfl⟩⟩
section
variable [At_below rs ix]
theorem below_ok {m : Nat} {t : D} (h : TP nm (m + 1) t) (hk : 1 ≤ k) : ∃ bs, runF rs k (ix 10) [t] [] = .ok (.lst bs) [] ∧ bs.length ≤ 2 ∧ ∀ b ∈ bs, TP nm m b := by
  obtain ⟨k, rfl, hj⟩ := succ_of hk
  rw [run_at At_below.h]
  rcases h with h | ⟨a, h1, rfl⟩ | ⟨w, a, b, hw, h1, h2, rfl⟩ | ⟨fs, o, h1, h2, h3, rfl⟩
  · obtain ⟨w, r, rfl, hw, _⟩ := h.word
    have i1 : inD (.str (Str.ofString w)) (.tup [.str "pair", .str "fun", .str "or", .str "and"]) = some false := by
      rw [inD_s4 (strOk_ofS _) (strOk_ofS _) (strOk_ofS _) (strOk_ofS _) (strOk_ofS _)]
      rcases hw with rfl | rfl | rfl | rfl | rfl | rfl <;> simp [ofS_inj]
    have w1 : ¬ (w = "record") ∧ ¬ (w = "not") := by rcases hw with rfl | rfl | rfl | rfl | rfl | rfl <;> decide
    refine ⟨[], fin_pure ?_ rfl, by simp, by simp⟩
    refine pu_f (by simp! [w1]) ?_
    refine pu_f (by simp! [pIn, i1]) ?_
    exact pu_r (by simp! [w1])
  · refine ⟨[a], fin_pure ?_ (by simp [cl_lst, cls_cons, cls_nil, h1.cl]), by simp, by simpa using h1⟩
    refine pu_f (by simp! [R.bind_okk]) ?_
    refine pu_f (by simp! [pIn]) ?_
    exact pu_r (by simp! [R.bind_okk])
  · have i1 : inD (.str (Str.ofString w)) (.tup [.str "pair", .str "fun", .str "or", .str "and"]) = some true := by
      rw [inD_s4 (strOk_ofS _) (strOk_ofS _) (strOk_ofS _) (strOk_ofS _) (strOk_ofS _)]
      rcases hw with rfl | rfl | rfl | rfl <;> simp [ofS_inj]
    have w1 : ¬ (w = "record") := by rcases hw with rfl | rfl | rfl | rfl <;> decide
    refine ⟨[a, b], fin_pure ?_ (by simp [cl_lst, cls_cons, cls_nil, h1.cl, h2.cl]), by simp, by simpa using ⟨h1, h2⟩⟩
    refine pu_f (by simp! [w1]) ?_
    exact pu_tr (by simp! [pIn, i1]) (by simp! [R.bind_okk])
  · refine ⟨fs.map (·.2.1), fin_pure ?_ ?_, by simpa using h1, fun b hb => ?_⟩
    · have c1 : r_below_c1 ix (runF rs k) [some (.tup [.str (Str.ofString "record"), .tup (fs.map tfD), .bl o]), none, none, none] [] = .ok (.lst (fs.map (·.2.1))) [] := by
        have := cLc_map (call := runF rs k) (tg := .tup [(.nm 1), (.nm 2), (.nm 3)]) (vs := [1, 2, 3]) (fe := cVar 2) (fi := cSrc (cBin pIx (cVar 0) (cK (.int 1)))) (env := [some (.tup [.str (Str.ofString "record"), .tup (fs.map tfD), .bl o]), none, none, none]) (S := []) (items := fs.map tfD)
          (fun d => match d with
            | .tup [_, x, _] => x
            | d => d) (by simp! [cSrc, srcOf]) fun d hd => by
          obtain ⟨f, hf, rfl⟩ := List.mem_map.mp hd
          exact ⟨_, rfl, by simp! [tfD]⟩
        refine this.trans ?_
        simp only [List.map_map]
        rfl
      exact pu_tr (by simp! [R.bind_okk]) c1
    · rw [cl_lst]
      exact clsDs_mem.mpr fun d hd => by
        obtain ⟨f, hf, rfl⟩ := List.mem_map.mp hd
        exact (h3 f hf).2.cl
    · obtain ⟨f, hf, rfl⟩ := List.mem_map.mp hb
      exact (h3 f hf).2
end
theorem TPs.cl {m : Nat} {bs : List D} (h : ∀ b ∈ bs, TP nm m b) : clsDs 0 bs = true := clsDs_mem.mpr fun d hd => (h d hd).cl
section
variable [At_below rs ix] [At_parts_of rs ix]
theorem parts_of_ok : ∀ {m k : Nat} {t : D}, TP nm m t → m + 2 ≤ k → ∃ c : Int, runF rs k (ix 11) [t] [] = .ok (.int c) [] ∧ 1 ≤ c ∧ c + 1 ≤ 2 ^ m
  | 0, _, _, h, _ => h.elim
  | m + 1, k, t, h, hk => by
    obtain ⟨k, rfl, hj⟩ := succ_of (n := m + 2) (by omega)
    obtain ⟨bs, b1, b2, b3⟩ := below_ok (rs := rs) (ix := ix) (k := k) h (by omega)
    have ih : ∀ b ∈ bs, ∃ c : Int, runF rs k (ix 11) [b] [] = .ok (.int c) [] ∧ 1 ≤ c ∧ c + 1 ≤ 2 ^ m := fun b hb => parts_of_ok (b3 b hb) (by omega)
    have hc := h.cl
    have hbc := TPs.cl b3
    rw [run_at At_parts_of.h]
    have c1 : r_parts_of_c1 ix (runF rs k) [some t, none] [] = .ok (.lst (bs.map fun b => .int (outI (runF rs k (ix 11) [b] [])))) [] := by
      refine cLc_map _ (by simp! [cSrc, srcOf, b1, hc, hbc]) fun b hb => ?_
      obtain ⟨c, i1, _⟩ := ih b hb
      exact ⟨_, rfl, by simp! [i1, (b3 b hb).cl, outI]⟩
    have hB : (1 : Int) ≤ 2 ^ m := Int.pow_pos (by decide)
    have e5 : (2 : Int) ^ (m + 1) = 2 * 2 ^ m := by rw [Int.pow_succ, Int.mul_comm]
    rw [e5]
    generalize hBe : (2 : Int) ^ m = B at *
    have hs := sum_le (g := fun b => outI (runF rs k (ix 11) [b] [])) (B := B - 1) (l := bs) fun b hb => by
      obtain ⟨c, i1, l1, u1⟩ := ih b hb
      simp only [i1, outI]; omega
    have hq : (bs.length : Int) * (B - 1) ≤ 2 * (B - 1) := Int.mul_le_mul_of_nonneg_right (by omega) (by omega)
    exact ⟨1 + (bs.map fun b => outI (runF rs k (ix 11) [b] [])).sum, fin_pure (pu_r (by simp! [c1, pSum, intsOf_map, pAdd])) rfl, by omega, by omega⟩
end
def outL (r : R D) : List D := match r with
  | .ok (.lst ds) _ => ds
  | _ => []
section
variable [At_below rs ix] [At_leaves rs ix]
theorem leaves_ok : ∀ {m k : Nat} {t : D}, TP nm m t → m ≤ 10 → m + 2 ≤ k → ∃ xs : List Str, runF rs k (ix 12) [t, .str "the"] [] = .ok (.lst (xs.map .str)) [] ∧ (∀ x ∈ xs, x ∈ nm) ∧ xs.length ≤ 2 ^ m
  | 0, _, _, h, _, _ => h.elim
  | m + 1, k, t, h, hm, hk => by
    obtain ⟨k, rfl, hj⟩ := succ_of (n := m + 2) (by omega)
    obtain ⟨bs, b1, b2, b3⟩ := below_ok (rs := rs) (ix := ix) (k := k) h (by omega)
    have ih : ∀ b ∈ bs, ∃ xs : List Str, runF rs k (ix 12) [b, .str "the"] [] = .ok (.lst (xs.map .str)) [] ∧ (∀ x ∈ xs, x ∈ nm) ∧ xs.length ≤ 2 ^ m := fun b hb => leaves_ok (b3 b hb) (by omega) (by omega)
    have hc := h.cl
    have hbc := TPs.cl b3
    rw [run_at At_leaves.h]
    by_cases hthe : ∃ x, x ∈ nm ∧ t = .tup [.str "the", .str x]
    · obtain ⟨x, hx, rfl⟩ := hthe
      exact ⟨[x], fin_pure (pu_tr (by simp! [R.bind_okk]) (by simp! [R.bind_okk])) rfl, by simpa using hx, by simp; exact Nat.one_le_two_pow⟩
    · have hw : ∃ (w : String) (r : List D), t = .tup (.str w :: r) ∧ ¬ w = "the" := by
        rcases h with h | ⟨a, h1, rfl⟩ | ⟨w, a, b, hw, h1, h2, rfl⟩ | ⟨fs, o, h1, h2, h3, rfl⟩
        · obtain ⟨w, r, rfl, _, q⟩ := h.word
          refine ⟨w, r, rfl, fun e => ?_⟩
          obtain ⟨x, hx, rfl⟩ := q e
          exact hthe ⟨x, hx, by rw [e]⟩
        · exact ⟨"not", _, rfl, by decide⟩
        · exact ⟨w, _, rfl, by rcases hw with rfl | rfl | rfl | rfl <;> decide⟩
        · exact ⟨"record", _, rfl, by decide⟩
      obtain ⟨w, r, rfl, hw⟩ := hw
      have e1 : ∀ b ∈ bs, ∃ xs : List Str, outL (runF rs k (ix 12) [b, .str "the"] []) = xs.map .str ∧ (∀ x ∈ xs, x ∈ nm) ∧ xs.length ≤ 2 ^ m := fun b hb => by
        obtain ⟨xs, q1, q2, q3⟩ := ih b hb
        exact ⟨xs, by rw [q1]; rfl, q2, q3⟩
      have fl : ∀ {l : List D}, (∀ b ∈ l, b ∈ bs) → ∃ xs : List Str, (l.flatMap fun b => (outL (runF rs k (ix 12) [b, .str "the"] [])).map id) = xs.map .str ∧ (∀ x ∈ xs, x ∈ nm) ∧ xs.length ≤ l.length * 2 ^ m := fun {l} hl => by
        induction l with
        | nil => exact ⟨[], rfl, by simp, by simp⟩
        | cons b l ih2 =>
          obtain ⟨xs, q1, q2, q3⟩ := e1 b (hl b (by simp))
          obtain ⟨ys, p1, p2, p3⟩ := ih2 fun x hx => hl x (by simp [hx])
          refine ⟨xs ++ ys, by rw [List.flatMap_cons, p1, q1, List.map_id, List.map_append], fun x hx => ?_, ?_⟩
          · rcases List.mem_append.mp hx with z | z
            · exact q2 x z
            · exact p2 x z
          · rw [List.length_append, List.length_cons, Nat.add_mul, Nat.one_mul]; omega
      obtain ⟨xs, x1, x2, x3⟩ := fl (l := bs) fun _ h => h
      have hB : 2 ^ (m + 1) = 2 * 2 ^ m := by rw [Nat.pow_succ, Nat.mul_comm]
      have hlen : xs.length ≤ 2 ^ (m + 1) := Nat.le_trans x3 (by rw [hB]; exact Nat.mul_le_mul_right _ b2)
      have hlt : xs.length < sizeLine := by
        have : 2 ^ (m + 1) ≤ 2 ^ 10 := Nat.pow_le_pow_right (by decide) (by omega)
        exact Nat.lt_of_le_of_lt (Nat.le_trans hlen this) (by decide)
      have c1 : r_leaves_c1 ix (runF rs k) [some (.tup (.str (Str.ofString w) :: r)), some (.str "the"), none, none] [] = .ok (.lst (xs.map .str)) [] := by
        rw [← x1]
        refine cLc2_pure (items := bs) (fun b => outL (runF rs k (ix 12) [b, .str "the"] [])) id (by simp! [cSrc, srcOf, b1, hc, hbc] <;> simpa [cl_tup, cls_cons] using hc) (fun b hb => ?_) (by rw [x1, List.length_map]; exact hlt)
        obtain ⟨ys, q1, q2, q3⟩ := ih b hb
        have hys : clsDs 0 (ys.map D.str) = true := clsDs_mem.mpr fun d hd => by
          obtain ⟨x, _, rfl⟩ := List.mem_map.mp hd; rfl
        refine ⟨_, rfl, by simp! [cSrc, srcOf, q1, (b3 b hb).cl, hys, outL], fun e he => ?_⟩
        exact ⟨_, rfl, by simp! [R.bind_okk]⟩
      refine ⟨xs, fin_pure ?_ ?_, x2, hlen⟩
      · refine pu_f (by simp! [hw]) ?_
        exact pu_r c1
      · rw [cl_lst]
        exact clsDs_mem.mpr fun d hd => by obtain ⟨x, _, rfl⟩ := List.mem_map.mp hd; rfl
end
end Ev.Nv

set_option Elab.async false
set_option linter.all false
set_option maxRecDepth 100000
set_option maxHeartbeats 4000000
/-! Nv, part 10: books. -/
namespace Ev.Nv
open PySem PySem.Spec PyProof.Rows L2
local macro_rules
  | `(tactic| simp! [$ls,*]) => `(tactic| simp [List.getElem?_cons_zero, List.getElem?_cons_succ, List.set_cons_zero, List.set_cons_succ, pl_non, pl_bl, pl_int, pl_str, pl_tup, pl_lst, pls_nil, pls_cons, ns_non, ns_int, ns_str, ns_tup, nss_nil, nss_cons, cSeq, cRet, cIfS, cAsg, cExp, cSkip, cPar, cRetN, cVar, cK, cBin, cUn, cPrim, cCons, cNil, cCall, cIf, cTru, cNotT, cAndT, cOrT, cAndV, cOrV, cNotV, cB, cSl, cPart, cNoPart, cChain, cYes, R.bind_okk, R.at_okk, startD, bindT, bindTs, pIsi, tyD, isI, isTys, isCls, tysOf, isAny, pLen, pTup, pLst, pIx, pEq, pIs_non, pIs_nonN, isNon_non, isNon_int, isNon_str, isNon_tup, isNon_bl, wipeD, -List.map_map, pLt, pLe, pGt, pGe, pCmpI, pSub, mkL, truthD, deref_non, deref_bl, deref_int, deref_str, deref_tup, deref_lst, deref_dic, deref_scr, deref_ty, fin_rt, fin_nx, iso_okD, cl_non, cl_bl, cl_int, cl_str, cl_ty, cl_tup, cl_lst, cl_dic, cls_nil, cls_cons, clk_nil, clk_cons, done_nil, sz_lit, ofS_inj, atI0, atI1, atI2, strOk_ofS, eqD_str, eqD_int, inD_s2, inD_s3, inD_s4, all_true, $ls,*])
variable {rs : List Rd'} {ix : Nat → Nat} {k : Nat} {d : D} {nm : List Str}
/-- the right side of a book's or: values get smaller below it -/
def RndP (nm : List Str) (r : D) : Prop := (∃ (w : String) (a b : D), (w = "pair" ∨ w = "fun") ∧ TP nm 3 a ∧ TP nm 3 b ∧ r = .tup [.str w, a, b]) ∨
  (∃ (fs : List (Str × D × Bool)) (o : Bool), fs.length ≤ 2 ∧ risB (fs.map (·.1)) = true ∧ (∀ f ∈ fs, nmB f.1 = true ∧ TP nm 3 f.2.1) ∧ r = .tup [.str "record", .tup (fs.map tfD), .bl o])
def bkK (bk : List (Str × D)) : List (Key × D) := bk.map fun p => (.inr p.1, p.2)
structure BkP (bk : List (Str × D)) : Prop where
  len : bk.length ≤ 3
  nd : (bk.map (·.1)).Nodup
  nmOk : ∀ p ∈ bk, nmB p.1 = true
  val : ∀ p ∈ bk, ∃ e r, p.2 = .tup [.str "or", e, r] ∧ LeafP [] e ∧ RndP (bk.map (·.1)) r
theorem LeafP.sub {nm' : List Str} {t : D} (h : LeafP nm t) (hs : ∀ x ∈ nm, x ∈ nm') : LeafP nm' t := by
  rcases h with h | h | h | ⟨x, h1, h2, e⟩
  · exact .inl h
  · exact .inr (.inl h)
  · exact .inr (.inr (.inl h))
  · exact .inr (.inr (.inr ⟨x, hs x h1, h2, e⟩))
theorem RndP.tp {r : D} (h : RndP nm r) : TP nm 4 r := by
  rcases h with ⟨w, a, b, hw, h1, h2, e⟩ | h
  · exact .inr (.inr (.inl ⟨w, a, b, by rcases hw with h | h; exact .inl h; exact .inr (.inl h), h1, h2, e⟩))
  · exact .inr (.inr (.inr h))
theorem BkP.tp {bk : List (Str × D)} (h : BkP bk) {p : Str × D} (hp : p ∈ bk) : TP (bk.map (·.1)) 5 p.2 := by
  obtain ⟨e, r, he, h1, h2⟩ := h.val p hp
  rw [he]
  exact .inr (.inr (.inl ⟨"or", e, r, .inr (.inr (.inl rfl)), (h1.sub (by simp)).tp.le (m := 4) (by decide), h2.tp, rfl⟩))
theorem bkK_cl {bk : List (Str × D)} (h : BkP bk) : clsKv 0 (bkK bk) = true := by
  have : ∀ l : List (Str × D), (∀ p ∈ l, p ∈ bk) → clsKv 0 (bkK l) = true := fun l => by
    induction l with
    | nil => intro _; rfl
    | cons p l ih =>
      intro hl
      have := ih fun x hx => hl x (by simp [hx])
      simp only [bkK] at this
      simp [bkK, clk_cons, this, (h.tp (hl p (by simp))).cl]
  exact this bk fun _ h => h
theorem valD_bk {bk : List (Str × D)} {x : Str} (hx : x ∈ bk.map (·.1)) : ∃ t, (x, t) ∈ bk ∧ valD (bkK bk) (.inr x) = some t := by
  induction bk with
  | nil => simp at hx
  | cons p l ih =>
    obtain ⟨y, t⟩ := p
    by_cases e : y = x
    · subst e
      exact ⟨t, by simp, by simp [valD, bkK]⟩
    · simp only [List.map_cons, List.mem_cons] at hx
      rcases hx with h | h
      · exact absurd h.symm e
      · obtain ⟨t', h1, h2⟩ := ih h
        refine ⟨t', by simp [h1], ?_⟩
        simp only [valD, bkK, List.map_cons] at h2 ⊢
        rw [List.find?_cons_of_neg (by simp [e])]
        exact h2
theorem valD_bkN {bk : List (Str × D)} {x : Str} (hx : x ∉ bk.map (·.1)) : valD (bkK bk) (.inr x) = none := by
  induction bk with
  | nil => rfl
  | cons p l ih =>
    obtain ⟨y, t⟩ := p
    simp only [List.map_cons, List.mem_cons, not_or] at hx
    have := ih hx.2
    simp only [valD, bkK, List.map_cons] at this ⊢
    rw [List.find?_cons_of_neg (by simp; exact fun e => hx.1 e.symm)]
    exact this
theorem fin1_box {d : D} {S : Sto} {x : R F} {o : O} {t : Nat} (h : x = .ok (.rt (.ref t)) S) (ho : S[t]? = some o) (he : o = .lst []) : finish 1 0 x = .ok (.ref 0) [.lst []] := by
  rw [h]
  subst he
  show done 1 0 (.ref t) S = _
  simp [done, ho, frzO, frzDs]
section
variable [At_below rs ix] [At_near_names rs ix]
/-- no names stand near in it -/
theorem near_none {w : String} {r : List D} (hk : 1 ≤ k) (hw : w ≠ "the" ∧ w ≠ "or" ∧ w ≠ "and" ∧ w ≠ "not") : runF rs k (ix 13) [.tup (.str (Str.ofString w) :: r)] [] = .ok (.ref 0) [.lst []] := by
  obtain ⟨k, rfl, hj⟩ := succ_of hk
  have i1 : inD (.str (Str.ofString w)) (.tup [.str "or", .str "and", .str "not"]) = some false := by
    rw [inD_s3 (strOk_ofS _) (strOk_ofS _) (strOk_ofS _) (strOk_ofS _)]
    simp [ofS_inj, hw]
  rw [run_at At_near_names.h]
  refine fin1_box (t := 0) (d := .non) (S := [.lst []]) (o := .lst []) ?_ rfl rfl
  refine pu_f (by simp! [hw]) ?_
  exact seq_rt (by simp! [pIn, i1])
theorem RndP.word {r : D} (h : RndP nm r) : ∃ (w : String) (q : List D), r = .tup (.str w :: q) ∧ (w ≠ "the" ∧ w ≠ "or" ∧ w ≠ "and" ∧ w ≠ "not") := by
  rcases h with ⟨w, a, b, hw, h1, h2, e⟩ | ⟨fs, o, _, _, _, e⟩
  · exact ⟨w, _, e, by rcases hw with rfl | rfl <;> decide⟩
  · exact ⟨"record", _, e, by decide⟩
theorem LeafP.word0 {r : D} (h : LeafP [] r) : ∃ (w : String) (q : List D), r = .tup (.str w :: q) ∧ (w ≠ "the" ∧ w ≠ "or" ∧ w ≠ "and" ∧ w ≠ "not") := by
  obtain ⟨w, q, e, hw, h2⟩ := h.word
  refine ⟨w, q, e, ?_⟩
  rcases hw with rfl | rfl | rfl | rfl | rfl | rfl <;> first | decide | (obtain ⟨x, hx, _⟩ := h2 rfl; simp at hx)
theorem near_or {e r : D} (he : LeafP [] e) (hr : RndP nm r) (hk : 3 ≤ k) : runF rs k (ix 13) [.tup [.str "or", e, r]] [] = .ok (.ref 0) [.lst []] := by
  obtain ⟨k, rfl, hj⟩ := succ_of hk
  have hec : clsD 0 e = true := he.tp.cl
  have hrc : clsD 0 r = true := hr.tp.cl
  have n1 : runF rs k (ix 13) [e] [] = .ok (.ref 0) [.lst []] := by
    obtain ⟨w, q, rfl, hw⟩ := he.word0
    exact near_none (by omega) hw
  have n2 : runF rs k (ix 13) [r] [] = .ok (.ref 0) [.lst []] := by
    obtain ⟨w, q, rfl, hw⟩ := hr.word
    exact near_none (by omega) hw
  have b1 : runF rs k (ix 10) [.tup [.str "or", e, r]] [] = .ok (.lst [e, r]) [] := by
    obtain ⟨k, rfl, hj⟩ := succ_of (n := 1) (k := k) (by omega)
    rw [run_at At_below.h]
    refine fin_pure ?_ (by simp [cl_lst, cls_cons, cls_nil, hec, hrc])
    refine pu_f (by simp! [R.bind_okk]) ?_
    exact pu_tr (by simp! [pIn]) (by simp! [R.bind_okk])
  have i1 : inD (.str "or") (.tup [.str "or", .str "and", .str "not"]) = some true := by
    rw [inD_s3 (strOk_ofS _) (strOk_ofS _) (strOk_ofS _) (strOk_ofS _)]
    simp
  have hz : (0 : Nat) < sizeLine := by decide
  rw [run_at At_near_names.h]
  refine fin1_box (t := 2) (d := .non) (S := [.lst [], .lst [], .lst []]) (o := .lst []) ?_ rfl rfl
  refine pu_f (by simp! [R.bind_okk]) ?_
  refine seq_rt ?_
  have c1 : r_near_names_c1 ix (runF rs k) [some (.tup [.str (Str.ofString "or"), e, r]), none, none] [] = .ok (.ref 2) [.lst [], .lst [], .lst []] := by
    have s1 : cSrc (cCall (ix 10) 1 [] (cCons (cVar 0) cNil)) (runF rs k) [some (.tup [.str (Str.ofString "or"), e, r]), none, none] [] = .ok (.frz [e, r]) [] := by simp! [cSrc, srcOf, b1, hec, hrc]
    have f1 : ∀ S : Sto, cSrc (cCall (ix 13) 1 [] (cCons (cVar 1) cNil)) (runF rs k) [some (.tup [.str (Str.ofString "or"), e, r]), some e, none] S = .ok (.box S.length) (S ++ [.lst []]) := fun S => by simp! [cSrc, srcOf, n1, hec, iso, clsO]
    have f2 : ∀ S : Sto, cSrc (cCall (ix 13) 1 [] (cCons (cVar 1) cNil)) (runF rs k) [some (.tup [.str (Str.ofString "or"), e, r]), some r, none] S = .ok (.box S.length) (S ++ [.lst []]) := fun S => by simp! [cSrc, srcOf, n2, hrc, iso, clsO]
    have hb : ∀ (env : Env') (S : Sto) (m : Nat), lcB (runF rs k) (.nm 2) cYes (cVar 2) env S.length (m + 1) 0 [] (S ++ [.lst []]) = .ok [] (S ++ [.lst []]) := fun env S m => by simp [lcB]
    have hb' : ∀ (env : Env') (S : Sto), lcB (runF rs k) (.nm 2) cYes (cVar 2) env S.length turnsMost 0 [] (S ++ [.lst []]) = .ok [] (S ++ [.lst []]) := fun env S => hb env S 16777216
    unfold r_near_names_c1 cLc2
    rw [s1, R.bind_okk]
    have hy : ∀ (env : Env') (S : Sto), cYes (runF rs k) env S = .ok true S := fun _ _ => rfl
    have e1 : bindT (.nm 1) e (wipeD [some (.tup [.str (Str.ofString "or"), e, r]), none, none] [1, 2]) = some [some (.tup [.str (Str.ofString "or"), e, r]), some e, none] := rfl
    have e2 : bindT (.nm 1) r (wipeD [some (.tup [.str (Str.ofString "or"), e, r]), none, none] [1, 2]) = some [some (.tup [.str (Str.ofString "or"), e, r]), some r, none] := rfl
    have g1 := f1 []
    have g2 := f2 [.lst []]
    have g3 := fun env => hb' env []
    have g4 := fun env => hb' env [.lst []]
    simp only [List.length_nil, List.length_cons, List.nil_append, List.cons_append, Nat.zero_add] at g1 g2 g3 g4
    simp only [lc2Run, lc2L, e1, e2, hy, R.bind_okk, if_true, g1, g2, g3, g4, List.length_nil, hz, noExc, mkL]
    rfl
  simp! [pIn, i1, c1]
end
section
variable [At_below rs ix] [At_near_names rs ix] [At_comes_back rs ix]
theorem comes_back_ok {bk : List (Str × D)} (h : BkP bk) {p : Str × D} (hp : p ∈ bk) (hk : 4 ≤ k) : runF rs k (ix 14) [.dic (bkK bk), .str p.1] [] = .ok (.bl false) [] := by
  obtain ⟨k, rfl, hj⟩ := succ_of hk
  have hm : p.1 ∈ bk.map (·.1) := List.mem_map.mpr ⟨p, hp, rfl⟩
  obtain ⟨t, h1, h2⟩ := valD_bk hm
  obtain ⟨e, r, he, h3, h4⟩ := h.val _ h1
  simp only at he; subst he
  have n1 := near_or (rs := rs) (ix := ix) (k := k) h3 h4 (by omega)
  have hec : clsD 0 e = true := h3.tp.cl
  have hrc : clsD 0 r = true := h4.tp.cl
  have hb := bkK_cl h
  rw [run_at At_comes_back.h]
  have q : r_comes_back ix (runF rs k) [some (.dic (bkK bk)), some (.str p.1), none, none, none] [] = .ok (.rt (.bl false)) [.lst [], .dic []] := by
    refine seq_nx (env1 := [some (.dic (bkK bk)), some (.str p.1), some (.ref 0), some (.ref 1), none]) (S1 := [.lst [], .dic []]) ?_ ?_
    · simp! [keyOf, h2, n1, hec, hrc, iso, clsO, mkD]
    · refine seq_nx (env1 := [some (.dic (bkK bk)), some (.str p.1), some (.ref 0), some (.ref 1), none]) (S1 := [.lst [], .dic []]) ?_ ?_
      · have : ∀ m, whL (runF rs k) (cB (cBin (pEq true) (cVar 2) (cPrim (pLst false) cNil))) (r_comes_back_b1 ix) (m + 1) [some (.dic (bkK bk)), some (.str p.1), some (.ref 0), some (.ref 1), none] [.lst [], .dic []] = .ok (.nx [some (.dic (bkK bk)), some (.str p.1), some (.ref 0), some (.ref 1), none]) [.lst [], .dic []] := fun m => by
          simp! [whL, deref, eqD, D.py, pyAll, PyData.eqv, PyData.eqvAll, PyData.depth, PyData.depthAll]
        exact this 99999
      · exact seq_rt rfl
  show finish 0 0 (r_comes_back ix (runF rs k) [some (.dic (bkK bk)), some (.str p.1), none, none, none] []) = _
  rw [q]
  simp [fin_rt, done, done0, frzD]
end
end Ev.Nv

set_option Elab.async false
set_option linter.all false
set_option maxRecDepth 100000
set_option maxHeartbeats 4000000
/-! Nv, part 11: book_right, type_right. -/
namespace Ev.Nv
open PySem PySem.Spec PyProof.Rows L2
local macro_rules
  | `(tactic| simp! [$ls,*]) => `(tactic| simp [List.getElem?_cons_zero, List.getElem?_cons_succ, List.set_cons_zero, List.set_cons_succ, pl_non, pl_bl, pl_int, pl_str, pl_tup, pl_lst, pls_nil, pls_cons, ns_non, ns_int, ns_str, ns_tup, nss_nil, nss_cons, cSeq, cRet, cIfS, cAsg, cExp, cSkip, cPar, cRetN, cVar, cK, cBin, cUn, cPrim, cCons, cNil, cCall, cIf, cTru, cNotT, cAndT, cOrT, cAndV, cOrV, cNotV, cB, cSl, cPart, cNoPart, cChain, cYes, R.bind_okk, R.at_okk, startD, bindT, bindTs, pIsi, tyD, isI, isTys, isCls, tysOf, isAny, pLen, pTup, pLst, pIx, pEq, pIs_non, pIs_nonN, isNon_non, isNon_int, isNon_str, isNon_tup, isNon_bl, wipeD, -List.map_map, pLt, pLe, pGt, pGe, pCmpI, pSub, mkL, truthD, deref_non, deref_bl, deref_int, deref_str, deref_tup, deref_lst, deref_dic, deref_scr, deref_ty, fin_rt, fin_nx, iso_okD, cl_non, cl_bl, cl_int, cl_str, cl_ty, cl_tup, cl_lst, cl_dic, cls_nil, cls_cons, clk_nil, clk_cons, done_nil, sz_lit, ofS_inj, atI0, atI1, atI2, strOk_ofS, eqD_str, eqD_int, inD_s2, inD_s3, inD_s4, all_true, $ls,*])
variable {rs : List Rd'} {ix : Nat → Nat} {k : Nat} {d : D} {nm : List Str}
theorem src_bk {bk : List (Str × D)} (h : BkP bk) {env : Env'} {call : Call} {S : Sto} : cSrcN 0 call (some (.dic (bkK bk)) :: env) S = .ok (.frz (bk.map fun p => .str p.1)) S := by
  have h1 : (bkK bk).length ≤ sizeLine := by
    have := h.len
    have : (bkK bk).length ≤ 3 := by simpa [bkK] using this
    exact Nat.le_trans this (by decide)
  have h2 : ((bkK bk).all fun kv => keyS kv.1) = true := by
    simp only [List.all_eq_true, bkK, List.mem_map]
    rintro _ ⟨p, hp, rfl⟩
    have := (nm_ok (h.nmOk p hp)).2.2
    simp only [keyS, decide_eq_true_eq]
    exact Nat.le_trans this (by decide)
  simp only [cSrcN, List.getElem?_cons_zero]
  rw [if_pos ⟨h1, h2⟩]
  simp only [bkK, List.map_map]
  rfl
theorem pIn_bk {bk : List (Str × D)} {x : Str} (hx : x ∈ bk.map (·.1)) {S : Sto} : pIn false (.str x) (.dic (bkK bk)) S = .ok (.bl true) S := by
  obtain ⟨t, _, h2⟩ := valD_bk hx
  simp [pIn, deref_dic, keyOf, h2]
section
variable [At_is_number rs ix] [At_is_name rs ix] [At_is_constant rs ix] [At_is_tagged rs ix] [At_is_rising rs ix] [At_bounds_right rs ix] [At_told_fields_right rs ix] [At_form_right rs ix] [At_below rs ix] [At_parts_of rs ix] [At_leaves rs ix]
section
variable [At_near_names rs ix] [At_comes_back rs ix] [At_book_right rs ix]
theorem book_right_ok {bk : List (Str × D)} (h : BkP bk) (hk : 20 ≤ k) : runF rs k (ix 15) [.dic (bkK bk)] [] = .ok (.bl true) [] := by
  obtain ⟨k, rfl, hj⟩ := succ_of (n := 19) hk
  have hb := bkK_cl h
  have hlen : ¬ (60 : Int) < ((bkK bk).length : Int) := by
    have := h.len
    have : (bkK bk).length ≤ 3 := by simpa [bkK] using this
    omega
  have lk : ∀ p ∈ bk, ∃ t, (p.1, t) ∈ bk ∧ valD (bkK bk) (.inr p.1) = some t := fun p hp => valD_bk (List.mem_map.mpr ⟨p, hp, rfl⟩)
  rw [run_at At_book_right.h]
  have c5 : r_book_right_c5 ix (runF rs k) [some (.dic (bkK bk)), none, none] [] = .ok (.lst (trues (bk.map fun p => D.str p.1).length)) [] := cLc_true (src_bk h) fun d hd => by
    obtain ⟨p, hp, rfl⟩ := List.mem_map.mp hd
    have h1 := is_name_ok (rs := rs) (ix := ix) (k := k) (d := .str p.1) (by omega) rfl
    simp only [isNm, h.nmOk p hp] at h1
    exact ⟨_, rfl, by simp! [h1]⟩
  have c4 : r_book_right_c4 ix (runF rs k) [some (.dic (bkK bk)), none, none] [] = .ok (.lst (trues (bk.map fun p => D.str p.1).length)) [] := cLc_true (src_bk h) fun d hd => by
    obtain ⟨p, hp, rfl⟩ := List.mem_map.mp hd
    obtain ⟨t, h1, h2⟩ := lk p hp
    have h3 := h.tp h1
    have h4 := form_right_ok (rs := rs) (ix := ix) (k := k) (z := 60) h3 (by omega) (by omega)
    simp only at h4 h3
    exact ⟨_, rfl, by simp! [keyOf, h2, h4, h3.cl]⟩
  have c3 : r_book_right_c3 ix (runF rs k) [some (.dic (bkK bk)), none, none] [] = .ok (.lst (falses (bk.map fun p => D.str p.1).length)) [] := cLc_false (src_bk h) fun d hd => by
    obtain ⟨p, hp, rfl⟩ := List.mem_map.mp hd
    obtain ⟨t, h1, h2⟩ := lk p hp
    have h3 := h.tp h1
    obtain ⟨c, h4, _, h5⟩ := parts_of_ok (rs := rs) (ix := ix) (k := k) h3 (by omega)
    simp only at h4 h3
    have h6 : ¬ (400 : Int) < c := by omega
    exact ⟨_, rfl, by simp! [keyOf, h2, h4, h3.cl, h6]⟩
  have c2 : r_book_right_c2 ix (runF rs k) [some (.dic (bkK bk)), none, none] [] = .ok (.lst (trues ((bk.map fun p => D.str p.1).flatMap fun d => (outL (runF rs k (ix 12) [match d with
      | .str x => (valD (bkK bk) (.inr x)).getD .non
      | d => d, .str "the"] [])).map fun _ => D.bl true).length)) [] := by
    have lv : ∀ p ∈ bk, ∃ xs : List Str, runF rs k (ix 12) [(valD (bkK bk) (.inr p.1)).getD .non, .str "the"] [] = .ok (.lst (xs.map .str)) [] ∧ (∀ x ∈ xs, x ∈ bk.map (·.1)) ∧ xs.length ≤ 32 := fun p hp => by
      obtain ⟨t, h1, h2⟩ := lk p hp
      have h3 := h.tp h1
      rw [h2]
      exact leaves_ok (rs := rs) (ix := ix) (k := k) h3 (by omega) (by omega)
    have hall : ∀ (ds : List D) (f : D → List D), ds.flatMap (fun d => (f d).map fun _ => D.bl true) = trues (ds.flatMap (fun d => (f d).map fun _ => D.bl true)).length := fun ds f => by
      rw [← map_trues]
      have : ∀ x ∈ ds.flatMap (fun d => (f d).map fun _ => D.bl true), x = D.bl true := fun x hx => by
        obtain ⟨d, _, hx⟩ := List.mem_flatMap.mp hx
        obtain ⟨_, _, rfl⟩ := List.mem_map.mp hx
        rfl
      generalize ds.flatMap (fun d => (f d).map fun _ => D.bl true) = l at this
      induction l with
      | nil => rfl
      | cons a l ih => rw [List.map_cons, ← ih fun x hx => this x (by simp [hx]), this a (by simp)]
    have hl : ∀ l : List (Str × D), (∀ p ∈ l, p ∈ bk) → ((l.map fun p => D.str p.1).flatMap fun d => (outL (runF rs k (ix 12) [match d with
      | .str x => (valD (bkK bk) (.inr x)).getD .non
      | d => d, .str "the"] [])).map fun _ => D.bl true).length ≤ l.length * 32 := fun l => by
      induction l with
      | nil => intro _; simp
      | cons p l ih =>
        intro hl
        obtain ⟨xs, q1, _, q3⟩ := lv p (hl p (by simp))
        have := ih fun x hx => hl x (by simp [hx])
        rw [List.map_cons, List.flatMap_cons, List.length_append, List.length_map, List.length_cons]
        have q1' : outL (runF rs k (ix 12) [(valD (bkK bk) (.inr p.1)).getD .non, .str "the"] []) = xs.map .str := by rw [q1]; rfl
        simp only [q1', List.length_map]
        omega
    have hl2 := hl bk fun _ h => h
    have hl3 := h.len
    have := cLc2_pure (call := runF rs k) (S := []) (env := [some (.dic (bkK bk)), none, none]) (tg := .nm 1) (tg1 := .nm 2) (vs := [1, 2]) (vs1 := [2]) (fe := cBin (pIn false) (cVar 2) (cVar 0)) (fi := cSrcN 0) (fi1 := cSrc (cCall (ix 12) 2 [] (cCons (cBin pIx (cVar 0) (cVar 1)) (cCons (cK (.str "the")) cNil)))) (items := bk.map fun p => D.str p.1)
      (fun d => outL (runF rs k (ix 12) [match d with
        | .str x => (valD (bkK bk) (.inr x)).getD .non
        | d => d, .str "the"] [])) (fun _ => .bl true) (src_bk h) (fun d hd => by
        obtain ⟨p, hp, rfl⟩ := List.mem_map.mp hd
        obtain ⟨xs, q1, q2, q3⟩ := lv p hp
        obtain ⟨t, h1, h2⟩ := lk p hp
        have h3 := (h.tp h1).cl
        simp only [h2, Option.getD_some] at q1
        have hys : clsDs 0 (xs.map D.str) = true := clsDs_mem.mpr fun d hd => by
          obtain ⟨x, _, rfl⟩ := List.mem_map.mp hd; rfl
        refine ⟨_, rfl, by simp! [cSrc, srcOf, keyOf, h2, q1, h3, hys, outL], fun e he => ?_⟩
        simp only [h2, Option.getD_some, q1, outL] at he
        obtain ⟨x, hx, rfl⟩ := List.mem_map.mp he
        exact ⟨_, rfl, by simp! [pIn_bk (q2 x hx)]⟩) (Nat.lt_of_le_of_lt (m := 96) (by omega) (by decide))
    refine Eq.trans this ?_
    rw [← hall]
  have c1 : r_book_right_c1 ix (runF rs k) [some (.dic (bkK bk)), none, none] [] = .ok (.lst (falses (bk.map fun p => D.str p.1).length)) [] := cLc_false (src_bk h) fun d hd => by
    obtain ⟨p, hp, rfl⟩ := List.mem_map.mp hd
    have h4 := comes_back_ok (rs := rs) (ix := ix) (k := k) h hp (by omega)
    exact ⟨_, rfl, by simp! [h4, hb]⟩
  refine fin_pure (d := .bl true) ?_ rfl
  refine pu_f (by simp! [c5, hlen]) ?_
  refine pu_f (by simp! [c4]) ?_
  refine pu_f (by simp! [c3, any_false]) ?_
  refine pu_f (by simp! [c2]) ?_
  exact pu_r (by simp! [c1, any_false])
end
section
variable [At_type_right rs ix]
theorem type_right_ok {bk : List (Str × D)} (h : BkP bk) {m : Nat} {t : D} (ht : TP (bk.map (·.1)) m t) (hm : m ≤ 8) (hk : 25 ≤ k) : runF rs k (ix 16) [.dic (bkK bk), t, .bl false] [] = .ok (.bl true) [] := by
  obtain ⟨k, rfl, hj⟩ := succ_of (n := 24) hk
  have hb := bkK_cl h
  have hc := ht.cl
  have h4 := form_right_ok (rs := rs) (ix := ix) (k := k) (z := 60) ht (by omega) (by omega)
  obtain ⟨c, h5, _, h6⟩ := parts_of_ok (rs := rs) (ix := ix) (k := k) ht (by omega)
  have h7 : ¬ (400 : Int) < c := by
    have : (2 : Int) ^ m ≤ 2 ^ 8 := by
      have := Nat.pow_le_pow_right (n := 2) (by decide) hm
      exact_mod_cast this
    omega
  obtain ⟨xs, l1, l2, l3⟩ := leaves_ok (rs := rs) (ix := ix) (k := k) ht (by omega) (by omega)
  have hys : clsDs 0 (xs.map D.str) = true := clsDs_mem.mpr fun d hd => by
    obtain ⟨x, _, rfl⟩ := List.mem_map.mp hd; rfl
  rw [run_at At_type_right.h]
  have c1 : r_type_right_c1 ix (runF rs k) [some (.dic (bkK bk)), some t, some (.bl false), none] [] = .ok (.lst (trues (xs.map D.str).length)) [] := cLc_true (by simp! [cSrc, srcOf, l1, hc, hys]) fun d hd => by
    obtain ⟨x, hx, rfl⟩ := List.mem_map.mp hd
    exact ⟨_, rfl, by simp! [pIn_bk (l2 x hx)]⟩
  refine fin_pure (d := .bl true) ?_ rfl
  refine pu_f (by simp! [h4, h5, h7, hc]) ?_
  exact pu_r (by simp! [c1])
theorem need_type_ok [At_need_type rs ix] {bk : List (Str × D)} (h : BkP bk) {m : Nat} {t : D} (ht : TP (bk.map (·.1)) m t) (hm : m ≤ 8) (hk : 26 ≤ k) : runF rs k (ix 18) [.dic (bkK bk), t] [] = .ok .non [] := by
  obtain ⟨k, rfl, hj⟩ := succ_of (n := 25) hk
  have i1 := type_right_ok (rs := rs) (ix := ix) (k := k) h ht hm (by omega)
  have hb := bkK_cl h
  have hc := ht.cl
  rw [run_at At_need_type.h]
  refine fin_pureN (env := [some (.dic (bkK bk)), some t]) ?_
  exact pu_f (by simp! [i1, hb, hc]) rfl
end
theorem need_book_ok [At_near_names rs ix] [At_comes_back rs ix] [At_book_right rs ix] [At_need_book rs ix] {bk : List (Str × D)} (h : BkP bk) (hk : 21 ≤ k) : runF rs k (ix 17) [.dic (bkK bk)] [] = .ok .non [] := by
  obtain ⟨k, rfl, hj⟩ := succ_of (n := 20) hk
  have i1 := book_right_ok (rs := rs) (ix := ix) (k := k) h (by omega)
  have hb := bkK_cl h
  rw [run_at At_need_book.h]
  refine fin_pureN (env := [some (.dic (bkK bk))]) ?_
  exact pu_f (by simp! [i1, hb]) rfl
end
end Ev.Nv

set_option Elab.async false
set_option linter.all false
set_option maxRecDepth 100000
set_option maxHeartbeats 4000000
/-! Nv, part 12: membership, as a plain function. -/
namespace Ev.Nv
open PySem PySem.Spec PyProof.Rows L2
local macro_rules
  | `(tactic| simp! [$ls,*]) => `(tactic| simp [List.getElem?_cons_zero, List.getElem?_cons_succ, List.set_cons_zero, List.set_cons_succ, pl_non, pl_bl, pl_int, pl_str, pl_tup, pl_lst, pls_nil, pls_cons, ns_non, ns_int, ns_str, ns_tup, nss_nil, nss_cons, cSeq, cRet, cIfS, cAsg, cExp, cSkip, cPar, cRetN, cVar, cK, cBin, cUn, cPrim, cCons, cNil, cCall, cIf, cTru, cNotT, cAndT, cOrT, cAndV, cOrV, cNotV, cB, cSl, cPart, cNoPart, cChain, cYes, R.bind_okk, R.at_okk, startD, bindT, bindTs, pIsi, tyD, isI, isTys, isCls, tysOf, isAny, pLen, pTup, pLst, pIx, pEq, pIs_non, pIs_nonN, isNon_non, isNon_int, isNon_str, isNon_tup, isNon_bl, wipeD, -List.map_map, pLt, pLe, pGt, pGe, pCmpI, pSub, mkL, truthD, deref_non, deref_bl, deref_int, deref_str, deref_tup, deref_lst, deref_dic, deref_scr, deref_ty, fin_rt, fin_nx, iso_okD, cl_non, cl_bl, cl_int, cl_str, cl_ty, cl_tup, cl_lst, cl_dic, cls_nil, cls_cons, clk_nil, clk_cons, done_nil, sz_lit, ofS_inj, atI0, atI1, atI2, strOk_ofS, eqD_str, eqD_int, inD_s2, inD_s3, inD_s4, all_true, $ls,*])
def look : List D → Str → Option D
  | [], _ => none
  | .tup [.str l, x] :: r, y => if l = y then some x else look r y
  | _ :: r, y => look r y
def labs : List D → List Str
  | [] => []
  | .tup [.str l, _, _] :: r => l :: labs r
  | _ :: r => labs r
def leD : D → D → Bool
  | .int a, .int b => decide (a ≤ b)
  | _, _ => false
def isStr : D → Bool
  | .str _ => true
  | _ => false
def eqB (a b : D) : Bool := match eqD a b with
  | some b => b
  | none => false
def pairV (S : D → D → Bool) (a b : D) : D → Bool
  | .tup [.str u, x, y] => decide (u = "pair") && (S x a && S y b)
  | _ => false
def funP (S : D → D → Bool) (a b : D) : D → Bool
  | .tup [x, y] => !S x a || (!isNon y && S y b)
  | _ => false
def funV (S : D → D → Bool) (a b : D) : D → Bool
  | .tup [.str u, .tup ps] => decide (u = "graph") && ps.all (funP S a b)
  | _ => false
def inL (ls : List Str) (l : Str) : Bool := decide (l ∈ ls)
def recH (ls : List Str) : D → Bool
  | .tup [.str l, _] => inL ls l
  | _ => false
def recF (S : D → D → Bool) (hs : List D) : D → Bool
  | .tup [.str l, t, .bl m] => (match look hs l with
    | some x => S x t
    | none => !m)
  | _ => false
def recV (S : D → D → Bool) (fs : List D) (o : Bool) : D → Bool
  | .tup [.str u, .tup hs] => decide (u = "record") && ((o || hs.all (recH (labs fs))) && fs.all (recF S hs))
  | _ => false
def theR (bk : List (Str × D)) (S : D → D → Bool) (v : D) : List D → Bool
  | [.str x] => (match valD (bkK bk) (.inr x) with
    | some t => S v t
    | none => false)
  | _ => false
def notR (S : D → D → Bool) (v : D) : List D → Bool
  | [a] => !S v a
  | _ => false
def orR (S : D → D → Bool) (v : D) : List D → Bool
  | [a, b] => S v a || S v b
  | _ => false
def andR (S : D → D → Bool) (v : D) : List D → Bool
  | [a, b] => S v a && S v b
  | _ => false
def pairR (S : D → D → Bool) (v : D) : List D → Bool
  | [a, b] => pairV S a b v
  | _ => false
def recR (S : D → D → Bool) (v : D) : List D → Bool
  | [.tup fs, .bl o] => recV S fs o v
  | _ => false
def funR (S : D → D → Bool) (v : D) : List D → Bool
  | [a, b] => funV S a b v
  | _ => false
def isR (v : D) : List D → Bool
  | [c] => isCst v && eqB v c
  | _ => false
def fromR (v : D) : List D → Bool
  | [lo, hi] => isNum v && ((isNon lo || leD lo v) && (isNon hi || leD v hi))
  | _ => false
/-- one step of membership -/
def semF (bk : List (Str × D)) (S : D → D → Bool) (v : D) : D → Bool
  | .tup (.str w :: r) =>
    if w = "any" then true else if w = "none" then false else if w = "the" then theR bk S v r else
    if w = "not" then notR S v r else if w = "or" then orR S v r else if w = "and" then andR S v r else
    if w = "pair" then pairR S v r else if w = "record" then recR S v r else if w = "fun" then funR S v r else
    if w = "is" then isR v r else if w = "names" then isStr v else fromR v r
  | _ => false
def sem (bk : List (Str × D)) : Nat → D → D → Bool
  | 0, _, _ => false
  | k + 1, v, t => semF bk (sem bk k) v t
section
variable {bk : List (Str × D)} {S : D → D → Bool} {v a b : D}
theorem semF_any : semF bk S v (.tup [.str "any"]) = true := by simp [semF]
theorem semF_none : semF bk S v (.tup [.str "none"]) = false := by simp [semF, ofS_inj]
theorem semF_the {x : Str} {t : D} (h : valD (bkK bk) (.inr x) = some t) : semF bk S v (.tup [.str "the", .str x]) = S v t := by simp [semF, ofS_inj, h, theR]
theorem semF_not : semF bk S v (.tup [.str "not", a]) = !S v a := by simp [semF, ofS_inj, notR]
theorem semF_or : semF bk S v (.tup [.str "or", a, b]) = (S v a || S v b) := by simp [semF, ofS_inj, orR]
theorem semF_and : semF bk S v (.tup [.str "and", a, b]) = (S v a && S v b) := by simp [semF, ofS_inj, andR]
theorem semF_pair : semF bk S v (.tup [.str "pair", a, b]) = pairV S a b v := by simp [semF, ofS_inj, pairR]
theorem semF_fun : semF bk S v (.tup [.str "fun", a, b]) = funV S a b v := by simp [semF, ofS_inj, funR]
theorem semF_record {fs : List D} {o : Bool} : semF bk S v (.tup [.str "record", .tup fs, .bl o]) = recV S fs o v := by simp [semF, ofS_inj, recR]
theorem semF_is {c : D} : semF bk S v (.tup [.str "is", c]) = (isCst v && eqB v c) := by simp [semF, ofS_inj, isR]
theorem semF_names : semF bk S v (.tup [.str "names"]) = isStr v := by simp [semF, ofS_inj]
theorem semF_from {lo hi : D} : semF bk S v (.tup [.str "from", lo, hi]) = (isNum v && ((isNon lo || leD lo v) && (isNon hi || leD v hi))) := by simp [semF, ofS_inj, fromR]
end
theorem look_mem {fs : List (Str × D)} {l : Str} {x : D} (h : look (fs.map fieldD) l = some x) : ∃ f ∈ fs, f.2 = x := by
  induction fs with
  | nil => cases h
  | cons f fs ih =>
    simp only [List.map_cons, fieldD, look] at h
    split at h
    · cases h; exact ⟨f, by simp, rfl⟩
    · obtain ⟨g, h1, h2⟩ := ih h
      exact ⟨g, by simp [h1], h2⟩
/-- induction over values and types; h: how many steps -/
structure IndH (bk : List (Str × D)) (M : Nat → D → D → Prop) : Prop where
  mono : ∀ {h h' v t}, h ≤ h' → M h v t → M h' v t
  leaf : ∀ {n v t}, n ≤ 4 → VP n v → LeafP [] t → M 1 v t
  the : ∀ {h n v x t}, n ≤ 4 → VP n v → nmB x = true → x ∈ bk.map (·.1) → valD (bkK bk) (.inr x) = some t → TP (bk.map (·.1)) 5 t → M h v t → M (h + 1) v (.tup [.str "the", .str x])
  not : ∀ {h n v m a}, n ≤ 4 → VP n v → m ≤ 8 → TP (bk.map (·.1)) m a → M h v a → M (h + 1) v (.tup [.str "not", a])
  or : ∀ {h n v m a b}, n ≤ 4 → VP n v → m ≤ 8 → TP (bk.map (·.1)) m a → TP (bk.map (·.1)) m b → M h v a → M h v b → M (h + 1) v (.tup [.str "or", a, b])
  and : ∀ {h n v m a b}, n ≤ 4 → VP n v → m ≤ 8 → TP (bk.map (·.1)) m a → TP (bk.map (·.1)) m b → M h v a → M h v b → M (h + 1) v (.tup [.str "and", a, b])
  pair : ∀ {h n v m a b}, n ≤ 3 → VP (n + 1) v → m ≤ 8 → TP (bk.map (·.1)) m a → TP (bk.map (·.1)) m b → (∀ v', VP n v' → M h v' a ∧ M h v' b) → M (h + 1) v (.tup [.str "pair", a, b])
  func : ∀ {h n v m a b}, n ≤ 3 → VP (n + 1) v → m ≤ 8 → TP (bk.map (·.1)) m a → TP (bk.map (·.1)) m b → (∀ v', VP n v' → M h v' a ∧ M h v' b) → M (h + 1) v (.tup [.str "fun", a, b])
  recd : ∀ {h n v m} {fs : List (Str × D × Bool)} {o : Bool}, n ≤ 3 → VP (n + 1) v → m ≤ 8 → fs.length ≤ 2 → risB (fs.map (·.1)) = true → (∀ f ∈ fs, nmB f.1 = true ∧ TP (bk.map (·.1)) m f.2.1) → (∀ v', VP n v' → ∀ f ∈ fs, M h v' f.2.1) → M (h + 1) v (.tup [.str "record", .tup (fs.map tfD), .bl o])
section
variable {bk : List (Str × D)} {M : Nat → D → D → Prop}
theorem IndH.rnd (I : IndH bk M) {n : Nat} {v r : D} (hn : n ≤ 3) (hv : VP (n + 1) v) (hr : RndP (bk.map (·.1)) r) (ih : ∀ v' t, VP n v' → TP (bk.map (·.1)) 3 t → M (10 * n + 3) v' t) : M (10 * n + 4) v r := by
  rcases hr with ⟨w, a, b, rfl | rfl, h1, h2, rfl⟩ | ⟨fs, o, h1, h2, h3, rfl⟩
  · exact I.pair hn hv (by decide : 3 ≤ 8) h1 h2 fun v' hv' => ⟨ih v' a hv' h1, ih v' b hv' h2⟩
  · exact I.func hn hv (by decide : 3 ≤ 8) h1 h2 fun v' hv' => ⟨ih v' a hv' h1, ih v' b hv' h2⟩
  · exact I.recd hn hv (by decide : 3 ≤ 8) h1 h2 h3 fun v' hv' f hf => ih v' _ hv' (h3 f hf).2
theorem IndH.all (I : IndH bk M) (hb : BkP bk) : ∀ {n m : Nat} {v t : D}, VP n v → TP (bk.map (·.1)) m t → n ≤ 4 → m ≤ 9 → M (10 * n + m) v t
  | 0, _, _, _, h, _, _, _ => h.elim
  | _ + 1, 0, _, _, _, h, _, _ => h.elim
  | n + 1, m + 1, v, t, hv, ht, hn, hm => by
    have ihn : ∀ {m v t}, VP n v → TP (bk.map (·.1)) m t → m ≤ 9 → M (10 * n + m) v t := fun a b c => IndH.all I hb a b (by omega) c
    have ihm : ∀ {t}, TP (bk.map (·.1)) m t → M (10 * (n + 1) + m) v t := fun b => IndH.all I hb hv b hn (by omega)
    have up : ∀ {t}, M (10 * n + m + 1) v t → M (10 * (n + 1) + (m + 1)) v t := fun h => I.mono (by omega) h
    rcases ht with h | ⟨a, h1, rfl⟩ | ⟨w, a, b, hw, h1, h2, rfl⟩ | ⟨fs, o, h1, h2, h3, rfl⟩
    · rcases h with h | h | h | ⟨x, h1, h2, rfl⟩
      · exact I.mono (by omega) (I.leaf hn hv (.inl h))
      · exact I.mono (by omega) (I.leaf hn hv (.inr (.inl h)))
      · exact I.mono (by omega) (I.leaf hn hv (.inr (.inr (.inl h))))
      · obtain ⟨t, q1, q2⟩ := valD_bk h1
        obtain ⟨e, r, he, q3, q4⟩ := hb.val _ q1
        simp only at he
        subst he
        refine I.mono (h := 10 * n + 4 + 1 + 1) (by omega) (I.the hn hv h2 h1 q2 (hb.tp q1) ?_)
        exact I.or hn hv (by decide : 4 ≤ 8) ((q3.sub (by simp)).tp.le (m := 4) (by decide)) (q4.tp) (I.mono (by omega) (I.leaf hn hv q3)) (I.rnd (by omega) hv q4 fun v' t a b => ihn a b (by omega))
    · exact I.not hn hv (by omega) h1 (ihm h1)
    · rcases hw with rfl | rfl | rfl | rfl
      · exact up (I.pair (by omega) hv (by omega) h1 h2 fun v' hv' => ⟨ihn hv' h1 (by omega), ihn hv' h2 (by omega)⟩)
      · exact up (I.func (by omega) hv (by omega) h1 h2 fun v' hv' => ⟨ihn hv' h1 (by omega), ihn hv' h2 (by omega)⟩)
      · exact I.or hn hv (by omega) h1 h2 (ihm h1) (ihm h2)
      · exact I.and hn hv (by omega) h1 h2 (ihm h1) (ihm h2)
    · exact up (I.recd (by omega) hv (by omega) h1 h2 h3 fun v' hv' f hf => ihn hv' (h3 f hf).2 (by omega))
end
section
variable {bk : List (Str × D)} {S S' : D → D → Bool} {n : Nat} {v a b : D}
theorem pairV_congr (hv : VP (n + 1) v) (h : ∀ v', VP n v' → S v' a = S' v' a ∧ S v' b = S' v' b) : pairV S a b v = pairV S' a b v := by
  refine hv.cases (fun m e hc => ?_) (fun m x y e e2 h1 h2 => ?_) (fun m fs e e2 h1 h2 h3 => ?_) fun m ps e e2 h1 h2 h3 => ?_
  · rcases cstB_cases hc with ⟨i, rfl, _⟩ | ⟨s, rfl, _⟩ <;> rfl
  · cases e; subst e2; simp only [pairV, (h x h1).1, (h y h2).2]
  · subst e2; rfl
  · subst e2; rfl
theorem funP_congr (h : ∀ v', VP n v' → S v' a = S' v' a ∧ S v' b = S' v' b) {p : D × D} (hp : VP n p.1 ∧ (p.2 = .non ∨ VP n p.2)) : funP S a b (pairD p) = funP S' a b (pairD p) := by
  obtain ⟨x, y⟩ := p
  simp only at hp
  simp only [funP, pairD, (h x hp.1).1]
  rcases hp.2 with e | e
  · subst e; simp [isNon]
  · rw [(h y e).2]
theorem funV_congr (hv : VP (n + 1) v) (h : ∀ v', VP n v' → S v' a = S' v' a ∧ S v' b = S' v' b) : funV S a b v = funV S' a b v := by
  refine hv.cases (fun m e hc => ?_) (fun m x y e e2 h1 h2 => ?_) (fun m fs e e2 h1 h2 h3 => ?_) fun m ps e e2 h1 h2 h3 => ?_
  · rcases cstB_cases hc with ⟨i, rfl, _⟩ | ⟨s, rfl, _⟩ <;> rfl
  · subst e2; simp [funV]
  · subst e2; simp [funV, ofS_inj]
  · cases e; subst e2
    simp only [funV]
    congr 1
    rw [List.all_map, List.all_map, Bool.eq_iff_iff, List.all_eq_true, List.all_eq_true]
    exact forall₂_congr fun p hp => by rw [Function.comp_apply, Function.comp_apply, funP_congr h (h3 p hp)]
theorem recV_congr {fs : List (Str × D × Bool)} {o : Bool} (hv : VP (n + 1) v) (h : ∀ v', VP n v' → ∀ f ∈ fs, S v' f.2.1 = S' v' f.2.1) : recV S (fs.map tfD) o v = recV S' (fs.map tfD) o v := by
  refine hv.cases (fun m e hc => ?_) (fun m x y e e2 h1 h2 => ?_) (fun m gs e e2 h1 h2 h3 => ?_) fun m ps e e2 h1 h2 h3 => ?_
  · rcases cstB_cases hc with ⟨i, rfl, _⟩ | ⟨s, rfl, _⟩ <;> rfl
  · subst e2; simp [recV]
  · cases e; subst e2
    simp only [recV]
    congr 2
    rw [List.all_map, List.all_map, Bool.eq_iff_iff, List.all_eq_true, List.all_eq_true]
    refine forall₂_congr fun f hf => ?_
    simp only [Function.comp_apply, tfD, recF]
    cases hl : look (gs.map fieldD) f.1 with
    | none => rfl
    | some x =>
      obtain ⟨g, hg, rfl⟩ := look_mem hl
      show (S g.2 f.2.1 = true ↔ S' g.2 f.2.1 = true)
      rw [h _ (h3 g hg).2 f hf]
  · subst e2; simp [recV, ofS_inj]
theorem stableI (bk : List (Str × D)) : IndH bk fun h v t => ∀ j j', h ≤ j → h ≤ j' → sem bk j v t = sem bk j' v t where
  mono := fun hh q j j' a b => q j j' (by omega) (by omega)
  leaf := fun {n v t} _ hv ht j j' a b => by
    obtain ⟨j, rfl, _⟩ := succ_of (k := j) (n := 0) (by omega)
    obtain ⟨j', rfl, _⟩ := succ_of (k := j') (n := 0) (by omega)
    simp only [sem]
    rcases ht with ⟨w, rfl | rfl | rfl, rfl⟩ | ⟨c, _, rfl⟩ | ⟨lo, hi, _, rfl⟩ | ⟨x, hx, _⟩
    · rw [semF_any, semF_any]
    · rw [semF_none, semF_none]
    · rw [semF_names, semF_names]
    · rw [semF_is, semF_is]
    · rw [semF_from, semF_from]
    · simp at hx
  the := fun {h n v x t} _ hv _ _ hx _ q j j' a b => by
    obtain ⟨j, rfl, _⟩ := succ_of (k := j) (n := h) (by omega)
    obtain ⟨j', rfl, _⟩ := succ_of (k := j') (n := h) (by omega)
    simp only [sem]
    rw [semF_the hx, semF_the hx, q j j' (by omega) (by omega)]
  not := fun {h n v m a} _ hv _ _ q j j' a b => by
    obtain ⟨j, rfl, _⟩ := succ_of (k := j) (n := h) (by omega)
    obtain ⟨j', rfl, _⟩ := succ_of (k := j') (n := h) (by omega)
    simp only [sem]
    rw [semF_not, semF_not, q j j' (by omega) (by omega)]
  or := fun {h n v m a b} _ hv _ _ _ q1 q2 j j' _ _ => by
    obtain ⟨j, rfl, _⟩ := succ_of (k := j) (n := h) (by omega)
    obtain ⟨j', rfl, _⟩ := succ_of (k := j') (n := h) (by omega)
    simp only [sem]
    rw [semF_or, semF_or, q1 j j' (by omega) (by omega), q2 j j' (by omega) (by omega)]
  and := fun {h n v m a b} _ hv _ _ _ q1 q2 j j' _ _ => by
    obtain ⟨j, rfl, _⟩ := succ_of (k := j) (n := h) (by omega)
    obtain ⟨j', rfl, _⟩ := succ_of (k := j') (n := h) (by omega)
    simp only [sem]
    rw [semF_and, semF_and, q1 j j' (by omega) (by omega), q2 j j' (by omega) (by omega)]
  pair := fun {h n v m a b} _ hv _ _ _ q j j' _ _ => by
    obtain ⟨j, rfl, _⟩ := succ_of (k := j) (n := h) (by omega)
    obtain ⟨j', rfl, _⟩ := succ_of (k := j') (n := h) (by omega)
    simp only [sem]
    rw [semF_pair, semF_pair]
    exact pairV_congr hv fun v' hv' => ⟨(q v' hv').1 j j' (by omega) (by omega), (q v' hv').2 j j' (by omega) (by omega)⟩
  func := fun {h n v m a b} _ hv _ _ _ q j j' _ _ => by
    obtain ⟨j, rfl, _⟩ := succ_of (k := j) (n := h) (by omega)
    obtain ⟨j', rfl, _⟩ := succ_of (k := j') (n := h) (by omega)
    simp only [sem]
    rw [semF_fun, semF_fun]
    exact funV_congr hv fun v' hv' => ⟨(q v' hv').1 j j' (by omega) (by omega), (q v' hv').2 j j' (by omega) (by omega)⟩
  recd := fun {h n v m fs o} _ hv _ _ _ _ q j j' _ _ => by
    obtain ⟨j, rfl, _⟩ := succ_of (k := j) (n := h) (by omega)
    obtain ⟨j', rfl, _⟩ := succ_of (k := j') (n := h) (by omega)
    simp only [sem]
    rw [semF_record, semF_record]
    exact recV_congr hv fun v' hv' f hf => q v' hv' f hf j j' (by omega) (by omega)
/-- membership -/
def Sm (bk : List (Str × D)) (v t : D) : Bool := sem bk 60 v t
theorem sm_eq {m : Nat} {t : D} (hb : BkP bk) (hv : VP n v) (ht : TP (bk.map (·.1)) m t) (hn : n ≤ 4) (hm : m ≤ 9) : Sm bk v t = semF bk (Sm bk) v t :=
  (stableI bk).all hb hv ht hn hm 60 61 (by omega) (by omega)
end
end Ev.Nv

set_option Elab.async false
set_option linter.all false
set_option maxRecDepth 100000
set_option maxHeartbeats 4000000
/-! Nv, part 13: members.py: of. -/
namespace Ev.Nv
open PySem PySem.Spec PyProof.Rows L2
local macro_rules
  | `(tactic| simp! [$ls,*]) => `(tactic| simp [List.getElem?_cons_zero, List.getElem?_cons_succ, List.set_cons_zero, List.set_cons_succ, pl_non, pl_bl, pl_int, pl_str, pl_tup, pl_lst, pls_nil, pls_cons, ns_non, ns_int, ns_str, ns_tup, nss_nil, nss_cons, cSeq, cRet, cIfS, cAsg, cExp, cSkip, cPar, cRetN, cVar, cK, cBin, cUn, cPrim, cCons, cNil, cCall, cIf, cTru, cNotT, cAndT, cOrT, cAndV, cOrV, cNotV, cB, cSl, cPart, cNoPart, cChain, cYes, R.bind_okk, R.at_okk, startD, bindT, bindTs, pIsi, tyD, isI, isTys, isCls, tysOf, isAny, pLen, pTup, pLst, pIx, pEq, pIs_non, pIs_nonN, isNon_non, isNon_int, isNon_str, isNon_tup, isNon_bl, wipeD, -List.map_map, pLt, pLe, pGt, pGe, pCmpI, pSub, mkL, truthD, deref_non, deref_bl, deref_int, deref_str, deref_tup, deref_lst, deref_dic, deref_scr, deref_ty, fin_rt, fin_nx, iso_okD, cl_non, cl_bl, cl_int, cl_str, cl_ty, cl_tup, cl_lst, cl_dic, cls_nil, cls_cons, clk_nil, clk_cons, done_nil, sz_lit, ofS_inj, atI0, atI1, atI2, strOk_ofS, eqD_str, eqD_int, inD_s2, inD_s3, inD_s4, all_true, $ls,*])
theorem forL_all {call : Call} {tg : Tg} {fb : ES} {S : Sto} {E : Env' → Prop} {p : D → Bool} : ∀ {items : List D} {env : Env'}, E env → (∀ d ∈ items, ∀ env, E env → ∃ env1 env2, bindT tg d env = some env1 ∧ E env2 ∧ fb call env1 S = if p d then .ok (.nx env2) S else .ok (.rt (.bl false)) S) →
    (items.all p = true → ∃ env', E env' ∧ forL call tg fb items env S = .ok (.nx env') S) ∧ (items.all p = false → forL call tg fb items env S = .ok (.rt (.bl false)) S)
  | [], env, he, _ => ⟨fun _ => ⟨env, he, rfl⟩, fun h => by simp at h⟩
  | d :: r, env, he, h => by
    obtain ⟨env1, env2, h1, h2, h3⟩ := h d List.mem_cons_self env he
    have ih := forL_all (items := r) (env := env2) h2 fun x hx => h x (List.mem_cons_of_mem _ hx)
    simp only [forL, h1, h3, List.all_cons]
    cases hp : p d with
    | true =>
      simp only [if_true, turnF, R.bind_okk, Bool.true_and]
      exact ih
    | false => simp [turnF, R.bind_okk]
variable {rs : List Rd'} {ix : Nat → Nat} {k : Nat} {d : D} {bk : List (Str × D)}
theorem eqD_vp {n : Nat} {v c : D} (hv : VP n v) (hc : cstB c = true) : eqD v c = some (eqB v c) := by
  have h1 := hv.ns
  have h2 : VP 1 c := .inl hc
  have h3 := h2.dep
  have h := eqD_ns h1 h2.ns (Nat.le_trans (Nat.min_le_right _ _) (by omega))
  simp only [eqB, h]
section
variable [At_is_number rs ix] [At_is_name rs ix] [At_is_constant rs ix] [At_constant_of rs ix]
theorem constant_is {n : Nat} {v c : D} (hv : VP n v) (hc : cstB c = true) (hk : 3 ≤ k) : runF rs k (ix 35) [v, .tup [.str "is", c]] [] = .ok (.bl (isCst v && eqB v c)) [] := by
  obtain ⟨k, rfl, hj⟩ := succ_of (n := 2) hk
  have h4 := is_constant_ok (rs := rs) (ix := ix) (k := k) (by omega) hv.pl
  have he := eqD_vp hv hc
  rw [run_at At_constant_of.h]
  refine fin_pure ?_ rfl
  refine pu_tr (by simp! [R.bind_okk]) ?_
  have d1 := deref_pu (S := []) hv.cl
  have d2 := deref_pu (S := []) (plB_cls (cstB_pl hc).1)
  cases h5 : isCst v <;> simp! [h4, h5, hv.cl, he, d1, d2]
theorem constant_names {n : Nat} {v : D} (hv : VP n v) (hk : 3 ≤ k) : runF rs k (ix 35) [v, .tup [.str "names"]] [] = .ok (.bl (isStr v)) [] := by
  obtain ⟨k, rfl, hj⟩ := succ_of (n := 2) hk
  rw [run_at At_constant_of.h]
  refine fin_pure ?_ rfl
  refine pu_f (by simp! [R.bind_okk]) ?_
  refine pu_tr (by simp! [R.bind_okk]) ?_
  refine hv.cases (fun m e hc => ?_) (fun m x y e e2 h1 h2 => ?_) (fun m fs e e2 h1 h2 h3 => ?_) fun m ps e e2 h1 h2 h3 => ?_
  · rcases cstB_cases hc with ⟨i, rfl, _⟩ | ⟨s, rfl, _⟩ <;> simp! [isStr]
  · subst e2; simp! [isStr]
  · subst e2; simp! [isStr]
  · subst e2; simp! [isStr]
theorem constant_from {n : Nat} {v lo hi : D} (hv : VP n v) (hb : bndB lo hi = true) (hk : 3 ≤ k) : runF rs k (ix 35) [v, .tup [.str "from", lo, hi]] [] = .ok (.bl (isNum v && ((isNon lo || leD lo v) && (isNon hi || leD v hi)))) [] := by
  obtain ⟨k, rfl, hj⟩ := succ_of (n := 2) hk
  have h4 := is_number_ok (rs := rs) (ix := ix) (k := k) (by omega) hv.pl
  rw [run_at At_constant_of.h]
  refine fin_pure ?_ rfl
  refine pu_f (by simp! [R.bind_okk]) ?_
  refine pu_f (by simp! [R.bind_okk]) ?_
  refine seq_nx (env1 := [some v, some (.tup [.str "from", lo, hi]), some lo, some hi]) (S1 := []) (by simp! [R.bind_okk]) ?_
  refine pu_r ?_
  cases h5 : isNum v
  · simp! [h4, h5, hv.cl]
  · obtain ⟨i, rfl⟩ : ∃ i, v = .int i := by cases v <;> simp_all [isNum]
    obtain ⟨h1, h2⟩ := bndB_cases hb
    rcases h1 with rfl | ⟨a, rfl⟩ <;> rcases h2 with rfl | ⟨b, rfl⟩
    · simp! [h4, h5]
    · simp! [h4, h5, leD]
    · by_cases q : a ≤ i <;> simp! [h4, h5, leD, q]
    · by_cases q : a ≤ i <;> simp! [h4, h5, leD, q]
end
theorem kind_ne {n : Nat} {v : D} (hv : VP n v) : ∃ s : Str, kindD v = .str s ∧ PyData.strOk s = true := by
  refine hv.cases (fun m e hc => ?_) (fun m x y e e2 h1 h2 => ?_) (fun m fs e e2 h1 h2 h3 => ?_) fun m ps e e2 h1 h2 h3 => ?_
  · rcases cstB_cases hc with ⟨i, rfl, _⟩ | ⟨s, rfl, _⟩ <;> exact ⟨_, rfl, strOk_ofS _⟩
  · subst e2; exact ⟨_, rfl, strOk_ofS _⟩
  · subst e2; exact ⟨_, rfl, strOk_ofS _⟩
  · subst e2; exact ⟨_, rfl, strOk_ofS _⟩
section
variable [At_is_number rs ix] [At_kind_told rs ix] [At_graph_of rs ix]
theorem graph_of_ok {n : Nat} {v a b : D} {S : D → D → Bool} (hb : clsKv 0 (bkK bk) = true) (hv : VP (n + 1) v) (ha : clsD 0 a = true) (hbc : clsD 0 b = true) (hk : 2 ≤ k)
    (h : ∀ v', VP n v' → runF rs k (ix 38) [.dic (bkK bk), v', a] [] = .ok (.bl (S v' a)) [] ∧ runF rs k (ix 38) [.dic (bkK bk), v', b] [] = .ok (.bl (S v' b)) []) :
    runF rs (k + 1) (ix 37) [.dic (bkK bk), v, .tup [.str "fun", a, b]] [] = .ok (.bl (funV S a b v)) [] := by
  have h0 := kind_told_ok (rs := rs) (ix := ix) (k := k) hv (by omega)
  have hc := hv.cl
  rw [run_at At_graph_of.h]
  refine fin_pure ?_ rfl
  refine hv.cases (fun m e hc2 => ?_) (fun m x y e e2 h1 h2 => ?_) (fun m fs e e2 h1 h2 h3 => ?_) fun m ps e e2 h1 h2 h3 => ?_
  · rcases cstB_cases hc2 with ⟨i, rfl, _⟩ | ⟨s, rfl, _⟩
    · exact pu_tr (by simp! [h0, kindD]) (by simp! [funV])
    · exact pu_tr (by simp! [h0, kindD]) (by simp! [funV])
  · subst e2
    exact pu_tr (by simp! [h0, hc, kindD, h1.cl, h2.cl]) (by simp! [funV])
  · subst e2
    have hf := fieldD_cl h3
    exact pu_tr (by simp! [h0, hc, kindD, hf]) (by simp! [funV])
  · cases e; subst e2
    have hf := pairD_cl h3
    refine pu_f (by simp! [h0, hc, kindD, hf]) ?_
    have fl := forL_all (call := runF rs k) (tg := .tup [(.nm 3), (.nm 4)]) (fb := r_graph_of_b1 ix) (S := []) (items := ps.map pairD) (p := funP S a b) (E := fun env => ∃ u w, env = [some (.dic (bkK bk)), some (.tup [.str (Str.ofString "graph"), .tup (ps.map pairD)]), some (.tup [.str (Str.ofString "fun"), a, b]), u, w])
      (env := [some (.dic (bkK bk)), some (.tup [.str (Str.ofString "graph"), .tup (ps.map pairD)]), some (.tup [.str (Str.ofString "fun"), a, b]), none, none]) ⟨_, _, rfl⟩ fun d hd env ⟨u, w, he⟩ => by
        subst he
        obtain ⟨⟨x, y⟩, hp, rfl⟩ := List.mem_map.mp hd
        have hp3 := h3 _ hp
        simp only at hp3
        refine ⟨_, _, rfl, ⟨some x, some y, rfl⟩, ?_⟩
        have g1 := (h x hp3.1).1
        have gx := hp3.1.cl
        cases s1 : S x a
        · rw [s1] at g1
          simp! [r_graph_of_b1, g1, hb, gx, ha, funP, s1, pairD]
        · rw [s1] at g1
          rcases hp3.2 with e | e
          · subst e
            simp! [r_graph_of_b1, g1, hb, gx, ha, funP, s1, pairD]
          · have g2 := (h y e).2
            have gy := e.cl
            have gn : isNon y = false := by
              refine e.cases (fun m e hc => ?_) (fun m x y e e2 h1 h2 => ?_) (fun m fs e e2 h1 h2 h3 => ?_) fun m ps e e2 h1 h2 h3 => ?_
              · rcases cstB_cases hc with ⟨i, rfl, _⟩ | ⟨s, rfl, _⟩ <;> rfl
              all_goals (subst e2; rfl)
            cases s2 : S y b <;> rw [s2] at g2 <;> simp! [r_graph_of_b1, g1, g2, hb, gx, gy, ha, hbc, funP, s1, s2, gn, pairD]
    have hsrc : cFor (.tup [(.nm 3), (.nm 4)]) (cSrc (cBin pIx (cVar 1) (cK (.int 1)))) (r_graph_of_b1 ix) (runF rs k) [some (.dic (bkK bk)), some (.tup [.str (Str.ofString "graph"), .tup (ps.map pairD)]), some (.tup [.str (Str.ofString "fun"), a, b]), none, none] [] =
        forL (runF rs k) (.tup [(.nm 3), (.nm 4)]) (r_graph_of_b1 ix) (ps.map pairD) [some (.dic (bkK bk)), some (.tup [.str (Str.ofString "graph"), .tup (ps.map pairD)]), some (.tup [.str (Str.ofString "fun"), a, b]), none, none] [] := by
      simp! [cFor, cSrc, srcOf]
    cases hall : (ps.map pairD).all (funP S a b)
    · refine (seq_rtX (d := .bl false) (hsrc.trans (fl.2 hall))).trans ?_
      simp [funV, hall]
    · obtain ⟨env', he, hfl⟩ := fl.1 hall
      refine seq_nx (hsrc.trans hfl) ?_
      refine (pu_r (d := .bl true) rfl).trans ?_
      simp [funV, hall]
end
end Ev.Nv

set_option Elab.async false
set_option linter.all false
set_option maxRecDepth 100000
set_option maxHeartbeats 4000000
/-! Nv, part 14: members.py: record_of, of, is_of, members. -/
namespace Ev.Nv
open PySem PySem.Spec PyProof.Rows L2
local macro_rules
  | `(tactic| simp! [$ls,*]) => `(tactic| simp [List.getElem?_cons_zero, List.getElem?_cons_succ, List.set_cons_zero, List.set_cons_succ, pl_non, pl_bl, pl_int, pl_str, pl_tup, pl_lst, pls_nil, pls_cons, ns_non, ns_int, ns_str, ns_tup, nss_nil, nss_cons, cSeq, cRet, cIfS, cAsg, cExp, cSkip, cPar, cRetN, cVar, cK, cBin, cUn, cPrim, cCons, cNil, cCall, cIf, cTru, cNotT, cAndT, cOrT, cAndV, cOrV, cNotV, cB, cSl, cPart, cNoPart, cChain, cYes, R.bind_okk, R.at_okk, startD, bindT, bindTs, pIsi, tyD, isI, isTys, isCls, tysOf, isAny, pLen, pTup, pLst, pIx, pEq, pIs_non, pIs_nonN, isNon_non, isNon_int, isNon_str, isNon_tup, isNon_bl, wipeD, -List.map_map, pLt, pLe, pGt, pGe, pCmpI, pSub, mkL, truthD, deref_non, deref_bl, deref_int, deref_str, deref_tup, deref_lst, deref_dic, deref_scr, deref_ty, fin_rt, fin_nx, iso_okD, cl_non, cl_bl, cl_int, cl_str, cl_ty, cl_tup, cl_lst, cl_dic, cls_nil, cls_cons, clk_nil, clk_cons, done_nil, sz_lit, ofS_inj, atI0, atI1, atI2, strOk_ofS, eqD_str, eqD_int, inD_s2, inD_s3, inD_s4, all_true, $ls,*])
variable {rs : List Rd'} {ix : Nat → Nat} {k : Nat} {d : D} {bk : List (Str × D)}
def fdK (gs : List (Str × D)) : List (Key × D) := gs.map fun g => (.inr g.1, g.2)
theorem lt_ne {a b : Str} (h : a.cps.toList < b.cps.toList) : ¬ a = b := by
  rintro rfl
  exact absurd h (List.lt_irrefl _)
theorem pDict_ok {gs : List (Str × D)} (h1 : gs.length ≤ 2) (h2 : risB (gs.map (·.1)) = true) {S : Sto} : pDict false [.tup (gs.map fieldD)] S = .ok (.dic (fdK gs)) S := by
  match gs, h1, h2 with
  | [], _, _ => rfl
  | [a], _, _ =>
    simp [pDict, deref_tup, fieldD, pairsOf, keyOf, mkD, mergeD, putD, fdK, sz_lit]
  | [a, b], _, h2 =>
    simp only [List.map_cons, List.map_nil, risB, Bool.and_true, decide_eq_true_eq] at h2
    have := lt_ne h2
    simp [pDict, deref_tup, fieldD, pairsOf, keyOf, mkD, mergeD, putD, fdK, sz_lit, this]
theorem look_val {l : Str} : ∀ {gs : List (Str × D)}, valD (fdK gs) (.inr l) = look (gs.map fieldD) l
  | [] => rfl
  | g :: gs => by
    have ih := look_val (gs := gs) (l := l)
    by_cases e : g.1 = l
    · simp [valD, fdK, look, fieldD, e]
    · simp only [valD, fdK, List.map_cons, look, fieldD, if_neg e] at ih ⊢
      rw [List.find?_cons_of_neg (by simp [e])]
      exact ih
theorem fdK_cl {gs : List (Str × D)} (h : ∀ g ∈ gs, clsD 0 g.2 = true) : clsKv 0 (fdK gs) = true := by
  induction gs with
  | nil => rfl
  | cons g gs ih =>
    have := ih fun x hx => h x (by simp [hx])
    simp only [fdK] at this
    simp [fdK, clk_cons, this, h g (by simp)]
theorem labs_map {fs : List (Str × D × Bool)} : labs (fs.map tfD) = fs.map (·.1) := by
  induction fs with
  | nil => rfl
  | cons f fs ih => simp [labs, tfD, ih]
theorem notIn_labs {l : Str} {ls : List Str} (h1 : nmB l = true) (h2 : ∀ x ∈ ls, nmB x = true) {S : Sto} : pIn true (.str l) (.lst (ls.map .str)) S = .ok (.bl (!inL ls l)) S := by
  have hn : nsDs (ls.map D.str) = true := nsDs_mem.mpr fun d hd => by
    obtain ⟨x, hx, rfl⟩ := List.mem_map.mp hd
    exact (nm_ok (h2 x hx)).1
  have := inD_lst (ds := ls.map D.str) (e := .str l) hn (nm_ok h1).1 (by simp [depD])
  simp only [pIn, deref_lst, this]
  congr 3
  simp [inL]
section
variable [At_is_number rs ix] [At_kind_told rs ix] [At_record_of rs ix]
theorem record_of_ok {n : Nat} {v : D} {fs : List (Str × D × Bool)} {o : Bool} {S : D → D → Bool} (hb : clsKv 0 (bkK bk) = true) (hv : VP (n + 1) v) (hk : 2 ≤ k) (hfs : ∀ f ∈ fs, nmB f.1 = true ∧ clsD 0 f.2.1 = true)
    (h : ∀ v', VP n v' → ∀ f ∈ fs, runF rs k (ix 38) [.dic (bkK bk), v', f.2.1] [] = .ok (.bl (S v' f.2.1)) []) :
    runF rs (k + 1) (ix 36) [.dic (bkK bk), v, .tup [.str "record", .tup (fs.map tfD), .bl o]] [] = .ok (.bl (recV S (fs.map tfD) o v)) [] := by
  have h0 := kind_told_ok (rs := rs) (ix := ix) (k := k) hv (by omega)
  have hc := hv.cl
  rw [run_at At_record_of.h]
  refine fin_pure ?_ rfl
  refine hv.cases (fun m e hc2 => ?_) (fun m x y e e2 h1 h2 => ?_) (fun m gs e e2 h1 h2 h3 => ?_) fun m ps e e2 h1 h2 h3 => ?_
  · rcases cstB_cases hc2 with ⟨i, rfl, _⟩ | ⟨s, rfl, _⟩
    · exact pu_tr (by simp! [h0, kindD]) (by simp! [recV])
    · exact pu_tr (by simp! [h0, kindD]) (by simp! [recV])
  · subst e2
    exact pu_tr (by simp! [h0, hc, kindD, h1.cl, h2.cl]) (by simp! [recV])
  · cases e; subst e2
    have hf := fieldD_cl h3
    have hkc : clsKv 0 (fdK gs) = true := fdK_cl fun g hg => (h3 g hg).2.cl
    let V : D := .tup [.str (Str.ofString "record"), .tup (gs.map fieldD)]
    let T : D := .tup [.str (Str.ofString "record"), .tup (fs.map tfD), .bl o]
    have hV : V = .tup [.str (Str.ofString "record"), .tup (gs.map fieldD)] := rfl
    have hT : T = .tup [.str (Str.ofString "record"), .tup (fs.map tfD), .bl o] := rfl
    have c2 : r_record_of_c2 ix (runF rs k) [some (.dic (bkK bk)), some V, some T, none, none, none, none, none] [] = .ok (.lst ((fs.map (·.1)).map .str)) [] := by
      have := cLc_map (call := runF rs k) (tg := .tup [(.nm 5), (.nm 6), (.nm 7)]) (vs := [5, 6, 7]) (fe := cVar 5) (fi := cSrc (cBin pIx (cVar 2) (cK (.int 1)))) (env := [some (.dic (bkK bk)), some V, some T, none, none, none, none, none]) (S := []) (items := fs.map tfD)
        (fun d => match d with
          | .tup [x, _, _] => x
          | d => d) (by simp! [cSrc, srcOf, hT]) fun d hd => by
        obtain ⟨f, hf, rfl⟩ := List.mem_map.mp hd
        exact ⟨_, rfl, by simp! [tfD]⟩
      refine this.trans ?_
      simp only [List.map_map]
      rfl
    refine pu_f (by simp! [h0, hc, kindD, hf]) ?_
    refine pu_a (d := .tup [.dic (fdK gs), .lst ((fs.map (·.1)).map .str)]) (env1 := [some (.dic (bkK bk)), some V, some T, some (.dic (fdK gs)), some (.lst ((fs.map (·.1)).map .str)), none, none, none]) ?_ rfl ?_
    · have := pDict_ok (S := []) h1 h2
      simp only [hV, hT] at c2
      simp! [this, c2]
    have hlk : ∀ l, valD (fdK gs) (.inr l) = look (gs.map fieldD) l := fun l => look_val
    have c1 : r_record_of_c1 ix (runF rs k) [some (.dic (bkK bk)), some V, some T, some (.dic (fdK gs)), some (.lst ((fs.map (·.1)).map .str)), none, none, none] [] = .ok (.lst (gs.map fun g => .bl (!inL (fs.map (·.1)) g.1))) [] := by
      have hs1 : (fdK gs).length ≤ sizeLine := by
        have : (fdK gs).length ≤ 2 := by simpa [fdK] using h1
        exact Nat.le_trans this (by decide)
      have hs2 : ((fdK gs).all fun kv => keyS kv.1) = true := by
        simp only [List.all_eq_true, fdK, List.mem_map]
        rintro _ ⟨p, hp, rfl⟩
        have := (nm_ok (h3 p hp).1).2.2
        simp only [keyS, decide_eq_true_eq]
        exact Nat.le_trans this (by decide)
      have hsrc : cSrcN 3 (runF rs k) [some (.dic (bkK bk)), some V, some T, some (.dic (fdK gs)), some (.lst ((fs.map (·.1)).map .str)), none, none, none] [] = .ok (.frz (gs.map fun g => .str g.1)) [] := by
        simp only [cSrcN, List.getElem?_cons_zero, List.getElem?_cons_succ]
        rw [if_pos ⟨hs1, hs2⟩]
        simp only [fdK, List.map_map]
        rfl
      have := cLc_map (call := runF rs k) (tg := .nm 5) (vs := [5]) (fe := cBin (pIn true) (cVar 5) (cVar 4)) (fi := cSrcN 3) (env := [some (.dic (bkK bk)), some V, some T, some (.dic (fdK gs)), some (.lst ((fs.map (·.1)).map .str)), none, none, none]) (S := []) (items := gs.map fun g => .str g.1)
        (fun d => match d with
          | .str x => .bl (!inL (fs.map (·.1)) x)
          | d => d) hsrc fun d hd => by
        obtain ⟨g, hg, rfl⟩ := List.mem_map.mp hd
        have q := notIn_labs (S := []) (h3 g hg).1 (ls := fs.map (·.1)) fun x hx => by
          obtain ⟨f, hf, rfl⟩ := List.mem_map.mp hx
          exact (hfs f hf).1
        exact ⟨_, rfl, by simp! [q]⟩
      refine this.trans ?_
      simp only [List.map_map]
      rfl
    have hrec : recV S (fs.map tfD) o (.tup [.str (Str.ofString "record"), .tup (gs.map fieldD)]) = ((o || gs.all fun g => inL (fs.map (·.1)) g.1) && (fs.map tfD).all (recF S (gs.map fieldD))) := by
      simp only [recV, decide_true, Bool.true_and, List.all_map, labs_map]
      rfl
    rw [hrec]
    have hany : pAll true [.lst (gs.map fun g => .bl (!inL (fs.map (·.1)) g.1))] [] = .ok (.bl (!gs.all fun g => inL (fs.map (·.1)) g.1)) [] := by
      simp only [pAll, deref_lst, boolsOf_map, if_true]
      congr 2
      rw [List.any_map, List.not_all_eq_any_not]
      rfl
    cases ho : (o || gs.all fun g => inL (fs.map (·.1)) g.1)
    · simp only [Bool.or_eq_false_iff] at ho
      obtain ⟨rfl, ho⟩ := ho
      rw [Bool.false_and]
      refine pu_tr ?_ rfl
      rw [hT] at c1
      simp! [c1, hany, ho, hT]
    · rw [Bool.true_and]
      refine pu_f ?_ ?_
      · cases o with
        | true => simp! [hT]
        | false =>
          rw [Bool.false_or] at ho
          rw [hT] at c1
          simp! [c1, hany, ho, hT]
      have fl := forL_all (call := runF rs k) (tg := .tup [(.nm 5), (.nm 6), (.nm 7)]) (fb := r_record_of_b1 ix) (S := []) (items := fs.map tfD) (p := recF S (gs.map fieldD)) (E := fun env => ∃ u w z, env = [some (.dic (bkK bk)), some V, some T, some (.dic (fdK gs)), some (.lst ((fs.map (·.1)).map .str)), u, w, z])
        (env := [some (.dic (bkK bk)), some V, some T, some (.dic (fdK gs)), some (.lst ((fs.map (·.1)).map .str)), none, none, none]) ⟨_, _, _, rfl⟩ fun d hd env ⟨u, w, z, he⟩ => by
          subst he
          obtain ⟨⟨l, t, m⟩, hp, rfl⟩ := List.mem_map.mp hd
          have hp3 := hfs _ hp
          simp only at hp3
          refine ⟨_, _, rfl, ⟨some (.str l), some t, some (.bl m), rfl⟩, ?_⟩
          have hl := hlk l
          cases hx : look (gs.map fieldD) l with
          | none =>
            rw [hx] at hl
            cases m <;> simp! [r_record_of_b1, pIn, keyOf, hl, recF, hx, tfD]
          | some x =>
            rw [hx] at hl
            obtain ⟨g, hg, rfl⟩ := look_mem hx
            have g1 := h g.2 (h3 g hg).2 _ hp
            have g2 := (h3 g hg).2.cl
            simp only at g1
            cases s1 : S g.2 t <;> rw [s1] at g1 <;> simp! [r_record_of_b1, pIn, keyOf, hl, recF, hx, tfD, g1, g2, hb, hp3, s1]
      have hsrc : cFor (.tup [(.nm 5), (.nm 6), (.nm 7)]) (cSrc (cBin pIx (cVar 2) (cK (.int 1)))) (r_record_of_b1 ix) (runF rs k) [some (.dic (bkK bk)), some V, some T, some (.dic (fdK gs)), some (.lst ((fs.map (·.1)).map .str)), none, none, none] [] =
          forL (runF rs k) (.tup [(.nm 5), (.nm 6), (.nm 7)]) (r_record_of_b1 ix) (fs.map tfD) [some (.dic (bkK bk)), some V, some T, some (.dic (fdK gs)), some (.lst ((fs.map (·.1)).map .str)), none, none, none] [] := by
        simp! [cFor, cSrc, srcOf, hT]
      cases hall : (fs.map tfD).all (recF S (gs.map fieldD))
      · exact seq_rtX (d := .bl false) (hsrc.trans (fl.2 hall))
      · obtain ⟨env', he, hfl⟩ := fl.1 hall
        refine seq_nx (hsrc.trans hfl) ?_
        exact pu_r (d := .bl true) rfl
  · subst e2
    have hf := pairD_cl h3
    exact pu_tr (by simp! [h0, hc, kindD, hf]) (by simp! [recV])
end
end Ev.Nv

set_option Elab.async false
set_option linter.all false
set_option maxRecDepth 100000
set_option maxHeartbeats 4000000
/-! Nv, part 15: members.py: of. -/
namespace Ev.Nv
open PySem PySem.Spec PyProof.Rows L2
local macro_rules
  | `(tactic| simp! [$ls,*]) => `(tactic| simp [List.getElem?_cons_zero, List.getElem?_cons_succ, List.set_cons_zero, List.set_cons_succ, pl_non, pl_bl, pl_int, pl_str, pl_tup, pl_lst, pls_nil, pls_cons, ns_non, ns_int, ns_str, ns_tup, nss_nil, nss_cons, cSeq, cRet, cIfS, cAsg, cExp, cSkip, cPar, cRetN, cVar, cK, cBin, cUn, cPrim, cCons, cNil, cCall, cIf, cTru, cNotT, cAndT, cOrT, cAndV, cOrV, cNotV, cB, cSl, cPart, cNoPart, cChain, cYes, R.bind_okk, R.at_okk, startD, bindT, bindTs, pIsi, tyD, isI, isTys, isCls, tysOf, isAny, pLen, pTup, pLst, pIx, pEq, pIs_non, pIs_nonN, isNon_non, isNon_int, isNon_str, isNon_tup, isNon_bl, wipeD, -List.map_map, pLt, pLe, pGt, pGe, pCmpI, pSub, mkL, truthD, deref_non, deref_bl, deref_int, deref_str, deref_tup, deref_lst, deref_dic, deref_scr, deref_ty, fin_rt, fin_nx, iso_okD, cl_non, cl_bl, cl_int, cl_str, cl_ty, cl_tup, cl_lst, cl_dic, cls_nil, cls_cons, clk_nil, clk_cons, done_nil, sz_lit, ofS_inj, atI0, atI1, atI2, strOk_ofS, eqD_str, eqD_int, inD_s2, inD_s3, inD_s4, all_true, $ls,*])
variable {rs : List Rd'} {ix : Nat → Nat} {k : Nat} {d : D} {bk : List (Str × D)}
theorem kind_pair {n : Nat} {v : D} (hv : VP n v) : (∃ m x y, n = m + 1 ∧ v = .tup [.str "pair", x, y] ∧ VP m x ∧ VP m y) ∨ (∃ s : Str, kindD v = .str s ∧ PyData.strOk s = true ∧ ¬ s = "pair" ∧ ∀ S a b, pairV S a b v = false) := by
  refine hv.cases (fun m e hc => ?_) (fun m x y e e2 h1 h2 => ?_) (fun m fs e e2 h1 h2 h3 => ?_) fun m ps e e2 h1 h2 h3 => ?_
  · right
    rcases cstB_cases hc with ⟨i, rfl, _⟩ | ⟨s, rfl, _⟩
    · exact ⟨_, rfl, strOk_ofS _, by simp [ofS_inj], fun _ _ _ => rfl⟩
    · exact ⟨_, rfl, strOk_ofS _, by simp [ofS_inj], fun _ _ _ => rfl⟩
  · exact .inl ⟨m, x, y, e, e2, h1, h2⟩
  · subst e2; exact .inr ⟨_, rfl, strOk_ofS _, by simp [ofS_inj], fun _ _ _ => rfl⟩
  · subst e2; exact .inr ⟨_, rfl, strOk_ofS _, by simp [ofS_inj], fun _ _ _ => rfl⟩
section
variable [At_is_number rs ix] [At_is_name rs ix] [At_is_constant rs ix] [At_constant_of rs ix] [At_kind_told rs ix] [At_graph_of rs ix] [At_record_of rs ix] [At_of rs ix]
theorem ofI (hb : BkP bk) : IndH bk fun h v t => ∀ k, 3 * h + 10 ≤ k → runF rs k (ix 38) [.dic (bkK bk), v, t] [] = .ok (.bl (Sm bk v t)) [] where
  mono := fun hh q k hk => q k (by omega)
  leaf := fun {n v t} hn hv ht k hk => by
    obtain ⟨k, rfl, hj⟩ := succ_of (k := k) (n := 12) (by omega)
    have hbc := bkK_cl hb
    have hvc := hv.cl
    rw [sm_eq hb hv ((ht.sub (nm' := bk.map (·.1)) (by simp)).tp) hn (by decide)]
    rw [run_at At_of.h]
    refine fin_pure ?_ rfl
    rcases ht with ⟨w, rfl | rfl | rfl, rfl⟩ | ⟨c, hc, rfl⟩ | ⟨lo, hi, hb', rfl⟩ | ⟨x, hx, _⟩
    · rw [semF_any]
      refine pu_a (d := .str "any") (by simp! [R.bind_okk]) rfl ?_
      exact pu_tr (by simp! [pIn]) (by simp! [R.bind_okk])
    · rw [semF_none]
      refine pu_a (d := .str "none") (by simp! [R.bind_okk]) rfl ?_
      exact pu_tr (by simp! [pIn]) (by simp! [R.bind_okk])
    · rw [semF_names]
      have q := constant_names (rs := rs) (ix := ix) (k := k) hv (by omega)
      refine pu_a (d := .str "names") (by simp! [R.bind_okk]) rfl ?_
      refine pu_f (by simp! [pIn]) ?_
      refine pu_f (by simp! [R.bind_okk]) ?_
      refine pu_f (by simp! [R.bind_okk]) ?_
      refine pu_f (by simp! [R.bind_okk]) ?_
      refine pu_f (by simp! [R.bind_okk]) ?_
      refine pu_f (by simp! [R.bind_okk]) ?_
      refine pu_f (by simp! [R.bind_okk]) ?_
      exact pu_r (by simp! [q, hvc])
    · rw [semF_is]
      have q := constant_is (rs := rs) (ix := ix) (k := k) hv hc (by omega)
      have hcc := plB_cls (cstB_pl hc).1
      refine pu_a (d := .str "is") (by simp! [R.bind_okk]) rfl ?_
      refine pu_f (by simp! [pIn]) ?_
      refine pu_f (by simp! [R.bind_okk]) ?_
      refine pu_f (by simp! [R.bind_okk]) ?_
      refine pu_f (by simp! [R.bind_okk]) ?_
      refine pu_f (by simp! [R.bind_okk]) ?_
      refine pu_f (by simp! [R.bind_okk]) ?_
      refine pu_f (by simp! [R.bind_okk]) ?_
      exact pu_r (by simp! [q, hvc, hcc])
    · rw [semF_from]
      have q := constant_from (rs := rs) (ix := ix) (k := k) hv hb' (by omega)
      have hlo : clsD 0 lo = true ∧ clsD 0 hi = true := by
        obtain ⟨h1, h2⟩ := bndB_cases hb'
        rcases h1 with rfl | ⟨a, rfl⟩ <;> rcases h2 with rfl | ⟨b, rfl⟩ <;> exact ⟨rfl, rfl⟩
      refine pu_a (d := .str "from") (by simp! [R.bind_okk]) rfl ?_
      refine pu_f (by simp! [pIn]) ?_
      refine pu_f (by simp! [R.bind_okk]) ?_
      refine pu_f (by simp! [R.bind_okk]) ?_
      refine pu_f (by simp! [R.bind_okk]) ?_
      refine pu_f (by simp! [R.bind_okk]) ?_
      refine pu_f (by simp! [R.bind_okk]) ?_
      refine pu_f (by simp! [R.bind_okk]) ?_
      exact pu_r (by simp! [q, hvc, hlo])
    · simp at hx
  the := fun {h n v x t} hn hv hx hm hval ht q k hk => by
    obtain ⟨k, rfl, hj⟩ := succ_of (k := k) (n := 3 * h + 10) (by omega)
    have hbc := bkK_cl hb
    have hvc := hv.cl
    have htc := ht.cl
    rw [sm_eq (m := 1) hb hv (.inl (.inr (.inr (.inr ⟨x, hm, hx, rfl⟩)))) hn (by decide), semF_the hval]
    have q1 := q k (by omega)
    rw [run_at At_of.h]
    refine fin_pure ?_ rfl
    refine pu_a (d := .str "the") (by simp! [R.bind_okk]) rfl ?_
    refine pu_f (by simp! [pIn]) ?_
    exact pu_tr (by simp! [R.bind_okk]) (by simp! [keyOf, hval, q1, hbc, hvc, htc])
  not := fun {h n v m a} hn hv hm ht q k hk => by
    obtain ⟨k, rfl, hj⟩ := succ_of (k := k) (n := 3 * h + 10) (by omega)
    have hbc := bkK_cl hb
    have hvc := hv.cl
    have htc := ht.cl
    rw [sm_eq (m := m + 1) hb hv (.inr (.inl ⟨a, ht, rfl⟩)) hn (by omega), semF_not]
    have q1 := q k (by omega)
    rw [run_at At_of.h]
    refine fin_pure ?_ rfl
    refine pu_a (d := .str "not") (by simp! [R.bind_okk]) rfl ?_
    refine pu_f (by simp! [pIn]) ?_
    refine pu_f (by simp! [R.bind_okk]) ?_
    exact pu_tr (by simp! [R.bind_okk]) (by simp! [q1, hbc, hvc, htc])
  or := fun {h n v m a b} hn hv hm h1 h2 q1 q2 k hk => by
    obtain ⟨k, rfl, hj⟩ := succ_of (k := k) (n := 3 * h + 10) (by omega)
    have hbc := bkK_cl hb
    have hvc := hv.cl
    have hac := h1.cl
    have hb2 := h2.cl
    rw [sm_eq (m := m + 1) hb hv (.inr (.inr (.inl ⟨"or", a, b, .inr (.inr (.inl rfl)), h1, h2, rfl⟩))) hn (by omega), semF_or]
    have q1 := q1 k (by omega)
    have q2 := q2 k (by omega)
    rw [run_at At_of.h]
    refine fin_pure ?_ rfl
    refine pu_a (d := .str "or") (by simp! [R.bind_okk]) rfl ?_
    refine pu_f (by simp! [pIn]) ?_
    refine pu_f (by simp! [R.bind_okk]) ?_
    refine pu_f (by simp! [R.bind_okk]) ?_
    refine pu_tr (by simp! [R.bind_okk]) ?_
    cases s1 : Sm bk v a <;> rw [s1] at q1 <;> simp! [q1, q2, hbc, hvc, hac, hb2]
  and := fun {h n v m a b} hn hv hm h1 h2 q1 q2 k hk => by
    obtain ⟨k, rfl, hj⟩ := succ_of (k := k) (n := 3 * h + 10) (by omega)
    have hbc := bkK_cl hb
    have hvc := hv.cl
    have hac := h1.cl
    have hb2 := h2.cl
    rw [sm_eq (m := m + 1) hb hv (.inr (.inr (.inl ⟨"and", a, b, .inr (.inr (.inr rfl)), h1, h2, rfl⟩))) hn (by omega), semF_and]
    have q1 := q1 k (by omega)
    have q2 := q2 k (by omega)
    rw [run_at At_of.h]
    refine fin_pure ?_ rfl
    refine pu_a (d := .str "and") (by simp! [R.bind_okk]) rfl ?_
    refine pu_f (by simp! [pIn]) ?_
    refine pu_f (by simp! [R.bind_okk]) ?_
    refine pu_f (by simp! [R.bind_okk]) ?_
    refine pu_f (by simp! [R.bind_okk]) ?_
    refine pu_tr (by simp! [R.bind_okk]) ?_
    cases s1 : Sm bk v a <;> rw [s1] at q1 <;> simp! [q1, q2, hbc, hvc, hac, hb2]
  pair := fun {h n v m a b} hn hv hm h1 h2 q k hk => by
    obtain ⟨k, rfl, hj⟩ := succ_of (k := k) (n := 3 * h + 10) (by omega)
    have hbc := bkK_cl hb
    have hvc := hv.cl
    have hac := h1.cl
    have hb2 := h2.cl
    rw [sm_eq (m := m + 1) hb hv (.inr (.inr (.inl ⟨"pair", a, b, .inl rfl, h1, h2, rfl⟩))) (by omega) (by omega), semF_pair]
    have h0 := kind_told_ok (rs := rs) (ix := ix) (k := k) hv (by omega)
    rw [run_at At_of.h]
    refine fin_pure ?_ rfl
    refine pu_a (d := .str "pair") (by simp! [R.bind_okk]) rfl ?_
    refine pu_f (by simp! [pIn]) ?_
    refine pu_f (by simp! [R.bind_okk]) ?_
    refine pu_f (by simp! [R.bind_okk]) ?_
    refine pu_f (by simp! [R.bind_okk]) ?_
    refine pu_f (by simp! [R.bind_okk]) ?_
    refine pu_tr (by simp! [R.bind_okk]) ?_
    rcases kind_pair hv with ⟨m', x, y, e, e2, hx, hy⟩ | ⟨s, hs, hs2, hs3, hs4⟩
    · cases e; subst e2
      have q1 := (q x hx).1 k (by omega)
      have q2 := (q y hy).2 k (by omega)
      cases s1 : Sm bk x a <;> rw [s1] at q1 <;> simp! [h0, kindD, q1, q2, hbc, hx.cl, hy.cl, hac, hb2, pairV, s1]
    · rw [hs] at h0
      rw [hs4]
      simp! [h0, hvc, hs2, hs3]
  func := fun {h n v m a b} hn hv hm h1 h2 q k hk => by
    obtain ⟨k, rfl, hj⟩ := succ_of (k := k) (n := 3 * h + 10) (by omega)
    have hbc := bkK_cl hb
    have hvc := hv.cl
    have hac := h1.cl
    have hb2 := h2.cl
    rw [sm_eq (m := m + 1) hb hv (.inr (.inr (.inl ⟨"fun", a, b, .inr (.inl rfl), h1, h2, rfl⟩))) (by omega) (by omega), semF_fun]
    obtain ⟨k, rfl, hj2⟩ := succ_of (k := k) (n := 3 * h + 9) (by omega)
    have g := graph_of_ok (rs := rs) (ix := ix) (k := k) (S := Sm bk) hbc hv hac hb2 (by omega) fun v' hv' => ⟨(q v' hv').1 k (by omega), (q v' hv').2 k (by omega)⟩
    rw [run_at At_of.h]
    refine fin_pure ?_ rfl
    refine pu_a (d := .str "fun") (by simp! [R.bind_okk]) rfl ?_
    refine pu_f (by simp! [pIn]) ?_
    refine pu_f (by simp! [R.bind_okk]) ?_
    refine pu_f (by simp! [R.bind_okk]) ?_
    refine pu_f (by simp! [R.bind_okk]) ?_
    refine pu_f (by simp! [R.bind_okk]) ?_
    refine pu_f (by simp! [R.bind_okk]) ?_
    refine pu_f (by simp! [R.bind_okk]) ?_
    exact pu_r (by simp! [g, hbc, hvc, hac, hb2])
  recd := fun {h n v m fs o} hn hv hm h1 h2 h3 q k hk => by
    obtain ⟨k, rfl, hj⟩ := succ_of (k := k) (n := 3 * h + 10) (by omega)
    have hbc := bkK_cl hb
    have hvc := hv.cl
    have hfc := tfD_cl h3
    rw [sm_eq (m := m + 1) hb hv (.inr (.inr (.inr ⟨fs, o, h1, h2, h3, rfl⟩))) (by omega) (by omega), semF_record]
    obtain ⟨k, rfl, hj2⟩ := succ_of (k := k) (n := 3 * h + 9) (by omega)
    have g := record_of_ok (rs := rs) (ix := ix) (k := k) (S := Sm bk) (o := o) (fs := fs) hbc hv (by omega) (fun f hf => ⟨(h3 f hf).1, (h3 f hf).2.cl⟩) fun v' hv' f hf => q v' hv' f hf k (by omega)
    rw [run_at At_of.h]
    refine fin_pure ?_ rfl
    refine pu_a (d := .str "record") (by simp! [R.bind_okk]) rfl ?_
    refine pu_f (by simp! [pIn]) ?_
    refine pu_f (by simp! [R.bind_okk]) ?_
    refine pu_f (by simp! [R.bind_okk]) ?_
    refine pu_f (by simp! [R.bind_okk]) ?_
    refine pu_f (by simp! [R.bind_okk]) ?_
    refine pu_f (by simp! [R.bind_okk]) ?_
    exact pu_tr (by simp! [R.bind_okk]) (by simp! [g, hbc, hvc, hfc])
theorem of_ok (hb : BkP bk) {n m : Nat} {v t : D} (hv : VP n v) (ht : TP (bk.map (·.1)) m t) (hn : n ≤ 4) (hm : m ≤ 9) (hk : 160 ≤ k) : runF rs k (ix 38) [.dic (bkK bk), v, t] [] = .ok (.bl (Sm bk v t)) [] :=
  (ofI hb).all hb hv ht hn hm k (by omega)
end
end Ev.Nv

set_option Elab.async false
set_option linter.all false
set_option maxRecDepth 100000
set_option maxHeartbeats 4000000
/-! Nv, part 16: members.py: is_of, members; types.py: unfolded. -/
namespace Ev.Nv
open PySem PySem.Spec PyProof.Rows L2
local macro_rules
  | `(tactic| simp! [$ls,*]) => `(tactic| simp [List.getElem?_cons_zero, List.getElem?_cons_succ, List.set_cons_zero, List.set_cons_succ, pl_non, pl_bl, pl_int, pl_str, pl_tup, pl_lst, pls_nil, pls_cons, ns_non, ns_int, ns_str, ns_tup, nss_nil, nss_cons, cSeq, cRet, cIfS, cAsg, cExp, cSkip, cPar, cRetN, cVar, cK, cBin, cUn, cPrim, cCons, cNil, cCall, cIf, cTru, cNotT, cAndT, cOrT, cAndV, cOrV, cNotV, cB, cSl, cPart, cNoPart, cChain, cYes, R.bind_okk, R.at_okk, startD, bindT, bindTs, pIsi, tyD, isI, isTys, isCls, tysOf, isAny, pLen, pTup, pLst, pIx, pEq, pIs_non, pIs_nonN, isNon_non, isNon_int, isNon_str, isNon_tup, isNon_bl, wipeD, -List.map_map, pLt, pLe, pGt, pGe, pCmpI, pSub, mkL, truthD, deref_non, deref_bl, deref_int, deref_str, deref_tup, deref_lst, deref_dic, deref_scr, deref_ty, fin_rt, fin_nx, iso_okD, cl_non, cl_bl, cl_int, cl_str, cl_ty, cl_tup, cl_lst, cl_dic, cls_nil, cls_cons, clk_nil, clk_cons, done_nil, sz_lit, ofS_inj, atI0, atI1, atI2, strOk_ofS, eqD_str, eqD_int, inD_s2, inD_s3, inD_s4, all_true, $ls,*])
variable {rs : List Rd'} {ix : Nat → Nat} {k : Nat} {d : D} {bk : List (Str × D)}
section
variable [At_is_number rs ix] [At_is_name rs ix] [At_is_constant rs ix] [At_is_tagged rs ix] [At_is_rising rs ix] [At_bounds_right rs ix] [At_told_fields_right rs ix] [At_form_right rs ix] [At_below rs ix] [At_parts_of rs ix] [At_leaves rs ix] [At_near_names rs ix] [At_comes_back rs ix] [At_book_right rs ix] [At_type_right rs ix] [At_need_type rs ix] [At_need_book rs ix]
section
variable [At_fields_right rs ix] [At_pairs_right rs ix] [At_right_within rs ix] [At_nodes rs ix] [At_value_right rs ix] [At_constant_of rs ix] [At_kind_told rs ix] [At_graph_of rs ix] [At_record_of rs ix] [At_of rs ix]
theorem is_of_ok [At_need_value rs ix] [At_is_of rs ix] (hb : BkP bk) {n m : Nat} {v t : D} (hv : VP n v) (ht : TP (bk.map (·.1)) m t) (hn : n ≤ 4) (hm : m ≤ 8) (hk : 161 ≤ k) : runF rs k (ix 39) [.dic (bkK bk), v, t] [] = .ok (.bl (Sm bk v t)) [] := by
  obtain ⟨k, rfl, hj⟩ := succ_of (n := 160) hk
  have hbc := bkK_cl hb
  have hvc := hv.cl
  have htc := ht.cl
  have i1 := need_book_ok (rs := rs) (ix := ix) (k := k) hb (by omega)
  have i2 := need_value_ok (rs := rs) (ix := ix) (k := k) hn hv (by omega)
  have i3 := need_type_ok (rs := rs) (ix := ix) (k := k) hb ht hm (by omega)
  have i4 := of_ok (rs := rs) (ix := ix) (k := k) hb hv ht hn (by omega) hj
  rw [run_at At_is_of.h]
  refine fin_pure ?_ rfl
  refine pu_e (d := .non) (by simp! [i1, hbc]) ?_
  refine pu_e (d := .non) (by simp! [i2, hvc]) ?_
  refine pu_e (d := .non) (by simp! [i3, hbc, htc]) ?_
  exact pu_r (by simp! [i4, hbc, hvc, htc])
theorem members_ok [At_is_list rs ix] [At_members rs ix] (hb : BkP bk) {m : Nat} {vs : List D} {t : D} (hv : ∀ v ∈ vs, VP 4 v) (ht : TP (bk.map (·.1)) m t) (hm : m ≤ 8) (hk : 161 ≤ k) : runF rs k (ix 40) [.dic (bkK bk), .lst vs, t] [] = .ok (.lst (vs.filter fun v => Sm bk v t)) [] := by
  obtain ⟨k, rfl, hj⟩ := succ_of (n := 160) hk
  have hbc := bkK_cl hb
  have htc := ht.cl
  have hvc : clsDs 0 vs = true := clsDs_mem.mpr fun d hd => (hv d hd).cl
  have hvp : plB (.lst vs) = true := by rw [pl_lst]; exact plBs_mem.mpr fun d hd => (hv d hd).pl
  have i1 := need_book_ok (rs := rs) (ix := ix) (k := k) hb (by omega)
  have i2 := is_list_ok (rs := rs) (ix := ix) (k := k) (d := .lst vs) (by omega) hvp
  have i3 := need_type_ok (rs := rs) (ix := ix) (k := k) hb ht hm (by omega)
  rw [run_at At_members.h]
  have c2 : r_members_c2 ix (runF rs k) [some (.dic (bkK bk)), some (.lst vs), some t, none] [] = .ok (.lst (trues vs.length)) [] := cLc_true rfl fun v hv' => by
    have i := value_right_ok (rs := rs) (ix := ix) (k := k) (n := 4) (by omega) (hv v hv') (by omega)
    exact ⟨_, rfl, by simp! [i, (hv v hv').cl]⟩
  have c1 : r_members_c1 ix (runF rs k) [some (.dic (bkK bk)), some (.lst vs), some t, none] [] = .ok (.lst (vs.filter fun v => Sm bk v t)) [] := by
    have := cLc_pure (call := runF rs k) (S := []) (env := [some (.dic (bkK bk)), some (.lst vs), some t, none]) (tg := .nm 3) (vs := [3]) (ft := cTru (cCall (ix 38) 3 [] (cCons (cVar 0) (cCons (cVar 3) (cCons (cVar 2) cNil))))) (fe := cVar 3) (fi := cSrcN 1) (items := vs) (fun v => Sm bk v t) id rfl fun v hv' => by
      have i := of_ok (rs := rs) (ix := ix) (k := k) hb (hv v hv') ht (by omega) (by omega) hj
      exact ⟨_, rfl, by simp! [i, hbc, (hv v hv').cl, htc], fun _ => by simp! [R.bind_okk]⟩
    refine Eq.trans this ?_
    rw [List.map_id]
  refine fin_pure ?_ ?_
  · refine pu_e (d := .non) (by simp! [i1, hbc]) ?_
    refine pu_f (by simp! [i2, isLst, hvc, c2]) ?_
    refine pu_e (d := .non) (by simp! [i3, hbc, htc]) ?_
    exact pu_r c1
  · rw [cl_lst]
    exact clsDs_mem.mpr fun d hd => (hv d (List.mem_filter.mp hd).1).cl
end
section
variable [At_unfolded_of rs ix]
theorem unfolded_leaf {w : String} {r : List D} {kv : List (Key × D)} (h : w ≠ "the" ∧ w ≠ "or" ∧ w ≠ "and" ∧ w ≠ "not") (hc : clsD 0 (.tup (.str (Str.ofString w) :: r)) = true) (hk : 1 ≤ k) : runF rs k (ix 19) [.dic kv, .tup (.str (Str.ofString w) :: r)] [] = .ok (.tup (.str (Str.ofString w) :: r)) [] := by
  obtain ⟨k, rfl, hj⟩ := succ_of (n := 0) hk
  rw [run_at At_unfolded_of.h]
  refine fin_pure ?_ hc
  refine pu_f (by simp! [h]) ?_
  refine pu_f (by simp! [pIn, h]) ?_
  exact pu_r (by simp! [h])
theorem unfolded_of_ok (hb : BkP bk) : ∀ {m k : Nat} {t : D}, TP (bk.map (·.1)) m t → m ≤ 4 → m + 5 ≤ k → ∃ t', runF rs k (ix 19) [.dic (bkK bk), t] [] = .ok t' [] ∧ TP (bk.map (·.1)) (m + 4) t' ∧ ∀ n v, VP n v → n ≤ 4 → Sm bk v t' = Sm bk v t
  | 0, _, _, h, _, _ => h.elim
  | m + 1, k, t, h, hm, hk => by
    have hbc := bkK_cl hb
    have hc := h.cl
    have hsame : (∃ (w : String) (r : List D), t = .tup (.str w :: r) ∧ w ≠ "the" ∧ w ≠ "or" ∧ w ≠ "and" ∧ w ≠ "not") → ∃ t', runF rs k (ix 19) [.dic (bkK bk), t] [] = .ok t' [] ∧ TP (bk.map (·.1)) (m + 1 + 4) t' ∧ ∀ n v, VP n v → n ≤ 4 → Sm bk v t' = Sm bk v t := by
      rintro ⟨w, r, rfl, hw⟩
      exact ⟨_, unfolded_leaf hw hc (by omega), h.le (by omega), fun _ _ _ _ => rfl⟩
    rcases h with h' | ⟨a, h1, rfl⟩ | ⟨w, a, b, hw, h1, h2, rfl⟩ | ⟨fs, o, h1, h2, h3, rfl⟩
    · by_cases hthe : ∃ x, x ∈ bk.map (·.1) ∧ nmB x = true ∧ t = .tup [.str "the", .str x]
      · obtain ⟨x, hx, hnm, rfl⟩ := hthe
        obtain ⟨t, q1, q2⟩ := valD_bk hx
        have h3 := hb.tp q1
        obtain ⟨e, r, he, q3, q4⟩ := hb.val _ q1
        simp only at he h3
        subst he
        have hec : clsD 0 e = true := q3.tp.cl
        have hrc : clsD 0 r = true := q4.tp.cl
        obtain ⟨k, rfl, hj⟩ := succ_of (k := k) (n := 4) (by omega)
        obtain ⟨k, rfl, hj2⟩ := succ_of (k := k) (n := 3) (by omega)
        have u1 : runF rs k (ix 19) [.dic (bkK bk), e] [] = .ok e [] := by
          obtain ⟨w, q, rfl, hw⟩ := q3.word0
          exact unfolded_leaf hw hec (by omega)
        have u2 : runF rs k (ix 19) [.dic (bkK bk), r] [] = .ok r [] := by
          obtain ⟨w, q, rfl, hw⟩ := q4.word
          exact unfolded_leaf hw hrc (by omega)
        have i1 : inD (.str "or") (.tup [.str "or", .str "and"]) = some true := by
          rw [inD_s2 (strOk_ofS _) (strOk_ofS _) (strOk_ofS _)]; simp
        have u3 : runF rs (k + 1) (ix 19) [.dic (bkK bk), .tup [.str "or", e, r]] [] = .ok (.tup [.str "or", e, r]) [] := by
          rw [run_at At_unfolded_of.h]
          refine fin_pure ?_ (by simp [cl_tup, cls_cons, cl_str, cls_nil, hec, hrc])
          refine pu_f (by simp! [R.bind_okk]) ?_
          exact pu_tr (by simp! [pIn, i1]) (by simp! [u1, u2, hbc, hec, hrc])
        refine ⟨.tup [.str "or", e, r], ?_, h3.le (by omega), fun n v hv hn => ?_⟩
        · rw [run_at At_unfolded_of.h]
          refine fin_pure ?_ (by simp [cl_tup, cls_cons, cl_str, cls_nil, hec, hrc])
          exact pu_tr (by simp! [R.bind_okk]) (by simp! [keyOf, q2, u3, hbc, hec, hrc])
        · rw [sm_eq (m := 1) hb hv (.inl (.inr (.inr (.inr ⟨x, hx, hnm, rfl⟩)))) hn (by decide), semF_the q2]
      · refine hsame ?_
        rcases h' with ⟨w, hw, rfl⟩ | ⟨c, hc, rfl⟩ | ⟨lo, hi, hb', rfl⟩ | ⟨x, hx, hnm, rfl⟩
        · exact ⟨w, _, rfl, by rcases hw with rfl | rfl | rfl <;> decide⟩
        · exact ⟨"is", _, rfl, by decide⟩
        · exact ⟨"from", _, rfl, by decide⟩
        · exact absurd ⟨x, hx, hnm, rfl⟩ hthe
    · obtain ⟨k, rfl, hj⟩ := succ_of (k := k) (n := m + 5) (by omega)
      obtain ⟨a', i1, i2, i3⟩ := unfolded_of_ok hb h1 (by omega) hj
      have hac := h1.cl
      have hac' := i2.cl
      refine ⟨.tup [.str "not", a'], ?_, .inr (.inl ⟨a', i2.le (by omega), rfl⟩), fun n v hv hn => ?_⟩
      · rw [run_at At_unfolded_of.h]
        refine fin_pure ?_ (by simp [cl_tup, cls_cons, cl_str, cls_nil, hac'])
        refine pu_f (by simp! [R.bind_okk]) ?_
        refine pu_f (by simp! [pIn]) ?_
        exact pu_r (by simp! [i1, hbc, hac, hac'])
      · rw [sm_eq (m := m + 1 + 4) hb hv (.inr (.inl ⟨a', i2.le (by omega), rfl⟩)) hn (by omega), sm_eq (m := m + 1) hb hv (.inr (.inl ⟨a, h1, rfl⟩)) hn (by omega), semF_not, semF_not, i3 n v hv hn]
    · rcases hw with rfl | rfl | rfl | rfl
      · exact hsame ⟨"pair", _, rfl, by decide⟩
      · exact hsame ⟨"fun", _, rfl, by decide⟩
      all_goals
        obtain ⟨k, rfl, hj⟩ := succ_of (k := k) (n := m + 5) (by omega)
        obtain ⟨a', i1, i2, i3⟩ := unfolded_of_ok hb h1 (by omega) hj
        obtain ⟨b', j1, j2, j3⟩ := unfolded_of_ok hb h2 (by omega) hj
        have hac := h1.cl
        have hac' := i2.cl
        have hbc2 := h2.cl
        have hbc' := j2.cl
      · have w1 : inD (.str "or") (.tup [.str "or", .str "and"]) = some true := by
          rw [inD_s2 (strOk_ofS _) (strOk_ofS _) (strOk_ofS _)]; simp
        have ht' : TP (bk.map (·.1)) (m + 1 + 4) (.tup [.str "or", a', b']) := .inr (.inr (.inl ⟨"or", a', b', .inr (.inr (.inl rfl)), i2.le (by omega), j2.le (by omega), rfl⟩))
        refine ⟨.tup [.str "or", a', b'], ?_, ht', fun n v hv hn => ?_⟩
        · rw [run_at At_unfolded_of.h]
          refine fin_pure ?_ (by simp [cl_tup, cls_cons, cl_str, cls_nil, hac', hbc'])
          refine pu_f (by simp! [R.bind_okk]) ?_
          exact pu_tr (by simp! [pIn, w1]) (by simp! [i1, j1, hbc, hac, hac', hbc2, hbc'])
        · rw [sm_eq hb hv ht' hn (by omega), sm_eq (m := m + 1) hb hv (.inr (.inr (.inl ⟨"or", a, b, .inr (.inr (.inl rfl)), h1, h2, rfl⟩))) hn (by omega), semF_or, semF_or, i3 n v hv hn, j3 n v hv hn]
      · have w1 : inD (.str "and") (.tup [.str "or", .str "and"]) = some true := by
          rw [inD_s2 (strOk_ofS _) (strOk_ofS _) (strOk_ofS _)]; simp
        have ht' : TP (bk.map (·.1)) (m + 1 + 4) (.tup [.str "and", a', b']) := .inr (.inr (.inl ⟨"and", a', b', .inr (.inr (.inr rfl)), i2.le (by omega), j2.le (by omega), rfl⟩))
        refine ⟨.tup [.str "and", a', b'], ?_, ht', fun n v hv hn => ?_⟩
        · rw [run_at At_unfolded_of.h]
          refine fin_pure ?_ (by simp [cl_tup, cls_cons, cl_str, cls_nil, hac', hbc'])
          refine pu_f (by simp! [R.bind_okk]) ?_
          exact pu_tr (by simp! [pIn, w1]) (by simp! [i1, j1, hbc, hac, hac', hbc2, hbc'])
        · rw [sm_eq hb hv ht' hn (by omega), sm_eq (m := m + 1) hb hv (.inr (.inr (.inl ⟨"and", a, b, .inr (.inr (.inr rfl)), h1, h2, rfl⟩))) hn (by omega), semF_and, semF_and, i3 n v hv hn, j3 n v hv hn]
    · exact hsame ⟨"record", _, rfl, by decide⟩
theorem unfolded_ok [At_unfolded rs ix] (hb : BkP bk) {m : Nat} {t : D} (ht : TP (bk.map (·.1)) m t) (hm : m ≤ 4) (hk : 40 ≤ k) : ∃ t', runF rs k (ix 20) [.dic (bkK bk), t] [] = .ok t' [] ∧ TP (bk.map (·.1)) (m + 4) t' ∧ ∀ n v, VP n v → n ≤ 4 → Sm bk v t' = Sm bk v t := by
  obtain ⟨k, rfl, hj⟩ := succ_of (n := 39) hk
  have hbc := bkK_cl hb
  have htc := ht.cl
  have i1 := need_book_ok (rs := rs) (ix := ix) (k := k) hb (by omega)
  have i3 := need_type_ok (rs := rs) (ix := ix) (k := k) hb ht (by omega) (by omega)
  obtain ⟨t', j1, j2, j3⟩ := unfolded_of_ok (rs := rs) (ix := ix) (k := k) hb ht hm (by omega)
  refine ⟨t', ?_, j2, j3⟩
  rw [run_at At_unfolded.h]
  refine fin_pure ?_ j2.cl
  refine pu_e (d := .non) (by simp! [i1, hbc]) ?_
  refine pu_e (d := .non) (by simp! [i3, hbc, htc]) ?_
  exact pu_r (by simp! [j1, hbc, htc, j2.cl])
end
end
end Ev.Nv

set_option Elab.async false
set_option linter.all false
set_option maxRecDepth 100000
set_option maxHeartbeats 4000000
/-! Nv, part 17: repr of lists of values. -/
namespace Ev.Nv
open PySem PySem.Spec PyProof.Rows L2
def okS (s : Str) : Prop := ∀ c ∈ s.cps.toList, c < 0x110000
theorem okS_app {a b : Str} (h1 : okS a) (h2 : okS b) : okS (a ++ b) := fun c hc => by
  have : (a ++ b).cps = a.cps ++ b.cps := rfl
  rw [this, Array.toList_append, List.mem_append] at hc
  rcases hc with h | h
  · exact h1 c h
  · exact h2 c h
theorem okS_of {s : Str} : PyData.strOk s = true ↔ okS s := by
  simp only [PyData.strOk, okS, Array.all_eq_true_iff_forall_mem, decide_eq_true_eq, Array.mem_toList_iff]
theorem okS_ofS (s : String) : okS (Str.ofString s) := okS_of.mp (strOk_ofS s)
theorem okS_textFrom : ∀ (ts : List Str) (k : Nat) (acc : Str), okS acc → (∀ t ∈ ts, okS t) → okS (textFrom k acc ts)
  | [], _, _, h, _ => h
  | t :: r, k, acc, h, ht => okS_textFrom r (k + 1) _ (okS_app (okS_app h (by split <;> exact okS_ofS _)) (ht t (by simp))) fun x hx => ht x (by simp [hx])
theorem okS_listText {ts : List Str} (h : ∀ t ∈ ts, okS t) : okS (listText ts) := okS_app (okS_textFrom ts 0 _ (okS_ofS _) h) (okS_ofS _)
theorem okS_join : ∀ {ts : List Str}, (∀ t ∈ ts, okS t) → okS (Str.join ", " ts)
  | [], _ => okS_ofS ""
  | [x], h => h x (by simp)
  | x :: y :: r, h => by
    have ih := okS_join (ts := y :: r) fun t ht => h t (by simp at ht ⊢; exact .inr ht)
    exact okS_app (okS_app (h x (by simp)) (okS_ofS _)) ih
theorem okS_tupleText {ts : List Str} (h : ∀ t ∈ ts, okS t) : okS (tupleText ts) := okS_app (okS_app (okS_ofS _) (okS_join h)) (by split <;> exact okS_ofS _)
theorem ok_reprChar {q c : Nat} (hc : c < 0x110000) : ∀ x ∈ PySem.Builtin.Str.reprChar q c, x < 0x110000 := fun x hx => by
  have hex : ∀ (w : Nat) (x : Nat), x ∈ (List.replicate (w - ((Nat.toDigits 16 c).map Char.toNat).length) 48 ++ (Nat.toDigits 16 c).map Char.toNat) → x < 0x110000 := fun w x hx => by
    rcases List.mem_append.mp hx with h | h
    · rw [(List.mem_replicate.mp h).2]; decide
    · obtain ⟨ch, _, rfl⟩ := List.mem_map.mp h
      rcases ch.valid with h | h
      · exact Nat.lt_trans h (by decide)
      · exact h.2
  unfold PySem.Builtin.Str.reprChar at hx
  simp only at hx
  split at hx
  · simp at hx; omega
  split at hx
  · simp at hx; omega
  split at hx
  · simp at hx; omega
  split at hx
  · simp at hx; omega
  split at hx
  · simp at hx; omega
  split at hx
  · rcases List.mem_append.mp hx with h | h
    · simp at h; omega
    · exact hex _ _ h
  split at hx
  · rcases List.mem_append.mp hx with h | h
    · simp at h; omega
    · exact hex _ _ h
  · rcases List.mem_append.mp hx with h | h
    · simp at h; omega
    · exact hex _ _ h
theorem ok_foldl_repr {q : Nat} : ∀ (l : List Nat) (acc : Array Nat), (∀ c ∈ acc.toList, c < 0x110000) → (∀ c ∈ l, c < 0x110000) → ∀ c ∈ (l.foldl (fun out c => out ++ (PySem.Builtin.Str.reprChar q c).toArray) acc).toList, c < 0x110000
  | [], _, h, _ => h
  | c :: r, acc, h, hl => ok_foldl_repr r _ (fun x hx => by
      rw [Array.toList_append, List.mem_append] at hx
      rcases hx with hx | hx
      · exact h x hx
      · exact ok_reprChar (hl c (by simp)) x (by simpa using hx)) fun x hx => hl x (by simp [hx])
theorem okS_reprText {x : Str} (h : okS x) : okS (reprText x) := fun c hc => by
  have hq : reprQuote x < 0x110000 := by unfold reprQuote; split <;> decide
  unfold reprText at hc
  simp only [Array.toList_push, List.mem_append, List.mem_singleton] at hc
  rcases hc with hc | rfl
  · rw [← Array.foldl_toList] at hc
    exact ok_foldl_repr x.cps.toList #[reprQuote x] (by simpa using hq) h c hc
  · exact hq
mutual
theorem okS_shown : ∀ d : PyData, d.canLay0 = true → okS d.shown
  | .none, _ => okS_ofS _
  | .bool b, _ => by
    simp only [PyData.shown]
    split <;> exact okS_ofS _
  | .int i, _ => okS_ofS _
  | .str x, h => by
    simp only [PyData.shown]
    exact okS_reprText (okS_of.mp (by simpa only [PyData.canLay0] using h))
  | .list xs, h => by
    simp only [PyData.shown]
    exact okS_listText (okS_shownAll xs (by simpa only [PyData.canLay0] using h))
  | .tuple xs, h => by
    simp only [PyData.shown]
    exact okS_tupleText (okS_shownAll xs (by simpa only [PyData.canLay0] using h))
  | .dict _, h => by simp only [PyData.canLay0] at h; exact nomatch h
theorem okS_shownAll : ∀ ds : List PyData, PyData.canLayAll0 ds = true → ∀ t ∈ PyData.shownAll ds, okS t
  | [], _ => by simp [PyData.shownAll]
  | d :: ds, h => by
    have h' : d.canLay0 = true ∧ PyData.canLayAll0 ds = true := by simpa only [PyData.canLayAll0, Bool.and_eq_true] using h
    simp only [PyData.shownAll, List.mem_cons]
    rintro t (rfl | ht)
    · exact okS_shown d h'.1
    · exact okS_shownAll ds h'.2 t ht
end
/-- data that repr serves: w: its weight -/
structure ShP (d : D) (w : Nat) : Prop where
  sh : ∃ p, d.py = some p ∧ p.canLay0 = true ∧ p.showable = true ∧ p.intsShort 13 = true ∧ p.weight ≤ w
structure ShsP (ds : List D) (w : Nat) : Prop where
  sh : ∃ ps, pyAll ds = some ps ∧ PyData.canLayAll0 ps = true ∧ PyData.showableAll ps = true ∧ PyData.intsShortAll 13 ps = true ∧ PyData.weightAll ps ≤ w
theorem ShP.le {d : D} {w w' : Nat} (h : ShP d w) (hw : w ≤ w') : ShP d w' := by
  obtain ⟨p, h1, h2, h3, h4, h5⟩ := h.sh
  exact ⟨p, h1, h2, h3, h4, by omega⟩
theorem ShsP.nil : ShsP [] 0 := ⟨[], rfl, rfl, rfl, rfl, Nat.le_refl _⟩
theorem ShsP.cons {d : D} {ds : List D} {w w' v : Nat} (h : ShP d w) (hs : ShsP ds w') (hv : w + 1 + w' ≤ v) : ShsP (d :: ds) v := by
  obtain ⟨p, h1, h2, h3, h4, h5⟩ := h.sh
  obtain ⟨ps, g1, g2, g3, g4, g5⟩ := hs.sh
  refine ⟨p :: ps, by simp [pyAll, h1, g1], by simp [PyData.canLayAll0, h2, g2], by simp [PyData.showableAll, h3, g3], by simp [PyData.intsShortAll, h4, g4], ?_⟩
  simp only [PyData.weightAll]; omega
theorem ShsP.tup {ds : List D} {w : Nat} (hs : ShsP ds w) : ShP (.tup ds) w := by
  obtain ⟨ps, g1, g2, g3, g4, g5⟩ := hs.sh
  exact ⟨.tuple ps, by simp [D.py, g1], by simpa [PyData.canLay0] using g2, by simpa [PyData.showable] using g3, by simpa [PyData.intsShort] using g4, by simpa [PyData.weight] using g5⟩
theorem ShsP.lst {ds : List D} {w : Nat} (hs : ShsP ds w) : ShP (.lst ds) w := by
  obtain ⟨ps, g1, g2, g3, g4, g5⟩ := hs.sh
  exact ⟨.list ps, by simp [D.py, g1], by simpa [PyData.canLay0] using g2, by simpa [PyData.showable] using g3, by simpa [PyData.intsShort] using g4, by simpa [PyData.weight] using g5⟩
theorem ShP.str {x : Str} (h : PyData.strOk x = true) (hl : x.length ≤ 8) : ShP (.str x) 8 := ⟨.str x, by simp [D.py, h], by simpa [PyData.canLay0] using h, rfl, rfl, by simpa [PyData.weight, Str.length] using hl⟩
theorem ShP.non : ShP .non 0 := ⟨.none, rfl, rfl, rfl, rfl, Nat.le_refl _⟩
theorem ShP.int {i : Int} (h1 : -1000000000 ≤ i) (h2 : i ≤ 1000000000) : ShP (.int i) 31 := by
  have hn : i.natAbs < 10 ^ 12 := by omega
  have hl : i.natAbs.log2 ≤ 29 := by
    by_cases h0 : i.natAbs = 0
    · rw [h0]; decide
    · have := (Nat.log2_lt h0 (k := 30)).mpr (by omega)
      omega
  refine ⟨.int i, rfl, rfl, ?_, ?_, ?_⟩
  · simp only [PyData.showable, decide_eq_true_eq]; omega
  · simp only [PyData.intsShort, decide_eq_true_eq]; exact PyData.shown_int_le hn
  · simp only [PyData.weight]; split <;> omega
theorem ShsP.all {ds : List D} {w : Nat} (h : ∀ d ∈ ds, ShP d w) : ShsP ds (ds.length * (w + 1)) := by
  induction ds with
  | nil => exact ShsP.nil.sh |> fun h => ⟨by simpa using h⟩
  | cons d ds ih => exact ShsP.cons (h d (by simp)) (ih fun x hx => h x (by simp [hx])) (by rw [List.length_cons, Nat.add_mul]; omega)
def shW : Nat → Nat
  | 0 => 31
  | n + 1 => 4 * shW n + 60
theorem shW_ge : ∀ n, 31 ≤ shW n
  | 0 => Nat.le_refl _
  | n + 1 => by have := shW_ge n; simp only [shW]; omega
theorem VP.show : ∀ {n : Nat} {d : D}, VP n d → ShP d (shW n)
  | 0, _, h => h.elim
  | n + 1, d, h => by
    have hge := shW_ge n
    have sw : ∀ s : String, s.length ≤ 8 → ShP (.str s) 8 := fun s hs => ShP.str (strOk_ofS s) (by rw [PySem.ofString_length]; exact hs)
    rcases h with h | ⟨a, b, rfl, h1, h2⟩ | ⟨fs, rfl, h1, h2, h3⟩ | ⟨ps, rfl, h1, h2, h3⟩
    · rcases cstB_cases h with ⟨i, rfl, h1, h2⟩ | ⟨s, rfl, hs⟩
      · exact (ShP.int h1 h2).le (by simp only [shW]; omega)
      · exact (ShP.str (nm_ok hs).1 (nm_ok hs).2.2).le (by simp only [shW]; omega)
    · exact (ShsP.cons (sw "pair" (by decide)) (ShsP.cons (VP.show h1) (ShsP.cons (VP.show h2) ShsP.nil (Nat.le_refl _)) (Nat.le_refl _)) (Nat.le_refl _)).tup.le (by simp only [shW]; omega)
    · have hf : ∀ d ∈ fs.map fieldD, ShP d (shW n + 10) := fun d hd => by
        obtain ⟨f, hf, rfl⟩ := List.mem_map.mp hd
        have := nm_ok (h3 f hf).1
        exact (ShsP.cons (ShP.str this.1 this.2.2) (ShsP.cons (VP.show (h3 f hf).2) ShsP.nil (Nat.le_refl _)) (Nat.le_refl _)).tup.le (by omega)
      have hs := ShsP.all hf
      have hm : (fs.map fieldD).length * (shW n + 10 + 1) ≤ 2 * (shW n + 10 + 1) := Nat.mul_le_mul_right _ (by simpa using h1)
      exact (ShsP.cons (sw "record" (by decide)) (ShsP.cons hs.tup ShsP.nil (Nat.le_refl _)) (Nat.le_refl _)).tup.le (by simp only [shW]; omega)
    · have hf : ∀ d ∈ ps.map pairD, ShP d (2 * shW n + 2) := fun d hd => by
        obtain ⟨p, hp, rfl⟩ := List.mem_map.mp hd
        have h2 : ShP p.2 (shW n) := by
          rcases (h3 p hp).2 with e | e
          · rw [e]; exact ShP.non.le (by omega)
          · exact VP.show e
        exact (ShsP.cons (VP.show (h3 p hp).1) (ShsP.cons h2 ShsP.nil (Nat.le_refl _)) (Nat.le_refl _)).tup.le (by omega)
      have hs := ShsP.all hf
      have hm : (ps.map pairD).length * (2 * shW n + 2 + 1) ≤ 2 * (2 * shW n + 2 + 1) := Nat.mul_le_mul_right _ (by simpa using h1)
      exact (ShsP.cons (sw "graph" (by decide)) (ShsP.cons hs.tup ShsP.nil (Nat.le_refl _)) (Nat.le_refl _)).tup.le (by simp only [shW]; omega)
theorem repr_vals {ds : List D} (h : ∀ d ∈ ds, VP 4 d) (hl : ds.length ≤ 75) : ∃ s : Str, PyData.strOk s = true ∧ ∀ S : Sto, pRepr [.lst ds] S = .ok (.str s) S := by
  have hs := (ShsP.all fun d hd => (h d hd).show).lst
  obtain ⟨p, h1, h2, h3, h4, h5⟩ := hs.sh
  have hw : p.weight ≤ 2 ^ 20 := by
    have : ds.length * (shW 4 + 1) ≤ 75 * (shW 4 + 1) := Nat.mul_le_mul_right _ hl
    exact Nat.le_trans h5 (Nat.le_trans this (by decide))
  have hsz := PyData.shown_fits (B := 13) (by decide) (by decide) (PyData.leavesShort_of_canLay0 13 p h2 h4) hw
  have hd : p.depth ≤ 190 := by
    rw [py_depth h1]
    have : depDs ds ≤ 12 := depDs_le.mpr fun d hd => (h d hd).dep
    simp only [depD]; omega
  refine ⟨p.shown, okS_of.mpr (okS_shown p h2), fun S => ?_⟩
  simp only [pRepr, deref_lst, h1]
  rw [if_pos ⟨⟨h3, PyData.hasDict_of_canLay p h2⟩, hd, hsz⟩]
end Ev.Nv

set_option Elab.async false
set_option linter.all false
set_option maxRecDepth 100000
set_option maxHeartbeats 4000000
/-! Nv, part 18: draws. -/
namespace Ev.Nv
open PySem PySem.Spec PyProof.Rows L2
theorem pIx_tup {ds : List D} {i : Int} {S : Sto} : pIx (.tup ds) (.int i) S = match L2.atI ds i with
    | some d => .ok d S
    | none => .bad := rfl
theorem pIx_lst {ds : List D} {i : Int} {S : Sto} : pIx (.lst ds) (.int i) S = match L2.atI ds i with
    | some d => .ok d S
    | none => .bad := rfl
theorem pIx_dic {kvs : List (Key × D)} {k : D} {S : Sto} : pIx (.dic kvs) k S = match (keyOf k).bind (valD kvs) with
    | some d => .ok d S
    | none => .bad := by cases k <;> rfl
local macro_rules
  | `(tactic| simp! [$ls,*]) => `(tactic| simp [List.getElem?_cons_zero, List.getElem?_cons_succ, List.set_cons_zero, List.set_cons_succ, pl_non, pl_bl, pl_int, pl_str, pl_tup, pl_lst, pls_nil, pls_cons, ns_non, ns_int, ns_str, ns_tup, nss_nil, nss_cons, cSeq, cRet, cIfS, cAsg, cExp, cSkip, cPar, cRetN, cVar, cK, cBin, cUn, cPrim, cCons, cNil, cCall, cIf, cTru, cNotT, cAndT, cOrT, cAndV, cOrV, cNotV, cB, cSl, cPart, cNoPart, cChain, cYes, R.bind_okk, R.at_okk, startD, bindT, bindTs, pIsi, tyD, isI, isTys, isCls, tysOf, isAny, pLen, pTup, pLst, pIx_tup, pIx_lst, pIx_dic, pEq, pIs_non, pIs_nonN, isNon_non, isNon_int, isNon_str, isNon_tup, isNon_bl, wipeD, -List.map_map, pLt, pLe, pGt, pGe, pCmpI, pSub, mkL, truthD, deref_non, deref_bl, deref_int, deref_str, deref_tup, deref_lst, deref_dic, deref_scr, deref_ty, fin_rt, fin_nx, iso_okD, cl_non, cl_bl, cl_int, cl_str, cl_ty, cl_tup, cl_lst, cl_dic, cl_ref, cls_nil, cls_cons, clk_nil, clk_cons, done_nil, sz_lit, ofS_inj, atI0, atI1, atI2, strOk_ofS, eqD_str, eqD_int, inD_s2, inD_s3, inD_s4, all_true, $ls,*])
variable {rs : List Rd'} {ix : Nat → Nat} {k : Nat} {d : D}
structure DSt where
  large : List Int
  cells : List Int
  left : Int
  turn : Int
def St (st : DSt) (rest : Sto) : Sto := .lst (st.large.map .int) :: .dic [(.inr "large", .ref 0), (.inr "cells", .lst (st.cells.map .int)), (.inr "left", .int st.left), (.inr "turn", .int st.turn)] :: rest
structure DOk (n : Nat) (st : DSt) : Prop where
  lg : ∀ x ∈ st.large, 0 ≤ x
  ll : st.large.length ≤ 63
  cg : ∀ x ∈ st.cells, 0 ≤ x
  cl : st.cells.length ≤ 63
  lf : 0 ≤ st.left
  t0 : 0 ≤ st.turn
  tn : st.turn + n ≤ 2 ^ 40
theorem DOk.le {n m : Nat} {st : DSt} (h : DOk n st) (hl : m ≤ n) : DOk m st := ⟨h.lg, h.ll, h.cg, h.cl, h.lf, h.t0, by have := h.tn; omega⟩
/-- the boxes behind the state's -/
def RC (rest : Sto) : Prop := rest.all (clsO (rest.length + 2)) = true
theorem St_len {st : DSt} {rest : Sto} : (St st rest).length = rest.length + 2 := rfl
theorem ints_cl {n : Nat} : ∀ l : List Int, clsDs n (l.map .int) = true
  | [] => rfl
  | _ :: l => by
    rw [List.map_cons, cls_cons, cl_int, ints_cl l]; rfl
theorem St_cl {st : DSt} {rest : Sto} (h : RC rest) : Cl (St st rest) := by
  unfold Cl
  rw [St_len]
  unfold St
  rw [List.all_cons, List.all_cons]
  have h1 : clsO (rest.length + 2) (.lst (st.large.map .int)) = true := ints_cl _
  have h2 : clsO (rest.length + 2) (.dic [(.inr "large", .ref 0), (.inr "cells", .lst (st.cells.map .int)), (.inr "left", .int st.left), (.inr "turn", .int st.turn)]) = true := by
    simp [clsO, clk_cons, clk_nil, cl_ref, cl_lst, cl_int, ints_cl]
  rw [h1, h2]
  exact h
section
variable {st : DSt} {rest : Sto}
theorem ix_left : pIx (.ref 1) (.str "left") (St st rest) = .ok (.int st.left) (St st rest) := by
  simp [pIx, deref, St, keyOf, valD, ofS_inj]
theorem ix_turn : pIx (.ref 1) (.str "turn") (St st rest) = .ok (.int st.turn) (St st rest) := by
  simp [pIx, deref, St, keyOf, valD, ofS_inj]
theorem ix_large : pIx (.ref 1) (.str "large") (St st rest) = .ok (.ref 0) (St st rest) := by
  simp [pIx, deref, St, keyOf, valD, ofS_inj]
theorem ix_cells : pIx (.ref 1) (.str "cells") (St st rest) = .ok (.lst (st.cells.map .int)) (St st rest) := by
  simp [pIx, deref, St, keyOf, valD, ofS_inj]
theorem set_left {v : Int} : pSet (.ref 1) (.str "left") (.int v) (St st rest) = some (St { st with left := v } rest) := by
  have : (4 : Nat) < sizeLine := by decide
  simp [pSet, St, keyOf, putD, ofS_inj, this]
theorem set_turn {v : Int} : pSet (.ref 1) (.str "turn") (.int v) (St st rest) = some (St { st with turn := v } rest) := by
  have : (4 : Nat) < sizeLine := by decide
  simp [pSet, St, keyOf, putD, ofS_inj, this]
theorem deref_large : deref (St st rest) (.ref 0) = .lst (st.large.map .int) := rfl
theorem box_large : isBoxL (St st rest) (.ref 0) = true := rfl
theorem pop_large {x : Int} {xs : List Int} (h : st.large = x :: xs) : pPopAt (.ref 0) [.int 0] (St st rest) = .ok (.int x) (St { st with large := xs } rest) := by
  simp [pPopAt, St, h, seqIndex?]
theorem fin_st {x : R F} {S S' : Sto} (hx : x = .ok (.rt d) S') (hl : S'.length = S.length) (hd : clsD 0 d = true) (hc : Cl S') : finish 0 S.length x = .ok d S' := by
  rw [hx, fin_rt, ← hl]
  exact done_pure0 hd hc
end
theorem pyAll_ints : ∀ l : List Int, pyAll (l.map .int) = some (l.map .int)
  | [] => rfl
  | x :: l => by simp [pyAll, pyAll_ints l, D.py]
theorem eqD_nil {ds : List D} (h : ∃ ps, pyAll ds = some ps) : eqD (.lst ds) (.lst []) = some ds.isEmpty := by
  obtain ⟨ps, hp⟩ := h
  have hd : min (PyData.depth (.list ps)) (PyData.depth (.list [])) ≤ 180 := Nat.le_trans (Nat.min_le_right _ _) (by simp [PyData.depth, PyData.depthAll])
  simp only [eqD, D.py, hp, pyAll, Option.map_some, if_pos hd]
  cases ds with
  | nil => simp [pyAll] at hp; subst hp; rfl
  | cons d ds =>
    simp only [pyAll, Option.bind_eq_some_iff, Option.map_eq_some_iff] at hp
    obtain ⟨p, _, ps', _, rfl⟩ := hp
    rfl
theorem eqD_nilI {l : List Int} : eqD (.lst (l.map .int)) (.lst []) = some l.isEmpty := by
  rw [eqD_nil ⟨_, pyAll_ints l⟩]
  cases l <;> rfl
theorem pMod_ok {i j : Int} {S : Sto} (h : 0 < j) : pMod (.int i) (.int j) S = .ok (.int (i % j)) S := by simp [pMod, h]
theorem pFdiv_ok {i j : Int} {S : Sto} (h : 0 < j ∧ j < 1073741824) : pFdiv (.int i) (.int j) S = .ok (.int (i / j)) S := by simp [pFdiv, h]
theorem pInt_ok {i : Int} {S : Sto} : pInt [.int i] S = .ok (.int i) S := rfl
theorem pAdd_int {i j : Int} {S : Sto} {b : Bool} : pAdd b (.int i) (.int j) S = .ok (.int (i + j)) S := rfl
theorem pPow_ok {i : Int} {j : Int} {S : Sto} (h : 0 ≤ j ∧ j ≤ 1000000 ∧ i.natAbs < 2 ^ 64) : pPow (.int i) (.int j) S = .ok (.int (i ^ j.toNat)) S := if_pos h
theorem pMul_ok {i : Int} {j : Int} {S : Sto} {b : Bool} (h : -(2 ^ 64) < i ∧ i < 2 ^ 64) : pMul b (.int i) (.int j) S = .ok (.int (i * j)) S := if_pos (.inl h)
section
variable [At__law_draw rs ix]
theorem draw_loop {sz : Int} {cells : List Int} {turn : Int} {rest : Sto} {call : Call} : ∀ (large : List Int) (left : Int) (m : Nat), (∀ x ∈ large, 0 ≤ x) → 0 ≤ left →
    ∃ (large' : List Int) (left' : Int), whL call (cAndT (cB (cBin (pEq false) (cBin pIx (cVar 0) (cK (.str "left"))) (cK (.int 0)))) (cB (cBin (pEq true) (cBin pIx (cVar 0) (cK (.str "large"))) (cPrim (pLst false) cNil)))) (r__law_draw_b1 ix) (m + 1 + large.length) [some (.ref 1), some (.int sz), none, none, none, none] (St ⟨large, cells, left, turn⟩ rest) =
      .ok (.nx [some (.ref 1), some (.int sz), none, none, none, none]) (St ⟨large', cells, left', turn⟩ rest) ∧ (∀ x ∈ large', 0 ≤ x) ∧ large'.length ≤ large.length ∧ 0 ≤ left'
  | [], left, m, hl, h0 => by
    refine ⟨[], left, ?_, by simp, by simp, h0⟩
    have e1 : deref (St ⟨[], cells, left, turn⟩ rest) (.ref 0) = .lst (([] : List Int).map .int) := rfl
    have e2 : eqD (.lst []) (.lst []) = some true := eqD_nilI (l := [])
    simp only [List.length_nil, Nat.add_zero, whL]
    by_cases hz : left = 0
    · subst hz
      simp! [ix_left, ix_large, e1, e2]
    · simp! [ix_left, hz]
  | x :: xs, left, m, hl, h0 => by
    have e1 : deref (St ⟨x :: xs, cells, left, turn⟩ rest) (.ref 0) = .lst ((x :: xs).map .int) := rfl
    have e2 := eqD_nilI (l := x :: xs)
    have e : m + 1 + (x :: xs).length = (m + 1 + xs.length) + 1 := by simp [List.length_cons]; omega
    rw [e]
    simp only [whL]
    by_cases hz : left = 0
    · subst hz
      obtain ⟨large', left', h1, h2, h3, h4⟩ := draw_loop xs x m (fun y hy => hl y (by simp [hy])) (hl x (by simp))
      refine ⟨large', left', ?_, h2, by simp; omega, h4⟩
      have p1 := pop_large (st := ⟨x :: xs, cells, 0, turn⟩) (rest := rest) (x := x) (xs := xs) rfl
      have p2 := set_left (st := ⟨xs, cells, 0, turn⟩) (rest := rest) (v := x)
      have b1 : r__law_draw_b1 ix call [some (.ref 1), some (.int sz), none, none, none, none] (St ⟨x :: xs, cells, 0, turn⟩ rest) = .ok (.nx [some (.ref 1), some (.int sz), none, none, none, none]) (St ⟨xs, cells, x, turn⟩ rest) := by
        simp! [r__law_draw_b1, cSet, cMeth, ix_large, box_large, p1, p2]
      have t1 : cAndT (cB (cBin (pEq false) (cBin pIx (cVar 0) (cK (.str "left"))) (cK (.int 0)))) (cB (cBin (pEq true) (cBin pIx (cVar 0) (cK (.str "large"))) (cPrim (pLst false) cNil))) call [some (.ref 1), some (.int sz), none, none, none, none] (St ⟨x :: xs, cells, 0, turn⟩ rest) = .ok true (St ⟨x :: xs, cells, 0, turn⟩ rest) := by
        simp only [List.map_cons] at e1 e2
        simp! [ix_left, ix_large, e1, e2]
      rw [t1, R.bind_okk, if_pos rfl, b1]
      exact h1
    · refine ⟨x :: xs, left, ?_, hl, by simp, h0⟩
      simp! [ix_left, hz]
theorem draw_ok {n : Nat} {st : DSt} {rest : Sto} {sz : Int} (h : DOk (n + 1) st) (hr : RC rest) (hs : 0 < sz) (hs2 : sz < 1000000) (hk : 1 ≤ k) :
    ∃ (r : Int) (st' : DSt), runF rs k (ix 42) [.ref 1, .int sz] (St st rest) = .ok (.int r) (St st' rest) ∧ 0 ≤ r ∧ r < sz ∧ DOk n st' := by
  obtain ⟨k, rfl, hj⟩ := succ_of hk
  obtain ⟨large, cells, left, turn⟩ := st
  have hll := h.ll
  simp only at hll
  obtain ⟨large', left', h1, h2, h3, h4⟩ := draw_loop (ix := ix) (sz := sz) (cells := cells) (turn := turn) (rest := rest) (call := runF rs k) large left (99999 - large.length) h.lg h.lf
  have e : 99999 - large.length + 1 + large.length = 100000 := by omega
  rw [e] at h1
  have t0 := h.t0
  have tn := h.tn
  have hcl := h.cl
  have hcg := h.cg
  simp only at t0 tn hcl hcg
  by_cases hz : 0 < left'
  · refine ⟨left' % sz, ⟨large', cells, left' / sz, turn⟩, ?_, Int.emod_nonneg _ (by omega), Int.emod_lt_of_pos _ hs, ⟨h2, by simp only; omega, hcg, hcl, Int.ediv_nonneg h4 (by omega), t0, by simp only; omega⟩⟩
    rw [run_at At__law_draw.h]
    refine fin_st ?_ rfl rfl (St_cl hr)
    refine seq_nx h1 ?_
    refine seq_if_t (S1 := St ⟨large', cells, left', turn⟩ rest) (by simp! [ix_left, hz]) ?_
    refine pu_a (d := .int (left' % sz)) (by simp! [ix_left, pInt_ok, pMod_ok hs]) rfl ?_
    refine seq_nx (env1 := [some (.ref 1), some (.int sz), none, none, none, some (.int (left' % sz))]) (S1 := St ⟨large', cells, left' / sz, turn⟩ rest) ?_ ?_
    · have q := set_left (st := ⟨large', cells, left', turn⟩) (rest := rest) (v := left' / sz)
      simp! [cSet, ix_left, pFdiv_ok ⟨hs, by omega⟩, q]
    · exact seq_rt (by simp! [R.bind_okk])
  · have hz0 : left' = 0 := by omega
    subst hz0
    -- the new cell
    have hcell : ∃ c : Int, 0 ≤ c ∧ (∀ env1 : Env', cIf (cB (cBin (pEq true) (cBin pIx (cVar 0) (cK (.str "cells"))) (cPrim (pLst false) cNil))) (cBin pIx (cBin pIx (cVar 0) (cK (.str "cells"))) (cBin pMod (cPrim pInt (cCons (cVar 2) cNil)) (cPrim pLen (cCons (cBin pIx (cVar 0) (cK (.str "cells"))) cNil)))) (cK (.int 0)) (runF rs k) (some (.ref 1) :: some (.int sz) :: some (.int (turn + 1)) :: env1) (St ⟨large', cells, 0, turn + 1⟩ rest) = .ok (.int c) (St ⟨large', cells, 0, turn + 1⟩ rest)) := by
      cases hce : cells with
      | nil =>
        have e2 : eqD (.lst []) (.lst []) = some true := eqD_nilI (l := [])
        exact ⟨0, by omega, fun env1 => by simp! [ix_cells, e2]⟩
      | cons c cs =>
        have e2 := eqD_nilI (l := c :: cs)
        have hpos : (0 : Int) < (((c :: cs).map D.int).length : Int) := by simp
        have hidx : ((turn + 1) % (((c :: cs).map D.int).length : Int)).toNat < (c :: cs).length := by
          have h1 := Int.emod_lt_of_pos (turn + 1) hpos
          have h2 := Int.emod_nonneg (turn + 1) (by omega : (((c :: cs).map D.int).length : Int) ≠ 0)
          simp only [List.length_map] at h1 h2 ⊢
          omega
        have hix : L2.atI ((c :: cs).map D.int) ((turn + 1) % (((c :: cs).map D.int).length : Int)) = some (.int ((c :: cs)[((turn + 1) % (((c :: cs).map D.int).length : Int)).toNat])) := by
          have h2 := Int.emod_nonneg (turn + 1) (by omega : (((c :: cs).map D.int).length : Int) ≠ 0)
          have h3 : ((((turn + 1) % (((c :: cs).map D.int).length : Int)).toNat : Nat) : Int) = (turn + 1) % (((c :: cs).map D.int).length : Int) := Int.toNat_of_nonneg h2
          have h4 := atI_nat (xs := (c :: cs).map D.int) (i := ((turn + 1) % (((c :: cs).map D.int).length : Int)).toNat) (by simpa using hidx)
          rw [h3] at h4
          rw [h4, List.getElem_map]
        refine ⟨_, hcg _ (by rw [hce]; exact List.getElem_mem hidx), fun env1 => ?_⟩
        have q1 : ∀ env1 : Env', cB (cBin (pEq true) (cBin pIx (cVar 0) (cK (.str "cells"))) (cPrim (pLst false) cNil)) (runF rs k) (some (.ref 1) :: some (.int sz) :: some (.int (turn + 1)) :: env1) (St ⟨large', c :: cs, 0, turn + 1⟩ rest) = .ok true (St ⟨large', c :: cs, 0, turn + 1⟩ rest) := fun env1 => by
          simp only [List.map_cons] at e2
          simp! [ix_cells, e2]
        have q2 : ∀ env1 : Env', cBin pMod (cPrim pInt (cCons (cVar 2) cNil)) (cPrim pLen (cCons (cBin pIx (cVar 0) (cK (.str "cells"))) cNil)) (runF rs k) (some (.ref 1) :: some (.int sz) :: some (.int (turn + 1)) :: env1) (St ⟨large', c :: cs, 0, turn + 1⟩ rest) = .ok (.int ((turn + 1) % (((c :: cs).map D.int).length : Int))) (St ⟨large', c :: cs, 0, turn + 1⟩ rest) := fun env1 => by
          have hp2 := pMod_ok (i := turn + 1) (S := St ⟨large', c :: cs, 0, turn + 1⟩ rest) hpos
          simp only [cBin, cPrim, cCons, cNil, cVar, cK, List.getElem?_cons_zero, List.getElem?_cons_succ, R.bind_okk, pInt_ok, ix_cells, pLen, deref_lst, hp2]
        simp only [cIf, q1, R.bind_okk, if_true]
        unfold cBin
        have q2' := q2 env1
        unfold cBin at q2'
        simp only [cVar, cK, List.getElem?_cons_zero, R.bind_okk, ix_cells, q2'] at *
        rw [pIx_lst, hix]
    obtain ⟨c, hc0, hc⟩ := hcell
    have p1 : 0 ≤ c % 2147483563 ∧ c % 2147483563 < 2147483563 := ⟨Int.emod_nonneg _ (by decide), Int.emod_lt_of_pos _ (by decide)⟩
    have hb1 : (c % 2147483563 + 40692 * (turn + 1) + 24681).natAbs < 2 ^ 64 := by omega
    have p2 := pPow_ok (i := c % 2147483563 + 40692 * (turn + 1) + 24681) (j := 3) (S := St ⟨large', cells, 0, turn + 1⟩ rest) ⟨by decide, by decide, hb1⟩
    have p3 := pMul_ok (i := 40692) (j := turn + 1) (S := St ⟨large', cells, 0, turn + 1⟩ rest) (b := false) (by decide)
    generalize hX : (c % 2147483563 + 40692 * (turn + 1) + 24681) ^ (3 : Int).toNat % 2147483629 = X at *
    have hXb : 0 ≤ X ∧ X < 2147483629 := by rw [← hX]; exact ⟨Int.emod_nonneg _ (by decide), Int.emod_lt_of_pos _ (by decide)⟩
    have hb2 : (X + 104917 * (turn + 1)).natAbs < 2 ^ 64 := by omega
    have p4 := pPow_ok (i := X + 104917 * (turn + 1)) (j := 5) (S := St ⟨large', cells, 0, turn + 1⟩ rest) ⟨by decide, by decide, hb2⟩
    have p5 := pMul_ok (i := 104917) (j := turn + 1) (S := St ⟨large', cells, 0, turn + 1⟩ rest) (b := false) (by decide)
    generalize hY : (X + 104917 * (turn + 1)) ^ (5 : Int).toNat = Y at *
    refine ⟨Y % 2147483579 / 29 % sz, ⟨large', cells, 0, turn + 1⟩, ?_, Int.emod_nonneg _ (by omega), Int.emod_lt_of_pos _ hs, ⟨h2, by simp only; omega, hcg, hcl, by simp, by simp only; omega, by simp only; omega⟩⟩
    rw [run_at At__law_draw.h]
    refine fin_st ?_ rfl rfl (St_cl hr)
    refine seq_nx h1 ?_
    refine pu_f (by simp! [ix_left]) ?_
    refine pu_a (d := .int (turn + 1)) (by simp! [ix_turn, pAdd_int]) rfl ?_
    refine seq_nx (env1 := [some (.ref 1), some (.int sz), some (.int (turn + 1)), none, none, none]) (S1 := St ⟨large', cells, 0, turn + 1⟩ rest) ?_ ?_
    · have q := set_turn (st := ⟨large', cells, 0, turn⟩) (rest := rest) (v := turn + 1)
      simp! [cSet, q]
    refine seq_asg (d := .int c) (hc _) rfl ?_
    refine seq_asg (d := .int X) (S1 := St ⟨large', cells, 0, turn + 1⟩ rest) (env1 := [some (.ref 1), some (.int sz), some (.int (turn + 1)), some (.int c), some (.int X), none]) ?_ rfl ?_
    · simp only [cBin, cPrim, cCons, cNil, cVar, cK, List.set_cons_succ, List.set_cons_zero, List.getElem?_cons_zero, List.getElem?_cons_succ, R.bind_okk, pInt_ok, pMod_ok (show (0 : Int) < 2147483563 by decide), p3, pAdd_int, p2, pMod_ok (show (0 : Int) < 2147483629 by decide), hX]
    · refine seq_rt ?_
      simp only [cBin, cPrim, cCons, cNil, cVar, cK, List.set_cons_succ, List.set_cons_zero, List.getElem?_cons_zero, List.getElem?_cons_succ, R.bind_okk, pInt_ok, p5, pAdd_int, p4, hY, pMod_ok (show (0 : Int) < 2147483579 by decide), pFdiv_ok (show (0 : Int) < 29 ∧ (29 : Int) < 1073741824 by decide), pMod_ok hs]
end
end Ev.Nv

set_option Elab.async false
set_option linter.all false
set_option maxRecDepth 100000
set_option maxHeartbeats 4000000
/-! Nv, part 19: pick, mixed, constants, labels. -/
namespace Ev.Nv
open PySem PySem.Spec PyProof.Rows L2
local macro_rules
  | `(tactic| simp! [$ls,*]) => `(tactic| simp [List.getElem?_cons_zero, List.getElem?_cons_succ, List.set_cons_zero, List.set_cons_succ, pl_non, pl_bl, pl_int, pl_str, pl_tup, pl_lst, pls_nil, pls_cons, ns_non, ns_int, ns_str, ns_tup, nss_nil, nss_cons, cSeq, cRet, cIfS, cAsg, cExp, cSkip, cPar, cRetN, cVar, cK, cBin, cUn, cPrim, cCons, cNil, cCall, cIf, cTru, cNotT, cAndT, cOrT, cAndV, cOrV, cNotV, cB, cSl, cPart, cNoPart, cChain, cYes, R.bind_okk, R.at_okk, startD, bindT, bindTs, pIsi, tyD, isI, isTys, isCls, tysOf, isAny, pLen, pTup, pLst, pIx_tup, pIx_lst, pIx_dic, pEq, pIs_non, pIs_nonN, isNon_non, isNon_int, isNon_str, isNon_tup, isNon_bl, wipeD, -List.map_map, pLt, pLe, pGt, pGe, pCmpI, pSub, mkL, truthD, deref_non, deref_bl, deref_int, deref_str, deref_tup, deref_lst, deref_dic, deref_scr, deref_ty, fin_rt, fin_nx, iso_okD, cl_non, cl_bl, cl_int, cl_str, cl_ty, cl_tup, cl_lst, cl_dic, cl_ref, cls_nil, cls_cons, clk_nil, clk_cons, done_nil, sz_lit, ofS_inj, atI0, atI1, atI2, strOk_ofS, eqD_str, eqD_int, inD_s2, inD_s3, inD_s4, all_true, $ls,*])
variable {rs : List Rd'} {ix : Nat → Nat} {k : Nat} {d : D}
/-- a call that draws at most c times -/
def Mk (rs : List Rd') (k g : Nat) (args : List D) (c : Nat) (P : D → Prop) : Prop :=
  ∀ (n : Nat) (st : DSt) (rest : Sto), DOk (n + c) st → RC rest → ∃ (d : D) (st' : DSt), runF rs k g args (St st rest) = .ok d (St st' rest) ∧ P d ∧ clsD 0 d = true ∧ DOk n st'
theorem Mk.imp {g c c' : Nat} {args : List D} {P Q : D → Prop} (h : Mk rs k g args c P) (hc : c ≤ c') (f : ∀ d, P d → Q d) : Mk rs k g args c' Q := fun n st rest hd hr => by
  obtain ⟨d, st', h1, h2, h3, h4⟩ := h n st rest (hd.le (by omega)) hr
  exact ⟨d, st', h1, f d h2, h3, h4⟩
theorem draw_mk [At__law_draw rs ix] {sz : Int} (hs : 0 < sz) (hs2 : sz < 1000000) (hk : 1 ≤ k) : Mk rs k (ix 42) [.ref 1, .int sz] 1 fun d => ∃ r : Int, d = .int r ∧ 0 ≤ r ∧ r < sz := fun n st rest hd hr => by
  obtain ⟨r, st', h1, h2, h3, h4⟩ := draw_ok (rs := rs) (ix := ix) hd hr hs hs2 hk
  exact ⟨_, st', h1, ⟨r, rfl, h2, h3⟩, rfl, h4⟩
/-- a call with a reference among its arguments -/
theorem call_st {f m : Nat} {fr : EA} {call : Call} {env : Env'} {S S1 S2 : Sto} {xs : List D} (h : fr call env S = .ok xs S1) (hl : xs.length = m) (hc : clsDs 0 xs = false) (hr : call f xs S1 = .ok d S2) : cCall f m [] fr call env S = .ok d S2 := by
  simp only [cCall, h, R.bind_okk, List.append_nil, hl, if_true, hc, hr, Bool.false_eq_true, if_false, R.at_okk]
section
variable [At__law_draw rs ix] [At__law_pick rs ix]
theorem pick_mk {ds : List D} (h0 : 0 < ds.length) (h1 : ds.length < 1000) (hc : clsDs 0 ds = true) (hk : 2 ≤ k) : Mk rs k (ix 43) [.ref 1, .lst ds] 1 fun d => d ∈ ds := fun n st rest hd hr => by
  obtain ⟨k, rfl, hj⟩ := succ_of (n := 1) hk
  obtain ⟨r, st', h2, h3, h4, h5⟩ := draw_ok (rs := rs) (ix := ix) (k := k) (sz := (ds.length : Nat)) hd hr (by omega) (by omega) (by omega)
  have hi : r.toNat < ds.length := by omega
  have ha : L2.atI ds r = some ds[r.toNat] := by
    have := atI_nat (xs := ds) (i := r.toNat) hi
    rwa [Int.toNat_of_nonneg h3] at this
  refine ⟨ds[r.toNat], st', ?_, List.getElem_mem hi, clsDs_mem.mp hc _ (List.getElem_mem hi), h5⟩
  rw [run_at At__law_pick.h]
  refine fin_st ?_ rfl (clsDs_mem.mp hc _ (List.getElem_mem hi)) (St_cl hr)
  refine seq_rt ?_
  simp! [h2, ha]
end
/-! ### two boxes behind -/
section
variable {st : DSt} {rest : Sto} {a b x : O}
theorem two_get0 : (St st (rest ++ [a, b]))[rest.length + 2]? = some a := by
  simp [St]
theorem two_get1 : (St st (rest ++ [a, b]))[rest.length + 3]? = some b := by
  simp [St]
theorem two_set0 : (St st (rest ++ [a, b])).set (rest.length + 2) x = St st (rest ++ [x, b]) := by
  simp [St]
theorem two_set1 : (St st (rest ++ [a, b])).set (rest.length + 3) x = St st (rest ++ [a, x]) := by
  simp [St, List.set_append]
theorem two_take : (St st (rest ++ [a, b])).take (rest.length + 2) = St st rest := by
  simp [St]
theorem one_get : (St st (rest ++ [a]))[rest.length + 2]? = some a := by
  simp [St]
theorem one_set : (St st (rest ++ [a])).set (rest.length + 2) x = St st (rest ++ [x]) := by
  simp [St]
theorem one_take : (St st (rest ++ [a])).take (rest.length + 2) = St st rest := by
  simp [St]
theorem RC.app {l : List D} (h : RC rest) (hl : clsDs 0 l = true) : RC (rest ++ [.lst l]) := by
  unfold RC at h ⊢
  rw [List.all_append, List.length_append]
  have h1 : rest.all (clsO (rest.length + [O.lst l].length + 2)) = true := List.all_eq_true.mpr fun o ho => clsO_mono (by simp) (List.all_eq_true.mp h o ho)
  rw [h1]
  simp only [List.all_cons, List.all_nil, Bool.and_true, Bool.true_and]
  exact clsDs_mono (by omega) hl
theorem RC.two {l m : List D} (h : RC rest) (hl : clsDs 0 l = true) (hm : clsDs 0 m = true) : RC (rest ++ [.lst l, .lst m]) := by
  have := (h.app hl).app hm
  simpa using this
theorem fin_box {x : R F} {S : Sto} {n l : Nat} {ds : List D} (hx : x = .ok (.rt (.ref l)) S) (hn : n ≤ l) (hl : S[l]? = some (.lst ds)) (hc : clsDs 0 ds = true) (ht : ((S.take n).all (clsO n)) = true) : finish 0 n x = .ok (.lst ds) (S.take n) := by
  rw [hx, fin_rt]
  have h1 : frzR (kr0 n) S frzMost l = some (.lst ds) := by
    show frzR (kr0 n) S (39 + 1) l = _
    simp only [frzR, kr0, if_neg (show ¬ l < n by omega), hl, frzDs_pure _ hc, Option.map_some]
  simp only [done, done0, frzD, h1, ht, if_true]
theorem fin_cut {x : R F} {S : Sto} {n : Nat} (hx : x = .ok (.rt d) S) (hd : clsD 0 d = true) (ht : ((S.take n).all (clsO n)) = true) : finish 0 n x = .ok d (S.take n) := by
  rw [hx, fin_rt]
  simp only [done, done0, frzD_pure _ hd, ht, if_true]
end
theorem draw_nat [At__law_draw rs ix] {n : Nat} {st : DSt} {rest : Sto} {sz : Nat} (h : DOk (n + 1) st) (hr : RC rest) (hs : 0 < sz) (hs2 : sz < 1000000) (hk : 1 ≤ k) :
    ∃ (r : Nat) (st' : DSt), runF rs k (ix 42) [.ref 1, .int (sz : Nat)] (St st rest) = .ok (.int (r : Nat)) (St st' rest) ∧ r < sz ∧ DOk n st' := by
  obtain ⟨r, st', h1, h2, h3, h4⟩ := draw_ok (rs := rs) (ix := ix) (sz := (sz : Nat)) h hr (by omega) (by omega) hk
  refine ⟨r.toNat, st', ?_, by omega, h4⟩
  rw [Int.toNat_of_nonneg h2]
  exact h1
theorem perm_erase : ∀ (l : List D) (i : Nat) (h : i < l.length), (l[i] :: l.eraseIdx i).Perm l
  | [], _, h => by simp at h
  | x :: l, 0, _ => by simp
  | x :: l, i + 1, h => by
    have ih := perm_erase l i (by simpa using h)
    simp only [List.getElem_cons_succ, List.eraseIdx_cons_succ]
    exact (List.Perm.swap x _ _).trans (ih.cons x)
theorem deref_of {S : Sto} {l : Nat} {ds : List D} (h : S[l]? = some (.lst ds)) : deref S (.ref l) = .lst ds := by simp [deref, h]
theorem box_of {S : Sto} {l : Nat} {ds : List D} (h : S[l]? = some (.lst ds)) : isBoxL S (.ref l) = true := by simp [isBoxL, h]
theorem pop_at {S : Sto} {l i : Nat} {es : List D} (h : S[l]? = some (.lst es)) (hi : i < es.length) (hb : es.length ≤ 1000) : pPopAt (.ref l) [.int (i : Nat)] S = .ok es[i] (S.set l (.lst (es.eraseIdx i))) := by
  have h1 : -(2 ^ 63) ≤ ((i : Nat) : Int) ∧ ((i : Nat) : Int) < 2 ^ 63 := ⟨by omega, by omega⟩
  have h2 : seqIndex? ((i : Nat) : Int) es.length = some i := by
    have e : ¬ ((i : Nat) : Int) < 0 := by omega
    simp only [seqIndex?, if_neg e]
    rw [if_pos (by simp; omega)]
    simp
  simp only [pPopAt, h, if_pos h1, h2, List.getElem?_eq_getElem hi]
theorem app_at {S : Sto} {l : Nat} {es : List D} (h : S[l]? = some (.lst es)) (hb : es.length ≤ 1000) : pAppend (.ref l) [d] S = .ok .non (S.set l (.lst (es ++ [d]))) := by
  have : es.length < sizeLine := Nat.lt_of_le_of_lt hb (by decide)
  simp only [pAppend, h, if_pos this]
section
variable [At__law_draw rs ix] [At__law_mixed rs ix]
theorem mixed_loop {ds0 : D} {rest : Sto} (hk : 1 ≤ k) (hr : RC rest) : ∀ (m : Nat) (line found : List D) (st : DSt) (n j : Nat), line.length = m → m + found.length ≤ 1000 → clsDs 0 line = true → clsDs 0 found = true → (∀ d ∈ line, ∃ p, d.py = some p) → DOk (n + m) st →
    ∃ (found' : List D) (st' : DSt), whL (runF rs k) (cB (cBin (pEq true) (cVar 2) (cPrim (pLst false) cNil))) (r__law_mixed_b1 ix) (j + 1 + m) [some (.ref 1), some ds0, some (.ref (rest.length + 2)), some (.ref (rest.length + 3))] (St st (rest ++ [.lst line, .lst found])) = .ok (.nx [some (.ref 1), some ds0, some (.ref (rest.length + 2)), some (.ref (rest.length + 3))]) (St st' (rest ++ [.lst [], .lst found'])) ∧ found'.Perm (found ++ line) ∧ DOk n st'
  | 0, line, found, st, n, j, hl, _, h1, h2, h3, h4 => by
    have : line = [] := List.length_eq_zero_iff.mp hl
    subst this
    refine ⟨found, st, ?_, by simp, h4⟩
    have e1 := deref_of (two_get0 (st := st) (rest := rest) (a := .lst []) (b := .lst found))
    have e2 : eqD (.lst []) (.lst []) = some true := eqD_nilI (l := [])
    simp only [Nat.add_zero, whL]
    simp! [e1, e2]
  | m + 1, line, found, st, n, j, hl, hb, h1, h2, h3, h4 => by
    have e1 := deref_of (two_get0 (st := st) (rest := rest) (a := .lst line) (b := .lst found))
    have e2 := eqD_nil (pyAll_ok h3)
    have hne : line.isEmpty = false := by cases line with | nil => simp at hl | cons => rfl
    rw [hne] at e2
    have t1 : cB (cBin (pEq true) (cVar 2) (cPrim (pLst false) cNil)) (runF rs k) [some (.ref 1), some ds0, some (.ref (rest.length + 2)), some (.ref (rest.length + 3))] (St st (rest ++ [.lst line, .lst found])) = .ok true (St st (rest ++ [.lst line, .lst found])) := by
      simp! [e1, e2]
    obtain ⟨r, st1, d1, d2, d3⟩ := draw_nat (rs := rs) (ix := ix) (n := n + m) (sz := line.length) (h4.le (by omega)) (hr.two h1 h2) (by omega) (by omega) hk
    have b1 := box_of (two_get1 (st := st) (rest := rest) (a := .lst line) (b := .lst found))
    have b2 := box_of (two_get0 (st := st) (rest := rest) (a := .lst line) (b := .lst found))
    have p1 := pop_at (two_get0 (st := st1) (rest := rest) (a := .lst line) (b := .lst found)) d2 (by omega)
    rw [two_set0] at p1
    have p2 := app_at (d := line[r]) (two_get1 (st := st1) (rest := rest) (a := .lst (line.eraseIdx r)) (b := .lst found)) (by omega)
    rw [two_set1] at p2
    have body : r__law_mixed_b1 ix (runF rs k) [some (.ref 1), some ds0, some (.ref (rest.length + 2)), some (.ref (rest.length + 3))] (St st (rest ++ [.lst line, .lst found])) = .ok (.nx [some (.ref 1), some ds0, some (.ref (rest.length + 2)), some (.ref (rest.length + 3))]) (St st1 (rest ++ [.lst (line.eraseIdx r), .lst (found ++ [line[r]])])) := by
      simp! [r__law_mixed_b1, cMeth, b1, b2, e1, d1, p1, p2]
    have hm2 : ∀ x ∈ line.eraseIdx r, x ∈ line := fun x hx => List.mem_of_mem_eraseIdx hx
    obtain ⟨found', st', w1, w2, w3⟩ := mixed_loop hk hr m (line.eraseIdx r) (found ++ [line[r]]) st1 n j (by rw [List.length_eraseIdx_of_lt d2]; omega) (by simp; omega) (clsDs_mem.mpr fun x hx => clsDs_mem.mp h1 x (hm2 x hx))
      (clsDs_mem.mpr fun x hx => by
        rcases List.mem_append.mp hx with q | q
        · exact clsDs_mem.mp h2 x q
        · rw [List.mem_singleton] at q; subst q; exact clsDs_mem.mp h1 _ (List.getElem_mem _)) (fun x hx => h3 x (hm2 x hx)) d3
    refine ⟨found', st', ?_, ?_, w3⟩
    · rw [show j + 1 + (m + 1) = (j + 1 + m) + 1 by omega]
      simp only [whL, t1, R.bind_okk, if_true, body, turnF]
      exact w1
    · refine w2.trans ?_
      rw [List.append_assoc]
      exact List.Perm.append_left _ (perm_erase line r d2)
theorem mixed_mk {ds : List D} (hl : ds.length ≤ 1000) (hc : clsDs 0 ds = true) (hp : ∀ d ∈ ds, ∃ p, d.py = some p) (hk : 2 ≤ k) : Mk rs k (ix 44) [.ref 1, .lst ds] ds.length fun d => ∃ es : List D, d = .lst es ∧ es.Perm ds := fun n st rest hd hr => by
  obtain ⟨k, rfl, hj⟩ := succ_of (n := 1) hk
  obtain ⟨found', st', w1, w2, w3⟩ := mixed_loop (rs := rs) (ix := ix) (k := k) (ds0 := .lst ds) (rest := rest) hj hr ds.length ds [] st n (99999 - ds.length) rfl (by simpa using hl) hc rfl hp hd
  rw [show 99999 - ds.length + 1 + ds.length = 100000 by omega] at w1
  rw [List.nil_append] at w2
  have hcf : clsDs 0 found' = true := clsDs_mem.mpr fun x hx => clsDs_mem.mp hc x (w2.mem_iff.mp hx)
  refine ⟨.lst found', st', ?_, ⟨found', rfl, w2⟩, by rw [cl_lst]; exact hcf, w3⟩
  rw [run_at At__law_mixed.h, St_len]
  have hx : r__law_mixed ix (runF rs k) (startD 4 [.ref 1, .lst ds]) (St st rest) = .ok (.rt (.ref (rest.length + 3))) (St st' (rest ++ [.lst [], .lst found'])) := by
    refine seq_nx (env1 := [some (.ref 1), some (.lst ds), some (.ref (rest.length + 2)), some (.ref (rest.length + 3))]) (S1 := St st (rest ++ [.lst ds, .lst []])) ?_ ?_
    · simp! [pLstOf, St]
    · refine seq_nx w1 ?_
      exact seq_rt rfl
  have := fin_box hx (Nat.le_succ _) two_get1 hcf (by rw [two_take]; exact St_cl hr)
  rw [two_take] at this
  exact this
end
section
variable [At__law_draw rs ix] [At__law_pick rs ix] [At__law_constant rs ix]
theorem constant_mk (hk : 3 ≤ k) : Mk rs k (ix 45) [.ref 1] 1 fun d => cstB d = true := fun n st rest hd hr => by
  obtain ⟨k, rfl, hj⟩ := succ_of (n := 2) hk
  obtain ⟨d, st', h1, h2, h3, h4⟩ := pick_mk (rs := rs) (ix := ix) (k := k) (ds := [.int 0, .int 1, .int 2, .int 3, .str "a", .str "b", .int 0, .int 1, .str "a", .int (-1), .int 7, .str "ok", .str "none", .int 100000000, .str "abcdefgh"]) (by decide) (by decide) rfl hj n st rest hd hr
  have hall : ([D.int 0, .int 1, .int 2, .int 3, .str "a", .str "b", .int 0, .int 1, .str "a", .int (-1), .int 7, .str "ok", .str "none", .int 100000000, .str "abcdefgh"].all cstB) = true := by decide +kernel
  refine ⟨d, st', ?_, List.all_eq_true.mp hall d h2, h3, h4⟩
  rw [run_at At__law_constant.h]
  refine fin_st ?_ rfl h3 (St_cl hr)
  refine seq_rt ?_
  have hpow : ∀ S : Sto, pPow (.int 10) (.int 8) S = .ok (.int 100000000) S := fun S => by
    rw [pPow_ok ⟨by decide, by decide, by decide⟩]; rfl
  simp! [hpow, h1, pNeg]
theorem perm_map_ex {α β : Type} {f : α → β} {es m : List β} (h : es.Perm m) : ∀ {l : List α}, m = l.map f → ∃ xs : List α, xs.Perm l ∧ es = xs.map f := by
  induction h with
  | nil => intro l hl; exact ⟨[], by rw [List.map_eq_nil_iff.mp hl.symm], rfl⟩
  | cons x _ ih =>
    intro l hl
    obtain ⟨a, l', rfl, rfl, rfl⟩ := List.map_eq_cons_iff.mp hl.symm
    obtain ⟨xs, h1, h2⟩ := ih rfl
    exact ⟨a :: xs, h1.cons a, by rw [h2, List.map_cons]⟩
  | swap x y r =>
    intro l hl
    obtain ⟨a, l', rfl, h1, h2⟩ := List.map_eq_cons_iff.mp hl.symm
    obtain ⟨b, l'', rfl, h3, h4⟩ := List.map_eq_cons_iff.mp h2
    exact ⟨b :: a :: l'', List.Perm.swap a b l'', by rw [List.map_cons, List.map_cons, h1, h3, h4]⟩
  | trans _ _ ih1 ih2 =>
    intro l hl
    obtain ⟨xs, h1, h2⟩ := ih2 hl
    obtain ⟨ys, h3, h4⟩ := ih1 h2
    exact ⟨ys, h3.trans h1, h4⟩
end
theorem strs_py {xs : List Str} (h : ∀ x ∈ xs, PyData.strOk x = true) : ∀ d ∈ xs.map D.str, ∃ p, d.py = some p := fun d hd => by
  obtain ⟨x, hx, rfl⟩ := List.mem_map.mp hd
  exact ⟨.str x, by simp [D.py, h x hx]⟩
theorem strs_cl {xs : List Str} : clsDs 0 (xs.map D.str) = true := clsDs_mem.mpr fun d hd => by
  obtain ⟨x, _, rfl⟩ := List.mem_map.mp hd; rfl
/-- mixed texts -/
theorem mixed_strs [At__law_draw rs ix] [At__law_mixed rs ix] {xs : List Str} (hl : xs.length ≤ 1000) (hs : ∀ x ∈ xs, PyData.strOk x = true) (hk : 2 ≤ k) : Mk rs k (ix 44) [.ref 1, .lst (xs.map .str)] xs.length fun d => ∃ ys : List Str, d = .lst (ys.map .str) ∧ ys.Perm xs := fun n st rest hd hr => by
  obtain ⟨d, st', h1, ⟨es, h2, h3⟩, h4, h5⟩ := mixed_mk (rs := rs) (ix := ix) (ds := xs.map D.str) (by simpa using hl) strs_cl (strs_py hs) hk n st rest (by simpa using hd) hr
  obtain ⟨ys, h6, rfl⟩ := perm_map_ex h3 rfl
  exact ⟨d, st', h1, ⟨ys, h2, h6⟩, h4, h5⟩
theorem sorted_strs {ys : List Str} {S : Sto} (hl : ys.length < 64) : pSorted false [.lst (ys.map .str)] S = .ok (.lst ((sortS ys).map .str)) S := by
  have h : strsOf (ys.map D.str) = some ys := by
    have := strsOf_map id ys
    simpa using this
  simp only [pSorted, deref_lst, h, if_pos hl, mkL]
  rfl
section
variable [At__law_draw rs ix] [At__law_mixed rs ix] [At__law_labels rs ix]
theorem labels_mk {mo : Nat} (hmo : mo ≤ 2) (hk : 3 ≤ k) : Mk rs k (ix 46) [.ref 1, .int (mo : Nat)] 5 fun d => ∃ zs : List Str, d = .lst (zs.map .str) ∧ zs.length ≤ mo ∧ risB zs = true ∧ ∀ z ∈ zs, nmB z = true := fun n st rest hd hr => by
  obtain ⟨k, rfl, hj⟩ := succ_of (n := 2) hk
  obtain ⟨d, st1, h1, ⟨ys, rfl, h2⟩, h3, h4⟩ := mixed_strs (rs := rs) (ix := ix) (k := k) (xs := ["a", "b", "k", "z"]) (by decide) (by decide +kernel) hj (n + 1) st rest hd hr
  obtain ⟨r, st2, h5, h6, h7⟩ := draw_nat (rs := rs) (ix := ix) (k := k) (sz := mo + 1) h4 hr (by omega) (by omega) (by omega)
  have hsub : ∀ y ∈ ys.take r, y ∈ ([("a" : Str), "b", "k", "z"] : List Str) := fun y hy => h2.mem_iff.mp (List.mem_of_mem_take hy)
  have hnd : (ys.take r).Nodup := by
    have : ys.Nodup := h2.nodup_iff.mpr (by decide +kernel)
    exact this.sublist (List.take_sublist _ _)
  have hlen : (ys.take r).length ≤ mo := by rw [List.length_take]; omega
  generalize hz : ys.take r = zs at *
  have hperm := sortS_perm zs
  have hris : risB (sortS zs) = true := by
    have hm : ∀ y ∈ zs, y = "a" ∨ y = "b" ∨ y = "k" ∨ y = "z" := fun y hy => by simpa using hsub y hy
    match zs, hlen, hnd, hm with
    | [], _, _, _ => rfl
    | [x], _, _, _ => rfl
    | [x, y], _, hn, hm =>
      have hx := hm x (by simp)
      have hy := hm y (by simp)
      rcases hx with rfl | rfl | rfl | rfl <;> rcases hy with rfl | rfl | rfl | rfl <;> first | decide +kernel | simp at hn
    | _ :: _ :: _ :: _, hlen, _, _ => simp at hlen; omega
  refine ⟨.lst ((sortS zs).map .str), st2, ?_, ⟨sortS zs, rfl, by rw [hperm.length_eq]; exact hlen, hris, fun z hz' => ?_⟩, strs_cl, h7⟩
  · rw [run_at At__law_labels.h]
    refine fin_st ?_ rfl strs_cl (St_cl hr)
    refine seq_rt ?_
    have s1 : ∀ S : Sto, pSl false (.lst (ys.map .str)) none (some ((r : Nat) : Int)) S = .ok (.lst (zs.map .str)) S := fun S => by
      rw [pSl_to, ← List.map_take, hz]
    have s2 := sorted_strs (S := St st2 rest) (ys := zs) (by omega)
    simp only [List.map_cons, List.map_nil] at h1
    have h5' : runF rs k (ix 42) [.ref 1, .int ((mo : Int) + 1)] (St st1 rest) = .ok (.int (r : Nat)) (St st2 rest) := by
      have : (((mo + 1 : Nat)) : Int) = (mo : Int) + 1 := by omega
      rw [← this]; exact h5
    simp! [h1, h5', s1, s2, pAdd_int]
  · have := hsub z (hperm.mem_iff.mp hz')
    have hall : ([("a" : Str), "b", "k", "z"].all nmB) = true := by decide +kernel
    exact List.all_eq_true.mp hall z this
end
end Ev.Nv

set_option Elab.async false
set_option linter.all false
set_option maxRecDepth 100000
set_option maxHeartbeats 4000000
/-! Nv, part 20: drawn values. -/
namespace Ev.Nv
open PySem PySem.Spec PyProof.Rows L2
local macro_rules
  | `(tactic| simp! [$ls,*]) => `(tactic| simp [List.getElem?_cons_zero, List.getElem?_cons_succ, List.set_cons_zero, List.set_cons_succ, pl_non, pl_bl, pl_int, pl_str, pl_tup, pl_lst, pls_nil, pls_cons, ns_non, ns_int, ns_str, ns_tup, nss_nil, nss_cons, cSeq, cRet, cIfS, cAsg, cExp, cSkip, cPar, cRetN, cVar, cK, cBin, cUn, cPrim, cCons, cNil, cCall, cIf, cTru, cNotT, cAndT, cOrT, cAndV, cOrV, cNotV, cB, cSl, cPart, cNoPart, cChain, cYes, R.bind_okk, R.at_okk, startD, bindT, bindTs, pIsi, tyD, isI, isTys, isCls, tysOf, isAny, pLen, pTup, pLst, pIx_tup, pIx_lst, pIx_dic, pEq, pIs_non, pIs_nonN, isNon_non, isNon_int, isNon_str, isNon_tup, isNon_bl, wipeD, -List.map_map, pLt, pLe, pGt, pGe, pCmpI, pSub, mkL, truthD, deref_non, deref_bl, deref_int, deref_str, deref_tup, deref_lst, deref_dic, deref_scr, deref_ty, fin_rt, fin_nx, iso_okD, cl_non, cl_bl, cl_int, cl_str, cl_ty, cl_tup, cl_lst, cl_dic, cl_ref, cls_nil, cls_cons, clk_nil, clk_cons, done_nil, sz_lit, ofS_inj, atI0, atI1, atI2, strOk_ofS, eqD_str, eqD_int, inD_s2, inD_s3, inD_s4, all_true, $ls,*])
variable {rs : List Rd'} {ix : Nat → Nat} {k : Nat} {d : D}
inductive All2 {α β : Type} (P : α → β → Prop) : List α → List β → Prop
  | nil : All2 P [] []
  | cons {a : α} {b : β} {as : List α} {bs : List β} : P a b → All2 P as bs → All2 P (a :: as) (b :: bs)
/-- a comprehension with draws over texts -/
theorem lcL_mk {call : Call} {tg : Tg} {fe : EE} {env : Env'} {rest : Sto} {c : Nat} {P : Str → D → Prop} : ∀ (zs : List Str) (acc : List D) (n : Nat) (st : DSt), DOk (n + zs.length * c) st →
    (∀ z ∈ zs, ∀ n st, DOk (n + c) st → ∃ env1 v st', bindT tg (.str z) env = some env1 ∧ fe call env1 (St st rest) = .ok v (St st' rest) ∧ P z v ∧ DOk n st') →
    ∃ ds st', All2 P zs ds ∧ lcL call tg cYes fe env (zs.map .str) acc (St st rest) = .ok (acc ++ ds) (St st' rest) ∧ DOk n st'
  | [], acc, n, st, h, _ => ⟨[], st, .nil, by simp [lcL], by simpa using h⟩
  | z :: zs, acc, n, st, h, hf => by
    obtain ⟨env1, v, st1, h1, h2, h3, h4⟩ := hf z (by simp) (n + zs.length * c) st (h.le (by simp [Nat.add_mul]; omega))
    obtain ⟨ds, st', i1, i2, i3⟩ := lcL_mk zs (acc ++ [v]) n st1 h4 fun x hx => hf x (by simp [hx])
    refine ⟨v :: ds, st', .cons h3 i1, ?_, i3⟩
    have hy : cYes call env1 (St st rest) = .ok true (St st rest) := rfl
    simp only [List.map_cons, lcL, h1, hy, R.bind_okk, if_true, h2, i2, List.append_assoc, List.singleton_append]
theorem All2.fields {m : Nat} : ∀ {zs : List Str} {ds : List D}, All2 (fun z d => ∃ v, d = fieldD (z, v) ∧ VP m v) zs ds → ∃ fs : List (Str × D), ds = fs.map fieldD ∧ fs.map (·.1) = zs ∧ ∀ f ∈ fs, VP m f.2
  | _, _, .nil => ⟨[], rfl, rfl, by simp⟩
  | _, _, .cons (a := z) ⟨v, h1, h2⟩ r => by
    obtain ⟨fs, h3, h4, h5⟩ := All2.fields r
    refine ⟨(z, v) :: fs, by rw [h1, h3]; rfl, by rw [List.map_cons, h4], fun f hf => ?_⟩
    rcases List.mem_cons.mp hf with rfl | hf
    · exact h2
    · exact h5 f hf
def cV : Nat → Nat
  | 0 => 10
  | n + 1 => 4 * cV n + 20
theorem cV_ge : ∀ n, 10 ≤ cV n
  | 0 => Nat.le_refl _
  | n + 1 => by have := cV_ge n; simp only [cV]; omega
section
variable [At__law_draw rs ix] [At__law_pick rs ix] [At__law_mixed rs ix] [At__law_constant rs ix] [At__law_labels rs ix] [At__law_value rs ix]
/-- one turn of the graph's loop -/
theorem graph_turn {m c : Nat} {z : Int} {way u w : D} {uo wo : Option D} {rest : Sto} {ps : List (D × D)} {n : Nat} {st : DSt} (hm : 3 * m + 2 ≤ 180) (hk : 1 ≤ k) (hv : ∀ rest, RC rest → ∀ n st, DOk (n + c) st → ∃ v st', runF rs k (ix 47) [.ref 1, .int (z - 1)] (St st rest) = .ok v (St st' rest) ∧ VP m v ∧ DOk n st')
    (hr : RC rest) (hd : DOk (n + (2 * c + 1)) st) (hp : ∀ p ∈ ps, VP m p.1 ∧ (p.2 = .non ∨ VP m p.2)) (hnd : ps.Nodup) (hl : ps.length ≤ 100) :
    ∃ (ps' : List (D × D)) (st' : DSt) (wo' : Option D), r__law_value_b1 ix (runF rs k) [some (.ref 1), some (.int z), some way, some (.ref (rest.length + 2)), uo, wo, none] (St st (rest ++ [.lst (ps.map pairD)])) =
      .ok (.nx [some (.ref 1), some (.int z), some way, some (.ref (rest.length + 2)), uo, wo', none]) (St st' (rest ++ [.lst (ps'.map pairD)])) ∧ (∀ p ∈ ps', VP m p.1 ∧ (p.2 = .non ∨ VP m p.2)) ∧ ps'.Nodup ∧ ps'.length ≤ ps.length + 1 ∧ DOk n st' := by
  have hpc : clsDs 0 (ps.map pairD) = true := pairD_cl hp
  have hr1 := hr.app hpc
  obtain ⟨x, st1, x1, x2, x3⟩ := hv _ hr1 (n + c + 1) st (hd.le (by omega))
  obtain ⟨r, st2, d1, d2, d3⟩ := draw_nat (rs := rs) (ix := ix) (k := k) (sz := 4) (n := n + c) x3 hr1 (by decide) (by decide) hk
  have hy : ∃ y st3, (cIf (cB (cBin (pEq false) (cCall (ix 42) 2 [] (cCons (cVar 0) (cCons (cK (.int 4)) cNil))) (cK (.int 0)))) (cK (.non)) (cCall (ix 47) 2 [] (cCons (cVar 0) (cCons (cBin pSub (cVar 1) (cK (.int 1))) cNil)))) (runF rs k) [some (.ref 1), some (.int z), some way, some (.ref (rest.length + 2)), uo, wo, none] (St st1 (rest ++ [.lst (ps.map pairD)])) = .ok y (St st3 (rest ++ [.lst (ps.map pairD)])) ∧ (y = .non ∨ VP m y) ∧ DOk n st3 := by
    have d1' : runF rs k (ix 42) [.ref 1, .int 4] (St st1 (rest ++ [.lst (ps.map pairD)])) = .ok (.int (r : Nat)) (St st2 (rest ++ [.lst (ps.map pairD)])) := d1
    by_cases h0 : r = 0
    · subst h0
      exact ⟨.non, st2, by simp! [d1'], .inl rfl, d3.le (by omega)⟩
    · obtain ⟨y, st3, y1, y2, y3⟩ := hv _ hr1 n st2 d3
      have h0' : ¬ ((r : Nat) : Int) = 0 := by omega
      exact ⟨y, st3, by simp! [d1', h0', h0, y1], .inr y2, y3⟩
  obtain ⟨y, st3, y1, y2, y3⟩ := hy
  have hpy : VP m (x, y).1 ∧ ((x, y).2 = .non ∨ VP m (x, y).2) := ⟨x2, y2⟩
  have a1 : cPrim pTup (cCons (cCall (ix 47) 2 [] (cCons (cVar 0) (cCons (cBin pSub (cVar 1) (cK (.int 1))) cNil))) (cCons (cIf (cB (cBin (pEq false) (cCall (ix 42) 2 [] (cCons (cVar 0) (cCons (cK (.int 4)) cNil))) (cK (.int 0)))) (cK (.non)) (cCall (ix 47) 2 [] (cCons (cVar 0) (cCons (cBin pSub (cVar 1) (cK (.int 1))) cNil)))) cNil)) (runF rs k) [some (.ref 1), some (.int z), some way, some (.ref (rest.length + 2)), uo, wo, none] (St st (rest ++ [.lst (ps.map pairD)])) = .ok (pairD (x, y)) (St st3 (rest ++ [.lst (ps.map pairD)])) := by
    have c1 : cCall (ix 47) 2 [] (cCons (cVar 0) (cCons (cBin pSub (cVar 1) (cK (.int 1))) cNil)) (runF rs k) [some (.ref 1), some (.int z), some way, some (.ref (rest.length + 2)), uo, wo, none] (St st (rest ++ [.lst (ps.map pairD)])) = .ok x (St st1 (rest ++ [.lst (ps.map pairD)])) := by
      simp! [x1]
    have hz : ([x, y] : List D).length ≤ sizeLine := Nat.le_trans (m := 2) (by simp) (by decide)
    simp only [cPrim, cCons, c1, R.bind_okk, y1, cNil, pTup, if_pos hz, pairD]
  have e1 := deref_of (one_get (st := st3) (rest := rest) (a := .lst (ps.map pairD)))
  have h1 : nsDs (ps.map pairD) = true := nsDs_mem.mpr fun d hd => by
    obtain ⟨p, hp', rfl⟩ := List.mem_map.mp hd
    exact pairD_ns (hp p hp')
  have hin0 := inD_lst h1 (pairD_ns hpy) (Nat.le_trans (Nat.min_le_right _ _) (Nat.le_trans (pairD_dep hpy) (by omega)))
  by_cases hmem : pairD (x, y) ∈ ps.map pairD
  · refine ⟨ps, st3, some (pairD (x, y)), ?_, hp, hnd, by omega, y3⟩
    refine seq_asg a1 rfl ?_
    have hin : inD (pairD (x, y)) (.lst (ps.map pairD)) = some true := by rw [hin0]; simp only [hmem, decide_true]
    refine seq_if_f (S1 := St st3 (rest ++ [.lst (ps.map pairD)])) ?_ rfl
    simp only [pairD] at hin
    simp! [pIn, e1, hin, pairD]
  · refine ⟨ps ++ [(x, y)], st3, some (pairD (x, y)), ?_, fun p hp' => ?_, ?_, by simp, y3⟩
    · refine seq_asg a1 rfl ?_
      have hin : inD (pairD (x, y)) (.lst (ps.map pairD)) = some false := by rw [hin0]; simp only [hmem, decide_false]
      have b1 := box_of (one_get (st := st3) (rest := rest) (a := .lst (ps.map pairD)))
      have p2 := app_at (d := pairD (x, y)) (one_get (st := st3) (rest := rest) (a := .lst (ps.map pairD))) (by simp; omega)
      rw [one_set] at p2
      refine seq_if_tn (S1 := St st3 (rest ++ [.lst (ps.map pairD)])) (env1 := [some (.ref 1), some (.int z), some way, some (.ref (rest.length + 2)), uo, some (pairD (x, y)), none]) (S2 := St st3 (rest ++ [.lst ((ps ++ [(x, y)]).map pairD)])) ?_ ?_ rfl
      · simp only [pairD] at hin
        simp! [pIn, e1, hin, pairD]
      · simp only [List.map_append, List.map_cons, List.map_nil]
        simp only [pairD] at p2
        simp! [cMeth, b1, p2, pairD]
    · rcases List.mem_append.mp hp' with q | q
      · exact hp p q
      · rw [List.mem_singleton] at q; subst q; exact hpy
    · refine List.nodup_append.mpr ⟨hnd, by simp, fun a ha b hb => ?_⟩
      rw [List.mem_singleton] at hb
      subst hb
      rintro rfl
      exact hmem (List.mem_map.mpr ⟨_, ha, rfl⟩)
end
end Ev.Nv

set_option Elab.async false
set_option linter.all false
set_option maxRecDepth 100000
set_option maxHeartbeats 4000000
/-! Nv, part 21: drawn values, at any depth. -/
namespace Ev.Nv
open PySem PySem.Spec PyProof.Rows L2
local macro_rules
  | `(tactic| simp! [$ls,*]) => `(tactic| simp [List.getElem?_cons_zero, List.getElem?_cons_succ, List.set_cons_zero, List.set_cons_succ, pl_non, pl_bl, pl_int, pl_str, pl_tup, pl_lst, pls_nil, pls_cons, ns_non, ns_int, ns_str, ns_tup, nss_nil, nss_cons, cSeq, cRet, cIfS, cAsg, cExp, cSkip, cPar, cRetN, cVar, cK, cBin, cUn, cPrim, cCons, cNil, cCall, cIf, cTru, cNotT, cAndT, cOrT, cAndV, cOrV, cNotV, cB, cSl, cPart, cNoPart, cChain, cYes, R.bind_okk, R.at_okk, startD, bindT, bindTs, pIsi, tyD, isI, isTys, isCls, tysOf, isAny, pLen, pTup, pLst, pIx_tup, pIx_lst, pIx_dic, pEq, pIs_non, pIs_nonN, isNon_non, isNon_int, isNon_str, isNon_tup, isNon_bl, wipeD, -List.map_map, pLt, pLe, pGt, pGe, pCmpI, pSub, mkL, truthD, deref_non, deref_bl, deref_int, deref_str, deref_tup, deref_lst, deref_dic, deref_scr, deref_ty, fin_rt, fin_nx, iso_okD, cl_non, cl_bl, cl_int, cl_str, cl_ty, cl_tup, cl_lst, cl_dic, cl_ref, cls_nil, cls_cons, clk_nil, clk_cons, done_nil, sz_lit, ofS_inj, atI0, atI1, atI2, strOk_ofS, eqD_str, eqD_int, inD_s2, inD_s3, inD_s4, all_true, $ls,*])
variable {rs : List Rd'} {ix : Nat → Nat} {k : Nat} {d : D}
section
variable [At__law_draw rs ix] [At__law_pick rs ix] [At__law_mixed rs ix] [At__law_constant rs ix] [At__law_labels rs ix] [At__law_value rs ix]
theorem graph_loop {m c : Nat} {z : Int} {way : D} {rest : Sto} (hm : 3 * m + 2 ≤ 180) (hk : 1 ≤ k) (hv : ∀ rest, RC rest → ∀ n st, DOk (n + c) st → ∃ v st', runF rs k (ix 47) [.ref 1, .int (z - 1)] (St st rest) = .ok v (St st' rest) ∧ VP m v ∧ DOk n st')
    (hr : RC rest) : ∀ (items : List D) (ps : List (D × D)) (uo wo : Option D) (n : Nat) (st : DSt), DOk (n + items.length * (2 * c + 1)) st → (∀ p ∈ ps, VP m p.1 ∧ (p.2 = .non ∨ VP m p.2)) → ps.Nodup → ps.length + items.length ≤ 2 →
    ∃ (ps' : List (D × D)) (st' : DSt) (env' : Env'), forL (runF rs k) (.nm 4) (r__law_value_b1 ix) items [some (.ref 1), some (.int z), some way, some (.ref (rest.length + 2)), uo, wo, none] (St st (rest ++ [.lst (ps.map pairD)])) =
      .ok (.nx env') (St st' (rest ++ [.lst (ps'.map pairD)])) ∧ env'[3]? = some (some (.ref (rest.length + 2))) ∧ (∀ p ∈ ps', VP m p.1 ∧ (p.2 = .non ∨ VP m p.2)) ∧ ps'.Nodup ∧ ps'.length ≤ 2 ∧ DOk n st'
  | [], ps, uo, wo, n, st, hd, hp, hnd, hl => ⟨ps, st, _, rfl, rfl, hp, hnd, by simpa using hl, by simpa using hd⟩
  | x :: xs, ps, uo, wo, n, st, hd, hp, hnd, hl => by
    simp only [List.length_cons] at hl
    obtain ⟨ps1, st1, wo1, t1, t2, t3, t4, t5⟩ := graph_turn (rs := rs) (ix := ix) (k := k) (way := way) (uo := some x) (wo := wo) (u := .non) (w := .non) (z := z) (rest := rest) (ps := ps) (n := n + xs.length * (2 * c + 1)) (st := st) hm hk hv hr (hd.le (by simp [Nat.add_mul]; omega)) hp hnd (by omega)
    obtain ⟨ps2, st2, env2, i1, i2, i3, i4, i5, i6⟩ := graph_loop hm hk hv hr xs ps1 (some x) wo1 n st1 t5 t2 t3 (by omega)
    refine ⟨ps2, st2, env2, ?_, i2, i3, i4, i5, i6⟩
    simp only [forL, bindT, List.set_cons_succ, List.set_cons_zero, t1, turnF, R.bind_okk]
    exact i1
theorem value_mk : ∀ (n : Nat) {k : Nat} {z : Int}, n ≤ 20 → z = (n : Nat) + 1 → n + 4 ≤ k → Mk rs k (ix 47) [.ref 1, .int z] (cV n) (VP (n + 1))
  | 0, k, z, _, hz, hk => fun n st rest hd hr => by
    obtain ⟨k, rfl, hj⟩ := succ_of (n := 3) hk
    obtain ⟨r, st1, d1, d2, d3⟩ := draw_nat (rs := rs) (ix := ix) (k := k) (sz := 8) (n := n + 9) (hd.le (by simp [cV])) hr (by decide) (by decide) (by omega)
    have d1' : runF rs k (ix 42) [.ref 1, .int 8] (St st rest) = .ok (.int (r : Nat)) (St st1 rest) := d1
    obtain ⟨v, st2, c1, c2, c3, c4⟩ := constant_mk (rs := rs) (ix := ix) (k := k) (by omega) (n + 8) st1 rest d3 hr
    have hz2 : z < 2 := by omega
    refine ⟨v, st2, ?_, .inl c2, c3, c4.le (by omega)⟩
    rw [run_at At__law_value.h]
    refine fin_st ?_ rfl c3 (St_cl hr)
    refine seq_asg (d := .int (r : Nat)) (S1 := St st1 rest) (by simp! [d1']) rfl ?_
    refine seq_if_t (S1 := St st1 rest) (by simp! [hz2]) ?_
    exact seq_rt (by simp! [c1])
  | m + 1, k, z, h20, hz, hk => fun n st rest hd hr => by
    obtain ⟨k, rfl, hj⟩ := succ_of (n := m + 4) (by omega)
    have hge := cV_ge m
    have hd0 : DOk (n + (4 * cV m + 20)) st := hd
    obtain ⟨r, st1, d1, d2, d3⟩ := draw_nat (rs := rs) (ix := ix) (k := k) (sz := 8) (n := n + 4 * cV m + 19) (hd0.le (by omega)) hr (by decide) (by decide) (by omega)
    have d1' : runF rs k (ix 42) [.ref 1, .int 8] (St st rest) = .ok (.int (r : Nat)) (St st1 rest) := d1
    have hz2 : ¬ z < 2 := by omega
    have ih : ∀ rest, RC rest → ∀ n st, DOk (n + cV m) st → ∃ v st', runF rs k (ix 47) [.ref 1, .int (z - 1)] (St st rest) = .ok v (St st' rest) ∧ VP (m + 1) v ∧ DOk n st' := fun rest hr n st h => by
      obtain ⟨v, st', h1, h2, _, h3⟩ := value_mk m (k := k) (z := z - 1) (by omega) (by omega) hj n st rest h hr
      exact ⟨v, st', h1, h2, h3⟩
    by_cases hr3 : (r : Int) < 3
    · obtain ⟨v, st2, c1, c2, c3, c4⟩ := constant_mk (rs := rs) (ix := ix) (k := k) (by omega) (n + 4 * cV m + 18) st1 rest d3 hr
      refine ⟨v, st2, ?_, .inl c2, c3, c4.le (by omega)⟩
      rw [run_at At__law_value.h]
      refine fin_st ?_ rfl c3 (St_cl hr)
      refine seq_asg (d := .int (r : Nat)) (S1 := St st1 rest) (by simp! [d1']) rfl ?_
      refine seq_if_t (S1 := St st1 rest) (by simp! [hz2, hr3]) ?_
      exact seq_rt (by simp! [c1])
    by_cases hr5 : (r : Int) < 5
    · obtain ⟨x, st2, x1, x2, x3⟩ := ih rest hr (n + 3 * cV m) st1 (d3.le (by omega))
      obtain ⟨y, st3, y1, y2, y3⟩ := ih rest hr n st2 (x3.le (by omega))
      have hc : clsD 0 (.tup [.str "pair", x, y]) = true := by simp [cl_tup, cls_cons, cl_str, cls_nil, x2.cl, y2.cl]
      refine ⟨.tup [.str "pair", x, y], st3, ?_, .inr (.inl ⟨x, y, rfl, x2, y2⟩), hc, y3⟩
      rw [run_at At__law_value.h]
      refine fin_st ?_ rfl hc (St_cl hr)
      refine seq_asg (d := .int (r : Nat)) (S1 := St st1 rest) (by simp! [d1']) rfl ?_
      refine seq_if_f (S1 := St st1 rest) (by simp! [hz2, hr3]) ?_
      refine seq_if_t (S1 := St st1 rest) (by simp! [hr5]) ?_
      exact seq_rt (by simp! [x1, y1])
    by_cases hr6 : (r : Int) = 5
    · obtain ⟨ld, st2, l1, ⟨zs, rfl, l2, l3, l4⟩, l5, l6⟩ := labels_mk (rs := rs) (ix := ix) (k := k) (mo := 2) (by omega) (by omega) (n + 4 * cV m) st1 rest (d3.le (by omega)) hr
      have l1' : runF rs k (ix 46) [.ref 1, .int 2] (St st1 rest) = .ok (.lst (zs.map .str)) (St st2 rest) := l1
      have hzc : zs.length * cV m ≤ 2 * cV m := Nat.mul_le_mul_right _ l2
      obtain ⟨ds, st3, a1, a2, a3⟩ := lcL_mk (call := runF rs k) (tg := .nm 6) (fe := cPrim pTup (cCons (cVar 6) (cCons (cCall (ix 47) 2 [] (cCons (cVar 0) (cCons (cBin pSub (cVar 1) (cK (.int 1))) cNil))) cNil))) (env := [some (.ref 1), some (.int z), some (.int (r : Nat)), none, none, none, none]) (rest := rest) (c := cV m) (P := fun z d => ∃ v, d = fieldD (z, v) ∧ VP (m + 1) v) zs [] n st2 (l6.le (by omega)) fun zz hzz n st h => by
          obtain ⟨v, st', v1, v2, v3⟩ := ih rest hr n st h
          exact ⟨_, fieldD (zz, v), st', rfl, by simp! [v1, fieldD], ⟨v, rfl, v2⟩, v3⟩
      obtain ⟨fs, rfl, f2, f3⟩ := a1.fields
      have hfl : fs.length ≤ 2 := by rw [← f2] at l2; simpa using l2
      have hvp : VP (m + 1 + 1) (.tup [.str "record", .tup (fs.map fieldD)]) := .inr (.inr (.inl ⟨fs, rfl, hfl, by rw [f2]; exact l3, fun f hf => ⟨l4 f.1 (by rw [← f2]; exact List.mem_map.mpr ⟨f, hf, rfl⟩), f3 f hf⟩⟩))
      refine ⟨_, st3, ?_, hvp, hvp.cl, a3⟩
      rw [run_at At__law_value.h]
      refine fin_st ?_ rfl hvp.cl (St_cl hr)
      refine seq_asg (d := .int (r : Nat)) (S1 := St st1 rest) (by simp! [d1']) rfl ?_
      refine seq_if_f (S1 := St st1 rest) (by simp! [hz2, hr3]) ?_
      refine seq_if_f (S1 := St st1 rest) (by simp! [hr5]) ?_
      refine seq_if_t (S1 := St st1 rest) (by simp! [hr6]) ?_
      have c1 : r__law_value_c1 ix (runF rs k) [some (.ref 1), some (.int z), some (.int (r : Nat)), none, none, none, none] (St st1 rest) = .ok (.lst (fs.map fieldD)) (St st3 rest) := by
        have s1 : cSrc (cCall (ix 46) 2 [] (cCons (cVar 0) (cCons (cK (.int 2)) cNil))) (runF rs k) [some (.ref 1), some (.int z), some (.int (r : Nat)), none, none, none, none] (St st1 rest) = .ok (.frz (zs.map .str)) (St st2 rest) := by
          simp! [cSrc, l1', srcOf]
        unfold r__law_value_c1 cLc
        rw [s1, R.bind_okk]
        show (noExc (lcL _ _ _ _ _ _ _ _)).bind _ = _
        have hw : wipeD [some (.ref 1), some (.int z), some (.int (r : Nat)), none, none, none, none] [6] = [some (.ref 1), some (.int z), some (.int (r : Nat)), none, none, none, none] := rfl
        rw [hw, a2]
        rfl
      refine seq_rt ?_
      have env0 : List.set (startD 7 [.ref 1, .int z]) 2 (some (.int (r : Nat))) = [some (.ref 1), some (.int z), some (.int (r : Nat)), none, none, none, none] := rfl
      rw [env0]
      simp! [c1, pTupOf]
    · -- a graph
      obtain ⟨q, st2, q1, q2, q3⟩ := draw_nat (rs := rs) (ix := ix) (k := k) (sz := 3) (n := n + 4 * cV m + 18) (rest := rest ++ [.lst []]) d3 (hr.app rfl) (by decide) (by decide) (by omega)
      have q1' : runF rs k (ix 42) [.ref 1, .int 3] (St st1 (rest ++ [.lst []])) = .ok (.int (q : Nat)) (St st2 (rest ++ [.lst []])) := q1
      have hql : (rangeD 0 q).length = q := by simp [rangeD]
      have hqc : q * (2 * cV m + 1) ≤ 2 * (2 * cV m + 1) := Nat.mul_le_mul_right _ (by omega)
      obtain ⟨ps, st3, env', g1, g2, g3, g4, g5, g6⟩ := graph_loop (rs := rs) (ix := ix) (k := k) (m := m + 1) (c := cV m) (z := z) (way := .int (r : Nat)) (rest := rest) (by omega) (by omega) ih hr (rangeD 0 q) [] none none n st2 (by rw [hql]; exact q3.le (by omega)) (by simp) (by simp) (by rw [hql]; simp; omega)
      have hvp : VP (m + 1 + 1) (.tup [.str "graph", .tup (ps.map pairD)]) := .inr (.inr (.inr ⟨ps, rfl, g5, g4, g3⟩))
      refine ⟨_, st3, ?_, hvp, hvp.cl, g6⟩
      rw [run_at At__law_value.h, St_len]
      have hx : r__law_value ix (runF rs k) (startD 7 [.ref 1, .int z]) (St st rest) = .ok (.rt (.tup [.str "graph", .tup (ps.map pairD)])) (St st3 (rest ++ [.lst (ps.map pairD)])) := by
        refine seq_asg (d := .int (r : Nat)) (S1 := St st1 rest) (by simp! [d1']) rfl ?_
        refine seq_if_f (S1 := St st1 rest) (by simp! [hz2, hr3]) ?_
        refine seq_if_f (S1 := St st1 rest) (by simp! [hr5]) ?_
        refine seq_if_f (S1 := St st1 rest) (by simp! [hr6]) ?_
        refine seq_asg (d := .ref (rest.length + 2)) (S1 := St st1 (rest ++ [.lst []])) (env1 := [some (.ref 1), some (.int z), some (.int (r : Nat)), some (.ref (rest.length + 2)), none, none, none]) (by simp! [St]) rfl ?_
        refine seq_nx (env1 := env') (S1 := St st3 (rest ++ [.lst (ps.map pairD)])) ?_ ?_
        · have hr1 := range1_ok (fr := cCons (cCall (ix 42) 2 [] (cCons (cVar 0) (cCons (cK (.int 3)) cNil))) cNil) (call := runF rs k) (env := [some (.ref 1), some (.int z), some (.int (r : Nat)), some (.ref (rest.length + 2)), none, none, none]) (S := St st1 (rest ++ [.lst []])) (S1 := St st2 (rest ++ [.lst []])) (n := q) (by simp! [q1']) (by omega)
          unfold cFor
          rw [hr1, R.bind_okk]
          exact g1
        · refine seq_rt ?_
          have e1 := deref_of (one_get (st := st3) (rest := rest) (a := .lst (ps.map pairD)))
          simp! [g2, pTupOf, e1]
      have := fin_cut hx hvp.cl (by rw [one_take]; exact St_cl hr)
      rw [one_take] at this
      exact this
end
end Ev.Nv

set_option Elab.async false
set_option linter.all false
set_option maxRecDepth 100000
set_option maxHeartbeats 8000000
/-! Nv, part 22: drawn types. -/
namespace Ev.Nv
open PySem PySem.Spec PyProof.Rows L2
local macro_rules
  | `(tactic| simp! [$ls,*]) => `(tactic| simp [List.getElem?_cons_zero, List.getElem?_cons_succ, List.set_cons_zero, List.set_cons_succ, pl_non, pl_bl, pl_int, pl_str, pl_tup, pl_lst, pls_nil, pls_cons, ns_non, ns_int, ns_str, ns_tup, nss_nil, nss_cons, cSeq, cRet, cIfS, cAsg, cExp, cSkip, cPar, cRetN, cVar, cK, cBin, cUn, cPrim, cCons, cNil, cCall, cIf, cTru, cNotT, cAndT, cOrT, cAndV, cOrV, cNotV, cB, cSl, cPart, cNoPart, cChain, cYes, R.bind_okk, R.at_okk, startD, bindT, bindTs, pIsi, tyD, isI, isTys, isCls, tysOf, isAny, pLen, pTup, pLst, pIx_tup, pIx_lst, pIx_dic, pEq, pIs_non, pIs_nonN, isNon_non, isNon_int, isNon_str, isNon_tup, isNon_bl, wipeD, -List.map_map, pLt, pLe, pGt, pGe, pCmpI, pSub, mkL, truthD, deref_non, deref_bl, deref_int, deref_str, deref_tup, deref_lst, deref_dic, deref_scr, deref_ty, fin_rt, fin_nx, iso_okD, cl_non, cl_bl, cl_int, cl_str, cl_ty, cl_tup, cl_lst, cl_dic, cl_ref, cls_nil, cls_cons, clk_nil, clk_cons, done_nil, sz_lit, ofS_inj, atI0, atI1, atI2, strOk_ofS, eqD_str, eqD_int, inD_s2, inD_s3, inD_s4, all_true, $ls,*])
variable {rs : List Rd'} {ix : Nat → Nat} {k : Nat} {d : D} {nm : List Str}
theorem All2.tfields {m : Nat} : ∀ {zs : List Str} {ds : List D}, All2 (fun z d => ∃ t b, d = tfD (z, t, b) ∧ TP nm m t) zs ds → ∃ fs : List (Str × D × Bool), ds = fs.map tfD ∧ fs.map (·.1) = zs ∧ ∀ f ∈ fs, TP nm m f.2.1
  | _, _, .nil => ⟨[], rfl, rfl, by simp⟩
  | _, _, .cons (a := z) ⟨t, b, h1, h2⟩ r => by
    obtain ⟨fs, h3, h4, h5⟩ := All2.tfields r
    refine ⟨(z, t, b) :: fs, by rw [h1, h3]; rfl, by rw [List.map_cons, h4], fun f hf => ?_⟩
    rcases List.mem_cons.mp hf with rfl | hf
    · exact h2
    · exact h5 f hf
def cT : Nat → Nat
  | 0 => 20
  | n + 1 => 4 * cT n + 40
theorem cT_ge : ∀ n, 20 ≤ cT n
  | 0 => Nat.le_refl _
  | n + 1 => by have := cT_ge n; simp only [cT]; omega
def leaves7 (low q : Int) : List D := [.tup [.str "any"], .tup [.str "none"], .tup [.str "names"], .tup [.str "from", .non, .non], .tup [.str "from", .int low, .int (low + q)], .tup [.str "from", .int low, .non], .tup [.str "from", .non, .int low]]
theorem leaf10 {low q : Int} {c1 c2 c3 d : D} (hq : 0 ≤ q) (h1 : cstB c1 = true) (h2 : cstB c2 = true) (h3 : cstB c3 = true) (h : d ∈ leaves7 low q ++ [.tup [.str "is", c1], .tup [.str "is", c2], .tup [.str "is", c3]]) : LeafP nm d := by
  simp only [leaves7, List.cons_append, List.nil_append, List.mem_cons, List.not_mem_nil, or_false] at h
  have hb : bndB (.int low) (.int (low + q)) = true := by simp [bndB]; omega
  rcases h with rfl | rfl | rfl | rfl | rfl | rfl | rfl | rfl | rfl | rfl
  · exact .inl ⟨"any", .inl rfl, rfl⟩
  · exact .inl ⟨"none", .inr (.inl rfl), rfl⟩
  · exact .inl ⟨"names", .inr (.inr rfl), rfl⟩
  · exact .inr (.inr (.inl ⟨_, _, rfl, rfl⟩))
  · exact .inr (.inr (.inl ⟨_, _, hb, rfl⟩))
  · exact .inr (.inr (.inl ⟨_, _, rfl, rfl⟩))
  · exact .inr (.inr (.inl ⟨_, _, rfl, rfl⟩))
  · exact .inr (.inl ⟨_, h1, rfl⟩)
  · exact .inr (.inl ⟨_, h2, rfl⟩)
  · exact .inr (.inl ⟨_, h3, rfl⟩)
section
variable [At__law_draw rs ix] [At__law_pick rs ix] [At__law_mixed rs ix] [At__law_constant rs ix] [At__law_labels rs ix] [At__law_atom rs ix] [At__law_type rs ix]
theorem names_nil {nms : List Str} (h : ∀ x ∈ nms, nmB x = true) : eqD (.lst (nms.map .str)) (.lst []) = some nms.isEmpty := by
  rw [eqD_nil (pyAll_ok (strs_py fun x hx => (nm_ok (h x hx)).1))]
  cases nms <;> rfl
/-- the atom's leaves -/
theorem atom_leaf {nms : List Str} {z : Int} {n : Nat} {st st1 : DSt} {rest : Sto} {r : Nat} (hk : 4 ≤ k) (hnms : ∀ x ∈ nms, x ∈ nm ∧ nmB x = true) (hl : nms.length ≤ 3) (hr : RC rest) (d3 : DOk (n + 8) st1)
    (d1 : runF rs k (ix 42) [.ref 1, .int 10] (St st rest) = .ok (.int (r : Nat)) (St st1 rest)) (hcase : (nms ≠ [] ∧ r = 0) ∨ (z < 2 ∨ (r : Int) < 4)) :
    ∃ (t : D) (st' : DSt), r__law_atom ix (runF rs k) [some (.ref 1), some (.lst (nms.map .str)), some (.int z), none, none, none, none, none] (St st rest) = .ok (.rt t) (St st' rest) ∧ LeafP nm t ∧ DOk n st' := by
  have e1 := names_nil fun x hx => (hnms x hx).2
  have r0 : ((r : Nat) : Int) = 0 ↔ r = 0 := by omega
  by_cases hA : nms ≠ [] ∧ r = 0
  · obtain ⟨p, st2, p1, p2, p3, p4⟩ := pick_mk (rs := rs) (ix := ix) (k := k) (ds := nms.map D.str) (by have := List.length_pos_iff.mpr hA.1; simpa using this) (by simp; omega) strs_cl (by omega) (n + 7) st1 rest d3 hr
    obtain ⟨x, hx, rfl⟩ := List.mem_map.mp p2
    have hne : nms.isEmpty = false := by cases nms with | nil => exact absurd rfl hA.1 | cons => rfl
    rw [hne] at e1
    refine ⟨.tup [.str "the", .str x], st2, ?_, .inr (.inr (.inr ⟨x, (hnms x hx).1, (hnms x hx).2, rfl⟩)), p4.le (by omega)⟩
    refine seq_asg (d := .int (r : Nat)) (S1 := St st1 rest) (by simp! [d1]) rfl ?_
    refine seq_if_t (S1 := St st1 rest) (by simp! [e1, hA.2]) ?_
    exact seq_rt (by simp! [p1])
  · have hB : z < 2 ∨ (r : Int) < 4 := by
      rcases hcase with h | h
      · exact absurd h hA
      · exact h
    obtain ⟨l, st2, l1, l2, l3⟩ := draw_nat (rs := rs) (ix := ix) (k := k) (sz := 5) (n := n + 7) d3 hr (by decide) (by decide) (by omega)
    have l1' : runF rs k (ix 42) [.ref 1, .int 5] (St st1 rest) = .ok (.int (l : Nat)) (St st2 rest) := l1
    obtain ⟨q, st3, q1, q2, q3⟩ := draw_nat (rs := rs) (ix := ix) (k := k) (sz := 4) (n := n + 6) l3 hr (by decide) (by decide) (by omega)
    have q1' : runF rs k (ix 42) [.ref 1, .int 4] (St st2 rest) = .ok (.int (q : Nat)) (St st3 rest) := q1
    obtain ⟨a, st4, a1, a2, a3, a4⟩ := constant_mk (rs := rs) (ix := ix) (k := k) (by omega) (n + 5) st3 rest q3 hr
    obtain ⟨b, st5, b1, b2, b3, b4⟩ := constant_mk (rs := rs) (ix := ix) (k := k) (by omega) (n + 4) st4 rest a4 hr
    obtain ⟨c, st6, c1, c2, c3, c4⟩ := constant_mk (rs := rs) (ix := ix) (k := k) (by omega) (n + 3) st5 rest b4 hr
    have hcl : clsDs 0 (leaves7 ((l : Nat) - 1) (q : Nat) ++ [.tup [.str "is", a], .tup [.str "is", b], .tup [.str "is", c]]) = true := by
      simp [leaves7, cls_cons, cls_nil, cl_tup, cl_str, cl_non, cl_int, a3, b3, c3]
    obtain ⟨t, st7, t1, t2, t3, t4⟩ := pick_mk (rs := rs) (ix := ix) (k := k) (ds := leaves7 ((l : Nat) - 1) (q : Nat) ++ [.tup [.str "is", a], .tup [.str "is", b], .tup [.str "is", c]]) (by simp [leaves7]) (by simp [leaves7]) hcl (by omega) (n + 2) st6 rest c4 hr
    refine ⟨t, st7, ?_, leaf10 (by omega) a2 b2 c2 t2, t4.le (by omega)⟩
    have f1 : cAndT (cB (cBin (pEq true) (cVar 1) (cPrim (pLst false) cNil))) (cB (cBin (pEq false) (cVar 3) (cK (.int 0)))) (runF rs k) [some (.ref 1), some (.lst (nms.map .str)), some (.int z), some (.int (r : Nat)), none, none, none, none] (St st1 rest) = .ok false (St st1 rest) := by
      cases hne : nms.isEmpty <;> rw [hne] at e1
      · have h0 : ¬ r = 0 := fun h0 => hA ⟨fun e => by rw [e] at hne; simp at hne, h0⟩
        simp! [e1, h0]
      · simp! [e1]
    refine seq_asg (d := .int (r : Nat)) (S1 := St st1 rest) (by simp! [d1]) rfl ?_
    refine seq_if_f (S1 := St st1 rest) f1 ?_
    refine seq_if_t (S1 := St st1 rest) (by rcases hB with h | h <;> by_cases h2 : z < 2 <;> simp! [h, h2]) ?_
    refine seq_asg (d := .int ((l : Nat) - 1)) (S1 := St st2 rest) (by simp! [l1']) rfl ?_
    refine seq_asg (d := .lst (leaves7 ((l : Nat) - 1) (q : Nat))) (S1 := St st3 rest) (by simp! [q1', pAdd_int, leaves7]) rfl ?_
    refine seq_rt ?_
    have hz10 : (leaves7 ((l : Nat) - 1) (q : Nat)).length + ([.tup [.str "is", a], .tup [.str "is", b], .tup [.str "is", c]] : List D).length ≤ sizeLine := Nat.le_trans (m := 10) (by simp [leaves7]) (by decide)
    have hadd : ∀ S : Sto, pAdd false (.lst (leaves7 ((l : Nat) - 1) (q : Nat))) (.lst [.tup [.str "is", a], .tup [.str "is", b], .tup [.str "is", c]]) S = .ok (.lst (leaves7 ((l : Nat) - 1) (q : Nat) ++ [.tup [.str "is", a], .tup [.str "is", b], .tup [.str "is", c]])) S := fun S => by
      simp only [pAdd, deref_lst, if_pos hz10, mkL, Bool.false_eq_true, if_false]
    simp! [a1, b1, c1, hadd, t1]
theorem types_mk (nms : List Str) (hnms : ∀ x ∈ nms, x ∈ nm ∧ nmB x = true) (hl : nms.length ≤ 3) : ∀ (n : Nat) {k : Nat} {z : Int}, n ≤ 20 → z = (n : Nat) + 1 → 2 * n + 6 ≤ k →
    Mk rs k (ix 48) [.ref 1, .lst (nms.map .str), .int z] (cT n) (TP nm (n + 1)) ∧ Mk rs (k + 1) (ix 49) [.ref 1, .lst (nms.map .str), .int z] (2 * cT n) (TP nm (n + 1)) := fun n => by
  induction n with
  | zero =>
    intro k z _ hz hk
    have hA : Mk rs k (ix 48) [.ref 1, .lst (nms.map .str), .int z] (cT 0) (TP nm (0 + 1)) := fun n st rest hd hr => by
      obtain ⟨k, rfl, hj⟩ := succ_of (n := 5) hk
      obtain ⟨r, st1, d1, d2, d3⟩ := draw_nat (rs := rs) (ix := ix) (k := k) (sz := 10) (n := n + 19) hd hr (by decide) (by decide) (by omega)
      obtain ⟨t, st', h1, h2, h3⟩ := atom_leaf (rs := rs) (ix := ix) (k := k) (z := z) (n := n) (nm := nm) (by omega) hnms hl hr (d3.le (by omega)) d1 (.inr (.inl (by omega)))
      refine ⟨t, st', ?_, h2.tp, h2.tp.cl, h3⟩
      rw [run_at At__law_atom.h]
      exact fin_st h1 rfl h2.tp.cl (St_cl hr)
    refine ⟨hA, fun n st rest hd hr => ?_⟩
    obtain ⟨r, st1, d1, d2, d3⟩ := draw_nat (rs := rs) (ix := ix) (k := k) (sz := 7) (n := n + cT 0) (hd.le (by simp [cT])) hr (by decide) (by decide) (by omega)
    have d1' : runF rs k (ix 42) [.ref 1, .int 7] (St st rest) = .ok (.int (r : Nat)) (St st1 rest) := d1
    obtain ⟨t, st2, a1, a2, a3, a4⟩ := hA n st1 rest d3 hr
    refine ⟨t, st2, ?_, a2, a3, a4⟩
    rw [run_at At__law_type.h]
    refine fin_st ?_ rfl a3 (St_cl hr)
    refine seq_asg (d := .int (r : Nat)) (S1 := St st1 rest) (by simp! [d1']) rfl ?_
    refine seq_if_t (S1 := St st1 rest) (by simp! [(show z < 2 by omega)]) ?_
    exact seq_rt (by simp! [a1])
  | succ m ihm =>
    intro k z h20 hz hk
    have hge := cT_ge m
    have ih : ∀ {k : Nat}, 2 * m + 7 ≤ k → ∀ rest, RC rest → ∀ n st, DOk (n + 2 * cT m) st → ∃ v st', runF rs k (ix 49) [.ref 1, .lst (nms.map .str), .int (z - 1)] (St st rest) = .ok v (St st' rest) ∧ TP nm (m + 1) v ∧ DOk n st' := fun {k} hk rest hr n st h => by
      obtain ⟨k, rfl, hj⟩ := succ_of (n := 2 * m + 6) hk
      obtain ⟨v, st', h1, h2, _, h3⟩ := (ihm (k := k) (z := z - 1) (by omega) (by omega) hj).2 n st rest h hr
      exact ⟨v, st', h1, h2, h3⟩
    have e1 := names_nil fun x hx => (hnms x hx).2
    have hA : Mk rs k (ix 48) [.ref 1, .lst (nms.map .str), .int z] (cT (m + 1)) (TP nm (m + 1 + 1)) := fun n st rest hd hr => by
      obtain ⟨k, rfl, hj⟩ := succ_of (n := 2 * m + 7) (by omega)
      have hd0 : DOk (n + (4 * cT m + 40)) st := hd
      obtain ⟨r, st1, d1, d2, d3⟩ := draw_nat (rs := rs) (ix := ix) (k := k) (sz := 10) (n := n + 4 * cT m + 39) (hd0.le (by omega)) hr (by decide) (by decide) (by omega)
      have d1' : runF rs k (ix 42) [.ref 1, .int 10] (St st rest) = .ok (.int (r : Nat)) (St st1 rest) := d1
      by_cases hcase : (nms ≠ [] ∧ r = 0) ∨ (z < 2 ∨ (r : Int) < 4)
      · obtain ⟨t, st', h1, h2, h3⟩ := atom_leaf (rs := rs) (ix := ix) (k := k) (z := z) (n := n) (nm := nm) (by omega) hnms hl hr (d3.le (by omega)) d1 hcase
        refine ⟨t, st', ?_, h2.tp.le (by omega), h2.tp.cl, h3⟩
        rw [run_at At__law_atom.h]
        exact fin_st h1 rfl h2.tp.cl (St_cl hr)
      have hz2 : ¬ z < 2 := fun h => hcase (.inr (.inl h))
      have hr4 : ¬ (r : Int) < 4 := fun h => hcase (.inr (.inr h))
      have hr0 : ¬ r = 0 := by omega
      have f1 : cAndT (cB (cBin (pEq true) (cVar 1) (cPrim (pLst false) cNil))) (cB (cBin (pEq false) (cVar 3) (cK (.int 0)))) (runF rs k) [some (.ref 1), some (.lst (nms.map .str)), some (.int z), some (.int (r : Nat)), none, none, none, none] (St st1 rest) = .ok false (St st1 rest) := by
        cases hne : nms.isEmpty <;> rw [hne] at e1 <;> simp! [e1, hr0]
      have pre : ∀ {x : R F}, (∀ env, env = [some (.ref 1), some (.lst (nms.map .str)), some (.int z), some (.int (r : Nat)), none, none, none, none] → (cSeq (cIfS (cB (cBin pLt (cVar 3) (cK (.int 7)))) (cSeq (cRet (cPrim pTup (cCons (cK (.str "pair")) (cCons (cCall (ix 49) 3 [] (cCons (cVar 0) (cCons (cVar 1) (cCons (cBin pSub (cVar 2) (cK (.int 1))) cNil)))) (cCons (cCall (ix 49) 3 [] (cCons (cVar 0) (cCons (cVar 1) (cCons (cBin pSub (cVar 2) (cK (.int 1))) cNil)))) cNil)))))
          cSkip) cSkip)
          (cSeq (cIfS (cB (cBin (pEq false) (cVar 3) (cK (.int 7)))) (cSeq (cAsg (.nm 6) (r__law_atom_c1 ix))
          (cSeq (cRet (cPrim pTup (cCons (cK (.str "record")) (cCons (cPrim pTupOf (cCons (cVar 6) cNil)) (cCons (cBin (pEq false) (cCall (ix 42) 2 [] (cCons (cVar 0) (cCons (cK (.int 2)) cNil))) (cK (.int 0))) cNil)))))
          cSkip)) cSkip)
          (cSeq (cRet (cPrim pTup (cCons (cK (.str "fun")) (cCons (cCall (ix 49) 3 [] (cCons (cVar 0) (cCons (cVar 1) (cCons (cBin pSub (cVar 2) (cK (.int 1))) cNil)))) (cCons (cCall (ix 49) 3 [] (cCons (cVar 0) (cCons (cVar 1) (cCons (cBin pSub (cVar 2) (cK (.int 1))) cNil)))) cNil)))))
          cSkip))) (runF rs k) env (St st1 rest) = x) → r__law_atom ix (runF rs k) (startD 8 [.ref 1, .lst (nms.map .str), .int z]) (St st rest) = x := fun {x} h => by
        refine seq_asg (d := .int (r : Nat)) (S1 := St st1 rest) (by simp! [d1']) rfl ?_
        refine seq_if_f (S1 := St st1 rest) f1 ?_
        refine seq_if_f (S1 := St st1 rest) (by simp! [hz2, hr4]) ?_
        exact h _ rfl
      by_cases hr7 : (r : Int) < 7
      · obtain ⟨a, st2, a1, a2, a3⟩ := ih (k := k) (by omega) rest hr (n + 2 * cT m) st1 (d3.le (by omega))
        obtain ⟨b, st3, b1, b2, b3⟩ := ih (k := k) (by omega) rest hr n st2 a3
        have ht : TP nm (m + 1 + 1) (.tup [.str "pair", a, b]) := .inr (.inr (.inl ⟨"pair", a, b, .inl rfl, a2, b2, rfl⟩))
        refine ⟨_, st3, ?_, ht, ht.cl, b3⟩
        rw [run_at At__law_atom.h]
        refine fin_st (pre fun env he => ?_) rfl ht.cl (St_cl hr)
        subst he
        refine seq_if_t (S1 := St st1 rest) (by simp! [hr7]) ?_
        exact seq_rt (by simp! [a1, b1])
      by_cases hr8 : (r : Int) = 7
      · obtain ⟨ld, st2, l1, ⟨zs, rfl, l2, l3, l4⟩, l5, l6⟩ := labels_mk (rs := rs) (ix := ix) (k := k) (mo := 2) (by omega) (by omega) (n + 4 * cT m + 34) st1 rest d3 hr
        have l1' : runF rs k (ix 46) [.ref 1, .int 2] (St st1 rest) = .ok (.lst (zs.map .str)) (St st2 rest) := l1
        have hzc : zs.length * (2 * cT m + 1) ≤ 2 * (2 * cT m + 1) := Nat.mul_le_mul_right _ l2
        obtain ⟨ds, st3, a1, a2, a3⟩ := lcL_mk (call := runF rs k) (tg := .nm 7) (fe := cPrim pTup (cCons (cVar 7) (cCons (cCall (ix 49) 3 [] (cCons (cVar 0) (cCons (cVar 1) (cCons (cBin pSub (cVar 2) (cK (.int 1))) cNil)))) (cCons (cBin pGt (cCall (ix 42) 2 [] (cCons (cVar 0) (cCons (cK (.int 3)) cNil))) (cK (.int 0))) cNil)))) (env := [some (.ref 1), some (.lst (nms.map .str)), some (.int z), some (.int (r : Nat)), none, none, none, none]) (rest := rest) (c := 2 * cT m + 1) (P := fun z d => ∃ t b, d = tfD (z, t, b) ∧ TP nm (m + 1) t) zs [] (n + 1) st2 (l6.le (by omega)) fun zz hzz n st h => by
            obtain ⟨v, st', v1, v2, v3⟩ := ih (k := k) (by omega) rest hr (n + 1) st (h.le (by omega))
            obtain ⟨w, st'', w1, w2, w3⟩ := draw_nat (rs := rs) (ix := ix) (k := k) (sz := 3) (n := n) v3 hr (by decide) (by decide) (by omega)
            have w1' : runF rs k (ix 42) [.ref 1, .int 3] (St st' rest) = .ok (.int (w : Nat)) (St st'' rest) := w1
            exact ⟨_, tfD (zz, v, decide (0 < (w : Int))), st'', rfl, by simp! [v1, w1', tfD], ⟨v, _, rfl, v2⟩, w3⟩
        obtain ⟨fs, rfl, f2, f3⟩ := a1.tfields
        obtain ⟨o, st4, o1, o2, o3⟩ := draw_nat (rs := rs) (ix := ix) (k := k) (sz := 2) (n := n) a3 hr (by decide) (by decide) (by omega)
        have o1' : runF rs k (ix 42) [.ref 1, .int 2] (St st3 rest) = .ok (.int (o : Nat)) (St st4 rest) := o1
        have hfl : fs.length ≤ 2 := by rw [← f2] at l2; simpa using l2
        have ht : TP nm (m + 1 + 1) (.tup [.str "record", .tup (fs.map tfD), .bl (decide ((o : Int) = 0))]) := .inr (.inr (.inr ⟨fs, _, hfl, by rw [f2]; exact l3, fun f hf => ⟨l4 f.1 (by rw [← f2]; exact List.mem_map.mpr ⟨f, hf, rfl⟩), f3 f hf⟩, rfl⟩))
        refine ⟨_, st4, ?_, ht, ht.cl, o3⟩
        rw [run_at At__law_atom.h]
        refine fin_st (pre fun env he => ?_) rfl ht.cl (St_cl hr)
        subst he
        refine seq_if_f (S1 := St st1 rest) (by simp! [hr7]) ?_
        refine seq_if_t (S1 := St st1 rest) (by simp! [hr8]) ?_
        have c1 : r__law_atom_c1 ix (runF rs k) [some (.ref 1), some (.lst (nms.map .str)), some (.int z), some (.int (r : Nat)), none, none, none, none] (St st1 rest) = .ok (.lst (fs.map tfD)) (St st3 rest) := by
          have s1 : cSrc (cCall (ix 46) 2 [] (cCons (cVar 0) (cCons (cK (.int 2)) cNil))) (runF rs k) [some (.ref 1), some (.lst (nms.map .str)), some (.int z), some (.int (r : Nat)), none, none, none, none] (St st1 rest) = .ok (.frz (zs.map .str)) (St st2 rest) := by
            simp! [cSrc, l1', srcOf]
          unfold r__law_atom_c1 cLc
          rw [s1, R.bind_okk]
          show (noExc (lcL _ _ _ _ _ _ _ _)).bind _ = _
          have hw : wipeD [some (.ref 1), some (.lst (nms.map .str)), some (.int z), some (.int (r : Nat)), none, none, none, none] [7] = [some (.ref 1), some (.lst (nms.map .str)), some (.int z), some (.int (r : Nat)), none, none, none, none] := rfl
          rw [hw, a2]
          rfl
        refine seq_asg c1 rfl ?_
        refine seq_rt ?_
        by_cases ho : o = 0
        · subst ho
          simp! [pTupOf, o1']
        · have ho' : ¬ (o : Int) = 0 := by omega
          simp! [pTupOf, o1', ho, ho']
      · obtain ⟨a, st2, a1, a2, a3⟩ := ih (k := k) (by omega) rest hr (n + 2 * cT m) st1 (d3.le (by omega))
        obtain ⟨b, st3, b1, b2, b3⟩ := ih (k := k) (by omega) rest hr n st2 a3
        have ht : TP nm (m + 1 + 1) (.tup [.str "fun", a, b]) := .inr (.inr (.inl ⟨"fun", a, b, .inr (.inl rfl), a2, b2, rfl⟩))
        refine ⟨_, st3, ?_, ht, ht.cl, b3⟩
        rw [run_at At__law_atom.h]
        refine fin_st (pre fun env he => ?_) rfl ht.cl (St_cl hr)
        subst he
        refine seq_if_f (S1 := St st1 rest) (by simp! [hr7]) ?_
        refine seq_if_f (S1 := St st1 rest) (by simp! [hr8]) ?_
        exact seq_rt (by simp! [a1, b1])
    refine ⟨hA, fun n st rest hd hr => ?_⟩
    have hd0 : DOk (n + 2 * (4 * cT m + 40)) st := hd
    obtain ⟨r, st1, d1, d2, d3⟩ := draw_nat (rs := rs) (ix := ix) (k := k) (sz := 7) (n := n + 8 * cT m + 79) (hd0.le (by omega)) hr (by decide) (by decide) (by omega)
    have d1' : runF rs k (ix 42) [.ref 1, .int 7] (St st rest) = .ok (.int (r : Nat)) (St st1 rest) := d1
    have hz2 : ¬ z < 2 := by omega
    by_cases hr3 : (r : Int) < 3
    · obtain ⟨t, st2, a1, a2, a3, a4⟩ := hA n st1 rest (d3.le (by simp only [cT]; omega)) hr
      refine ⟨t, st2, ?_, a2, a3, a4⟩
      rw [run_at At__law_type.h]
      refine fin_st ?_ rfl a3 (St_cl hr)
      refine seq_asg (d := .int (r : Nat)) (S1 := St st1 rest) (by simp! [d1']) rfl ?_
      refine seq_if_t (S1 := St st1 rest) (by simp! [hz2, hr3]) ?_
      exact seq_rt (by simp! [a1])
    by_cases hr4 : (r : Int) = 3
    · obtain ⟨a, st2, a1, a2, a3⟩ := ih (k := k) (by omega) rest hr n st1 (d3.le (by omega))
      have ht : TP nm (m + 1 + 1) (.tup [.str "not", a]) := .inr (.inl ⟨a, a2, rfl⟩)
      refine ⟨_, st2, ?_, ht, ht.cl, a3⟩
      rw [run_at At__law_type.h]
      refine fin_st ?_ rfl ht.cl (St_cl hr)
      refine seq_asg (d := .int (r : Nat)) (S1 := St st1 rest) (by simp! [d1']) rfl ?_
      refine seq_if_f (S1 := St st1 rest) (by simp! [hz2, hr3]) ?_
      refine seq_if_t (S1 := St st1 rest) (by simp! [hr4]) ?_
      exact seq_rt (by simp! [a1])
    · obtain ⟨w, st2, w1, w2, w3, w4⟩ := pick_mk (rs := rs) (ix := ix) (k := k) (ds := [.str "or", .str "or", .str "and"]) (by decide) (by decide) rfl (by omega) (n + 8 * cT m + 78) st1 rest d3 hr
      obtain ⟨a, st3, a1, a2, a3⟩ := ih (k := k) (by omega) rest hr (n + 2 * cT m) st2 (w4.le (by omega))
      obtain ⟨b, st4, b1, b2, b3⟩ := ih (k := k) (by omega) rest hr n st3 a3
      have hw : ∃ ws : String, w = .str ws ∧ Bin ws := by
        simp only [List.mem_cons, List.not_mem_nil, or_false] at w2
        rcases w2 with rfl | rfl | rfl
        · exact ⟨"or", rfl, .inr (.inr (.inl rfl))⟩
        · exact ⟨"or", rfl, .inr (.inr (.inl rfl))⟩
        · exact ⟨"and", rfl, .inr (.inr (.inr rfl))⟩
      obtain ⟨ws, rfl, hws⟩ := hw
      have ht : TP nm (m + 1 + 1) (.tup [.str ws, a, b]) := .inr (.inr (.inl ⟨ws, a, b, hws, a2, b2, rfl⟩))
      refine ⟨_, st4, ?_, ht, ht.cl, b3⟩
      rw [run_at At__law_type.h]
      refine fin_st ?_ rfl ht.cl (St_cl hr)
      refine seq_asg (d := .int (r : Nat)) (S1 := St st1 rest) (by simp! [d1']) rfl ?_
      refine seq_if_f (S1 := St st1 rest) (by simp! [hz2, hr3]) ?_
      refine seq_if_f (S1 := St st1 rest) (by simp! [hr4]) ?_
      exact seq_rt (by simp! [w1, a1, b1])
end
end Ev.Nv

set_option Elab.async false
set_option linter.all false
set_option maxRecDepth 100000
set_option maxHeartbeats 8000000
/-! Nv, part 23: drawn books. -/
namespace Ev.Nv
open PySem PySem.Spec PyProof.Rows L2
local macro_rules
  | `(tactic| simp! [$ls,*]) => `(tactic| simp [List.getElem?_cons_zero, List.getElem?_cons_succ, List.set_cons_zero, List.set_cons_succ, pl_non, pl_bl, pl_int, pl_str, pl_tup, pl_lst, pls_nil, pls_cons, ns_non, ns_int, ns_str, ns_tup, nss_nil, nss_cons, cSeq, cRet, cIfS, cAsg, cExp, cSkip, cPar, cRetN, cVar, cK, cBin, cUn, cPrim, cCons, cNil, cCall, cIf, cTru, cNotT, cAndT, cOrT, cAndV, cOrV, cNotV, cB, cSl, cPart, cNoPart, cChain, cYes, R.bind_okk, R.at_okk, startD, bindT, bindTs, pIsi, tyD, isI, isTys, isCls, tysOf, isAny, pLen, pTup, pLst, pIx_tup, pIx_lst, pIx_dic, pEq, pIs_non, pIs_nonN, isNon_non, isNon_int, isNon_str, isNon_tup, isNon_bl, wipeD, -List.map_map, pLt, pLe, pGt, pGe, pCmpI, pSub, mkL, truthD, deref_non, deref_bl, deref_int, deref_str, deref_tup, deref_lst, deref_dic, deref_scr, deref_ty, fin_rt, fin_nx, iso_okD, cl_non, cl_bl, cl_int, cl_str, cl_ty, cl_tup, cl_lst, cl_dic, cl_ref, cls_nil, cls_cons, clk_nil, clk_cons, done_nil, sz_lit, ofS_inj, atI0, atI1, atI2, strOk_ofS, eqD_str, eqD_int, inD_s2, inD_s3, inD_s4, all_true, $ls,*])
variable {rs : List Rd'} {ix : Nat → Nat} {k : Nat} {d : D}
theorem RC.appO {rest : Sto} {o : O} (h : RC rest) (ho : clsO (rest.length + 3) o = true) : RC (rest ++ [o]) := by
  unfold RC at h ⊢
  rw [List.all_append, List.length_append]
  have h1 : rest.all (clsO (rest.length + [o].length + 2)) = true := List.all_eq_true.mpr fun o ho => clsO_mono (by simp) (List.all_eq_true.mp h o ho)
  rw [h1]
  simp only [List.all_cons, List.all_nil, Bool.and_true, Bool.true_and]
  exact ho
theorem clk_bk {bk : List (Str × D)} (h : ∀ p ∈ bk, clsD 0 p.2 = true) : clsKv 0 (bkK bk) = true := by
  induction bk with
  | nil => rfl
  | cons p l ih =>
    have := ih fun x hx => h x (by simp [hx])
    simp only [bkK] at this
    simp [bkK, clk_cons, this, h p (by simp)]
theorem putD_new {bk : List (Str × D)} {x : Str} {v : D} (h : x ∉ bk.map (·.1)) : putD (bkK bk) (.inr x) v = bkK (bk ++ [(x, v)]) := by
  have : (bkK bk).any (fun kv => decide (kv.1 = .inr x)) = false := by
    rw [List.any_eq_false]
    intro kv hkv
    obtain ⟨p, hp, rfl⟩ := List.mem_map.mp hkv
    simp only [decide_eq_true_eq, Sum.inr.injEq]
    rintro rfl
    exact h (List.mem_map.mpr ⟨p, hp, rfl⟩)
  unfold putD
  rw [this]
  simp [bkK]
/-- one entry of a book -/
def EntP (nm : List Str) (t : D) : Prop := ∃ e r, t = .tup [.str "or", e, r] ∧ LeafP [] e ∧ RndP nm r
theorem EntP.cl {nm : List Str} {t : D} (h : EntP nm t) : clsD 0 t = true := by
  obtain ⟨e, r, rfl, h1, h2⟩ := h
  simp [cl_tup, cls_cons, cl_str, cls_nil, h1.tp.cl, h2.tp.cl]
section
variable [At__law_draw rs ix] [At__law_pick rs ix] [At__law_mixed rs ix] [At__law_constant rs ix] [At__law_labels rs ix] [At__law_atom rs ix] [At__law_type rs ix] [At__law_book rs ix]
theorem book_turn {names : List Str} {nm : List Str} {x : Str} {bk : List (Str × D)} {rest : Sto} {n : Nat} {st : DSt} {o4 o5 o6 o7 o8 : Option D} (hk : 10 ≤ k) (hne : names ≠ []) (hnl : names.length ≤ 3) (hnm : ∀ y ∈ names, y ∈ nm ∧ nmB y = true) (hx : x ∉ bk.map (·.1)) (hbl : bk.length ≤ 10) (hb : ∀ p ∈ bk, EntP nm p.2) (hr : RC rest) (hd : DOk (n + 130) st) :
    ∃ (v : D) (st' : DSt) (o4' o5' o6' o7' o8' : Option D), r__law_book_b1 ix (runF rs k) [some (.ref 1), some (.lst (names.map .str)), some (.ref (rest.length + 2)), some (.str x), o4, o5, o6, o7, o8] (St st (rest ++ [.dic (bkK bk)])) =
      .ok (.nx [some (.ref 1), some (.lst (names.map .str)), some (.ref (rest.length + 2)), some (.str x), o4', o5', o6', o7', o8']) (St st' (rest ++ [.dic (bkK (bk ++ [(x, v)]))])) ∧ EntP nm v ∧ DOk n st' := by
  have hr1 : RC (rest ++ [.dic (bkK bk)]) := hr.appO (clsKv_mono (by omega) (clk_bk fun p hp => (hb p hp).cl))
  generalize hR : rest ++ [O.dic (bkK bk)] = R1 at *
  have hpos : 0 < (names.map D.str).length := by have := List.length_pos_iff.mpr hne; simpa using this
  have hlt : (names.map D.str).length < 1000 := by simp; omega
  obtain ⟨od, st1, p1, p2, p3, p4⟩ := pick_mk (rs := rs) (ix := ix) (k := k) (ds := names.map D.str) hpos hlt strs_cl (by omega) (n + 129) st R1 hd hr1
  obtain ⟨other, hother, rfl⟩ := List.mem_map.mp p2
  obtain ⟨w, st2, w1, w2, w3⟩ := draw_nat (rs := rs) (ix := ix) (k := k) (sz := 4) (n := n + 128) p4 hr1 (by decide) (by decide) (by omega)
  have w1' : runF rs k (ix 42) [.ref 1, .int 4] (St st1 R1) = .ok (.int (w : Nat)) (St st2 R1) := w1
  obtain ⟨e, st3, e1, e2, e3, e4⟩ := pick_mk (rs := rs) (ix := ix) (k := k) (ds := [.tup [.str "is", .str "end"], .tup [.str "from", .int 0, .non], .tup [.str "none"], .tup [.str "is", .int 0], .tup [.str "names"]]) (by decide) (by decide) rfl (by omega) (n + 127) st2 R1 w3 hr1
  have he : LeafP [] e := by
    simp only [List.mem_cons, List.not_mem_nil, or_false] at e2
    rcases e2 with rfl | rfl | rfl | rfl | rfl
    · exact .inr (.inl ⟨_, (by decide +kernel), rfl⟩)
    · exact .inr (.inr (.inl ⟨_, _, rfl, rfl⟩))
    · exact .inl ⟨"none", .inr (.inl rfl), rfl⟩
    · exact .inr (.inl ⟨_, (by decide +kernel), rfl⟩)
    · exact .inl ⟨"names", .inr (.inr rfl), rfl⟩
  obtain ⟨h0, st4, h1, h2, h3⟩ := draw_nat (rs := rs) (ix := ix) (k := k) (sz := 2) (n := n + 126) e4 hr1 (by decide) (by decide) (by omega)
  have h1' : runF rs k (ix 42) [.ref 1, .int 2] (St st3 R1) = .ok (.int (h0 : Nat)) (St st4 R1) := h1
  have hthe : ∀ y ∈ names, TP nm 1 (.tup [.str "the", .str y]) := fun y hy => .inl (.inr (.inr (.inr ⟨y, (hnm y hy).1, (hnm y hy).2, rfl⟩)))
  -- the head
  have hhead : ∃ hdv st5, cIf (cB (cBin (pEq false) (cCall (ix 42) 2 [] (cCons (cVar 0) (cCons (cK (.int 2)) cNil))) (cK (.int 0)))) (cCall (ix 48) 3 [] (cCons (cVar 0) (cCons (cPrim (pLst false) cNil) (cCons (cK (.int 2)) cNil)))) (cPrim pTup (cCons (cK (.str "the")) (cCons (cCall (ix 43) 2 [] (cCons (cVar 0) (cCons (cVar 1) cNil))) cNil))) (runF rs k)
      [some (.ref 1), some (.lst (names.map .str)), some (.ref (rest.length + 2)), some (.str x), some e, o5, o6, some (.str other), some (.int (w : Nat))] (St st3 R1) = .ok hdv (St st5 R1) ∧ TP nm 3 hdv ∧ DOk (n + 1) st5 := by
    by_cases hz : h0 = 0
    · obtain ⟨t, st5, a1, a2, a3, a4⟩ := (types_mk (rs := rs) (ix := ix) (nm := nm) [] (by simp) (by simp) 1 (k := k) (z := 2) (by omega) (by omega) (by omega)).1 (n + 1) st4 R1 (h3.le (by simp only [cT]; omega)) hr1
      have a1' : runF rs k (ix 48) [.ref 1, .lst [], .int 2] (St st4 R1) = .ok t (St st5 R1) := a1
      subst hz
      exact ⟨t, st5, by simp! [h1', a1'], a2.le (by omega), a4⟩
    · obtain ⟨pd, st5, q1, q2, q3, q4⟩ := pick_mk (rs := rs) (ix := ix) (k := k) (ds := names.map D.str) hpos hlt strs_cl (by omega) (n + 125) st4 R1 h3 hr1
      obtain ⟨y, hy, rfl⟩ := List.mem_map.mp q2
      have hz' : ¬ (h0 : Int) = 0 := by omega
      exact ⟨.tup [.str "the", .str y], st5, by simp! [h1', hz, hz', q1], (hthe y hy).le (by omega), q4.le (by omega)⟩
  obtain ⟨hdv, st5, a1, a2, a3⟩ := hhead
  have hto := hthe other hother
  -- the end of the turn
  have fin : ∀ (rv : D) (stf : DSt) (env : Env'), RndP nm rv → DOk n stf → env = [some (.ref 1), some (.lst (names.map .str)), some (.ref (rest.length + 2)), some (.str x), some e, some hdv, some rv, some (.str other), some (.int (w : Nat))] →
      cSeq (cSet (cVar 2) (cVar 3) (cPrim pTup (cCons (cK (.str "or")) (cCons (cVar 4) (cCons (cVar 6) cNil))))) cSkip (runF rs k) env (St stf R1) = .ok (.nx env) (St stf (rest ++ [.dic (bkK (bk ++ [(x, .tup [.str "or", e, rv])]))])) := fun rv stf env hrv hdf he => by
    subst he hR
    have hsz : (bkK bk).length < sizeLine := Nat.lt_of_le_of_lt (m := 10) (by simpa [bkK] using hbl) (by decide)
    have hset : pSet (.ref (rest.length + 2)) (.str x) (.tup [.str "or", e, rv]) (St stf (rest ++ [.dic (bkK bk)])) = some (St stf (rest ++ [.dic (bkK (bk ++ [(x, .tup [.str "or", e, rv])]))])) := by
      simp only [pSet, one_get, keyOf, if_pos hsz, one_set, putD_new hx]
    simp! [cSet, hset]
  have pre : ∀ {y : R F}, (∀ env, env = [some (.ref 1), some (.lst (names.map .str)), some (.ref (rest.length + 2)), some (.str x), some e, some hdv, o6, some (.str other), some (.int (w : Nat))] → (cSeq (cAsg (.nm 6) (cIf (cB (cBin pLt (cVar 8) (cK (.int 2)))) (cPrim pTup (cCons (cK (.str "pair")) (cCons (cVar 5) (cCons (cPrim pTup (cCons (cK (.str "the")) (cCons (cVar 7) cNil))) cNil)))) (cPrim pTup (cCons (cK (.str "fun")) (cCons (cVar 5) (cCons (cPrim pTup (cCons (cK (.str "the")) (cCons (cVar 7) cNil))) cNil))))))
  (cSeq (cIfS (cB (cBin (pEq false) (cVar 8) (cK (.int 3)))) (cSeq (cAsg (.nm 6) (cPrim pTup (cCons (cK (.str "record")) (cCons (cPrim pTup (cCons (cPrim pTup (cCons (cK (.str "a")) (cCons (cPrim pTup (cCons (cK (.str "the")) (cCons (cVar 7) cNil))) (cCons (cBin (pEq false) (cCall (ix 42) 2 [] (cCons (cVar 0) (cCons (cK (.int 2)) cNil))) (cK (.int 0))) cNil)))) cNil)) (cCons (cK (.bl false)) cNil)))))
  cSkip) cSkip)
  (cSeq (cSet (cVar 2) (cVar 3) (cPrim pTup (cCons (cK (.str "or")) (cCons (cVar 4) (cCons (cVar 6) cNil)))))
  cSkip))) (runF rs k) env (St st5 R1) = y) → r__law_book_b1 ix (runF rs k) [some (.ref 1), some (.lst (names.map .str)), some (.ref (rest.length + 2)), some (.str x), o4, o5, o6, o7, o8] (St st R1) = y := fun {y} h => by
    refine seq_nx (env1 := [some (.ref 1), some (.lst (names.map .str)), some (.ref (rest.length + 2)), some (.str x), o4, o5, o6, some (.str other), some (.int (w : Nat))]) (S1 := St st2 R1) ?_ ?_
    · simp! [p1, w1']
    refine seq_asg (d := e) (S1 := St st3 R1) (by simp! [e1]) rfl ?_
    refine seq_asg (d := hdv) (S1 := St st5 R1) a1 rfl ?_
    exact h _ rfl
  by_cases hw3 : w = 3
  · subst hw3
    obtain ⟨b0, st6, b1, b2, b3⟩ := draw_nat (rs := rs) (ix := ix) (k := k) (sz := 2) (n := n) a3 hr1 (by decide) (by decide) (by omega)
    have b1' : runF rs k (ix 42) [.ref 1, .int 2] (St st5 R1) = .ok (.int (b0 : Nat)) (St st6 R1) := b1
    let rv : D := .tup [.str "record", .tup [.tup [.str "a", .tup [.str "the", .str other], .bl (decide ((b0 : Int) = 0))]], .bl false]
    have hrv : RndP nm rv := .inr ⟨[("a", .tup [.str "the", .str other], decide ((b0 : Int) = 0))], false, by simp, rfl, fun f hf => by
      rw [List.mem_singleton] at hf; subst hf
      exact ⟨show nmB ("a" : Str) = true by decide +kernel, hto.le (by omega)⟩, rfl⟩
    refine ⟨.tup [.str "or", e, rv], st6, some e, some hdv, some rv, some (.str other), some (.int ((3 : Nat) : Int)), pre fun env he' => ?_, ⟨e, rv, rfl, he, hrv⟩, b3⟩
    subst he'
    refine seq_asg (d := .tup [.str "fun", hdv, .tup [.str "the", .str other]]) (S1 := St st5 R1) (by simp! [R.bind_okk]) rfl ?_
    refine seq_if_tn (S1 := St st5 R1) (env1 := [some (.ref 1), some (.lst (names.map .str)), some (.ref (rest.length + 2)), some (.str x), some e, some hdv, some rv, some (.str other), some (.int ((3 : Nat) : Int))]) (S2 := St st6 R1) (by simp! [R.bind_okk]) ?_ ?_
    · by_cases hb0 : b0 = 0
      · subst hb0
        simp! [b1', rv]
      · have hb0' : ¬ (b0 : Int) = 0 := by omega
        simp! [b1', rv, hb0, hb0']
    · exact fin rv st6 _ hrv b3 rfl
  · have hw3' : ¬ (w : Int) = 3 := by omega
    by_cases hw2 : (w : Int) < 2
    · let rv : D := .tup [.str "pair", hdv, .tup [.str "the", .str other]]
      have hrv : RndP nm rv := .inl ⟨"pair", hdv, _, .inl rfl, a2, hto.le (by omega), rfl⟩
      refine ⟨.tup [.str "or", e, rv], st5, some e, some hdv, some rv, some (.str other), some (.int (w : Nat)), pre fun env he' => ?_, ⟨e, rv, rfl, he, hrv⟩, a3.le (by omega)⟩
      subst he'
      refine seq_asg (d := rv) (S1 := St st5 R1) (by simp! [hw2, rv]) rfl ?_
      refine seq_if_f (S1 := St st5 R1) (by simp! [hw3, hw3']) ?_
      exact fin rv st5 _ hrv (a3.le (by omega)) rfl
    · let rv : D := .tup [.str "fun", hdv, .tup [.str "the", .str other]]
      have hrv : RndP nm rv := .inl ⟨"fun", hdv, _, .inr rfl, a2, hto.le (by omega), rfl⟩
      refine ⟨.tup [.str "or", e, rv], st5, some e, some hdv, some rv, some (.str other), some (.int (w : Nat)), pre fun env he' => ?_, ⟨e, rv, rfl, he, hrv⟩, a3.le (by omega)⟩
      subst he'
      refine seq_asg (d := rv) (S1 := St st5 R1) (by simp! [hw2, rv]) rfl ?_
      refine seq_if_f (S1 := St st5 R1) (by simp! [hw3, hw3']) ?_
      exact fin rv st5 _ hrv (a3.le (by omega)) rfl
theorem book_loop {names nm : List Str} {rest : Sto} (hk : 10 ≤ k) (hnl : names.length ≤ 3) (hnm : ∀ y ∈ names, y ∈ nm ∧ nmB y = true) (hr : RC rest) : ∀ (zs : List Str) (bk : List (Str × D)) (o3 o4 o5 o6 o7 o8 : Option D) (n : Nat) (st : DSt), (∀ z ∈ zs, z ∈ names) → (bk.map (·.1) ++ zs).Nodup → bk.length + zs.length ≤ 3 → (∀ p ∈ bk, EntP nm p.2) → DOk (n + zs.length * 130) st →
    ∃ (bk' : List (Str × D)) (st' : DSt) (env' : Env'), forL (runF rs k) (.nm 3) (r__law_book_b1 ix) (zs.map .str) [some (.ref 1), some (.lst (names.map .str)), some (.ref (rest.length + 2)), o3, o4, o5, o6, o7, o8] (St st (rest ++ [.dic (bkK bk)])) =
      .ok (.nx env') (St st' (rest ++ [.dic (bkK bk')])) ∧ env'[2]? = some (some (.ref (rest.length + 2))) ∧ bk'.map (·.1) = bk.map (·.1) ++ zs ∧ (∀ p ∈ bk', EntP nm p.2) ∧ DOk n st'
  | [], bk, o3, o4, o5, o6, o7, o8, n, st, _, _, _, hb, hd => ⟨bk, st, _, rfl, rfl, by simp, hb, by simpa using hd⟩
  | z :: zs, bk, o3, o4, o5, o6, o7, o8, n, st, hz, hnd, hl, hb, hd => by
    have hne : names ≠ [] := fun e => by have := hz z (by simp); rw [e] at this; simp at this
    have hx : z ∉ bk.map (·.1) := fun h => by
      have := (List.nodup_append.mp hnd).2.2 z h z (by simp)
      exact this rfl
    simp only [List.length_cons] at hl
    obtain ⟨v, st1, p4, p5, p6, p7, p8, t1, t2, t3⟩ := book_turn (rs := rs) (ix := ix) (k := k) (names := names) (nm := nm) (x := z) (bk := bk) (rest := rest) (n := n + zs.length * 130) (st := st) (o4 := o4) (o5 := o5) (o6 := o6) (o7 := o7) (o8 := o8) hk hne hnl hnm hx (by omega) hb hr (hd.le (by simp [Nat.add_mul]; omega))
    obtain ⟨bk', st', env', i1, i2, i3, i4, i5⟩ := book_loop hk hnl hnm hr zs (bk ++ [(z, v)]) (some (.str z)) p4 p5 p6 p7 p8 n st1 (fun y hy => hz y (by simp [hy])) (by simpa using hnd) (by simp; omega) (fun p hp => by
      rcases List.mem_append.mp hp with q | q
      · exact hb p q
      · rw [List.mem_singleton] at q; subst q; exact t2) t3
    refine ⟨bk', st', env', ?_, i2, by rw [i3]; simp, i4, i5⟩
    simp only [List.map_cons, forL, bindT, List.set_cons_succ, List.set_cons_zero, t1, turnF, R.bind_okk]
    exact i1
theorem EntP.sub {nm : List Str} {t : D} (h : EntP nm t) : EntP nm t := h
theorem fin_dic {x : R F} {S : Sto} {n l : Nat} {kvs : List (Key × D)} (hx : x = .ok (.rt (.ref l)) S) (hn : n ≤ l) (hl : S[l]? = some (.dic kvs)) (hc : clsKv 0 kvs = true) (ht : ((S.take n).all (clsO n)) = true) : finish 0 n x = .ok (.dic kvs) (S.take n) := by
  rw [hx, fin_rt]
  have h1 : frzR (kr0 n) S frzMost l = some (.dic kvs) := by
    show frzR (kr0 n) S (39 + 1) l = _
    simp only [frzR, kr0, if_neg (show ¬ l < n by omega), hl, frzKv_pure _ hc, Option.map_some]
  simp only [done, done0, frzD, h1, ht, if_true]
theorem book_mk (hk : 11 ≤ k) : Mk rs k (ix 50) [.ref 1] 400 fun d => ∃ bk : List (Str × D), d = .dic (bkK bk) ∧ BkP bk := fun n st rest hd hr => by
  obtain ⟨k, rfl, hj⟩ := succ_of (n := 10) hk
  obtain ⟨md, st1, m1, ⟨ys, rfl, m2⟩, m3, m4⟩ := mixed_strs (rs := rs) (ix := ix) (k := k) (xs := ["list", "tree", "u"]) (by decide) (by decide +kernel) (by omega) (n + 397) st rest (hd.le (by simp)) hr
  obtain ⟨r, st2, d1, d2, d3⟩ := draw_nat (rs := rs) (ix := ix) (k := k) (sz := 4) (n := n + 396) m4 hr (by decide) (by decide) (by omega)
  have d1' : runF rs k (ix 42) [.ref 1, .int 4] (St st1 rest) = .ok (.int (r : Nat)) (St st2 rest) := d1
  have hsub : ∀ y ∈ ys.take r, y ∈ ([("list" : Str), "tree", "u"] : List Str) := fun y hy => m2.mem_iff.mp (List.mem_of_mem_take hy)
  have hnd : (ys.take r).Nodup := by
    have : ys.Nodup := m2.nodup_iff.mpr (by decide +kernel)
    exact this.sublist (List.take_sublist _ _)
  have hlen : (ys.take r).length ≤ 3 := by
    have := m2.length_eq
    simp at this
    rw [List.length_take]; omega
  have s1 : ∀ S : Sto, pSl false (.lst (ys.map .str)) none (some ((r : Nat) : Int)) S = .ok (.lst ((ys.take r).map .str)) S := fun S => by
    rw [pSl_to, ← List.map_take]
  generalize hz : ys.take r = names at *
  have hperm := sortS_perm names
  have hnmB : ∀ y ∈ names, nmB y = true := fun y hy => by
    have hall : ([("list" : Str), "tree", "u"].all nmB) = true := by decide +kernel
    exact List.all_eq_true.mp hall y (hsub y hy)
  have hzl : (sortS names).length = names.length := hperm.length_eq
  obtain ⟨bk, st3, env', l1, l2, l3, l4, l5⟩ := book_loop (rs := rs) (ix := ix) (k := k) (names := names) (nm := sortS names) (rest := rest) (by omega) hlen (fun y hy => ⟨hperm.mem_iff.mpr hy, hnmB y hy⟩) hr (sortS names) [] none none none none none none n st2 (fun z hz => hperm.mem_iff.mp hz) (by simpa using hperm.nodup_iff.mpr hnd) (by simp; omega) (by simp) (d3.le (by
    have : (sortS names).length * 130 ≤ 3 * 130 := Nat.mul_le_mul_right _ (by omega)
    omega))
  simp only [List.map_nil, List.nil_append] at l3
  have hbk : BkP bk := by
    refine ⟨?_, ?_, fun p hp => ?_, fun p hp => ?_⟩
    · have := congrArg List.length l3
      simp only [List.length_map] at this
      omega
    · rw [l3]; exact hperm.nodup_iff.mpr hnd
    · have : p.1 ∈ sortS names := by rw [← l3]; exact List.mem_map.mpr ⟨p, hp, rfl⟩
      exact hnmB _ (hperm.mem_iff.mp this)
    · rw [l3]; exact l4 p hp
  refine ⟨.dic (bkK bk), st3, ?_, ⟨bk, rfl, hbk⟩, by rw [cl_dic]; exact bkK_cl hbk, l5⟩
  rw [run_at At__law_book.h, St_len]
  have hx : r__law_book ix (runF rs k) (startD 9 [.ref 1]) (St st rest) = .ok (.rt (.ref (rest.length + 2))) (St st3 (rest ++ [.dic (bkK bk)])) := by
    simp only [List.map_cons, List.map_nil] at m1
    refine seq_asg (d := .lst (names.map .str)) (S1 := St st2 rest) (by simp! [m1, d1', s1]) rfl ?_
    refine seq_asg (d := .ref (rest.length + 2)) (S1 := St st2 (rest ++ [.dic (bkK [])])) (env1 := [some (.ref 1), some (.lst (names.map .str)), some (.ref (rest.length + 2)), none, none, none, none, none, none]) (by simp [mkD, St, bkK]) rfl ?_
    refine seq_nx (env1 := env') (S1 := St st3 (rest ++ [.dic (bkK bk)])) ?_ ?_
    · have s2 := sorted_strs (S := St st2 (rest ++ [.dic (bkK [])])) (ys := names) (by omega)
      have hs : cSrc (cPrim (pSorted false) (cCons (cVar 1) cNil)) (runF rs k) [some (.ref 1), some (.lst (names.map .str)), some (.ref (rest.length + 2)), none, none, none, none, none, none] (St st2 (rest ++ [.dic (bkK [])])) = .ok (.frz ((sortS names).map .str)) (St st2 (rest ++ [.dic (bkK [])])) := by
        simp! [cSrc, s2, srcOf]
      unfold cFor
      rw [hs, R.bind_okk]
      exact l1
    · exact seq_rt (by simp! [l2])
  have := fin_dic hx (Nat.le_refl _) one_get (bkK_cl hbk) (by rw [one_take]; exact St_cl hr)
  rw [one_take] at this
  exact this
end
end Ev.Nv

set_option Elab.async false
set_option linter.all false
set_option maxRecDepth 100000
set_option maxHeartbeats 8000000
/-! Nv, part 24: the plain laws of or, and, not, pairs, functions, records. -/
namespace Ev.Nv
open PySem PySem.Spec PyProof.Rows L2
section
variable {bk : List (Str × D)} {v a b c : D} {n m : Nat}
/-- membership, equation by equation -/
structure SmE (bk : List (Str × D)) : Prop where
  hb : BkP bk
theorem sm_not (hb : BkP bk) (hv : VP n v) (hn : n ≤ 4) (ha : TP (bk.map (·.1)) m a) (hm : m ≤ 8) : Sm bk v (.tup [.str "not", a]) = !Sm bk v a := by
  rw [sm_eq (m := m + 1) hb hv (.inr (.inl ⟨a, ha, rfl⟩)) hn (by omega), semF_not]
theorem sm_or (hb : BkP bk) (hv : VP n v) (hn : n ≤ 4) (ha : TP (bk.map (·.1)) m a) (hb' : TP (bk.map (·.1)) m b) (hm : m ≤ 8) : Sm bk v (.tup [.str "or", a, b]) = (Sm bk v a || Sm bk v b) := by
  rw [sm_eq (m := m + 1) hb hv (.inr (.inr (.inl ⟨"or", a, b, .inr (.inr (.inl rfl)), ha, hb', rfl⟩))) hn (by omega), semF_or]
theorem sm_and (hb : BkP bk) (hv : VP n v) (hn : n ≤ 4) (ha : TP (bk.map (·.1)) m a) (hb' : TP (bk.map (·.1)) m b) (hm : m ≤ 8) : Sm bk v (.tup [.str "and", a, b]) = (Sm bk v a && Sm bk v b) := by
  rw [sm_eq (m := m + 1) hb hv (.inr (.inr (.inl ⟨"and", a, b, .inr (.inr (.inr rfl)), ha, hb', rfl⟩))) hn (by omega), semF_and]
theorem sm_pair (hb : BkP bk) (hv : VP n v) (hn : n ≤ 4) (ha : TP (bk.map (·.1)) m a) (hb' : TP (bk.map (·.1)) m b) (hm : m ≤ 8) : Sm bk v (.tup [.str "pair", a, b]) = pairV (Sm bk) a b v := by
  rw [sm_eq (m := m + 1) hb hv (.inr (.inr (.inl ⟨"pair", a, b, .inl rfl, ha, hb', rfl⟩))) hn (by omega), semF_pair]
theorem sm_fun (hb : BkP bk) (hv : VP n v) (hn : n ≤ 4) (ha : TP (bk.map (·.1)) m a) (hb' : TP (bk.map (·.1)) m b) (hm : m ≤ 8) : Sm bk v (.tup [.str "fun", a, b]) = funV (Sm bk) a b v := by
  rw [sm_eq (m := m + 1) hb hv (.inr (.inr (.inl ⟨"fun", a, b, .inr (.inl rfl), ha, hb', rfl⟩))) hn (by omega), semF_fun]
theorem sm_any (hb : BkP bk) (hv : VP n v) (hn : n ≤ 4) : Sm bk v (.tup [.str "any"]) = true := by
  rw [sm_eq (m := 1) hb hv (.inl (.inl ⟨"any", .inl rfl, rfl⟩)) hn (by omega), semF_any]
theorem sm_none (hb : BkP bk) (hv : VP n v) (hn : n ≤ 4) : Sm bk v (.tup [.str "none"]) = false := by
  rw [sm_eq (m := 1) hb hv (.inl (.inl ⟨"none", .inr (.inl rfl), rfl⟩)) hn (by omega), semF_none]
theorem tp_any {nm : List Str} : TP nm 1 (.tup [.str "any"]) := .inl (.inl ⟨"any", .inl rfl, rfl⟩)
theorem tp_none {nm : List Str} : TP nm 1 (.tup [.str "none"]) := .inl (.inl ⟨"none", .inr (.inl rfl), rfl⟩)
theorem tp_not {nm : List Str} (h : TP nm m a) : TP nm (m + 1) (.tup [.str "not", a]) := .inr (.inl ⟨a, h, rfl⟩)
theorem tp_or {nm : List Str} (h : TP nm m a) (h2 : TP nm m b) : TP nm (m + 1) (.tup [.str "or", a, b]) := .inr (.inr (.inl ⟨"or", a, b, .inr (.inr (.inl rfl)), h, h2, rfl⟩))
theorem tp_and {nm : List Str} (h : TP nm m a) (h2 : TP nm m b) : TP nm (m + 1) (.tup [.str "and", a, b]) := .inr (.inr (.inl ⟨"and", a, b, .inr (.inr (.inr rfl)), h, h2, rfl⟩))
theorem tp_pair {nm : List Str} (h : TP nm m a) (h2 : TP nm m b) : TP nm (m + 1) (.tup [.str "pair", a, b]) := .inr (.inr (.inl ⟨"pair", a, b, .inl rfl, h, h2, rfl⟩))
theorem tp_fun {nm : List Str} (h : TP nm m a) (h2 : TP nm m b) : TP nm (m + 1) (.tup [.str "fun", a, b]) := .inr (.inr (.inl ⟨"fun", a, b, .inr (.inl rfl), h, h2, rfl⟩))
theorem tp_rec1 {nm : List Str} {mu o : Bool} (h : TP nm m a) : TP nm (m + 1) (.tup [.str "record", .tup [.tup [.str "a", a, .bl mu]], .bl o]) := .inr (.inr (.inr ⟨[("a", a, mu)], o, by simp, rfl, fun f hf => by
  rw [List.mem_singleton] at hf; subst hf
  exact ⟨show nmB ("a" : Str) = true by decide +kernel, h⟩, rfl⟩))
theorem tp_rec0 {nm : List Str} {o : Bool} : TP nm 1 (.tup [.str "record", .tup [], .bl o]) := .inr (.inr (.inr ⟨[], o, by simp, rfl, by simp, rfl⟩))
/-- one field -/
def rec1 (v : D) (P : Option D → Bool) : Bool := match v with
  | .tup [.str u, .tup hs] => decide (u = "record") && P (look hs "a")
  | _ => false
theorem recV_1 {S : D → D → Bool} {t : D} {mu : Bool} : recV S [.tup [.str "a", t, .bl mu]] true v = rec1 v fun o => match o with
    | some x => S x t
    | none => !mu := by
  unfold recV rec1
  split
  · first
    | (simp only [Bool.true_or, Bool.true_and, List.all_cons, List.all_nil, Bool.and_true, recF]; done)
    | (simp only [Bool.true_or, Bool.true_and, List.all_cons, List.all_nil, Bool.and_true, recF]; rfl)
  · rename_i h
    first
    | rfl
    | (split
       · rename_i u hs
         exact absurd rfl (h u hs)
       · rfl)
theorem recV_0 {S : D → D → Bool} : recV S [] true v = rec1 v fun _ => true := by
  unfold recV rec1
  split
  · simp
  · rename_i h
    first
    | rfl
    | (split
       · rename_i u hs
         exact absurd rfl (h u hs)
       · rfl)
theorem sm_rec1 (hb : BkP bk) (hv : VP n v) (hn : n ≤ 4) {mu : Bool} (ha : TP (bk.map (·.1)) m a) (hm : m ≤ 8) : Sm bk v (.tup [.str "record", .tup [.tup [.str "a", a, .bl mu]], .bl true]) = rec1 v fun o => match o with
    | some x => Sm bk x a
    | none => !mu := by
  rw [sm_eq (m := m + 1) hb hv (tp_rec1 ha) hn (by omega), semF_record, recV_1]
theorem sm_rec0 (hb : BkP bk) (hv : VP n v) (hn : n ≤ 4) : Sm bk v (.tup [.str "record", .tup [], .bl true]) = rec1 v fun _ => true := by
  rw [sm_eq (m := 1) hb hv tp_rec0 hn (by omega), semF_record, recV_0]
/-! ### the laws -/
theorem law_fun_and (hb : BkP bk) (hv : VP n v) (hn : n ≤ 4) (ha : TP (bk.map (·.1)) m a) (hb' : TP (bk.map (·.1)) m b) (hc : TP (bk.map (·.1)) m c) (hm : m ≤ 6) :
    Sm bk v (.tup [.str "and", .tup [.str "fun", a, b], .tup [.str "fun", a, c]]) = Sm bk v (.tup [.str "fun", a, .tup [.str "and", b, c]]) := by
  rw [sm_and hb hv hn (tp_fun ha hb') (tp_fun ha hc) (by omega), sm_fun hb hv hn ha hb' (by omega), sm_fun hb hv hn ha hc (by omega), sm_fun hb hv hn (ha.le (Nat.le_succ m)) (tp_and hb' hc) (by omega)]
  refine hv.cases (fun k e hc2 => ?_) (fun k x y e e2 h1 h2 => ?_) (fun k fs e e2 h1 h2 h3 => ?_) fun k ps e e2 h1 h2 h3 => ?_
  · rcases cstB_cases hc2 with ⟨i, rfl, _⟩ | ⟨s, rfl, _⟩ <;> rfl
  · subst e2; simp [funV]
  · subst e2; simp [funV, ofS_inj]
  · subst e2
    simp only [funV, decide_true, Bool.true_and, List.all_map]
    rw [Bool.eq_iff_iff, Bool.and_eq_true, List.all_eq_true, List.all_eq_true, List.all_eq_true]
    constructor
    · rintro ⟨q1, q2⟩ p hp
      have q1 := q1 p hp
      have q2 := q2 p hp
      have h3 := h3 p hp
      simp only [Function.comp_apply, pairD, funP] at q1 q2 ⊢
      rcases h3.2 with e | e
      · rw [e] at q1 ⊢; exact q1
      · rw [sm_and hb e (by omega) hb' hc (by omega)]
        revert q1 q2
        cases Sm bk p.1 a <;> cases isNon p.2 <;> cases Sm bk p.2 b <;> cases Sm bk p.2 c <;> simp
    · intro q
      refine ⟨fun p hp => ?_, fun p hp => ?_⟩ <;>
      · have q := q p hp
        have h3 := h3 p hp
        simp only [Function.comp_apply, pairD, funP] at q ⊢
        rcases h3.2 with e | e
        · rw [e] at q ⊢; simp [isNon] at q ⊢; exact q
        · rw [sm_and hb e (by omega) hb' hc (by omega)] at q
          revert q
          cases Sm bk p.1 a <;> cases isNon p.2 <;> cases Sm bk p.2 b <;> cases Sm bk p.2 c <;> simp
theorem law_fun_or (hb : BkP bk) (hv : VP n v) (hn : n ≤ 4) (ha : TP (bk.map (·.1)) m a) (hb' : TP (bk.map (·.1)) m b) (hc : TP (bk.map (·.1)) m c) (hm : m ≤ 6) :
    Sm bk v (.tup [.str "and", .tup [.str "fun", a, c], .tup [.str "fun", b, c]]) = Sm bk v (.tup [.str "fun", .tup [.str "or", a, b], c]) := by
  rw [sm_and hb hv hn (tp_fun ha hc) (tp_fun hb' hc) (by omega), sm_fun hb hv hn ha hc (by omega), sm_fun hb hv hn hb' hc (by omega), sm_fun hb hv hn (tp_or ha hb') (hc.le (Nat.le_succ m)) (by omega)]
  refine hv.cases (fun k e hc2 => ?_) (fun k x y e e2 h1 h2 => ?_) (fun k fs e e2 h1 h2 h3 => ?_) fun k ps e e2 h1 h2 h3 => ?_
  · rcases cstB_cases hc2 with ⟨i, rfl, _⟩ | ⟨s, rfl, _⟩ <;> rfl
  · subst e2; simp [funV]
  · subst e2; simp [funV, ofS_inj]
  · subst e2
    simp only [funV, decide_true, Bool.true_and, List.all_map]
    rw [Bool.eq_iff_iff, Bool.and_eq_true, List.all_eq_true, List.all_eq_true, List.all_eq_true]
    constructor
    · rintro ⟨q1, q2⟩ p hp
      have q1 := q1 p hp
      have q2 := q2 p hp
      have h3 := h3 p hp
      simp only [Function.comp_apply, pairD, funP] at q1 q2 ⊢
      rw [sm_or hb h3.1 (by omega) ha hb' (by omega)]
      revert q1 q2
      cases Sm bk p.1 a <;> cases Sm bk p.1 b <;> cases isNon p.2 <;> cases Sm bk p.2 c <;> simp
    · intro q
      refine ⟨fun p hp => ?_, fun p hp => ?_⟩ <;>
      · have q := q p hp
        have h3 := h3 p hp
        simp only [Function.comp_apply, pairD, funP] at q ⊢
        rw [sm_or hb h3.1 (by omega) ha hb' (by omega)] at q
        revert q
        cases Sm bk p.1 a <;> cases Sm bk p.1 b <;> cases isNon p.2 <;> cases Sm bk p.2 c <;> simp
theorem law_pair_or (hb : BkP bk) (hv : VP n v) (hn : n ≤ 4) (ha : TP (bk.map (·.1)) m a) (hb' : TP (bk.map (·.1)) m b) (hc : TP (bk.map (·.1)) m c) (hm : m ≤ 6) :
    Sm bk v (.tup [.str "pair", .tup [.str "or", a, b], c]) = Sm bk v (.tup [.str "or", .tup [.str "pair", a, c], .tup [.str "pair", b, c]]) := by
  rw [sm_or hb hv hn (tp_pair ha hc) (tp_pair hb' hc) (by omega), sm_pair hb hv hn ha hc (by omega), sm_pair hb hv hn hb' hc (by omega), sm_pair hb hv hn (tp_or ha hb') (hc.le (Nat.le_succ m)) (by omega)]
  refine hv.cases (fun k e hc2 => ?_) (fun k x y e e2 h1 h2 => ?_) (fun k fs e e2 h1 h2 h3 => ?_) fun k ps e e2 h1 h2 h3 => ?_
  · rcases cstB_cases hc2 with ⟨i, rfl, _⟩ | ⟨s, rfl, _⟩ <;> rfl
  · subst e2
    simp only [pairV, decide_true, Bool.true_and]
    rw [sm_or hb h1 (by omega) ha hb' (by omega)]
    cases Sm bk x a <;> cases Sm bk x b <;> cases Sm bk y c <;> rfl
  · subst e2; rfl
  · subst e2; rfl
theorem law_fun_none (hb : BkP bk) (hv : VP n v) (hn : n ≤ 4) (ha : TP (bk.map (·.1)) m a) (hm1 : 1 ≤ m) (hm : m ≤ 6) :
    Sm bk v (.tup [.str "fun", .tup [.str "none"], a]) = (match v with
      | .tup [.str u, .tup _] => decide (u = "graph")
      | _ => false) := by
  rw [sm_fun hb hv hn (tp_none.le hm1) ha (by omega)]
  refine hv.cases (fun k e hc2 => ?_) (fun k x y e e2 h1 h2 => ?_) (fun k fs e e2 h1 h2 h3 => ?_) fun k ps e e2 h1 h2 h3 => ?_
  · rcases cstB_cases hc2 with ⟨i, rfl, _⟩ | ⟨s, rfl, _⟩ <;> rfl
  · subst e2; simp [funV]
  · subst e2; simp [funV, ofS_inj]
  · subst e2
    simp only [funV, decide_true, Bool.true_and, List.all_map]
    rw [List.all_eq_true]
    intro p hp
    simp only [Function.comp_apply, pairD, funP, sm_none hb (h3 p hp).1 (by omega), Bool.not_false, Bool.true_or]
theorem law_rec (hb : BkP bk) (hv : VP n v) (hn : n ≤ 4) (ha : TP (bk.map (·.1)) m a) (hm1 : 1 ≤ m) (hm : m ≤ 4) :
    Sm bk v (.tup [.str "record", .tup [.tup [.str "a", a, .bl false]], .bl true]) = Sm bk v (.tup [.str "or", .tup [.str "record", .tup [.tup [.str "a", a, .bl true]], .bl true], .tup [.str "and", .tup [.str "record", .tup [], .bl true], .tup [.str "not", .tup [.str "record", .tup [.tup [.str "a", .tup [.str "any"], .bl true]], .bl true]]]]) := by
  have t1 : TP (bk.map (·.1)) 2 (.tup [.str "record", .tup [.tup [.str "a", .tup [.str "any"], .bl true]], .bl true]) := tp_rec1 tp_any
  have t2 : TP (bk.map (·.1)) 4 (.tup [.str "and", .tup [.str "record", .tup [], .bl true], .tup [.str "not", .tup [.str "record", .tup [.tup [.str "a", .tup [.str "any"], .bl true]], .bl true]]]) := tp_and (m := 3) (tp_rec0.le (by omega)) (tp_not t1)
  rw [sm_or (m := 5) hb hv hn ((tp_rec1 ha).le (by omega)) (t2.le (by omega)) (by omega), sm_and (m := 3) hb hv hn (tp_rec0.le (by omega)) (tp_not t1) (by omega), sm_not hb hv hn t1 (by omega),
    sm_rec1 hb hv hn ha (by omega), sm_rec1 hb hv hn ha (by omega), sm_rec0 hb hv hn, sm_rec1 hb hv hn (m := 1) tp_any (by omega)]
  refine hv.cases (fun k e hc2 => ?_) (fun k x y e e2 h1 h2 => ?_) (fun k fs e e2 h1 h2 h3 => ?_) fun k ps e e2 h1 h2 h3 => ?_
  · rcases cstB_cases hc2 with ⟨i, rfl, _⟩ | ⟨s, rfl, _⟩ <;> rfl
  · subst e2; simp [rec1]
  · subst e2
    simp only [rec1, decide_true, Bool.true_and]
    cases hl : look (fs.map fieldD) "a" with
    | none => rfl
    | some x =>
      obtain ⟨f, hf, rfl⟩ := look_mem hl
      simp only [sm_any hb (h3 f hf).2 (by omega)]
      simp
  · subst e2; simp [rec1, ofS_inj]
end
end Ev.Nv

set_option Elab.async false
set_option linter.all false
set_option maxRecDepth 100000
set_option maxHeartbeats 8000000
/-! Nv, part 25: what a law's own text needs. -/
namespace Ev.Nv
open PySem PySem.Spec PyProof.Rows L2
local macro_rules
  | `(tactic| simp! [$ls,*]) => `(tactic| simp [List.getElem?_cons_zero, List.getElem?_cons_succ, List.set_cons_zero, List.set_cons_succ, pl_non, pl_bl, pl_int, pl_str, pl_tup, pl_lst, pls_nil, pls_cons, ns_non, ns_int, ns_str, ns_tup, nss_nil, nss_cons, cSeq, cRet, cIfS, cAsg, cExp, cSkip, cPar, cRetN, cVar, cK, cBin, cUn, cPrim, cCons, cNil, cCall, cIf, cTru, cNotT, cAndT, cOrT, cAndV, cOrV, cNotV, cB, cSl, cPart, cNoPart, cChain, cYes, R.bind_okk, R.at_okk, startD, bindT, bindTs, pIsi, tyD, isI, isTys, isCls, tysOf, isAny, pLen, pTup, pLst, pIx_tup, pIx_lst, pIx_dic, pEq, pIs_non, pIs_nonN, isNon_non, isNon_int, isNon_str, isNon_tup, isNon_bl, wipeD, -List.map_map, pLt, pLe, pGt, pGe, pCmpI, pSub, mkL, truthD, deref_non, deref_bl, deref_int, deref_str, deref_tup, deref_lst, deref_dic, deref_scr, deref_ty, fin_rt, fin_nx, iso_okD, cl_non, cl_bl, cl_int, cl_str, cl_ty, cl_tup, cl_lst, cl_dic, cl_ref, cls_nil, cls_cons, clk_nil, clk_cons, done_nil, sz_lit, ofS_inj, atI0, atI1, atI2, strOk_ofS, eqD_str, eqD_int, inD_s2, inD_s3, inD_s4, all_true, $ls,*])
variable {rs : List Rd'} {ix : Nat → Nat} {k : Nat} {d : D}
theorem eqD_bl {a b : Bool} : eqD (.bl a) (.bl b) = some (a == b) := by
  simp [eqD, D.py, PyData.depth, PyData.eqv]
theorem in_filter {vs : List D} {p : D → Bool} {v : D} (h : ∀ v ∈ vs, VP 4 v) (hv : v ∈ vs) {S : Sto} : pIn false v (.lst (vs.filter p)) S = .ok (.bl (p v)) S := by
  have h1 : nsDs (vs.filter p) = true := nsDs_mem.mpr fun d hd => (h d (List.mem_filter.mp hd).1).ns
  have h2 := (h v hv).dep
  have h3 := inD_lst h1 (h v hv).ns (Nat.le_trans (Nat.min_le_right _ _) (by omega))
  simp only [pIn, deref_lst, h3]
  congr 2
  cases hp : p v with
  | true => simp [hv, hp]
  | false => simp [hp]
theorem lcL_mkI {call : Call} {tg : Tg} {fe : EE} {env : Env'} {rest : Sto} {c : Nat} {P : D → Prop} : ∀ (items acc : List D) (n : Nat) (st : DSt), DOk (n + items.length * c) st →
    (∀ x ∈ items, ∀ n st, DOk (n + c) st → ∃ env1 v st', bindT tg x env = some env1 ∧ fe call env1 (St st rest) = .ok v (St st' rest) ∧ P v ∧ DOk n st') →
    ∃ ds st', ds.length = items.length ∧ (∀ y ∈ ds, P y) ∧ lcL call tg cYes fe env items acc (St st rest) = .ok (acc ++ ds) (St st' rest) ∧ DOk n st'
  | [], acc, n, st, h, _ => ⟨[], st, rfl, by simp, by simp [lcL], by simpa using h⟩
  | z :: zs, acc, n, st, h, hf => by
    obtain ⟨env1, v, st1, h1, h2, h3, h4⟩ := hf z (by simp) (n + zs.length * c) st (h.le (by simp [Nat.add_mul]; omega))
    obtain ⟨ds, st', i1, i2, i3, i4⟩ := lcL_mkI zs (acc ++ [v]) n st1 h4 fun x hx => hf x (by simp [hx])
    refine ⟨v :: ds, st', by simp [i1], fun y hy => ?_, ?_, i4⟩
    · rcases List.mem_cons.mp hy with rfl | hy
      · exact h3
      · exact i2 y hy
    · have hy : cYes call env1 (St st rest) = .ok true (St st rest) := rfl
      simp only [lcL, h1, hy, R.bind_okk, if_true, h2, i3, List.append_assoc, List.singleton_append]
/-- a comprehension over a box, none of whose items passes -/
theorem lcB_none {call : Call} {tg : Tg} {ft : EB} {fe : EE} {env : Env'} {S : Sto} {l : Nat} {ds : List D} (hS : S[l]? = some (.lst ds)) (h : ∀ d ∈ ds, ∃ env1, bindT tg d env = some env1 ∧ ft call env1 S = .ok false S) : ∀ (m i : Nat), i + m = ds.length → ∀ j acc, lcB call tg ft fe env l (j + 1 + m) i acc S = .ok acc S
  | 0, i, hi, j, acc => by
    simp only [Nat.add_zero, lcB, hS]
    rw [List.getElem?_eq_none (by omega)]
  | m + 1, i, hi, j, acc => by
    have hl : i < ds.length := by omega
    obtain ⟨env1, h1, h2⟩ := h ds[i] (List.getElem_mem hl)
    rw [show j + 1 + (m + 1) = (j + 1 + m) + 1 by omega]
    simp only [lcB, hS, List.getElem?_eq_getElem hl, h1, h2, R.bind_okk, Bool.false_eq_true, if_false]
    exact lcB_none hS h m (i + 1) (by omega) j acc
theorem strKeys_bk {bk : List (Str × D)} (h : ∀ p ∈ bk, nmB p.1 = true) : strKeys (bkK bk) = some (bk.map (·.1)) := by
  induction bk with
  | nil => rfl
  | cons p l ih =>
    have := ih fun x hx => h x (by simp [hx])
    have hz : p.1.length ≤ sizeLine := Nat.le_trans (nm_ok (h p (by simp))).2.2 (by decide)
    simp only [bkK] at this
    simp [bkK, strKeys, hz, this]
theorem sorted_bk {bk : List (Str × D)} (h : BkP bk) {S : Sto} : pSorted false [.dic (bkK bk)] S = .ok (.lst ((sortS (bk.map (·.1))).map .str)) S := by
  have hl : (bk.map (·.1)).length < 64 := by have := h.len; simp; omega
  simp only [pSorted, deref_dic, strKeys_bk h.nmOk, if_pos hl, mkL]
  rfl
section
variable [At__law_begun rs ix]
def absI (i : Int) : Int := if i < 0 then -i else i
theorem begun_ok {ns : List Int} (hl : ns.length ≤ 63) (hk : 1 ≤ k) : ∃ st : DSt, runF rs k (ix 41) [.scr (ns.map .int)] [] = .ok (.ref 1) (St st []) ∧ DOk (2 ^ 39) st := by
  obtain ⟨k, rfl, hj⟩ := succ_of (n := 0) hk
  let cells := ns.map absI
  let large := (cells.filter fun i => decide (10 ^ 18 ≤ i)).map fun i => i - 10 ^ 18
  refine ⟨⟨large, cells, 0, 0⟩, ?_, ⟨fun x hx => ?_, ?_, fun x hx => ?_, ?_, by simp, by simp, by simp only; decide⟩⟩
  · rw [run_at At__law_begun.h]
    have c2 : r__law_begun_c2 ix (runF rs k) [some (.scr (ns.map .int)), none, none, none] [] = .ok (.lst (cells.map .int)) [] := by
      have := cLc_map (call := runF rs k) (tg := .nm 3) (vs := [3]) (fe := cPrim pAbs (cCons (cVar 3) cNil)) (fi := cSrcN 0) (env := [some (.scr (ns.map .int)), none, none, none]) (S := []) (items := ns.map .int)
        (fun d => match d with
          | .int i => .int (absI i)
          | d => d) rfl fun d hd => by
        obtain ⟨i, hi, rfl⟩ := List.mem_map.mp hd
        exact ⟨_, rfl, by simp! [pAbs, absI]⟩
      refine this.trans ?_
      simp only [List.map_map, cells]
      rfl
    have hpow : ∀ S : Sto, pPow (.int 10) (.int 18) S = .ok (.int (10 ^ 18)) S := fun S => pPow_ok ⟨by decide, by decide, by decide⟩
    have c1 : r__law_begun_c1 ix (runF rs k) [some (.scr (ns.map .int)), some (.lst (cells.map .int)), none, none] [] = .ok (.ref 0) [.lst (large.map .int)] := by
      have hlc := lcL_pure (call := runF rs k) (tg := .nm 3) (ft := cB (cBin pGe (cVar 3) (cBin pPow (cK (.int 10)) (cK (.int 18))))) (fe := cBin pSub (cVar 3) (cBin pPow (cK (.int 10)) (cK (.int 18)))) (env := [some (.scr (ns.map .int)), some (.lst (cells.map .int)), none, none]) (S := [])
        (p := fun d => match d with
          | .int i => decide (10 ^ 18 ≤ i)
          | _ => false) (g := fun d => match d with
          | .int i => .int (i - 10 ^ 18)
          | d => d) (items := cells.map .int) (acc := []) fun d hd => by
        obtain ⟨i, hi, rfl⟩ := List.mem_map.mp hd
        refine ⟨[some (.scr (ns.map .int)), some (.lst (cells.map .int)), none, some (.int i)], rfl, ?_, fun _ => ?_⟩
        · simp only [cB, cBin, cVar, cK, List.getElem?_cons_zero, List.getElem?_cons_succ, R.bind_okk, hpow, pGe, pCmpI]
        · simp only [cB, cBin, cVar, cK, List.getElem?_cons_zero, List.getElem?_cons_succ, R.bind_okk, hpow, pSub]
      have hw : wipeD [some (.scr (ns.map .int)), some (.lst (cells.map .int)), none, none] [3] = [some (.scr (ns.map .int)), some (.lst (cells.map .int)), none, none] := rfl
      have hsrc : cSrcN 1 (runF rs k) [some (.scr (ns.map .int)), some (.lst (cells.map .int)), none, none] [] = .ok (.frz (cells.map .int)) [] := rfl
      unfold r__law_begun_c1 cLc
      rw [hsrc, R.bind_okk]
      show (noExc (lcL _ _ _ _ _ _ _ _)).bind _ = _
      rw [hw, hlc]
      show mkL true _ [] = _
      simp only [mkL, if_true, List.nil_append, List.length_nil, large, List.filter_map, List.map_map]
      rfl
    have hx : r__law_begun ix (runF rs k) (startD 4 [.scr (ns.map .int)]) [] = .ok (.rt (.ref 1)) (St ⟨large, cells, 0, 0⟩ []) := by
      refine seq_asg (d := .lst (cells.map .int)) (S1 := []) c2 rfl ?_
      refine seq_asg (d := .ref 0) (S1 := [.lst (large.map .int)]) c1 rfl ?_
      refine seq_rt ?_
      have env0 : List.set (List.set (startD 4 [.scr (ns.map .int)]) 1 (some (.lst (cells.map .int)))) 2 (some (.ref 0)) = [some (.scr (ns.map .int)), some (.lst (cells.map .int)), some (.ref 0), none] := rfl
      rw [env0]
      simp! [cDic, cPCons, cPNil, noExc, keyOf, mkD, mergeD, putD, St]
    rw [hx]
    rfl
  · obtain ⟨i, hi, rfl⟩ := List.mem_map.mp hx
    have := (List.mem_filter.mp hi).2
    simp only [decide_eq_true_eq] at this
    omega
  · simp only [large, cells, List.length_map]
    exact Nat.le_trans (List.length_filter_le _ _) (by simpa using hl)
  · obtain ⟨i, hi, rfl⟩ := List.mem_map.mp hx
    unfold absI
    split <;> omega
  · simpa [cells] using hl
end
end Ev.Nv

set_option Elab.async false
set_option linter.all false
set_option maxRecDepth 100000
set_option maxHeartbeats 4000000
namespace Ev.K00
open PySem PySem.Spec PyProof.Rows L2 Ev.Nv
variable {ns : List Str} {ds : List D} {call : Call} {k : Nat} {S : Sto} {env : Env'}
/-- a call whose answer is told -/
theorem call1 {f n : Nat} {fr : EA} {xs : List D} {d : D} {call : Call} (h : fr call env S = .ok xs S) (hl : xs.length = n) (hc : clsDs 0 xs = true) (hr : call f xs [] = .ok d []) (hd : clsD 0 d = true) : cCall f n [] fr call env S = .ok d S := by
  unfold cCall
  rw [h, R.bind_okk]
  simp only [List.append_nil, hl, if_true, hc, hr, iso_okD hd, R.at_okk]
theorem fin_box {ds : List D} (h : clsDs 0 ds = true) : finish 0 0 (.ok (.rt (.ref 0)) [.lst ds]) = .ok (.lst ds) [] := by
  have e : frzD (frzR (kr0 0) [.lst ds] frzMost) (.ref 0) = some (.lst ds) := by
    show (frzDs _ ds).map D.lst = _
    rw [frzDs_pure _ h]
    rfl
  show done0 0 (.ref 0) [.lst ds] = _
  unfold done0
  rw [e]
  rfl

theorem ka1 : finish 0 0 (r__law_kinds_a ix call (startD 3 [.exc 1 ns ds]) []) = .ok (.lst [.str "BadArrows"]) [] := by kernel_rfl
theorem kb1 : finish 0 0 (r__law_kinds_b ix call (startD 3 [.exc 1 ns ds]) []) = .ok (.lst []) [] := by kernel_rfl
theorem ka2 : finish 0 0 (r__law_kinds_a ix call (startD 3 [.exc 2 ns ds]) []) = .ok (.lst [.str "BadBook"]) [] := by kernel_rfl
theorem kb2 : finish 0 0 (r__law_kinds_b ix call (startD 3 [.exc 2 ns ds]) []) = .ok (.lst []) [] := by kernel_rfl
theorem ka3 : finish 0 0 (r__law_kinds_a ix call (startD 3 [.exc 3 ns ds]) []) = .ok (.lst [.str "BadChoices"]) [] := by kernel_rfl
theorem kb3 : finish 0 0 (r__law_kinds_b ix call (startD 3 [.exc 3 ns ds]) []) = .ok (.lst []) [] := by kernel_rfl
theorem ka4 : finish 0 0 (r__law_kinds_a ix call (startD 3 [.exc 4 ns ds]) []) = .ok (.lst [.str "BadClaim"]) [] := by kernel_rfl
theorem kb4 : finish 0 0 (r__law_kinds_b ix call (startD 3 [.exc 4 ns ds]) []) = .ok (.lst []) [] := by kernel_rfl
theorem ka5 : finish 0 0 (r__law_kinds_a ix call (startD 3 [.exc 5 ns ds]) []) = .ok (.lst [.str "BadClosure"]) [] := by kernel_rfl
theorem kb5 : finish 0 0 (r__law_kinds_b ix call (startD 3 [.exc 5 ns ds]) []) = .ok (.lst []) [] := by kernel_rfl
theorem ka6 : finish 0 0 (r__law_kinds_a ix call (startD 3 [.exc 6 ns ds]) []) = .ok (.lst [.str "BadCode"]) [] := by kernel_rfl
theorem kb6 : finish 0 0 (r__law_kinds_b ix call (startD 3 [.exc 6 ns ds]) []) = .ok (.lst []) [] := by kernel_rfl
theorem ka7 : finish 0 0 (r__law_kinds_a ix call (startD 3 [.exc 7 ns ds]) []) = .ok (.lst [.str "BadConstants"]) [] := by kernel_rfl
theorem kb7 : finish 0 0 (r__law_kinds_b ix call (startD 3 [.exc 7 ns ds]) []) = .ok (.lst []) [] := by kernel_rfl
theorem ka8 : finish 0 0 (r__law_kinds_a ix call (startD 3 [.exc 8 ns ds]) []) = .ok (.lst [.str "BadExpression"]) [] := by kernel_rfl
theorem kb8 : finish 0 0 (r__law_kinds_b ix call (startD 3 [.exc 8 ns ds]) []) = .ok (.lst []) [] := by kernel_rfl
theorem ka9 : finish 0 0 (r__law_kinds_a ix call (startD 3 [.exc 9 ns ds]) []) = .ok (.lst [.str "BadForm"]) [] := by kernel_rfl
theorem kb9 : finish 0 0 (r__law_kinds_b ix call (startD 3 [.exc 9 ns ds]) []) = .ok (.lst []) [] := by kernel_rfl
theorem ka10 : finish 0 0 (r__law_kinds_a ix call (startD 3 [.exc 10 ns ds]) []) = .ok (.lst [.str "BadGiven"]) [] := by kernel_rfl
theorem kb10 : finish 0 0 (r__law_kinds_b ix call (startD 3 [.exc 10 ns ds]) []) = .ok (.lst []) [] := by kernel_rfl
theorem ka11 : finish 0 0 (r__law_kinds_a ix call (startD 3 [.exc 11 ns ds]) []) = .ok (.lst [.str "BadInequalities"]) [] := by kernel_rfl
theorem kb11 : finish 0 0 (r__law_kinds_b ix call (startD 3 [.exc 11 ns ds]) []) = .ok (.lst []) [] := by kernel_rfl
theorem ka12 : finish 0 0 (r__law_kinds_a ix call (startD 3 [.exc 12 ns ds]) []) = .ok (.lst [.str "BadKey"]) [] := by kernel_rfl
theorem kb12 : finish 0 0 (r__law_kinds_b ix call (startD 3 [.exc 12 ns ds]) []) = .ok (.lst []) [] := by kernel_rfl
theorem ka13 : finish 0 0 (r__law_kinds_a ix call (startD 3 [.exc 13 ns ds]) []) = .ok (.lst [.str "BadKind"]) [] := by kernel_rfl
theorem kb13 : finish 0 0 (r__law_kinds_b ix call (startD 3 [.exc 13 ns ds]) []) = .ok (.lst []) [] := by kernel_rfl
theorem ka14 : finish 0 0 (r__law_kinds_a ix call (startD 3 [.exc 14 ns ds]) []) = .ok (.lst [.str "BadLabel"]) [] := by kernel_rfl
theorem kb14 : finish 0 0 (r__law_kinds_b ix call (startD 3 [.exc 14 ns ds]) []) = .ok (.lst []) [] := by kernel_rfl
theorem ka15 : finish 0 0 (r__law_kinds_a ix call (startD 3 [.exc 15 ns ds]) []) = .ok (.lst [.str "BadLabels"]) [] := by kernel_rfl
theorem kb15 : finish 0 0 (r__law_kinds_b ix call (startD 3 [.exc 15 ns ds]) []) = .ok (.lst []) [] := by kernel_rfl
theorem ka16 : finish 0 0 (r__law_kinds_a ix call (startD 3 [.exc 16 ns ds]) []) = .ok (.lst [.str "BadMarks"]) [] := by kernel_rfl
theorem kb16 : finish 0 0 (r__law_kinds_b ix call (startD 3 [.exc 16 ns ds]) []) = .ok (.lst []) [] := by kernel_rfl
theorem ka17 : finish 0 0 (r__law_kinds_a ix call (startD 3 [.exc 17 ns ds]) []) = .ok (.lst [.str "BadMost"]) [] := by kernel_rfl
theorem kb17 : finish 0 0 (r__law_kinds_b ix call (startD 3 [.exc 17 ns ds]) []) = .ok (.lst []) [] := by kernel_rfl
theorem ka18 : finish 0 0 (r__law_kinds_a ix call (startD 3 [.exc 18 ns ds]) []) = .ok (.lst [.str "BadName"]) [] := by kernel_rfl
theorem kb18 : finish 0 0 (r__law_kinds_b ix call (startD 3 [.exc 18 ns ds]) []) = .ok (.lst []) [] := by kernel_rfl
theorem ka19 : finish 0 0 (r__law_kinds_a ix call (startD 3 [.exc 19 ns ds]) []) = .ok (.lst [.str "BadPath"]) [] := by kernel_rfl
theorem kb19 : finish 0 0 (r__law_kinds_b ix call (startD 3 [.exc 19 ns ds]) []) = .ok (.lst []) [] := by kernel_rfl
theorem ka20 : finish 0 0 (r__law_kinds_a ix call (startD 3 [.exc 20 ns ds]) []) = .ok (.lst [.str "BadPattern"]) [] := by kernel_rfl
theorem kb20 : finish 0 0 (r__law_kinds_b ix call (startD 3 [.exc 20 ns ds]) []) = .ok (.lst []) [] := by kernel_rfl
theorem ka21 : finish 0 0 (r__law_kinds_a ix call (startD 3 [.exc 21 ns ds]) []) = .ok (.lst [.str "BadPatterns"]) [] := by kernel_rfl
theorem kb21 : finish 0 0 (r__law_kinds_b ix call (startD 3 [.exc 21 ns ds]) []) = .ok (.lst []) [] := by kernel_rfl
theorem ka22 : finish 0 0 (r__law_kinds_a ix call (startD 3 [.exc 22 ns ds]) []) = .ok (.lst [.str "BadProgram"]) [] := by kernel_rfl
theorem kb22 : finish 0 0 (r__law_kinds_b ix call (startD 3 [.exc 22 ns ds]) []) = .ok (.lst []) [] := by kernel_rfl
theorem ka23 : finish 0 0 (r__law_kinds_a ix call (startD 3 [.exc 23 ns ds]) []) = .ok (.lst [.str "BadPut"]) [] := by kernel_rfl
theorem kb23 : finish 0 0 (r__law_kinds_b ix call (startD 3 [.exc 23 ns ds]) []) = .ok (.lst []) [] := by kernel_rfl
theorem ka24 : finish 0 0 (r__law_kinds_a ix call (startD 3 [.exc 24 ns ds]) []) = .ok (.lst [.str "BadPuts"]) [] := by kernel_rfl
theorem kb24 : finish 0 0 (r__law_kinds_b ix call (startD 3 [.exc 24 ns ds]) []) = .ok (.lst []) [] := by kernel_rfl
theorem ka25 : finish 0 0 (r__law_kinds_a ix call (startD 3 [.exc 25 ns ds]) []) = .ok (.lst []) [] := by kernel_rfl
theorem kb25 : finish 0 0 (r__law_kinds_b ix call (startD 3 [.exc 25 ns ds]) []) = .ok (.lst [.str "BadRunValue"]) [] := by kernel_rfl
theorem ka26 : finish 0 0 (r__law_kinds_a ix call (startD 3 [.exc 26 ns ds]) []) = .ok (.lst []) [] := by kernel_rfl
theorem kb26 : finish 0 0 (r__law_kinds_b ix call (startD 3 [.exc 26 ns ds]) []) = .ok (.lst [.str "BadShape"]) [] := by kernel_rfl
theorem ka27 : finish 0 0 (r__law_kinds_a ix call (startD 3 [.exc 27 ns ds]) []) = .ok (.lst []) [] := by kernel_rfl
theorem kb27 : finish 0 0 (r__law_kinds_b ix call (startD 3 [.exc 27 ns ds]) []) = .ok (.lst [.str "BadSize"]) [] := by kernel_rfl
theorem ka28 : finish 0 0 (r__law_kinds_a ix call (startD 3 [.exc 28 ns ds]) []) = .ok (.lst []) [] := by kernel_rfl
theorem kb28 : finish 0 0 (r__law_kinds_b ix call (startD 3 [.exc 28 ns ds]) []) = .ok (.lst [.str "BadText"]) [] := by kernel_rfl
theorem ka29 : finish 0 0 (r__law_kinds_a ix call (startD 3 [.exc 29 ns ds]) []) = .ok (.lst []) [] := by kernel_rfl
theorem kb29 : finish 0 0 (r__law_kinds_b ix call (startD 3 [.exc 29 ns ds]) []) = .ok (.lst [.str "BadTree"]) [] := by kernel_rfl
theorem ka30 : finish 0 0 (r__law_kinds_a ix call (startD 3 [.exc 30 ns ds]) []) = .ok (.lst []) [] := by kernel_rfl
theorem kb30 : finish 0 0 (r__law_kinds_b ix call (startD 3 [.exc 30 ns ds]) []) = .ok (.lst [.str "BadType"]) [] := by kernel_rfl
theorem ka31 : finish 0 0 (r__law_kinds_a ix call (startD 3 [.exc 31 ns ds]) []) = .ok (.lst []) [] := by kernel_rfl
theorem kb31 : finish 0 0 (r__law_kinds_b ix call (startD 3 [.exc 31 ns ds]) []) = .ok (.lst [.str "BadValue"]) [] := by kernel_rfl
theorem ka32 : finish 0 0 (r__law_kinds_a ix call (startD 3 [.exc 32 ns ds]) []) = .ok (.lst []) [] := by kernel_rfl
theorem kb32 : finish 0 0 (r__law_kinds_b ix call (startD 3 [.exc 32 ns ds]) []) = .ok (.lst [.str "BadValues"]) [] := by kernel_rfl
theorem ka33 : finish 0 0 (r__law_kinds_a ix call (startD 3 [.exc 33 ns ds]) []) = .ok (.lst []) [] := by kernel_rfl
theorem kb33 : finish 0 0 (r__law_kinds_b ix call (startD 3 [.exc 33 ns ds]) []) = .ok (.lst [.str "BadVariable"]) [] := by kernel_rfl
theorem ka34 : finish 0 0 (r__law_kinds_a ix call (startD 3 [.exc 34 ns ds]) []) = .ok (.lst []) [] := by kernel_rfl
theorem kb34 : finish 0 0 (r__law_kinds_b ix call (startD 3 [.exc 34 ns ds]) []) = .ok (.lst [.str "BadVariables"]) [] := by kernel_rfl
theorem ka35 : finish 0 0 (r__law_kinds_a ix call (startD 3 [.exc 35 ns ds]) []) = .ok (.lst []) [] := by kernel_rfl
theorem kb35 : finish 0 0 (r__law_kinds_b ix call (startD 3 [.exc 35 ns ds]) []) = .ok (.lst [.str "IsHere"]) [] := by kernel_rfl
theorem ka36 : finish 0 0 (r__law_kinds_a ix call (startD 3 [.exc 36 ns ds]) []) = .ok (.lst []) [] := by kernel_rfl
theorem kb36 : finish 0 0 (r__law_kinds_b ix call (startD 3 [.exc 36 ns ds]) []) = .ok (.lst [.str "Missing"]) [] := by kernel_rfl
theorem ka37 : finish 0 0 (r__law_kinds_a ix call (startD 3 [.exc 37 ns ds]) []) = .ok (.lst []) [] := by kernel_rfl
theorem kb37 : finish 0 0 (r__law_kinds_b ix call (startD 3 [.exc 37 ns ds]) []) = .ok (.lst [.str "NoGraph"]) [] := by kernel_rfl
theorem ka38 : finish 0 0 (r__law_kinds_a ix call (startD 3 [.exc 38 ns ds]) []) = .ok (.lst []) [] := by kernel_rfl
theorem kb38 : finish 0 0 (r__law_kinds_b ix call (startD 3 [.exc 38 ns ds]) []) = .ok (.lst [.str "NoRecord"]) [] := by kernel_rfl
theorem ka39 : finish 0 0 (r__law_kinds_a ix call (startD 3 [.exc 39 ns ds]) []) = .ok (.lst []) [] := by kernel_rfl
theorem kb39 : finish 0 0 (r__law_kinds_b ix call (startD 3 [.exc 39 ns ds]) []) = .ok (.lst [.str "NotFunctions"]) [] := by kernel_rfl
theorem ka40 : finish 0 0 (r__law_kinds_a ix call (startD 3 [.exc 40 ns ds]) []) = .ok (.lst []) [] := by kernel_rfl
theorem kb40 : finish 0 0 (r__law_kinds_b ix call (startD 3 [.exc 40 ns ds]) []) = .ok (.lst [.str "NotHere"]) [] := by kernel_rfl
theorem ka41 : finish 0 0 (r__law_kinds_a ix call (startD 3 [.exc 41 ns ds]) []) = .ok (.lst []) [] := by kernel_rfl
theorem kb41 : finish 0 0 (r__law_kinds_b ix call (startD 3 [.exc 41 ns ds]) []) = .ok (.lst [.str "NotTaken"]) [] := by kernel_rfl
theorem ka42 : finish 0 0 (r__law_kinds_a ix call (startD 3 [.exc 42 ns ds]) []) = .ok (.lst []) [] := by kernel_rfl
theorem kb42 : finish 0 0 (r__law_kinds_b ix call (startD 3 [.exc 42 ns ds]) []) = .ok (.lst [.str "NotThere"]) [] := by kernel_rfl
theorem ka43 : finish 0 0 (r__law_kinds_a ix call (startD 3 [.exc 43 ns ds]) []) = .ok (.lst []) [] := by kernel_rfl
theorem kb43 : finish 0 0 (r__law_kinds_b ix call (startD 3 [.exc 43 ns ds]) []) = .ok (.lst [.str "NothingDone"]) [] := by kernel_rfl
theorem ka44 : finish 0 0 (r__law_kinds_a ix call (startD 3 [.exc 44 ns ds]) []) = .ok (.lst []) [] := by kernel_rfl
theorem kb44 : finish 0 0 (r__law_kinds_b ix call (startD 3 [.exc 44 ns ds]) []) = .ok (.lst [.str "NothingUndone"]) [] := by kernel_rfl
theorem ka45 : finish 0 0 (r__law_kinds_a ix call (startD 3 [.exc 45 ns ds]) []) = .ok (.lst []) [] := by kernel_rfl
theorem kb45 : finish 0 0 (r__law_kinds_b ix call (startD 3 [.exc 45 ns ds]) []) = .ok (.lst [.str "Refused"]) [] := by kernel_rfl
theorem ka46 : finish 0 0 (r__law_kinds_a ix call (startD 3 [.exc 46 ns ds]) []) = .ok (.lst []) [] := by kernel_rfl
theorem kb46 : finish 0 0 (r__law_kinds_b ix call (startD 3 [.exc 46 ns ds]) []) = .ok (.lst [.str "Rigid"]) [] := by kernel_rfl
theorem ka47 : finish 0 0 (r__law_kinds_a ix call (startD 3 [.exc 47 ns ds]) []) = .ok (.lst []) [] := by kernel_rfl
theorem kb47 : finish 0 0 (r__law_kinds_b ix call (startD 3 [.exc 47 ns ds]) []) = .ok (.lst [.str "TooMany"]) [] := by kernel_rfl
theorem alone_of {c : Nat} {n : Str} {la lb : List D} (ha : ∀ call : Call, finish 0 0 (r__law_kinds_a ix call (startD 3 [.exc c ns ds]) []) = .ok (.lst la) []) (hb : ∀ call : Call, finish 0 0 (r__law_kinds_b ix call (startD 3 [.exc c ns ds]) []) = .ok (.lst lb) [])
    (ca : clsDs 0 la = true) (cb : clsDs 0 lb = true) (hp : ∀ S : Sto, pAdd false (.lst la) (.lst lb) S = .ok (.lst [.str n]) S) (he : ∀ S : Sto, pEq false (.lst [.str n]) (.lst [.str n]) S = .ok (.bl true) S) (h0 : subC c 0 = true) (hc : clsDs 0 ds = true) :
    runF rs (k + 2) (ix 59) [.exc c ns ds, .str n] [] = .ok (.bl true) [] := by
  have h54 : runF rs (k + 1) (ix 54) [.exc c ns ds] [] = .ok (.lst la) [] := by rw [run_at at__law_kinds_a]; exact ha _
  have h55 : runF rs (k + 1) (ix 55) [.exc c ns ds] [] = .ok (.lst lb) [] := by rw [run_at at__law_kinds_b]; exact hb _
  have hcl : clsDs 0 [.exc c ns ds] = true := by simp [clsDs, clsD, hc]
  rw [run_at at__law_is_alone]
  refine fin_pure (d := .bl true) ?_ rfl
  refine seq_asg (d := .lst [.str n]) (S1 := []) (env1 := [some (.exc c ns ds), some (.str n), some (.lst [.str n])]) ?_ rfl (seq_rt ?_)
  · have e1 := call1 (call := runF rs (k + 1)) (env := startD 3 [.exc c ns ds, .str n]) (S := []) (f := ix 54) (n := 1) (fr := cCons (cVar 0) cNil) (xs := [.exc c ns ds]) rfl rfl hcl h54 (by simp only [clsD]; exact ca)
    have e2 := call1 (call := runF rs (k + 1)) (env := startD 3 [.exc c ns ds, .str n]) (S := []) (f := ix 55) (n := 1) (fr := cCons (cVar 0) cNil) (xs := [.exc c ns ds]) rfl rfl hcl h55 (by simp only [clsD]; exact cb)
    unfold cBin
    rw [e1, R.bind_okk, e2, R.bind_okk, hp]
  · have e1 : cBin (pEq false) (cVar 2) (cPrim (pLst false) (cCons (cVar 1) cNil)) (runF rs (k + 1)) [some (.exc c ns ds), some (.str n), some (.lst [.str n])] [] = .ok (.bl true) [] := he []
    have e2 : cPrim pIsi (cCons (cVar 0) (cCons (cK (.cls 0)) cNil)) (runF rs (k + 1)) [some (.exc c ns ds), some (.str n), some (.lst [.str n])] [] = .ok (.bl true) [] := by
      show R.ok (D.bl (subC c 0)) [] = _
      rw [h0]
    have e3 : cPrim pIsi (cCons (cVar 0) (cCons (cK (.ty "ValueError")) cNil)) (runF rs (k + 1)) [some (.exc c ns ds), some (.str n), some (.lst [.str n])] [] = .ok (.bl true) [] := rfl
    simp only [cAndV, e1, e2, e3, R.bind_okk, truthD, deref_bl, if_true]

def errs0 : List (Nat × Str) := [(1, "BadArrows"), (2, "BadBook"), (3, "BadChoices"), (4, "BadClaim"), (5, "BadClosure"), (6, "BadCode"), (7, "BadConstants"), (8, "BadExpression"), (9, "BadForm"), (10, "BadGiven"), (11, "BadInequalities"), (12, "BadKey"), (13, "BadKind"), (14, "BadLabel"), (15, "BadLabels"), (16, "BadMarks")]
def errs1 : List (Nat × Str) := [(17, "BadMost"), (18, "BadName"), (19, "BadPath"), (20, "BadPattern"), (21, "BadPatterns"), (22, "BadProgram"), (23, "BadPut"), (24, "BadPuts"), (25, "BadRunValue"), (26, "BadShape"), (27, "BadSize"), (28, "BadText"), (29, "BadTree"), (30, "BadType"), (31, "BadValue"), (32, "BadValues")]
def errs2 : List (Nat × Str) := [(33, "BadVariable"), (34, "BadVariables"), (35, "IsHere"), (36, "Missing"), (37, "NoGraph"), (38, "NoRecord"), (39, "NotFunctions"), (40, "NotHere"), (41, "NotTaken"), (42, "NotThere"), (43, "NothingDone"), (44, "NothingUndone"), (45, "Refused"), (46, "Rigid"), (47, "TooMany")]
def errs : List (Nat × Str) := errs0 ++ errs1 ++ errs2
theorem alone_ok : ∀ p ∈ errs, ∀ (ns : List Str) (ds : List D) (k : Nat), clsDs 0 ds = true → runF rs (k + 2) (ix 59) [.exc p.1 ns ds, .str p.2] [] = .ok (.bl true) [] := by
  intro p hp ns ds k hc
  simp only [errs, errs0, errs1, errs2, List.cons_append, List.nil_append, List.mem_cons, List.not_mem_nil, or_false] at hp
  rcases hp with rfl | rfl | rfl | rfl | rfl | rfl | rfl | rfl | rfl | rfl | rfl | rfl | rfl | rfl | rfl | rfl | rfl | rfl | rfl | rfl | rfl | rfl | rfl | rfl | rfl | rfl | rfl | rfl | rfl | rfl | rfl | rfl | rfl | rfl | rfl | rfl | rfl | rfl | rfl | rfl | rfl | rfl | rfl | rfl | rfl | rfl | rfl
  · exact alone_of (fun _ => ka1) (fun _ => kb1) rfl rfl (fun _ => by kernel_rfl) (fun _ => by kernel_rfl) rfl hc
  · exact alone_of (fun _ => ka2) (fun _ => kb2) rfl rfl (fun _ => by kernel_rfl) (fun _ => by kernel_rfl) rfl hc
  · exact alone_of (fun _ => ka3) (fun _ => kb3) rfl rfl (fun _ => by kernel_rfl) (fun _ => by kernel_rfl) rfl hc
  · exact alone_of (fun _ => ka4) (fun _ => kb4) rfl rfl (fun _ => by kernel_rfl) (fun _ => by kernel_rfl) rfl hc
  · exact alone_of (fun _ => ka5) (fun _ => kb5) rfl rfl (fun _ => by kernel_rfl) (fun _ => by kernel_rfl) rfl hc
  · exact alone_of (fun _ => ka6) (fun _ => kb6) rfl rfl (fun _ => by kernel_rfl) (fun _ => by kernel_rfl) rfl hc
  · exact alone_of (fun _ => ka7) (fun _ => kb7) rfl rfl (fun _ => by kernel_rfl) (fun _ => by kernel_rfl) rfl hc
  · exact alone_of (fun _ => ka8) (fun _ => kb8) rfl rfl (fun _ => by kernel_rfl) (fun _ => by kernel_rfl) rfl hc
  · exact alone_of (fun _ => ka9) (fun _ => kb9) rfl rfl (fun _ => by kernel_rfl) (fun _ => by kernel_rfl) rfl hc
  · exact alone_of (fun _ => ka10) (fun _ => kb10) rfl rfl (fun _ => by kernel_rfl) (fun _ => by kernel_rfl) rfl hc
  · exact alone_of (fun _ => ka11) (fun _ => kb11) rfl rfl (fun _ => by kernel_rfl) (fun _ => by kernel_rfl) rfl hc
  · exact alone_of (fun _ => ka12) (fun _ => kb12) rfl rfl (fun _ => by kernel_rfl) (fun _ => by kernel_rfl) rfl hc
  · exact alone_of (fun _ => ka13) (fun _ => kb13) rfl rfl (fun _ => by kernel_rfl) (fun _ => by kernel_rfl) rfl hc
  · exact alone_of (fun _ => ka14) (fun _ => kb14) rfl rfl (fun _ => by kernel_rfl) (fun _ => by kernel_rfl) rfl hc
  · exact alone_of (fun _ => ka15) (fun _ => kb15) rfl rfl (fun _ => by kernel_rfl) (fun _ => by kernel_rfl) rfl hc
  · exact alone_of (fun _ => ka16) (fun _ => kb16) rfl rfl (fun _ => by kernel_rfl) (fun _ => by kernel_rfl) rfl hc
  · exact alone_of (fun _ => ka17) (fun _ => kb17) rfl rfl (fun _ => by kernel_rfl) (fun _ => by kernel_rfl) rfl hc
  · exact alone_of (fun _ => ka18) (fun _ => kb18) rfl rfl (fun _ => by kernel_rfl) (fun _ => by kernel_rfl) rfl hc
  · exact alone_of (fun _ => ka19) (fun _ => kb19) rfl rfl (fun _ => by kernel_rfl) (fun _ => by kernel_rfl) rfl hc
  · exact alone_of (fun _ => ka20) (fun _ => kb20) rfl rfl (fun _ => by kernel_rfl) (fun _ => by kernel_rfl) rfl hc
  · exact alone_of (fun _ => ka21) (fun _ => kb21) rfl rfl (fun _ => by kernel_rfl) (fun _ => by kernel_rfl) rfl hc
  · exact alone_of (fun _ => ka22) (fun _ => kb22) rfl rfl (fun _ => by kernel_rfl) (fun _ => by kernel_rfl) rfl hc
  · exact alone_of (fun _ => ka23) (fun _ => kb23) rfl rfl (fun _ => by kernel_rfl) (fun _ => by kernel_rfl) rfl hc
  · exact alone_of (fun _ => ka24) (fun _ => kb24) rfl rfl (fun _ => by kernel_rfl) (fun _ => by kernel_rfl) rfl hc
  · exact alone_of (fun _ => ka25) (fun _ => kb25) rfl rfl (fun _ => by kernel_rfl) (fun _ => by kernel_rfl) rfl hc
  · exact alone_of (fun _ => ka26) (fun _ => kb26) rfl rfl (fun _ => by kernel_rfl) (fun _ => by kernel_rfl) rfl hc
  · exact alone_of (fun _ => ka27) (fun _ => kb27) rfl rfl (fun _ => by kernel_rfl) (fun _ => by kernel_rfl) rfl hc
  · exact alone_of (fun _ => ka28) (fun _ => kb28) rfl rfl (fun _ => by kernel_rfl) (fun _ => by kernel_rfl) rfl hc
  · exact alone_of (fun _ => ka29) (fun _ => kb29) rfl rfl (fun _ => by kernel_rfl) (fun _ => by kernel_rfl) rfl hc
  · exact alone_of (fun _ => ka30) (fun _ => kb30) rfl rfl (fun _ => by kernel_rfl) (fun _ => by kernel_rfl) rfl hc
  · exact alone_of (fun _ => ka31) (fun _ => kb31) rfl rfl (fun _ => by kernel_rfl) (fun _ => by kernel_rfl) rfl hc
  · exact alone_of (fun _ => ka32) (fun _ => kb32) rfl rfl (fun _ => by kernel_rfl) (fun _ => by kernel_rfl) rfl hc
  · exact alone_of (fun _ => ka33) (fun _ => kb33) rfl rfl (fun _ => by kernel_rfl) (fun _ => by kernel_rfl) rfl hc
  · exact alone_of (fun _ => ka34) (fun _ => kb34) rfl rfl (fun _ => by kernel_rfl) (fun _ => by kernel_rfl) rfl hc
  · exact alone_of (fun _ => ka35) (fun _ => kb35) rfl rfl (fun _ => by kernel_rfl) (fun _ => by kernel_rfl) rfl hc
  · exact alone_of (fun _ => ka36) (fun _ => kb36) rfl rfl (fun _ => by kernel_rfl) (fun _ => by kernel_rfl) rfl hc
  · exact alone_of (fun _ => ka37) (fun _ => kb37) rfl rfl (fun _ => by kernel_rfl) (fun _ => by kernel_rfl) rfl hc
  · exact alone_of (fun _ => ka38) (fun _ => kb38) rfl rfl (fun _ => by kernel_rfl) (fun _ => by kernel_rfl) rfl hc
  · exact alone_of (fun _ => ka39) (fun _ => kb39) rfl rfl (fun _ => by kernel_rfl) (fun _ => by kernel_rfl) rfl hc
  · exact alone_of (fun _ => ka40) (fun _ => kb40) rfl rfl (fun _ => by kernel_rfl) (fun _ => by kernel_rfl) rfl hc
  · exact alone_of (fun _ => ka41) (fun _ => kb41) rfl rfl (fun _ => by kernel_rfl) (fun _ => by kernel_rfl) rfl hc
  · exact alone_of (fun _ => ka42) (fun _ => kb42) rfl rfl (fun _ => by kernel_rfl) (fun _ => by kernel_rfl) rfl hc
  · exact alone_of (fun _ => ka43) (fun _ => kb43) rfl rfl (fun _ => by kernel_rfl) (fun _ => by kernel_rfl) rfl hc
  · exact alone_of (fun _ => ka44) (fun _ => kb44) rfl rfl (fun _ => by kernel_rfl) (fun _ => by kernel_rfl) rfl hc
  · exact alone_of (fun _ => ka45) (fun _ => kb45) rfl rfl (fun _ => by kernel_rfl) (fun _ => by kernel_rfl) rfl hc
  · exact alone_of (fun _ => ka46) (fun _ => kb46) rfl rfl (fun _ => by kernel_rfl) (fun _ => by kernel_rfl) rfl hc
  · exact alone_of (fun _ => ka47) (fun _ => kb47) rfl rfl (fun _ => by kernel_rfl) (fun _ => by kernel_rfl) rfl hc
/-- the plain ones -/
def la0 : List (Nat × Str) := [(1, "BadArrows"), (2, "BadBook"), (3, "BadChoices"), (4, "BadClaim"), (5, "BadClosure"), (6, "BadCode"), (7, "BadConstants"), (8, "BadExpression"), (9, "BadForm"), (10, "BadGiven"), (11, "BadInequalities"), (12, "BadKey"), (13, "BadKind"), (14, "BadLabel"), (15, "BadLabels"), (16, "BadMarks")]
def la1 : List (Nat × Str) := [(17, "BadMost"), (18, "BadName"), (19, "BadPath"), (20, "BadPattern"), (21, "BadPatterns"), (22, "BadProgram"), (23, "BadPut"), (24, "BadPuts")]
def la : List (Nat × Str) := la0 ++ la1
def lb0 : List (Nat × Str) := [(25, "BadRunValue"), (26, "BadShape"), (27, "BadSize"), (29, "BadTree"), (30, "BadType"), (31, "BadValue"), (32, "BadValues"), (33, "BadVariable"), (34, "BadVariables"), (35, "IsHere"), (37, "NoGraph"), (38, "NoRecord"), (39, "NotFunctions"), (40, "NotHere"), (41, "NotTaken"), (43, "NothingDone")]
def lb1 : List (Nat × Str) := [(44, "NothingUndone"), (45, "Refused"), (46, "Rigid")]
def lb : List (Nat × Str) := lb0 ++ lb1
def mkp (p : Nat × Str) : D := .tup [.str p.2, .exc p.1 [] []]
theorem pa {x : Str} : finish 0 0 (r__law_plain_a ix call (startD 2 [.str x]) []) = .ok (.lst (la.map mkp)) [] := by kernel_rfl
theorem pb {x : Str} : finish 0 0 (r__law_plain_b ix call (startD 2 [.str x]) []) = .ok (.lst (lb.map mkp)) [] := by kernel_rfl
def lh (d : D) : List D := [.tup [.str "BadText", .exc 28 ["index"] [d], d], .tup [.str "BadText", .exc 28 ["index"] [d], d], .tup [.str "Missing", .exc 36 ["name"] [d], d], .tup [.str "Missing", .exc 36 ["name"] [d], d], .tup [.str "NotThere", .exc 42 ["path"] [d], d], .tup [.str "NotThere", .exc 42 ["path"] [d], d], .tup [.str "TooMany", .exc 47 ["most"] [d], d], .tup [.str "TooMany", .exc 47 ["most"] [d], d]]
theorem ph {d : D} : r__law_held ix call (startD 3 [d]) [] = .ok (.rt (.ref 0)) [.lst (lh d)] := by kernel_rfl
end Ev.K00

set_option Elab.async false
set_option linter.all false
set_option maxRecDepth 100000
set_option maxHeartbeats 4000000
namespace Ev.K00
open PySem PySem.Spec PyProof.Rows L2 Ev.Nv

/-- a call with the state -/
theorem callS {f n : Nat} {fr : EA} {xs : List D} {d : D} {call : Call} {env : Env'} {S S' S2 : Sto} (h : fr call env S = .ok xs S') (hl : xs.length = n) (hc : clsDs 0 xs = false) (hr : call f xs S' = .ok d S2) : cCall f n [] fr call env S = .ok d S2 := by
  unfold cCall
  rw [h, R.bind_okk]
  simp only [List.append_nil, hl, if_true, hc, Bool.false_eq_true, if_false, hr, R.at_okk]
/-! ### repr -/
def rpB (d : D) : Bool := match pRepr [d] [] with
  | .ok (.str s) _ => PyData.strOk s
  | _ => false
def noRef : D → Bool
  | .ref _ => false
  | _ => true
theorem repr_any {d : D} (h : noRef d = true) (hr : rpB d = true) : ∃ s, PyData.strOk s = true ∧ ∀ S, pRepr [d] S = .ok (.str s) S := by
  unfold rpB at hr
  split at hr
  · rename_i s S' e
    refine ⟨s, hr, fun S => ?_⟩
    have hd : ∀ S : Sto, deref S d = d := fun S => by cases d <;> first | rfl | cases h
    unfold pRepr at e ⊢
    simp only [hd] at e ⊢
    split at e
    · split at e
      · rename_i hc
        cases e
        simp only [if_pos hc]
      · cases e
    · split at e
      · unfold showD at e ⊢
        split at e
        · rename_i hc
          cases e
          simp only [if_pos hc]
        · cases e
      · cases e
  · cases hr
theorem eq_strN {s : Str} (h : PyData.strOk s = true) {S : Sto} : pEq true (.str s) (.str s) S = .ok (.bl false) S := by
  have e : eqD (.str s) (.str s) = some true := by rw [eqD_str h h]; simp
  have d1 : deref S (.str s) = .str s := rfl
  unfold pEq
  rw [d1, e]
  rfl
/-- what an item must be -/
def ItP (d : D) : Prop := clsD 0 d = true ∧ noRef d = true ∧ rpB d = true
def odds : List D := [.non, .bl true, .bl false, .str "", .str "A", .lst [], .dic [], .tup [.non], .tup [.str "a", .int 1], .lst [.lst [.int 0]], .tup [.bl true], .tup [.tup []], .tup [.str "pair", .int 1], .str "toolongname"]
theorem odds_ok : ∀ d ∈ odds, ItP d := by
  have h : (odds.all fun d => clsD 0 d && (noRef d && rpB d)) = true := by decide +kernel
  intro d hd
  have := List.all_eq_true.mp h d hd
  simp only [Bool.and_eq_true] at this
  exact ⟨this.1, this.2.1, this.2.2⟩
theorem ints_ok : ∀ r : Int, 0 ≤ r → r < 41 → ItP (.int (r - 20)) := by
  have h : ((List.range 41).all fun n => rpB (.int ((n : Int) - 20))) = true := by decide +kernel
  intro r h0 h1
  obtain ⟨n, rfl⟩ := Int.eq_ofNat_of_zero_le h0
  refine ⟨rfl, rfl, List.all_eq_true.mp h n (by simpa using (by omega : n < 41))⟩
theorem odd_mk {k : Nat} (hk : 3 ≤ k) : Mk rs k (ix 53) [.ref 1] 1 fun d => d ∈ odds := fun n st rest hd hr => by
  obtain ⟨k, rfl⟩ : ∃ j, k = j + 1 := ⟨k - 1, by omega⟩
  obtain ⟨d, st', h1, h2, h3, h4⟩ := pick_mk (rs := rs) (ix := ix) (k := k) (ds := odds) (by decide) (by decide) (by decide +kernel) (by omega) n st rest hd hr
  refine ⟨d, st', ?_, h2, h3, h4⟩
  rw [run_at at__law_odd]
  have hx : r__law_odd ix (runF rs k) (startD 1 [.ref 1]) (St st rest) = .ok (.rt d) (St st' rest) := seq_rt (callS (xs := [.ref 1, .lst odds]) (S' := St st rest) rfl rfl rfl h1)
  have := fin_cut (n := (St st rest).length) hx h3 (by
    have q := St_cl (st := st') hr
    unfold Cl at q
    rw [St_len] at q ⊢
    have e : (St st' rest).take (rest.length + 2) = St st' rest := List.take_of_length_le (by rw [St_len]; exact Nat.le_refl _)
    rw [e]
    exact q)
  rw [this, St_len]
  congr 1
  exact List.take_of_length_le (by rw [St_len]; exact Nat.le_refl _)
/-! ### the text -/
def lets : List D := [.str "a", .str "b", .str " ", .str "0", .str "-"]
theorem lets_strs : ∀ ds : List D, (∀ d ∈ ds, d ∈ lets) → ∃ ys, strsJ ds = some ys ∧ ys.length = ds.length ∧ ∀ y ∈ ys, y.length = 1
  | [], _ => ⟨[], rfl, rfl, by simp⟩
  | d :: ds, h => by
    obtain ⟨ys, h1, h2, h3⟩ := lets_strs ds fun x hx => h x (List.mem_cons_of_mem _ hx)
    have hd := h d List.mem_cons_self
    simp only [lets, List.mem_cons, List.not_mem_nil, or_false] at hd
    have key : ∀ x : Str, x.length = 1 → d = .str x → ∃ zs, strsJ (d :: ds) = some zs ∧ zs.length = (d :: ds).length ∧ ∀ y ∈ zs, y.length = 1 := fun x hx e => by
      subst e
      exact ⟨x :: ys, by simp [strsJ, h1], by simp [h2], fun y hy => by
        rcases List.mem_cons.mp hy with rfl | hy
        · exact hx
        · exact h3 y hy⟩
    rcases hd with e | e | e | e | e <;> exact key _ rfl e
theorem sum_ones : ∀ ys : List Str, (∀ y ∈ ys, y.length = 1) → (ys.map (·.length)).sum = ys.length
  | [], _ => rfl
  | y :: ys, h => by
    rw [List.map_cons, List.sum_cons, h y List.mem_cons_self, sum_ones ys fun x hx => h x (List.mem_cons_of_mem _ hx), List.length_cons]
    omega
theorem join_len : ∀ ys : List Str, (PySem.Str.join "" ys).length ≤ (ys.map (·.length)).sum
  | [] => Nat.le_refl _
  | [p] => by simp [PySem.Str.join]
  | p :: q :: r => by
    have ih := join_len (q :: r)
    have e : PySem.Str.join "" (p :: q :: r) = p ++ "" ++ PySem.Str.join "" (q :: r) := by first | rfl | (simp only [PySem.Str.join]; rfl)
    rw [e, str_len_app, str_len_app, List.map_cons, List.sum_cons]
    have e0 : ("" : Str).length = 0 := rfl
    omega
theorem join_ok {ds : List D} (h : ∀ d ∈ ds, d ∈ lets) (hl : ds.length ≤ 8) {S : Sto} : ∃ x, pJoin (.str "") (.lst ds) S = .ok (.str x) S := by
  obtain ⟨ys, h1, h2, h3⟩ := lets_strs ds h
  have hs := sum_ones ys h3
  refine ⟨Txt.join "" ys, ?_⟩
  have hj : (Txt.join "" ys).length ≤ 8 := by
    rw [TL.join_eq]
    have := join_len ys
    omega
  have hz : (8 : Nat) ≤ sizeLine := by rw [sizeLine_eq]; omega
  have e0 : ("" : Str).length = 0 := rfl
  have hc : (ys.map (·.length)).sum + ys.length * ("" : Str).length ≤ 16777216 ∧ (Txt.join "" ys).length ≤ sizeLine := ⟨by rw [hs, e0]; omega, by omega⟩
  have d1 : deref S (.lst ds) = .lst ds := rfl
  unfold pJoin
  simp only [d1, h1, if_pos hc]
/-! ### one turn -/
theorem lcL_no {call : Call} {tg : Tg} {ft : EB} {fe : EE} {env : Env'} {S : Sto} : ∀ (items acc : List D), (∀ d ∈ items, ∃ env1, bindT tg d env = some env1 ∧ ft call env1 S = .ok false S) → lcL call tg ft fe env items acc S = .ok acc S
  | [], acc, _ => rfl
  | d :: ds, acc, h => by
    obtain ⟨env1, h1, h2⟩ := h d List.mem_cons_self
    simp only [lcL, h1, h2, R.bind_okk, Bool.false_eq_true, if_false]
    exact lcL_no ds acc fun x hx => h x (List.mem_cons_of_mem _ hx)
theorem forL_nx {call : Call} {tg : Tg} {fb : ES} {S : Sto} (P : Env' → Prop) : ∀ (items : List D) (env : Env'), P env → (∀ d ∈ items, ∀ env, P env → ∃ env1 env2, bindT tg d env = some env1 ∧ fb call env1 S = .ok (.nx env2) S ∧ P env2) →
    ∃ env', forL call tg fb items env S = .ok (.nx env') S ∧ P env'
  | [], env, h, _ => ⟨env, rfl, h⟩
  | d :: ds, env, h, hf => by
    obtain ⟨env1, env2, h1, h2, h3⟩ := hf d List.mem_cons_self env h
    obtain ⟨env', h4, h5⟩ := forL_nx P ds env2 h3 fun x hx => hf x (List.mem_cons_of_mem _ hx)
    exact ⟨env', by simp only [forL, h1, h2, turnF, R.bind_okk, h4], h5⟩
/-- the names of the law, the state at 1 -/
structure EnvL (env : Env') : Prop where
  len : env.length = 10
  st : env[1]? = some (some (.ref 1))
theorem EnvL.set {env : Env'} (h : EnvL env) {i : Nat} (hi : i ≠ 1) (x : Option D) : EnvL (env.set i x) :=
  ⟨by rw [List.length_set]; exact h.len, by rw [List.getElem?_set_ne hi]; exact h.st⟩
theorem getSet {env : Env'} {i : Nat} {x : Option D} (h : i < env.length) : (env.set i x)[i]? = some x := List.getElem?_set_self h
theorem cVar_at {env : Env'} {i : Nat} {d : D} {call : Call} {S : Sto} (h : env[i]? = some (some d)) : cVar i call env S = .ok d S := by simp only [cVar, h]
theorem consE {f1 : EE} {fr : EA} {call : Call} {env : Env'} {S S1 S2 : Sto} {a : D} {xs : List D} (h1 : f1 call env S = .ok a S1) (h2 : fr call env S1 = .ok xs S2) : cCons f1 fr call env S = .ok (a :: xs) S2 := by
  simp only [cCons, h1, R.bind_okk, h2]
theorem args2 {f1 f2 : EE} {call : Call} {env : Env'} {S S1 S2 : Sto} {a b : D} (h1 : f1 call env S = .ok a S1) (h2 : f2 call env S1 = .ok b S2) : cCons f1 (cCons f2 cNil) call env S = .ok [a, b] S2 := by
  simp only [cCons, h1, R.bind_okk, h2, cNil]
theorem primE {p : List D → Sto → R D} {fr : EA} {call : Call} {env : Env'} {S S1 S2 : Sto} {xs : List D} {d : D} (h1 : fr call env S = .ok xs S1) (h2 : p xs S1 = .ok d S2) : cPrim p fr call env S = .ok d S2 := by
  simp only [cPrim, h1, R.bind_okk, h2]
theorem args1 {f1 : EE} {call : Call} {env : Env'} {S S1 : Sto} {a : D} (h1 : f1 call env S = .ok a S1) : cCons f1 cNil call env S = .ok [a] S1 := by
  simp only [cCons, h1, R.bind_okk, cNil]
theorem draw_c {n : Nat} {st : DSt} {env : Env'} {sz : Int} (he : env[1]? = some (some (.ref 1))) (h : DOk (n + 1) st) (hs : 0 < sz) (hs2 : sz < 1000000) {k : Nat} (hk : 1 ≤ k) :
    ∃ (r : Int) (st' : DSt), cCall (ix 42) 2 [] (cCons (cVar 1) (cCons (cK (.int sz)) cNil)) (runF rs k) env (St st []) = .ok (.int r) (St st' []) ∧ 0 ≤ r ∧ r < sz ∧ DOk n st' := by
  obtain ⟨r, st', h1, h2, h3, h4⟩ := draw_ok (rs := rs) (ix := ix) (k := k) h (rest := []) rfl hs hs2 hk
  exact ⟨r, st', callS (args2 (cVar_at he) rfl) rfl rfl h1, h2, h3, h4⟩
/-- the text -/
theorem text_ok {n : Nat} {st : DSt} {env : Env'} (he : EnvL env) (h : DOk (n + 9) st) {k : Nat} (hk : 3 ≤ k) :
    ∃ (x : Str) (st' : DSt), cJoin (cK (.str "")) (r_law_363a_c2 ix) (runF rs k) env (St st []) = .ok (.str x) (St st' []) ∧ DOk n st' := by
  obtain ⟨r, st1, d1, d2, d3, d4⟩ := draw_c (n := n + 8) (sz := 9) he.st h (by decide) (by decide) (k := k) (by omega)
  obtain ⟨m, rfl⟩ := Int.eq_ofNat_of_zero_le d2
  have hm : m ≤ 8 := by omega
  have hr1 := range1_ok (n := m) (args1 d1) (by omega)
  have hlen : (rangeD 0 m).length = m := by simp [rangeD]
  obtain ⟨ds, st2, l1, l2, l3, l4⟩ := lcL_mkI (call := runF rs k) (tg := .nm 9) (fe := cCall (ix 43) 2 [] (cCons (cVar 1) (cCons (cPrim (pLst false) (cCons (cK (.str "a")) (cCons (cK (.str "b")) (cCons (cK (.str " ")) (cCons (cK (.str "0")) (cCons (cK (.str "-")) cNil)))))) cNil)))
    (env := wipeD env [9]) (rest := []) (c := 1) (P := fun d => d ∈ lets) (rangeD 0 m) [] n st1 (d4.le (by rw [hlen]; omega)) fun x _ n st hd => by
      obtain ⟨d, st', p1, p2, p3, p4⟩ := pick_mk (rs := rs) (ix := ix) (k := k) (ds := lets) (by decide) (by decide) (by decide +kernel) (by omega) n st [] hd rfl
      refine ⟨(wipeD env [9]).set 9 (some x), d, st', rfl, callS (args2 (cVar_at ?_) rfl) rfl rfl p1, p2, p4⟩
      exact ((he.set (by decide) none).set (by decide) _).st
  have hx : r_law_363a_c2 ix (runF rs k) env (St st []) = .ok (.lst ds) (St st2 []) := by
    unfold r_law_363a_c2 cLc
    rw [hr1, R.bind_okk]
    simp only [lcRun]
    rw [l3]
    rfl
  obtain ⟨x, hj⟩ := join_ok l2 (by rw [l1, hlen]; exact hm) (S := St st2 [])
  refine ⟨x, st2, ?_, l4⟩
  unfold cJoin
  simp only [cK, R.bind_okk, isStrD, if_true, hx, hj]
/-- the item -/
theorem item_ok {n : Nat} {st : DSt} {env : Env'} (he : EnvL env) (h : DOk (n + 3) st) {k : Nat} (hk : 3 ≤ k) :
    ∃ (d : D) (st' : DSt), cCall (ix 43) 2 [] (cCons (cVar 1) (cCons (cPrim (pLst false) (cCons (cCall (ix 53) 1 [] (cCons (cVar 1) cNil)) (cCons (cBin pSub (cCall (ix 42) 2 [] (cCons (cVar 1) (cCons (cK (.int 41)) cNil))) (cK (.int 20))) (cCons (cPrim pTup (cCons (cK (.int 0)) (cCons (cK (.int 1)) cNil))) (cCons (cK (.str "type")) (cCons (cBin pPow (cK (.int 10)) (cK (.int 8))) cNil)))))) cNil)) (runF rs k) env (St st []) = .ok d (St st' []) ∧ ItP d ∧ DOk n st' := by
  obtain ⟨o, st1, o1, o2, o3, o4⟩ := odd_mk hk (n + 2) st [] h rfl
  obtain ⟨r, st2, d1, d2, d3, d4⟩ := draw_c (n := n + 1) (sz := 41) he.st o4 (by decide) (by decide) (k := k) (by omega)
  have hall : ∀ d ∈ [o, .int (r - 20), .tup [.int 0, .int 1], .str "type", .int 100000000], ItP d := by
    intro d hd
    simp only [List.mem_cons, List.not_mem_nil, or_false] at hd
    rcases hd with rfl | rfl | rfl | rfl | rfl
    · exact odds_ok _ o2
    · exact ints_ok r d2 d3
    · exact ⟨rfl, rfl, by decide +kernel⟩
    · exact ⟨rfl, rfl, by decide +kernel⟩
    · exact ⟨rfl, rfl, by decide +kernel⟩
  have hcl : clsDs 0 [o, .int (r - 20), .tup [.int 0, .int 1], .str "type", .int 100000000] = true := by simp [clsDs, clsD, o3]
  obtain ⟨d, st3, p1, p2, p3, p4⟩ := pick_mk (rs := rs) (ix := ix) (k := k) (ds := [o, .int (r - 20), .tup [.int 0, .int 1], .str "type", .int 100000000]) (Nat.zero_lt_succ _) (by simp) hcl (by omega) n st2 [] d4 rfl
  refine ⟨d, st3, callS (xs := [.ref 1, .lst [o, .int (r - 20), .tup [.int 0, .int 1], .str "type", .int 100000000]]) (S' := St st2 []) (args2 (cVar_at he.st) ?_) rfl rfl p1, hall d p2, p4⟩
  have e1 : cCall (ix 53) 1 [] (cCons (cVar 1) cNil) (runF rs k) env (St st []) = .ok o (St st1 []) := callS (args1 (cVar_at he.st)) rfl rfl o1
  have e2 : cBin pPow (cK (.int 10)) (cK (.int 8)) (runF rs k) env (St st2 []) = .ok (.int 100000000) (St st2 []) := by
    unfold cBin
    simp only [cK, R.bind_okk]
    rw [pPow_ok (by decide)]
    rfl
  have e3 : cBin pSub (cCall (ix 42) 2 [] (cCons (cVar 1) (cCons (cK (.int 41)) cNil))) (cK (.int 20)) (runF rs k) env (St st1 []) = .ok (.int (r - 20)) (St st2 []) := by
    unfold cBin
    rw [d1, R.bind_okk]
    rfl
  have e4 : cPrim pTup (cCons (cK (.int 0)) (cCons (cK (.int 1)) cNil)) (runF rs k) env (St st2 []) = .ok (.tup [.int 0, .int 1]) (St st2 []) := rfl
  have e5 : cCons (cCall (ix 53) 1 [] (cCons (cVar 1) cNil)) (cCons (cBin pSub (cCall (ix 42) 2 [] (cCons (cVar 1) (cCons (cK (.int 41)) cNil))) (cK (.int 20))) (cCons (cPrim pTup (cCons (cK (.int 0)) (cCons (cK (.int 1)) cNil))) (cCons (cK (.str "type")) (cCons (cBin pPow (cK (.int 10)) (cK (.int 8))) cNil)))) (runF rs k) env (St st []) = .ok [o, .int (r - 20), .tup [.int 0, .int 1], .str "type", .int 100000000] (St st2 []) := by
    exact consE e1 (consE e3 (consE e4 (consE rfl (consE e2 rfl))))
  exact primE e5 rfl
/-- the errors are alone -/
theorem alone_c {k : Nat} {c : Nat} {n : Str} {ns : List Str} {ds : List D} {env : Env'} {S : Sto} {i j : Nat} (hm : (c, n) ∈ errs) (hc : clsDs 0 ds = true) (hi : env[i]? = some (some (.exc c ns ds))) (hj : env[j]? = some (some (.str n))) :
    cCall (ix 59) 2 [] (cCons (cVar i) (cCons (cVar j) cNil)) (runF rs (k + 2)) env S = .ok (.bl true) S :=
  call1 (args2 (cVar_at hi) (cVar_at hj)) rfl (by simp [clsDs, clsD, hc]) (alone_ok (c, n) hm ns ds k hc) rfl
theorem sub_la : ∀ p ∈ la, p ∈ errs := by decide +kernel
theorem sub_lb : ∀ p ∈ lb, p ∈ errs := by decide +kernel
theorem plain_cl : clsDs 0 (la.map mkp) = true ∧ clsDs 0 (lb.map mkp) = true := by decide +kernel
theorem lh_cl {d : D} (h : clsD 0 d = true) : clsDs 0 (lh d) = true := by simp [lh, clsDs, clsD, h]
theorem turn_ok {n : Nat} {st : DSt} {env : Env'} (he : EnvL env) (h : DOk (n + 20) st) {k : Nat} (hk : 3 ≤ k) : ∃ (env' : Env') (st' : DSt), r_law_363a_b2 ix (runF rs k) env (St st []) = .ok (.nx env') (St st' []) ∧ EnvL env' ∧ DOk n st' := by
  obtain ⟨k, rfl⟩ : ∃ j, k = j + 2 := ⟨k - 2, by omega⟩
  obtain ⟨x, st1, t1, t2⟩ := text_ok (n := n + 11) he h hk
  have he1 := he.set (i := 3) (by decide) (some (.str x))
  obtain ⟨d, st2, i1, ⟨ic, inr, irp⟩, i3⟩ := item_ok (n := n) he1 (t2.le (by omega)) hk
  have he2 := he1.set (i := 4) (by decide) (some d)
  have he3 := he2.set (i := 5) (by decide) (some (.lst (la.map mkp ++ lb.map mkp)))
  generalize hE : (((env.set 3 (some (.str x))).set 4 (some d)).set 5 (some (.lst (la.map mkp ++ lb.map mkp)))) = E at he3
  have g3 : ((env.set 3 (some (D.str x))).set 4 (some d))[3]? = some (some (.str x)) := by
    rw [List.getElem?_set_ne (by decide)]
    exact List.getElem?_set_self (by rw [he.len]; decide)
  have g4 : E[4]? = some (some d) := by
    rw [← hE, List.getElem?_set_ne (by decide)]
    exact List.getElem?_set_self (by rw [he1.len]; decide)
  have g5 : E[5]? = some (some (.lst (la.map mkp ++ lb.map mkp))) := by
    rw [← hE]
    exact List.getElem?_set_self (by rw [he2.len]; decide)
  have ha : runF rs (k + 2) (ix 56) [.str x] [] = .ok (.lst (la.map mkp)) [] := by rw [run_at at__law_plain_a]; exact pa
  have hb : runF rs (k + 2) (ix 57) [.str x] [] = .ok (.lst (lb.map mkp)) [] := by rw [run_at at__law_plain_b]; exact pb
  have hh : runF rs (k + 2) (ix 58) [d] [] = .ok (.lst (lh d)) [] := by
    rw [run_at at__law_held]
    show finish 0 0 _ = _
    rw [ph]
    exact fin_box (lh_cl ic)
  -- the for's turns
  obtain ⟨s, hs, hrp⟩ := repr_any inr irp
  obtain ⟨env', f1, f2, f3⟩ := forL_nx (call := runF rs (k + 2)) (tg := .tup [.nm 6, .nm 7, .nm 8]) (fb := r_law_363a_b1 ix) (S := St st2 []) (fun e => EnvL e ∧ e[4]? = some (some d)) (lh d) E ⟨he3, g4⟩ fun z hz e ⟨e1, e2⟩ => by
    have key : ∀ (c : Nat) (n f : Str), (c, n) ∈ errs → z = .tup [.str n, .exc c [f] [d], d] → ∃ env1 env2, bindT (.tup [.nm 6, .nm 7, .nm 8]) z e = some env1 ∧ r_law_363a_b1 ix (runF rs (k + 2)) env1 (St st2 []) = .ok (.nx env2) (St st2 []) ∧ EnvL env2 ∧ env2[4]? = some (some d) := by
      intro c n f hm hz
      subst hz
      have e10 := e1.len
      generalize hE2 : (((e.set 6 (some (.str n))).set 7 (some (.exc c [f] [d]))).set 8 (some d)) = E2
      have w1 : EnvL E2 := by
        rw [← hE2]
        exact ((e1.set (by decide) _).set (by decide) _).set (by decide) _
      have w4 : E2[4]? = some (some d) := by
        rw [← hE2, List.getElem?_set_ne (by decide), List.getElem?_set_ne (by decide), List.getElem?_set_ne (by decide)]
        exact e2
      have w6 : E2[6]? = some (some (.str n)) := by
        rw [← hE2, List.getElem?_set_ne (by decide), List.getElem?_set_ne (by decide)]
        exact List.getElem?_set_self (by rw [e10]; decide)
      have w7 : E2[7]? = some (some (.exc c [f] [d])) := by
        rw [← hE2, List.getElem?_set_ne (by decide)]
        exact List.getElem?_set_self (by rw [List.length_set, e10]; decide)
      have w8 : E2[8]? = some (some d) := by
        rw [← hE2]
        exact List.getElem?_set_self (by rw [List.length_set, List.length_set, e10]; decide)
      refine ⟨E2, E2, by rw [← hE2]; rfl, ?_, w1, w4⟩
      have a1 := alone_c (k := k) (S := St st2 []) hm (by simp [clsDs, ic]) w7 w6
      have a2 : cPrim pRepr (cCons (cVar 8) cNil) (runF rs (k + 2)) E2 (St st2 []) = .ok (.str s) (St st2 []) := primE (args1 (cVar_at w8)) (hrp _)
      have a3 : cPrim pRepr (cCons (cVar 4) cNil) (runF rs (k + 2)) E2 (St st2 []) = .ok (.str s) (St st2 []) := primE (args1 (cVar_at w4)) (hrp _)
      have a4 : cBin (pEq true) (cPrim pRepr (cCons (cVar 8) cNil)) (cPrim pRepr (cCons (cVar 4) cNil)) (runF rs (k + 2)) E2 (St st2 []) = .ok (.bl false) (St st2 []) := by
        unfold cBin
        rw [a2, R.bind_okk, a3, R.bind_okk, eq_strN hs]
      refine seq_if_f (S1 := St st2 []) ?_ rfl
      simp only [cOrT, cNotT, cTru, a1, R.bind_okk, truthD, deref_bl, Bool.not_true, Bool.false_eq_true, if_false, cB, a4]
    simp only [lh, List.mem_cons, List.not_mem_nil, or_false] at hz
    rcases hz with hz | hz | hz | hz | hz | hz | hz | hz <;> exact key _ _ _ (by decide +kernel) hz
  refine ⟨env', st2, ?_, f2, i3⟩
  refine seq_asg t1 rfl (seq_asg i1 rfl (seq_asg (d := .lst (la.map mkp ++ lb.map mkp)) (S1 := St st2 []) ?_ (by show some _ = _; rw [hE]) (seq_if_f (S1 := St st2 []) ?_ ?_)))
  · have p1 := call1 (call := runF rs (k + 2)) (env := ((env.set 3 (some (D.str x))).set 4 (some d))) (S := St st2 []) (f := ix 56) (n := 1) (args1 (cVar_at g3)) rfl rfl ha (by simp only [clsD]; exact plain_cl.1)
    have p2 := call1 (call := runF rs (k + 2)) (env := ((env.set 3 (some (D.str x))).set 4 (some d))) (S := St st2 []) (f := ix 57) (n := 1) (args1 (cVar_at g3)) rfl rfl hb (by simp only [clsD]; exact plain_cl.2)
    unfold cBin
    rw [p1, R.bind_okk, p2, R.bind_okk]
    have hlen : (la.map mkp).length + (lb.map mkp).length ≤ sizeLine := by rw [sizeLine_eq]; decide
    show (if (la.map mkp).length + (lb.map mkp).length ≤ sizeLine then mkL false (la.map mkp ++ lb.map mkp) (St st2 []) else .bad) = _
    rw [if_pos hlen]
    rfl
  · have hc : r_law_363a_c1 ix (runF rs (k + 2)) E (St st2 []) = .ok (.lst []) (St st2 []) := by
      unfold r_law_363a_c1 cLc
      have hsrc : cSrcN 5 (runF rs (k + 2)) E (St st2 []) = .ok (.frz (la.map mkp ++ lb.map mkp)) (St st2 []) := by
        unfold cSrcN
        rw [g5]
        rfl
      rw [hsrc, R.bind_okk]
      simp only [lcRun]
      rw [lcL_no _ _ fun z hz => ?_]
      · rfl
      · have hw : (wipeD E [6, 7]).length = 10 := ((he3.set (i := 7) (by decide) none).set (i := 6) (by decide) none).len
        obtain ⟨p, hp, rfl⟩ : ∃ p ∈ errs, z = mkp p := by
          rcases List.mem_append.mp hz with hz | hz
          · obtain ⟨p, hp, rfl⟩ := List.mem_map.mp hz
            exact ⟨p, sub_la p hp, rfl⟩
          · obtain ⟨p, hp, rfl⟩ := List.mem_map.mp hz
            exact ⟨p, sub_lb p hp, rfl⟩
        obtain ⟨c, n⟩ := p
        refine ⟨((wipeD E [6, 7]).set 6 (some (.str n))).set 7 (some (.exc c [] [])), rfl, ?_⟩
        have a1 := alone_c (k := k) (S := St st2 []) (env := ((wipeD E [6, 7]).set 6 (some (.str n))).set 7 (some (.exc c [] []))) (i := 7) (j := 6) hp (ds := []) (ns := []) rfl (List.getElem?_set_self (by rw [List.length_set, hw]; decide)) (by rw [List.getElem?_set_ne (by decide)]; exact List.getElem?_set_self (by rw [hw]; decide))
        simp only [cNotT, cTru, a1, R.bind_okk, truthD, deref_bl, Bool.not_true]
    simp only [cB, cBin, hc, R.bind_okk]
    rfl
  · have p1 := call1 (call := runF rs (k + 2)) (env := E) (S := St st2 []) (f := ix 58) (n := 1) (args1 (cVar_at g4)) rfl (by simp [clsDs, ic]) hh (by simp only [clsD]; exact lh_cl ic)
    refine seq_nx (env1 := env') (S1 := St st2 []) ?_ rfl
    unfold cFor cSrc
    rw [p1, R.bind_okk]
    exact f1
theorem law_loop {k : Nat} (hk : 3 ≤ k) (items : List D) : ∀ (env : Env') (st : DSt), EnvL env → DOk (items.length * 20) st → ∃ (env' : Env') (st' : DSt), forL (runF rs k) (.nm 2) (r_law_363a_b2 ix) items env (St st []) = .ok (.nx env') (St st' []) := by
  induction items with
  | nil => exact fun env st _ _ => ⟨env, st, rfl⟩
  | cons d ds ih =>
    intro env st he hd
    obtain ⟨env1, st1, t1, t2, t3⟩ := turn_ok (n := ds.length * 20) (he.set (i := 2) (by decide) (some d)) (hd.le (by rw [List.length_cons]; omega)) hk
    obtain ⟨env2, st2, l1⟩ := ih env1 st1 t2 t3
    refine ⟨env2, st2, ?_⟩
    have hb : bindT (.nm 2) d env = some (env.set 2 (some d)) := rfl
    simp only [forL, hb, t1, turnF, R.bind_okk, l1]
theorem plain : Plain := fun ns hl => by
  obtain ⟨st, b1, b2⟩ := begun_ok (rs := rs) (ix := ix) (k := 199) hl (by decide)
  let m := 1 + (if 3 < ns.length then 3 else ns.length)
  have hm : m ≤ 4 := by simp only [m]; split <;> omega
  have hE : EnvL [some (D.scr (ns.map .int)), some (.ref 1), none, none, none, none, none, none, none, none] := ⟨rfl, rfl⟩
  obtain ⟨env', st', l1⟩ := law_loop (k := 199) (by decide) (rangeD 0 m) _ st hE (b2.le (by
    have : (rangeD 0 m).length = m := by simp [rangeD]
    rw [this]
    have : m * 20 ≤ 4 * 20 := Nat.mul_le_mul_right _ hm
    exact Nat.le_trans this (by decide)))
  refine ⟨[], ?_⟩
  show runF rs 200 (ix 60) _ _ = _
  rw [run_at at_law_363a]
  have hx : r_law_363a ix (runF rs 199) (startD 10 [.scr (ns.map .int)]) [] = .ok (.rt (.bl true)) (St st' []) := by
    refine seq_asg (d := .ref 1) (S1 := St st []) (env1 := [some (.scr (ns.map .int)), some (.ref 1), none, none, none, none, none, none, none, none]) ?_ rfl ?_
    · exact callS (xs := [.scr (ns.map .int)]) (S' := []) rfl rfl rfl b1
    · refine seq_nx (env1 := env') (S1 := St st' []) ?_ (seq_rt rfl)
      have hlen : (((ns.map D.int).length : Nat) : Int) = ((ns.length : Nat) : Int) := by simp
      have hr1 := range1_ok (fr := cCons (cBin (pAdd false) (cK (.int 1)) (cPrim pMin (cCons (cPrim pLen (cCons (cVar 0) cNil)) (cCons (cK (.int 3)) cNil)))) cNil) (call := runF rs 199) (env := [some (.scr (ns.map .int)), some (.ref 1), none, none, none, none, none, none, none, none]) (S := St st []) (S1 := St st []) (n := m) (by
        have e : (1 : Int) + (if (3 : Int) < ((ns.length : Nat) : Int) then 3 else ((ns.length : Nat) : Int)) = ((m : Nat) : Int) := by
          simp only [m]
          by_cases h : 3 < ns.length
          · rw [if_pos h, if_pos (by omega)]; rfl
          · rw [if_neg h, if_neg (by omega)]; omega
        simp only [cCons, cBin, cPrim, cVar, cK, cNil, List.getElem?_cons_zero, R.bind_okk, pLen, deref_scr, pMin, hlen, pAdd_int, e]) (by omega)
      unfold cFor
      rw [hr1, R.bind_okk]
      exact l1
  exact fin_cut (n := 0) hx rfl rfl
end Ev.K00

set_option maxHeartbeats 0
open PySem PySem.W PySem.Calls PyProof.Rows
theorem k00_of (hp : Ev.K00.Plain) : PySem.Challenge.rw_novalueleft_k00_errors_apart.Holds := by
  w_on; o_law
  refine HandSHeadRun.head_any (r := OpenLaw.row PySem.Challenge.rw_novalueleft_k00_errors_apart) (q := view (OpenLaw.row PySem.Challenge.rw_novalueleft_k00_errors_apart).prog [Ev.K00.topI]) (H := Ev.K00.hk) (ob := Ev.K00.ob) (M := 20000) (loose := Ev.K00.loose) (d := HandSHeadRun.topDef (OpenLaw.row PySem.Challenge.rw_novalueleft_k00_errors_apart).prog Ev.K00.topI) (kwd := []) Ev.K00.ob_eq
    (by kernel_rfl) (fun s => by kernel_rfl) Ev.K00.run (by kernel_rfl) (by kernel_rfl) (by kernel_rfl) (by rfl) (by first | assumption | decide +kernel) (by decide +kernel) ⟨rfl, rfl, rfl, rfl, rfl, by decide +kernel⟩ ?hw ?hc
  case hw => w_witness2
  case hc =>
    refine Ev.walk_ofE (l := PySem.Challenge.rw_novalueleft_k00_errors_apart) (n := 63) (k := Ev.K00.kMost + 1) (CX := fun _ _ _ _ _ _ => False) (x := "_law_script") rfl (by decide) (by kernel_rfl) ⟨rfl, by decide, by decide⟩ ?F
    intro w mg fa h Y G hmg0
    obtain ⟨K, KX, c1, c2, c3, o, c4, c5⟩ := Y
    have hmg : mg ("law" : PySem.Str) = some (.ref fa) := by
      have e : (HandSHeadRun.topDef (OpenLaw.row PySem.Challenge.rw_novalueleft_k00_errors_apart).prog Ev.K00.topI).name = ("law" : PySem.Str) := by kernel_rfl
      rw [← e]
      exact hmg0
    have M := Ev.modOk_of KX G c1 c2 c3 Ev.K00.inisOk Ev.K00.dks
    have hf : Ev.K00.T.fns[Ev.K00.lawI]? = some (Ev.K00.T.fns[Ev.K00.lawI]'(by decide)) := rfl
    have hd : Ev.K00.Ds[Ev.K00.lawI]? = some (Ev.K00.Ds[Ev.K00.lawI]'(by decide)) := rfl
    obtain ⟨m1, _, dvs, kws, fd, F, _⟩ := M.fn Ev.K00.lawI _ _ hf hd
    have e1 : (Ev.cfgOf Ev.K00.T K).fA Ev.K00.lawI = fa := by
      have := m1.symm.trans hmg
      simpa using this
    obtain ⟨fd2, F2⟩ := c1.defs (Ev.defsOf_at hf hd)
    have hb := L2.FunD.bindsA (ps := ["_law_script"]) F2 fun _ _ _ _ _ _ us hl => match us, hl with | [_], _ => rfl
    have hKs : K.lookup PySem.sysModules = none := by simpa using (Ev.andT (Ev.andT c3).2).1
    refine ⟨K, L2.CX PySem.Challenge.rw_novalueleft_k00_errors_apart.prog w, fd2, Ev.spF (Ev.cfgOf Ev.K00.T K) (Ev.runF Ev.K00.rs Ev.K00.kMost) Ev.K00.lawI 1, KX, hKs, ⟨o, c4, c5⟩, fun s u => hb s [u] rfl, fun H a ns hl hg hS => ?_, fun base _ _ => ?_, Ev.cx_end⟩
    · obtain ⟨S, hS'⟩ := hp ns hl
      exact Ev.law_says ⟨hg, fun p hp => by cases hp⟩ (Nat.le_trans hl (by decide)) hS hS'
    · have q := Ev.fns_ok (P := PySem.Challenge.rw_novalueleft_k00_errors_apart.prog) (w := w) (base := base) M Ev.K00.hrs Ev.K00.kMost Ev.K00.lawI _ _ hf hd
      rw [← e1]
      exact q _ _ fd2 F2

theorem PySem.Challenge.cw_novalueleft_k00_errors_apart_holds : PySem.Challenge.rw_novalueleft_k00_errors_apart.Holds :=
  k00_of Ev.K00.plain
