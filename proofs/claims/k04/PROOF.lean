import PyProof.Rows.All
import Wide.All
import OpenK.AllK
import Wide.FinOn
import HandS.Base
import HandS.Call
import HandS.List
import HandS.Comp
import HandS.Exc
import HandS.ExcOwn
import HandS.Dict
import HandS.Lambda
import HandS.TupAny
import HandS.TupLe
import HandS.Deep
import HandS.Wide
import HandS.Words
import HandS.Star
import HandS.IsInst
import HandS.Flow
import KE.KTupSum
import HandS.Walk
import HandS.Zip
import KE.GoesEnum
import HandS.WordsExc
import HandS.MakeKwOnly
import HandS.RaiseMore
import HandS.SortInts
import HandS.TupSets
import KE.DataAny
import HandS.Defaults
import HandS.Text
import HandS.FStr
import HandS.SortRule
import KE.KExcSuper
import KE.KSuper
import HandS.ExcInit
import HandS.ExcField
import HandS.TryMany
import PyProof.ReprRoads
import HandS.Style
import HandS.TupMul
import PyProof.StrBlock2
import HandS.TupLen
import HandS.Iter
import HandS.WordsDict
import PyProof.Rows.TupDisplay
import HandS.DictTup
import HandS.Conv
import KE.KDictSum
import HandS.Sort
import HandS.Small
import HandS.ExcIs
import KE.DataMinMax
import KE.KRevSl
import KE.DataCmp
import KE.SortData
import HandS.Ends
import HandS.Head0
import HandS.Head1
import HandS.Head2
import HandS.HeadEnd
import HandS.HeadHook1
import HandS.HeadHook2
import HandS.HeadHook4
import PySem.Challenge.RW_noneleft_k04_texts_of_books
set_option Elab.async false
set_option linter.all false
set_option maxRecDepth 100000
set_option maxHeartbeats 4000000
namespace L3
open PySem PySem.Spec PyProof.Rows L2
/-- plain data: what a value is worth, no address in it; ob c ds: an instance of the c-th class with its fields' worths -/
inductive D where
  | non | bl (b : Bool) | int (i : Int) | str (s : Str)
  | tup (ds : List D) | lst (ds : List D) | ob (c : Nat) (ds : List D) | dic0 | dic (t : Bool) (ks vs : List D) | fn (n : Nat)
  deriving Inhabited
/-- the classes of the text: where they stand, the fields' names, all names that an instance holds; the field of class 0 that keeps what was found, and what is to be found under a word -/
structure Ct where
  ad : Nat → Addr
  fl : Nat → List Str
  ks : Nat → List Str
  cf : Option Str := none
  wk : Str → List D → Option D := fun _ _ => none
  ws : List Str := []
  tb : List (Addr × Str) := []
  /-- where tables may be known -/
  kt : Addr → Prop := fun _ => True
  /-- where defs stand that are handled as values -/
  fa : Nat → Addr := fun _ => 0
/-- a key as data -/
def kD : L2.Key → D
  | .inl i => .int i
  | .inr s => .str s
def keyT (p : List L2.Key × V) : D := .tup (p.1.map kD)
def keyK (p : L2.Key × V) : D := kD p.1
mutual
/-- data with no instance in it -/
def plainD : D → Bool
  | .tup ds => plainL ds
  | .lst ds => plainL ds
  | .ob _ _ => false
  | .dic _ _ _ => false
  | .fn _ => false
  | _ => true
def plainL : List D → Bool
  | [] => true
  | d :: ds => plainD d && plainL ds
end
mutual
inductive Rep (Γ : Ct) (K : PySem.W.Frag) (H : Hp) : D → V → Prop
  | non : Rep Γ K H .non .non
  | bl {b : Bool} : Rep Γ K H (.bl b) (.bl b)
  | int {i : Int} : Rep Γ K H (.int i) (.int i)
  | str {s : Str} : Rep Γ K H (.str s) (.str s)
  | tup {ds : List D} {a : Addr} {xs : List V} : H a = some (.tup xs) → RepL Γ K H ds xs → Rep Γ K H (.tup ds) (.ref a)
  | lst {ds : List D} {a : Addr} {xs : List V} : H a = some (.lst xs) → RepL Γ K H ds xs → Rep Γ K H (.lst ds) (.ref a)
  | ob {c : Nat} {ds : List D} {a dx : Addr} {fs : List (Str × V)} {xs : List V} : H a = some (.ins (Γ.ad c) dx fs) → (Γ.fl c).map (fun f => fs.lookup f) = xs.map some →
      (∀ m, m ∉ Γ.ks c → fs.lookup m = none) → RepL Γ K H ds xs → Rep Γ K H (.ob c ds) (.ref a)
  | dic0 {a : Addr} : H a = some (.dK []) → Rep Γ K H .dic0 (.ref a)
  | dicT {ks vs : List D} {a : Addr} {od : Obj} {kk : List (List L2.Key × V)} : H a = some (.frz od (.dT kk)) → ks = kk.map keyT → RepL Γ K H vs (kk.map (·.2)) → Rep Γ K H (.dic true ks vs) (.ref a)
  | dicK {ks vs : List D} {a : Addr} {od : Obj} {kk : List (L2.Key × V)} : H a = some (.frz od (.dK kk)) → ks = kk.map keyK → RepL Γ K H vs (kk.map (·.2)) → Rep Γ K H (.dic false ks vs) (.ref a)
  | fn {n : Nat} : Rep Γ K H (.fn n) (.ref (Γ.fa n))
inductive RepL (Γ : Ct) (K : PySem.W.Frag) (H : Hp) : List D → List V → Prop
  | nil : RepL Γ K H [] []
  | cons {d : D} {v : V} {ds : List D} {vs : List V} : Rep Γ K H d v → RepL Γ K H ds vs → RepL Γ K H (d :: ds) (v :: vs)
end
/-- all that stood stands -/
def Sub (H H' : Hp) : Prop := ∀ b o, H b = some o → H' b = some o
theorem Sub.refl (H : Hp) : Sub H H := fun _ _ h => h
theorem Sub.trans {H H1 H2 : Hp} (a : Sub H H1) (b : Sub H1 H2) : Sub H H2 := fun c o h => b c o (a c o h)
theorem Sub.free {H H' : Hp} (e : Sub H H') {l : Addr} (h : H' l = Option.none) : H l = Option.none := by
  cases q : H l with
  | none => rfl
  | some o => rw [e l o q] at h; cases h
theorem Sub.new {H : Hp} {p : Addr} {o : HO} (h : H p = none) : Sub H (upd H p o) := fun b u e => by rw [upd_ne (ne_of_none e h)]; exact e
theorem Sub.upd2 {F H : Hp} {p : Addr} {o : HO} (s : Sub F H) : Sub (upd F p o) (upd H p o) := fun b u e => by
  by_cases hb : b = p
  · subst hb; rw [upd_same] at e ⊢; exact e
  · rw [upd_ne hb] at e ⊢; exact s b u e
section
variable {Γ : Ct} {K : PySem.W.Frag} {H H' : Hp}
mutual
theorem Rep.mono (s : Sub H H') : ∀ {d : D} {v : V}, Rep Γ K H d v → Rep Γ K H' d v
  | _, _, .non => .non
  | _, _, .bl => .bl
  | _, _, .int => .int
  | _, _, .str => .str
  | _, _, .tup h r => .tup (s _ _ h) (RepL.mono s r)
  | _, _, .lst h r => .lst (s _ _ h) (RepL.mono s r)
  | _, _, .ob h1 h2 h3 r => .ob (s _ _ h1) h2 h3 (RepL.mono s r)
  | _, _, .dic0 h => .dic0 (s _ _ h)
  | _, _, .dicT h e r => .dicT (s _ _ h) e (RepL.mono s r)
  | _, _, .dicK h e r => .dicK (s _ _ h) e (RepL.mono s r)
  | _, _, .fn => .fn
theorem RepL.mono (s : Sub H H') : ∀ {ds : List D} {vs : List V}, RepL Γ K H ds vs → RepL Γ K H' ds vs
  | _, _, .nil => .nil
  | _, _, .cons r t => .cons (Rep.mono s r) (RepL.mono s t)
end
theorem RepL.len : ∀ {ds : List D} {vs : List V}, RepL Γ K H ds vs → ds.length = vs.length
  | _, _, .nil => rfl
  | _, _, .cons _ t => by simp [RepL.len t]
theorem RepL.get : ∀ {ds : List D} {vs : List V} {i : Nat} {v : V}, RepL Γ K H ds vs → vs[i]? = some v → ∃ d, ds[i]? = some d ∧ Rep Γ K H d v
  | _, _, _, _, .nil, e => by simp at e
  | _, _, 0, _, .cons r _, e => by simp at e; subst e; exact ⟨_, rfl, r⟩
  | _, _, i + 1, v, .cons _ t, e => by
    obtain ⟨d, h1, h2⟩ := RepL.get (i := i) (v := v) t (by simpa using e)
    exact ⟨d, by simpa using h1, h2⟩
theorem RepL.getD : ∀ {ds : List D} {vs : List V} {i : Nat} {d : D}, RepL Γ K H ds vs → ds[i]? = some d → ∃ v, vs[i]? = some v ∧ Rep Γ K H d v
  | _, _, _, _, .nil, e => by simp at e
  | _, _, 0, _, .cons r _, e => by simp at e; subst e; exact ⟨_, rfl, r⟩
  | _, _, i + 1, v, .cons _ t, e => by
    obtain ⟨d, h1, h2⟩ := RepL.getD (i := i) (d := v) t (by simpa using e)
    exact ⟨d, by simpa using h1, h2⟩
theorem RepL.app : ∀ {ds es : List D} {vs ws : List V}, RepL Γ K H ds vs → RepL Γ K H es ws → RepL Γ K H (ds ++ es) (vs ++ ws)
  | _, _, _, _, .nil, s => s
  | _, _, _, _, .cons r t, s => .cons r (RepL.app t s)
theorem RepL.take : ∀ {ds : List D} {vs : List V} (n : Nat), RepL Γ K H ds vs → RepL Γ K H (ds.take n) (vs.take n)
  | _, _, 0, _ => .nil
  | _, _, _ + 1, .nil => .nil
  | _, _, n + 1, .cons r t => .cons r (RepL.take n t)
theorem RepL.drop : ∀ {ds : List D} {vs : List V} (n : Nat), RepL Γ K H ds vs → RepL Γ K H (ds.drop n) (vs.drop n)
  | _, _, 0, r => r
  | _, _, _ + 1, .nil => .nil
  | _, _, n + 1, .cons _ t => RepL.drop n t
theorem RepL.snoc {ds : List D} {vs : List V} {d : D} {v : V} (r : RepL Γ K H ds vs) (h : Rep Γ K H d v) : RepL Γ K H (ds ++ [d]) (vs ++ [v]) := r.app (.cons h .nil)
theorem RepL.dropLast : ∀ {ds : List D} {vs : List V}, RepL Γ K H ds vs → RepL Γ K H ds.dropLast vs.dropLast := fun {ds vs} r => by
  rw [List.dropLast_eq_take, List.dropLast_eq_take, ← r.len]
  exact r.take _
theorem RepL.set : ∀ {ds : List D} {vs : List V} {d : D} {v : V} (i : Nat), RepL Γ K H ds vs → Rep Γ K H d v → RepL Γ K H (ds.set i d) (vs.set i v)
  | _, _, _, _, _, .nil, _ => .nil
  | _, _, _, _, 0, .cons _ t, h => .cons h t
  | _, _, _, _, i + 1, .cons r t, h => .cons r (RepL.set i t h)
theorem RepL.eraseIdx : ∀ {ds : List D} {vs : List V} (i : Nat), RepL Γ K H ds vs → RepL Γ K H (ds.eraseIdx i) (vs.eraseIdx i)
  | _, _, _, .nil => .nil
  | _, _, 0, .cons _ t => t
  | _, _, i + 1, .cons r t => .cons r (RepL.eraseIdx i t)
theorem RepL.reverse : ∀ {ds : List D} {vs : List V}, RepL Γ K H ds vs → RepL Γ K H ds.reverse vs.reverse
  | _, _, .nil => .nil
  | _, _, .cons r t => by
    rw [List.reverse_cons, List.reverse_cons]
    exact (RepL.reverse t).snoc r
theorem RepL.ints : ∀ (ns : List Int), RepL Γ K H (ns.map D.int) (ns.map V.int)
  | [] => .nil
  | n :: ns => .cons .int (RepL.ints ns)
theorem RepL.to_ints : ∀ {ns : List Int} {vs : List V}, RepL Γ K H (ns.map D.int) vs → vs = ns.map V.int
  | [], _, .nil => rfl
  | n :: ns, _, .cons .int t => by rw [RepL.to_ints t]; rfl
theorem RepL.to_bls : ∀ {ns : List Bool} {vs : List V}, RepL Γ K H (ns.map D.bl) vs → vs = ns.map V.bl
  | [], _, .nil => rfl
  | n :: ns, _, .cons .bl t => by rw [RepL.to_bls t]; rfl
end
/-- what a thing that is changed in place holds: a list, a source of draws -/
inductive Ct2 where
  | lst (ds : List D)
  | deal (cs : List Int) (b : Int)
  | dic (t : Bool) (ks vs : List D)
/-- a slot: nothing; a value that is never changed from now on; a thing of the frame's own; one that was handed in to be changed; a list that was handed in to be read; a value of which only the ghost knows -/
inductive Slot where
  | emp | fz (d : D) | own (c : Ct2) | io (c : Ct2) | bor (ds : List D) | raw
  deriving Inhabited
abbrev Env := List Slot
/-- a dict that is not locked -/
def DicAt (Γ : Ct) (K : PySem.W.Frag) (Fz : Hp) (ks vs : List D) (o : HO) : Bool → Prop
  | true => ∃ kk : List (List L2.Key × V), o = .dT kk ∧ ks = kk.map keyT ∧ RepL Γ K Fz vs (kk.map (·.2))
  | false => ∃ kk : List (L2.Key × V), o = .dK kk ∧ ks = kk.map keyK ∧ RepL Γ K Fz vs (kk.map (·.2))
theorem DicAt.mono {Γ : Ct} {K : PySem.W.Frag} {Fz Fz' : Hp} {ks vs : List D} {o : HO} {t : Bool} (s : Sub Fz Fz') (h : DicAt Γ K Fz ks vs o t) : DicAt Γ K Fz' ks vs o t := by
  cases t with
  | true => obtain ⟨kk, a, b, c⟩ := h; exact ⟨kk, a, b, c.mono s⟩
  | false => obtain ⟨kk, a, b, c⟩ := h; exact ⟨kk, a, b, c.mono s⟩
/-- what a class keeps of what was found -/
structure CchOk (Γ : Ct) (K : PySem.W.Frag) (Fz : Hp) (fs : List (Str × V)) (kvs : List (L2.Key × V)) : Prop where
  val : ∀ p ∈ kvs, ∃ w ds xs d, p.1 = .inr w ∧ (Γ.fl 0).map (fun f => fs.lookup f) = xs.map some ∧ RepL Γ K Fz ds xs ∧ plainL ds = true ∧ Γ.wk w ds = some d ∧ Rep Γ K Fz d p.2
  nd : (kvs.map (·.1)).Nodup
  ws : ∀ p ∈ kvs, ∃ w ∈ Γ.ws, p.1 = .inr w
theorem CchOk.mono {Γ : Ct} {K : PySem.W.Frag} {Fz Fz' : Hp} {fs : List (Str × V)} {kvs : List (L2.Key × V)} (s : Sub Fz Fz') (h : CchOk Γ K Fz fs kvs) : CchOk Γ K Fz' fs kvs := ⟨fun p hp =>
  let ⟨w, ds, xs, d, h1, h2, h3, h4, h5, h6⟩ := h.val p hp
  ⟨w, ds, xs, d, h1, h2, h3.mono s, h4, h5, h6.mono s⟩, h.nd, h.ws⟩
theorem CchOk.nil {Γ : Ct} {K : PySem.W.Frag} {Fz : Hp} {fs : List (Str × V)} : CchOk Γ K Fz fs [] := ⟨fun p hp => absurd hp (by simp), List.Pairwise.nil, fun p hp => absurd hp (by simp)⟩
/-- the cell at a keeps what was found of some instance -/
def IsFnd (Γ : Ct) (Fz : Hp) (a : Addr) : Prop := ∃ f b dx fs, Γ.cf = some f ∧ Fz b = some (.ins (Γ.ad 0) dx fs) ∧ fs.lookup f = some (.ref a)
/-- such a cell, or a table of code objects -/
def IsCch (Γ : Ct) (Fz : Hp) (a : Addr) : Prop := IsFnd Γ Fz a ∨ a ∈ Γ.tb.map (·.1)
/-- what such a cell holds -/
def Lck : HO → Prop
  | .dK _ => True
  | .tbl _ => True
  | _ => False
/-- a table of code objects stands as it should -/
def TabF (Fz H : Hp) (p : Addr × Str) : Prop := ∃ ps : Array Value, H p.1 = some (.tbl ps) ∧ TriplesOk ps.toList ∧ ∀ (pos : Pos) (cv : Value), codeAmong pos ps.toList = some cv → ∃ c, cv = .ref c ∧ Fz c = some (LamX.CodeO c p.2)
/-- what is known of a tuple, of a code object is frozen; a table that is known is one of Γ's -/
def Ice (Γ : Ct) (Fz : Hp) (a : Addr) : HO → Prop
  | .tup xs => Fz a = some (.tup xs)
  | .ext f => Fz a = some (.ext f)
  | .tbl _ => Γ.kt a
  | _ => True
def NoTb : HO → Prop
  | .tbl _ => False
  | _ => True
def Pln : HO → Prop
  | .tup _ => False
  | .ext _ => False
  | .tbl _ => False
  | _ => True
theorem Ice.eq {Γ : Ct} {Fz Fz' : Hp} {a : Addr} {u : HO} (h : Fz' a = Fz a) (i : Ice Γ Fz a u) : Ice Γ Fz' a u := by
  cases u with
  | tup xs => exact h.trans i
  | ext f => exact h.trans i
  | _ => exact i
theorem Ice.mono {Γ : Ct} {Fz Fz' : Hp} {a : Addr} {u : HO} (s : Sub Fz Fz') (i : Ice Γ Fz a u) : Ice Γ Fz' a u := by
  cases u with
  | tup xs => exact s _ _ i
  | ext f => exact s _ _ i
  | _ => exact i
theorem Ice.new {Γ : Ct} {Fz : Hp} {a : Addr} {u : HO} (h : Fz a = some u) (n : NoTb u) : Ice Γ Fz a u := by
  cases u with
  | tup xs => exact h
  | ext f => exact h
  | tbl ps => exact n.elim
  | _ => exact trivial
theorem Ice.pln {Γ : Ct} {Fz : Hp} {a : Addr} {u : HO} (n : Pln u) : Ice Γ Fz a u := by
  cases u with
  | tup xs => exact n.elim
  | ext f => exact n.elim
  | tbl ps => exact n.elim
  | _ => exact trivial
/-- how a thing that is changed in place stands; cells: its addresses -/
def CtOk (Γ : Ct) (K : PySem.W.Frag) (Fz H : Hp) (cells : List Addr) (v : V) : Ct2 → Prop
  | .lst ds => ∃ a xs, cells = [a] ∧ v = .ref a ∧ H a = some (.lst xs) ∧ RepL Γ K Fz ds xs
  | .deal cs b => ∃ a c, cells = [a, c] ∧ a ≠ c ∧ v = .ref a ∧ H a = some (.lst [.ref c, .int b]) ∧ H c = some (.lst (cs.map V.int))
  | .dic t ks vs => ∃ a o, cells = [a] ∧ v = .ref a ∧ H a = some o ∧ DicAt Γ K Fz ks vs o t
/-- the ghost of a frame: P, what is to stay; B of it, what was lent, by slots; pin, what was handed in to be changed -/
structure Gh where
  P : Hp
  B : Nat → Option (Addr × List V)
  sub : ∀ i a xs, B i = some (a, xs) → P a = some (.lst xs)
  pin : Nat → V × List Addr
def SlotOk (Γ : Ct) (K : PySem.W.Frag) (g : Gh) (Fz H : Hp) (i : Nat) (cells : List Addr) (o : Option (Option V)) : Slot → Prop
  | .emp => cells = []
  | .raw => cells = [] ∧ o = some (some (g.pin i).1)
  | .fz d => cells = [] ∧ ∃ v, o = some (some v) ∧ Rep Γ K Fz d v
  | .bor ds => cells = [] ∧ ∃ a xs, o = some (some (.ref a)) ∧ (Fz a = some (.lst xs) ∨ g.B i = some (a, xs)) ∧ RepL Γ K Fz ds xs
  | .own c => ∃ v, o = some (some v) ∧ CtOk Γ K Fz H cells v c
  | .io c => ∃ v, o = some (some v) ∧ CtOk Γ K Fz H cells v c ∧ g.pin i = (v, cells)
/-- the cells that keep what was found: no one's own, nothing frozen, nothing protected; each instance has its own -/
structure Cch (Γ : Ct) (K : PySem.W.Frag) (P Fz H : Hp) (κ : Nat → List Addr) : Prop where
  at_ : ∀ f b dx fs, Γ.cf = some f → Fz b = some (.ins (Γ.ad 0) dx fs) → ∃ a kvs, fs.lookup f = some (.ref a) ∧ H a = some (.dK kvs) ∧ CchOk Γ K Fz fs kvs
  out : ∀ a, IsCch Γ Fz a → Fz a = none ∧ P a = none ∧ ∀ i, a ∉ κ i
  inj : ∀ f b b' dx dx' fs fs' a, Γ.cf = some f → Fz b = some (.ins (Γ.ad 0) dx fs) → Fz b' = some (.ins (Γ.ad 0) dx' fs') → fs.lookup f = some (.ref a) → fs'.lookup f = some (.ref a) → b = b'
  tab : ∀ p ∈ Γ.tb, TabF Fz H p
theorem TabF.mono {Fz Fz' H : Hp} {p : Addr × Str} (h : TabF Fz H p) (s : Sub Fz Fz') : TabF Fz' H p := by
  obtain ⟨ps, h1, h2, h3⟩ := h
  exact ⟨ps, h1, h2, fun pos cv hv => let ⟨c, e1, e2⟩ := h3 pos cv hv; ⟨c, e1, s _ _ e2⟩⟩
theorem Cch.there {Γ : Ct} {K : PySem.W.Frag} {P Fz H : Hp} {κ : Nat → List Addr} (x : Cch Γ K P Fz H κ) {a : Addr} (h : IsCch Γ Fz a) : ∃ o, Lck o ∧ H a = some o := by
  rcases h with ⟨f, b, dx, fs, h1, h2, h3⟩ | h
  · obtain ⟨a', kvs, q1, q2, _⟩ := x.at_ f b dx fs h1 h2
    rw [h3] at q1
    cases q1
    exact ⟨.dK kvs, trivial, q2⟩
  · obtain ⟨p, hp, rfl⟩ := List.mem_map.mp h
    obtain ⟨ps, h1, _⟩ := x.tab p hp
    exact ⟨.tbl ps, trivial, h1⟩
theorem Cch.goC {Γ : Ct} {K : PySem.W.Frag} {P P' Fz Fz' H H' : Hp} {κ κ' : Nat → List Addr} (x : Cch Γ K P Fz H κ) (s : Sub Fz Fz') (n : ∀ b dx fs, Fz' b = some (.ins (Γ.ad 0) dx fs) → Fz b = some (.ins (Γ.ad 0) dx fs))
    (k : ∀ a o, Lck o → IsCch Γ Fz a → H a = some o → Fz a = none → P a = none → (∀ i, a ∉ κ i) → H' a = some o ∧ Fz' a = none ∧ P' a = none ∧ ∀ i, a ∉ κ' i) : Cch Γ K P' Fz' H' κ' := by
  have ic : ∀ a, IsCch Γ Fz' a → IsCch Γ Fz a := fun a h => h.imp (fun ⟨f, b, dx, fs, h1, h2, h3⟩ => ⟨f, b, dx, fs, h1, n b dx fs h2, h3⟩) id
  refine ⟨fun f b dx fs hf hb => ?_, fun a ha => ?_, fun f b b' dx dx' fs fs' a hf h1 h2 h3 h4 => x.inj f b b' dx dx' fs fs' a hf (n _ _ _ h1) (n _ _ _ h2) h3 h4, fun p hp => ?_⟩
  · obtain ⟨a, kvs, h1, h2, h3⟩ := x.at_ f b dx fs hf (n _ _ _ hb)
    have hc : IsCch Γ Fz a := .inl ⟨f, b, dx, fs, hf, n _ _ _ hb, h1⟩
    obtain ⟨o1, o2, o3⟩ := x.out a hc
    exact ⟨a, kvs, h1, (k a (.dK kvs) trivial hc h2 o1 o2 o3).1, h3.mono s⟩
  · obtain ⟨o, hl, h⟩ := x.there (ic a ha)
    obtain ⟨o1, o2, o3⟩ := x.out a (ic a ha)
    exact (k a o hl (ic a ha) h o1 o2 o3).2
  · obtain ⟨ps, h1, h2, h3⟩ := x.tab p hp
    have hc : IsCch Γ Fz p.1 := .inr (List.mem_map.mpr ⟨p, hp, rfl⟩)
    obtain ⟨o1, o2, o3⟩ := x.out p.1 hc
    exact ⟨ps, (k p.1 (.tbl ps) trivial hc h1 o1 o2 o3).1, h2, fun pos cv hv => let ⟨c, e1, e2⟩ := h3 pos cv hv; ⟨c, e1, s _ _ e2⟩⟩
theorem Cch.go {Γ : Ct} {K : PySem.W.Frag} {P P' Fz Fz' H H' : Hp} {κ κ' : Nat → List Addr} (x : Cch Γ K P Fz H κ) (s : Sub Fz Fz') (n : ∀ b dx fs, Fz' b = some (.ins (Γ.ad 0) dx fs) → Fz b = some (.ins (Γ.ad 0) dx fs))
    (k : ∀ a o, Lck o → H a = some o → Fz a = none → P a = none → (∀ i, a ∉ κ i) → H' a = some o ∧ Fz' a = none ∧ P' a = none ∧ ∀ i, a ∉ κ' i) : Cch Γ K P' Fz' H' κ' := x.goC s n fun a o hl _ => k a o hl
/-- nothing but a thing that is no instance has been frozen -/
theorem noIns {Γ : Ct} {Fz : Hp} {p : Addr} {o : HO} (h : ∀ dx fs, o ≠ .ins (Γ.ad 0) dx fs) (b : Addr) (dx : Addr) (fs : List (Str × V)) (e : upd Fz p o b = some (.ins (Γ.ad 0) dx fs)) : Fz b = some (.ins (Γ.ad 0) dx fs) := by
  by_cases hb : b = p
  · subst hb; rw [upd_same] at e; exact absurd (Option.some.inj e) (h _ _)
  · rw [upd_ne hb] at e; exact e
structure FrK (Γ : Ct) (K : PySem.W.Frag) (g : Gh) (Fz H : Hp) (σ : L2.St) (ρ : Env) (κ : Nat → List Addr) : Prop where
  sub : Sub Fz H
  prot : ∀ a o, g.P a = some o → H a = some o ∧ Fz a = none
  len : σ.length = ρ.length
  slot : ∀ i s, ρ[i]? = some s → SlotOk Γ K g Fz H i (κ i) σ[i]? s
  fresh : ∀ i a, a ∈ κ i → i < ρ.length ∧ Fz a = none ∧ g.P a = none ∧ ∃ o, H a = some o
  disj : ∀ i j a, a ∈ κ i → a ∈ κ j → i = j
  cch : Cch Γ K g.P Fz H κ
  tups : ∀ a o, H a = some o → Ice Γ Fz a o
def Fr (Γ : Ct) (K : PySem.W.Frag) (g : Gh) (Fz H : Hp) (σ : L2.St) (ρ : Env) : Prop := ∃ κ, FrK Γ K g Fz H σ ρ κ
section
variable {Γ : Ct} {K : PySem.W.Frag} {g : Gh} {Fz Fz' H H' : Hp} {σ : L2.St} {ρ : Env} {κ : Nat → List Addr}
theorem CtOk.mono {cells : List Addr} {v : V} {c : Ct2} (x : CtOk Γ K Fz H cells v c) (s : Sub Fz Fz') (k : ∀ a ∈ cells, H' a = H a) : CtOk Γ K Fz' H' cells v c := by
  cases c with
  | lst ds => obtain ⟨a, xs, rfl, rfl, h, r⟩ := x; exact ⟨a, xs, rfl, rfl, by rw [k a (by simp)]; exact h, r.mono s⟩
  | deal cs b => obtain ⟨a, c, rfl, ne, rfl, h1, h2⟩ := x; exact ⟨a, c, rfl, ne, rfl, by rw [k a (by simp)]; exact h1, by rw [k c (by simp)]; exact h2⟩
  | dic t ks vs => obtain ⟨a, o, rfl, rfl, h, r⟩ := x; exact ⟨a, o, rfl, rfl, by rw [k a (by simp)]; exact h, r.mono s⟩
theorem SlotOk.mono {i : Nat} {cells : List Addr} {o : Option (Option V)} {s : Slot} (x : SlotOk Γ K g Fz H i cells o s) (f : Sub Fz Fz') (k : ∀ a ∈ cells, H' a = H a) : SlotOk Γ K g Fz' H' i cells o s := by
  cases s with
  | emp => exact x
  | raw => exact x
  | fz d => exact ⟨x.1, let ⟨v, h1, h2⟩ := x.2; ⟨v, h1, h2.mono f⟩⟩
  | bor ds => exact ⟨x.1, let ⟨a, xs, h1, h2, h3⟩ := x.2; ⟨a, xs, h1, h2.imp (f _ _) id, h3.mono f⟩⟩
  | own c => obtain ⟨v, h1, h2⟩ := x; exact ⟨v, h1, h2.mono f k⟩
  | io c => obtain ⟨v, h1, h2, h3⟩ := x; exact ⟨v, h1, h2.mono f k, h3⟩
/-- the frozen part grows, the heap too; own things as they were -/
theorem FrK.grow (x : FrK Γ K g Fz H σ ρ κ) (f : Sub Fz Fz') (s : Sub Fz' H') (k : ∀ a o, H a = some o → (Fz a ≠ none ∨ Fz' a = none) → H' a = some o) (n : ∀ a, Fz' a ≠ none → Fz a = none → H a = none)
    (ni : ∀ b dx fs, Fz' b = some (.ins (Γ.ad 0) dx fs) → Fz b = some (.ins (Γ.ad 0) dx fs)) (tu : ∀ a o, H' a = some o → Ice Γ Fz' a o) : FrK Γ K g Fz' H' σ ρ κ := by
  have keep : ∀ a o, H a = some o → Fz a = none → H' a = some o ∧ Fz' a = none := fun a o h hz => by
    have hz' : Fz' a = none := by
      cases q : Fz' a with
      | none => rfl
      | some u => have e := n a (by rw [q]; simp) hz; rw [h] at e; cases e
    exact ⟨k a o h (.inr hz'), hz'⟩
  refine ⟨s, fun a o h => ?_, x.len, fun i t h => ?_, fun i a ha => ?_, x.disj, x.cch.go f ni fun a kvs hl h1 h2 h3 h4 => ⟨(keep a _ h1 h2).1, (keep a _ h1 h2).2, h3, h4⟩, tu⟩
  · obtain ⟨h1, h2⟩ := x.prot a o h
    exact keep a o h1 h2
  · refine (x.slot i t h).mono f fun a ha => ?_
    obtain ⟨_, h1, _, o, h2⟩ := x.fresh i a ha
    rw [h2, (keep a o h2 h1).1]
  · obtain ⟨h0, h1, h2, o, h3⟩ := x.fresh i a ha
    obtain ⟨k1, k2⟩ := keep a o h3 h1
    exact ⟨h0, k2, h2, o, k1⟩
theorem updTups {Γ : Ct} {Fz H : Hp} {p : Addr} {o : HO} (h : ∀ a u, H a = some u → Ice Γ Fz a u) (n : NoTb o := by exact trivial) (a : Addr) (u : HO) (e : upd H p o a = some u) : Ice Γ (upd Fz p o) a u := by
  by_cases hb : a = p
  · subst hb; rw [upd_same] at e; cases e; exact Ice.new upd_same n
  · rw [upd_ne hb] at e; exact (h a u e).eq (upd_ne hb)
theorem putTups {Γ : Ct} {Fz H : Hp} {p : Addr} {o : HO} (h : ∀ a u, H a = some u → Ice Γ Fz a u) (n : Pln o) (a : Addr) (u : HO) (e : upd H p o a = some u) : Ice Γ Fz a u := by
  by_cases hb : a = p
  · subst hb; rw [upd_same] at e; cases e; exact Ice.pln n
  · rw [upd_ne hb] at e; exact h a u e
/-- a new frozen object -/
theorem FrK.alloc (x : FrK Γ K g Fz H σ ρ κ) {p : Addr} {o : HO} (hp : H p = none) (hn : ∀ dx fs, o ≠ .ins (Γ.ad 0) dx fs := by intro _ _ z; cases z) (nb : NoTb o := by exact trivial) : FrK Γ K g (upd Fz p o) (upd H p o) σ ρ κ := by
  have hz : Fz p = none := x.sub.free hp
  refine x.grow (Sub.new hz) x.sub.upd2 (fun a u h _ => by rw [upd_ne (ne_of_none h hp)]; exact h) (fun a h1 h2 => ?_) (noIns hn) (updTups x.tups nb)
  by_cases ha : a = p
  · subst ha; exact hp
  · rw [upd_ne ha] at h1; exact absurd h2 h1
/-- a new object that is not frozen: protected for the time -/
def Gh.more (g : Gh) (p : Addr) (o : HO) : Gh where
  P := upd g.P p o
  B := fun i => match g.B i with
    | some (a, xs) => if a = p then none else some (a, xs)
    | none => none
  sub := fun i a xs h => by
    cases q : g.B i with
    | none => rw [q] at h; cases h
    | some y =>
      obtain ⟨b, ys⟩ := y
      rw [q] at h
      have h' : (if b = p then none else some (b, ys)) = some (a, xs) := h
      by_cases hb : b = p
      · rw [if_pos hb] at h'; cases h'
      · rw [if_neg hb] at h'; cases h'; rw [upd_ne hb]; exact g.sub i _ _ q
  pin := g.pin
theorem Gh.more_B {g : Gh} {p : Addr} {o : HO} {i : Nat} {a : Addr} {xs : List V} (q : g.B i = some (a, xs)) (hp : g.P p = none) : (g.more p o).B i = some (a, xs) := by
  show (match g.B i with | some (a, xs) => if a = p then none else some (a, xs) | none => none) = _
  rw [q]
  exact if_neg fun e => by subst e; rw [g.sub i _ _ q] at hp; cases hp
theorem Gh.more_B_of {g : Gh} {p : Addr} {o : HO} {i : Nat} {a : Addr} {xs : List V} (h : (g.more p o).B i = some (a, xs)) : g.B i = some (a, xs) := by
  have h' : (match g.B i with | some (a, xs) => if a = p then none else some (a, xs) | none => none) = some (a, xs) := h
  cases q : g.B i with
  | none => rw [q] at h'; cases h'
  | some y =>
    obtain ⟨b, ys⟩ := y
    rw [q] at h'
    have h2 : (if b = p then none else some (b, ys)) = some (a, xs) := h'
    by_cases hb : b = p
    · rw [if_pos hb] at h2; cases h2
    · rw [if_neg hb] at h2; exact h2
theorem FrK.noP (x : FrK Γ K g Fz H σ ρ κ) {p : Addr} (hp : H p = none) : g.P p = none := by
  cases q : g.P p with
  | none => rfl
  | some u => rw [(x.prot p u q).1] at hp; cases hp
theorem SlotOk.more {i : Nat} {cells : List Addr} {o : Option (Option V)} {s : Slot} {p : Addr} {u : HO} (x : SlotOk Γ K g Fz H i cells o s) (hp : g.P p = none) : SlotOk Γ K (g.more p u) Fz H i cells o s := by
  cases s with
  | bor ds =>
    obtain ⟨h1, a, xs, h2, h3, h4⟩ := x
    exact ⟨h1, a, xs, h2, h3.imp id fun q => Gh.more_B q hp, h4⟩
  | emp => exact x
  | raw => exact x
  | fz d => exact x
  | own c => exact x
  | io c => exact x
theorem SlotOk.less {i : Nat} {cells : List Addr} {o : Option (Option V)} {s : Slot} {p : Addr} {u : HO} (x : SlotOk Γ K (g.more p u) Fz H i cells o s) : SlotOk Γ K g Fz H i cells o s := by
  cases s with
  | bor ds =>
    obtain ⟨h1, a, xs, h2, h3, h4⟩ := x
    exact ⟨h1, a, xs, h2, h3.imp id fun q => Gh.more_B_of q, h4⟩
  | emp => exact x
  | raw => exact x
  | fz d => exact x
  | own c => exact x
  | io c => exact x
theorem FrK.fresh0 (x : FrK Γ K g Fz H σ ρ κ) {p : Addr} {o : HO} (hp : H p = none) (nt : Pln o := by exact trivial) : FrK Γ K (g.more p o) Fz (upd H p o) σ ρ κ := by
  have hz : Fz p = none := x.sub.free hp
  refine ⟨fun b u h => ?_, fun a u h => ?_, x.len, fun i t h => ?_, fun i a ha => ?_, x.disj, x.cch.go (Sub.refl _) (fun _ _ _ e => e) fun a kvs hl h1 h2 h3 h4 => ⟨by rw [upd_ne (ne_of_none h1 hp)]; exact h1, h2, by show upd g.P p o a = none; rw [upd_ne (ne_of_none h1 hp)]; exact h3, h4⟩, putTups x.tups nt⟩
  · rw [upd_ne (ne_of_none h hz)]; exact x.sub b u h
  · have h' : upd g.P p o a = some u := h
    by_cases ha : a = p
    · subst ha
      rw [upd_same] at h' ⊢
      exact ⟨h', hz⟩
    · rw [upd_ne ha] at h' ⊢
      exact x.prot a u h'
  · have kk : ∀ a ∈ κ i, upd H p o a = H a := fun a ha => by
      obtain ⟨_, _, _, u, hu⟩ := x.fresh i a ha
      rw [upd_ne (ne_of_none hu hp)]
    exact ((x.slot i t h).mono (Sub.refl Fz) kk).more (x.noP hp)
  · obtain ⟨h0, h1, h2, u, h3⟩ := x.fresh i a ha
    have hap : a ≠ p := ne_of_none h3 hp
    refine ⟨h0, h1, ?_, u, by rw [upd_ne hap]; exact h3⟩
    show upd g.P p o a = none
    rw [upd_ne hap]; exact h2
theorem FrK.at0 {p : Addr} {o : HO} (x : FrK Γ K (g.more p o) Fz H σ ρ κ) : H p = some o ∧ Fz p = none := x.prot p o upd_same
/-- a protected new object is frozen -/
theorem FrK.freeze0 {p : Addr} {o : HO} (x : FrK Γ K (g.more p o) Fz H σ ρ κ) (hg : g.P p = none) (hn : ∀ dx fs, o ≠ .ins (Γ.ad 0) dx fs := by intro _ _ z; cases z) : FrK Γ K g (upd Fz p o) H σ ρ κ := by
  have hH := x.at0
  refine ⟨fun b u h => ?_, fun a u h => ?_, x.len, fun i t h => ?_, fun i a ha => ?_, x.disj, x.cch.go (Sub.new (o := o) hH.2) (noIns hn) fun a kvs hl h1 h2 h3 h4 => ?_, fun a xs e => (x.tups a xs e).mono (Sub.new hH.2)⟩
  · by_cases hbp : b = p
    · subst hbp; rw [upd_same] at h; rw [← h]; exact hH.1
    · rw [upd_ne hbp] at h; exact x.sub b u h
  · have hap : a ≠ p := fun e => by subst e; rw [h] at hg; cases hg
    have q := x.prot a u (by show upd g.P p o a = _; rw [upd_ne hap]; exact h)
    exact ⟨q.1, by rw [upd_ne hap]; exact q.2⟩
  · exact ((x.slot i t h).mono (Sub.new (o := o) hH.2) fun a _ => rfl).less
  · obtain ⟨h0, h1, h2, u, h3⟩ := x.fresh i a ha
    have h2' : upd g.P p o a = none := h2
    have hap : a ≠ p := fun e => by subst e; rw [upd_same] at h2'; cases h2'
    rw [upd_ne hap] at h2'
    exact ⟨h0, by rw [upd_ne hap]; exact h1, h2', u, h3⟩
  · have h3' : upd g.P p o a = none := h3
    have hap : a ≠ p := fun e => by subst e; rw [upd_same] at h3'; cases h3'
    rw [upd_ne hap] at h3'
    exact ⟨h1, by rw [upd_ne hap]; exact h2, h3', h4⟩
/-- a protected new object is let go (nobody reads it any more) -/
theorem FrK.drop0 {p : Addr} {o : HO} (x : FrK Γ K (g.more p o) Fz H σ ρ κ) (hg : g.P p = none) : FrK Γ K g Fz H σ ρ κ := by
  refine ⟨x.sub, fun a u h => ?_, x.len, fun i t h => (x.slot i t h).less, fun i a ha => ?_, x.disj, x.cch.go (Sub.refl _) (fun _ _ _ e => e) fun a kvs hl h1 h2 h3 h4 => ?_, x.tups⟩
  · have hap : a ≠ p := fun e => by subst e; rw [h] at hg; cases hg
    exact x.prot a u (by show upd g.P p o a = _; rw [upd_ne hap]; exact h)
  · obtain ⟨h0, h1, h2, u, h3⟩ := x.fresh i a ha
    have h2' : upd g.P p o a = none := h2
    have hap : a ≠ p := fun e => by subst e; rw [upd_same] at h2'; cases h2'
    rw [upd_ne hap] at h2'
    exact ⟨h0, h1, h2', u, h3⟩
  · have h3' : upd g.P p o a = none := h3
    have hap : a ≠ p := fun e => by subst e; rw [upd_same] at h3'; cases h3'
    rw [upd_ne hap] at h3'
    exact ⟨h1, h2, h3', h4⟩
/-- a protected new object's content is changed -/
theorem FrK.write0 {p : Addr} {o o' : HO} (x : FrK Γ K (g.more p o) Fz H σ ρ κ) (hg : g.P p = none) (nt : Pln o' := by exact trivial) : FrK Γ K (g.more p o') Fz (upd H p o') σ ρ κ := by
  have hH := x.at0
  have hne : ∀ i a, a ∈ κ i → a ≠ p := fun i a ha e => by
    obtain ⟨_, _, h2, _⟩ := x.fresh i a ha
    have h2' : upd g.P p o a = none := h2
    subst e; rw [upd_same] at h2'; cases h2'
  refine ⟨fun b u h => ?_, fun a u h => ?_, x.len, fun i t h => ?_, fun i a ha => ?_, x.disj, x.cch.go (Sub.refl _) (fun _ _ _ e => e) fun a kvs hl h1 h2 h3 h4 => ?_, putTups x.tups nt⟩
  · rw [upd_ne (ne_of_none h hH.2)]; exact x.sub b u h
  · have h' : upd g.P p o' a = some u := h
    by_cases ha : a = p
    · subst ha
      rw [upd_same] at h' ⊢
      exact ⟨h', hH.2⟩
    · rw [upd_ne ha] at h' ⊢
      exact x.prot a u (by show upd g.P p o a = _; rw [upd_ne ha]; exact h')
  · exact ((x.slot i t h).less.mono (Sub.refl Fz) fun a ha => upd_ne (hne i a ha)).more hg
  · obtain ⟨h0, h1, h2, u, h3⟩ := x.fresh i a ha
    have h2' : upd g.P p o a = none := h2
    have hap := hne i a ha
    rw [upd_ne hap] at h2'
    exact ⟨h0, h1, by show upd g.P p o' a = none; rw [upd_ne hap]; exact h2', u, by rw [upd_ne hap]; exact h3⟩
  · have h3' : upd g.P p o a = none := h3
    have hap : a ≠ p := fun e => by subst e; rw [upd_same] at h3'; cases h3'
    rw [upd_ne hap] at h3'
    exact ⟨by rw [upd_ne hap]; exact h1, h2, by show upd g.P p o' a = none; rw [upd_ne hap]; exact h3', h4⟩
end
end L3
namespace L3
open PySem PySem.Spec PyProof.Rows L2
/-- how an expression ends: a value, or an error of the c-th class with what it keeps; the slots behind it -/
inductive Out (α : Type) where
  | ok (a : α) (ρ : Env)
  | exc (c : Nat) (d : Option D) (ρ : Env)
abbrev M (α : Type) := Env → Option (Out α)
def M.bind {α β : Type} (m : M α) (k : α → M β) : M β := fun ρ => match m ρ with
  | none => none
  | some (.ok a ρ') => k a ρ'
  | some (.exc c d ρ') => some (.exc c d ρ')
def M.ret {α : Type} (a : α) : M α := fun ρ => some (.ok a ρ)
def M.map {α β : Type} (f : α → β) (m : M α) : M β := m.bind fun a => M.ret (f a)
def M.opt {α : Type} (o : Option α) : M α := fun ρ => o.map fun a => .ok a ρ
theorem M.bind_ok {α β : Type} {m : M α} {k : α → M β} {ρ ρ' : Env} {a : α} (h : m ρ = some (.ok a ρ')) : m.bind k ρ = k a ρ' := by simp only [M.bind, h]
theorem M.bind_exc {α β : Type} {m : M α} {k : α → M β} {ρ ρ' : Env} {c : Nat} {d : Option D} (h : m ρ = some (.exc c d ρ')) : m.bind k ρ = some (.exc c d ρ') := by simp only [M.bind, h]
theorem M.map_ok {α β : Type} {m : M α} {f : α → β} {ρ ρ' : Env} {a : α} (h : m ρ = some (.ok a ρ')) : m.map f ρ = some (.ok (f a) ρ') := by simp only [M.map, M.bind, h, M.ret]
/-- an operand: a value, or the name of a thing that is only read -/
inductive Bv where
  | val (d : D)
  | sl (i : Nat)
def deref (ρ : Env) : Bv → Option D
  | .val d => some d
  | .sl i => match ρ[i]? with
    | some (.fz d) => some d
    | some (.own (.lst ds)) => some (.lst ds)
    | some (.io (.lst ds)) => some (.lst ds)
    | some (.bor ds) => some (.lst ds)
    | some (.own (.dic t ks vs)) => some (.dic t ks vs)
    | some (.io (.dic t ks vs)) => some (.dic t ks vs)
    | _ => none
section
variable (Γ : Ct) (K : PySem.W.Frag)
/-- an error on its way: what it keeps stands in its own dict -/
def ExGo (W : WX) (g : Gh) (Fz : Hp) (σ : L2.St) (c : Nat) (ρ' : Env) : Option D → Prop
  | some d => ∀ x v Fz' H', Sub Fz Fz' → g.P x = none → Fr Γ K (g.more x (.xd [("at", v)])) Fz' H' σ ρ' → Rep Γ K Fz' d v → W (.ref (Γ.ad c)) (some x) σ H'
  | none => ∀ Fz' H', Sub Fz Fz' → Fr Γ K g Fz' H' σ ρ' → W (.ref (Γ.ad c)) none σ H'
/-- the end r reaches Q; R: how its value is borne -/
def Goes {α β : Type} (W : WX) (g : Gh) (Fz : Hp) (σ : L2.St) (R : Hp → α → β → Prop) (r : Option (Out α)) (Q : β → Hp → Prop) : Prop := match r with
  | none => False
  | some (.ok a ρ') => ∀ v Fz' H', Sub Fz Fz' → Fr Γ K g Fz' H' σ ρ' → R Fz' a v → Q v H'
  | some (.exc c d ρ') => ExGo Γ K W g Fz σ c ρ' d
def GoesO (W : WX) (g : Gh) (Fz : Hp) (σ : L2.St) (r : Option (Out (List D))) (Q : V → Hp → Prop) : Prop := match r with
  | none => False
  | some (.ok ds ρ') => ∀ a xs Fz' H', Sub Fz Fz' → g.P a = none → Fr Γ K (g.more a (.lst xs)) Fz' H' σ ρ' → RepL Γ K Fz' ds xs → Q (.ref a) H'
  | some (.exc c d ρ') => ExGo Γ K W g Fz σ c ρ' d
def RE : Hp → D → V → Prop := fun Fz d v => Rep Γ K Fz d v
def RB (σ : L2.St) : Hp → Bv → V → Prop := fun Fz b v => match b with
  | .val d => Rep Γ K Fz d v
  | .sl i => σ[i]? = some (some v)
def RT : Hp → Bool → Bool → Prop := fun _ a b => a = b
def RA : Hp → List D → List V → Prop := fun Fz ds vs => RepL Γ K Fz ds vs
def RdE (W : WX) (t : TE) (m : M D) : Prop := ∀ g Fz H σ ρ Q, Fr Γ K g Fz H σ ρ → Goes Γ K W g Fz σ (RE Γ K) (m ρ) Q → t σ H Q
def RdB (W : WX) (t : TE) (m : M Bv) : Prop := ∀ g Fz H σ ρ Q, Fr Γ K g Fz H σ ρ → Goes Γ K W g Fz σ (RB Γ K σ) (m ρ) Q → t σ H Q
def RdT (W : WX) (t : TT) (m : M Bool) : Prop := ∀ g Fz H σ ρ Q, Fr Γ K g Fz H σ ρ → Goes Γ K W g Fz σ RT (m ρ) Q → t σ H Q
def RdA (W : WX) (t : TA) (m : M (List D)) : Prop := ∀ g Fz H σ ρ Q, Fr Γ K g Fz H σ ρ → Goes Γ K W g Fz σ (RA Γ K) (m ρ) Q → t σ H Q
def RdO (W : WX) (t : TE) (m : M (List D)) : Prop := ∀ g Fz H σ ρ Q, Fr Γ K g Fz H σ ρ → GoesO Γ K W g Fz σ (m ρ) Q → t σ H Q
end
structure DE (Γ : Ct) (W : WX) (X : Cx) (e : Expr) (t : TE) (m : M D) : Prop where
  pe : PE X e t
  rd : RdE Γ X.K W t m
structure DB (Γ : Ct) (W : WX) (X : Cx) (e : Expr) (t : TE) (m : M Bv) : Prop where
  pe : PE X e t
  rd : RdB Γ X.K W t m
structure DT (Γ : Ct) (W : WX) (X : Cx) (e : Expr) (t : TT) (m : M Bool) : Prop where
  pe : PT X e t
  rd : RdT Γ X.K W t m
structure DW (Γ : Ct) (W : WX) (X : Cx) (e : Expr) (t : TT) (m : M Bool) : Prop where
  pe : PW X e t
  rd : RdT Γ X.K W t m
structure DA (Γ : Ct) (W : WX) (X : Cx) (es : List Expr) (t : TA) (m : M (List D)) : Prop where
  pe : PA X es t
  rd : RdA Γ X.K W t m
structure DO (Γ : Ct) (W : WX) (X : Cx) (e : Expr) (t : TE) (m : M (List D)) : Prop where
  pe : PE X e t
  rd : RdO Γ X.K W t m
section
variable {Γ : Ct} {K : PySem.W.Frag} {W : WX} {g : Gh} {Fz Fz1 H H1 : Hp} {σ : L2.St} {ρ ρ1 : Env}
theorem ExGo.mono {c : Nat} {d : Option D} (s : Sub Fz Fz1) (h : ExGo Γ K W g Fz σ c ρ d) : ExGo Γ K W g Fz1 σ c ρ d := by
  cases d with
  | none => exact fun Fz' H' s' => h Fz' H' (s.trans s')
  | some d => exact fun x v Fz' H' s' => h x v Fz' H' (s.trans s')
theorem Goes.mono {α β : Type} {R : Hp → α → β → Prop} {r : Option (Out α)} {Q : β → Hp → Prop} (s : Sub Fz Fz1) (h : Goes Γ K W g Fz σ R r Q) : Goes Γ K W g Fz1 σ R r Q := by
  match r, h with
  | some (.ok a ρ'), h => exact fun v Fz' H' s' => h v Fz' H' (s.trans s')
  | some (.exc c d ρ'), h => exact ExGo.mono s h
theorem GoesO.mono {r : Option (Out (List D))} {Q : V → Hp → Prop} (s : Sub Fz Fz1) (h : GoesO Γ K W g Fz σ r Q) : GoesO Γ K W g Fz1 σ r Q := by
  match r, h with
  | some (.ok a ρ'), h => exact fun v x Fz' H' s' => h v x Fz' H' (s.trans s')
  | some (.exc c d ρ'), h => exact ExGo.mono s h
theorem Goes.bind {α β γ δ : Type} {R : Hp → α → β → Prop} {R2 : Hp → γ → δ → Prop} {m : M α} {k : α → M γ} {Q : δ → Hp → Prop} {Q1 : β → Hp → Prop} (h : Goes Γ K W g Fz σ R2 (m.bind k ρ) Q)
    (f : ∀ a ρ1 v Fz1 H1, Sub Fz Fz1 → Fr Γ K g Fz1 H1 σ ρ1 → R Fz1 a v → Goes Γ K W g Fz1 σ R2 (k a ρ1) Q → Q1 v H1) : Goes Γ K W g Fz σ R (m ρ) Q1 := by
  cases e : m ρ with
  | none => rw [show m.bind k ρ = none by simp only [M.bind, e]] at h; exact h
  | some o =>
    cases o with
    | ok a ρ1 =>
      rw [M.bind_ok e] at h
      exact fun v Fz1 H1 s x r => f a ρ1 v Fz1 H1 s x r (h.mono s)
    | exc c d ρ1 => rw [M.bind_exc e] at h; exact h
theorem Goes.bindO {α β : Type} {R : Hp → α → β → Prop} {m : M α} {k : α → M (List D)} {Q : V → Hp → Prop} {Q1 : β → Hp → Prop} (h : GoesO Γ K W g Fz σ (m.bind k ρ) Q)
    (f : ∀ a ρ1 v Fz1 H1, Sub Fz Fz1 → Fr Γ K g Fz1 H1 σ ρ1 → R Fz1 a v → GoesO Γ K W g Fz1 σ (k a ρ1) Q → Q1 v H1) : Goes Γ K W g Fz σ R (m ρ) Q1 := by
  cases e : m ρ with
  | none => rw [show m.bind k ρ = none by simp only [M.bind, e]] at h; exact h
  | some o =>
    cases o with
    | ok a ρ1 =>
      rw [M.bind_ok e] at h
      exact fun v Fz1 H1 s x r => f a ρ1 v Fz1 H1 s x r (h.mono s)
    | exc c d ρ1 => rw [M.bind_exc e] at h; exact h
theorem Goes.ok {α β : Type} {R : Hp → α → β → Prop} {a : α} {b : β} {Q : β → Hp → Prop} (h : Goes Γ K W g Fz σ R (some (.ok a ρ)) Q) (x : Fr Γ K g Fz H σ ρ) (r : R Fz a b) : Q b H := h b Fz H (Sub.refl _) x r
/-- a value is handed on as another one -/
theorem Goes.as {α β γ δ : Type} {R : Hp → α → β → Prop} {R2 : Hp → γ → δ → Prop} {f : α → γ} {m : M α} {Q : δ → Hp → Prop} {Q1 : β → Hp → Prop} (h : Goes Γ K W g Fz σ R2 (m.map f ρ) Q)
    (k : ∀ a v Fz1 H1, R Fz1 a v → (∀ w, R2 Fz1 (f a) w → Q w H1) → Q1 v H1) : Goes Γ K W g Fz σ R (m ρ) Q1 :=
  Goes.bind h fun a ρ1 v Fz1 H1 _ x r q => k a v Fz1 H1 r fun w r2 => q w Fz1 H1 (Sub.refl _) x r2
/-- a thing that is read now -/
def RepH (Γ : Ct) (K : PySem.W.Frag) (Fz H : Hp) (d : D) (v : V) : Prop := Rep Γ K Fz d v ∨ (∃ ds a xs, d = .lst ds ∧ v = .ref a ∧ H a = some (.lst xs) ∧ RepL Γ K Fz ds xs) ∨
  ∃ t ks vs a o, d = .dic t ks vs ∧ v = .ref a ∧ H a = some o ∧ DicAt Γ K Fz ks vs o t
theorem Fr.sub (x : Fr Γ K g Fz H σ ρ) : Sub Fz H := let ⟨_, y⟩ := x; y.sub
theorem Fr.deref {b : Bv} {v : V} {d : D} (x : Fr Γ K g Fz H σ ρ) (r : RB Γ K σ Fz b v) (e : deref ρ b = some d) : RepH Γ K Fz H d v := by
  obtain ⟨κ, x⟩ := x
  cases b with
  | val d' =>
    have e' : d' = d := Option.some.inj e
    subst e'; exact .inl r
  | sl i =>
    have r' : σ[i]? = some (some v) := r
    have sl := x.slot i
    simp only [L3.deref] at e
    cases hs : ρ[i]? with
    | none => rw [hs] at e; cases e
    | some s =>
      rw [hs] at e
      have q := sl s hs
      rw [r'] at q
      cases s with
      | emp => cases e
      | raw => cases e
      | fz d' =>
        have e' : d' = d := Option.some.inj e
        subst e'
        obtain ⟨_, v', h1, h2⟩ := q
        cases h1; exact .inl h2
      | bor ds =>
        have e' : D.lst ds = d := Option.some.inj e
        subst e'
        obtain ⟨_, a, xs, h1, h2, h3⟩ := q
        cases h1
        refine .inr (.inl ⟨ds, a, xs, rfl, rfl, ?_, h3⟩)
        rcases h2 with h2 | h2
        · exact x.sub _ _ h2
        · exact (x.prot a _ (g.sub _ _ _ h2)).1
      | own c =>
        cases c with
        | deal _ _ => cases e
        | lst ds =>
          have e' : D.lst ds = d := Option.some.inj e
          subst e'
          obtain ⟨v', h1, a, xs, _, rfl, h3, h4⟩ := q
          cases h1
          exact .inr (.inl ⟨ds, a, xs, rfl, rfl, h3, h4⟩)
        | dic t ks vs =>
          have e' : D.dic t ks vs = d := Option.some.inj e
          subst e'
          obtain ⟨v', h1, a, o, _, rfl, h3, h4⟩ := q
          cases h1
          exact .inr (.inr ⟨t, ks, vs, a, o, rfl, rfl, h3, h4⟩)
      | io c =>
        cases c with
        | deal _ _ => cases e
        | lst ds =>
          have e' : D.lst ds = d := Option.some.inj e
          subst e'
          obtain ⟨v', h1, ⟨a, xs, _, rfl, h3, h4⟩, _⟩ := q
          cases h1
          exact .inr (.inl ⟨ds, a, xs, rfl, rfl, h3, h4⟩)
        | dic t ks vs =>
          have e' : D.dic t ks vs = d := Option.some.inj e
          subst e'
          obtain ⟨v', h1, ⟨a, o, _, rfl, h3, h4⟩, _⟩ := q
          cases h1
          exact .inr (.inr ⟨t, ks, vs, a, o, rfl, rfl, h3, h4⟩)
theorem RB.mono {b : Bv} {v : V} (s : Sub Fz Fz1) (r : RB Γ K σ Fz b v) : RB Γ K σ Fz1 b v := by
  cases b with
  | val d => exact Rep.mono s r
  | sl i => exact r
/-- what is read, by kinds -/
theorem RepH.int {v : V} {i : Int} (r : RepH Γ K Fz H (.int i) v) : v = .int i := by
  rcases r with r | ⟨_, _, _, e, _⟩ | ⟨_, _, _, _, _, e, _⟩
  · cases r; rfl
  · cases e
  · cases e
theorem RepH.str {v : V} {z : Str} (r : RepH Γ K Fz H (.str z) v) : v = .str z := by
  rcases r with r | ⟨_, _, _, e, _⟩ | ⟨_, _, _, _, _, e, _⟩
  · cases r; rfl
  · cases e
  · cases e
theorem RepH.bl {v : V} {k : Bool} (r : RepH Γ K Fz H (.bl k) v) : v = .bl k := by
  rcases r with r | ⟨_, _, _, e, _⟩ | ⟨_, _, _, _, _, e, _⟩
  · cases r; rfl
  · cases e
  · cases e
theorem RepH.lst {v : V} {ds : List D} (s : Sub Fz H) (r : RepH Γ K Fz H (.lst ds) v) : ∃ a xs, v = .ref a ∧ H a = some (.lst xs) ∧ RepL Γ K Fz ds xs := by
  rcases r with r | ⟨ds', a, xs, e, rfl, h1, h2⟩ | ⟨_, _, _, _, _, e, _⟩
  · cases r with
    | lst h1 h2 => exact ⟨_, _, rfl, s _ _ h1, h2⟩
  · cases e; exact ⟨a, xs, rfl, h1, h2⟩
  · cases e
theorem RepH.tup {v : V} {ds : List D} (s : Sub Fz H) (r : RepH Γ K Fz H (.tup ds) v) : ∃ a xs, v = .ref a ∧ H a = some (.tup xs) ∧ RepL Γ K Fz ds xs := by
  rcases r with r | ⟨ds', a, xs, e, _⟩ | ⟨_, _, _, _, _, e, _⟩
  · cases r with
    | tup h1 h2 => exact ⟨_, _, rfl, s _ _ h1, h2⟩
  · cases e
  · cases e
/-- a dict, locked or not -/
def DicRd (Γ : Ct) (K : PySem.W.Frag) (Fz H : Hp) (ks vs : List D) (a : Addr) : Bool → Prop
  | true => ∃ kk : List (List L2.Key × V), Rd H a (.dT kk) ∧ ks = kk.map keyT ∧ RepL Γ K Fz vs (kk.map (·.2))
  | false => ∃ kk : List (L2.Key × V), Rd H a (.dK kk) ∧ ks = kk.map keyK ∧ RepL Γ K Fz vs (kk.map (·.2))
theorem RepH.dic {v : V} {t : Bool} {ks vs : List D} (s : Sub Fz H) (r : RepH Γ K Fz H (.dic t ks vs) v) : ∃ a, v = .ref a ∧ DicRd Γ K Fz H ks vs a t := by
  rcases r with r | ⟨ds', a, xs, e, _⟩ | ⟨t', ks', vs', a, o, e, rfl, h1, h2⟩
  · cases r with
    | dicT h1 h2 h3 => exact ⟨_, rfl, _, .inr ⟨_, s _ _ h1⟩, h2, h3⟩
    | dicK h1 h2 h3 => exact ⟨_, rfl, _, .inr ⟨_, s _ _ h1⟩, h2, h3⟩
  · cases e
  · cases e
    cases t with
    | true => obtain ⟨kk, rfl, h3, h4⟩ := h2; exact ⟨a, rfl, kk, .inl h1, h3, h4⟩
    | false => obtain ⟨kk, rfl, h3, h4⟩ := h2; exact ⟨a, rfl, kk, .inl h1, h3, h4⟩
/-- new frozen things -/
theorem Fr.newT {p : Addr} {ds : List D} {xs : List V} (x : Fr Γ K g Fz H σ ρ) (hp : H p = none) (r : RepL Γ K Fz ds xs) :
    Sub Fz (upd Fz p (.tup xs)) ∧ Fr Γ K g (upd Fz p (.tup xs)) (upd H p (.tup xs)) σ ρ ∧ Rep Γ K (upd Fz p (.tup xs)) (.tup ds) (.ref p) := by
  have hz : Fz p = none := x.sub.free hp
  obtain ⟨κ, x⟩ := x
  exact ⟨Sub.new hz, ⟨κ, x.alloc hp⟩, .tup upd_same (r.mono (Sub.new hz))⟩
theorem Fr.newL {p : Addr} {ds : List D} {xs : List V} (x : Fr Γ K g Fz H σ ρ) (hp : H p = none) (r : RepL Γ K Fz ds xs) :
    Sub Fz (upd Fz p (.lst xs)) ∧ Fr Γ K g (upd Fz p (.lst xs)) (upd H p (.lst xs)) σ ρ ∧ Rep Γ K (upd Fz p (.lst xs)) (.lst ds) (.ref p) := by
  have hz : Fz p = none := x.sub.free hp
  obtain ⟨κ, x⟩ := x
  exact ⟨Sub.new hz, ⟨κ, x.alloc hp⟩, .lst upd_same (r.mono (Sub.new hz))⟩
theorem Fr.fresh {p : Addr} {xs : List V} (x : Fr Γ K g Fz H σ ρ) (hp : H p = none) : g.P p = none ∧ Fr Γ K (g.more p (.lst xs)) Fz (upd H p (.lst xs)) σ ρ := by
  obtain ⟨κ, x⟩ := x
  exact ⟨x.noP hp, κ, x.fresh0 hp⟩
theorem RdO.toE {t : TE} {m : M (List D)} (h : RdO Γ K W t m) : RdE Γ K W t (m.map D.lst) := fun g Fz H σ ρ Q x q => h g Fz H σ ρ Q x (by
  cases e : m ρ with
  | none => rw [show m.map D.lst ρ = none by simp only [M.map, M.bind, e]] at q; exact q
  | some o =>
    cases o with
    | ok ds ρ1 =>
      rw [M.map_ok e] at q
      intro a xs Fz1 H1 s hg ⟨κ, y⟩ r
      have hz := y.at0
      exact q (.ref a) _ H1 (s.trans (Sub.new hz.2)) ⟨κ, y.freeze0 hg⟩ (.lst upd_same (r.mono (Sub.new hz.2)))
    | exc c d ρ1 => rw [show m.map D.lst ρ = some (.exc c d ρ1) from M.bind_exc e] at q; exact q)
theorem RdE.toB {t : TE} {m : M D} (h : RdE Γ K W t m) : RdB Γ K W t (m.map Bv.val) := fun g Fz H σ ρ Q x q => h g Fz H σ ρ Q x (Goes.as q fun a v Fz1 H1 r k => k v r)
end
section
variable {Γ : Ct} {W : WX} {X : Cx} {e a b : Expr} {es : List Expr} {pos : Pos} {ta tb t : TE}
theorem DO.toE {m : M (List D)} (h : DO Γ W X e t m) : DE Γ W X e t (m.map D.lst) := ⟨h.pe, h.rd.toE⟩
theorem DE.toB {m : M D} (h : DE Γ W X e t m) : DB Γ W X e t (m.map Bv.val) := ⟨h.pe, h.rd.toB⟩
theorem DO.toB {m : M (List D)} (h : DO Γ W X e t m) : DB Γ W X e t ((m.map D.lst).map Bv.val) := h.toE.toB
/-- the name in the i-th slot, kept from now on -/
def mVar (i : Nat) : M D := fun ρ => match ρ[i]? with
  | some (.fz d) => some (.ok d ρ)
  | some (.own (.lst ds)) => some (.ok (.lst ds) (ρ.set i (.fz (.lst ds))))
  | _ => none
/-- the name in the i-th slot, only read -/
def mSl (i : Nat) : M Bv := fun ρ => match ρ[i]? with
  | some .emp => none
  | some .raw => none
  | none => none
  | _ => some (.ok (.sl i) ρ)
theorem FrK.freezeSlot {K : PySem.W.Frag} {g : Gh} {Fz H : Hp} {σ : L2.St} {ρ : Env} {κ : Nat → List Addr} {i : Nat} {ds : List D} (x : FrK Γ K g Fz H σ ρ κ) (hs : ρ[i]? = some (.own (.lst ds))) :
    ∃ Fz' v, Sub Fz Fz' ∧ FrK Γ K g Fz' H σ (ρ.set i (.fz (.lst ds))) (fun j => if j = i then [] else κ j) ∧ σ[i]? = some (some v) ∧ Rep Γ K Fz' (.lst ds) v := by
  obtain ⟨v, h1, a, xs, hc, rfl, h3, h4⟩ := x.slot i _ hs
  have hai : a ∈ κ i := by rw [hc]; simp
  obtain ⟨hlt, hz, hP, _⟩ := x.fresh i a hai
  have s := Sub.new (o := HO.lst xs) hz
  have rep : Rep Γ K (upd Fz a (.lst xs)) (.lst ds) (.ref a) := .lst upd_same (h4.mono s)
  refine ⟨upd Fz a (.lst xs), .ref a, s, ⟨fun b u h => ?_, fun b u h => ?_, by rw [List.length_set]; exact x.len, fun j t h => ?_, fun j b hb => ?_, fun j l b hj hl => ?_, x.cch.go s (noIns (by intro _ _ z; cases z)) fun b kvs hl q1 q2 q3 q4 => ⟨q1, by rw [upd_ne (fun e => by subst e; exact q4 i hai)]; exact q2, q3, fun j hb => ?_⟩, fun b ys e => (x.tups b ys e).mono s⟩, h1, rep⟩
  · by_cases hb : b = a
    · subst hb; rw [upd_same] at h; rw [← h]; exact h3
    · rw [upd_ne hb] at h; exact x.sub b u h
  · obtain ⟨q1, q2⟩ := x.prot b u h
    refine ⟨q1, ?_⟩
    rw [upd_ne (fun e => by subst e; rw [hP] at h; cases h)]
    exact q2
  · by_cases hj : j = i
    · subst hj
      rw [List.getElem?_set_self hlt] at h
      cases h
      rw [if_pos rfl]
      exact ⟨rfl, .ref a, h1, rep⟩
    · rw [List.getElem?_set_ne (fun e => hj e.symm)] at h
      rw [if_neg hj]
      exact (x.slot j t h).mono s fun b hb => rfl
  · by_cases hj : j = i
    · simp only [if_pos hj] at hb; cases hb
    · simp only [if_neg hj] at hb
      obtain ⟨q0, q1, q2, q3⟩ := x.fresh j b hb
      refine ⟨by rw [List.length_set]; exact q0, ?_, q2, q3⟩
      rw [upd_ne (fun e => by subst e; exact hj (x.disj j i b hb hai))]
      exact q1
  · by_cases hj' : j = i
    · simp only [if_pos hj'] at hj; cases hj
    · by_cases hl' : l = i
      · simp only [if_pos hl'] at hl; cases hl
      · simp only [if_neg hj'] at hj
        simp only [if_neg hl'] at hl
        exact x.disj j l b hj hl
  · by_cases hj : j = i
    · simp only [if_pos hj] at hb; cases hb
    · simp only [if_neg hj] at hb; exact q4 j hb
theorem rd_var {K : PySem.W.Frag} (i : Nat) : RdE Γ K W (tVar i) (mVar i) := fun g Fz H σ ρ Q x q => by
  obtain ⟨κ, y⟩ := x
  simp only [mVar] at q
  cases hs : ρ[i]? with
  | none => rw [hs] at q; exact q.elim
  | some s =>
    rw [hs] at q
    cases s with
    | emp => exact q.elim
    | raw => exact q.elim
    | bor ds => exact q.elim
    | io c => exact q.elim
    | fz d =>
      obtain ⟨_, v, h1, h2⟩ := y.slot i _ hs
      exact ⟨v, h1, q v Fz H (Sub.refl _) ⟨κ, y⟩ h2⟩
    | own c =>
      cases c with
      | deal _ _ => exact q.elim
      | dic _ _ _ => exact q.elim
      | lst ds =>
        obtain ⟨Fz', v, s, y', h1, h2⟩ := y.freezeSlot hs
        exact ⟨v, h1, q v Fz' H s ⟨_, y'⟩ h2⟩
theorem rd_sl {K : PySem.W.Frag} (i : Nat) : RdB Γ K W (tVar i) (mSl i) := fun g Fz H σ ρ Q x q => by
  obtain ⟨κ, y⟩ := x
  simp only [mSl] at q
  cases hs : ρ[i]? with
  | none => simp only [hs] at q; exact q.elim
  | some s =>
    have h := y.slot i _ hs
    have q2 : ∀ {v : V}, σ[i]? = some (some v) → s ≠ .emp → Q v H := fun {v} e ne => by
      simp only [hs] at q
      cases s with
      | emp => exact absurd rfl ne
      | raw => exact q.elim
      | fz d => exact q v Fz H (Sub.refl _) ⟨κ, y⟩ e
      | own d => exact q v Fz H (Sub.refl _) ⟨κ, y⟩ e
      | io d => exact q v Fz H (Sub.refl _) ⟨κ, y⟩ e
      | bor d => exact q v Fz H (Sub.refl _) ⟨κ, y⟩ e
    cases s with
    | emp => simp only [hs] at q; exact q.elim
    | raw => simp only [hs] at q; exact q.elim
    | fz d => obtain ⟨_, v, h1, _⟩ := h; exact ⟨v, h1, q2 h1 nofun⟩
    | own d => obtain ⟨v, h1, _⟩ := h; exact ⟨v, h1, q2 h1 nofun⟩
    | io d => obtain ⟨v, h1, _⟩ := h; exact ⟨v, h1, q2 h1 nofun⟩
    | bor d => obtain ⟨_, a, _, h1, _⟩ := h; exact ⟨_, h1, q2 h1 nofun⟩
end
end L3
namespace L3
open PySem PySem.Spec PyProof.Rows L2
def ret1 (f : D → Option D) (a : Bv) : M D := fun ρ => ((deref ρ a).bind f).map fun z => .ok z ρ
def ret2 (f : D → D → Option D) (a b : Bv) : M D := fun ρ => ((deref ρ a).bind fun d => (deref ρ b).bind fun e => f d e).map fun z => .ok z ρ
def retO1 (f : D → Option (List D)) (a : Bv) : M (List D) := fun ρ => ((deref ρ a).bind f).map fun z => .ok z ρ
def retO2 (f : D → D → Option (List D)) (a b : Bv) : M (List D) := fun ρ => ((deref ρ a).bind fun d => (deref ρ b).bind fun e => f d e).map fun z => .ok z ρ
def mUn (f : D → Option D) (ma : M Bv) : M D := ma.bind fun a => ret1 f a
def mOp (f : D → D → Option D) (ma mb : M Bv) : M D := ma.bind fun a => mb.bind fun b => ret2 f a b
def mUnO (f : D → Option (List D)) (ma : M Bv) : M (List D) := ma.bind fun a => retO1 f a
def mOpO (f : D → D → Option (List D)) (ma mb : M Bv) : M (List D) := ma.bind fun a => mb.bind fun b => retO2 f a b
section
variable (Γ : Ct) (K : PySem.W.Frag)
/-- a value's reading, with what it computes -/
def OpD (r : R2) (f : D → D → Option D) : Prop := ∀ g Fz H σ ρ d e x y z Q, Fr Γ K g Fz H σ ρ → RepH Γ K Fz H d x → RepH Γ K Fz H e y → f d e = some z →
  (∀ v Fz' H', Sub Fz Fz' → Fr Γ K g Fz' H' σ ρ → Rep Γ K Fz' z v → Q v H') → r x y H Q
def OpO (r : R2) (f : D → D → Option (List D)) : Prop := ∀ g Fz H σ ρ d e x y z Q, Fr Γ K g Fz H σ ρ → RepH Γ K Fz H d x → RepH Γ K Fz H e y → f d e = some z →
  (∀ a xs Fz' H', Sub Fz Fz' → g.P a = none → Fr Γ K (g.more a (.lst xs)) Fz' H' σ ρ → RepL Γ K Fz' z xs → Q (.ref a) H') → r x y H Q
def UnD (r : V → Hp → VK → Prop) (f : D → Option D) : Prop := ∀ g Fz H σ ρ d x z Q, Fr Γ K g Fz H σ ρ → RepH Γ K Fz H d x → f d = some z →
  (∀ v Fz' H', Sub Fz Fz' → Fr Γ K g Fz' H' σ ρ → Rep Γ K Fz' z v → Q v H') → r x H Q
def UnO (r : V → Hp → VK → Prop) (f : D → Option (List D)) : Prop := ∀ g Fz H σ ρ d x z Q, Fr Γ K g Fz H σ ρ → RepH Γ K Fz H d x → f d = some z →
  (∀ a xs Fz' H', Sub Fz Fz' → g.P a = none → Fr Γ K (g.more a (.lst xs)) Fz' H' σ ρ → RepL Γ K Fz' z xs → Q (.ref a) H') → r x H Q
end
section
variable {Γ : Ct} {K : PySem.W.Frag} {W : WX} {g : Gh} {Fz Fz1 H H1 : Hp} {σ : L2.St} {ρ ρ1 : Env} {ta tb te : TE} {ma mb m : M Bv}
theorem ret1_goes {f : D → Option D} {b : Bv} {x : V} {Q : VK} {r : V → Hp → VK → Prop} (hr : UnD Γ K r f) (y : Fr Γ K g Fz H σ ρ) (rb : RB Γ K σ Fz b x) (q : Goes Γ K W g Fz σ (RE Γ K) (ret1 f b ρ) Q) : r x H Q := by
  simp only [ret1] at q
  cases hd : deref ρ b with
  | none => rw [hd] at q; exact q.elim
  | some d =>
    rw [hd] at q
    cases hz : f d with
    | none => simp only [Option.bind_some, hz] at q; exact q.elim
    | some z =>
      simp only [Option.bind_some, hz, Option.map_some] at q
      exact hr g Fz H σ ρ d x z Q y (y.deref rb hd) hz fun v Fz' H' s y' r' => q v Fz' H' s y' r'
theorem retO1_goes {f : D → Option (List D)} {b : Bv} {x : V} {Q : VK} {r : V → Hp → VK → Prop} (hr : UnO Γ K r f) (y : Fr Γ K g Fz H σ ρ) (rb : RB Γ K σ Fz b x) (q : GoesO Γ K W g Fz σ (retO1 f b ρ) Q) : r x H Q := by
  simp only [retO1] at q
  cases hd : deref ρ b with
  | none => rw [hd] at q; exact q.elim
  | some d =>
    rw [hd] at q
    cases hz : f d with
    | none => simp only [Option.bind_some, hz] at q; exact q.elim
    | some z =>
      simp only [Option.bind_some, hz, Option.map_some] at q
      exact hr g Fz H σ ρ d x z Q y (y.deref rb hd) hz fun a xs Fz' H' s hg y' r' => q a xs Fz' H' s hg y' r'
theorem ret2_goes {f : D → D → Option D} {b c : Bv} {x z : V} {Q : VK} {r : R2} (hr : OpD Γ K r f) (y : Fr Γ K g Fz H σ ρ) (rb : RB Γ K σ Fz b x) (rc : RB Γ K σ Fz c z) (q : Goes Γ K W g Fz σ (RE Γ K) (ret2 f b c ρ) Q) : r x z H Q := by
  simp only [ret2] at q
  cases hd : deref ρ b with
  | none => rw [hd] at q; exact q.elim
  | some d =>
    rw [hd] at q
    cases he : deref ρ c with
    | none => rw [he] at q; exact q.elim
    | some e =>
      rw [he] at q
      cases hz : f d e with
      | none => simp only [Option.bind_some, hz] at q; exact q.elim
      | some w =>
        simp only [Option.bind_some, hz, Option.map_some] at q
        exact hr g Fz H σ ρ d e x z w Q y (y.deref rb hd) (y.deref rc he) hz fun v Fz' H' s y' r' => q v Fz' H' s y' r'
theorem retO2_goes {f : D → D → Option (List D)} {b c : Bv} {x z : V} {Q : VK} {r : R2} (hr : OpO Γ K r f) (y : Fr Γ K g Fz H σ ρ) (rb : RB Γ K σ Fz b x) (rc : RB Γ K σ Fz c z) (q : GoesO Γ K W g Fz σ (retO2 f b c ρ) Q) : r x z H Q := by
  simp only [retO2] at q
  cases hd : deref ρ b with
  | none => rw [hd] at q; exact q.elim
  | some d =>
    rw [hd] at q
    cases he : deref ρ c with
    | none => rw [he] at q; exact q.elim
    | some e =>
      rw [he] at q
      cases hz : f d e with
      | none => simp only [Option.bind_some, hz] at q; exact q.elim
      | some w =>
        simp only [Option.bind_some, hz, Option.map_some] at q
        exact hr g Fz H σ ρ d e x z w Q y (y.deref rb hd) (y.deref rc he) hz fun a xs Fz' H' s hg y' r' => q a xs Fz' H' s hg y' r'
theorem rd_un {f : D → Option D} {r : V → Hp → VK → Prop} (ha : RdB Γ K W ta ma) (hr : UnD Γ K r f) : RdE Γ K W (fun σ H Q => ta σ H fun x H1 => r x H1 Q) (mUn f ma) := fun g Fz H σ ρ Q x q =>
  ha g Fz H σ ρ _ x (Goes.bind q fun a ρ1 v Fz1 H1 s1 x1 r1 q1 => ret1_goes hr x1 r1 q1)
theorem rd_unO {f : D → Option (List D)} {r : V → Hp → VK → Prop} (ha : RdB Γ K W ta ma) (hr : UnO Γ K r f) : RdO Γ K W (fun σ H Q => ta σ H fun x H1 => r x H1 Q) (mUnO f ma) := fun g Fz H σ ρ Q x q =>
  ha g Fz H σ ρ _ x (Goes.bindO q fun a ρ1 v Fz1 H1 s1 x1 r1 q1 => retO1_goes hr x1 r1 q1)
theorem rd_op {f : D → D → Option D} {r : R2} (ha : RdB Γ K W ta ma) (hb : RdB Γ K W tb mb) (hr : OpD Γ K r f) : RdE Γ K W (tOp r ta tb) (mOp f ma mb) := fun g Fz H σ ρ Q x q =>
  ha g Fz H σ ρ _ x (Goes.bind q fun a ρ1 v Fz1 H1 s1 x1 r1 q1 => hb g Fz1 H1 σ ρ1 _ x1 (Goes.bind q1 fun b ρ2 u Fz2 H2 s2 x2 r2 q2 => ret2_goes hr x2 (r1.mono s2) r2 q2))
theorem rd_opO {f : D → D → Option (List D)} {r : R2} (ha : RdB Γ K W ta ma) (hb : RdB Γ K W tb mb) (hr : OpO Γ K r f) : RdO Γ K W (tOp r ta tb) (mOpO f ma mb) := fun g Fz H σ ρ Q x q =>
  ha g Fz H σ ρ _ x (Goes.bindO q fun a ρ1 v Fz1 H1 s1 x1 r1 q1 => hb g Fz1 H1 σ ρ1 _ x1 (Goes.bindO q1 fun b ρ2 u Fz2 H2 s2 x2 r2 q2 => retO2_goes hr x2 (r1.mono s2) r2 q2))
theorem OpD.or {r r' : R2} {f f' : D → D → Option D} (h : OpD Γ K r f) (h' : OpD Γ K r' f') : OpD Γ K (fun x y H Q => r x y H Q ∨ r' x y H Q) (fun d e => (f d e).or (f' d e)) := fun g Fz H σ ρ d e x y z Q fr rx ry hz k => by
  cases q : f d e with
  | some w =>
    have hz' : (f d e).or (f' d e) = some z := hz
    rw [q] at hz'
    exact .inl (h g Fz H σ ρ d e x y z Q fr rx ry (q.trans hz') k)
  | none =>
    have hz' : (f d e).or (f' d e) = some z := hz
    rw [q] at hz'
    exact .inr (h' g Fz H σ ρ d e x y z Q fr rx ry hz' k)
end
/-- two ints -/
def fI (C : Int → Int → Bool) (g : Int → Int → D) : D → D → Option D
  | .int i, .int j => if C i j = true then some (g i j) else none
  | _, _ => none
section
variable {Γ : Ct} {K : PySem.W.Frag}
theorem opd_int {C : Int → Int → Prop} {Cb : Int → Int → Bool} {h : Int → Int → V} {h' : Int → Int → D} (hc : ∀ i j, Cb i j = true → C i j) (hh : ∀ H i j, Rep Γ K H (h' i j) (h i j)) : OpD Γ K (rI C h) (fI Cb h') :=
  fun g Fz H σ ρ d e x y z Q fr rx ry hz k => by
    match d, e, hz with
    | .int i, .int j, hz =>
      simp only [fI] at hz
      by_cases q : Cb i j = true
      · rw [if_pos q] at hz
        cases hz
        rw [rx.int, ry.int]
        exact ⟨i, j, rfl, rfl, hc i j q, k _ Fz H (Sub.refl _) fr (hh Fz i j)⟩
      · rw [if_neg q] at hz; cases hz
theorem opd_int0 {h : Int → Int → V} {h' : Int → Int → D} (hh : ∀ H i j, Rep Γ K H (h' i j) (h i j)) : OpD Γ K (rI0 h) (fI (fun _ _ => true) h') :=
  fun g Fz H σ ρ d e x y z Q fr rx ry hz k => by
    match d, e, hz with
    | .int i, .int j, hz =>
      cases hz
      rw [rx.int, ry.int]
      exact ⟨i, j, rfl, rfl, k _ Fz H (Sub.refl _) fr (hh Fz i j)⟩
end
end L3
namespace L3
open PySem PySem.Spec PyProof.Rows L2
mutual
def toPy : D → Option PyData
  | .non => some .none
  | .bl b => some (.bool b)
  | .int i => some (.int i)
  | .str s => some (.str s)
  | .tup ds => (toPyL ds).map .tuple
  | .lst ds => (toPyL ds).map .list
  | .ob _ _ => none
  | .dic0 => none
  | .dic _ _ _ => none
  | .fn _ => none
def toPyL : List D → Option (List PyData)
  | [] => some []
  | d :: ds => (toPy d).bind fun p => (toPyL ds).map fun ps => p :: ps
end
section
variable {Γ : Ct} {K : PySem.W.Frag} {Fz H : Hp}
mutual
theorem Rep.toDp (s : Sub Fz H) : ∀ {d : D} {v : V} {p : PyData}, Rep Γ K Fz d v → toPy d = some p → Dp K H v p
  | _, _, _, .non, e => by simp only [toPy, Option.some.injEq] at e; subst e; exact .non
  | _, _, _, .bl, e => by simp only [toPy, Option.some.injEq] at e; subst e; exact .bl _
  | _, _, _, .int, e => by simp only [toPy, Option.some.injEq] at e; subst e; exact .int _
  | _, _, _, .str, e => by simp only [toPy, Option.some.injEq] at e; subst e; exact .str _
  | .tup ds, _, _, .tup h r, e => by
    simp only [toPy] at e
    cases q : toPyL ds with
    | none => rw [q] at e; cases e
    | some ps => rw [q] at e; cases e; exact .tup (SqT.of (s _ _ h)) (RepL.toDp s r q)
  | .lst ds, _, _, .lst h r, e => by
    simp only [toPy] at e
    cases q : toPyL ds with
    | none => rw [q] at e; cases e
    | some ps => rw [q] at e; cases e; exact .lst (SqL.of (s _ _ h)) (RepL.toDp s r q)
  | _, _, _, .ob .., e => by simp only [toPy] at e; cases e
  | _, _, _, .dic0 .., e => by simp only [toPy] at e; cases e
  | _, _, _, .dicT .., e => by simp only [toPy] at e; cases e
  | _, _, _, .dicK .., e => by simp only [toPy] at e; cases e
  | _, _, _, .fn .., e => by simp only [toPy] at e; cases e
theorem RepL.toDp (s : Sub Fz H) : ∀ {ds : List D} {vs : List V} {ps : List PyData}, RepL Γ K Fz ds vs → toPyL ds = some ps → DpAll K H vs ps
  | _, _, _, .nil, e => by simp only [toPyL, Option.some.injEq] at e; subst e; exact .nil
  | d :: ds, _, _, .cons r t, e => by
    simp only [toPyL] at e
    cases q : toPy d with
    | none => rw [q] at e; cases e
    | some p =>
      cases q2 : toPyL ds with
      | none => rw [q, q2] at e; cases e
      | some ps => rw [q, q2] at e; cases e; exact .cons (Rep.toDp s r q) (RepL.toDp s t q2)
end
theorem RepH.toDp (s : Sub Fz H) {d : D} {v : V} {p : PyData} (r : RepH Γ K Fz H d v) (e : toPy d = some p) : Dp K H v p := by
  rcases r with r | ⟨ds, a, xs, rfl, rfl, h, r⟩ | ⟨_, _, _, _, _, rfl, _⟩
  · exact r.toDp s e
  · simp only [toPy] at e
    cases q : toPyL ds with
    | none => rw [q] at e; cases e
    | some ps => rw [q] at e; cases e; exact .lst (SqL.of h) (r.toDp s q)
  · simp only [toPy] at e; cases e
end
/-- data that may be compared -/
def pyOk (d : D) : Option PyData := (toPy d).bind fun p => if SeqAt.shaped p = true then some p else none
theorem pyOk_some {d : D} {p : PyData} (h : pyOk d = some p) : toPy d = some p ∧ SeqAt.shaped p = true := by
  unfold pyOk at h
  cases q : toPy d with
  | none => rw [q] at h; cases h
  | some p' =>
    rw [q] at h
    have h' : (if SeqAt.shaped p' = true then some p' else none) = some p := h
    by_cases z : SeqAt.shaped p' = true
    · rw [if_pos z] at h'; cases h'; exact ⟨rfl, z⟩
    · rw [if_neg z] at h'; cases h'
def fEq (d e : D) : Option D := (pyOk d).bind fun p => (pyOk e).bind fun q => some (.bl (PyData.eqv p q))
def fNe (d e : D) : Option D := (pyOk d).bind fun p => (pyOk e).bind fun q => some (.bl (!PyData.eqv p q))
/-- x in xs, a list or a tuple -/
def fIn (d e : D) : Option D := (pyOk d).bind fun p => (pyOk e).bind fun q => match q with
  | .list qs => some (.bl (qs.any fun z => PyData.eqv z p))
  | .tuple qs => some (.bl (qs.any fun z => PyData.eqv z p))
  | _ => none
def fNotIn (d e : D) : Option D := (pyOk d).bind fun p => (pyOk e).bind fun q => match q with
  | .list qs => some (.bl (!qs.any fun z => PyData.eqv z p))
  | .tuple qs => some (.bl (!qs.any fun z => PyData.eqv z p))
  | _ => none
theorem bind2_some {α β γ : Type} {o : Option α} {u : Option β} {f : α → β → Option γ} {z : γ} (h : (o.bind fun p => u.bind fun q => f p q) = some z) : ∃ p q, o = some p ∧ u = some q ∧ f p q = some z := by
  cases o with
  | none => cases h
  | some p =>
    cases u with
    | none => cases h
    | some q => exact ⟨p, q, rfl, rfl, h⟩
section
variable {X : Cx}
/-- x in t, t a tuple too -/
def rInA (K : PySem.W.Frag) (neg : Bool) : R2 := fun x y H Q => ∃ d ds, Dp K H x d ∧ (Dp K H y (.list ds) ∨ Dp K H y (.tuple ds)) ∧ SeqAt.shaped d = true ∧ SeqAt.shaped (.list ds) = true ∧
  Q (.bl (if neg then !ds.any fun z => PyData.eqv z d else ds.any fun z => PyData.eqv z d)) H
theorem op_inA (hu : X.A.units + 65 < cLine) : OpR X (compareOp .In) (rInA X.K false) := by
  intro pins s σ H x y v u Q I rx ry h
  obtain ⟨d, ds, hd, he, sd, se, q⟩ := h
  obtain ⟨as, r1⟩ := Dp.reads I d x v hd rx
  rcases he with he | he
  · obtain ⟨bs, r2⟩ := Dp.reads I (.list ds) y u he ry
    exact SeqAt.in_list_reads r2 r1 (SeqAt.canLay_of_shaped se) (SeqAt.canLay_of_shaped sd) (room_in_shaped sd hu) ⟨.bl _, H, I, rfl, q⟩
  · obtain ⟨bs, r2⟩ := Dp.reads I (.tuple ds) y u he ry
    exact SeqAt.in_tuple_reads r2 r1 (SeqAt.canLay_of_shaped se) (SeqAt.canLay_of_shaped sd) (room_in_shaped sd hu) ⟨.bl _, H, I, rfl, q⟩
theorem op_notInA (hu : X.A.units + 65 < cLine) : OpR X (compareOp .NotIn) (rInA X.K true) := by
  intro pins s σ H x y v u Q I rx ry h
  obtain ⟨d, ds, hd, he, sd, se, q⟩ := h
  obtain ⟨as, r1⟩ := Dp.reads I d x v hd rx
  rcases he with he | he
  · obtain ⟨bs, r2⟩ := Dp.reads I (.list ds) y u he ry
    exact SeqAt.notIn_list_reads r2 r1 (SeqAt.canLay_of_shaped se) (SeqAt.canLay_of_shaped sd) (room_in_shaped sd hu) ⟨.bl _, H, I, rfl, q⟩
  · obtain ⟨bs, r2⟩ := Dp.reads I (.tuple ds) y u he ry
    exact SeqAt.notIn_tuple_reads r2 r1 (SeqAt.canLay_of_shaped se) (SeqAt.canLay_of_shaped sd) (room_in_shaped sd hu) ⟨.bl _, H, I, rfl, q⟩
/-- i // j, j of any sign -/
theorem op_fdivA : OpR X (binaryOp .FloorDiv) (rI (fun _ j => j ≠ 0 ∧ j.natAbs.log2 < 9000) fun i j => .int (i.fdiv j)) := opI fun i j _ _ _ _ _ hc q =>
  floordiv_int hc.1 q (.inl (PyProof.noPylong_of_log2 hc.2))
end
section
variable {Γ : Ct} {K : PySem.W.Frag}
theorem opd_eq : OpD Γ K (rEqD K) fEq := fun g Fz H σ ρ d e x y z Q fr rx ry hz k => by
  obtain ⟨p, q, h1, h2, h3⟩ := bind2_some hz
  cases h3
  obtain ⟨a1, a2⟩ := pyOk_some h1
  obtain ⟨b1, b2⟩ := pyOk_some h2
  exact ⟨p, q, rx.toDp fr.sub a1, ry.toDp fr.sub b1, a2, b2, k _ Fz H (Sub.refl _) fr .bl⟩
theorem opd_ne : OpD Γ K (rNeD K) fNe := fun g Fz H σ ρ d e x y z Q fr rx ry hz k => by
  obtain ⟨p, q, h1, h2, h3⟩ := bind2_some hz
  cases h3
  obtain ⟨a1, a2⟩ := pyOk_some h1
  obtain ⟨b1, b2⟩ := pyOk_some h2
  exact ⟨p, q, rx.toDp fr.sub a1, ry.toDp fr.sub b1, a2, b2, k _ Fz H (Sub.refl _) fr .bl⟩
theorem shaped_lt {ds : List PyData} : SeqAt.shaped (.tuple ds) = SeqAt.shaped (.list ds) := by
  unfold SeqAt.shaped
  rw [show PyData.canLay0 (.tuple ds) = PyData.canLay0 (.list ds) by simp only [PyData.canLay0], show PyData.depth (.tuple ds) = PyData.depth (.list ds) by simp only [PyData.depth]]
theorem opd_in : OpD Γ K (rInA K false) fIn := fun g Fz H σ ρ d e x y z Q fr rx ry hz k => by
  obtain ⟨p, q, h1, h2, h3⟩ := bind2_some hz
  obtain ⟨a1, a2⟩ := pyOk_some h1
  obtain ⟨b1, b2⟩ := pyOk_some h2
  match q, h3, b1, b2 with
  | .list qs, h3, b1, b2 => cases h3; exact ⟨p, qs, rx.toDp fr.sub a1, .inl (ry.toDp fr.sub b1), a2, b2, k _ Fz H (Sub.refl _) fr .bl⟩
  | .tuple qs, h3, b1, b2 => cases h3; exact ⟨p, qs, rx.toDp fr.sub a1, .inr (ry.toDp fr.sub b1), a2, shaped_lt.symm.trans b2, k _ Fz H (Sub.refl _) fr .bl⟩
theorem opd_notIn : OpD Γ K (rInA K true) fNotIn := fun g Fz H σ ρ d e x y z Q fr rx ry hz k => by
  obtain ⟨p, q, h1, h2, h3⟩ := bind2_some hz
  obtain ⟨a1, a2⟩ := pyOk_some h1
  obtain ⟨b1, b2⟩ := pyOk_some h2
  match q, h3, b1, b2 with
  | .list qs, h3, b1, b2 => cases h3; exact ⟨p, qs, rx.toDp fr.sub a1, .inl (ry.toDp fr.sub b1), a2, b2, k _ Fz H (Sub.refl _) fr .bl⟩
  | .tuple qs, h3, b1, b2 => cases h3; exact ⟨p, qs, rx.toDp fr.sub a1, .inr (ry.toDp fr.sub b1), a2, shaped_lt.symm.trans b2, k _ Fz H (Sub.refl _) fr .bl⟩
def fCatT : D → D → Option D
  | .tup ds, .tup es => if ds.length + es.length ≤ sizeLine then some (.tup (ds ++ es)) else none
  | _, _ => none
def fCatS : D → D → Option D
  | .str a, .str b => if a.length + b.length ≤ sizeLine then some (.str (a ++ b)) else none
  | _, _ => none
def fCatL : D → D → Option (List D)
  | .lst ds, .lst es => if ds.length + es.length ≤ sizeLine then some (ds ++ es) else none
  | _, _ => none
theorem opd_catT : OpD Γ K (rCatA K) fCatT := fun g Fz H σ ρ d e x y z Q fr rx ry hz k => by
  match d, e, hz with
  | .tup ds, .tup es, hz =>
    obtain ⟨a, xs, rfl, h1, r1⟩ := rx.tup fr.sub
    obtain ⟨b, ys, rfl, h2, r2⟩ := ry.tup fr.sub
    simp only [fCatT] at hz
    by_cases hl : ds.length + es.length ≤ sizeLine
    · rw [if_pos hl] at hz
      cases hz
      rw [r1.len, r2.len] at hl
      refine ⟨a, b, xs, ys, rfl, rfl, SqT.of h1, SqT.of h2, hl, fun hx => ?_, fun hx hy => ?_, fun hx hy p hp => ?_⟩
      · subst hx
        cases r1
        rcases ry with r | ⟨_, _, _, e, _⟩ | ⟨_, _, _, _, _, e, _⟩
        · exact k _ Fz H (Sub.refl _) fr r
        · cases e
        · cases e
      · subst hy
        cases r2
        rw [List.append_nil] at k
        rcases rx with r | ⟨_, _, _, e, _⟩ | ⟨_, _, _, _, _, e, _⟩
        · exact k _ Fz H (Sub.refl _) fr r
        · cases e
        · cases e
      · obtain ⟨s, fr', rp⟩ := fr.newT hp (r1.app r2)
        exact k _ _ _ s fr' rp
    · rw [if_neg hl] at hz; cases hz
def rCatS : R2 := fun x y H Q => ∃ i j, x = .str i ∧ y = .str j ∧ i.length + j.length ≤ sizeLine ∧ Q (.str (i ++ j)) H
theorem opd_catS : OpD Γ K rCatS fCatS := fun g Fz H σ ρ d e x y z Q fr rx ry hz k => by
  match d, e, hz with
  | .str a, .str b, hz =>
    simp only [fCatS] at hz
    by_cases hl : a.length + b.length ≤ sizeLine
    · rw [if_pos hl] at hz
      cases hz
      rw [rx.str, ry.str]
      exact ⟨a, b, rfl, rfl, hl, k _ Fz H (Sub.refl _) fr .str⟩
    · rw [if_neg hl] at hz; cases hz
theorem opd_catL : OpO Γ K rCat fCatL := fun g Fz H σ ρ d e x y z Q fr rx ry hz k => by
  match d, e, hz with
  | .lst ds, .lst es, hz =>
    obtain ⟨a, xs, rfl, h1, r1⟩ := rx.lst fr.sub
    obtain ⟨b, ys, rfl, h2, r2⟩ := ry.lst fr.sub
    simp only [fCatL] at hz
    by_cases hl : ds.length + es.length ≤ sizeLine
    · rw [if_pos hl] at hz
      cases hz
      rw [r1.len, r2.len] at hl
      refine ⟨a, b, xs, ys, rfl, rfl, h1, h2, hl, fun p hp => ?_⟩
      obtain ⟨hg, fr'⟩ := fr.fresh (xs := xs ++ ys) hp
      exact k p (xs ++ ys) Fz _ (Sub.refl _) hg fr' (r1.app r2)
    · rw [if_neg hl] at hz; cases hz
/-- None -/
def isNonD : D → Bool
  | .non => true
  | _ => false
def fIsN (d e : D) : Option D := if isNonD e = true then some (.bl (isNonD d)) else none
def fNotN (d e : D) : Option D := if isNonD e = true then some (.bl (!isNonD d)) else none
theorem RepH.non {Fz H : Hp} {d : D} {v : V} (r : RepH Γ K Fz H d v) : decide (v = .non) = isNonD d := by
  rcases r with r | ⟨_, _, _, rfl, rfl, _⟩ | ⟨_, _, _, _, _, rfl, rfl, _⟩
  · cases r <;> simp [isNonD]
  · simp [isNonD]
  · simp [isNonD]
def toInts : List D → Option (List Int)
  | [] => some []
  | .int i :: ds => (toInts ds).map fun is => i :: is
  | _ :: _ => none
theorem toInts_map : ∀ (ns : List Int), toInts (ns.map D.int) = some ns
  | [] => rfl
  | n :: ns => by simp only [List.map_cons, toInts, toInts_map ns, Option.map_some]
theorem toInts_some : ∀ {ds : List D} {ns : List Int}, toInts ds = some ns → ds = ns.map D.int
  | [], _, h => by cases h; rfl
  | .int i :: ds, _, h => by
    simp only [toInts] at h
    cases q : toInts ds with
    | none => rw [q] at h; cases h
    | some is => rw [q] at h; cases h; rw [toInts_some q]; rfl
  | .non :: _, _, h => by cases h
  | .bl _ :: _, _, h => by cases h
  | .str _ :: _, _, h => by cases h
  | .tup _ :: _, _, h => by cases h
  | .lst _ :: _, _, h => by cases h
  | .ob _ _ :: _, _, h => by cases h
  | .dic0 :: _, _, h => by cases h
  | .dic _ _ _ :: _, _, h => by cases h
  | .fn _ :: _, _, h => by cases h
def fLtT : D → D → Option D
  | .tup ds, .tup es => (toInts ds).bind fun ns => (toInts es).bind fun ms => some (.bl (HT.lexLt ns ms))
  | _, _ => none
theorem opd_ltT : OpD Γ K (rLtT K) fLtT := fun g Fz H σ ρ d e x y z Q fr rx ry hz k => by
  match d, e, hz with
  | .tup ds, .tup es, hz =>
    obtain ⟨ns, ms, h1, h2, h3⟩ := bind2_some (show ((toInts ds).bind fun ns => (toInts es).bind fun ms => some (D.bl (HT.lexLt ns ms))) = some z from hz)
    cases h3
    obtain ⟨a, xs, rfl, q1, r1⟩ := rx.tup fr.sub
    obtain ⟨b, ys, rfl, q2, r2⟩ := ry.tup fr.sub
    rw [toInts_some h1] at r1
    rw [toInts_some h2] at r2
    rw [r1.to_ints] at q1
    rw [r2.to_ints] at q2
    exact ⟨a, b, ns, ms, rfl, rfl, SqT.of q1, SqT.of q2, k _ Fz H (Sub.refl _) fr .bl⟩
end
section
variable {Γ : Ct} {W : WX} {X : Cx} {a b : Expr} {pos : Pos} {ta tb : TE} {ma mb : M Bv}
theorem de_op {op : Operator} {r : R2} {f : D → D → Option D} (ho : OpR X (binaryOp op) r) (hd : OpD Γ X.K r f) (ha : DB Γ W X a ta ma) (hb : DB Γ W X b tb mb) : DE Γ W X (.BinOp a op b pos) (tOp r ta tb) (mOp f ma mb) :=
  ⟨pe_op ho ha.pe hb.pe, rd_op ha.rd hb.rd hd⟩
theorem do_op {op : Operator} {r : R2} {f : D → D → Option (List D)} (ho : OpR X (binaryOp op) r) (hd : OpO Γ X.K r f) (ha : DB Γ W X a ta ma) (hb : DB Γ W X b tb mb) : DO Γ W X (.BinOp a op b pos) (tOp r ta tb) (mOpO f ma mb) :=
  ⟨pe_op ho ha.pe hb.pe, rd_opO ha.rd hb.rd hd⟩
/-- one comparison: its rule, what it computes -/
structure CmpR (Γ : Ct) (X : Cx) (op : CmpOp) (b : Expr) (r : R2) (f : D → D → Option D) : Prop where
  ho : OpR X (compareOp op) r
  hd : OpD Γ X.K r f
  hm : behindInMarks op b = false
theorem e_cmp {op : CmpOp} {r : R2} {f : D → D → Option D} (c : CmpR Γ X op b r f) (ha : DB Γ W X a ta ma) (hb : DB Γ W X b tb mb) : DE Γ W X (.Compare a [op] [b] pos) (tOp r ta tb) (mOp f ma mb) := ⟨pe_cmpR c.ho ha.pe hb.pe c.hm, rd_op ha.rd hb.rd c.hd⟩
def fAdd (d e : D) : Option D := (fI (fun _ _ => true) (fun i j => .int (i + j)) d e).or ((fCatT d e).or (fCatS d e))
def fSub : D → D → Option D := fI (fun _ _ => true) fun i j => .int (i - j)
def cMulB (i j : Int) : Bool := decide (i.natAbs.log2 + j.natAbs.log2 < 1000000)
def fMul : D → D → Option D := fI cMulB fun i j => .int (i * j)
def cDivB (_ j : Int) : Bool := decide (j ≠ 0 ∧ j.natAbs.log2 < 9000)
def fDiv : D → D → Option D := fI cDivB fun i j => .int (i.fdiv j)
def fMod : D → D → Option D := fI (fun _ j => decide (j ≠ 0)) fun i j => .int (i.fmod j)
def cPowB (i j : Int) : Bool := decide (0 ≤ j ∧ j ≤ 1000000 ∧ i.natAbs < 2 ^ 64)
def fPow : D → D → Option D := fI cPowB fun i j => .int (i ^ j.toNat)
def fLe : D → D → Option D := fI (fun _ _ => true) fun i j => .bl (decide (i ≤ j))
def fGt : D → D → Option D := fI (fun _ _ => true) fun i j => .bl (decide (j < i))
def fGe : D → D → Option D := fI (fun _ _ => true) fun i j => .bl (decide (j ≤ i))
def fLt (d e : D) : Option D := (fI (fun _ _ => true) (fun i j => .bl (decide (i < j))) d e).or (fLtT d e)
def rAddA (K : PySem.W.Frag) : R2 := fun x y H Q => rI0 (fun i j => .int (i + j)) x y H Q ∨ (rCatA K x y H Q ∨ rCatS x y H Q)
def rDivA : R2 := rI (fun _ j => j ≠ 0 ∧ j.natAbs.log2 < 9000) fun i j => .int (i.fdiv j)
theorem e_sub (ha : DB Γ W X a ta ma) (hb : DB Γ W X b tb mb) : DE Γ W X (.BinOp a .Sub b pos) (tOp (rI0 fun i j => .int (i - j)) ta tb) (mOp fSub ma mb) := de_op op_sub (opd_int0 fun _ _ _ => .int) ha hb
theorem e_mul (ha : DB Γ W X a ta ma) (hb : DB Γ W X b tb mb) : DE Γ W X (.BinOp a .Mult b pos) (tOp (rI CMulW fun i j => .int (i * j)) ta tb) (mOp fMul ma mb) :=
  de_op op_mulW (opd_int (Cb := cMulB) (fun i j h => of_decide_eq_true (p := i.natAbs.log2 + j.natAbs.log2 < 1000000) h) fun _ _ _ => .int) ha hb
theorem e_div (ha : DB Γ W X a ta ma) (hb : DB Γ W X b tb mb) : DE Γ W X (.BinOp a .FloorDiv b pos) (tOp rDivA ta tb) (mOp fDiv ma mb) :=
  de_op op_fdivA (opd_int (Cb := cDivB) (fun _ _ h => of_decide_eq_true h) fun _ _ _ => .int) ha hb
theorem e_mod (ha : DB Γ W X a ta ma) (hb : DB Γ W X b tb mb) : DE Γ W X (.BinOp a .Mod b pos) (tOp (rI (fun _ j => j ≠ 0) fun i j => .int (i.fmod j)) ta tb) (mOp fMod ma mb) :=
  de_op op_modN (opd_int (Cb := fun _ j => decide (j ≠ 0)) (fun _ _ h => of_decide_eq_true h) fun _ _ _ => .int) ha hb
theorem e_pow (ha : DB Γ W X a ta ma) (hb : DB Γ W X b tb mb) : DE Γ W X (.BinOp a .Pow b pos) (tOp (rI CPow fun i j => .int (i ^ j.toNat)) ta tb) (mOp fPow ma mb) :=
  de_op op_pow (opd_int (Cb := cPowB) (fun i j h => of_decide_eq_true (p := 0 ≤ j ∧ j ≤ 1000000 ∧ i.natAbs < 2 ^ 64) h) fun _ _ _ => .int) ha hb
theorem k_le : CmpR Γ X .LtE b (rI0 fun i j => .bl (decide (i ≤ j))) fLe := ⟨op_le, opd_int0 fun _ _ _ => .bl, nomark _⟩
theorem k_gt : CmpR Γ X .Gt b (rI0 fun i j => .bl (decide (j < i))) fGt := ⟨op_gt, opd_int0 fun _ _ _ => .bl, nomark _⟩
theorem k_ge : CmpR Γ X .GtE b (rI0 fun i j => .bl (decide (j ≤ i))) fGe := ⟨op_ge, opd_int0 fun _ _ _ => .bl, nomark _⟩
def rLtA (K : PySem.W.Frag) : R2 := fun x y H Q => rI0 (fun i j => .bl (decide (i < j))) x y H Q ∨ rLtT K x y H Q
theorem k_lt (hu : X.A.units + 65 < cLine) : CmpR Γ X .Lt b (rLtA X.K) fLt := ⟨op_lt.or (op_ltT (Nat.lt_of_le_of_lt (Nat.le_add_right _ _) hu)), (opd_int0 fun _ _ _ => .bl).or opd_ltT, nomark _⟩
theorem k_eq (hu : X.A.units + 65 < cLine) : CmpR Γ X .Eq b (rEqD X.K) fEq := ⟨op_eqD (Nat.lt_of_succ_lt hu), opd_eq, nomark _⟩
theorem k_ne (hu : X.A.units + 65 < cLine) : CmpR Γ X .NotEq b (rNeD X.K) fNe := ⟨op_neD (Nat.lt_of_succ_lt hu), opd_ne, nomark _⟩
theorem k_in (hu : X.A.units + 65 < cLine) (hm : behindInMarks .In b = false := by rfl) : CmpR Γ X .In b (rInA X.K false) fIn := ⟨op_inA hu, opd_in, hm⟩
theorem k_notIn (hu : X.A.units + 65 < cLine) (hm : behindInMarks .NotIn b = false := by rfl) : CmpR Γ X .NotIn b (rInA X.K true) fNotIn := ⟨op_notInA hu, opd_notIn, hm⟩
/-- -a -/
def fNeg : D → Option D
  | .int i => some (.int (-i))
  | _ => none
theorem und_neg {K : PySem.W.Frag} : UnD Γ K (rU fun i => .int (-i)) fNeg := fun g Fz H σ ρ d x z Q fr rx hz k => by
  match d, hz with
  | .int i, hz => cases hz; rw [rx.int]; exact ⟨i, rfl, k _ Fz H (Sub.refl _) fr .int⟩
theorem e_neg (ha : DB Γ W X a ta ma) : DE Γ W X (.UnaryOp .USub a pos) (tUn (rU fun i => .int (-i)) ta) (mUn fNeg ma) := ⟨pe_un un_neg ha.pe, show RdE Γ X.K W (fun σ H Q => ta σ H fun x H1 => rU (fun i => .int (-i)) x H1 Q) _ from rd_un ha.rd und_neg⟩
end
section
variable {Γ : Ct} {W : WX} {X : Cx} {pos : Pos}
/-- a constant -/
theorem rd_c {K : PySem.W.Frag} {d : D} {v : V} (h : ∀ H, Rep Γ K H d v) : RdE Γ K W (tC v) (M.ret d) := fun g Fz H σ ρ Q x q => q v Fz H (Sub.refl _) x (h Fz)
theorem e_int {i : Int} {j : Nat} : DE Γ W X (.Constant (.int i) j pos) (tC (.int i)) (M.ret (.int i)) := ⟨pe_int, rd_c fun _ => .int⟩
theorem e_bl {i : Bool} {j : Nat} : DE Γ W X (.Constant (.bool i) j pos) (tC (.bl i)) (M.ret (.bl i)) := ⟨pe_bl, rd_c fun _ => .bl⟩
theorem e_non {j : Nat} : DE Γ W X (.Constant .none j pos) (tC .non) (M.ret .non) := ⟨pe_non, rd_c fun _ => .non⟩
theorem e_str {z : Str} {j : Nat} : DE Γ W X (.Constant (.str z) j pos) (tC (.str z)) (M.ret (.str z)) := ⟨pe_str, rd_c fun _ => .str⟩
theorem e_var (i : Nat) {x : Str} (hN : X.N[i]? = some x := by rfl) (hv : Vis X.env.scope x := by first | exact Or.inl rfl | exact Or.inr (Or.inl rfl) | exact Or.inr (Or.inr rfl)) (hd : (x == ("__debug__" : Str)) = false := by decide)
    (hcd : (x == ("__classdict__" : Str)) = false := by decide) : DE Γ W X (.Name x pos) (tVar i) (mVar i) := ⟨pe_var hN hv hd hcd, rd_var i⟩
theorem b_var (i : Nat) {x : Str} (hN : X.N[i]? = some x := by rfl) (hv : Vis X.env.scope x := by first | exact Or.inl rfl | exact Or.inr (Or.inl rfl) | exact Or.inr (Or.inr rfl)) (hd : (x == ("__debug__" : Str)) = false := by decide)
    (hcd : (x == ("__classdict__" : Str)) = false := by decide) : DB Γ W X (.Name x pos) (tVar i) (mSl i) := ⟨pe_var hN hv hd hcd, rd_sl i⟩
end
end L3
namespace L3
open PySem PySem.Spec PyProof.Rows L2
def asB (m : M D) : M Bool := m.bind fun d => match d with
  | .bl b => M.ret b
  | _ => fun _ => none
section
variable {Γ : Ct} {K : PySem.W.Frag} {W : WX} {te ta tb : TE} {tt tu : TT}
theorem rd_asB {m : M D} (h : RdE Γ K W te m) : RdT Γ K W (fun σ H Q => te σ H fun x H1 => ∃ k, x = .bl k ∧ Q k H1) (asB m) := fun g Fz H σ ρ Q x q =>
  h g Fz H σ ρ _ x (Goes.bind q fun d ρ1 v Fz1 H1 s x1 r q1 => by
    match d, q1 with
    | .bl b, q1 =>
      cases (show Rep Γ K Fz1 (.bl b) v from r)
      exact ⟨b, rfl, q1 b Fz1 H1 (Sub.refl _) x1 rfl⟩)
/-- truth of anything -/
def fTru : D → Option Bool
  | .non => some false
  | .bl b => some b
  | .int i => some (i != 0)
  | .str z => if z.length ≤ sizeLine then some ((z.length : Int) != 0) else none
  | .tup ds => some (!ds.isEmpty)
  | .lst ds => some (!ds.isEmpty)
  | .dic0 => some false
  | .ob _ _ => none
  | .dic _ _ _ => none
  | .fn _ => none
def mTru (m : M Bv) : M Bool := m.bind fun a => fun ρ => ((deref ρ a).bind fTru).map fun z => .ok z ρ
theorem isEmpty_len {α β : Type} {l : List α} {l' : List β} (h : l.length = l'.length) : l.isEmpty = l'.isEmpty := by
  cases l <;> cases l' <;> first | rfl | cases h
theorem rd_tru {m : M Bv} (h : RdB Γ K W te m) : RdT Γ K W (fun σ H Q => te σ H fun x H1 => ∃ k, TruV K x H1 k ∧ Q k H1) (mTru m) := fun g Fz H σ ρ Q x q =>
  h g Fz H σ ρ _ x (Goes.bind q fun d ρ1 v Fz1 H1 s x1 r q1 => by
    cases hd : deref ρ1 d with
    | none => simp only [hd] at q1; exact q1.elim
    | some e =>
      cases hz : fTru e with
      | none => simp only [hd, Option.bind_some, hz] at q1; exact q1.elim
      | some k =>
        simp only [hd, Option.bind_some, hz, Option.map_some] at q1
        refine ⟨k, ?_, q1 k Fz1 H1 (Sub.refl _) x1 rfl⟩
        have rh := x1.deref r hd
        match e, hz, rh with
        | .non, hz, rh =>
          cases hz
          rcases rh with r | ⟨_, _, _, e, _⟩ | ⟨_, _, _, _, _, e, _⟩
          · cases r; rfl
          · cases e
          · cases e
        | .bl b, hz, rh => cases hz; rw [rh.bl]; rfl
        | .int i, hz, rh => cases hz; rw [rh.int]; rfl
        | .str z, hz, rh =>
          rw [rh.str]
          simp only [fTru] at hz
          by_cases hl : z.length ≤ sizeLine
          · rw [if_pos hl] at hz; cases hz; exact ⟨hl, rfl⟩
          · rw [if_neg hl] at hz; cases hz
        | .tup ds, hz, rh =>
          cases hz
          obtain ⟨a, xs, rfl, h1, h2⟩ := rh.tup x1.sub
          exact .inr (.inl ⟨xs, SqT.of h1, by rw [isEmpty_len h2.len]⟩)
        | .lst ds, hz, rh =>
          cases hz
          obtain ⟨a, xs, rfl, h1, h2⟩ := rh.lst x1.sub
          exact .inl ⟨xs, SqL.of h1, by rw [isEmpty_len h2.len]⟩
        | .dic0, hz, rh =>
          cases hz
          rcases rh with r | ⟨_, _, _, e, _⟩ | ⟨_, _, _, _, _, e, _⟩
          · cases r with
            | dic0 h => exact .inr (.inr ⟨[], x1.sub _ _ h, rfl⟩)
          · cases e
          · cases e)
def mNot (m : M Bool) : M Bool := m.bind fun b => M.ret (!b)
def mAnd (m n : M Bool) : M Bool := m.bind fun b => if b = true then n else M.ret false
def mOr (m n : M Bool) : M Bool := m.bind fun b => if b = true then M.ret true else n
theorem rd_not {m : M Bool} (h : RdT Γ K W tt m) : RdT Γ K W (tNot tt) (mNot m) := fun g Fz H σ ρ Q x q =>
  h g Fz H σ ρ _ x (Goes.bind q fun d ρ1 v Fz1 H1 s x1 r q1 => by cases r; exact q1 (!d) Fz1 H1 (Sub.refl _) x1 rfl)
theorem rd_and {m n : M Bool} (h : RdT Γ K W tt m) (h' : RdT Γ K W tu n) : RdT Γ K W (tAnd tt tu) (mAnd m n) := fun g Fz H σ ρ Q x q =>
  h g Fz H σ ρ _ x (Goes.bind q fun d ρ1 v Fz1 H1 s x1 r q1 => by
    cases r
    cases d with
    | true => exact (if_pos rfl).mpr (h' g Fz1 H1 σ ρ1 Q x1 q1)
    | false => exact (if_neg Bool.false_ne_true).mpr (q1 false Fz1 H1 (Sub.refl _) x1 rfl))
theorem rd_or {m n : M Bool} (h : RdT Γ K W tt m) (h' : RdT Γ K W tu n) : RdT Γ K W (tOr tt tu) (mOr m n) := fun g Fz H σ ρ Q x q =>
  h g Fz H σ ρ _ x (Goes.bind q fun d ρ1 v Fz1 H1 s x1 r q1 => by
    cases r
    cases d with
    | true => exact (if_pos rfl).mpr (q1 true Fz1 H1 (Sub.refl _) x1 rfl)
    | false => exact (if_neg Bool.false_ne_true).mpr (h' g Fz1 H1 σ ρ1 Q x1 q1))
/-- as values -/
def mAndV (m n : M D) : M D := m.bind fun d => match d with
  | .bl b => if b = true then n else M.ret (.bl false)
  | _ => fun _ => none
def mOrV (m n : M D) : M D := m.bind fun d => match d with
  | .bl b => if b = true then M.ret (.bl true) else n
  | _ => fun _ => none
def mNotV (m : M D) : M D := m.bind fun d => match d with
  | .bl b => M.ret (.bl (!b))
  | _ => fun _ => none
theorem rd_andV {m n : M D} (h : RdE Γ K W ta m) (h' : RdE Γ K W tb n) : RdE Γ K W (tAndV ta tb) (mAndV m n) := fun g Fz H σ ρ Q x q =>
  h g Fz H σ ρ _ x (Goes.bind q fun d ρ1 v Fz1 H1 s x1 r q1 => by
    match d, q1 with
    | .bl b, q1 =>
      cases (show Rep Γ K Fz1 (.bl b) v from r)
      refine ⟨b, rfl, ?_⟩
      cases b with
      | true => exact (if_pos rfl).mpr (h' g Fz1 H1 σ ρ1 Q x1 q1)
      | false => exact (if_neg Bool.false_ne_true).mpr (q1 (.bl false) Fz1 H1 (Sub.refl _) x1 .bl))
theorem rd_notV {m : M D} (h : RdE Γ K W ta m) : RdE Γ K W (tNotV ta) (mNotV m) := fun g Fz H σ ρ Q x q =>
  h g Fz H σ ρ _ x (Goes.bind q fun d ρ1 v Fz1 H1 s x1 r q1 => by
    match d, q1 with
    | .bl b, q1 =>
      cases (show Rep Γ K Fz1 (.bl b) v from r)
      exact ⟨b, rfl, q1 (.bl (!b)) Fz1 H1 (Sub.refl _) x1 .bl⟩)
def mIf (c : M Bool) (m n : M D) : M D := c.bind fun b => if b = true then m else n
theorem rd_if {c : M Bool} {m n : M D} (hc : RdT Γ K W tt c) (h : RdE Γ K W ta m) (h' : RdE Γ K W tb n) : RdE Γ K W (tIf tt ta tb) (mIf c m n) := fun g Fz H σ ρ Q x q =>
  hc g Fz H σ ρ _ x (Goes.bind q fun d ρ1 v Fz1 H1 s x1 r q1 => by
    cases r
    cases d with
    | true => exact (if_pos rfl).mpr (h g Fz1 H1 σ ρ1 Q x1 q1)
    | false => exact (if_neg Bool.false_ne_true).mpr (h' g Fz1 H1 σ ρ1 Q x1 q1))
end
section
variable {Γ : Ct} {W : WX} {X : Cx} {a b c e : Expr} {rest : List Expr} {pos : Pos} {ta tb te : TE} {tt tu : TT} {ma mb m n : M D} {p q : M Bool}
theorem t_tru {m : M Bv} (h : DB Γ W X e te m) (he : ∀ whole, isTrue e X.env whole = (do let v ← whole; standAt e.pos; holding [v] (truthy v)) := by intro _; rfl) :
    DT Γ W X e (fun σ H Q => te σ H fun x H1 => ∃ k, TruV X.K x H1 k ∧ Q k H1) (mTru m) := ⟨pt_truth h.pe he, rd_tru h.rd⟩
theorem t_cmp {op : CmpOp} {r : R2} {f : D → D → Option D} {ma mb : M Bv} (k : CmpR Γ X op b r f) (ha : DB Γ W X a ta ma) (hb : DB Γ W X b tb mb) : DT Γ W X (.Compare a [op] [b] pos) (tTest (tOp r ta tb)) (asB (mOp f ma mb)) :=
  ⟨pt_cmpR k.ho ha.pe hb.pe k.hm, rd_asB (rd_op ha.rd hb.rd k.hd)⟩
theorem t_not (h : DT Γ W X a tt p) : DT Γ W X (.UnaryOp .Not a pos) (tNot tt) (mNot p) := ⟨pt_not h.pe, rd_not h.rd⟩
theorem w_and1 (h : DT Γ W X a tt p) : DW Γ W X (.BoolOp .And [a] pos) tt p := ⟨pw_and1 h.pe, h.rd⟩
theorem w_or1 (h : DT Γ W X a tt p) : DW Γ W X (.BoolOp .Or [a] pos) tt p := ⟨pw_or1 h.pe, h.rd⟩
theorem w_and (h : DT Γ W X a tt p) (h' : DW Γ W X (.BoolOp .And (b :: rest) pos) tu q) : DW Γ W X (.BoolOp .And (a :: b :: rest) pos) (tAnd tt tu) (mAnd p q) := ⟨pw_and h.pe h'.pe, rd_and h.rd h'.rd⟩
theorem w_or (h : DT Γ W X a tt p) (h' : DW Γ W X (.BoolOp .Or (b :: rest) pos) tu q) : DW Γ W X (.BoolOp .Or (a :: b :: rest) pos) (tOr tt tu) (mOr p q) := ⟨pw_or h.pe h'.pe, rd_or h.rd h'.rd⟩
theorem t_w (h : DW Γ W X e tt p) : DT Γ W X e tt p := ⟨h.pe.pt, h.rd⟩
theorem e_one {op} (h : DE Γ W X a ta m) : DE Γ W X (.BoolOp op [a] pos) ta m := ⟨pe_one h.pe, h.rd⟩
theorem e_and (h : DE Γ W X a ta m) (h' : DE Γ W X (.BoolOp .And (b :: rest) pos) tb n) : DE Γ W X (.BoolOp .And (a :: b :: rest) pos) (tAndV ta tb) (mAndV m n) := ⟨pe_and h.pe h'.pe, rd_andV h.rd h'.rd⟩
theorem e_not (h : DE Γ W X a ta m) : DE Γ W X (.UnaryOp .Not a pos) (tNotV ta) (mNotV m) := ⟨pe_not h.pe, rd_notV h.rd⟩
theorem e_if (hc : DT Γ W X c tt p) (h : DE Γ W X a ta m) (h' : DE Γ W X b tb n) : DE Γ W X (.IfExp c a b pos) (tIf tt ta tb) (mIf p m n) := ⟨pe_ifExp hc.pe h.pe h'.pe, rd_if hc.rd h.rd h'.rd⟩
end
def mNil : M (List D) := M.ret []
def mCons (m : M D) (n : M (List D)) : M (List D) := m.bind fun d => n.bind fun ds => M.ret (d :: ds)
/-- *e in a display -/
def mStar (m : M D) (n : M (List D)) : M (List D) := m.bind fun d => match d with
  | .tup es => n.bind fun ds => M.ret (es ++ ds)
  | .lst es => n.bind fun ds => M.ret (es ++ ds)
  | _ => fun _ => none
def fits (ds : List D) : Option (List D) := if ds.length ≤ sizeLine then some ds else none
def mTup (m : M (List D)) : M D := m.bind fun ds => M.opt ((fits ds).map .tup)
def mLst (m : M (List D)) : M (List D) := m.bind fun ds => M.opt (fits ds)
section
variable {Γ : Ct} {K : PySem.W.Frag} {W : WX} {te : TE} {ta : TA}
theorem rd_nil : RdA Γ K W tNil mNil := fun g Fz H σ ρ Q x q => q [] Fz H (Sub.refl _) x .nil
theorem rd_cons {m : M D} {n : M (List D)} (h : RdE Γ K W te m) (h' : RdA Γ K W ta n) : RdA Γ K W (tCons te ta) (mCons m n) := fun g Fz H σ ρ Q x q =>
  h g Fz H σ ρ _ x (Goes.bind q fun d ρ1 v Fz1 H1 s x1 r q1 => h' g Fz1 H1 σ ρ1 _ x1 (Goes.bind q1 fun ds ρ2 vs Fz2 H2 s2 x2 r2 q2 => q2 (v :: vs) Fz2 H2 (Sub.refl _) x2 (.cons (Rep.mono s2 r) r2)))
theorem fits_some {ds es : List D} (h : fits ds = some es) : ds = es ∧ ds.length ≤ sizeLine := by
  unfold fits at h
  by_cases q : ds.length ≤ sizeLine
  · rw [if_pos q] at h; cases h; exact ⟨rfl, q⟩
  · rw [if_neg q] at h; cases h
theorem rd_tup {m : M (List D)} (h : RdA Γ K W ta m) : RdE Γ K W (tTup ta) (mTup m) := fun g Fz H σ ρ Q x q =>
  h g Fz H σ ρ _ x (Goes.bind q fun ds ρ1 vs Fz1 H1 s x1 r q1 => by
    cases hz : fits ds with
    | none => simp only [M.opt, hz] at q1; exact q1.elim
    | some es =>
      simp only [M.opt, hz, Option.map_some] at q1
      obtain ⟨rfl, hl⟩ := fits_some hz
      refine ⟨by rw [← RepL.len r]; exact hl, fun p hp => ?_⟩
      obtain ⟨s2, x2, r2⟩ := x1.newT hp r
      exact q1 _ _ _ s2 x2 r2)
theorem rd_lst {m : M (List D)} (h : RdA Γ K W ta m) : RdO Γ K W (tLst ta) (mLst m) := fun g Fz H σ ρ Q x q =>
  h g Fz H σ ρ _ x (Goes.bindO q fun ds ρ1 vs Fz1 H1 s x1 r q1 => by
    cases hz : fits ds with
    | none => simp only [M.opt, hz] at q1; exact q1.elim
    | some es =>
      simp only [M.opt, hz, Option.map_some] at q1
      obtain ⟨rfl, hl⟩ := fits_some hz
      refine ⟨by rw [← RepL.len r]; exact hl, fun p hp => ?_⟩
      obtain ⟨hg, x2⟩ := x1.fresh (xs := vs) hp
      exact q1 p vs Fz1 _ (Sub.refl _) hg x2 r)
end
section
variable {Γ : Ct} {W : WX} {X : Cx} {e : Expr} {es : List Expr} {pos : Pos} {te : TE} {ta : TA} {m : M D} {n : M (List D)}
theorem a_nil : DA Γ W X [] tNil mNil := ⟨pa_nil, rd_nil⟩
theorem a_cons (h : DE Γ W X e te m) (h' : DA Γ W X es ta n) (hs : starEach (e :: es) X.env = (false, eval e X.env) :: starEach es X.env := by rfl) : DA Γ W X (e :: es) (tCons te ta) (mCons m n) := ⟨pa_cons h.pe h'.pe hs, rd_cons h.rd h'.rd⟩
theorem e_tup {x1} (h : DA Γ W X es ta n) : DE Γ W X (.Tuple es x1 pos) (tTup ta) (mTup n) := ⟨pe_tup h.pe, rd_tup h.rd⟩
theorem o_lst (h : DA Γ W X es ta n) : DO Γ W X (.List es pos) (tLst ta) (mLst n) := ⟨pe_lst h.pe, rd_lst h.rd⟩
end
def fIx : D → D → Option D
  | .lst ds, .int i => atI ds i
  | .tup ds, .int i => atI ds i
  | .str z, .int i => if z.length ≤ sizeLine then (atI z.cps.toList i).map fun c => .str ⟨#[c]⟩ else none
  | _, _ => none
theorem atI_rep {Γ : Ct} {K : PySem.W.Frag} {H : Hp} {ds : List D} {xs : List V} {i : Int} {d : D} (r : RepL Γ K H ds xs) (h : atI ds i = some d) : ∃ v, atI xs i = some v ∧ Rep Γ K H d v := by
  unfold atI at h ⊢
  rw [← r.len]
  cases q : ixN ds.length i with
  | none => rw [q] at h; cases h
  | some j =>
    rw [q] at h
    exact r.getD h
theorem opd_ix {Γ : Ct} {K : PySem.W.Frag} : OpD Γ K (rIx K) fIx := fun g Fz H σ ρ d e x y z Q fr rx ry hz k => by
  match d, e, hz with
  | .lst ds, .int i, hz =>
    obtain ⟨a, xs, rfl, h1, r1⟩ := rx.lst fr.sub
    obtain ⟨v, h2, r2⟩ := atI_rep r1 (show atI ds i = some z from hz)
    rw [ry.int]
    exact .inl ⟨a, xs, i, v, rfl, rfl, SqL.of h1, h2, k v Fz H (Sub.refl _) fr r2⟩
  | .tup ds, .int i, hz =>
    obtain ⟨a, xs, rfl, h1, r1⟩ := rx.tup fr.sub
    obtain ⟨v, h2, r2⟩ := atI_rep r1 (show atI ds i = some z from hz)
    rw [ry.int]
    exact .inr (.inl ⟨a, xs, i, v, rfl, rfl, SqT.of h1, h2, k v Fz H (Sub.refl _) fr r2⟩)
  | .str t, .int i, hz =>
    simp only [fIx] at hz
    by_cases hl : t.length ≤ sizeLine
    · rw [if_pos hl] at hz
      cases hc : atI t.cps.toList i with
      | none => rw [hc] at hz; cases hz
      | some c =>
        rw [hc] at hz
        cases hz
        rw [rx.str, ry.int]
        exact .inr (.inr ⟨t, i, c, rfl, rfl, hl, hc, k _ Fz H (Sub.refl _) fr .str⟩)
    · rw [if_neg hl] at hz; cases hz
/-- a bound of a slice -/
def mNoP : M (Option Int) := M.ret none
def mPart (m : M Bv) : M (Option Int) := m.bind fun a => fun ρ => match deref ρ a with
  | some (.int i) => some (.ok (some i) ρ)
  | _ => none
def RdP (Γ : Ct) (K : PySem.W.Frag) (W : WX) (t : L2.St → Hp → (Option Int → Hp → Prop) → Prop) (m : M (Option Int)) : Prop := ∀ g Fz H σ ρ Q, Fr Γ K g Fz H σ ρ → Goes Γ K W g Fz σ (fun _ (a b : Option Int) => a = b) (m ρ) Q → t σ H Q
structure DP (Γ : Ct) (W : WX) (X : Cx) (e : Option Expr) (t : L2.St → Hp → (Option Int → Hp → Prop) → Prop) (m : M (Option Int)) : Prop where
  pe : PO X e t
  rd : RdP Γ X.K W t m
/-- the part lo .. hi -/
def cutD (ds : List D) (lo hi : Option Int) : List D := (ds.drop (HT.sIx ds.length 0 lo)).take (HT.sIx ds.length ds.length hi - HT.sIx ds.length 0 lo)
def fSl (lo hi : Option Int) : D → Option D
  | .tup ds => some (.tup (cutD ds lo hi))
  | .lst ds => some (.lst (cutD ds lo hi))
  | _ => none
def fSlL (lo hi : Option Int) : D → Option (List D)
  | .lst ds => some (cutD ds lo hi)
  | _ => none
def mSli (m : M Bv) (ml mh : M (Option Int)) : M D := m.bind fun a => ml.bind fun lo => mh.bind fun hi => ret1 (fSl lo hi) a
def mSliL (m : M Bv) (ml mh : M (Option Int)) : M (List D) := m.bind fun a => ml.bind fun lo => mh.bind fun hi => retO1 (fSlL lo hi) a
def rSlAny (K : PySem.W.Frag) : V → Option Int → Option Int → Hp → VK → Prop := fun x lo hi H Q => rSlL K x lo hi H Q ∨ rSlA K x lo hi H Q
section
variable {Γ : Ct} {K : PySem.W.Frag} {W : WX} {te : TE}
theorem RepL.cut {H : Hp} {ds : List D} {xs : List V} (r : RepL Γ K H ds xs) (lo hi : Option Int) : RepL Γ K H (cutD ds lo hi) (cutV xs lo hi) := by
  unfold cutD cutV
  rw [r.len]
  exact (r.drop _).take _
theorem und_sl {lo hi : Option Int} : UnD Γ K (fun x H Q => rSlAny K x lo hi H Q) (fSl lo hi) := fun g Fz H σ ρ d x z Q fr rx hz k => by
  match d, hz with
  | .tup ds, hz =>
    cases hz
    obtain ⟨a, xs, rfl, h1, r1⟩ := rx.tup fr.sub
    have rep : Rep Γ K Fz (.tup ds) (.ref a) := by
      rcases rx with r | ⟨_, _, _, e, _⟩ | ⟨_, _, _, _, _, e, _⟩
      · exact r
      · cases e
      · cases e
    refine .inr ⟨a, xs, rfl, SqT.of h1, fun hz => ?_, fun _ p hp => ?_⟩
    · have e : cutD ds lo hi = ds := by
        unfold cutD
        rw [r1.len, hz.1, hz.2, ← r1.len]
        simp
      rw [e] at k
      exact k _ Fz H (Sub.refl _) fr rep
    · obtain ⟨s2, x2, r2⟩ := fr.newT hp (r1.cut lo hi)
      exact k _ _ _ s2 x2 r2
  | .lst ds, hz =>
    cases hz
    obtain ⟨a, xs, rfl, h1, r1⟩ := rx.lst fr.sub
    refine .inl ⟨a, xs, rfl, SqL.of h1, fun p hp => ?_⟩
    obtain ⟨s2, x2, r2⟩ := fr.newL hp (r1.cut lo hi)
    exact k _ _ _ s2 x2 r2
theorem uno_sl {lo hi : Option Int} : UnO Γ K (fun x H Q => rSlL K x lo hi H Q) (fSlL lo hi) := fun g Fz H σ ρ d x z Q fr rx hz k => by
  match d, hz with
  | .lst ds, hz =>
    cases hz
    obtain ⟨a, xs, rfl, h1, r1⟩ := rx.lst fr.sub
    refine ⟨a, xs, rfl, SqL.of h1, fun p hp => ?_⟩
    obtain ⟨hg, x2⟩ := fr.fresh (xs := cutV xs lo hi) hp
    exact k p _ Fz _ (Sub.refl _) hg x2 (r1.cut lo hi)
theorem rd_noP : RdP Γ K W tNoPart mNoP := fun g Fz H σ ρ Q x q => q none Fz H (Sub.refl _) x rfl
theorem rd_part {m : M Bv} (h : RdB Γ K W te m) : RdP Γ K W (tPart te) (mPart m) := fun g Fz H σ ρ Q x q =>
  h g Fz H σ ρ _ x (Goes.bind q fun a ρ1 v Fz1 H1 s x1 r q1 => by
    cases hd : deref ρ1 a with
    | none => simp only [hd] at q1; exact q1.elim
    | some d =>
      match d, hd with
      | .int i, hd =>
        simp only [hd] at q1
        exact ⟨i, (x1.deref r hd).int, q1 (some i) Fz1 H1 (Sub.refl _) x1 rfl⟩
      | .non, hd => simp only [hd] at q1; exact q1.elim
      | .bl _, hd => simp only [hd] at q1; exact q1.elim
      | .str _, hd => simp only [hd] at q1; exact q1.elim
      | .tup _, hd => simp only [hd] at q1; exact q1.elim
      | .lst _, hd => simp only [hd] at q1; exact q1.elim
      | .ob _ _, hd => simp only [hd] at q1; exact q1.elim
      | .dic0, hd => simp only [hd] at q1; exact q1.elim
      | .dic _ _ _, hd => simp only [hd] at q1; exact q1.elim
      | .fn _, hd => simp only [hd] at q1; exact q1.elim)
theorem rd_sli {m : M Bv} {tl th : L2.St → Hp → (Option Int → Hp → Prop) → Prop} {ml mh : M (Option Int)} (h : RdB Γ K W te m) (hl : RdP Γ K W tl ml) (hh : RdP Γ K W th mh) : RdE Γ K W (tSl (rSlAny K) te tl th) (mSli m ml mh) := fun g Fz H σ ρ Q x q =>
  h g Fz H σ ρ _ x (Goes.bind q fun a ρ1 v Fz1 H1 s x1 r q1 => hl g Fz1 H1 σ ρ1 _ x1 (Goes.bind q1 fun lo ρ2 lo' Fz2 H2 s2 x2 r2 q2 => hh g Fz2 H2 σ ρ2 _ x2 (Goes.bind q2 fun hi ρ3 hi' Fz3 H3 s3 x3 r3 q3 => by
    cases r2
    cases r3
    exact ret1_goes (r := fun x H Q => rSlAny K x lo hi H Q) und_sl x3 ((r.mono s2).mono s3) q3)))
theorem rd_sliL {m : M Bv} {tl th : L2.St → Hp → (Option Int → Hp → Prop) → Prop} {ml mh : M (Option Int)} (h : RdB Γ K W te m) (hl : RdP Γ K W tl ml) (hh : RdP Γ K W th mh) : RdO Γ K W (tSl (rSlL K) te tl th) (mSliL m ml mh) := fun g Fz H σ ρ Q x q =>
  h g Fz H σ ρ _ x (Goes.bindO q fun a ρ1 v Fz1 H1 s x1 r q1 => hl g Fz1 H1 σ ρ1 _ x1 (Goes.bindO q1 fun lo ρ2 lo' Fz2 H2 s2 x2 r2 q2 => hh g Fz2 H2 σ ρ2 _ x2 (Goes.bindO q2 fun hi ρ3 hi' Fz3 H3 s3 x3 r3 q3 => by
    cases r2
    cases r3
    exact retO1_goes (r := fun x H Q => rSlL K x lo hi H Q) uno_sl x3 ((r.mono s2).mono s3) q3)))
end
section
variable {Γ : Ct} {W : WX} {X : Cx} {a b e : Expr} {eo lo hi : Option Expr} {pos p2 : Pos} {ta tb te : TE} {ma mb m : M Bv} {tl th : L2.St → Hp → (Option Int → Hp → Prop) → Prop} {ml mh : M (Option Int)}
theorem e_ix (ha : DB Γ W X a ta ma) (hb : DB Γ W X b tb mb) (hs : PlainIx b := by exact fun _ _ => rfl) : DE Γ W X (.Subscript a b pos) (tOp (rIx X.K) ta tb) (mOp fIx ma mb) := ⟨pe_ix ix_seq ha.pe hb.pe hs, rd_op ha.rd hb.rd opd_ix⟩
theorem p_none : DP Γ W X none tNoPart mNoP := ⟨po_none, rd_noP⟩
theorem p_some (h : DB Γ W X e te m) : DP Γ W X (some e) (tPart te) (mPart m) := ⟨po_some h.pe, rd_part h.rd⟩
theorem e_sl (h : DB Γ W X e te m) (hl : DP Γ W X lo tl ml) (hh : DP Γ W X hi th mh) : DE Γ W X (.Subscript e (.Slice lo hi none p2) pos) (tSl (rSlAny X.K) te tl th) (mSli m ml mh) := ⟨pe_slice (sl_list.or sl_tupA) h.pe hl.pe hh.pe, rd_sli h.rd hl.rd hh.rd⟩
theorem o_sl (h : DB Γ W X e te m) (hl : DP Γ W X lo tl ml) (hh : DP Γ W X hi th mh) : DO Γ W X (.Subscript e (.Slice lo hi none p2) pos) (tSl (rSlL X.K) te tl th) (mSliL m ml mh) := ⟨pe_slice sl_list h.pe hl.pe hh.pe, rd_sliL h.rd hl.rd hh.rd⟩
end
end L3
namespace L3
open PySem PySem.Spec PyProof.Rows L2
section
variable {Γ : Ct} {K : PySem.W.Frag} {g : Gh} {Fz H : Hp} {σ : L2.St} {ρ : Env} {κ : Nat → List Addr}
/-- slots changed: what each new slot asks; cells only fewer -/
theorem FrK.slots {σ' : L2.St} {ρ' : Env} {κ' : Nat → List Addr} (x : FrK Γ K g Fz H σ ρ κ) (hl : σ'.length = ρ'.length) (hn : ρ'.length = ρ.length) (hk : ∀ i a, a ∈ κ' i → a ∈ κ i)
    (hs : ∀ i s, ρ'[i]? = some s → SlotOk Γ K g Fz H i (κ' i) σ'[i]? s) : FrK Γ K g Fz H σ' ρ' κ' :=
  ⟨x.sub, x.prot, hl, hs, fun i a ha => by rw [hn]; exact x.fresh i a (hk i a ha), fun i j a hi hj => x.disj i j a (hk i a hi) (hk j a hj), x.cch.go (Sub.refl _) (fun _ _ _ e => e) fun a kvs hl h1 h2 h3 h4 => ⟨h1, h2, h3, fun i hi => h4 i (hk i a hi)⟩, x.tups⟩
/-- a slot gets a value that stays -/
theorem Fr.setFz {i : Nat} {d : D} {v : V} (x : Fr Γ K g Fz H σ ρ) (r : Rep Γ K Fz d v) : Fr Γ K g Fz H (σ.set i (some v)) (ρ.set i (.fz d)) := by
  obtain ⟨κ, x⟩ := x
  refine ⟨fun j => if j = i then [] else κ j, x.slots (by rw [List.length_set, List.length_set]; exact x.len) (List.length_set ..) (fun j a ha => ?_) fun j s hs => ?_⟩
  · by_cases e : j = i
    · simp only [if_pos e] at ha; cases ha
    · simp only [if_neg e] at ha; exact ha
  · by_cases e : j = i
    · subst e
      simp only [if_pos trivial]
      by_cases hlt : j < ρ.length
      · rw [List.getElem?_set_self hlt] at hs
        cases hs
        exact ⟨rfl, v, by rw [List.getElem?_set_self (by rw [x.len]; exact hlt)], r⟩
      · rw [List.getElem?_eq_none (by rw [List.length_set]; omega)] at hs; cases hs
    · rw [List.getElem?_set_ne (fun z => e z.symm)] at hs ⊢
      simp only [if_neg e]
      exact x.slot j s hs
/-- a slot forgotten -/
theorem Fr.setEmp {i : Nat} {o : Option V} (x : Fr Γ K g Fz H σ ρ) : Fr Γ K g Fz H (σ.set i o) (ρ.set i .emp) := by
  obtain ⟨κ, x⟩ := x
  refine ⟨fun j => if j = i then [] else κ j, x.slots (by rw [List.length_set, List.length_set]; exact x.len) (List.length_set ..) (fun j a ha => ?_) fun j s hs => ?_⟩
  · by_cases e : j = i
    · simp only [if_pos e] at ha; cases ha
    · simp only [if_neg e] at ha; exact ha
  · by_cases e : j = i
    · subst e
      simp only [if_pos trivial]
      by_cases hlt : j < ρ.length
      · rw [List.getElem?_set_self hlt] at hs
        cases hs
        rfl
      · rw [List.getElem?_eq_none (by rw [List.length_set]; omega)] at hs; cases hs
    · rw [List.getElem?_set_ne (fun z => e z.symm)] at hs ⊢
      simp only [if_neg e]
      exact x.slot j s hs
/-- a slot gets a new list of the frame's own -/
theorem Fr.setOwn {i : Nat} {ds : List D} {xs : List V} {a : Addr} (hi : i < ρ.length) (hg : g.P a = none) (x : Fr Γ K (g.more a (.lst xs)) Fz H σ ρ) (r : RepL Γ K Fz ds xs) : Fr Γ K g Fz H (σ.set i (some (.ref a))) (ρ.set i (.own (.lst ds))) := by
  obtain ⟨κ, x⟩ := x
  have h0 := x.at0
  have hna : ∀ j, a ∉ κ j := fun j ha => by
    have z : (upd g.P a (.lst xs)) a = none := (x.fresh j a ha).2.2.1
    rw [upd_same] at z; cases z
  have y := x.drop0 hg
  refine ⟨fun j => if j = i then [a] else κ j, ⟨y.sub, y.prot, by rw [List.length_set, List.length_set]; exact y.len, fun j s hs => ?_, fun j b hb => ?_, fun j l b hj hl => ?_, x.cch.go (Sub.refl _) (fun _ _ _ e => e) (fun b kvs hl q1 q2 q3 q4 => ?_), y.tups⟩⟩
  · by_cases e : j = i
    · subst e
      simp only [if_pos trivial]
      rw [List.getElem?_set_self hi] at hs
      cases hs
      exact ⟨.ref a, by rw [List.getElem?_set_self (by rw [y.len]; exact hi)], a, xs, rfl, rfl, h0.1, r⟩
    · rw [List.getElem?_set_ne (fun z => e z.symm)] at hs ⊢
      simp only [if_neg e]
      exact y.slot j s hs
  · by_cases e : j = i
    · simp only [if_pos e, List.mem_singleton] at hb
      subst hb
      exact ⟨by rw [List.length_set, e]; exact hi, h0.2, hg, _, h0.1⟩
    · simp only [if_neg e] at hb
      obtain ⟨q0, q1⟩ := y.fresh j b hb
      exact ⟨by rw [List.length_set]; exact q0, q1⟩
  · by_cases e : j = i
    · simp only [if_pos e, List.mem_singleton] at hj
      subst hj
      by_cases e2 : l = i
      · rw [e, e2]
      · simp only [if_neg e2] at hl; exact absurd hl (hna l)
    · simp only [if_neg e] at hj
      by_cases e2 : l = i
      · simp only [if_pos e2, List.mem_singleton] at hl
        subst hl
        exact absurd hj (hna j)
      · simp only [if_neg e2] at hl
        exact y.disj j l b hj hl
  · have q3' : upd g.P a (.lst xs) b = none := q3
    have hba : b ≠ a := fun z => by subst z; rw [upd_same] at q3'; cases q3'
    rw [upd_ne hba] at q3'
    refine ⟨q1, q2, q3', fun j hj => ?_⟩
    by_cases e : j = i
    · simp only [if_pos e, List.mem_singleton] at hj; exact hba hj
    · simp only [if_neg e] at hj; exact q4 j hj
def slotLst : Slot → Option (List D)
  | .own (.lst ds) => some ds
  | .io (.lst ds) => some ds
  | _ => none
def slotPut (s : Slot) (ds : List D) : Slot := match s with
  | .own _ => .own (.lst ds)
  | .io _ => .io (.lst ds)
  | s => s
theorem FrK.own_at {i : Nat} {s : Slot} {ds : List D} (x : FrK Γ K g Fz H σ ρ κ) (hs : ρ[i]? = some s) (hl : slotLst s = some ds) : ∃ a xs, σ[i]? = some (some (.ref a)) ∧ κ i = [a] ∧ H a = some (.lst xs) ∧ RepL Γ K Fz ds xs := by
  have q := x.slot i s hs
  cases s with
  | own c =>
    cases c with
    | lst es => cases hl; obtain ⟨v, h1, a, xs, h2, rfl, h3, h4⟩ := q; exact ⟨a, xs, h1, h2, h3, h4⟩
    | deal _ _ => cases hl
    | dic _ _ _ => cases hl
  | io c =>
    cases c with
    | lst es => cases hl; obtain ⟨v, h1, ⟨a, xs, h2, rfl, h3, h4⟩, _⟩ := q; exact ⟨a, xs, h1, h2, h3, h4⟩
    | deal _ _ => cases hl
    | dic _ _ _ => cases hl
  | emp => cases hl
  | raw => cases hl
  | fz _ => cases hl
  | bor _ => cases hl
theorem Fr.write {i : Nat} {s : Slot} {ds es : List D} {ys : List V} {a : Addr} (x : Fr Γ K g Fz H σ ρ) (hs : ρ[i]? = some s) (hl : slotLst s = some ds) (ha : σ[i]? = some (some (.ref a))) (r : RepL Γ K Fz es ys) :
    Fr Γ K g Fz (upd H a (.lst ys)) σ (ρ.set i (slotPut s es)) := by
  obtain ⟨κ, x⟩ := x
  obtain ⟨a', xs, h1, h2, h3, h4⟩ := x.own_at hs hl
  rw [ha] at h1
  cases h1
  have hai : a ∈ κ i := by rw [h2]; simp
  obtain ⟨hlt, hz, hP, _⟩ := x.fresh i a hai
  refine ⟨κ, ⟨fun b u h => ?_, fun b u h => ?_, by rw [List.length_set]; exact x.len, fun j t ht => ?_, fun j b hb => ?_, x.disj, x.cch.go (Sub.refl _) (fun _ _ _ e => e) fun b kvs hl q1 q2 q3 q4 => ⟨by rw [upd_ne (fun e => by subst e; exact q4 i hai)]; exact q1, q2, q3, q4⟩, putTups x.tups trivial⟩⟩
  · rw [upd_ne (fun e => by subst e; rw [h] at hz; cases hz)]; exact x.sub b u h
  · rw [upd_ne (fun e => by subst e; rw [h] at hP; cases hP)]; exact x.prot b u h
  · by_cases e : j = i
    · subst e
      rw [List.getElem?_set_self hlt] at ht
      cases ht
      have q := x.slot j s hs
      cases s with
      | own c =>
        cases c with
        | lst _ => exact ⟨.ref a, ha, a, ys, h2, rfl, upd_same, r⟩
        | deal _ _ => cases hl
        | dic _ _ _ => cases hl
      | io c =>
        cases c with
        | lst _ =>
          obtain ⟨v, q1, _, q3⟩ := q
          rw [ha] at q1
          cases q1
          exact ⟨.ref a, ha, ⟨a, ys, h2, rfl, upd_same, r⟩, q3⟩
        | deal _ _ => cases hl
        | dic _ _ _ => cases hl
      | emp => cases hl
      | raw => cases hl
      | fz _ => cases hl
      | bor _ => cases hl
    · rw [List.getElem?_set_ne (fun z => e z.symm)] at ht
      exact (x.slot j t ht).mono (Sub.refl Fz) fun b hb => upd_ne fun z => by subst z; exact e (x.disj j i b hb hai)
  · obtain ⟨q0, q1, q2, u, q3⟩ := x.fresh j b hb
    refine ⟨by rw [List.length_set]; exact q0, q1, q2, ?_⟩
    by_cases e : b = a
    · subst e; exact ⟨_, upd_same⟩
    · exact ⟨u, by rw [upd_ne e]; exact q3⟩
end
def wipeE (ρ : Env) : List Nat → Env
  | [] => ρ
  | v :: vs => (wipeE ρ vs).set v .emp
def backE (ρ0 ρ : Env) : List Nat → Env
  | [] => ρ
  | v :: vs => (backE ρ0 ρ vs).set v (match ρ0[v]? with
    | some (.fz d) => .fz d
    | _ => .emp)
section
variable {Γ : Ct} {K : PySem.W.Frag} {g : Gh} {Fz Fz0 H H0 : Hp} {σ : L2.St} {ρ ρ0 : Env}
theorem Fr.wipe (x : Fr Γ K g Fz H σ ρ) : ∀ vs : List Nat, Fr Γ K g Fz H (L2.wipe σ vs) (wipeE ρ vs)
  | [] => x
  | v :: vs => (Fr.wipe x vs).setEmp
theorem wipe_at {σ : L2.St} {i : Nat} : ∀ {vs : List Nat}, i ∉ vs → (L2.wipe σ vs)[i]? = σ[i]?
  | [], _ => rfl
  | v :: vs, h => by
    unfold L2.wipe
    rw [List.getElem?_set_ne (fun e => h (by simp [e]))]
    exact wipe_at fun z => h (List.mem_cons_of_mem _ z)
theorem backE_len (ρ0 ρ : Env) : ∀ vs : List Nat, (backE ρ0 ρ vs).length = ρ.length
  | [] => rfl
  | v :: vs => by unfold backE; rw [List.length_set, backE_len ρ0 ρ vs]
theorem backE_out {ρ0 ρ : Env} {i : Nat} : ∀ {vs : List Nat}, i ∉ vs → (backE ρ0 ρ vs)[i]? = ρ[i]?
  | [], _ => rfl
  | v :: vs, h => by
    unfold backE
    rw [List.getElem?_set_ne (fun e => h (by simp [e]))]
    exact backE_out fun z => h (List.mem_cons_of_mem _ z)
theorem backE_in {ρ0 ρ : Env} {i : Nat} (hi : i < ρ.length) : ∀ {vs : List Nat}, i ∈ vs → (backE ρ0 ρ vs)[i]? = some (match ρ0[i]? with | some (.fz d) => .fz d | _ => .emp)
  | v :: vs, h => by
    unfold backE
    by_cases e : v = i
    · subst e
      rw [List.getElem?_set_self (by rw [backE_len]; exact hi)]
    · rw [List.getElem?_set_ne e]
      exact backE_in hi ((List.mem_cons.mp h).resolve_left fun z => e z.symm)
theorem Fr.back {g0 : Gh} {vs : List Nat} (x : Fr Γ K g Fz H (L2.wipe σ vs) ρ) (y : Fr Γ K g0 Fz0 H0 σ ρ0) (s : Sub Fz0 Fz) : Fr Γ K g Fz H σ (backE ρ0 ρ vs) := by
  obtain ⟨κ, x⟩ := x
  obtain ⟨κ0, y⟩ := y
  refine ⟨fun j => if j ∈ vs then [] else κ j, x.slots (by rw [backE_len, ← x.len, L2.wipe_length]) (backE_len ..) (fun j a ha => ?_) fun j t ht => ?_⟩
  · by_cases e : j ∈ vs
    · simp only [if_pos e] at ha; cases ha
    · simp only [if_neg e] at ha; exact ha
  · by_cases e : j ∈ vs
    · simp only [if_pos e]
      have hj : j < ρ.length := by
        have := (List.getElem?_eq_some_iff.mp ht).1
        rw [backE_len] at this; exact this
      rw [backE_in hj e] at ht
      cases ht
      cases q : ρ0[j]? with
      | none => rfl
      | some s0 =>
        cases s0 with
        | fz d =>
          obtain ⟨_, v, h1, h2⟩ := y.slot j _ q
          exact ⟨rfl, v, h1, h2.mono s⟩
        | emp => rfl
        | raw => rfl
        | own _ => rfl
        | io _ => rfl
        | bor _ => rfl
    · rw [backE_out e] at ht
      simp only [if_neg e]
      have z := x.slot j t ht
      rw [wipe_at e] at z
      exact z
end
def Gh.lend (g : Gh) (i : Nat) (a : Addr) (xs : List V) (h : g.P a = none) : Gh where
  P := upd g.P a (.lst xs)
  B := fun j => if j = i then some (a, xs) else g.B j
  sub := fun j b ys e => by
    by_cases hj : j = i
    · rw [if_pos hj] at e; cases e; exact upd_same
    · rw [if_neg hj] at e
      have q := g.sub j b ys e
      rw [upd_ne (fun z => by subst z; rw [q] at h; cases h)]
      exact q
  pin := g.pin
/-- slots lent: given back as they were -/
def unlend : List (Nat × List D) → Env → Option Env
  | [], ρ => some ρ
  | (i, ds) :: ls, ρ => match ρ[i]? with
    | some (.bor _) => (unlend ls (ρ.set i (.own (.lst ds))))
    | _ => none
/-- protected once more, or not -/
def Gh.mo (g : Gh) : Option (Addr × HO) → Gh
  | none => g
  | some (p, o) => g.more p o
/-- what was lent comes back -/
def Unl (Γ : Ct) (K : PySem.W.Frag) (g g' : Gh) (Fz : Hp) (σ : L2.St) (ls : List (Nat × List D)) : Prop := Sub g.P g'.P ∧
  ∀ σ' e Fz' H' ρ' ρ2, (∀ z ∈ ls, σ'[z.1]? = σ[z.1]?) → (∀ p o, e = some (p, o) → g'.P p = none) → Sub Fz Fz' → Fr Γ K (g'.mo e) Fz' H' σ' ρ' → unlend ls ρ' = some ρ2 → Fr Γ K (g.mo e) Fz' H' σ' ρ2
section
variable {Γ : Ct} {K : PySem.W.Frag} {g g' : Gh} {Fz H : Hp} {σ : L2.St} {ρ : Env}
theorem Unl.refl : Unl Γ K g g Fz σ [] := ⟨Sub.refl _, fun σ' e Fz' H' ρ' ρ2 _ _ _ x h => by cases h; exact x⟩
theorem FrK.back1 {g1 g2 : Gh} {κ : Nat → List Addr} {i : Nat} {a : Addr} {xs : List V} {es ds : List D} (x : FrK Γ K g1 Fz H σ ρ κ) (hP : ∀ b o, g2.P b = some o → g1.P b = some o) (hB : ∀ j, j ≠ i → ∀ b ys, g1.B j = some (b, ys) → g2.B j = some (b, ys))
    (hp : g1.pin = g2.pin) (ha : g1.P a = some (.lst xs)) (ha2 : g2.P a = none) (hs : ρ[i]? = some (.bor es)) (hσ : σ[i]? = some (some (.ref a))) (r : RepL Γ K Fz ds xs) : FrK Γ K g2 Fz H σ (ρ.set i (.own (.lst ds))) (fun j => if j = i then [a] else κ j) := by
  have hi : i < ρ.length := (List.getElem?_eq_some_iff.mp hs).1
  obtain ⟨hH, hz⟩ := x.prot a _ ha
  have hna : ∀ j, a ∉ κ j := fun j z => by rw [(x.fresh j a z).2.2.1] at ha; cases ha
  refine ⟨x.sub, fun b o h => x.prot b o (hP b o h), by rw [List.length_set]; exact x.len, fun j t ht => ?_, fun j b hb => ?_, fun j l b hj hl => ?_, x.cch.go (Sub.refl _) (fun _ _ _ e => e) (fun b kvs hl q1 q2 q3 q4 => ?_), x.tups⟩
  · by_cases e : j = i
    · subst e
      rw [List.getElem?_set_self hi] at ht
      cases ht
      simp only [if_pos trivial]
      exact ⟨.ref a, hσ, a, xs, rfl, rfl, hH, r⟩
    · rw [List.getElem?_set_ne (fun z => e z.symm)] at ht
      simp only [if_neg e]
      have z := x.slot j t ht
      cases t with
      | bor fs =>
        obtain ⟨h1, b, ys, h2, h3, h4⟩ := z
        exact ⟨h1, b, ys, h2, h3.imp id fun q => hB j e b ys q, h4⟩
      | io c => obtain ⟨v, h1, h2, h3⟩ := z; exact ⟨v, h1, h2, by rw [← hp]; exact h3⟩
      | emp => exact z
      | raw => exact ⟨z.1, by rw [← hp]; exact z.2⟩
      | fz d => exact z
      | own c => exact z
  · by_cases e : j = i
    · simp only [if_pos e, List.mem_singleton] at hb
      subst hb
      exact ⟨by rw [List.length_set, e]; exact hi, hz, ha2, _, hH⟩
    · simp only [if_neg e] at hb
      obtain ⟨q0, q1, q2, q3⟩ := x.fresh j b hb
      refine ⟨by rw [List.length_set]; exact q0, q1, ?_, q3⟩
      cases q : g2.P b with
      | none => rfl
      | some o => rw [hP b o q] at q2; cases q2
  · by_cases e : j = i
    · simp only [if_pos e, List.mem_singleton] at hj
      subst hj
      by_cases e2 : l = i
      · rw [e, e2]
      · simp only [if_neg e2] at hl; exact absurd hl (hna l)
    · simp only [if_neg e] at hj
      by_cases e2 : l = i
      · simp only [if_pos e2, List.mem_singleton] at hl
        subst hl
        exact absurd hj (hna j)
      · simp only [if_neg e2] at hl
        exact x.disj j l b hj hl
  · refine ⟨q1, q2, ?_, fun j hj => ?_⟩
    · cases z : g2.P b with
      | none => rfl
      | some o => rw [hP b o z] at q3; cases q3
    · by_cases e : j = i
      · simp only [if_pos e, List.mem_singleton] at hj; subst hj; rw [ha] at q3; cases q3
      · simp only [if_neg e] at hj; exact q4 j hj
/-- a list of the frame's own is lent -/
theorem Fr.lend {i : Nat} {ds : List D} (x : Fr Γ K g Fz H σ ρ) (hs : ρ[i]? = some (.own (.lst ds))) : ∃ a xs, ∃ h : g.P a = none, σ[i]? = some (some (.ref a)) ∧ H a = some (.lst xs) ∧ RepL Γ K Fz ds xs ∧
    Fr Γ K (g.lend i a xs h) Fz H σ (ρ.set i (.bor ds)) ∧ Unl Γ K g (g.lend i a xs h) Fz σ [(i, ds)] := by
  obtain ⟨κ, x⟩ := x
  obtain ⟨a, xs, h1, h2, h3, h4⟩ := x.own_at hs rfl
  have hai : a ∈ κ i := by rw [h2]; simp
  obtain ⟨hlt, hz, hP, _⟩ := x.fresh i a hai
  refine ⟨a, xs, hP, h1, h3, h4, ⟨fun j => if j = i then [] else κ j, ⟨x.sub, fun b o h => ?_, by rw [List.length_set]; exact x.len, fun j t ht => ?_, fun j b hb => ?_, fun j l b hj hl => ?_, x.cch.go (Sub.refl _) (fun _ _ _ e => e) fun b kvs hl q1 q2 q3 q4 => ⟨q1, q2, by show upd g.P a (.lst xs) b = none; rw [upd_ne (fun e => by subst e; exact q4 i hai)]; exact q3, fun j hj => ?_⟩, x.tups⟩⟩, fun b o hb => ?_, fun σ' e Fz' H' ρ' ρ2 hσ' he s y hu => ?_⟩
  · have h' : upd g.P a (.lst xs) b = some o := h
    by_cases e : b = a
    · subst e; rw [upd_same] at h'; cases h'; exact ⟨h3, hz⟩
    · rw [upd_ne e] at h'; exact x.prot b o h'
  · by_cases e : j = i
    · subst e
      rw [List.getElem?_set_self hlt] at ht
      cases ht
      simp only [if_pos trivial]
      exact ⟨rfl, a, xs, h1, .inr (if_pos rfl), h4⟩
    · rw [List.getElem?_set_ne (fun z => e z.symm)] at ht
      simp only [if_neg e]
      have z := x.slot j t ht
      cases t with
      | bor fs =>
        obtain ⟨q1, b, ys, q2, q3, q4⟩ := z
        exact ⟨q1, b, ys, q2, q3.imp id fun q => (if_neg e).trans q, q4⟩
      | io c => exact z
      | emp => exact z
      | raw => exact z
      | fz d => exact z
      | own c => exact z
  · by_cases e : j = i
    · simp only [if_pos e] at hb; cases hb
    · simp only [if_neg e] at hb
      obtain ⟨q0, q1, q2, q3⟩ := x.fresh j b hb
      refine ⟨by rw [List.length_set]; exact q0, q1, ?_, q3⟩
      show upd g.P a _ b = none
      rw [upd_ne (fun z => by subst z; exact e (x.disj j i b hb hai))]
      exact q2
  · by_cases e : j = i
    · simp only [if_pos e] at hj; cases hj
    · by_cases e2 : l = i
      · simp only [if_pos e2] at hl; cases hl
      · simp only [if_neg e] at hj
        simp only [if_neg e2] at hl
        exact x.disj j l b hj hl
  · by_cases e : j = i
    · simp only [if_pos e] at hj; cases hj
    · simp only [if_neg e] at hj; exact q4 j hj
  · show upd g.P a (.lst xs) b = some o
    rw [upd_ne (fun z => by subst z; rw [hb] at hP; cases hP)]
    exact hb
  · have h1' : σ'[i]? = some (some (.ref a)) := (hσ' (i, ds) (by simp)).trans h1
    cases hq : ρ'[i]? with
    | none => simp only [unlend, hq] at hu; cases hu
    | some t =>
      cases t with
      | bor es =>
        simp only [unlend, hq] at hu
        cases hu
        obtain ⟨κ', y⟩ := y
        cases e with
        | none =>
          refine ⟨_, y.back1 (g2 := g) (fun b o h => ?_) (fun j hj b ys q => ?_) rfl upd_same hP hq h1' (h4.mono s)⟩
          · show upd g.P a _ b = _
            rw [upd_ne (fun z => by subst z; rw [h] at hP; cases hP)]; exact h
          · have q' : (if j = i then some (a, xs) else g.B j) = some (b, ys) := q
            rw [if_neg hj] at q'; exact q'
        | some po =>
          obtain ⟨p, o⟩ := po
          have hp0 : upd g.P a (.lst xs) p = none := he p o rfl
          have hpa : a ≠ p := fun z => by subst z; rw [upd_same] at hp0; cases hp0
          refine ⟨_, y.back1 (g2 := g.more p o) (a := a) (xs := xs) (fun b u h => ?_) (fun j hj b ys q => ?_) rfl ?_ ?_ hq h1' (h4.mono s)⟩
          · have h' : upd g.P p o b = some u := h
            show upd (upd g.P a (.lst xs)) p o b = some u
            by_cases e : b = p
            · subst e; rw [upd_same] at h' ⊢; exact h'
            · rw [upd_ne e] at h' ⊢
              rw [upd_ne (fun z => by subst z; rw [h'] at hP; cases hP)]; exact h'
          · have q2 := Gh.more_B_of q
            have q' : (if j = i then some (a, xs) else g.B j) = some (b, ys) := q2
            rw [if_neg hj] at q'
            refine Gh.more_B q' ?_
            rw [upd_ne (fun z => hpa z.symm)] at hp0; exact hp0
          · show upd (upd g.P a (.lst xs)) p o a = _
            rw [upd_ne hpa, upd_same]
          · show upd g.P p o a = none
            rw [upd_ne hpa]; exact hP
      | emp => simp only [unlend, hq] at hu; cases hu
      | raw => simp only [unlend, hq] at hu; cases hu
      | fz _ => simp only [unlend, hq] at hu; cases hu
      | own _ => simp only [unlend, hq] at hu; cases hu
      | io _ => simp only [unlend, hq] at hu; cases hu
end
section
variable {Γ : Ct} {K : PySem.W.Frag} {g g1 g2 : Gh} {Fz Fz1 : Hp} {σ : L2.St} {l1 l2 : List (Nat × List D)}
theorem unlend_app : ∀ (l2 l1 : List (Nat × List D)) (ρ : Env), unlend (l2 ++ l1) ρ = (unlend l2 ρ).bind (unlend l1)
  | [], l1, ρ => rfl
  | (i, ds) :: l2, l1, ρ => by
    simp only [List.cons_append, unlend]
    cases q : ρ[i]? with
    | none => rfl
    | some t => cases t <;> first | rfl | exact unlend_app l2 l1 _
theorem Unl.trans (a : Unl Γ K g g1 Fz σ l1) (b : Unl Γ K g1 g2 Fz1 σ l2) (s : Sub Fz Fz1) : Unl Γ K g g2 Fz1 σ (l2 ++ l1) := by
  refine ⟨a.1.trans b.1, fun σ' e Fz' H' ρ' ρ2 hσ' he s' y hu => ?_⟩
  rw [unlend_app] at hu
  cases q : unlend l2 ρ' with
  | none => rw [q] at hu; cases hu
  | some ρ3 =>
    rw [q] at hu
    refine a.2 σ' e Fz' H' ρ3 ρ2 (fun z hz => hσ' z (List.mem_append_right _ hz)) (fun p o h => ?_) (s.trans s') (b.2 σ' e Fz' H' ρ' ρ3 (fun z hz => hσ' z (List.mem_append_left _ hz)) he s' y q) hu
    cases z : g1.P p with
    | none => rfl
    | some u => have := he p o h; rw [b.1 p u z] at this; cases this
end
theorem wipe_idem {σ : L2.St} : ∀ (vs : List Nat), L2.wipe (L2.wipe σ vs) vs = L2.wipe σ vs := fun vs => by
  apply List.ext_getElem?
  intro i
  by_cases h : i ∈ vs
  · have key : ∀ (τ : L2.St) (vs : List Nat), i ∈ vs → (L2.wipe τ vs)[i]? = if i < τ.length then some none else none := fun τ vs => by
      induction vs with
      | nil => intro h; cases h
      | cons v vs ih =>
        intro h
        unfold L2.wipe
        by_cases e : v = i
        · subst e
          by_cases hl : v < τ.length
          · rw [if_pos hl, List.getElem?_set_self (by rw [L2.wipe_length]; exact hl)]
          · rw [if_neg hl]
            exact List.getElem?_eq_none (by rw [List.length_set, L2.wipe_length]; omega)
        · rw [List.getElem?_set_ne e]
          exact ih ((List.mem_cons.mp h).resolve_left fun z => e z.symm)
    rw [key _ _ h, key _ _ h, L2.wipe_length]
  · rw [wipe_at h]
end L3
namespace L3
open PySem PySem.Spec PyProof.Rows L2
section
open PySem.Calls
set_option maxHeartbeats 1000000 in
theorem new_enum_begun {v : Value} {ob : Obj} {Hh : Heap → Prop} (Bg : Begins v ob Hh) :
    Meets (Builtin.«enumerate.__new__» ⟨[.type "enumerate", v], []⟩) (fun _ R s => Hh s.heap ∧
      R (.ok (.ret (.ref (s.heap.push ob).objs.size))) { s with heap := (s.heap.push ob).push { cls := .type "enumerate", data := .fields #[.none, .bool false, .ref s.heap.objs.size, rawInt 0, .none, .none] } }) :=
  .of_wp fun prog w A R s h => by
    obtain ⟨hh, ge, dr, tt, ox⟩ := s
    obtain ⟨hb, h⟩ := h
    have hsub := sub_enumerate
    have itv : ∀ {A' : Around} {E : Value → Shared → Prop} {Q : Value → Shared → Prop}, Q (.ref hh.objs.size) ⟨hh.push ob, ge, dr, tt, ox⟩ → wpAny (model prog w) A' (pyIter v) Q E ⟨hh, ge, dr, tt, ox⟩ :=
      fun q => Bg.iter prog w _ _ ⟨hh, ge, dr, tt, ox⟩ _ hb q
    wp_walk using itv
    refine wpAny_stack_any fun stk => wpAny_pure ?_
    split
    · rename_i cl _ _ _ _ _
      cases (cl == Value.type "enumerate") <;> (wp_walk using itv; exact ⟨_, rfl, h⟩)
    · wp_walk using itv
      exact ⟨_, rfl, h⟩
theorem call_enum_begun {prog : Program} {w : World} {A : Around} {E : Value → Shared → Prop} {s : Shared} {v : Value} {ob : Obj} {Hh : Heap → Prop} {Q : Value → Shared → Prop} (Bg : Begins v ob Hh) (hb : Hh s.heap)
    (k : ∀ h', IsEnum h' (s.heap.objs.size + 1) s.heap.objs.size 0 .none → h'.get? s.heap.objs.size = some ob → (∀ b u, s.heap.get? b = some u → h'.get? b = some u) → Q (.ref (s.heap.objs.size + 1)) { s with heap := h' }) :
    wpAny (model prog w) A (call (.type "enumerate") [v]) Q E s := by
  refine callType_new F.called_enumerate (by decide) (F.typeCall_enumerate_1 _) (F.newCall_enumerate_1 _) (fun obj => F.args_object_init_2 obj _) F.entry_enumerate_new (new_enum_begun Bg) ⟨hb, ?_⟩
  have hz : (s.heap.push ob).objs.size = s.heap.objs.size + 1 := Heap.size_push ..
  show _ ∧ _
  rw [hz]
  have he : IsEnum ((s.heap.push ob).push { cls := .type "enumerate", data := .fields #[.none, .bool false, .ref s.heap.objs.size, rawInt 0, .none, .none] }) (s.heap.objs.size + 1) s.heap.objs.size 0 .none := by
    have z := Heap.get?_push_size (s.heap.push ob) (o := { cls := .type "enumerate", data := .fields #[.none, .bool false, .ref s.heap.objs.size, rawInt 0, .none, .none] }) rfl
    rw [hz] at z
    exact z
  exact ⟨⟨_, he, rfl⟩, k _ he (Heap.get?_push_of_some _ (Heap.get?_push_size _ Bg.free)) fun b u x => Heap.get?_push_of_some _ (Heap.get?_push_of_some _ x)⟩
end
/-- the tuple at a, its items behind their places -/
def IteT (K : PySem.W.Frag) (a : Addr) : It :=
  ⟨fun i H => ∃ (xs : List V) (x : V), SqT K H a xs ∧ xs[i]? = some x, fun i H v H' => ∃ T x, v = .ref T ∧ H T = none ∧ H' = upd H T (.tup [.int (i : Nat), x]) ∧ ∀ xs, SqT K H a xs → xs[i]? = some x, fun i H => ∃ xs : List V, SqT K H a xs ∧ xs.length = i⟩
theorem turn_enumT {P : Program} {w : World} {K : PySem.W.Frag} {elts : List Expr} {kk : Nat} {tpos : Pos} (a e it : Addr) :
    Turn P w K (.Tuple elts kk tpos) (IteT K a) [e, it] e (fun i h => (∃ old, IsEnum h e it ((i : Nat) : Int) old) ∧ h.IsTupleIter it a i ∧ e ≠ it) where
  mem := List.mem_cons_self ..
  obj := fun i h z b hb => by
    obtain ⟨⟨old, h1⟩, ⟨o, h2, _, h3⟩, _⟩ := z
    have hb' : b = e ∨ b = it := by simpa using hb
    rcases hb' with q | q
    · rw [q]; exact ⟨_, h1, fun v q => nomatch q⟩
    · rw [q]; exact ⟨o, h2, fun v q => by rw [h3] at q; cases q⟩
  keep := fun i h h' z k => let ⟨⟨old, h1⟩, h2, ne⟩ := z; ⟨⟨old, k e (by simp) _ h1⟩, h2.at fun o q => k it (by simp) o q, ne⟩
  item := by
    intro X hP hw hK hc i pins s σ H E I hf z hg
    subst hP hw hK
    obtain ⟨⟨old, h1⟩, h2, ne⟩ := z
    obtain ⟨xs, x, hq, hx⟩ := hg
    obtain ⟨its, rv, p, hz⟩ := I.tuple hq
    obtain ⟨u, hu, ru⟩ := rv.get hx
    have hel : e < s.heap.objs.size := Heap.lt_size h1
    have hil : it < s.heap.objs.size := by obtain ⟨_, q, _⟩ := h2; exact Heap.lt_size q
    have p' : s.heap.IsTuple a its.toArray := p
    have hai : a ≠ it := fun q => by
      subst q
      obtain ⟨o, e1, c1, _⟩ := p'
      obtain ⟨o2, e2, c2, _⟩ := h2
      rw [e1] at e2
      cases e2
      rw [c1] at c2
      injection c2 with z
      exact absurd z (by decide)
    have hae : e ≠ a := fun q => by
      subst q
      obtain ⟨o, e1, c1, _⟩ := p'
      rw [h1] at e1
      cases e1
      injection c1 with z
      exact absurd z (by decide)
    have hlt : i < its.toArray.size := by
      have := (List.getElem?_eq_some_iff.mp hu).1
      simpa using this
    refine wpAny_pyNext_enum_itemC (Draws.tuple (A := X.A.in1) (show X.A.handled = none from I.ok.hd hc) it a hai its.toArray) h1 ⟨h2, p'⟩ hlt ne (by simp [ne, hae]) fun y h' tk hy ho hst hT hsz hk => ?_
    have hyu : y = u := by
      have z : its.toArray[i]? = some y := hy
      rw [show its.toArray[i]? = some u by simpa using hu] at z
      exact (Option.some.inj z).symm
    subst hyu
    refine ⟨_, rfl, wpAny_letOwnedTupleGo_enum (s := { s with heap := h', toks := tk + 1 }) ho fun h'' he' sb => ?_⟩
    have hT2 : h''.get? s.heap.objs.size = some { cls := .type "tuple", data := .seq #[.int i tk, y] } := (sb.2 _ (Nat.ne_of_gt hel)).trans hT
    have new : ObjOk X.prog X.w (upd H s.heap.objs.size (.tup [.int (i : Nat), x])) h'' s.heap.objs.size (.tup [.int (i : Nat), x]) :=
      ⟨by show 2 ≤ sizeLine; decide, [.int i tk, y], .cons ⟨_, rfl⟩ (.cons ru .nil), ⟨_, hT2, rfl, _, rfl⟩⟩
    have J : Inv X pins σ (upd H s.heap.objs.size (.tup [.int (i : Nat), x])) { s with heap := h'', toks := tk + 1 } :=
      I.turnedNew (ch := [e, it]) (fun b ob hb q => (sb.2 b (fun z => hb (by simp [z]))).trans (hk b ob (fun z => hb (by simp [z])) (fun z => hb (by simp [z])) q)) hf (Nat.le_refl _) new
    refine ⟨.ref s.heap.objs.size, _, J, rfl, ⟨_, x, rfl, I.hok.fresh (Nat.le_refl _), rfl, fun ys hy => by rw [I.tuple_inj hy hq]; exact hx⟩, ⟨⟨y, ?_⟩, hst.1.at fun o q => (sb.2 it (Ne.symm ne)).trans q, ne⟩, fun b hb => ?_⟩
    · have e1 : ((i + 1 : Nat) : Int) = (i : Int) + 1 := by omega
      rw [e1]; exact he'
    · have hb' : b < s.heap.objs.size := by
        have z : b = e ∨ b = it := by simpa using hb
        rcases z with z | z
        · rw [z]; exact hel
        · rw [z]; exact hil
      rw [upd_ne (Nat.ne_of_lt hb')]
      exact (hf b hb).1
  done := by
    intro X hP hw hK hc i pins s σ H E I hf z hg
    subst hP hw hK
    obtain ⟨⟨old, h1⟩, h2, ne⟩ := z
    obtain ⟨xs, hq, hx⟩ := hg
    obtain ⟨its, rv, p, hz⟩ := I.tuple hq
    obtain ⟨f0, f1, f2, f3, f4, f5⟩ := hf it (by simp)
    have hl := rv.length
    have p' : s.heap.IsTuple a its.toArray := p
    have hai : a ≠ it := fun q => by
      subst q
      obtain ⟨o, e1, c1, _⟩ := p'
      obtain ⟨o2, e2, c2, _⟩ := h2
      rw [e1] at e2
      cases e2
      rw [c1] at c2
      injection c2 with z
      exact absurd z (by decide)
    have ei : i = its.toArray.size := by simp; omega
    subst ei
    refine wpAny_pyNext_enum_endD (Draws.tuple (A := X.A.in1) (show X.A.handled = none from I.ok.hd hc) it a hai its.toArray) h1 ⟨h2, p'⟩ fun h' eb => ⟨rfl, ?_⟩
    exact I.turned (t' := s.toks) (fun b o hb q => eb b o hb q) f0 f1 f3 f4 f5
  self := fun A i s Q E z h => let ⟨⟨_, h1⟩, _⟩ := z; wpAny_pyIter_enum h1 h
/-- enumerate of a list or a tuple -/
def iEnumA (K : PySem.W.Frag) (ta : TA) : TI := fun σ H R => ta σ H fun vs H1 => ∃ a xs, vs = [.ref a] ∧ ((SqL K H1 a xs ∧ R (Ite K a) H1) ∨ (SqT K H1 a xs ∧ R (IteT K a) H1))
theorem pi_enumA {X : Cx} {e : Expr} {ta : TA} {p pos tpos : Pos} {elts : List Expr} {kk : Nat} (hg : Gl X "enumerate") (hm : X.mg "enumerate" = none) (ha : PA X [e] ta) (hs : starEach [e] X.env = [(false, eval e X.env)] := by rfl) :
    PI X (.Tuple elts kk tpos) (.Call (.Name "enumerate" p) [e] [] pos) (iEnumA X.K ta) := by
  refine ⟨fun pins s σ H R I h => ?_⟩
  refine Call_ (ld_blt I hg hm boot_enumerate (PyProof.Rows.callWith_type1 (thn (ha.run pos pins s σ H _ I h) fun us s1 ⟨vs, H1, I1, r1, q1⟩ => ?_) hs rfl))
  obtain ⟨a, xs, rfl, q⟩ := q1
  cases r1 with
  | cons r rr =>
    cases rr
    cases r
    have two : ∀ b ∈ [s1.heap.objs.size + 1, s1.heap.objs.size], FpOk X pins H1 b := fun b hb => by
      have z : b = s1.heap.objs.size + 1 ∨ b = s1.heap.objs.size := by simpa using hb
      have le : s1.heap.objs.size ≤ b := by
        rcases z with z | z
        · rw [z]; exact Nat.le_add_right _ _
        · rw [z]; exact Nat.le_refl _
      exact I1.fpOk le (I1.hok.fresh le)
    rcases q with ⟨hq, q⟩ | ⟨hq, q⟩
    · obtain ⟨its, rv, p', hz⟩ := I1.list hq
      refine call_enumerate_list p'.isList fun h' he hit hsz hk => wpAny_pyIter_enum he ?_
      exact ⟨s1.heap.objs.size + 1, [s1.heap.objs.size + 1, s1.heap.objs.size], _, _, H1, rfl, I1.kept (t' := s1.toks) hk, turn_enum a (s1.heap.objs.size + 1) s1.heap.objs.size, ⟨⟨.none, he⟩, hit, Nat.succ_ne_self _⟩, two, q⟩
    · obtain ⟨its, rv, p', hz⟩ := I1.tuple hq
      refine call_enum_begun (begins_tuple a its.toArray) (show s1.heap.IsTuple a its.toArray from p') fun h' he hit hk => wpAny_pyIter_enum he ?_
      exact ⟨s1.heap.objs.size + 1, [s1.heap.objs.size + 1, s1.heap.objs.size], _, _, H1, rfl, I1.kept (t' := s1.toks) hk, turn_enumT a (s1.heap.objs.size + 1) s1.heap.objs.size, ⟨⟨.none, he⟩, ⟨_, hit, rfl, rfl⟩, Nat.succ_ne_self _⟩, two, q⟩
/-- a list or a tuple -/
def iSeq (K : PySem.W.Frag) (tl : TE) : TI := fun σ H R => tl σ H fun x H1 => ∃ a xs, x = .ref a ∧ ((SqL K H1 a xs ∧ R (Itl K a) H1) ∨ (SqT K H1 a xs ∧ R (Itt K a) H1))
theorem pi_seq {X : Cx} {tg l : Expr} {tl : TE} (hl : PE X l tl) : PI X tg l (iSeq X.K tl) := by
  refine ⟨fun pins s σ H R I h => ?_⟩
  refine thn (hl.run pins s σ H _ I h) fun v s1 ⟨x, H1, I1, r1, a, xs, ex, q⟩ => ?_
  subst ex
  cases r1
  have one : ∀ b ∈ [s1.heap.objs.size], FpOk X pins H1 b := fun b hb => by
    have z : b = s1.heap.objs.size := by simpa using hb
    subst z
    exact I1.fpOk (Nat.le_refl _) (I1.hok.fresh (Nat.le_refl _))
  rcases q with ⟨hq, q⟩ | ⟨hq, q⟩
  · obtain ⟨its, rv, p, hz⟩ := I1.list hq
    exact wpAny_pyIter_list p.isList ⟨s1.heap.objs.size, [s1.heap.objs.size], _, _, H1, rfl, I1.kept (t' := s1.toks) fun b o e => Heap.get?_push_of_some _ e, turn_list a _, ⟨_, Heap.get?_push_size _ rfl, rfl, rfl⟩, one, q⟩
  · obtain ⟨its, rv, p, hz⟩ := I1.tuple hq
    exact wpAny_pyIter_tuple (show s1.heap.IsTuple a its.toArray from p) ⟨s1.heap.objs.size, [s1.heap.objs.size], _, _, H1, rfl, I1.kept (t' := s1.toks) fun b o e => Heap.get?_push_of_some _ e, turn_tuple a _, ⟨_, Heap.get?_push_size _ rfl, rfl, rfl⟩, one, q⟩
structure Wk (Γ : Ct) (K : PySem.W.Frag) (Fz0 P0 : Hp) (ds : List D) (J : It) : Prop where
  go : ∀ H i, Sub Fz0 H → Sub P0 H → i < ds.length → J.go i H
  stop : ∀ H, Sub Fz0 H → Sub P0 H → J.stop ds.length H
  yld : ∀ g Fz H σ ρ i d x H1, ds[i]? = some d → Sub Fz0 Fz → Sub P0 H → Fr Γ K g Fz H σ ρ → J.yld i H x H1 → ∃ Fz1, Sub Fz Fz1 ∧ Fr Γ K g Fz1 H1 σ ρ ∧ Rep Γ K Fz1 d x
/-- a list or tuple that stays, as it is read -/
structure Stay (Γ : Ct) (K : PySem.W.Frag) (Fz0 P0 : Hp) (ds : List D) (a : Addr) (xs : List V) (tup : Bool) : Prop where
  at_ : ∀ H, Sub Fz0 H → Sub P0 H → if tup = true then H a = some (.tup xs) else H a = some (.lst xs)
  rep : RepL Γ K Fz0 ds xs
section
variable {Γ : Ct} {K : PySem.W.Frag} {Fz0 P0 : Hp} {ds es : List D} {a b : Addr} {xs ys : List V}
theorem Stay.lst (s : Stay Γ K Fz0 P0 ds a xs false) {H : Hp} (h1 : Sub Fz0 H) (h2 : Sub P0 H) : SqL K H a xs := SqL.of (by simpa using s.at_ H h1 h2)
theorem Stay.tup (s : Stay Γ K Fz0 P0 ds a xs true) {H : Hp} (h1 : Sub Fz0 H) (h2 : Sub P0 H) : SqT K H a xs := SqT.of (by simpa using s.at_ H h1 h2)
theorem wk_list (s : Stay Γ K Fz0 P0 ds a xs false) : Wk Γ K Fz0 P0 ds (Itl K a) := by
  have hl := s.rep.len
  refine ⟨fun H i h1 h2 hi => ⟨xs, xs[i]'(by omega), s.lst h1 h2, by simp [show i < xs.length by omega]⟩, fun H h1 h2 => ⟨xs, s.lst h1 h2, by omega⟩, fun g Fz H σ ρ i d x H1 hd h1 h2 fr y => ?_⟩
  obtain ⟨rfl, y⟩ := y
  obtain ⟨d', h3, r⟩ := (s.rep.mono h1).get (y xs (s.lst (h1.trans fr.sub) h2))
  rw [hd] at h3
  cases h3
  exact ⟨Fz, Sub.refl _, fr, r⟩
theorem wk_tup (s : Stay Γ K Fz0 P0 ds a xs true) : Wk Γ K Fz0 P0 ds (Itt K a) := by
  have hl := s.rep.len
  refine ⟨fun H i h1 h2 hi => ⟨xs, xs[i]'(by omega), s.tup h1 h2, by simp [show i < xs.length by omega]⟩, fun H h1 h2 => ⟨xs, s.tup h1 h2, by omega⟩, fun g Fz H σ ρ i d x H1 hd h1 h2 fr y => ?_⟩
  obtain ⟨rfl, y⟩ := y
  obtain ⟨d', h3, r⟩ := (s.rep.mono h1).get (y xs (s.tup (h1.trans fr.sub) h2))
  rw [hd] at h3
  cases h3
  exact ⟨Fz, Sub.refl _, fr, r⟩
/-- items behind their places -/
def enumD (ds : List D) : List D := (List.range ds.length).zipWith (fun i d => .tup [.int (i : Nat), d]) ds
theorem enumD_len (ds : List D) : (enumD ds).length = ds.length := by simp [enumD]
theorem enumD_get {i : Nat} {d : D} (h : (enumD ds)[i]? = some d) : ∃ e, ds[i]? = some e ∧ d = .tup [.int (i : Nat), e] := by
  have hi : i < ds.length := by
    have := (List.getElem?_eq_some_iff.mp h).1
    rw [enumD_len] at this; exact this
  refine ⟨ds[i], by simp [hi], ?_⟩
  simp only [enumD, List.getElem?_zipWith, List.getElem?_range hi, List.getElem?_eq_getElem hi] at h
  exact (Option.some.inj h).symm
theorem pair_rep {g : Gh} {Fz H : Hp} {σ : L2.St} {ρ : Env} {d e : D} {x y : V} {T : Addr} (fr : Fr Γ K g Fz H σ ρ) (hT : H T = none) (r1 : Rep Γ K Fz d x) (r2 : Rep Γ K Fz e y) :
    ∃ Fz1, Sub Fz Fz1 ∧ Fr Γ K g Fz1 (upd H T (.tup [x, y])) σ ρ ∧ Rep Γ K Fz1 (.tup [d, e]) (.ref T) := by
  obtain ⟨s, f, r⟩ := fr.newT hT (.cons r1 (.cons r2 .nil))
  exact ⟨_, s, f, r⟩
theorem wk_enum (s : Stay Γ K Fz0 P0 ds a xs false) : Wk Γ K Fz0 P0 (enumD ds) (Ite K a) := by
  have hl := s.rep.len
  refine ⟨fun H i h1 h2 hi => ⟨xs, xs[i]'(by rw [enumD_len] at hi; omega), s.lst h1 h2, by rw [enumD_len] at hi; simp [show i < xs.length by omega]⟩, fun H h1 h2 => ⟨xs, s.lst h1 h2, by rw [enumD_len]; omega⟩, fun g Fz H σ ρ i d x H1 hd h1 h2 fr y => ?_⟩
  obtain ⟨T, z, rfl, hT, rfl, hz⟩ := y
  obtain ⟨e, he, rfl⟩ := enumD_get hd
  obtain ⟨e', h3, r⟩ := (s.rep.mono h1).get (hz xs (s.lst (h1.trans fr.sub) h2))
  rw [he] at h3
  cases h3
  exact pair_rep fr hT .int r
theorem wk_enumT (s : Stay Γ K Fz0 P0 ds a xs true) : Wk Γ K Fz0 P0 (enumD ds) (IteT K a) := by
  have hl := s.rep.len
  refine ⟨fun H i h1 h2 hi => ⟨xs, xs[i]'(by rw [enumD_len] at hi; omega), s.tup h1 h2, by rw [enumD_len] at hi; simp [show i < xs.length by omega]⟩, fun H h1 h2 => ⟨xs, s.tup h1 h2, by rw [enumD_len]; omega⟩, fun g Fz H σ ρ i d x H1 hd h1 h2 fr y => ?_⟩
  obtain ⟨T, z, rfl, hT, rfl, hz⟩ := y
  obtain ⟨e, he, rfl⟩ := enumD_get hd
  obtain ⟨e', h3, r⟩ := (s.rep.mono h1).get (hz xs (s.tup (h1.trans fr.sub) h2))
  rw [he] at h3
  cases h3
  exact pair_rep fr hT .int r
/-- pairs of the items of two -/
def zipD (ds es : List D) : List D := ds.zipWith (fun d e => .tup [d, e]) es
/-- ints one after another -/
def rangeD (lo : Int) (n : Nat) : List D := (List.range n).map fun i => .int (lo + (i : Nat))
theorem wk_range {lo : Int} {n : Nat} : Wk Γ K Fz0 P0 (rangeD lo n) (Itr lo n) := by
  refine ⟨fun H i _ _ hi => (show i < n by simpa [rangeD] using hi), fun H _ _ => by simp [rangeD, Itr], fun g Fz H σ ρ i d x H1 hd _ _ fr y => ?_⟩
  obtain ⟨rfl, rfl⟩ := y
  have hi : i < n := by
    have := (List.getElem?_eq_some_iff.mp hd).1
    simpa [rangeD] using this
  simp only [rangeD, List.getElem?_map, List.getElem?_range hi, Option.map_some, Option.some.injEq] at hd
  subst hd
  exact ⟨Fz, Sub.refl _, fr, .int⟩
end
end L3
namespace L3
open PySem PySem.Spec PyProof.Rows L2
/-- an iterator over a list (false) or a tuple (true); what it walks -/
def KIt : Bool → Heap → Addr → Addr → Nat → Prop
  | true, h, it, l, i => h.IsTupleIter it l i
  | false, h, it, l, i => h.IsListIter it l i
def KSq : Bool → Heap → Addr → Array Value → Prop
  | true, h, l, xs => h.IsTuple l xs
  | false, h, l, xs => h.IsList l xs
section
variable {q : Bool} {h h' : Heap} {it l p : Addr} {i : Nat} {xs : Array Value}
theorem KIt.ext (w : KIt q h it l i) (e : Heap.ExtBut p h h') (n : it ≠ p) : KIt q h' it l i := by
  cases q with
  | true => exact Heap.IsTupleIter.extBut w e n
  | false => exact Heap.IsListIter.extBut w e n
theorem KSq.ext (w : KSq q h l xs) (e : Heap.ExtBut p h h') (n : l ≠ p) : KSq q h' l xs := by
  cases q with
  | true => exact Heap.IsTuple.extBut w e n
  | false => exact Heap.IsList.extBut w e n
theorem KSq.lt (w : KSq q h l xs) : l < h.objs.size := by
  cases q with
  | true => obtain ⟨_, e, _⟩ := w; exact Heap.lt_size e
  | false => obtain ⟨_, e, _⟩ := w; exact Heap.lt_size e
theorem KIt.obj (w : KIt q h it l i) : ∃ o vs, h.get? it = some o ∧ o.data = .fields vs := by
  cases q with
  | true => obtain ⟨o, e, _, d⟩ := w; exact ⟨o, _, e, d⟩
  | false => obtain ⟨o, e, _, d⟩ := w; exact ⟨o, _, e, d⟩
end
section
variable {prog : Program} {w : World} {A : Around} {E : Value → Shared → Prop} {s : Shared} {q q2 : Bool}
variable {z TI TO u1 u2 l1 l2 : Addr} {n1 n2 : Nat} {xs ys : Array Value} {x y a b : Value}
end
theorem KIt.new {q : Bool} {h : Heap} {it l : Addr} (e : h.get? it = some { cls := .type (if q then "tuple_iterator" else "list_iterator"), data := .fields #[.ref l, .int 0 0] }) : KIt q h it l 0 := by
  cases q with
  | true => exact ⟨_, e, rfl, rfl⟩
  | false => exact ⟨_, e, rfl, rfl⟩
section
variable {prog : Program} {w : World} {A : Around} {E : Value → Shared → Prop} {s : Shared} {q q2 : Bool}
end
section
variable {X : Cx} {pins : List (Addr × Obj)} {σ : L2.St} {H : Hp} {s : Shared} {q : Bool} {a : Addr} {xs ys : List V}
end
section
variable {Γ : Ct} {K : PySem.W.Frag} {Fz0 P0 : Hp} {ds es : List D} {a b : Addr} {xs ys : List V}
end
end L3
namespace L3
open PySem PySem.Spec PyProof.Rows L2
/-- a source as it is walked: whether it is a tuple, its items, the slots lent for it -/
abbrev Sq := Bool × List D × List (Nat × List D)
abbrev Its := List D × List (Nat × List D)
section
variable (Γ : Ct) (K : PySem.W.Frag)
def RdQ (W : WX) (t : TE) (m : M Sq) : Prop := ∀ g Fz H σ ρ Q, Fr Γ K g Fz H σ ρ → (match m ρ with
  | none => False
  | some (.ok (b, ds, ls) ρ') => ∀ a xs g' Fz' H', Sub Fz Fz' → Unl Γ K g g' Fz' σ ls → Fr Γ K g' Fz' H' σ ρ' → Stay Γ K Fz' g'.P ds a xs b → Q (.ref a) H'
  | some (.exc c d ρ') => ExGo Γ K W g Fz σ c ρ' d) → t σ H Q
def RdI (W : WX) (wi : TI) (m : M Its) : Prop := ∀ g Fz H σ ρ (R : It → Hp → Prop), Fr Γ K g Fz H σ ρ → (match m ρ with
  | none => False
  | some (.ok (ds, ls) ρ') => ∀ J g' Fz' H', Sub Fz Fz' → Unl Γ K g g' Fz' σ ls → Fr Γ K g' Fz' H' σ ρ' → Wk Γ K Fz' g'.P ds J → R J H'
  | some (.exc c d ρ') => ExGo Γ K W g Fz σ c ρ' d) → wi σ H R
/-- a target: the slots that it stores -/
def RdG (gt : TG) (f : D → Env → Option Env) (vs : List Nat) : Prop := ∀ g Fz H σ ρ ρ' d v Q, Fr Γ K g Fz H σ ρ → Rep Γ K Fz d v → f d ρ = some ρ' →
  (∀ σ', Fr Γ K g Fz H σ' ρ' → L2.wipe σ' vs = L2.wipe σ vs → Q σ' H) → gt v σ H Q
def RdGs (gt : TGs) (f : List D → Env → Option Env) (vs : List Nat) : Prop := ∀ g Fz H σ ρ ρ' ds xs Q, Fr Γ K g Fz H σ ρ → RepL Γ K Fz ds xs → f ds ρ = some ρ' →
  (∀ σ', Fr Γ K g Fz H σ' ρ' → L2.wipe σ' vs = L2.wipe σ vs → Q σ' H) → gt xs σ H Q
end
structure DQ (Γ : Ct) (W : WX) (X : Cx) (e : Expr) (t : TE) (m : M Sq) : Prop where
  pe : PE X e t
  rd : RdQ Γ X.K W t m
structure DI (Γ : Ct) (W : WX) (X : Cx) (tg e : Expr) (wi : TI) (m : M Its) : Prop where
  pi : PI X tg e wi
  rd : RdI Γ X.K W wi m
structure DG (Γ : Ct) (X : Cx) (tg : Expr) (gt : TG) (f : D → Env → Option Env) (vs : List Nat) : Prop where
  pg : PG X tg gt
  rd : RdG Γ X.K gt f vs
structure DGs (Γ : Ct) (X : Cx) (tgs : List Expr) (gt : TGs) (f : List D → Env → Option Env) (vs : List Nat) : Prop where
  pg : PGs X tgs gt
  rd : RdGs Γ X.K gt f vs
/-- a value walked (kept from now on) -/
def mSq (m : M D) : M Sq := m.bind fun d => match d with
  | .lst ds => M.ret (false, ds, [])
  | .tup ds => M.ret (true, ds, [])
  | _ => fun _ => none
/-- the name in a slot walked -/
def mSqS (i : Nat) : M Sq := fun ρ => match ρ[i]? with
  | some (.fz (.lst ds)) => some (.ok (false, ds, []) ρ)
  | some (.fz (.tup ds)) => some (.ok (true, ds, []) ρ)
  | some (.bor ds) => some (.ok (false, ds, []) ρ)
  | some (.own (.lst ds)) => some (.ok (false, ds, [(i, ds)]) (ρ.set i (.bor ds)))
  | _ => none
section
variable {Γ : Ct} {K : PySem.W.Frag} {W : WX} {te ta tb : TE}
theorem stay_lst {Fz P0 : Hp} {ds : List D} {a : Addr} {xs : List V} (h : Fz a = some (.lst xs) ∨ P0 a = some (.lst xs)) (r : RepL Γ K Fz ds xs) : Stay Γ K Fz P0 ds a xs false :=
  ⟨fun H h1 h2 => by rw [if_neg Bool.false_ne_true]; rcases h with h | h; exact h1 _ _ h; exact h2 _ _ h, r⟩
theorem stay_tup {Fz P0 : Hp} {ds : List D} {a : Addr} {xs : List V} (h : Fz a = some (.tup xs)) (r : RepL Γ K Fz ds xs) : Stay Γ K Fz P0 ds a xs true :=
  ⟨fun H h1 h2 => by rw [if_pos rfl]; exact h1 _ _ h, r⟩
theorem rd_sq {m : M D} (h : RdE Γ K W te m) : RdQ Γ K W te (mSq m) := fun g Fz H σ ρ Q x q => h g Fz H σ ρ Q x (by
  cases e : m ρ with
  | none => rw [show mSq m ρ = none by simp only [mSq, M.bind, e]] at q; exact q
  | some o =>
    cases o with
    | exc c d ρ1 => rw [show mSq m ρ = some (.exc c d ρ1) from M.bind_exc e] at q; exact q
    | ok d ρ1 =>
      rw [show mSq m ρ = _ from M.bind_ok e] at q
      intro v Fz1 H1 s x1 r
      match d, q, r with
      | .lst ds, q, .lst h1 h2 => exact q _ _ g Fz1 H1 s Unl.refl x1 (stay_lst (.inl h1) h2)
      | .tup ds, q, .tup h1 h2 => exact q _ _ g Fz1 H1 s Unl.refl x1 (stay_tup h1 h2))
theorem rd_sqS (i : Nat) : RdQ Γ K W (tVar i) (mSqS i) := fun g Fz H σ ρ Q x q => by
  cases hs : ρ[i]? with
  | none => simp only [mSqS, hs] at q
  | some s =>
    have x0 := x
    obtain ⟨κ, y⟩ := x
    cases s with
    | emp => simp only [mSqS, hs] at q
    | raw => simp only [mSqS, hs] at q
    | io c => simp only [mSqS, hs] at q
    | fz d =>
      obtain ⟨_, v, h1, h2⟩ := y.slot i _ hs
      match d, h2 with
      | .lst ds, .lst h3 h4 => simp only [mSqS, hs] at q; exact ⟨_, h1, q _ _ g Fz H (Sub.refl _) Unl.refl x0 (stay_lst (.inl h3) h4)⟩
      | .tup ds, .tup h3 h4 => simp only [mSqS, hs] at q; exact ⟨_, h1, q _ _ g Fz H (Sub.refl _) Unl.refl x0 (stay_tup h3 h4)⟩
      | .non, _ => simp only [mSqS, hs] at q
      | .bl _, _ => simp only [mSqS, hs] at q
      | .int _, _ => simp only [mSqS, hs] at q
      | .str _, _ => simp only [mSqS, hs] at q
      | .ob _ _, _ => simp only [mSqS, hs] at q
      | .dic0, _ => simp only [mSqS, hs] at q
      | .dic _ _ _, _ => simp only [mSqS, hs] at q
      | .fn _, _ => simp only [mSqS, hs] at q
    | bor ds =>
      obtain ⟨_, a, xs, h1, h2, h3⟩ := y.slot i _ hs
      simp only [mSqS, hs] at q
      exact ⟨_, h1, q _ _ g Fz H (Sub.refl _) Unl.refl x0 (stay_lst (h2.imp id fun z => g.sub _ _ _ z) h3)⟩
    | own c =>
      cases c with
      | deal _ _ => simp only [mSqS, hs] at q
      | dic _ _ _ => simp only [mSqS, hs] at q
      | lst ds =>
        simp only [mSqS, hs] at q
        obtain ⟨a, xs, hP, h1, h2, h3, h4, h5⟩ := x0.lend hs
        exact ⟨_, h1, q a xs _ Fz H (Sub.refl _) h5 h4 (stay_lst (.inr upd_same) h3)⟩
def mSeq (m : M Sq) : M Its := m.bind fun q => M.ret (q.2.1, q.2.2)
def mEnum (m : M Sq) : M Its := m.bind fun q => M.ret (enumD q.2.1, q.2.2)
def mZip (m n : M Sq) : M Its := m.bind fun q => fun ρ => match n ρ with
  | some (.ok r ρ') => some (.ok (zipD q.2.1 r.2.1, r.2.2 ++ q.2.2) ρ')
  | _ => none
theorem rd_seq {m : M Sq} (h : RdQ Γ K W te m) : RdI Γ K W (iSeq K te) (mSeq m) := fun g Fz H σ ρ R x q => h g Fz H σ ρ _ x (by
  cases e : m ρ with
  | none => rw [show mSeq m ρ = none by simp only [mSeq, M.bind, e]] at q; exact q
  | some o =>
    cases o with
    | exc c d ρ1 => rw [show mSeq m ρ = some (.exc c d ρ1) from M.bind_exc e] at q; exact q
    | ok z ρ1 =>
      obtain ⟨b, ds, ls⟩ := z
      rw [show mSeq m ρ = some (.ok (ds, ls) ρ1) from M.bind_ok e] at q
      intro a xs g' Fz' H' s u x1 st
      cases b with
      | false => exact ⟨a, xs, rfl, .inl ⟨st.lst x1.sub (let ⟨_, y⟩ := x1; fun a o z => (y.prot a o z).1), q _ g' Fz' H' s u x1 (wk_list st)⟩⟩
      | true => exact ⟨a, xs, rfl, .inr ⟨st.tup x1.sub (let ⟨_, y⟩ := x1; fun a o z => (y.prot a o z).1), q _ g' Fz' H' s u x1 (wk_tup st)⟩⟩)
theorem Fr.subP {g : Gh} {Fz H : Hp} {σ : L2.St} {ρ : Env} (x : Fr Γ K g Fz H σ ρ) : Sub g.P H := let ⟨_, y⟩ := x; fun a o z => (y.prot a o z).1
theorem rd_enum {m : M Sq} (h : RdQ Γ K W te m) : RdI Γ K W (iEnumA K (tCons te tNil)) (mEnum m) := fun g Fz H σ ρ R x q => h g Fz H σ ρ _ x (by
  cases e : m ρ with
  | none => rw [show mEnum m ρ = none by simp only [mEnum, M.bind, e]] at q; exact q
  | some o =>
    cases o with
    | exc c d ρ1 => rw [show mEnum m ρ = some (.exc c d ρ1) from M.bind_exc e] at q; exact q
    | ok z ρ1 =>
      obtain ⟨b, ds, ls⟩ := z
      rw [show mEnum m ρ = some (.ok (enumD ds, ls) ρ1) from M.bind_ok e] at q
      intro a xs g' Fz' H' s u x1 st
      cases b with
      | false => exact ⟨a, xs, rfl, .inl ⟨st.lst x1.sub x1.subP, q _ g' Fz' H' s u x1 (wk_enum st)⟩⟩
      | true => exact ⟨a, xs, rfl, .inr ⟨st.tup x1.sub x1.subP, q _ g' Fz' H' s u x1 (wk_enumT st)⟩⟩)
theorem Stay.more {Fz Fz' P0 P1 : Hp} {ds : List D} {a : Addr} {xs : List V} {b : Bool} (s : Stay Γ K Fz P0 ds a xs b) (f : Sub Fz Fz') (p : Sub P0 P1) : Stay Γ K Fz' P1 ds a xs b :=
  ⟨fun H h1 h2 => s.at_ H (f.trans h1) (p.trans h2), s.rep.mono f⟩
/-- range(n), range(a, b) -/
def inB (i : Int) : Bool := decide (-(2 ^ 62) ≤ i ∧ i < 2 ^ 62)
def mRange1 (m : M Bv) : M Its := m.bind fun a => fun ρ => match deref ρ a with
  | some (.int j) => if inB j = true then some (.ok (rangeD 0 j.toNat, []) ρ) else none
  | _ => none
def mRange2 (m n : M Bv) : M Its := m.bind fun a => n.bind fun b => fun ρ => match deref ρ a, deref ρ b with
  | some (.int i), some (.int j) => if inB i && inB j then some (.ok (rangeD i (j - i).toNat, []) ρ) else none
  | _, _ => none
theorem rd_range1 {m : M Bv} (h : RdB Γ K W te m) : RdI Γ K W (iRng1 (tCons te tNil)) (mRange1 m) := fun g Fz H σ ρ R x q => h g Fz H σ ρ _ x (by
  cases e : m ρ with
  | none => rw [show mRange1 m ρ = none by simp only [mRange1, M.bind, e]] at q; exact q
  | some o =>
    cases o with
    | exc c d ρ1 => rw [show mRange1 m ρ = some (.exc c d ρ1) from M.bind_exc e] at q; exact q
    | ok a ρ1 =>
      rw [show mRange1 m ρ = _ from M.bind_ok e] at q
      intro v Fz1 H1 s x1 r
      cases hd : deref ρ1 a with
      | none => simp only [hd] at q
      | some d =>
        match d, hd with
        | .int j, hd =>
          simp only [hd] at q
          by_cases hb : inB j = true
          · rw [if_pos hb] at q
            have hb' := of_decide_eq_true hb
            exact ⟨j, by rw [(x1.deref r hd).int], hb'.1, hb'.2, q _ g Fz1 H1 s Unl.refl x1 wk_range⟩
          · rw [if_neg hb] at q; exact q.elim
        | .non, hd => simp only [hd] at q
        | .bl _, hd => simp only [hd] at q
        | .str _, hd => simp only [hd] at q
        | .tup _, hd => simp only [hd] at q
        | .lst _, hd => simp only [hd] at q
        | .ob _ _, hd => simp only [hd] at q
        | .dic0, hd => simp only [hd] at q
        | .dic _ _ _, hd => simp only [hd] at q
        | .fn _, hd => simp only [hd] at q)
theorem rd_range2 {m n : M Bv} (h : RdB Γ K W ta m) (h' : RdB Γ K W tb n) : RdI Γ K W (iRng2 (tCons ta (tCons tb tNil))) (mRange2 m n) := fun g Fz H σ ρ R x q => h g Fz H σ ρ _ x (by
  cases e : m ρ with
  | none => rw [show mRange2 m n ρ = none by simp only [mRange2, M.bind, e]] at q; exact q
  | some o =>
    cases o with
    | exc c d ρ1 => rw [show mRange2 m n ρ = some (.exc c d ρ1) from M.bind_exc e] at q; exact q
    | ok a ρ1 =>
      rw [show mRange2 m n ρ = _ from M.bind_ok e] at q
      intro v Fz1 H1 s x1 r
      refine h' g Fz1 H1 σ ρ1 _ x1 ?_
      cases e2 : n ρ1 with
      | none => simp only [M.bind, e2] at q
      | some o2 =>
        cases o2 with
        | exc c d ρ2 => rw [M.bind_exc e2] at q; exact ExGo.mono s q
        | ok b ρ2 =>
          rw [M.bind_ok e2] at q
          intro u Fz2 H2 s2 x2 r2
          have ra := fun i hd => (x2.deref (r.mono s2) (d := .int i) hd).int
          have rb := fun i hd => (x2.deref r2 (d := .int i) hd).int
          cases hd : deref ρ2 a with
          | none => simp only [hd] at q
          | some d =>
            cases hd2 : deref ρ2 b with
            | none => simp only [hd, hd2] at q
            | some d2 =>
              cases d with
              | int i =>
                cases d2 with
                | int j =>
                  simp only [hd, hd2] at q
                  by_cases hb : (inB i && inB j) = true
                  · rw [if_pos hb] at q
                    rw [Bool.and_eq_true] at hb
                    have h1 := of_decide_eq_true hb.1
                    have h2 := of_decide_eq_true hb.2
                    exact ⟨i, j, by rw [ra i hd, rb j hd2], ⟨h1.1, h1.2, h2.1, h2.2⟩, q _ g Fz2 H2 (s.trans s2) Unl.refl x2 wk_range⟩
                  · rw [if_neg hb] at q; exact q.elim
                | _ => simp only [hd, hd2] at q
              | _ => simp only [hd, hd2] at q)
end
section
variable {Γ : Ct} {W : WX} {X : Cx} {e e2 tg : Expr} {te ta tb : TE} {elts : List Expr} {kk : Nat} {p pos tpos : Pos}
theorem q_e {m : M D} (h : DE Γ W X e te m) : DQ Γ W X e te (mSq m) := ⟨h.pe, rd_sq h.rd⟩
theorem q_s (i : Nat) {x : Str} (hN : X.N[i]? = some x := by rfl) (hv : Vis X.env.scope x := by first | exact Or.inl rfl | exact Or.inr (Or.inl rfl) | exact Or.inr (Or.inr rfl)) (hd : (x == ("__debug__" : Str)) = false := by decide)
    (hcd : (x == ("__classdict__" : Str)) = false := by decide) : DQ Γ W X (.Name x pos) (tVar i) (mSqS i) := ⟨pe_var hN hv hd hcd, rd_sqS i⟩
theorem i_seq {m : M Sq} (h : DQ Γ W X e te m) : DI Γ W X tg e (iSeq X.K te) (mSeq m) := ⟨pi_seq h.pe, rd_seq h.rd⟩
theorem i_enum {m : M Sq} (hm : X.mg "enumerate" = none) (h : DQ Γ W X e te m) (hg : Gl X "enumerate" := by rfl) (hs : starEach [e] X.env = (false, eval e X.env) :: starEach [] X.env := by rfl) :
    DI Γ W X (.Tuple elts kk tpos) (.Call (.Name "enumerate" p) [e] [] pos) (iEnumA X.K (tCons te tNil)) (mEnum m) := ⟨pi_enumA hg hm (pa_cons h.pe pa_nil hs) hs, rd_enum h.rd⟩
theorem i_range1 {m : M Bv} (hm : X.mg "range" = none) (h : DB Γ W X e te m) (hg : Gl X "range" := by rfl) (hs : starEach [e] X.env = (false, eval e X.env) :: starEach [] X.env := by rfl) :
    DI Γ W X tg (.Call (.Name "range" p) [e] [] pos) (iRng1 (tCons te tNil)) (mRange1 m) := ⟨pi_range1 hg hm (pa_cons h.pe pa_nil hs) hs, rd_range1 h.rd⟩
theorem i_range2 {m n : M Bv} (hm : X.mg "range" = none) (h : DB Γ W X e ta m) (h' : DB Γ W X e2 tb n) (hg : Gl X "range" := by rfl) (hs : starEach [e, e2] X.env = [(false, eval e X.env), (false, eval e2 X.env)] := by rfl) (hs2 : starEach [e2] X.env = [(false, eval e2 X.env)] := by rfl) (hs3 : starEach [e, e2] X.env = (false, eval e X.env) :: starEach [e2] X.env := by rfl) :
    DI Γ W X tg (.Call (.Name "range" p) [e, e2] [] pos) (iRng2 (tCons ta (tCons tb tNil))) (mRange2 m n) := ⟨pi_range2 hg hm (pa_cons h.pe (pa_cons h'.pe pa_nil hs2) hs3) hs hs2, rd_range2 h.rd h'.rd⟩
end
def gNm (i : Nat) (d : D) (ρ : Env) : Option Env := if i < ρ.length then some (ρ.set i (.fz d)) else none
def gTp (n : Nat) (f : List D → Env → Option Env) : D → Env → Option Env
  | .tup ds, ρ => if ds.length = n then f ds ρ else none
  | _, _ => none
def gN0 : List D → Env → Option Env
  | [], ρ => some ρ
  | _, _ => none
def gC (f : D → Env → Option Env) (fs : List D → Env → Option Env) : List D → Env → Option Env
  | d :: ds, ρ => (f d ρ).bind (fs ds)
  | _, _ => none
section
variable {Γ : Ct} {X : Cx} {tg : Expr} {tgs : List Expr} {gt : TG} {gts : TGs} {vs : List Nat} {pos : Pos}
theorem wipe_set {σ : L2.St} {i : Nat} {o : Option V} {vs : List Nat} (h : i ∈ vs) : L2.wipe (σ.set i o) vs = L2.wipe σ vs := by
  have key : ∀ (τ : L2.St) (vs : List Nat) (j : Nat), (L2.wipe τ vs)[j]? = if j ∈ vs then (if j < τ.length then some none else none) else τ[j]? := fun τ vs => by
    induction vs with
    | nil => intro j; simp [L2.wipe]
    | cons v vs ih =>
      intro j
      unfold L2.wipe
      by_cases e : v = j
      · subst e
        simp only [List.mem_cons_self, if_true]
        by_cases hl : v < τ.length
        · rw [if_pos hl, List.getElem?_set_self (by rw [L2.wipe_length]; exact hl)]
        · rw [if_neg hl]
          exact List.getElem?_eq_none (by rw [List.length_set, L2.wipe_length]; omega)
      · rw [List.getElem?_set_ne e, ih]
        have : (j ∈ v :: vs) ↔ j ∈ vs := ⟨fun z => (List.mem_cons.mp z).resolve_left fun y => e y.symm, fun z => List.mem_cons_of_mem _ z⟩
        simp only [this]
  apply List.ext_getElem?
  intro j
  rw [key, key, List.length_set]
  by_cases hj : j ∈ vs
  · rw [if_pos hj, if_pos hj]
  · rw [if_neg hj, if_neg hj, List.getElem?_set_ne (fun e => by subst e; exact hj h)]
theorem g_name (i : Nat) {x : Str} (hN : X.N.Nodup) (hv : i ∈ vs) (hi : X.N[i]? = some x := by rfl) (hx : Loc X.env.scope x := by first | exact Or.inl rfl | exact Or.inr rfl) (hf : X.fn x = true ∨ X.env.scope.names.lookup x = some .local := by first | exact .inl rfl | exact .inr rfl | assumption) :
    DG Γ X (.Name x pos) (gName i) (gNm i) vs := ⟨pg_name hN hi hx hf, fun g Fz H σ ρ ρ' d v Q fr r e k => by
  unfold gNm at e
  by_cases hl : i < ρ.length
  · rw [if_pos hl] at e
    cases e
    exact k _ (fr.setFz r) (wipe_set hv)
  · rw [if_neg hl] at e; cases e⟩
theorem gs_nil : DGs Γ X [] gNil gN0 vs := ⟨pgs_nil, fun g Fz H σ ρ ρ' ds xs Q fr r e k => by
  match ds, xs, r, e with
  | [], [], .nil, e => cases e; exact ⟨rfl, k _ fr rfl⟩⟩
theorem gs_cons {f : D → Env → Option Env} {fs : List D → Env → Option Env} (h : DG Γ X tg gt f vs) (h' : DGs Γ X tgs gts fs vs) (hs : (assignEach (tg :: tgs) X.env).map (·.2) = assign tg X.env :: (assignEach tgs X.env).map (·.2) := by rfl) : DGs Γ X (tg :: tgs) (gCons gt gts) (gC f fs) vs := ⟨pgs_cons h.pg h'.pg hs, fun g Fz H σ ρ ρ' ds xs Q fr r e k => by
  match ds, xs, r, e with
  | d :: ds, x :: xs, .cons r1 r2, e =>
    simp only [gC] at e
    cases q : f d ρ with
    | none => rw [q] at e; cases e
    | some ρ1 =>
      rw [q] at e
      exact ⟨x, xs, rfl, h.rd g Fz H σ ρ ρ1 d x _ fr r1 q fun σ1 fr1 w1 => h'.rd g Fz H σ1 ρ1 ρ' ds xs _ fr1 r2 e fun σ2 fr2 w2 => k σ2 fr2 (w2.trans w1)⟩⟩
theorem g_tup {n : Nat} {k : Nat} {f : List D → Env → Option Env} (hc : X.calm = true) (h : DGs Γ X tgs gts f vs) (hn : (assignEach tgs X.env).length = n := by rfl) (hst : (assignEach tgs X.env).findIdx? (·.1) = none := by rfl) : DG Γ X (.Tuple tgs k pos) (gTup X.K n gts) (gTp n f) vs := ⟨pg_tup hc h.pg hn hst, fun g Fz H σ ρ ρ' d v Q fr r e kk => by
  match d, r, e with
  | .tup ds, .tup h1 h2, e =>
    simp only [gTp] at e
    by_cases hl : ds.length = n
    · rw [if_pos hl] at e
      exact ⟨_, _, rfl, SqT.of (fr.sub _ _ h1), by rw [← h2.len]; exact hl, h.rd g Fz H σ ρ ρ' ds _ _ fr h2 e kk⟩
    · rw [if_neg hl] at e; cases e⟩
end
end L3
namespace L3
open PySem PySem.Spec PyProof.Rows L2
abbrev W0 : WX := fun _ _ _ _ => False
/-- the turns of a comprehension: acc, what is made so far -/
def compL (vs : List Nat) (f : D → Env → Option Env) (mt : M Bool) (me : M D) : List D → Env → List D → Option (List D × Env)
  | [], ρ, acc => some (acc, ρ)
  | d :: ds, ρ, acc => (f d ρ).bind fun ρ1 => match mt ρ1 with
    | some (.ok true ρ2) => (match me ρ2 with
      | some (.ok z ρ3) => if acc.length < sizeLine then compL vs f mt me ds (wipeE ρ3 vs) (acc ++ [z]) else none
      | _ => none)
    | some (.ok false ρ2) => compL vs f mt me ds (wipeE ρ2 vs) acc
    | _ => none
def mComp (vs : List Nat) (mi : M Its) (f : D → Env → Option Env) (mt : M Bool) (me : M D) : M (List D) := mi.bind fun q => fun ρ =>
  (compL vs f mt me q.1 (wipeE ρ vs) []).bind fun r => (unlend q.2 (backE ρ r.2 vs)).map fun ρ3 => .ok r.1 ρ3
def mYes : M Bool := M.ret true
section
variable {Γ : Ct} {K : PySem.W.Frag} {W : WX} {wi : TI} {gt : TG} {tt : TT} {te : TE} {vs : List Nat} {mi : M Its} {f : D → Env → Option Env} {mt : M Bool} {me : M D}
theorem rd_yes : RdT Γ K W tYes mYes := fun g Fz H σ ρ Q x q => q true Fz H (Sub.refl _) x rfl
theorem drop_cons {α : Type} {l : List α} {i : Nat} (h : i < l.length) : l.drop i = l[i] :: l.drop (i + 1) := by
  rw [List.drop_eq_getElem_cons h]
theorem rd_comp (hi : RdI Γ K W wi mi) (hg : RdG Γ K gt f vs) (ht : RdT Γ K W0 tt mt) (he : RdE Γ K W0 te me) : RdO Γ K W (tLc wi gt tt te vs) (mComp vs mi f mt me) := fun g Fz H σ ρ Q x q => hi g Fz H σ ρ _ x (by
  cases e : mi ρ with
  | none => rw [show mComp vs mi f mt me ρ = none by simp only [mComp, M.bind, e]] at q; exact q
  | some o =>
    cases o with
    | exc c d ρ1 => rw [show mComp vs mi f mt me ρ = some (.exc c d ρ1) from M.bind_exc e] at q; exact q
    | ok z ρ1 =>
      obtain ⟨ds, ls⟩ := z
      rw [show mComp vs mi f mt me ρ = _ from M.bind_ok e] at q
      intro J g' Fz1 H1 s1 u1 x1 wk D hD
      cases hr : compL vs f mt me ds (wipeE ρ1 vs) [] with
      | none => simp only [hr] at q; exact q.elim
      | some r =>
      obtain ⟨ys, ρ2⟩ := r
      cases hu : unlend ls (backE ρ1 ρ2 vs) with
      | none => simp only [hr, Option.bind_some, hu] at q; exact q.elim
      | some ρ3 =>
      simp only [hr, Option.bind_some, hu, Option.map_some] at q
      have hgD : g'.P D = none := by obtain ⟨_, y⟩ := x1; exact y.noP hD
      have hgD0 : g.P D = none := by
        cases z : g.P D with
        | none => rfl
        | some o => rw [u1.1 D o z] at hgD; cases hgD
      have x2 : Fr Γ K (g'.more D (.lst [])) Fz1 (upd H1 D (.lst [])) (L2.wipe σ vs) (wipeE ρ1 vs) := by
        obtain ⟨κ, y⟩ := x1
        exact Fr.wipe ⟨κ, y.fresh0 hD⟩ vs
      refine ⟨fun i m H => m = ds.length - i ∧ i ≤ ds.length ∧ ∃ Fz2 ρt acc xs, Sub Fz1 Fz2 ∧ Fr Γ K (g'.more D (.lst xs)) Fz2 H (L2.wipe σ vs) ρt ∧ RepL Γ K Fz2 acc xs ∧ compL vs f mt me (ds.drop i) ρt acc = some (ys, ρ2),
        ⟨ds.length, rfl, Nat.zero_le _, Fz1, wipeE ρ1 vs, [], [], Sub.refl _, x2, .nil, hr⟩, ?_⟩
      rintro i m H2 ⟨rfl, hile, Fz2, ρt, acc, xs, s2, x3, racc, hc⟩
      have subH : Sub Fz1 H2 := s2.trans x3.sub
      have subP : Sub g'.P H2 := fun b o z => x3.subP b o (by
        show upd g'.P D _ b = some o
        rw [upd_ne (fun w => by subst w; rw [z] at hgD; cases hgD)]; exact z)
      by_cases hlt : i < ds.length
      · refine .inr ⟨wk.go H2 i subH subP hlt, fun H' => ?_, ?_⟩
        · exact (i + 1 ≤ ds.length ∧ ∃ Fz2 ρt acc xs, Sub Fz1 Fz2 ∧ Fr Γ K (g'.more D (.lst xs)) Fz2 H' (L2.wipe σ vs) ρt ∧ RepL Γ K Fz2 acc xs ∧ compL vs f mt me (ds.drop (i + 1)) ρt acc = some (ys, ρ2))
        · refine ⟨fun H' h => ⟨ds.length - (i + 1), by omega, rfl, h⟩, fun v H' hy => ?_⟩
          obtain ⟨Fz3, s3, x4, rd⟩ := wk.yld _ Fz2 H2 _ ρt i ds[i] v H' (by simp [hlt]) s2 subP x3 hy
          rw [drop_cons hlt] at hc
          simp only [compL] at hc
          cases hf : f ds[i] ρt with
          | none => rw [hf] at hc; cases hc
          | some ρ4 =>
          rw [hf, Option.bind_some] at hc
          refine hg _ Fz3 H' _ ρt ρ4 ds[i] v _ x4 rd hf fun σ2 x5 w2 => ⟨w2.trans (wipe_idem vs), ?_⟩
          refine ht _ Fz3 H' σ2 ρ4 _ x5 ?_
          cases hm : mt ρ4 with
          | none => rw [hm] at hc; cases hc
          | some o =>
            cases o with
            | exc c d ρ5 => rw [hm] at hc; cases hc
            | ok b ρ5 =>
              rw [hm] at hc
              intro b' Fz4 H4 s4 x6 eb
              cases eb
              cases b with
              | false =>
                refine (if_neg Bool.false_ne_true).mpr ?_
                refine ⟨hlt, Fz4, wipeE ρ5 vs, acc, xs, (s2.trans s3).trans s4, ?_, (racc.mono s3).mono s4, hc⟩
                have y := x6.wipe vs
                rw [w2, wipe_idem] at y
                exact y
              | true =>
                refine (if_pos rfl).mpr (he _ Fz4 H4 σ2 ρ5 _ x6 ?_)
                cases hz : me ρ5 with
                | none => simp only [hz] at hc; cases hc
                | some o2 =>
                  cases o2 with
                  | exc c d ρ6 => simp only [hz] at hc; cases hc
                  | ok z ρ6 =>
                    simp only [hz] at hc
                    by_cases hl : acc.length < sizeLine
                    · rw [if_pos hl] at hc
                      intro w Fz5 H5 s5 x7 rz
                      have rz' : Rep Γ K Fz5 z w := rz
                      have h0 : H5 D = some (.lst xs) := by obtain ⟨_, y⟩ := x7; exact y.at0.1
                      have racc5 := ((racc.mono s3).mono s4).mono s5
                      refine ⟨xs, h0, by rw [← racc.len]; exact hl, hlt, Fz5, wipeE ρ6 vs, acc ++ [z], xs ++ [w], ((s2.trans s3).trans s4).trans s5, ?_, racc5.snoc rz', hc⟩
                      obtain ⟨κ, y⟩ := x7
                      have y2 := Fr.wipe (⟨κ, y.write0 (o' := .lst (xs ++ [w])) hgD⟩ : Fr Γ K (g'.more D (.lst (xs ++ [w]))) Fz5 (upd H5 D (.lst (xs ++ [w]))) σ2 ρ6) vs
                      rw [w2, wipe_idem] at y2
                      exact y2
                    · rw [if_neg hl] at hc; cases hc
      · have ei : i = ds.length := by omega
        subst ei
        rw [List.drop_length] at hc
        simp only [compL] at hc
        cases hc
        refine .inl ⟨wk.stop H2 subH subP, ?_⟩
        have y := Fr.back (vs := vs) x3 x1 s2
        have y2 := u1.2 σ (some (D, .lst xs)) Fz2 H2 _ ρ3 (fun _ _ => rfl) (fun p o h => by cases h; exact hgD) s2 y hu
        exact q D xs Fz2 H2 (s1.trans s2) hgD0 y2 racc)
end
structure DTs (Γ : Ct) (W : WX) (X : Cx) (ifs : List Expr) (t : TT) (m : M Bool) : Prop where
  pe : PTs X ifs t
  rd : RdT Γ X.K W t m
section
variable {Γ : Ct} {W : WX} {X : Cx}
theorem ts_nil : DTs Γ W X [] tYes mYes := ⟨pts_nil, rd_yes⟩
theorem ts_one {c : Expr} {t : TT} {m : M Bool} (h : DT Γ W X c t m) : DTs Γ W X [c] t m := ⟨pts_one h.pe, h.rd⟩
/-- [elt for target in iter if ..]; own: its names with their slots -/
theorem o_lc {elt tg iter : Expr} {ifs : List Expr} {scope : Scope} {own : List (Str × Nat)} {pos : Pos} {wi : TI} {gt : TG} {tt : TT} {te : TE} {mi : M Its} {f : D → Env → Option Env} {mt : M Bool} {me : M D}
    (hc : X.calm = true) (hN : X.N.Nodup) (hi : DI Γ W X tg iter wi mi) (ok : blkC X.N X.env.scope scope own = true)
    (hg : ∀ (s : Shared) (H : Hp) (C : Addr) (cl : List (Str × Addr)) (fp : List Addr), DG Γ (X.blk s H scope (compEnvC scope cl C X.env) fp) tg gt f (own.map (·.2)))
    (ht : ∀ (s : Shared) (H : Hp) (C : Addr) (cl : List (Str × Addr)) (fp : List Addr), DTs Γ W0 (X.blk s H scope (compEnvC scope cl C X.env) fp) ifs tt mt)
    (he : ∀ (s : Shared) (H : Hp) (C : Addr) (cl : List (Str × Addr)) (fp : List Addr), DE Γ W0 (X.blk s H scope (compEnvC scope cl C X.env) fp) elt te me)
    (hs : ∀ x, foldedSetIterable iter X.env x = pure x := by intro _; rfl) :
    DO Γ W X (.ListComp elt [⟨tg, iter, ifs, 0⟩] scope pos) (tLc wi gt tt te (own.map (·.2))) (mComp (own.map (·.2)) mi f mt me) :=
  have s0 : Shared := X.s_0
  ⟨pe_lc hc hN hi.pi (blkOk_by ok) (fun s H C cl fp => (hg s H C cl fp).pg) (fun s H C cl fp => (ht s H C cl fp).pe) (fun s H C cl fp => (he s H C cl fp).pe) hs,
    rd_comp hi.rd (hg s0 (fun _ => none) 0 [] []).rd (ht s0 (fun _ => none) 0 [] []).rd (he s0 (fun _ => none) 0 [] []).rd⟩
end
end L3
namespace L3
open PySem PySem.Spec PyProof.Rows L2
/-- how a statement ends -/
inductive SO where
  | nx (ρ : Env) | rt (d : D) (ρ : Env) | bk (ρ : Env) | ct (ρ : Env) | exc (c : Nat) (d : Option D) (ρ : Env)
abbrev MS := Env → Option SO
/-- an expression, then -/
def thenS {α : Type} (m : M α) (k : α → MS) : MS := fun ρ => match m ρ with
  | none => none
  | some (.ok a ρ') => k a ρ'
  | some (.exc c d ρ') => some (.exc c d ρ')
def seqS (a b : MS) : MS := fun ρ => match a ρ with
  | some (.nx ρ') => b ρ'
  | o => o
theorem thenS_ok {α : Type} {m : M α} {k : α → MS} {ρ ρ' : Env} {a : α} (h : m ρ = some (.ok a ρ')) : thenS m k ρ = k a ρ' := by simp only [thenS, h]
theorem thenS_exc {α : Type} {m : M α} {k : α → MS} {ρ ρ' : Env} {c : Nat} {d : Option D} (h : m ρ = some (.exc c d ρ')) : thenS m k ρ = some (.exc c d ρ') := by simp only [thenS, h]
theorem thenS_none {α : Type} {m : M α} {k : α → MS} {ρ : Env} (h : m ρ = none) : thenS m k ρ = none := by simp only [thenS, h]
theorem seqS_nx {a b : MS} {ρ ρ' : Env} (h : a ρ = some (.nx ρ')) : seqS a b ρ = b ρ' := by simp only [seqS, h]
section
variable (Γ : Ct) (K : PySem.W.Frag)
def GoesS (W : WX) (g : Gh) (Fz : Hp) (E : Ends) : Option SO → Prop
  | none => False
  | some (.nx ρ') => ∀ σ' Fz' H', Sub Fz Fz' → Fr Γ K g Fz' H' σ' ρ' → E.nx σ' H'
  | some (.bk ρ') => ∀ σ' Fz' H', Sub Fz Fz' → Fr Γ K g Fz' H' σ' ρ' → E.bk σ' H'
  | some (.ct ρ') => ∀ σ' Fz' H', Sub Fz Fz' → Fr Γ K g Fz' H' σ' ρ' → E.ct σ' H'
  | some (.rt d ρ') => ∀ v σ' Fz' H', Sub Fz Fz' → Fr Γ K g Fz' H' σ' ρ' → Rep Γ K Fz' d v → E.rt v H'
  | some (.exc c d ρ') => ∀ σ', ExGo Γ K W g Fz σ' c ρ' d
def RdS (W : WX) (t : TS) (m : MS) : Prop := ∀ g Fz H σ ρ E, Fr Γ K g Fz H σ ρ → GoesS Γ K W g Fz E (m ρ) → t E σ H
end
structure DS (Γ : Ct) (W : WX) (X : Cx) (st : Stmt) (t : TS) (m : MS) : Prop where
  ps : PS X st t
  rd : RdS Γ X.K W t m
structure DSs (Γ : Ct) (W : WX) (X : Cx) (st : List Stmt) (t : TS) (m : MS) : Prop where
  ps : PSs X st t
  rd : RdS Γ X.K W t m
section
variable {Γ : Ct} {K : PySem.W.Frag} {W : WX} {g g' : Gh} {Fz Fz1 H H1 : Hp} {σ : L2.St} {ρ ρ1 : Env} {E : Ends} {t u : TS} {te : TE} {tc : TT}
theorem GoesS.mono {r : Option SO} (s : Sub Fz Fz1) (h : GoesS Γ K W g Fz E r) : GoesS Γ K W g Fz1 E r := by
  match r, h with
  | some (.nx ρ'), h => exact fun σ' Fz' H' s' => h σ' Fz' H' (s.trans s')
  | some (.bk ρ'), h => exact fun σ' Fz' H' s' => h σ' Fz' H' (s.trans s')
  | some (.ct ρ'), h => exact fun σ' Fz' H' s' => h σ' Fz' H' (s.trans s')
  | some (.rt d ρ'), h => exact fun v σ' Fz' H' s' => h v σ' Fz' H' (s.trans s')
  | some (.exc c d ρ'), h => exact fun σ' => ExGo.mono s (h σ')
theorem GoesS.thn {α β : Type} {R : Hp → α → β → Prop} {m : M α} {k : α → MS} {Q1 : β → Hp → Prop} (h : GoesS Γ K W g Fz E (thenS m k ρ))
    (f : ∀ a ρ1 v Fz1 H1, Sub Fz Fz1 → Fr Γ K g Fz1 H1 σ ρ1 → R Fz1 a v → GoesS Γ K W g Fz1 E (k a ρ1) → Q1 v H1) : Goes Γ K W g Fz σ R (m ρ) Q1 := by
  cases e : m ρ with
  | none => rw [thenS_none e] at h; exact h
  | some o =>
    cases o with
    | ok a ρ1 =>
      rw [thenS_ok e] at h
      exact fun v Fz1 H1 s x r => f a ρ1 v Fz1 H1 s x r (h.mono s)
    | exc c d ρ1 => rw [thenS_exc e] at h; exact h σ
theorem GoesS.thnO {m : M (List D)} {k : List D → MS} {Q1 : V → Hp → Prop} (h : GoesS Γ K W g Fz E (thenS m k ρ))
    (f : ∀ ds ρ1 a xs Fz1 H1, Sub Fz Fz1 → g.P a = none → Fr Γ K (g.more a (.lst xs)) Fz1 H1 σ ρ1 → RepL Γ K Fz1 ds xs → GoesS Γ K W g Fz1 E (k ds ρ1) → Q1 (.ref a) H1) : GoesO Γ K W g Fz σ (m ρ) Q1 := by
  cases e : m ρ with
  | none => rw [thenS_none e] at h; exact h
  | some o =>
    cases o with
    | ok a ρ1 =>
      rw [thenS_ok e] at h
      exact fun v xs Fz1 H1 s hg x r => f a ρ1 v xs Fz1 H1 s hg x r (h.mono s)
    | exc c d ρ1 => rw [thenS_exc e] at h; exact h σ
def mNx : MS := fun ρ => some (.nx ρ)
/-- x = e, kept -/
def mSet (i : Nat) (m : M D) : MS := thenS m fun d ρ => if i < ρ.length then some (.nx (ρ.set i (.fz d))) else none
/-- x = [..], the frame's own -/
def mOwn (i : Nat) (m : M (List D)) : MS := thenS m fun ds ρ => if i < ρ.length then some (.nx (ρ.set i (.own (.lst ds)))) else none
/-- targets = e -/
def mAsg (f : D → Env → Option Env) (m : M D) : MS := thenS m fun d ρ => (f d ρ).map .nx
def mExpr (m : M D) : MS := thenS m fun _ ρ => some (.nx ρ)
def mRet (m : M D) : MS := thenS m fun d ρ => some (.rt d ρ)
def mRetN : MS := fun ρ => some (.rt .non ρ)
def mIfS (c : M Bool) (a b : MS) : MS := thenS c fun k => if k = true then a else b
def forL (f : D → Env → Option Env) (b : MS) : List D → MS
  | [], ρ => some (.nx ρ)
  | d :: ds, ρ => (f d ρ).bind fun ρ1 => match b ρ1 with
    | some (.nx ρ2) => forL f b ds ρ2
    | some (.ct ρ2) => forL f b ds ρ2
    | some (.bk ρ2) => some (.nx ρ2)
    | o => o
def mFor (mi : M Its) (f : D → Env → Option Env) (b : MS) : MS := thenS mi fun q => match q.2 with
  | [] => forL f b q.1
  | _ :: _ => fun _ => none
def whileN (c : M Bool) (b : MS) : Nat → MS
  | 0, _ => none
  | n + 1, ρ => thenS c (fun k ρ1 => if k = true then (match b ρ1 with
    | some (.nx ρ2) => whileN c b n ρ2
    | some (.ct ρ2) => whileN c b n ρ2
    | some (.bk ρ2) => some (.nx ρ2)
    | o => o) else some (.nx ρ1)) ρ
open Classical in
noncomputable def mWhile (c : M Bool) (b : MS) : MS := fun ρ => if h : ∃ n, whileN c b n ρ ≠ none then whileN c b h.choose ρ else none
theorem whileN_succ {c : M Bool} {b : MS} : ∀ {n : Nat} {ρ : Env} {o : SO}, whileN c b n ρ = some o → whileN c b (n + 1) ρ = some o
  | 0, _, _, h => by cases h
  | n + 1, ρ, o, h => by
    simp only [whileN] at h
    rw [whileN]
    cases e : c ρ with
    | none => rw [thenS_none e] at h; cases h
    | some q =>
      cases q with
      | exc cc d ρ1 => rw [thenS_exc e] at h ⊢; exact h
      | ok k ρ1 =>
        rw [thenS_ok e] at h ⊢
        cases k with
        | false => simpa using h
        | true =>
          simp only [if_true] at h ⊢
          cases q2 : b ρ1 with
          | none => rw [q2] at h; cases h
          | some s =>
            rw [q2] at h
            cases s with
            | nx ρ2 => exact whileN_succ h
            | ct ρ2 => exact whileN_succ h
            | bk ρ2 => exact h
            | rt d ρ2 => exact h
            | exc cc d ρ2 => exact h
theorem whileN_le {c : M Bool} {b : MS} {n m : Nat} {ρ : Env} {o : SO} (h : whileN c b n ρ = some o) (l : n ≤ m) : whileN c b m ρ = some o := by
  induction l with
  | refl => exact h
  | step _ ih => exact whileN_succ ih
/-- by any fuel that is enough -/
theorem mWhile_of {c : M Bool} {b : MS} {n : Nat} {ρ : Env} {o : SO} (h : whileN c b n ρ = some o) : mWhile c b ρ = some o := by
  have ex : ∃ n, whileN c b n ρ ≠ none := ⟨n, by rw [h]; simp⟩
  unfold mWhile
  rw [dif_pos ex]
  cases q : whileN c b ex.choose ρ with
  | none => exact absurd q ex.choose_spec
  | some o' =>
    have a := whileN_le q (Nat.le_max_left ex.choose n)
    have b := whileN_le h (Nat.le_max_right ex.choose n)
    rw [a] at b; exact b
/-- and it is by some fuel -/
theorem of_mWhile {c : M Bool} {b : MS} {ρ : Env} {o : SO} (h : mWhile c b ρ = some o) : ∃ n, whileN c b n ρ = some o := by
  unfold mWhile at h
  split at h
  · exact ⟨_, h⟩
  · cases h
theorem rd_nx : RdS Γ K W tNext mNx := fun g Fz H σ ρ E x q => q σ Fz H (Sub.refl _) x
theorem rd_seqS {a b : MS} (ha : RdS Γ K W t a) (hb : RdS Γ K W u b) : RdS Γ K W (tSeq t u) (seqS a b) := fun g Fz H σ ρ E x q => ha g Fz H σ ρ _ x (by
  have q' : GoesS Γ K W g Fz E (seqS a b ρ) := q
  cases e : a ρ with
  | none => simp only [seqS, e] at q'; exact q'
  | some o =>
    cases o with
    | nx ρ1 => rw [seqS_nx e] at q'; exact fun σ' Fz' H' s y => hb g Fz' H' σ' ρ1 E y (q'.mono s)
    | bk ρ1 => simp only [seqS, e] at q'; exact q'
    | ct ρ1 => simp only [seqS, e] at q'; exact q'
    | rt d ρ1 => simp only [seqS, e] at q'; exact q'
    | exc c d ρ1 => simp only [seqS, e] at q'; exact q')
theorem rd_set {i : Nat} {m : M D} (h : RdE Γ K W te m) : RdS Γ K W (tAsg te (gName i)) (mSet i m) := fun g Fz H σ ρ E x q => h g Fz H σ ρ _ x (GoesS.thn q fun d ρ1 v Fz1 H1 s y r q1 => by
  by_cases hl : i < ρ1.length
  · rw [if_pos hl] at q1; exact q1 _ Fz1 H1 (Sub.refl _) (y.setFz r)
  · rw [if_neg hl] at q1; exact q1.elim)
theorem rd_own {i : Nat} {m : M (List D)} (h : RdO Γ K W te m) : RdS Γ K W (tAsg te (gName i)) (mOwn i m) := fun g Fz H σ ρ E x q => h g Fz H σ ρ _ x (GoesS.thnO q fun ds ρ1 a xs Fz1 H1 s hg y r q1 => by
  by_cases hl : i < ρ1.length
  · rw [if_pos hl] at q1; exact q1 _ Fz1 H1 (Sub.refl _) (Fr.setOwn hl hg y r)
  · rw [if_neg hl] at q1; exact q1.elim)
theorem rd_asg {gt : TG} {f : D → Env → Option Env} {vs : List Nat} {m : M D} (h : RdE Γ K W te m) (hg : RdG Γ K gt f vs) : RdS Γ K W (tAsg te gt) (mAsg f m) := fun g Fz H σ ρ E x q => h g Fz H σ ρ _ x (GoesS.thn q fun d ρ1 v Fz1 H1 s y r q1 => by
  cases e : f d ρ1 with
  | none => rw [e] at q1; exact q1.elim
  | some ρ2 =>
    rw [e] at q1
    exact hg g Fz1 H1 σ ρ1 ρ2 d v _ y r e fun σ' y' _ => q1 σ' Fz1 H1 (Sub.refl _) y')
theorem rd_expr {m : M D} (h : RdE Γ K W te m) : RdS Γ K W (tDrop te) (mExpr m) := fun g Fz H σ ρ E x q => h g Fz H σ ρ _ x (GoesS.thn q fun d ρ1 v Fz1 H1 s y r q1 => q1 σ Fz1 H1 (Sub.refl _) y)
theorem rd_ret {m : M D} (h : RdE Γ K W te m) : RdS Γ K W (tRet te) (mRet m) := fun g Fz H σ ρ E x q => h g Fz H σ ρ _ x (GoesS.thn q fun d ρ1 v Fz1 H1 s y r q1 => q1 v σ Fz1 H1 (Sub.refl _) y r)
theorem rd_ifS {c : M Bool} {a b : MS} (hc : RdT Γ K W tc c) (ha : RdS Γ K W t a) (hb : RdS Γ K W u b) : RdS Γ K W (tIfS tc t u) (mIfS c a b) := fun g Fz H σ ρ E x q => hc g Fz H σ ρ _ x (GoesS.thn q fun k ρ1 v Fz1 H1 s y r q1 => by
  cases r
  cases k with
  | true => rw [if_pos rfl] at q1 ⊢; exact ha g Fz1 H1 σ ρ1 E y q1
  | false => rw [if_neg Bool.false_ne_true] at q1 ⊢; exact hb g Fz1 H1 σ ρ1 E y q1)
theorem Unl.ex {c : Nat} {od : Option D} (un : Unl Γ K g g' Fz σ []) {σ' : L2.St} (h : ExGo Γ K W g Fz σ' c ρ od) : ExGo Γ K W g' Fz σ' c ρ od := by
  cases od with
  | none => exact fun Fz' H' s x => h Fz' H' s (un.2 σ' none Fz' H' ρ ρ nofun nofun s x rfl)
  | some d =>
    intro x v Fz' H' s hx y r
    have hgx : g.P x = none := by
      cases z : g.P x with
      | none => rfl
      | some o => rw [un.1 x o z] at hx; cases hx
    exact h x v Fz' H' s hgx (un.2 σ' (some (x, .xd [("at", v)])) Fz' H' ρ ρ nofun (fun p o e => by cases e; exact hx) s y rfl) r
theorem Unl.goes {r : Option SO} (un : Unl Γ K g g' Fz σ []) (h : GoesS Γ K W g Fz E r) : GoesS Γ K W g' Fz E r := by
  have k : ∀ {σ' : L2.St} {Fz' H' : Hp} {ρ' : Env}, Sub Fz Fz' → Fr Γ K g' Fz' H' σ' ρ' → Fr Γ K g Fz' H' σ' ρ' := fun {σ' Fz' H' ρ'} s x => un.2 σ' none Fz' H' ρ' ρ' nofun nofun s x rfl
  match r, h with
  | some (.nx ρ'), h => exact fun σ' Fz' H' s' x => h σ' Fz' H' s' (k s' x)
  | some (.bk ρ'), h => exact fun σ' Fz' H' s' x => h σ' Fz' H' s' (k s' x)
  | some (.ct ρ'), h => exact fun σ' Fz' H' s' x => h σ' Fz' H' s' (k s' x)
  | some (.rt d ρ'), h => exact fun v σ' Fz' H' s' x => h v σ' Fz' H' s' (k s' x)
  | some (.exc c d ρ'), h => exact fun σ' => un.ex (h σ')
theorem rd_for {wi : TI} {gt : TG} {vs : List Nat} {f : D → Env → Option Env} {mi : M Its} {b : MS} (hi : RdI Γ K W wi mi) (hg : RdG Γ K gt f vs) (hb : RdS Γ K W t b) : RdS Γ K W (tFor wi gt t) (mFor mi f b) := fun g Fz H σ ρ E x q => hi g Fz H σ ρ _ x (by
  have q0 : GoesS Γ K W g Fz E (mFor mi f b ρ) := q
  cases e : mi ρ with
  | none => rw [show mFor mi f b ρ = none from thenS_none e] at q0; exact q0
  | some o =>
    cases o with
    | exc c d ρ1 => rw [show mFor mi f b ρ = some (.exc c d ρ1) from thenS_exc e] at q0; exact q0 σ
    | ok z ρ1 =>
      obtain ⟨ds, ls⟩ := z
      rw [show mFor mi f b ρ = _ from thenS_ok e] at q0
      cases ls with
      | cons l ls => exact q0.elim
      | nil =>
        intro J g' Fz1 H1 s1 un x1 wk
        have q1 : GoesS Γ K W g' Fz1 E (forL f b ds ρ1) := un.goes (q0.mono s1)
        refine ⟨fun i m σ' H' => m = ds.length - i ∧ i ≤ ds.length ∧ ∃ Fz2 ρ2, Sub Fz1 Fz2 ∧ Fr Γ K g' Fz2 H' σ' ρ2 ∧ GoesS Γ K W g' Fz2 E (forL f b (ds.drop i) ρ2),
          ⟨ds.length, rfl, Nat.zero_le _, Fz1, ρ1, Sub.refl _, x1, q1⟩, ?_⟩
        rintro i m σ2 H2 ⟨rfl, hile, Fz2, ρ2, s2, x2, q2⟩
        have subH : Sub Fz1 H2 := s2.trans x2.sub
        have subP : Sub g'.P H2 := x2.subP
        by_cases hlt : i < ds.length
        · refine .inr ⟨wk.go H2 i subH subP hlt, fun σ' H' => i + 1 ≤ ds.length ∧ ∃ Fz2 ρ2, Sub Fz1 Fz2 ∧ Fr Γ K g' Fz2 H' σ' ρ2 ∧ GoesS Γ K W g' Fz2 E (forL f b (ds.drop (i + 1)) ρ2),
            fun σ' H' h => ⟨ds.length - (i + 1), by omega, rfl, h⟩, fun v H' hy => ?_⟩
          obtain ⟨Fz3, s3, x3, rd⟩ := wk.yld _ Fz2 H2 _ ρ2 i ds[i] v H' (by simp [hlt]) s2 subP x2 hy
          rw [drop_cons hlt] at q2
          simp only [forL] at q2
          cases hf : f ds[i] ρ2 with
          | none => rw [hf] at q2; exact q2.elim
          | some ρ4 =>
          rw [hf, Option.bind_some] at q2
          refine hg _ Fz3 H' _ ρ2 ρ4 ds[i] v _ x3 rd hf fun σ3 x4 _ => ?_
          refine hb _ Fz3 H' σ3 ρ4 _ x4 ?_
          have q3 := q2.mono s3
          have q3' : GoesS Γ K W g' Fz3 E (match b ρ4 with
            | some (.nx ρ2) => forL f b (ds.drop (i + 1)) ρ2
            | some (.ct ρ2) => forL f b (ds.drop (i + 1)) ρ2
            | some (.bk ρ2) => some (.nx ρ2)
            | o => o) := q3
          cases hbo : b ρ4 with
          | none => rw [hbo] at q3'; exact q3'
          | some so =>
            rw [hbo] at q3'
            cases so with
            | nx ρ5 => exact fun σ5 Fz5 H5 s5 x5 => ⟨hlt, Fz5, ρ5, (s2.trans s3).trans s5, x5, q3'.mono s5⟩
            | ct ρ5 => exact fun σ5 Fz5 H5 s5 x5 => ⟨hlt, Fz5, ρ5, (s2.trans s3).trans s5, x5, q3'.mono s5⟩
            | bk ρ5 => exact q3'
            | rt d ρ5 => exact q3'
            | exc c d ρ5 => exact q3'
        · have ei : i = ds.length := by omega
          subst ei
          rw [List.drop_length] at q2
          exact .inl ⟨wk.stop H2 subH subP, q2 σ2 Fz2 H2 (Sub.refl _) x2⟩)
theorem rd_while {c : M Bool} {b : MS} (hc : RdT Γ K W tc c) (hb : RdS Γ K W t b) : RdS Γ K W (tWhile tc t) (mWhile c b) := fun g Fz H σ ρ E x q => by
  have q0 : GoesS Γ K W g Fz E (mWhile c b ρ) := q
  cases e : mWhile c b ρ with
  | none => rw [e] at q0; exact q0.elim
  | some o =>
    rw [e] at q0
    obtain ⟨n, hn⟩ := of_mWhile e
    refine ⟨fun m σ' H' => ∃ Fz2 ρ2, Sub Fz Fz2 ∧ Fr Γ K g Fz2 H' σ' ρ2 ∧ ∃ o', whileN c b m ρ2 = some o' ∧ GoesS Γ K W g Fz2 E (some o'), ⟨n, Fz, ρ, Sub.refl _, x, o, hn, q0⟩, ?_⟩
    rintro m σ2 H2 ⟨Fz2, ρ2, s2, x2, o', hw, q2⟩
    cases m with
    | zero => cases hw
    | succ m =>
      simp only [whileN] at hw
      refine hc g Fz2 H2 σ2 ρ2 _ x2 ?_
      cases ec : c ρ2 with
      | none => rw [thenS_none ec] at hw; cases hw
      | some oc =>
        cases oc with
        | exc cc d ρ3 => rw [thenS_exc ec] at hw; cases hw; exact q2 σ2
        | ok k ρ3 =>
          rw [thenS_ok ec] at hw
          intro v Fz3 H3 s3 x3 r3
          cases r3
          cases k with
          | false =>
            rw [if_neg Bool.false_ne_true] at hw ⊢
            cases hw
            exact q2 σ2 Fz3 H3 s3 x3
          | true =>
            rw [if_pos rfl] at hw ⊢
            refine ⟨fun σ' H' => ∃ Fz2 ρ2, Sub Fz Fz2 ∧ Fr Γ K g Fz2 H' σ' ρ2 ∧ ∃ o', whileN c b m ρ2 = some o' ∧ GoesS Γ K W g Fz2 E (some o'), fun σ' H' h => ⟨m, Nat.lt_succ_self m, h⟩, ?_⟩
            refine hb g Fz3 H3 σ2 ρ3 _ x3 ?_
            cases hbo : b ρ3 with
            | none => rw [hbo] at hw; cases hw
            | some so =>
              rw [hbo] at hw
              cases so with
              | nx ρ5 => exact fun σ5 Fz5 H5 s5 x5 => ⟨Fz5, ρ5, (s2.trans s3).trans s5, x5, o', hw, (q2.mono s3).mono s5⟩
              | ct ρ5 => exact fun σ5 Fz5 H5 s5 x5 => ⟨Fz5, ρ5, (s2.trans s3).trans s5, x5, o', hw, (q2.mono s3).mono s5⟩
              | bk ρ5 => cases hw; exact (show GoesS Γ K W g Fz2 E (some (.nx ρ5)) from q2).mono s3
              | rt d ρ5 => cases hw; exact (show GoesS Γ K W g Fz2 E (some (.rt d ρ5)) from q2).mono s3
              | exc cc d ρ5 => cases hw; exact (show GoesS Γ K W g Fz2 E (some (.exc cc d ρ5)) from q2).mono s3
end
section
variable {Γ : Ct} {W : WX} {X : Cx} {st : Stmt} {sts body orelse : List Stmt} {t u : TS} {m n : MS} {e c tg iter : Expr} {te : TE} {tc : TT} {pos pos' : Pos} {gt : TG} {f : D → Env → Option Env} {vs : List Nat}
theorem ss_nil : DSs Γ W X [] tNext mNx := ⟨pss_nil, rd_nx⟩
theorem ss_cons (h : DS Γ W X st t m) (h' : DSs Γ W X sts u n) : DSs Γ W X (st :: sts) (tSeq t u) (seqS m n) := ⟨pss_cons h.ps h'.ps, rd_seqS h.rd h'.rd⟩
theorem s_pass : DS Γ W X (.Pass pos) tNext mNx := ⟨ps_pass, rd_nx⟩
theorem s_expr {m : M D} (h : DE Γ W X e te m) (hs : swapsWith e none pos.line X.env = pure false := by rfl) : DS Γ W X (.Expr e pos) (tDrop te) (mExpr m) := ⟨ps_expr h.pe hs, rd_expr h.rd⟩
theorem s_ret {m : M D} (h : DE Γ W X e te m) : DS Γ W X (.Return (some e) pos) (tRet te) (mRet m) := ⟨ps_ret h.pe, rd_ret h.rd⟩
theorem s_if {c : Expr} {mc : M Bool} (h : DT Γ W X c tc mc) (ha : DSs Γ W X body t m) (hb : DSs Γ W X orelse u n) : DS Γ W X (.If c body orelse pos) (tIfS tc t u) (mIfS mc m n) := ⟨ps_if h.pe ha.ps hb.ps, rd_ifS h.rd ha.rd hb.rd⟩
theorem s_set (i : Nat) {x : Str} {m : M D} (hN : X.N.Nodup) (he : DE Γ W X e te m) (hi : X.N[i]? = some x := by rfl) (hx : Loc X.env.scope x := by first | exact Or.inl rfl | exact Or.inr rfl) (hs : swapsWith e (some (.Name x pos')) pos.line X.env = pure false := by rfl)
    (hf : X.fn x = true ∨ X.env.scope.names.lookup x = some .local := by first | exact .inl rfl | exact .inr rfl | assumption) : DS Γ W X (.Assign [.Name x pos'] e pos) (tAsg te (gName i)) (mSet i m) := ⟨ps_set hN hi hx he.pe hs hf, rd_set he.rd⟩
theorem s_own (i : Nat) {x : Str} {m : M (List D)} (hN : X.N.Nodup) (he : DO Γ W X e te m) (hi : X.N[i]? = some x := by rfl) (hx : Loc X.env.scope x := by first | exact Or.inl rfl | exact Or.inr rfl) (hs : swapsWith e (some (.Name x pos')) pos.line X.env = pure false := by rfl)
    (hf : X.fn x = true ∨ X.env.scope.names.lookup x = some .local := by first | exact .inl rfl | exact .inr rfl | assumption) : DS Γ W X (.Assign [.Name x pos'] e pos) (tAsg te (gName i)) (mOwn i m) := ⟨ps_set hN hi hx he.pe hs hf, rd_own he.rd⟩
theorem s_asg {m : M D} (he : DE Γ W X e te m) (hg : DG Γ X tg gt f vs) (hs : swapsWithSole [tg] e pos.line X.env = pure false := by rfl) (hw : swappedStores [tg] e X.env = pure none := by rfl)
    (h1 : (assignEach [tg] X.env).map (·.2) = [assign tg X.env] := by rfl) : DS Γ W X (.Assign [tg] e pos) (tAsg te gt) (mAsg f m) := ⟨ps_asg he.pe hg.pg hs hw h1, rd_asg he.rd hg.rd⟩
/-- x = [elt for ..], where the interpreter looks at the name (swapsWith) -/
theorem s_lc (i : Nat) {y : Str} {py spos : Pos} {elt tg iter : Expr} {ifs : List Expr} {scope : Scope} {own : List (Str × Nat)} {wi : TI} {tt : TT} {mi : M Its} {mt : M Bool} {me : M D}
    (hc : X.calm = true) (hN : X.N.Nodup) (hi : DI Γ W X tg iter wi mi) (ok : blkC X.N X.env.scope scope own = true)
    (hg : ∀ (s : Shared) (H : Hp) (C : Addr) (cl : List (Str × Addr)) (fp : List Addr), DG Γ (X.blk s H scope (compEnvC scope cl C X.env) fp) tg gt f (own.map (·.2)))
    (ht : ∀ (s : Shared) (H : Hp) (C : Addr) (cl : List (Str × Addr)) (fp : List Addr), DTs Γ W0 (X.blk s H scope (compEnvC scope cl C X.env) fp) ifs tt mt)
    (he : ∀ (s : Shared) (H : Hp) (C : Addr) (cl : List (Str × Addr)) (fp : List Addr), DE Γ W0 (X.blk s H scope (compEnvC scope cl C X.env) fp) elt te me)
    (hy : X.N[i]? = some y := by rfl) (hyl : X.env.scope.names.lookup y = some .local := by rfl) (hsw : swapsWith (.ListComp elt [⟨tg, iter, ifs, 0⟩] scope pos) (some (.Name y py)) spos.line X.env = pure true := by rfl)
    (hs : ∀ x, foldedSetIterable iter X.env x = pure x := by intro _; rfl) :
    DS Γ W X (.Assign [.Name y py] (.ListComp elt [⟨tg, iter, ifs, 0⟩] scope pos) spos) (tAsg (tLc wi gt tt te (own.map (·.2))) (gName i)) (mOwn i (mComp (own.map (·.2)) mi f mt me)) :=
  have s0 : Shared := X.s_0
  ⟨ps_setLc hc hN hy hyl hsw hi.pi (blkOk_by ok) (fun s H C cl fp => (hg s H C cl fp).pg) (fun s H C cl fp => (ht s H C cl fp).pe) (fun s H C cl fp => (he s H C cl fp).pe) hs,
    rd_own (rd_comp hi.rd (hg s0 (fun _ => none) 0 [] []).rd (ht s0 (fun _ => none) 0 [] []).rd (he s0 (fun _ => none) 0 [] []).rd)⟩
/-- x, y = a, b -/
def mPar (i j : Nat) (m : M (List D)) : MS := thenS m fun ds ρ => match ds with
  | [d, e] => if i < ρ.length ∧ j < ρ.length then some (.nx ((ρ.set i (.fz d)).set j (.fz e))) else none
  | _ => none
theorem rd_par {K : PySem.W.Frag} {i j : Nat} {ta : TA} {m : M (List D)} (h : RdA Γ K W ta m) : RdS Γ K W (tPar i j ta) (mPar i j m) := fun g Fz H σ ρ E x q => h g Fz H σ ρ _ x (GoesS.thn q fun ds ρ1 vs Fz1 H1 s y r q1 => by
  match ds, vs, r, q1 with
  | [d, e], [v, w], .cons r1 (.cons r2 .nil), q1 =>
    have q2 : GoesS Γ K W g Fz1 E (if i < ρ1.length ∧ j < ρ1.length then some (.nx ((ρ1.set i (.fz d)).set j (.fz e))) else none) := q1
    by_cases hl : i < ρ1.length ∧ j < ρ1.length
    · rw [if_pos hl] at q2; exact ⟨v, w, rfl, q2 _ Fz1 H1 (Sub.refl _) ((y.setFz r1).setFz r2)⟩
    · rw [if_neg hl] at q2; exact q2.elim)
theorem s_par (i j : Nat) {x y : Str} {a b : Expr} {ta : TA} {px py pt spos : Pos} {kt k2 pt2} {m : M (List D)} (hc : X.calm = true) (hN : X.N.Nodup) (h : DA Γ W X [a, b] ta m)
    (hij : i ≠ j := by decide) (hi : X.N[i]? = some x := by rfl) (hj : X.N[j]? = some y := by rfl)
    (hx : X.env.scope.names.lookup x = some .local := by rfl) (hy : X.env.scope.names.lookup y = some .local := by rfl)
    (hw : swappedStores [.Tuple [.Name x px, .Name y py] kt pt] (.Tuple [a, b] k2 pt2) X.env = pure (some [x, y]) := by rfl)
    (hs : swapsWithSole [.Tuple [.Name x px, .Name y py] kt pt] (.Tuple [a, b] k2 pt2) spos.line X.env = pure false := by rfl) :
    DS Γ W X (.Assign [.Tuple [.Name x px, .Name y py] kt pt] (.Tuple [a, b] k2 pt2) spos) (tPar i j ta) (mPar i j m) := ⟨ps_par hc hN hi hj hij hx hy h.pe hw hs, rd_par h.rd⟩
theorem s_for {wi : TI} {mi : M Its} (hp : PassesOwn (model X.prog X.w) X.A X.env X.xe) (hc : X.calm = true) (hi : DI Γ W X tg iter wi mi) (hg : DG Γ X tg gt f vs) (hb : DSs Γ W X body t m)
    (hs : ∀ x, foldedSetIterable iter X.env x = pure x := by intro _; rfl) : DS Γ W X (.For tg iter body [] pos) (tFor wi gt t) (mFor mi f m) := ⟨ps_for hp hc hi.pi hg.pg hb.ps hs, rd_for hi.rd hg.rd hb.rd⟩
theorem s_while {c : Expr} {mc : M Bool} (hp : PassesOwn (model X.prog X.w) X.A X.env X.xe) (h : DT Γ W X c tc mc) (hb : DSs Γ W X body t m) : DS Γ W X (.While c body [] pos) (tWhile tc t) (mWhile mc m) := ⟨ps_while hp h.pe hb.ps, rd_while h.rd hb.rd⟩
end
end L3
namespace L3
open PySem PySem.Spec PyProof.Rows L2
/-- how a call ends: the value, the slots of what was handed in -/
inductive FO where
  | ret (d : D) (as : List Slot) | exc (c : Nat) (d : Option D) (as : List Slot)
abbrev Fn := List Slot → Option FO
section
variable (Γ : Ct) (K : PySem.W.Frag)
def GoesF (g : Gh) (Fz : Hp) (τ : L2.St) (r : Option FO) (Q : VK) (E : XK) : Prop := match r with
  | none => False
  | some (.ret d as') => ∀ v Fz' H', Sub Fz Fz' → Fr Γ K g Fz' H' τ as' → Rep Γ K Fz' d v → Q v H'
  | some (.exc c od as') => ExGo Γ K (fun cls d _ H => E cls d H) g Fz τ c as' od
def spF (P : Fn) (n : Nat) : Sp := fun vs H Q E => vs.length = n ∧ ∃ g Fz as, Fr Γ K g Fz H (vs.map some) as ∧ GoesF Γ K g Fz (vs.map some) (P as) Q E
end
theorem spF_len {Γ : Ct} {K : PySem.W.Frag} {P : Fn} {ps : List Str} : ∀ vs H Q E, spF Γ K P ps.length vs H Q E → vs.length = ps.length := fun vs H Q E h => h.1
/-- an argument: a value; a thing to be changed; a list to be read -/
inductive Am where
  | val (d : D) | io (i : Nat) | bor (i : Nat)
def RAm (Γ : Ct) (K : PySem.W.Frag) (σ : L2.St) (Fz : Hp) : Am → V → Prop
  | .val d, v => Rep Γ K Fz d v
  | .io i, v => σ[i]? = some (some v)
  | .bor i, v => σ[i]? = some (some v)
structure RAms (Γ : Ct) (K : PySem.W.Frag) (σ : L2.St) (Fz : Hp) (ams : List Am) (vs : List V) : Prop where
  len : vs.length = ams.length
  at_ : ∀ (j : Nat) (am : Am), ams[j]? = some am → ∃ v, vs[j]? = some v ∧ RAm Γ K σ Fz am v
def amSlot (ρ : Env) : Am → Option Slot
  | .val d => some (.fz d)
  | .io i => match ρ[i]? with
    | some (.own c) => some (.io c)
    | some (.io c) => some (.io c)
    | _ => none
  | .bor i => match ρ[i]? with
    | some (.own (.lst ds)) => some (.bor ds)
    | some (.io (.lst ds)) => some (.bor ds)
    | some (.bor ds) => some (.bor ds)
    | _ => none
def amSlots (ρ : Env) : List Am → Option (List Slot)
  | [] => some []
  | a :: ams => (amSlot ρ a).bind fun s => (amSlots ρ ams).map (s :: ·)
def ioIx : List Am → List Nat
  | [] => []
  | .io i :: ams => i :: ioIx ams
  | .val _ :: ams => ioIx ams
  | .bor _ :: ams => ioIx ams
def putS (s : Slot) (c : Ct2) : Slot := match s with
  | .own _ => .own c
  | .io _ => .io c
  | s => s
def putBack : List Am → List Slot → Env → Option Env
  | [], _, ρ => some ρ
  | .io i :: ams, as, ρ => match as with
    | .io c :: as => putBack ams as (ρ.set i (putS (ρ[i]?.getD .emp) c))
    | _ => none
  | .val _ :: ams, as, ρ => putBack ams as.tail ρ
  | .bor _ :: ams, as, ρ => putBack ams as.tail ρ
theorem amSlots_spec {ρ : Env} : ∀ {ams : List Am} {as : List Slot}, amSlots ρ ams = some as → as.length = ams.length ∧ ∀ (j : Nat) (am : Am), ams[j]? = some am → ∃ s, as[j]? = some s ∧ amSlot ρ am = some s
  | [], as, h => by cases h; exact ⟨rfl, fun j am e => by simp at e⟩
  | a :: ams, as, h => by
    simp only [amSlots] at h
    cases e : amSlot ρ a with
    | none => rw [e] at h; cases h
    | some s =>
      rw [e, Option.bind_some] at h
      cases e2 : amSlots ρ ams with
      | none => rw [e2] at h; cases h
      | some ss =>
        rw [e2] at h
        cases h
        obtain ⟨h1, h2⟩ := amSlots_spec e2
        refine ⟨by simp [h1], fun j am z => ?_⟩
        cases j with
        | zero => simp at z; subst z; exact ⟨s, rfl, e⟩
        | succ j => simpa using h2 j am (by simpa using z)
theorem ioIx_mem : ∀ {ams : List Am} {i : Nat}, i ∈ ioIx ams ↔ ∃ j : Nat, ams[j]? = some (Am.io i)
  | [], i => by simp [ioIx]
  | a :: ams, i => by
    have ih := ioIx_mem (ams := ams) (i := i)
    have key : (∃ j : Nat, (a :: ams)[j]? = some (Am.io i)) ↔ a = .io i ∨ ∃ j : Nat, ams[j]? = some (Am.io i) := by
      constructor
      · rintro ⟨j, h⟩
        cases j with
        | zero => left; simpa using h
        | succ j => right; exact ⟨j, by simpa using h⟩
      · rintro (h | ⟨j, h⟩)
        · exact ⟨0, by simp [h]⟩
        · exact ⟨j + 1, by simpa using h⟩
    rw [key]
    cases a with
    | io k => simp only [ioIx, List.mem_cons, ih, Am.io.injEq]; exact ⟨fun h => h.imp Eq.symm id, fun h => h.imp Eq.symm id⟩
    | val d => simp only [ioIx, ih]; exact ⟨.inr, fun h => h.resolve_left nofun⟩
    | bor k => simp only [ioIx, ih]; exact ⟨.inr, fun h => h.resolve_left nofun⟩
theorem ioIx_inj : ∀ {ams : List Am} {i j l : Nat}, (ioIx ams).Nodup → ams[j]? = some (Am.io i) → ams[l]? = some (Am.io i) → j = l
  | [], _, _, _, _, h, _ => by simp at h
  | a :: ams, i, 0, 0, _, _, _ => rfl
  | a :: ams, i, 0, l + 1, nd, h, h' => by
    simp at h; subst h
    simp only [ioIx, List.nodup_cons] at nd
    exact absurd (ioIx_mem.mpr ⟨l, by simpa using h'⟩) nd.1
  | a :: ams, i, j + 1, 0, nd, h, h' => by
    simp at h'; subst h'
    simp only [ioIx, List.nodup_cons] at nd
    exact absurd (ioIx_mem.mpr ⟨j, by simpa using h⟩) nd.1
  | a :: ams, i, j + 1, l + 1, nd, h, h' => by
    have nd' : (ioIx ams).Nodup := by
      cases a with
      | io k => simp only [ioIx, List.nodup_cons] at nd; exact nd.2
      | val d => exact nd
      | bor k => exact nd
    have q : j = l := ioIx_inj (i := i) nd' (by simpa using h) (by simpa using h')
    rw [q]
theorem putBack_spec : ∀ {ams : List Am} {as : List Slot} {ρ ρ2 : Env}, putBack ams as ρ = some ρ2 → (ioIx ams).Nodup →
    ρ2.length = ρ.length ∧ (∀ i, i ∉ ioIx ams → ρ2[i]? = ρ[i]?) ∧ ∀ (j i : Nat), ams[j]? = some (Am.io i) → ∃ c, as[j]? = some (Slot.io c) ∧ ∀ s, ρ[i]? = some s → ρ2[i]? = some (putS s c)
  | [], as, ρ, ρ2, h, _ => by cases h; exact ⟨rfl, fun _ _ => rfl, fun j i e => by simp at e⟩
  | .val d :: ams, as, ρ, ρ2, h, nd => by
    obtain ⟨h1, h2, h3⟩ := putBack_spec (show putBack ams as.tail ρ = some ρ2 from h) nd
    refine ⟨h1, h2, fun j i e => ?_⟩
    cases j with
    | zero => simp at e
    | succ j =>
      obtain ⟨c, q1, q2⟩ := h3 j i (by simpa using e)
      refine ⟨c, ?_, q2⟩
      cases as with
      | nil => simp at q1
      | cons a as => simpa using q1
  | .bor d :: ams, as, ρ, ρ2, h, nd => by
    obtain ⟨h1, h2, h3⟩ := putBack_spec (show putBack ams as.tail ρ = some ρ2 from h) nd
    refine ⟨h1, h2, fun j i e => ?_⟩
    cases j with
    | zero => simp at e
    | succ j =>
      obtain ⟨c, q1, q2⟩ := h3 j i (by simpa using e)
      refine ⟨c, ?_, q2⟩
      cases as with
      | nil => simp at q1
      | cons a as => simpa using q1
  | .io k :: ams, as, ρ, ρ2, h, nd => by
    simp only [ioIx, List.nodup_cons] at nd
    match as, h with
    | .io c :: as, h =>
      obtain ⟨h1, h2, h3⟩ := putBack_spec (show putBack ams as (ρ.set k (putS (ρ[k]?.getD .emp) c)) = some ρ2 from h) nd.2
      rw [List.length_set] at h1
      refine ⟨h1, fun i hi => ?_, fun j i e => ?_⟩
      · have hi' : i ≠ k ∧ i ∉ ioIx ams := by simpa [ioIx] using hi
        rw [h2 i hi'.2, List.getElem?_set_ne (fun e => hi'.1 e.symm)]
      · cases j with
        | zero =>
          simp at e; subst e
          refine ⟨c, rfl, fun s hs => ?_⟩
          rw [h2 k nd.1, List.getElem?_set_self (List.getElem?_eq_some_iff.mp hs).1, hs]
          rfl
        | succ j =>
          obtain ⟨c', q1, q2⟩ := h3 j i (by simpa using e)
          refine ⟨c', by simpa using q1, fun s hs => q2 s ?_⟩
          have hik : i ≠ k := fun z => by subst z; exact nd.1 (ioIx_mem.mpr ⟨j, by simpa using e⟩)
          rw [List.getElem?_set_ne (fun z => hik z.symm)]
          exact hs
    | [], h => cases h
    | .emp :: _, h => cases h
    | .raw :: _, h => cases h
    | .fz _ :: _, h => cases h
    | .own _ :: _, h => cases h
    | .bor _ :: _, h => cases h
/-- nothing is handed in twice where it is changed -/
def amOk (ams : List Am) : Bool := decide (ioIx ams).Nodup && ams.all fun | .bor i => !(ioIx ams).contains i | _ => true
theorem amOk_nd {ams : List Am} (h : amOk ams = true) : (ioIx ams).Nodup := by
  unfold amOk at h
  rw [Bool.and_eq_true] at h
  exact of_decide_eq_true h.1
theorem amOk_bor {ams : List Am} (h : amOk ams = true) {j i : Nat} (e : ams[j]? = some (Am.bor i)) : i ∉ ioIx ams := by
  unfold amOk at h
  rw [Bool.and_eq_true] at h
  have q := List.all_eq_true.mp h.2 _ (List.mem_of_getElem? e)
  intro hi
  have q' : (!(ioIx ams).contains i) = true := q
  rw [List.contains_iff_mem.mpr hi] at q'
  cases q'
/-- the call, over data -/
def fCall (P : Fn) (ams : List Am) : M D := fun ρ => if amOk ams = true then (amSlots ρ ams).bind fun as => match P as with
  | none => none
  | some (.ret d as') => (putBack ams as' ρ).map fun ρ2 => .ok d ρ2
  | some (.exc c od as') => (putBack ams as' ρ).map fun ρ2 => .exc c od ρ2
  else none
section
variable {Γ : Ct} {K : PySem.W.Frag} {W : WX} {g g2 : Gh} {Fz Fz' H H' : Hp} {σ : L2.St} {ρ ρ2 : Env} {κ κ2 : Nat → List Addr} {ams : List Am} {as as' : List Slot} {vs : List V}
def ka (κ : Nat → List Addr) (ams : List Am) (j : Nat) : List Addr := match ams[j]? with
  | some (.io i) => κ i
  | _ => []
theorem ka_io {i j : Nat} (h : ams[j]? = some (Am.io i)) : ka κ ams j = κ i := by simp only [ka, h]
theorem of_ka {j : Nat} {a : Addr} (h : a ∈ ka κ ams j) : ∃ i, ams[j]? = some (Am.io i) ∧ a ∈ κ i := by
  unfold ka at h
  split at h
  · rename_i i e; exact ⟨i, e, h⟩
  · cases h
open Classical in
noncomputable def gP (Γ : Ct) (Fz H : Hp) (κ : Nat → List Addr) (ams : List Am) : Hp := fun a => if Fz a = none ∧ (∀ i ∈ ioIx ams, a ∉ κ i) ∧ ¬ IsCch Γ Fz a then H a else none
theorem gP_of {a : Addr} {o : HO} (h : gP Γ Fz H κ ams a = some o) : H a = some o ∧ Fz a = none ∧ (∀ i ∈ ioIx ams, a ∉ κ i) ∧ ¬ IsCch Γ Fz a := by
  unfold gP at h
  split at h
  · rename_i c; exact ⟨h, c.1, c.2.1, c.2.2⟩
  · cases h
theorem gP_at {a : Addr} (h1 : Fz a = none) (h2 : ∀ i ∈ ioIx ams, a ∉ κ i) (h3 : ¬ IsCch Γ Fz a) : gP Γ Fz H κ ams a = H a := by
  unfold gP
  rw [if_pos ⟨h1, h2, h3⟩]
theorem FrK.noC {i : Nat} {a : Addr} (x : FrK Γ K g Fz H σ ρ κ) (h : a ∈ κ i) : ¬ IsCch Γ Fz a := fun z => (x.cch.out a z).2.2 i h
theorem FrK.noCP {a : Addr} {o : HO} (x : FrK Γ K g Fz H σ ρ κ) (h : g.P a = some o) : ¬ IsCch Γ Fz a := fun z => by
  have := (x.cch.out a z).2.1
  rw [h] at this; cases this
/-- the callee's ghost -/
noncomputable def gCall (Γ : Ct) (Fz H : Hp) (κ : Nat → List Addr) (ams : List Am) (vs : List V) : Gh where
  P := gP Γ Fz H κ ams
  B := fun j => match vs[j]? with
    | some (.ref a) => (match gP Γ Fz H κ ams a with
      | some (.lst xs) => some (a, xs)
      | _ => none)
    | _ => none
  sub := fun j a xs e => by
    split at e
    · rename_i b _
      split at e
      · rename_i ys h; cases e; exact h
      · cases e
    · cases e
  pin := fun j => (vs[j]?.getD .non, ka κ ams j)
theorem gCall_B {j : Nat} {a : Addr} {xs : List V} (h : vs[j]? = some (.ref a)) (h' : gP Γ Fz H κ ams a = some (.lst xs)) : (gCall Γ Fz H κ ams vs).B j = some (a, xs) := by
  show (match vs[j]? with
    | some (.ref a) => (match gP Γ Fz H κ ams a with
      | some (.lst xs) => some (a, xs)
      | _ => none)
    | _ => none) = _
  rw [h]
  simp only [h']
theorem FrK.call (x : FrK Γ K g Fz H σ ρ κ) (r : RAms Γ K σ Fz ams vs) (ok : amOk ams = true) (e : amSlots ρ ams = some as) : FrK Γ K (gCall Γ Fz H κ ams vs) Fz H (vs.map some) as (ka κ ams) := by
  obtain ⟨el, es⟩ := amSlots_spec e
  have nd := amOk_nd ok
  refine ⟨x.sub, fun a o h => let ⟨h1, h2, _⟩ := gP_of h; ⟨h1, h2⟩, by rw [List.length_map, r.len, el], fun j s hs => ?_, fun j a ha => ?_, fun j l a hj hl => ?_, x.cch.goC (Sub.refl _) (fun _ _ _ e => e) (fun a kvs hl hc h1 h2 h3 h4 => ⟨h1, h2, ?_, fun j hj => ?_⟩), x.tups⟩
  · have hj : j < ams.length := by have := (List.getElem?_eq_some_iff.mp hs).1; omega
    have hg : ams[j]? = some ams[j] := List.getElem?_eq_getElem hj
    obtain ⟨s', h1, h2⟩ := es j _ hg
    rw [hs] at h1; cases h1
    obtain ⟨v, hv, rv⟩ := r.at_ j _ hg
    have hσ : (vs.map some)[j]? = some (some v) := by rw [List.getElem?_map, hv]; rfl
    have hpin : (gCall Γ Fz H κ ams vs).pin j = (v, ka κ ams j) := by show (vs[j]?.getD .non, ka κ ams j) = _; rw [hv]; rfl
    have hk0 : (∀ i, ams[j] ≠ .io i) → ka κ ams j = [] := fun h => by
      unfold ka
      rw [hg]
      cases q : ams[j] with
      | io i => exact absurd q (h i)
      | val d => rfl
      | bor i => rfl
    cases ha : ams[j] with
    | val d =>
      rw [ha] at h2 rv
      cases h2
      exact ⟨hk0 (fun i z => by rw [ha] at z; cases z), v, hσ, rv⟩
    | io i =>
      rw [ha] at h2 rv hg
      have rv' : σ[i]? = some (some v) := rv
      rw [ka_io hg] at hpin ⊢
      simp only [amSlot] at h2
      cases q : ρ[i]? with
      | none => rw [q] at h2; cases h2
      | some t =>
        rw [q] at h2
        have z := x.slot i t q
        cases t with
        | own c =>
          cases h2
          obtain ⟨v', z1, z2⟩ := z
          rw [rv'] at z1; cases z1
          exact ⟨v, hσ, z2, hpin⟩
        | io c =>
          cases h2
          obtain ⟨v', z1, z2, _⟩ := z
          rw [rv'] at z1; cases z1
          exact ⟨v, hσ, z2, hpin⟩
        | emp => cases h2
        | raw => cases h2
        | fz _ => cases h2
        | bor _ => cases h2
    | bor i =>
      rw [ha] at h2 rv
      have rv' : σ[i]? = some (some v) := rv
      simp only [amSlot] at h2
      have hk := hk0 (fun i z => by rw [ha] at z; cases z)
      have cell : ∀ ds, CtOk Γ K Fz H (κ i) v (.lst ds) → SlotOk Γ K (gCall Γ Fz H κ ams vs) Fz H j (ka κ ams j) (vs.map some)[j]? (.bor ds) := fun ds z => by
        obtain ⟨a, xs, z1, rfl, z3, z4⟩ := z
        have hai : a ∈ κ i := by rw [z1]; simp
        obtain ⟨_, hz, _⟩ := x.fresh i a hai
        have hio : i ∉ ioIx ams := amOk_bor ok (by rw [hg, ha])
        · refine ⟨hk, a, xs, hσ, .inr (gCall_B hv ((gP_at hz (fun l hl hal => ?_) (x.noC hai)).trans z3)), z4⟩
          have := x.disj i l a hai hal
          subst this; exact hio hl
      cases q : ρ[i]? with
      | none => rw [q] at h2; cases h2
      | some t =>
        rw [q] at h2
        have z := x.slot i t q
        cases t with
        | own c =>
          cases c with
          | deal _ _ => cases h2
          | dic _ _ _ => cases h2
          | lst ds =>
            cases h2
            obtain ⟨v', z1, z2⟩ := z
            rw [rv'] at z1; cases z1
            exact cell ds z2
        | io c =>
          cases c with
          | deal _ _ => cases h2
          | dic _ _ _ => cases h2
          | lst ds =>
            cases h2
            obtain ⟨v', z1, z2, _⟩ := z
            rw [rv'] at z1; cases z1
            exact cell ds z2
        | bor ds =>
          cases h2
          obtain ⟨z0, a, xs, z1, z2, z3⟩ := z
          rw [rv'] at z1; cases z1
          refine ⟨hk, a, xs, hσ, ?_, z3⟩
          rcases z2 with z2 | z2
          · exact .inl z2
          · have hP := g.sub _ _ _ z2
            obtain ⟨p1, p2⟩ := x.prot a _ hP
            refine .inr (gCall_B hv ((gP_at p2 (fun l hl hal => ?_) (x.noCP hP)).trans p1))
            have := (x.fresh l a hal).2.2.1
            rw [hP] at this; cases this
        | emp => cases h2
        | raw => cases h2
        | fz _ => cases h2
  · obtain ⟨i, h1, h2⟩ := of_ka ha
    obtain ⟨_, q1, q2, q3⟩ := x.fresh i a h2
    refine ⟨by have := (List.getElem?_eq_some_iff.mp h1).1; omega, q1, ?_, q3⟩
    cases z : gP Γ Fz H κ ams a with
    | none => exact z
    | some o => exact absurd h2 ((gP_of z).2.2.1 i (ioIx_mem.mpr ⟨j, h1⟩))
  · obtain ⟨i, h1, h2⟩ := of_ka hj
    obtain ⟨i', h3, h4⟩ := of_ka hl
    have := x.disj i i' a h2 h4
    subst this
    exact ioIx_inj nd h1 h3
  · cases z : gP Γ Fz H κ ams a with
    | none => exact z
    | some o => exact absurd hc (gP_of z).2.2.2
  · obtain ⟨i, _, q⟩ := of_ka hj
    exact h4 i q
/-- behind the call: the caller's frame -/
theorem FrK.ret (x : FrK Γ K g Fz H σ ρ κ) (r : RAms Γ K σ Fz ams vs) (ok : amOk ams = true) (s : Sub Fz Fz') (y : FrK Γ K (gCall Γ Fz H κ ams vs) Fz' H' (vs.map some) as' κ2) (e : putBack ams as' ρ = some ρ2) :
    FrK Γ K g Fz' H' σ ρ2 κ ∧ ∀ i ∈ ioIx ams, ∃ j, κ2 j = κ i := by
  have nd := amOk_nd ok
  obtain ⟨el, eo, ei⟩ := putBack_spec e nd
  -- what was handed in to be changed
  have io : ∀ i, i ∈ ioIx ams → ∃ j c v, ams[j]? = some (Am.io i) ∧ as'[j]? = some (Slot.io c) ∧ vs[j]? = some v ∧ σ[i]? = some (some v) ∧ CtOk Γ K Fz' H' (κ i) v c ∧ κ2 j = κ i ∧ ∀ t, ρ[i]? = some t → ρ2[i]? = some (putS t c) := fun i hi => by
    obtain ⟨j, hj⟩ := ioIx_mem.mp hi
    obtain ⟨c, h1, h2⟩ := ei j i hj
    obtain ⟨v, hv, rv⟩ := r.at_ j _ hj
    obtain ⟨w, q1, q2, q3⟩ := y.slot j _ h1
    have hσ : (vs.map some)[j]? = some (some v) := by rw [List.getElem?_map, hv]; rfl
    rw [hσ] at q1; cases q1
    have hk : ka κ ams j = κ2 j := (Prod.mk.inj q3).2
    rw [ka_io hj] at hk
    exact ⟨j, c, v, hj, h1, hv, rv, by rw [hk]; exact q2, hk.symm, h2⟩
  have keep : ∀ a o, H a = some o → Fz a = none → (∀ i ∈ ioIx ams, a ∉ κ i) → ¬ IsCch Γ Fz a → H' a = some o ∧ Fz' a = none := fun a o h1 h2 h3 h4 => y.prot a o ((gP_at h2 h3 h4).trans h1)
  have old : ∀ a o, H a = some o → Fz a = none → (∀ i ∈ ioIx ams, a ∉ κ i) → IsCch Γ Fz' a → IsCch Γ Fz a := fun a o h1 h2 h3 h4 => by
    by_cases h5 : IsCch Γ Fz a
    · exact h5
    · have := (y.cch.out a h4).2.1
      rw [show (gCall Γ Fz H κ ams vs).P a = some o from (gP_at h2 h3 h5).trans h1] at this
      cases this
  have cc : Cch Γ K g.P Fz' H' κ := ⟨y.cch.at_, fun a ha => by
    obtain ⟨c1, c2, c3⟩ := y.cch.out a ha
    refine ⟨c1, ?_, fun i hi => ?_⟩
    · cases q : g.P a with
      | none => rfl
      | some o =>
        obtain ⟨h1, h2⟩ := x.prot a o q
        refine absurd (old a o h1 h2 (fun i hi hai => ?_) ha) (x.noCP q)
        have := (x.fresh i a hai).2.2.1
        rw [q] at this; cases this
    · by_cases hx : i ∈ ioIx ams
      · obtain ⟨j, c, v, _, _, _, _, _, h6, _⟩ := io i hx
        exact c3 j (by rw [h6]; exact hi)
      · obtain ⟨_, h1, _, o, h2⟩ := x.fresh i a hi
        exact x.noC hi (old a o h2 h1 (fun l hl hal => hx (by rw [x.disj i l a hi hal]; exact hl)) ha), y.cch.inj, y.cch.tab⟩
  refine ⟨⟨y.sub, fun a o h => ?_, by rw [el]; exact x.len, fun i t ht => ?_, fun i a ha => ?_, x.disj, cc, y.tups⟩, fun i hi => ?_⟩
  · obtain ⟨h1, h2⟩ := x.prot a o h
    refine keep a o h1 h2 (fun i hi ha => ?_) (x.noCP h)
    have := (x.fresh i a ha).2.2.1
    rw [h] at this; cases this
  · by_cases hi : i ∈ ioIx ams
    · obtain ⟨j, c, v, h1, h2, h3, h4, h5, h6, h7⟩ := io i hi
      have hlt : i < ρ.length := by have := (List.getElem?_eq_some_iff.mp ht).1; omega
      have hg : ρ[i]? = some ρ[i] := List.getElem?_eq_getElem hlt
      have z := x.slot i _ hg
      rw [h7 _ hg] at ht
      cases q : ρ[i] with
      | own c0 =>
        rw [q] at ht
        cases ht
        exact ⟨v, h4, h5⟩
      | io c0 =>
        rw [q] at ht z
        cases ht
        obtain ⟨w, z1, z2, z3⟩ := z
        rw [h4] at z1; cases z1
        exact ⟨v, h4, h5, z3⟩
      | emp => rw [q] at ht z; cases ht; exact z
      | raw => rw [q] at ht z; cases ht; exact z
      | fz d => rw [q] at ht z; cases ht; exact ⟨z.1, let ⟨v, a1, a2⟩ := z.2; ⟨v, a1, a2.mono s⟩⟩
      | bor ds => rw [q] at ht z; cases ht; exact ⟨z.1, let ⟨a, xs, a1, a2, a3⟩ := z.2; ⟨a, xs, a1, a2.imp (s _ _) id, a3.mono s⟩⟩
    · rw [eo i hi] at ht
      refine (x.slot i t ht).mono s fun a ha => ?_
      obtain ⟨_, h1, _, o, h2⟩ := x.fresh i a ha
      rw [h2, (keep a o h2 h1 (fun l hl hal => hi (by rw [x.disj i l a ha hal]; exact hl)) (x.noC ha)).1]
  · obtain ⟨h0, h1, h2, o, h3⟩ := x.fresh i a ha
    refine ⟨by rw [el]; exact h0, ?_⟩
    by_cases hi : i ∈ ioIx ams
    · obtain ⟨j, c, v, _, _, _, _, _, h6, _⟩ := io i hi
      obtain ⟨_, q1, _, q3⟩ := y.fresh j a (by rw [h6]; exact ha)
      exact ⟨q1, h2, q3⟩
    · obtain ⟨k1, k2⟩ := keep a o h3 h1 (fun l hl hal => hi (by rw [x.disj i l a ha hal]; exact hl)) (x.noC ha)
      exact ⟨k2, h2, o, k1⟩
  · obtain ⟨j, c, v, _, _, _, _, _, h6, _⟩ := io i hi
    exact ⟨j, h6⟩
theorem FrK.add0 {p : Addr} {o : HO} (x : FrK Γ K g Fz H σ ρ κ) (h1 : H p = some o) (h2 : Fz p = none) (h3 : ∀ i, p ∉ κ i) (h4 : g.P p = none) (h5 : ¬ IsCch Γ Fz p) : FrK Γ K (g.more p o) Fz H σ ρ κ := by
  refine ⟨x.sub, fun a u h => ?_, x.len, fun i t h => (x.slot i t h).more h4, fun i a ha => ?_, x.disj, x.cch.goC (Sub.refl _) (fun _ _ _ e => e) fun a kvs hl hc q1 q2 q3 q4 => ⟨q1, q2, by show upd g.P p o a = none; rw [upd_ne (fun e => by subst e; exact h5 hc)]; exact q3, q4⟩, x.tups⟩
  · have h' : upd g.P p o a = some u := h
    by_cases e : a = p
    · subst e; rw [upd_same] at h'; cases h'; exact ⟨h1, h2⟩
    · rw [upd_ne e] at h'; exact x.prot a u h'
  · obtain ⟨q0, q1, q2, q3⟩ := x.fresh i a ha
    refine ⟨q0, q1, ?_, q3⟩
    show upd g.P p o a = none
    rw [upd_ne (fun e => by subst e; exact h3 i ha)]; exact q2
theorem FrK.retMore {p : Addr} {o : HO} (x : FrK Γ K g Fz H σ ρ κ) (r : RAms Γ K σ Fz ams vs) (ok : amOk ams = true) (s : Sub Fz Fz') (hp : (gCall Γ Fz H κ ams vs).P p = none)
    (y : FrK Γ K ((gCall Γ Fz H κ ams vs).more p o) Fz' H' (vs.map some) as' κ2) (e : putBack ams as' ρ = some ρ2) : g.P p = none ∧ FrK Γ K (g.more p o) Fz' H' σ ρ2 κ := by
  obtain ⟨z, hio⟩ := x.ret r ok s (y.drop0 hp) e
  obtain ⟨h1, h2⟩ := y.at0
  have hcell : ∀ i, p ∉ κ i := fun i hi => by
    obtain ⟨_, q1, _, u, q3⟩ := x.fresh i p hi
    by_cases hx : i ∈ ioIx ams
    · obtain ⟨j, hj⟩ := hio i hx
      have w : upd (gCall Γ Fz H κ ams vs).P p o p = none := (y.fresh j p (by rw [hj]; exact hi)).2.2.1
      rw [upd_same] at w; cases w
    · have w : gP Γ Fz H κ ams p = none := hp
      rw [gP_at q1 (fun l hl hal => hx (by rw [x.disj i l p hi hal]; exact hl)) (x.noC hi), q3] at w
      cases w
  have hg : g.P p = none := by
    cases q : g.P p with
    | none => rfl
    | some u =>
      obtain ⟨a1, a2⟩ := x.prot p u q
      have w : gP Γ Fz H κ ams p = none := hp
      rw [gP_at a2 (fun l hl hal => by have := (x.fresh l p hal).2.2.1; rw [q] at this; cases this) (x.noCP q), a1] at w
      cases w
  have hic : ¬ IsCch Γ Fz' p := fun hc => by
    have w : upd (gCall Γ Fz H κ ams vs).P p o p = none := (y.cch.out p hc).2.1
    rw [upd_same] at w; cases w
  exact ⟨hg, z.add0 h1 h2 hcell hg hic⟩
theorem call_goes {P : Fn} {Q : VK} (x : Fr Γ K g Fz H σ ρ) (r : RAms Γ K σ Fz ams vs) (q : Goes Γ K W g Fz σ (RE Γ K) (fCall P ams ρ) Q) : spF Γ K P ams.length vs H Q (WE W σ) := by
  obtain ⟨κ, x⟩ := x
  unfold fCall at q
  by_cases ok : amOk ams = true
  · rw [if_pos ok] at q
    cases e : amSlots ρ ams with
    | none => rw [e] at q; exact q.elim
    | some as =>
      rw [e, Option.bind_some] at q
      refine ⟨r.len, gCall Γ Fz H κ ams vs, Fz, as, ⟨_, x.call r ok e⟩, ?_⟩
      cases hP : P as with
      | none => simp only [hP] at q; exact q.elim
      | some o =>
        cases o with
        | ret d as' =>
          simp only [hP] at q
          intro v Fz' H' s ⟨κ2, y⟩ rep
          cases e2 : putBack ams as' ρ with
          | none => rw [e2] at q; exact q.elim
          | some ρ2 =>
            rw [e2] at q
            exact q v Fz' H' s ⟨κ, (x.ret r ok s y e2).1⟩ rep
        | exc c od as' =>
          simp only [hP] at q
          cases e2 : putBack ams as' ρ with
          | none => rw [e2] at q; exact q.elim
          | some ρ2 =>
            rw [e2] at q
            have q' : ExGo Γ K W g Fz σ c ρ2 od := q
            cases od with
            | none => exact fun Fz' H' s ⟨κ2, y⟩ => q' Fz' H' s ⟨κ, (x.ret r ok s y e2).1⟩
            | some d =>
              intro p v Fz' H' s hp ⟨κ2, y⟩ rep
              obtain ⟨z1, z2⟩ := x.retMore r ok s hp y e2
              exact q' p v Fz' H' s z1 ⟨κ, z2⟩ rep
  · rw [if_neg ok] at q; exact q.elim
end
end L3
namespace L3
open PySem PySem.Spec PyProof.Rows L2
/-- the room that a call has; b: that no display is under way -/
structure Rm (b : Bool) (k : Nat) (A : Around) : Prop where
  rm : Room k A
  gd : b = true → A.guards = some []
theorem Rm.mono {b : Bool} {j k : Nat} {A : Around} (r : Rm b k A) (h : j ≤ k) : Rm b j A := ⟨r.rm.mono h, r.gd⟩
theorem Rm.deeper {b : Bool} {k : Nat} {A : Around} (r : Rm b (k + 1) A) (env : PySem.Env) : Rm b k (A.deeper env) := ⟨r.rm.deeper env, r.gd⟩
/-- what a def promises, under that room -/
structure FnB (b : Bool) (P : Program) (w : World) (K : PySem.W.Frag) (mg : Str → Option Value) (base : Heap) (k : Nat) (f : Addr) (fd : FuncData) (ps : List Str) (sp : Sp) : Prop where
  len : ∀ vs H Q E, sp vs H Q E → vs.length = ps.length
  run : ∀ (A : Around) (outer : List PySem.Env) (s : Shared) (H : Hp) (args : Args) (us : List Value) (vs : List V) (Q : VK) (E : XK), Rm b k A →
    Env0 P w K mg base A outer s H → BindsTo s fd args (ps.zip us) → Vals vs us → sp vs H Q E → codeAny (model P w) A (.call (.ref f) args) (CR (L2.CX P w) outer P w H s Q E) s
theorem FnB.mono {b : Bool} {P : Program} {w : World} {K : PySem.W.Frag} {mg : Str → Option Value} {base : Heap} {j k : Nat} {f : Addr} {fd : FuncData} {ps : List Str} {sp : Sp} (F : FnB b P w K mg base j f fd ps sp) (h : j ≤ k) : FnB b P w K mg base k f fd ps sp :=
  ⟨F.len, fun A outer s H args us vs Q E r => F.run A outer s H args us vs Q E (r.mono h)⟩
def endA : List Slot → Env → List Slot
  | [], _ => []
  | a :: as, ρ => (match a, ρ.head? with
    | .io _, some (.io c) => .io c
    | _, _ => .emp) :: endA as ρ.tail
def fnOf (n : Nat) (body : MS) : Fn := fun as => match body (as ++ List.replicate (n - as.length) .emp) with
  | some (.nx ρ') => some (.ret .non (endA as ρ'))
  | some (.rt d ρ') => some (.ret d (endA as ρ'))
  | some (.exc c d ρ') => some (.exc c d (endA as ρ'))
  | _ => none
theorem endA_len : ∀ (as : List Slot) (ρ : Env), (endA as ρ).length = as.length
  | [], _ => rfl
  | a :: as, ρ => by simp [endA, endA_len as ρ.tail]
theorem endA_at : ∀ {as : List Slot} {ρ : Env} {j : Nat} {s : Slot}, (endA as ρ)[j]? = some s → s = .emp ∨ ∃ c c0, s = .io c ∧ ρ[j]? = some (.io c) ∧ as[j]? = some (Slot.io c0)
  | [], ρ, j, s, h => by simp [endA] at h
  | a :: as, ρ, 0, s, h => by
    simp only [endA, List.getElem?_cons_zero, Option.some.injEq] at h
    cases ρ with
    | nil => left; cases a <;> exact h.symm
    | cons t ρ =>
      cases a with
      | io c0 =>
        cases t with
        | io c => right; exact ⟨c, c0, h.symm, rfl, rfl⟩
        | _ => left; exact h.symm
      | _ => left; exact h.symm
  | a :: as, ρ, j + 1, s, h => by
    simp only [endA, List.getElem?_cons_succ] at h
    rcases endA_at h with q | ⟨c, c0, q1, q2, q3⟩
    · exact .inl q
    · refine .inr ⟨c, c0, q1, ?_, by simpa using q3⟩
      cases ρ with
      | nil => simp at q2
      | cons t ρ => simpa using q2
section
variable {Γ : Ct} {K : PySem.W.Frag} {g g' : Gh} {Fz Fz' H H' : Hp} {σ σ' : L2.St} {ρ ρ' : Env} {as : List Slot} {vs : List V} {N : List Str}
theorem Fr.start (x : Fr Γ K g Fz H (vs.map some) as) (hn : vs.length ≤ N.length) : Fr Γ K g Fz H (L2.start N vs) (as ++ List.replicate (N.length - as.length) .emp) := by
  obtain ⟨κ, x⟩ := x
  have hl : as.length = vs.length := by have := x.len; rw [List.length_map] at this; exact this.symm
  refine ⟨κ, ⟨x.sub, x.prot, ?_, fun i s hs => ?_, fun i a ha => ?_, x.disj, x.cch, x.tups⟩⟩
  · unfold L2.start
    simp [hl]
  · by_cases hi : i < as.length
    · rw [List.getElem?_append_left hi] at hs
      have hv : (L2.start N vs)[i]? = (vs.map some)[i]? := by
        unfold L2.start
        rw [List.getElem?_append_left (by rw [List.length_map]; omega)]
      rw [hv]
      exact x.slot i s hs
    · rw [List.getElem?_append_right (by omega), List.getElem?_replicate] at hs
      split at hs
      · cases hs
        cases q : κ i with
        | nil => rfl
        | cons a r => exact absurd (x.fresh i a (by rw [q]; simp)).1 (by omega)
      · cases hs
  · obtain ⟨q0, q1⟩ := x.fresh i a ha
    exact ⟨by rw [List.length_append]; omega, q1⟩
theorem Fr.fin (x : Fr Γ K g Fz H (vs.map some) as) (y : Fr Γ K g' Fz' H' σ' ρ') (hp : g'.pin = g.pin) : Fr Γ K g' Fz' H' (vs.map some) (endA as ρ') := by
  obtain ⟨κ, x⟩ := x
  obtain ⟨κ2, y⟩ := y
  have hl := x.len
  refine ⟨fun j => match (endA as ρ')[j]? with
    | some (.io _) => κ2 j
    | _ => [], ⟨y.sub, y.prot, by rw [hl, endA_len], fun j s hs => ?_, fun j a ha => ?_, fun j l a hj hl => ?_, y.cch.go (Sub.refl _) (fun _ _ _ e => e) fun a kvs hl q1 q2 q3 q4 => ⟨q1, q2, q3, fun j hj => ?_⟩, y.tups⟩⟩
  · rcases endA_at hs with rfl | ⟨c, c0, rfl, h1, h2⟩
    · simp only [hs]; rfl
    · simp only [hs]
      obtain ⟨v, p1, p2, p3⟩ := y.slot j _ h1
      obtain ⟨v0, q1, q2, q3⟩ := x.slot j _ h2
      rw [hp, q3] at p3
      obtain ⟨e1, e2⟩ := Prod.mk.inj p3
      subst e1
      exact ⟨v0, q1, p2, by rw [hp, q3, e2]⟩
  · cases q : (endA as ρ')[j]? with
    | none => simp only [q] at ha; cases ha
    | some s =>
      simp only [q] at ha
      cases s with
      | io c =>
        obtain ⟨_, q1⟩ := y.fresh j a ha
        exact ⟨(List.getElem?_eq_some_iff.mp q).1, q1⟩
      | emp => cases ha
      | raw => cases ha
      | fz _ => cases ha
      | own _ => cases ha
      | bor _ => cases ha
  · cases q : (endA as ρ')[j]? with
    | none => simp only [q] at hj; cases hj
    | some s =>
      cases q2 : (endA as ρ')[l]? with
      | none => simp only [q2] at hl; cases hl
      | some t =>
        simp only [q] at hj
        simp only [q2] at hl
        cases s with
        | io c =>
          cases t with
          | io c2 => exact y.disj j l a hj hl
          | emp => cases hl
          | raw => cases hl
          | fz _ => cases hl
          | own _ => cases hl
          | bor _ => cases hl
        | emp => cases hj
        | raw => cases hj
        | fz _ => cases hj
        | own _ => cases hj
        | bor _ => cases hj
  · cases q : (endA as ρ')[j]? with
    | none => simp only [q] at hj; cases hj
    | some s =>
      simp only [q] at hj
      cases s with
      | io c => exact q4 j hj
      | emp => cases hj
      | raw => cases hj
      | fz _ => cases hj
      | own _ => cases hj
      | bor _ => cases hj
/-- a body, run at the parameters -/
theorem body_run {t : TS} {m : MS} {Q : VK} {E : XK} {n : Nat} (h : RdS Γ K (fun cls d _ H => E cls d H) t m) (hn : n ≤ N.length) (q : spF Γ K (fnOf N.length m) n vs H Q E) :
    t { nx := fun _ H' => Q .non H', rt := Q } (L2.start N vs) H := by
  obtain ⟨hl, g, Fz, as, x, q⟩ := q
  refine h g Fz H _ _ _ (x.start (by omega)) ?_
  unfold fnOf at q
  cases e : m (as ++ List.replicate (N.length - as.length) .emp) with
  | none => simp only [e] at q; exact q
  | some o =>
    simp only [e] at q
    cases o with
    | nx ρ' => exact fun σ' Fz' H' s y => q .non Fz' H' s (x.fin y rfl) .non
    | rt d ρ' => exact fun v σ' Fz' H' s y r => q v Fz' H' s (x.fin y rfl) r
    | bk ρ' => exact q.elim
    | ct ρ' => exact q.elim
    | exc c od ρ' =>
      cases od with
      | none => exact fun σ' Fz' H' s y => q Fz' H' s (x.fin y rfl)
      | some d => exact fun σ' p v Fz' H' s hp y r => q p v Fz' H' s hp (x.fin y rfl) r
end
section
variable {b : Bool} {Γ : Ct} {P : Program} {w : World} {K : PySem.W.Frag} {mg : Str → Option Value} {base : Heap}
theorem fnB_ofC {x qual : Str} {st : Stmt} {f : Addr} {fd : FuncData} {N ps : List Str} {k : Nat} {m : MS} (F : Fun K x qual st f fd) (S : FnScope N ps (defScope st))
    (hbody : ∀ (cdv : Value), fd.code = cdv → ∀ (A : Around) (outer : List PySem.Env) (s : Shared) (H : Hp) (E : XK), Rm b k (A.deeper (envOfC qual (defScope st) s.heap.objs.size f cdv)) →
      ∃ t, DSs Γ (fun cls d _ H => E cls d H) (cxOf (L2.CX P w) P w K mg base N qual (defScope st) f cdv A outer s H E) (defBody st) t m) : FnB b P w K mg base (k + 1) f fd ps (spF Γ K (fnOf N.length m) ps.length) := by
  obtain ⟨oc, od, kV, doc, pm, an, cdv, ct, osl, rfl, lk, hcd⟩ := F.ex
  refine ⟨spF_len, fun A outer s H args us vs Q E r0 e0 bind rv prom => ?_⟩
  have inHeap : K.In s.heap := e0.mod.kin.keeps fun a o z => (e0.bs a o z).1
  have noLim : s.heap.NoLimit := e0.mod.nolimit.keeps fun a o z => (e0.bs a o z).1
  have kinds : ∀ y ∈ ps.zip us, (defScope st).names.lookup y.1 = some .local ∨ ((defScope st).names.lookup y.1 = some .cell ∧ ((cellsFrom (s.heap.objs.size + 1) (defScope st).names []).lookup y.1).isSome = true) := fun y hy =>
    (S.par y.1 (List.of_mem_zip (a := y.1) (b := y.2) hy).1).imp id fun q => ⟨q, PySem.W.cellsFrom_some _ _ _ (.inl q)⟩
  have pn : ps.length ≤ N.length := by have z := congrArg List.length S.pre; rw [List.length_take] at z; omega
  refine codeAny_call_function r0.rm.depth (inHeap _ _ lk) rfl S.co S.gen rfl (PySem.W.codeRec_of inHeap hcd) (bind _ _ _ _ (wpAny_newFunctionEnv_cells S.kind kinds fun env he s1 ic => ?_))
  subst he
  obtain ⟨t, D⟩ := hbody cdv rfl A outer s H E (r0.deeper _)
  have start : Inv (cxOf (L2.CX P w) P w K mg base N qual (defScope st) f cdv A outer s H E) [] (L2.start N vs) H s1 := inv_start S r0.rm.hd e0 (spF_len _ _ _ _ prom) rv ic
  refine ⟨noLim.keeps ic.toInCall.keep, codeAny_func (wpAny_mono (D.ps.run [] s1 _ H _ start (body_run D.rd pn prom)) (fun fl s' z => ?_) fun e s' z => z)⟩
  match fl, z with
  | .ret u, ⟨v, σ', H', J, rel, z⟩ => exact ⟨v, H', J.os, J.bare, J.base, J.hok, rel, z⟩
  | .next, ⟨σ', H', J, z⟩ => exact ⟨.non, H', J.os, J.bare, J.base, J.hok, rfl, z⟩
  | .brk, ⟨_, _, _, z⟩ => exact False.elim z
  | .cont, ⟨_, _, _, z⟩ => exact False.elim z
theorem fnB_of {x qual : Str} {st : Stmt} {f : Addr} {fd : FuncData} {N ps : List Str} {k : Nat} {m : MS} (F : Fun K x qual st f fd) (S : FnScope N ps (defScope st))
    (hbody : ∀ (cdv : Value) (A : Around) (outer : List PySem.Env) (s : Shared) (H : Hp) (E : XK), Rm b k (A.deeper (envOfC qual (defScope st) s.heap.objs.size f cdv)) →
      ∃ t, DSs Γ (fun cls d _ H => E cls d H) (cxOf (L2.CX P w) P w K mg base N qual (defScope st) f cdv A outer s H E) (defBody st) t m) : FnB b P w K mg base (k + 1) f fd ps (spF Γ K (fnOf N.length m) ps.length) := fnB_ofC F S fun cdv _ => hbody cdv
end
section
variable {b : Bool} {Γ : Ct} {W : WX} {X : Cx} {k : Nat} {f : Addr} {fd : FuncData} {ps ks : List Str} {sp : Sp} {x : Str} {p pos : Pos} {e : Expr} {es : List Expr} {kws : List Keyword} {t : TA}
theorem run_B {E : L2.St → XK} {pins : List (Addr × Obj)} {σ : L2.St} {H : Hp} {s : Shared} {Q : VK} {us : List Value} {vs : List V} {args : Args} (F : FnB b X.prog X.w X.K X.mg X.base k f fd ps sp) (hr : Rm b k X.A) (hb : BindsTo s fd args (ps.zip us))
    (hx : PassesAt (L2.CX X.prog X.w) X σ (E σ)) (I : Inv X pins σ H s) (r : Vals vs us) (h : sp vs H Q (E σ)) : codeAny (model X.prog X.w) X.A (.call (.ref f) args) (fun r s' => match r with
      | .ok (.ret u) => EP X pins σ Q u s'
      | .ok _ => False
      | .error e => X.xe e s') s := by
  refine codeAny_mono (F.run X.A X.stack s H args us vs Q (E σ) hr I.env0 hb r h) fun o s' z => ?_
  match o, z with
  | .error e, z => exact hx pins H s e s' I z
  | .ok (.ret u), z => exact I.after z
def RdAm (Γ : Ct) (K : PySem.W.Frag) (W : WX) (t : TA) (m : M (List Am)) : Prop := ∀ g Fz H σ ρ Q, Fr Γ K g Fz H σ ρ → Goes Γ K W g Fz σ (fun Fz ams vs => RAms Γ K σ Fz ams vs) (m ρ) Q → t σ H Q
structure DAm (Γ : Ct) (W : WX) (X : Cx) (es : List Expr) (t : TA) (m : M (List Am)) : Prop where
  pe : PA X es t
  rd : RdAm Γ X.K W t m
structure DKw (Γ : Ct) (W : WX) (X : Cx) (kws : List Keyword) (t : TA) (m : M (List Am)) : Prop where
  pe : PK X kws t
  rd : RdAm Γ X.K W t m
theorem RAm.mono {K : PySem.W.Frag} {σ : L2.St} {Fz Fz1 : Hp} {am : Am} {v : V} (s : Sub Fz Fz1) (r : RAm Γ K σ Fz am v) : RAm Γ K σ Fz1 am v := by
  cases am with
  | val d => exact Rep.mono s r
  | io i => exact r
  | bor i => exact r
theorem RAms.nil {K : PySem.W.Frag} {σ : L2.St} {Fz : Hp} : RAms Γ K σ Fz [] [] := ⟨rfl, fun j am h => by simp at h⟩
theorem RAms.cons {K : PySem.W.Frag} {σ : L2.St} {Fz Fz1 : Hp} {am : Am} {ams : List Am} {v : V} {vs : List V} (s : Sub Fz Fz1) (r : RAm Γ K σ Fz am v) (rs : RAms Γ K σ Fz1 ams vs) : RAms Γ K σ Fz1 (am :: ams) (v :: vs) := by
  refine ⟨by simp [rs.len], fun j a h => ?_⟩
  cases j with
  | zero => simp at h; subst h; exact ⟨v, rfl, r.mono s⟩
  | succ j => exact rs.at_ j a (by simpa using h)
def mANil : M (List Am) := M.ret []
def mACons (m : M Am) (ms : M (List Am)) : M (List Am) := m.bind fun a => ms.bind fun as => M.ret (a :: as)
def mVal (m : M D) : M Am := m.bind fun d => M.ret (.val d)
def mIo (i : Nat) : M Am := fun ρ => match ρ[i]? with
  | some (.own _) => some (.ok (.io i) ρ)
  | some (.io _) => some (.ok (.io i) ρ)
  | _ => none
def mBor (i : Nat) : M Am := fun ρ => match ρ[i]? with
  | some (.own _) => some (.ok (.bor i) ρ)
  | some (.io _) => some (.ok (.bor i) ρ)
  | some (.bor _) => some (.ok (.bor i) ρ)
  | _ => none
def RdA1 (Γ : Ct) (K : PySem.W.Frag) (W : WX) (t : TE) (m : M Am) : Prop := ∀ g Fz H σ ρ Q, Fr Γ K g Fz H σ ρ → Goes Γ K W g Fz σ (fun Fz am v => RAm Γ K σ Fz am v) (m ρ) Q → t σ H Q
structure DA1 (Γ : Ct) (W : WX) (X : Cx) (e : Expr) (t : TE) (m : M Am) : Prop where
  pe : PE X e t
  rd : RdA1 Γ X.K W t m
theorem rd_aNil {K : PySem.W.Frag} : RdAm Γ K W tNil mANil := fun g Fz H σ ρ Q x q => q [] Fz H (Sub.refl _) x RAms.nil
theorem rd_aCons {K : PySem.W.Frag} {te : TE} {m : M Am} {ms : M (List Am)} (h : RdA1 Γ K W te m) (hs : RdAm Γ K W t ms) : RdAm Γ K W (tCons te t) (mACons m ms) := fun g Fz H σ ρ Q x q =>
  h g Fz H σ ρ _ x (Goes.bind q fun a ρ1 v Fz1 H1 s1 x1 r1 q1 => hs g Fz1 H1 σ ρ1 _ x1 (Goes.bind q1 fun as ρ2 vs Fz2 H2 s2 x2 r2 q2 => q2 (v :: vs) Fz2 H2 (Sub.refl _) x2 (RAms.cons s2 r1 r2)))
theorem rd_aVal {K : PySem.W.Frag} {te : TE} {m : M D} (h : RdE Γ K W te m) : RdA1 Γ K W te (mVal m) := fun g Fz H σ ρ Q x q =>
  h g Fz H σ ρ _ x (Goes.bind q fun a ρ1 v Fz1 H1 s1 x1 r1 q1 => q1 v Fz1 H1 (Sub.refl _) x1 r1)
theorem rd_aIo {K : PySem.W.Frag} (i : Nat) : RdA1 Γ K W (tVar i) (mIo i) := fun g Fz H σ ρ Q x q => by
  obtain ⟨κ, y⟩ := x
  simp only [mIo] at q
  cases hs : ρ[i]? with
  | none => simp only [hs] at q; exact q.elim
  | some s =>
    have z := y.slot i s hs
    cases s with
    | own c => obtain ⟨v, h1, _⟩ := z; simp only [hs] at q; exact ⟨v, h1, q v Fz H (Sub.refl _) ⟨κ, y⟩ h1⟩
    | io c => obtain ⟨v, h1, _⟩ := z; simp only [hs] at q; exact ⟨v, h1, q v Fz H (Sub.refl _) ⟨κ, y⟩ h1⟩
    | emp => simp only [hs] at q; exact q.elim
    | raw => simp only [hs] at q; exact q.elim
    | fz _ => simp only [hs] at q; exact q.elim
    | bor _ => simp only [hs] at q; exact q.elim
theorem rd_aBor {K : PySem.W.Frag} (i : Nat) : RdA1 Γ K W (tVar i) (mBor i) := fun g Fz H σ ρ Q x q => by
  obtain ⟨κ, y⟩ := x
  simp only [mBor] at q
  cases hs : ρ[i]? with
  | none => simp only [hs] at q; exact q.elim
  | some s =>
    have z := y.slot i s hs
    cases s with
    | own c => obtain ⟨v, h1, _⟩ := z; simp only [hs] at q; exact ⟨v, h1, q v Fz H (Sub.refl _) ⟨κ, y⟩ h1⟩
    | io c => obtain ⟨v, h1, _⟩ := z; simp only [hs] at q; exact ⟨v, h1, q v Fz H (Sub.refl _) ⟨κ, y⟩ h1⟩
    | bor c => obtain ⟨_, a, _, h1, _⟩ := z; simp only [hs] at q; exact ⟨_, h1, q _ Fz H (Sub.refl _) ⟨κ, y⟩ h1⟩
    | emp => simp only [hs] at q; exact q.elim
    | raw => simp only [hs] at q; exact q.elim
    | fz _ => simp only [hs] at q; exact q.elim
theorem am_nil : DAm Γ W X [] tNil mANil := ⟨pa_nil, rd_aNil⟩
theorem am_cons {te : TE} {m : M Am} {ms : M (List Am)} (h : DA1 Γ W X e te m) (hs : DAm Γ W X es t ms) (he : starEach (e :: es) X.env = (false, eval e X.env) :: starEach es X.env := by rfl) : DAm Γ W X (e :: es) (tCons te t) (mACons m ms) := ⟨pa_cons h.pe hs.pe he, rd_aCons h.rd hs.rd⟩
theorem kw_nil : DKw Γ W X [] tNil mANil := ⟨pk_nil, rd_aNil⟩
theorem kw_cons {te : TE} {m : M Am} {ms : M (List Am)} {nm : Option Str} {kpos : Pos} (h : DA1 Γ W X e te m) (hs : DKw Γ W X kws t ms) : DKw Γ W X (⟨nm, e, kpos⟩ :: kws) (tCons te t) (mACons m ms) := ⟨pk_cons h.pe hs.pe, rd_aCons h.rd hs.rd⟩
theorem v_e {te : TE} {m : M D} (h : DE Γ W X e te m) : DA1 Γ W X e te (mVal m) := ⟨h.pe, rd_aVal h.rd⟩
theorem v_io (i : Nat) {x : Str} (hN : X.N[i]? = some x := by rfl) (hv : Vis X.env.scope x := by first | exact Or.inl rfl | exact Or.inr (Or.inl rfl) | exact Or.inr (Or.inr rfl)) (hd : (x == ("__debug__" : Str)) = false := by decide)
    (hcd : (x == ("__classdict__" : Str)) = false := by decide) : DA1 Γ W X (.Name x pos) (tVar i) (mIo i) := ⟨pe_var hN hv hd hcd, rd_aIo i⟩
theorem v_bor (i : Nat) {x : Str} (hN : X.N[i]? = some x := by rfl) (hv : Vis X.env.scope x := by first | exact Or.inl rfl | exact Or.inr (Or.inl rfl) | exact Or.inr (Or.inr rfl)) (hd : (x == ("__debug__" : Str)) = false := by decide)
    (hcd : (x == ("__classdict__" : Str)) = false := by decide) : DA1 Γ W X (.Name x pos) (tVar i) (mBor i) := ⟨pe_var hN hv hd hcd, rd_aBor i⟩
def mCall (P : Fn) (n : Nat) (m : M (List Am)) : M D := m.bind fun ams => if ams.length = n then fCall P ams else fun _ => none
theorem rd_call {K : PySem.W.Frag} {P : Fn} {n : Nat} {m : M (List Am)} (h : RdAm Γ K W t m) : RdE Γ K W (tCallS (spF Γ K P n) (WE W) t) (mCall P n m) := fun g Fz H σ ρ Q x q =>
  h g Fz H σ ρ _ x (Goes.bind q fun ams ρ1 vs Fz1 H1 s1 x1 r1 q1 => by
    by_cases hl : ams.length = n
    · rw [if_pos hl] at q1
      subst hl
      exact call_goes x1 r1 q1
    · rw [if_neg hl] at q1; exact q1.elim)
/-- f(e, ..) of the text -/
theorem e_call {P : Fn} {m : M (List Am)} (F : FnB b X.prog X.w X.K X.mg X.base k f fd ps (spF Γ X.K P ps.length)) (hr : Rm b k X.A) (tk : Takes X W) (hm : X.mg x = some (.ref f)) (hk : PySem.W.keepIn X.K (.ref f) = true) (hb : Binds X.K fd ps [])
    (ha : DAm Γ W X (e :: es) t m) (hg : Gl X x := by rfl) (hdb : (x == ("__debug__" : Str)) = false := by decide) (he : starEach (e :: es) X.env = (false, eval e X.env) :: starEach es X.env := by rfl) (hpl : (backTo pos (starEach es X.env)).any (·.1) = false := by rfl) :
    DE Γ W X (.Call (.Name x p) (e :: es) [] pos) (tCallS (spF Γ X.K P ps.length) (WE W) t) (mCall P ps.length m) := by
  refine ⟨⟨fun pins s σ H Q I prom => wpAny_Call_Name_kw (ld_glob I hg hm ?_ hdb)⟩, rd_call ha.rd⟩
  refine PySem.W.callWith_K (h₀ := X.base) I.ok.mod.kin hk (thn (ha.pe.run pos pins s σ H _ I prom) fun us s1 z => ?_) he hpl
  obtain ⟨vs, H1, I1, rel, prom1⟩ := z
  have hl : (us ++ []).length = ps.length := by rw [List.append_nil, ← rel.length]; exact F.len _ _ _ _ prom1
  have bd := hb s1 us I1.kIn hl
  rw [List.append_nil] at bd
  refine ⟨I1.kIn, wpAny_call (codeAny_mono (run_B F hr bd (passAt tk σ) I1 rel prom1) fun o s' z => ?_)⟩
  match o, z with
  | .error e, z => exact z
  | .ok (.ret u), z => exact z
def pick {α : Type} (prm : List Nat) (xs : List α) : List α := prm.filterMap fun i => xs[i]?
theorem vals_pick {vs : List V} {us : List Value} (r : Vals vs us) : ∀ prm : List Nat, Vals (pick prm vs) (pick prm us)
  | [] => .nil
  | i :: prm => by
    have ih := vals_pick r prm
    unfold pick at ih ⊢
    simp only [List.filterMap_cons]
    cases q : vs[i]? with
    | none =>
      have h1 : us[i]? = none := List.getElem?_eq_none (by rw [← r.length]; exact List.getElem?_eq_none_iff.mp q)
      rw [h1]; exact ih
    | some v =>
      obtain ⟨u, hu, rv⟩ := r.get q
      rw [hu]; exact .cons rv ih
theorem RAms.pick {K : PySem.W.Frag} {σ : L2.St} {Fz : Hp} {ams : List Am} {vs : List V} (r : RAms Γ K σ Fz ams vs) : ∀ prm : List Nat, RAms Γ K σ Fz (L3.pick prm ams) (L3.pick prm vs)
  | [] => .nil
  | i :: prm => by
    have ih := RAms.pick r prm
    unfold L3.pick at ih ⊢
    simp only [List.filterMap_cons]
    cases q : ams[i]? with
    | none =>
      have h1 : vs[i]? = none := List.getElem?_eq_none (by rw [r.len]; exact List.getElem?_eq_none_iff.mp q)
      rw [h1]; exact ih
    | some a =>
      obtain ⟨v, hv, rv⟩ := r.at_ i a q
      rw [hv]; exact RAms.cons (Sub.refl _) rv ih
def tPick (prm : List Nat) (n : Nat) (t : TA) : TA := fun σ H Q => t σ H fun vs H1 => vs.length = n ∧ Q (pick prm vs) H1
def mPick (prm : List Nat) (n : Nat) (m : M (List Am)) : M (List Am) := m.bind fun ams => if ams.length = n then M.ret (pick prm ams) else fun _ => none
theorem rd_pick {K : PySem.W.Frag} {prm : List Nat} {n : Nat} {m : M (List Am)} (h : RdAm Γ K W t m) : RdAm Γ K W (tPick prm n t) (mPick prm n m) := fun g Fz H σ ρ Q x q =>
  h g Fz H σ ρ _ x (Goes.bind q fun ams ρ1 vs Fz1 H1 s1 x1 r1 q1 => by
    by_cases hl : ams.length = n
    · rw [if_pos hl] at q1
      exact ⟨r1.len.trans hl, q1 _ Fz1 H1 (Sub.refl _) x1 (r1.pick prm)⟩
    · rw [if_neg hl] at q1; exact q1.elim)
/-- f(k = v, ..): prm puts them in the parameters' order -/
def KwB (K : PySem.W.Frag) (fd : FuncData) (ps ks : List Str) (prm : List Nat) : Prop := ∀ (s : Shared) (ws : List Value), K.In s.heap → ws.length = ks.length → BindsTo s fd ⟨[], ks.zip ws⟩ (ps.zip (pick prm ws))
theorem Fun.kwB {K : PySem.W.Frag} {x qual : Str} {st : Stmt} {f : Addr} {fd : FuncData} {ps ks : List Str} {prm : List Nat} (F : Fun K x qual st f fd)
    (h : ∀ (kV doc pm : Value) (an : Option Addr) (cdv ct : Value) (ws : List Value), ws.length = ks.length → bindArgs (PySem.W.fnOf x qual (defArgs st) (defBody st) (defScope st) .none kV doc pm an cdv ct) ⟨[], ks.zip ws⟩ = pure (ps.zip (pick prm ws))) : KwB K fd ps ks prm := by
  obtain ⟨oc, od, kV, doc, pm, an, cdv, ct, osl, rfl, lk, hcd⟩ := F.ex
  exact fun s ws _ hl => .of_eq (h kV doc pm an cdv ct ws hl)
theorem e_callK {P : Fn} {m : M (List Am)} {prm : List Nat} {kw : Keyword} (F : FnB b X.prog X.w X.K X.mg X.base k f fd ps (spF Γ X.K P ps.length)) (hr : Rm b k X.A) (tk : Takes X W) (hm : X.mg x = some (.ref f)) (hk : PySem.W.keepIn X.K (.ref f) = true)
    (hb : KwB X.K fd ps ks prm) (ha : DKw Γ W X (kw :: kws) t m) (hg : Gl X x := by rfl) (hdb : (x == ("__debug__" : Str)) = false := by decide)
    (hall : (backToKw pos (keywordEach (kw :: kws) X.env)).all (·.1.isSome) = true := by rfl) (hks : (backToKw pos (keywordEach (kw :: kws) X.env)).filterMap (·.1) = ks := by rfl)
    (hpl : ((backTo pos (starEach [] X.env)).any (·.1) || (backToKw pos (keywordEach (kw :: kws) X.env)).any (·.1.isNone)) = false := by rfl) :
    DE Γ W X (.Call (.Name x p) [] (kw :: kws) pos) (tCallS (spF Γ X.K P ps.length) (WE W) (tPick prm ks.length t)) (mCall P ps.length (mPick prm ks.length m)) := by
  refine ⟨⟨fun pins s σ H Q I prom => wpAny_Call_Name_kw (ld_glob I hg hm ?_ hdb)⟩, rd_call (rd_pick ha.rd)⟩
  refine PySem.W.callWith_KW0 (h₀ := X.base) I.ok.mod.kin hk hall (thn (ha.pe.run pos pins s σ H _ I prom) fun ws s1 z => ?_) hpl
  obtain ⟨vs, H1, I1, rel, len, prom1⟩ := z
  rw [hks]
  have bd := hb s1 ws I1.kIn (rel.length.symm.trans len)
  refine ⟨I1.kIn, wpAny_call (codeAny_mono (run_B F hr bd (passAt tk σ) I1 (vals_pick rel prm) prom1) fun o s' z => ?_)⟩
  match o, z with
  | .error e, z => exact z
  | .ok (.ret u), z => exact z
end
end L3
namespace L3
open PySem PySem.Spec PyProof.Rows L2
theorem bt_len : bootBuiltins "len" = some (.builtin "len") := by decide +kernel
theorem bt_sum : bootBuiltins "sum" = some (.builtin "sum") := by decide +kernel
theorem bt_abs : bootBuiltins "abs" = some (.builtin "abs") := by decide +kernel
theorem bt_all : bootBuiltins "all" = some (.builtin "all") := by decide +kernel
theorem bt_sorted : bootBuiltins "sorted" = some (.builtin "sorted") := by decide +kernel
theorem bt_isi : bootBuiltins "isinstance" = some (.builtin "isinstance") := by decide +kernel
theorem bt_int : bootBuiltins "int" = some (.type "int") := by decide +kernel
theorem bt_str : bootBuiltins "str" = some (.type "str") := by decide +kernel
theorem bt_tup : bootBuiltins "tuple" = some (.type "tuple") := by decide +kernel
theorem bt_lst : bootBuiltins "list" = some (.type "list") := by decide +kernel
theorem bt_bool : bootBuiltins "bool" = some (.type "bool") := by decide +kernel
section
variable {Γ : Ct} {W : WX} {X : Cx} {te tb : TE} {m mb : M Bv} {x : Str} {id : String} {r : List V → Hp → VK → Prop} {e e2 : Expr} {p pos : Pos}
/-- f(e), a built-in one: what it computes -/
theorem e_b1 {f : D → Option D} (hc : CallR X (.builtin id) r) (hd : UnD Γ X.K (fun y H Q => r [y] H Q) f) (hv : bootBuiltins x = some (.builtin id)) (hm : X.mg x = none) (ha : DB Γ W X e te m) (hg : Gl X x := by rfl) (hn : x ≠ "__name__" := by decide) (hdb : (x == ("__debug__" : Str)) = false := by decide)
    (he : starEach [e] X.env = (false, eval e X.env) :: starEach [] X.env := by rfl) : DE Γ W X (.Call (.Name x p) [e] [] pos) (tCB r (tCons te tNil)) (mUn f m) :=
  ⟨pe_callB hc hg hm hv (pa_cons ha.pe pa_nil he) hn hdb he, show RdE Γ X.K W (fun σ H Q => te σ H fun y H1 => r [y] H1 Q) (mUn f m) from rd_un ha.rd hd⟩
theorem e_t1 {f : D → Option D} (hc : CallR X (.type id) r) (hd : UnD Γ X.K (fun y H Q => r [y] H Q) f) (hv : bootBuiltins x = some (.type id)) (hm : X.mg x = none) (ha : DB Γ W X e te m) (hg : Gl X x := by rfl) (hn : x ≠ "__name__" := by decide) (hdb : (x == ("__debug__" : Str)) = false := by decide)
    (he : starEach [e] X.env = (false, eval e X.env) :: starEach [] X.env := by rfl) : DE Γ W X (.Call (.Name x p) [e] [] pos) (tCB r (tCons te tNil)) (mUn f m) :=
  ⟨pe_callTy hc hg hm hv (pa_cons ha.pe pa_nil he) hn hdb he, show RdE Γ X.K W (fun σ H Q => te σ H fun y H1 => r [y] H1 Q) (mUn f m) from rd_un ha.rd hd⟩
theorem o_b1 {f : D → Option (List D)} (hc : CallR X (.builtin id) r) (hd : UnO Γ X.K (fun y H Q => r [y] H Q) f) (hv : bootBuiltins x = some (.builtin id)) (hm : X.mg x = none) (ha : DB Γ W X e te m) (hg : Gl X x := by rfl) (hn : x ≠ "__name__" := by decide) (hdb : (x == ("__debug__" : Str)) = false := by decide)
    (he : starEach [e] X.env = (false, eval e X.env) :: starEach [] X.env := by rfl) : DO Γ W X (.Call (.Name x p) [e] [] pos) (tCB r (tCons te tNil)) (mUnO f m) :=
  ⟨pe_callB hc hg hm hv (pa_cons ha.pe pa_nil he) hn hdb he, show RdO Γ X.K W (fun σ H Q => te σ H fun y H1 => r [y] H1 Q) (mUnO f m) from rd_unO ha.rd hd⟩
end
def toBls : List D → Option (List Bool)
  | [] => some []
  | .bl b :: ds => (toBls ds).map (b :: ·)
  | _ :: _ => none
theorem toBls_some : ∀ {ds : List D} {bs : List Bool}, toBls ds = some bs → ds = bs.map D.bl
  | [], bs, h => by cases h; rfl
  | d :: ds, bs, h => by
    cases d with
    | bl b =>
      simp only [toBls] at h
      cases e : toBls ds with
      | none => rw [e] at h; cases h
      | some bs' => rw [e] at h; cases h; rw [toBls_some e]; rfl
    | _ => cases h
theorem toBls_map : ∀ (bs : List Bool), toBls (bs.map D.bl) = some bs
  | [] => rfl
  | b :: bs => by simp only [List.map_cons, toBls, toBls_map bs]; rfl
def fLen : D → Option D
  | .lst ds => some (.int ds.length)
  | .tup ds => some (.int ds.length)
  | .str z => if z.length ≤ sizeLine then some (.int z.length) else none
  | _ => none
def fInt : D → Option D
  | .int i => some (.int i)
  | .bl k => some (.int (if k then 1 else 0))
  | _ => none
def fAbs : D → Option D
  | .int i => some (.int (if i < 0 then -i else i))
  | _ => none
def fStr : D → Option D
  | .int i => if i.natAbs.log2 < 1920 then some (.str (toString i)) else none
  | .str z => some (.str z)
  | _ => none
def fSum : D → Option D
  | .lst ds => (toInts ds).map fun ns => .int ns.sum
  | .tup ds => (toInts ds).map fun ns => .int ns.sum
  | _ => none
def fAll : D → Option D
  | .lst ds => (toBls ds).map fun bs => .bl (bs.all id)
  | _ => none
def fAny : D → Option D
  | .lst ds => (toBls ds).map fun bs => .bl (bs.any id)
  | .tup ds => (toInts ds).map fun ns => .bl (ns.any fun n => n != 0)
  | _ => none
def fTup : D → Option D
  | .lst ds => some (.tup ds)
  | .tup ds => some (.tup ds)
  | _ => none
def fLst : D → Option (List D)
  | .lst ds => some ds
  | .tup ds => some ds
  | _ => none
def fMax2 : D → D → Option D := fI (fun _ _ => true) fun i j => .int (if j > i then j else i)
def fMin2 : D → D → Option D := fI (fun _ _ => true) fun i j => .int (if j < i then j else i)
section
variable {Γ : Ct} {K : PySem.W.Frag} {X : Cx}
def rLenA (K : PySem.W.Frag) : List V → Hp → VK → Prop := fun xs H Q => (∃ p ys, xs = [.ref p] ∧ (SqL K H p ys ∨ SqT K H p ys) ∧ Q (.int ys.length) H) ∨ ∃ z, xs = [.str z] ∧ z.length ≤ sizeLine ∧ Q (.int z.length) H
theorem CallR.or {f : Value} {r r' : List V → Hp → VK → Prop} (h : CallR X f r) (h' : CallR X f r') : CallR X f (fun xs H Q => r xs H Q ∨ r' xs H Q) := fun pins s σ H xs us Q I rv q =>
  q.elim (h pins s σ H xs us Q I rv) (h' pins s σ H xs us Q I rv)
theorem cl_len : CallR X (.builtin "len") (rLenA X.K) := CallR.or call_len_seq call_len_str
theorem ud_len : UnD Γ K (fun y H Q => rLenA K [y] H Q) fLen := fun g Fz H σ ρ d x z Q fr rx hz k => by
  match d, hz with
  | .lst ds, hz =>
    cases hz
    obtain ⟨a, xs, rfl, h1, h2⟩ := rx.lst fr.sub
    exact .inl ⟨a, xs, rfl, .inl (SqL.of h1), k _ Fz H (Sub.refl _) fr (by rw [h2.len]; exact .int)⟩
  | .tup ds, hz =>
    cases hz
    obtain ⟨a, xs, rfl, h1, h2⟩ := rx.tup fr.sub
    exact .inl ⟨a, xs, rfl, .inr (SqT.of h1), k _ Fz H (Sub.refl _) fr (by rw [h2.len]; exact .int)⟩
  | .str s, hz =>
    simp only [fLen] at hz
    by_cases q : s.length ≤ sizeLine
    · rw [if_pos q] at hz; cases hz; rw [rx.str]; exact .inr ⟨s, rfl, q, k _ Fz H (Sub.refl _) fr .int⟩
    · rw [if_neg q] at hz; cases hz
def rIntA : List V → Hp → VK → Prop := fun xs H Q => (∃ i, xs = [.int i] ∧ Q (.int i) H) ∨ ∃ k, xs = [.bl k] ∧ Q (.int (if k then 1 else 0)) H
theorem cl_int : CallR X (.type "int") rIntA := call_int1
theorem ud_int : UnD Γ K (fun y H Q => rIntA [y] H Q) fInt := fun g Fz H σ ρ d x z Q fr rx hz k => by
  match d, hz with
  | .int i, hz => cases hz; rw [rx.int]; exact .inl ⟨i, rfl, k _ Fz H (Sub.refl _) fr .int⟩
  | .bl b, hz => cases hz; rw [rx.bl]; exact .inr ⟨b, rfl, k _ Fz H (Sub.refl _) fr .int⟩
def rAbsA : List V → Hp → VK → Prop := fun xs H Q => ∃ i, xs = [.int i] ∧ Q (.int (if i < 0 then -i else i)) H
theorem cl_abs : CallR X (.builtin "abs") rAbsA := call_abs
theorem ud_abs : UnD Γ K (fun y H Q => rAbsA [y] H Q) fAbs := fun g Fz H σ ρ d x z Q fr rx hz k => by
  match d, hz with
  | .int i, hz => cases hz; rw [rx.int]; exact ⟨i, rfl, k _ Fz H (Sub.refl _) fr .int⟩
def rStrA : List V → Hp → VK → Prop := fun xs H Q => (∃ i, xs = [.int i] ∧ i.natAbs.log2 < 1920 ∧ Q (.str (toString i)) H) ∨ ∃ a, xs = [.str a] ∧ Q (.str a) H
theorem cl_str : CallR X (.type "str") rStrA := CallR.or call_str_int SkE.call_str_str
theorem ud_str : UnD Γ K (fun y H Q => rStrA [y] H Q) fStr := fun g Fz H σ ρ d x z Q fr rx hz k => by
  match d, hz with
  | .int i, hz =>
    simp only [fStr] at hz
    by_cases q : i.natAbs.log2 < 1920
    · rw [if_pos q] at hz; cases hz; rw [rx.int]; exact .inl ⟨i, rfl, q, k _ Fz H (Sub.refl _) fr .str⟩
    · rw [if_neg q] at hz; cases hz
  | .str s, hz => cases hz; rw [rx.str]; exact .inr ⟨s, rfl, k _ Fz H (Sub.refl _) fr .str⟩
def rSumA (K : PySem.W.Frag) : List V → Hp → VK → Prop := fun vs H Q => rSum K vs H Q ∨ ∃ (a : Addr) (ns : List Int), vs = [V.ref a] ∧ SqT K H a (ns.map V.int) ∧ Q (.int ns.sum) H
theorem cl_sumT (hc : X.calm = true) : CallR X (.builtin "sum") (fun vs H Q => ∃ (a : Addr) (ns : List Int), vs = [V.ref a] ∧ SqT X.K H a (ns.map V.int) ∧ Q (.int ns.sum) H) := by
  intro pins s σ H vs us Q I r h
  obtain ⟨a, ns, rfl, hs, q⟩ := h
  obtain ⟨its, rv, ht, _⟩ := I.tuple hs
  rw [Vals.ref1 r]
  have hi := rv.ints
  obtain ⟨ys, e⟩ := hi.allInts.items
  have nums : numsOf (intItems ys).toList = ns := by rw [← e]; exact hi.numsOf
  rw [nums_intItems] at nums
  rw [e] at ht
  refine PySem.W.ktm_sumG (I.ok.hd hc) ht fun h' tk t' hk => ⟨.int _, H, I.kept hk, ⟨_, rfl⟩, ?_⟩
  rw [preSum_eq, List.take_of_length_le (by simp), nums]
  exact q
theorem cl_sum (hc : X.calm = true) : CallR X (.builtin "sum") (rSumA X.K) := CallR.or (cr_sum hc) (cl_sumT hc)
theorem ud_sum : UnD Γ K (fun y H Q => rSumA K [y] H Q) fSum := fun g Fz H σ ρ d x z Q fr rx hz k => by
  match d, hz with
  | .lst ds, hz =>
    simp only [fSum] at hz
    cases e : toInts ds with
    | none => rw [e] at hz; cases hz
    | some ns =>
      rw [e] at hz; cases hz
      obtain ⟨a, xs, rfl, h1, h2⟩ := rx.lst fr.sub
      rw [toInts_some e] at h2
      rw [h2.to_ints] at h1
      exact .inl ⟨a, ns, rfl, SqL.of h1, k _ Fz H (Sub.refl _) fr .int⟩
  | .tup ds, hz =>
    simp only [fSum] at hz
    cases e : toInts ds with
    | none => rw [e] at hz; cases hz
    | some ns =>
      rw [e] at hz; cases hz
      obtain ⟨a, xs, rfl, h1, h2⟩ := rx.tup fr.sub
      rw [toInts_some e] at h2
      rw [h2.to_ints] at h1
      exact .inr ⟨a, ns, rfl, SqT.of h1, k _ Fz H (Sub.refl _) fr .int⟩
theorem ud_all : UnD Γ K (fun y H Q => rAll K [y] H Q) fAll := fun g Fz H σ ρ d x z Q fr rx hz k => by
  match d, hz with
  | .lst ds, hz =>
    simp only [fAll] at hz
    cases e : toBls ds with
    | none => rw [e] at hz; cases hz
    | some ns =>
      rw [e] at hz; cases hz
      obtain ⟨a, xs, rfl, h1, h2⟩ := rx.lst fr.sub
      rw [toBls_some e] at h2
      rw [h2.to_bls] at h1
      exact ⟨a, ns, rfl, SqL.of h1, k _ Fz H (Sub.refl _) fr .bl⟩
def rTupA (K : PySem.W.Frag) : List V → Hp → VK → Prop := fun xs H Q => ∃ p ys, xs = [.ref p] ∧ ((SqL K H p ys ∧ ∀ l, H l = none → Q (.ref l) (upd H l (.tup ys))) ∨ (SqT K H p ys ∧ Q (.ref p) H))
theorem cl_tup : CallR X (.type "tuple") (rTupA X.K) := call_tuple_of
theorem ud_tup : UnD Γ K (fun y H Q => rTupA K [y] H Q) fTup := fun g Fz H σ ρ d x z Q fr rx hz k => by
  match d, hz with
  | .lst ds, hz =>
    cases hz
    obtain ⟨a, xs, rfl, h1, h2⟩ := rx.lst fr.sub
    refine ⟨a, xs, rfl, .inl ⟨SqL.of h1, fun l hl => ?_⟩⟩
    obtain ⟨s, fr', r'⟩ := fr.newT hl h2
    exact k _ _ _ s fr' r'
  | .tup ds, hz =>
    cases hz
    rcases rx with rx | ⟨_, _, _, e, _⟩ | ⟨_, _, _, _, _, e, _⟩
    · cases rx with
      | tup h1 h2 => exact ⟨_, _, rfl, .inr ⟨SqT.of (fr.sub _ _ h1), k _ Fz H (Sub.refl _) fr (.tup h1 h2)⟩⟩
    · cases e
    · cases e
end
section
variable {Γ : Ct} {W : WX} {X : Cx} {te tb : TE} {m mb : M Bv} {e e2 : Expr} {p pos : Pos}
theorem e_len (hm : X.mg "len" = none) (ha : DB Γ W X e te m) (hg : Gl X "len" := by rfl) (he : starEach [e] X.env = (false, eval e X.env) :: starEach [] X.env := by rfl) : DE Γ W X (.Call (.Name "len" p) [e] [] pos) (tCB (rLenA X.K) (tCons te tNil)) (mUn fLen m) := e_b1 cl_len ud_len bt_len hm ha hg (he := he)
theorem e_toInt (hm : X.mg "int" = none) (ha : DB Γ W X e te m) (hg : Gl X "int" := by rfl) (he : starEach [e] X.env = (false, eval e X.env) :: starEach [] X.env := by rfl) : DE Γ W X (.Call (.Name "int" p) [e] [] pos) (tCB rIntA (tCons te tNil)) (mUn fInt m) := e_t1 cl_int ud_int bt_int hm ha hg (he := he)
theorem e_toStr (hm : X.mg "str" = none) (ha : DB Γ W X e te m) (hg : Gl X "str" := by rfl) (he : starEach [e] X.env = (false, eval e X.env) :: starEach [] X.env := by rfl) : DE Γ W X (.Call (.Name "str" p) [e] [] pos) (tCB rStrA (tCons te tNil)) (mUn fStr m) := e_t1 cl_str ud_str bt_str hm ha hg (he := he)
theorem e_abs (hm : X.mg "abs" = none) (ha : DB Γ W X e te m) (hg : Gl X "abs" := by rfl) (he : starEach [e] X.env = (false, eval e X.env) :: starEach [] X.env := by rfl) : DE Γ W X (.Call (.Name "abs" p) [e] [] pos) (tCB rAbsA (tCons te tNil)) (mUn fAbs m) := e_b1 cl_abs ud_abs bt_abs hm ha hg (he := he)
theorem e_sum (hc : X.calm = true) (hm : X.mg "sum" = none) (ha : DB Γ W X e te m) (hg : Gl X "sum" := by rfl) (he : starEach [e] X.env = (false, eval e X.env) :: starEach [] X.env := by rfl) : DE Γ W X (.Call (.Name "sum" p) [e] [] pos) (tCB (rSumA X.K) (tCons te tNil)) (mUn fSum m) := e_b1 (cl_sum hc) ud_sum bt_sum hm ha hg (he := he)
theorem e_all (hc : X.calm = true) (hm : X.mg "all" = none) (ha : DB Γ W X e te m) (hg : Gl X "all" := by rfl) (he : starEach [e] X.env = (false, eval e X.env) :: starEach [] X.env := by rfl) : DE Γ W X (.Call (.Name "all" p) [e] [] pos) (tCB (rAll X.K) (tCons te tNil)) (mUn fAll m) := e_b1 (cr_all hc) ud_all bt_all hm ha hg (he := he)
theorem e_tuple (hm : X.mg "tuple" = none) (ha : DB Γ W X e te m) (hg : Gl X "tuple" := by rfl) (he : starEach [e] X.env = (false, eval e X.env) :: starEach [] X.env := by rfl) : DE Γ W X (.Call (.Name "tuple" p) [e] [] pos) (tCB (rTupA X.K) (tCons te tNil)) (mUn fTup m) := e_t1 cl_tup ud_tup bt_tup hm ha hg (he := he)
end
end L3
namespace L3
open PySem PySem.Spec PyProof.Rows L2
def tyD : D → Option String
  | .non => some "NoneType"
  | .bl _ => some "bool"
  | .int _ => some "int"
  | .str _ => some "str"
  | .tup _ => some "tuple"
  | .lst _ => some "list"
  | .dic0 => some "dict"
  | .ob _ _ => none
  | .dic _ _ _ => none
  | .fn _ => none
section
variable {Γ : Ct} {K : PySem.W.Frag} {Fz H : Hp}
theorem tyD_ok {d : D} {x : V} {n : String} (s : Sub Fz H) (r : RepH Γ K Fz H d x) (e : tyD d = some n) : TyX K H x (.type n) := by
  rcases r with r | ⟨ds, a, xs, rfl, rfl, h1, h2⟩ | ⟨_, _, _, _, _, rfl, _⟩
  · cases r with
    | non => cases e; exact .base .non
    | bl => cases e; exact .base (.bl _)
    | int => cases e; exact .base (.int _)
    | str => cases e; exact .base (.str _)
    | tup h1 h2 => cases e; exact .base (.tup (s _ _ h1))
    | lst h1 h2 => cases e; exact .base (.lst (s _ _ h1))
    | ob _ _ _ _ => cases e
    | dic0 h => cases e; exact .base (.dK (s _ _ h))
    | dicT _ _ _ => cases e
    | dicK _ _ _ => cases e
    | fn => cases e
  · cases e; exact .base (.lst h1)
  · cases e
end
/-- isinstance(x, n), n a built-in type -/
def fIsT (n : String) (d : D) : Option D := (tyD d).bind fun a => (kitB a n).map .bl
def fIsT2 (n m : String) (d : D) : Option D := (tyD d).bind fun a => (kitB a n).bind fun b => if b = true then some (.bl true) else (kitB a m).map .bl
def fIsC (cs : List Nat) (c0 : Nat) : D → Option D
  | .ob c _ => if c ∈ cs then some (.bl (decide (c = c0))) else none
  | d => (tyD d).map fun _ => .bl false
section
variable {Γ : Ct} {W : WX} {X : Cx} {te : TE} {m : M Bv} {e : Expr} {p p2 p3 pos tpos : Pos} {n n2 : String} {x : Str} {k2 : Nat}
theorem kit2 {K : PySem.W.Frag} {a n m : String} {b c : Bool} (h : kitB a n = some b) (h' : kitB a m = some c) : PySem.W.kitAny K (.type a) [.type n, .type m] = some (if b = true then true else c) := by
  refine kitAny_cons (kit_ty h) (fun e => ?_) fun e => by rw [if_pos e]
  rw [if_neg (by rw [e]; exact Bool.false_ne_true)]
  refine kitAny_cons (kit_ty h') (fun e2 => by rw [kitAny_nil, e2]) fun e2 => e2
theorem kit2a {K : PySem.W.Frag} {a n m : String} (h : kitB a n = some true) : PySem.W.kitAny K (.type a) [.type n, .type m] = some true :=
  kitAny_cons (r := true) (kit_ty h) (fun e => by cases e) fun _ => rfl
theorem pe_ty (T : String) (hg : Gl X x) (hm : X.mg x = none) (hv : bootBuiltins x = some (.type T)) (hn : x ≠ "__name__" := by decide) (hdb : (x == ("__debug__" : Str)) = false := by decide) : PE X (.Name x pos) (tC (.ty T)) :=
  ⟨fun pins s σ H Q I q => ld_blt I hg hm hv ⟨.ty T, H, I, rfl, q⟩ hn hdb⟩
theorem e_isT (hm : X.mg "isinstance" = none) (hm2 : X.mg x = none) (hv : bootBuiltins x = some (.type n)) (ha : DB Γ W X e te m) (hg : Gl X "isinstance" := by rfl) (hg2 : Gl X x := by rfl) (hn : x ≠ "__name__" := by decide) (hdb : (x == ("__debug__" : Str)) = false := by decide)
    (he : starEach [e, .Name x p2] X.env = (false, eval e X.env) :: starEach [.Name x p2] X.env := by rfl) (he2 : starEach [.Name x p2] X.env = (false, eval (.Name x p2) X.env) :: starEach [] X.env := by rfl) (hpl : (backTo pos (starEach [.Name x p2] X.env)).any (·.1) = false := by rfl) :
    DE Γ W X (.Call (.Name "isinstance" p) [e, .Name x p2] [] pos) (tCB (rIsi X.K) (tCons te (tCons (tC (.ty n)) tNil))) (mUn (fIsT n) m) := by
  refine ⟨pe_callB call_isi hg hm bt_isi (pa_cons ha.pe (pa_cons (pe_ty n hg2 hm2 hv hn hdb) pa_nil he2) he) (he := he) (hpl := hpl), ?_⟩
  refine show RdE Γ X.K W (fun σ H Q => te σ H fun y H1 => rIsi X.K [y, .ty n] H1 Q) (mUn (fIsT n) m) from rd_un ha.rd fun g Fz H σ ρ d y z Q fr rx hz k => ?_
  unfold fIsT at hz
  cases q : tyD d with
  | none => rw [q] at hz; cases hz
  | some a =>
    rw [q, Option.bind_some] at hz
    cases q2 : kitB a n with
    | none => rw [q2] at hz; cases hz
    | some b => rw [q2] at hz; cases hz; exact ⟨y, .ty n, .type a, .type n, b, rfl, .ty n, tyD_ok fr.sub rx q, kit_ty q2, k _ Fz H (Sub.refl _) fr .bl⟩
theorem e_isT2 {y : Str} (hm : X.mg "isinstance" = none) (hm2 : X.mg x = none) (hm3 : X.mg y = none) (hv : bootBuiltins x = some (.type n)) (hv2 : bootBuiltins y = some (.type n2)) (ha : DB Γ W X e te m) (hg : Gl X "isinstance" := by rfl) (hg2 : Gl X x := by rfl) (hg3 : Gl X y := by rfl)
    (hn : x ≠ "__name__" := by decide) (hdb : (x == ("__debug__" : Str)) = false := by decide) (hn2 : y ≠ "__name__" := by decide) (hdb2 : (y == ("__debug__" : Str)) = false := by decide)
    (he : starEach [e, .Tuple [.Name x p2, .Name y p3] k2 tpos] X.env = (false, eval e X.env) :: starEach [.Tuple [.Name x p2, .Name y p3] k2 tpos] X.env := by rfl) (he2 : starEach [.Tuple [.Name x p2, .Name y p3] k2 tpos] X.env = (false, eval (.Tuple [.Name x p2, .Name y p3] k2 tpos) X.env) :: starEach [] X.env := by rfl)
    (hpl : (backTo pos (starEach [.Tuple [.Name x p2, .Name y p3] k2 tpos] X.env)).any (·.1) = false := by rfl) (he3 : starEach [.Name x p2, .Name y p3] X.env = (false, eval (.Name x p2) X.env) :: starEach [.Name y p3] X.env := by rfl) (he4 : starEach [.Name y p3] X.env = (false, eval (.Name y p3) X.env) :: starEach [] X.env := by rfl) :
    DE Γ W X (.Call (.Name "isinstance" p) [e, .Tuple [.Name x p2, .Name y p3] k2 tpos] [] pos) (tCB (rIsiT X.K) (tCons te (tCons (tTup (tCons (tC (.ty n)) (tCons (tC (.ty n2)) tNil))) tNil))) (mUn (fIsT2 n n2) m) := by
  refine ⟨pe_callB call_isiT hg hm bt_isi (pa_cons ha.pe (pa_cons (pe_tup (pa_cons (pe_ty n hg2 hm2 hv hn hdb) (pa_cons (pe_ty n2 hg3 hm3 hv2 hn2 hdb2) pa_nil he4) he3)) pa_nil he2) he) (he := he) (hpl := hpl), ?_⟩
  refine show RdE Γ X.K W (fun σ H Q => te σ H fun y H1 => [V.ty n, V.ty n2].length ≤ sizeLine ∧ ∀ q, H1 q = none → rIsiT X.K [y, .ref q] (upd H1 q (.tup [.ty n, .ty n2])) Q) (mUn (fIsT2 n n2) m) from
    rd_un (r := fun y H1 Q => [V.ty n, V.ty n2].length ≤ sizeLine ∧ ∀ q, H1 q = none → rIsiT X.K [y, .ref q] (upd H1 q (.tup [.ty n, .ty n2])) Q) ha.rd fun g Fz H σ ρ d y z Q fr rx hz k => ?_
  refine ⟨by show 2 ≤ sizeLine; rw [sizeLine_eq]; omega, fun q hq => ?_⟩
  unfold fIsT2 at hz
  cases q1 : tyD d with
  | none => rw [q1] at hz; cases hz
  | some a =>
    rw [q1, Option.bind_some] at hz
    have hz0 : Fz q = none := fr.sub.free hq
    obtain ⟨κ, x0⟩ := fr
    have fr' : Fr Γ X.K g (upd Fz q (.tup [.ty n, .ty n2])) (upd H q (.tup [.ty n, .ty n2])) σ ρ := ⟨κ, x0.alloc hq⟩
    have rx' : RepH Γ X.K (upd Fz q (.tup [.ty n, .ty n2])) (upd H q (.tup [.ty n, .ty n2])) d y := by
      rcases rx with rx | ⟨ds, a, xs, h1, h2, h3, h4⟩ | ⟨t, ks, vs, a, o, h1, h2, h3, h4⟩
      · exact .inl (rx.mono (Sub.new hz0))
      · exact .inr (.inl ⟨ds, a, xs, h1, h2, by rw [upd_ne (ne_of_none h3 hq)]; exact h3, h4.mono (Sub.new hz0)⟩)
      · exact .inr (.inr ⟨t, ks, vs, a, o, h1, h2, by rw [upd_ne (ne_of_none h3 hq)]; exact h3, h4.mono (Sub.new hz0)⟩)
    have ty := tyD_ok fr'.sub rx' q1
    cases q2 : kitB a n with
    | none => rw [q2] at hz; cases hz
    | some b =>
      rw [q2, Option.bind_some] at hz
      cases b with
      | true =>
        rw [if_pos rfl] at hz; cases hz
        exact ⟨y, q, [.ty n, .ty n2], .type a, [.type n, .type n2], true, rfl, upd_same, .cons (.ty n) (.cons (.ty n2) .nil), ty, kit2a q2, k _ _ _ (Sub.new hz0) fr' .bl⟩
      | false =>
        rw [if_neg Bool.false_ne_true] at hz
        cases q3 : kitB a n2 with
        | none => rw [q3] at hz; cases hz
        | some c =>
          rw [q3] at hz; cases hz
          exact ⟨y, q, [.ty n, .ty n2], .type a, [.type n, .type n2], c, rfl, upd_same, .cons (.ty n) (.cons (.ty n2) .nil), ty, kit2 q2 q3, k _ _ _ (Sub.new hz0) fr' .bl⟩
/-- what isinstance asks of an own class, and of the classes cs -/
structure IsC (Γ : Ct) (K : PySem.W.Frag) (cs : List Nat) (c0 : Nat) : Prop where
  ty : ∀ d n, tyD d = some n → PySem.W.kitOne K (.type n) (.ref (Γ.ad c0)) = some false
  ob : ∀ c ∈ cs, PySem.W.kitOne K (.ref (Γ.ad c)) (.ref (Γ.ad c0)) = some (decide (c = c0))
  cl : ∀ c ∈ cs, Cls K (Γ.ad c) ∧ PySem.W.findIn K (.ref (Γ.ad c)) "__class__" = some (some (.builtin "object.__class__")) ∧ PySem.W.mroIn K (Γ.ad c) (.type "object") = some true
  hn : PySem.W.specialIn K (.builtin "object.__class__") "__get__" = some (some (.builtin "getset_descriptor.__get__"))
  tk : PySem.W.takesIn K (.builtin "object.__class__") = some true
theorem e_isC {cs : List Nat} {c0 : Nat} (T : IsC Γ X.K cs c0) (hm : X.mg "isinstance" = none) (hm2 : X.mg x = some (.ref (Γ.ad c0))) (ha : DB Γ W X e te m) (hg : Gl X "isinstance" := by rfl) (hg2 : Gl X x := by rfl) (hdb : (x == ("__debug__" : Str)) = false := by decide)
    (he : starEach [e, .Name x p2] X.env = (false, eval e X.env) :: starEach [.Name x p2] X.env := by rfl) (he2 : starEach [.Name x p2] X.env = (false, eval (.Name x p2) X.env) :: starEach [] X.env := by rfl) (hpl : (backTo pos (starEach [.Name x p2] X.env)).any (·.1) = false := by rfl) :
    DE Γ W X (.Call (.Name "isinstance" p) [e, .Name x p2] [] pos) (tCB (rIsi X.K) (tCons te (tCons (tC (.ref (Γ.ad c0))) tNil))) (mUn (fIsC cs c0) m) := by
  refine ⟨pe_callB call_isi hg hm bt_isi (pa_cons ha.pe (pa_cons (pe_glob hg2 hm2 rfl hdb) pa_nil he2) he) (he := he) (hpl := hpl), ?_⟩
  refine show RdE Γ X.K W (fun σ H Q => te σ H fun y H1 => rIsi X.K [y, .ref (Γ.ad c0)] H1 Q) (mUn (fIsC cs c0) m) from rd_un ha.rd fun g Fz H σ ρ d y z Q fr rx hz k => ?_
  have base : ∀ n, tyD d = some n → z = .bl false → rIsi X.K [y, .ref (Γ.ad c0)] H Q := fun n q e => by
    subst e
    exact ⟨y, _, .type n, _, false, rfl, .own _, tyD_ok fr.sub rx q, T.ty d n q, k _ Fz H (Sub.refl _) fr .bl⟩
  cases d with
  | ob c ds =>
    simp only [fIsC] at hz
    by_cases hc : c ∈ cs
    · rw [if_pos hc] at hz; cases hz
      obtain ⟨h1, h2, h3⟩ := T.cl c hc
      rcases rx with rx | ⟨_, _, _, e, _⟩ | ⟨_, _, _, _, _, e, _⟩
      · cases rx with
        | ob h4 h5 h6 h7 => exact ⟨_, _, .ref (Γ.ad c), _, decide (c = c0), rfl, .own _, .base (.ins (fr.sub _ _ h4) h1 h2 T.hn T.tk h3), T.ob c hc, k _ Fz H (Sub.refl _) fr .bl⟩
      · cases e
      · cases e
    · rw [if_neg hc] at hz; cases hz
  | non => cases hz; exact base _ rfl rfl
  | bl _ => cases hz; exact base _ rfl rfl
  | int _ => cases hz; exact base _ rfl rfl
  | str _ => cases hz; exact base _ rfl rfl
  | tup _ => cases hz; exact base _ rfl rfl
  | lst _ => cases hz; exact base _ rfl rfl
  | dic0 => cases hz; exact base _ rfl rfl
  | dic _ _ _ => cases hz
  | fn _ => cases hz
end
end L3
namespace L3
open PySem PySem.Spec PyProof.Rows L2
def ownL (ρ : Env) (i : Nat) : Option (List D) := (ρ[i]?).bind slotLst
def putL (ρ : Env) (i : Nat) (ds : List D) : Env := ρ.set i (slotPut (ρ[i]?.getD .emp) ds)
/-- xs.append(e) -/
def mApp (i : Nat) (me : M D) : M D := fun ρ => match ownL ρ i with
  | none => none
  | some _ => (me.bind fun d ρ1 => match ownL ρ1 i with
    | none => none
    | some ds => if ds.length < sizeLine then some (.ok .non (putL ρ1 i (ds ++ [d]))) else none) ρ
/-- xs.pop() -/
def mPop (i : Nat) : M D := fun ρ => match ownL ρ i with
  | none => none
  | some ds => match ds[ds.length - 1]? with
    | none => none
    | some d => some (.ok d (putL ρ i ds.dropLast))
/-- xs.pop(e) -/
def mPopAt (i : Nat) (me : M Bv) : M D := fun ρ => match ownL ρ i with
  | none => none
  | some _ => (me.bind fun b ρ1 => match ownL ρ1 i, deref ρ1 b with
    | some ds, some (.int j) => if inB j = true then (match seqIndex? j ds.length with
      | none => none
      | some k => match ds[k]? with
        | none => none
        | some d => some (.ok d (putL ρ1 i (ds.eraseIdx k)))) else none
    | _, _ => none) ρ
section
variable {Γ : Ct} {K : PySem.W.Frag} {W : WX} {g : Gh} {Fz H : Hp} {σ : L2.St} {ρ : Env} {te : TE}
theorem ownL_at {i : Nat} {ds : List D} (x : Fr Γ K g Fz H σ ρ) (h : ownL ρ i = some ds) : ∃ a xs s, ρ[i]? = some s ∧ slotLst s = some ds ∧ σ[i]? = some (some (.ref a)) ∧ H a = some (.lst xs) ∧ RepL Γ K Fz ds xs := by
  obtain ⟨κ, x⟩ := x
  unfold ownL at h
  cases e : ρ[i]? with
  | none => rw [e] at h; cases h
  | some s =>
    rw [e, Option.bind_some] at h
    obtain ⟨a, xs, h1, _, h3, h4⟩ := x.own_at e h
    exact ⟨a, xs, s, rfl, h, h1, h3, h4⟩
theorem putL_ok {i : Nat} {s : Slot} {ds es : List D} {ys : List V} {a : Addr} (x : Fr Γ K g Fz H σ ρ) (hs : ρ[i]? = some s) (hl : slotLst s = some ds) (ha : σ[i]? = some (some (.ref a))) (r : RepL Γ K Fz es ys) : Fr Γ K g Fz (upd H a (.lst ys)) σ (putL ρ i es) := by
  unfold putL
  rw [hs]
  exact x.write hs hl ha r
theorem rd_app {i : Nat} {me : M D} (h : RdE Γ K W te me) : RdE Γ K W (tBM K "list" rAppend (tVar i) (tCons te tNil)) (mApp i me) := fun g Fz H σ ρ Q x q => by
  have q0 : Goes Γ K W g Fz σ (RE Γ K) (mApp i me ρ) Q := q
  unfold mApp at q0
  cases e : ownL ρ i with
  | none => rw [e] at q0; exact q0.elim
  | some ds0 =>
    rw [e] at q0
    obtain ⟨a, xs, s, h1, h2, h3, h4, h5⟩ := ownL_at x e
    refine ⟨.ref a, h3, .inl ⟨rfl, xs, SqL.of h4⟩, h g Fz H σ ρ _ x (Goes.bind q0 fun d ρ1 v Fz1 H1 s1 x1 r1 q1 => ?_)⟩
    cases e1 : ownL ρ1 i with
    | none => simp only [e1] at q1; exact q1.elim
    | some ds =>
      simp only [e1] at q1
      obtain ⟨b, ys, s', k1, k2, k3, k4, k5⟩ := ownL_at x1 e1
      rw [h3] at k3; cases k3
      by_cases hl : ds.length < sizeLine
      · rw [if_pos hl] at q1
        exact ⟨a, ys, v, rfl, rfl, k4, by rw [← k5.len]; exact hl, q1 .non Fz1 _ (Sub.refl _) (putL_ok x1 k1 k2 h3 (k5.snoc r1)) .non⟩
      · rw [if_neg hl] at q1; exact q1.elim
theorem rd_popAt {i : Nat} {me : M Bv} (h : RdB Γ K W te me) : RdE Γ K W (tBM K "list" rPopAt (tVar i) (tCons te tNil)) (mPopAt i me) := fun g Fz H σ ρ Q x q => by
  have q0 : Goes Γ K W g Fz σ (RE Γ K) (mPopAt i me ρ) Q := q
  unfold mPopAt at q0
  cases e : ownL ρ i with
  | none => rw [e] at q0; exact q0.elim
  | some ds0 =>
    rw [e] at q0
    obtain ⟨a, xs, s, h1, h2, h3, h4, h5⟩ := ownL_at x e
    refine ⟨.ref a, h3, .inl ⟨rfl, xs, SqL.of h4⟩, h g Fz H σ ρ _ x (Goes.bind q0 fun b ρ1 v Fz1 H1 s1 x1 r1 q1 => ?_)⟩
    cases e1 : ownL ρ1 i with
    | none => simp only [e1] at q1; exact q1.elim
    | some ds =>
      obtain ⟨c, ys, s', k1, k2, k3, k4, k5⟩ := ownL_at x1 e1
      rw [h3] at k3; cases k3
      cases e2 : deref ρ1 b with
      | none => simp only [e1, e2] at q1; exact q1.elim
      | some d =>
        cases d with
        | int j =>
          simp only [e1, e2] at q1
          by_cases hb : inB j = true
          · rw [if_pos hb] at q1
            have hb' := of_decide_eq_true hb
            cases e3 : seqIndex? j ds.length with
            | none => simp only [e3] at q1; exact q1.elim
            | some k =>
              simp only [e3] at q1
              cases e4 : ds[k]? with
              | none => simp only [e4] at q1; exact q1.elim
              | some d =>
                simp only [e4] at q1
                obtain ⟨u, hu, ru⟩ := k5.getD e4
                rw [(x1.deref r1 e2).int]
                exact ⟨a, ys, j, k, u, rfl, rfl, k4, by have := hb'.1; omega, by have := hb'.2; omega, by rw [← k5.len]; exact e3, hu, q1 u Fz1 _ (Sub.refl _) (putL_ok x1 k1 k2 h3 (k5.eraseIdx k)) ru⟩
          · rw [if_neg hb] at q1; exact q1.elim
        | _ => simp only [e1, e2] at q1; exact q1.elim
end
section
variable {Γ : Ct} {W : WX} {X : Cx} {te : TE} {e o : Expr} {x : Str} {p apos cpos pos : Pos}
theorem e_app (i : Nat) {me : M D} (h : DE Γ W X e te me) (hN : X.N[i]? = some x := by rfl) (hv : Vis X.env.scope x := by first | exact Or.inl rfl | exact Or.inr (Or.inl rfl) | exact Or.inr (Or.inr rfl)) (hd : (x == ("__debug__" : Str)) = false := by decide)
    (hcd : (x == ("__classdict__" : Str)) = false := by decide) (hbase : attributeBase (.Name x p) "append" X.env (eval (.Name x p) X.env) = eval (.Name x p) X.env := by rfl)
    (hfew : ((backTo cpos (starEach [e] X.env)).all (fun x => !x.1) && (backToKw cpos (keywordEach [] X.env)).all (fun x => x.1.isSome) && decide (([e] : List Expr).length + ([] : List Keyword).length + (if ([] : List Keyword).isEmpty then 0 else 1) < 30)) = true := by rfl)
    (hline : (apos.endLine == cpos.line) = true := by rfl) (hs : starEach [e] X.env = (false, eval e X.env) :: starEach [] X.env := by rfl) : DE Γ W X (.Call (.Attribute (.Name x p) "append" apos) [e] [] cpos) (tBM X.K "list" rAppend (tVar i) (tCons te tNil)) (mApp i me) :=
  ⟨pe_bm PySem.F.plainAttrs_list PySem.F.slot_list_append PySem.F.type_list_append mt_append (pe_var hN hv hd hcd) (pa_cons h.pe pa_nil hs) hbase hfew hline hs, rd_app h.rd⟩
theorem e_popAt (i : Nat) {me : M Bv} (h : DB Γ W X e te me) (hN : X.N[i]? = some x := by rfl) (hv : Vis X.env.scope x := by first | exact Or.inl rfl | exact Or.inr (Or.inl rfl) | exact Or.inr (Or.inr rfl)) (hd : (x == ("__debug__" : Str)) = false := by decide)
    (hcd : (x == ("__classdict__" : Str)) = false := by decide) (hbase : attributeBase (.Name x p) "pop" X.env (eval (.Name x p) X.env) = eval (.Name x p) X.env := by rfl)
    (hfew : ((backTo cpos (starEach [e] X.env)).all (fun x => !x.1) && (backToKw cpos (keywordEach [] X.env)).all (fun x => x.1.isSome) && decide (([e] : List Expr).length + ([] : List Keyword).length + (if ([] : List Keyword).isEmpty then 0 else 1) < 30)) = true := by rfl)
    (hline : (apos.endLine == cpos.line) = true := by rfl) (hs : starEach [e] X.env = (false, eval e X.env) :: starEach [] X.env := by rfl) : DE Γ W X (.Call (.Attribute (.Name x p) "pop" apos) [e] [] cpos) (tBM X.K "list" rPopAt (tVar i) (tCons te tNil)) (mPopAt i me) :=
  ⟨pe_bm PySem.F.plainAttrs_list PySem.F.slot_list_pop PySem.F.type_list_pop mt_popAt (pe_var hN hv hd hcd) (pa_cons h.pe pa_nil hs) hbase hfew hline hs, rd_popAt h.rd⟩
/-- e.f of an instance of the class c: its n-th field -/
structure FldC (Γ : Ct) (K : PySem.W.Frag) (c n : Nat) (f : Str) : Prop where
  cl : Cls K (Γ.ad c)
  no : NoAttr K (Γ.ad c) f
  at_ : (Γ.fl c)[n]? = some f
def fFld (c n : Nat) : D → Option D
  | .ob c' ds => if c' = c then ds[n]? else none
  | _ => none
theorem map_at {fs : List (Str × V)} {l : List Str} {xs : List V} (h : l.map (fun f => fs.lookup f) = xs.map some) {n : Nat} {f : Str} {v : V} (hf : l[n]? = some f) (hv : xs[n]? = some v) : fs.lookup f = some v := by
  have q := congrArg (fun z => z[n]?) h
  simp only [List.getElem?_map, hf, hv, Option.map_some, Option.some.injEq] at q
  exact q
theorem e_fld {c n : Nat} {f : Str} {m : M Bv} (T : FldC Γ X.K c n f) (ha : DB Γ W X o te m) (hb : attributeBase o f X.env (eval o X.env) = eval o X.env := by rfl) : DE Γ W X (.Attribute o f pos) (tFld X.K te f) (mUn (fFld c n) m) := by
  refine ⟨pe_fld ha.pe hb, show RdE Γ X.K W (fun σ H Q => te σ H fun x H1 => ∃ a C dx fs v, x = .ref a ∧ H1 a = some (.ins C dx fs) ∧ Cls X.K C ∧ NoAttr X.K C f ∧ fs.lookup f = some v ∧ Q v H1) (mUn (fFld c n) m) from
    rd_un (r := fun x H1 Q => ∃ a C dx fs v, x = .ref a ∧ H1 a = some (.ins C dx fs) ∧ Cls X.K C ∧ NoAttr X.K C f ∧ fs.lookup f = some v ∧ Q v H1) ha.rd fun g Fz H σ ρ d x z Q fr rx hz k => ?_⟩
  cases d with
  | ob c' ds =>
    simp only [fFld] at hz
    by_cases hc : c' = c
    · subst hc
      rw [if_pos rfl] at hz
      rcases rx with rx | ⟨_, _, _, e, _⟩ | ⟨_, _, _, _, _, e, _⟩
      · cases rx with
        | ob h1 h2 h3 h4 =>
          obtain ⟨v, hv, rv⟩ := h4.getD hz
          exact ⟨_, _, _, _, v, rfl, fr.sub _ _ h1, T.cl, T.no, map_at h2 T.at_ hv, k v Fz H (Sub.refl _) fr rv⟩
      · cases e
      · cases e
    · rw [if_neg hc] at hz; cases hz
  | _ => cases hz
end
end L3
namespace L3
open PySem PySem.Spec PyProof.Rows L2
theorem Fun.ofD {K : PySem.W.Frag} {x qual : Str} {st : Stmt} {f : Addr} {fd : FuncData} (F : FunD K x qual (defArgs st) (defBody st) (defScope st) [] [] f fd) : Fun K x qual st f fd := by
  obtain ⟨oc, od, dV, kV, doc, pm, an, cdv, ct, osl, e, lk, hcd, hD, _⟩ := F.ex
  have hd : dV = .none := by
    rcases hD with ⟨_, q⟩ | ⟨q, _⟩
    · exact q
    · exact absurd rfl q
  subst hd
  exact ⟨⟨oc, od, kV, doc, pm, an, cdv, ct, osl, e, lk, hcd⟩, F.kp⟩
def CallF (b : Bool) (Γ : Ct) (P : Program) (w : World) (K : PySem.W.Frag) (mg : Str → Option Value) (base : Heap) (k : Nat) (x : Str) (ps : List Str) (Pf : Fn) : Prop :=
  ∃ f fd, FnB b P w K mg base k f fd ps (spF Γ K Pf ps.length) ∧ mg x = some (.ref f) ∧ PySem.W.keepIn K (.ref f) = true ∧ Binds K fd ps []
def CallK (b : Bool) (Γ : Ct) (P : Program) (w : World) (K : PySem.W.Frag) (mg : Str → Option Value) (base : Heap) (k : Nat) (x : Str) (ps ks : List Str) (prm : List Nat) (Pf : Fn) : Prop :=
  ∃ f fd, FnB b P w K mg base k f fd ps (spF Γ K Pf ps.length) ∧ mg x = some (.ref f) ∧ PySem.W.keepIn K (.ref f) = true ∧ KwB K fd ps ks prm
theorem Rm.u65 {b : Bool} {k : Nat} {A : Around} (r : Rm b k A) : A.units + 65 < cLine := by have := r.rm.un; omega
section
variable {b : Bool} {Γ : Ct} {W : WX} {X : Cx} {j k : Nat} {ps ks : List Str} {x : Str} {p pos : Pos} {e : Expr} {es : List Expr} {kws : List Keyword} {t : TA}
theorem e_cf {P : Fn} {n : Nat} {m : M (List Am)} (C : CallF b Γ X.prog X.w X.K X.mg X.base k x ps P) (hr : Rm b j X.A) (tk : Takes X W) (ha : DAm Γ W X (e :: es) t m) (hk : k ≤ j := by decide) (hg : Gl X x := by rfl) (hdb : (x == ("__debug__" : Str)) = false := by decide)
    (he : starEach (e :: es) X.env = (false, eval e X.env) :: starEach es X.env := by rfl) (hpl : (backTo pos (starEach es X.env)).any (·.1) = false := by rfl) (hn : ps.length = n := by rfl) :
    DE Γ W X (.Call (.Name x p) (e :: es) [] pos) (tCallS (spF Γ X.K P n) (WE W) t) (mCall P n m) := by
  subst hn
  obtain ⟨f, fd, F, hm, kp, hb⟩ := C
  exact e_call F (hr.mono hk) tk hm kp hb ha hg hdb he hpl
theorem e_ck {P : Fn} {n n2 : Nat} {m : M (List Am)} {prm : List Nat} {kw : Keyword} (C : CallK b Γ X.prog X.w X.K X.mg X.base k x ps ks prm P) (hr : Rm b j X.A) (tk : Takes X W) (ha : DKw Γ W X (kw :: kws) t m) (hk : k ≤ j := by decide) (hg : Gl X x := by rfl) (hdb : (x == ("__debug__" : Str)) = false := by decide)
    (hall : (backToKw pos (keywordEach (kw :: kws) X.env)).all (·.1.isSome) = true := by rfl) (hks : (backToKw pos (keywordEach (kw :: kws) X.env)).filterMap (·.1) = ks := by rfl)
    (hpl : ((backTo pos (starEach [] X.env)).any (·.1) || (backToKw pos (keywordEach (kw :: kws) X.env)).any (·.1.isNone)) = false := by rfl) (hn : ps.length = n := by rfl) (hn2 : ks.length = n2 := by rfl) :
    DE Γ W X (.Call (.Name x p) [] (kw :: kws) pos) (tCallS (spF Γ X.K P n) (WE W) (tPick prm n2 t)) (mCall P n (mPick prm n2 m)) := by
  subst hn hn2
  obtain ⟨f, fd, F, hm, kp, hb⟩ := C
  exact e_callK F (hr.mono hk) tk hm kp hb ha hg hdb hall hks hpl
end
def fCatLD (d e : D) : Option D := (fCatL d e).map .lst
theorem OpO.toD {Γ : Ct} {K : PySem.W.Frag} {r : R2} {f : D → D → Option (List D)} (h : OpO Γ K r f) : OpD Γ K r (fun d e => (f d e).map .lst) := fun g Fz H σ ρ d e x y z Q fr rx ry hz k => by
  have hz : (f d e).map D.lst = some z := hz
  cases q : f d e with
  | none => rw [q] at hz; cases hz
  | some ds =>
    rw [q] at hz; cases hz
    refine h g Fz H σ ρ d e x y ds Q fr rx ry q fun a xs Fz' H' s hg ⟨κ, y⟩ r => ?_
    have hz := y.at0
    exact k (.ref a) _ H' (s.trans (Sub.new hz.2)) ⟨κ, y.freeze0 hg⟩ (.lst upd_same (r.mono (Sub.new hz.2)))
def fPlus (d e : D) : Option D := (fAdd d e).or (fCatLD d e)
def rPlusA (K : PySem.W.Frag) : R2 := fun x y H Q => rAddA K x y H Q ∨ rCat x y H Q
theorem op_plus {X : Cx} : OpR X (binaryOp .Add) (rPlusA X.K) := (op_add.or (op_catA.or op_add_str)).or op_cat
theorem opd_plus {Γ : Ct} {K : PySem.W.Frag} : OpD Γ K (rPlusA K) fPlus := ((opd_int0 fun _ _ _ => .int).or (opd_catT.or opd_catS)).or (OpO.toD opd_catL)
section
variable {Γ : Ct} {W : WX} {X : Cx} {a b : Expr} {ta tb : TE} {ma mb : M Bv} {pos : Pos}
theorem e_plus (ha : DB Γ W X a ta ma) (hb : DB Γ W X b tb mb) : DE Γ W X (.BinOp a .Add b pos) (tOp (rPlusA X.K) ta tb) (mOp fPlus ma mb) := de_op op_plus opd_plus ha hb
end
end L3
namespace L3
open PySem PySem.Spec PyProof.Rows L2
/-- any reading of an expression, of a statement -/
def tE (X : Cx) (e : Expr) : TE := fun σ H Q => ∃ t, PE X e t ∧ t σ H Q
def tSt (X : Cx) (st : Stmt) : TS := fun D σ H => ∃ t, PS X st t ∧ t D σ H
theorem pe_any {X : Cx} {e : Expr} : PE X e (tE X e) := ⟨fun pins s σ H Q I ⟨t, h, q⟩ => h.run pins s σ H Q I q⟩
theorem ps_any {X : Cx} {st : Stmt} : PS X st (tSt X st) := ⟨fun pins s σ H D I ⟨t, h, q⟩ => h.run pins s σ H D I q⟩
section
variable {Γ : Ct} {W : WX} {X : Cx}
theorem DO.any {e : Expr} {t : TE} {m : M (List D)} (h : DO Γ W X e t m) : DO Γ W X e (tE X e) m := ⟨pe_any, fun g Fz H σ ρ Q x q => ⟨t, h.pe, h.rd g Fz H σ ρ Q x q⟩⟩
theorem DS.any {st : Stmt} {t : TS} {m : MS} (h : DS Γ W X st t m) : DS Γ W X st (tSt X st) m := ⟨ps_any, fun g Fz H σ ρ E x q => ⟨t, h.ps, h.rd g Fz H σ ρ E x q⟩⟩
/-- a block's parts at each entry -/
theorem uniE {B : Shared → Hp → Addr → List (Str × Addr) → List Addr → Cx} {e : Expr} {m : M D} (hK : ∀ s H C cl fp, (B s H C cl fp).K = X.K) (h : ∀ s H C cl fp, ∃ t, DE Γ W0 (B s H C cl fp) e t m) : ∃ t, ∀ s H C cl fp, DE Γ W0 (B s H C cl fp) e t m := by
  refine ⟨fun σ H Q => ∀ s H0 C cl fp, (h s H0 C cl fp).choose σ H Q, fun s H0 C cl fp => ⟨⟨fun pins s1 σ H Q I q => (h s H0 C cl fp).choose_spec.pe.run pins s1 σ H Q I (q s H0 C cl fp)⟩, fun g Fz H σ ρ Q x q s1 H1 C1 cl1 fp1 => ?_⟩⟩
  have z := (h s1 H1 C1 cl1 fp1).choose_spec.rd
  rw [hK] at z x q
  exact z g Fz H σ ρ Q x q
theorem uniT {B : Shared → Hp → Addr → List (Str × Addr) → List Addr → Cx} {es : List Expr} {m : M Bool} (hK : ∀ s H C cl fp, (B s H C cl fp).K = X.K) (h : ∀ s H C cl fp, ∃ t, DTs Γ W0 (B s H C cl fp) es t m) : ∃ t, ∀ s H C cl fp, DTs Γ W0 (B s H C cl fp) es t m := by
  refine ⟨fun σ H Q => ∀ s H0 C cl fp, (h s H0 C cl fp).choose σ H Q, fun s H0 C cl fp => ⟨⟨fun pins s1 σ H Q I q => (h s H0 C cl fp).choose_spec.pe.run pins s1 σ H Q I (q s H0 C cl fp)⟩, fun g Fz H σ ρ Q x q s1 H1 C1 cl1 fp1 => ?_⟩⟩
  have z := (h s1 H1 C1 cl1 fp1).choose_spec.rd
  rw [hK] at z x q
  exact z g Fz H σ ρ Q x q
theorem uniG {B : Shared → Hp → Addr → List (Str × Addr) → List Addr → Cx} {tg : Expr} {f : D → Env → Option Env} {vs : List Nat} (hK : ∀ s H C cl fp, (B s H C cl fp).K = X.K) (h : ∀ s H C cl fp, ∃ t, DG Γ (B s H C cl fp) tg t f vs) : ∃ t, ∀ s H C cl fp, DG Γ (B s H C cl fp) tg t f vs := by
  refine ⟨fun v σ H Q => ∀ s H0 C cl fp, (h s H0 C cl fp).choose v σ H Q, fun s H0 C cl fp => ⟨⟨fun pins s1 σ H x v Q I rv q => (h s H0 C cl fp).choose_spec.pg.run pins s1 σ H x v Q I rv (q s H0 C cl fp)⟩, fun g Fz H σ ρ ρ' d v Q x rv e q s1 H1 C1 cl1 fp1 => ?_⟩⟩
  have z := (h s1 H1 C1 cl1 fp1).choose_spec.rd
  rw [hK] at z x q rv
  exact z g Fz H σ ρ ρ' d v Q x rv e q
variable {tg iter elt : Expr} {ifs : List Expr} {scope : Scope} {own : List (Str × Nat)} {wi : TI} {mi : M Its} {f : D → Env → Option Env} {mt : M Bool} {me : M D} {pos spos py : Pos} {y : Str} {vs : List Nat}
/-- [elt for target in iter if ..] -/
theorem o_comp (own : List (Str × Nat)) (hN : X.N.Nodup) (hi : DI Γ W X tg iter wi mi)
    (hg : ∀ (s : Shared) (H : Hp) (C : Addr) (cl : List (Str × Addr)) (fp : List Addr), ∃ t, DG Γ (X.blk s H scope (compEnvC scope cl C X.env) fp) tg t f vs)
    (ht : ∀ (s : Shared) (H : Hp) (C : Addr) (cl : List (Str × Addr)) (fp : List Addr), ∃ t, DTs Γ W0 (X.blk s H scope (compEnvC scope cl C X.env) fp) ifs t mt)
    (he : ∀ (s : Shared) (H : Hp) (C : Addr) (cl : List (Str × Addr)) (fp : List Addr), ∃ t, DE Γ W0 (X.blk s H scope (compEnvC scope cl C X.env) fp) elt t me)
    (ok : blkC X.N X.env.scope scope own = true := by rfl) (hv : own.map (·.2) = vs := by rfl) (hc : X.calm = true := by rfl) (hs : ∀ x, foldedSetIterable iter X.env x = pure x := by intro _; rfl) :
    DO Γ W X (.ListComp elt [⟨tg, iter, ifs, 0⟩] scope pos) (tE X (.ListComp elt [⟨tg, iter, ifs, 0⟩] scope pos)) (mComp vs mi f mt me) := by
  subst hv
  obtain ⟨gt, hg⟩ := uniG (X := X) (B := fun s H C cl fp => X.blk s H scope (compEnvC scope cl C X.env) fp) (fun _ _ _ _ _ => rfl) hg
  obtain ⟨tt, ht⟩ := uniT (X := X) (B := fun s H C cl fp => X.blk s H scope (compEnvC scope cl C X.env) fp) (fun _ _ _ _ _ => rfl) ht
  obtain ⟨te, he⟩ := uniE (X := X) (B := fun s H C cl fp => X.blk s H scope (compEnvC scope cl C X.env) fp) (fun _ _ _ _ _ => rfl) he
  exact (o_lc hc hN hi ok hg ht he hs).any
theorem s_comp (i : Nat) (own : List (Str × Nat)) (hN : X.N.Nodup) (hi : DI Γ W X tg iter wi mi)
    (hg : ∀ (s : Shared) (H : Hp) (C : Addr) (cl : List (Str × Addr)) (fp : List Addr), ∃ t, DG Γ (X.blk s H scope (compEnvC scope cl C X.env) fp) tg t f vs)
    (ht : ∀ (s : Shared) (H : Hp) (C : Addr) (cl : List (Str × Addr)) (fp : List Addr), ∃ t, DTs Γ W0 (X.blk s H scope (compEnvC scope cl C X.env) fp) ifs t mt)
    (he : ∀ (s : Shared) (H : Hp) (C : Addr) (cl : List (Str × Addr)) (fp : List Addr), ∃ t, DE Γ W0 (X.blk s H scope (compEnvC scope cl C X.env) fp) elt t me)
    (ok : blkC X.N X.env.scope scope own = true := by rfl) (hv : own.map (·.2) = vs := by rfl) (hc : X.calm = true := by rfl)
    (hy : X.N[i]? = some y := by rfl) (hyl : X.env.scope.names.lookup y = some .local := by rfl) (hsw : swapsWith (.ListComp elt [⟨tg, iter, ifs, 0⟩] scope pos) (some (.Name y py)) spos.line X.env = pure true := by rfl)
    (hs : ∀ x, foldedSetIterable iter X.env x = pure x := by intro _; rfl) :
    DS Γ W X (.Assign [.Name y py] (.ListComp elt [⟨tg, iter, ifs, 0⟩] scope pos) spos) (tSt X (.Assign [.Name y py] (.ListComp elt [⟨tg, iter, ifs, 0⟩] scope pos) spos)) (mOwn i (mComp vs mi f mt me)) := by
  subst hv
  obtain ⟨gt, hg⟩ := uniG (X := X) (B := fun s H C cl fp => X.blk s H scope (compEnvC scope cl C X.env) fp) (fun _ _ _ _ _ => rfl) hg
  obtain ⟨tt, ht⟩ := uniT (X := X) (B := fun s H C cl fp => X.blk s H scope (compEnvC scope cl C X.env) fp) (fun _ _ _ _ _ => rfl) ht
  obtain ⟨te, he⟩ := uniE (X := X) (B := fun s H C cl fp => X.blk s H scope (compEnvC scope cl C X.env) fp) (fun _ _ _ _ _ => rfl) he
  exact (s_lc i hc hN hi ok hg ht he hy hyl hsw hs).any
end
end L3
namespace L3
open PySem PySem.Spec PyProof.Rows L2
/-- a source that lends nothing -/
def RdI0 (Γ : Ct) (K : PySem.W.Frag) (W : WX) (wi : TI) (m : M (List D)) : Prop := ∀ g Fz H σ ρ (R : It → Hp → Prop), Fr Γ K g Fz H σ ρ → (match m ρ with
  | none => False
  | some (.ok ds ρ') => ∀ J Fz' H', Sub Fz Fz' → Fr Γ K g Fz' H' σ ρ' → Wk Γ K Fz' (fun _ => none) ds J → R J H'
  | some (.exc c d ρ') => ExGo Γ K W g Fz σ c ρ' d) → wi σ H R
structure DI0 (Γ : Ct) (W : WX) (X : Cx) (tg e : Expr) (wi : TI) (m : M (List D)) : Prop where
  pi : PI X tg e wi
  rd : RdI0 Γ X.K W wi m
section
variable {Γ : Ct} {K : PySem.W.Frag} {W : WX} {wi wi1 : TI} {gt gt1 : TG} {tt tt1 : TT} {te : TE} {vs vs1 : List Nat} {mi : M Its} {mi1 : M (List D)} {f f1 : D → Env → Option Env} {mt mt1 : M Bool} {me : M D} {m0 : M D}
end
section
variable {Γ : Ct} {W : WX} {X : Cx}
end
end L3
namespace L3
open PySem PySem.Spec PyProof.Rows L2
def toStrs : List D → Option (List Str)
  | [] => some []
  | .str z :: ds => (toStrs ds).map fun zs => z :: zs
  | _ :: _ => none
theorem toStrs_map : ∀ zs : List Str, toStrs (zs.map D.str) = some zs
  | [] => rfl
  | z :: zs => by simp only [List.map_cons, toStrs, toStrs_map zs, Option.map_some]
theorem toStrs_some : ∀ {ds : List D} {zs : List Str}, toStrs ds = some zs → ds = zs.map D.str
  | [], _, h => by cases h; rfl
  | d :: ds, _, h => by
    cases d with
    | str z =>
      simp only [toStrs] at h
      cases q : toStrs ds with
      | none => rw [q] at h; cases h
      | some zs => rw [q] at h; cases h; rw [toStrs_some q]; rfl
    | _ => cases h
def joinB (z : Str) (ys : List Str) : Bool := decide ((ys.map (·.length)).sum + ys.length * z.length ≤ 16777216)
def joinS (z : Str) (ds : List D) : Option D := (toStrs ds).bind fun ys => if joinB z ys = true then some (.str (Txt.join z ys)) else none
def fJoin (z : Str) : D → Option D
  | .lst ds => joinS z ds
  | .tup ds => joinS z ds
  | _ => none
def splB (a z : Str) : Bool := !(z.length == 0) && decide (a.length + 2 ≤ sizeLine)
def fSplit (z : Str) : D → Option (List D)
  | .str a => if splB a z = true then some ((Txt.split a z).map D.str) else none
  | _ => none
/-- int of a text or of an int -/
def fIntS : D → Option D
  | .str a => if a.length ≤ 640 then (PySem.intText? a).map fun n => .int n else none
  | d => fInt d
def fInSign : D → D → Option D
  | .str a, .str z => match a.cps.toList with
    | [c] => some (.bl (decide (c ∈ z.cps.toList)))
    | _ => none
  | _, _ => none
/-- f'z{x}' -/
def fmtB (z y : Str) : Bool := decide (z.length ≤ sizeLine ∧ (z ++ y).length ≤ sizeLine)
def fFmt (z : Str) : D → Option D
  | .int i => if i.natAbs.log2 < 1920 then (if fmtB z (toString i) = true then some (.str (z ++ toString i)) else none) else none
  | _ => none
def leTup (ns ms : List Int) : Bool := Ob.lexAt (fun j => decide (ns.getD j 0 = ms.getD j 0)) (fun j => decide (ns.getD j 0 ≤ ms.getD j 0)) (decide (ns.length ≤ ms.length)) 0 (min ns.length ms.length)
def fLeT : D → D → Option D
  | .tup ds, .tup es => (toInts ds).bind fun ns => (toInts es).bind fun ms => some (.bl (leTup ns ms))
  | _, _ => none
section
variable {Γ : Ct} {K : PySem.W.Frag} {X : Cx}
theorem RepL.strs {H : Hp} : ∀ zs : List Str, RepL Γ K H (zs.map D.str) (zs.map V.str)
  | [] => .nil
  | z :: zs => .cons .str (RepL.strs zs)
theorem RepL.to_strs {H : Hp} : ∀ {zs : List Str} {vs : List V}, RepL Γ K H (zs.map D.str) vs → vs = zs.map V.str
  | [], _, .nil => rfl
  | z :: zs, _, .cons .str t => by rw [RepL.to_strs t]; rfl
def rJoin (K : PySem.W.Frag) (z : Str) : V → Hp → VK → Prop := fun x H Q => ∃ p, ∃ ys : List Str, x = .ref p ∧ (SqL K H p (ys.map V.str) ∨ SqT K H p (ys.map V.str)) ∧ (ys.map (·.length)).sum + ys.length * z.length ≤ 16777216 ∧ Q (.str (Txt.join z ys)) H
theorem ud_join (z : Str) : UnD Γ K (rJoin K z) (fJoin z) := fun g Fz H σ ρ d x w Q fr rx hz k => by
  match d, hz with
  | .lst ds, hz =>
    obtain ⟨ys, h1, h2⟩ := Option.bind_eq_some_iff.mp (show joinS z ds = some w from hz)
    by_cases c : joinB z ys = true
    · rw [if_pos c] at h2; cases h2
      obtain ⟨a, xs, rfl, q1, r1⟩ := rx.lst fr.sub
      rw [toStrs_some h1] at r1
      rw [r1.to_strs] at q1
      exact ⟨a, ys, rfl, .inl (SqL.of q1), of_decide_eq_true c, k _ Fz H (Sub.refl _) fr .str⟩
    · rw [if_neg c] at h2; cases h2
  | .tup ds, hz =>
    obtain ⟨ys, h1, h2⟩ := Option.bind_eq_some_iff.mp (show joinS z ds = some w from hz)
    by_cases c : joinB z ys = true
    · rw [if_pos c] at h2; cases h2
      obtain ⟨a, xs, rfl, q1, r1⟩ := rx.tup fr.sub
      rw [toStrs_some h1] at r1
      rw [r1.to_strs] at q1
      exact ⟨a, ys, rfl, .inr (SqT.of q1), of_decide_eq_true c, k _ Fz H (Sub.refl _) fr .str⟩
    · rw [if_neg c] at h2; cases h2
def rSplit (z : Str) : V → Hp → VK → Prop := fun x H Q => ∃ a, x = .str a ∧ (z.length == 0) = false ∧ a.length + 2 ≤ sizeLine ∧ rNewStrs (Txt.split a z) H Q
theorem uo_split (z : Str) : UnO Γ K (rSplit z) (fSplit z) := fun g Fz H σ ρ d x w Q fr rx hz k => by
  match d, hz with
  | .str a, hz =>
    simp only [fSplit] at hz
    by_cases c : splB a z = true
    · rw [if_pos c] at hz; cases hz
      unfold splB at c
      rw [Bool.and_eq_true, Bool.not_eq_true'] at c
      rw [rx.str]
      refine ⟨a, rfl, c.1, of_decide_eq_true c.2, fun p hp => ?_⟩
      obtain ⟨hg, fr'⟩ := fr.fresh (xs := (Txt.split a z).map V.str) hp
      exact k p _ Fz _ (Sub.refl _) hg fr' (RepL.strs _)
    · rw [if_neg c] at hz; cases hz
def rIntS : List V → Hp → VK → Prop := fun xs H Q => rIntA xs H Q ∨ ∃ a n, xs = [.str a] ∧ PySem.intText? a = some n ∧ a.length ≤ 640 ∧ Q (.int n) H
theorem cl_intS : CallR X (.type "int") rIntS := CallR.or cl_int call_int_str
theorem ud_intS : UnD Γ K (fun y H Q => rIntS [y] H Q) fIntS := fun g Fz H σ ρ d x z Q fr rx hz k => by
  by_cases hs : ∃ a, d = .str a
  · obtain ⟨a, rfl⟩ := hs
    simp only [fIntS] at hz
    by_cases c : a.length ≤ 640
    · rw [if_pos c] at hz
      cases e : PySem.intText? a with
      | none => rw [e] at hz; cases hz
      | some n =>
        rw [e] at hz; cases hz
        rw [rx.str]
        exact .inr ⟨a, n, rfl, e, c, k _ Fz H (Sub.refl _) fr .int⟩
    · rw [if_neg c] at hz; cases hz
  · refine .inl (ud_int g Fz H σ ρ d x z Q fr rx ?_ k)
    rw [← hz]
    cases d with
    | str a => exact absurd ⟨a, rfl⟩ hs
    | _ => rfl
def rInSign : R2 := fun x y H Q => ∃ (c : Nat) (z : Str), x = .str ⟨#[c]⟩ ∧ y = .str z ∧ Q (.bl (decide (c ∈ z.cps.toList))) H
theorem opd_inSign : OpD Γ K rInSign fInSign := fun g Fz H σ ρ d e x y w Q fr rx ry hz k => by
  match d, e, hz with
  | .str a, .str z, hz =>
    simp only [fInSign] at hz
    split at hz
    · rename_i c hc
      cases hz
      rw [rx.str, ry.str]
      have ea : a = ⟨#[c]⟩ := by
        obtain ⟨⟨l⟩⟩ := a
        simp only at hc
        subst hc
        rfl
      exact ⟨c, z, by rw [ea], rfl, k _ Fz H (Sub.refl _) fr .bl⟩
    · cases hz
theorem k_inSign {b : Expr} (hm : behindInMarks .In b = false := by rfl) : CmpR Γ X .In b rInSign fInSign := ⟨op_in_sign, opd_inSign, hm⟩
theorem opd_leT : OpD Γ K (rLeT K) fLeT := fun g Fz H σ ρ d e x y z Q fr rx ry hz k => by
  match d, e, hz with
  | .tup ds, .tup es, hz =>
    obtain ⟨ns, ms, h1, h2, h3⟩ := bind2_some (show ((toInts ds).bind fun ns => (toInts es).bind fun ms => some (D.bl (leTup ns ms))) = some z from hz)
    cases h3
    obtain ⟨a, xs, rfl, q1, r1⟩ := rx.tup fr.sub
    obtain ⟨b, ys, rfl, q2, r2⟩ := ry.tup fr.sub
    rw [toInts_some h1] at r1
    rw [toInts_some h2] at r2
    rw [r1.to_ints] at q1
    rw [r2.to_ints] at q2
    exact ⟨a, b, ns, ms, rfl, rfl, SqT.of q1, SqT.of q2, k _ Fz H (Sub.refl _) fr .bl⟩
theorem k_leT {b : Expr} (hu : X.A.units + 65 < cLine) : CmpR Γ X .LtE b (rLeT X.K) fLeT := ⟨op_leT (Nat.lt_of_le_of_lt (Nat.le_add_right _ _) hu), opd_leT, nomark _⟩
def rFmt (z : Str) : V → Hp → VK → Prop := fun x H Q => z.length ≤ sizeLine ∧ ∃ i : Int, x = .int i ∧ i.natAbs.log2 < 1920 ∧ (z ++ toString i : Str).length ≤ sizeLine ∧ Q (.str (z ++ toString i)) H
theorem ud_fmt (z : Str) : UnD Γ K (rFmt z) (fFmt z) := fun g Fz H σ ρ d x w Q fr rx hz k => by
  match d, hz with
  | .int i, hz =>
    simp only [fFmt] at hz
    by_cases c : i.natAbs.log2 < 1920
    · rw [if_pos c] at hz
      by_cases c2 : fmtB z (toString i) = true
      · rw [if_pos c2] at hz; cases hz
        rw [rx.int]
        have c3 := of_decide_eq_true c2
        exact ⟨c3.1, i, rfl, c, c3.2, k _ Fz H (Sub.refl _) fr .str⟩
      · rw [if_neg c2] at hz; cases hz
    · rw [if_neg c] at hz; cases hz
end
def signs (z : Str) : List D := z.cps.toList.map fun c => .str ⟨#[c]⟩
def mSigns (m : M D) : M Its := m.bind fun d => match d with
  | .str z => M.ret (signs z, [])
  | _ => fun _ => none
section
variable {Γ : Ct} {K : PySem.W.Frag} {W : WX} {te : TE}
theorem wk_signs {Fz0 P0 : Hp} {z : Str} : Wk Γ K Fz0 P0 (signs z) (L2.Its z) := by
  refine ⟨fun H i _ _ hi => (show i < z.cps.size by simpa [signs] using hi), fun H _ _ => by simp [signs, L2.Its], fun g Fz H σ ρ i d x H1 hd _ _ fr y => ?_⟩
  obtain ⟨rfl, c, hc, rfl⟩ := y
  have hc' : z.cps.toList[i]? = some c := by rw [Array.getElem?_toList]; exact hc
  simp only [signs, List.getElem?_map, hc', Option.map_some, Option.some.injEq] at hd
  subst hd
  exact ⟨Fz, Sub.refl _, fr, .str⟩
theorem rd_signs {m : M D} (h : RdE Γ K W te m) : RdI Γ K W (iStr te) (mSigns m) := fun g Fz H σ ρ R x q => h g Fz H σ ρ _ x (by
  cases e : m ρ with
  | none => rw [show mSigns m ρ = none by simp only [mSigns, M.bind, e]] at q; exact q
  | some o =>
    cases o with
    | exc c d ρ1 => rw [show mSigns m ρ = some (.exc c d ρ1) from M.bind_exc e] at q; exact q
    | ok d ρ1 =>
      rw [show mSigns m ρ = _ from M.bind_ok e] at q
      intro v Fz1 H1 s x1 r
      match d, q, r with
      | .str z, q, .str => exact ⟨z, rfl, q _ g Fz1 H1 s Unl.refl x1 wk_signs⟩)
end
section
variable {Γ : Ct} {W : WX} {X : Cx} {te : TE} {e tg : Expr} {p apos pos cp fp : Pos} {m : M Bv} {j : Nat} {z : Str}
theorem i_signs {me : M D} (h : DE Γ W X e te me) : DI Γ W X tg e (iStr te) (mSigns me) := ⟨pi_str h.pe, rd_signs h.rd⟩
theorem e_intS (hm : X.mg "int" = none) (ha : DB Γ W X e te m) (hg : Gl X "int" := by rfl) (he : starEach [e] X.env = (false, eval e X.env) :: starEach [] X.env := by rfl) : DE Γ W X (.Call (.Name "int" p) [e] [] pos) (tCB rIntS (tCons te tNil)) (mUn fIntS m) := e_t1 cl_intS ud_intS bt_int hm ha hg (he := he)
/-- 'z'.join(e) -/
theorem e_join (ha : DB Γ W X e te m) (hs : starEach [e] X.env = [(false, eval e X.env)] := by rfl) (hbase : attributeBase (.Constant (.str z) j cp) "join" X.env (eval (.Constant (.str z) j cp) X.env) = eval (.Constant (.str z) j cp) X.env := by rfl) (hline : (apos.endLine == pos.line) = true := by rfl) :
    DE Γ W X (.Call (.Attribute (.Constant (.str z) j cp) "join" apos) [e] [] pos) (tM1 (fun x xs H Q => ∃ a p, ∃ ys : List Str, x = .str a ∧ xs = [.ref p] ∧ (SqL X.K H p (ys.map V.str) ∨ SqT X.K H p (ys.map V.str)) ∧
      (ys.map (·.length)).sum + ys.length * a.length ≤ 16777216 ∧ Q (.str (Txt.join a ys)) H) (tC (.str z)) te) (mUn (fJoin z) m) :=
  ⟨pe_join pe_str ha.pe hs hbase hline, fun g Fz H σ ρ Q x q => ⟨⟨z, rfl⟩, rd_un (r := fun y H Q => ∃ a p, ∃ ys : List Str, V.str z = .str a ∧ [y] = [.ref p] ∧ (SqL X.K H p (ys.map V.str) ∨ SqT X.K H p (ys.map V.str)) ∧
      (ys.map (·.length)).sum + ys.length * a.length ≤ 16777216 ∧ Q (.str (Txt.join a ys)) H) ha.rd (fun g Fz H σ ρ d x w Q fr rx hz k => by
        obtain ⟨p, ys, rfl, h2, h3, h4⟩ := ud_join z g Fz H σ ρ d x w Q fr rx hz k
        exact ⟨z, p, ys, rfl, rfl, h2, h3, h4⟩) g Fz H σ ρ Q x q⟩⟩
/-- e.split('z') -/
theorem o_split (ha : DB Γ W X e te m) (hs : starEach [Expr.Constant (.str z) j cp] X.env = [(false, eval (.Constant (.str z) j cp) X.env)] := by rfl) (hbase : attributeBase e "split" X.env (eval e X.env) = eval e X.env := by rfl) (hline : (apos.endLine == pos.line) = true := by rfl) :
    DO Γ W X (.Call (.Attribute e "split" apos) [.Constant (.str z) j cp] [] pos) (tM1 (fun x xs H Q => ∃ a b, x = .str a ∧ xs = [.str b] ∧ (b.length == 0) = false ∧ a.length + 2 ≤ sizeLine ∧ rNewStrs (Txt.split a b) H Q) te (tC (.str z))) (mUnO (fSplit z) m) :=
  ⟨pe_split ha.pe pe_str hs hbase hline, show RdO Γ X.K W (fun σ H Q => te σ H fun x H1 => (∃ a, x = V.str a) ∧ ∃ a b, x = V.str a ∧ [V.str z] = [V.str b] ∧ (b.length == 0) = false ∧ a.length + 2 ≤ sizeLine ∧ rNewStrs (Txt.split a b) H1 Q) (mUnO (fSplit z) m) from
    rd_unO (r := fun x H1 Q => (∃ a, x = V.str a) ∧ ∃ a b, x = V.str a ∧ [V.str z] = [V.str b] ∧ (b.length == 0) = false ∧ a.length + 2 ≤ sizeLine ∧ rNewStrs (Txt.split a b) H1 Q) ha.rd fun g Fz H σ ρ d x w Q fr rx hz k => by
      obtain ⟨a, rfl, h2, h3, h4⟩ := uo_split z g Fz H σ ρ d x w Q fr rx hz k
      exact ⟨⟨a, rfl⟩, a, z, rfl, rfl, h2, h3, h4⟩⟩
/-- f'z{e}' -/
theorem e_fmt (ha : DB Γ W X e te m) (hz : z.length ≤ sizeLine := by decide) : DE Γ W X (.JoinedStr [.Constant (.str z) j cp, .FormattedValue e (-1) none fp] pos) (fun σ H Q => tJs [tC (.str z), tFmt te] Str.empty σ H fun out H1 => Q (.str out) H1) (mUn (fFmt z) m) :=
  ⟨pe_joined (.cons pe_str (.cons (pe_fmt ha.pe) .nil)), by
    have e0 : ∀ y : Str, Str.empty ++ y = y := fun y => by
      obtain ⟨y⟩ := y
      show (⟨#[] ++ y⟩ : Str) = ⟨y⟩
      rw [Array.empty_append]
    have key : RdE Γ X.K W (fun σ H Q => te σ H fun x H1 => rFmt z x H1 Q) (mUn (fFmt z) m) := rd_un ha.rd (ud_fmt z)
    intro g Fz H σ ρ Q x q
    refine ⟨z, rfl, by rw [e0]; exact hz, ?_⟩
    rw [e0]
    refine rd_un (r := fun x H1 Q => (∃ y : Str, x = V.str y ∧ y.length ≤ sizeLine ∧ (∃ y2 : Str, V.str y = .str y2 ∧ (z ++ y2).length ≤ sizeLine ∧ Q (.str (z ++ y2)) H1)) ∨ ∃ i : Int, x = V.int i ∧ i.natAbs.log2 < 1920 ∧ (∃ y2 : Str, V.str (toString i) = .str y2 ∧ (z ++ y2).length ≤ sizeLine ∧ Q (.str (z ++ y2)) H1)) ha.rd (fun g Fz H σ ρ d x w Q fr rx hz k => ?_) g Fz H σ ρ Q x q
    obtain ⟨_, i, rfl, h2, h3, h4⟩ := ud_fmt z g Fz H σ ρ d x w Q fr rx hz k
    exact .inr ⟨i, rfl, h2, _, rfl, h3, h4⟩⟩
end
end L3
namespace L3S
open PySem PySem.Spec PyProof.Rows Srt SrtO
/-- the order of tuples of ints -/
def ltL : List Int → List Int → Bool
  | _, [] => false
  | [], _ :: _ => true
  | x :: xs, y :: ys => if x = y then ltL xs ys else decide (x < y)
theorem ltL_anti : ∀ {a b : List Int}, ltL a b = true → ltL b a = false
  | [], [], h => by cases h
  | [], _ :: _, _ => rfl
  | _ :: _, [], h => by cases h
  | x :: xs, y :: ys, h => by
    simp only [ltL] at h ⊢
    by_cases e : x = y
    · subst e; simp only [if_true] at h ⊢; exact ltL_anti h
    · rw [if_neg e, decide_eq_true_eq] at h
      rw [if_neg (fun z => e z.symm), decide_eq_false_iff_not]
      omega
theorem ltL_tr : ∀ {a b c : List Int}, ltL a b = false → ltL b c = false → ltL a c = false
  | a, _, [], _, _ => by cases a <;> rfl
  | [], [], _ :: _, _, h => by cases h
  | [], _ :: _, _ :: _, h, _ => by cases h
  | _ :: _, [], _ :: _, _, h => by cases h
  | x :: xs, y :: ys, z :: zs, h, h' => by
    simp only [ltL] at h h' ⊢
    by_cases e : x = y
    · subst e
      simp only [if_true] at h
      by_cases e2 : x = z
      · subst e2; simp only [if_true] at h' ⊢; exact ltL_tr h h'
      · rw [if_neg e2] at h' ⊢; exact h'
    · rw [if_neg e, decide_eq_false_iff_not] at h
      by_cases e2 : y = z
      · subst e2; rw [if_neg e, decide_eq_false_iff_not]; exact h
      · rw [if_neg e2, decide_eq_false_iff_not] at h'
        by_cases e3 : x = z
        · omega
        · rw [if_neg e3, decide_eq_false_iff_not]; omega
theorem ltL_eq : ∀ {a b : List Int}, ltL a b = false → ltL b a = false → a = b
  | [], [], _, _ => rfl
  | [], _ :: _, h, _ => by cases h
  | _ :: _, [], _, h => by cases h
  | x :: xs, y :: ys, h, h' => by
    simp only [ltL] at h h'
    by_cases e : x = y
    · subst e; simp only [if_true] at h h'; rw [ltL_eq h h']
    · rw [if_neg e, decide_eq_false_iff_not] at h
      rw [if_neg (fun z => e z.symm), decide_eq_false_iff_not] at h'
      omega
theorem swoL {α : Type} (k : α → List Int) : Swo fun v u => ltL (k v) (k u) := ⟨fun _ _ h => ltL_anti h, fun _ _ _ h1 h2 => ltL_tr h2 h1⟩
/-- a tuple of ints -/
def IsI (h : Heap) (v : Value) (ns : List Int) : Prop := ∃ a o xs n, v = .ref a ∧ h.get? a = some o ∧ o.cls = .type "tuple" ∧ o.data = .seq xs n ∧ IntsAre xs.toList ns
section
variable {prog : Program} {w : World} {A : Around} {E : Value → Shared → Prop} {s : Shared}
theorem IsI.keeps {h h' : Heap} {v : Value} {ns : List Int} (p : IsI h v ns) (k : ∀ b o, h.get? b = some o → o.cls = .type "tuple" → h'.get? b = some o) : IsI h' v ns := by
  obtain ⟨a, o, xs, n, e, ho, hc, hd, hi⟩ := p
  exact ⟨a, o, xs, n, e, k _ _ ho hc, hc, hd, hi⟩
theorem lexI (b fin : Bool) {Q : Bool → Shared → Prop} : ∀ {vs us : List Value} {ns ms : List Int} (i : Nat), IntsAre vs ns → IntsAre us ms → fin = decide (ns.length < ms.length) → Q (ltL ns ms) s → PySem.W.KatLex prog w A b fin Q (vs.zip us) i s
  | [], _, [], ms, i, .nil, h', e, q => by
    have z : fin = ltL [] ms := by
      rw [e]
      cases ms <;> rfl
    exact PySem.W.kat_nil (by rw [z]; exact q)
  | _ :: _, [], _ :: _, [], i, .cons _ _ _, .nil, e, q => by
    have z : fin = false := by rw [e]; rfl
    exact PySem.W.kat_nil (by rw [z]; exact q)
  | .int x t :: vs, .int y u :: us, _ :: ns, _ :: ms, i, .cons _ _ h, .cons _ _ h', e, q => by
    refine PySem.W.kat_cons (SeqAt.EqAt.int_int x t y u prog w _ _ ?_)
    refine PySem.W.kat_go (fun e1 => ?_) (fun e1 => ?_)
    · have ex : x = y := by simpa using e1
      refine PySem.W.kat_yes (lexI b fin (i + 1) h h' (by rw [e]; simp) ?_)
      simp only [ltL, if_pos ex] at q
      exact q
    · have ex : ¬ x = y := by simpa using e1
      simp only [ltL, if_neg ex] at q
      exact PySem.W.kat_no (TS.oneLt_ints _ q)
theorem cmpI {vs : List Value} {k : Value → List Int} (hp : ∀ v ∈ vs, IsI s.heap v (k v)) : Cmp prog w A s (tuples' true) (fun p => p.1 ∈ vs) (lt2 fun v u => ltL (k v) (k u)) := by
  intro p q hm hm'
  obtain ⟨a, o, xs, n, e, ho, hc, hd, hi⟩ := hp _ hm
  obtain ⟨a', o', xs', n', e', ho', hc', hd', hi'⟩ := hp _ hm'
  show wpAny (model prog w) A (keyLt' (tuples' true) p.1 q.1) (fun r s' => s' = s ∧ r = ltL (k p.1) (k q.1)) (fun _ _ => False) s
  generalize k p.1 = ns at hi ⊢
  generalize k q.1 = ms at hi' ⊢
  rw [e, e']
  refine PySem.W.kat_lt ho hd ho' hd' (lexI true _ 0 hi hi' ?_ ⟨rfl, rfl⟩)
  rw [← hi.length, ← hi'.length, Array.length_toList, Array.length_toList]
theorem firstsI {h : Heap} : ∀ {vs : List Value}, (∀ v ∈ vs, ∃ ns, ns ≠ [] ∧ IsI h v ns) → ∃ fs : List Value, PySem.W.KatTups h vs fs ∧ fs.length = vs.length ∧ ∀ f ∈ fs, ∃ x t, f = Value.int x t
  | [], _ => ⟨[], PySem.W.KatTups.nil, rfl, nofun⟩
  | v :: vs, hp => by
    obtain ⟨fs, h1, h2, h3⟩ := firstsI (vs := vs) fun z hz => hp z (.tail _ hz)
    obtain ⟨ns, hne, a, o, xs, n, rfl, ho, hc, hd, hi⟩ := hp v (.head _)
    generalize hl : xs.toList = l at hi
    cases hi with
    | nil => exact absurd rfl hne
    | cons x t r =>
      refine ⟨.int x t :: fs, PySem.W.KatTups.cons ho hc hd ?_ h1, by simp [h2], fun f hf => ?_⟩
      · rw [← Array.getElem?_toList, hl]; rfl
      · rcases List.mem_cons.mp hf with rfl | hf
        · exact ⟨x, t, rfl⟩
        · exact h3 f hf
theorem sortableI {a : Addr} {vs : List Value} {k : Value → List Int} (h0 : 0 < vs.length) (hp : ∀ v ∈ vs, k v ≠ [] ∧ IsI s.heap v (k v)) (ha : ∀ o, s.heap.get? a = some o → o.cls ≠ .type "tuple") : SortableO prog w A s a vs fun v u => ltL (k v) (k u) := by
  intro h' keep
  have hp' : ∀ v ∈ vs, IsI h' v (k v) := fun v hm => (hp v hm).2.keeps fun b o e c => keep b o (fun z => ha o (z ▸ e) c) e
  obtain ⟨fs, f1, f2, f3⟩ := firstsI (h := h') fun v hm => ⟨k v, (hp v hm).1, hp' v hm⟩
  refine ⟨tuples' true, fun Q E hq => PySem.W.kat_kind (T := .type "int") f1 (by omega) (fun f hm => ?_) (by rfl) ?_, cmpI hp'⟩
  · obtain ⟨x, t, rfl⟩ := f3 f hm
    exact PySem.W.Looks.now
  · have ne : (Value.type "int" != Value.type "tuple") = true := by first | decide +kernel | rfl | decide
    rw [ne]
    exact hq
/-- a list or a tuple with these items -/
def IsSq (h : Heap) (l : Addr) (vs : List Value) : Prop := ∃ o T n, h.get? l = some o ∧ (T = "list" ∨ T = "tuple") ∧ o.cls = .type T ∧ o.data = .seq vs.toArray n
theorem collect_seq {l : Addr} {vs : List Value} {Q : List Value → Shared → Prop} (hl : IsSq s.heap l vs) (hsz : vs.length ≤ sizeLine)
    (h : Q vs { s with heap := (s.heap.push (seqObj "list" #[] 0)).update s.heap.objs.size (Obj.mapSeq (· ++ vs.toArray)) }) : wpAny (model prog w) A (collect (.ref l)) Q E s := by
  obtain ⟨o, T, n, ho, hT, hc, hd⟩ := id hl
  have hl' : l < s.heap.objs.size := Heap.lt_size ho
  unfold collect
  refine wpAny_bind (wpAny_runValue (codeAny_builtin entry_proto_collect' ?_))
  refine wpAny_bind (wpAny_newList (wpAny_pure ⟨Code.quiet_builtin _ (by decide +kernel), codeAny_builtin entry_list_iadd' ?_⟩))
  unfold Builtin.«list.__iadd__»
  show wpAny _ _ (Builtin.List.listExtendWith (.ref s.heap.objs.size) (.ref l) (.ref s.heap.objs.size)) _ _ { s with heap := s.heap.push (seqObj "list" #[] 0) }
  unfold Builtin.List.listExtendWith
  have ho' : (s.heap.push (seqObj "list" #[] 0)).get? l = some o := Heap.get?_push_of_some _ ho
  refine wpAny_bind (wpAny_typeOf ⟨o, ho', hc⟩ ?_)
  rw [if_pos (show _ from by
    rcases hT with rfl | rfl
    · have ht : (Value.type "list" == Value.type "list") = true := by rfl
      rw [ht]; simp
    · have ht : (Value.type "tuple" == Value.type "tuple") = true := by rfl
      rw [ht]; simp)]
  refine wpAny_bind (listItems_at ho' hd ?_)
  refine wpAny_bind (listItems_at (xs := #[]) (n := 0) (Heap.get?_push_size _ rfl) rfl ?_)
  rw [if_neg (by simp)]
  refine wpAny_bind (listUpdate_at (xs := #[]) (n := 0) (Heap.get?_push_size _ rfl) rfl ?_ (Nat.zero_le _) (by show (#[] ++ vs.toArray).size ≤ sizeLine + 1; simp only [Array.size_append, List.size_toArray, List.length_nil]; omega))
  refine wpAny_pure ?_
  show wpAny (model prog w) A (do
      let o ← load s.heap.objs.size
      match o.data with
      | .seq xs _ => pure xs.toList
      | _ => unsupported "internal:collect") Q E { s with heap := (s.heap.push (seqObj "list" #[] 0)).update s.heap.objs.size (Obj.mapSeq (· ++ vs.toArray)) }
  refine wpAny_bind (wpAny_load (get?_update_seq (Heap.get?_push_size _ rfl) _) ?_)
  show wpAny _ _ (pure ((#[] : Array Value) ++ vs.toArray).toList) Q E _
  rw [show ((#[] : Array Value) ++ vs.toArray).toList = vs by simp]
  exact wpAny_pure h
/-- sorted of a list or a tuple -/
theorem srt_seq {l : Addr} {vs : List Value} {ltv : Value → Value → Bool} {Q : Value → Shared → Prop} (O : Swo ltv) (hl : IsSq s.heap l vs) (hz : vs.length ≤ sizeLine)
    (hS : 2 ≤ vs.length → ∀ (h₁ : Heap) (a : Addr), h₁.get? a = some (seqObj "list" vs.toArray 0) → (∀ b o, s.heap.get? b = some o → b ≠ a ∧ h₁.get? b = some o) → SortableO prog w A.in1.in1 { s with heap := h₁ } a vs ltv)
    (h : ∀ out : List Value, Srtd ltv out → Stb ltv out vs → Q (.ref (s.heap.objs.size + 1)) { s with heap := sortedAll s.heap vs out.toArray }) : wpAny (model prog w) A (call (.builtin "sorted") [.ref l]) Q E s := by
  refine Calls.call_function_entry kind_sorted plain_sorted entry_sorted (args_sorted1 _) ?_
  unfold Builtin.«sorted»
  refine wpAny_bind (m := checkCount "sorted" 1 1 _) (wpAny_pure ?_)
  refine wpAny_bind (collect_seq hl hz (wpAny_bind (wpAny_newList ?_ hz)))
  have hsz : ((s.heap.push (seqObj "list" #[] 0)).update s.heap.objs.size (Obj.mapSeq (· ++ vs.toArray))).objs.size = s.heap.objs.size + 1 := by
    rw [Heap.size_update, size_push']
  have hoL : (((s.heap.push (seqObj "list" #[] 0)).update s.heap.objs.size (Obj.mapSeq (· ++ vs.toArray))).push (seqObj "list" vs.toArray 0)).get? (s.heap.objs.size + 1) = some (seqObj "list" vs.toArray 0) := by
    rw [← hsz]; exact Heap.get?_push_size _ rfl
  have old : ∀ b o, s.heap.get? b = some o → b ≠ s.heap.objs.size + 1 ∧ (((s.heap.push (seqObj "list" #[] 0)).update s.heap.objs.size (Obj.mapSeq (· ++ vs.toArray))).push (seqObj "list" vs.toArray 0)).get? b = some o := by
    intro b o q
    have hlt : b < s.heap.objs.size := Heap.lt_size q
    refine ⟨Nat.ne_of_lt (Nat.lt_succ_of_lt hlt), Heap.get?_push_of_some _ ?_⟩
    rw [Heap.get?_update_ne _ _ _ _ (Nat.ne_of_lt hlt)]
    exact Heap.get?_push_of_some _ q
  show wpAny _ _ _ _ _ { s with heap := ((s.heap.push (seqObj "list" #[] 0)).update s.heap.objs.size (Obj.mapSeq (· ++ vs.toArray))).push (seqObj "list" vs.toArray 0) }
  rw [hsz]
  exact wpAny_bind (wpAny_holding (wpAny_call_entry slot_list_sort ⟨_, hoL, rfl⟩ entry_list_sort (list_sort_ord O hoL hz (fun h2 => hS h2 _ _ hoL old) fun out hs hb => ⟨_, rfl, wpAny_pure ⟨_, rfl, h out hs hb⟩⟩) (args_list_sort _)))
theorem sortedI {l : Addr} {vs : List Value} {k : Value → List Int} {Q : Value → Shared → Prop} (hl : IsSq s.heap l vs) (hz : vs.length ≤ sizeLine) (hp : ∀ v ∈ vs, k v ≠ [] ∧ IsI s.heap v (k v))
    (h : ∀ (h' : Heap) (d : Addr) (out : List Value), Srtd (fun v u => ltL (k v) (k u)) out → Stb (fun v u => ltL (k v) (k u)) out vs → (∀ b o, s.heap.get? b = some o → h'.get? b = some o) → s.heap.objs.size ≤ d → (∃ n, h'.get? d = some (seqObj "list" out.toArray n)) → Q (.ref d) { s with heap := h' }) :
    wpAny (model prog w) A (call (.builtin "sorted") [.ref l]) Q E s := by
  refine srt_seq (swoL k) hl hz (fun h2 h₁ a ha kk => sortableI (s := { s with heap := h₁ }) (by omega) (fun v hm => ⟨(hp v hm).1, (hp v hm).2.keeps fun b o e _ => (kk b o e).2⟩) fun o e c => ?_) fun out hs hb =>
    h _ _ out hs hb (fun b o e => sortedAll_old e) (Nat.le_succ _) (sortedAll_at s.heap vs out.toArray)
  have e' : some o = some (seqObj "list" vs.toArray 0) := e.symm.trans ha
  cases e'
  exact absurd (Value.type.inj c) (by decide)
end
end L3S
namespace L3
open PySem PySem.Spec PyProof.Rows L2 SrtO L3S
def SqA (K : PySem.W.Frag) (H : Hp) (a : Addr) (xs : List V) : Prop := SqL K H a xs ∨ SqT K H a xs
theorem sq_of {X : Cx} {pins : List (Addr × Obj)} {σ : L2.St} {H : Hp} {s : Shared} {a : Addr} {xs : List V} (I : Inv X pins σ H s) (h : SqA X.K H a xs) : ∃ its : List Value, Vals xs its ∧ IsSq s.heap a its ∧ xs.length ≤ sizeLine := by
  rcases h with h | h
  · obtain ⟨its, r, pl, hz⟩ := I.list h
    obtain ⟨o, ho, hc, n, hd⟩ := pl.isList
    exact ⟨its, r, ⟨o, _, n, ho, .inl rfl, hc, hd⟩, hz⟩
  · obtain ⟨its, r, pl, hz⟩ := I.tuple h
    obtain ⟨o, ho, hc, n, hd⟩ := pl
    exact ⟨its, r, ⟨o, _, n, ho, .inr rfl, hc, hd⟩, hz⟩
/-- sorted(xs), tuples of ints -/
def rSrtT (K : PySem.W.Frag) : List V → Hp → VK → Prop := fun vs H Q => ∃ (a : Addr) (xs : List V) (k : V → List Int), vs = [V.ref a] ∧ SqA K H a xs ∧ (∀ x ∈ xs, k x ≠ [] ∧ ∃ t, x = V.ref t ∧ H t = some (.tup ((k x).map V.int))) ∧
  ∀ ys p, Srtd (fun x y => ltL (k x) (k y)) ys → Stb (fun x y => ltL (k x) (k y)) ys xs → H p = none → Q (.ref p) (upd H p (.lst ys))
section
variable {X : Cx}
theorem cl_srtT : CallR X (.builtin "sorted") (rSrtT X.K) := by
  intro pins s σ H vs us Q I r h
  obtain ⟨a, xs, k, rfl, hs, hx, q⟩ := h
  obtain ⟨its, rv, hl, hz⟩ := sq_of I hs
  rw [Vals.ref1 r]
  obtain ⟨e1, e2⟩ := refs_back rv fun x m => let ⟨_, t, e, _⟩ := hx x m; ⟨t, e⟩
  refine sortedI (k := fun u => k (backV u)) hl (by rw [← rv.length]; exact hz) (fun v hv => ?_) fun h' d out h1 h2 kp hd hn => ?_
  · obtain ⟨t, rfl⟩ := e2 v hv
    have hm : V.ref t ∈ xs := by rw [e1]; exact List.mem_map.mpr ⟨_, hv, rfl⟩
    obtain ⟨hne, t', e, ht⟩ := hx _ hm
    cases e
    obtain ⟨_, its2, r2, o, ho, hc, n, hdt⟩ := I.hok _ _ ht
    exact ⟨hne, t, o, _, n, rfl, ho, hc, hdt, r2.ints⟩
  · have refs : ∀ u ∈ out, ∃ a, u = Value.ref a := fun u hu => e2 u (h2.perm.mem_iff.mp hu)
    obtain ⟨n, hn⟩ := hn
    have stb : Stb (fun x y => ltL (k x) (k y)) (out.map backV) xs := by
      rw [e1]
      exact Stb.map (lt := fun x y => ltL (k x) (k y)) (swoL k) backV h2
    refine ⟨.ref d, upd H d (.lst (out.map backV)), I.laid (t' := s.toks) kp hd ⟨by rw [stb.len]; exact hz, out, n, vals_back refs, hn⟩, rfl, q _ d (srtd_map h1) stb (I.hok.fresh hd)⟩
/-- sorted(xs), ints -/
def rSrtI (K : PySem.W.Frag) : List V → Hp → VK → Prop := fun vs H Q => ∃ (a : Addr) (ns : List Int), vs = [V.ref a] ∧ SqA K H a (ns.map V.int) ∧
  ∀ (ms : List Int) (p : Addr), ms.Perm ns → ms.Pairwise (· ≤ ·) → H p = none → Q (.ref p) (upd H p (.lst (ms.map V.int)))
theorem cl_srtI : CallR X (.builtin "sorted") (rSrtI X.K) := by
  intro pins s σ H vs us Q I r h
  obtain ⟨a, ns, rfl, hs, q⟩ := h
  obtain ⟨its, rv, hl, hz⟩ := sq_of I hs
  rw [Vals.ref1 r]
  have hi := rv.ints
  refine srt_seq SrtO.swo_int hl (by rw [← rv.length]; exact hz) (fun h2 h₁ a' _ _ => SrtO.ints_sortable hi h2) fun out h1 h2 => ?_
  obtain ⟨k1, k2, k3⟩ := SrtO.ints_out hi h1 h2
  obtain ⟨ep, he'⟩ := sortedAll_at s.heap its out.toArray
  have hlen : ((out.map SrtO.iv).map V.int).length ≤ sizeLine := by
    have hz' := hz
    rw [List.length_map] at hz' ⊢
    rw [k2.length_eq]; exact hz'
  refine ⟨.ref _, upd H (s.heap.objs.size + 1) (.lst ((out.map SrtO.iv).map V.int)), ?_, rfl, q _ _ k2 k3 (I.hok.fresh (Nat.le_succ _))⟩
  exact I.laid (t' := s.toks) (fun _ _ => sortedAll_old) (Nat.le_succ _) ⟨hlen, out, ep, vals_of_ints k1, he'⟩
end
def rSrtA (K : PySem.W.Frag) : List V → Hp → VK → Prop := fun vs H Q => rSrtI K vs H Q ∨ rSrtT K vs H Q
theorem cl_srt {X : Cx} : CallR X (.builtin "sorted") (rSrtA X.K) := CallR.or cl_srtI cl_srtT
def toTup : D → Option (List Int)
  | .tup ds => (toInts ds).bind fun ns => if ns = [] then none else some ns
  | _ => none
def toTups : List D → Option (List (List Int))
  | [] => some []
  | d :: ds => (toTup d).bind fun n => (toTups ds).map (n :: ·)
def tupD (ns : List Int) : D := .tup (ns.map D.int)
def leI (a b : Int) : Bool := decide (a ≤ b)
def leL (a b : List Int) : Bool := !ltL b a
def srtL (ds : List D) : Option (List D) := match toInts ds with
  | some ns => some ((ns.mergeSort leI).map D.int)
  | none => (toTups ds).map fun ts => (ts.mergeSort leL).map tupD
def itL : D → Option (List D)
  | .lst ds => some ds
  | .tup ds => some ds
  | _ => none
def fSrt (d : D) : Option (List D) := (itL d).bind srtL
theorem toTup_some {d : D} {ns : List Int} (h : toTup d = some ns) : d = tupD ns ∧ ns ≠ [] := by
  cases d with
  | tup ds =>
    simp only [toTup] at h
    cases e : toInts ds with
    | none => rw [e] at h; cases h
    | some ms =>
      rw [e, Option.bind_some] at h
      by_cases z : ms = []
      · rw [if_pos z] at h; cases h
      · rw [if_neg z] at h; cases h; exact ⟨by rw [toInts_some e]; rfl, z⟩
  | _ => cases h
theorem toTups_some : ∀ {ds : List D} {ts : List (List Int)}, toTups ds = some ts → ds = ts.map tupD ∧ ∀ t ∈ ts, t ≠ []
  | [], ts, h => by cases h; exact ⟨rfl, nofun⟩
  | d :: ds, ts, h => by
    simp only [toTups] at h
    cases e : toTup d with
    | none => rw [e] at h; cases h
    | some n =>
      rw [e, Option.bind_some] at h
      cases e2 : toTups ds with
      | none => rw [e2] at h; cases h
      | some ns =>
        rw [e2] at h; cases h
        obtain ⟨h1, h2⟩ := toTups_some e2
        obtain ⟨h3, h4⟩ := toTup_some e
        exact ⟨by rw [h3, h1]; rfl, fun t ht => by rcases List.mem_cons.mp ht with rfl | ht; exact h4; exact h2 t ht⟩
theorem leL_trans (a b c : List Int) (h1 : leL a b = true) (h2 : leL b c = true) : leL a c = true := by
  unfold leL at *
  rw [Bool.not_eq_true'] at *
  exact ltL_tr h2 h1
theorem leL_total (a b : List Int) : (leL a b || leL b a) = true := by
  unfold leL
  cases e : ltL b a with
  | false => rfl
  | true => rw [ltL_anti e]; rfl
section
variable {Γ : Ct} {K : PySem.W.Frag}
open Classical in
/-- the k of the tuples that stand -/
noncomputable def kOf (xs : List V) (ts : List (List Int)) (x : V) : List Int := if h : ∃ n ∈ ts, (x, n) ∈ xs.zip ts then h.choose else [0]
theorem RepL.tups {H : Hp} : ∀ {ts : List (List Int)} {xs : List V}, RepL Γ K H (ts.map tupD) xs → xs.length = ts.length ∧ ∀ p ∈ xs.zip ts, ∃ t, p.1 = V.ref t ∧ H t = some (.tup (p.2.map V.int))
  | [], [], _ => ⟨rfl, nofun⟩
  | t :: ts, _, .cons (v := v) (vs := vs) r rs => by
    obtain ⟨h1, h2⟩ := RepL.tups rs
    refine ⟨by simp [h1], fun p hp => ?_⟩
    rcases List.mem_cons.mp hp with rfl | hp
    · cases r with
      | tup e1 e2 => rw [RepL.to_ints e2] at e1; exact ⟨_, rfl, e1⟩
    · exact h2 p hp
theorem uo_srt : UnO Γ K (fun y H Q => rSrtA K [y] H Q) fSrt := fun g Fz H σ ρ d x z Q fr rx hz k => by
  have key : ∃ ds a xs, x = V.ref a ∧ SqA K H a xs ∧ RepL Γ K Fz ds xs ∧ srtL ds = some z := by
    match d, hz with
    | .lst ds, hz =>
      obtain ⟨a, xs, rfl, h1, h2⟩ := rx.lst fr.sub
      exact ⟨ds, a, xs, rfl, .inl (SqL.of h1), h2, hz⟩
    | .tup ds, hz =>
      obtain ⟨a, xs, rfl, h1, h2⟩ := rx.tup fr.sub
      exact ⟨ds, a, xs, rfl, .inr (SqT.of h1), h2, hz⟩
  obtain ⟨ds, a, xs, rfl, h1, h2, hz⟩ := key
  · unfold srtL at hz
    cases e : toInts ds with
    | some ns =>
      simp only [e] at hz
      cases hz
      rw [toInts_some e] at h2
      rw [h2.to_ints] at h1
      refine .inl ⟨a, ns, rfl, h1, fun ns' p hp hs hf => ?_⟩
      have hu : ns' = ns.mergeSort leI := by
        refine List.Perm.eq_of_pairwise (le := fun a b => a ≤ b) (fun a b _ _ h h' => Int.le_antisymm h h') hs ?_ (hp.trans (List.mergeSort_perm ns leI).symm)
        have z := List.pairwise_mergeSort (le := leI) (fun a b c h h' => by unfold leI at *; simp only [decide_eq_true_eq] at *; omega) (fun a b => by unfold leI; simp only [Bool.or_eq_true, decide_eq_true_eq]; omega) ns
        exact z.imp fun {a b} h => of_decide_eq_true h
      subst hu
      obtain ⟨hg, fr'⟩ := fr.fresh (xs := (ns.mergeSort leI).map V.int) hf
      exact k p _ Fz _ (Sub.refl _) hg fr' (RepL.ints _)
    | none =>
      simp only [e] at hz
      cases e2 : toTups ds with
      | none => rw [e2] at hz; cases hz
      | some ts =>
        rw [e2] at hz
        cases hz
        obtain ⟨e3, hne⟩ := toTups_some e2
        rw [e3] at h2
        obtain ⟨hlen, hat⟩ := h2.tups
        have kx : ∀ x ∈ xs, kOf xs ts x ∈ ts ∧ (x, kOf xs ts x) ∈ xs.zip ts := fun x hx => by
          obtain ⟨i, hi, rfl⟩ := List.getElem_of_mem hx
          have hi2 : i < ts.length := by omega
          have ex : ∃ n ∈ ts, (xs[i], n) ∈ xs.zip ts := ⟨ts[i], List.getElem_mem hi2, List.mem_iff_getElem.mpr ⟨i, by rw [List.length_zip]; omega, by simp⟩⟩
          unfold kOf
          rw [dif_pos ex]
          exact ex.choose_spec
        have kz : ∀ p ∈ xs.zip ts, kOf xs ts p.1 = p.2 := fun p hp => by
          have hx : p.1 ∈ xs := (List.of_mem_zip (a := p.1) (b := p.2) hp).1
          obtain ⟨t1, q1, q2⟩ := hat p hp
          obtain ⟨t2, q3, q4⟩ := hat _ (kx p.1 hx).2
          have q3' : p.1 = V.ref t2 := q3
          rw [q1] at q3'
          cases q3'
          have q4' : Fz t1 = some (.tup ((kOf xs ts p.1).map V.int)) := q4
          rw [q2] at q4'
          have q5 : p.2.map V.int = (kOf xs ts p.1).map V.int := by injection q4' with z; injection z
          exact (List.map_inj_right (f := V.int) (fun a b h => by injection h)).mp q5.symm
        have rep1 : ∀ x ∈ xs, Rep Γ K Fz (tupD (kOf xs ts x)) x := fun x hx => by
          obtain ⟨t, q1, q2⟩ := hat _ (kx x hx).2
          have q1' : x = V.ref t := q1
          rw [q1']
          rw [q1'] at q2
          exact .tup q2 (RepL.ints _)
        have mk : ts = xs.map (kOf xs ts) := by
          refine List.ext_getElem (by simp [hlen]) fun i h3 h4 => ?_
          have hi : i < xs.length := by omega
          rw [List.getElem_map]
          exact (kz (xs[i], ts[i]) (List.mem_iff_getElem.mpr ⟨i, by rw [List.length_zip]; omega, by simp⟩)).symm
        refine .inr ⟨a, xs, kOf xs ts, rfl, h1, fun x hx => ⟨hne _ (kx x hx).1, ?_⟩, fun ys p hs hb hf => ?_⟩
        · obtain ⟨t, q1, q2⟩ := hat _ (kx x hx).2
          exact ⟨t, q1, fr.sub _ _ q2⟩
        · have hu : ys.map (kOf xs ts) = ts.mergeSort leL := by
            refine List.Perm.eq_of_pairwise (le := fun a b => leL a b = true) (fun a b _ _ h h' => ?_) ?_ (List.pairwise_mergeSort leL_trans leL_total ts) (((hb.perm.map _).trans (by rw [← mk])).trans (List.mergeSort_perm ts leL).symm)
            · unfold leL at h h'
              rw [Bool.not_eq_true'] at h h'
              exact ltL_eq h' h
            · refine List.pairwise_map.mpr (hs.imp fun {a b} h => ?_)
              have h' : ltL (kOf xs ts b) (kOf xs ts a) = false := h
              unfold leL
              rw [h']; rfl
          have hys : ∀ y ∈ ys, y ∈ xs := fun y hy => hb.perm.mem_iff.mp hy
          have rep2 : RepL Γ K Fz ((ts.mergeSort leL).map tupD) ys := by
            rw [← hu]
            clear hu hs hb hf
            induction ys with
            | nil => exact .nil
            | cons y ys ih => exact .cons (rep1 y (hys y (.head _))) (ih fun z hz => hys z (.tail _ hz))
          obtain ⟨hg, fr'⟩ := fr.fresh (xs := ys) hf
          exact k p ys Fz _ (Sub.refl _) hg fr' rep2
end
section
variable {Γ : Ct} {W : WX} {X : Cx} {te : TE} {m : M Bv} {e : Expr} {p pos : Pos}
theorem o_sorted (hm : X.mg "sorted" = none) (ha : DB Γ W X e te m) (hg : Gl X "sorted" := by rfl) (he : starEach [e] X.env = (false, eval e X.env) :: starEach [] X.env := by rfl) : DO Γ W X (.Call (.Name "sorted" p) [e] [] pos) (tCB (rSrtA X.K) (tCons te tNil)) (mUnO fSrt m) := o_b1 cl_srt uo_srt bt_sorted hm ha hg (he := he)
end
end L3
namespace L3
open PySem PySem.Spec PyProof.Rows L2
def slotDl : Slot → Option (List Int × Int)
  | .own (.deal cs b) => some (cs, b)
  | .io (.deal cs b) => some (cs, b)
  | _ => none
def dlAt (ρ : Env) (i : Nat) : Option (List Int × Int) := (ρ[i]?).bind slotDl
def dlPut (ρ : Env) (i : Nat) (cs : List Int) (b : Int) : Env := ρ.set i (putS (ρ[i]?.getD .emp) (.deal cs b))
section
variable {Γ : Ct} {K : PySem.W.Frag} {W : WX} {g : Gh} {Fz H : Hp} {σ : L2.St} {ρ : Env} {te : TE}
theorem dl_get {i : Nat} {cs : List Int} {b : Int} (x : Fr Γ K g Fz H σ ρ) (h : dlAt ρ i = some (cs, b)) : ∃ a c, a ≠ c ∧ σ[i]? = some (some (.ref a)) ∧ H a = some (.lst [.ref c, .int b]) ∧ H c = some (.lst (cs.map V.int)) ∧
    (∀ cs', Fr Γ K g Fz (upd H c (.lst (cs'.map V.int))) σ (dlPut ρ i cs' b)) ∧ ∀ b', Fr Γ K g Fz (upd H a (.lst [.ref c, .int b'])) σ (dlPut ρ i cs b') := by
  obtain ⟨κ, x⟩ := x
  unfold dlAt at h
  cases e : ρ[i]? with
  | none => rw [e] at h; cases h
  | some s =>
    rw [e, Option.bind_some] at h
    have key : ∃ v, σ[i]? = some (some v) ∧ CtOk Γ K Fz H (κ i) v (.deal cs b) := by
      have z := x.slot i s e
      cases s with
      | own c =>
        cases c with
        | deal cs' b' => cases h; exact z
        | lst _ => cases h
        | dic _ _ _ => cases h
      | io c =>
        cases c with
        | deal cs' b' => cases h; obtain ⟨v, z1, z2, _⟩ := z; exact ⟨v, z1, z2⟩
        | lst _ => cases h
        | dic _ _ _ => cases h
      | emp => cases h
      | raw => cases h
      | fz _ => cases h
      | bor _ => cases h
    obtain ⟨v, hσ, a, c, hk, ne, rfl, h1, h2⟩ := key
    have ai : a ∈ κ i := by rw [hk]; simp
    have ci : c ∈ κ i := by rw [hk]; simp
    obtain ⟨hlt, za, pa, _⟩ := x.fresh i a ai
    obtain ⟨_, zc, pc, _⟩ := x.fresh i c ci
    have gen : ∀ (p : Addr) (o : HO) (cs' : List Int) (b' : Int), Pln o → p ∈ κ i → upd H p o a = some (.lst [.ref c, .int b']) → upd H p o c = some (.lst (cs'.map V.int)) → Fr Γ K g Fz (upd H p o) σ (dlPut ρ i cs' b') := fun p o cs' b' hnt hp q1 q2 => by
      obtain ⟨_, zp, pp, _⟩ := x.fresh i p hp
      refine ⟨κ, ⟨fun q u hq => ?_, fun q u hq => ?_, by unfold dlPut; rw [List.length_set]; exact x.len, fun j t ht => ?_, fun j q hq => ?_, x.disj, x.cch.go (Sub.refl _) (fun _ _ _ e => e) fun q kvs hl w1 w2 w3 w4 => ⟨by rw [upd_ne (fun e => by subst e; exact w4 i hp)]; exact w1, w2, w3, w4⟩, putTups x.tups hnt⟩⟩
      · rw [upd_ne (fun e => by subst e; rw [hq] at zp; cases zp)]; exact x.sub q u hq
      · rw [upd_ne (fun e => by subst e; rw [hq] at pp; cases pp)]; exact x.prot q u hq
      · unfold dlPut at ht
        rw [e] at ht
        by_cases ej : j = i
        · subst ej
          rw [List.getElem?_set_self hlt] at ht
          have z := x.slot j s e
          cases s with
          | own c0 => cases ht; exact ⟨.ref a, hσ, a, c, hk, ne, rfl, q1, q2⟩
          | io c0 =>
            cases ht
            obtain ⟨v, z1, _, z3⟩ := z
            rw [hσ] at z1; cases z1
            exact ⟨.ref a, hσ, ⟨a, c, hk, ne, rfl, q1, q2⟩, z3⟩
          | emp => cases h
          | raw => cases h
          | fz _ => cases h
          | bor _ => cases h
        · rw [List.getElem?_set_ne (fun z => ej z.symm)] at ht
          exact (x.slot j t ht).mono (Sub.refl Fz) fun q hq => upd_ne fun z => by subst z; exact ej (x.disj j i q hq hp)
      · obtain ⟨w0, w1, w2, u, w3⟩ := x.fresh j q hq
        refine ⟨by unfold dlPut; rw [List.length_set]; exact w0, w1, w2, ?_⟩
        by_cases ep : q = p
        · subst ep; exact ⟨_, upd_same⟩
        · exact ⟨u, by rw [upd_ne ep]; exact w3⟩
    exact ⟨a, c, ne, hσ, h1, h2, fun cs' => gen c _ cs' b trivial ci (by rw [upd_ne ne]; exact h1) upd_same, fun b' => gen a _ cs b' trivial ai upd_same (by rw [upd_ne (Ne.symm ne)]; exact h2)⟩
/-- deal[0] -/
def tDl (K : PySem.W.Frag) (i : Nat) : TE := tOp (rIx K) (tVar i) (tC (.int 0))
theorem dl_ref {i : Nat} {a c : Addr} {b : Int} {Q : VK} (h : σ[i]? = some (some (.ref a))) (h1 : H a = some (.lst [.ref c, .int b])) (q : Q (.ref c) H) : tDl K i σ H Q := ⟨_, h, .inl ⟨a, [.ref c, .int b], 0, _, rfl, rfl, SqL.of h1, rfl, q⟩⟩
theorem dl_num {i : Nat} {a c : Addr} {b : Int} {Q : VK} (h : σ[i]? = some (some (.ref a))) (h1 : H a = some (.lst [.ref c, .int b])) (q : Q (.int b) H) : tOp (rIx K) (tVar i) (tC (.int 1)) σ H Q := ⟨_, h, .inl ⟨a, [.ref c, .int b], 1, _, rfl, rfl, SqL.of h1, rfl, q⟩⟩
def csD (cs : List Int) : D := .lst (cs.map D.int)
theorem cs_rep {c : Addr} {cs : List Int} (h : H c = some (.lst (cs.map V.int))) : RepH Γ K Fz H (csD cs) (.ref c) := .inr (.inl ⟨_, c, _, rfl, rfl, h, RepL.ints cs⟩)
/-- deal[0] != [] -/
def mDlNe (i : Nat) : M D := fun ρ => match dlAt ρ i with
  | some (cs, _) => (fNe (csD cs) (.lst [])).map fun d => .ok d ρ
  | none => none
theorem rd_dlNe (i : Nat) : RdE Γ K W (tOp (rNeD K) (tDl K i) (tLst tNil)) (mDlNe i) := fun g Fz H σ ρ Q x q => by
  have q0 : Goes Γ K W g Fz σ (RE Γ K) (mDlNe i ρ) Q := q
  unfold mDlNe at q0
  cases e : dlAt ρ i with
  | none => rw [e] at q0; exact q0.elim
  | some z =>
    obtain ⟨cs, b⟩ := z
    simp only [e] at q0
    obtain ⟨a, c, ne, h1, h2, h3, _, _⟩ := dl_get x e
    refine dl_ref h1 h2 ⟨Nat.zero_le _, fun p hp => ?_⟩
    cases ez : fNe (csD cs) (.lst []) with
    | none => rw [ez] at q0; exact q0.elim
    | some d =>
      rw [ez] at q0
      obtain ⟨s, fr', r'⟩ := x.newL (ds := []) hp .nil
      have hcp : c ≠ p := ne_of_none h3 hp
      exact opd_ne g _ _ σ ρ _ _ _ _ d Q fr' (cs_rep (cs := cs) (by rw [upd_ne hcp]; exact h3)) (.inl r') ez fun v Fz' H' s' y r => q0 v Fz' H' (s.trans s') y r
/-- deal[0][-1] -/
def mDlLast (i : Nat) : M D := fun ρ => match dlAt ρ i with
  | some (cs, _) => (fIx (csD cs) (.int (-1))).map fun d => .ok d ρ
  | none => none
theorem rd_dlLast (i : Nat) : RdE Γ K W (tOp (rIx K) (tDl K i) (tUn (rU fun i => .int (-i)) (tC (.int 1)))) (mDlLast i) := fun g Fz H σ ρ Q x q => by
  have q0 : Goes Γ K W g Fz σ (RE Γ K) (mDlLast i ρ) Q := q
  unfold mDlLast at q0
  cases e : dlAt ρ i with
  | none => rw [e] at q0; exact q0.elim
  | some z =>
    obtain ⟨cs, b⟩ := z
    simp only [e] at q0
    obtain ⟨a, c, ne, h1, h2, h3, _, _⟩ := dl_get x e
    cases ez : fIx (csD cs) (.int (-1)) with
    | none => rw [ez] at q0; exact q0.elim
    | some d =>
      rw [ez] at q0
      exact dl_ref h1 h2 ⟨1, rfl, opd_ix g Fz H σ ρ _ _ _ _ d Q x (cs_rep h3) (.inl .int) ez fun v Fz' H' s' y r => q0 v Fz' H' s' y r⟩
/-- deal[0].pop() -/
def mDlPop (i : Nat) : M D := fun ρ => match dlAt ρ i with
  | some (cs, b) => match cs[cs.length - 1]? with
    | some z => some (.ok (.int z) (dlPut ρ i cs.dropLast b))
    | none => none
  | none => none
theorem rd_dlPop (i : Nat) : RdE Γ K W (tBM0 K "list" rPop (tDl K i)) (mDlPop i) := fun g Fz H σ ρ Q x q => by
  have q0 : Goes Γ K W g Fz σ (RE Γ K) (mDlPop i ρ) Q := q
  unfold mDlPop at q0
  cases e : dlAt ρ i with
  | none => rw [e] at q0; exact q0.elim
  | some z =>
    obtain ⟨cs, b⟩ := z
    simp only [e] at q0
    obtain ⟨a, c, ne, h1, h2, h3, h4, _⟩ := dl_get x e
    cases ez : cs[cs.length - 1]? with
    | none => simp only [ez] at q0; exact q0.elim
    | some z =>
      simp only [ez] at q0
      refine dl_ref h1 h2 ⟨.inl ⟨rfl, _, SqL.of h3⟩, c, cs.map V.int, .int z, rfl, rfl, h3, by rw [List.length_map, List.getElem?_map, ez]; rfl, ?_⟩
      rw [← List.map_dropLast]
      exact q0 (.int z) Fz _ (Sub.refl _) (h4 cs.dropLast) .int
/-- deal[0].append(x // y), x and y names of ints -/
def fzInt (ρ : Env) (i : Nat) : Option Int := match ρ[i]? with
  | some (.fz (.int z)) => some z
  | _ => none
theorem fzInt_at {i : Nat} {z : Int} (x : Fr Γ K g Fz H σ ρ) (h : fzInt ρ i = some z) : σ[i]? = some (some (.int z)) := by
  obtain ⟨κ, x⟩ := x
  unfold fzInt at h
  cases e : ρ[i]? with
  | none => rw [e] at h; cases h
  | some s =>
    rw [e] at h
    cases s with
    | fz d =>
      cases d with
      | int w =>
        cases h
        obtain ⟨_, v, h1, h2⟩ := x.slot i _ e
        cases h2
        exact h1
      | _ => cases h
    | _ => cases h
def mDlAppDiv (i j k : Nat) : M D := fun ρ => match dlAt ρ i, fzInt ρ j, fzInt ρ k with
  | some (cs, b), some x, some y => if cDivB x y = true then (if cs.length < sizeLine then some (.ok .non (dlPut ρ i (cs ++ [x.fdiv y]) b)) else none) else none
  | _, _, _ => none
theorem rd_dlAppDiv (i j k : Nat) : RdE Γ K W (tBM K "list" rAppend (tDl K i) (tCons (tOp rDivA (tVar j) (tVar k)) tNil)) (mDlAppDiv i j k) := fun g Fz H σ ρ Q x q => by
  have q0 : Goes Γ K W g Fz σ (RE Γ K) (mDlAppDiv i j k ρ) Q := q
  unfold mDlAppDiv at q0
  cases e : dlAt ρ i with
  | none => simp only [e] at q0; exact q0.elim
  | some z =>
    obtain ⟨cs, b⟩ := z
    cases ej : fzInt ρ j with
    | none => simp only [e, ej] at q0; exact q0.elim
    | some u =>
      cases ek : fzInt ρ k with
      | none => simp only [e, ej, ek] at q0; exact q0.elim
      | some v =>
        simp only [e, ej, ek] at q0
        by_cases hd : cDivB u v = true
        · rw [if_pos hd] at q0
          by_cases hl : cs.length < sizeLine
          · rw [if_pos hl] at q0
            obtain ⟨a, c, ne, h1, h2, h3, h4, _⟩ := dl_get x e
            refine dl_ref h1 h2 ⟨.inl ⟨rfl, _, SqL.of h3⟩, _, fzInt_at x ej, _, fzInt_at x ek, u, v, rfl, rfl, of_decide_eq_true hd, c, cs.map V.int, _, rfl, rfl, h3, by rw [List.length_map]; exact hl, ?_⟩
            have z := h4 (cs ++ [u.fdiv v])
            rw [List.map_append] at z
            exact q0 .non Fz _ (Sub.refl _) z .non
          · rw [if_neg hl] at q0; exact q0.elim
        · rw [if_neg hd] at q0; exact q0.elim
/-- deal[1] -/
def mDl1 (i : Nat) : M D := fun ρ => match dlAt ρ i with
  | some (_, b) => some (.ok (.int b) ρ)
  | none => none
theorem rd_dl1 (i : Nat) : RdE Γ K W (tOp (rIx K) (tVar i) (tC (.int 1))) (mDl1 i) := fun g Fz H σ ρ Q x q => by
  have q0 : Goes Γ K W g Fz σ (RE Γ K) (mDl1 i ρ) Q := q
  unfold mDl1 at q0
  cases e : dlAt ρ i with
  | none => rw [e] at q0; exact q0.elim
  | some z =>
    obtain ⟨cs, b⟩ := z
    simp only [e] at q0
    obtain ⟨a, c, ne, h1, h2, _⟩ := dl_get x e
    exact dl_num h1 h2 (q0 _ Fz H (Sub.refl _) x .int)
/-- deal[1] = e -/
def mDlSet (i : Nat) (me : M Bv) : MS := thenS me fun v ρ => match dlAt ρ i, deref ρ v with
  | some (cs, _), some (.int z) => some (.nx (dlPut ρ i cs z))
  | _, _ => none
theorem rd_dlSet {i : Nat} {me : M Bv} (h : RdB Γ K W te me) : RdS Γ K W (tAsg te (gSub (tVar i) (tC (.int 1)) rSetL)) (mDlSet i me) := fun g Fz H σ ρ E x q => h g Fz H σ ρ _ x (GoesS.thn q fun v ρ1 w Fz1 H1 s y r q1 => by
  cases e : dlAt ρ1 i with
  | none => simp only [e] at q1; exact q1.elim
  | some z =>
    obtain ⟨cs, b⟩ := z
    cases e2 : deref ρ1 v with
    | none => simp only [e, e2] at q1; exact q1.elim
    | some d =>
      cases d with
      | int z =>
        simp only [e, e2] at q1
        obtain ⟨a, c, ne, h1, h2, h3, _, h5⟩ := dl_get y e
        rw [(y.deref r e2).int]
        exact ⟨_, h1, a, [.ref c, .int b], 1, 1, rfl, rfl, h2, rfl, q1 σ Fz1 _ (Sub.refl _) (h5 z)⟩
      | _ => simp only [e, e2] at q1; exact q1.elim)
end
section
variable {Γ : Ct} {W : WX} {X : Cx} {te : TE} {e : Expr} {x y z : Str} {p p1 p2 p3 p4 p5 apos cpos pos : Pos} {k1 k2 : Nat}
abbrev dl0 (x : Str) (p1 p2 p3 : Pos) (k1 : Nat) : Expr := .Subscript (.Name x p1) (.Constant (.int 0) k1 p2) p3
theorem pe_dl0 {i : Nat} (hN : X.N[i]? = some x) (hv : Vis X.env.scope x) (hd : (x == ("__debug__" : Str)) = false) (hcd : (x == ("__classdict__" : Str)) = false) : PE X (dl0 x p1 p2 p3 k1) (tDl X.K i) := pe_ix ix_seq (pe_var hN hv hd hcd) pe_int (fun _ _ => rfl)
theorem t_dlNe (i : Nat) (hu : X.A.units + 65 < cLine) (hN : X.N[i]? = some x := by rfl) (hv : Vis X.env.scope x := by first | exact Or.inl rfl | exact Or.inr (Or.inl rfl) | exact Or.inr (Or.inr rfl)) (hd : (x == ("__debug__" : Str)) = false := by decide)
    (hcd : (x == ("__classdict__" : Str)) = false := by decide) : DT Γ W X (.Compare (dl0 x p1 p2 p3 k1) [.NotEq] [.List [] p4] pos) (tTest (tOp (rNeD X.K) (tDl X.K i) (tLst tNil))) (asB (mDlNe i)) :=
  ⟨pt_cmpR (op_neD (Nat.lt_of_succ_lt hu)) (pe_dl0 hN hv hd hcd) (pe_lst pa_nil) (nomark _), rd_asB (rd_dlNe i)⟩
theorem e_dlLast (i : Nat) (hN : X.N[i]? = some x := by rfl) (hv : Vis X.env.scope x := by first | exact Or.inl rfl | exact Or.inr (Or.inl rfl) | exact Or.inr (Or.inr rfl)) (hd : (x == ("__debug__" : Str)) = false := by decide)
    (hcd : (x == ("__classdict__" : Str)) = false := by decide) : DE Γ W X (.Subscript (dl0 x p1 p2 p3 k1) (.UnaryOp .USub (.Constant (.int 1) k2 p4) p5) pos) (tOp (rIx X.K) (tDl X.K i) (tUn (rU fun i => .int (-i)) (tC (.int 1)))) (mDlLast i) :=
  ⟨pe_ix ix_seq (pe_dl0 hN hv hd hcd) (pe_un un_neg pe_int) (fun _ _ => rfl), rd_dlLast i⟩
theorem e_dlPop (i : Nat) (hN : X.N[i]? = some x := by rfl) (hv : Vis X.env.scope x := by first | exact Or.inl rfl | exact Or.inr (Or.inl rfl) | exact Or.inr (Or.inr rfl)) (hd : (x == ("__debug__" : Str)) = false := by decide)
    (hcd : (x == ("__classdict__" : Str)) = false := by decide) (hbase : attributeBase (dl0 x p1 p2 p3 k1) "pop" X.env (eval (dl0 x p1 p2 p3 k1) X.env) = eval (dl0 x p1 p2 p3 k1) X.env := by rfl) (hline : (apos.endLine == cpos.line) = true := by rfl) :
    DE Γ W X (.Call (.Attribute (dl0 x p1 p2 p3 k1) "pop" apos) [] [] cpos) (tBM0 X.K "list" rPop (tDl X.K i)) (mDlPop i) :=
  ⟨pe_bm0 PySem.F.plainAttrs_list PySem.F.slot_list_pop PySem.F.type_list_pop mt_pop (pe_dl0 hN hv hd hcd) hbase hline, rd_dlPop i⟩
theorem e_dlAppDiv (i j k : Nat) {q1 q2 q3 : Pos} (hN : X.N[i]? = some x := by rfl) (hv : Vis X.env.scope x := by first | exact Or.inl rfl | exact Or.inr (Or.inl rfl) | exact Or.inr (Or.inr rfl)) (hd : (x == ("__debug__" : Str)) = false := by decide) (hcd : (x == ("__classdict__" : Str)) = false := by decide)
    (hN2 : X.N[j]? = some y := by rfl) (hv2 : Vis X.env.scope y := by first | exact Or.inl rfl | exact Or.inr (Or.inl rfl) | exact Or.inr (Or.inr rfl)) (hd2 : (y == ("__debug__" : Str)) = false := by decide) (hcd2 : (y == ("__classdict__" : Str)) = false := by decide)
    (hN3 : X.N[k]? = some z := by rfl) (hv3 : Vis X.env.scope z := by first | exact Or.inl rfl | exact Or.inr (Or.inl rfl) | exact Or.inr (Or.inr rfl)) (hd3 : (z == ("__debug__" : Str)) = false := by decide) (hcd3 : (z == ("__classdict__" : Str)) = false := by decide)
    (hbase : attributeBase (dl0 x p1 p2 p3 k1) "append" X.env (eval (dl0 x p1 p2 p3 k1) X.env) = eval (dl0 x p1 p2 p3 k1) X.env := by rfl)
    (hfew : ((backTo cpos (starEach [.BinOp (.Name y q1) .FloorDiv (.Name z q2) q3] X.env)).all (fun x => !x.1) && (backToKw cpos (keywordEach [] X.env)).all (fun x => x.1.isSome) && decide (([.BinOp (.Name y q1) .FloorDiv (.Name z q2) q3] : List Expr).length + ([] : List Keyword).length + (if ([] : List Keyword).isEmpty then 0 else 1) < 30)) = true := by rfl)
    (hline : (apos.endLine == cpos.line) = true := by rfl) (hs : starEach [.BinOp (.Name y q1) .FloorDiv (.Name z q2) q3] X.env = (false, eval (.BinOp (.Name y q1) .FloorDiv (.Name z q2) q3) X.env) :: starEach [] X.env := by rfl) :
    DE Γ W X (.Call (.Attribute (dl0 x p1 p2 p3 k1) "append" apos) [.BinOp (.Name y q1) .FloorDiv (.Name z q2) q3] [] cpos) (tBM X.K "list" rAppend (tDl X.K i) (tCons (tOp rDivA (tVar j) (tVar k)) tNil)) (mDlAppDiv i j k) :=
  ⟨pe_bm PySem.F.plainAttrs_list PySem.F.slot_list_append PySem.F.type_list_append mt_append (pe_dl0 hN hv hd hcd) (pa_cons (pe_op op_fdivA (pe_var hN2 hv2 hd2 hcd2) (pe_var hN3 hv3 hd3 hcd3)) pa_nil hs) hbase hfew hline hs, rd_dlAppDiv i j k⟩
theorem e_dl1 (i : Nat) (hN : X.N[i]? = some x := by rfl) (hv : Vis X.env.scope x := by first | exact Or.inl rfl | exact Or.inr (Or.inl rfl) | exact Or.inr (Or.inr rfl)) (hd : (x == ("__debug__" : Str)) = false := by decide)
    (hcd : (x == ("__classdict__" : Str)) = false := by decide) : DE Γ W X (.Subscript (.Name x p1) (.Constant (.int 1) k1 p2) pos) (tOp (rIx X.K) (tVar i) (tC (.int 1))) (mDl1 i) :=
  ⟨pe_ix ix_seq (pe_var hN hv hd hcd) pe_int (fun _ _ => rfl), rd_dl1 i⟩
theorem s_dlSet (i : Nat) {me : M Bv} {spos : Pos} (he : DB Γ W X e te me) (hN : X.N[i]? = some x := by rfl) (hv : Vis X.env.scope x := by first | exact Or.inl rfl | exact Or.inr (Or.inl rfl) | exact Or.inr (Or.inr rfl)) (hd : (x == ("__debug__" : Str)) = false := by decide)
    (hcd : (x == ("__classdict__" : Str)) = false := by decide) (hs : swapsWithSole [.Subscript (.Name x p1) (.Constant (.int 1) k1 p2) p3] e spos.line X.env = pure false := by rfl) (hw : swappedStores [.Subscript (.Name x p1) (.Constant (.int 1) k1 p2) p3] e X.env = pure none := by rfl)
    (h1 : (assignEach [.Subscript (.Name x p1) (.Constant (.int 1) k1 p2) p3] X.env).map (·.2) = [assign (.Subscript (.Name x p1) (.Constant (.int 1) k1 p2) p3) X.env] := by rfl) :
    DS Γ W X (.Assign [.Subscript (.Name x p1) (.Constant (.int 1) k1 p2) p3] e spos) (tAsg te (gSub (tVar i) (tC (.int 1)) rSetL)) (mDlSet i me) :=
  ⟨ps_asg he.pe (pg_sub (pe_var hN hv hd hcd) pe_int set_list) hs hw h1, rd_dlSet he.rd⟩
end
end L3
namespace L3
open PySem PySem.Spec PyProof.Rows L2
theorem FnB.never {b : Bool} {Γ : Ct} {P : Program} {w : World} {K : PySem.W.Frag} {mg : Str → Option Value} {base : Heap} {k : Nat} {f : Addr} {fd : FuncData} {ps : List Str} : FnB b P w K mg base k f fd ps (spF Γ K (fun _ => none) ps.length) :=
  ⟨spF_len, fun A outer s H args us vs Q E _ _ _ _ h => let ⟨_, _, _, _, _, z⟩ := h; z.elim⟩
end L3
namespace L3
open PySem PySem.Spec PyProof.Rows L2
/-- such an __init__ -/
def initBody (p0 p1 p2 p3 p4 p5 p6 p7 p8 p9 : Pos) (msg : Str) (j : Nat) : List Stmt :=
  [.Expr (.Call (.Attribute (.Call (.Name "super" p0) [] [] p1) "__init__" p2) [.Constant (.str msg) j p3] [] p4) p5,
   .Assign [.Attribute (.Name "self" p6) "at" p7] (.Name "at" p8) p9]
def initScope : Scope := { kind := .function, names := [("self", .local), ("at", .local), ("__class__", .free), ("super", .globalImplicit)], isGenerator := false, isCoroutine := false, more := [] }
/-- what is known of such a class at C and its __init__ at f -/
structure ExcT (prog : Program) (K : PySem.W.Frag) (mg : Str → Option Value) (C f : Addr) (fd : FuncData) : Prop where
  cls : OexC K C
  fn : ∃ (qual : Str) (params : Arguments) (dV kV doc pm : Value) (an : Option Addr) (cda cc : Addr) (ct oc : Value) (od : Option Addr) (osl : Array (Option Value)) (p0 p1 p2 p3 p4 p5 p6 p7 p8 p9 : Pos) (msg : Str) (j : Nat),
    fd = PySem.W.ksFn "__init__" qual params (initBody p0 p1 p2 p3 p4 p5 p6 p7 p8 p9 msg j) initScope dV kV doc pm an (.ref cda) ct cc ∧
    (p2.endLine == p4.line) = true ∧ K.lookup f = some ⟨oc, od, .func fd, osl⟩ ∧ PySem.W.codeIn K (.ref cda) qual = true ∧
    (∃ ar, (params.posonlyargs ++ params.args).head? = some ar ∧ ar.arg = "self") ∧
    (∃ ccl cdd vs ccs file tf, K.lookup cda = some ⟨ccl, cdd, .fields vs, ccs⟩ ∧ vs[2]? = some (.str file tf) ∧ ((prog.main.file : Str) == file) = true) ∧
    (∃ cl cld csl, K.lookup cc = some ⟨cl, cld, .cell (some (.ref C)), csl⟩)
  self : PySem.W.mroIn K C (.ref C) = some true
  up : PySem.W.ks_superIn K C C "__init__" = some (some (.builtin "ValueError.__init__"))
  ve : PySem.W.subIn K (.ref C) (.type "ValueError") = some true
  opq : PySem.W.nsIn K cStatics "thirdparty.any" = some none
  at0 : PySem.W.findIn K (.ref C) "at" = some none
  msup : mg "super" = none
  top : (prog.main.scope.names.lookup ("super" : Str)).isSome = false
def spInit (C : Addr) : Sp := fun vs H Q _ => ∃ a v, vs = [.ref a, v] ∧ H a = some (exo a C none) ∧ ∀ dx, H dx = none → dx ≠ a → Q .non (upd (upd H dx (exd dx [("at", v)])) a (exo a C (some dx)))
section
variable {P : Program} {w : World} {K : PySem.W.Frag} {mg : Str → Option Value} {base : Heap} {C f : Addr} {fd : FuncData}
theorem init_ok {k : Nat} (T : ExcT P K mg C f fd) : FnOk P w K mg base (L2.CX P w) (k + 1) f fd ["self", "at"] (spInit C) := by
  refine ⟨fun vs H Q E h => by obtain ⟨a, v, rfl, _⟩ := h; rfl, fun A outer s H args us vs Q E hr e0 hb r hsp => ?_⟩
  obtain ⟨a, v, rfl, ha, q⟩ := hsp
  obtain ⟨qual, params, dV, kV, doc, pm, an, cda, cc, ct, oc, od, osl, p0, p1, p2, p3, p4, p5, p6, p7, p8, p9, msg, j, rfl, hline, lk, hcd, ⟨ar, har, hself⟩, ⟨ccl, cdd, cvs, ccs, file, tf, hcode, hvs, hfile⟩, ⟨cl, cld, csl, hcc⟩⟩ := T.fn
  obtain ⟨nm, qn, N, bs, bm, sn, sub, ab, col, dd, k0, k1, k2, k3, k5, hC, hbm⟩ := T.cls.cls
  have hcl : PySem.W.clsIn K C = some { name := nm, bases := bs, mro := .ref C :: bm, ns := N, qualname := qn, hasDict := true, slotNames := sn, subclasses := sub, abstract := ab, collection := col, hasDel := false } := by
    unfold PySem.W.clsIn; rw [hC] <;> rfl
  have lself : initScope.names.lookup ("self" : Str) = some .local := by decide +kernel
  have lat : initScope.names.lookup ("at" : Str) = some .local := by decide +kernel
  have lsup : initScope.names.lookup ("super" : Str) = some .globalImplicit := by decide +kernel
  have lcls : initScope.names.lookup ("__class__" : Str) = some .free := by decide +kernel
  have KX : K.In s.heap := e0.mod.kin.keeps fun b o e => (e0.bs b o e).1
  have keepB : ∀ b o, base.get? b = some o → s.heap.get? b = some o := fun b o e => (e0.bs b o e).1
  have lim : s.heap.NoLimit := e0.mod.nolimit.keeps keepB
  obtain ⟨t1, hexc⟩ := exo_at e0.hok ha
  obtain ⟨mb, hmb, hbb⟩ := e0.mod.blt
  -- the arguments
  cases r with
  | @cons _ u1 _ ur ra rr =>
  cases rr with
  | @cons _ u2 _ ur2 rv r0 =>
  cases r0
  obtain rfl : u1 = Value.ref a := ra
  refine PySem.ks_codeAny_call_defAt (fd := PySem.W.ksFn "__init__" qual params (initBody p0 p1 p2 p3 p4 p5 p6 p7 p8 p9 msg j) initScope dV kV doc pm an (.ref cda) ct cc) hr.depth (KX _ _ lk) rfl lim (PySem.W.codeRec_of KX hcd) rfl hb (fun x hx => ?_) (fun x hx => ?_) (fun h₀ hns hk => ?_)
  · have e : ∀ x ∈ initScope.names, x.2 ≠ .cell := by decide +kernel
    exact e x hx
  · simp only [List.zip_cons_cons, List.zip_nil_right, List.mem_cons, List.not_mem_nil, or_false] at hx
    rcases hx with rfl | rfl
    · exact lself
    · exact lat
  have X0 : K.In h₀ := KX.keeps hk
  have vself : (((["self", "at"] : List Str).zip [Value.ref a, u2]).reverse.lookup ("self" : Str)) = some (.ref a) := by
    show (match (("self" : Str) == ("at" : Str)) with | true => some u2 | false => (match (("self" : Str) == ("self" : Str)) with | true => some (Value.ref a) | false => Option.none)) = some (Value.ref a)
    rw [show (("self" : Str) == ("at" : Str)) = false by decide +kernel, show (("self" : Str) == ("self" : Str)) = true by decide +kernel]
  have vat : (((["self", "at"] : List Str).zip [Value.ref a, u2]).reverse.lookup ("at" : Str)) = some u2 := by
    show (match (("at" : Str) == ("at" : Str)) with | true => some u2 | false => (match (("at" : Str) == ("self" : Str)) with | true => some (Value.ref a) | false => Option.none)) = some u2
    rw [show (("at" : Str) == ("at" : Str)) = true by decide +kernel]
  generalize hL : s.heap.objs.size = L at hns ⊢
  have hexc0 := hk _ _ hexc
  have hLa : L ≠ a := fun z => by
    rw [← z, ← hL] at hexc
    exact absurd (Heap.lt_size hexc) (Nat.lt_irrefl _)
  have glob0 := e0.mod.glob.keeps fun b o e => hk b o (keepB b o e)
  have blt0 := hmb.keeps fun b o e => hk b o (keepB b o e)
  have hC0 := X0 _ _ hC
  -- the end, from what has become of the heap
  have fin : ∀ (h' : Heap) (tk' : Nat) (dx : Addr) (t2 : Addr), (∀ b o, b ≠ a → s.heap.get? b = some o → h'.get? b = some o) → s.heap.objs.size ≤ dx → dx ≠ a →
      h'.get? a = some ({ cls := .ref C, dict := some dx, data := .fields #[.ref t2, .none, .none, .none, .bool false, .none] } : Obj) → h'.Ns1 dx (fun y => if y = "at" then some u2 else none) →
      CR (L2.CX P w) outer P w H s Q E (.ok (.ret .none)) { s with heap := h', toks := tk' } := fun h' tk' dx t2 k dn dne hx hn => by
    have hnd : H dx = none := e0.hok.fresh dn
    have nd : ∀ {b : Addr} {o : Obj}, s.heap.get? b = some o → b ≠ dx := fun {b o} q => Nat.ne_of_lt (Nat.lt_of_lt_of_le (Heap.lt_size q) dn)
    have na : ∀ {b : Addr}, H b = none → b ≠ a := fun {b} n z => by
      rw [z, ha] at n
      cases n
    refine ⟨V.non, upd (upd H dx (exd dx [("at", v)])) a (exo a C (some dx)), rfl, e0.bare, ?_, fun b o q => ?_, rfl, q dx hnd dne⟩
    · exact {
        keep := fun b o q n _ _ => k b o (na n) q
        slot := fun b o q n _ _ => ⟨o.slots, k b o (na n) q⟩
        free := fun b o q n _ => by rw [upd_ne (na n), upd_ne (nd q)]; exact n
        there := fun b o q _ => by
          by_cases hb : b = a
          · exact ⟨_, by rw [hb]; exact hx⟩
          · exact ⟨o, k b o hb q⟩
        tups := fun b xs q => by rw [upd_ne (at_ne ha q exo_tup), upd_ne (ne_of_none q hnd)]; exact q
        frzs := fun b o v q => by rw [upd_ne (at_ne ha q exo_frz), upd_ne (ne_of_none q hnd)]; exact q
        tbls := fun b ps q => ⟨#[], by rw [upd_ne (at_ne ha q exo_tbl), upd_ne (ne_of_none q hnd), q]; simp⟩ }
    · by_cases hb : b = a
      · subst hb
        rw [upd_same] at q
        cases q
        exact exo_ok hx
      · rw [upd_ne hb] at q
        by_cases hd : b = dx
        · subst hd
          rw [upd_same] at q
          cases q
          exact exd_ok hn (relO_put (fs := []) rv fun g => True.intro)
        · rw [upd_ne hd] at q
          exact (e0.hok b o q).stay (fun c v hc z => k c v (by
              rcases hc with hc | hc
              · rw [hc]
                exact hb
              · exact at_ne ha hc exo_own) z)
            (fun c hc => by rw [upd_ne (at_ne ha hc exo_own), upd_ne (ne_of_none hc hnd)]; exact hc) (fun c xs hc => by rw [upd_ne (at_ne ha hc exo_tup), upd_ne (ne_of_none hc hnd)]; exact hc)
  -- super().__init__(msg)
  show _root_.PySem.wpAt (model P w) (A.deeper (PySem.W.ksEnv qual initScope L f (.ref cda) cc)) (.func (initBody p0 p1 p2 p3 p4 p5 p6 p7 p8 p9 msg j) (PySem.W.ksEnv qual initScope L f (.ref cda) cc)) (execs (initBody p0 p1 p2 p3 p4 p5 p6 p7 p8 p9 msg j) (PySem.W.ksEnv qual initScope L f (.ref cda) cc)) _ _ _
  have hinit : ∀ {fl : Flow} {s' : Shared}, fl = .next → CR (L2.CX P w) outer P w H s Q E (.ok (.ret .none)) s' → CR (L2.CX P w) outer P w H s Q E (.ok (.ret (match fl with | .ret v => v | _ => .none))) s' := fun {fl s'} e h => by subst e; exact h
  have he : eval (.Call (.Attribute (.Call (.Name "super" p0) [] [] p1) "__init__" p2) [.Constant (.str msg) j p3] [] p4) (PySem.W.ksEnv qual initScope L f (.ref cda) cc) = (do
      let ov ← attributeBase (.Call (.Name "super" p0) [] [] p1) "__init__" (PySem.W.ksEnv qual initScope L f (.ref cda) cc) (eval (.Call (.Name "super" p0) [] [] p1) (PySem.W.ksEnv qual initScope L f (.ref cda) cc))
      standAt p2.atName
      let (g, first) ← holding [ov] (getMethod ov "__init__" (do return (← importBound (.Call (.Name "super" p0) [] [] p1) (PySem.W.ksEnv qual initScope L f (.ref cda) cc)).getD true))
      callWith p4 g first (backTo p4 (starEach [.Constant (.str msg) j p3] (PySem.W.ksEnv qual initScope L f (.ref cda) cc))) []) := by
    have e1 : ∀ few o env, methodCallPos few o env p2 p4 = pure p4 := fun few o env => by unfold methodCallPos; rw [hline, Bool.or_true, if_pos rfl]
    show (do
      let ov ← attributeBase (.Call (.Name "super" p0) [] [] p1) "__init__" (PySem.W.ksEnv qual initScope L f (.ref cda) cc) (eval (.Call (.Name "super" p0) [] [] p1) (PySem.W.ksEnv qual initScope L f (.ref cda) cc))
      standAt p2.atName
      methodCall (.Call (.Name "super" p0) [] [] p1) "__init__" p2 p4 (PySem.W.ksEnv qual initScope L f (.ref cda) cc) ov 1 (backTo p4 (starEach [.Constant (.str msg) j p3] (PySem.W.ksEnv qual initScope L f (.ref cda) cc))) []) = _
    unfold methodCall
    simp only [e1]
    rfl
  refine PySem.ks_wpAt_execs_cons (PySem.ks_wpAt_Expr_any (PySem.ks_wpAt_MethodCall ?_ he))
  refine PySem.ks_wpAt_super_base (env := PySem.W.ksEnv qual initScope L f (.ref cda) cc) lsup lcls (by decide +kernel) rfl (X0 _ _ lk) rfl har rfl (X0 _ _ hcode) rfl hvs hfile T.top ?_
  refine PySem.W.ks_loadName_global rfl lsup (PySem.Calls.loadGlobal_builtin (env := PySem.W.ksEnv qual initScope L f (.ref cda) cc) glob0 T.msup blt0 ((hbb _ (by decide +kernel)).trans (by decide +kernel)) ⟨rfl, ?_⟩)
  refine wpAny_loadName_free rfl lcls rfl ⟨_, X0 _ _ hcc, rfl⟩ ?_
  rw [hself]
  refine wpAny_loadName_local rfl lself hns vself ?_
  refine PySem.ks_wpAny_isType_cls hC0 rfl ⟨rfl, ?_⟩
  refine PySem.ks_wpAny_call_super hC0 rfl hexc0 rfl (fun c e => nomatch e) (PySem.W.looks_mroIn X0 T.self) (fun h1 e1 kp1 => ?_)
  have X1 : K.In h1 := X0.keeps kp1
  have hexc1 := kp1 _ _ hexc0
  have I1 : PySem.W.InstAt h1 a ({ cls := .ref C, data := .fields #[.ref t1, .none, .none, .none, .bool false, .none] } : Obj) C none := ⟨hexc1, rfl, rfl, trivial⟩
  have hup : PySem.W.alongIn K "__init__" ((((Value.ref C :: bm) : List Value).dropWhile (· != .ref C)).drop 1) = some (some (.builtin "ValueError.__init__")) := by
    have z := T.up
    unfold PySem.W.ks_superIn at z
    rw [hcl] at z
    exact z
  refine PySem.W.kxs_getMethod PySem.W.kxs_ValueError e1 (PySem.W.looks_opaque X1 T.opq) (l₀ := .ref C :: bm) (fun A Q E s k q => wpAny_bind ((PySem.W.looks_clsIn X1 hcl) A _ E s k (wpAny_pure q))) rfl X1 hup (I1.type.andThen (PySem.W.looks_subIn X1 T.ve)) (PySem.W.ks_ne X1 I1 hcl) (by decide +kernel) ?_
  generalize hu : h1.objs.size = u
  have hmw : (h1.push (PySem.W.kxs_mw "ValueError.__init__" a)).get? u = some (PySem.W.kxs_mw "ValueError.__init__" a) := Heap.get?_push_at hu.symm rfl
  have kp2 : ∀ b o, h1.get? b = some o → (h1.push (PySem.W.kxs_mw "ValueError.__init__" a)).get? b = some o := fun b o e => Heap.get?_push_of_some _ e
  generalize h1.push (PySem.W.kxs_mw "ValueError.__init__" a) = h2 at hmw kp2
  show wpAny _ _ (callWith p4 (.ref u) [] (backTo p4 (starEach [.Constant (.str msg) j p3] (PySem.W.ksEnv qual initScope L f (.ref cda) cc))) []) _ _ _
  refine PySem.W.kxs_callWith (i := "ValueError.__init__") (x := a) (first := []) rfl (PySem.Calls.evalArgs_plain ?_)
  show wpAny _ _ (spliced ((false, eval (.Constant (.str msg) j p3) (PySem.W.ksEnv qual initScope L f (.ref cda) cc)) :: [])) _ _ _
  refine PySem.Calls.spliced_cons (PySem.Calls.Constant_str (PySem.Calls.spliced_nil ⟨hmw, ?_⟩))
  -- the built-in __init__ bound to the object, called
  have X2 : K.In h2 := X1.keeps kp2
  have hC2 := X2 _ _ hC
  have hexc2 := kp2 _ _ hexc1
  refine wpAny_call (codeAny_of_tree ?_)
  show wpAny _ (A.deeper (PySem.W.ksEnv qual initScope L f (.ref cda) cc)).in1 (callAny (.ref u) ⟨[.str msg _], []⟩) _ _ _
  simp only [callAny]
  refine wpAny_bind (wpAny_load hmw ?_)
  simp only [PySem.W.kxs_mw, show (Value.type "method-wrapper" == Value.type "method" || Value.type "method-wrapper" == Value.type "builtin_function_or_method" || Value.type "method-wrapper" == Value.type "method-wrapper") = true by decide, if_true]
  refine PySem.W.KFB.if_so (by decide) ?_
  refine wpAny_bind (PySem.W.check_bound_init F.excBase_ValueError.toExcCallFacts hC2 hexc2 rfl ?_)
  refine wpAny_bind (wpAny_pure (wpAny_pure ?_))
  refine ⟨PySem.plainId_quiet F.excBase_ValueError.init.plain _, codeAny_builtin F.excBase_ValueError.initEntry ?_⟩
  refine PySem.W.exc_init_tree (cls := .ref C) (t0 := t1) (dv := none) (c2 := .none) (c3 := .none) (b4 := .bool false) hexc2 (by show 1 ≤ sizeLine; decide) (fun h3 kp3 hexc3 e3 => ?_)
  -- self.at = at
  have ne13 : ∀ {b : Addr} {o : Obj}, b ≠ a → h₀.get? b = some o → h3.get? b = some o := fun {b o} hb e => kp3 b o hb (kp2 _ _ (kp1 _ _ e))
  have X3 : K.In h3 := fun b o e => by
    have hb : b ≠ a := fun z => by
      subst z
      have y := (e0.bs _ _ (e0.mod.kin _ _ e)).2
      rw [ha] at y
      cases y
    exact ne13 hb (X0 _ _ e)
  have ns3 : h3.Ns L (fun x => (((["self", "at"] : List Str).zip [Value.ref a, u2]).reverse.lookup x)) := by
    obtain ⟨oL, es, ep, hL2, rest⟩ := hns
    exact ⟨oL, es, ep, ne13 hLa hL2, rest⟩
  refine PySem.ks_wpAt_execs_cons (PySem.ks_wpAt_Assign_Attr ?_)
  refine wpAt_of_wpAny (wpAny_Name (wpAny_loadName_local rfl lat ns3 vat ?_))
  refine wpAny_Name (wpAny_loadName_local rfl lself ns3 vself ?_)
  refine PySem.W.set_plain X3 (ox := { cls := .ref C, dict := none, data := .fields #[.ref h2.objs.size, .none, .none, .none, .bool false, .none] }) (od := none) ⟨hexc3, rfl, rfl, trivial⟩ T.cls.sa ?_
  refine PySem.HandSPX.exc_osa X3 hexc3 hcl (show PySem.HandSPX.refsVE (.ref C :: bm) = true from hbm) rfl T.at0 (fun h4 tk4 dx kp4 dn dne hx hn => ?_)
  refine wpAt_of_wpAny (wpAny_execs_nil ?_)
  have dn' : s.heap.objs.size ≤ dx := by
    obtain ⟨oL, es, ep, hL2, _⟩ := hns
    have z1 : L < h₀.objs.size := Heap.lt_size hL2
    have z2 : h₀.objs.size < h1.objs.size := Heap.lt_size e1
    have z3 : u < h2.objs.size := Heap.lt_size hmw
    have z4 : h2.objs.size < h3.objs.size := Heap.lt_size e3
    have z5 : h3.objs.size ≤ dx := dn
    omega
  exact fin h4 tk4 dx h2.objs.size (fun b o hb e => kp4 b o hb (ne13 hb (hk _ _ e))) dn' dne hx hn
end
end L3
namespace L3
open PySem PySem.Spec PyProof.Rows L2
def mRaise (c : Nat) (me : M D) : MS := thenS me fun d ρ => some (.exc c (some d) ρ)
structure ExcR (Γ : Ct) (P : Program) (K : PySem.W.Frag) (mg : Str → Option Value) (c : Nat) (x : Str) : Prop where
  ex : ∃ f fd, ExcT P K mg (Γ.ad c) f fd ∧ PySem.W.findIn K (.ref (Γ.ad c)) "__init__" = some (some (.ref f)) ∧ PySem.W.typeIn K (.ref f) = some (.type "function") ∧ Binds K fd ["self", "at"] []
  mg_ : mg x = some (.ref (Γ.ad c))
section
variable {Γ : Ct} {W : WX} {X : Cx} {te : TE} {e : Expr} {x : Str} {p pos cpos : Pos} {b : Bool} {k : Nat}
theorem rd_raise {K : PySem.W.Frag} {c : Nat} {me : M D} (h : RdE Γ K W te me) : RdS Γ K W (fun _ σ H => tMkO (Γ.ad c) (spInit (Γ.ad c)) [] (tCons te tNil) σ H fun cls d H' => W cls d σ H') (mRaise c me) := fun g Fz H σ ρ E x q =>
  h g Fz H σ ρ _ x (GoesS.thn q fun d ρ1 v Fz1 H1 s y r q1 => by
    refine ⟨by show 1 ≤ 1000; decide, fun a ha => ⟨a, v, rfl, upd_same, fun dx hdx hne => ?_⟩⟩
    have hd1 : H1 dx = none := by rw [upd_ne hne] at hdx; exact hdx
    refine ⟨rfl, dx, [("at", v)], upd_same, by rw [upd_ne hne, upd_same], hd1, ?_⟩
    have eH : upd (del (upd (upd (upd H1 a (exo a (Γ.ad c) none)) dx (exd dx [("at", v)])) a (exo a (Γ.ad c) (some dx))) a) dx (.xd [("at", v)]) = upd H1 dx (.xd [("at", v)]) := by
      funext z
      by_cases hz : z = dx
      · subst hz; rw [upd_same, upd_same]
      · rw [upd_ne hz, upd_ne hz]
        by_cases hza : z = a
        · subst hza; rw [del_same]; exact ha.symm
        · rw [del_ne hza, upd_ne hza, upd_ne hz, upd_ne hza]
    rw [eH]
    obtain ⟨κ, y⟩ := y
    exact q1 σ dx v Fz1 _ (Sub.refl _) (y.noP hd1) ⟨κ, y.fresh0 hd1⟩ r)
theorem s_raise {c : Nat} {me : M D} (T : ExcR Γ X.prog X.K X.mg c x) (tk : Takes X W) (hr : Rm b k X.A) (he : DE Γ W X e te me) (hk : 2 ≤ k := by decide) (hc : X.calm = true := by rfl) (hg : Gl X x := by rfl) (hdb : (x == ("__debug__" : Str)) = false := by decide)
    (hs : starEach [e] X.env = (false, eval e X.env) :: starEach [] X.env := by rfl) :
    DS Γ W X (.Raise (some (.Call (.Name x p) [e] [] cpos)) none pos) (fun _ σ H => tMkO (Γ.ad c) (spInit (Γ.ad c)) [] (tCons te tNil) σ H fun cls d H' => W cls d σ H') (mRaise c me) := by
  obtain ⟨f, fd, T1, iC, tI, bI⟩ := T.ex
  exact ⟨ps_raise hc tk (pmk_oex T1.cls iC tI (init_ok (k := 0) T1) (hr.rm.mono hk) bI .nil passL hg T.mg_ (pa_cons he.pe pa_nil hs) hdb hs), rd_raise he.rd⟩
end
inductive MO where
  | ok (es : List D) | exc (c : Nat) (d : Option D)
/-- a slot that is only read -/
def lent : Slot → Bool
  | .fz _ => true
  | .bor _ => true
  | _ => false
/-- the dict for what will be found, where the class has one -/
def CoOk (Γ : Ct) (c : Nat) (g : Gh) (fs : List (Str × V)) : Option (Addr × HO) → Prop
  | none => Γ.cf = none ∨ Γ.ad c ≠ Γ.ad 0
  | some (p, o) => o = .dK [] ∧ g.P p = none ∧ ∃ f, Γ.cf = some f ∧ fs.lookup f = some (.ref p)
section
variable (Γ : Ct) (K : PySem.W.Frag)
def spI (c : Nat) (P : List Slot → Option MO) (n : Nat) : Sp := fun vs H Q E => vs.length = n + 1 ∧ ∃ (x dx : Addr) (vs' : List V) (g : Gh) (Fz : Hp) (as : List Slot), vs = .ref x :: vs' ∧ x ≠ dx ∧ g.P dx = none ∧ g.P x = none ∧ as.all lent = true ∧
  Fr Γ K ((g.more dx (.own x)).more x (.ins (Γ.ad c) dx [])) Fz H (vs'.map some) as ∧ (match P as with
    | none => False
    | some (.ok es) => ∀ fs xs Fz' H' co, Sub Fz Fz' → Fr Γ K (((g.more dx (.own x)).more x (.ins (Γ.ad c) dx fs)).mo co) Fz' H' [] [] → CoOk Γ c ((g.more dx (.own x)).more x (.ins (Γ.ad c) dx fs)) fs co → (Γ.fl c).map (fun f => fs.lookup f) = xs.map some → (∀ m, m ∉ Γ.ks c → fs.lookup m = none) → RepL Γ K Fz' es xs → Q .non H'
    | some (.exc c' od) => ExGo Γ K (fun cls d _ H => E cls d H) ((g.more dx (.own x)).more x (.ins (Γ.ad c) dx [])) Fz [] c' [] od)
end
def mMake (c n : Nat) (P : List Slot → Option MO) (m : M (List Am)) : M D := m.bind fun ams ρ => if ams.length = n ∧ amOk ams = true then (match amSlots ρ ams with
  | none => none
  | some as => if as.all lent = true then (match P as with
    | none => none
    | some (.ok es) => some (.ok (.ob c es) ρ)
    | some (.exc c' od) => some (.exc c' od ρ)) else none) else none
section
variable {Γ : Ct} {K : PySem.W.Frag} {W : WX} {g : Gh} {Fz Fz' H H' : Hp} {σ : L2.St} {ρ : Env} {κ : Nat → List Addr}
theorem h_none {P1 P2 : Hp} (h : ∀ a o, P2 a = some o → P1 a = some o) {a : Addr} (h3 : P1 a = none) : P2 a = none := by
  cases q : P2 a with
  | none => rfl
  | some o => rw [h a o q] at h3; cases h3
theorem FrK.sub0 {g1 g2 : Gh} (x : FrK Γ K g1 Fz H [] [] κ) (h : ∀ a o, g2.P a = some o → g1.P a = some o) : FrK Γ K g2 Fz H [] [] (fun _ => []) :=
  ⟨x.sub, fun a o e => x.prot a o (h a o e), rfl, fun i s e => by simp at e, fun i a e => by simp at e, fun i j a e => by simp at e, x.cch.go (Sub.refl _) (fun _ _ _ e => e) fun a kvs hl h1 h2 h3 h4 => ⟨h1, h2, h_none h h3, fun i hi => by simp at hi⟩, x.tups⟩
/-- the instance is made: it stays, with its dict for what will be found -/
theorem FrK.freezeI {c : Nat} {x dx : Addr} {fs : List (Str × V)} {co : Option (Addr × HO)} (y : FrK Γ K ((g.more x (.ins (Γ.ad c) dx fs)).mo co) Fz H [] [] κ) (hg : g.P x = none) (hc : CoOk Γ c (g.more x (.ins (Γ.ad c) dx fs)) fs co) :
    FrK Γ K g (upd Fz x (.ins (Γ.ad c) dx fs)) H [] [] (fun _ => []) := by
  cases co with
  | none =>
    have y' : FrK Γ K (g.more x (.ins (Γ.ad c) dx fs)) Fz H [] [] κ := y
    have hx := y'.at0
    refine ⟨fun b u h => ?_, fun b u h => ?_, rfl, fun i s e => by simp at e, fun i a e => by simp at e, fun i j a e => by simp at e, ?_, fun b ys e => (y'.tups b ys e).mono (Sub.new hx.2)⟩
    · by_cases hb : b = x
      · subst hb; rw [upd_same] at h; rw [← h]; exact hx.1
      · rw [upd_ne hb] at h; exact y'.sub b u h
    · have hbx : b ≠ x := fun e => by subst e; rw [h] at hg; cases hg
      have q := y'.prot b u (by show upd g.P x _ b = _; rw [upd_ne hbx]; exact h)
      exact ⟨q.1, by rw [upd_ne hbx]; exact q.2⟩
    · rcases hc with hc | hc
      · refine ⟨fun f b dx fs hf => (by rw [hc] at hf; cases hf), fun a ha => ?_, fun f b b' _ _ _ _ _ hf => (by rw [hc] at hf; cases hf), fun p hp => ?_⟩
        · rcases ha with ⟨f, _, _, _, hf, _⟩ | ha
          · rw [hc] at hf; cases hf
          · obtain ⟨w1, w2, _⟩ := y'.cch.out a (.inr ha)
            have w2' : upd g.P x (.ins (Γ.ad c) dx fs) a = none := w2
            have hax : a ≠ x := fun e => by subst e; rw [upd_same] at w2'; cases w2'
            rw [upd_ne hax] at w2'
            exact ⟨by rw [upd_ne hax]; exact w1, w2', fun i e => by cases e⟩
        · exact (y'.cch.tab p hp).mono (Sub.new hx.2)
      · refine y'.cch.go (Sub.new hx.2) (noIns fun dx' fs' e => hc (HO.ins.inj e).1) fun b kvs hl h1 h2 h3 h4 => ?_
        have h3' : upd g.P x (.ins (Γ.ad c) dx fs) b = none := h3
        have hbx : b ≠ x := fun e => by subst e; rw [upd_same] at h3'; cases h3'
        rw [upd_ne hbx] at h3'
        exact ⟨h1, by rw [upd_ne hbx]; exact h2, h3', fun i e => by cases e⟩
  | some po =>
    obtain ⟨p, o⟩ := po
    obtain ⟨rfl, hp0, f, hf, hl⟩ := hc
    have y' : FrK Γ K ((g.more x (.ins (Γ.ad c) dx fs)).more p (.dK [])) Fz H [] [] κ := y
    have hp := y'.at0
    have hpx : p ≠ x := fun e => by
      subst e
      have z : upd g.P p (.ins (Γ.ad c) dx fs) p = none := hp0
      rw [upd_same] at z; cases z
    have hgp : g.P p = none := by
      have z : upd g.P x (.ins (Γ.ad c) dx fs) p = none := hp0
      rw [upd_ne hpx] at z; exact z
    have y2 := y'.drop0 hp0
    have hx := y2.at0
    have hnc : ¬ IsCch Γ Fz p := fun z => by
      have w : upd (g.more x (.ins (Γ.ad c) dx fs)).P p (.dK []) p = none := (y'.cch.out p z).2.1
      rw [upd_same] at w; cases w
    have old : ∀ b dx' fs', b ≠ x → upd Fz x (.ins (Γ.ad c) dx fs) b = some (.ins (Γ.ad 0) dx' fs') → Fz b = some (.ins (Γ.ad 0) dx' fs') := fun b dx' fs' hb e => by rw [upd_ne hb] at e; exact e
    have new : ∀ dx' fs', upd Fz x (.ins (Γ.ad c) dx fs) x = some (.ins (Γ.ad 0) dx' fs') → fs' = fs := fun dx' fs' e => by
      rw [upd_same] at e
      exact ((HO.ins.inj (Option.some.inj e)).2.2).symm
    refine ⟨fun b u h => ?_, fun b u h => ?_, rfl, fun i s e => by simp at e, fun i a e => by simp at e, fun i j a e => by simp at e, ⟨fun f' b dx' fs' hf' hb => ?_, fun a ha => ?_, fun f' b b' dx1 dx2 fs1 fs2 a hf' h1 h2 h3 h4 => ?_, fun q hq => (y2.cch.tab q hq).mono (Sub.new hx.2)⟩, fun b ys e => (y2.tups b ys e).mono (Sub.new hx.2)⟩
    · by_cases hb : b = x
      · subst hb; rw [upd_same] at h; rw [← h]; exact hx.1
      · rw [upd_ne hb] at h; exact y2.sub b u h
    · have hbx : b ≠ x := fun e => by subst e; rw [h] at hg; cases hg
      have q := y2.prot b u (by show upd g.P x _ b = _; rw [upd_ne hbx]; exact h)
      exact ⟨q.1, by rw [upd_ne hbx]; exact q.2⟩
    · rw [hf] at hf'; cases hf'
      by_cases hbx : b = x
      · subst hbx
        rw [new _ _ hb]
        exact ⟨p, [], hl, hp.1, CchOk.nil⟩
      · obtain ⟨a, kvs, q1, q2, q3⟩ := y2.cch.at_ f b dx' fs' hf (old _ _ _ hbx hb)
        exact ⟨a, kvs, q1, q2, q3.mono (Sub.new hx.2)⟩
    · rcases ha with ⟨f', b, dx', fs', hf', hb, hl'⟩ | ha
      rotate_left
      · obtain ⟨w1, w2, _⟩ := y2.cch.out a (.inr ha)
        have w2' : upd g.P x (.ins (Γ.ad c) dx fs) a = none := w2
        have hax : a ≠ x := fun e => by subst e; rw [upd_same] at w2'; cases w2'
        rw [upd_ne hax] at w2'
        exact ⟨by rw [upd_ne hax]; exact w1, w2', fun i e => by cases e⟩
      rw [hf] at hf'; cases hf'
      refine ⟨?_, ?_, fun i e => by cases e⟩
      · by_cases hbx : b = x
        · subst hbx
          rw [new _ _ hb, hl] at hl'
          cases hl'
          rw [upd_ne hpx]; exact hp.2
        · obtain ⟨w1, w2, _⟩ := y2.cch.out a (.inl ⟨f, b, dx', fs', hf, old _ _ _ hbx hb, hl'⟩)
          have w2' : upd g.P x (.ins (Γ.ad c) dx fs) a = none := w2
          rw [upd_ne (fun e => by subst e; rw [upd_same] at w2'; cases w2')]; exact w1
      · by_cases hbx : b = x
        · subst hbx
          rw [new _ _ hb, hl] at hl'
          cases hl'
          exact hgp
        · obtain ⟨w1, w2, _⟩ := y2.cch.out a (.inl ⟨f, b, dx', fs', hf, old _ _ _ hbx hb, hl'⟩)
          have w2' : upd g.P x (.ins (Γ.ad c) dx fs) a = none := w2
          rw [upd_ne (fun e => by subst e; rw [upd_same] at w2'; cases w2')] at w2'; exact w2'
    · rw [hf] at hf'; cases hf'
      by_cases e1 : b = x
      · by_cases e2 : b' = x
        · rw [e1, e2]
        · subst e1
          rw [new _ _ h1, hl] at h3
          cases h3
          exact absurd (.inl ⟨f, b', dx2, fs2, hf, old _ _ _ e2 h2, h4⟩) hnc
      · by_cases e2 : b' = x
        · subst e2
          rw [new _ _ h2, hl] at h4
          cases h4
          exact absurd (.inl ⟨f, b, dx1, fs1, hf, old _ _ _ e1 h1, h3⟩) hnc
        · exact y2.cch.inj f b b' dx1 dx2 fs1 fs2 a hf (old _ _ _ e1 h1) (old _ _ _ e2 h2) h3 h4
theorem rams0 : RAms Γ K σ Fz [] [] := RAms.nil
theorem ioIx_lent : ∀ {ams : List Am} {ρ : Env} {as : List Slot}, amSlots ρ ams = some as → as.all lent = true → ioIx ams = []
  | [], _, _, _, _ => rfl
  | am :: ams, ρ, as, e, h => by
    simp only [amSlots] at e
    cases e1 : amSlot ρ am with
    | none => rw [e1] at e; cases e
    | some s =>
      rw [e1, Option.bind_some] at e
      cases e2 : amSlots ρ ams with
      | none => rw [e2] at e; cases e
      | some ss =>
        rw [e2] at e; cases e
        simp only [List.all_cons, Bool.and_eq_true] at h
        have ih := ioIx_lent e2 h.2
        cases am with
        | val d => exact ih
        | bor i => exact ih
        | io i =>
          exfalso
          simp only [amSlot] at e1
          have hs := h.1
          split at e1
          · cases e1; cases hs
          · cases e1; cases hs
          · cases e1
theorem gP_io0 {Γ : Ct} {Fz H : Hp} {κ : Nat → List Addr} {ams : List Am} (h : ioIx ams = []) : gP Γ Fz H κ ams = gP Γ Fz H κ [] := by
  funext a
  unfold gP
  rw [h]; rfl
theorem rd_make {c : Nat} {P : List Slot → Option MO} {n : Nat} {ta : TA} {m : M (List Am)} (h : RdAm Γ K W ta m) : RdE Γ K W (fun σ H Q => ta σ H fun vs H1 => vs.length = n ∧ ∀ x dx, H1 x = none → H1 dx = none → dx ≠ x →
    spI Γ K c P n (.ref x :: vs) (upd (upd H1 dx (.own x)) x (.ins (Γ.ad c) dx [])) (fun v H2 => v = .non ∧ Q (.ref x) H2) (WE W σ)) (mMake c n P m) := fun g Fz H σ ρ Q x q =>
  h g Fz H σ ρ _ x (Goes.bind q fun ams ρ1 vs Fz1 H1 s1 x1 r1 q1 => by
    have q1 : Goes Γ K W g Fz1 σ (RE Γ K) (if ams.length = n ∧ amOk ams = true then (match amSlots ρ1 ams with
      | none => none
      | some as => if as.all lent = true then (match P as with
        | none => none
        | some (.ok es) => some (.ok (.ob c es) ρ1)
        | some (.exc c' od) => some (.exc c' od ρ1)) else none) else none) Q := q1
    have hn0 : ams.length = n ∧ amOk ams = true := by
      by_cases hn : ams.length = n ∧ amOk ams = true
      · exact hn
      · rw [if_neg hn] at q1; exact q1.elim
    rw [if_pos hn0] at q1
    have r1 : RAms Γ K σ Fz1 ams vs := r1
    have hn : vs.length = n := r1.len.trans hn0.1
    refine ⟨hn, fun a dx ha hdx hne => ?_⟩
    obtain ⟨κ, y⟩ := x1
    cases has : amSlots ρ1 ams with
    | none => rw [has] at q1; exact q1.elim
    | some as =>
    rw [has] at q1
    have q1 : Goes Γ K W g Fz1 σ (RE Γ K) (if as.all lent = true then (match P as with
        | none => none
        | some (.ok es) => some (.ok (.ob c es) ρ1)
        | some (.exc c' od) => some (.exc c' od ρ1)) else none) Q := q1
    have hlt : as.all lent = true := by
      by_cases hl : as.all lent = true
      · exact hl
      · rw [if_neg hl] at q1; exact q1.elim
    rw [if_pos hlt] at q1
    have hio := ioIx_lent has hlt
    have yc := y.call r1 hn0.2 has
    have eP : (gCall Γ Fz1 H1 κ ams vs).P = (gCall Γ Fz1 H1 κ [] []).P := gP_io0 hio
    have pa0 : ∀ b, H1 b = none → (gCall Γ Fz1 H1 κ [] []).P b = none := fun b hb => by
      cases q : (gCall Γ Fz1 H1 κ [] []).P b with
      | none => rfl
      | some o => have := (gP_of q).1; rw [hb] at this; cases this
    have y1 := yc.fresh0 (o := .own a) hdx
    have ha1 : upd H1 dx (.own a) a = none := by rw [upd_ne (Ne.symm hne)]; exact ha
    have y2 := y1.fresh0 (o := .ins (Γ.ad c) dx []) ha1
    refine ⟨by simp [hn], a, dx, vs, gCall Γ Fz1 H1 κ ams vs, Fz1, as, rfl, Ne.symm hne, by rw [eP]; exact pa0 dx hdx, by rw [eP]; exact pa0 a ha, hlt, ⟨_, y2⟩, ?_⟩
    have gx : ((gCall Γ Fz1 H1 κ [] []).more dx (.own a)).P a = none := by
      show upd (gCall Γ Fz1 H1 κ [] []).P dx (.own a) a = none
      rw [upd_ne (Ne.symm hne)]; exact pa0 a ha
    have eM : ∀ u : HO, (((gCall Γ Fz1 H1 κ ams vs).more dx (.own a)).more a u).P = (((gCall Γ Fz1 H1 κ [] []).more dx (.own a)).more a u).P := fun u => by
      show upd (upd (gCall Γ Fz1 H1 κ ams vs).P dx (.own a)) a u = upd (upd (gCall Γ Fz1 H1 κ [] []).P dx (.own a)) a u
      rw [eP]
    have q1' : Goes Γ K W g Fz1 σ (RE Γ K) (match P as with
      | none => none
      | some (.ok es) => some (.ok (.ob c es) ρ1)
      | some (.exc c' od) => some (.exc c' od ρ1)) Q := q1
    cases hP : P as with
    | none => rw [hP] at q1'; exact q1'.elim
    | some mo =>
      rw [hP] at q1'
      cases mo with
      | ok es =>
        intro fs xs Fz' H' co s ⟨κ2, z⟩ hco hf hm r
        refine ⟨rfl, ?_⟩
        have z := z.sub0 (g2 := (((gCall Γ Fz1 H1 κ [] []).more dx (.own a)).more a (.ins (Γ.ad c) dx fs)).mo co) fun b o hb => by
          cases co with
          | none => show (((gCall Γ Fz1 H1 κ ams vs).more dx (.own a)).more a _).P b = _; rw [eM]; exact hb
          | some po =>
            have hb' : upd (((gCall Γ Fz1 H1 κ [] []).more dx (.own a)).more a (.ins (Γ.ad c) dx fs)).P po.1 po.2 b = some o := hb
            show upd (((gCall Γ Fz1 H1 κ ams vs).more dx (.own a)).more a (.ins (Γ.ad c) dx fs)).P po.1 po.2 b = some o
            rw [eM]; exact hb'
        have hco : CoOk Γ c (((gCall Γ Fz1 H1 κ [] []).more dx (.own a)).more a (.ins (Γ.ad c) dx fs)) fs co := by
          cases co with
          | none => exact hco
          | some po => exact ⟨hco.1, by rw [← eM]; exact hco.2.1, hco.2.2⟩
        have hxz : Fz' a = none := (z.prot a (.ins (Γ.ad c) dx fs) (by
          cases co with
          | none => exact upd_same
          | some po =>
            show upd (((gCall Γ Fz1 H1 κ [] []).more dx (.own a)).more a (.ins (Γ.ad c) dx fs)).P po.1 po.2 a = _
            have w : upd ((gCall Γ Fz1 H1 κ [] []).more dx (.own a)).P a (.ins (Γ.ad c) dx fs) po.1 = none := hco.2.1
            rw [upd_ne (fun e => by rw [← e, upd_same] at w; cases w)]
            exact upd_same)).2
        have z1 := (z.freezeI gx hco).drop0 (pa0 dx hdx)
        have s2 : Sub Fz1 (upd Fz' a (.ins (Γ.ad c) dx fs)) := s.trans (Sub.new hxz)
        exact q1' (.ref a) _ H' s2 ⟨κ, (y.ret (ams := []) (vs := []) (as' := []) (ρ2 := ρ1) rams0 rfl s2 z1 rfl).1⟩ (.ob upd_same hf hm (r.mono (Sub.new hxz)))
      | exc c' od =>
        cases od with
        | none =>
          intro Fz' H' s ⟨κ2, z⟩
          have z := z.sub0 (g2 := ((gCall Γ Fz1 H1 κ [] []).more dx (.own a)).more a (.ins (Γ.ad c) dx [])) fun b o hb => by rw [eM]; exact hb
          exact q1' Fz' H' s ⟨κ, (y.ret (ams := []) (vs := []) (as' := []) (ρ2 := ρ1) rams0 rfl s ((z.drop0 gx).drop0 (pa0 dx hdx)) rfl).1⟩
        | some d =>
          intro p v Fz' H' s hp ⟨κ2, z⟩ r
          have hp : (((gCall Γ Fz1 H1 κ [] []).more dx (.own a)).more a (.ins (Γ.ad c) dx [])).P p = none := by rw [← eM]; exact hp
          have z := z.sub0 (g2 := (((gCall Γ Fz1 H1 κ [] []).more dx (.own a)).more a (.ins (Γ.ad c) dx [])).more p (.xd [("at", v)])) fun b o hb => by
            show upd (((gCall Γ Fz1 H1 κ ams vs).more dx (.own a)).more a (.ins (Γ.ad c) dx [])).P p (.xd [("at", v)]) b = some o
            rw [eM]; exact hb
          have hpa : p ≠ a := fun e => by
            subst e
            have : upd ((gCall Γ Fz1 H1 κ [] []).more dx (.own p)).P p (.ins (Γ.ad c) dx []) p = none := hp
            rw [upd_same] at this; cases this
          have hp1 : ((gCall Γ Fz1 H1 κ [] []).more dx (.own a)).P p = none := by
            have : upd ((gCall Γ Fz1 H1 κ [] []).more dx (.own a)).P a (.ins (Γ.ad c) dx []) p = none := hp
            rw [upd_ne hpa] at this; exact this
          have hpd : p ≠ dx := fun e => by
            subst e
            have : upd (gCall Γ Fz1 H1 κ [] []).P p (.own a) p = none := hp1
            rw [upd_same] at this; cases this
          have hp2 : (gCall Γ Fz1 H1 κ [] []).P p = none := by
            have : upd (gCall Γ Fz1 H1 κ [] []).P dx (.own a) p = none := hp1
            rw [upd_ne hpd] at this; exact this
          have z1 : FrK Γ K ((gCall Γ Fz1 H1 κ [] []).more p (.xd [("at", v)])) Fz' H' [] [] (fun _ => []) := z.sub0 fun b o hb => by
            have hb' : upd (gCall Γ Fz1 H1 κ [] []).P p (.xd [("at", v)]) b = some o := hb
            show upd (upd (upd (gCall Γ Fz1 H1 κ [] []).P dx (.own a)) a (.ins (Γ.ad c) dx [])) p (.xd [("at", v)]) b = some o
            by_cases e : b = p
            · subst e; rw [upd_same] at hb' ⊢; exact hb'
            · rw [upd_ne e] at hb' ⊢
              rw [upd_ne (fun w => by subst w; rw [pa0 _ ha] at hb'; cases hb'), upd_ne (fun w => by subst w; rw [pa0 _ hdx] at hb'; cases hb')]
              exact hb'
          obtain ⟨w1, w2⟩ := y.retMore (ams := []) (vs := []) (as' := []) (ρ2 := ρ1) rams0 rfl s hp2 z1 rfl
          exact q1' p v Fz' H' s w1 ⟨κ, w2⟩ r)
end
theorem make_gd {A : Around} {C : Addr} {us : List Value} {kw : List (Str × Value)} : (A.under (.builtin "type.__call__" ⟨.ref C :: us, kw⟩)).guards = A.guards := by
  first | rfl | (simp [Around.under, Code.guards, Code.isGuard, guardIds, pushGuards]) | (cases h : A.guards <;> simp [Around.under, Code.guards, Code.isGuard, guardIds, pushGuards, h])
theorem Rm.make {b : Bool} {k : Nat} {A : Around} (r : Rm b (k + 1) A) (C : Addr) (us : List Value) (kw : List (Str × Value)) : Rm b k (A.under (.builtin "type.__call__" ⟨.ref C :: us, kw⟩)) := ⟨r.rm.make C us kw, fun h => by rw [make_gd]; exact r.gd h⟩
end L3
namespace L3
open PySem PySem.Spec PyProof.Rows L2
section
variable {b : Bool} {Γ : Ct} {W : WX} {X : Cx} {k c n : Nat} {f : Addr} {fd : FuncData} {ps ks : List Str} {x : Str} {p pos : Pos} {e : Expr} {es : List Expr} {kws : List Keyword} {t : TA}
/-- the readings of a making -/
def tMk (Γ : Ct) (K : PySem.W.Frag) (W : WX) (c : Nat) (P : List Slot → Option MO) (n : Nat) (ta : TA) : TE := fun σ H Q => ta σ H fun vs H1 => vs.length = n ∧ ∀ x dx, H1 x = none → H1 dx = none → dx ≠ x →
  spI Γ K c P n (.ref x :: vs) (upd (upd H1 dx (.own x)) x (.ins (Γ.ad c) dx [])) (fun v H2 => v = .non ∧ Q (.ref x) H2) (WE W σ)
theorem run_mkB {P : List Slot → Option MO} {pins : List (Addr × Obj)} {σ : L2.St} {H : Hp} {s : Shared} {Q : VK} {us ws : List Value} {kw : List (Str × Value)} {vs : List V} (M : Mk X.K (Γ.ad c) f) (F : FnB b X.prog X.w X.K X.mg X.base k f fd ps (spI Γ X.K c P n)) (hr : Rm b (k + 1) X.A)
    (hb : ∀ (s' : Shared) (self : Value), X.K.In s'.heap → BindsTo s' fd ⟨self :: us, kw⟩ (ps.zip (self :: ws))) (hx : PassesAt (L2.CX X.prog X.w) X σ (WE W σ)) (I : Inv X pins σ H s) (r : Vals vs ws)
    (h : ∀ x dx, H x = none → H dx = none → dx ≠ x → spI Γ X.K c P n (.ref x :: vs) (upd (upd H dx (.own x)) x (.ins (Γ.ad c) dx [])) (fun v H2 => v = .non ∧ Q (.ref x) H2) (WE W σ)) :
    wpAny (model X.prog X.w) X.A (call (.ref (Γ.ad c)) us kw) (EP X pins σ Q) X.xe s := by
  have here := h (s.heap.objs.size + 1) s.heap.objs.size (I.hok.fresh (Nat.le_succ _)) (I.hok.fresh (Nat.le_refl _)) (Nat.ne_of_lt (Nat.lt_succ_self _))
  have J := Inv.made (C := Γ.ad c) I
  have rv : Vals (V.ref (s.heap.objs.size + 1) :: vs) (Value.ref (s.heap.objs.size + 1) :: ws) := .cons rfl r
  refine wpAny_call (make_map (f := f) I.kIn M.makes M.init (beq_iff_eq.mp M.fn) (codeAny_mono (F.run _ X.stack _ _ ⟨Value.ref (s.heap.objs.size + 1) :: us, kw⟩ _ _ _ (WE W σ) (hr.make (Γ.ad c) us kw) (J.env0.make (Γ.ad c) us kw) (hb _ _ J.kIn) rv here) fun o s' z => ?_))
  match o, z with
  | .error e, z => exact hx pins _ _ e s' J z
  | .ok (.ret u), z =>
    obtain ⟨v, H', I3, rv', ev, q3⟩ := J.after z
    subst ev
    exact ⟨rv', ⟨V.ref (s.heap.objs.size + 1), H', I3, rfl, q3⟩⟩
/-- what a caller asks of a class -/
def CallM (b : Bool) (Γ : Ct) (P : Program) (w : World) (K : PySem.W.Frag) (mg : Str → Option Value) (base : Heap) (k : Nat) (c : Nat) (x : Str) (ps : List Str) (n : Nat) (Pf : List Slot → Option MO) : Prop :=
  ∃ f fd, Mk K (Γ.ad c) f ∧ FnB b P w K mg base k f fd ps (spI Γ K c Pf n) ∧ mg x = some (.ref (Γ.ad c)) ∧ Binds K fd ps []
theorem e_mk {P : List Slot → Option MO} {m : M (List Am)} (C : CallM b Γ X.prog X.w X.K X.mg X.base k c x ps n P) (hr : Rm b (k + 1) X.A) (tk : Takes X W) (ha : DAm Γ W X (e :: es) t m) (hl : (e :: es).length = n := by rfl) (hp : ps.length = n + 1 := by rfl) (hg : Gl X x := by rfl) (hdb : (x == ("__debug__" : Str)) = false := by decide)
    (he : starEach (e :: es) X.env = (false, eval e X.env) :: starEach es X.env := by rfl) (hpl : (backTo pos (starEach es X.env)).any (·.1) = false := by rfl) :
    DE Γ W X (.Call (.Name x p) (e :: es) [] pos) (tMk Γ X.K W c P n t) (mMake c n P m) := by
  obtain ⟨f, fd, M, F, hm, hb⟩ := C
  refine ⟨⟨fun pins s σ H Q I prom => wpAny_Call_Name_kw (ld_glob I hg hm ?_ hdb)⟩, rd_make ha.rd⟩
  refine PySem.W.callWith_K (h₀ := X.base) I.ok.mod.kin M.kp (thn (ha.pe.run pos pins s σ H _ I prom) fun us s1 z => ?_) he hpl
  obtain ⟨vs, H1, I1, rel, hn, q⟩ := z
  refine ⟨I1.kIn, run_mkB M F hr (fun s' self hk => ?_) (passAt tk σ) I1 rel q⟩
  have hlen : (self :: us ++ []).length = ps.length := by rw [List.append_nil, List.length_cons, ← rel.length, hn, hp]
  have z := hb s' (self :: us) hk hlen
  rw [List.append_nil] at z
  exact z
def mDic0 : M D := M.ret .dic0
end
end L3
namespace L3
open PySem PySem.Spec PyProof.Rows L2
/-- the class's own ==; its != is the one of object -/
structure EqIn (K : PySem.W.Frag) (C f : Addr) : Prop where
  eq : PySem.W.findIn K (.ref C) "__eq__" = some (some (.ref f))
  fn : PySem.W.isFn K (.ref f) = true
  ne : PySem.W.findIn K (.ref C) "__ne__" = some (some (.builtin "object.__ne__"))
  ob : PySem.W.mroIn K C (.type "object") = some true
section
open PySem.W
variable {prog : Program} {w : World} {A : Around} {E : Value → Shared → Prop} {s : Shared} {K : PySem.W.Frag} {x C f : Addr} {ox : Obj} {od : Option Obj} {b : Value}
theorem objNe_K (hu : A.units < cLine) (X : K.In s.heap) (I : PySem.W.InstAt s.heap x ox C od) (T : EqIn K C f) {Q : Fin → Shared → Prop}
    (h : wpAny (model prog w) A (call (.ref f) [.ref x, b]) (fun v s' => ∃ r, v = .bool r ∧ Q (.done (.ret (.bool (!r)))) s') E s) :
    wpAny (model prog w) A (Builtin.«object.__ne__» ⟨[.ref x, b], []⟩) Q E s := by
  obtain ⟨hp, g, d, t, os⟩ := s
  unfold Builtin.«object.__ne__»
  repeat (first
    | with_reducible refine wpAny_cRoomFor hu ?_
    | (refine wpAny_bind (m := callSpecialIfBound? (.ref x) (Str.ofString "__eq__") [b])
        (PySem.W.ifBound_K X I T.eq T.fn (wpAny_mono h (fun r s' hr => by
          obtain ⟨b, rfl, hq⟩ := hr
          repeat (first | exact hq | exact wpAny_pure hq | exact wpAny_truthy_bool hq | (refine wpAny_bind (m := truthy (.bool _)) (wpAny_truthy_bool ?_)) | wp_step)) fun _ _ e => e)))
    | wp_step)
theorem ifBound_ne {M : Model} {args : List Value} {Q : Option Value → Shared → Prop} (X : K.In s.heap) (I : PySem.W.InstAt s.heap x ox C od) (hs : PySem.W.findIn K (.ref C) "__ne__" = some (some (.builtin "object.__ne__")))
    (h : wpAny M A (call (.builtin "object.__ne__") (.ref x :: args)) (fun v => Q (some v)) E s) : wpAny M A (callSpecialIfBound? (.ref x) "__ne__" args) Q E s := by
  simp only [callSpecialIfBound?, bindSpecialIfBound?]
  refine wpAny_holding (wpAny_bind (wpAny_bind (wpAny_bind (I.type.here ((PySem.W.looks_findIn X hs).here ?_)))))
  refine wpAny_bind (wpAny_askSetting (wpAny_ite ?_))
  have fin : wpAny M A (call (.builtin "object.__ne__") ([.ref x] ++ args) >>= fun v => pure (some v)) Q E s := wpAny_bind (wpAny_mono h (fun v s' h' => wpAny_pure h') fun _ _ h' => h')
  split
  · exact wpAny_bind (wpAny_of_eq (F.cmp_object.ne.bind _) (wpAny_pure (by exact fin)))
  · exact wpAny_tryCatch (wpAny_bind (wpAny_of_eq (F.cmp_object.ne.bind _) (wpAny_pure (by exact fin))))
theorem ne_K {h₀ : Heap} {L : Addr} {m : Str → Option Value} {tb : Value} {Q : Value → Shared → Prop} (hu : A.units + 1 < cLine) (hF : PyProof.Rows.Fr h₀ L s.heap m) (X₀ : K.In h₀) (I : PySem.W.InstAt s.heap x ox C od) (hb : PySem.W.Looks (model prog w) s.heap (typeOf b) tb) (hn : notFirst K C tb = true)
    (T : EqIn K C f) (h : wpAny (model prog w) A.in1 (call (.ref f) [.ref x, b]) (fun v s' => ∃ r, v = .bool r ∧ Q (.bool (!r)) s') E s) : wpAny (model prog w) A (richCompare .NotEq (.ref x) b) Q E s := by
  have X := X₀.keeps hF.keep
  have one : wpAny (model prog w) A (tryCompare (.ref x) "__ne__" b) (fun r s' => ∃ v, r = some v ∧ Q v s') E s := by
    unfold tryCompare
    refine wpAny_bind (ifBound_ne X I T.ne (wpAny_call (codeAny_call_builtin F.cmp_object.ne.plain F.cmpEntry_ne (PySem.W.check_slot F.cmpKind_ne F.cmpSplit_ne (I.type.andThen (PySem.W.looks_mroIn X T.ob)) (F.cmpArgs_ne _ _)
      (objNe_K (A := A.in1) (by show A.units + 1 < cLine; exact hu) X I T (wpAny_mono h (fun v s' hv => ?_) fun _ _ e => e))))))
    obtain ⟨r, rfl, hq⟩ := hv
    refine ⟨r, rfl, ?_⟩
    exact wpAny_pure ⟨_, rfl, hq⟩
  unfold richCompare
  simp only [oneThing_ref]
  refine wpAny_holding (wpAny_bind (wpAny_cRoomFor (Nat.lt_of_succ_lt hu) ?_))
  refine wpAny_bind (I.type.here (wpAny_bind (hb.here ?_)))
  split
  · rename_i q
    have e : subIn K tb (.ref C) = some false := by
      rcases Bool.or_eq_true_iff.mp hn with e | e
      · rw [beq_iff_eq.mp e] at q; simp at q
      · exact beq_iff_eq.mp e
    refine wpAny_bind ((looks_subIn X e).here ?_)
    simp only [Bool.false_eq_true, if_false]
    refine wpAny_bind (wpAny_mono one (fun r s' z => ?_) fun _ _ e => e)
    obtain ⟨v, rfl, hq⟩ := z
    exact wpAny_pure hq
  · refine wpAny_bind (wpAny_pure ?_)
    simp only [Bool.false_eq_true, if_false]
    refine wpAny_bind (wpAny_mono one (fun r s' z => ?_) fun _ _ e => e)
    obtain ⟨v, rfl, hq⟩ := z
    exact wpAny_pure hq
end
def CallEq (b : Bool) (Γ : Ct) (P : Program) (w : World) (K : PySem.W.Frag) (mg : Str → Option Value) (base : Heap) (k c : Nat) (Pf : Fn) : Prop :=
  ∃ f fd ps, ps.length = 2 ∧ FnB b P w K mg base k f fd ps (spF Γ K Pf ps.length) ∧ EqIn K (Γ.ad c) f ∧ Binds K fd ps []
/-- a type whose values do not compare ahead of the class's -/
def isBt (n : String) : Bool := n == "NoneType" || n == "bool" || n == "int" || n == "str" || n == "tuple" || n == "list" || n == "dict"
theorem bt_sub {K : PySem.W.Frag} {C : Addr} {n : String} (h : isBt n = true) : PySem.W.subIn K (.type n) (.ref C) = some false := by
  have key : ∀ m l, fastBuiltinMro m = some l → l.contains (.ref C) = false → PySem.W.subIn K (.type m) (.ref C) = some false := fun m l e e2 => by
    show (fastBuiltinMro m).map (·.contains (.ref C)) = some false
    rw [e, Option.map_some, e2]
  unfold isBt at h
  simp only [Bool.or_eq_true, beq_iff_eq] at h
  rcases h with (((((h | h) | h) | h) | h) | h) | h <;> subst h
  · exact key _ [.type "NoneType", .type "object"] (by decide +kernel) (by simp)
  · exact key _ [.type "bool", .type "int", .type "object"] (by decide +kernel) (by simp)
  · exact key _ [.type "int", .type "object"] (by decide +kernel) (by simp)
  · exact key _ [.type "str", .type "object"] (by decide +kernel) (by simp)
  · exact key _ [.type "tuple", .type "object"] (by decide +kernel) (by simp)
  · exact key _ [.type "list", .type "object"] (by decide +kernel) (by simp)
  · exact key _ [.type "dict", .type "object"] (by decide +kernel) (by simp)
/-- the right side's type -/
inductive EqTy (Γ : Ct) (K : PySem.W.Frag) (H : Hp) (c : Nat) : V → Prop
  | bt {x : V} {n : String} : TyX K H x (.type n) → isBt n = true → EqTy Γ K H c x
  | own {a dx : Addr} {fs : List (Str × V)} : H a = some (.ins (Γ.ad c) dx fs) → EqTy Γ K H c (.ref a)
def rEqO (Γ : Ct) (K : PySem.W.Frag) (c : Nat) (P : Fn) (neg : Bool) : R2 := fun x y H Q => ∃ a dx fs, x = .ref a ∧ H a = some (.ins (Γ.ad c) dx fs) ∧ EqTy Γ K H c y ∧
  spF Γ K P 2 [x, y] H (fun v H' => ∃ r, v = .bl r ∧ Q (.bl (r != neg)) H') (fun _ _ _ => False)
section
variable {b : Bool} {Γ : Ct} {X : Cx} {k c : Nat} {P : Fn}
theorem eq_call {A : Around} {neg : Bool} (F : CallEq b Γ X.prog X.w X.K X.mg X.base k c P) : ∃ f, EqIn X.K (Γ.ad c) f ∧ ∀ (A : Around) (pins : List (Addr × Obj)) (s : Shared) (σ : L2.St) (H : Hp) (x y : V) (v u : Value) (Q : VK) (neg : Bool), A.frames = X.A.frames → Rm b k A → Inv X pins σ H s → RelV x v → RelV y u →
    spF Γ X.K P 2 [x, y] H (fun v H' => ∃ r, v = .bl r ∧ Q (.bl (r != neg)) H') (fun _ _ _ => False) →
    wpAny (model X.prog X.w) A (call (.ref f) [v, u]) (fun r s' => ∃ z, r = .bool z ∧ EP X pins σ Q (.bool (z != neg)) s') X.xe s := by
  obtain ⟨f, fd, ps, hl, G, T, hb⟩ := F
  refine ⟨f, T, fun A pins s σ H x y v u Q neg hf hr I rx ry h => ?_⟩
  have e0 : Env0 X.prog X.w X.K X.mg X.base A X.stack s H := by
    have e := I.env0
    exact ⟨by rw [hf]; exact e.frames, e.mod, e.bs, e.bsz, e.funs, e.frf, e.hok, e.bare⟩
  have bd := hb s [v, u] I.kIn (by simp [hl])
  rw [List.append_nil] at bd
  have h2 : spF Γ X.K P ps.length [x, y] H (fun v H' => ∃ r, v = .bl r ∧ Q (.bl (r != neg)) H') (WE (fun _ _ _ _ => False) σ) := by rw [hl]; exact h
  refine wpAny_call (codeAny_mono (G.run A X.stack s H ⟨[v, u], []⟩ [v, u] [x, y] _ _ hr e0 bd (.cons rx (.cons ry .nil)) h2) fun o s' z => ?_)
  match o, z with
  | .error e, z => exact passAt takes0 σ pins H s e s' I z
  | .ok (.ret w), z =>
    obtain ⟨v', H', I', rz, r, ez, q⟩ := I.after z
    subst ez
    cases (show w = Value.bool r from rz)
    exact ⟨r, rfl, .bl (r != neg), H', I', rfl, q⟩
theorem eq_ty {pins : List (Addr × Obj)} {s : Shared} {σ : L2.St} {H : Hp} {y : V} {u : Value} (I : Inv X pins σ H s) (ry : RelV y u) (t : EqTy Γ X.K H c y) : ∃ tb, PySem.W.Looks (model X.prog X.w) s.heap (typeOf u) tb ∧ PySem.W.notFirst X.K (Γ.ad c) tb = true := by
  cases t with
  | @bt _ n h hn =>
    obtain ⟨P, kx, hp, _⟩ := kit_of I ry h
    refine ⟨_, kx.ty _ _ I.kIn hp, ?_⟩
    unfold PySem.W.notFirst
    rw [bt_sub hn]
    simp
  | own h =>
    cases (show u = Value.ref _ from ry)
    obtain ⟨mA, J, _⟩ := ins_get I.hok h
    obtain ⟨od, J, _⟩ := J.look
    exact ⟨_, J.type, by simp [PySem.W.notFirst]⟩
theorem op_eqO (F : CallEq b Γ X.prog X.w X.K X.mg X.base k c P) (hr : Rm b k X.A) : OpR X (compareOp .Eq) (rEqO Γ X.K c P false) := by
  intro pins s σ H x y v u Q I rx ry h
  obtain ⟨a, dx, fs, rfl, ha, ty, h⟩ := h
  obtain ⟨f, T, run⟩ := eq_call (A := X.A) (neg := false) F
  obtain ⟨tb, lk, nf⟩ := eq_ty (c := c) I ry ty
  have z := run X.A pins s σ H _ y v u Q false rfl hr I rx ry h
  cases (show v = Value.ref a from rx)
  obtain ⟨mA, J, _⟩ := ins_get I.hok ha
  obtain ⟨od, J, _⟩ := J.look
  obtain ⟨m, hF⟩ := I.fr
  refine PySem.W.cmp_K (op := .Eq) (tb := tb) (by have := hr.rm.un; omega) hF I.ok.mod.kin J lk nf T.eq T.fn (wpAny_mono z (fun r s' q => ?_) fun _ _ e => e)
  obtain ⟨r, rfl, q⟩ := q
  rw [Bool.bne_false] at q
  exact q
theorem op_neO (F : CallEq b Γ X.prog X.w X.K X.mg X.base k c P) (hr : Rm b (k + 1) X.A) : OpR X (compareOp .NotEq) (rEqO Γ X.K c P true) := by
  intro pins s σ H x y v u Q I rx ry h
  obtain ⟨a, dx, fs, rfl, ha, ty, h⟩ := h
  obtain ⟨f, T, run⟩ := eq_call (A := X.A) (neg := true) F
  obtain ⟨tb, lk, nf⟩ := eq_ty (c := c) I ry ty
  have z := run X.A.in1 pins s σ H _ y v u Q true rfl ⟨hr.rm.in1, fun q => hr.gd q⟩ I rx ry h
  cases (show v = Value.ref a from rx)
  obtain ⟨mA, J, _⟩ := ins_get I.hok ha
  obtain ⟨od, J, _⟩ := J.look
  obtain ⟨m, hF⟩ := I.fr
  refine ne_K (tb := tb) (by have := hr.rm.un; omega) hF I.ok.mod.kin J lk nf T (wpAny_mono z (fun r s' q => ?_) fun _ _ e => e)
  obtain ⟨r, rfl, q⟩ := q
  rw [Bool.bne_true] at q
  exact ⟨r, rfl, q⟩
end
def frzD (ρ : Env) : Bv → Option D
  | .val d => some d
  | .sl i => match ρ[i]? with
    | some (.fz d) => some d
    | _ => none
/-- may stand on the right side -/
def eqOk (c : Nat) : D → Bool
  | .ob c' _ => decide (c' = c)
  | .dic _ _ _ => false
  | .fn _ => false
  | _ => true
def obOf : D → Option Nat
  | .ob c _ => some c
  | _ => none
/-- ==, !=: by the own __eq__ P of the class c; else by f -/
def mEqO (c : Nat) (P : Fn) (neg : Bool) (f : D → D → Option D) (ma mb : M Bv) : M D := ma.bind fun a => mb.bind fun b => fun ρ => match (frzD ρ a).bind obOf with
  | some c' => if c' = c then (match frzD ρ a, frzD ρ b with
      | some d, some e => if eqOk c e = true then (match fCall P [.val d, .val e] ρ with
        | some (.ok (.bl r) ρ') => some (.ok (.bl (r != neg)) ρ')
        | _ => none) else none
      | _, _ => none) else none
  | none => ret2 f a b ρ
section
variable {Γ : Ct} {K : PySem.W.Frag} {W : WX} {g : Gh} {Fz H : Hp} {σ : L2.St} {ρ : Env} {ta tb : TE} {ma mb : M Bv} {c : Nat} {P : Fn} {neg : Bool} {f : D → D → Option D} {r : R2}
theorem frzD_rep {a : Bv} {x : V} {d : D} (y : Fr Γ K g Fz H σ ρ) (ra : RB Γ K σ Fz a x) (e : frzD ρ a = some d) : Rep Γ K Fz d x := by
  cases a with
  | val d' => cases e; exact ra
  | sl i =>
    have r' : σ[i]? = some (some x) := ra
    obtain ⟨κ, y⟩ := y
    simp only [frzD] at e
    cases hs : ρ[i]? with
    | none => rw [hs] at e; cases e
    | some s =>
      rw [hs] at e
      cases s with
      | fz d' =>
        cases e
        obtain ⟨_, v, h1, h2⟩ := y.slot i _ hs
        rw [r'] at h1; cases h1; exact h2
      | emp => cases e
      | raw => cases e
      | own _ => cases e
      | io _ => cases e
      | bor _ => cases e
theorem eqTy_of {e : D} {y : V} (s : Sub Fz H) (ry : Rep Γ K Fz e y) (h : eqOk c e = true) : EqTy Γ K H c y := by
  cases ry with
  | non => exact .bt (n := "NoneType") (.base .non) rfl
  | bl => exact .bt (n := "bool") (.base (.bl _)) rfl
  | int => exact .bt (n := "int") (.base (.int _)) rfl
  | str => exact .bt (n := "str") (.base (.str _)) rfl
  | tup h1 h2 => exact .bt (n := "tuple") (.base (.tup (s _ _ h1))) rfl
  | lst h1 h2 => exact .bt (n := "list") (.base (.lst (s _ _ h1))) rfl
  | dic0 h1 => exact .bt (n := "dict") (.base (.dK (s _ _ h1))) rfl
  | dicT _ _ _ => cases h
  | dicK _ _ _ => cases h
  | fn => cases h
  | ob h1 h2 h3 h4 =>
    have e : _ = c := of_decide_eq_true h
    subst e
    exact .own (s _ _ h1)
theorem rd_eqO (ha : RdB Γ K W ta ma) (hb : RdB Γ K W tb mb) (hr : OpD Γ K r f) : RdE Γ K W (tOp (fun x y H Q => r x y H Q ∨ rEqO Γ K c P neg x y H Q) ta tb) (mEqO c P neg f ma mb) := fun g Fz H σ ρ Q x q =>
  ha g Fz H σ ρ _ x (Goes.bind q fun a ρ1 v Fz1 H1 s1 x1 r1 q1 => hb g Fz1 H1 σ ρ1 _ x1 (Goes.bind q1 fun b ρ2 u Fz2 H2 s2 x2 r2 q2 => by
    cases e : (frzD ρ2 a).bind obOf with
    | none =>
      simp only [e] at q2
      exact .inl (ret2_goes hr x2 (r1.mono s2) r2 q2)
    | some c' =>
      simp only [e] at q2
      by_cases hc : c' = c
      · rw [if_pos hc] at q2
        cases e1 : frzD ρ2 a with
        | none => rw [e1] at e; cases e
        | some d =>
          cases e2 : frzD ρ2 b with
          | none => simp only [e1, e2] at q2; exact q2.elim
          | some z =>
            simp only [e1, e2] at q2
            rw [e1, Option.bind_some] at e
            have rd := frzD_rep x2 (r1.mono s2) e1
            have rz := frzD_rep x2 r2 e2
            by_cases ok : eqOk c z = true
            · rw [if_pos ok] at q2
              match d, e, rd with
              | .ob c1 ds, e, rd =>
                obtain rfl : c' = c1 := (Option.some.inj e).symm
                subst hc
                have rd0 := rd
                cases rd with
                | ob h1 h2 h3 h4 =>
                  refine .inr ⟨_, _, _, rfl, x2.sub _ _ h1, eqTy_of x2.sub rz ok, ?_⟩
                  refine call_goes (W := fun _ _ _ _ => False) (P := P) (ams := [.val (.ob _ ds), .val z]) x2 (RAms.cons (Sub.refl _) rd0 (RAms.cons (Sub.refl _) rz RAms.nil)) ?_
                  cases hP : fCall P [.val (.ob _ ds), .val z] ρ2 with
                  | none => rw [hP] at q2; exact q2.elim
                  | some o =>
                    rw [hP] at q2
                    match o, q2 with
                    | .ok (.bl t) ρ', q2 =>
                      intro w Fz' H' s y rep
                      cases (show Rep Γ K Fz' (.bl t) w from rep)
                      exact ⟨t, rfl, q2 _ Fz' H' s y .bl⟩
            · rw [if_neg ok] at q2; exact q2.elim
      · rw [if_neg hc] at q2; exact q2.elim))
end
section
variable {bb : Bool} {Γ : Ct} {W : WX} {X : Cx} {a b : Expr} {pos : Pos} {ta tb : TE} {ma mb : M Bv} {c k j : Nat} {P : Fn}
theorem e_eqO (C : CallEq bb Γ X.prog X.w X.K X.mg X.base k c P) (hr : Rm bb j X.A) (ha : DB Γ W X a ta ma) (hb : DB Γ W X b tb mb) (hk : k ≤ j := by decide) :
    DE Γ W X (.Compare a [.Eq] [b] pos) (tOp (fun x y H Q => rEqD X.K x y H Q ∨ rEqO Γ X.K c P false x y H Q) ta tb) (mEqO c P false fEq ma mb) :=
  ⟨pe_cmpR ((op_eqD (by have := hr.rm.un; omega)).or (op_eqO C (hr.mono hk))) ha.pe hb.pe (nomark _), rd_eqO ha.rd hb.rd opd_eq⟩
theorem t_neO (C : CallEq bb Γ X.prog X.w X.K X.mg X.base k c P) (hr : Rm bb j X.A) (ha : DB Γ W X a ta ma) (hb : DB Γ W X b tb mb) (hk : k + 1 ≤ j := by decide) :
    DT Γ W X (.Compare a [.NotEq] [b] pos) (tTest (tOp (fun x y H Q => rNeD X.K x y H Q ∨ rEqO Γ X.K c P true x y H Q) ta tb)) (asB (mEqO c P true fNe ma mb)) :=
  ⟨pt_cmpR ((op_neD (by have := hr.rm.un; omega)).or (op_neO C (hr.mono hk))) ha.pe hb.pe (nomark _), rd_asB (rd_eqO ha.rd hb.rd opd_ne)⟩
end
def mSqV (i : Nat) : M Sq := fun ρ => match ρ[i]? with
  | some (.own (.lst ds)) => some (.ok (false, ds, []) (ρ.set i (.fz (.lst ds))))
  | _ => mSqS i ρ
theorem rd_sqV {Γ : Ct} {K : PySem.W.Frag} {W : WX} (i : Nat) : RdQ Γ K W (tVar i) (mSqV i) := fun g Fz H σ ρ Q x q => by
  cases hs : ρ[i]? with
  | none => simp only [mSqV, mSqS, hs] at q
  | some s =>
    by_cases hl : ∃ ds, s = .own (.lst ds)
    · obtain ⟨ds, rfl⟩ := hl
      simp only [mSqV, hs] at q
      obtain ⟨κ, y⟩ := x
      obtain ⟨Fz', v, s, y', h1, h2⟩ := y.freezeSlot hs
      cases h2 with
      | lst h3 h4 => exact ⟨_, h1, q _ _ g Fz' H s Unl.refl ⟨_, y'⟩ (stay_lst (.inl h3) h4)⟩
    · have e : mSqV i ρ = mSqS i ρ := by
        unfold mSqV
        rw [hs]
        match s, hl with
        | .own (.lst ds), hl => exact absurd ⟨ds, rfl⟩ hl
        | .own (.deal _ _), _ => rfl
        | .own (.dic _ _ _), _ => rfl
        | .emp, _ => rfl
        | .raw, _ => rfl
        | .fz _, _ => rfl
        | .io _, _ => rfl
        | .bor _, _ => rfl
      rw [e] at q
      exact rd_sqS i g Fz H σ ρ Q x q
theorem q_v {Γ : Ct} {W : WX} {X : Cx} {pos : Pos} (i : Nat) {x : Str} (hN : X.N[i]? = some x := by rfl) (hv : Vis X.env.scope x := by first | exact Or.inl rfl | exact Or.inr (Or.inl rfl) | exact Or.inr (Or.inr rfl)) (hd : (x == ("__debug__" : Str)) = false := by decide)
    (hcd : (x == ("__classdict__" : Str)) = false := by decide) : DQ Γ W X (.Name x pos) (tVar i) (mSqV i) := ⟨pe_var hN hv hd hcd, rd_sqV i⟩
end L3
namespace L3
open PySem PySem.Spec PyProof.Rows L2
def isRaw (ρ : Env) : Bool := match (ρ[0]? : Option Slot) with
  | some Slot.raw => true
  | _ => false
theorem isRaw_at {ρ : Env} (h : isRaw ρ = true) : ρ[0]? = some .raw := by
  unfold isRaw at h
  split at h
  · assumption
  · cases h
structure Flds (fs : List (Str × V)) (pre : List Str) (xs : List V) : Prop where
  at_ : pre.map (fun f => fs.lookup f) = xs.map some
  no : ∀ m, m ∉ pre → fs.lookup m = none
  len : fs.length ≤ pre.length
theorem putF_len (f : Str) (y : V) : ∀ fs : List (Str × V), (putF f y fs).length ≤ fs.length + 1
  | [] => Nat.le_refl _
  | (g, x) :: r => by
    unfold putF
    by_cases h : g = f
    · rw [if_pos h]; simp
    · rw [if_neg h]
      have := putF_len f y r
      simp only [List.length_cons]; omega
theorem Flds.put {fs : List (Str × V)} {pre : List Str} {xs : List V} (h : Flds fs pre xs) {f : Str} (hf : f ∉ pre) (y : V) : Flds (putF f y fs) (pre ++ [f]) (xs ++ [y]) := by
  refine ⟨?_, fun m hm => ?_, ?_⟩
  · rw [List.map_append, List.map_append, ← h.at_]
    congr 1
    · refine List.map_congr_left fun m hm => ?_
      rw [lookup_putF, if_neg (fun e : m = f => hf (e ▸ hm))]
    · simp [lookup_putF]
  · have hm' : m ∉ pre ∧ m ≠ f := ⟨fun e => hm (by simp [e]), fun e => hm (by simp [e])⟩
    rw [lookup_putF, if_neg hm'.2]; exact h.no m hm'.1
  · have := putF_len f y fs
    have := h.len
    rw [List.length_append, List.length_singleton]; omega
/-- the fields at the end; the one that keeps what will be found is none of them -/
structure FlE (Γ : Ct) (fs : List (Str × V)) (pre : List Str) (xs : List V) (co : Option (Addr × HO)) : Prop where
  at_ : pre.map (fun f => fs.lookup f) = xs.map some
  no : ∀ m, m ∉ pre → (co = none ∨ Γ.cf ≠ some m) → fs.lookup m = none
section
variable (Γ : Ct) (K : PySem.W.Frag)
abbrev gSelf (c : Nat) (g : Gh) (x dx : Addr) (fs : List (Str × V)) : Gh := (g.more dx (.own x)).more x (.ins (Γ.ad c) dx fs)
def RdIni (W : WX) (c : Nat) (t : TS) (nms : List Str) (m : M (List D)) : Prop := ∀ (g : Gh) (x dx : Addr) (Fz H : Hp) (σ : L2.St) (ρ : Env) (fs : List (Str × V)) (pre : List Str) (xs : List V) (ds : List D) (E : Ends),
  g.P dx = none → g.P x = none → x ≠ dx → (g.pin 0).1 = .ref x → Fr Γ K (gSelf Γ c g x dx fs) Fz H σ ρ → isRaw ρ = true → Flds fs pre xs → RepL Γ K Fz ds xs → (pre ++ nms).Nodup ∧ (pre ++ nms).length ≤ 900 ∧ (∀ n ∈ pre, Γ.cf ≠ some n) →
  (match m ρ with
    | none => False
    | some (.ok es ρ') => ∀ fs' xs' σ' Fz' H' co, Sub Fz Fz' → Fr Γ K ((gSelf Γ c g x dx fs').mo co) Fz' H' σ' ρ' → CoOk Γ c (gSelf Γ c g x dx fs') fs' co → FlE Γ fs' (pre ++ nms) xs' co → RepL Γ K Fz' (ds ++ es) xs' → E.nx σ' H'
    | some (.exc c' od ρ') => ∀ σ', ExGo Γ K W (gSelf Γ c g x dx fs) Fz σ' c' ρ' od) → t E σ H
end
structure DIni (Γ : Ct) (W : WX) (X : Cx) (c : Nat) (sts : List Stmt) (t : TS) (nms : List Str) (m : M (List D)) : Prop where
  ps : PSs X sts t
  rd : RdIni Γ X.K W c t nms m
def mIniNil : M (List D) := M.ret []
def mIniFld (me : M D) (rest : M (List D)) : M (List D) := fun ρ => match me ρ with
  | some (.ok d ρ1) => if isRaw ρ1 = true then (match rest ρ1 with
    | some (.ok es ρ2) => some (.ok (d :: es) ρ2)
    | _ => none) else none
  | _ => none
def mIniPre (ms : MS) (rest : M (List D)) : M (List D) := fun ρ => match ms ρ with
  | some (.nx ρ1) => if isRaw ρ1 = true then rest ρ1 else none
  | some (.exc c d ρ1) => some (.exc c d ρ1)
  | _ => none
section
variable {Γ : Ct} {K : PySem.W.Frag} {W : WX} {X : Cx} {c : Nat} {t u : TS} {nms : List Str} {m : M (List D)} {st : Stmt} {sts : List Stmt} {te : TE} {e : Expr} {f y0 : Str} {p p2 pos : Pos}
theorem FrK.write1 {g : Gh} {Fz H : Hp} {σ : L2.St} {ρ : Env} {κ : Nat → List Addr} {x p : Addr} {o o' u : HO} (y : FrK Γ K ((g.more x o).more p u) Fz H σ ρ κ) (hpx : p ≠ x) (hgx : g.P x = none) (hgp : g.P p = none) (nt : Pln o' := by exact trivial) : FrK Γ K ((g.more x o').more p u) Fz (upd H x o') σ ρ κ := by
  have px : ((g.more x o).more p u).P x = some o := by
    show upd (upd g.P x o) p u x = _
    rw [upd_ne (Ne.symm hpx), upd_same]
  obtain ⟨hx, hz⟩ := y.prot x o px
  have hne : ∀ i a, a ∈ κ i → a ≠ x := fun i a ha e => by
    have w := (y.fresh i a ha).2.2.1
    rw [e, px] at w; cases w
  have pe : ∀ a, a ≠ x → ((g.more x o').more p u).P a = ((g.more x o).more p u).P a := fun a ha => by
    show upd (upd g.P x o') p u a = upd (upd g.P x o) p u a
    by_cases e : a = p
    · rw [e, upd_same, upd_same]
    · rw [upd_ne e, upd_ne e, upd_ne ha, upd_ne ha]
  refine ⟨fun b w h => ?_, fun a w h => ?_, y.len, fun i t h => ?_, fun i a ha => ?_, y.disj, y.cch.goC (Sub.refl _) (fun _ _ _ e => e) (fun a kvs hl hc q1 q2 q3 q4 => ?_), putTups y.tups nt⟩
  · rw [upd_ne (fun e => by rw [e, hz] at h; cases h)]; exact y.sub b w h
  · by_cases e : a = x
    · subst e
      have h' : upd (upd g.P a o') p u a = some w := h
      rw [upd_ne (Ne.symm hpx), upd_same] at h'
      cases h'
      exact ⟨upd_same, hz⟩
    · rw [pe a e] at h
      rw [upd_ne e]; exact y.prot a w h
  · have z := (y.slot i t h).less.less
    refine ((z.mono (Sub.refl Fz) fun a ha => upd_ne (hne i a ha)).more hgx).more ?_
    show upd g.P x o' p = none
    rw [upd_ne hpx]; exact hgp
  · obtain ⟨w0, w1, w2, v, w3⟩ := y.fresh i a ha
    have e := hne i a ha
    exact ⟨w0, w1, by rw [pe a e]; exact w2, v, by rw [upd_ne e]; exact w3⟩
  · have e : a ≠ x := fun e => by rw [e, px] at q3; cases q3
    exact ⟨by rw [upd_ne e]; exact q1, q2, by rw [pe a e]; exact q3, q4⟩
/-- self.f = {}, the field that keeps what will be found: the last statement -/
theorem ini_cch {p3 : Pos} (hcf : Γ.cf = some f) (cl : Cls X.K (Γ.ad c)) (no : NoAttr X.K (Γ.ad c) f) (hN : X.N[0]? = some y0 := by rfl)
    (hv : Vis X.env.scope y0 := by first | exact Or.inl rfl | exact Or.inr (Or.inl rfl) | exact Or.inr (Or.inr rfl)) (hd : (y0 == ("__debug__" : Str)) = false := by decide) (hcd : (y0 == ("__classdict__" : Str)) = false := by decide)
    (hsw : swapsWith (.Dict [] [] p3) (some (.Attribute (.Name y0 p) f p2)) pos.line X.env = pure false := by rfl) : DIni Γ W X c [.Assign [.Attribute (.Name y0 p) f p2] (.Dict [] [] p3) pos] (tSeq (sFld X.K (tVar 0) tDNewK f) tNext) [] mIniNil :=
  ⟨pss_cons (ps_fld (pe_var hN hv hd hcd) pe_dnewK hsw) pss_nil, fun g x dx Fz H σ ρ fs pre xs ds E h1 h2 h3 h4 y hr hf r hl q => fun d hd0 => by
    obtain ⟨κ, z0⟩ := y
    have hx := z0.at0
    have hraw := z0.slot 0 _ (isRaw_at hr)
    have hσ : σ[0]? = some (some (.ref x)) := by rw [← h4]; exact hraw.2
    have hdx : d ≠ x := fun e => by rw [e, hx.1] at hd0; cases hd0
    have gx : (g.more dx (.own x)).P x = none := by
      show upd g.P dx (.own x) x = none
      rw [upd_ne h3]; exact h2
    have gd : (gSelf Γ c g x dx fs).P d = none := z0.noP hd0
    have gd1 : (g.more dx (.own x)).P d = none := by
      have w : upd (g.more dx (.own x)).P x (.ins (Γ.ad c) dx fs) d = none := gd
      rw [upd_ne hdx] at w; exact w
    have hb : f ∉ pre := fun hm => hl.2.2 f hm hcf
    have z1 := z0.fresh0 (o := .dK []) hd0
    have z2 : FrK Γ X.K ((gSelf Γ c g x dx (putF f (.ref d) fs)).more d (.dK [])) Fz (upd (upd H d (.dK [])) x (.ins (Γ.ad c) dx (putF f (.ref d) fs))) σ ρ κ := z1.write1 hdx gx gd1
    refine ⟨.ref x, hσ, x, Γ.ad c, dx, fs, rfl, by rw [upd_ne (Ne.symm hdx)]; exact hx.1, cl, no, by have := hf.len; have := hl.2.1; rw [List.length_append] at this; omega, ?_⟩
    refine q (putF f (.ref d) fs) xs σ Fz _ (some (d, .dK [])) (Sub.refl _) ⟨κ, z2⟩ ⟨rfl, ?_, f, hcf, by rw [lookup_putF, if_pos rfl]⟩ ⟨?_, fun m hm hc => ?_⟩ (by rw [List.append_nil]; exact r)
    · show upd (g.more dx (.own x)).P x (.ins (Γ.ad c) dx (putF f (.ref d) fs)) d = none
      rw [upd_ne hdx]; exact gd1
    · rw [List.append_nil, ← hf.at_]
      refine List.map_congr_left fun m hm => ?_
      rw [lookup_putF, if_neg (fun e : m = f => hb (e ▸ hm))]
    · rw [List.append_nil] at hm
      have hmf : m ≠ f := fun e => by
        rcases hc with hc | hc
        · cases hc
        · exact hc (by rw [e]; exact hcf)
      rw [lookup_putF, if_neg hmf]; exact hf.no m hm⟩
theorem ini_pre {ms : MS} (h : DS Γ W X st t ms) (hs : DIni Γ W X c sts u nms m) : DIni Γ W X c (st :: sts) (tSeq t u) nms (mIniPre ms m) := ⟨pss_cons h.ps hs.ps, fun g x dx Fz H σ ρ fs pre xs ds E h1 h2 h3 h4 y hr hf r hl q => h.rd _ Fz H σ ρ _ y (by
  cases e : ms ρ with
  | none => simp only [mIniPre, e] at q
  | some o =>
    cases o with
    | nx ρ1 =>
      simp only [mIniPre, e] at q
      intro σ' Fz' H' s y'
      by_cases hr1 : isRaw ρ1 = true
      · rw [if_pos hr1] at q
        refine hs.rd g x dx Fz' H' σ' ρ1 fs pre xs ds E h1 h2 h3 h4 y' hr1 hf (r.mono s) hl ?_
        cases e2 : m ρ1 with
        | none => simp only [e2] at q
        | some o2 =>
          cases o2 with
          | ok es ρ2 => simp only [e2] at q; exact fun fs' xs' σ2 Fz2 H2 co s2 => q fs' xs' σ2 Fz2 H2 co (s.trans s2)
          | exc c' od ρ2 => simp only [e2] at q; exact fun σ2 => ExGo.mono s (q σ2)
      · rw [if_neg hr1] at q; exact q.elim
    | exc c' od ρ1 => simp only [mIniPre, e] at q; exact q
    | rt d ρ1 => simp only [mIniPre, e] at q
    | bk ρ1 => simp only [mIniPre, e] at q
    | ct ρ1 => simp only [mIniPre, e] at q)⟩
theorem ini_fld {me : M D} (hcn : Γ.cf ≠ some f) (cl : Cls X.K (Γ.ad c)) (no : NoAttr X.K (Γ.ad c) f) (he : DE Γ W X e te me) (hs : DIni Γ W X c sts u nms m) (hN : X.N[0]? = some y0 := by rfl)
    (hv : Vis X.env.scope y0 := by first | exact Or.inl rfl | exact Or.inr (Or.inl rfl) | exact Or.inr (Or.inr rfl)) (hd : (y0 == ("__debug__" : Str)) = false := by decide) (hcd : (y0 == ("__classdict__" : Str)) = false := by decide)
    (hsw : swapsWith e (some (.Attribute (.Name y0 p) f p2)) pos.line X.env = pure false := by rfl) : DIni Γ W X c (.Assign [.Attribute (.Name y0 p) f p2] e pos :: sts) (tSeq (sFld X.K (tVar 0) te f) u) (f :: nms) (mIniFld me m) :=
  ⟨pss_cons (ps_fld (pe_var hN hv hd hcd) he.pe hsw) hs.ps, fun g x dx Fz H σ ρ fs pre xs ds E h1 h2 h3 h4 y hr hf r hl q => he.rd _ Fz H σ ρ _ y (by
    cases e1 : me ρ with
    | none => simp only [mIniFld, e1] at q
    | some o =>
      cases o with
      | exc c' od ρ1 => simp only [mIniFld, e1] at q
      | ok d ρ1 =>
        simp only [mIniFld, e1] at q
        intro v Fz1 H1 s y1 rv
        have rv' : Rep Γ X.K Fz1 d v := rv
        by_cases hr1 : isRaw ρ1 = true
        · rw [if_pos hr1] at q
          obtain ⟨κ, z⟩ := y1
          have hraw := z.slot 0 _ (isRaw_at hr1)
          have hσ : σ[0]? = some (some (.ref x)) := by rw [← h4]; exact hraw.2
          have hx := z.at0
          have gx : (g.more dx (.own x)).P x = none := by
            show upd g.P dx (.own x) x = none
            rw [upd_ne h3]; exact h2
          refine ⟨.ref x, hσ, x, Γ.ad c, dx, fs, rfl, hx.1, cl, no, by have := hf.len; have := hl.2.1; rw [List.length_append] at this; omega, ?_⟩
          have y2 : Fr Γ X.K (gSelf Γ c g x dx (putF f v fs)) Fz1 (upd H1 x (.ins (Γ.ad c) dx (putF f v fs))) σ ρ1 := ⟨κ, z.write0 gx⟩
          have hfp : f ∉ pre := fun hm => (List.nodup_append.mp hl.1).2.2 f hm f (List.mem_cons_self ..) rfl
          have hl2 : ((pre ++ [f]) ++ nms).Nodup ∧ ((pre ++ [f]) ++ nms).length ≤ 900 ∧ ∀ n ∈ pre ++ [f], Γ.cf ≠ some n := by
            rw [List.append_assoc]
            refine ⟨hl.1, hl.2.1, fun n hn => ?_⟩
            rcases List.mem_append.mp hn with hn | hn
            · exact hl.2.2 n hn
            · rw [List.mem_singleton.mp hn]; exact hcn
          · cases e2 : m ρ1 with
            | none => simp only [e2] at q
            | some o2 =>
              cases o2 with
              | exc c' od ρ2 => simp only [e2] at q
              | ok es ρ2 =>
                simp only [e2] at q
                refine hs.rd g x dx Fz1 _ σ ρ1 (putF f v fs) (pre ++ [f]) (xs ++ [v]) (ds ++ [d]) E h1 h2 h3 h4 y2 hr1 (hf.put hfp v) ((r.mono s).snoc rv') hl2 ?_
                simp only [e2]
                intro fs' xs' σ2 Fz2 H2 co s2 y3 hco hf2 r2
                refine q fs' xs' σ2 Fz2 H2 co (s.trans s2) y3 hco ?_ ?_
                · rw [List.append_assoc] at hf2; exact hf2
                · rw [List.append_assoc] at r2; exact r2
        · rw [if_neg hr1] at q; exact q.elim)⟩
end
theorem Fr.bare {Γ : Ct} {K : PySem.W.Frag} {g1 g2 : Gh} {Fz H : Hp} {σ : L2.St} {ρ : Env} (x : Fr Γ K g1 Fz H σ ρ) (h : ∀ a o, g2.P a = some o → g1.P a = some o) : Fr Γ K g2 Fz H [] [] := by
  obtain ⟨κ, x⟩ := x
  exact ⟨fun _ => [], x.sub, fun a o e => x.prot a o (h a o e), rfl, fun i s e => by simp at e, fun i a e => by simp at e, fun i j a e => by simp at e, x.cch.go (Sub.refl _) (fun _ _ _ e => e) fun a kvs hl h1 h2 h3 h4 => ⟨h1, h2, h_none h h3, fun i hi => by simp at hi⟩, x.tups⟩
def pIni (n : Nat) (m : M (List D)) : List Slot → Option MO := fun as => match m (.raw :: (as ++ List.replicate (n - 1 - as.length) .emp)) with
  | some (.ok es _) => some (.ok es)
  | some (.exc c od _) => some (.exc c od)
  | none => none
/-- the ghost with self in its first slot -/
def gPin (g : Gh) (v : V) : Gh where
  P := g.P
  B := fun i => match i with
    | 0 => none
    | i + 1 => g.B i
  sub := fun i a xs h => by
    cases i with
    | zero => cases h
    | succ i => exact g.sub i a xs h
  pin := fun _ => (v, [])
section
variable {b : Bool} {Γ : Ct} {P : Program} {w : World} {K : PySem.W.Frag} {mg : Str → Option Value} {base : Heap}
theorem ini_start {g : Gh} {x : Addr} {o1 o2 : HO} {dx : Addr} {Fz H : Hp} {N : List Str} {as : List Slot} {vs : List V} (y : Fr Γ K ((g.more dx o1).more x o2) Fz H (vs.map some) as) (hl : as.all lent = true) (hn : vs.length + 1 ≤ N.length) :
    Fr Γ K (((gPin g (.ref x)).more dx o1).more x o2) Fz H (L2.start N (.ref x :: vs)) (.raw :: (as ++ List.replicate (N.length - 1 - as.length) .emp)) := by
  obtain ⟨κ, y⟩ := y
  have hlen : as.length = vs.length := by have := y.len; rw [List.length_map] at this; exact this.symm
  refine ⟨fun _ => [], y.sub, fun a o e => y.prot a o e, ?_, fun i s hs => ?_, fun i a e => by simp at e, fun i j a e => by simp at e, y.cch.go (Sub.refl _) (fun _ _ _ e => e) fun a kvs hl h1 h2 h3 h4 => ⟨h1, h2, h3, fun i hi => by simp at hi⟩, y.tups⟩
  · unfold L2.start
    simp only [List.length_append, List.length_map, List.length_cons, List.length_replicate]
    omega
  · cases i with
    | zero =>
      simp only [List.getElem?_cons_zero, Option.some.injEq] at hs
      subst hs
      exact ⟨rfl, rfl⟩
    | succ i =>
      simp only [List.getElem?_cons_succ] at hs
      by_cases hi : i < as.length
      · rw [List.getElem?_append_left hi] at hs
        have z := y.slot i s hs
        have hv : (L2.start N (.ref x :: vs))[i + 1]? = (vs.map some)[i]? := by
          unfold L2.start
          rw [List.getElem?_append_left (by simp; omega)]
          simp
        rw [hv]
        have hls : lent s = true := List.all_eq_true.mp hl s (List.mem_of_getElem? hs)
        cases s with
        | fz d => exact ⟨rfl, z.2⟩
        | bor ds => exact ⟨rfl, z.2⟩
        | emp => cases hls
        | raw => cases hls
        | own _ => cases hls
        | io _ => cases hls
      · rw [List.getElem?_append_right (by omega), List.getElem?_replicate] at hs
        split at hs
        · cases hs; rfl
        · cases hs
theorem fnI_of {x qual : Str} {st : Stmt} {f : Addr} {fd : FuncData} {N ps : List Str} {k c : Nat} {nms : List Str} {m : M (List D)} (F : Fun K x qual st f fd) (S : FnScope N ps (defScope st)) (hfl : Γ.fl c = nms) (hks : ∀ y, y ∉ Γ.ks c → y ∉ nms) (hkc : ∀ y, y ∉ Γ.ks c → Γ.cf ≠ some y) (hnd : nms.Nodup ∧ nms.length ≤ 900) (hps : 1 ≤ ps.length)
    (hbody : ∀ (cdv : Value) (A : Around) (outer : List PySem.Env) (s : Shared) (H : Hp) (E : XK), Rm b k (A.deeper (envOfC qual (defScope st) s.heap.objs.size f cdv)) →
      ∃ t, DIni Γ (fun cls d _ H => E cls d H) (cxOf (L2.CX P w) P w K mg base N qual (defScope st) f cdv A outer s H E) c (defBody st) t nms m) : FnB b P w K mg base (k + 1) f fd ps (spI Γ K c (pIni N.length m) (ps.length - 1)) := by
  obtain ⟨oc, od, kV, doc, pm, an, cdv, ct, osl, rfl, lk, hcd⟩ := F.ex
  refine ⟨fun vs H Q E h => by have := h.1; omega, fun A outer s H args us vs Q E r0 e0 bind rv prom => ?_⟩
  have inHeap : K.In s.heap := e0.mod.kin.keeps fun a o z => (e0.bs a o z).1
  have noLim : s.heap.NoLimit := e0.mod.nolimit.keeps fun a o z => (e0.bs a o z).1
  have kinds : ∀ y ∈ ps.zip us, (defScope st).names.lookup y.1 = some .local ∨ ((defScope st).names.lookup y.1 = some .cell ∧ ((cellsFrom (s.heap.objs.size + 1) (defScope st).names []).lookup y.1).isSome = true) := fun y hy =>
    (S.par y.1 (List.of_mem_zip (a := y.1) (b := y.2) hy).1).imp id fun q => ⟨q, PySem.W.cellsFrom_some _ _ _ (.inl q)⟩
  have pn : ps.length ≤ N.length := by have z := congrArg List.length S.pre; rw [List.length_take] at z; omega
  refine codeAny_call_function r0.rm.depth (inHeap _ _ lk) rfl S.co S.gen rfl (PySem.W.codeRec_of inHeap hcd) (bind _ _ _ _ (wpAny_newFunctionEnv_cells S.kind kinds fun env he s1 ic => ?_))
  subst he
  obtain ⟨t, D⟩ := hbody cdv A outer s H E (r0.deeper _)
  have hvl : vs.length = ps.length := by have := prom.1; omega
  have start : Inv (cxOf (L2.CX P w) P w K mg base N qual (defScope st) f cdv A outer s H E) [] (L2.start N vs) H s1 := inv_start S r0.rm.hd e0 hvl rv ic
  obtain ⟨_, x, dx, vs', g, Fz, as, rfl, hne, gd, gx, hlt, y, prom⟩ := prom
  have y0 := ini_start (N := N) y hlt (by rw [List.length_cons] at hvl; omega)
  have back : ∀ {fs : List (Str × V)} {Fz' H' : Hp} {σ' : L2.St} {ρ' : Env}, Fr Γ K (gSelf Γ c (gPin g (.ref x)) x dx fs) Fz' H' σ' ρ' → Fr Γ K ((g.more dx (.own x)).more x (.ins (Γ.ad c) dx fs)) Fz' H' [] [] := fun z => z.bare fun a o e => e
  have backC : ∀ {fs : List (Str × V)} {co : Option (Addr × HO)} {Fz' H' : Hp} {σ' : L2.St} {ρ' : Env}, Fr Γ K ((gSelf Γ c (gPin g (.ref x)) x dx fs).mo co) Fz' H' σ' ρ' → Fr Γ K (((g.more dx (.own x)).more x (.ins (Γ.ad c) dx fs)).mo co) Fz' H' [] [] := fun {fs co _ _ _ _} z => z.bare fun a o e => by
    cases co with
    | none => exact e
    | some po => exact e
  have run : t { nx := fun _ H' => Q .non H', rt := Q } (L2.start N (.ref x :: vs')) H := by
    refine D.rd (gPin g (.ref x)) x dx Fz H _ _ [] [] [] [] _ gd gx hne rfl y0 rfl ⟨rfl, fun _ _ => rfl, Nat.le_refl _⟩ .nil ⟨hnd.1, hnd.2, fun n hn => by cases hn⟩ ?_
    unfold pIni at prom
    cases e : m (.raw :: (as ++ List.replicate (N.length - 1 - as.length) .emp)) with
    | none => simp only [e] at prom
    | some o =>
      cases o with
      | ok es ρ' =>
        simp only [e] at prom
        intro fs' xs' σ' Fz' H' co s z hco hf r2
        have hco' : CoOk Γ c ((g.more dx (.own x)).more x (.ins (Γ.ad c) dx fs')) fs' co := by
          cases co with
          | none => exact hco
          | some po => exact hco
        exact prom fs' xs' Fz' H' co s (backC z) hco' (by rw [hfl]; exact hf.at_) (fun y hy => hf.no y (hks y hy) (.inr (hkc y hy))) r2
      | exc c' od ρ' =>
        simp only [e] at prom
        intro σ'
        cases od with
        | none => exact fun Fz' H' s z => prom Fz' H' s (back z)
        | some d =>
          intro p v Fz' H' s hp z r2
          exact prom p v Fz' H' s hp (z.bare fun a o e => e) r2
  refine ⟨noLim.keeps ic.toInCall.keep, codeAny_func (wpAny_mono (D.ps.run [] s1 _ H _ start run) (fun fl s' z => ?_) fun e s' z => z)⟩
  match fl, z with
  | .ret u, ⟨v, σ', H', J, rel, z⟩ => exact ⟨v, H', J.os, J.bare, J.base, J.hok, rel, z⟩
  | .next, ⟨σ', H', J, z⟩ => exact ⟨.non, H', J.os, J.bare, J.base, J.hok, rfl, z⟩
  | .brk, ⟨_, _, _, z⟩ => exact False.elim z
  | .cont, ⟨_, _, _, z⟩ => exact False.elim z
end
def mAny (i : Nat) : M Am := fun ρ => match ρ[i]? with
  | some (.bor _) => some (.ok (.bor i) ρ)
  | _ => mVal (mVar i) ρ
section
variable {Γ : Ct} {W : WX} {X : Cx} {pos : Pos}
theorem rd_aAny {K : PySem.W.Frag} (i : Nat) : RdA1 Γ K W (tVar i) (mAny i) := fun g Fz H σ ρ Q x q => by
  unfold mAny at q
  split at q
  · rename_i ds e
    exact rd_aBor i g Fz H σ ρ Q x (by unfold mBor; rw [e]; exact q)
  · exact rd_aVal (rd_var i) g Fz H σ ρ Q x q
theorem v_any (i : Nat) {x : Str} (hN : X.N[i]? = some x := by rfl) (hv : Vis X.env.scope x := by first | exact Or.inl rfl | exact Or.inr (Or.inl rfl) | exact Or.inr (Or.inr rfl)) (hd : (x == ("__debug__" : Str)) = false := by decide)
    (hcd : (x == ("__classdict__" : Str)) = false := by decide) : DA1 Γ W X (.Name x pos) (tVar i) (mAny i) := ⟨pe_var hN hv hd hcd, rd_aAny i⟩
end
end L3
namespace L3
open PySem PySem.Spec PyProof.Rows L2
/-- what a clause's suite returns, by what the error keeps -/
def Hdl (Γ : Ct) (K : PySem.W.Frag) (c i : Nat) (ts : Addr → Value → Option Addr → TS) (hd : D → Option D) : Prop := ∀ (g : Gh) (Fz H : Hp) (σ : L2.St) (ρ : Env) (dd : Addr) (v : V) (dv w : D) (a : Addr) (E : Ends),
  g.P dd = none → Fr Γ K (g.more dd (.xd [("at", v)])) Fz H σ ρ → Rep Γ K Fz dv v → hd dv = some w → i < σ.length →
  (∀ u Fz' H', Sub Fz Fz' → Fr Γ K (g.more dd (.xd [("at", v)])) Fz' H' σ ρ → Rep Γ K Fz' w u → E.rt u H') → ts a (.ref (Γ.ad c)) (some dd) E (σ.set i (some (.ref a))) H
def mTry (cs : List Nat) (c i : Nat) (hd : D → Option D) (mb : MS) : MS := fun ρ => match mb ρ with
  | some (.exc c' (some dv) ρ') => if c' ∈ cs then (if c' = c then (if i < ρ'.length then (hd dv).map fun w => .rt w ρ' else none) else some (.exc c' (some dv) ρ')) else none
  | some (.exc _ none _) => none
  | o => o
section
variable {Γ : Ct} {W : WX} {X : Cx} {x n : Str} {c i : Nat} {cs : List Nat} {body suite : List Stmt} {b₀ : Stmt} {np pos pos' : Pos} {ts : Addr → Value → Option Addr → TS} {hd : D → Option D} {mb : MS}
theorem s_try (i : Nat) (ex : ∀ c' ∈ cs, PySem.W.exmOne X.K (.ref (Γ.ad c')) (.ref (Γ.ad c)) = some (decide (c' = c))) (hN : X.N.Nodup) (hc : Names X x (.ref (Γ.ad c))) (tk : Takes X W)
    (hb : ∀ (W' : WX) (pn : List (Addr × Obj)) (xe : Value → Shared → Prop), Takes (X.tr pn xe) W' → PassesOwn (model X.prog X.w) X.A X.env xe → ∃ t, DSs Γ W' (X.tr pn xe) body t mb)
    (hsu : ∀ (a : Addr) (oe : Obj) (cls : Value) (d : Option Addr) (pn : List (Addr × Obj)), Zc cls d oe → (∃ vs, oe.data = .fields vs) → PSs (X.suite a ((a, oe) :: pn)) (b₀ :: suite) (ts a cls d))
    (hdl : Hdl Γ X.K c i ts hd) (hs : X.stack = X.env :: X.outer := by rfl) (hf : X.env.frame = some X.env.locals := by rfl) (hi : X.N[i]? = some n := by rfl) (hln : X.env.kindOf n = some .local := by rfl) :
    DS Γ W X (.Try body [.ExceptHandler (some (.Name x np)) (some n) (b₀ :: suite) pos'] [] [] pos) (tSt X (.Try body [.ExceptHandler (some (.Name x np)) (some n) (b₀ :: suite) pos'] [] [] pos)) (mTry cs c i hd mb) := by
  have ps := ps_try_as (X := X) (i := i) (np := np) (pos := pos) (pos' := pos') (Wout := W) (tb := fun W' D σ H => ∀ pn xe (h1 : Takes (X.tr pn xe) W') (h2 : PassesOwn (model X.prog X.w) X.A X.env xe), (hb W' pn xe h1 h2).choose D σ H) hs hf hN hi hln hc tk
    (fun W' pn xe h1 h2 => ⟨fun pins s σ H D I q => (hb W' pn xe h1 h2).choose_spec.ps.run pins s σ H D I (q pn xe h1 h2)⟩) hsu
  refine (DS.any ⟨ps, fun g Fz H σ ρ E y q => ?_⟩ : DS Γ W X _ _ (mTry cs c i hd mb))
  intro pn xe h1 h2
  refine (hb _ pn xe h1 h2).choose_spec.rd g Fz H σ ρ E y ?_
  have q0 : GoesS Γ X.K W g Fz E (mTry cs c i hd mb ρ) := q
  show GoesS Γ X.K _ g Fz E (mb ρ)
  unfold mTry at q0
  cases e : mb ρ with
  | none => simp only [e] at q0; exact q0
  | some o =>
    cases o with
    | nx ρ' => simp only [e] at q0; exact q0
    | rt d ρ' => simp only [e] at q0; exact q0
    | bk ρ' => simp only [e] at q0; exact q0
    | ct ρ' => simp only [e] at q0; exact q0
    | exc c' od ρ' =>
      cases od with
      | none => simp only [e] at q0; exact q0.elim
      | some dv =>
        simp only [e] at q0
        by_cases hcs : c' ∈ cs
        · rw [if_pos hcs] at q0
          intro σ' dd v Fz' H' s hp fr rep
          refine ⟨decide (c' = c), ex c' hcs, fun hbt a na => ?_, fun hbf => ?_⟩
          · have hcc := of_decide_eq_true hbt
            subst hcc
            rw [if_pos rfl] at q0
            by_cases hl : i < ρ'.length
            · rw [if_pos hl] at q0
              cases eh : hd dv with
              | none => rw [eh] at q0; exact q0.elim
              | some w =>
                rw [eh] at q0
                refine hdl g Fz' H' σ' ρ' dd v dv w a _ hp fr rep eh (by obtain ⟨κ, z⟩ := fr; rw [z.len]; exact hl) fun u Fz2 H2 s2 fr2 r2 => ?_
                obtain ⟨κ, z⟩ := fr2
                exact q0 u σ' Fz2 H2 (s.trans s2) ⟨κ, z.drop0 hp⟩ r2
            · rw [if_neg hl] at q0; exact q0.elim
          · have hcc := of_decide_eq_false hbf
            rw [if_neg hcc] at q0
            exact q0 σ' dd v Fz' H' s hp fr rep
        · rw [if_neg hcs] at q0; exact q0.elim
structure XfF (Γ : Ct) (K : PySem.W.Frag) (c : Nat) : Prop where
  xf : XfC K (Γ.ad c)
  no : PySem.W.findIn K (.ref (Γ.ad c)) "at" = some none
variable {p1 p2 p3 p4 p5 : Pos} {k1 k2 : Nat} {z : Str}
theorem pe_at {a : Addr} {oe : Obj} {d : Option Addr} {cls : Value} {pn : List (Addr × Obj)} (T : XfF Γ X.K c) (hz : Zc cls d oe) (hf : ∃ vs, oe.data = .fields vs) (hi : X.N[i]? = some n) (hv : Vis X.env.scope n) (hd : (n == ("__debug__" : Str)) = false) (hcd : (n == ("__classdict__" : Str)) = false)
    (hb : attributeBase (.Name n p1) "at" X.env (eval (.Name n p1) X.env) = eval (.Name n p1) X.env) : PE (X.suite a ((a, oe) :: pn)) (.Attribute (.Name n p1) "at" p2) (tXf a cls d (Γ.ad c) "at" (tVar i)) :=
  pe_xf (X := X) T.xf T.no hz hf (pe_var (X := X.suite a ((a, oe) :: pn)) hi hv hd hcd) hb
theorem at_go {K : PySem.W.Frag} {σ : L2.St} {H : Hp} {a dd : Addr} {v : V} {Q : VK} (hl : i < σ.length) (h : H dd = some (.xd [("at", v)])) (q : Q v H) : tXf a (.ref (Γ.ad c)) (some dd) (Γ.ad c) "at" (tVar i) (σ.set i (some (.ref a))) H Q :=
  ⟨_, by rw [List.getElem?_set_self hl], rfl, rfl, dd, _, v, rfl, h, by simp, q⟩
/-- return n.at -/
theorem hdl_at {K : PySem.W.Frag} : Hdl Γ K c i (fun a cls d => tRet (tXf a cls d (Γ.ad c) "at" (tVar i))) some := fun g Fz H σ ρ dd v dv w a E hg fr rep hw hl q => by
  cases hw
  obtain ⟨κ, y⟩ := fr
  exact at_go (Γ := Γ) (K := K) hl y.at0.1 (q v Fz H (Sub.refl _) ⟨κ, y⟩ rep)
end
end L3
namespace L3
open PySem PySem.Spec PyProof.Rows L2
abbrev Cl1 := Value × Nat × (Addr → Value → Option Addr → TS)
/-- the ends of a suite whose name is unbound behind it -/
abbrev offAt (i : Nat) (D : Ends) : Ends := { nx := fun σ H => D.nx (σ.set i none) H, rt := D.rt, bk := fun σ H => D.bk (σ.set i none) H, ct := fun σ H => D.ct (σ.set i none) H }
def wCl (K : PySem.W.Frag) (Wout : WX) (D : Ends) : List Cl1 → WX
  | [] => Wout
  | (c, i, ts) :: r => fun cls d σ H => ∃ b, PySem.W.exmOne K cls c = some b ∧ (b = true → ∀ a, H a = none → ts a cls d (offAt i D) (σ.set i (some (.ref a))) H) ∧ (b = false → wCl K Wout D r cls d σ H)
inductive ClOk (X : Cx) : List ExceptHandler → List Cl1 → Prop
  | nil : ClOk X [] []
  | cons {x n : Str} {c : Value} {i : Nat} {ts : Addr → Value → Option Addr → TS} {b₀ : Stmt} {suite : List Stmt} {np pos' : Pos} {hds : List ExceptHandler} {l : List Cl1} (hc : Names X x c) (hi : X.N[i]? = some n) (hln : X.env.kindOf n = some .local)
      (hsu : ∀ (a : Addr) (oe : Obj) (cls : Value) (d : Option Addr) (pn : List (Addr × Obj)), Zc cls d oe → (∃ vs, oe.data = .fields vs) → PSs (X.suite a ((a, oe) :: pn)) (b₀ :: suite) (ts a cls d)) (r : ClOk X hds l) :
      ClOk X (.ExceptHandler (some (.Name x np)) (some n) (b₀ :: suite) pos' :: hds) ((c, i, ts) :: l)
section
variable {X : Cx} {Wout : WX} {D : Ends} {pins : List (Addr × Obj)} {σ0 : L2.St} {H0 : Hp} {sI s' : Shared} {a : Addr} {B h3 : Heap} {cls : Value} {d : Option Addr}
end
section
variable {X : Cx} {body : List Stmt} {h₀ : ExceptHandler} {hds : List ExceptHandler} {l : List Cl1} {pos : Pos} {tb : WX → TS} {Wout : WX}
end
/-- a clause: its class, its name's slot, what its suite returns -/
structure Cd where
  c : Nat
  i : Nat
  hd : D → Option D
def goCl (dv : D) (c' : Nat) (ρ' : Env) : List Cd → Option SO
  | [] => some (.exc c' (some dv) ρ')
  | k :: r => if c' = k.c then (if k.i < ρ'.length then (k.hd dv).map fun w => .rt w ρ' else none) else goCl dv c' ρ' r
def mTryN (cs : List Nat) (ks : List Cd) (mb : MS) : MS := fun ρ => match mb ρ with
  | some (.exc c' (some dv) ρ') => if c' ∈ cs then goCl dv c' ρ' ks else none
  | some (.exc _ none _) => none
  | o => o
inductive ClD (Γ : Ct) (X : Cx) (cs : List Nat) : List ExceptHandler → List Cl1 → List Cd → Prop
  | nil : ClD Γ X cs [] [] []
  | cons {x n : Str} {c i : Nat} {ts : Addr → Value → Option Addr → TS} {b₀ : Stmt} {suite : List Stmt} {np pos' : Pos} {hds : List ExceptHandler} {l : List Cl1} {hd : D → Option D} {ks : List Cd}
      (ex : ∀ c' ∈ cs, PySem.W.exmOne X.K (.ref (Γ.ad c')) (.ref (Γ.ad c)) = some (decide (c' = c))) (hc : Names X x (.ref (Γ.ad c)))
      (hsu : ∀ (a : Addr) (oe : Obj) (cls : Value) (d : Option Addr) (pn : List (Addr × Obj)), Zc cls d oe → (∃ vs, oe.data = .fields vs) → PSs (X.suite a ((a, oe) :: pn)) (b₀ :: suite) (ts a cls d)) (hdl : Hdl Γ X.K c i ts hd)
      (hi : X.N[i]? = some n) (hln : X.env.kindOf n = some .local) (r : ClD Γ X cs hds l ks) :
      ClD Γ X cs (.ExceptHandler (some (.Name x np)) (some n) (b₀ :: suite) pos' :: hds) ((.ref (Γ.ad c), i, ts) :: l) (⟨c, i, hd⟩ :: ks)
section
variable {Γ : Ct} {W : WX} {X : Cx} {cs : List Nat} {body : List Stmt} {h₀ : ExceptHandler} {hds : List ExceptHandler} {l : List Cl1} {ks : List Cd} {pos : Pos} {mb : MS}
theorem ClD.ok : ∀ {hds : List ExceptHandler} {l : List Cl1} {ks : List Cd}, ClD Γ X cs hds l ks → ClOk X hds l
  | _, _, _, .nil => .nil
  | _, _, _, .cons ex hc hsu hdl hi hln r => .cons hc hi hln hsu r.ok
theorem ClD.run {g : Gh} {Fz Fz' H' : Hp} {E : Ends} {c' : Nat} {dv : D} {ρ' : Env} {σ' : L2.St} {dd : Addr} {v : V} (hcs : c' ∈ cs) (s : Sub Fz Fz') (hp : g.P dd = none) (fr : Fr Γ X.K (g.more dd (.xd [("at", v)])) Fz' H' σ' ρ') (rep : Rep Γ X.K Fz' dv v) : ∀ {hds : List ExceptHandler} {l : List Cl1} {ks : List Cd},
    ClD Γ X cs hds l ks → GoesS Γ X.K W g Fz E (goCl dv c' ρ' ks) → wCl X.K W E l (.ref (Γ.ad c')) (some dd) σ' H'
  | _, _, _, .nil, q => q σ' dd v Fz' H' s hp fr rep
  | _, _, _, .cons (c := c) (i := i) (hd := hd) ex hc hsu hdl hi hln r, q => by
    refine ⟨decide (c' = c), ex c' hcs, fun hbt a na => ?_, fun hbf => ?_⟩
    · have e := of_decide_eq_true hbt
      subst e
      simp only [goCl, if_pos] at q
      by_cases hl : i < ρ'.length
      · rw [if_pos hl] at q
        cases eh : hd dv with
        | none => rw [eh] at q; exact q.elim
        | some w =>
          rw [eh] at q
          refine hdl g Fz' H' σ' ρ' dd v dv w a _ hp fr rep eh (by obtain ⟨κ, z⟩ := fr; rw [z.len]; exact hl) fun u Fz2 H2 s2 fr2 r2 => ?_
          obtain ⟨κ, z⟩ := fr2
          exact q u σ' Fz2 H2 (s.trans s2) ⟨κ, z.drop0 hp⟩ r2
      · rw [if_neg hl] at q; exact q.elim
    · have e := of_decide_eq_false hbf
      simp only [goCl, if_neg e] at q
      exact ClD.run hcs s hp fr rep r q
end
end L3
namespace L3
open PySem PySem.Spec PyProof.Rows L2
def shows (p : PyData) : Bool := p.showable && (!p.hasDict && (decide (p.depth ≤ 60) && decide (p.shown.length ≤ sizeLine)))
end L3
namespace L3
open PySem PySem.Spec PyProof.Rows L2
section
variable {Γ : Ct} {W : WX} {X : Cx} {te : TE} {m : M Bv} {e : Expr} {k : Nat} {p1 p2 p3 pos : Pos}
end
end L3
namespace L3
open PySem PySem.Spec PyProof.Rows L2
def wScr (K : PySem.W.Frag) (i0 : Nat) (n : Int) : TI := iSeq K (tSl (rSlL K) (tVar i0) tNoPart (tPart (tC (.int n))))
def mScr (ns : List Int) (n : Int) : M Its := fun ρ => some (.ok (cutD (ns.map D.int) none (some n), []) ρ)
theorem rd_scr {Γ : Ct} {K : PySem.W.Frag} {W : WX} (i0 : Nat) (n : Int) (a : Addr) (ns : List Int) : RdI Γ K W (fun σ H R => (σ[i0]? = some (some (.ref a)) ∧ SqL K H a (ns.map V.int)) → wScr K i0 n σ H R) (mScr ns n) := fun g Fz H σ ρ R x q ⟨h1, h2⟩ => by
  refine ⟨_, h1, n, rfl, a, ns.map V.int, rfl, h2, fun p hp => ?_⟩
  obtain ⟨s, y, r⟩ := x.newL hp ((RepL.ints (Γ := Γ) (K := K) (H := Fz) ns).cut none (some n))
  cases r with
  | lst e1 e2 => exact ⟨p, _, rfl, .inl ⟨SqL.of upd_same, q (Itl K p) g _ _ s Unl.refl y (wk_list (stay_lst (.inl e1) e2))⟩⟩
section
variable {Γ : Ct} {W : WX} {X : Cx} {tg elt : Expr} {ifs : List Expr} {scope : Scope} {f : D → Env → Option Env} {mt : M Bool} {me : M D} {pos spos py p1 p2 p3 p4 : Pos} {y x0 : Str} {vs : List Nat} {k0 : Nat}
/-- cells = [elt for tg in script[:n]] -/
theorem s_scr (i i0 : Nat) (n : Int) (own : List (Str × Nat)) (hN : X.N.Nodup)
    (hg : ∀ (s : Shared) (H : Hp) (C : Addr) (cl : List (Str × Addr)) (fp : List Addr), ∃ t, DG Γ (X.blk s H scope (compEnvC scope cl C X.env) fp) tg t f vs)
    (ht : ∀ (s : Shared) (H : Hp) (C : Addr) (cl : List (Str × Addr)) (fp : List Addr), ∃ t, DTs Γ W0 (X.blk s H scope (compEnvC scope cl C X.env) fp) ifs t mt)
    (he : ∀ (s : Shared) (H : Hp) (C : Addr) (cl : List (Str × Addr)) (fp : List Addr), ∃ t, DE Γ W0 (X.blk s H scope (compEnvC scope cl C X.env) fp) elt t me)
    (hN0 : X.N[i0]? = some x0 := by rfl) (hv0 : Vis X.env.scope x0 := by first | exact Or.inl rfl | exact Or.inr (Or.inl rfl) | exact Or.inr (Or.inr rfl)) (hd0 : (x0 == ("__debug__" : Str)) = false := by decide) (hcd0 : (x0 == ("__classdict__" : Str)) = false := by decide)
    (ok : blkC X.N X.env.scope scope own = true := by rfl) (hv : own.map (·.2) = vs := by rfl) (hc : X.calm = true := by rfl)
    (hy : X.N[i]? = some y := by rfl) (hyl : X.env.scope.names.lookup y = some .local := by rfl)
    (hsw : swapsWith (.ListComp elt [⟨tg, .Subscript (.Name x0 p1) (.Slice none (some (.Constant (.int n) k0 p2)) none p3) p4, ifs, 0⟩] scope pos) (some (.Name y py)) spos.line X.env = pure true := by rfl)
    (hs : ∀ x, foldedSetIterable (.Subscript (.Name x0 p1) (.Slice none (some (.Constant (.int n) k0 p2)) none p3) p4) X.env x = pure x := by intro _; rfl) :
    ∃ t, PS X (.Assign [.Name y py] (.ListComp elt [⟨tg, .Subscript (.Name x0 p1) (.Slice none (some (.Constant (.int n) k0 p2)) none p3) p4, ifs, 0⟩] scope pos) spos) t ∧
      ∀ (g : Gh) (Fz H : Hp) (σ : L2.St) (ρ : Env) (E : Ends) (a : Addr) (ns : List Int), Fr Γ X.K g Fz H σ ρ → σ[i0]? = some (some (.ref a)) → SqL X.K H a (ns.map V.int) → GoesS Γ X.K W g Fz E (mOwn i (mComp vs (mScr ns n) f mt me) ρ) → t E σ H := by
  subst hv
  obtain ⟨gt, hg⟩ := uniG (X := X) (B := fun s H C cl fp => X.blk s H scope (compEnvC scope cl C X.env) fp) (fun _ _ _ _ _ => rfl) hg
  obtain ⟨tt, ht⟩ := uniT (X := X) (B := fun s H C cl fp => X.blk s H scope (compEnvC scope cl C X.env) fp) (fun _ _ _ _ _ => rfl) ht
  obtain ⟨te, he⟩ := uniE (X := X) (B := fun s H C cl fp => X.blk s H scope (compEnvC scope cl C X.env) fp) (fun _ _ _ _ _ => rfl) he
  have s0 : Shared := X.s_0
  have pi : PI X tg (.Subscript (.Name x0 p1) (.Slice none (some (.Constant (.int n) k0 p2)) none p3) p4) (wScr X.K i0 n) := pi_seq (pe_slice sl_list (pe_var hN0 hv0 hd0 hcd0) po_none (po_some pe_int))
  refine ⟨_, ps_setLc (i := i) hc hN hy hyl hsw pi (blkOk_by ok) (fun s H C cl fp => (hg s H C cl fp).pg) (fun s H C cl fp => (ht s H C cl fp).pe) (fun s H C cl fp => (he s H C cl fp).pe) hs, fun g Fz H σ ρ E a ns fr h1 h2 q => ?_⟩
  have z := rd_own (i := i) (rd_comp (W := W) (rd_scr (Γ := Γ) (K := X.K) i0 n a ns) (hg s0 (fun _ => none) 0 [] []).rd (ht s0 (fun _ => none) 0 [] []).rd (he s0 (fun _ => none) 0 [] []).rd) g Fz H σ ρ E fr q
  exact z ⟨h1, h2⟩
end
def mDlR (m : M (List D)) (j : Nat) : Env → Option (List Int × Int) := fun ρ => match m ρ with
  | some (.ok ds ρ1) => (toInts ds).bind fun cs => (fzInt ρ1 j).map fun b => (cs.reverse, b)
  | _ => none
/-- a new deal stands at r, its cells at c -/
def DlAt (kt : Addr → Prop) (P0 H' : Hp) (r c : Addr) (cs : List Int) (b : Int) : Prop := Sub P0 H' ∧ P0 r = none ∧ P0 c = none ∧ r ≠ c ∧ H' r = some (.lst [.ref c, .int b]) ∧ H' c = some (.lst (cs.map V.int)) ∧ ∀ a ps, H' a = some (.tbl ps) → kt a
def RdDlR (Γ : Ct) (K : PySem.W.Frag) (t : TS) (m : Env → Option (List Int × Int)) : Prop := ∀ (g : Gh) (Fz H : Hp) (σ : L2.St) (ρ : Env) (E : Ends), Fr Γ K g Fz H σ ρ → (match m ρ with
  | none => False
  | some (cs, b) => ∀ r c H', Sub Fz H' → DlAt Γ.kt g.P H' r c cs b → E.rt (.ref r) H') → t E σ H
section
variable {Γ : Ct} {K : PySem.W.Frag} {W : WX} {X : Cx} {te : TE} {e : Expr} {y : Str} {k0 : Nat} {p1 p2 p3 p4 p5 p6 pos : Pos}
theorem rd_dlR {m : M (List D)} (j : Nat) (h : RdO Γ K W te m) : RdDlR Γ K (tRet (tLst (tCons (tRevL K te) (tCons (tVar j) tNil)))) (mDlR m j) := fun g Fz H σ ρ E x q => h g Fz H σ ρ _ x (by
  cases e : m ρ with
  | none => simp only [mDlR, e] at q
  | some o =>
    cases o with
    | exc c d ρ1 => simp only [mDlR, e] at q
    | ok ds ρ1 =>
      simp only [mDlR, e] at q
      cases ei : toInts ds with
      | none => simp only [ei] at q; exact q.elim
      | some cs =>
        cases eb : fzInt ρ1 j with
        | none => simp only [ei, eb] at q; exact q.elim
        | some b =>
          simp only [ei, eb] at q
          intro a xs Fz' H' s hg fr r
          rw [toInts_some ei] at r
          have hx : xs = cs.map V.int := r.to_ints
          subst hx
          have h0 : H' a = some (.lst (cs.map V.int)) := by obtain ⟨_, z⟩ := fr; exact z.at0.1
          have sub : Sub g.P H' := fun p o hp => by
            obtain ⟨_, z⟩ := fr
            refine (z.prot p o ?_).1
            show upd g.P a _ p = some o
            rw [upd_ne (fun e => by subst e; rw [hp] at hg; cases hg)]; exact hp
          refine ⟨a, _, rfl, SqL.of h0, fun c hc => ⟨_, fzInt_at fr eb, ?_⟩⟩
          refine ⟨by show 2 ≤ sizeLine; rw [sizeLine_eq]; omega, fun p hp => ?_⟩
          have hpc : p ≠ c := fun e => by subst e; rw [upd_same] at hp; cases hp
          have hp1 : H' p = none := by rw [upd_ne hpc] at hp; exact hp
          refine q p c _ (fun d o hd => ?_) ⟨fun d o hd => ?_, sub.free hp1, sub.free hc, hpc, upd_same, ?_, ?_⟩
          · have hd' := fr.sub d o (s d o hd)
            rw [upd_ne (ne_of_none hd' hp1), upd_ne (ne_of_none hd' hc)]; exact hd'
          · have hd' := sub d o hd
            rw [upd_ne (ne_of_none hd' hp1), upd_ne (ne_of_none hd' hc)]; exact hd'
          · rw [upd_ne (Ne.symm hpc), upd_same, List.map_reverse]
          · intro d ps hd
            by_cases e1 : d = p
            · subst e1; rw [upd_same] at hd; cases hd
            · rw [upd_ne e1] at hd
              by_cases e2 : d = c
              · subst e2; rw [upd_same] at hd; cases hd
              · rw [upd_ne e2] at hd
                obtain ⟨_, z⟩ := fr
                exact z.tups d _ hd)
structure DDlR (Γ : Ct) (X : Cx) (st : Stmt) (t : TS) (m : Env → Option (List Int × Int)) : Prop where
  ps : PS X st t
  rd : RdDlR Γ X.K t m
theorem s_dlR (j : Nat) {m : M (List D)} (h : DO Γ W X e te m) (hN : X.N[j]? = some y := by rfl) (hv : Vis X.env.scope y := by first | exact Or.inl rfl | exact Or.inr (Or.inl rfl) | exact Or.inr (Or.inr rfl)) (hd : (y == ("__debug__" : Str)) = false := by decide) (hcd : (y == ("__classdict__" : Str)) = false := by decide)
    (hs : starEach [.Subscript e (.Slice none none (some (.UnaryOp .USub (.Constant (.int 1) k0 p1) p2)) p3) p4, .Name y p5] X.env = (false, eval (.Subscript e (.Slice none none (some (.UnaryOp .USub (.Constant (.int 1) k0 p1) p2)) p3) p4) X.env) :: starEach [.Name y p5] X.env := by rfl)
    (hs2 : starEach [.Name y p5] X.env = (false, eval (.Name y p5) X.env) :: starEach [] X.env := by rfl) :
    DDlR Γ X (.Return (some (.List [.Subscript e (.Slice none none (some (.UnaryOp .USub (.Constant (.int 1) k0 p1) p2)) p3) p4, .Name y p5] p6)) pos) (tRet (tLst (tCons (tRevL X.K te) (tCons (tVar j) tNil)))) (mDlR m j) :=
  ⟨ps_ret (pe_lst (pa_cons (pe_revL h.pe) (pa_cons (pe_var hN hv hd hcd) pa_nil hs2) hs)), rd_dlR j h.rd⟩
end
def drOf (n : Nat) (c1 : List Int → MS) (mm : MS) (m4 : Env → Option (List Int × Int)) (ns : List Int) (z : Int) : Option (List Int × Int) := match seqS (c1 ns) mm (.emp :: .fz (.int z) :: List.replicate (n - 2) .emp) with
  | some (.nx ρ') => m4 ρ'
  | _ => none
def spDr (kt : Addr → Prop) (K : PySem.W.Frag) (dr : List Int → Int → Option (List Int × Int)) : Sp := fun vs H Q _ => ∃ a ns z, vs = [.ref a, .int z] ∧ SqL K H a (ns.map V.int) ∧ (∀ a ps, H a = some (.tbl ps) → kt a) ∧ (match dr ns z with
  | none => False
  | some (cs, b) => ∀ r c H', DlAt kt H H' r c cs b → Q (.ref r) H')
section
variable {b : Bool} {Γ : Ct} {P : Program} {w : World} {K : PySem.W.Frag} {mg : Str → Option Value} {base : Heap}
/-- the tuples and code objects that stand -/
def tupsOf (H : Hp) : Hp := fun a => match H a with
  | some (.tup xs) => some (.tup xs)
  | some (.ext f) => some (.ext f)
  | _ => none
/-- all but these -/
def restOf (H : Hp) : Hp := fun a => match H a with
  | some (.tup _) => none
  | some (.ext _) => none
  | o => o
theorem tupsOf_some {H : Hp} {a : Addr} {o : HO} (h : tupsOf H a = some o) : H a = some o ∧ ((∃ xs, o = .tup xs) ∨ ∃ f, o = .ext f) := by
  unfold tupsOf at h
  split at h
  · rename_i xs e; cases h; exact ⟨e, .inl ⟨xs, rfl⟩⟩
  · rename_i f e; cases h; exact ⟨e, .inr ⟨f, rfl⟩⟩
  · cases h
theorem tupsOf_ins {H : Hp} {a : Addr} {c dx : Addr} {fs : List (Str × V)} (h : tupsOf H a = some (.ins c dx fs)) : False := by
  obtain ⟨_, ⟨_, z⟩ | ⟨_, z⟩⟩ := tupsOf_some h <;> cases z
theorem tupsOf_tup {H : Hp} {a : Addr} {xs : List V} (h : H a = some (.tup xs)) : tupsOf H a = some (.tup xs) := by
  unfold tupsOf; rw [h]
theorem tupsOf_ext {H : Hp} {a : Addr} {f : Heap → Prop} (h : H a = some (.ext f)) : tupsOf H a = some (.ext f) := by
  unfold tupsOf; rw [h]
theorem tupsOf_ice {H : Hp} (hk : ∀ a ps, H a = some (.tbl ps) → Γ.kt a) (a : Addr) (o : HO) (h : H a = some o) : Ice Γ (tupsOf H) a o := by
  cases o with
  | tup xs => exact tupsOf_tup h
  | ext f => exact tupsOf_ext h
  | tbl ps => exact hk a ps h
  | _ => exact trivial
theorem restOf_some {H : Hp} {a : Addr} {o : HO} (h : restOf H a = some o) : H a = some o ∧ tupsOf H a = none := by
  unfold restOf at h
  unfold tupsOf
  cases q : H a with
  | none => simp only [q] at h; cases h
  | some u => cases u <;> simp only [q] at h ⊢ <;> first | exact ⟨h, trivial⟩ | cases h | exact ⟨h, rfl⟩
theorem cch0 {P H : Hp} {κ : Nat → List Addr} (t : ∀ p ∈ Γ.tb, H p.1 = some (.tbl #[]) ∧ P p.1 = none ∧ ∀ i, p.1 ∉ κ i) : Cch Γ K P (tupsOf H) H κ where
  at_ := fun f b dx fs _ h => by
    exact (tupsOf_ins h).elim
  out := fun a z => by
    rcases z with ⟨_, _, _, _, _, h, _⟩ | z
    · exact (tupsOf_ins h).elim
    · obtain ⟨p, hp, rfl⟩ := List.mem_map.mp z
      obtain ⟨q1, q2, q3⟩ := t p hp
      exact ⟨by unfold tupsOf; rw [q1], q2, q3⟩
  inj := fun f b b' dx dx' fs fs' a _ h => by
    exact (tupsOf_ins h).elim
  tab := fun p hp => ⟨#[], (t p hp).1, trivial, fun pos cv h => by cases h⟩
theorem fr_all {H : Hp} {N : List Str} {a : Addr} {z : Int} (hN : 2 ≤ N.length) (ht : Γ.tb = []) (hk : ∀ a ps, H a = some (.tbl ps) → Γ.kt a) : Fr Γ K ⟨restOf H, fun _ => none, nofun, fun _ => (.non, [])⟩ (tupsOf H) H (L2.start N [.ref a, .int z]) (.emp :: .fz (.int z) :: List.replicate (N.length - 2) .emp) := by
  refine ⟨fun _ => [], fun _ _ h => (tupsOf_some h).1, fun p o h => restOf_some h, by unfold L2.start; simp, fun i s hs => ?_, fun i p e => by simp at e, fun i j p e => by simp at e, cch0 (fun p hp => by rw [ht] at hp; cases hp), tupsOf_ice hk⟩
  match i, hs with
  | 0, hs => cases hs; rfl
  | 1, hs => cases hs; exact ⟨rfl, .int z, rfl, .int⟩
  | i + 2, hs =>
    simp only [List.getElem?_cons_succ, List.getElem?_replicate] at hs
    split at hs
    · cases hs; rfl
    · cases hs
theorem dr_run {t1 t2 t4 : TS} {c1 : List Int → MS} {mm : MS} {m4 : Env → Option (List Int × Int)} {W : WX} {N : List Str} {vs : List V} {H : Hp} {Q : VK} {E : XK} (hN : 2 ≤ N.length) (ht : Γ.tb = [])
    (h1 : ∀ (g : Gh) (Fz H : Hp) (σ : L2.St) (ρ : Env) (E : Ends) (a : Addr) (ns : List Int), Fr Γ K g Fz H σ ρ → σ[0]? = some (some (.ref a)) → SqL K H a (ns.map V.int) → GoesS Γ K W g Fz E (c1 ns ρ) → t1 E σ H)
    (h2 : RdS Γ K W t2 mm) (h4 : RdDlR Γ K t4 m4) (q : spDr Γ.kt K (drOf N.length c1 mm m4) vs H Q E) : tSeq t1 (tSeq t2 t4) { nx := fun _ H' => Q .non H', rt := Q } (L2.start N vs) H := by
  obtain ⟨a, ns, z, rfl, hs, hk, q⟩ := q
  have fr := fr_all (Γ := Γ) (K := K) (H := H) (a := a) (z := z) hN ht hk
  unfold drOf at q
  refine h1 _ _ H _ _ _ a ns fr rfl hs ?_
  cases e1 : c1 ns (.emp :: .fz (.int z) :: List.replicate (N.length - 2) .emp) with
  | none => simp only [seqS, e1] at q
  | some o =>
    cases o with
    | nx ρ1 =>
      rw [seqS_nx e1] at q
      intro σ1 Fz1 H1 s1 x1
      refine h2 _ Fz1 H1 σ1 ρ1 _ x1 ?_
      cases e2 : mm ρ1 with
      | none => simp only [e2] at q
      | some o2 =>
        cases o2 with
        | nx ρ2 =>
          simp only [e2] at q
          intro σ2 Fz2 H2 s2 x2
          refine h4 _ Fz2 H2 σ2 ρ2 _ x2 ?_
          cases e3 : m4 ρ2 with
          | none => simp only [e3] at q
          | some cb =>
            obtain ⟨cs, b⟩ := cb
            simp only [e3] at q
            intro r c H' sF hd
            obtain ⟨d1, d2, d3, d4, d5, d6, d7⟩ := hd
            have subT : ∀ p xs, H p = some (.tup xs) → H' p = some (.tup xs) := fun p xs hp => sF _ _ (s2 _ _ (s1 _ _ (tupsOf_tup hp)))
            have all : Sub H H' := fun p o hp => by
              cases o with
              | tup xs => exact subT p xs hp
              | ext f => exact sF _ _ (s2 _ _ (s1 _ _ (tupsOf_ext hp)))
              | _ => exact d1 p _ (by show restOf H p = _; unfold restOf; rw [hp])
            have new : ∀ p zs, restOf H p = none → H' p = some (.lst zs) → H p = none := fun p zs h1 h2 => by
              cases hp : H p with
              | none => rfl
              | some o =>
                have := all p o hp
                rw [h2] at this
                cases this
                rw [show restOf H p = some (.lst zs) by unfold restOf; rw [hp]] at h1
                cases h1
            exact q r c H' ⟨all, new r _ d2 d5, new c _ d3 d6, d4, d5, d6, d7⟩
        | rt d ρ2 => simp only [e2] at q
        | bk ρ2 => simp only [e2] at q
        | ct ρ2 => simp only [e2] at q
        | exc c d ρ2 => simp only [e2] at q
    | rt d ρ1 => simp only [seqS, e1] at q
    | bk ρ1 => simp only [seqS, e1] at q
    | ct ρ1 => simp only [seqS, e1] at q
    | exc c d ρ1 => simp only [seqS, e1] at q
end
end L3
namespace L3
open PySem PySem.Spec PyProof.Rows L2
section
variable {b : Bool} {Γ : Ct} {P : Program} {w : World} {K : PySem.W.Frag} {mg : Str → Option Value} {base : Heap}
/-- a def by a reading of its body and a promise of any form -/
theorem fnS_ofC {x qual : Str} {st : Stmt} {f : Addr} {fd : FuncData} {N ps : List Str} {k : Nat} {sp : Sp} (F : Fun K x qual st f fd) (S : FnScope N ps (defScope st)) (len : ∀ vs H Q E, sp vs H Q E → vs.length = ps.length)
    (hbody : ∀ (cdv : Value), fd.code = cdv → ∀ (A : Around) (outer : List PySem.Env) (s : Shared) (H : Hp) (vs : List V) (Q : VK) (E : XK), Rm b k (A.deeper (envOfC qual (defScope st) s.heap.objs.size f cdv)) → sp vs H Q E →
      ∃ t, PSs (cxOf (L2.CX P w) P w K mg base N qual (defScope st) f cdv A outer s H E) (defBody st) t ∧ t { nx := fun _ H' => Q .non H', rt := Q } (L2.start N vs) H) : FnB b P w K mg base (k + 1) f fd ps sp := by
  obtain ⟨oc, od, kV, doc, pm, an, cdv, ct, osl, rfl, lk, hcd⟩ := F.ex
  refine ⟨len, fun A outer s H args us vs Q E r0 e0 bind rv prom => ?_⟩
  have inHeap : K.In s.heap := e0.mod.kin.keeps fun a o z => (e0.bs a o z).1
  have noLim : s.heap.NoLimit := e0.mod.nolimit.keeps fun a o z => (e0.bs a o z).1
  have kinds : ∀ y ∈ ps.zip us, (defScope st).names.lookup y.1 = some .local ∨ ((defScope st).names.lookup y.1 = some .cell ∧ ((cellsFrom (s.heap.objs.size + 1) (defScope st).names []).lookup y.1).isSome = true) := fun y hy =>
    (S.par y.1 (List.of_mem_zip (a := y.1) (b := y.2) hy).1).imp id fun q => ⟨q, PySem.W.cellsFrom_some _ _ _ (.inl q)⟩
  refine codeAny_call_function r0.rm.depth (inHeap _ _ lk) rfl S.co S.gen rfl (PySem.W.codeRec_of inHeap hcd) (bind _ _ _ _ (wpAny_newFunctionEnv_cells S.kind kinds fun env he s1 ic => ?_))
  subst he
  obtain ⟨t, D, run⟩ := hbody cdv rfl A outer s H vs Q E (r0.deeper _) prom
  have start : Inv (cxOf (L2.CX P w) P w K mg base N qual (defScope st) f cdv A outer s H E) [] (L2.start N vs) H s1 := inv_start S r0.rm.hd e0 (len _ _ _ _ prom) rv ic
  refine ⟨noLim.keeps ic.toInCall.keep, codeAny_func (wpAny_mono (D.run [] s1 _ H _ start run) (fun fl s' z => ?_) fun e s' z => z)⟩
  match fl, z with
  | .ret u, ⟨v, σ', H', J, rel, z⟩ => exact ⟨v, H', J.os, J.bare, J.base, J.hok, rel, z⟩
  | .next, ⟨σ', H', J, z⟩ => exact ⟨.non, H', J.os, J.bare, J.base, J.hok, rfl, z⟩
  | .brk, ⟨_, _, _, z⟩ => exact False.elim z
  | .cont, ⟨_, _, _, z⟩ => exact False.elim z
theorem fnDr_of {x qual : Str} {st : Stmt} {f : Addr} {fd : FuncData} {N ps : List Str} {k : Nat} {c1 : List Int → MS} {mm : MS} {m4 : Env → Option (List Int × Int)} (F : Fun K x qual st f fd) (S : FnScope N ps (defScope st)) (hps : ps.length = 2) (hN : 2 ≤ N.length) (ht : Γ.tb = [])
    (hbody : ∀ (cdv : Value) (A : Around) (outer : List PySem.Env) (s : Shared) (H : Hp) (E : XK), Rm b k (A.deeper (envOfC qual (defScope st) s.heap.objs.size f cdv)) →
      ∃ t1 t2 t4, PSs (cxOf (L2.CX P w) P w K mg base N qual (defScope st) f cdv A outer s H E) (defBody st) (tSeq t1 (tSeq t2 t4)) ∧
        (∀ (g : Gh) (Fz H : Hp) (σ : L2.St) (ρ : Env) (E : Ends) (a : Addr) (ns : List Int), Fr Γ K g Fz H σ ρ → σ[0]? = some (some (.ref a)) → SqL K H a (ns.map V.int) → GoesS Γ K W0 g Fz E (c1 ns ρ) → t1 E σ H) ∧ RdS Γ K W0 t2 mm ∧ RdDlR Γ K t4 m4) :
    FnB b P w K mg base (k + 1) f fd ps (spDr Γ.kt K (drOf N.length c1 mm m4)) := by
  refine fnS_ofC F S (fun vs H Q E h => by obtain ⟨a, ns, z, rfl, _⟩ := h; exact hps.symm) fun cdv _ A outer s H vs Q E hr prom => ?_
  obtain ⟨t1, t2, t4, ps, h1, h2, h4⟩ := hbody cdv A outer s H E hr
  exact ⟨_, ps, dr_run (E := E) hN ht h1 h2 h4 prom⟩
def CallD (kt : Addr → Prop) (b : Bool) (P : Program) (w : World) (K : PySem.W.Frag) (mg : Str → Option Value) (base : Heap) (k : Nat) (x : Str) (ps : List Str) (dr : List Int → Int → Option (List Int × Int)) : Prop :=
  ∃ f fd, FnB b P w K mg base k f fd ps (spDr kt K dr) ∧ mg x = some (.ref f) ∧ PySem.W.keepIn K (.ref f) = true ∧ Binds K fd ps []
/-- what a law computes of its script -/
def lawOf (n i : Nat) (dr : List Int → Int → Option (List Int × Int)) (salt : Int) (m : MS) (ns : List Int) : Bool := match dr ns salt with
  | none => false
  | some (cs, b) => match m ((.emp :: List.replicate (n - 1) .emp).set i (.own (.deal cs b))) with
    | some (.rt (.bl true) _) => true
    | _ => false
def spLw (K : PySem.W.Frag) (law : List Int → Bool) : Sp := fun vs H Q _ => ∃ a ns, vs = [.ref a] ∧ SqL K H a (ns.map V.int) ∧ law ns = true ∧ ∀ H', Q (.bl true) H'
/-- the same for a law whose walk makes code objects: their tables stand empty at first -/
def spLwT (tb : List (Addr × Str)) (kt : Addr → Prop) (K : PySem.W.Frag) (law : List Int → Bool) : Sp := fun vs H Q E => (∀ p ∈ tb, H p.1 = some (.tbl #[])) ∧ (∀ a ps, H a = some (.tbl ps) → kt a) ∧ spLw K law vs H Q E
theorem fr_law {H H' : Hp} {N : List Str} {a r c : Addr} {i : Nat} {cs : List Int} {bb : Int} (ht : ∀ p ∈ Γ.tb, H p.1 = some (.tbl #[])) (hi : i < N.length) (h : DlAt Γ.kt H H' r c cs bb) :
    Fr Γ K ⟨fun _ => none, fun _ => none, nofun, fun _ => (.non, [])⟩ (tupsOf H') H' ((L2.start N [.ref a]).set i (some (.ref r))) ((.emp :: List.replicate (N.length - 1) .emp).set i (.own (.deal cs bb))) := by
  obtain ⟨h1, h2, h3, h4, h5, h6, hk⟩ := h
  have tb : ∀ p ∈ Γ.tb, H' p.1 = some (.tbl #[]) ∧ (fun _ => none : Hp) p.1 = none ∧ ∀ j, p.1 ∉ (if j = i then [r, c] else []) := fun p hp => by
    have q := ht p hp
    refine ⟨h1 _ _ q, rfl, fun j z => ?_⟩
    by_cases e : j = i
    · rw [if_pos e] at z
      rcases List.mem_cons.mp z with e | z
      · rw [e, h2] at q; cases q
      · rw [List.mem_singleton] at z; rw [z, h3] at q; cases q
    · rw [if_neg e] at z; cases z
  refine ⟨fun j => if j = i then [r, c] else [], fun _ _ h => (tupsOf_some h).1, nofun, by unfold L2.start; simp, fun j s hs => ?_, fun j p hp => ?_, fun j l p hj hl => ?_, cch0 tb, tupsOf_ice hk⟩
  · by_cases e : j = i
    · subst e
      rw [List.getElem?_set_self (by simp; omega)] at hs
      cases hs
      refine ⟨.ref r, by rw [List.getElem?_set_self (by unfold L2.start; simp; omega)], r, c, if_pos rfl, h4, rfl, h5, h6⟩
    · rw [List.getElem?_set_ne (fun z => e z.symm)] at hs
      have : s = .emp := by
        match j, hs with
        | 0, hs => cases hs; rfl
        | j + 1, hs =>
          simp only [List.getElem?_cons_succ, List.getElem?_replicate] at hs
          split at hs
          · cases hs; rfl
          · cases hs
      subst this
      exact if_neg e
  · by_cases e : j = i
    · simp only [if_pos e] at hp
      have nt : ∀ q zs, H' q = some (.lst zs) → tupsOf H' q = none := fun q zs e => by unfold tupsOf; rw [e]
      rcases List.mem_cons.mp hp with rfl | hp
      · exact ⟨by simp; omega, nt _ _ h5, rfl, _, h5⟩
      · rw [List.mem_singleton] at hp; subst hp; exact ⟨by simp; omega, nt _ _ h6, rfl, _, h6⟩
    · simp only [if_neg e] at hp; cases hp
  · by_cases e : j = i
    · by_cases e2 : l = i
      · rw [e, e2]
      · simp only [if_neg e2] at hl; cases hl
    · simp only [if_neg e] at hj; cases hj
/-- deal = draw(script, salt) -/
theorem ps_draw {X : Cx} {kt : Addr → Prop} {k j : Nat} {ps : List Str} {dr : List Int → Int → Option (List Int × Int)} {i : Nat} {x x0 y : Str} {p p1 p2 pos spos py : Pos} {k0 : Nat} {salt : Int} (C : CallD kt b X.prog X.w X.K X.mg X.base k x ps dr) (hr : Rm b j X.A) (hN : X.N.Nodup) (hk : k ≤ j := by decide) (hps : ps.length = 2 := by rfl)
    (hg : Gl X x := by rfl) (hdb : (x == ("__debug__" : Str)) = false := by decide) (hN0 : X.N[0]? = some x0 := by rfl) (hv0 : Vis X.env.scope x0 := by first | exact Or.inl rfl | exact Or.inr (Or.inl rfl) | exact Or.inr (Or.inr rfl)) (hd0 : (x0 == ("__debug__" : Str)) = false := by decide) (hcd0 : (x0 == ("__classdict__" : Str)) = false := by decide)
    (he : starEach [.Name x0 p1, .Constant (.int salt) k0 p2] X.env = (false, eval (.Name x0 p1) X.env) :: starEach [.Constant (.int salt) k0 p2] X.env := by rfl) (he2 : starEach [.Constant (.int salt) k0 p2] X.env = (false, eval (.Constant (.int salt) k0 p2) X.env) :: starEach [] X.env := by rfl) (hpl : (backTo pos (starEach [.Constant (.int salt) k0 p2] X.env)).any (·.1) = false := by rfl)
    (hi : X.N[i]? = some y := by rfl) (hy : Loc X.env.scope y := by first | exact Or.inl rfl | exact Or.inr rfl) (hs : swapsWith (.Call (.Name x p) [.Name x0 p1, .Constant (.int salt) k0 p2] [] pos) (some (.Name y py)) spos.line X.env = pure false := by rfl)
    (hf : X.fn y = true ∨ X.env.scope.names.lookup y = some .local := by first | exact .inl rfl | exact .inr rfl) :
    PS X (.Assign [.Name y py] (.Call (.Name x p) [.Name x0 p1, .Constant (.int salt) k0 p2] [] pos) spos) (fun D σ H => ∃ v, σ[0]? = some (some v) ∧ spDr kt X.K dr [v, .int salt] H (fun z H' => D.nx (σ.set i (some z)) H') fun _ _ _ => False) := by
  obtain ⟨f, fd, F, hm, kp, hb⟩ := C
  have pe : PE X (.Call (.Name x p) [.Name x0 p1, .Constant (.int salt) k0 p2] [] pos) (tCallS (spDr kt X.K dr) (fun _ => E0) (tCons (tVar 0) (tCons (tC (.int salt)) tNil))) := by
    refine ⟨fun pins s σ H Q I prom => wpAny_Call_Name_kw (ld_glob I hg hm ?_ hdb)⟩
    refine PySem.W.callWith_K (h₀ := X.base) I.ok.mod.kin kp (thn ((pa_cons (pe_var hN0 hv0 hd0 hcd0) (pa_cons pe_int pa_nil he2) he).run pos pins s σ H _ I prom) fun us s1 z => ?_) he hpl
    obtain ⟨vs, H1, I1, rel, prom1⟩ := z
    have hl : (us ++ []).length = ps.length := by rw [List.append_nil, ← rel.length]; exact F.len _ _ _ _ prom1
    have bd := hb s1 us I1.kIn hl
    rw [List.append_nil] at bd
    refine ⟨I1.kIn, wpAny_call (codeAny_mono (run_B (E := fun _ => E0) F (hr.mono hk) bd (fun _ _ _ _ _ _ z => (by obtain ⟨_, _, _, _, _, _, _, _, _, _, _, _, q⟩ := z; exact q.elim)) I1 rel prom1) fun o s' z => ?_)⟩
    match o, z with
    | .error e, z => exact z
    | .ok (.ret u), z => exact z
  exact ⟨fun pins s σ H D I ⟨v, h1, h2⟩ => (ps_set hN hi hy pe hs hf).run pins s σ H D I ⟨v, h1, h2⟩⟩
theorem fnLwT_ofC {x qual : Str} {st : Stmt} {f : Addr} {fd : FuncData} {N ps : List Str} {k i : Nat} {dr : List Int → Int → Option (List Int × Int)} {salt : Int} {m : MS} (F : Fun K x qual st f fd) (S : FnScope N ps (defScope st)) (hps : ps.length = 1) (hi : i < N.length)
    (hbody : ∀ (cdv : Value), fd.code = cdv → ∀ (A : Around) (outer : List PySem.Env) (s : Shared) (H : Hp) (E : XK), Rm b k (A.deeper (envOfC qual (defScope st) s.heap.objs.size f cdv)) →
      ∃ t, PSs (cxOf (L2.CX P w) P w K mg base N qual (defScope st) f cdv A outer s H E) (defBody st) (tSeq (fun D σ H => ∃ v, σ[0]? = some (some v) ∧ spDr Γ.kt K dr [v, .int salt] H (fun z H' => D.nx (σ.set i (some z)) H') fun _ _ _ => False) t) ∧ RdS Γ K W0 t m) :
    FnB b P w K mg base (k + 1) f fd ps (spLwT Γ.tb Γ.kt K (lawOf N.length i dr salt m)) := by
  refine fnS_ofC F S (fun vs H Q E h => by obtain ⟨_, _, a, ns, rfl, _⟩ := h; exact hps.symm) fun cdv hcv A outer s H vs Q E hr prom => ?_
  obtain ⟨t, ps, h⟩ := hbody cdv hcv A outer s H E hr
  obtain ⟨ht, hk, a, ns, rfl, hs, hl, q⟩ := prom
  refine ⟨_, ps, .ref a, rfl, a, ns, salt, rfl, hs, hk, ?_⟩
  unfold lawOf at hl
  cases e : dr ns salt with
  | none => simp only [e] at hl; cases hl
  | some cb =>
    obtain ⟨cs, bb⟩ := cb
    simp only [e] at hl
    intro r c H' hd
    refine h _ _ H' _ _ _ (fr_law (Γ := Γ) (a := a) ht hi hd) ?_
    cases e2 : m ((.emp :: List.replicate (N.length - 1) .emp).set i (.own (.deal cs bb))) with
    | none => simp only [e2] at hl; cases hl
    | some o =>
      simp only [e2] at hl
      split at hl
      · rename_i ρ' heq
        cases heq
        intro v σ' Fz' H2 s2 y r2
        cases r2
        exact q H2
      · cases hl
theorem fnLw_of {x qual : Str} {st : Stmt} {f : Addr} {fd : FuncData} {N ps : List Str} {k i : Nat} {dr : List Int → Int → Option (List Int × Int)} {salt : Int} {m : MS} (F : Fun K x qual st f fd) (S : FnScope N ps (defScope st)) (hps : ps.length = 1) (hi : i < N.length) (ht : Γ.tb = [] ∧ ∀ a, Γ.kt a)
    (hbody : ∀ (cdv : Value) (A : Around) (outer : List PySem.Env) (s : Shared) (H : Hp) (E : XK), Rm b k (A.deeper (envOfC qual (defScope st) s.heap.objs.size f cdv)) →
      ∃ t, PSs (cxOf (L2.CX P w) P w K mg base N qual (defScope st) f cdv A outer s H E) (defBody st) (tSeq (fun D σ H => ∃ v, σ[0]? = some (some v) ∧ spDr Γ.kt K dr [v, .int salt] H (fun z H' => D.nx (σ.set i (some z)) H') fun _ _ _ => False) t) ∧ RdS Γ K W0 t m) :
    FnB b P w K mg base (k + 1) f fd ps (spLw K (lawOf N.length i dr salt m)) := by
  have z := fnLwT_ofC (Γ := Γ) F S hps hi fun cdv _ => hbody cdv
  rw [ht.1] at z
  exact ⟨fun vs H Q E h => z.len vs H Q E ⟨nofun, fun a _ _ => ht.2 a, h⟩, fun A outer s H args us vs Q E r e bd rel h => z.run A outer s H args us vs Q E r e bd rel ⟨nofun, fun a _ _ => ht.2 a, h⟩⟩
end
end L3
namespace L3
open PySem PySem.Spec PyProof.Rows L2
theorem dr_body {Γ : Ct} {X : Cx} {st1 st2 st3 st4 : Stmt} {t2 t3 t4 : TS} {c1 : List Int → MS} {m2 m3 : MS} {m4 : Env → Option (List Int × Int)}
    (S1 : ∃ t, PS X st1 t ∧ ∀ (g : Gh) (Fz H : Hp) (σ : L2.St) (ρ : Env) (E : Ends) (a : Addr) (ns : List Int), Fr Γ X.K g Fz H σ ρ → σ[0]? = some (some (.ref a)) → SqL X.K H a (ns.map V.int) → GoesS Γ X.K W0 g Fz E (c1 ns ρ) → t E σ H)
    (S2 : DS Γ W0 X st2 t2 m2) (S3 : DS Γ W0 X st3 t3 m3) (S4 : DDlR Γ X st4 t4 m4) : ∃ t1 t2 t4, PSs X [st1, st2, st3, st4] (tSeq t1 (tSeq t2 t4)) ∧
      (∀ (g : Gh) (Fz H : Hp) (σ : L2.St) (ρ : Env) (E : Ends) (a : Addr) (ns : List Int), Fr Γ X.K g Fz H σ ρ → σ[0]? = some (some (.ref a)) → SqL X.K H a (ns.map V.int) → GoesS Γ X.K W0 g Fz E (c1 ns ρ) → t1 E σ H) ∧ RdS Γ X.K W0 t2 (seqS m2 m3) ∧ RdDlR Γ X.K t4 m4 := by
  obtain ⟨t1, p1, h1⟩ := S1
  exact ⟨t1, tSeq t2 t3, t4, (show PSs X [st1, st2, st3, st4] (tSeq t1 (tSeq t2 (tSeq t3 t4))) from pss_cons p1 (pss_cons S2.ps (pss_cons S3.ps (pss_one S4.ps)))), h1, rd_seqS S2.rd S3.rd, S4.rd⟩
theorem lw_body {Γ : Ct} {X : Cx} {st1 : Stmt} {sts : List Stmt} {t1 t : TS} {m : MS} (S1 : PS X st1 t1) (h : DSs Γ W0 X sts t m) : ∃ t, PSs X (st1 :: sts) (tSeq t1 t) ∧ RdS Γ X.K W0 t m := ⟨t, pss_cons S1 h.ps, h.rd⟩
end L3
namespace L3
open PySem PySem.Spec PyProof.Rows L2 PySem.SeqAt
open AutoSeq1 (wpAny_loadPart')
open MeetsSeq MeetsSeq2 MeetsSeq3 SeqRoads2
section
variable {X : Cx}
end
def repOkB (n : Nat) (k : Int) : Bool := decide (0 ≤ k ∧ k ≤ 1000 ∧ n ≤ 1000)
theorem repOk_sz {n : Nat} {k : Int} (h : repOkB n k = true) : -(2 ^ 63) ≤ k ∧ k < 2 ^ 63 ∧ n * k.toNat ≤ sizeLine := by
  unfold repOkB at h
  obtain ⟨h1, h2, h3⟩ := of_decide_eq_true h
  have : n * k.toNat ≤ 1000 * 1000 := Nat.mul_le_mul h3 (by omega)
  exact ⟨by omega, by omega, by rw [sizeLine_eq]; omega⟩
def fRepL : D → D → Option (List D)
  | .lst ds, .int k => if repOkB ds.length k = true then some (List.replicate k.toNat ds).flatten else none
  | _, _ => none
section
variable {Γ : Ct} {K : PySem.W.Frag} {H : Hp}
theorem RepL.rep {ds : List D} {xs : List V} (r : RepL Γ K H ds xs) : ∀ n : Nat, RepL Γ K H (List.replicate n ds).flatten (List.replicate n xs).flatten
  | 0 => .nil
  | n + 1 => by
    rw [List.replicate_succ, List.replicate_succ, List.flatten_cons, List.flatten_cons]
    exact r.app (RepL.rep r n)
theorem opo_repL : OpO Γ K rRep fRepL := fun g Fz H σ ρ d e x y z Q fr rx ry hz k => by
  match d, e, hz with
  | .lst ds, .int n, hz =>
    simp only [fRepL] at hz
    by_cases c : repOkB ds.length n = true
    · rw [if_pos c] at hz
      cases hz
      obtain ⟨c1, c2, c3⟩ := repOk_sz c
      obtain ⟨a, xs, rfl, h1, r1⟩ := rx.lst fr.sub
      rw [ry.int]
      refine ⟨a, n, xs, rfl, rfl, h1, c1, c2, by rw [← r1.len]; exact c3, fun p hp => ?_⟩
      obtain ⟨hg, fr'⟩ := fr.fresh (xs := (List.replicate n.toNat xs).flatten) hp
      exact k p _ Fz _ (Sub.refl _) hg fr' (r1.rep n.toNat)
    · rw [if_neg c] at hz; cases hz
end
section
variable {Γ : Ct} {W : WX} {X : Cx} {a b : Expr} {pos : Pos} {ta tb : TE} {ma mb : M Bv}
theorem o_rep (ha : DB Γ W X a ta ma) (hb : DB Γ W X b tb mb) : DO Γ W X (.BinOp a .Mult b pos) (tOp rRep ta tb) (mOpO fRepL ma mb) := do_op op_rep opo_repL ha hb
end
end L3
namespace L3
open PySem PySem.Spec PyProof.Rows L2
def k1Of : D → Option L2.Key
  | .int i => some (.inl i)
  | .str s => some (.inr s)
  | _ => none
def ksOf : List D → Option (List L2.Key)
  | [] => some []
  | d :: ds => (k1Of d).bind fun k => (ksOf ds).map fun ks => k :: ks
/-- a key: of a dict with tuples as keys (true), with ints and texts -/
def keyOf : Bool → D → Option (L2.Key ⊕ List L2.Key)
  | true, .tup ds => (ksOf ds).map .inr
  | false, .int i => some (.inl (.inl i))
  | false, .str s => some (.inl (.inr s))
  | _, _ => none
section
variable {Γ : Ct} {K : PySem.W.Frag} {H : Hp}
end
/-- the same key -/
def keyEq (t : Bool) (a b : D) : Bool := match keyOf t a, keyOf t b with
  | some x, some y => decide (x = y)
  | _, _ => false
/-- what stands under a key -/
def dFind (t : Bool) : List D → List D → D → Option D
  | k :: ks, v :: vs, x => if keyEq t k x = true then some v else dFind t ks vs x
  | _, _, _ => none
/-- stored under a key -/
def dPutV (t : Bool) : List D → List D → D → D → List D
  | k :: ks, v :: vs, x, y => (if keyEq t k x = true then y else v) :: dPutV t ks vs x y
  | _, _, _, _ => []
def dPut (t : Bool) (ks vs : List D) (x y : D) : List D × List D := if ks.any (fun k => keyEq t k x) = true then (ks, dPutV t ks vs x y) else (ks ++ [x], vs ++ [y])
section
variable {Γ : Ct} {K : PySem.W.Frag} {H : Hp}
end
section
variable {Γ : Ct} {K : PySem.W.Frag}
end
section
variable {Γ : Ct} {K : PySem.W.Frag} {W : WX} {td ty tx : TE}
/-- a kept dict (get) -/
def mDGet1 (ma : M D) (mb : M Bv) : M D := ma.bind fun d => match d with
  | .dic t ks vs => mb.bind fun b => fun ρ => match deref ρ b with
    | some e => if (keyOf t e).isSome = true then some (.ok ((dFind t ks vs e).getD .non) ρ) else none
    | none => none
  | _ => fun _ => none
def mDGet2 (ma : M D) (mb : M Bv) (mc : M D) : M D := ma.bind fun d => match d with
  | .dic t ks vs => mb.bind fun b => mc.bind fun z => fun ρ => match deref ρ b with
    | some e => if (keyOf t e).isSome = true then some (.ok ((dFind t ks vs e).getD z) ρ) else none
    | none => none
  | _ => fun _ => none
end
section
variable {Γ : Ct} {W : WX} {X : Cx} {o e f : Expr} {td ty tx : TE} {pos apos cpos : Pos} {b : Bool} {k : Nat}
end
def slotDic : Slot → Option (Bool × List D × List D)
  | .own (.dic t ks vs) => some (t, ks, vs)
  | .io (.dic t ks vs) => some (t, ks, vs)
  | _ => none
def slotPutD (s : Slot) (t : Bool) (ks vs : List D) : Slot := match s with
  | .own _ => .own (.dic t ks vs)
  | .io _ => .io (.dic t ks vs)
  | s => s
section
variable {Γ : Ct} {K : PySem.W.Frag} {W : WX} {g : Gh} {Fz H : Hp} {σ : L2.St} {ρ : Env} {κ : Nat → List Addr} {tv ty te : TE}
/-- d[x] = y, d in the i-th slot -/
def dicAt (ρ : Env) (i : Nat) : Option (Bool × List D × List D) := (ρ[i]?).bind slotDic
def putD (ρ : Env) (i : Nat) (t : Bool) (ks vs : List D) : Env := ρ.set i (slotPutD (ρ[i]?.getD .emp) t ks vs)
def mDPut (i : Nat) (mk : M Bv) (mv : M D) : MS := thenS mv fun y ρ1 => match dicAt ρ1 i with
  | none => none
  | some _ => thenS mk (fun b => fun ρ => match dicAt ρ i, deref ρ b with
    | some (t, ks, vs), some e => if (keyOf t e).isSome = true ∧ ks.length < sizeLine then some (.nx (putD ρ i t (dPut t ks vs e y).1 (dPut t ks vs e y).2)) else none
    | _, _ => none) ρ1
end
section
variable {Γ : Ct} {W : WX} {X : Cx} {e v : Expr} {tv ty : TE} {pos pos' p : Pos}
end
/-- what is made: its kind, its keys, its values -/
abbrev Dn := Bool × List D × List D
def GoesN (Γ : Ct) (K : PySem.W.Frag) (W : WX) (g : Gh) (Fz : Hp) (σ : L2.St) (r : Option (Out Dn)) (Q : V → Hp → Prop) : Prop := match r with
  | none => False
  | some (.ok z ρ') => ∀ a o Fz' H', Sub Fz Fz' → g.P a = none → Fr Γ K (g.more a o) Fz' H' σ ρ' → DicAt Γ K Fz' z.2.1 z.2.2 o z.1 → Q (.ref a) H'
  | some (.exc c d ρ') => ExGo Γ K W g Fz σ c ρ' d
def RdN (Γ : Ct) (K : PySem.W.Frag) (W : WX) (t : TE) (m : M Dn) : Prop := ∀ g Fz H σ ρ Q, Fr Γ K g Fz H σ ρ → GoesN Γ K W g Fz σ (m ρ) Q → t σ H Q
structure DN (Γ : Ct) (W : WX) (X : Cx) (e : Expr) (t : TE) (m : M Dn) : Prop where
  pe : PE X e t
  rd : RdN Γ X.K W t m
def mDNew (t : Bool) : M Dn := M.ret (t, [], [])
section
variable {Γ : Ct} {K : PySem.W.Frag} {W : WX} {X : Cx} {pos : Pos} {g : Gh} {Fz H : Hp} {σ : L2.St} {ρ : Env}
/-- a slot gets the new dict -/
theorem Fr.setOwnD {i : Nat} {t : Bool} {ks vs : List D} {o : HO} {a : Addr} (hi : i < ρ.length) (hg : g.P a = none) (x : Fr Γ K (g.more a o) Fz H σ ρ) (r : DicAt Γ K Fz ks vs o t) : Fr Γ K g Fz H (σ.set i (some (.ref a))) (ρ.set i (.own (.dic t ks vs))) := by
  obtain ⟨κ, x⟩ := x
  have h0 := x.at0
  have hna : ∀ j, a ∉ κ j := fun j ha => by
    have z : (upd g.P a o) a = none := (x.fresh j a ha).2.2.1
    rw [upd_same] at z; cases z
  have y := x.drop0 hg
  refine ⟨fun j => if j = i then [a] else κ j, ⟨y.sub, y.prot, by rw [List.length_set, List.length_set]; exact y.len, fun j s hs => ?_, fun j b hb => ?_, fun j l b hj hl => ?_, x.cch.go (Sub.refl _) (fun _ _ _ e => e) (fun b kvs hl q1 q2 q3 q4 => ?_), y.tups⟩⟩
  · by_cases e : j = i
    · subst e
      simp only [if_pos trivial]
      rw [List.getElem?_set_self hi] at hs
      cases hs
      exact ⟨.ref a, by rw [List.getElem?_set_self (by rw [y.len]; exact hi)], a, o, rfl, rfl, h0.1, r⟩
    · rw [List.getElem?_set_ne (fun z => e z.symm)] at hs ⊢
      simp only [if_neg e]
      exact y.slot j s hs
  · by_cases e : j = i
    · simp only [if_pos e, List.mem_singleton] at hb
      subst hb
      exact ⟨by rw [List.length_set, e]; exact hi, h0.2, hg, _, h0.1⟩
    · simp only [if_neg e] at hb
      obtain ⟨q0, q1⟩ := y.fresh j b hb
      exact ⟨by rw [List.length_set]; exact q0, q1⟩
  · by_cases e : j = i
    · simp only [if_pos e, List.mem_singleton] at hj
      subst hj
      by_cases e2 : l = i
      · rw [e, e2]
      · simp only [if_neg e2] at hl; exact absurd hl (hna l)
    · simp only [if_neg e] at hj
      by_cases e2 : l = i
      · simp only [if_pos e2, List.mem_singleton] at hl
        subst hl
        exact absurd hj (hna j)
      · simp only [if_neg e2] at hl
        exact y.disj j l b hj hl
  · have q3' : upd g.P a o b = none := q3
    have hba : b ≠ a := fun z => by subst z; rw [upd_same] at q3'; cases q3'
    rw [upd_ne hba] at q3'
    refine ⟨q1, q2, q3', fun j hj => ?_⟩
    by_cases e : j = i
    · simp only [if_pos e, List.mem_singleton] at hj; exact hba hj
    · simp only [if_neg e] at hj; exact q4 j hj
def mDisp1T (mk mv : M D) : M Dn := mk.bind fun d => mv.bind fun e => fun ρ => if (keyOf true d).isSome = true then some (.ok (true, [d], [e]) ρ) else none
end
/-- x = {..}, the frame's own -/
def mOwnD (i : Nat) (m : M Dn) : MS := thenS m fun z ρ => if i < ρ.length then some (.nx (ρ.set i (.own (.dic z.1 z.2.1 z.2.2)))) else none
section
variable {Γ : Ct} {K : PySem.W.Frag} {W : WX} {g : Gh} {Fz H : Hp} {σ : L2.St} {ρ : Env} {E : Ends} {te : TE}
end
end L3
namespace L3
open PySem PySem.Spec PyProof.Rows L2
def mVarD (i : Nat) : M D := fun ρ => match ρ[i]? with
  | some (.fz d) => some (.ok d ρ)
  | some (.own (.dic t ks vs)) => some (.ok (.dic t ks vs) (ρ.set i (.fz (.dic t ks vs))))
  | _ => none
section
variable {Γ : Ct} {K : PySem.W.Frag} {W : WX} {g : Gh} {Fz H : Hp} {σ : L2.St} {ρ : Env} {κ : Nat → List Addr}
theorem DicAt.rep {ks vs : List D} {o : HO} {t : Bool} {a : Addr} {od : Obj} (r : DicAt Γ K Fz ks vs o t) (h : Fz a = some (.frz od o)) : Rep Γ K Fz (.dic t ks vs) (.ref a) := by
  cases t with
  | true => obtain ⟨kk, rfl, h1, h2⟩ := r; exact .dicT h h1 h2
  | false => obtain ⟨kk, rfl, h1, h2⟩ := r; exact .dicK h h1 h2
end
section
variable {Γ : Ct} {K : PySem.W.Frag} {W : WX} {Fz0 P0 : Hp} {te : TE}
def mKeys (m : M D) : M Its := m.bind fun d => match d with
  | .dic _ ks _ => M.ret (ks, [])
  | _ => fun _ => none
end
section
variable {X : Cx} {pins : List (Addr × Obj)} {σ : L2.St} {H : Hp} {s : Shared} {d : Addr} {o : Obj}
end
section
variable {Γ : Ct} {K : PySem.W.Frag} {W : WX} {Fz0 P0 : Hp} {te : TE}
/-- pairs of a key and what stands under it -/
def itemsD (ks vs : List D) : List D := ks.zipWith (fun k v => .tup [k, v]) vs
def mItems (t : Bool) (m : M D) : M Its := m.bind fun d => match d with
  | .dic t' ks vs => fun ρ => if t' = t then some (.ok (itemsD ks vs, []) ρ) else none
  | _ => fun _ => none
end
section
variable {Γ : Ct} {W : WX} {X : Cx} {e : Expr} {te : TE} {apos cpos : Pos} {elts : List Expr} {kk : Nat} {tpos : Pos}
end
end L3
namespace L3S
open PySem PySem.Spec PyProof.Rows Srt SrtO L2
section
variable {prog : Program} {w : World} {A : Around} {E : Value → Shared → Prop} {s : Shared}
theorem intsAre_inj : ∀ {vs : List Value} {ns ms : List Int}, IntsAre vs ns → IntsAre vs ms → ns = ms
  | _, _, _, .nil, .nil => rfl
  | _, _, _, .cons _ _ h, .cons _ _ h' => by rw [intsAre_inj h h']
theorem IsI.inj {h : Heap} {v : Value} {ns ms : List Int} (a : IsI h v ns) (b : IsI h v ms) : ns = ms := by
  obtain ⟨x, o, xs, n, e, ho, hc, hd, hi⟩ := a
  obtain ⟨x', o', xs', n', e', ho', hc', hd', hi'⟩ := b
  rw [e] at e'; cases e'
  rw [ho] at ho'; cases ho'
  rw [hd] at hd'; cases hd'
  exact intsAre_inj hi hi'
open Classical in
/-- the ints of a tuple that stands -/
noncomputable def contI (h : Heap) (v : Value) : List Int := if e : ∃ ns, IsI h v ns then e.choose else []
end
end L3S
namespace L3
open PySem PySem.Spec PyProof.Rows L2 SrtO L3S
section
variable {X : Cx}
end
section
variable {Γ : Ct} {K : PySem.W.Frag}
end
def fDLen : D → Option D
  | .dic _ ks _ => some (.int (ks.length : Nat))
  | _ => none
section
variable {Γ : Ct} {W : WX} {X : Cx} {te : TE} {m : M Bv} {e : Expr} {p pos : Pos}
end
end L3
namespace L3
open PySem PySem.Spec PyProof.Rows L2
/-- a part: kept, or a new list -/
inductive Pe where
  | keep (d : D) | fresh (ds : List D) | freshD (t : Bool) (ks vs : List D)
def Pe.slot : Pe → Slot
  | .keep d => .fz d
  | .fresh ds => .own (.lst ds)
  | .freshD t ks vs => .own (.dic t ks vs)
def PFr (Γ : Ct) (K : PySem.W.Frag) (g : Gh) (Fz H : Hp) (σ : L2.St) (ρ : Env) : List Pe → List V → Prop
  | [], [] => Fr Γ K g Fz H σ ρ
  | .keep d :: ps, v :: vs => Rep Γ K Fz d v ∧ PFr Γ K g Fz H σ ρ ps vs
  | .fresh ds :: ps, v :: vs => ∃ a xs, v = .ref a ∧ g.P a = none ∧ RepL Γ K Fz ds xs ∧ PFr Γ K (g.more a (.lst xs)) Fz H σ ρ ps vs
  | .freshD t ks us :: ps, v :: vs => ∃ a o, v = .ref a ∧ g.P a = none ∧ DicAt Γ K Fz ks us o t ∧ PFr Γ K (g.more a o) Fz H σ ρ ps vs
  | _, _ => False
def GoesP (Γ : Ct) (K : PySem.W.Frag) (W : WX) (g : Gh) (Fz : Hp) (σ : L2.St) (r : Option (Out (List Pe))) (Q : List V → Hp → Prop) : Prop := match r with
  | none => False
  | some (.ok ps ρ') => ∀ vs Fz' H', Sub Fz Fz' → PFr Γ K g Fz' H' σ ρ' ps vs → Q vs H'
  | some (.exc c d ρ') => ExGo Γ K W g Fz σ c ρ' d
def RdPs (Γ : Ct) (K : PySem.W.Frag) (W : WX) (t : TA) (m : M (List Pe)) : Prop := ∀ g Fz H σ ρ Q, Fr Γ K g Fz H σ ρ → GoesP Γ K W g Fz σ (m ρ) Q → t σ H Q
structure DPs (Γ : Ct) (W : WX) (X : Cx) (es : List Expr) (t : TA) (m : M (List Pe)) : Prop where
  pe : PA X es t
  rd : RdPs Γ X.K W t m
def mPNil : M (List Pe) := M.ret []
def mPKeep (m : M D) (n : M (List Pe)) : M (List Pe) := m.bind fun d => n.bind fun ps => M.ret (.keep d :: ps)
def mPFresh (m : M (List D)) (n : M (List Pe)) : M (List Pe) := m.bind fun ds => fun ρ => match n ρ with
  | some (.ok ps ρ') => some (.ok (.fresh ds :: ps) ρ')
  | _ => none
def mPFreshD (m : M Dn) (n : M (List Pe)) : M (List Pe) := m.bind fun z => fun ρ => match n ρ with
  | some (.ok ps ρ') => some (.ok (.freshD z.1 z.2.1 z.2.2 :: ps) ρ')
  | _ => none
section
variable {Γ : Ct} {K : PySem.W.Frag} {W : WX} {te : TE} {ta : TA}
theorem rd_pNil : RdPs Γ K W tNil mPNil := fun g Fz H σ ρ Q x q => q [] Fz H (Sub.refl _) x
theorem rd_pKeep {m : M D} {n : M (List Pe)} (h : RdE Γ K W te m) (h' : RdPs Γ K W ta n) : RdPs Γ K W (tCons te ta) (mPKeep m n) := fun g Fz H σ ρ Q x q => h g Fz H σ ρ _ x (by
  cases e : m ρ with
  | none => rw [show mPKeep m n ρ = none by simp only [mPKeep, M.bind, e]] at q; exact q
  | some o =>
    cases o with
    | exc c d ρ1 => rw [show mPKeep m n ρ = some (.exc c d ρ1) from M.bind_exc e] at q; exact q
    | ok d ρ1 =>
      rw [show mPKeep m n ρ = (n.bind fun ps => M.ret (.keep d :: ps)) ρ1 from M.bind_ok e] at q
      intro v Fz1 H1 s x1 r
      refine h' g Fz1 H1 σ ρ1 _ x1 ?_
      cases e2 : n ρ1 with
      | none => rw [show (n.bind fun ps => M.ret (Pe.keep d :: ps)) ρ1 = none by simp only [M.bind, e2]] at q; exact q
      | some o =>
        cases o with
        | exc c d ρ2 => rw [M.bind_exc e2] at q; exact ExGo.mono s q
        | ok ps ρ2 =>
          rw [M.bind_ok e2] at q
          exact fun vs Fz2 H2 s2 pf => q (v :: vs) Fz2 H2 (s.trans s2) ⟨Rep.mono s2 r, pf⟩)
theorem rd_pFresh {m : M (List D)} {n : M (List Pe)} (h : RdO Γ K W te m) (h' : RdPs Γ K W ta n) : RdPs Γ K W (tCons te ta) (mPFresh m n) := fun g Fz H σ ρ Q x q => h g Fz H σ ρ _ x (by
  cases e : m ρ with
  | none => rw [show mPFresh m n ρ = none by simp only [mPFresh, M.bind, e]] at q; exact q
  | some o =>
    cases o with
    | exc c d ρ1 => rw [show mPFresh m n ρ = some (.exc c d ρ1) from M.bind_exc e] at q; exact q
    | ok ds ρ1 =>
      rw [show mPFresh m n ρ = (match n ρ1 with
        | some (.ok ps ρ') => some (.ok (.fresh ds :: ps) ρ')
        | _ => none) from M.bind_ok e] at q
      intro a xs Fz1 H1 s hg x1 r
      refine h' (g.more a (.lst xs)) Fz1 H1 σ ρ1 _ x1 ?_
      cases e2 : n ρ1 with
      | none => rw [e2] at q; exact q
      | some o =>
        rw [e2] at q
        cases o with
        | exc c d ρ2 => exact q.elim
        | ok ps ρ2 => exact fun vs Fz2 H2 s2 pf => q (.ref a :: vs) Fz2 H2 (s.trans s2) ⟨a, xs, rfl, hg, RepL.mono s2 r, pf⟩)
end
section
variable {Γ : Ct} {W : WX} {X : Cx} {e : Expr} {es : List Expr} {te : TE} {ta : TA}
theorem p_nil : DPs Γ W X [] tNil mPNil := ⟨pa_nil, rd_pNil⟩
theorem p_keep {m : M D} {n : M (List Pe)} (h : DE Γ W X e te m) (h' : DPs Γ W X es ta n) (hs : starEach (e :: es) X.env = (false, eval e X.env) :: starEach es X.env := by rfl) : DPs Γ W X (e :: es) (tCons te ta) (mPKeep m n) := ⟨pa_cons h.pe h'.pe hs, rd_pKeep h.rd h'.rd⟩
theorem p_fresh {m : M (List D)} {n : M (List Pe)} (h : DO Γ W X e te m) (h' : DPs Γ W X es ta n) (hs : starEach (e :: es) X.env = (false, eval e X.env) :: starEach es X.env := by rfl) : DPs Γ W X (e :: es) (tCons te ta) (mPFresh m n) := ⟨pa_cons h.pe h'.pe hs, rd_pFresh h.rd h'.rd⟩
end
def putN {α : Type} (ρ : List α) : List Nat → List α → List α
  | i :: is, s :: ss => putN (ρ.set i s) is ss
  | _, _ => ρ
theorem putN_set {α : Type} : ∀ {is : List Nat} {ss : List α} {ρ : List α} {i : Nat} {s : α}, i ∉ is → putN (ρ.set i s) is ss = (putN ρ is ss).set i s
  | [], [], _, _, _, _ => rfl
  | [], _ :: _, _, _, _, _ => rfl
  | j :: is, [], _, _, _, _ => rfl
  | j :: is, t :: ss, ρ, i, s, h => by
    show putN ((ρ.set i s).set j t) is ss = (putN (ρ.set j t) is ss).set i s
    rw [List.set_comm _ _ (fun e => h (by simp [e])), putN_set fun z => h (List.mem_cons_of_mem _ z)]
theorem putN_len {α : Type} : ∀ {is : List Nat} {ss : List α} {ρ : List α}, (putN ρ is ss).length = ρ.length
  | [], [], _ => rfl
  | [], _ :: _, _ => rfl
  | j :: is, [], _ => rfl
  | j :: is, t :: ss, ρ => by
    show (putN (ρ.set j t) is ss).length = _
    rw [putN_len, List.length_set]
theorem PFr.put {Γ : Ct} {K : PySem.W.Frag} {Fz H : Hp} {σ : L2.St} {ρ : Env} : ∀ {is : List Nat} {ps : List Pe} {vs : List V} {g : Gh}, is.Nodup → (∀ i ∈ is, i < ρ.length) → is.length = ps.length → PFr Γ K g Fz H σ ρ ps vs →
    vs.length = ps.length ∧ Fr Γ K g Fz H (putN σ is (vs.map some)) (putN ρ is (ps.map Pe.slot))
  | [], [], [], g, _, _, _, x => ⟨rfl, x⟩
  | i :: is, .keep d :: ps, v :: vs, g, nd, lt, hl, x => by
    obtain ⟨r, x⟩ := x
    have nd' := List.nodup_cons.mp nd
    obtain ⟨h1, h2⟩ := PFr.put nd'.2 (fun j hj => lt j (List.mem_cons_of_mem _ hj)) (by simpa using hl) x
    refine ⟨by simp [h1], ?_⟩
    show Fr Γ K g Fz H (putN (σ.set i (some v)) is (vs.map some)) (putN (ρ.set i (.fz d)) is (ps.map Pe.slot))
    rw [putN_set nd'.1, putN_set nd'.1]
    exact h2.setFz r
  | i :: is, .fresh ds :: ps, v :: vs, g, nd, lt, hl, x => by
    obtain ⟨a, xs, rfl, hg, r, x⟩ := x
    have nd' := List.nodup_cons.mp nd
    obtain ⟨h1, h2⟩ := PFr.put nd'.2 (fun j hj => lt j (List.mem_cons_of_mem _ hj)) (by simpa using hl) x
    refine ⟨by simp [h1], ?_⟩
    show Fr Γ K g Fz H (putN (σ.set i (some (.ref a))) is (vs.map some)) (putN (ρ.set i (.own (.lst ds))) is (ps.map Pe.slot))
    rw [putN_set nd'.1, putN_set nd'.1]
    exact h2.setOwn (by rw [putN_len]; exact lt i (by simp)) hg r
  | i :: is, .freshD t ks us :: ps, v :: vs, g, nd, lt, hl, x => by
    obtain ⟨a, o, rfl, hg, r, x⟩ := x
    have nd' := List.nodup_cons.mp nd
    obtain ⟨h1, h2⟩ := PFr.put nd'.2 (fun j hj => lt j (List.mem_cons_of_mem _ hj)) (by simpa using hl) x
    refine ⟨by simp [h1], ?_⟩
    show Fr Γ K g Fz H (putN (σ.set i (some (.ref a))) is (vs.map some)) (putN (ρ.set i (.own (.dic t ks us))) is (ps.map Pe.slot))
    rw [putN_set nd'.1, putN_set nd'.1]
    exact h2.setOwnD (by rw [putN_len]; exact lt i (by simp)) hg r
  | [], [], _ :: _, _, _, _, _, x => x.elim
  | [], _ :: _, _, _, _, _, hl, _ => by simp at hl
  | _ :: _, [], _, _, _, _, hl, _ => by simp at hl
  | _ :: _, .keep _ :: _, [], _, _, _, _, x => x.elim
  | _ :: _, .fresh _ :: _, [], _, _, _, _, x => x.elim
/-- targets by their slots -/
def mParN (is : List Nat) (m : M (List Pe)) : MS := thenS m fun ps ρ => if ps.length = is.length ∧ ∀ i ∈ is, i < ρ.length then some (.nx (putN ρ is (ps.map Pe.slot))) else none
section
variable {Γ : Ct} {K : PySem.W.Frag} {W : WX} {ta : TA} {m : M (List Pe)} {g : Gh} {Fz H : Hp} {σ : L2.St} {ρ : Env} {E : Ends}
theorem parN_go {is : List Nat} {Q : List V → Hp → Prop} (h : RdPs Γ K W ta m) (nd : is.Nodup) (x : Fr Γ K g Fz H σ ρ) (q : GoesS Γ K W g Fz E (mParN is m ρ)) (k : ∀ vs H1, vs.length = is.length → E.nx (putN σ is (vs.map some)) H1 → Q vs H1) : ta σ H Q := h g Fz H σ ρ _ x (by
  unfold mParN at q
  cases e : m ρ with
  | none => rw [thenS_none e] at q; exact q
  | some o =>
    cases o with
    | exc c d ρ1 => rw [thenS_exc e] at q; exact q σ
    | ok ps ρ1 =>
      rw [thenS_ok e] at q
      intro vs Fz1 H1 s pf
      by_cases c : ps.length = is.length ∧ ∀ i ∈ is, i < ρ1.length
      · rw [if_pos c] at q
        obtain ⟨h1, h2⟩ := pf.put nd c.2 c.1.symm
        exact k vs H1 (h1.trans c.1) (q _ Fz1 H1 s h2)
      · rw [if_neg c] at q; exact q.elim)
theorem rd_parN2 {i j : Nat} (h : RdPs Γ K W ta m) (hij : i ≠ j) : RdS Γ K W (tPar i j ta) (mParN [i, j] m) := fun g Fz H σ ρ E x q =>
  parN_go h (is := [i, j]) (by simp [hij]) x q fun vs H1 hl z => match vs, hl, z with
    | [v, w], _, z => ⟨v, w, rfl, z⟩
end
section
variable {Γ : Ct} {W : WX} {X : Cx} {x y z : Str} {a b c : Expr} {ta : TA} {px py pz pt spos : Pos} {kt k2 pt2} {m : M (List Pe)}
theorem s_par2 (i j : Nat) (hc : X.calm = true) (hN : X.N.Nodup) (h : DPs Γ W X [a, b] ta m)
    (hij : i ≠ j := by decide) (hi : X.N[i]? = some x := by rfl) (hj : X.N[j]? = some y := by rfl)
    (hx : X.env.scope.names.lookup x = some .local := by rfl) (hy : X.env.scope.names.lookup y = some .local := by rfl)
    (hw : swappedStores [.Tuple [.Name x px, .Name y py] kt pt] (.Tuple [a, b] k2 pt2) X.env = pure (some [x, y]) := by rfl)
    (hs : swapsWithSole [.Tuple [.Name x px, .Name y py] kt pt] (.Tuple [a, b] k2 pt2) spos.line X.env = pure false := by rfl) :
    DS Γ W X (.Assign [.Tuple [.Name x px, .Name y py] kt pt] (.Tuple [a, b] k2 pt2) spos) (tPar i j ta) (mParN [i, j] m) := ⟨ps_par hc hN hi hj hij hx hy h.pe hw hs, rd_parN2 h.rd hij⟩
end
end L3
namespace L3
open PySem PySem.Spec PyProof.Rows L2
def mChain (f f' : D → D → Option D) (ma mb mc : M Bv) : M D := ma.bind fun a => mb.bind fun b => (ret2 f a b).bind fun z => match z with
  | .bl true => mc.bind fun c => ret2 f' b c
  | .bl false => M.ret (.bl false)
  | _ => fun _ => none
section
variable {Γ : Ct} {K : PySem.W.Frag} {W : WX} {ta tb tc : TE}
theorem ret2_go {f : D → D → Option D} {r : R2} {a b : Bv} {k : D → M D} {g : Gh} {Fz H : Hp} {σ : L2.St} {ρ : Env} {x y : V} {Q Q1 : VK} (hd : OpD Γ K r f) (fr : Fr Γ K g Fz H σ ρ) (ra : RB Γ K σ Fz a x) (rb : RB Γ K σ Fz b y)
    (q : Goes Γ K W g Fz σ (RE Γ K) ((ret2 f a b).bind k ρ) Q) (h : ∀ z v Fz' H', Sub Fz Fz' → Fr Γ K g Fz' H' σ ρ → Rep Γ K Fz' z v → Goes Γ K W g Fz' σ (RE Γ K) (k z ρ) Q → Q1 v H') : r x y H Q1 := by
  cases ea : deref ρ a with
  | none => rw [show (ret2 f a b).bind k ρ = none by simp only [M.bind, ret2, ea, Option.bind_none, Option.map_none]] at q; exact q.elim
  | some d =>
    cases eb : deref ρ b with
    | none => rw [show (ret2 f a b).bind k ρ = none by simp only [M.bind, ret2, ea, eb, Option.bind_some, Option.bind_none, Option.map_none]] at q; exact q.elim
    | some e =>
      cases ez : f d e with
      | none => rw [show (ret2 f a b).bind k ρ = none by simp only [M.bind, ret2, ea, eb, ez, Option.bind_some, Option.map_none]] at q; exact q.elim
      | some z =>
        rw [show (ret2 f a b).bind k ρ = k z ρ by simp only [M.bind, ret2, ea, eb, ez, Option.bind_some, Option.map_some]] at q
        exact hd g Fz H σ ρ d e x y z Q1 fr (fr.deref ra ea) (fr.deref rb eb) ez fun v Fz' H' s fr' rz => h z v Fz' H' s fr' rz (q.mono s)
theorem rd_chain {r r' : R2} {f f' : D → D → Option D} {ma mb mc : M Bv} (hd : OpD Γ K r f) (hd' : OpD Γ K r' f') (ha : RdB Γ K W ta ma) (hb : RdB Γ K W tb mb) (hc : RdB Γ K W tc mc) : RdE Γ K W (tChain r r' ta tb tc) (mChain f f' ma mb mc) := fun g Fz H σ ρ Q x q =>
  ha g Fz H σ ρ _ x (Goes.bind q fun a ρ1 v Fz1 H1 s1 x1 r1 q1 => hb g Fz1 H1 σ ρ1 _ x1 (Goes.bind q1 fun b ρ2 u Fz2 H2 s2 x2 r2 q2 =>
    ret2_go hd x2 (RB.mono s2 r1) r2 q2 fun z w Fz3 H3 s3 x3 rz q3 => by
      match z, rz, q3 with
      | .bl true, .bl, q3 =>
        refine ⟨true, rfl, ?_⟩
        rw [if_pos rfl]
        refine hc g Fz3 H3 σ ρ2 _ x3 (Goes.bind q3 fun c ρ4 t Fz4 H4 s4 x4 r4 q4 => ?_)
        have q5 : Goes Γ K W g Fz4 σ (RE Γ K) ((ret2 f' b c).bind M.ret ρ4) Q := by
          have e : (ret2 f' b c).bind M.ret ρ4 = ret2 f' b c ρ4 := by
            unfold M.bind
            cases ret2 f' b c ρ4 with
            | none => rfl
            | some o => cases o <;> rfl
          rw [e]; exact q4
        exact ret2_go hd' x4 (RB.mono s4 (RB.mono s3 r2)) r4 q5 fun z' w' Fz5 H5 s5 x5 rz' q6 => q6 w' Fz5 H5 (Sub.refl _) x5 rz'
      | .bl false, .bl, q3 =>
        refine ⟨false, rfl, ?_⟩
        rw [if_neg Bool.false_ne_true]
        exact q3 _ Fz3 H3 (Sub.refl _) x3 .bl))
end
section
variable {Γ : Ct} {W : WX} {X : Cx} {a b c : Expr} {ta tb tc : TE} {ma mb mc : M Bv} {op op' : CmpOp} {r r' : R2} {f f' : D → D → Option D} {pos : Pos}
theorem t_chain (k : CmpR Γ X op b r f) (k' : CmpR Γ X op' c r' f') (ha : DB Γ W X a ta ma) (hb : DB Γ W X b tb mb) (hc : DB Γ W X c tc mc) (hm : lastMarks [op, op'] [b, c] = false := by with_unfolding_all rfl) : DT Γ W X (.Compare a [op, op'] [b, c] pos) (tTest (tChain r r' ta tb tc)) (asB (mChain f f' ma mb mc)) :=
  ⟨pt_chain k.ho k'.ho ha.pe hb.pe hc.pe hm, rd_asB (rd_chain k.hd k'.hd ha.rd hb.rd hc.rd)⟩
end
section
variable {Γ : Ct} {c i : Nat} {z : Str}
end
def mListRg (m : M Bv) : M (List D) := m.bind fun a => fun ρ => match deref ρ a with
  | some (.int j) => if inB j = true ∧ j.toNat ≤ 2 ^ 24 then some (.ok (rangeD 0 j.toNat) ρ) else none
  | _ => none
end L3
namespace L3
open PySem PySem.Spec PyProof.Rows L2
section
variable {Γ : Ct} {K : PySem.W.Frag} {W : WX} {ta : TA} {m : M (List Pe)} {g : Gh} {Fz H : Hp} {σ : L2.St} {ρ : Env} {E : Ends}
theorem PFr.fz0 {p : Addr} (hp : H p = none) : ∀ {ps : List Pe} {vs : List V} {g : Gh}, PFr Γ K g Fz H σ ρ ps vs → Fz p = none
  | [], [], g, x => Fr.sub x |>.free hp
  | .keep d :: ps, v :: vs, g, x => PFr.fz0 hp x.2
  | .fresh ds :: ps, v :: vs, g, x => by obtain ⟨a, xs, _, _, _, x⟩ := x; exact PFr.fz0 hp x
  | .freshD t ks us :: ps, v :: vs, g, x => by obtain ⟨a, o, _, _, _, x⟩ := x; exact PFr.fz0 hp x
  | [], _ :: _, _, x => x.elim
  | .keep _ :: _, [], _, x => x.elim
  | .fresh _ :: _, [], _, x => x.elim
  | .freshD _ _ _ :: _, [], _, x => x.elim
theorem PFr.newT {p : Addr} {zs : List V} (hp : H p = none) : ∀ {ps : List Pe} {vs : List V} {g : Gh}, PFr Γ K g Fz H σ ρ ps vs → PFr Γ K g (upd Fz p (.tup zs)) (upd H p (.tup zs)) σ ρ ps vs
  | [], [], g, x => by obtain ⟨κ, x⟩ := x; exact ⟨κ, x.alloc hp⟩
  | .keep d :: ps, v :: vs, g, x => ⟨Rep.mono (Sub.new (PFr.fz0 hp x.2)) x.1, PFr.newT hp x.2⟩
  | .fresh ds :: ps, v :: vs, g, x => by obtain ⟨a, xs, h1, h2, h3, x⟩ := x; exact ⟨a, xs, h1, h2, RepL.mono (Sub.new (PFr.fz0 hp x)) h3, PFr.newT hp x⟩
  | .freshD t ks us :: ps, v :: vs, g, x => by obtain ⟨a, o, h1, h2, h3, x⟩ := x; exact ⟨a, o, h1, h2, DicAt.mono (Sub.new (PFr.fz0 hp x)) h3, PFr.newT hp x⟩
  | [], _ :: _, _, x => x.elim
  | .keep _ :: _, [], _, x => x.elim
  | .fresh _ :: _, [], _, x => x.elim
  | .freshD _ _ _ :: _, [], _, x => x.elim
end
section
variable {Γ : Ct} {W : WX} {X : Cx} {tx ty a b : Expr} {ta : TA} {pt spos : Pos} {kt k2 pt2} {m : M (List Pe)} {f : D → Env → Option Env} {vs : List Nat}
end
end L3
namespace L3
open PySem PySem.Spec PyProof.Rows L2
section
variable {Γ : Ct} {W : WX} {X : Cx} {a e : Expr} {ta te : TE} {ma me : M Bv} {p pos cpos : Pos}
end
end L3
namespace L3
open PySem PySem.Spec PyProof.Rows L2
section
variable {Γ : Ct} {K : PySem.W.Frag} {H : Hp}
mutual
theorem Rep.func : ∀ {d d' : D} {v : V}, plainD d = true → plainD d' = true → Rep Γ K H d v → Rep Γ K H d' v → d = d'
  | _, _, _, _, _, .non, r' => by cases r'; rfl
  | _, _, _, _, _, .bl, r' => by cases r'; rfl
  | _, _, _, _, _, .int, r' => by cases r'; rfl
  | _, _, _, _, _, .str, r' => by cases r'; rfl
  | .tup ds, d', _, p, p', .tup h r, r' => by
    cases r' with
    | tup h2 r2 =>
      rw [h] at h2; cases h2
      have e := RepL.func (by simpa [plainD] using p) (by simpa [plainD] using p') r r2
      rw [e]
    | lst h2 _ => rw [h] at h2; cases h2
    | ob h2 => simp [plainD] at p'
    | dic0 h2 => rw [h] at h2; cases h2
    | dicT h2 => simp [plainD] at p'
    | dicK h2 => simp [plainD] at p'
    | fn => simp [plainD] at p'
  | .lst ds, d', _, p, p', .lst h r, r' => by
    cases r' with
    | tup h2 _ => rw [h] at h2; cases h2
    | lst h2 r2 =>
      rw [h] at h2; cases h2
      have e := RepL.func (by simpa [plainD] using p) (by simpa [plainD] using p') r r2
      rw [e]
    | ob h2 => simp [plainD] at p'
    | dic0 h2 => rw [h] at h2; cases h2
    | dicT h2 => simp [plainD] at p'
    | dicK h2 => simp [plainD] at p'
    | fn => simp [plainD] at p'
  | _, d', _, p, p', .dic0 h, r' => by
    cases r' with
    | tup h2 _ => rw [h] at h2; cases h2
    | lst h2 _ => rw [h] at h2; cases h2
    | ob h2 => simp [plainD] at p'
    | dic0 h2 => rfl
    | dicT h2 => simp [plainD] at p'
    | dicK h2 => simp [plainD] at p'
    | fn => simp [plainD] at p'
  | _, _, _, p, _, .ob h _ _ _, _ => by simp [plainD] at p
  | _, _, _, p, _, .dicT h _ _, _ => by simp [plainD] at p
  | _, _, _, p, _, .dicK h _ _, _ => by simp [plainD] at p
  | _, _, _, p, _, .fn, _ => by simp [plainD] at p
theorem RepL.func : ∀ {ds ds' : List D} {vs : List V}, plainL ds = true → plainL ds' = true → RepL Γ K H ds vs → RepL Γ K H ds' vs → ds = ds'
  | _, _, _, _, _, .nil, r' => by cases r'; rfl
  | d :: ds, _, _, p, p', .cons r rs, r' => by
    cases r' with
    | cons r2 rs2 =>
      simp only [plainL, Bool.and_eq_true] at p p'
      rw [Rep.func p.1 p'.1 r r2, RepL.func p.2 p'.2 rs rs2]
end
end
/-- what the works of a table find: word, the book's fields, the result -/
def wkOf (tbl : List (Str × Fn)) (w : Str) (ds : List D) : Option D := match tbl.lookup w with
  | some P => (match P [.fz (.ob 0 ds)] with
    | some (.ret d [.emp]) => if plainD d = true then some d else none
    | _ => none)
  | none => none
section
variable {Γ : Ct} {W : WX} {X : Cx} {b : Bool} {k : Nat} {f C : Addr} {fd : FuncData} {ps : List Str} {sp : Sp} {m : Str} {p pos apos : Pos} {e o : Expr} {es : List Expr} {ta : TE} {t : TA}
end
section
variable {Γ : Ct} {W : WX} {X : Cx} {b : Bool} {k k' : Nat} {f fw : Addr} {fd : FuncData} {ps : List Str} {nm w work : Str} {cp wp pos apos : Pos} {j : Nat} {o : Expr} {ta : TE} {m : M D} {P : Fn}
end
end L3
namespace L3
open PySem PySem.Spec PyProof.Rows L2
section
variable {Γ : Ct} {K : PySem.W.Frag} {g : Gh} {Fz Fz' H H' : Hp} {σ : L2.St} {ρ : Env} {κ : Nat → List Addr}
theorem some_inj : ∀ {xs ys : List V}, xs.map some = ys.map some → xs = ys
  | [], [], _ => rfl
  | x :: xs, y :: ys, h => by
    simp only [List.map_cons, List.cons.injEq, Option.some.injEq] at h
    rw [h.1, some_inj h.2]
  | [], _ :: _, h => by cases h
  | _ :: _, [], h => by cases h
theorem CchOk.look {fs : List (Str × V)} {kvs : List (L2.Key × V)} (h : CchOk Γ K Fz fs kvs) {w : Str} {v : V} (e : valV kvs (.inr w) = some v) {ds : List D} {xs : List V} (hx : (Γ.fl 0).map (fun f => fs.lookup f) = xs.map some) (r : RepL Γ K Fz ds xs) (p : plainL ds = true) :
    ∃ d, Γ.wk w ds = some d ∧ Rep Γ K Fz d v := by
  unfold valV at e
  cases q : kvs.find? (fun kv => decide (kv.1 = .inr w)) with
  | none => rw [q] at e; cases e
  | some kv =>
    rw [q] at e
    cases e
    have hm := List.mem_of_find?_eq_some q
    have hk : kv.1 = .inr w := by simpa using List.find?_some q
    obtain ⟨w', ds', xs', d, h1, h2, h3, h4, h5, h6⟩ := h.val kv hm
    rw [hk] at h1
    cases h1
    rw [hx] at h2
    have := some_inj h2
    subst this
    rw [RepL.func p h4 r h3]
    exact ⟨d, h5, h6⟩
theorem CchOk.put {fs : List (Str × V)} {kvs : List (L2.Key × V)} (h : CchOk Γ K Fz fs kvs) {w : Str} {v : V} {d : D} {ds : List D} {xs : List V} (hw : w ∈ Γ.ws) (hx : (Γ.fl 0).map (fun f => fs.lookup f) = xs.map some) (r : RepL Γ K Fz ds xs) (p : plainL ds = true)
    (hd : Γ.wk w ds = some d) (rv : Rep Γ K Fz d v) : CchOk Γ K Fz fs (putK kvs (.inr w) v) := by
  unfold putK
  by_cases a : (kvs.any fun kv => decide (kv.1 = .inr w)) = true
  · rw [if_pos a]
    have hfst : (kvs.map (fun kv => if kv.1 = Sum.inr w then (kv.1, v) else kv)).map (·.1) = kvs.map (·.1) := by
      rw [List.map_map]
      refine List.map_congr_left fun kv _ => ?_
      by_cases z : kv.1 = .inr w
      · simp [z]
      · simp [z]
    refine ⟨fun q hq => ?_, by rw [hfst]; exact h.nd, fun q hq => ?_⟩
    · obtain ⟨kv, hkv, rfl⟩ := List.mem_map.mp hq
      by_cases z : kv.1 = .inr w
      · rw [if_pos z]
        exact ⟨w, ds, xs, d, z, hx, r, p, hd, rv⟩
      · rw [if_neg z]
        exact h.val kv hkv
    · obtain ⟨kv, hkv, rfl⟩ := List.mem_map.mp hq
      by_cases z : kv.1 = .inr w
      · rw [if_pos z]; exact ⟨w, hw, z⟩
      · rw [if_neg z]; exact h.ws kv hkv
  · rw [if_neg a]
    refine ⟨fun q hq => ?_, ?_, fun q hq => ?_⟩
    · rcases List.mem_append.mp hq with hq | hq
      · exact h.val q hq
      · rw [List.mem_singleton] at hq; subst hq
        exact ⟨w, ds, xs, d, rfl, hx, r, p, hd, rv⟩
    · rw [List.map_append, List.nodup_append]
      refine ⟨h.nd, by simp, fun k hk k' hk' e => a ?_⟩
      simp only [List.map_cons, List.map_nil, List.mem_singleton] at hk'
      obtain ⟨kv, hkv, rfl⟩ := List.mem_map.mp hk
      rw [List.any_eq_true]
      exact ⟨kv, hkv, by rw [decide_eq_true_eq, e, hk']⟩
    · rcases List.mem_append.mp hq with hq | hq
      · exact h.ws q hq
      · rw [List.mem_singleton] at hq; subst hq; exact ⟨w, hw, rfl⟩
end
section
variable {b : Bool} {W : WX} {X : Cx} {k i : Nat} {f : Addr} {fd : FuncData} {ps : List Str} {sp : Sp} {x : Str} {p pos : Pos} {e : Expr} {es : List Expr} {t : TA}
end
section
variable {Γ : Ct} {K : PySem.W.Frag} {nm w : Str} {fw : Addr} {P : Fn} {vs : List V} {H : Hp} {Q : VK} {E : XK}
end
section
variable {b : Bool} {Γ : Ct} {X : Cx} {W : WX} {nm : Str} {fw : Addr} {fdw : FuncData} {psw : List Str} {k : Nat} {Pw : Fn} {p1 p2 p3 p4 p5 p6 p7 p8 p9 q1 q2 q3 q4 q5 q6 q7 q8 q9 : Pos}
end
section
variable {b : Bool} {Γ : Ct} {P : Program} {w : World} {K : PySem.W.Frag} {mg : Str → Option Value} {base : Heap}
end
end L3
namespace L3
open PySem PySem.Spec PyProof.Rows L2
section
variable (Γ : Ct) (K : PySem.W.Frag)
def RdG2 (gt : TG) (f : D → Env → Option Env) : Prop := ∀ g Fz H σ ρ ρ' d v Q, Fr Γ K g Fz H σ ρ → Rep Γ K Fz d v → f d ρ = some ρ' → (∀ σ' Fz' H', Sub Fz Fz' → Fr Γ K g Fz' H' σ' ρ' → Q σ' H') → gt v σ H Q
def RdGs2 (gt : TGs) (f : List D → Env → Option Env) : Prop := ∀ g Fz H σ ρ ρ' ds xs Q, Fr Γ K g Fz H σ ρ → RepL Γ K Fz ds xs → f ds ρ = some ρ' → (∀ σ' Fz' H', Sub Fz Fz' → Fr Γ K g Fz' H' σ' ρ' → Q σ' H') → gt xs σ H Q
end
structure DG2 (Γ : Ct) (X : Cx) (tg : Expr) (gt : TG) (f : D → Env → Option Env) : Prop where
  pg : PG X tg gt
  rd : RdG2 Γ X.K gt f
structure DGs2 (Γ : Ct) (X : Cx) (tgs : List Expr) (gt : TGs) (f : List D → Env → Option Env) : Prop where
  pg : PGs X tgs gt
  rd : RdGs2 Γ X.K gt f
section
variable {Γ : Ct} {W : WX} {X : Cx} {tg e : Expr} {tgs : List Expr} {gt : TG} {gts : TGs} {pos pos' p : Pos} {te : TE}
end
end L3
namespace L3
open PySem PySem.Spec PySem.Calls PyProof.Rows L2
section
open PySem.W
variable {prg : Program} {wd : World} {Ar : Around} {Ex : Value → Shared → Prop} {sh : Shared} {Kf : PySem.W.Frag} {x D : Addr} {ox : Obj} {od : Option Obj}
end
/-- what is known of an own error's class and a class above it -/
structure ExI (Γ : Ct) (K : PySem.W.Frag) (c : Nat) (L : Addr) : Prop where
  ec : ExcC K (Γ.ad c)
  kit : PySem.W.kitOne K (.ref (Γ.ad c)) (.ref L) = some true
section
variable {Γ : Ct} {X : Cx} {n y : Str} {c i : Nat} {p1 p2 p3 p4 p5 : Pos} {k1 : Nat}
end
end L3
namespace L3
open PySem PySem.Spec PyProof.Rows L2
section
variable {X : Cx}
end
section
variable {Γ : Ct} {K : PySem.W.Frag}
end
section
variable {Γ : Ct} {W : WX} {X : Cx} {te : TE} {m : M Bv} {e : Expr} {p pos : Pos}
end
end L3
namespace HT
open PySem PySem.Spec PyProof.Rows L2
section
variable {prog : Program} {w : World} {A : Around} {E : Value → Shared → Prop} {s : Shared}
end
end HT
namespace L3
open PySem PySem.Spec PyProof.Rows L2
section
variable {X : Cx}
end
section
variable {Γ : Ct} {K : PySem.W.Frag} {W : WX} {X : Cx} {te : TE} {m : M Bv} {e : Expr} {k : Nat} {p1 p2 p3 pos : Pos}
end
end L3
namespace L3
open PySem PySem.Spec PyProof.Rows L2
section
variable {Γ : Ct} {K : PySem.W.Frag} {g : Gh} {Fz Fz' H H' : Hp} {σ τ : L2.St} {ρ : Env} {κ : Nat → List Addr}
/-- a bare frame over any store: no slot is known -/
theorem FrK.pad (x : FrK Γ K g Fz H [] [] κ) (τ : L2.St) : FrK Γ K g Fz H τ (List.replicate τ.length .emp) (fun _ => []) := by
  refine ⟨x.sub, x.prot, by simp, fun i s e => ?_, fun i a e => by simp at e, fun i j a e => by simp at e, x.cch.go (Sub.refl _) (fun _ _ _ e => e) fun a kvs hl h1 h2 h3 h4 => ⟨h1, h2, h3, fun i hi => by simp at hi⟩, x.tups⟩
  rw [List.getElem?_replicate] at e
  split at e
  · cases e; rfl
  · cases e
/-- the callee's ghost, the thing at dd aside -/
noncomputable def gAside (Γ : Ct) (Fz H : Hp) (κ : Nat → List Addr) (dd : Addr) : Gh where
  P := fun a => if a = dd then none else gP Γ Fz H κ [] a
  B := fun _ => none
  sub := nofun
  pin := fun _ => (.non, [])
/-- what a clause's suite returns, run in another store: what the maker holds is kept -/
theorem clause_goes {c i : Nat} {ts : Addr → Value → Option Addr → TS} {hd : D → Option D} {dd a : Addr} {v : V} {dv w : D} {E : Ends} (hdl : Hdl Γ K c i ts hd) (hp : g.P dd = none)
    (fr : Fr Γ K (g.more dd (.xd [("at", v)])) Fz H σ ρ) (rep : Rep Γ K Fz dv v) (e : hd dv = some w) (hi : i < τ.length)
    (q : ∀ u Fz' H', Sub Fz Fz' → Fr Γ K g Fz' H' σ ρ → Rep Γ K Fz' w u → E.rt u H') : ts a (.ref (Γ.ad c)) (some dd) E (τ.set i (some (.ref a))) H := by
  obtain ⟨κ, x⟩ := fr
  have hx := x.at0
  have y := x.drop0 hp
  have nc : ¬ IsCch Γ Fz dd := x.noCP (o := .xd [("at", v)]) upd_same
  have yc := y.call (ams := []) (vs := []) (as := []) RAms.nil rfl rfl
  have z0 : FrK Γ K ((gAside Γ Fz H κ dd).more dd (.xd [("at", v)])) Fz H [] [] (fun _ => []) := FrK.sub0 yc fun b o h => by
    have h' : upd (gAside Γ Fz H κ dd).P dd (.xd [("at", v)]) b = some o := h
    by_cases hb : b = dd
    · subst hb; rw [upd_same] at h'; cases h'
      show gP Γ Fz H κ [] b = some _
      rw [gP_at hx.2 (by simp [ioIx]) nc]; exact hx.1
    · rw [upd_ne hb] at h'
      have h2 : (if b = dd then none else gP Γ Fz H κ [] b) = some o := h'
      rwa [if_neg hb] at h2
  refine hdl (gAside Γ Fz H κ dd) Fz H τ _ dd v dv w a E (if_pos rfl) ⟨_, z0.pad τ⟩ rep e hi fun u Fz2 H2 s fr2 r2 => ?_
  have z1 : Fr Γ K (gCall Γ Fz H κ [] []) Fz2 H2 [] [] := fr2.bare fun b o h => by
    have h' : gP Γ Fz H κ [] b = some o := h
    show upd (gAside Γ Fz H κ dd).P dd (.xd [("at", v)]) b = some o
    by_cases hb : b = dd
    · subst hb
      obtain ⟨q1, _⟩ := gP_of h'
      rw [hx.1] at q1
      rw [upd_same]; exact q1
    · rw [upd_ne hb]
      show (if b = dd then none else gP Γ Fz H κ [] b) = some o
      rw [if_neg hb]; exact h'
  obtain ⟨κ2, z2⟩ := z1
  exact q u Fz2 H2 s ⟨κ, (y.ret (ams := []) (vs := []) (as' := []) RAms.nil rfl s z2 rfl).1⟩ r2
end
/-- what the first clause that fits makes of what the error keeps -/
def goHd (n : Nat) (dv : D) (c' : Nat) : List Cd → Option D
  | [] => none
  | k :: r => if c' = k.c then (if k.i < n then k.hd dv else none) else goHd n dv c' r
abbrev endL (Q : VK) : Ends := { nx := fun _ H => Q .non H, rt := Q }
section
variable {Γ : Ct} {X : Cx} {g : Gh} {Fz Fz' H H' : Hp} {σ τ : L2.St} {ρ : Env} {cs : List Nat}
theorem ClD.other {c' n : Nat} {dv : D} {dd : Addr} {v : V} {w : D} {Q : VK} (hcs : c' ∈ cs) (hp : g.P dd = none) (fr : Fr Γ X.K (g.more dd (.xd [("at", v)])) Fz H σ ρ) (rep : Rep Γ X.K Fz dv v) (hl : τ.length = n)
    (q : ∀ u Fz' H', Sub Fz Fz' → Fr Γ X.K g Fz' H' σ ρ → Rep Γ X.K Fz' w u → Q u H') : ∀ {hds : List ExceptHandler} {l : List Cl1} {ks : List Cd}, ClD Γ X cs hds l ks → goHd n dv c' ks = some w → wCl X.K (fun _ _ _ _ => False) (endL Q) l (.ref (Γ.ad c')) (some dd) τ H
  | _, _, _, .nil, e => by cases e
  | _, _, _, .cons (c := c) (i := i) (hd := hd) ex hc hsu hdl hi hln r, e => by
    refine ⟨decide (c' = c), ex c' hcs, fun hbt a na => ?_, fun hbf => ?_⟩
    · have e1 := of_decide_eq_true hbt
      subst e1
      simp only [goHd, if_pos] at e
      by_cases h : i < n
      · rw [if_pos h] at e
        exact clause_goes (E := offAt i (endL Q)) hdl hp fr rep e (by rw [hl]; exact h) q
      · rw [if_neg h] at e; cases e
    · have e1 := of_decide_eq_false hbf
      simp only [goHd, if_neg e1] at e
      exact ClD.other hcs hp fr rep hl q r e
end
end L3
namespace L3
open PySem PySem.Spec PyProof.Rows L2 LamX
end L3
namespace L3
open PySem PySem.Spec PyProof.Rows L2 LamX
/-- the making of a lambda: new are a code object and rows of a table -/
structure Made (T : List (Addr × Str)) (H H1 : Hp) : Prop where
  ext : ExtN H H1
  new : ∀ b o, H1 b = some o → H b = some o ∨ b ∈ T.map (·.1) ∨ ∃ f, o = .ext f
  tabs : Tabs T H1
abbrev lq (X : Cx) : Str := X.env.qual ++ "<lambda>"
section
variable {X : Cx} {pins : List (Addr × Obj)} {σ : L2.St} {H : Hp} {S : Shared}
variable {b : Bool}
end
end L3
namespace L3
open PySem PySem.Spec PyProof.Rows L2 LamX
section
variable {Γ : Ct} {K : PySem.W.Frag} {g : Gh} {Fz H H1 : Hp} {σ : L2.St} {ρ : Env} {κ : Nat → List Addr}
/-- the frozen part and all code objects of H1 -/
noncomputable def fzx (Fz H1 : Hp) : Hp := fun a => match Fz a with
  | some o => some o
  | none => match H1 a with
    | some (.ext f) => some (.ext f)
    | _ => none
theorem fzx_sub : Sub Fz (fzx Fz H1) := fun b o h => by unfold fzx; rw [h]
theorem fzx_of {a : Addr} {o : HO} (h : fzx Fz H1 a = some o) : Fz a = some o ∨ (Fz a = none ∧ H1 a = some o ∧ ∃ f, o = .ext f) := by
  unfold fzx at h
  split at h
  · rename_i u e; rw [e]; exact .inl h
  · rename_i e
    split at h
    · rename_i f e2; cases h; exact .inr ⟨e, e2, _, rfl⟩
    · cases h
theorem fzx_ext {a : Addr} {f : Heap → Prop} (h : H1 a = some (.ext f)) (n : Fz a = none) : fzx Fz H1 a = some (.ext f) := by unfold fzx; rw [n]; simp only [h]
theorem fzx_none {a : Addr} (n : Fz a = none) (h : ∀ f, H1 a ≠ some (.ext f)) : fzx Fz H1 a = none := by
  cases q : fzx Fz H1 a with
  | none => rfl
  | some o =>
    rcases fzx_of q with e | ⟨_, e, f, rfl⟩
    · rw [n] at e; cases e
    · exact absurd e (h f)
/-- the frame over the heap in which a lambda was made -/
theorem FrK.made (x : FrK Γ K g Fz H σ ρ κ) (kt : ∀ a, Γ.kt a → a ∈ Γ.tb.map (·.1)) (m : Made Γ.tb H H1) : FrK Γ K g (fzx Fz H1) H1 σ ρ κ := by
  have noT : ∀ a o, H a = some o → a ∉ Γ.tb.map (·.1) → ∀ ps, o ≠ .tbl ps := fun a o h n ps z => by
    subst z; exact n (kt a (x.tups a _ h))
  have kp : ∀ a o, H a = some o → a ∉ Γ.tb.map (·.1) → H1 a = some o := fun a o h n => m.ext a o h (noT a o h n)
  have outT : ∀ a, a ∈ Γ.tb.map (·.1) → Fz a = none ∧ g.P a = none ∧ ∀ i, a ∉ κ i := fun a h => x.cch.out a (.inr h)
  have fzT : ∀ a o, Fz a = some o → a ∉ Γ.tb.map (·.1) := fun a o h z => by rw [(outT a z).1] at h; cases h
  have free : ∀ a o, H a = some o → Fz a = none → a ∉ Γ.tb.map (·.1) → fzx Fz H1 a = none := fun a o h n nt => fzx_none n fun f e => by
    have q := kp a o h nt
    rw [e] at q; cases q
    have z : Fz a = some (.ext f) := x.tups a _ h
    rw [n] at z; cases z
  have sub : Sub (fzx Fz H1) H1 := fun a o h => (fzx_of h).elim (fun e => kp a o (x.sub a o e) (fzT a o e)) fun e => e.2.1
  have ins : ∀ b dx fs, fzx Fz H1 b = some (.ins (Γ.ad 0) dx fs) → Fz b = some (.ins (Γ.ad 0) dx fs) := fun b dx fs h => (fzx_of h).elim id fun ⟨_, _, _, z⟩ => by cases z
  have icch : ∀ a, IsCch Γ (fzx Fz H1) a → IsCch Γ Fz a := fun a h => h.imp (fun ⟨f, b, dx, fs, e1, e2, e3⟩ => ⟨f, b, dx, fs, e1, ins _ _ _ e2, e3⟩) id
  refine ⟨sub, fun a o h => ?_, x.len, fun i s hs => ?_, fun i a ha => ?_, x.disj, ⟨fun f b dx fs hf hb => ?_, fun a ha => ?_, fun f b b' dx dx' fs fs' a hf e1 e2 e3 e4 => x.cch.inj f b b' dx dx' fs fs' a hf (ins _ _ _ e1) (ins _ _ _ e2) e3 e4, fun p hp => ?_⟩, fun a o h => ?_⟩
  · obtain ⟨e1, e2⟩ := x.prot a o h
    have nt : a ∉ Γ.tb.map (·.1) := fun z => by rw [(outT a z).2.1] at h; cases h
    exact ⟨kp a o e1 nt, free a o e1 e2 nt⟩
  · refine (x.slot i s hs).mono fzx_sub fun a ha => ?_
    obtain ⟨_, _, _, o, e⟩ := x.fresh i a ha
    rw [e, kp a o e fun z => (outT a z).2.2 i ha]
  · obtain ⟨h0, h1, h2, o, e⟩ := x.fresh i a ha
    have nt : a ∉ Γ.tb.map (·.1) := fun z => (outT a z).2.2 i ha
    exact ⟨h0, free a o e h1 nt, h2, o, kp a o e nt⟩
  · obtain ⟨a, kvs, e1, e2, e3⟩ := x.cch.at_ f b dx fs hf (ins _ _ _ hb)
    exact ⟨a, kvs, e1, m.ext a _ e2 nofun, e3.mono fzx_sub⟩
  · obtain ⟨o, hl, e⟩ := x.cch.there (icch a ha)
    obtain ⟨o1, o2, o3⟩ := x.cch.out a (icch a ha)
    refine ⟨?_, o2, o3⟩
    by_cases nt : a ∈ Γ.tb.map (·.1)
    · obtain ⟨p, hp, rfl⟩ := List.mem_map.mp nt
      obtain ⟨ps, q, _⟩ := m.tabs p hp
      exact fzx_none o1 fun f z => by rw [q] at z; cases z
    · exact free a o e o1 nt
  · obtain ⟨ps, q1, q2, q3⟩ := m.tabs p hp
    refine ⟨ps, q1, q2, fun pos cv hv => ?_⟩
    obtain ⟨c, e1, e2⟩ := q3 pos cv hv
    refine ⟨c, e1, ?_⟩
    cases q : Fz c with
    | none => exact fzx_ext e2 q
    | some o =>
      have z := sub c o (fzx_sub c o q)
      rw [e2] at z; cases z
      exact fzx_sub c _ q
  · rcases m.new a o h with e | e | ⟨f, rfl⟩
    · by_cases nt : a ∈ Γ.tb.map (·.1)
      · obtain ⟨p, hp, rfl⟩ := List.mem_map.mp nt
        obtain ⟨ps, q, _⟩ := m.tabs p hp
        rw [q] at h; cases h
        obtain ⟨ps0, q0, _⟩ := x.cch.tab p hp
        exact x.tups p.1 _ q0
      · exact (x.tups a o e).mono fzx_sub
    · obtain ⟨p, hp, rfl⟩ := List.mem_map.mp e
      obtain ⟨ps, q, _⟩ := m.tabs p hp
      rw [q] at h; cases h
      obtain ⟨ps0, q0, _⟩ := x.cch.tab p hp
      exact x.tups p.1 _ q0
    · cases q : Fz a with
      | none => exact fzx_ext h q
      | some o =>
        have z := sub a o (fzx_sub a o q)
        rw [h] at z; cases z
        exact fzx_sub a _ q
theorem FrK.tabs (x : FrK Γ K g Fz H σ ρ κ) : Tabs Γ.tb H := fun p hp => by
  obtain ⟨ps, q1, q2, q3⟩ := x.cch.tab p hp
  exact ⟨ps, q1, q2, fun pos cv hv => let ⟨c, e1, e2⟩ := q3 pos cv hv; ⟨c, e1, x.sub _ _ e2⟩⟩
end
section
variable {b : Bool} {Γ : Ct} {W : WX} {X : Cx} {cs : List Nat} {n k : Nat} {ks : List Cd} {x : Str} {prm : Arguments} {bd : Expr} {lsc : Scope} {p lp pos : Pos} {cd tab : Addr} {me : M D}
/-- where the maker's code object stands, its table, and what Γ tells of it -/
structure MkL (Γ : Ct) (X : Cx) (cd tab : Addr) : Prop where
  B : TabB X.base X.mg cd tab
  code : X.env.code = .ref cd
  mem : (tab, lq X) ∈ Γ.tb
  one : ∀ p ∈ Γ.tb, p.1 = tab → p.2 = lq X
  kt : ∀ a, Γ.kt a → a ∈ Γ.tb.map (·.1)
end
end L3
namespace L3
open PySem PySem.Spec PyProof.Rows L2
end L3
namespace L3
open PySem PySem.Spec PyProof.Rows L2
section
variable {X : Cx}
end
section
variable {Γ : Ct} {K : PySem.W.Frag}
end
section
variable {Γ : Ct} {W : WX} {X : Cx} {te : TE} {m : M Bv} {e : Expr} {p pos : Pos}
end
end L3
namespace L3S
open PySem PySem.Spec PyProof.Rows Srt SrtO L2
section
variable {P : Program} {w : World} {A : Around} {E : Value → Shared → Prop} {s : Shared}
end
end L3S
namespace L3
open PySem PySem.Spec PyProof.Rows L2 SrtO L3S
section
variable {X : Cx}
end
section
variable {Γ : Ct} {K : PySem.W.Frag}
end
section
variable {Γ : Ct} {W : WX} {X : Cx} {te : TE} {m : M Bv} {e : Expr} {p p2 q pos : Pos}
end
end L3

namespace Q
open PySem PySem.Spec PyProof.Rows L2 L3
noncomputable section
def m_eqBook : MS :=
  (seqS (mIfS (mNot (mTru (M.map Bv.val (mUn (fIsC [0] 0) (mSl 1))))) (seqS (mRet (M.ret (.bl false)))
  mNx) mNx)
  (seqS (mRet (mAndV (mOp fEq (M.map Bv.val (mUn (fFld 0 0) (mSl 0))) (M.map Bv.val (mUn (fFld 0 0) (mSl 1)))) (mOp fEq (M.map Bv.val (mUn (fFld 0 1) (mSl 0))) (M.map Bv.val (mUn (fFld 0 1) (mSl 1))))))
  mNx))
def P_eqBook : Fn := fnOf 2 m_eqBook
def w1__wall : M Bool := (mTru (M.map Bv.val (M.ret (.bl true))))
def b2__wall : MS := (seqS mNx
  mNx)
def m__wall : MS :=
  (seqS (mWhile w1__wall b2__wall)
  mNx)
def P__wall : Fn := fnOf 1 m__wall
def m_is_integer : MS :=
  (seqS (mRet (mAndV (mUn (fIsT "int") (mSl 0)) (mNotV (mUn (fIsT "bool") (mSl 0)))))
  mNx)
def P_is_integer : Fn := fnOf 1 m_is_integer
def m_is_number : MS :=
  (seqS (mRet (mAndV (mCall P_is_integer 1 (mACons (mVal (mVar 0)) mANil)) (mOp fGe (mSl 0) (M.map Bv.val (M.ret (.int 0))))))
  mNx)
def P_is_number : Fn := fnOf 1 m_is_number
def m_is_sequence : MS :=
  (seqS (mRet (mUn (fIsT2 "list" "tuple") (mSl 0)))
  mNx)
def P_is_sequence : Fn := fnOf 1 m_is_sequence
def e1_is_batch : M D := (mCall P_is_number 1 (mACons (mVal (mVar 2)) mANil))
def m_is_batch : MS :=
  (seqS (mIfS (mOr (mNot (mTru (M.map Bv.val (mUn (fIsT "tuple") (mSl 1))))) (mOr (asB (mOp fNe (M.map Bv.val (mUn fLen (mSl 1))) (mSl 0))) (mNot (mTru (M.map Bv.val (mUn fAll (M.map Bv.val (M.map D.lst (mComp [2] (mSeq (mSqS 1)) (gNm 2) mYes e1_is_batch))))))))) (seqS (mRet (M.ret (.bl false)))
  mNx) mNx)
  (seqS (mRet (mOp fGt (M.map Bv.val (mUn fSum (mSl 1))) (M.map Bv.val (M.ret (.int 0)))))
  mNx))
def P_is_batch : Fn := fnOf 3 m_is_batch
def e1_law_draw : M D := (mUn fAbs (M.map Bv.val (mUn fInt (mSl 4))))
def b2_law_draw : MS := (seqS (mSet 3 (mOp fMod (M.map Bv.val (mUn fInt (M.map Bv.val (mOp fPlus (M.map Bv.val (mOp fPlus (M.map Bv.val (mOp fMul (mSl 3) (M.map Bv.val (M.ret (.int 48271))))) (M.map Bv.val (mOp fMod (mSl 4) (M.map Bv.val (M.ret (.int 2147483549))))))) (M.map Bv.val (M.ret (.int 11))))))) (M.map Bv.val (M.ret (.int 2147483647)))))
  mNx)
def t3_law_draw : M Bool := (asB (mOp fGe (mSl 4) (M.map Bv.val (mOp fPow (M.map Bv.val (M.ret (.int 10))) (M.map Bv.val (M.ret (.int 18)))))))
def dr_law_draw : List Int → Int → Option (List Int × Int) := drOf 5 (fun ns => mOwn 2 (mComp [4] (mScr ns 48) (gNm 4) mYes e1_law_draw)) (seqS (mSet 3 (mOp fPlus (M.map Bv.val (M.ret (.int 7919))) (M.map Bv.val (mOp fMul (M.map Bv.val (M.ret (.int 104729))) (mSl 1))))) (mFor (mSeq (mSqV 2)) (gNm 4) b2_law_draw)) (mDlR (mComp [4] (mSeq (mSqS 2)) (gNm 4) t3_law_draw (mVar 4)) 3)
def w1_law_any : M Bool := (mAnd (asB (mDlNe 0)) (asB (mOp fEq (M.map Bv.val (mDlLast 0)) (M.map Bv.val (M.ret (.int 0))))))
def b2_law_any : MS := (seqS (mExpr (mDlPop 0))
  mNx)
def m_law_any : MS :=
  (seqS (mWhile w1_law_any b2_law_any)
  (seqS (mIfS (asB (mDlNe 0)) (seqS (mSet 2 (mUn fInt (M.map Bv.val (mDlPop 0))))
  (seqS (mExpr (mDlAppDiv 0 2 1))
  (seqS (mRet (mOp fMod (mSl 2) (mSl 1)))
  mNx))) mNx)
  (seqS (mDlSet 0 (M.map Bv.val (mOp fMod (M.map Bv.val (mUn fInt (M.map Bv.val (mOp fPlus (M.map Bv.val (mOp fMul (M.map Bv.val (mDl1 0)) (M.map Bv.val (M.ret (.int 40693))))) (M.map Bv.val (M.ret (.int 71))))))) (M.map Bv.val (M.ret (.int 2147483647))))))
  (seqS (mRet (mOp fMod (M.map Bv.val (mUn fInt (M.map Bv.val (mOp fDiv (M.map Bv.val (mDl1 0)) (M.map Bv.val (M.ret (.int 64))))))) (mSl 1)))
  mNx))))
def P_law_any : Fn := fnOf 3 m_law_any
def m_law_of : MS :=
  (seqS (mRet (mOp fIx (mSl 1) (M.map Bv.val (mCall P_law_any 2 (mACons (mIo 0) (mACons (mVal (mUn fLen (mSl 1))) mANil))))))
  mNx)
def P_law_of : Fn := fnOf 2 m_law_of
def e1_law_within : M D := (mOp fLe (mSl 3) (M.map Bv.val (mOp fIx (mSl 1) (mSl 2))))
def m_law_within : MS :=
  (seqS (mRet (mUn fAll (M.map Bv.val (M.map D.lst (mComp [2, 3] (mEnum (mSqS 0)) (gTp 2 (gC (gNm 2) (gC (gNm 3) gN0))) mYes e1_law_within)))))
  mNx)
def P_law_within : Fn := fnOf 4 m_law_within
def e1_law_more : M D := (mOp fPlus (mSl 3) (M.map Bv.val (mOp fIx (mSl 1) (mSl 2))))
def m_law_more : MS :=
  (seqS (mRet (mUn fTup (M.map Bv.val (M.map D.lst (mComp [2, 3] (mEnum (mSqS 0)) (gTp 2 (gC (gNm 2) (gC (gNm 3) gN0))) mYes e1_law_more)))))
  mNx)
def P_law_more : Fn := fnOf 4 m_law_more
def e1_law_crowds (rec : Fn) : M D := (mOp fPlus (M.map Bv.val (mTup (mCons (mVar 3) mNil))) (mSl 4))
def b2_law_crowds (rec : Fn) : MS := (seqS (mSet 2 (mOp fPlus (mSl 2) (M.map Bv.val (M.map D.lst (mComp [4] (mSeq (mSq (mCall rec 2 (mACons (mVal (mOp fSub (mSl 0) (M.map Bv.val (M.ret (.int 1))))) (mACons (mVal (mOp fSub (mSl 1) (mSl 3))) mANil))))) (gNm 4) mYes (e1_law_crowds rec))))))
  mNx)
def m_law_crowds (rec : Fn) : MS :=
  (seqS (mIfS (asB (mOp fEq (mSl 0) (M.map Bv.val (M.ret (.int 1))))) (seqS (mRet (M.map D.lst (mLst (mCons (mTup (mCons (mVar 1) mNil)) mNil))))
  mNx) mNx)
  (seqS (mSet 2 (M.map D.lst (mLst mNil)))
  (seqS (mFor (mRange1 (M.map Bv.val (mOp fPlus (mSl 1) (M.map Bv.val (M.ret (.int 1)))))) (gNm 3) (b2_law_crowds rec))
  (seqS (mRet (mVar 2))
  mNx))))
def P_law_crowds : Nat → Fn
  | 0 => fun _ => none
  | n + 1 => fnOf 5 (m_law_crowds (P_law_crowds n))
def e1_law_zero : M D := (mOp fMul (mSl 7) (M.map Bv.val (mOp fIx (M.map Bv.val (mOp fIx (mSl 1) (mSl 3))) (mSl 6))))
def b2_law_zero : MS := (seqS (mSet 5 (mUn fSum (M.map Bv.val (M.map D.lst (mComp [6, 7] (mEnum (mSqS 2)) (gTp 2 (gC (gNm 6) (gC (gNm 7) gN0))) mYes e1_law_zero)))))
  (seqS (mIfS (mAnd (asB (mOp fNe (mSl 5) (M.map Bv.val (M.ret (.int 0))))) (mOr (asB (mOp fEq (mSl 4) (M.map Bv.val (M.ret (.int 0))))) (asB (mOp fNe (M.map Bv.val (mOp fMod (M.map Bv.val (mUn fInt (mSl 5))) (mSl 4))) (M.map Bv.val (M.ret (.int 0))))))) (seqS (mRet (M.ret (.bl false)))
  mNx) mNx)
  mNx))
def m_law_zero : MS :=
  (seqS (mFor (mEnum (mSqV 0)) (gTp 2 (gC (gNm 3) (gC (gNm 4) gN0))) b2_law_zero)
  (seqS (mRet (M.ret (.bl true)))
  mNx))
def P_law_zero : Fn := fnOf 8 m_law_zero
def t1_law_named : M Bool := (mTru (M.map Bv.val (mCall P_law_within 2 (mACons (mVal (mVar 10)) (mACons (mVal (mVar 7)) mANil)))))
def b2_law_named : MS := (seqS (mIfS (mAnd (mTru (M.map Bv.val (mCall P_law_zero 3 (mACons (mVal (mVar 3)) (mACons (mVal (mVar 4)) (mACons (mVal (mVar 7)) mANil)))))) (asB (mOp fEq (M.map Bv.val (M.map D.lst (mComp [10] (mSeq (mSqS 5)) (gNm 10) t1_law_named (mVar 10)))) (M.map Bv.val (M.map D.lst (mLst mNil)))))) (seqS (mExpr (mApp 5 (mVar 7)))
  mNx) mNx)
  mNx)
def b3_law_named : MS := (seqS (mFor (mSeq (mSq (mCall (P_law_crowds 16) 2 (mACons (mVal (mVar 1)) (mACons (mVal (mVar 6)) mANil))))) (gNm 7) b2_law_named)
  mNx)
def e4_law_named : M D := (mIf (asB (mOp fGt (mSl 8) (M.map Bv.val (M.ret (.int 0))))) (mCall P_law_any 2 (mACons (mIo 0) (mACons (mVal (mVar 8)) mANil))) (mCall P_law_of 2 (mACons (mIo 0) (mACons (mVal (M.map D.lst (mLst (mCons (M.ret (.int 1)) (mCons (M.ret (.int 2)) (mCons (mUn fNeg (M.map Bv.val (M.ret (.int 1)))) (mCons (mUn fNeg (M.map Bv.val (M.ret (.int 2)))) (mCons (M.ret (.int 0)) mNil)))))))) mANil))))
def e5_law_named : M D := (M.map D.lst (mComp [9] (mRange1 (mSl 1)) (gNm 9) mYes e4_law_named))
def m_law_named : MS :=
  (seqS (mSet 2 (mCall P_law_any 2 (mACons (mIo 0) (mACons (mVal (M.ret (.int 6))) mANil))))
  (seqS (mSet 3 (mOp fIx (M.map Bv.val (M.map D.lst (mLst (mCons (M.map D.lst (mLst (mCons (M.ret (.int 2)) mNil))) (mCons (M.map D.lst (mLst (mCons (M.ret (.int 3)) mNil))) (mCons (M.map D.lst (mLst (mCons (M.ret (.int 4)) mNil))) (mCons (M.map D.lst (mLst (mCons (M.ret (.int 2)) (mCons (M.ret (.int 2)) mNil)))) (mCons (M.map D.lst (mLst (mCons (M.ret (.int 0)) mNil))) (mCons (M.map D.lst (mLst (mCons (M.ret (.int 5)) mNil))) mNil))))))))) (mSl 2)))
  (seqS (mOwn 4 (mComp [8] (mSeq (mSqS 3)) (gNm 8) mYes e5_law_named))
  (seqS (mOwn 5 (mLst mNil))
  (seqS (mFor (mRange2 (M.map Bv.val (M.ret (.int 1))) (M.map Bv.val (mIf (asB (mOp fLt (mSl 1) (M.map Bv.val (M.ret (.int 4))))) (M.ret (.int 7)) (M.ret (.int 5))))) (gNm 6) b3_law_named)
  (seqS (mRet (mTup (mCons (mVar 3) (mCons (mVar 4) (mCons (M.map D.lst (mUnO fSrt (mSl 5))) mNil)))))
  mNx))))))
def P_law_named : Fn := fnOf 11 m_law_named
def b1_law_book : MS := (seqS (mSet 7 (mCall P_law_of 2 (mACons (mIo 0) (mACons (mVal (mCall (P_law_crowds 16) 2 (mACons (mVal (mVar 2)) (mACons (mVal (mOp fPlus (M.map Bv.val (M.ret (.int 1))) (M.map Bv.val (mCall P_law_any 2 (mACons (mIo 0) (mACons (mVal (M.ret (.int 4))) mANil)))))) mANil)))) mANil))))
  (seqS (mIfS (asB (mOp fNotIn (mSl 7) (mSl 4))) (seqS (mExpr (mApp 4 (mVar 7)))
  mNx) mNx)
  mNx))
def m_law_book : MS :=
  (seqS (mPar 2 3 (mCons (mOp fPlus (M.map Bv.val (M.ret (.int 1))) (M.map Bv.val (mCall P_law_any 2 (mACons (mIo 0) (mACons (mVal (mVar 1)) mANil))))) (mCons (mCall P_law_any 2 (mACons (mIo 0) (mACons (mVal (M.ret (.int 5))) mANil))) mNil)))
  (seqS (mIfS (asB (mOp fLt (mSl 3) (M.map Bv.val (M.ret (.int 3))))) (seqS (mOwn 4 (mSliL (M.map Bv.val (mOp fIx (M.map Bv.val (mCall P_law_named 2 (mACons (mIo 0) (mACons (mVal (mVar 2)) mANil)))) (M.map Bv.val (M.ret (.int 2))))) mNoP (mPart (M.map Bv.val (M.ret (.int 11))))))
  (seqS (mIfS (mAnd (asB (mOp fEq (mSl 3) (M.map Bv.val (M.ret (.int 1))))) (asB (mOp fGt (M.map Bv.val (mUn fLen (mSl 4))) (M.map Bv.val (M.ret (.int 1)))))) (seqS (mSet 5 (mCall P_law_more 2 (mACons (mVal (mCall P_law_of 2 (mACons (mIo 0) (mACons (mVal (mVar 4)) mANil)))) (mACons (mVal (mCall P_law_of 2 (mACons (mIo 0) (mACons (mVal (mVar 4)) mANil)))) mANil))))
  (seqS (mSet 4 (mIf (mAnd (asB (mOp fNotIn (mSl 5) (mSl 4))) (asB (mOp fLt (M.map Bv.val (mUn fSum (mSl 5))) (M.map Bv.val (M.ret (.int 9)))))) (M.map D.lst (mUnO fSrt (M.map Bv.val (mOp fPlus (mSl 4) (M.map Bv.val (M.map D.lst (mLst (mCons (mVar 5) mNil)))))))) (mVar 4)))
  mNx)) mNx)
  (seqS (mIfS (mAnd (asB (mOp fEq (mSl 3) (M.map Bv.val (M.ret (.int 2))))) (asB (mOp fNe (mSl 4) (M.map Bv.val (M.map D.lst (mLst mNil)))))) (seqS (mExpr (mPopAt 4 (M.map Bv.val (mCall P_law_any 2 (mACons (mIo 0) (mACons (mVal (mUn fLen (mSl 4))) mANil))))))
  mNx) mNx)
  (seqS (mRet (mTup (mCons (mVar 2) (mCons (mVar 4) mNil))))
  mNx)))) mNx)
  (seqS (mOwn 4 (mLst mNil))
  (seqS (mFor (mRange1 (M.map Bv.val (mCall P_law_any 2 (mACons (mIo 0) (mACons (mVal (M.ret (.int 5))) mANil))))) (gNm 6) b1_law_book)
  (seqS (mRet (mTup (mCons (mVar 2) (mCons (M.map D.lst (mUnO fSrt (mSl 4))) mNil))))
  mNx)))))
def P_law_book : Fn := fnOf 8 m_law_book
def b1_init_Book : MS := (seqS (mIfS (mOr (mNot (mTru (M.map Bv.val (mCall P_is_batch 2 (mACons (mAny 1) (mACons (mVal (mVar 4)) mANil)))))) (asB (mOp fIn (mSl 4) (M.map Bv.val (mSli (mSl 2) mNoP (mPart (mSl 3))))))) (seqS (mRaise 10 (mOp fPlus (M.map Bv.val (M.ret (.int 1))) (mSl 3)))
  mNx) mNx)
  mNx)
def m_init_Book : M (List D) :=
  (mIniPre (mIfS (mOr (mNot (mTru (M.map Bv.val (mCall P_is_number 1 (mACons (mAny 1) mANil))))) (asB (mOp fEq (mSl 1) (M.map Bv.val (M.ret (.int 0)))))) (seqS (mRaise 10 (M.ret (.int 0)))
  mNx) mNx)
  (mIniPre (mIfS (mNot (mTru (M.map Bv.val (mCall P_is_sequence 1 (mACons (mAny 2) mANil))))) (seqS (mRaise 10 (M.ret (.int 1)))
  mNx) mNx)
  (mIniPre (mFor (mEnum (mSqV 2)) (gTp 2 (gC (gNm 3) (gC (gNm 4) gN0))) b1_init_Book)
  (mIniFld (mVar 1)
  (mIniFld (mUn fTup (M.map Bv.val (M.map D.lst (mUnO fSrt (mSl 2)))))
  mIniNil)))))
def P_init_Book : List Slot → Option MO := pIni 5 m_init_Book
end
end Q
namespace Q
open PySem PySem.Spec PyProof.Rows L2 L3
noncomputable section
def e1_book_text : M D := (mUn fStr (mSl 3))
def e2_book_text : M D := (mUn (fJoin " ") (M.map Bv.val (M.map D.lst (mComp [3] (mSeq (mSqS 2)) (gNm 3) mYes e1_book_text))))
def m_book_text : MS :=
  (seqS (mSet 1 (M.map D.lst (mLst (mCons (mUn (fFmt "kinds ") (M.map Bv.val (mUn (fFld 0 0) (mSl 0)))) mNil))))
  (seqS (mRet (mUn (fJoin "\n") (M.map Bv.val (mOp fPlus (mSl 1) (M.map Bv.val (M.map D.lst (mComp [2] (mSeq (mSq (mUn (fFld 0 1) (mSl 0)))) (gNm 2) mYes e2_book_text)))))))
  mNx))
def P_book_text : Fn := fnOf 4 m_book_text
def e1_numbers_of : M D := (mUn fIntS (mSl 2))
def e2_numbers_of : M D := (mOp fInSign (mSl 3) (M.map Bv.val (M.ret (.str "0123456789"))))
def b3_numbers_of : MS := (seqS (mIfS (mOr (mNot (asB (mChain fLe fLe (M.map Bv.val (M.ret (.int 1))) (M.map Bv.val (mUn fLen (mSl 2))) (M.map Bv.val (M.ret (.int 2)))))) (mNot (mTru (M.map Bv.val (mUn fAll (M.map Bv.val (M.map D.lst (mComp [3] (mSigns (mVar 2)) (gNm 3) mYes e2_numbers_of)))))))) (seqS (mRaise 15 (mVar 1))
  mNx) mNx)
  (seqS (mIfS (mAnd (asB (mOp fEq (M.map Bv.val (mUn fLen (mSl 2))) (M.map Bv.val (M.ret (.int 2))))) (asB (mOp fEq (M.map Bv.val (mOp fIx (mSl 2) (M.map Bv.val (M.ret (.int 0))))) (M.map Bv.val (M.ret (.str "0")))))) (seqS (mRaise 15 (mVar 1))
  mNx) mNx)
  mNx))
def m_numbers_of : MS :=
  (seqS (mFor (mSeq (mSqV 0)) (gNm 2) b3_numbers_of)
  (seqS (mRet (mUn fTup (M.map Bv.val (M.map D.lst (mComp [2] (mSeq (mSqS 0)) (gNm 2) mYes e1_numbers_of)))))
  mNx))
def P_numbers_of : Fn := fnOf 4 m_numbers_of
def m_law_line : MS :=
  (seqS (mIfS (asB (mOp fEq (mSl 3) (M.map Bv.val (M.ret (.int 0))))) (seqS (mRet (mCall P_law_of 2 (mACons (mIo 0) (mACons (mVal (M.map D.lst (mLst (mCons (M.ret (.str "")) (mCons (M.ret (.str "kinds")) (mCons (M.ret (.str "kinds ")) (mCons (M.ret (.str "kinds 0")) (mCons (M.ret (.str "kinds 01")) (mCons (M.ret (.str "kinds x")) (mCons (M.ret (.str "Kinds 2")) (mCons (M.ret (.str "kinds  2")) (mCons (M.ret (.str "kinds 2 2")) (mCons (M.ret (.str "kinds 100")) (mCons (M.ret (.str "2")) mNil)))))))))))))) mANil))))
  mNx) mNx)
  (seqS (mIfS (mAnd (asB (mOp fGt (mSl 3) (M.map Bv.val (M.ret (.int 1))))) (asB (mOp fEq (M.map Bv.val (mCall P_law_any 2 (mACons (mIo 0) (mACons (mVal (M.ret (.int 2))) mANil)))) (M.map Bv.val (M.ret (.int 0)))))) (seqS (mRet (mOp fIx (mSl 2) (M.map Bv.val (mOp fSub (mSl 3) (M.map Bv.val (M.ret (.int 1)))))))
  mNx) mNx)
  (seqS (mSet 4 (M.map D.lst (mOpO fRepL (M.map Bv.val (M.map D.lst (mLst (mCons (M.ret (.str "1")) mNil)))) (mSl 1))))
  (seqS (mSet 5 (M.map D.lst (mLst (mCons (mOp fPlus (mSl 4) (M.map Bv.val (M.map D.lst (mLst (mCons (M.ret (.str "1")) mNil))))) (mCons (mSli (mSl 4) (mPart (M.map Bv.val (M.ret (.int 1)))) mNoP) (mCons (mOp fPlus (M.map Bv.val (M.map D.lst (mLst (mCons (M.ret (.str "01")) mNil)))) (M.map Bv.val (mSli (mSl 4) (mPart (M.map Bv.val (M.ret (.int 1)))) mNoP))) (mCons (mOp fPlus (M.map Bv.val (M.map D.lst (mLst (mCons (M.ret (.str "-1")) mNil)))) (M.map Bv.val (mSli (mSl 4) (mPart (M.map Bv.val (M.ret (.int 1)))) mNoP))) (mCons (mOp fPlus (M.map Bv.val (M.map D.lst (mLst (mCons (M.ret (.str "x")) mNil)))) (M.map Bv.val (mSli (mSl 4) (mPart (M.map Bv.val (M.ret (.int 1)))) mNoP))) (mCons (mOp fPlus (M.map Bv.val (M.map D.lst (mLst (mCons (M.ret (.str "")) mNil)))) (M.map Bv.val (mSli (mSl 4) (mPart (M.map Bv.val (M.ret (.int 1)))) mNoP))) (mCons (mOp fPlus (M.map Bv.val (M.map D.lst (mLst (mCons (M.ret (.str "100")) mNil)))) (M.map Bv.val (mSli (mSl 4) (mPart (M.map Bv.val (M.ret (.int 1)))) mNoP))) (mCons (M.map D.lst (mOpO fRepL (M.map Bv.val (M.map D.lst (mLst (mCons (M.ret (.str "0")) mNil)))) (mSl 1))) mNil)))))))))))
  (seqS (mRet (mUn (fJoin " ") (M.map Bv.val (mCall P_law_of 2 (mACons (mIo 0) (mACons (mVal (mOp fPlus (mSl 5) (M.map Bv.val (M.map D.lst (mLst (mCons (mOp fPlus (mSl 4) (M.map Bv.val (M.map D.lst (mLst (mCons (M.ret (.str "")) mNil))))) (mCons (mOp fPlus (M.map Bv.val (M.map D.lst (mLst (mCons (M.ret (.str " 1")) mNil)))) (M.map Bv.val (mSli (mSl 4) (mPart (M.map Bv.val (M.ret (.int 1)))) mNoP))) mNil))))))) mANil))))))
  mNx)))))
def P_law_line : Fn := fnOf 6 m_law_line
def b1_read_book : MS := (seqS (mSet 6 (mCall P_numbers_of 2 (mACons (mVal (M.map D.lst (mUnO (fSplit " ") (M.map Bv.val (mOp fIx (mSl 1) (mSl 5)))))) (mACons (mVal (mVar 5)) mANil))))
  (seqS (mIfS (mOr (asB (mOp fNe (M.map Bv.val (mUn fLen (mSl 6))) (mSl 3))) (mOr (asB (mOp fEq (M.map Bv.val (mUn fSum (mSl 6))) (M.map Bv.val (M.ret (.int 0))))) (mAnd (asB (mOp fGt (M.map Bv.val (mUn fLen (mSl 4))) (M.map Bv.val (M.ret (.int 0))))) (asB (mOp fLeT (mSl 6) (M.map Bv.val (mOp fIx (mSl 4) (M.map Bv.val (mUn fNeg (M.map Bv.val (M.ret (.int 1)))))))))))) (seqS (mRaise 15 (mVar 5))
  mNx) mNx)
  (seqS (mExpr (mApp 4 (mVar 6)))
  mNx)))
def m_read_book : MS :=
  (seqS (mIfS (mNot (mTru (M.map Bv.val (mUn (fIsT "str") (mSl 0))))) (seqS (mRaise 15 (M.ret (.int 0)))
  mNx) mNx)
  (seqS (mSet 1 (M.map D.lst (mUnO (fSplit "\n") (mSl 0))))
  (seqS (mSet 2 (M.map D.lst (mUnO (fSplit " ") (M.map Bv.val (mOp fIx (mSl 1) (M.map Bv.val (M.ret (.int 0))))))))
  (seqS (mIfS (mOr (asB (mOp fNe (M.map Bv.val (mUn fLen (mSl 2))) (M.map Bv.val (M.ret (.int 2))))) (asB (mOp fNe (M.map Bv.val (mOp fIx (mSl 2) (M.map Bv.val (M.ret (.int 0))))) (M.map Bv.val (M.ret (.str "kinds")))))) (seqS (mRaise 15 (M.ret (.int 0)))
  mNx) mNx)
  (seqS (mParN [3, 4] (mPKeep (mOp fIx (M.map Bv.val (mCall P_numbers_of 2 (mACons (mVal (mSli (mSl 2) (mPart (M.map Bv.val (M.ret (.int 1)))) mNoP)) (mACons (mVal (M.ret (.int 0))) mANil)))) (M.map Bv.val (M.ret (.int 0)))) (mPFresh (mLst mNil) mPNil)))
  (seqS (mIfS (asB (mOp fEq (mSl 3) (M.map Bv.val (M.ret (.int 0))))) (seqS (mRaise 15 (M.ret (.int 0)))
  mNx) mNx)
  (seqS (mFor (mRange2 (M.map Bv.val (M.ret (.int 1))) (M.map Bv.val (mUn fLen (mSl 1)))) (gNm 5) b1_read_book)
  (seqS (mRet (mMake 0 2 P_init_Book (mACons (mVal (mVar 3)) (mACons (mBor 4) mANil))))
  mNx))))))))
def P_read_book : Fn := fnOf 7 m_read_book
def m_law_read : MS :=
  (seqS (mTry [10, 15] 15 1 some (seqS (mRet (mCall P_read_book 1 (mPick [0] 1 (mACons (mVal (mVar 0)) mANil))))
  mNx))
  mNx)
def P_law_read : Fn := fnOf 2 m_law_read
def e1_law_k04 : M D := (mUn fStr (mSl 13))
def b2_law_k04 : MS := (seqS (mExpr (mApp 5 (mUn (fJoin " ") (M.map Bv.val (M.map D.lst (mComp [13] (mSeq (mSqS 6)) (gNm 13) mYes e1_law_k04))))))
  mNx)
def m_law_k04 : MS :=
  (seqS (mAsg (gTp 2 (gC (gNm 2) (gC (gNm 3) gN0))) (mCall P_law_book 2 (mACons (mIo 1) (mACons (mVal (M.ret (.int 4))) mANil))))
  (seqS (mSet 4 (mMake 0 2 P_init_Book (mACons (mVal (mVar 2)) (mACons (mVal (mVar 3)) mANil))))
  (seqS (mOwn 5 (mLst (mCons (mOp fPlus (M.map Bv.val (M.ret (.str "kinds "))) (M.map Bv.val (mUn fStr (mSl 2)))) mNil)))
  (seqS (mFor (mSeq (mSqV 3)) (gNm 6) b2_law_k04)
  (seqS (mSet 7 (mUn (fJoin "\n") (mSl 5)))
  (seqS (mIfS (mOr (asB (mOp fNe (M.map Bv.val (mCall P_book_text 1 (mPick [0] 1 (mACons (mVal (mVar 4)) mANil)))) (mSl 7))) (asB (mEqO 0 P_eqBook true fNe (M.map Bv.val (mCall P_law_read 1 (mACons (mVal (mVar 7)) mANil))) (mSl 4)))) (seqS (mRet (M.ret (.bl false)))
  mNx) mNx)
  (seqS (mSet 8 (mCall P_law_any 2 (mACons (mIo 1) (mACons (mVal (mUn fLen (mSl 5))) mANil))))
  (seqS (mSet 9 (mOp fPlus (M.map Bv.val (mOp fPlus (M.map Bv.val (mSli (mSl 5) mNoP (mPart (mSl 8)))) (M.map Bv.val (M.map D.lst (mLst (mCons (mCall P_law_line 4 (mACons (mIo 1) (mACons (mVal (mVar 2)) (mACons (mVal (mVar 5)) (mACons (mVal (mVar 8)) mANil))))) mNil)))))) (M.map Bv.val (mSli (mSl 5) (mPart (M.map Bv.val (mOp fPlus (mSl 8) (M.map Bv.val (M.ret (.int 1)))))) mNoP))))
  (seqS (mIfS (asB (mEqO 0 P_eqBook true fNe (M.map Bv.val (mCall P_law_read 1 (mACons (mVal (mUn (fJoin "\n") (mSl 9))) mANil))) (mSl 8))) (seqS (mRet (M.ret (.bl false)))
  mNx) mNx)
  (seqS (mIfS (asB (mOp fGt (M.map Bv.val (mUn fLen (mSl 3))) (M.map Bv.val (M.ret (.int 1))))) (seqS (mSet 10 (mOp fPlus (M.map Bv.val (M.ret (.int 1))) (M.map Bv.val (mCall P_law_any 2 (mACons (mIo 1) (mACons (mVal (mOp fSub (M.map Bv.val (mUn fLen (mSl 3))) (M.map Bv.val (M.ret (.int 1))))) mANil))))))
  (seqS (mSet 11 (mOp fPlus (M.map Bv.val (mOp fPlus (M.map Bv.val (mSli (mSl 5) mNoP (mPart (mSl 10)))) (M.map Bv.val (M.map D.lst (mLst (mCons (mOp fIx (mSl 5) (M.map Bv.val (mOp fPlus (mSl 10) (M.map Bv.val (M.ret (.int 1)))))) (mCons (mOp fIx (mSl 5) (mSl 10)) mNil))))))) (M.map Bv.val (mSli (mSl 5) (mPart (M.map Bv.val (mOp fPlus (mSl 10) (M.map Bv.val (M.ret (.int 2)))))) mNoP))))
  (seqS (mIfS (asB (mEqO 0 P_eqBook true fNe (M.map Bv.val (mCall P_law_read 1 (mACons (mVal (mUn (fJoin "\n") (mSl 11))) mANil))) (M.map Bv.val (mOp fPlus (mSl 10) (M.map Bv.val (M.ret (.int 1))))))) (seqS (mRet (M.ret (.bl false)))
  mNx) mNx)
  mNx))) mNx)
  (seqS (mIfS (mOr (asB (mEqO 0 P_eqBook true fNe (M.map Bv.val (mCall P_law_read 1 (mACons (mVal (mOp fPlus (mSl 7) (M.map Bv.val (M.ret (.str "\n"))))) mANil))) (M.map Bv.val (mUn fLen (mSl 5))))) (asB (mEqO 0 P_eqBook true fNe (M.map Bv.val (mCall P_law_read 1 (mACons (mVal (mCall P_law_of 2 (mACons (mIo 1) (mACons (mVal (M.map D.lst (mLst (mCons (M.ret .non) (mCons (M.ret (.int 7)) (mCons (M.map D.lst (mLst (mCons (mVar 7) mNil))) (mCons (mTup (mCons (mVar 7) mNil)) mNil))))))) mANil)))) mANil))) (M.map Bv.val (M.ret (.int 0)))))) (seqS (mRet (M.ret (.bl false)))
  mNx) mNx)
  (seqS (mSet 12 (mCall P_law_read 1 (mACons (mVal (mUn (fJoin "\n") (M.map Bv.val (M.map D.lst (mLst (mCons (M.ret (.str "kinds 2")) (mCons (M.ret (.str "0 12")) (mCons (M.ret (.str "10 9")) mNil)))))))) mANil)))
  (seqS (mRet (mAndV (mEqO 0 P_eqBook false fEq (mSl 12) (M.map Bv.val (mMake 0 2 P_init_Book (mACons (mVal (M.ret (.int 2))) (mACons (mVal (M.map D.lst (mLst (mCons (mTup (mCons (M.ret (.int 0)) (mCons (M.ret (.int 12)) mNil))) (mCons (mTup (mCons (M.ret (.int 10)) (mCons (M.ret (.int 9)) mNil))) mNil))))) mANil))))) (mEqO 0 P_eqBook false fEq (M.map Bv.val (mCall P_law_read 1 (mACons (mVal (M.ret (.str "kinds 3"))) mANil))) (M.map Bv.val (mMake 0 2 P_init_Book (mACons (mVal (M.ret (.int 3))) (mACons (mVal (M.map D.lst (mLst mNil))) mANil)))))))
  mNx)))))))))))))
def lw_k04 : List Int → Bool := lawOf 14 1 dr_law_draw 4 m_law_k04
end
end Q
namespace L3
open PySem PySem.Spec PyProof.Rows L2
section
variable {P : Program} {w : World} {K : PySem.W.Frag} {mg mb : Str → Option Value} {k : Nat} {fa a : Addr} {fd : FuncData} {x : Str} {sp : Sp} {S : Shared} {vs : List Value} {ns : List Int}
/-- what a call of the law is to end in -/
def LwEnd (S : Shared) (r : Result) (s' : Shared) : Prop := r = .ok (.ret (.bool true)) ∧ OldK S.heap s'.heap ∧ s'.os = S.os ∧ AllBare s'.gens
theorem lw_core (H : Hp) (KX : K.In S.heap) (hns : S.heap.Ns mainGlobals mg) (hb : S.heap.Ns builtinsNs mb) (hbb : ∀ x : Str, x ≠ "__name__" → mb x = bootBuiltins x) (hlim : S.heap.NoLimit) (hg : S.gens = #[])
    (ha : S.heap.get? a = some { cls := .type "list", data := .seq vs.toArray }) (hr : Rm true k callerA) (F : ∀ base : Heap, K.In base → base.Ns mainGlobals mg → FnB true P w K mg base k fa fd [x] sp) (hbind : ∀ (s : Shared) (u : Value), BindsTo s fd ⟨[u], []⟩ [(x, u)])
    (hsp : sp [.ref a] H (fun v _ => v = .bl true) fun _ _ _ => False) (hO : Only H) (ok : HOk P w H S.heap) (hA : ∀ b, H b ≠ none → b = a) (hK : H a ≠ none → K.lookup a = none) :
    codeAny (model P w) callerA (.call (.ref fa) ⟨[.ref a], []⟩) (LwEnd S) S := by
  have un : ∀ {b : Addr}, b ≠ a → H b = none := fun {b} h => Classical.byContradiction fun q => h (hA b q)
  have up : ∀ {b : Addr} {o : Obj}, S.heap.get? b = some o → H b = none → (hidT S.heap H).get? b = some o := fun e n => hidT_get e n
  have dic : ∀ {b : Addr} {o : Obj} {es : Array DictEntry} {ep : Nat}, S.heap.get? b = some o → o.data = .dict es ep → H b = none := fun {b o es ep} e d => un fun q => by
    subst q
    rw [ha] at e
    cases e
    exact nomatch (show Data.seq vs.toArray _ = Data.dict es ep from d)
  have ns2 : ∀ {b : Addr} {m : Str → Option Value}, S.heap.Ns b m → (hidT S.heap H).Ns b m := fun {b m} ⟨o, es, ep, e, d, r⟩ => ⟨o, es, ep, up e (dic e d), d, r⟩
  have kb : K.In (hidT S.heap H) := fun b o e => up (KX b o e) (Classical.byContradiction fun q => by
    have z := hA b q
    subst z
    rw [hK q] at e
    cases e)
  have md : Mod K mg (hidT S.heap H) := ⟨kb, ns2 hns, ⟨mb, ns2 hb, hbb⟩, let ⟨mc, h1, h2⟩ := hlim; ⟨mc, ns2 h1, h2⟩⟩
  have e0 : Env0 P w K mg (hidT S.heap H) callerA [] S H := ⟨rfl, md, fun b o e => of_hidT e, Nat.le_of_eq (hidT_size _ _), trivial, fun b hb => absurd (show b ∈ ([] : List Addr) from hb) (by simp), ok, .of_eq hg⟩
  refine codeAny_mono ((F _ kb (ns2 hns)).run callerA [] S H ⟨[.ref a], []⟩ [.ref a] [.ref a] _ _ hr e0 (hbind S (.ref a)) (.cons rfl .nil) hsp) fun r s' h => ?_
  match r, h with
  | .error e, h =>
    obtain ⟨_, _, _, _, _, _, _, _, _, _, _, _, q⟩ := h
    exact q.elim
  | .ok .next, h => exact False.elim h
  | .ok .brk, h => exact False.elim h
  | .ok .cont, h => exact False.elim h
  | .ok (.ret u), h =>
    obtain ⟨v, H', os, bare, unc, ok', rel, q⟩ := h
    cases (show v = V.bl true from q)
    cases (show u = Value.bool true from rel)
    refine ⟨rfl, OldK.of_keep fun b o e => ?_, os, bare⟩
    cases q : H b with
    | none => exact unc.keep b o e q (fun z => absurd (show b ∈ ([] : List Addr) from z) (by simp)) (by simp)
    | some u =>
      rcases hO b with z | ⟨ob, xs, z⟩
      · rw [q] at z; cases z
      · obtain ⟨e1, _⟩ := ok b _ z
        obtain ⟨e2, _⟩ := ok' b _ (unc.frzs b ob _ z)
        rw [e] at e1; cases e1
        exact e2
theorem lw_call (KX : K.In S.heap) (hns : S.heap.Ns mainGlobals mg) (hb : S.heap.Ns builtinsNs mb) (hbb : ∀ x : Str, x ≠ "__name__" → mb x = bootBuiltins x) (hlim : S.heap.NoLimit) (hg : S.gens = #[])
    (ha : S.heap.get? a = some { cls := .type "list", data := .seq vs.toArray }) (hi : IntsAre vs ns) (hl : ns.length ≤ sizeLine) (hr : Rm true k callerA) (F : ∀ base : Heap, K.In base → base.Ns mainGlobals mg → FnB true P w K mg base k fa fd [x] sp)
    (hbind : ∀ (s : Shared) (u : Value), BindsTo s fd ⟨[u], []⟩ [(x, u)]) (hsp : ∀ H : Hp, SqL K H a (ns.map V.int) → sp [.ref a] H (fun v _ => v = .bl true) fun _ _ _ => False) :
    codeAny (model P w) callerA (.call (.ref fa) ⟨[.ref a], []⟩) (LwEnd S) S := by
  have rv := vals_ints hi
  have lv := hi.length
  cases hk : K.lookup a with
  | some o =>
    have e := KX a o hk
    rw [ha] at e
    cases e
    exact lw_core (fun _ => none) KX hns hb hbb hlim hg ha hr F hbind (hsp _ (.inr ⟨_, vs.toArray, _, hk, rfl, rfl, rfl, by rw [List.size_toArray, lv]; exact hl, by simpa using rv⟩)) (fun _ => .inl rfl) (fun b u z => nomatch (show (none : Option HO) = some u from z)) (fun b z => absurd rfl z) fun z => absurd rfl z
  | none =>
    have at_ : ∀ b u, (if b = a then some (HO.frz { cls := .type "list", data := .seq vs.toArray } (.lst (ns.map V.int))) else none) = some u → b = a ∧ u = .frz { cls := .type "list", data := .seq vs.toArray } (.lst (ns.map V.int)) := fun b u z => by
      by_cases hb : b = a
      · rw [if_pos hb] at z; cases z; exact ⟨hb, rfl⟩
      · rw [if_neg hb] at z; cases z
    refine lw_core (fun b => if b = a then some (.frz { cls := .type "list", data := .seq vs.toArray } (.lst (ns.map V.int))) else none) KX hns hb hbb hlim hg ha hr F hbind (hsp _ (.inl (.inr ⟨_, if_pos rfl⟩))) (fun b => ?_) (fun b u z => ?_) (fun b z => ?_) fun _ => hk
    · by_cases h : b = a
      · exact .inr ⟨_, _, if_pos h⟩
      · exact .inl (if_neg h)
    · obtain ⟨rfl, rfl⟩ := at_ b u z
      exact ⟨ha, by rw [List.length_map]; exact hl, vs, _, rv, ha⟩
    · exact Classical.byContradiction fun h => z (if_neg h)
/-- the walk that the head asks for -/
theorem lw_walk {l : PySem.W.OpenLaw} {n : Nat} {q : Program} {loose : List Str} {XP : (Str → Option Value) → Heap → Prop} {YP : World → Heap → Prop} {d : DefRec} {law : List Int → Bool} (hn : l.most = some n) (hn2 : n ≤ sizeLine) (hdf : d.params.defaults = []) (hr : Rm true k callerA)
    (F : ∀ (w : World) (mg : Str → Option Value) (fa : Addr) (h : Heap), YP w h → h.Ns mainGlobals mg → mg d.name = some (.ref fa) →
      ∃ (K : PySem.W.Frag) (fd : FuncData), K.In h ∧ (∀ (s : Shared) (u : Value), BindsTo s fd ⟨[u], []⟩ [(x, u)]) ∧ ∀ base : Heap, K.In base → base.Ns mainGlobals mg → FnB true l.prog w K mg base k fa fd [x] (spLw K law))
    (hlaw : ∀ ns : List Int, ns.length ≤ n → law ns = true) : PySem.W.WalkO q loose XP YP l.row.toRowW d [] (fun f vs => PySem.call f vs) := by
  refine Att.attach_call hn hdf fun w s₀ s₁ mg mb fa o pm cd doc a vs ns G Y ho hd hcd hmg hobj hints hlen hg => ?_
  obtain ⟨K, fd, KX, hb, hF⟩ := F w mg fa _ Y G.T.g hmg
  exact lw_call KX G.T.g G.T.b G.T.builtins G.T.nolimit hg hobj hints (Nat.le_trans hlen hn2) hr hF hb fun H hS => ⟨a, ns, rfl, hS, hlaw ns hlen, fun _ => rfl⟩
end
end L3
namespace K04
open PySem PySem.Spec PyProof.Rows L2 L3 Q
def top (i : Nat) : Stmt := PySem.Challenge.pw_noneleft_k04_texts_of_books.main.body.getD i (.Pass ⟨0, 0, 0, 0⟩)
abbrev s_eq_Book : Stmt := inClass (top 11) 1
abbrev s__wall : Stmt := top 0
abbrev s_is_integer : Stmt := top 6
abbrev s_is_number : Stmt := top 7
abbrev s_is_sequence : Stmt := top 8
abbrev s_is_batch : Stmt := top 10
abbrev s_book_text : Stmt := top 13
abbrev s_numbers_of : Stmt := top 14
abbrev s_law_draw : Stmt := top 17
abbrev s_law_any : Stmt := top 18
abbrev s_law_of : Stmt := top 19
abbrev s_law_within : Stmt := top 20
abbrev s_law_more : Stmt := top 21
abbrev s_law_crowds : Stmt := top 22
abbrev s_law_zero : Stmt := top 23
abbrev s_law_named : Stmt := top 24
abbrev s_law_book : Stmt := top 25
abbrev s_law_line : Stmt := top 27
abbrev s_init_Book : Stmt := inClass (top 11) 0
abbrev s_read_book : Stmt := top 15
abbrev s_law_read : Stmt := top 26
abbrev s_law : Stmt := top 28
def errs : List Nat := [10, 15]
structure Txt (Γ : Ct) (P : Program) (K : PySem.W.Frag) (mg : Str → Option Value) : Prop where
  z_isinstance : mg "isinstance" = none
  z_bool : mg "bool" = none
  z_int : mg "int" = none
  z_list : mg "list" = none
  z_tuple : mg "tuple" = none
  z_sum : mg "sum" = none
  z_all : mg "all" = none
  z_len : mg "len" = none
  z_str : mg "str" = none
  z_abs : mg "abs" = none
  z_enumerate : mg "enumerate" = none
  z_range : mg "range" = none
  z_sorted : mg "sorted" = none
  d__wall : ∃ f fd, Fun K "_wall" "_wall" s__wall f fd ∧ mg "_wall" = some (.ref f)
  d_is_integer : ∃ f fd, Fun K "is_integer" "is_integer" s_is_integer f fd ∧ mg "is_integer" = some (.ref f)
  d_is_number : ∃ f fd, Fun K "is_number" "is_number" s_is_number f fd ∧ mg "is_number" = some (.ref f)
  d_is_sequence : ∃ f fd, Fun K "is_sequence" "is_sequence" s_is_sequence f fd ∧ mg "is_sequence" = some (.ref f)
  d_is_batch : ∃ f fd, Fun K "is_batch" "is_batch" s_is_batch f fd ∧ mg "is_batch" = some (.ref f)
  d_book_text : ∃ f fd, Fun K "book_text" "book_text" s_book_text f fd ∧ mg "book_text" = some (.ref f)
  d_numbers_of : ∃ f fd, Fun K "numbers_of" "numbers_of" s_numbers_of f fd ∧ mg "numbers_of" = some (.ref f)
  d_law_draw : ∃ f fd, Fun K "_law_draw" "_law_draw" s_law_draw f fd ∧ mg "_law_draw" = some (.ref f)
  d_law_any : ∃ f fd, Fun K "_law_any" "_law_any" s_law_any f fd ∧ mg "_law_any" = some (.ref f)
  d_law_of : ∃ f fd, Fun K "_law_of" "_law_of" s_law_of f fd ∧ mg "_law_of" = some (.ref f)
  d_law_within : ∃ f fd, Fun K "_law_within" "_law_within" s_law_within f fd ∧ mg "_law_within" = some (.ref f)
  d_law_more : ∃ f fd, Fun K "_law_more" "_law_more" s_law_more f fd ∧ mg "_law_more" = some (.ref f)
  d_law_crowds : ∃ f fd, Fun K "_law_crowds" "_law_crowds" s_law_crowds f fd ∧ mg "_law_crowds" = some (.ref f)
  d_law_zero : ∃ f fd, Fun K "_law_zero" "_law_zero" s_law_zero f fd ∧ mg "_law_zero" = some (.ref f)
  d_law_named : ∃ f fd, Fun K "_law_named" "_law_named" s_law_named f fd ∧ mg "_law_named" = some (.ref f)
  d_law_book : ∃ f fd, Fun K "_law_book" "_law_book" s_law_book f fd ∧ mg "_law_book" = some (.ref f)
  d_law_line : ∃ f fd, Fun K "_law_line" "_law_line" s_law_line f fd ∧ mg "_law_line" = some (.ref f)
  d_read_book : ∃ f fd, Fun K "read_book" "read_book" s_read_book f fd ∧ mg "read_book" = some (.ref f)
  d_law_read : ∃ f fd, Fun K "_law_read" "_law_read" s_law_read f fd ∧ mg "_law_read" = some (.ref f)
  d_law : ∃ f fd, Fun K "law" "law" s_law f fd ∧ mg "law" = some (.ref f)
  f_batches : FldC Γ K 0 1 "batches"
  f_kinds : FldC Γ K 0 0 "kinds"
  is_Book : IsC Γ K [0] 0
  g_Book : mg "Book" = some (.ref (Γ.ad 0))
  e_Book : ∃ f fd, Fun K "__eq__" "Book.__eq__" s_eq_Book f fd ∧ EqIn K (Γ.ad 0) f
  x_InvalidText : ExcR Γ P K mg 15 "InvalidText"
  x_InvalidBook : ExcR Γ P K mg 10 "InvalidBook"
  c_Book : Cls K (Γ.ad 0)
  fl_Book : Γ.fl 0 = (["kinds", "batches"] : List Str)
  ks_Book : ∀ y, y ∉ Γ.ks 0 → y ∉ (["kinds", "batches"] : List Str)
  i_Book : ∃ f fd, Fun K "__init__" "Book.__init__" s_init_Book f fd ∧ Mk K (Γ.ad 0) f ∧ mg "Book" = some (.ref (Γ.ad 0))
  n_Book_kinds : NoAttr K (Γ.ad 0) "kinds"
  n_Book_batches : NoAttr K (Γ.ad 0) "batches"
  cf : Γ.cf = some "_found"
  kc : ∀ c y, y ∉ Γ.ks c → Γ.cf ≠ some y
  n_Book_found : NoAttr K (Γ.ad 0) "_found"
  g_InvalidText : mg "InvalidText" = some (.ref (Γ.ad 15))
  xf_InvalidText : XfF Γ K 15
  exm : ∀ c c' : Nat, c ∈ errs → c' ∈ errs → PySem.W.exmOne K (.ref (Γ.ad c')) (.ref (Γ.ad c)) = some (decide (c' = c))
  tb0 : Γ.tb = [] ∧ ∀ a, Γ.kt a
noncomputable section
variable {b : Bool} {Γ : Ct} {P : Program} {w : World} {K : PySem.W.Frag} {mg : Str → Option Value} {base : Heap}
theorem sc_eq_Book : FnScope ["self", "other"] ["self", "other"] (defScope s_eq_Book) := ⟨rfl, rfl, rfl, by decide +kernel, rfl, by decide +kernel, by decide +kernel⟩
theorem ce_Book (T : Txt Γ P K mg) : CallEq b Γ P w K mg base 1 0 P_eqBook := by
  obtain ⟨f, fd, F, Q⟩ := T.e_Book
  exact ⟨f, fd, ["self", "other"], rfl, fnB_of (k := 0) F sc_eq_Book fun cdv A outer s H E hr => ⟨_,
    (ss_cons (s_if (t_not (t_tru (DE.toB (e_isC T.is_Book T.z_isinstance T.g_Book (b_var 1))))) (ss_cons (s_ret e_bl)
    ss_nil) ss_nil)
    (ss_cons (s_ret (e_and (e_cmp (k_eq hr.u65) (DE.toB (e_fld T.f_kinds (b_var 0))) (DE.toB (e_fld T.f_kinds (b_var 1)))) (e_one (e_cmp (k_eq hr.u65) (DE.toB (e_fld T.f_batches (b_var 0))) (DE.toB (e_fld T.f_batches (b_var 1)))))))
    ss_nil))⟩, Q, F.binds fun _ _ _ _ _ _ us hl => match us, hl with | [_, _], _ => rfl⟩
theorem sc__wall : FnScope ["k"] ["k"] (defScope s__wall) := ⟨rfl, rfl, rfl, by decide +kernel, rfl, by decide +kernel, by decide +kernel⟩
theorem fn__wall (T : Txt Γ P K mg) {f : Addr} {fd : FuncData} (F : Fun K "_wall" "_wall" s__wall f fd) : FnB b P w K mg base 1 f fd ["k"] (spF Γ K P__wall 1) :=
  fnB_of (k := 0) F sc__wall fun cdv A outer s H E hr => ⟨_,
    (ss_cons (s_while (passes_of rfl) (t_tru (DE.toB e_bl)) (ss_cons s_pass
    ss_nil))
    ss_nil)⟩
theorem cf__wall (T : Txt Γ P K mg) : CallF b Γ P w K mg base 1 "_wall" ["k"] P__wall :=
  let ⟨f, fd, F, hm⟩ := T.d__wall
  ⟨f, fd, fn__wall T F, hm, F.kp, F.binds fun _ _ _ _ _ _ us hl => match us, hl with | [_], _ => rfl⟩
theorem sc_is_integer : FnScope ["value"] ["value"] (defScope s_is_integer) := ⟨rfl, rfl, rfl, by decide +kernel, rfl, by decide +kernel, by decide +kernel⟩
theorem fn_is_integer (T : Txt Γ P K mg) {f : Addr} {fd : FuncData} (F : Fun K "is_integer" "is_integer" s_is_integer f fd) : FnB b P w K mg base 1 f fd ["value"] (spF Γ K P_is_integer 1) :=
  fnB_of (k := 0) F sc_is_integer fun cdv A outer s H E hr => ⟨_,
    (ss_cons (s_ret (e_and (e_isT (n := "int") T.z_isinstance T.z_int bt_int (b_var 0)) (e_one (e_not (e_isT (n := "bool") T.z_isinstance T.z_bool bt_bool (b_var 0))))))
    ss_nil)⟩
theorem cf_is_integer (T : Txt Γ P K mg) : CallF b Γ P w K mg base 1 "is_integer" ["value"] P_is_integer :=
  let ⟨f, fd, F, hm⟩ := T.d_is_integer
  ⟨f, fd, fn_is_integer T F, hm, F.kp, F.binds fun _ _ _ _ _ _ us hl => match us, hl with | [_], _ => rfl⟩
theorem sc_is_number : FnScope ["value"] ["value"] (defScope s_is_number) := ⟨rfl, rfl, rfl, by decide +kernel, rfl, by decide +kernel, by decide +kernel⟩
theorem fn_is_number (T : Txt Γ P K mg) (C_is_integer : CallF b Γ P w K mg base 1 "is_integer" ["value"] P_is_integer) {f : Addr} {fd : FuncData} (F : Fun K "is_number" "is_number" s_is_number f fd) : FnB b P w K mg base 2 f fd ["value"] (spF Γ K P_is_number 1) :=
  fnB_of (k := 1) F sc_is_number fun cdv A outer s H E hr => ⟨_,
    (ss_cons (s_ret (e_and (e_cf C_is_integer hr (takes_of rfl rfl rfl rfl) (am_cons (v_e (e_var 0)) am_nil)) (e_one (e_cmp k_ge (b_var 0) (DE.toB e_int)))))
    ss_nil)⟩
theorem cf_is_number (T : Txt Γ P K mg) (C_is_integer : CallF b Γ P w K mg base 1 "is_integer" ["value"] P_is_integer) : CallF b Γ P w K mg base 2 "is_number" ["value"] P_is_number :=
  let ⟨f, fd, F, hm⟩ := T.d_is_number
  ⟨f, fd, fn_is_number T C_is_integer F, hm, F.kp, F.binds fun _ _ _ _ _ _ us hl => match us, hl with | [_], _ => rfl⟩
theorem sc_is_sequence : FnScope ["value"] ["value"] (defScope s_is_sequence) := ⟨rfl, rfl, rfl, by decide +kernel, rfl, by decide +kernel, by decide +kernel⟩
theorem fn_is_sequence (T : Txt Γ P K mg) {f : Addr} {fd : FuncData} (F : Fun K "is_sequence" "is_sequence" s_is_sequence f fd) : FnB b P w K mg base 1 f fd ["value"] (spF Γ K P_is_sequence 1) :=
  fnB_of (k := 0) F sc_is_sequence fun cdv A outer s H E hr => ⟨_,
    (ss_cons (s_ret (e_isT2 (n := "list") (n2 := "tuple") T.z_isinstance T.z_list T.z_tuple bt_lst bt_tup (b_var 0)))
    ss_nil)⟩
theorem cf_is_sequence (T : Txt Γ P K mg) : CallF b Γ P w K mg base 1 "is_sequence" ["value"] P_is_sequence :=
  let ⟨f, fd, F, hm⟩ := T.d_is_sequence
  ⟨f, fd, fn_is_sequence T F, hm, F.kp, F.binds fun _ _ _ _ _ _ us hl => match us, hl with | [_], _ => rfl⟩
theorem sc_is_batch : FnScope ["kinds", "value", "x"] ["kinds", "value"] (defScope s_is_batch) := ⟨rfl, rfl, rfl, by decide +kernel, rfl, by decide +kernel, by decide +kernel⟩
theorem fn_is_batch (T : Txt Γ P K mg) (C_is_number : CallF b Γ P w K mg base 2 "is_number" ["value"] P_is_number) {f : Addr} {fd : FuncData} (F : Fun K "is_batch" "is_batch" s_is_batch f fd) : FnB b P w K mg base 3 f fd ["kinds", "value"] (spF Γ K P_is_batch 2) :=
  fnB_of (k := 2) F sc_is_batch fun cdv A outer s H E hr => ⟨_,
    (ss_cons (s_if (t_w (w_or (t_not (t_tru (DE.toB (e_isT (n := "tuple") T.z_isinstance T.z_tuple bt_tup (b_var 1))))) (w_or (t_cmp (k_ne hr.u65) (DE.toB (e_len T.z_len (b_var 1))) (b_var 0)) (w_or1 (t_not (t_tru (DE.toB (e_all rfl T.z_all (DE.toB (DO.toE (o_comp [("x", 2)] sc_is_batch.nd (i_seq (q_s 1)) (fun _ _ _ _ _ => ⟨_, (g_name 2 sc_is_batch.nd (by decide))⟩) (fun _ _ _ _ _ => ⟨_, ts_nil⟩) (fun _ _ _ _ _ => ⟨_, (e_cf C_is_number hr takes0 (am_cons (v_e (e_var 2)) am_nil))⟩)))))))))))) (ss_cons (s_ret e_bl)
    ss_nil) ss_nil)
    (ss_cons (s_ret (e_cmp k_gt (DE.toB (e_sum rfl T.z_sum (b_var 1))) (DE.toB e_int)))
    ss_nil))⟩
theorem cf_is_batch (T : Txt Γ P K mg) (C_is_number : CallF b Γ P w K mg base 2 "is_number" ["value"] P_is_number) : CallF b Γ P w K mg base 3 "is_batch" ["kinds", "value"] P_is_batch :=
  let ⟨f, fd, F, hm⟩ := T.d_is_batch
  ⟨f, fd, fn_is_batch T C_is_number F, hm, F.kp, F.binds fun _ _ _ _ _ _ us hl => match us, hl with | [_, _], _ => rfl⟩
theorem sc_book_text : FnScope ["book", "rows", "batch", "x"] ["book"] (defScope s_book_text) := ⟨rfl, rfl, rfl, by decide +kernel, rfl, by decide +kernel, by decide +kernel⟩
theorem fn_book_text (T : Txt Γ P K mg) {f : Addr} {fd : FuncData} (F : Fun K "book_text" "book_text" s_book_text f fd) : FnB b P w K mg base 1 f fd ["book"] (spF Γ K P_book_text 1) :=
  fnB_of (k := 0) F sc_book_text fun cdv A outer s H E hr => ⟨_,
    (ss_cons (s_set 1 sc_book_text.nd (DO.toE (o_lst (a_cons (e_fmt (DE.toB (e_fld T.f_kinds (b_var 0)))) a_nil))))
    (ss_cons (s_ret (e_join (DE.toB (e_plus (b_var 1) (DE.toB (DO.toE (o_comp [("batch", 2)] sc_book_text.nd (i_seq (q_e (e_fld T.f_batches (b_var 0)))) (fun _ _ _ _ _ => ⟨_, (g_name 2 sc_book_text.nd (by decide))⟩) (fun _ _ _ _ _ => ⟨_, ts_nil⟩) (fun _ _ _ _ _ => ⟨_, (e_join (DE.toB (DO.toE (o_comp [("x", 3)] sc_book_text.nd (i_seq (q_s 2)) (fun _ _ _ _ _ => ⟨_, (g_name 3 sc_book_text.nd (by decide))⟩) (fun _ _ _ _ _ => ⟨_, ts_nil⟩) (fun _ _ _ _ _ => ⟨_, (e_toStr T.z_str (b_var 3))⟩)))))⟩))))))))
    ss_nil))⟩
theorem cf_book_text (T : Txt Γ P K mg) : CallF b Γ P w K mg base 1 "book_text" ["book"] P_book_text :=
  let ⟨f, fd, F, hm⟩ := T.d_book_text
  ⟨f, fd, fn_book_text T F, hm, F.kp, F.binds fun _ _ _ _ _ _ us hl => match us, hl with | [_], _ => rfl⟩
theorem sc_numbers_of : FnScope ["words", "at", "word", "sign"] ["words", "at"] (defScope s_numbers_of) := ⟨rfl, rfl, rfl, by decide +kernel, rfl, by decide +kernel, by decide +kernel⟩
theorem fn_numbers_of (T : Txt Γ P K mg) {f : Addr} {fd : FuncData} (F : Fun K "numbers_of" "numbers_of" s_numbers_of f fd) : FnB b P w K mg base 3 f fd ["words", "at"] (spF Γ K P_numbers_of 2) :=
  fnB_of (k := 2) F sc_numbers_of fun cdv A outer s H E hr => ⟨_,
    (ss_cons (s_for (vs := [2]) (passes_of rfl) rfl (i_seq (q_v 0)) (g_name 2 sc_numbers_of.nd (by decide)) (ss_cons (s_if (t_w (w_or (t_not (t_chain k_le k_le (DE.toB e_int) (DE.toB (e_len T.z_len (b_var 2))) (DE.toB e_int))) (w_or1 (t_not (t_tru (DE.toB (e_all rfl T.z_all (DE.toB (DO.toE (o_comp [("sign", 3)] sc_numbers_of.nd (i_signs (e_var 2)) (fun _ _ _ _ _ => ⟨_, (g_name 3 sc_numbers_of.nd (by decide))⟩) (fun _ _ _ _ _ => ⟨_, ts_nil⟩) (fun _ _ _ _ _ => ⟨_, (e_cmp k_inSign (b_var 3) (DE.toB e_str))⟩))))))))))) (ss_cons (s_raise T.x_InvalidText (takes_of rfl rfl rfl rfl) hr (e_var 1))
    ss_nil) ss_nil)
    (ss_cons (s_if (t_w (w_and (t_cmp (k_eq hr.u65) (DE.toB (e_len T.z_len (b_var 2))) (DE.toB e_int)) (w_and1 (t_cmp (k_eq hr.u65) (DE.toB (e_ix (b_var 2) (DE.toB e_int))) (DE.toB e_str))))) (ss_cons (s_raise T.x_InvalidText (takes_of rfl rfl rfl rfl) hr (e_var 1))
    ss_nil) ss_nil)
    ss_nil)))
    (ss_cons (s_ret (e_tuple T.z_tuple (DE.toB (DO.toE (o_comp [("word", 2)] sc_numbers_of.nd (i_seq (q_s 0)) (fun _ _ _ _ _ => ⟨_, (g_name 2 sc_numbers_of.nd (by decide))⟩) (fun _ _ _ _ _ => ⟨_, ts_nil⟩) (fun _ _ _ _ _ => ⟨_, (e_intS T.z_int (b_var 2))⟩))))))
    ss_nil))⟩
theorem cf_numbers_of (T : Txt Γ P K mg) : CallF b Γ P w K mg base 3 "numbers_of" ["words", "at"] P_numbers_of :=
  let ⟨f, fd, F, hm⟩ := T.d_numbers_of
  ⟨f, fd, fn_numbers_of T F, hm, F.kp, F.binds fun _ _ _ _ _ _ us hl => match us, hl with | [_, _], _ => rfl⟩
theorem sc_law_draw : FnScope ["_law_script", "_law_salt", "_law_cells", "_law_blend", "_law_cell"] ["_law_script", "_law_salt"] (defScope s_law_draw) := ⟨rfl, rfl, rfl, by decide +kernel, rfl, by decide +kernel, by decide +kernel⟩
theorem cd_law_draw (T : Txt Γ P K mg) : CallD Γ.kt b P w K mg base 1 "_law_draw" ["_law_script", "_law_salt"] dr_law_draw := by
  obtain ⟨f, fd, F, hm⟩ := T.d_law_draw
  exact ⟨f, fd, fnDr_of (Γ := { Γ with tb := [] }) (k := 0) F sc_law_draw rfl (by decide) rfl fun cdv A outer s H E hr => dr_body
    (s_scr 2 0 48 [("_law_cell", 4)] sc_law_draw.nd (fun _ _ _ _ _ => ⟨_, (g_name 4 sc_law_draw.nd (by decide))⟩) (fun _ _ _ _ _ => ⟨_, ts_nil⟩) (fun _ _ _ _ _ => ⟨_, (e_abs T.z_abs (DE.toB (e_toInt T.z_int (b_var 4))))⟩))
    (s_set 3 sc_law_draw.nd (e_plus (DE.toB e_int) (DE.toB (e_mul (DE.toB e_int) (b_var 1)))))
    (s_for (vs := [4]) (passes_of rfl) rfl (i_seq (q_v 2)) (g_name 4 sc_law_draw.nd (by decide)) (ss_cons (s_set 3 sc_law_draw.nd (e_mod (DE.toB (e_toInt T.z_int (DE.toB (e_plus (DE.toB (e_plus (DE.toB (e_mul (b_var 3) (DE.toB e_int))) (DE.toB (e_mod (b_var 4) (DE.toB e_int))))) (DE.toB e_int))))) (DE.toB e_int)))
    ss_nil))
    (s_dlR (W := W0) 3 (o_comp [("_law_cell", 4)] sc_law_draw.nd (i_seq (q_s 2)) (fun _ _ _ _ _ => ⟨_, (g_name 4 sc_law_draw.nd (by decide))⟩) (fun _ _ _ _ _ => ⟨_, (ts_one (t_cmp k_ge (b_var 4) (DE.toB (e_pow (DE.toB e_int) (DE.toB e_int)))))⟩) (fun _ _ _ _ _ => ⟨_, (e_var 4)⟩))), hm, F.kp, F.binds fun _ _ _ _ _ _ us hl => match us, hl with | [_, _], _ => rfl⟩
theorem sc_law_any : FnScope ["_law_deal", "_law_bound", "_law_rest"] ["_law_deal", "_law_bound"] (defScope s_law_any) := ⟨rfl, rfl, rfl, by decide +kernel, rfl, by decide +kernel, by decide +kernel⟩
theorem fn_law_any (T : Txt Γ P K mg) {f : Addr} {fd : FuncData} (F : Fun K "_law_any" "_law_any" s_law_any f fd) : FnB b P w K mg base 1 f fd ["_law_deal", "_law_bound"] (spF Γ K P_law_any 2) :=
  fnB_of (k := 0) F sc_law_any fun cdv A outer s H E hr => ⟨_,
    (ss_cons (s_while (passes_of rfl) (t_w (w_and (t_dlNe 0 hr.u65) (w_and1 (t_cmp (k_eq hr.u65) (DE.toB (e_dlLast 0)) (DE.toB e_int))))) (ss_cons (s_expr (e_dlPop 0))
    ss_nil))
    (ss_cons (s_if (t_dlNe 0 hr.u65) (ss_cons (s_set 2 sc_law_any.nd (e_toInt T.z_int (DE.toB (e_dlPop 0))))
    (ss_cons (s_expr (e_dlAppDiv 0 2 1))
    (ss_cons (s_ret (e_mod (b_var 2) (b_var 1)))
    ss_nil))) ss_nil)
    (ss_cons (s_dlSet 0 (DE.toB (e_mod (DE.toB (e_toInt T.z_int (DE.toB (e_plus (DE.toB (e_mul (DE.toB (e_dl1 0)) (DE.toB e_int))) (DE.toB e_int))))) (DE.toB e_int))))
    (ss_cons (s_ret (e_mod (DE.toB (e_toInt T.z_int (DE.toB (e_div (DE.toB (e_dl1 0)) (DE.toB e_int))))) (b_var 1)))
    ss_nil))))⟩
theorem cf_law_any (T : Txt Γ P K mg) : CallF b Γ P w K mg base 1 "_law_any" ["_law_deal", "_law_bound"] P_law_any :=
  let ⟨f, fd, F, hm⟩ := T.d_law_any
  ⟨f, fd, fn_law_any T F, hm, F.kp, F.binds fun _ _ _ _ _ _ us hl => match us, hl with | [_, _], _ => rfl⟩
theorem sc_law_of : FnScope ["_law_deal", "_law_some"] ["_law_deal", "_law_some"] (defScope s_law_of) := ⟨rfl, rfl, rfl, by decide +kernel, rfl, by decide +kernel, by decide +kernel⟩
theorem fn_law_of (T : Txt Γ P K mg) (C_law_any : CallF b Γ P w K mg base 1 "_law_any" ["_law_deal", "_law_bound"] P_law_any) {f : Addr} {fd : FuncData} (F : Fun K "_law_of" "_law_of" s_law_of f fd) : FnB b P w K mg base 2 f fd ["_law_deal", "_law_some"] (spF Γ K P_law_of 2) :=
  fnB_of (k := 1) F sc_law_of fun cdv A outer s H E hr => ⟨_,
    (ss_cons (s_ret (e_ix (b_var 1) (DE.toB (e_cf C_law_any hr (takes_of rfl rfl rfl rfl) (am_cons (v_io 0) (am_cons (v_e (e_len T.z_len (b_var 1))) am_nil))))))
    ss_nil)⟩
theorem cf_law_of (T : Txt Γ P K mg) (C_law_any : CallF b Γ P w K mg base 1 "_law_any" ["_law_deal", "_law_bound"] P_law_any) : CallF b Γ P w K mg base 2 "_law_of" ["_law_deal", "_law_some"] P_law_of :=
  let ⟨f, fd, F, hm⟩ := T.d_law_of
  ⟨f, fd, fn_law_of T C_law_any F, hm, F.kp, F.binds fun _ _ _ _ _ _ us hl => match us, hl with | [_, _], _ => rfl⟩
theorem sc_law_within : FnScope ["_law_one", "_law_other", "_law_at", "_law_x"] ["_law_one", "_law_other"] (defScope s_law_within) := ⟨rfl, rfl, rfl, by decide +kernel, rfl, by decide +kernel, by decide +kernel⟩
theorem fn_law_within (T : Txt Γ P K mg) {f : Addr} {fd : FuncData} (F : Fun K "_law_within" "_law_within" s_law_within f fd) : FnB b P w K mg base 1 f fd ["_law_one", "_law_other"] (spF Γ K P_law_within 2) :=
  fnB_of (k := 0) F sc_law_within fun cdv A outer s H E hr => ⟨_,
    (ss_cons (s_ret (e_all rfl T.z_all (DE.toB (DO.toE (o_comp [("_law_at", 2), ("_law_x", 3)] sc_law_within.nd (i_enum T.z_enumerate (q_s 0)) (fun _ _ _ _ _ => ⟨_, (g_tup (n := 2) rfl (gs_cons (g_name 2 sc_law_within.nd (by decide)) (gs_cons (g_name 3 sc_law_within.nd (by decide)) gs_nil)))⟩) (fun _ _ _ _ _ => ⟨_, ts_nil⟩) (fun _ _ _ _ _ => ⟨_, (e_cmp k_le (b_var 3) (DE.toB (e_ix (b_var 1) (b_var 2))))⟩))))))
    ss_nil)⟩
theorem cf_law_within (T : Txt Γ P K mg) : CallF b Γ P w K mg base 1 "_law_within" ["_law_one", "_law_other"] P_law_within :=
  let ⟨f, fd, F, hm⟩ := T.d_law_within
  ⟨f, fd, fn_law_within T F, hm, F.kp, F.binds fun _ _ _ _ _ _ us hl => match us, hl with | [_, _], _ => rfl⟩
theorem sc_law_more : FnScope ["_law_one", "_law_other", "_law_at", "_law_x"] ["_law_one", "_law_other"] (defScope s_law_more) := ⟨rfl, rfl, rfl, by decide +kernel, rfl, by decide +kernel, by decide +kernel⟩
theorem fn_law_more (T : Txt Γ P K mg) {f : Addr} {fd : FuncData} (F : Fun K "_law_more" "_law_more" s_law_more f fd) : FnB b P w K mg base 1 f fd ["_law_one", "_law_other"] (spF Γ K P_law_more 2) :=
  fnB_of (k := 0) F sc_law_more fun cdv A outer s H E hr => ⟨_,
    (ss_cons (s_ret (e_tuple T.z_tuple (DE.toB (DO.toE (o_comp [("_law_at", 2), ("_law_x", 3)] sc_law_more.nd (i_enum T.z_enumerate (q_s 0)) (fun _ _ _ _ _ => ⟨_, (g_tup (n := 2) rfl (gs_cons (g_name 2 sc_law_more.nd (by decide)) (gs_cons (g_name 3 sc_law_more.nd (by decide)) gs_nil)))⟩) (fun _ _ _ _ _ => ⟨_, ts_nil⟩) (fun _ _ _ _ _ => ⟨_, (e_plus (b_var 3) (DE.toB (e_ix (b_var 1) (b_var 2))))⟩))))))
    ss_nil)⟩
theorem cf_law_more (T : Txt Γ P K mg) : CallF b Γ P w K mg base 1 "_law_more" ["_law_one", "_law_other"] P_law_more :=
  let ⟨f, fd, F, hm⟩ := T.d_law_more
  ⟨f, fd, fn_law_more T F, hm, F.kp, F.binds fun _ _ _ _ _ _ us hl => match us, hl with | [_, _], _ => rfl⟩
theorem sc_law_crowds : FnScope ["_law_kinds", "_law_size", "_law_found", "_law_x", "_law_rest"] ["_law_kinds", "_law_size"] (defScope s_law_crowds) := ⟨rfl, rfl, rfl, by decide +kernel, rfl, by decide +kernel, by decide +kernel⟩
theorem cf_law_crowds (T : Txt Γ P K mg) : ∀ n : Nat, CallF b Γ P w K mg base (1 + n) "_law_crowds" ["_law_kinds", "_law_size"] (P_law_crowds n)
  | 0 => by
    obtain ⟨f, fd, F, hm⟩ := T.d_law_crowds
    exact ⟨f, fd, FnB.never, hm, F.kp, F.binds fun _ _ _ _ _ _ us hl => match us, hl with | [_, _], _ => rfl⟩
  | n + 1 => by
    have C_law_crowds := cf_law_crowds T n
    obtain ⟨f, fd, F, hm⟩ := T.d_law_crowds
    exact ⟨f, fd, fnB_of (k := 1 + n) F sc_law_crowds fun cdv A outer s H E hr => ⟨_,
    (ss_cons (s_if (t_cmp (k_eq hr.u65) (b_var 0) (DE.toB e_int)) (ss_cons (s_ret (DO.toE (o_lst (a_cons (e_tup (a_cons (e_var 1) a_nil)) a_nil))))
    ss_nil) ss_nil)
    (ss_cons (s_set 2 sc_law_crowds.nd (DO.toE (o_lst a_nil)))
    (ss_cons (s_for (vs := [3]) (passes_of rfl) rfl (i_range1 T.z_range (DE.toB (e_plus (b_var 1) (DE.toB e_int)))) (g_name 3 sc_law_crowds.nd (by decide)) (ss_cons (s_set 2 sc_law_crowds.nd (e_plus (b_var 2) (DE.toB (DO.toE (o_comp [("_law_rest", 4)] sc_law_crowds.nd (i_seq (q_e (e_cf C_law_crowds hr (takes_of rfl rfl rfl rfl) (am_cons (v_e (e_sub (b_var 0) (DE.toB e_int))) (am_cons (v_e (e_sub (b_var 1) (b_var 3))) am_nil)) (hk := by omega)))) (fun _ _ _ _ _ => ⟨_, (g_name 4 sc_law_crowds.nd (by decide))⟩) (fun _ _ _ _ _ => ⟨_, ts_nil⟩) (fun _ _ _ _ _ => ⟨_, (e_plus (DE.toB (e_tup (a_cons (e_var 3) a_nil))) (b_var 4))⟩))))))
    ss_nil))
    (ss_cons (s_ret (e_var 2))
    ss_nil))))⟩, hm, F.kp, F.binds fun _ _ _ _ _ _ us hl => match us, hl with | [_, _], _ => rfl⟩
theorem sc_law_zero : FnScope ["_law_clocks", "_law_names", "_law_crowd", "_law_at", "_law_clock", "_law_whole", "_law_kind", "_law_x"] ["_law_clocks", "_law_names", "_law_crowd"] (defScope s_law_zero) := ⟨rfl, rfl, rfl, by decide +kernel, rfl, by decide +kernel, by decide +kernel⟩
theorem fn_law_zero (T : Txt Γ P K mg) {f : Addr} {fd : FuncData} (F : Fun K "_law_zero" "_law_zero" s_law_zero f fd) : FnB b P w K mg base 1 f fd ["_law_clocks", "_law_names", "_law_crowd"] (spF Γ K P_law_zero 3) :=
  fnB_of (k := 0) F sc_law_zero fun cdv A outer s H E hr => ⟨_,
    (ss_cons (s_for (vs := [3, 4]) (passes_of rfl) rfl (i_enum T.z_enumerate (q_v 0)) (g_tup (n := 2) rfl (gs_cons (g_name 3 sc_law_zero.nd (by decide)) (gs_cons (g_name 4 sc_law_zero.nd (by decide)) gs_nil))) (ss_cons (s_set 5 sc_law_zero.nd (e_sum rfl T.z_sum (DE.toB (DO.toE (o_comp [("_law_kind", 6), ("_law_x", 7)] sc_law_zero.nd (i_enum T.z_enumerate (q_s 2)) (fun _ _ _ _ _ => ⟨_, (g_tup (n := 2) rfl (gs_cons (g_name 6 sc_law_zero.nd (by decide)) (gs_cons (g_name 7 sc_law_zero.nd (by decide)) gs_nil)))⟩) (fun _ _ _ _ _ => ⟨_, ts_nil⟩) (fun _ _ _ _ _ => ⟨_, (e_mul (b_var 7) (DE.toB (e_ix (DE.toB (e_ix (b_var 1) (b_var 3))) (b_var 6))))⟩))))))
    (ss_cons (s_if (t_w (w_and (t_cmp (k_ne hr.u65) (b_var 5) (DE.toB e_int)) (w_and1 (t_w (w_or (t_cmp (k_eq hr.u65) (b_var 4) (DE.toB e_int)) (w_or1 (t_cmp (k_ne hr.u65) (DE.toB (e_mod (DE.toB (e_toInt T.z_int (b_var 5))) (b_var 4))) (DE.toB e_int)))))))) (ss_cons (s_ret e_bl)
    ss_nil) ss_nil)
    ss_nil)))
    (ss_cons (s_ret e_bl)
    ss_nil))⟩
theorem cf_law_zero (T : Txt Γ P K mg) : CallF b Γ P w K mg base 1 "_law_zero" ["_law_clocks", "_law_names", "_law_crowd"] P_law_zero :=
  let ⟨f, fd, F, hm⟩ := T.d_law_zero
  ⟨f, fd, fn_law_zero T F, hm, F.kp, F.binds fun _ _ _ _ _ _ us hl => match us, hl with | [_, _, _], _ => rfl⟩
theorem sc_law_named : FnScope ["_law_deal", "_law_kinds", "_law_form", "_law_clocks", "_law_names", "_law_found", "_law_size", "_law_crowd", "_law_clock", "_law_kind", "_law_one"] ["_law_deal", "_law_kinds"] (defScope s_law_named) := ⟨rfl, rfl, rfl, by decide +kernel, rfl, by decide +kernel, by decide +kernel⟩
theorem fn_law_named (T : Txt Γ P K mg) (C_law_crowds : CallF b Γ P w K mg base 17 "_law_crowds" ["_law_kinds", "_law_size"] (P_law_crowds 16)) (C_law_within : CallF b Γ P w K mg base 1 "_law_within" ["_law_one", "_law_other"] P_law_within) (C_law_zero : CallF b Γ P w K mg base 1 "_law_zero" ["_law_clocks", "_law_names", "_law_crowd"] P_law_zero) (C_law_any : CallF b Γ P w K mg base 1 "_law_any" ["_law_deal", "_law_bound"] P_law_any) (C_law_of : CallF b Γ P w K mg base 2 "_law_of" ["_law_deal", "_law_some"] P_law_of) {f : Addr} {fd : FuncData} (F : Fun K "_law_named" "_law_named" s_law_named f fd) : FnB b P w K mg base 18 f fd ["_law_deal", "_law_kinds"] (spF Γ K P_law_named 2) :=
  fnB_of (k := 17) F sc_law_named fun cdv A outer s H E hr => ⟨_,
    (ss_cons (s_set 2 sc_law_named.nd (e_cf C_law_any hr (takes_of rfl rfl rfl rfl) (am_cons (v_io 0) (am_cons (v_e e_int) am_nil))))
    (ss_cons (s_set 3 sc_law_named.nd (e_ix (DE.toB (DO.toE (o_lst (a_cons (DO.toE (o_lst (a_cons e_int a_nil))) (a_cons (DO.toE (o_lst (a_cons e_int a_nil))) (a_cons (DO.toE (o_lst (a_cons e_int a_nil))) (a_cons (DO.toE (o_lst (a_cons e_int (a_cons e_int a_nil)))) (a_cons (DO.toE (o_lst (a_cons e_int a_nil))) (a_cons (DO.toE (o_lst (a_cons e_int a_nil))) a_nil))))))))) (b_var 2)))
    (ss_cons (s_comp 4 [("_law_clock", 8)] sc_law_named.nd (i_seq (q_s 3)) (fun _ _ _ _ _ => ⟨_, (g_name 8 sc_law_named.nd (by decide))⟩) (fun _ _ _ _ _ => ⟨_, ts_nil⟩) (fun _ _ _ _ _ => ⟨_, (DO.toE (o_comp [("_law_kind", 9)] sc_law_named.nd (i_range1 T.z_range (b_var 1)) (fun _ _ _ _ _ => ⟨_, (g_name 9 sc_law_named.nd (by decide))⟩) (fun _ _ _ _ _ => ⟨_, ts_nil⟩) (fun _ _ _ _ _ => ⟨_, (e_if (t_cmp k_gt (b_var 8) (DE.toB e_int)) (e_cf C_law_any hr takes0 (am_cons (v_io 0) (am_cons (v_e (e_var 8)) am_nil))) (e_cf C_law_of hr takes0 (am_cons (v_io 0) (am_cons (v_e (DO.toE (o_lst (a_cons e_int (a_cons e_int (a_cons (e_neg (DE.toB e_int)) (a_cons (e_neg (DE.toB e_int)) (a_cons e_int a_nil)))))))) am_nil))))⟩)))⟩))
    (ss_cons (s_own 5 sc_law_named.nd (o_lst a_nil))
    (ss_cons (s_for (vs := [6]) (passes_of rfl) rfl (i_range2 T.z_range (DE.toB e_int) (DE.toB (e_if (t_cmp (k_lt hr.u65) (b_var 1) (DE.toB e_int)) e_int e_int))) (g_name 6 sc_law_named.nd (by decide)) (ss_cons (s_for (vs := [7]) (passes_of rfl) rfl (i_seq (q_e (e_cf C_law_crowds hr (takes_of rfl rfl rfl rfl) (am_cons (v_e (e_var 1)) (am_cons (v_e (e_var 6)) am_nil))))) (g_name 7 sc_law_named.nd (by decide)) (ss_cons (s_if (t_w (w_and (t_tru (DE.toB (e_cf C_law_zero hr (takes_of rfl rfl rfl rfl) (am_cons (v_e (e_var 3)) (am_cons (v_e (e_var 4)) (am_cons (v_e (e_var 7)) am_nil)))))) (w_and1 (t_cmp (k_eq hr.u65) (DE.toB (DO.toE (o_comp [("_law_one", 10)] sc_law_named.nd (i_seq (q_s 5)) (fun _ _ _ _ _ => ⟨_, (g_name 10 sc_law_named.nd (by decide))⟩) (fun _ _ _ _ _ => ⟨_, (ts_one (t_tru (DE.toB (e_cf C_law_within hr takes0 (am_cons (v_e (e_var 10)) (am_cons (v_e (e_var 7)) am_nil))))))⟩) (fun _ _ _ _ _ => ⟨_, (e_var 10)⟩)))) (DE.toB (DO.toE (o_lst a_nil))))))) (ss_cons (s_expr (e_app 5 (e_var 7)))
    ss_nil) ss_nil)
    ss_nil))
    ss_nil))
    (ss_cons (s_ret (e_tup (a_cons (e_var 3) (a_cons (e_var 4) (a_cons (DO.toE (o_sorted T.z_sorted (b_var 5))) a_nil)))))
    ss_nil))))))⟩
theorem cf_law_named (T : Txt Γ P K mg) (C_law_crowds : CallF b Γ P w K mg base 17 "_law_crowds" ["_law_kinds", "_law_size"] (P_law_crowds 16)) (C_law_within : CallF b Γ P w K mg base 1 "_law_within" ["_law_one", "_law_other"] P_law_within) (C_law_zero : CallF b Γ P w K mg base 1 "_law_zero" ["_law_clocks", "_law_names", "_law_crowd"] P_law_zero) (C_law_any : CallF b Γ P w K mg base 1 "_law_any" ["_law_deal", "_law_bound"] P_law_any) (C_law_of : CallF b Γ P w K mg base 2 "_law_of" ["_law_deal", "_law_some"] P_law_of) : CallF b Γ P w K mg base 18 "_law_named" ["_law_deal", "_law_kinds"] P_law_named :=
  let ⟨f, fd, F, hm⟩ := T.d_law_named
  ⟨f, fd, fn_law_named T C_law_crowds C_law_within C_law_zero C_law_any C_law_of F, hm, F.kp, F.binds fun _ _ _ _ _ _ us hl => match us, hl with | [_, _], _ => rfl⟩
theorem sc_law_book : FnScope ["_law_deal", "_law_most", "_law_kinds", "_law_form", "_law_batches", "_law_one", "_law_turn", "_law_batch"] ["_law_deal", "_law_most"] (defScope s_law_book) := ⟨rfl, rfl, rfl, by decide +kernel, rfl, by decide +kernel, by decide +kernel⟩
theorem fn_law_book (T : Txt Γ P K mg) (C_law_any : CallF b Γ P w K mg base 1 "_law_any" ["_law_deal", "_law_bound"] P_law_any) (C_law_of : CallF b Γ P w K mg base 2 "_law_of" ["_law_deal", "_law_some"] P_law_of) (C_law_crowds : CallF b Γ P w K mg base 17 "_law_crowds" ["_law_kinds", "_law_size"] (P_law_crowds 16)) (C_law_more : CallF b Γ P w K mg base 1 "_law_more" ["_law_one", "_law_other"] P_law_more) (C_law_named : CallF b Γ P w K mg base 18 "_law_named" ["_law_deal", "_law_kinds"] P_law_named) {f : Addr} {fd : FuncData} (F : Fun K "_law_book" "_law_book" s_law_book f fd) : FnB b P w K mg base 19 f fd ["_law_deal", "_law_most"] (spF Γ K P_law_book 2) :=
  fnB_of (k := 18) F sc_law_book fun cdv A outer s H E hr => ⟨_,
    (ss_cons (s_par 2 3 rfl sc_law_book.nd (a_cons (e_plus (DE.toB e_int) (DE.toB (e_cf C_law_any hr (takes_of rfl rfl rfl rfl) (am_cons (v_io 0) (am_cons (v_e (e_var 1)) am_nil))))) (a_cons (e_cf C_law_any hr (takes_of rfl rfl rfl rfl) (am_cons (v_io 0) (am_cons (v_e e_int) am_nil))) a_nil)))
    (ss_cons (s_if (t_cmp (k_lt hr.u65) (b_var 3) (DE.toB e_int)) (ss_cons (s_own 4 sc_law_book.nd (o_sl (DE.toB (e_ix (DE.toB (e_cf C_law_named hr (takes_of rfl rfl rfl rfl) (am_cons (v_io 0) (am_cons (v_e (e_var 2)) am_nil)))) (DE.toB e_int))) p_none (p_some (DE.toB e_int))))
    (ss_cons (s_if (t_w (w_and (t_cmp (k_eq hr.u65) (b_var 3) (DE.toB e_int)) (w_and1 (t_cmp k_gt (DE.toB (e_len T.z_len (b_var 4))) (DE.toB e_int))))) (ss_cons (s_set 5 sc_law_book.nd (e_cf C_law_more hr (takes_of rfl rfl rfl rfl) (am_cons (v_e (e_cf C_law_of hr (takes_of rfl rfl rfl rfl) (am_cons (v_io 0) (am_cons (v_e (e_var 4)) am_nil)))) (am_cons (v_e (e_cf C_law_of hr (takes_of rfl rfl rfl rfl) (am_cons (v_io 0) (am_cons (v_e (e_var 4)) am_nil)))) am_nil))))
    (ss_cons (s_set 4 sc_law_book.nd (e_if (t_w (w_and (t_cmp (k_notIn hr.u65) (b_var 5) (b_var 4)) (w_and1 (t_cmp (k_lt hr.u65) (DE.toB (e_sum rfl T.z_sum (b_var 5))) (DE.toB e_int))))) (DO.toE (o_sorted T.z_sorted (DE.toB (e_plus (b_var 4) (DE.toB (DO.toE (o_lst (a_cons (e_var 5) a_nil)))))))) (e_var 4)))
    ss_nil)) ss_nil)
    (ss_cons (s_if (t_w (w_and (t_cmp (k_eq hr.u65) (b_var 3) (DE.toB e_int)) (w_and1 (t_cmp (k_ne hr.u65) (b_var 4) (DE.toB (DO.toE (o_lst a_nil))))))) (ss_cons (s_expr (e_popAt 4 (DE.toB (e_cf C_law_any hr (takes_of rfl rfl rfl rfl) (am_cons (v_io 0) (am_cons (v_e (e_len T.z_len (b_var 4))) am_nil))))))
    ss_nil) ss_nil)
    (ss_cons (s_ret (e_tup (a_cons (e_var 2) (a_cons (e_var 4) a_nil))))
    ss_nil)))) ss_nil)
    (ss_cons (s_own 4 sc_law_book.nd (o_lst a_nil))
    (ss_cons (s_for (vs := [6]) (passes_of rfl) rfl (i_range1 T.z_range (DE.toB (e_cf C_law_any hr (takes_of rfl rfl rfl rfl) (am_cons (v_io 0) (am_cons (v_e e_int) am_nil))))) (g_name 6 sc_law_book.nd (by decide)) (ss_cons (s_set 7 sc_law_book.nd (e_cf C_law_of hr (takes_of rfl rfl rfl rfl) (am_cons (v_io 0) (am_cons (v_e (e_cf C_law_crowds hr (takes_of rfl rfl rfl rfl) (am_cons (v_e (e_var 2)) (am_cons (v_e (e_plus (DE.toB e_int) (DE.toB (e_cf C_law_any hr (takes_of rfl rfl rfl rfl) (am_cons (v_io 0) (am_cons (v_e e_int) am_nil)))))) am_nil)))) am_nil))))
    (ss_cons (s_if (t_cmp (k_notIn hr.u65) (b_var 7) (b_var 4)) (ss_cons (s_expr (e_app 4 (e_var 7)))
    ss_nil) ss_nil)
    ss_nil)))
    (ss_cons (s_ret (e_tup (a_cons (e_var 2) (a_cons (DO.toE (o_sorted T.z_sorted (b_var 4))) a_nil))))
    ss_nil)))))⟩
theorem cf_law_book (T : Txt Γ P K mg) (C_law_any : CallF b Γ P w K mg base 1 "_law_any" ["_law_deal", "_law_bound"] P_law_any) (C_law_of : CallF b Γ P w K mg base 2 "_law_of" ["_law_deal", "_law_some"] P_law_of) (C_law_crowds : CallF b Γ P w K mg base 17 "_law_crowds" ["_law_kinds", "_law_size"] (P_law_crowds 16)) (C_law_more : CallF b Γ P w K mg base 1 "_law_more" ["_law_one", "_law_other"] P_law_more) (C_law_named : CallF b Γ P w K mg base 18 "_law_named" ["_law_deal", "_law_kinds"] P_law_named) : CallF b Γ P w K mg base 19 "_law_book" ["_law_deal", "_law_most"] P_law_book :=
  let ⟨f, fd, F, hm⟩ := T.d_law_book
  ⟨f, fd, fn_law_book T C_law_any C_law_of C_law_crowds C_law_more C_law_named F, hm, F.kp, F.binds fun _ _ _ _ _ _ us hl => match us, hl with | [_, _], _ => rfl⟩
theorem sc_law_line : FnScope ["_law_deal", "_law_kinds", "_law_lines", "_law_at", "_law_row", "_law_odd"] ["_law_deal", "_law_kinds", "_law_lines", "_law_at"] (defScope s_law_line) := ⟨rfl, rfl, rfl, by decide +kernel, rfl, by decide +kernel, by decide +kernel⟩
theorem fn_law_line (T : Txt Γ P K mg) (C_law_of : CallF b Γ P w K mg base 2 "_law_of" ["_law_deal", "_law_some"] P_law_of) (C_law_any : CallF b Γ P w K mg base 1 "_law_any" ["_law_deal", "_law_bound"] P_law_any) {f : Addr} {fd : FuncData} (F : Fun K "_law_line" "_law_line" s_law_line f fd) : FnB b P w K mg base 3 f fd ["_law_deal", "_law_kinds", "_law_lines", "_law_at"] (spF Γ K P_law_line 4) :=
  fnB_of (k := 2) F sc_law_line fun cdv A outer s H E hr => ⟨_,
    (ss_cons (s_if (t_cmp (k_eq hr.u65) (b_var 3) (DE.toB e_int)) (ss_cons (s_ret (e_cf C_law_of hr (takes_of rfl rfl rfl rfl) (am_cons (v_io 0) (am_cons (v_e (DO.toE (o_lst (a_cons e_str (a_cons e_str (a_cons e_str (a_cons e_str (a_cons e_str (a_cons e_str (a_cons e_str (a_cons e_str (a_cons e_str (a_cons e_str (a_cons e_str a_nil)))))))))))))) am_nil))))
    ss_nil) ss_nil)
    (ss_cons (s_if (t_w (w_and (t_cmp k_gt (b_var 3) (DE.toB e_int)) (w_and1 (t_cmp (k_eq hr.u65) (DE.toB (e_cf C_law_any hr (takes_of rfl rfl rfl rfl) (am_cons (v_io 0) (am_cons (v_e e_int) am_nil)))) (DE.toB e_int))))) (ss_cons (s_ret (e_ix (b_var 2) (DE.toB (e_sub (b_var 3) (DE.toB e_int)))))
    ss_nil) ss_nil)
    (ss_cons (s_set 4 sc_law_line.nd (DO.toE (o_rep (DE.toB (DO.toE (o_lst (a_cons e_str a_nil)))) (b_var 1))))
    (ss_cons (s_set 5 sc_law_line.nd (DO.toE (o_lst (a_cons (e_plus (b_var 4) (DE.toB (DO.toE (o_lst (a_cons e_str a_nil))))) (a_cons (e_sl (b_var 4) (p_some (DE.toB e_int)) p_none) (a_cons (e_plus (DE.toB (DO.toE (o_lst (a_cons e_str a_nil)))) (DE.toB (e_sl (b_var 4) (p_some (DE.toB e_int)) p_none))) (a_cons (e_plus (DE.toB (DO.toE (o_lst (a_cons e_str a_nil)))) (DE.toB (e_sl (b_var 4) (p_some (DE.toB e_int)) p_none))) (a_cons (e_plus (DE.toB (DO.toE (o_lst (a_cons e_str a_nil)))) (DE.toB (e_sl (b_var 4) (p_some (DE.toB e_int)) p_none))) (a_cons (e_plus (DE.toB (DO.toE (o_lst (a_cons e_str a_nil)))) (DE.toB (e_sl (b_var 4) (p_some (DE.toB e_int)) p_none))) (a_cons (e_plus (DE.toB (DO.toE (o_lst (a_cons e_str a_nil)))) (DE.toB (e_sl (b_var 4) (p_some (DE.toB e_int)) p_none))) (a_cons (DO.toE (o_rep (DE.toB (DO.toE (o_lst (a_cons e_str a_nil)))) (b_var 1))) a_nil)))))))))))
    (ss_cons (s_ret (e_join (DE.toB (e_cf C_law_of hr (takes_of rfl rfl rfl rfl) (am_cons (v_io 0) (am_cons (v_e (e_plus (b_var 5) (DE.toB (DO.toE (o_lst (a_cons (e_plus (b_var 4) (DE.toB (DO.toE (o_lst (a_cons e_str a_nil))))) (a_cons (e_plus (DE.toB (DO.toE (o_lst (a_cons e_str a_nil)))) (DE.toB (e_sl (b_var 4) (p_some (DE.toB e_int)) p_none))) a_nil))))))) am_nil))))))
    ss_nil)))))⟩
theorem cf_law_line (T : Txt Γ P K mg) (C_law_of : CallF b Γ P w K mg base 2 "_law_of" ["_law_deal", "_law_some"] P_law_of) (C_law_any : CallF b Γ P w K mg base 1 "_law_any" ["_law_deal", "_law_bound"] P_law_any) : CallF b Γ P w K mg base 3 "_law_line" ["_law_deal", "_law_kinds", "_law_lines", "_law_at"] P_law_line :=
  let ⟨f, fd, F, hm⟩ := T.d_law_line
  ⟨f, fd, fn_law_line T C_law_of C_law_any F, hm, F.kp, F.binds fun _ _ _ _ _ _ us hl => match us, hl with | [_, _, _, _], _ => rfl⟩
theorem sc_init_Book : FnScope ["self", "kinds", "batches", "at", "batch"] ["self", "kinds", "batches"] (defScope s_init_Book) := ⟨rfl, rfl, rfl, by decide +kernel, rfl, by decide +kernel, by decide +kernel⟩
theorem fn_Book (T : Txt Γ P K mg) (C_is_batch : CallF b Γ P w K mg base 3 "is_batch" ["kinds", "value"] P_is_batch) (C_is_sequence : CallF b Γ P w K mg base 1 "is_sequence" ["value"] P_is_sequence) (C_is_number : CallF b Γ P w K mg base 2 "is_number" ["value"] P_is_number) {f : Addr} {fd : FuncData} (F : Fun K "__init__" "Book.__init__" s_init_Book f fd) : FnB b P w K mg base 4 f fd ["self", "kinds", "batches"] (spI Γ K 0 P_init_Book 2) :=
  fnI_of (k := 3) F sc_init_Book T.fl_Book T.ks_Book (T.kc 0) (by decide) (by decide) fun cdv A outer s H E hr => ⟨_,
    (ini_pre (s_if (t_w (w_or (t_not (t_tru (DE.toB (e_cf C_is_number hr (takes_of rfl rfl rfl rfl) (am_cons (v_any 1) am_nil))))) (w_or1 (t_cmp (k_eq hr.u65) (b_var 1) (DE.toB e_int))))) (ss_cons (s_raise T.x_InvalidBook (takes_of rfl rfl rfl rfl) hr e_int)
    ss_nil) ss_nil)
    (ini_pre (s_if (t_not (t_tru (DE.toB (e_cf C_is_sequence hr (takes_of rfl rfl rfl rfl) (am_cons (v_any 2) am_nil))))) (ss_cons (s_raise T.x_InvalidBook (takes_of rfl rfl rfl rfl) hr e_int)
    ss_nil) ss_nil)
    (ini_pre (s_for (vs := [3, 4]) (passes_of rfl) rfl (i_enum T.z_enumerate (q_v 2)) (g_tup (n := 2) rfl (gs_cons (g_name 3 sc_init_Book.nd (by decide)) (gs_cons (g_name 4 sc_init_Book.nd (by decide)) gs_nil))) (ss_cons (s_if (t_w (w_or (t_not (t_tru (DE.toB (e_cf C_is_batch hr (takes_of rfl rfl rfl rfl) (am_cons (v_any 1) (am_cons (v_e (e_var 4)) am_nil)))))) (w_or1 (t_cmp (k_in hr.u65) (b_var 4) (DE.toB (e_sl (b_var 2) p_none (p_some (b_var 3)))))))) (ss_cons (s_raise T.x_InvalidBook (takes_of rfl rfl rfl rfl) hr (e_plus (DE.toB e_int) (b_var 3)))
    ss_nil) ss_nil)
    ss_nil))
    (ini_fld (by rw [T.cf]; decide +kernel) T.c_Book T.n_Book_kinds (e_var 1)
    (ini_fld (by rw [T.cf]; decide +kernel) T.c_Book T.n_Book_batches (e_tuple T.z_tuple (DE.toB (DO.toE (o_sorted T.z_sorted (b_var 2)))))
    (ini_cch T.cf T.c_Book T.n_Book_found))))))⟩
theorem cm_Book (T : Txt Γ P K mg) (C_is_batch : CallF b Γ P w K mg base 3 "is_batch" ["kinds", "value"] P_is_batch) (C_is_sequence : CallF b Γ P w K mg base 1 "is_sequence" ["value"] P_is_sequence) (C_is_number : CallF b Γ P w K mg base 2 "is_number" ["value"] P_is_number) : CallM b Γ P w K mg base 4 0 "Book" ["self", "kinds", "batches"] 2 P_init_Book := by
  obtain ⟨f, fd, F, M, hm⟩ := T.i_Book
  exact ⟨f, fd, M, fn_Book T C_is_batch C_is_sequence C_is_number F, hm, F.binds fun _ _ _ _ _ _ us hl => match us, hl with | [_, _, _], _ => rfl⟩
theorem sc_read_book : FnScope ["text", "lines", "words", "kinds", "batches", "at", "batch"] ["text"] (defScope s_read_book) := ⟨rfl, rfl, rfl, by decide +kernel, rfl, by decide +kernel, by decide +kernel⟩
theorem fn_read_book (T : Txt Γ P K mg) (C_numbers_of : CallF b Γ P w K mg base 3 "numbers_of" ["words", "at"] P_numbers_of) (C_Book : CallM b Γ P w K mg base 4 0 "Book" ["self", "kinds", "batches"] 2 P_init_Book) {f : Addr} {fd : FuncData} (F : Fun K "read_book" "read_book" s_read_book f fd) : FnB b P w K mg base 6 f fd ["text"] (spF Γ K P_read_book 1) :=
  fnB_of (k := 5) F sc_read_book fun cdv A outer s H E hr => ⟨_,
    (ss_cons (s_if (t_not (t_tru (DE.toB (e_isT (n := "str") T.z_isinstance T.z_str bt_str (b_var 0))))) (ss_cons (s_raise T.x_InvalidText (takes_of rfl rfl rfl rfl) hr e_int)
    ss_nil) ss_nil)
    (ss_cons (s_set 1 sc_read_book.nd (DO.toE (o_split (b_var 0))))
    (ss_cons (s_set 2 sc_read_book.nd (DO.toE (o_split (DE.toB (e_ix (b_var 1) (DE.toB e_int))))))
    (ss_cons (s_if (t_w (w_or (t_cmp (k_ne hr.u65) (DE.toB (e_len T.z_len (b_var 2))) (DE.toB e_int)) (w_or1 (t_cmp (k_ne hr.u65) (DE.toB (e_ix (b_var 2) (DE.toB e_int))) (DE.toB e_str))))) (ss_cons (s_raise T.x_InvalidText (takes_of rfl rfl rfl rfl) hr e_int)
    ss_nil) ss_nil)
    (ss_cons (s_par2 3 4 rfl sc_read_book.nd (p_keep (e_ix (DE.toB (e_cf C_numbers_of hr (takes_of rfl rfl rfl rfl) (am_cons (v_e (e_sl (b_var 2) (p_some (DE.toB e_int)) p_none)) (am_cons (v_e e_int) am_nil)))) (DE.toB e_int)) (p_fresh (o_lst a_nil) p_nil)))
    (ss_cons (s_if (t_cmp (k_eq hr.u65) (b_var 3) (DE.toB e_int)) (ss_cons (s_raise T.x_InvalidText (takes_of rfl rfl rfl rfl) hr e_int)
    ss_nil) ss_nil)
    (ss_cons (s_for (vs := [5]) (passes_of rfl) rfl (i_range2 T.z_range (DE.toB e_int) (DE.toB (e_len T.z_len (b_var 1)))) (g_name 5 sc_read_book.nd (by decide)) (ss_cons (s_set 6 sc_read_book.nd (e_cf C_numbers_of hr (takes_of rfl rfl rfl rfl) (am_cons (v_e (DO.toE (o_split (DE.toB (e_ix (b_var 1) (b_var 5)))))) (am_cons (v_e (e_var 5)) am_nil))))
    (ss_cons (s_if (t_w (w_or (t_cmp (k_ne hr.u65) (DE.toB (e_len T.z_len (b_var 6))) (b_var 3)) (w_or (t_cmp (k_eq hr.u65) (DE.toB (e_sum rfl T.z_sum (b_var 6))) (DE.toB e_int)) (w_or1 (t_w (w_and (t_cmp k_gt (DE.toB (e_len T.z_len (b_var 4))) (DE.toB e_int)) (w_and1 (t_cmp (k_leT hr.u65) (b_var 6) (DE.toB (e_ix (b_var 4) (DE.toB (e_neg (DE.toB e_int))))))))))))) (ss_cons (s_raise T.x_InvalidText (takes_of rfl rfl rfl rfl) hr (e_var 5))
    ss_nil) ss_nil)
    (ss_cons (s_expr (e_app 4 (e_var 6)))
    ss_nil))))
    (ss_cons (s_ret (e_mk C_Book (hr.mono (by decide)) (takes_of rfl rfl rfl rfl) (am_cons (v_e (e_var 3)) (am_cons (v_bor 4) am_nil))))
    ss_nil))))))))⟩
theorem cf_read_book (T : Txt Γ P K mg) (C_numbers_of : CallF b Γ P w K mg base 3 "numbers_of" ["words", "at"] P_numbers_of) (C_Book : CallM b Γ P w K mg base 4 0 "Book" ["self", "kinds", "batches"] 2 P_init_Book) : CallF b Γ P w K mg base 6 "read_book" ["text"] P_read_book :=
  let ⟨f, fd, F, hm⟩ := T.d_read_book
  ⟨f, fd, fn_read_book T C_numbers_of C_Book F, hm, F.kp, F.binds fun _ _ _ _ _ _ us hl => match us, hl with | [_], _ => rfl⟩
theorem sc_law_read : FnScope ["_law_text", "wrong"] ["_law_text"] (defScope s_law_read) := ⟨rfl, rfl, rfl, by decide +kernel, rfl, by decide +kernel, by decide +kernel⟩
theorem fn_law_read (T : Txt Γ P K mg) (C_read_book : CallF b Γ P w K mg base 6 "read_book" ["text"] P_read_book) (C_read_book_k0 : CallK b Γ P w K mg base 6 "read_book" ["text"] ["text"] [0] P_read_book) {f : Addr} {fd : FuncData} (F : Fun K "_law_read" "_law_read" s_law_read f fd) : FnB b P w K mg base 7 f fd ["_law_text"] (spF Γ K P_law_read 1) :=
  fnB_of (k := 6) F sc_law_read fun cdv A outer s H E hr => ⟨_,
    (ss_cons (s_try 1 (fun c h => T.exm 15 c (by decide) h) sc_law_read.nd ⟨rfl, by decide, .inl T.g_InvalidText⟩ (takes_of rfl rfl rfl rfl) (fun W2 pn xe h1 h2 => ⟨_, (ss_cons (s_ret (e_ck C_read_book_k0 hr h1 (kw_cons (v_e (e_var 0)) kw_nil)))
    ss_nil)⟩) (fun a oe cls d pn hz hf => pss_one (ps_ret (pe_at T.xf_InvalidText hz hf rfl (by first | exact Or.inl rfl | exact Or.inr (Or.inl rfl) | exact Or.inr (Or.inr rfl)) (by decide) (by decide) rfl))) hdl_at)
    ss_nil)⟩
theorem cf_law_read (T : Txt Γ P K mg) (C_read_book : CallF b Γ P w K mg base 6 "read_book" ["text"] P_read_book) (C_read_book_k0 : CallK b Γ P w K mg base 6 "read_book" ["text"] ["text"] [0] P_read_book) : CallF b Γ P w K mg base 7 "_law_read" ["_law_text"] P_law_read :=
  let ⟨f, fd, F, hm⟩ := T.d_law_read
  ⟨f, fd, fn_law_read T C_read_book C_read_book_k0 F, hm, F.kp, F.binds fun _ _ _ _ _ _ us hl => match us, hl with | [_], _ => rfl⟩
theorem sc_law : FnScope ["_law_script", "_law_deal", "_law_kinds", "_law_batches", "_law_book_here", "_law_lines", "_law_batch", "_law_text", "_law_at", "_law_spoilt", "_law_i", "_law_swapped", "_law_told", "_law_x"] ["_law_script"] (defScope s_law) := ⟨rfl, rfl, rfl, by decide +kernel, rfl, by decide +kernel, by decide +kernel⟩
theorem fn_law (T : Txt Γ P K mg) (C_draw : CallD Γ.kt true P w K mg base 1 "_law_draw" ["_law_script", "_law_salt"] dr_law_draw) (C_law_read : CallF true Γ P w K mg base 7 "_law_read" ["_law_text"] P_law_read) (C_law_of : CallF true Γ P w K mg base 2 "_law_of" ["_law_deal", "_law_some"] P_law_of) (C_law_any : CallF true Γ P w K mg base 1 "_law_any" ["_law_deal", "_law_bound"] P_law_any) (C_law_line : CallF true Γ P w K mg base 3 "_law_line" ["_law_deal", "_law_kinds", "_law_lines", "_law_at"] P_law_line) (C_book_text : CallF true Γ P w K mg base 1 "book_text" ["book"] P_book_text) (C_law_book : CallF true Γ P w K mg base 19 "_law_book" ["_law_deal", "_law_most"] P_law_book) (C_eqBook : CallEq true Γ P w K mg base 1 0 P_eqBook) (C_Book : CallM true Γ P w K mg base 4 0 "Book" ["self", "kinds", "batches"] 2 P_init_Book) (C_book_text_k0 : CallK true Γ P w K mg base 1 "book_text" ["book"] ["book"] [0] P_book_text) {f : Addr} {fd : FuncData} (F : Fun K "law" "law" s_law f fd) : FnB true P w K mg base 20 f fd ["_law_script"] (spLw K lw_k04) :=
  fnLw_of (Γ := Γ) (k := 19) F sc_law rfl (by decide) T.tb0 fun cdv A outer s H E hr => lw_body (ps_draw C_draw hr sc_law.nd)
    (ss_cons (s_asg (vs := [2, 3]) (e_cf C_law_book hr takes0 (am_cons (v_io 1) (am_cons (v_e e_int) am_nil))) (g_tup (n := 2) rfl (gs_cons (g_name 2 sc_law.nd (by decide)) (gs_cons (g_name 3 sc_law.nd (by decide)) gs_nil))))
    (ss_cons (s_set 4 sc_law.nd (e_mk C_Book (hr.mono (by decide)) takes0 (am_cons (v_e (e_var 2)) (am_cons (v_e (e_var 3)) am_nil))))
    (ss_cons (s_own 5 sc_law.nd (o_lst (a_cons (e_plus (DE.toB e_str) (DE.toB (e_toStr T.z_str (b_var 2)))) a_nil)))
    (ss_cons (s_for (vs := [6]) (passes_of rfl) rfl (i_seq (q_v 3)) (g_name 6 sc_law.nd (by decide)) (ss_cons (s_expr (e_app 5 (e_join (DE.toB (DO.toE (o_comp [("_law_x", 13)] sc_law.nd (i_seq (q_s 6)) (fun _ _ _ _ _ => ⟨_, (g_name 13 sc_law.nd (by decide))⟩) (fun _ _ _ _ _ => ⟨_, ts_nil⟩) (fun _ _ _ _ _ => ⟨_, (e_toStr T.z_str (b_var 13))⟩)))))))
    ss_nil))
    (ss_cons (s_set 7 sc_law.nd (e_join (b_var 5)))
    (ss_cons (s_if (t_w (w_or (t_cmp (k_ne hr.u65) (DE.toB (e_ck C_book_text_k0 hr takes0 (kw_cons (v_e (e_var 4)) kw_nil))) (b_var 7)) (w_or1 (t_neO C_eqBook hr (DE.toB (e_cf C_law_read hr takes0 (am_cons (v_e (e_var 7)) am_nil))) (b_var 4))))) (ss_cons (s_ret e_bl)
    ss_nil) ss_nil)
    (ss_cons (s_set 8 sc_law.nd (e_cf C_law_any hr takes0 (am_cons (v_io 1) (am_cons (v_e (e_len T.z_len (b_var 5))) am_nil))))
    (ss_cons (s_set 9 sc_law.nd (e_plus (DE.toB (e_plus (DE.toB (e_sl (b_var 5) p_none (p_some (b_var 8)))) (DE.toB (DO.toE (o_lst (a_cons (e_cf C_law_line hr takes0 (am_cons (v_io 1) (am_cons (v_e (e_var 2)) (am_cons (v_e (e_var 5)) (am_cons (v_e (e_var 8)) am_nil))))) a_nil)))))) (DE.toB (e_sl (b_var 5) (p_some (DE.toB (e_plus (b_var 8) (DE.toB e_int)))) p_none))))
    (ss_cons (s_if (t_neO C_eqBook hr (DE.toB (e_cf C_law_read hr takes0 (am_cons (v_e (e_join (b_var 9))) am_nil))) (b_var 8)) (ss_cons (s_ret e_bl)
    ss_nil) ss_nil)
    (ss_cons (s_if (t_cmp k_gt (DE.toB (e_len T.z_len (b_var 3))) (DE.toB e_int)) (ss_cons (s_set 10 sc_law.nd (e_plus (DE.toB e_int) (DE.toB (e_cf C_law_any hr takes0 (am_cons (v_io 1) (am_cons (v_e (e_sub (DE.toB (e_len T.z_len (b_var 3))) (DE.toB e_int))) am_nil))))))
    (ss_cons (s_set 11 sc_law.nd (e_plus (DE.toB (e_plus (DE.toB (e_sl (b_var 5) p_none (p_some (b_var 10)))) (DE.toB (DO.toE (o_lst (a_cons (e_ix (b_var 5) (DE.toB (e_plus (b_var 10) (DE.toB e_int)))) (a_cons (e_ix (b_var 5) (b_var 10)) a_nil))))))) (DE.toB (e_sl (b_var 5) (p_some (DE.toB (e_plus (b_var 10) (DE.toB e_int)))) p_none))))
    (ss_cons (s_if (t_neO C_eqBook hr (DE.toB (e_cf C_law_read hr takes0 (am_cons (v_e (e_join (b_var 11))) am_nil))) (DE.toB (e_plus (b_var 10) (DE.toB e_int)))) (ss_cons (s_ret e_bl)
    ss_nil) ss_nil)
    ss_nil))) ss_nil)
    (ss_cons (s_if (t_w (w_or (t_neO C_eqBook hr (DE.toB (e_cf C_law_read hr takes0 (am_cons (v_e (e_plus (b_var 7) (DE.toB e_str))) am_nil))) (DE.toB (e_len T.z_len (b_var 5)))) (w_or1 (t_neO C_eqBook hr (DE.toB (e_cf C_law_read hr takes0 (am_cons (v_e (e_cf C_law_of hr takes0 (am_cons (v_io 1) (am_cons (v_e (DO.toE (o_lst (a_cons e_non (a_cons e_int (a_cons (DO.toE (o_lst (a_cons (e_var 7) a_nil))) (a_cons (e_tup (a_cons (e_var 7) a_nil)) a_nil))))))) am_nil)))) am_nil))) (DE.toB e_int))))) (ss_cons (s_ret e_bl)
    ss_nil) ss_nil)
    (ss_cons (s_set 12 sc_law.nd (e_cf C_law_read hr takes0 (am_cons (v_e (e_join (DE.toB (DO.toE (o_lst (a_cons e_str (a_cons e_str (a_cons e_str a_nil)))))))) am_nil)))
    (ss_cons (s_ret (e_and (e_eqO C_eqBook hr (b_var 12) (DE.toB (e_mk C_Book (hr.mono (by decide)) takes0 (am_cons (v_e e_int) (am_cons (v_e (DO.toE (o_lst (a_cons (e_tup (a_cons e_int (a_cons e_int a_nil))) (a_cons (e_tup (a_cons e_int (a_cons e_int a_nil))) a_nil))))) am_nil))))) (e_one (e_eqO C_eqBook hr (DE.toB (e_cf C_law_read hr takes0 (am_cons (v_e e_str) am_nil))) (DE.toB (e_mk C_Book (hr.mono (by decide)) takes0 (am_cons (v_e e_int) (am_cons (v_e (DO.toE (o_lst a_nil))) am_nil))))))))
    ss_nil)))))))))))))
theorem law_all (T : Txt Γ P K mg) : ∃ f fd, Fun K "law" "law" s_law f fd ∧ mg "law" = some (.ref f) ∧ ∀ base : Heap, FnB true P w K mg base 20 f fd ["_law_script"] (spLw K lw_k04) := by
  obtain ⟨f, fd, F, hm⟩ := T.d_law
  refine ⟨f, fd, F, hm, fun base => ?_⟩
  have C_eqBook := ce_Book (b := true) (P := P) (w := w) (base := base) T
  have C__wall := cf__wall (b := true) (P := P) (w := w) (base := base) T
  have C_is_integer := cf_is_integer (b := true) (P := P) (w := w) (base := base) T
  have C_is_number := cf_is_number (b := true) (P := P) (w := w) (base := base) T C_is_integer
  have C_is_sequence := cf_is_sequence (b := true) (P := P) (w := w) (base := base) T
  have C_is_batch := cf_is_batch (b := true) (P := P) (w := w) (base := base) T C_is_number
  have C_book_text := cf_book_text (b := true) (P := P) (w := w) (base := base) T
  have C_book_text_k0 : CallK true Γ P w K mg base 1 "book_text" ["book"] ["book"] [0] P_book_text := by
    obtain ⟨f, fd, F, hm⟩ := T.d_book_text
    exact ⟨f, fd, fn_book_text T F, hm, F.kp, L3.Fun.kwB F fun _ _ _ _ _ _ ws hl => match ws, hl with | [_], _ => rfl⟩
  have C_numbers_of := cf_numbers_of (b := true) (P := P) (w := w) (base := base) T
  have C_draw := cd_law_draw (b := true) (P := P) (w := w) (base := base) T
  have C_law_any := cf_law_any (b := true) (P := P) (w := w) (base := base) T
  have C_law_of := cf_law_of (b := true) (P := P) (w := w) (base := base) T C_law_any
  have C_law_within := cf_law_within (b := true) (P := P) (w := w) (base := base) T
  have C_law_more := cf_law_more (b := true) (P := P) (w := w) (base := base) T
  have C_law_crowds := cf_law_crowds (b := true) (P := P) (w := w) (base := base) T 16
  have C_law_zero := cf_law_zero (b := true) (P := P) (w := w) (base := base) T
  have C_law_named := cf_law_named (b := true) (P := P) (w := w) (base := base) T C_law_crowds C_law_within C_law_zero C_law_any C_law_of
  have C_law_book := cf_law_book (b := true) (P := P) (w := w) (base := base) T C_law_any C_law_of C_law_crowds C_law_more C_law_named
  have C_law_line := cf_law_line (b := true) (P := P) (w := w) (base := base) T C_law_of C_law_any
  have C_Book := cm_Book (b := true) (P := P) (w := w) (base := base) T C_is_batch C_is_sequence C_is_number
  have C_read_book := cf_read_book (b := true) (P := P) (w := w) (base := base) T C_numbers_of C_Book
  have C_read_book_k0 : CallK true Γ P w K mg base 6 "read_book" ["text"] ["text"] [0] P_read_book := by
    obtain ⟨f, fd, F, hm⟩ := T.d_read_book
    exact ⟨f, fd, fn_read_book T C_numbers_of C_Book F, hm, F.kp, L3.Fun.kwB F fun _ _ _ _ _ _ ws hl => match ws, hl with | [_], _ => rfl⟩
  have C_law_read := cf_law_read (b := true) (P := P) (w := w) (base := base) T C_read_book C_read_book_k0
  exact fn_law T C_draw C_law_read C_law_of C_law_any C_law_line C_book_text C_law_book C_eqBook C_Book C_book_text_k0 F
end
end K04
namespace L3
open PySem PySem.Spec PyProof.Rows L2
def isO (a b : Option (Option Value)) : Bool := decide (a = b)
def funAt (K : PySem.W.Frag) (f : Addr) : Option FuncData := match K.lookup f with
  | some ⟨_, _, .func fd, _⟩ => some fd
  | _ => none
theorem funAt_some {K : PySem.W.Frag} {f : Addr} {fd : FuncData} (h : funAt K f = some fd) : ∃ oc od osl, K.lookup f = some ⟨oc, od, .func fd, osl⟩ := by
  unfold funAt at h
  split at h
  · rename_i oc od g osl e
    cases h
    exact ⟨oc, od, osl, e⟩
  · cases h
def cellTo (K : PySem.W.Frag) (c : Addr) : Option Addr := match K.lookup c with
  | some ⟨_, _, .cell (some (.ref d)), _⟩ => some d
  | _ => none
theorem cellTo_some {K : PySem.W.Frag} {c d : Addr} (h : cellTo K c = some d) : ∃ a b s, K.lookup c = some ⟨a, b, .cell (some (.ref d)), s⟩ := by
  unfold cellTo at h
  split at h
  · rename_i a b x s e
    cases h
    exact ⟨a, b, s, e⟩
  · cases h
def fileOf (K : PySem.W.Frag) (c : Addr) : Option Str := match K.lookup c with
  | some ⟨_, _, .fields vs, _⟩ => (match vs[2]? with
    | some (Value.str z _) => some z
    | _ => none)
  | _ => none
theorem fileOf_some {K : PySem.W.Frag} {c : Addr} {z : Str} (h : fileOf K c = some z) : ∃ a b vs s t, K.lookup c = some ⟨a, b, .fields vs, s⟩ ∧ vs[2]? = some (Value.str z t) := by
  unfold fileOf at h
  split at h
  · rename_i a b vs s e
    split at h
    · rename_i z' t e2
      cases h
      exact ⟨a, b, vs, s, t, e, e2⟩
    · cases h
  · cases h
/-- an own error's class object -/
def errCls (K : PySem.W.Frag) (C : Addr) : Bool := match K.lookup C with
  | some ⟨.type "type", _, .cls cd, sl⟩ => (match cd.mro, sl.toList with
    | .ref D :: bm, [_, _, _, _, some (.builtin n), _] => D == C && n == "ValueError.__new__" && cd.hasDict && !cd.hasDel && PySem.HandSPX.refsVE bm
    | _, _ => false)
  | _ => false
theorem errCls_ok {K : PySem.W.Frag} {C : Addr} (h : errCls K C = true) : ∃ nm q N bs bm sn sub ab col dd k0 k1 k2 k3 k5, K.lookup C = some (excClassObj nm q C N bs bm true sn sub ab col dd k0 k1 k2 k3 k5 "ValueError.__new__") ∧ PySem.HandSPX.refsVE bm = true := by
  unfold errCls at h
  split at h
  · rename_i dd cd sl ho
    split at h
    · rename_i D bm k0 k1 k2 k3 n k5 hm hs
      simp only [Bool.and_eq_true, beq_iff_eq, Bool.not_eq_true'] at h
      obtain ⟨⟨⟨⟨rfl, rfl⟩, hd⟩, hdel⟩, hb⟩ := h
      obtain ⟨nm, bs, mro, ns, qn, hdi, sn, sub, ab, col, del⟩ := cd
      dsimp only at hm hdel hd
      subst hm hdel hd
      obtain ⟨l⟩ := sl
      simp only at hs
      subst hs
      exact ⟨nm, qn, ns, bs, bm, sn, sub, ab, col, dd, k0, k1, k2, k3, k5, ho, hb⟩
    · cases h
  · cases h
abbrev FnE : Type := Option (Str × Str × Arguments × FuncBody × Scope × Addr × List Str × Value × Addr)
/-- the __init__ of the own error x -/
def initE (K : PySem.W.Frag) (x : Str) : FnE := (funAt K (He.ma K (He.ga K x) "__init__")).map fun fd => (fd.name, fd.qualname, fd.params, fd.body, fd.scope, fd.globals, fd.closure.map (·.1), fd.defaults, fd.builtins)
def valE (q : Str) (st : Stmt) : FnE := some ("__init__", q, defArgs st, .stmts (defBody st), defScope st, mainGlobals, ["__class__"], .none, builtinsNs)
def errFn (file : Str) (K : PySem.W.Frag) (C f : Addr) : Bool := match funAt K f with
  | some fd => (match fd.code with
      | .ref c => PySem.W.codeIn K (.ref c) fd.qualname && decide (fileOf K c = some file)
      | _ => false) && (match fd.closure with
      | [(_, c)] => decide (cellTo K c = some C)
      | _ => false)
  | none => false
def errB (file : Str) (K : PySem.W.Frag) (x : Str) : Bool :=
  errCls K (He.ga K x) && (isO (PySem.W.findIn K (.ref (He.ga K x)) "__setattr__") (some (some (.builtin "object.__setattr__"))) && (decide (PySem.W.subIn K (.ref (He.ga K x)) (.type "BaseException") = some true) && (decide (PySem.W.typeIn K (.ref (He.ga K x)) = some (.type "type")) &&
    (PySem.W.keepIn K (.ref (He.ga K x)) && (errFn file K (He.ga K x) (He.ma K (He.ga K x) "__init__") && (decide (PySem.W.mroIn K (He.ga K x) (.ref (He.ga K x)) = some true) && (isO (PySem.W.ks_superIn K (He.ga K x) (He.ga K x) "__init__") (some (some (.builtin "ValueError.__init__"))) &&
      (decide (PySem.W.subIn K (.ref (He.ga K x)) (.type "ValueError") = some true) && (isO (PySem.W.nsIn K cStatics "thirdparty.any") (some none) && (isO (PySem.W.findIn K (.ref (He.ga K x)) "at") (some none) && (isO (PySem.W.findIn K (.ref (He.ga K x)) "__init__") (some (some (.ref (He.ma K (He.ga K x) "__init__")))) &&
        (decide (PySem.W.typeIn K (.ref (He.ma K (He.ga K x) "__init__")) = some (.type "function")) && xfB K (He.ga K x)))))))))))))
/-- of the text: such an __init__ -/
def ErrTxt (st : Stmt) : Prop := ∃ p0 p1 p2 p3 p4 p5 p6 p7 p8 p9 msg j, defBody st = initBody p0 p1 p2 p3 p4 p5 p6 p7 p8 p9 msg j ∧ (p2.endLine == p4.line) = true ∧ defScope st = initScope ∧ ∃ ar, ((defArgs st).posonlyargs ++ (defArgs st).args).head? = some ar ∧ ar.arg = "self"
theorem an {a b : Bool} (h : (a && b) = true) : a = true ∧ b = true := Bool.and_eq_true_iff.mp h
section
variable {Γ : Ct} {P : Program} {K : PySem.W.Frag} {mg : Str → Option Value} {c : Nat} {x q file : Str} {st : Stmt}
theorem excR_ok (h : errB file K x = true) (e : initE K x = valE q st) (t : ErrTxt st) (hc : Γ.ad c = He.ga K x) (hm : mg x = some (.ref (He.ga K x))) (hs : mg "super" = none) (hf : P.main.file = file) (ht : (P.main.scope.names.lookup ("super" : Str)).isSome = false)
    (hb : ∀ (nm : Str) (bd : List Stmt) (sc : Scope) (cl : List (Str × Addr)) (kV doc pm : Value) (an : Option Addr) (cdv ct : Value) (us : List Value), us.length = 2 → bindArgs (PySem.W.fnX nm q (defArgs st) bd sc cl .none kV doc pm an cdv ct) ⟨us, []⟩ = pure ((["self", "at"] : List Str).zip us)) :
    ExcR Γ P K mg c x := by
  obtain ⟨h1, h⟩ := an h
  obtain ⟨h2, h⟩ := an h
  obtain ⟨h3, h⟩ := an h
  obtain ⟨h4, h⟩ := an h
  obtain ⟨h5, h⟩ := an h
  obtain ⟨h6, h⟩ := an h
  obtain ⟨h7, h⟩ := an h
  obtain ⟨h8, h⟩ := an h
  obtain ⟨h9, h⟩ := an h
  obtain ⟨h10, h⟩ := an h
  obtain ⟨h11, h⟩ := an h
  obtain ⟨h12, h⟩ := an h
  obtain ⟨h13, h14⟩ := an h
  unfold errFn at h6
  unfold initE at e
  cases hfa : funAt K (He.ma K (He.ga K x) "__init__") with
  | none => rw [hfa] at h6; cases h6
  | some fd =>
    rw [hfa] at h6 e
    obtain ⟨oc, od, osl, lk⟩ := funAt_some hfa
    obtain ⟨n1, n2, n3, n4, n5, n6, n7, n8, n9, n10, n11, n12, n13, n14, n15⟩ := fd
    simp only [Option.map_some, valE, Option.some.injEq, Prod.mk.injEq] at e
    obtain ⟨rfl, rfl, rfl, rfl, rfl, rfl, ecl, rfl, rfl⟩ := e
    obtain ⟨k1, k2⟩ := an h6
    dsimp only at k1 k2
    cases n13 with
    | ref cda =>
      dsimp only at k1
      obtain ⟨k3, k4⟩ := an k1
      obtain ⟨ca, cb, vs, cs, tk, lk2, hv⟩ := fileOf_some (of_decide_eq_true k4)
      match n7, ecl, k2 with
      | [(nm, cc)], ecl, k2 =>
        have enm : nm = "__class__" := by simpa using ecl
        subst enm
        obtain ⟨a1, a2, a3, lk3⟩ := cellTo_some (of_decide_eq_true k2)
        obtain ⟨p0, p1, p2, p3, p4, p5, p6, p7, p8, p9, msg, j, eb, hl, es, ar⟩ := t
        rw [eb, es] at lk
        refine ⟨⟨_, _, ⟨?_, ⟨_, _, _, _, _, _, _, _, _, _, _, _, _, p0, p1, p2, p3, p4, p5, p6, p7, p8, p9, msg, j, rfl, hl, lk, k3, ar, ⟨ca, cb, vs, cs, file, tk, lk2, hv, by rw [hf]; simp⟩, ⟨a1, a2, a3, ?_⟩⟩, ?_, ?_, ?_, of_decide_eq_true h10, ?_, hs, ht⟩, ?_, of_decide_eq_true h13, ?_⟩, ?_⟩
        · rw [hc]
          exact ⟨errCls_ok h1, of_decide_eq_true h2, of_decide_eq_true h3, of_decide_eq_true h4, h5⟩
        · rw [hc]; exact lk3
        · rw [hc]; exact of_decide_eq_true h7
        · rw [hc]; exact of_decide_eq_true h8
        · rw [hc]; exact of_decide_eq_true h9
        · rw [hc]; exact of_decide_eq_true h11
        · rw [hc]; exact of_decide_eq_true h12
        · exact Binds.all fun us hl2 => hb _ _ _ _ _ _ _ _ _ _ us hl2
        · rw [hc]; exact hm
    | _ => cases k1
theorem xf_ok (h : errB file K x = true) (hc : Γ.ad c = He.ga K x) : XfF Γ K c := by
  obtain ⟨h1, h⟩ := an h
  obtain ⟨h2, h⟩ := an h
  obtain ⟨h3, h⟩ := an h
  obtain ⟨h4, h⟩ := an h
  obtain ⟨h5, h⟩ := an h
  obtain ⟨h6, h⟩ := an h
  obtain ⟨h7, h⟩ := an h
  obtain ⟨h8, h⟩ := an h
  obtain ⟨h9, h⟩ := an h
  obtain ⟨h10, h⟩ := an h
  obtain ⟨h11, h⟩ := an h
  obtain ⟨h12, h⟩ := an h
  obtain ⟨h13, h14⟩ := an h
  exact ⟨by rw [hc]; exact xfB_ok h14, by rw [hc]; exact of_decide_eq_true h11⟩
end
/-- names of classes by number -/
abbrev Cn := List (Nat × Str)
def nameOf (cn : Cn) (c : Nat) : Str := (cn.lookup c).getD ""
/-- the fields, all names of an instance, the field that keeps what was found, what is to be found under a word -/
structure Fli where
  fl : Nat → List Str
  ks : Nat → List Str
  cf : Option Str
  wk : Str → List D → Option D
  ws : List Str
  mks : List Str
  fns : List Str
abbrev lqn (x : Str) : Str := x ++ ".<locals>." ++ "<lambda>"
def tbOf (K : PySem.W.Frag) (xs : List Str) : List (Addr × Str) := xs.map fun x => ((He.cT K (x, none)).2, lqn x)
def ctOf (cn : Cn) (fl : Fli) (K : PySem.W.Frag) : Ct := ⟨fun c => He.ga K (nameOf cn c), fl.fl, fl.ks, fl.cf, fl.wk, fl.ws, tbOf K fl.mks, fun a => fl.mks = [] ∨ a ∈ (tbOf K fl.mks).map (·.1), fun n => He.ga K (fl.fns.getD n "")⟩
def exmB (cn : Cn) (errs : List Nat) (K : PySem.W.Frag) : Bool := errs.all fun c => errs.all fun c' => decide (PySem.W.exmOne K (.ref (He.ga K (nameOf cn c'))) (.ref (He.ga K (nameOf cn c))) = some (decide (c' = c)))
theorem exm_ok {cn : Cn} {errs : List Nat} {K : PySem.W.Frag} {fl : Fli} (h : exmB cn errs K = true) : ∀ c c' : Nat, c ∈ errs → c' ∈ errs → PySem.W.exmOne K (.ref ((ctOf cn fl K).ad c')) (.ref ((ctOf cn fl K).ad c)) = some (decide (c' = c)) := fun c c' h1 h2 =>
  of_decide_eq_true (List.all_eq_true.mp (List.all_eq_true.mp h c h1) c' h2)
def eqB (K : PySem.W.Frag) (x : Str) : Bool := isO (PySem.W.findIn K (.ref (He.ga K x)) "__ne__") (some (some (.builtin "object.__ne__"))) && decide (PySem.W.mroIn K (He.ga K x) (.type "object") = some true)
theorem eqIn_ok {K : PySem.W.Frag} {x : Str} (h : eqB K x = true) (m : Meth K (He.ga K x) "__eq__" (He.ma K (He.ga K x) "__eq__")) : EqIn K (He.ga K x) (He.ma K (He.ga K x) "__eq__") := by
  obtain ⟨h1, h2⟩ := an h
  exact ⟨m.at_, m.fn, of_decide_eq_true h1, of_decide_eq_true h2⟩
def kitNames : List String := ["NoneType", "bool", "int", "str", "tuple", "list", "dict"]
def isB (cn : Cn) (cs : List Nat) (c0 : Nat) (K : PySem.W.Frag) : Bool :=
  (kitNames.all fun n => decide (PySem.W.kitOne K (.type n) (.ref (He.ga K (nameOf cn c0))) = some false)) && ((cs.all fun c => decide (PySem.W.kitOne K (.ref (He.ga K (nameOf cn c))) (.ref (He.ga K (nameOf cn c0))) = some (decide (c = c0)))) &&
    ((cs.all fun c => (He.Fa.cls (nameOf cn c)).ok K && (isO (PySem.W.findIn K (.ref (He.ga K (nameOf cn c))) "__class__") (some (some (.builtin "object.__class__"))) && decide (PySem.W.mroIn K (He.ga K (nameOf cn c)) (.type "object") = some true))) &&
      (isO (PySem.W.specialIn K (.builtin "object.__class__") "__get__") (some (some (.builtin "getset_descriptor.__get__"))) && decide (PySem.W.takesIn K (.builtin "object.__class__") = some true))))
theorem is_ok {cn : Cn} {cs : List Nat} {c0 : Nat} {K : PySem.W.Frag} {fl : Fli} (h : isB cn cs c0 K = true) : IsC (ctOf cn fl K) K cs c0 := by
  obtain ⟨h1, h⟩ := an h
  obtain ⟨h2, h⟩ := an h
  obtain ⟨h3, h⟩ := an h
  obtain ⟨h4, h5⟩ := an h
  refine ⟨fun d n e => ?_, fun c hc => of_decide_eq_true (List.all_eq_true.mp h2 c hc), fun c hc => ?_, of_decide_eq_true h4, of_decide_eq_true h5⟩
  · have hn : n ∈ kitNames := by cases d <;> cases e <;> simp [kitNames]
    exact of_decide_eq_true (List.all_eq_true.mp h1 n hn)
  · obtain ⟨q1, q⟩ := an (List.all_eq_true.mp h3 c hc)
    obtain ⟨q2, q3⟩ := an q
    exact ⟨He.cls_ok q1, of_decide_eq_true q2, of_decide_eq_true q3⟩
abbrev AlY : Type := Bool × He.AlD × List FnE
def asY (g : Addr → Option Obj) (n : Nat) : List Addr := He.asD g n ++ [cStatics]
def obsY (ex : PySem.W.Frag → Bool) (fa : List He.Fa) (fn : List He.DefD) (en : List (Str × Str × Stmt)) (K : PySem.W.Frag) : AlY := (ex K, He.obsD fa fn K, en.map fun p => initE K p.1)
def valY (fn : List He.DefD) (en : List (Str × Str × Stmt)) : AlY := (true, He.valD fn, en.map fun p => valE p.2.1 p.2.2)
def obsYG (n : Nat) (ex : PySem.W.Frag → Bool) (fa : List He.Fa) (fn : List He.DefD) (en : List (Str × Str × Stmt)) (g : Addr → Option Obj) : AlY := obsY ex fa fn en (He.frG g (asY g n))
/-- what the end leans on -/
structure SaysY (ex : PySem.W.Frag → Bool) (fa : List He.Fa) (fn : List He.DefD) (en : List (Str × Str × Stmt)) (K : PySem.W.Frag) : Prop where
  x : ex K = true
  d : He.SaysD fa fn K
  e : (en.map fun p => initE K p.1) = en.map fun p => valE p.2.1 p.2.2
def hookY (n : Nat) (ex : PySem.W.Frag → Bool) (fa : List He.Fa) (fn : List He.DefD) (en : List (Str × Str × Stmt)) : PySem.W.Hook where
  α := AlY
  obs := fun s => obsYG n ex fa fn en s.heap.get?
  val := fun _ => valY fn en
  says := fun _ h => ∃ K : PySem.W.Frag, K.In h ∧ SaysY ex fa fn en K
  of := fun _ _ e => ⟨_, He.frG_in, congrArg Prod.fst e, congrArg (fun z : AlY => z.2.1) e, congrArg (fun z : AlY => z.2.2) e⟩
  keeps := fun _ _ _ ⟨K, hK, c⟩ k => ⟨K, PySem.W.Frag.In.keeps hK k, c⟩
theorem obsYG_eq {n : Nat} {ex : PySem.W.Frag → Bool} {fa : List He.Fa} {fn : List He.DefD} {en : List (Str × Str × Stmt)} {g : Addr → Option Obj} {s : Shared} (h : ∀ a, g a = s.heap.get? a) : obsYG n ex fa fn en g = (hookY n ex fa fn en).obs s := by
  have e : g = s.heap.get? := funext h
  rw [e] <;> rfl
theorem SaysY.err {ex : PySem.W.Frag → Bool} {fa : List He.Fa} {fn : List He.DefD} {en : List (Str × Str × Stmt)} {K : PySem.W.Frag} (c : SaysY ex fa fn en K) (i : Nat) {p : Str × Str × Stmt} (h : en[i]? = some p) : initE K p.1 = valE p.2.1 p.2.2 := by
  have e : (en.map fun p => initE K p.1)[i]? = (en.map fun p => valE p.2.1 p.2.2)[i]? := by rw [c.e]
  rw [List.getElem?_map, List.getElem?_map, h] at e
  exact Option.some.inj e
/-- the defs by number -/
theorem SaysY.fn {ex : PySem.W.Frag → Bool} {fa : List He.Fa} {fn : List He.DefD} {en : List (Str × Str × Stmt)} {K : PySem.W.Frag} (c : SaysY ex fa fn en K) (i : Nat) {at_ : Str × Option Str} {x q : Str} {st : Stmt} (h : fn[i]? = some ⟨at_, x, q, defArgs st, defBody st, defScope st, [], []⟩) : ∃ fd, Fun K x q st (He.fAd K at_) fd := by
  obtain ⟨fd, F⟩ := c.d.def_ i h
  exact ⟨fd, Fun.ofD F⟩
theorem Fun.one {K : PySem.W.Frag} {x qual a : Str} {st : Stmt} {f : Addr} {fd : FuncData} (F : Fun K x qual st f fd)
    (h : ∀ (kV doc pm : Value) (an : Option Addr) (cdv ct : Value) (us : List Value), us.length = 1 → bindArgs (PySem.W.fnOf x qual (defArgs st) (defBody st) (defScope st) .none kV doc pm an cdv ct) ⟨us, []⟩ = pure (([a] : List Str).zip us)) (s : Shared) (u : Value) : BindsTo s fd ⟨[u], []⟩ [(a, u)] := by
  obtain ⟨oc, od, kV, doc, pm, an, cdv, ct, osl, rfl, lk, hcd⟩ := F.ex
  exact .of_eq (h kV doc pm an cdv ct [u] rfl)
end L3
namespace K04
open PySem PySem.Spec PyProof.Rows L2 L3 Q
def cn : Cn := [(0, "Book"), (10, "InvalidBook"), (15, "InvalidText")]
def flf (c : Nat) : List Str := if c = 0 then ["kinds", "batches"] else []
noncomputable def fl : Fli := ⟨flf, fun c => flf c ++ [("_found" : Str)], some "_found", wkOf [], [], [], []⟩
abbrev s_err_InvalidText : Stmt := inClass (top 4) 0
theorem et_InvalidText : ErrTxt s_err_InvalidText := ⟨_, _, _, _, _, _, _, _, _, _, _, _, rfl, rfl, rfl, _, rfl, rfl⟩
abbrev s_err_InvalidBook : Stmt := inClass (top 3) 0
theorem et_InvalidBook : ErrTxt s_err_InvalidBook := ⟨_, _, _, _, _, _, _, _, _, _, _, _, rfl, rfl, rfl, _, rfl, rfl⟩
def fa : List He.Fa := [.free "isinstance",
  .free "bool",
  .free "int",
  .free "list",
  .free "tuple",
  .free "sum",
  .free "all",
  .free "len",
  .free "str",
  .free "abs",
  .free "enumerate",
  .free "range",
  .free "sorted",
  .glo "_wall",
  .glo "is_integer",
  .glo "is_number",
  .glo "is_sequence",
  .glo "is_batch",
  .glo "book_text",
  .glo "numbers_of",
  .glo "_law_draw",
  .glo "_law_any",
  .glo "_law_of",
  .glo "_law_within",
  .glo "_law_more",
  .glo "_law_crowds",
  .glo "_law_zero",
  .glo "_law_named",
  .glo "_law_book",
  .glo "_law_line",
  .glo "read_book",
  .glo "_law_read",
  .glo "law",
  .cls "Book",
  .noat "Book" "batches",
  .noat "Book" "kinds",
  .glo "Book",
  .meth "Book" "__eq__",
  .glo "InvalidText",
  .free "super",
  .glo "InvalidBook",
  .mkr "Book",
  .noat "Book" "_found"]
def fn : List He.DefD := [⟨("_wall", none), "_wall", "_wall", defArgs s__wall, defBody s__wall, defScope s__wall, [], []⟩,
  ⟨("is_integer", none), "is_integer", "is_integer", defArgs s_is_integer, defBody s_is_integer, defScope s_is_integer, [], []⟩,
  ⟨("is_number", none), "is_number", "is_number", defArgs s_is_number, defBody s_is_number, defScope s_is_number, [], []⟩,
  ⟨("is_sequence", none), "is_sequence", "is_sequence", defArgs s_is_sequence, defBody s_is_sequence, defScope s_is_sequence, [], []⟩,
  ⟨("is_batch", none), "is_batch", "is_batch", defArgs s_is_batch, defBody s_is_batch, defScope s_is_batch, [], []⟩,
  ⟨("book_text", none), "book_text", "book_text", defArgs s_book_text, defBody s_book_text, defScope s_book_text, [], []⟩,
  ⟨("numbers_of", none), "numbers_of", "numbers_of", defArgs s_numbers_of, defBody s_numbers_of, defScope s_numbers_of, [], []⟩,
  ⟨("_law_draw", none), "_law_draw", "_law_draw", defArgs s_law_draw, defBody s_law_draw, defScope s_law_draw, [], []⟩,
  ⟨("_law_any", none), "_law_any", "_law_any", defArgs s_law_any, defBody s_law_any, defScope s_law_any, [], []⟩,
  ⟨("_law_of", none), "_law_of", "_law_of", defArgs s_law_of, defBody s_law_of, defScope s_law_of, [], []⟩,
  ⟨("_law_within", none), "_law_within", "_law_within", defArgs s_law_within, defBody s_law_within, defScope s_law_within, [], []⟩,
  ⟨("_law_more", none), "_law_more", "_law_more", defArgs s_law_more, defBody s_law_more, defScope s_law_more, [], []⟩,
  ⟨("_law_crowds", none), "_law_crowds", "_law_crowds", defArgs s_law_crowds, defBody s_law_crowds, defScope s_law_crowds, [], []⟩,
  ⟨("_law_zero", none), "_law_zero", "_law_zero", defArgs s_law_zero, defBody s_law_zero, defScope s_law_zero, [], []⟩,
  ⟨("_law_named", none), "_law_named", "_law_named", defArgs s_law_named, defBody s_law_named, defScope s_law_named, [], []⟩,
  ⟨("_law_book", none), "_law_book", "_law_book", defArgs s_law_book, defBody s_law_book, defScope s_law_book, [], []⟩,
  ⟨("_law_line", none), "_law_line", "_law_line", defArgs s_law_line, defBody s_law_line, defScope s_law_line, [], []⟩,
  ⟨("read_book", none), "read_book", "read_book", defArgs s_read_book, defBody s_read_book, defScope s_read_book, [], []⟩,
  ⟨("_law_read", none), "_law_read", "_law_read", defArgs s_law_read, defBody s_law_read, defScope s_law_read, [], []⟩,
  ⟨("law", none), "law", "law", defArgs s_law, defBody s_law, defScope s_law, [], []⟩,
  ⟨("Book", some "__eq__"), "__eq__", "Book.__eq__", defArgs s_eq_Book, defBody s_eq_Book, defScope s_eq_Book, [], []⟩,
  ⟨("Book", some "__init__"), "__init__", "Book.__init__", defArgs s_init_Book, defBody s_init_Book, defScope s_init_Book, [], []⟩]
def en : List (Str × Str × Stmt) := [("InvalidText", "InvalidText.__init__", s_err_InvalidText), ("InvalidBook", "InvalidBook.__init__", s_err_InvalidBook)]
def ex (K : PySem.W.Frag) : Bool := isB cn [0] 0 K && (eqB K "Book" && (errB "/claim/cut.py" K "InvalidText" && (errB "/claim/cut.py" K "InvalidBook" && (exmB cn errs K))))
abbrev R : PySem.W.OpenRow := PySem.W.OpenLaw.row PySem.Challenge.rw_noneleft_k04_texts_of_books
theorem txt {K : PySem.W.Frag} {h : Heap} {mg : Str → Option Value} (X : K.In h) (G : h.Ns mainGlobals mg) (c : SaysY ex fa fn en K) : Txt (ctOf cn fl K) PySem.Challenge.rw_noneleft_k04_texts_of_books.prog K mg where
  z_isinstance := He.free_ok X G (c.d.fact 0 rfl)
  z_bool := He.free_ok X G (c.d.fact 1 rfl)
  z_int := He.free_ok X G (c.d.fact 2 rfl)
  z_list := He.free_ok X G (c.d.fact 3 rfl)
  z_tuple := He.free_ok X G (c.d.fact 4 rfl)
  z_sum := He.free_ok X G (c.d.fact 5 rfl)
  z_all := He.free_ok X G (c.d.fact 6 rfl)
  z_len := He.free_ok X G (c.d.fact 7 rfl)
  z_str := He.free_ok X G (c.d.fact 8 rfl)
  z_abs := He.free_ok X G (c.d.fact 9 rfl)
  z_enumerate := He.free_ok X G (c.d.fact 10 rfl)
  z_range := He.free_ok X G (c.d.fact 11 rfl)
  z_sorted := He.free_ok X G (c.d.fact 12 rfl)
  d__wall := let ⟨fd, F⟩ := c.fn 0 rfl; ⟨_, fd, F, He.glo_ok X G (c.d.fact 13 rfl)⟩
  d_is_integer := let ⟨fd, F⟩ := c.fn 1 rfl; ⟨_, fd, F, He.glo_ok X G (c.d.fact 14 rfl)⟩
  d_is_number := let ⟨fd, F⟩ := c.fn 2 rfl; ⟨_, fd, F, He.glo_ok X G (c.d.fact 15 rfl)⟩
  d_is_sequence := let ⟨fd, F⟩ := c.fn 3 rfl; ⟨_, fd, F, He.glo_ok X G (c.d.fact 16 rfl)⟩
  d_is_batch := let ⟨fd, F⟩ := c.fn 4 rfl; ⟨_, fd, F, He.glo_ok X G (c.d.fact 17 rfl)⟩
  d_book_text := let ⟨fd, F⟩ := c.fn 5 rfl; ⟨_, fd, F, He.glo_ok X G (c.d.fact 18 rfl)⟩
  d_numbers_of := let ⟨fd, F⟩ := c.fn 6 rfl; ⟨_, fd, F, He.glo_ok X G (c.d.fact 19 rfl)⟩
  d_law_draw := let ⟨fd, F⟩ := c.fn 7 rfl; ⟨_, fd, F, He.glo_ok X G (c.d.fact 20 rfl)⟩
  d_law_any := let ⟨fd, F⟩ := c.fn 8 rfl; ⟨_, fd, F, He.glo_ok X G (c.d.fact 21 rfl)⟩
  d_law_of := let ⟨fd, F⟩ := c.fn 9 rfl; ⟨_, fd, F, He.glo_ok X G (c.d.fact 22 rfl)⟩
  d_law_within := let ⟨fd, F⟩ := c.fn 10 rfl; ⟨_, fd, F, He.glo_ok X G (c.d.fact 23 rfl)⟩
  d_law_more := let ⟨fd, F⟩ := c.fn 11 rfl; ⟨_, fd, F, He.glo_ok X G (c.d.fact 24 rfl)⟩
  d_law_crowds := let ⟨fd, F⟩ := c.fn 12 rfl; ⟨_, fd, F, He.glo_ok X G (c.d.fact 25 rfl)⟩
  d_law_zero := let ⟨fd, F⟩ := c.fn 13 rfl; ⟨_, fd, F, He.glo_ok X G (c.d.fact 26 rfl)⟩
  d_law_named := let ⟨fd, F⟩ := c.fn 14 rfl; ⟨_, fd, F, He.glo_ok X G (c.d.fact 27 rfl)⟩
  d_law_book := let ⟨fd, F⟩ := c.fn 15 rfl; ⟨_, fd, F, He.glo_ok X G (c.d.fact 28 rfl)⟩
  d_law_line := let ⟨fd, F⟩ := c.fn 16 rfl; ⟨_, fd, F, He.glo_ok X G (c.d.fact 29 rfl)⟩
  d_read_book := let ⟨fd, F⟩ := c.fn 17 rfl; ⟨_, fd, F, He.glo_ok X G (c.d.fact 30 rfl)⟩
  d_law_read := let ⟨fd, F⟩ := c.fn 18 rfl; ⟨_, fd, F, He.glo_ok X G (c.d.fact 31 rfl)⟩
  d_law := let ⟨fd, F⟩ := c.fn 19 rfl; ⟨_, fd, F, He.glo_ok X G (c.d.fact 32 rfl)⟩
  f_batches := ⟨He.cls_ok (c.d.fact 33 rfl), He.noat_ok (c.d.fact 34 rfl), rfl⟩
  f_kinds := ⟨He.cls_ok (c.d.fact 33 rfl), He.noat_ok (c.d.fact 35 rfl), rfl⟩
  is_Book := is_ok (cn := cn) (fl := fl) ((an c.x).1)
  g_Book := He.glo_ok X G (c.d.fact 36 rfl)
  e_Book := let ⟨fd, F⟩ := c.fn 20 rfl; ⟨_, fd, F, eqIn_ok ((an (an c.x).2).1) (He.meth_ok (c.d.fact 37 rfl))⟩
  x_InvalidText := excR_ok ((an (an (an c.x).2).2).1) (c.err 0 rfl) et_InvalidText rfl (He.glo_ok X G (c.d.fact 38 rfl)) (He.free_ok X G (c.d.fact 39 rfl)) rfl (by decide +kernel) fun _ _ _ _ _ _ _ _ _ _ us hl => match us, hl with | [_, _], _ => rfl
  x_InvalidBook := excR_ok ((an (an (an (an c.x).2).2).2).1) (c.err 1 rfl) et_InvalidBook rfl (He.glo_ok X G (c.d.fact 40 rfl)) (He.free_ok X G (c.d.fact 39 rfl)) rfl (by decide +kernel) fun _ _ _ _ _ _ _ _ _ _ us hl => match us, hl with | [_, _], _ => rfl
  c_Book := He.cls_ok (c.d.fact 33 rfl)
  fl_Book := rfl
  ks_Book := fun x h hm => (show x ∉ flf 0 ++ [("_found" : Str)] from h) (List.mem_append_left _ hm)
  i_Book := let ⟨fd, F⟩ := c.fn 21 rfl; ⟨_, fd, F, He.mkr_ok (c.d.fact 41 rfl), He.glo_ok X G (c.d.fact 36 rfl)⟩
  n_Book_kinds := He.noat_ok (c.d.fact 35 rfl)
  n_Book_batches := He.noat_ok (c.d.fact 34 rfl)
  cf := rfl
  kc := fun c y h e => (show y ∉ flf c ++ [("_found" : Str)] from h) (List.mem_append_right _ (by have z : ("_found" : Str) = y := Option.some.inj e; rw [z]; exact List.mem_singleton.mpr rfl))
  n_Book_found := He.noat_ok (c.d.fact 42 rfl)
  g_InvalidText := He.glo_ok X G (c.d.fact 38 rfl)
  xf_InvalidText := xf_ok ((an (an (an c.x).2).2).1) rfl
  exm := exm_ok (fl := fl) ((an (an (an (an c.x).2).2).2).2)
  tb0 := ⟨rfl, fun _ => .inl rfl⟩
def nm0 : List PySem.Str := ["_wall", "LeftError", "InvalidBook", "InvalidText", "is_integer", "is_number", "is_sequence", "is_batch", "Book", "book_text", "numbers_of", "read_book", "_law_draw", "_law_any", "_law_of", "_law_within", "_law_more", "_law_crowds", "_law_zero", "_law_named", "_law_book", "_law_read", "_law_line"]
def nms : List PySem.Str := nm0
abbrev hk : PySem.W.Hook := hookY 4 ex fa fn en
def ob (s : PySem.W.SharedT) : AlY := obsYG 4 ex fa fn en (HandSHeadRun.getT s)
theorem ob_eq (s : PySem.W.SharedT) : ob s = hk.obs s.abs := obsYG_eq (HandSHeadRun.getT_eq s)
theorem run (w : World) : HandSHeadRun.RunEq R (PySem.W.view R.prog [28]) hk ob 4000 nms w := by
  intro os
  kernel_rfl
end K04
namespace L3
open PySem PySem.Spec PyProof.Rows L2
/-- the slot i -/
def sa (ρ : Env) (i : Nat) : Option Slot := ρ[i]?
@[simp] theorem sa_zero (s : Slot) (ρ : Env) : sa (s :: ρ) 0 = some s := (rfl)
@[simp] theorem sa_succ (s : Slot) (ρ : Env) (i : Nat) : sa (s :: ρ) (i + 1) = sa ρ i := by unfold sa; exact List.getElem?_cons_succ
section
variable {α β : Type} {ρ ρ' : Env} {a b : D}
@[simp] theorem bind_ap (m : M α) (k : α → M β) (ρ : Env) : M.bind m k ρ = (match m ρ with
  | none => none
  | some (.ok a ρ') => k a ρ'
  | some (.exc c d ρ') => some (.exc c d ρ')) := (rfl)
@[simp] theorem ret_ap (a : α) (ρ : Env) : M.ret a ρ = some (.ok a ρ) := (rfl)
@[simp] theorem map_ap (f : α → β) (m : M α) (ρ : Env) : M.map f m ρ = (match m ρ with
  | none => none
  | some (.ok a ρ') => some (.ok (f a) ρ')
  | some (.exc c d ρ') => some (.exc c d ρ')) := (rfl)
@[simp] theorem opt_ap (o : Option α) (ρ : Env) : M.opt o ρ = o.map fun a => .ok a ρ := (rfl)
@[simp] theorem mVar_ap (i : Nat) (ρ : Env) : mVar i ρ = (match sa ρ i with
  | some (.fz d) => some (.ok d ρ)
  | some (.own (.lst ds)) => some (.ok (.lst ds) (ρ.set i (.fz (.lst ds))))
  | _ => none) := (rfl)
@[simp] theorem mSl_ap (i : Nat) (ρ : Env) : mSl i ρ = (match sa ρ i with
  | some .emp => none
  | some .raw => none
  | none => none
  | _ => some (.ok (.sl i) ρ)) := (rfl)
@[simp] theorem deref_val (ρ : Env) (d : D) : deref ρ (.val d) = some d := (rfl)
@[simp] theorem deref_sl (ρ : Env) (i : Nat) : deref ρ (.sl i) = (match sa ρ i with
  | some (.fz d) => some d
  | some (.own (.lst ds)) => some (.lst ds)
  | some (.io (.lst ds)) => some (.lst ds)
  | some (.bor ds) => some (.lst ds)
  | some (.own (.dic t ks vs)) => some (.dic t ks vs)
  | some (.io (.dic t ks vs)) => some (.dic t ks vs)
  | _ => none) := (rfl)
@[simp] theorem ret1_ap (f : D → Option D) (b : Bv) (ρ : Env) : ret1 f b ρ = (match deref ρ b with
  | none => none
  | some d => (match f d with
    | none => none
    | some z => some (.ok z ρ))) := by
  unfold ret1
  cases deref ρ b with
  | none => rfl
  | some d => dsimp only [Option.bind_some]; cases f d <;> rfl
@[simp] theorem ret2_ap (f : D → D → Option D) (b c : Bv) (ρ : Env) : ret2 f b c ρ = (match deref ρ b with
  | none => none
  | some d => (match deref ρ c with
    | none => none
    | some e => (match f d e with
      | none => none
      | some z => some (.ok z ρ)))) := by
  unfold ret2
  cases deref ρ b with
  | none => rfl
  | some d =>
    dsimp only [Option.bind_some]
    cases deref ρ c with
    | none => rfl
    | some e => dsimp only [Option.bind_some]; cases f d e <;> rfl
@[simp] theorem retO1_ap (f : D → Option (List D)) (b : Bv) (ρ : Env) : retO1 f b ρ = (match deref ρ b with
  | none => none
  | some d => (match f d with
    | none => none
    | some z => some (.ok z ρ))) := by
  unfold retO1
  cases deref ρ b with
  | none => rfl
  | some d => dsimp only [Option.bind_some]; cases f d <;> rfl
@[simp] theorem retO2_ap (f : D → D → Option (List D)) (b c : Bv) (ρ : Env) : retO2 f b c ρ = (match deref ρ b with
  | none => none
  | some d => (match deref ρ c with
    | none => none
    | some e => (match f d e with
      | none => none
      | some z => some (.ok z ρ)))) := by
  unfold retO2
  cases deref ρ b with
  | none => rfl
  | some d =>
    dsimp only [Option.bind_some]
    cases deref ρ c with
    | none => rfl
    | some e => dsimp only [Option.bind_some]; cases f d e <;> rfl
@[simp] theorem mUn_ap (f : D → Option D) (m : M Bv) (ρ : Env) : mUn f m ρ = M.bind m (fun a => ret1 f a) ρ := (rfl)
@[simp] theorem mUnO_ap (f : D → Option (List D)) (m : M Bv) (ρ : Env) : mUnO f m ρ = M.bind m (fun a => retO1 f a) ρ := (rfl)
@[simp] theorem mOp_ap (f : D → D → Option D) (m n : M Bv) (ρ : Env) : mOp f m n ρ = M.bind m (fun a => M.bind n fun b => ret2 f a b) ρ := (rfl)
@[simp] theorem mOpO_ap (f : D → D → Option (List D)) (m n : M Bv) (ρ : Env) : mOpO f m n ρ = M.bind m (fun a => M.bind n fun b => retO2 f a b) ρ := (rfl)
@[simp] theorem asB_ap (m : M D) (ρ : Env) : asB m ρ = (match m ρ with
  | none => none
  | some (.ok (.bl b) ρ') => some (.ok b ρ')
  | some (.ok _ _) => none
  | some (.exc c d ρ') => some (.exc c d ρ')) := by
  unfold asB
  rw [bind_ap]
  cases m ρ with
  | none => rfl
  | some o =>
    cases o with
    | ok d ρ' => cases d <;> rfl
    | exc c d ρ' => rfl
@[simp] theorem mTru_ap (m : M Bv) (ρ : Env) : mTru m ρ = (match m ρ with
  | none => none
  | some (.ok a ρ') => (match deref ρ' a with
    | none => none
    | some d => (match fTru d with
      | none => none
      | some b => some (.ok b ρ')))
  | some (.exc c d ρ') => some (.exc c d ρ')) := by
  unfold mTru
  rw [bind_ap]
  cases m ρ with
  | none => rfl
  | some o =>
    cases o with
    | ok d ρ' =>
      dsimp only
      cases deref ρ' d with
      | none => rfl
      | some e => dsimp only [Option.bind_some]; cases fTru e <;> rfl
    | exc c d ρ' => rfl
@[simp] theorem mNot_ap (m : M Bool) (ρ : Env) : mNot m ρ = M.bind m (fun b => M.ret (!b)) ρ := (rfl)
@[simp] theorem mAnd_ap (m n : M Bool) (ρ : Env) : mAnd m n ρ = (match m ρ with
  | none => none
  | some (.ok b ρ') => if b = true then n ρ' else some (.ok false ρ')
  | some (.exc c d ρ') => some (.exc c d ρ')) := by
  unfold mAnd
  rw [bind_ap]
  cases m ρ with
  | none => rfl
  | some o =>
    cases o with
    | ok d ρ' => dsimp only; cases d <;> rfl
    | exc c d ρ' => rfl
@[simp] theorem mOr_ap (m n : M Bool) (ρ : Env) : mOr m n ρ = (match m ρ with
  | none => none
  | some (.ok b ρ') => if b = true then some (.ok true ρ') else n ρ'
  | some (.exc c d ρ') => some (.exc c d ρ')) := by
  unfold mOr
  rw [bind_ap]
  cases m ρ with
  | none => rfl
  | some o =>
    cases o with
    | ok d ρ' => dsimp only; cases d <;> rfl
    | exc c d ρ' => rfl
@[simp] theorem mAndV_ap (m n : M D) (ρ : Env) : mAndV m n ρ = (match m ρ with
  | none => none
  | some (.ok (.bl b) ρ') => if b = true then n ρ' else some (.ok (.bl false) ρ')
  | some (.ok _ _) => none
  | some (.exc c d ρ') => some (.exc c d ρ')) := by
  unfold mAndV
  rw [bind_ap]
  cases m ρ with
  | none => rfl
  | some o =>
    cases o with
    | ok d ρ' =>
      cases d with
      | bl b => dsimp only; cases b <;> rfl
      | _ => rfl
    | exc c d ρ' => rfl
@[simp] theorem mOrV_ap (m n : M D) (ρ : Env) : mOrV m n ρ = (match m ρ with
  | none => none
  | some (.ok (.bl b) ρ') => if b = true then some (.ok (.bl true) ρ') else n ρ'
  | some (.ok _ _) => none
  | some (.exc c d ρ') => some (.exc c d ρ')) := by
  unfold mOrV
  rw [bind_ap]
  cases m ρ with
  | none => rfl
  | some o =>
    cases o with
    | ok d ρ' =>
      cases d with
      | bl b => dsimp only; cases b <;> rfl
      | _ => rfl
    | exc c d ρ' => rfl
@[simp] theorem mNotV_ap (m : M D) (ρ : Env) : mNotV m ρ = (match m ρ with
  | none => none
  | some (.ok (.bl b) ρ') => some (.ok (.bl (!b)) ρ')
  | some (.ok _ _) => none
  | some (.exc c d ρ') => some (.exc c d ρ')) := by
  unfold mNotV
  rw [bind_ap]
  cases m ρ with
  | none => rfl
  | some o =>
    cases o with
    | ok d ρ' => cases d <;> rfl
    | exc c d ρ' => rfl
@[simp] theorem mIf_ap (c : M Bool) (m n : M D) (ρ : Env) : mIf c m n ρ = (match c ρ with
  | none => none
  | some (.ok b ρ') => if b = true then m ρ' else n ρ'
  | some (.exc c d ρ') => some (.exc c d ρ')) := by
  unfold mIf
  rw [bind_ap]
  cases c ρ with
  | none => rfl
  | some o =>
    cases o with
    | ok d ρ' => dsimp only; cases d <;> rfl
    | exc c d ρ' => rfl
@[simp] theorem mNil_ap (ρ : Env) : mNil ρ = some (.ok [] ρ) := (rfl)
@[simp] theorem mCons_ap (m : M D) (n : M (List D)) (ρ : Env) : mCons m n ρ = M.bind m (fun d => M.bind n fun ds => M.ret (d :: ds)) ρ := (rfl)
@[simp] theorem mTup_ap (n : M (List D)) (ρ : Env) : mTup n ρ = (match n ρ with
  | none => none
  | some (.ok ds ρ') => if ds.length ≤ sizeLine then some (.ok (.tup ds) ρ') else none
  | some (.exc c d ρ') => some (.exc c d ρ')) := by
  unfold mTup fits
  rw [bind_ap]
  cases n ρ with
  | none => rfl
  | some o =>
    cases o with
    | ok d ρ' => dsimp only [opt_ap]; split <;> rfl
    | exc c d ρ' => rfl
@[simp] theorem mLst_ap (n : M (List D)) (ρ : Env) : mLst n ρ = (match n ρ with
  | none => none
  | some (.ok ds ρ') => if ds.length ≤ sizeLine then some (.ok ds ρ') else none
  | some (.exc c d ρ') => some (.exc c d ρ')) := by
  unfold mLst fits
  rw [bind_ap]
  cases n ρ with
  | none => rfl
  | some o =>
    cases o with
    | ok d ρ' => dsimp only [opt_ap]; split <;> rfl
    | exc c d ρ' => rfl
@[simp] theorem mANil_ap (ρ : Env) : mANil ρ = some (.ok [] ρ) := (rfl)
@[simp] theorem mACons_ap (m : M Am) (n : M (List Am)) (ρ : Env) : mACons m n ρ = M.bind m (fun d => M.bind n fun ds => M.ret (d :: ds)) ρ := (rfl)
@[simp] theorem mVal_ap (m : M D) (ρ : Env) : mVal m ρ = M.bind m (fun d => M.ret (Am.val d)) ρ := (rfl)
@[simp] theorem mCall_ap (P : Fn) (n : Nat) (m : M (List Am)) (ρ : Env) : mCall P n m ρ = (match m ρ with
  | none => none
  | some (.ok ams ρ') => if ams.length = n then fCall P ams ρ' else none
  | some (.exc c d ρ') => some (.exc c d ρ')) := by
  unfold mCall
  rw [bind_ap]
  cases m ρ with
  | none => rfl
  | some o =>
    cases o with
    | ok d ρ' => dsimp only; split <;> rfl
    | exc c d ρ' => rfl
end
end L3
namespace L3
open PySem PySem.Spec PyProof.Rows L2
def isVal : Am → Bool
  | .val _ => true
  | _ => false
@[simp] theorem isVal_val (d : D) : isVal (.val d) = true := (rfl)
@[simp] theorem amOk_nil : amOk [] = true := (rfl)
@[simp] theorem amOk_val (d : D) (ams : List Am) : amOk (.val d :: ams) = amOk ams := (rfl)
theorem ioIx_vals : ∀ {ams : List Am}, ams.all isVal = true → ioIx ams = []
  | [], _ => rfl
  | .val _ :: ams, h => ioIx_vals (ams := ams) (by simpa using h)
  | .io _ :: _, h => by simp [isVal] at h
  | .bor _ :: _, h => by simp [isVal] at h
theorem all_vals {p : Am → Bool} (hp : ∀ d, p (.val d) = true) : ∀ {ams : List Am}, ams.all isVal = true → ams.all p = true
  | [], _ => rfl
  | .val d :: ams, h => by
    have e := all_vals hp (ams := ams) (by simpa using h)
    simp [hp, e]
  | .io _ :: _, h => by simp [isVal] at h
  | .bor _ :: _, h => by simp [isVal] at h
@[simp] theorem amOk_io (i : Nat) (ams : List Am) (h : ams.all isVal = true) : amOk (.io i :: ams) = true := by
  unfold amOk
  rw [show ioIx (.io i :: ams) = i :: ioIx ams from rfl, ioIx_vals h, List.all_cons, all_vals (fun _ => rfl) h]
  simp
@[simp] theorem amOk_borV (i : Nat) (ams : List Am) (h : ams.all isVal = true) : amOk (.bor i :: ams) = true := by
  unfold amOk
  rw [show ioIx (.bor i :: ams) = ioIx ams from rfl, ioIx_vals h, List.all_cons, all_vals (fun _ => rfl) h]
  simp
@[simp] theorem amSlot_val (ρ : Env) (d : D) : amSlot ρ (.val d) = some (.fz d) := (rfl)
@[simp] theorem amSlot_io (ρ : Env) (i : Nat) : amSlot ρ (.io i) = (match sa ρ i with
  | some (.own c) => some (.io c)
  | some (.io c) => some (.io c)
  | _ => none) := (rfl)
@[simp] theorem amSlot_bor (ρ : Env) (i : Nat) : amSlot ρ (.bor i) = (match sa ρ i with
  | some (.own (.lst ds)) => some (.bor ds)
  | some (.io (.lst ds)) => some (.bor ds)
  | some (.bor ds) => some (.bor ds)
  | _ => none) := (rfl)
@[simp] theorem amSlots_nil (ρ : Env) : amSlots ρ [] = some [] := (rfl)
@[simp] theorem amSlots_cons (ρ : Env) (a : Am) (ams : List Am) : amSlots ρ (a :: ams) = (match amSlot ρ a with
  | none => none
  | some s => (match amSlots ρ ams with
    | none => none
    | some ss => some (s :: ss))) := by
  show (amSlot ρ a).bind _ = _
  cases amSlot ρ a with
  | none => rfl
  | some s => dsimp only [Option.bind_some]; cases amSlots ρ ams <;> rfl
@[simp] theorem putS_own (c c' : Ct2) : putS (.own c) c' = .own c' := (rfl)
@[simp] theorem putS_io (c c' : Ct2) : putS (.io c) c' = .io c' := (rfl)
@[simp] theorem putBack_nil (as : List Slot) (ρ : Env) : putBack [] as ρ = some ρ := by cases as <;> rfl
@[simp] theorem putBack_val (d : D) (ams : List Am) (as : List Slot) (ρ : Env) : putBack (.val d :: ams) as ρ = putBack ams as.tail ρ := by cases as <;> rfl
@[simp] theorem putBack_bor (i : Nat) (ams : List Am) (as : List Slot) (ρ : Env) : putBack (.bor i :: ams) as ρ = putBack ams as.tail ρ := by cases as <;> rfl
@[simp] theorem putBack_io (i : Nat) (ams : List Am) (c : Ct2) (as : List Slot) (ρ : Env) : putBack (.io i :: ams) (.io c :: as) ρ = putBack ams as (ρ.set i (putS ((sa ρ i).getD .emp) c)) := (rfl)
@[simp] theorem fCall_ap (P : Fn) (ams : List Am) (ρ : Env) : fCall P ams ρ = (if amOk ams = true then (match amSlots ρ ams with
  | none => none
  | some as => (match P as with
    | none => none
    | some (.ret d as') => (match putBack ams as' ρ with
      | none => none
      | some ρ2 => some (.ok d ρ2))
    | some (.exc c od as') => (match putBack ams as' ρ with
      | none => none
      | some ρ2 => some (.exc c od ρ2)))) else none) := by
  unfold fCall
  split
  · cases amSlots ρ ams with
    | none => rfl
    | some as =>
      dsimp only [Option.bind_some]
      cases P as with
      | none => rfl
      | some o =>
        cases o with
        | ret d as' => dsimp only; cases putBack ams as' ρ <;> rfl
        | exc c d as' => dsimp only; cases putBack ams as' ρ <;> rfl
  · rfl
@[simp] theorem mIo_ap (i : Nat) (ρ : Env) : mIo i ρ = (match sa ρ i with
  | some (.own _) => some (.ok (.io i) ρ)
  | some (.io _) => some (.ok (.io i) ρ)
  | _ => none) := (rfl)
@[simp] theorem mBor_ap (i : Nat) (ρ : Env) : mBor i ρ = (match sa ρ i with
  | some (.own _) => some (.ok (.bor i) ρ)
  | some (.io _) => some (.ok (.bor i) ρ)
  | some (.bor _) => some (.ok (.bor i) ρ)
  | _ => none) := (rfl)
@[simp] theorem fnOf_ap (n : Nat) (body : MS) (as : List Slot) : fnOf n body as = (match body (as ++ List.replicate (n - as.length) .emp) with
  | some (.nx ρ') => some (.ret .non (endA as ρ'))
  | some (.rt d ρ') => some (.ret d (endA as ρ'))
  | some (.exc c d ρ') => some (.exc c d (endA as ρ'))
  | _ => none) := (rfl)
@[simp] theorem endA_nil (ρ : Env) : endA [] ρ = [] := (rfl)
@[simp] theorem endA_fz (d : D) (as : List Slot) (s : Slot) (ρ : Env) : endA (.fz d :: as) (s :: ρ) = .emp :: endA as ρ := by cases s <;> rfl
@[simp] theorem endA_bor (d : List D) (as : List Slot) (s : Slot) (ρ : Env) : endA (.bor d :: as) (s :: ρ) = .emp :: endA as ρ := by cases s <;> rfl
@[simp] theorem endA_io (c c' : Ct2) (as : List Slot) (ρ : Env) : endA (.io c :: as) (.io c' :: ρ) = .io c' :: endA as ρ := (rfl)
section
variable {α : Type}
@[simp] theorem thenS_ap (m : M α) (k : α → MS) (ρ : Env) : thenS m k ρ = (match m ρ with
  | none => none
  | some (.ok a ρ') => k a ρ'
  | some (.exc c d ρ') => some (.exc c d ρ')) := by
  unfold thenS
  cases m ρ with
  | none => rfl
  | some o => cases o <;> rfl
@[simp] theorem seqS_ap (a b : MS) (ρ : Env) : seqS a b ρ = (match a ρ with
  | some (.nx ρ') => b ρ'
  | o => o) := (rfl)
@[simp] theorem mNx_ap (ρ : Env) : mNx ρ = some (.nx ρ) := (rfl)
@[simp] theorem mSet_ap (i : Nat) (m : M D) (ρ : Env) : mSet i m ρ = (match m ρ with
  | none => none
  | some (.ok d ρ') => if i < ρ'.length then some (.nx (ρ'.set i (.fz d))) else none
  | some (.exc c d ρ') => some (.exc c d ρ')) := by
  unfold mSet; rw [thenS_ap]
  cases m ρ with
  | none => rfl
  | some o => cases o <;> rfl
@[simp] theorem mOwn_ap (i : Nat) (m : M (List D)) (ρ : Env) : mOwn i m ρ = (match m ρ with
  | none => none
  | some (.ok d ρ') => if i < ρ'.length then some (.nx (ρ'.set i (.own (.lst d)))) else none
  | some (.exc c d ρ') => some (.exc c d ρ')) := by
  unfold mOwn; rw [thenS_ap]
  cases m ρ with
  | none => rfl
  | some o => cases o <;> rfl
@[simp] theorem mAsg_ap (f : D → Env → Option Env) (m : M D) (ρ : Env) : mAsg f m ρ = (match m ρ with
  | none => none
  | some (.ok d ρ') => (match f d ρ' with
    | none => none
    | some ρ2 => some (.nx ρ2))
  | some (.exc c d ρ') => some (.exc c d ρ')) := by
  unfold mAsg; rw [thenS_ap]
  cases m ρ with
  | none => rfl
  | some o =>
    cases o with
    | ok d ρ' => dsimp only; cases f d ρ' <;> rfl
    | exc _ _ _ => rfl
@[simp] theorem mExpr_ap (m : M D) (ρ : Env) : mExpr m ρ = (match m ρ with
  | none => none
  | some (.ok d ρ') => some (.nx ρ')
  | some (.exc c d ρ') => some (.exc c d ρ')) := by
  unfold mExpr; rw [thenS_ap]
  cases m ρ with
  | none => rfl
  | some o => cases o <;> rfl
@[simp] theorem mRet_ap (m : M D) (ρ : Env) : mRet m ρ = (match m ρ with
  | none => none
  | some (.ok d ρ') => some (.rt d ρ')
  | some (.exc c d ρ') => some (.exc c d ρ')) := by
  unfold mRet; rw [thenS_ap]
  cases m ρ with
  | none => rfl
  | some o => cases o <;> rfl
@[simp] theorem mRetN_ap (ρ : Env) : mRetN ρ = some (.rt .non ρ) := (rfl)
@[simp] theorem mRaise_ap (c : Nat) (m : M D) (ρ : Env) : mRaise c m ρ = (match m ρ with
  | none => none
  | some (.ok d ρ') => some (.exc c (some d) ρ')
  | some (.exc c d ρ') => some (.exc c d ρ')) := by
  unfold mRaise; rw [thenS_ap]
  cases m ρ with
  | none => rfl
  | some o => cases o <;> rfl
@[simp] theorem mIfS_ap (c : M Bool) (a b : MS) (ρ : Env) : mIfS c a b ρ = (match c ρ with
  | none => none
  | some (.ok k ρ') => if k = true then a ρ' else b ρ'
  | some (.exc c d ρ') => some (.exc c d ρ')) := by
  unfold mIfS; rw [thenS_ap]
  cases c ρ with
  | none => rfl
  | some o =>
    cases o with
    | ok d ρ' => dsimp only; cases d <;> rfl
    | exc _ _ _ => rfl
@[simp] theorem mPar_ap (i j : Nat) (m : M (List D)) (ρ : Env) : mPar i j m ρ = (match m ρ with
  | none => none
  | some (.ok [a, b] ρ') => if i < ρ'.length ∧ j < ρ'.length then some (.nx ((ρ'.set i (.fz a)).set j (.fz b))) else none
  | some (.ok _ _) => none
  | some (.exc c d ρ') => some (.exc c d ρ')) := by
  unfold mPar; rw [thenS_ap]
  cases m ρ with
  | none => rfl
  | some o =>
    cases o with
    | ok d ρ' =>
      match d with
      | [] => rfl
      | [a] => rfl
      | [a, b] => rfl
      | _ :: _ :: _ :: _ => rfl
    | exc _ _ _ => rfl
end
@[simp] theorem gNm_ap (i : Nat) (d : D) (ρ : Env) : gNm i d ρ = if i < ρ.length then some (ρ.set i (.fz d)) else none := (rfl)
@[simp] theorem gTp_ap (n : Nat) (f : List D → Env → Option Env) (ds : List D) (ρ : Env) : gTp n f (.tup ds) ρ = if ds.length = n then f ds ρ else none := (rfl)
@[simp] theorem gN0_ap (ρ : Env) : gN0 [] ρ = some ρ := (rfl)
@[simp] theorem gC_ap (f : D → Env → Option Env) (fs : List D → Env → Option Env) (d : D) (ds : List D) (ρ : Env) : gC f fs (d :: ds) ρ = (match f d ρ with
  | none => none
  | some ρ' => fs ds ρ') := by
  show (f d ρ).bind (fs ds) = _
  cases f d ρ <;> rfl
@[simp] theorem mSqS_ap (i : Nat) (ρ : Env) : mSqS i ρ = (match sa ρ i with
  | some (.fz (.lst ds)) => some (.ok (false, ds, []) ρ)
  | some (.fz (.tup ds)) => some (.ok (true, ds, []) ρ)
  | some (.bor ds) => some (.ok (false, ds, []) ρ)
  | some (.own (.lst ds)) => some (.ok (false, ds, [(i, ds)]) (ρ.set i (.bor ds)))
  | _ => none) := (rfl)
@[simp] theorem mSqV_ap (i : Nat) (ρ : Env) : mSqV i ρ = (match sa ρ i with
  | some (.own (.lst ds)) => some (.ok (false, ds, []) (ρ.set i (.fz (.lst ds))))
  | _ => mSqS i ρ) := (rfl)
@[simp] theorem mSq_ap (m : M D) (ρ : Env) : mSq m ρ = (match m ρ with
  | none => none
  | some (.ok (.lst ds) ρ') => some (.ok (false, ds, []) ρ')
  | some (.ok (.tup ds) ρ') => some (.ok (true, ds, []) ρ')
  | some (.ok _ ρ') => none
  | some (.exc c d ρ') => some (.exc c d ρ')) := by
  unfold mSq
  rw [bind_ap]
  cases m ρ with
  | none => rfl
  | some o =>
    cases o with
    | ok d ρ' => cases d <;> rfl
    | exc _ _ _ => rfl
@[simp] theorem mSeq_ap (m : M Sq) (ρ : Env) : mSeq m ρ = (match m ρ with
  | none => none
  | some (.ok q ρ') => some (.ok (q.2.1, q.2.2) ρ')
  | some (.exc c d ρ') => some (.exc c d ρ')) := by
  unfold mSeq
  rw [bind_ap]
  cases m ρ with
  | none => rfl
  | some o => cases o <;> rfl
@[simp] theorem mEnum_ap (m : M Sq) (ρ : Env) : mEnum m ρ = (match m ρ with
  | none => none
  | some (.ok q ρ') => some (.ok (enumD q.2.1, q.2.2) ρ')
  | some (.exc c d ρ') => some (.exc c d ρ')) := by
  unfold mEnum
  rw [bind_ap]
  cases m ρ with
  | none => rfl
  | some o => cases o <;> rfl
@[simp] theorem mZip_ap (m n : M Sq) (ρ : Env) : mZip m n ρ = (match m ρ with
  | none => none
  | some (.ok q ρ') => (match n ρ' with
    | some (.ok r ρ2) => some (.ok (zipD q.2.1 r.2.1, r.2.2 ++ q.2.2) ρ2)
    | _ => none)
  | some (.exc c d ρ') => some (.exc c d ρ')) := by
  unfold mZip
  rw [bind_ap]
  cases m ρ with
  | none => rfl
  | some o => cases o <;> rfl
@[simp] theorem mRange1_ap (m : M Bv) (ρ : Env) : mRange1 m ρ = (match m ρ with
  | none => none
  | some (.ok a ρ') => (match deref ρ' a with
    | some (.int j) => if inB j = true then some (.ok (rangeD 0 j.toNat, []) ρ') else none
    | _ => none)
  | some (.exc c d ρ') => some (.exc c d ρ')) := by
  unfold mRange1
  rw [bind_ap]
  cases m ρ with
  | none => rfl
  | some o => cases o <;> rfl
@[simp] theorem mRange2_ap (m n : M Bv) (ρ : Env) : mRange2 m n ρ = (match m ρ with
  | none => none
  | some (.ok a ρ1) => (match n ρ1 with
    | none => none
    | some (.ok b ρ') => (match deref ρ' a, deref ρ' b with
      | some (.int i), some (.int j) => if (inB i && inB j) = true then some (.ok (rangeD i (j - i).toNat, []) ρ') else none
      | _, _ => none)
    | some (.exc c d ρ') => some (.exc c d ρ'))
  | some (.exc c d ρ') => some (.exc c d ρ')) := by
  unfold mRange2
  rw [bind_ap]
  cases m ρ with
  | none => rfl
  | some o =>
    cases o with
    | ok a ρ1 =>
      dsimp only
      rw [bind_ap]
      cases n ρ1 with
      | none => rfl
      | some o => cases o <;> rfl
    | exc _ _ _ => rfl
@[simp] theorem mFor_ap (mi : M Its) (f : D → Env → Option Env) (b : MS) (ρ : Env) : mFor mi f b ρ = (match mi ρ with
  | none => none
  | some (.ok (ds, []) ρ') => forL f b ds ρ'
  | some (.ok (_, _ :: _) _) => none
  | some (.exc c d ρ') => some (.exc c d ρ')) := by
  unfold mFor
  rw [thenS_ap]
  cases mi ρ with
  | none => rfl
  | some o =>
    cases o with
    | ok q ρ' => obtain ⟨ds, ls⟩ := q; cases ls <;> rfl
    | exc _ _ _ => rfl
@[simp] theorem mComp_ap (vs : List Nat) (mi : M Its) (f : D → Env → Option Env) (mt : M Bool) (me : M D) (ρ : Env) : mComp vs mi f mt me ρ = (match mi ρ with
  | none => none
  | some (.ok q ρ') => (match compL vs f mt me q.1 (wipeE ρ' vs) [] with
    | none => none
    | some r => (match unlend q.2 (backE ρ' r.2 vs) with
      | none => none
      | some ρ3 => some (.ok r.1 ρ3)))
  | some (.exc c d ρ') => some (.exc c d ρ')) := by
  unfold mComp
  rw [bind_ap]
  cases mi ρ with
  | none => rfl
  | some o =>
    cases o with
    | ok q ρ' =>
      dsimp only
      cases compL vs f mt me q.1 (wipeE ρ' vs) [] with
      | none => rfl
      | some r => dsimp only [Option.bind_some]; cases unlend q.2 (backE ρ' r.2 vs) <;> rfl
    | exc _ _ _ => rfl
@[simp] theorem mYes_ap (ρ : Env) : mYes ρ = some (.ok true ρ) := (rfl)
@[simp] theorem wipeE_nil (ρ : Env) : wipeE ρ [] = ρ := (rfl)
@[simp] theorem wipeE_cons (ρ : Env) (v : Nat) (vs : List Nat) : wipeE ρ (v :: vs) = (wipeE ρ vs).set v .emp := (rfl)
@[simp] theorem backE_nil (ρ0 ρ : Env) : backE ρ0 ρ [] = ρ := (rfl)
@[simp] theorem backE_cons (ρ0 ρ : Env) (v : Nat) (vs : List Nat) : backE ρ0 ρ (v :: vs) = (backE ρ0 ρ vs).set v (match sa ρ0 v with
    | some (.fz d) => .fz d
    | _ => .emp) := (rfl)
@[simp] theorem unlend_nil (ρ : Env) : unlend [] ρ = some ρ := (rfl)
@[simp] theorem unlend_cons (i : Nat) (ds : List D) (ls : List (Nat × List D)) (ρ : Env) : unlend ((i, ds) :: ls) ρ = (match sa ρ i with
    | some (.bor _) => (unlend ls (ρ.set i (.own (.lst ds))))
    | _ => none) := (rfl)
section
variable {α : Type} {f : D → Env → Option Env} {b : MS} {enc : α → D}
theorem forL_inv (I : List α → Env → Prop) {ts : List α} {ρ : Env} (h0 : I [] ρ)
    (H : ∀ pre t post ρ, ts = pre ++ t :: post → I pre ρ → ∃ ρ1 ρ2, f (enc t) ρ = some ρ1 ∧ (b ρ1 = some (.nx ρ2) ∨ b ρ1 = some (.ct ρ2)) ∧ I (pre ++ [t]) ρ2) : ∃ ρ', forL f b (ts.map enc) ρ = some (.nx ρ') ∧ I ts ρ' := by
  have key : ∀ (post pre : List α) (ρ : Env), ts = pre ++ post → I pre ρ → ∃ ρ', forL f b (post.map enc) ρ = some (.nx ρ') ∧ I ts ρ' := by
    intro post
    induction post with
    | nil =>
      intro pre ρ e hI
      rw [List.append_nil] at e
      subst e
      exact ⟨ρ, rfl, hI⟩
    | cons t post ih =>
      intro pre ρ e hI
      obtain ⟨ρ1, ρ2, h1, h2, h3⟩ := H pre t post ρ e hI
      obtain ⟨ρ', h4, h5⟩ := ih (pre ++ [t]) ρ2 (by rw [e]; simp) h3
      refine ⟨ρ', ?_, h5⟩
      rw [List.map_cons, forL, h1, Option.bind_some]
      rcases h2 with h2 | h2 <;> rw [h2] <;> exact h4
  exact key ts [] ρ rfl h0
/-- a search: goes on, or ends the def -/
theorem forL_find (I : List α → Env → Prop) (R : List α → α → List α → SO → Prop) {ts : List α} {ρ : Env} (h0 : I [] ρ)
    (H : ∀ pre t post ρ, ts = pre ++ t :: post → I pre ρ → ∃ ρ1, f (enc t) ρ = some ρ1 ∧ ((∃ ρ2, (b ρ1 = some (.nx ρ2) ∨ b ρ1 = some (.ct ρ2)) ∧ I (pre ++ [t]) ρ2) ∨ ∃ o, b ρ1 = some o ∧ (∀ ρ', o ≠ .nx ρ') ∧ (∀ ρ', o ≠ .ct ρ') ∧ (∀ ρ', o ≠ .bk ρ') ∧ R pre t post o)) :
    (∃ ρ', forL f b (ts.map enc) ρ = some (.nx ρ') ∧ I ts ρ') ∨ ∃ pre t post o, ts = pre ++ t :: post ∧ forL f b (ts.map enc) ρ = some o ∧ R pre t post o := by
  have key : ∀ (post pre : List α) (ρ : Env), ts = pre ++ post → I pre ρ → (∃ ρ', forL f b (post.map enc) ρ = some (.nx ρ') ∧ I ts ρ') ∨ ∃ pre t post' o, ts = pre ++ t :: post' ∧ forL f b (post.map enc) ρ = some o ∧ R pre t post' o := by
    intro post
    induction post with
    | nil =>
      intro pre ρ e hI
      rw [List.append_nil] at e
      subst e
      exact .inl ⟨ρ, rfl, hI⟩
    | cons t post ih =>
      intro pre ρ e hI
      obtain ⟨ρ1, h1, h2⟩ := H pre t post ρ e hI
      rcases h2 with ⟨ρ2, h2, h3⟩ | ⟨o, h2, n1, n2, n3, h3⟩
      · have e1 : forL f b ((t :: post).map enc) ρ = forL f b (post.map enc) ρ2 := by
          rw [List.map_cons, forL, h1, Option.bind_some]
          rcases h2 with h2 | h2 <;> rw [h2]
        rw [e1]
        exact ih (pre ++ [t]) ρ2 (by rw [e]; simp) h3
      · refine .inr ⟨pre, t, post, o, e, ?_, h3⟩
        rw [List.map_cons, forL, h1, Option.bind_some, h2]
        cases o with
        | nx ρ' => exact absurd rfl (n1 ρ')
        | ct ρ' => exact absurd rfl (n2 ρ')
        | bk ρ' => exact absurd rfl (n3 ρ')
        | rt _ _ => rfl
        | exc _ _ _ => rfl
  exact key ts [] ρ rfl h0
end
section
variable {α : Type} {vs : List Nat} {f : D → Env → Option Env} {mt : M Bool} {me : M D} {enc : α → D}
/-- a comprehension whose parts change nothing -/
theorem compL_pure (p : α → Bool) (h : α → D) {ts : List α} {ρ : Env} {acc : List D} (hl : acc.length + ts.length ≤ sizeLine)
    (H : ∀ t ∈ ts, ∃ ρ1, f (enc t) ρ = some ρ1 ∧ ∃ ρ2, mt ρ1 = some (.ok (p t) ρ2) ∧ (p t = false → wipeE ρ2 vs = ρ) ∧ (p t = true → ∃ ρ3, me ρ2 = some (.ok (h t) ρ3) ∧ wipeE ρ3 vs = ρ)) :
    compL vs f mt me (ts.map enc) ρ acc = some (acc ++ (ts.filter p).map h, ρ) := by
  induction ts generalizing acc with
  | nil => simp [compL]
  | cons t ts ih =>
    obtain ⟨ρ1, h1, ρ2, h2, h3, h4⟩ := H t (by simp)
    have hl' : acc.length + (ts.length + 1) ≤ sizeLine := by simpa using hl
    rw [List.map_cons, compL, h1, Option.bind_some, h2]
    cases hp : p t with
    | false =>
      dsimp only
      rw [h3 hp, ih (by omega) fun t' ht' => H t' (by simp [ht']), List.filter_cons_of_neg (by simp [hp])]
    | true =>
      obtain ⟨ρ3, h5, h6⟩ := h4 hp
      dsimp only
      rw [h5]
      dsimp only
      rw [if_pos (by omega), h6, ih (by simp; omega) fun t' ht' => H t' (by simp [ht']), List.filter_cons_of_pos hp]
      simp
/-- a comprehension by what it keeps -/
theorem compL_rel (I : List α → Env → List D → Prop) {ts : List α} {ρ : Env} (hl : ts.length ≤ sizeLine) (h0 : I [] ρ [])
    (H : ∀ pre t post ρ acc, ts = pre ++ t :: post → I pre ρ acc → ∃ ρ1, f (enc t) ρ = some ρ1 ∧ ((∃ ρ2, mt ρ1 = some (.ok false ρ2) ∧ I (pre ++ [t]) (wipeE ρ2 vs) acc) ∨ ∃ ρ2 ρ3 z, mt ρ1 = some (.ok true ρ2) ∧ me ρ2 = some (.ok z ρ3) ∧ I (pre ++ [t]) (wipeE ρ3 vs) (acc ++ [z]))) :
    ∃ acc ρ', compL vs f mt me (ts.map enc) ρ [] = some (acc, ρ') ∧ I ts ρ' acc := by
  have key : ∀ (post pre : List α) (ρ : Env) (acc : List D), ts = pre ++ post → acc.length ≤ pre.length → I pre ρ acc → ∃ acc' ρ', compL vs f mt me (post.map enc) ρ acc = some (acc', ρ') ∧ I ts ρ' acc' := by
    intro post
    induction post with
    | nil =>
      intro pre ρ acc e _ hI
      rw [List.append_nil] at e
      subst e
      exact ⟨acc, ρ, rfl, hI⟩
    | cons t post ih =>
      intro pre ρ acc e hle hI
      have hlen : ts.length = pre.length + (post.length + 1) := by rw [e]; simp
      obtain ⟨ρ1, h1, h2⟩ := H pre t post ρ acc e hI
      rcases h2 with ⟨ρ2, h2, h3⟩ | ⟨ρ2, ρ3, z, h2, h3, h4⟩
      · obtain ⟨acc', ρ', h4, h5⟩ := ih (pre ++ [t]) _ acc (by rw [e]; simp) (by simp; omega) h3
        exact ⟨acc', ρ', by rw [List.map_cons, compL, h1, Option.bind_some, h2]; exact h4, h5⟩
      · obtain ⟨acc', ρ', h5, h6⟩ := ih (pre ++ [t]) _ (acc ++ [z]) (by rw [e]; simp) (by simp; omega) h4
        refine ⟨acc', ρ', ?_, h6⟩
        rw [List.map_cons, compL, h1, Option.bind_some, h2]
        dsimp only
        rw [h3]
        dsimp only
        rw [if_pos (by omega)]
        exact h5
  exact key ts [] ρ [] rfl (Nat.le_refl _) h0
end
end L3
namespace L3
open PySem PySem.Spec PyProof.Rows L2
theorem kit_NoneType_int : kitB "NoneType" "int" = some false := by decide +kernel
theorem kit_NoneType_bool : kitB "NoneType" "bool" = some false := by decide +kernel
theorem kit_NoneType_str : kitB "NoneType" "str" = some false := by decide +kernel
theorem kit_NoneType_tuple : kitB "NoneType" "tuple" = some false := by decide +kernel
theorem kit_NoneType_list : kitB "NoneType" "list" = some false := by decide +kernel
theorem kit_NoneType_dict : kitB "NoneType" "dict" = some false := by decide +kernel
theorem kit_bool_int : kitB "bool" "int" = some true := by decide +kernel
theorem kit_bool_bool : kitB "bool" "bool" = some true := by decide +kernel
theorem kit_bool_str : kitB "bool" "str" = some false := by decide +kernel
theorem kit_bool_tuple : kitB "bool" "tuple" = some false := by decide +kernel
theorem kit_bool_list : kitB "bool" "list" = some false := by decide +kernel
theorem kit_bool_dict : kitB "bool" "dict" = some false := by decide +kernel
theorem kit_int_int : kitB "int" "int" = some true := by decide +kernel
theorem kit_int_bool : kitB "int" "bool" = some false := by decide +kernel
theorem kit_int_str : kitB "int" "str" = some false := by decide +kernel
theorem kit_int_tuple : kitB "int" "tuple" = some false := by decide +kernel
theorem kit_int_list : kitB "int" "list" = some false := by decide +kernel
theorem kit_int_dict : kitB "int" "dict" = some false := by decide +kernel
theorem kit_str_int : kitB "str" "int" = some false := by decide +kernel
theorem kit_str_bool : kitB "str" "bool" = some false := by decide +kernel
theorem kit_str_str : kitB "str" "str" = some true := by decide +kernel
theorem kit_str_tuple : kitB "str" "tuple" = some false := by decide +kernel
theorem kit_str_list : kitB "str" "list" = some false := by decide +kernel
theorem kit_str_dict : kitB "str" "dict" = some false := by decide +kernel
theorem kit_tuple_int : kitB "tuple" "int" = some false := by decide +kernel
theorem kit_tuple_bool : kitB "tuple" "bool" = some false := by decide +kernel
theorem kit_tuple_str : kitB "tuple" "str" = some false := by decide +kernel
theorem kit_tuple_tuple : kitB "tuple" "tuple" = some true := by decide +kernel
theorem kit_tuple_list : kitB "tuple" "list" = some false := by decide +kernel
theorem kit_tuple_dict : kitB "tuple" "dict" = some false := by decide +kernel
theorem kit_list_int : kitB "list" "int" = some false := by decide +kernel
theorem kit_list_bool : kitB "list" "bool" = some false := by decide +kernel
theorem kit_list_str : kitB "list" "str" = some false := by decide +kernel
theorem kit_list_tuple : kitB "list" "tuple" = some false := by decide +kernel
theorem kit_list_list : kitB "list" "list" = some true := by decide +kernel
theorem kit_list_dict : kitB "list" "dict" = some false := by decide +kernel
theorem kit_dict_int : kitB "dict" "int" = some false := by decide +kernel
theorem kit_dict_bool : kitB "dict" "bool" = some false := by decide +kernel
theorem kit_dict_str : kitB "dict" "str" = some false := by decide +kernel
theorem kit_dict_tuple : kitB "dict" "tuple" = some false := by decide +kernel
theorem kit_dict_list : kitB "dict" "list" = some false := by decide +kernel
theorem kit_dict_dict : kitB "dict" "dict" = some true := by decide +kernel
@[simp] theorem isT_non_int : fIsT "int" .non = some (.bl false) := by show (kitB "NoneType" "int").map D.bl = _; rw [kit_NoneType_int]; rfl
@[simp] theorem isT_non_bool : fIsT "bool" .non = some (.bl false) := by show (kitB "NoneType" "bool").map D.bl = _; rw [kit_NoneType_bool]; rfl
@[simp] theorem isT_non_str : fIsT "str" .non = some (.bl false) := by show (kitB "NoneType" "str").map D.bl = _; rw [kit_NoneType_str]; rfl
@[simp] theorem isT_non_tuple : fIsT "tuple" .non = some (.bl false) := by show (kitB "NoneType" "tuple").map D.bl = _; rw [kit_NoneType_tuple]; rfl
@[simp] theorem isT_non_list : fIsT "list" .non = some (.bl false) := by show (kitB "NoneType" "list").map D.bl = _; rw [kit_NoneType_list]; rfl
@[simp] theorem isT_non_dict : fIsT "dict" .non = some (.bl false) := by show (kitB "NoneType" "dict").map D.bl = _; rw [kit_NoneType_dict]; rfl
@[simp] theorem isT_bl_int (b : Bool) : fIsT "int" (.bl b) = some (.bl true) := by show (kitB "bool" "int").map D.bl = _; rw [kit_bool_int]; rfl
@[simp] theorem isT_bl_bool (b : Bool) : fIsT "bool" (.bl b) = some (.bl true) := by show (kitB "bool" "bool").map D.bl = _; rw [kit_bool_bool]; rfl
@[simp] theorem isT_bl_str (b : Bool) : fIsT "str" (.bl b) = some (.bl false) := by show (kitB "bool" "str").map D.bl = _; rw [kit_bool_str]; rfl
@[simp] theorem isT_bl_tuple (b : Bool) : fIsT "tuple" (.bl b) = some (.bl false) := by show (kitB "bool" "tuple").map D.bl = _; rw [kit_bool_tuple]; rfl
@[simp] theorem isT_bl_list (b : Bool) : fIsT "list" (.bl b) = some (.bl false) := by show (kitB "bool" "list").map D.bl = _; rw [kit_bool_list]; rfl
@[simp] theorem isT_bl_dict (b : Bool) : fIsT "dict" (.bl b) = some (.bl false) := by show (kitB "bool" "dict").map D.bl = _; rw [kit_bool_dict]; rfl
@[simp] theorem isT_int_int (i : Int) : fIsT "int" (.int i) = some (.bl true) := by show (kitB "int" "int").map D.bl = _; rw [kit_int_int]; rfl
@[simp] theorem isT_int_bool (i : Int) : fIsT "bool" (.int i) = some (.bl false) := by show (kitB "int" "bool").map D.bl = _; rw [kit_int_bool]; rfl
@[simp] theorem isT_int_str (i : Int) : fIsT "str" (.int i) = some (.bl false) := by show (kitB "int" "str").map D.bl = _; rw [kit_int_str]; rfl
@[simp] theorem isT_int_tuple (i : Int) : fIsT "tuple" (.int i) = some (.bl false) := by show (kitB "int" "tuple").map D.bl = _; rw [kit_int_tuple]; rfl
@[simp] theorem isT_int_list (i : Int) : fIsT "list" (.int i) = some (.bl false) := by show (kitB "int" "list").map D.bl = _; rw [kit_int_list]; rfl
@[simp] theorem isT_int_dict (i : Int) : fIsT "dict" (.int i) = some (.bl false) := by show (kitB "int" "dict").map D.bl = _; rw [kit_int_dict]; rfl
@[simp] theorem isT_str_int (z : Str) : fIsT "int" (.str z) = some (.bl false) := by show (kitB "str" "int").map D.bl = _; rw [kit_str_int]; rfl
@[simp] theorem isT_str_bool (z : Str) : fIsT "bool" (.str z) = some (.bl false) := by show (kitB "str" "bool").map D.bl = _; rw [kit_str_bool]; rfl
@[simp] theorem isT_str_str (z : Str) : fIsT "str" (.str z) = some (.bl true) := by show (kitB "str" "str").map D.bl = _; rw [kit_str_str]; rfl
@[simp] theorem isT_str_tuple (z : Str) : fIsT "tuple" (.str z) = some (.bl false) := by show (kitB "str" "tuple").map D.bl = _; rw [kit_str_tuple]; rfl
@[simp] theorem isT_str_list (z : Str) : fIsT "list" (.str z) = some (.bl false) := by show (kitB "str" "list").map D.bl = _; rw [kit_str_list]; rfl
@[simp] theorem isT_str_dict (z : Str) : fIsT "dict" (.str z) = some (.bl false) := by show (kitB "str" "dict").map D.bl = _; rw [kit_str_dict]; rfl
@[simp] theorem isT_tup_int (ds : List D) : fIsT "int" (.tup ds) = some (.bl false) := by show (kitB "tuple" "int").map D.bl = _; rw [kit_tuple_int]; rfl
@[simp] theorem isT_tup_bool (ds : List D) : fIsT "bool" (.tup ds) = some (.bl false) := by show (kitB "tuple" "bool").map D.bl = _; rw [kit_tuple_bool]; rfl
@[simp] theorem isT_tup_str (ds : List D) : fIsT "str" (.tup ds) = some (.bl false) := by show (kitB "tuple" "str").map D.bl = _; rw [kit_tuple_str]; rfl
@[simp] theorem isT_tup_tuple (ds : List D) : fIsT "tuple" (.tup ds) = some (.bl true) := by show (kitB "tuple" "tuple").map D.bl = _; rw [kit_tuple_tuple]; rfl
@[simp] theorem isT_tup_list (ds : List D) : fIsT "list" (.tup ds) = some (.bl false) := by show (kitB "tuple" "list").map D.bl = _; rw [kit_tuple_list]; rfl
@[simp] theorem isT_tup_dict (ds : List D) : fIsT "dict" (.tup ds) = some (.bl false) := by show (kitB "tuple" "dict").map D.bl = _; rw [kit_tuple_dict]; rfl
@[simp] theorem isT_lst_int (ds : List D) : fIsT "int" (.lst ds) = some (.bl false) := by show (kitB "list" "int").map D.bl = _; rw [kit_list_int]; rfl
@[simp] theorem isT_lst_bool (ds : List D) : fIsT "bool" (.lst ds) = some (.bl false) := by show (kitB "list" "bool").map D.bl = _; rw [kit_list_bool]; rfl
@[simp] theorem isT_lst_str (ds : List D) : fIsT "str" (.lst ds) = some (.bl false) := by show (kitB "list" "str").map D.bl = _; rw [kit_list_str]; rfl
@[simp] theorem isT_lst_tuple (ds : List D) : fIsT "tuple" (.lst ds) = some (.bl false) := by show (kitB "list" "tuple").map D.bl = _; rw [kit_list_tuple]; rfl
@[simp] theorem isT_lst_list (ds : List D) : fIsT "list" (.lst ds) = some (.bl true) := by show (kitB "list" "list").map D.bl = _; rw [kit_list_list]; rfl
@[simp] theorem isT_lst_dict (ds : List D) : fIsT "dict" (.lst ds) = some (.bl false) := by show (kitB "list" "dict").map D.bl = _; rw [kit_list_dict]; rfl
@[simp] theorem isT_dic0_int : fIsT "int" .dic0 = some (.bl false) := by show (kitB "dict" "int").map D.bl = _; rw [kit_dict_int]; rfl
@[simp] theorem isT_dic0_bool : fIsT "bool" .dic0 = some (.bl false) := by show (kitB "dict" "bool").map D.bl = _; rw [kit_dict_bool]; rfl
@[simp] theorem isT_dic0_str : fIsT "str" .dic0 = some (.bl false) := by show (kitB "dict" "str").map D.bl = _; rw [kit_dict_str]; rfl
@[simp] theorem isT_dic0_tuple : fIsT "tuple" .dic0 = some (.bl false) := by show (kitB "dict" "tuple").map D.bl = _; rw [kit_dict_tuple]; rfl
@[simp] theorem isT_dic0_list : fIsT "list" .dic0 = some (.bl false) := by show (kitB "dict" "list").map D.bl = _; rw [kit_dict_list]; rfl
@[simp] theorem isT_dic0_dict : fIsT "dict" .dic0 = some (.bl true) := by show (kitB "dict" "dict").map D.bl = _; rw [kit_dict_dict]; rfl
@[simp] theorem isT2_non_list_tuple : fIsT2 "list" "tuple" .non = some (.bl false) := by show ((kitB "NoneType" "list").bind fun b => if b = true then some (D.bl true) else (kitB "NoneType" "tuple").map D.bl) = _; rw [kit_NoneType_list, kit_NoneType_tuple]; rfl
@[simp] theorem isT2_non_tuple_list : fIsT2 "tuple" "list" .non = some (.bl false) := by show ((kitB "NoneType" "tuple").bind fun b => if b = true then some (D.bl true) else (kitB "NoneType" "list").map D.bl) = _; rw [kit_NoneType_tuple, kit_NoneType_list]; rfl
@[simp] theorem isT2_non_int_str : fIsT2 "int" "str" .non = some (.bl false) := by show ((kitB "NoneType" "int").bind fun b => if b = true then some (D.bl true) else (kitB "NoneType" "str").map D.bl) = _; rw [kit_NoneType_int, kit_NoneType_str]; rfl
@[simp] theorem isT2_bl_list_tuple (b : Bool) : fIsT2 "list" "tuple" (.bl b) = some (.bl false) := by show ((kitB "bool" "list").bind fun b => if b = true then some (D.bl true) else (kitB "bool" "tuple").map D.bl) = _; rw [kit_bool_list, kit_bool_tuple]; rfl
@[simp] theorem isT2_bl_tuple_list (b : Bool) : fIsT2 "tuple" "list" (.bl b) = some (.bl false) := by show ((kitB "bool" "tuple").bind fun b => if b = true then some (D.bl true) else (kitB "bool" "list").map D.bl) = _; rw [kit_bool_tuple, kit_bool_list]; rfl
@[simp] theorem isT2_bl_int_str (b : Bool) : fIsT2 "int" "str" (.bl b) = some (.bl true) := by show ((kitB "bool" "int").bind fun b => if b = true then some (D.bl true) else (kitB "bool" "str").map D.bl) = _; rw [kit_bool_int, kit_bool_str]; rfl
@[simp] theorem isT2_int_list_tuple (i : Int) : fIsT2 "list" "tuple" (.int i) = some (.bl false) := by show ((kitB "int" "list").bind fun b => if b = true then some (D.bl true) else (kitB "int" "tuple").map D.bl) = _; rw [kit_int_list, kit_int_tuple]; rfl
@[simp] theorem isT2_int_tuple_list (i : Int) : fIsT2 "tuple" "list" (.int i) = some (.bl false) := by show ((kitB "int" "tuple").bind fun b => if b = true then some (D.bl true) else (kitB "int" "list").map D.bl) = _; rw [kit_int_tuple, kit_int_list]; rfl
@[simp] theorem isT2_int_int_str (i : Int) : fIsT2 "int" "str" (.int i) = some (.bl true) := by show ((kitB "int" "int").bind fun b => if b = true then some (D.bl true) else (kitB "int" "str").map D.bl) = _; rw [kit_int_int, kit_int_str]; rfl
@[simp] theorem isT2_str_list_tuple (z : Str) : fIsT2 "list" "tuple" (.str z) = some (.bl false) := by show ((kitB "str" "list").bind fun b => if b = true then some (D.bl true) else (kitB "str" "tuple").map D.bl) = _; rw [kit_str_list, kit_str_tuple]; rfl
@[simp] theorem isT2_str_tuple_list (z : Str) : fIsT2 "tuple" "list" (.str z) = some (.bl false) := by show ((kitB "str" "tuple").bind fun b => if b = true then some (D.bl true) else (kitB "str" "list").map D.bl) = _; rw [kit_str_tuple, kit_str_list]; rfl
@[simp] theorem isT2_str_int_str (z : Str) : fIsT2 "int" "str" (.str z) = some (.bl true) := by show ((kitB "str" "int").bind fun b => if b = true then some (D.bl true) else (kitB "str" "str").map D.bl) = _; rw [kit_str_int, kit_str_str]; rfl
@[simp] theorem isT2_tup_list_tuple (ds : List D) : fIsT2 "list" "tuple" (.tup ds) = some (.bl true) := by show ((kitB "tuple" "list").bind fun b => if b = true then some (D.bl true) else (kitB "tuple" "tuple").map D.bl) = _; rw [kit_tuple_list, kit_tuple_tuple]; rfl
@[simp] theorem isT2_tup_tuple_list (ds : List D) : fIsT2 "tuple" "list" (.tup ds) = some (.bl true) := by show ((kitB "tuple" "tuple").bind fun b => if b = true then some (D.bl true) else (kitB "tuple" "list").map D.bl) = _; rw [kit_tuple_tuple, kit_tuple_list]; rfl
@[simp] theorem isT2_tup_int_str (ds : List D) : fIsT2 "int" "str" (.tup ds) = some (.bl false) := by show ((kitB "tuple" "int").bind fun b => if b = true then some (D.bl true) else (kitB "tuple" "str").map D.bl) = _; rw [kit_tuple_int, kit_tuple_str]; rfl
@[simp] theorem isT2_lst_list_tuple (ds : List D) : fIsT2 "list" "tuple" (.lst ds) = some (.bl true) := by show ((kitB "list" "list").bind fun b => if b = true then some (D.bl true) else (kitB "list" "tuple").map D.bl) = _; rw [kit_list_list, kit_list_tuple]; rfl
@[simp] theorem isT2_lst_tuple_list (ds : List D) : fIsT2 "tuple" "list" (.lst ds) = some (.bl true) := by show ((kitB "list" "tuple").bind fun b => if b = true then some (D.bl true) else (kitB "list" "list").map D.bl) = _; rw [kit_list_tuple, kit_list_list]; rfl
@[simp] theorem isT2_lst_int_str (ds : List D) : fIsT2 "int" "str" (.lst ds) = some (.bl false) := by show ((kitB "list" "int").bind fun b => if b = true then some (D.bl true) else (kitB "list" "str").map D.bl) = _; rw [kit_list_int, kit_list_str]; rfl
@[simp] theorem isT2_dic0_list_tuple : fIsT2 "list" "tuple" .dic0 = some (.bl false) := by show ((kitB "dict" "list").bind fun b => if b = true then some (D.bl true) else (kitB "dict" "tuple").map D.bl) = _; rw [kit_dict_list, kit_dict_tuple]; rfl
@[simp] theorem isT2_dic0_tuple_list : fIsT2 "tuple" "list" .dic0 = some (.bl false) := by show ((kitB "dict" "tuple").bind fun b => if b = true then some (D.bl true) else (kitB "dict" "list").map D.bl) = _; rw [kit_dict_tuple, kit_dict_list]; rfl
@[simp] theorem isT2_dic0_int_str : fIsT2 "int" "str" .dic0 = some (.bl false) := by show ((kitB "dict" "int").bind fun b => if b = true then some (D.bl true) else (kitB "dict" "str").map D.bl) = _; rw [kit_dict_int, kit_dict_str]; rfl
section
variable (i j : Int)
@[simp] theorem fLe_int : fLe (.int i) (.int j) = some (.bl (decide (i ≤ j))) := (rfl)
@[simp] theorem fGt_int : fGt (.int i) (.int j) = some (.bl (decide (j < i))) := (rfl)
@[simp] theorem fGe_int : fGe (.int i) (.int j) = some (.bl (decide (j ≤ i))) := (rfl)
@[simp] theorem fLt_int : fLt (.int i) (.int j) = some (.bl (decide (i < j))) := (rfl)
@[simp] theorem fPlus_int : fPlus (.int i) (.int j) = some (.int (i + j)) := (rfl)
@[simp] theorem fSub_int : fSub (.int i) (.int j) = some (.int (i - j)) := (rfl)
@[simp] theorem fNeg_int : fNeg (.int i) = some (.int (-i)) := (rfl)
@[simp] theorem fInt_int : fInt (.int i) = some (.int i) := (rfl)
@[simp] theorem fAbs_int : fAbs (.int i) = some (.int (if i < 0 then -i else i)) := (rfl)
@[simp] theorem fMod_int : fMod (.int i) (.int j) = if j ≠ 0 then some (.int (i.fmod j)) else none := by
  show (if decide (j ≠ 0) = true then _ else _) = _
  simp
@[simp] theorem fDiv_int : fDiv (.int i) (.int j) = if cDivB i j = true then some (.int (i.fdiv j)) else none := (rfl)
@[simp] theorem fMul_int : fMul (.int i) (.int j) = if cMulB i j = true then some (.int (i * j)) else none := (rfl)
@[simp] theorem fPow_int : fPow (.int i) (.int j) = if cPowB i j = true then some (.int (i ^ j.toNat)) else none := (rfl)
@[simp] theorem fMax2_int : fMax2 (.int i) (.int j) = some (.int (if j > i then j else i)) := (rfl)
@[simp] theorem fMin2_int : fMin2 (.int i) (.int j) = some (.int (if j < i then j else i)) := (rfl)
end
theorem cMul_of {i j : Int} (hi : i.natAbs < 2 ^ 400000) (hj : j.natAbs < 2 ^ 400000) : cMulB i j = true := by
  have a : i.natAbs.log2 ≤ 400000 := by
    by_cases h : i.natAbs = 0
    · rw [h]; simp
    · exact Nat.le_of_lt ((Nat.log2_lt h).mpr hi)
  have b : j.natAbs.log2 ≤ 400000 := by
    by_cases h : j.natAbs = 0
    · rw [h]; simp
    · exact Nat.le_of_lt ((Nat.log2_lt h).mpr hj)
  unfold cMulB
  simp only [decide_eq_true_eq]
  omega
theorem cDiv_of {i j : Int} (h0 : j ≠ 0) (hj : j.natAbs < 2 ^ 1000) : cDivB i j = true := by
  have b : j.natAbs.log2 < 1000 := (Nat.log2_lt (by omega)).mpr hj
  unfold cDivB
  simp only [decide_eq_true_eq]
  exact ⟨h0, by omega⟩
@[simp] theorem fLen_lst (ds : List D) : fLen (.lst ds) = some (.int ds.length) := (rfl)
@[simp] theorem fLen_tup (ds : List D) : fLen (.tup ds) = some (.int ds.length) := (rfl)
@[simp] theorem fTru_bl (b : Bool) : fTru (.bl b) = some b := (rfl)
@[simp] theorem fTru_lst (ds : List D) : fTru (.lst ds) = some (!ds.isEmpty) := (rfl)
@[simp] theorem fTru_tup (ds : List D) : fTru (.tup ds) = some (!ds.isEmpty) := (rfl)
@[simp] theorem fTup_lst (ds : List D) : fTup (.lst ds) = some (.tup ds) := (rfl)
@[simp] theorem fTup_tup (ds : List D) : fTup (.tup ds) = some (.tup ds) := (rfl)
@[simp] theorem fLst_lst (ds : List D) : fLst (.lst ds) = some ds := (rfl)
@[simp] theorem fLst_tup (ds : List D) : fLst (.tup ds) = some ds := (rfl)
@[simp] theorem fSum_lst (ns : List Int) : fSum (.lst (ns.map D.int)) = some (.int ns.sum) := by
  show (toInts _).map _ = _
  rw [toInts_map]; rfl
@[simp] theorem fSum_tup (ns : List Int) : fSum (.tup (ns.map D.int)) = some (.int ns.sum) := by
  show (toInts _).map _ = _
  rw [toInts_map]; rfl
@[simp] theorem fSum_tupD (ns : List Int) : fSum (tupD ns) = some (.int ns.sum) := fSum_tup ns
@[simp] theorem fAll_lst (bs : List Bool) : fAll (.lst (bs.map D.bl)) = some (.bl (bs.all id)) := by
  show (toBls _).map _ = _
  rw [toBls_map]; rfl
@[simp] theorem fAny_lst (bs : List Bool) : fAny (.lst (bs.map D.bl)) = some (.bl (bs.any id)) := by
  show (toBls _).map _ = _
  rw [toBls_map]; rfl
@[simp] theorem fAny_tup (ns : List Int) : fAny (.tup (ns.map D.int)) = some (.bl (ns.any fun n => n != 0)) := by
  show (toInts _).map _ = _
  rw [toInts_map]; rfl
@[simp] theorem fAny_tupD (ns : List Int) : fAny (tupD ns) = some (.bl (ns.any fun n => n != 0)) := fAny_tup ns
@[simp] theorem fIsN_non (d : D) : fIsN d .non = some (.bl (isNonD d)) := (rfl)
@[simp] theorem fNotN_non (d : D) : fNotN d .non = some (.bl (!isNonD d)) := (rfl)
@[simp] theorem fFld_ob (c n : Nat) (ds : List D) : fFld c n (.ob c ds) = ds[n]? := if_pos rfl
@[simp] theorem fIsC_ob (c : Nat) (ds : List D) : fIsC [c] c (.ob c ds) = some (.bl true) := by simp [fIsC]
theorem ixN_lt {n i : Nat} (h : i < n) : ixN n (i : Int) = some i := by
  unfold ixN
  simp [h]
theorem atI_nat {α : Type} {xs : List α} {i : Nat} {x : α} (h : xs[i]? = some x) : atI xs (i : Int) = some x := by
  have hl : i < xs.length := (List.getElem?_eq_some_iff.mp h).1
  unfold atI
  rw [ixN_lt hl]
  exact h
theorem fIx_lst {ds : List D} {i : Nat} {d : D} (h : ds[i]? = some d) : fIx (.lst ds) (.int (i : Nat)) = some d := atI_nat h
theorem fIx_tup {ds : List D} {i : Nat} {d : D} (h : ds[i]? = some d) : fIx (.tup ds) (.int (i : Nat)) = some d := atI_nat h
@[simp] theorem fIx_lst0 (d : D) (ds : List D) : fIx (.lst (d :: ds)) (.int 0) = some d := fIx_lst (i := 0) rfl
@[simp] theorem fIx_lst1 (a d : D) (ds : List D) : fIx (.lst (a :: d :: ds)) (.int 1) = some d := fIx_lst (i := 1) rfl
@[simp] theorem fIx_lst2 (a b d : D) (ds : List D) : fIx (.lst (a :: b :: d :: ds)) (.int 2) = some d := fIx_lst (i := 2) rfl
@[simp] theorem fIx_tup0 (d : D) (ds : List D) : fIx (.tup (d :: ds)) (.int 0) = some d := fIx_tup (i := 0) rfl
@[simp] theorem fIx_tup1 (a d : D) (ds : List D) : fIx (.tup (a :: d :: ds)) (.int 1) = some d := fIx_tup (i := 1) rfl
@[simp] theorem fIx_tup2 (a b d : D) (ds : List D) : fIx (.tup (a :: b :: d :: ds)) (.int 2) = some d := fIx_tup (i := 2) rfl
theorem enumD_map {α : Type} (enc : α → D) (ts : List α) : enumD (ts.map enc) = ts.zipIdx.map fun p => D.tup [.int (p.2 : Nat), enc p.1] := by
  apply List.ext_getElem?
  intro i
  unfold enumD
  simp only [List.length_map, List.getElem?_zipWith, List.getElem?_map, List.getElem?_zipIdx, Nat.zero_add]
  by_cases h : i < ts.length
  · simp [List.getElem?_range h, h]
  · have h' : ts.length ≤ i := Nat.le_of_not_lt h
    rw [List.getElem?_eq_none (by simpa using h'), List.getElem?_eq_none h']
    rfl
theorem rangeD_map (lo : Int) (n : Nat) : rangeD lo n = (List.range n).map fun i => D.int (lo + (i : Nat)) := (rfl)
mutual
def eqD : D → D → Bool
  | .non, .non => true
  | .bl a, .bl b => a == b
  | .bl a, .int j => (if a then 1 else 0) == j
  | .int i, .bl b => i == (if b then 1 else 0)
  | .int i, .int j => i == j
  | .str x, .str y => x == y
  | .lst xs, .lst ys => eqDs xs ys
  | .tup xs, .tup ys => eqDs xs ys
  | _, _ => false
def eqDs : List D → List D → Bool
  | [], [] => true
  | x :: xs, y :: ys => eqD x y && eqDs xs ys
  | _, _ => false
end
mutual
def okD : Nat → D → Bool
  | _, .non => true
  | _, .bl _ => true
  | _, .int _ => true
  | _, .str z => PyData.strOk z
  | n + 1, .tup ds => okDs n ds
  | n + 1, .lst ds => okDs n ds
  | _, _ => false
def okDs : Nat → List D → Bool
  | _, [] => true
  | n, d :: ds => okD n d && okDs n ds
end
mutual
theorem eqv_eqD : ∀ {d e : D} {p q : PyData}, toPy d = some p → toPy e = some q → PyData.eqv p q = eqD d e
  | .non, e, p, q, h, h' => by
    simp only [toPy, Option.some.injEq] at h; subst h
    cases e <;> simp only [toPy, Option.some.injEq, Option.map_eq_some_iff, reduceCtorEq] at h' <;> first | (subst h'; simp [PyData.eqv, eqD]) | (obtain ⟨_, _, rfl⟩ := h'; simp [PyData.eqv, eqD])
  | .bl b, e, p, q, h, h' => by
    simp only [toPy, Option.some.injEq] at h; subst h
    cases e <;> simp only [toPy, Option.some.injEq, Option.map_eq_some_iff, reduceCtorEq] at h' <;> first | (subst h'; simp [PyData.eqv, eqD]) | (obtain ⟨_, _, rfl⟩ := h'; simp [PyData.eqv, eqD])
  | .int i, e, p, q, h, h' => by
    simp only [toPy, Option.some.injEq] at h; subst h
    cases e <;> simp only [toPy, Option.some.injEq, Option.map_eq_some_iff, reduceCtorEq] at h' <;> first | (subst h'; simp [PyData.eqv, eqD]) | (obtain ⟨_, _, rfl⟩ := h'; simp [PyData.eqv, eqD])
  | .str z, e, p, q, h, h' => by
    simp only [toPy, Option.some.injEq] at h; subst h
    cases e <;> simp only [toPy, Option.some.injEq, Option.map_eq_some_iff, reduceCtorEq] at h' <;> first | (subst h'; simp [PyData.eqv, eqD]) | (obtain ⟨_, _, rfl⟩ := h'; simp [PyData.eqv, eqD])
  | .tup xs, e, p, q, h, h' => by
    simp only [toPy, Option.map_eq_some_iff] at h; obtain ⟨ps, hp, rfl⟩ := h
    cases e <;> simp only [toPy, Option.some.injEq, Option.map_eq_some_iff, reduceCtorEq] at h' <;> first | (subst h'; simp [PyData.eqv, eqD]; done) | (obtain ⟨qs, hq, rfl⟩ := h'; first | (simp [PyData.eqv, eqD]; done) | (simp only [PyData.eqv, eqD]; exact eqvs_eqD hp hq))
  | .lst xs, e, p, q, h, h' => by
    simp only [toPy, Option.map_eq_some_iff] at h; obtain ⟨ps, hp, rfl⟩ := h
    cases e <;> simp only [toPy, Option.some.injEq, Option.map_eq_some_iff, reduceCtorEq] at h' <;> first | (subst h'; simp [PyData.eqv, eqD]; done) | (obtain ⟨qs, hq, rfl⟩ := h'; first | (simp [PyData.eqv, eqD]; done) | (simp only [PyData.eqv, eqD]; exact eqvs_eqD hp hq))
  | .ob _ _, _, _, _, h, _ => by simp only [toPy, reduceCtorEq] at h
  | .dic0, _, _, _, h, _ => by simp only [toPy, reduceCtorEq] at h
theorem eqvs_eqD : ∀ {ds es : List D} {ps qs : List PyData}, toPyL ds = some ps → toPyL es = some qs → PyData.eqvAll ps qs = eqDs ds es
  | [], es, ps, qs, h, h' => by
    simp only [toPyL, Option.some.injEq] at h; subst h
    cases es with
    | nil => simp only [toPyL, Option.some.injEq] at h'; subst h'; simp [PyData.eqvAll, eqDs]
    | cons e es =>
      simp only [toPyL, Option.bind_eq_some_iff, Option.map_eq_some_iff] at h'
      obtain ⟨_, _, _, _, rfl⟩ := h'
      simp [PyData.eqvAll, eqDs]
  | d :: ds, es, ps, qs, h, h' => by
    simp only [toPyL, Option.bind_eq_some_iff, Option.map_eq_some_iff] at h
    obtain ⟨p, hp, ps', hps, rfl⟩ := h
    cases es with
    | nil => simp only [toPyL, Option.some.injEq] at h'; subst h'; simp [PyData.eqvAll, eqDs]
    | cons e es =>
      simp only [toPyL, Option.bind_eq_some_iff, Option.map_eq_some_iff] at h'
      obtain ⟨q, hq, qs', hqs, rfl⟩ := h'
      simp only [PyData.eqvAll, eqDs]
      rw [eqv_eqD hp hq, eqvs_eqD hps hqs]
end
mutual
theorem okD_py : ∀ {n : Nat} {d : D}, okD n d = true → ∃ p, toPy d = some p ∧ p.canLay0 = true ∧ p.depth ≤ n
  | n, .non, _ => ⟨.none, rfl, by simp [PyData.canLay0], by simp [PyData.depth]⟩
  | n, .bl b, _ => ⟨.bool b, rfl, by simp [PyData.canLay0], by simp [PyData.depth]⟩
  | n, .int b, _ => ⟨.int b, rfl, by simp [PyData.canLay0], by simp [PyData.depth]⟩
  | n, .str b, h => ⟨.str b, rfl, by simp only [okD] at h; simpa [PyData.canLay0] using h, by simp [PyData.depth]⟩
  | n + 1, .tup ds, h => by
    simp only [okD] at h
    obtain ⟨ps, h1, h2, h3⟩ := okDs_py h
    exact ⟨.tuple ps, by simp [toPy, h1], by simpa [PyData.canLay0] using h2, by simp only [PyData.depth]; omega⟩
  | n + 1, .lst ds, h => by
    simp only [okD] at h
    obtain ⟨ps, h1, h2, h3⟩ := okDs_py h
    exact ⟨.list ps, by simp [toPy, h1], by simpa [PyData.canLay0] using h2, by simp only [PyData.depth]; omega⟩
  | 0, .tup ds, h => by simp [okD] at h
  | 0, .lst ds, h => by simp [okD] at h
  | 0, .ob _ _, h => by simp [okD] at h
  | 0, .dic0, h => by simp [okD] at h
  | _ + 1, .ob _ _, h => by simp [okD] at h
  | _ + 1, .dic0, h => by simp [okD] at h
theorem okDs_py : ∀ {n : Nat} {ds : List D}, okDs n ds = true → ∃ ps, toPyL ds = some ps ∧ PyData.canLayAll0 ps = true ∧ PyData.depthAll ps ≤ n
  | n, [], _ => ⟨[], rfl, by simp [PyData.canLayAll0], by simp [PyData.depthAll]⟩
  | n, d :: ds, h => by
    simp only [okDs, Bool.and_eq_true] at h
    obtain ⟨p, h1, h2, h3⟩ := okD_py h.1
    obtain ⟨ps, h4, h5, h6⟩ := okDs_py h.2
    exact ⟨p :: ps, by simp [toPyL, h1, h4], by simp [PyData.canLayAll0, h2, h5], by simp only [PyData.depthAll]; omega⟩
end
theorem pyOk_of {d : D} (h : okD 64 d = true) : ∃ p, pyOk d = some p ∧ toPy d = some p := by
  obtain ⟨p, h1, h2, h3⟩ := okD_py h
  refine ⟨p, ?_, h1⟩
  unfold pyOk
  rw [h1, Option.bind_some, if_pos]
  unfold SeqAt.shaped
  rw [h2, decide_eq_true h3]
  rfl
theorem fEq_ok {d e : D} (h : okD 64 d = true) (h' : okD 64 e = true) : fEq d e = some (.bl (eqD d e)) := by
  obtain ⟨p, h1, h2⟩ := pyOk_of h
  obtain ⟨q, h3, h4⟩ := pyOk_of h'
  unfold fEq
  rw [h1, h3]
  show some (D.bl (PyData.eqv p q)) = _
  rw [eqv_eqD h2 h4]
theorem fNe_ok {d e : D} (h : okD 64 d = true) (h' : okD 64 e = true) : fNe d e = some (.bl (!eqD d e)) := by
  obtain ⟨p, h1, h2⟩ := pyOk_of h
  obtain ⟨q, h3, h4⟩ := pyOk_of h'
  unfold fNe
  rw [h1, h3]
  show some (D.bl (!PyData.eqv p q)) = _
  rw [eqv_eqD h2 h4]
theorem any_eqv {p : PyData} {d : D} (h : toPy d = some p) : ∀ {ds : List D} {qs : List PyData}, toPyL ds = some qs → (qs.any fun z => PyData.eqv z p) = ds.any fun z => eqD z d
  | [], _, h' => by simp only [toPyL, Option.some.injEq] at h'; subst h'; rfl
  | e :: es, _, h' => by
    simp only [toPyL, Option.bind_eq_some_iff, Option.map_eq_some_iff] at h'
    obtain ⟨q, hq, qs', hqs, rfl⟩ := h'
    rw [List.any_cons, List.any_cons, eqv_eqD hq h, any_eqv h hqs]
theorem fIn_lst {d : D} {ds : List D} (h : okD 64 d = true) (h' : okD 64 (.lst ds) = true) : fIn d (.lst ds) = some (.bl (ds.any fun z => eqD z d)) := by
  obtain ⟨p, h1, h2⟩ := pyOk_of h
  obtain ⟨q, h3, h4⟩ := pyOk_of h'
  unfold fIn
  rw [h1, h3]
  simp only [toPy, Option.map_eq_some_iff] at h4
  obtain ⟨qs, hq, rfl⟩ := h4
  show some (D.bl (qs.any fun z => PyData.eqv z p)) = _
  rw [any_eqv h2 hq]
theorem fIn_tup {d : D} {ds : List D} (h : okD 64 d = true) (h' : okD 64 (.tup ds) = true) : fIn d (.tup ds) = some (.bl (ds.any fun z => eqD z d)) := by
  obtain ⟨p, h1, h2⟩ := pyOk_of h
  obtain ⟨q, h3, h4⟩ := pyOk_of h'
  unfold fIn
  rw [h1, h3]
  simp only [toPy, Option.map_eq_some_iff] at h4
  obtain ⟨qs, hq, rfl⟩ := h4
  show some (D.bl (qs.any fun z => PyData.eqv z p)) = _
  rw [any_eqv h2 hq]
theorem fNotIn_lst {d : D} {ds : List D} (h : okD 64 d = true) (h' : okD 64 (.lst ds) = true) : fNotIn d (.lst ds) = some (.bl (!ds.any fun z => eqD z d)) := by
  obtain ⟨p, h1, h2⟩ := pyOk_of h
  obtain ⟨q, h3, h4⟩ := pyOk_of h'
  unfold fNotIn
  rw [h1, h3]
  simp only [toPy, Option.map_eq_some_iff] at h4
  obtain ⟨qs, hq, rfl⟩ := h4
  show some (D.bl (!qs.any fun z => PyData.eqv z p)) = _
  rw [any_eqv h2 hq]
@[simp] theorem okD_int (n : Nat) (i : Int) : okD n (.int i) = true := by simp [okD]
@[simp] theorem okD_non (n : Nat) : okD n .non = true := by simp [okD]
@[simp] theorem okD_bl (n : Nat) (b : Bool) : okD n (.bl b) = true := by simp [okD]
@[simp] theorem okD_tup (n : Nat) (ds : List D) : okD (n + 1) (.tup ds) = okDs n ds := by simp [okD]
@[simp] theorem okD_lst (n : Nat) (ds : List D) : okD (n + 1) (.lst ds) = okDs n ds := by simp [okD]
@[simp] theorem okDs_nil (n : Nat) : okDs n [] = true := by simp [okDs]
@[simp] theorem okDs_cons (n : Nat) (d : D) (ds : List D) : okDs n (d :: ds) = (okD n d && okDs n ds) := by simp [okDs]
theorem okDs_map {α : Type} {enc : α → D} {n : Nat} {ts : List α} (h : ∀ t ∈ ts, okD n (enc t) = true) : okDs n (ts.map enc) = true := by
  induction ts with
  | nil => simp
  | cons t ts ih => simp only [List.map_cons, okDs_cons, h t (by simp), ih fun t' ht' => h t' (by simp [ht']), Bool.and_self]
@[simp] theorem okDs_ints (n : Nat) (ns : List Int) : okDs n (ns.map D.int) = true := okDs_map fun _ _ => by simp
@[simp] theorem okD_tupD (n : Nat) (ns : List Int) : okD (n + 1) (tupD ns) = true := by simp [tupD]
@[simp] theorem okDs_tups (n : Nat) (ts : List (List Int)) : okDs (n + 1) (ts.map tupD) = true := okDs_map fun _ _ => by simp
@[simp] theorem eqD_int (i j : Int) : eqD (.int i) (.int j) = decide (i = j) := by simp only [eqD]; by_cases h : i = j <;> simp [h]
@[simp] theorem eqD_tup (xs ys : List D) : eqD (.tup xs) (.tup ys) = eqDs xs ys := by simp only [eqD]
@[simp] theorem eqD_lst (xs ys : List D) : eqD (.lst xs) (.lst ys) = eqDs xs ys := by simp only [eqD]
@[simp] theorem eqDs_nil : eqDs [] [] = true := by simp only [eqDs]
@[simp] theorem eqDs_cons (x y : D) (xs ys : List D) : eqDs (x :: xs) (y :: ys) = (eqD x y && eqDs xs ys) := by simp only [eqDs]
@[simp] theorem eqDs_nc (y : D) (ys : List D) : eqDs [] (y :: ys) = false := by simp only [eqDs]
@[simp] theorem eqDs_cn (x : D) (xs : List D) : eqDs (x :: xs) [] = false := by simp only [eqDs]
theorem eqDs_map {α : Type} [DecidableEq α] {enc : α → D} : ∀ {xs ys : List α}, (∀ x ∈ xs, ∀ y ∈ ys, eqD (enc x) (enc y) = decide (x = y)) → eqDs (xs.map enc) (ys.map enc) = decide (xs = ys)
  | [], [], _ => by simp
  | [], y :: ys, _ => by simp
  | x :: xs, [], _ => by simp
  | x :: xs, y :: ys, h => by
    rw [List.map_cons, List.map_cons, eqDs_cons, h x (by simp) y (by simp), eqDs_map fun x' hx y' hy => h x' (by simp [hx]) y' (by simp [hy])]
    by_cases h1 : x = y <;> by_cases h2 : xs = ys <;> simp [h1, h2]
@[simp] theorem eqDs_ints (xs ys : List Int) : eqDs (xs.map D.int) (ys.map D.int) = decide (xs = ys) := eqDs_map fun _ _ _ _ => by simp
@[simp] theorem eqD_tupD (xs ys : List Int) : eqD (tupD xs) (tupD ys) = decide (xs = ys) := by simp [tupD]
@[simp] theorem eqDs_tups (xs ys : List (List Int)) : eqDs (xs.map tupD) (ys.map tupD) = decide (xs = ys) := eqDs_map fun _ _ _ _ => by simp
@[simp] theorem fEq_int (i j : Int) : fEq (.int i) (.int j) = some (.bl (decide (i = j))) := by rw [fEq_ok (by simp) (by simp), eqD_int]
@[simp] theorem fNe_int (i j : Int) : fNe (.int i) (.int j) = some (.bl (!decide (i = j))) := by rw [fNe_ok (by simp) (by simp), eqD_int]
@[simp] theorem fEq_tupD (xs ys : List Int) : fEq (tupD xs) (tupD ys) = some (.bl (decide (xs = ys))) := by rw [fEq_ok (okD_tupD 63 _) (okD_tupD 63 _), eqD_tupD]
@[simp] theorem fNe_tupD (xs ys : List Int) : fNe (tupD xs) (tupD ys) = some (.bl (!decide (xs = ys))) := by rw [fNe_ok (okD_tupD 63 _) (okD_tupD 63 _), eqD_tupD]
theorem any_tupD {x : List Int} {ts : List (List Int)} : (ts.map tupD).any (fun z => eqD z (tupD x)) = decide (x ∈ ts) := by
  rw [List.any_map]
  rw [Bool.eq_iff_iff]
  simp [Function.comp]
@[simp] theorem fIn_tups (x : List Int) (ts : List (List Int)) : fIn (tupD x) (.lst (ts.map tupD)) = some (.bl (decide (x ∈ ts))) := by
  rw [fIn_lst (okD_tupD 63 _) (by rw [okD_lst 63]; exact okDs_tups 62 _), any_tupD]
@[simp] theorem fNotIn_tups (x : List Int) (ts : List (List Int)) : fNotIn (tupD x) (.lst (ts.map tupD)) = some (.bl (!decide (x ∈ ts))) := by
  rw [fNotIn_lst (okD_tupD 63 _) (by rw [okD_lst 63]; exact okDs_tups 62 _), any_tupD]
theorem eqDs_isNil (ds : List D) : eqDs ds [] = ds.isEmpty := by cases ds <;> simp
@[simp] theorem fAll_map {α : Type} (p : α → Bool) (ts : List α) : fAll (.lst (ts.map fun t => D.bl (p t))) = some (.bl (ts.all p)) := by
  have e : (ts.map fun t => D.bl (p t)) = (ts.map p).map D.bl := by rw [List.map_map]; rfl
  rw [e, fAll_lst, List.all_map]
  rfl
@[simp] theorem fAny_map {α : Type} (p : α → Bool) (ts : List α) : fAny (.lst (ts.map fun t => D.bl (p t))) = some (.bl (ts.any p)) := by
  have e : (ts.map fun t => D.bl (p t)) = (ts.map p).map D.bl := by rw [List.map_map]; rfl
  rw [e, fAny_lst, List.any_map]
  rfl
@[simp] theorem fSum_map {α : Type} (g : α → Int) (ts : List α) : fSum (.lst (ts.map fun t => D.int (g t))) = some (.int (ts.map g).sum) := by
  have e : (ts.map fun t => D.int (g t)) = (ts.map g).map D.int := by rw [List.map_map]; rfl
  rw [e, fSum_lst]
theorem map_int {α : Type} (g : α → Int) (ts : List α) : (ts.map fun t => D.int (g t)) = (ts.map g).map D.int := by
  rw [List.map_map]
  rfl
end L3
namespace L3
open PySem PySem.Spec PyProof.Rows L2
theorem zipIdx_get {α : Type} {ts : List α} {p : α × Nat} (h : p ∈ ts.zipIdx) : p.2 < ts.length ∧ ts[p.2]? = some p.1 := by
  obtain ⟨i, hi, e⟩ := List.mem_iff_getElem.mp h
  rw [List.getElem_zipIdx] at e
  subst e
  have hi' : i < ts.length := by simpa using hi
  simp [hi']
theorem zipIdx_zipWith {α β γ : Type} (f : α → β → γ) (b : β) {xs : List α} {ys : List β} (h : xs.length ≤ ys.length) : (xs.zipIdx.map fun p => f p.1 (ys.getD p.2 b)) = xs.zipWith f ys := by
  apply List.ext_getElem
  · simp; omega
  · intro i h1 h2
    have hi : i < xs.length := by simpa using h1
    have hy : i < ys.length := by omega
    simp [hi, hy]
theorem zipIdx_all {α β : Type} (f : α → β → Bool) (b : β) {xs : List α} {ys : List β} (h : xs.length ≤ ys.length) : (xs.zipIdx.all fun p => f p.1 (ys.getD p.2 b)) = (xs.zip ys).all fun p => f p.1 p.2 := by
  have e : (xs.zipIdx.all fun p => f p.1 (ys.getD p.2 b)) = (xs.zipIdx.map fun p => f p.1 (ys.getD p.2 b)).all id := by rw [List.all_map]; rfl
  rw [e, zipIdx_zipWith f b h, List.zip, ← List.map_uncurry_zip_eq_zipWith, List.all_map]
  rfl
/-- the i-th, or 0 -/
def gi (ys : List Int) (i : Nat) : Int := ys.getD i 0
theorem gi_zipWith {γ : Type} (f : Int → Int → γ) {xs ys : List Int} (h : xs.length ≤ ys.length) : (xs.zipIdx.map fun p => f p.1 (gi ys p.2)) = xs.zipWith f ys := zipIdx_zipWith f 0 h
theorem gi_all (f : Int → Int → Bool) {xs ys : List Int} (h : xs.length ≤ ys.length) : (xs.zipIdx.all fun p => f p.1 (gi ys p.2)) = (xs.zip ys).all fun p => f p.1 p.2 := zipIdx_all f 0 h
theorem gi_lt {ys : List Int} {i : Nat} (h : i < ys.length) : gi ys i = ys[i] := by simp [gi, h]
theorem get_map_int {ys : List Int} {i : Nat} (h : i < ys.length) : (ys.map D.int)[i]? = some (.int (gi ys i)) := by
  simp [gi, h]
theorem fIx_ints {ys : List Int} {i : Nat} (h : i < ys.length) : fIx (.tup (ys.map D.int)) (.int (i : Nat)) = some (.int (gi ys i)) := fIx_tup (get_map_int h)
theorem fIx_lints {ys : List Int} {i : Nat} (h : i < ys.length) : fIx (.lst (ys.map D.int)) (.int (i : Nat)) = some (.int (gi ys i)) := fIx_lst (get_map_int h)
theorem filter_yes {α : Type} (ts : List α) : ts.filter (fun _ => true) = ts := List.filter_eq_self.mpr fun _ _ => rfl
/-- a comprehension without a test whose parts change nothing -/
theorem compL_yes {α : Type} {vs : List Nat} {f : D → Env → Option Env} {me : M D} {enc : α → D} (h : α → D) {ts : List α} {ρ : Env} {acc : List D} (hl : acc.length + ts.length ≤ sizeLine)
    (H : ∀ t ∈ ts, ∃ ρ1, f (enc t) ρ = some ρ1 ∧ ∃ ρ3, me ρ1 = some (.ok (h t) ρ3) ∧ wipeE ρ3 vs = ρ) : compL vs f mYes me (ts.map enc) ρ acc = some (acc ++ ts.map h, ρ) := by
  rw [compL_pure (fun _ => true) h hl fun t ht => ?_, filter_yes]
  obtain ⟨ρ1, h1, ρ3, h2, h3⟩ := H t ht
  exact ⟨ρ1, h1, ρ1, rfl, nofun, fun _ => ⟨ρ3, h2, h3⟩⟩
@[simp] theorem slotDl_own (cs : List Int) (b : Int) : slotDl (.own (.deal cs b)) = some (cs, b) := (rfl)
@[simp] theorem slotDl_io (cs : List Int) (b : Int) : slotDl (.io (.deal cs b)) = some (cs, b) := (rfl)
@[simp] theorem dlAt_ap (ρ : Env) (i : Nat) : dlAt ρ i = (match sa ρ i with
  | some s => slotDl s
  | none => none) := by unfold dlAt sa; cases ρ[i]? <;> rfl
@[simp] theorem dlPut_ap (ρ : Env) (i : Nat) (cs : List Int) (b : Int) : dlPut ρ i cs b = ρ.set i (putS ((sa ρ i).getD .emp) (.deal cs b)) := (rfl)
@[simp] theorem fzInt_ap (ρ : Env) (i : Nat) : fzInt ρ i = (match sa ρ i with
  | some (.fz (.int z)) => some z
  | _ => none) := (rfl)
@[simp] theorem mDlNe_ap (i : Nat) (ρ : Env) : mDlNe i ρ = (match dlAt ρ i with
  | some (cs, _) => some (.ok (.bl (!cs.isEmpty)) ρ)
  | none => none) := by
  unfold mDlNe
  cases dlAt ρ i with
  | none => rfl
  | some p =>
    obtain ⟨cs, b⟩ := p
    have e : fNe (csD cs) (.lst []) = some (.bl (!cs.isEmpty)) := by
      rw [fNe_ok (by unfold csD; rw [okD_lst 63]; exact okDs_ints 63 cs) (by simp [okD])]
      cases cs <;> simp [csD]
    dsimp only
    rw [e]
    rfl
@[simp] theorem mDlLast_ap (i : Nat) (ρ : Env) : mDlLast i ρ = (match dlAt ρ i with
  | some (cs, _) => (match fIx (csD cs) (.int (-1)) with
    | none => none
    | some d => some (.ok d ρ))
  | none => none) := by
  unfold mDlLast
  cases dlAt ρ i with
  | none => rfl
  | some p => obtain ⟨cs, b⟩ := p; dsimp only; cases fIx (csD cs) (.int (-1)) <;> rfl
theorem fIx_last {cs : List Int} {z : Int} (h : cs.getLast? = some z) : fIx (csD cs) (.int (-1)) = some (.int z) := by
  have hne : cs ≠ [] := fun e => by subst e; cases h
  have hl : 0 < cs.length := List.length_pos_iff.mpr hne
  show atI (cs.map D.int) (-1) = _
  unfold atI ixN
  rw [List.length_map, if_neg (by decide), if_pos (by omega)]
  have e : (-1 + (cs.length : Int)).toNat = cs.length - 1 := by omega
  rw [Option.bind_some, e, List.getElem?_map, ← List.getLast?_eq_getElem?, h]
  rfl
@[simp] theorem mDlPop_ap (i : Nat) (ρ : Env) : mDlPop i ρ = (match dlAt ρ i with
  | some (cs, b) => (match cs.getLast? with
    | some z => some (.ok (.int z) (dlPut ρ i cs.dropLast b))
    | none => none)
  | none => none) := by
  unfold mDlPop
  cases dlAt ρ i with
  | none => rfl
  | some p => obtain ⟨cs, b⟩ := p; dsimp only; rw [List.getLast?_eq_getElem?] <;> cases cs[cs.length - 1]? <;> rfl
@[simp] theorem mDlAppDiv_ap (i j k : Nat) (ρ : Env) : mDlAppDiv i j k ρ = (match dlAt ρ i, fzInt ρ j, fzInt ρ k with
  | some (cs, b), some x, some y => if cDivB x y = true then (if cs.length < sizeLine then some (.ok .non (dlPut ρ i (cs ++ [x.fdiv y]) b)) else none) else none
  | _, _, _ => none) := (rfl)
@[simp] theorem mDl1_ap (i : Nat) (ρ : Env) : mDl1 i ρ = (match dlAt ρ i with
  | some (_, b) => some (.ok (.int b) ρ)
  | none => none) := (rfl)
@[simp] theorem mDlSet_ap (i : Nat) (m : M Bv) (ρ : Env) : mDlSet i m ρ = (match m ρ with
  | none => none
  | some (.ok v ρ') => (match dlAt ρ' i, deref ρ' v with
    | some (cs, _), some (.int z) => some (.nx (dlPut ρ' i cs z))
    | _, _ => none)
  | some (.exc c d ρ') => some (.exc c d ρ')) := by
  unfold mDlSet
  rw [thenS_ap]
  cases m ρ with
  | none => rfl
  | some o => cases o <;> rfl
theorem mWhile_inv {c : M Bool} {b : MS} (I : Env → Prop) (Q : Env → Prop) (μ : Env → Nat)
    (H : ∀ ρ, I ρ → (∃ ρ1, c ρ = some (.ok false ρ1) ∧ Q ρ1) ∨ ∃ ρ1 ρ2, c ρ = some (.ok true ρ1) ∧ (b ρ1 = some (.nx ρ2) ∨ b ρ1 = some (.ct ρ2)) ∧ I ρ2 ∧ μ ρ2 < μ ρ) {ρ : Env} (h : I ρ) : ∃ ρ', mWhile c b ρ = some (.nx ρ') ∧ Q ρ' := by
  have key : ∀ (n : Nat) (ρ : Env), μ ρ < n → I ρ → ∃ ρ', whileN c b n ρ = some (.nx ρ') ∧ Q ρ' := by
    intro n
    induction n with
    | zero => intro ρ h; omega
    | succ n ih =>
      intro ρ hm hI
      rcases H ρ hI with ⟨ρ1, h1, h2⟩ | ⟨ρ1, ρ2, h1, h2, h3, h4⟩
      · refine ⟨ρ1, ?_, h2⟩
        rw [whileN, thenS_ok h1, if_neg (by decide)]
      · obtain ⟨ρ', h5, h6⟩ := ih ρ2 (by omega) h3
        refine ⟨ρ', ?_, h6⟩
        rw [whileN, thenS_ok h1, if_pos rfl]
        rcases h2 with h2 | h2 <;> rw [h2] <;> exact h5
  obtain ⟨ρ', h1, h2⟩ := key (μ ρ + 1) ρ (by omega) h
  exact ⟨ρ', mWhile_of h1, h2⟩
@[simp] theorem slotLst_own (ds : List D) : slotLst (.own (.lst ds)) = some ds := (rfl)
@[simp] theorem slotLst_io (ds : List D) : slotLst (.io (.lst ds)) = some ds := (rfl)
@[simp] theorem slotPut_own (c : Ct2) (ds : List D) : slotPut (.own c) ds = .own (.lst ds) := (rfl)
@[simp] theorem slotPut_io (c : Ct2) (ds : List D) : slotPut (.io c) ds = .io (.lst ds) := (rfl)
@[simp] theorem ownL_ap (ρ : Env) (i : Nat) : ownL ρ i = (match sa ρ i with
  | some s => slotLst s
  | none => none) := by unfold ownL sa; cases ρ[i]? <;> rfl
@[simp] theorem putL_ap (ρ : Env) (i : Nat) (ds : List D) : putL ρ i ds = ρ.set i (slotPut ((sa ρ i).getD .emp) ds) := (rfl)
@[simp] theorem mApp_ap (i : Nat) (m : M D) (ρ : Env) : mApp i m ρ = (match ownL ρ i with
  | none => none
  | some _ => (match m ρ with
    | none => none
    | some (.ok d ρ1) => (match ownL ρ1 i with
      | none => none
      | some ds => if ds.length < sizeLine then some (.ok .non (putL ρ1 i (ds ++ [d]))) else none)
    | some (.exc c d ρ') => some (.exc c d ρ'))) := by
  unfold mApp
  cases ownL ρ i with
  | none => rfl
  | some ds =>
    dsimp only
    rw [bind_ap]
    cases m ρ with
    | none => rfl
    | some o => cases o <;> rfl
@[simp] theorem mPop_ap (i : Nat) (ρ : Env) : mPop i ρ = (match ownL ρ i with
  | none => none
  | some ds => (match ds.getLast? with
    | none => none
    | some d => some (.ok d (putL ρ i ds.dropLast)))) := by
  unfold mPop
  cases ownL ρ i with
  | none => rfl
  | some ds => dsimp only; rw [List.getLast?_eq_getElem?] <;> cases ds[ds.length - 1]? <;> rfl
@[simp] theorem mPopAt_ap (i : Nat) (m : M Bv) (ρ : Env) : mPopAt i m ρ = (match ownL ρ i with
  | none => none
  | some _ => (match m ρ with
    | none => none
    | some (.ok b ρ1) => (match ownL ρ1 i, deref ρ1 b with
      | some ds, some (.int j) => if inB j = true then (match seqIndex? j ds.length with
        | none => none
        | some k => (match ds[k]? with
          | none => none
          | some d => some (.ok d (putL ρ1 i (ds.eraseIdx k))))) else none
      | _, _ => none)
    | some (.exc c d ρ') => some (.exc c d ρ'))) := by
  unfold mPopAt
  cases ownL ρ i with
  | none => rfl
  | some ds =>
    dsimp only
    rw [bind_ap]
    cases m ρ with
    | none => rfl
    | some o => cases o <;> rfl
theorem seqIndex_nat {n i : Nat} (h : i < n) : seqIndex? (i : Int) n = some i := (ixN_seq (ixN_lt h)).1
theorem inB_of {i : Int} (h : 0 ≤ i) (h2 : i < 2 ^ 62) : inB i = true := decide_eq_true ⟨by omega, h2⟩
@[simp] theorem mParN_ap (is : List Nat) (m : M (List Pe)) (ρ : Env) : mParN is m ρ = (match m ρ with
  | none => none
  | some (.ok ps ρ') => if ps.length = is.length ∧ ∀ i ∈ is, i < ρ'.length then some (.nx (putN ρ' is (ps.map Pe.slot))) else none
  | some (.exc c d ρ') => some (.exc c d ρ')) := by
  unfold mParN
  rw [thenS_ap]
  cases m ρ with
  | none => rfl
  | some o => cases o <;> rfl
@[simp] theorem mPNil_ap (ρ : Env) : mPNil ρ = some (.ok [] ρ) := (rfl)
@[simp] theorem mPKeep_ap (m : M D) (n : M (List Pe)) (ρ : Env) : mPKeep m n ρ = M.bind m (fun d => M.bind n fun ps => M.ret (Pe.keep d :: ps)) ρ := (rfl)
@[simp] theorem mPFresh_ap (m : M (List D)) (n : M (List Pe)) (ρ : Env) : mPFresh m n ρ = M.bind m (fun ds => fun ρ => match n ρ with
  | some (.ok ps ρ') => some (.ok (Pe.fresh ds :: ps) ρ')
  | _ => none) ρ := (rfl)
@[simp] theorem putN_nil {α : Type} (ρ : List α) (ss : List α) : putN ρ [] ss = ρ := by cases ss <;> rfl
@[simp] theorem putN_cons {α : Type} (ρ : List α) (i : Nat) (is : List Nat) (s : α) (ss : List α) : putN ρ (i :: is) (s :: ss) = putN (ρ.set i s) is ss := (rfl)
@[simp] theorem slot_keep (d : D) : Pe.slot (.keep d) = .fz d := (rfl)
@[simp] theorem slot_fresh (ds : List D) : Pe.slot (.fresh ds) = .own (.lst ds) := (rfl)
@[simp] theorem fNe_lnil {ds : List D} (h : okDs 63 ds = true) : fNe (.lst ds) (.lst []) = some (.bl (!ds.isEmpty)) := by
  rw [fNe_ok (by rw [okD_lst 63]; exact h) (by simp [okD]), eqD_lst, eqDs_isNil]
@[simp] theorem fEq_lnil {ds : List D} (h : okDs 63 ds = true) : fEq (.lst ds) (.lst []) = some (.bl ds.isEmpty) := by
  rw [fEq_ok (by rw [okD_lst 63]; exact h) (by simp [okD]), eqD_lst, eqDs_isNil]
@[simp] theorem fNe_tnil {ds : List D} (h : okDs 63 ds = true) : fNe (.tup ds) (.tup []) = some (.bl (!ds.isEmpty)) := by
  rw [fNe_ok (by rw [okD_tup 63]; exact h) (by simp [okD]), eqD_tup, eqDs_isNil]
@[simp] theorem fEq_tnil {ds : List D} (h : okDs 63 ds = true) : fEq (.tup ds) (.tup []) = some (.bl ds.isEmpty) := by
  rw [fEq_ok (by rw [okD_tup 63]; exact h) (by simp [okD]), eqD_tup, eqDs_isNil]
/-- the ints of a tuple -/
def decT : D → List Int
  | .tup ds => (toInts ds).getD []
  | _ => []
@[simp] theorem decT_tupD (ns : List Int) : decT (tupD ns) = ns := by simp [decT, tupD, toInts_map]
@[simp] theorem fPlus_tup (ds es : List D) : fPlus (.tup ds) (.tup es) = if ds.length + es.length ≤ sizeLine then some (.tup (ds ++ es)) else none := by
  show ((none : Option D).or ((if ds.length + es.length ≤ sizeLine then some (D.tup (ds ++ es)) else none).or none)).or none = _
  split <;> rfl
@[simp] theorem fPlus_lst (ds es : List D) : fPlus (.lst ds) (.lst es) = if ds.length + es.length ≤ sizeLine then some (.lst (ds ++ es)) else none := by
  show ((none : Option D).or ((none : Option D).or none)).or ((if ds.length + es.length ≤ sizeLine then some (ds ++ es) else none).map D.lst) = _
  split <;> rfl
@[simp] theorem fPlus_str (a b : Str) : fPlus (.str a) (.str b) = if a.length + b.length ≤ sizeLine then some (.str (a ++ b)) else none := by
  show ((none : Option D).or ((none : Option D).or (if a.length + b.length ≤ sizeLine then some (D.str (a ++ b)) else none))).or none = _
  split <;> rfl
theorem rangeD0_map (n : Nat) : rangeD 0 n = (List.range n).map fun i => D.int (i : Nat) := by
  unfold rangeD
  apply List.map_congr_left
  intro i _
  rw [Int.zero_add]
theorem cutD_take (ds : List D) (n : Nat) : cutD ds none (some (n : Int)) = ds.take n := by
  unfold cutD
  rw [HT.sIx_nat, HT.sIx_none, List.drop_zero, Nat.sub_zero]
  by_cases h : n ≤ ds.length
  · rw [Nat.min_eq_left h]
  · rw [Nat.min_eq_right (by omega), List.take_of_length_le (Nat.le_refl _), List.take_of_length_le (by omega)]
theorem cutD_drop (ds : List D) (n : Nat) : cutD ds (some (n : Int)) none = ds.drop n := by
  unfold cutD
  rw [HT.sIx_nat, HT.sIx_none]
  by_cases h : n ≤ ds.length
  · rw [Nat.min_eq_left h, List.take_of_length_le (by simp)]
  · rw [Nat.min_eq_right (by omega), List.drop_of_length_le (Nat.le_refl _), List.drop_of_length_le (by omega)]
    simp
@[simp] theorem mNoP_ap (ρ : Env) : mNoP ρ = some (.ok none ρ) := (rfl)
@[simp] theorem mPart_ap (m : M Bv) (ρ : Env) : mPart m ρ = (match m ρ with
  | none => none
  | some (.ok a ρ') => (match deref ρ' a with
    | some (.int i) => some (.ok (some i) ρ')
    | _ => none)
  | some (.exc c d ρ') => some (.exc c d ρ')) := by
  unfold mPart
  rw [bind_ap]
  cases m ρ with
  | none => rfl
  | some o => cases o <;> rfl
@[simp] theorem fSl_tup (lo hi : Option Int) (ds : List D) : fSl lo hi (.tup ds) = some (.tup (cutD ds lo hi)) := (rfl)
@[simp] theorem fSl_lst (lo hi : Option Int) (ds : List D) : fSl lo hi (.lst ds) = some (.lst (cutD ds lo hi)) := (rfl)
@[simp] theorem fSlL_lst (lo hi : Option Int) (ds : List D) : fSlL lo hi (.lst ds) = some (cutD ds lo hi) := (rfl)
@[simp] theorem mSli_ap (m : M Bv) (ml mh : M (Option Int)) (ρ : Env) : mSli m ml mh ρ = M.bind m (fun a => M.bind ml fun lo => M.bind mh fun hi => ret1 (fSl lo hi) a) ρ := (rfl)
@[simp] theorem mSliL_ap (m : M Bv) (ml mh : M (Option Int)) (ρ : Env) : mSliL m ml mh ρ = M.bind m (fun a => M.bind ml fun lo => M.bind mh fun hi => retO1 (fSlL lo hi) a) ρ := (rfl)
end L3
namespace Q
open PySem PySem.Spec PyProof.Rows L2 L3
def notOb : D → Bool
  | .ob _ _ => false
  | .dic _ _ _ => false
  | .fn _ => false
  | _ => true
def isIntB : D → Bool
  | .int _ => true
  | _ => false
def isNumB : D → Bool
  | .int i => decide (0 ≤ i)
  | _ => false
def isSeqB : D → Bool
  | .lst _ => true
  | .tup _ => true
  | _ => false
theorem is_integer_eq {d : D} (h : notOb d = true) : P_is_integer [.fz d] = some (.ret (.bl (isIntB d)) [.emp]) := by
  cases d <;> simp [P_is_integer, m_is_integer, isIntB] <;> cases h
theorem is_number_eq {d : D} (h : notOb d = true) : P_is_number [.fz d] = some (.ret (.bl (isNumB d)) [.emp]) := by
  have e := is_integer_eq h
  cases d <;> simp [P_is_number, m_is_number, isNumB, e, isIntB]
theorem is_sequence_eq {d : D} (h : notOb d = true) : P_is_sequence [.fz d] = some (.ret (.bl (isSeqB d)) [.emp]) := by
  cases d <;> simp [P_is_sequence, m_is_sequence, isSeqB] <;> cases h
/-- no number of the one is greater -/
def leB (xs ys : List Int) : Bool := (xs.zip ys).all fun p => decide (p.1 ≤ p.2)
theorem law_within_eq (xs ys : List Int) (hl : xs.length ≤ sizeLine) (h : xs.length ≤ ys.length) : P_law_within [.fz (tupD xs), .fz (tupD ys)] = some (.ret (.bl (leB xs ys)) [.emp, .emp]) := by
  simp [P_law_within, m_law_within, tupD, enumD_map]
  rw [compL_yes (fun p : Int × Nat => D.bl (decide (p.1 ≤ gi ys p.2)))]
  · simp
    exact gi_all (fun a b => decide (a ≤ b)) h
  · simp; omega
  · intro t ht
    have hi := zipIdx_get ht
    simp [e1_law_within, fIx_ints (show t.2 < ys.length by omega)]
theorem law_more_eq (xs ys : List Int) (hl : xs.length ≤ sizeLine) (h : xs.length ≤ ys.length) : P_law_more [.fz (tupD xs), .fz (tupD ys)] = some (.ret (tupD (xs.zipWith (· + ·) ys)) [.emp, .emp]) := by
  simp [P_law_more, m_law_more, tupD, enumD_map]
  rw [compL_yes (fun p : Int × Nat => D.int (p.1 + gi ys p.2))]
  · rw [map_int, gi_zipWith (· + ·) h]
    simp
  · simp; omega
  · intro t ht
    have hi := zipIdx_get ht
    simp [e1_law_more, fIx_ints (show t.2 < ys.length by omega)]
/-- a source of draws as the laws make it -/
structure DlOk (cs : List Int) (b : Int) : Prop where
  nn : ∀ c ∈ cs, 0 ≤ c
  len : cs.length ≤ 48
  b0 : 0 ≤ b
  b1 : b < 2 ^ 40
theorem any_while {cs : List Int} {b n : Int} (h : DlOk cs b) : ∃ cs', mWhile w1_law_any b2_law_any [.io (.deal cs b), .fz (.int n), .emp] = some (.nx [.io (.deal cs' b), .fz (.int n), .emp]) ∧ DlOk cs' b := by
  obtain ⟨ρ', h1, cs1, rfl, h3⟩ := mWhile_inv (c := w1_law_any) (b := b2_law_any)
    (fun ρ => ∃ cs, ρ = [.io (.deal cs b), .fz (.int n), .emp] ∧ DlOk cs b) (fun ρ => ∃ cs, ρ = [.io (.deal cs b), .fz (.int n), .emp] ∧ DlOk cs b) (fun ρ => match ρ[0]? with
      | some (Slot.io (Ct2.deal cs b)) => cs.length
      | _ => 0) (fun ρ hI => by
        obtain ⟨cs, rfl, ok⟩ := hI
        cases hl : cs.getLast? with
        | none =>
          have e : cs = [] := List.getLast?_eq_none_iff.mp hl
          subst e
          left
          simp [w1_law_any, ok]
        | some z =>
          have hne : cs ≠ [] := fun e => by subst e; cases hl
          by_cases hz : z = 0
          · right
            subst hz
            simp [w1_law_any, b2_law_any, hne, fIx_last hl, hl]
            have hlen : 0 < cs.length := List.length_pos_iff.mpr hne
            exact ⟨⟨fun c hc => ok.nn c (List.dropLast_subset _ hc), by have := ok.len; simp; omega, ok.b0, ok.b1⟩, by omega⟩
          · left
            simp [w1_law_any, hne, fIx_last hl, hz, ok]) (ρ := [.io (.deal cs b), .fz (.int n), .emp]) ⟨cs, rfl, h⟩
  exact ⟨cs1, h1, h3⟩
theorem any_spec {cs : List Int} {b n : Int} (h : DlOk cs b) (hn : 0 < n) (hn2 : n < 2 ^ 64) : ∃ v cs' b', P_law_any [.io (.deal cs b), .fz (.int n)] = some (.ret (.int v) [.io (.deal cs' b'), .emp]) ∧ 0 ≤ v ∧ v < n ∧ DlOk cs' b' := by
  obtain ⟨cs1, e, h1⟩ := any_while (n := n) h
  have hn0 : n ≠ 0 := by omega
  have hdiv : ∀ i : Int, cDivB i n = true := fun i => cDiv_of hn0 (by
    have : n.natAbs < 2 ^ 64 := by omega
    exact Nat.lt_of_lt_of_le this (Nat.pow_le_pow_right (by decide) (by decide)))
  cases hl : cs1.getLast? with
  | none =>
    have e1 : cs1 = [] := List.getLast?_eq_none_iff.mp hl
    subst e1
    have hb0 := h1.b0
    have hb1 := h1.b1
    have m0 : cMulB b 40693 = true := cMul_of (by
      have : b.natAbs < 2 ^ 40 := by omega
      exact Nat.lt_of_lt_of_le this (Nat.pow_le_pow_right (by decide) (by decide))) (by
      exact Nat.lt_of_lt_of_le (by decide : (40693 : Int).natAbs < 2 ^ 40) (Nat.pow_le_pow_right (by decide) (by decide)))
    have d0 : ∀ i : Int, cDivB i 64 = true := fun i => cDiv_of (by decide) (Nat.lt_of_lt_of_le (by decide : (64 : Int).natAbs < 2 ^ 40) (Nat.pow_le_pow_right (by decide) (by decide)))
    simp [P_law_any, m_law_any, e, m0, d0, hn0]
    have r1 := Int.fmod_nonneg_of_pos (b * 40693 + 71) (show (0 : Int) < 2147483647 by decide)
    have r2 := Int.fmod_lt_of_pos (b * 40693 + 71) (show (0 : Int) < 2147483647 by decide)
    exact ⟨_, _, _, ⟨rfl, rfl, rfl⟩, Int.fmod_nonneg_of_pos _ hn, Int.fmod_lt_of_pos _ hn, nofun, by simp, r1, by omega⟩
  | some z =>
    have hne : cs1 ≠ [] := fun e => by subst e; cases hl
    have hlen : 0 < cs1.length := List.length_pos_iff.mpr hne
    have hl48 := h1.len
    have hz : 0 ≤ z := h1.nn z (List.mem_of_getLast? hl)
    have hs : cs1.length - 1 < sizeLine := by rw [sizeLine_eq]; omega
    simp [P_law_any, m_law_any, e, hne, hl, hdiv, hn0, hs]
    refine ⟨_, _, _, ⟨rfl, rfl, rfl⟩, Int.fmod_nonneg_of_pos _ hn, Int.fmod_lt_of_pos _ hn, fun c hc => ?_, by simp; omega, h1.b0, h1.b1⟩
    rcases List.mem_append.mp hc with hc | hc
    · exact h1.nn c (List.dropLast_subset _ hc)
    · rw [List.mem_singleton] at hc
      subst hc
      exact Int.fdiv_nonneg hz (by omega)
end Q
namespace Q
open PySem PySem.Spec PyProof.Rows L2 L3
theorem of_spec {cs : List Int} {b : Int} {ds : List D} (h : DlOk cs b) (hne : ds ≠ []) (hl : ds.length < 2 ^ 62) : ∃ d cs' b', d ∈ ds ∧ P_law_of [.io (.deal cs b), .fz (.lst ds)] = some (.ret d [.io (.deal cs' b'), .emp]) ∧ DlOk cs' b' := by
  have hp : 0 < ds.length := List.length_pos_iff.mpr hne
  obtain ⟨v, cs', b', e, h0, h1, ok⟩ := any_spec (n := ds.length) h (by omega) (by omega)
  obtain ⟨i, rfl⟩ := Int.eq_ofNat_of_zero_le h0
  have hi : i < ds.length := by omega
  refine ⟨ds[i], cs', b', List.getElem_mem hi, ?_, ok⟩
  have ef : fIx (.lst ds) (.int (i : Nat)) = some ds[i] := fIx_lst (List.getElem?_eq_getElem hi)
  simp [P_law_of, m_law_of, e, ef]
end Q
namespace Q
open PySem PySem.Spec PyProof.Rows L2 L3
/-- all crowds of so many kinds with so many members, ascending -/
def crowdsP : Nat → Nat → List (List Int)
  | 0, _ => []
  | 1, s => [[(s : Int)]]
  | k + 2, s => (List.range (s + 1)).flatMap fun x => (crowdsP (k + 1) (s - x)).map fun r => (x : Int) :: r
theorem mem_crowds : ∀ {k s : Nat} {c : List Int}, c ∈ crowdsP (k + 1) s ↔ c.length = k + 1 ∧ (∀ x ∈ c, 0 ≤ x) ∧ c.sum = (s : Int)
  | 0, s, c => by
    simp only [crowdsP, List.mem_singleton]
    constructor
    · rintro rfl; simp
    · rintro ⟨h1, h2, h3⟩
      match c, h1 with
      | [x], _ => simp at h3; rw [h3]
  | k + 1, s, c => by
    simp only [crowdsP, List.mem_flatMap, List.mem_range, List.mem_map]
    constructor
    · rintro ⟨x, hx, r, hr, rfl⟩
      obtain ⟨h1, h2, h3⟩ := mem_crowds.mp hr
      refine ⟨by simp [h1], fun y hy => ?_, by simp [h3]; omega⟩
      rcases List.mem_cons.mp hy with rfl | hy
      · omega
      · exact h2 y hy
    · rintro ⟨h1, h2, h3⟩
      match c, h1 with
      | x :: r, h1 =>
        have hx : 0 ≤ x := h2 x (by simp)
        obtain ⟨n, rfl⟩ := Int.eq_ofNat_of_zero_le hx
        have hr : 0 ≤ r.sum := by
          have : ∀ l : List Int, (∀ x ∈ l, 0 ≤ x) → 0 ≤ l.sum := fun l => by
            induction l with
            | nil => intro _; simp
            | cons a l ih => intro h; simp; have := ih fun y hy => h y (by simp [hy]); have := h a (by simp); omega
          exact this r fun y hy => h2 y (by simp [hy])
        simp at h3
        refine ⟨n, by omega, r, mem_crowds.mpr ⟨by simpa using h1, fun y hy => h2 y (by simp [hy]), by omega⟩, rfl⟩
theorem crowds_len : ∀ (k s : Nat), (crowdsP (k + 1) s).length ≤ (s + 1) ^ k
  | 0, s => by simp [crowdsP]
  | k + 1, s => by
    simp only [crowdsP, List.length_flatMap, List.length_map]
    have key : ∀ l : List Nat, (l.map fun x => (crowdsP (k + 1) (s - x)).length).sum ≤ l.length * (s + 1) ^ k := fun l => by
      induction l with
      | nil => simp
      | cons a l ih =>
        simp only [List.map_cons, List.sum_cons, List.length_cons, Nat.add_mul, Nat.one_mul]
        have h1 := crowds_len k (s - a)
        have h2 : (s - a + 1) ^ k ≤ (s + 1) ^ k := Nat.pow_le_pow_left (by omega) k
        omega
    refine Nat.le_trans (key _) ?_
    rw [List.length_range, Nat.pow_succ, Nat.mul_comm]
    exact Nat.le_refl _
end Q
namespace Q
open PySem PySem.Spec PyProof.Rows L2 L3
theorem cast_sub {s t : Nat} (h : t ≤ s) : ((s - t : Nat) : Int) = ((s : Int) - (t : Int)) := by omega
theorem sz_of {n : Nat} (h : n ≤ 16777216) : n ≤ sizeLine := by rw [sizeLine_eq]; exact h
/-- those of the first numbers of the first kind -/
def crPre (k s : Nat) (pre : List Nat) : List (List Int) := pre.flatMap fun x => (crowdsP (k + 1) (s - x)).map fun r => (x : Int) :: r
theorem crPre_snoc (k s t : Nat) (pre : List Nat) : crPre k s (pre ++ [t]) = crPre k s pre ++ (crowdsP (k + 1) (s - t)).map fun r => (t : Int) :: r := by simp [crPre]
theorem crPre_len (k s : Nat) : ∀ pre : List Nat, (crPre k s pre).length ≤ pre.length * (s + 1) ^ k
  | [] => by simp [crPre]
  | a :: pre => by
    have h1 := crPre_len k s pre
    have h2 := crowds_len k (s - a)
    have h3 : (s - a + 1) ^ k ≤ (s + 1) ^ k := Nat.pow_le_pow_left (by omega) k
    unfold crPre at h1 ⊢
    simp only [List.flatMap_cons, List.length_append, List.length_map, List.length_cons, Nat.add_mul, Nat.one_mul]
    omega
theorem crowdsP_succ (k s : Nat) : crowdsP (k + 1 + 1) s = crPre k s (List.range (s + 1)) := by
  simp only [crowdsP, crPre]
theorem crowds_succ (n : Nat) : P_law_crowds (n + 1) = fnOf 5 (m_law_crowds (P_law_crowds n)) := by rw [P_law_crowds]
theorem crowds_step (n k s : Nat) (a : Int) (ha : a - 1 = (k : Int) + 1) (ha1 : ¬ a = 1) (hk : k ≤ 1000) (hs : s < 1000000) (hz : (s + 1) ^ (k + 1) ≤ 16777216)
    (ih : ∀ t, t ≤ s → P_law_crowds n [.fz (.int ((k : Int) + 1)), .fz (.int ((s : Int) - (t : Int)))] = some (.ret (.lst ((crowdsP (k + 1) (s - t)).map tupD)) [.emp, .emp])) :
    P_law_crowds (n + 1) [.fz (.int a), .fz (.int (s : Int))] = some (.ret (.lst ((crowdsP (k + 1 + 1) s).map tupD)) [.emp, .emp]) := by
  have hr : inB ((s : Int) + 1) = true := inB_of (by omega) (by omega)
  have hn1 : ((s : Int) + 1).toNat = s + 1 := by omega
  have hpow : ∀ t, (s - t + 1) ^ k ≤ (s + 1) ^ k := fun t => Nat.pow_le_pow_left (by omega) k
  have hmul : (s + 1) ^ (k + 1) = (s + 1) ^ k * (s + 1) := Nat.pow_succ ..
  have hsk : (s + 1) ^ k ≤ (s + 1) ^ (k + 1) := Nat.pow_le_pow_right (by omega) (by omega)
  obtain ⟨ρ', h1, x3, rfl⟩ := forL_inv (f := gNm 3) (b := b2_law_crowds (P_law_crowds n)) (enc := fun i : Nat => D.int (i : Nat))
    (fun pre ρ => ∃ x3, ρ = [.fz (.int a), .fz (.int (s : Int)), .fz (.lst ((crPre k s pre).map tupD)), x3, .emp]) (ts := List.range (s + 1)) (ρ := [.fz (.int a), .fz (.int (s : Int)), .fz (.lst []), .emp, .emp])
    ⟨_, rfl⟩ (fun pre t post ρ e hI => by
      obtain ⟨x3, rfl⟩ := hI
      have ht : t < s + 1 := List.mem_range.mp (by rw [e]; simp)
      have hpl : pre.length + 1 ≤ s + 1 := by have := congrArg List.length e; simp at this; omega
      have ih' := ih t (by omega)
      have hl1 := crowds_len k (s - t)
      have hl2 := hpow t
      have hl3 := crPre_len k s pre
      have hc : compL [4] (gNm 4) mYes (e1_law_crowds (P_law_crowds n)) ((crowdsP (k + 1) (s - t)).map tupD) [.fz (.int a), .fz (.int (s : Int)), .fz (.lst ((crPre k s pre).map tupD)), .fz (.int (t : Int)), .emp] [] = some ((crowdsP (k + 1) (s - t)).map fun r => tupD ((t : Int) :: r), [.fz (.int a), .fz (.int (s : Int)), .fz (.lst ((crPre k s pre).map tupD)), .fz (.int (t : Int)), .emp]) := by
        rw [compL_yes (fun r : List Int => tupD ((t : Int) :: r))]
        · rfl
        · simp
          exact sz_of (by omega)
        · intro r hr
          have hrl := (mem_crowds.mp hr).1
          have hz1 : 1 + r.length ≤ sizeLine := sz_of (by omega)
          simp [e1_law_crowds, tupD, sz_of, hz1]
      have hm : pre.length * (s + 1) ^ k + (s + 1) ^ k ≤ (s + 1) ^ (k + 1) := by
        rw [hmul, Nat.mul_comm ((s + 1) ^ k)]
        have := Nat.mul_le_mul_right ((s + 1) ^ k) hpl
        rw [Nat.add_mul, Nat.one_mul] at this
        exact this
      have hfit : (crPre k s pre).length + (crowdsP (k + 1) (s - t)).length ≤ sizeLine := sz_of (by omega)
      refine ⟨_, [.fz (.int a), .fz (.int (s : Int)), .fz (.lst ((crPre k s (pre ++ [t])).map tupD)), .fz (.int (t : Int)), .emp], by simp; rfl, .inl ?_, ⟨_, rfl⟩⟩
      simp [b2_law_crowds, ha, ih', hc, hfit, crPre_snoc])
  rw [crowdsP_succ]
  have h2 : mFor (mRange1 (M.map Bv.val (mOp fPlus (mSl 1) (M.map Bv.val (M.ret (.int 1)))))) (gNm 3) (b2_law_crowds (P_law_crowds n)) [.fz (.int a), .fz (.int (s : Int)), .fz (.lst []), .emp, .emp] = some (.nx [.fz (.int a), .fz (.int (s : Int)), .fz (.lst ((crPre k s (List.range (s + 1))).map tupD)), x3, .emp]) := by
    simp [hr, rangeD0_map, h1]
  rw [crowds_succ]
  unfold m_law_crowds
  generalize mFor (mRange1 (M.map Bv.val (mOp fPlus (mSl 1) (M.map Bv.val (M.ret (.int 1)))))) (gNm 3) (b2_law_crowds (P_law_crowds n)) = m at h2
  simp [ha1, h2]
theorem crowds_eq (n k s : Nat) (hn : k < n) (hk : k ≤ 1000) (hs : s < 1000000) (hz : (s + 1) ^ k ≤ 16777216) : P_law_crowds n [.fz (.int ((k : Int) + 1)), .fz (.int (s : Int))] = some (.ret (.lst ((crowdsP (k + 1) s).map tupD)) [.emp, .emp]) := by
  induction n generalizing k s with
  | zero => omega
  | succ n ih =>
    cases k with
    | zero => simp [crowds_succ, m_law_crowds, crowdsP, sizeLine_eq, tupD]
    | succ k =>
      refine crowds_step n k s _ (by omega) (by omega) (by omega) hs hz fun t ht => ?_
      rw [← cast_sub ht]
      refine ih k (s - t) (by omega) (by omega) (by omega) (Nat.le_trans (Nat.pow_le_pow_left (by omega) k) (Nat.le_trans (Nat.pow_le_pow_right (by omega) (by omega)) hz))
end Q
namespace Q
open PySem PySem.Spec PyProof.Rows L2 L3
/-- a list of ints -/
def lstI (ns : List Int) : D := .lst (ns.map D.int)
/-- what a crowd comes to by a row of names -/
def wholeP (row crowd : List Int) : Int := (crowd.zipWith (· * ·) row).sum
def zero1 (row crowd : List Int) (clock : Int) : Bool := decide (wholeP row crowd = 0) || (!decide (clock = 0) && decide ((wholeP row crowd).fmod clock = 0))
def zeroP (clocks : List Int) (names : List (List Int)) (crowd : List Int) : Bool := (clocks.zip names).all fun p => zero1 p.2 crowd p.1
def rowAt (names : List (List Int)) (i : Nat) : List Int := names.getD i []
theorem wholes_eq {row crowd : List Int} {s0 s2 s4 s5 : Slot} {names : List (List Int)} {i : Nat} (hi : names[i]? = some row) (hl : crowd.length ≤ row.length) (hz : crowd.length ≤ 1000) (hc : ∀ x ∈ crowd, x.natAbs < 2 ^ 64) (hr : ∀ x ∈ row, x.natAbs < 2 ^ 64) :
    compL [6, 7] (gTp 2 (gC (gNm 6) (gC (gNm 7) gN0))) mYes e1_law_zero (crowd.zipIdx.map fun p => D.tup [.int (p.2 : Nat), .int p.1]) [s0, .fz (.lst (names.map lstI)), s2, .fz (.int (i : Nat)), s4, s5, .emp, .emp] [] = some (crowd.zipIdx.map fun p => D.int (p.1 * gi row p.2), [s0, .fz (.lst (names.map lstI)), s2, .fz (.int (i : Nat)), s4, s5, .emp, .emp]) := by
  rw [compL_yes (fun p : Int × Nat => D.int (p.1 * gi row p.2))]
  · rfl
  · simp
    exact sz_of (by omega)
  · intro t ht
    obtain ⟨h1, h2⟩ := zipIdx_get ht
    have e1 : fIx (.lst (names.map lstI)) (.int (i : Nat)) = some (lstI row) := fIx_lst (by rw [List.getElem?_map, hi]; rfl)
    have e2 : fIx (lstI row) (.int (t.2 : Nat)) = some (.int (gi row t.2)) := fIx_lints (by omega)
    have e3 : cMulB t.1 (gi row t.2) = true := cMul_of (by
      have : t.1.natAbs < 2 ^ 64 := hc _ (List.mem_of_getElem? h2)
      exact Nat.lt_of_lt_of_le this (Nat.pow_le_pow_right (by decide) (by decide))) (by
      have : (gi row t.2).natAbs < 2 ^ 64 := by
        rw [gi_lt (show t.2 < row.length by omega)]
        exact hr _ (List.getElem_mem _)
      exact Nat.lt_of_lt_of_le this (Nat.pow_le_pow_right (by decide) (by decide)))
    simp [e1_law_zero, e1, e2, e3]
theorem zero_eq {clocks : List Int} {names : List (List Int)} {crowd : List Int} (h0 : clocks.length ≤ names.length) (hl : ∀ row ∈ names, crowd.length ≤ row.length) (hz : crowd.length ≤ 1000) (hc : ∀ x ∈ crowd, x.natAbs < 2 ^ 64) (hr : ∀ row ∈ names, ∀ x ∈ row, x.natAbs < 2 ^ 64) :
    P_law_zero [.fz (lstI clocks), .fz (.lst (names.map lstI)), .fz (tupD crowd)] = some (.ret (.bl (zeroP clocks names crowd)) [.emp, .emp, .emp]) := by
  have step : ∀ (pre : List (Int × Nat)) t post, clocks.zipIdx = pre ++ t :: post → ∃ row, names[t.2]? = some row ∧ row ∈ names := fun pre t post e => by
    obtain ⟨h1, h2⟩ := zipIdx_get (show t ∈ clocks.zipIdx by rw [e]; simp)
    have h3 : t.2 < names.length := by omega
    exact ⟨names[t.2], List.getElem?_eq_getElem h3, List.getElem_mem h3⟩
  have key := forL_find (f := gTp 2 (gC (gNm 3) (gC (gNm 4) gN0))) (b := b2_law_zero) (enc := fun p : Int × Nat => D.tup [.int (p.2 : Nat), .int p.1])
    (fun pre ρ => (pre.all fun p => zero1 (rowAt names p.2) crowd p.1) = true ∧ ∃ s3 s4 s5, ρ = [.fz (lstI clocks), .fz (.lst (names.map lstI)), .fz (tupD crowd), s3, s4, s5, .emp, .emp])
    (fun pre t post o => zero1 (rowAt names t.2) crowd t.1 = false ∧ ∃ ρ', o = .rt (.bl false) ρ' ∧ ρ'.length = 8 ∧ ∃ a b c r, ρ' = .fz a :: .fz b :: .fz c :: r) (ts := clocks.zipIdx) (ρ := [.fz (lstI clocks), .fz (.lst (names.map lstI)), .fz (tupD crowd), .emp, .emp, .emp, .emp, .emp])
    ⟨rfl, _, _, _, rfl⟩ (fun pre t post ρ e hI => by
      obtain ⟨hp, s3, s4, s5, rfl⟩ := hI
      obtain ⟨row, h1, h2⟩ := step pre t post e
      have hw := wholes_eq (s0 := .fz (lstI clocks)) (s2 := .fz (tupD crowd)) (s4 := .fz (.int t.1)) (s5 := s5) h1 (hl row h2) hz hc (hr row h2)
      have hg : rowAt names t.2 = row := by unfold rowAt; rw [List.getD_eq_getElem?_getD, h1]; rfl
      have hs : (crowd.zipIdx.map fun p => p.1 * gi row p.2).sum = wholeP row crowd := by rw [gi_zipWith (· * ·) (hl row h2)]; rfl
      refine ⟨[.fz (lstI clocks), .fz (.lst (names.map lstI)), .fz (tupD crowd), .fz (.int (t.2 : Nat)), .fz (.int t.1), s5, .emp, .emp], by simp, ?_⟩
      by_cases q1 : wholeP row crowd = 0
      · left
        refine ⟨[.fz (lstI clocks), .fz (.lst (names.map lstI)), .fz (tupD crowd), .fz (.int (t.2 : Nat)), .fz (.int t.1), .fz (.int (wholeP row crowd)), .emp, .emp], .inl ?_, by rw [List.all_append, hp]; simp [hg, zero1, q1], _, _, _, rfl⟩
        simp [b2_law_zero, tupD, enumD_map] at hw ⊢
        simp [hw, hs]
        simp [q1]
      · by_cases q2 : t.1 = 0
        · right
          refine ⟨.rt (.bl false) [.fz (lstI clocks), .fz (.lst (names.map lstI)), .fz (tupD crowd), .fz (.int (t.2 : Nat)), .fz (.int t.1), .fz (.int (wholeP row crowd)), .emp, .emp], ?_, nofun, nofun, nofun, by simp [hg, zero1, q1, q2], _, rfl, rfl, _, _, _, _, rfl⟩
          simp [b2_law_zero, tupD, enumD_map] at hw ⊢
          simp [hw, hs]
          simp [q1, q2]
        · by_cases q3 : (wholeP row crowd).fmod t.1 = 0
          · left
            refine ⟨[.fz (lstI clocks), .fz (.lst (names.map lstI)), .fz (tupD crowd), .fz (.int (t.2 : Nat)), .fz (.int t.1), .fz (.int (wholeP row crowd)), .emp, .emp], .inl ?_, by rw [List.all_append, hp]; simp [hg, zero1, q2, q3], _, _, _, rfl⟩
            simp [b2_law_zero, tupD, enumD_map] at hw ⊢
            simp [hw, hs]
            simp [q1, q2, q3]
          · right
            refine ⟨.rt (.bl false) [.fz (lstI clocks), .fz (.lst (names.map lstI)), .fz (tupD crowd), .fz (.int (t.2 : Nat)), .fz (.int t.1), .fz (.int (wholeP row crowd)), .emp, .emp], ?_, nofun, nofun, nofun, by simp [hg, zero1, q1, q2, q3], _, rfl, rfl, _, _, _, _, rfl⟩
            simp [b2_law_zero, tupD, enumD_map] at hw ⊢
            simp [hw, hs]
            simp [q1, q2, q3])
  have hall : zeroP clocks names crowd = clocks.zipIdx.all fun p => zero1 (rowAt names p.2) crowd p.1 := (zipIdx_all (fun c row => zero1 row crowd c) [] h0).symm
  rcases key with ⟨ρ', h1, hp, s3, s4, s5, rfl⟩ | ⟨pre, t, post, o, e, h1, hf, ρ', rfl, hlen, a, b, c, r, rfl⟩
  · rw [hall, hp]
    unfold lstI at h1 ⊢
    simp [P_law_zero, m_law_zero, enumD_map, h1]
  · have : zeroP clocks names crowd = false := by
      rw [hall, e]
      simp [List.all_append, hf]
    rw [this]
    unfold lstI at h1 ⊢
    simp [P_law_zero, m_law_zero, enumD_map, h1]
end Q
namespace Q
open PySem PySem.Spec PyProof.Rows L2 L3
theorem snoc_ind {α : Type} {P : List α → Prop} (h0 : P []) (h1 : ∀ l a, P l → P (l ++ [a])) (l : List α) : P l := by
  rw [← List.reverse_reverse l]
  induction l.reverse with
  | nil => exact h0
  | cons a r ih => rw [List.reverse_cons]; exact h1 _ _ ih
/-- one more crowd of those that hold none found -/
def stepZ (z : List Int → Bool) (found : List (List Int)) (c : List Int) : List (List Int) := if z c = true ∧ found.filter (fun o => leB o c) = [] then found ++ [c] else found
def foldZ (z : List Int → Bool) (cs : List (List Int)) : List (List Int) := cs.foldl (stepZ z) []
theorem foldZ_snoc (z : List Int → Bool) (cs : List (List Int)) (c : List Int) : foldZ z (cs ++ [c]) = stepZ z (foldZ z cs) c := by simp [foldZ]
theorem stepZ_sub {z : List Int → Bool} {found : List (List Int)} {c x : List Int} (h : x ∈ stepZ z found c) : x ∈ found ∨ (x = c ∧ z c = true ∧ ∀ o ∈ found, leB o c = false) := by
  unfold stepZ at h
  split at h
  · rename_i q
    rcases List.mem_append.mp h with h | h
    · exact .inl h
    · refine .inr ⟨by simpa using h, q.1, fun o ho => ?_⟩
      have := List.filter_eq_nil_iff.mp q.2 o ho
      simpa using this
  · exact .inl h
theorem foldZ_sub {z : List Int → Bool} : ∀ {cs : List (List Int)} {x : List Int}, x ∈ foldZ z cs → x ∈ cs ∧ z x = true := by
  intro cs
  induction cs using snoc_ind with
  | h0 => intro x h; simp [foldZ] at h
  | h1 cs c ih =>
    intro x h
    rw [foldZ_snoc] at h
    rcases stepZ_sub h with h | ⟨rfl, h, _⟩
    · exact ⟨by simp [(ih h).1], (ih h).2⟩
    · exact ⟨by simp, h⟩
theorem foldZ_len (z : List Int → Bool) : ∀ cs : List (List Int), (foldZ z cs).length ≤ cs.length := by
  intro cs
  induction cs using snoc_ind with
  | h0 => simp [foldZ]
  | h1 cs c ih =>
    rw [foldZ_snoc]
    unfold stepZ
    split <;> simp <;> omega
theorem leB_refl (c : List Int) : leB c c = true := by
  unfold leB
  rw [List.all_eq_true]
  intro p hp
  have : p.1 = p.2 := by
    obtain ⟨i, hi, e⟩ := List.mem_iff_getElem.mp hp
    rw [List.getElem_zip] at e
    rw [← e]
  simp [this]
theorem foldZ_nodup (z : List Int → Bool) : ∀ cs : List (List Int), (foldZ z cs).Nodup := by
  intro cs
  induction cs using snoc_ind with
  | h0 => simp [foldZ]
  | h1 cs c ih =>
    rw [foldZ_snoc]
    unfold stepZ
    split
    · rename_i q
      rw [List.nodup_append]
      refine ⟨ih, by simp, fun a ha b hb => ?_⟩
      simp at hb
      subst hb
      rintro rfl
      have := List.filter_eq_nil_iff.mp q.2 _ ha
      rw [leB_refl] at this
      exact this rfl
    · exact ih
theorem named_turn {s0 s1 s2 s4 s6 : Slot} {clocks : List Int} {names : List (List Int)} {found : List (List Int)} {c : List Int} (h4 : s4 = .own (.lst (names.map lstI)) ∨ s4 = .fz (.lst (names.map lstI)))
    (h0 : clocks.length ≤ names.length) (hl : ∀ row ∈ names, c.length ≤ row.length) (hz : c.length ≤ 1000) (hc : ∀ x ∈ c, x.natAbs < 2 ^ 64) (hr : ∀ row ∈ names, ∀ x ∈ row, x.natAbs < 2 ^ 64) (hf : ∀ o ∈ found, o.length ≤ c.length) (hn : found.length < 100000) :
    ∃ s4', (s4' = .own (.lst (names.map lstI)) ∨ s4' = .fz (.lst (names.map lstI))) ∧ b2_law_named [s0, s1, s2, .fz (lstI clocks), s4, .own (.lst (found.map tupD)), s6, .fz (tupD c), .emp, .emp, .emp] = some (.nx [s0, s1, s2, .fz (lstI clocks), s4', .own (.lst ((stepZ (zeroP clocks names) found c).map tupD)), s6, .fz (tupD c), .emp, .emp, .emp]) := by
  have hzero := zero_eq h0 hl hz hc hr
  have hcomp : ∀ (s4 s5 : Slot), compL [10] (gNm 10) t1_law_named (mVar 10) (found.map tupD) [s0, s1, s2, .fz (lstI clocks), s4, s5, s6, .fz (tupD c), .emp, .emp, .emp] [] = some ((found.filter fun o => leB o c).map tupD, [s0, s1, s2, .fz (lstI clocks), s4, s5, s6, .fz (tupD c), .emp, .emp, .emp]) := fun s4 s5 => by
    rw [compL_pure (fun o : List Int => leB o c) (fun o => tupD o)]
    · rfl
    · simp
      exact sz_of (by omega)
    · intro o ho
      have e := law_within_eq o c (sz_of (by have := hf o ho; omega)) (hf o ho)
      simp [t1_law_named, e]
  have hl2 : found.length < 16777216 := by omega
  have hs : stepZ (zeroP clocks names) found c = if zeroP clocks names c = true ∧ found.filter (fun o => leB o c) = [] then found ++ [c] else found := rfl
  generalize found.filter (fun o => leB o c) = F at hcomp hs
  refine ⟨.fz (.lst (names.map lstI)), .inr rfl, ?_⟩
  rcases h4 with rfl | rfl
  · by_cases q : zeroP clocks names c = true
    · by_cases q2 : F = []
      · rw [hs, if_pos ⟨q, q2⟩]
        simp [b2_law_named, hzero, q, hcomp]
        simp [q2, hl2, sizeLine_eq]
      · rw [hs, if_neg (fun h => q2 h.2)]
        simp [b2_law_named, hzero, q, hcomp]
        simp [q2, hl2, sizeLine_eq]
    · rw [hs, if_neg (fun h => q h.1)]
      simp [b2_law_named, hzero, q, hcomp]
  · by_cases q : zeroP clocks names c = true
    · by_cases q2 : F = []
      · rw [hs, if_pos ⟨q, q2⟩]
        simp [b2_law_named, hzero, q, hcomp]
        simp [q2, hl2, sizeLine_eq]
      · rw [hs, if_neg (fun h => q2 h.2)]
        simp [b2_law_named, hzero, q, hcomp]
        simp [q2, hl2, sizeLine_eq]
    · rw [hs, if_neg (fun h => q h.1)]
      simp [b2_law_named, hzero, q, hcomp]
end Q
namespace Q
open PySem PySem.Spec PyProof.Rows L2 L3
def clocksOf : Nat → List Int
  | 0 => [2]
  | 1 => [3]
  | 2 => [4]
  | 3 => [2, 2]
  | 4 => [0]
  | _ => [5]
/-- a name of a kind for a clock -/
def nameOk (clock x : Int) : Prop := if clock > 0 then 0 ≤ x ∧ x < clock else x = 1 ∨ x = 2 ∨ x = -1 ∨ x = -2 ∨ x = 0
theorem nameOk_lt {clock x : Int} (h : nameOk clock x) (hc : clock ≤ 1000) : x.natAbs < 2 ^ 64 := by
  unfold nameOk at h
  split at h
  · omega
  · omega
/-- the crowds of the sizes from 1 -/
def sizesP (k n : Nat) : List (List Int) := (List.range n).flatMap fun i => crowdsP (k + 1) (1 + i)
structure NamedOk (k : Nat) (clocks : List Int) (names : List (List Int)) : Prop where
  cl : ∃ i, clocks = clocksOf i
  len : names.length = clocks.length
  row : ∀ p ∈ clocks.zip names, p.2.length = k + 1 ∧ ∀ x ∈ p.2, nameOk p.1 x
theorem clocksOf_le (i : Nat) : ∀ c ∈ clocksOf i, 0 ≤ c ∧ c ≤ 1000 := by
  unfold clocksOf
  split <;> intro c hc <;> simp at hc <;> omega
theorem NamedOk.rowLen {k : Nat} {clocks : List Int} {names : List (List Int)} (h : NamedOk k clocks names) : ∀ row ∈ names, row.length = k + 1 ∧ ∀ x ∈ row, x.natAbs < 2 ^ 64 := fun row hr => by
  obtain ⟨i, hi, e⟩ := List.mem_iff_getElem.mp hr
  have hc : i < clocks.length := by rw [← h.len]; exact hi
  have hm : (clocks[i], row) ∈ clocks.zip names := by
    rw [← e]
    exact List.mem_iff_getElem.mpr ⟨i, by simp; omega, by simp⟩
  obtain ⟨h1, h2⟩ := h.row _ hm
  obtain ⟨j, hj⟩ := h.cl
  have h3 := clocksOf_le j clocks[i] (by rw [← hj]; exact List.getElem_mem hc)
  exact ⟨h1, fun x hx => nameOk_lt (h2 x hx) h3.2⟩
theorem crowd_bound {k s : Nat} {c : List Int} (h : c ∈ crowdsP (k + 1) s) : c.length = k + 1 ∧ ∀ x ∈ c, 0 ≤ x ∧ x ≤ s := by
  obtain ⟨h1, h2, h3⟩ := mem_crowds.mp h
  refine ⟨h1, fun x hx => ⟨h2 x hx, ?_⟩⟩
  have : ∀ l : List Int, (∀ x ∈ l, 0 ≤ x) → ∀ x ∈ l, x ≤ l.sum := fun l => by
    induction l with
    | nil => intro _ x hx; cases hx
    | cons a l ih =>
      intro h x hx
      have h0 : 0 ≤ l.sum := by
        clear ih hx
        induction l with
        | nil => simp
        | cons b l ih2 => simp; have := ih2 fun y hy => h y (by rcases List.mem_cons.mp hy with rfl | hy <;> simp [*]); have := h b (by simp); omega
      rcases List.mem_cons.mp hx with rfl | hx
      · simp; omega
      · have h4 := ih (fun y hy => h y (by simp [hy])) x hx
        have h5 := h a (by simp)
        simp; omega
  have := this c h2 x hx
  omega
/-- the inner loop -/
theorem named_inner {s0 s1 s2 s4 s6 s7 : Slot} {clocks : List Int} {names : List (List Int)} {found : List (List Int)} {k s : Nat} (h : NamedOk k clocks names) (hk : k ≤ 3) (hs : s ≤ 6) (h4 : s4 = .own (.lst (names.map lstI)) ∨ s4 = .fz (.lst (names.map lstI)))
    (hf : ∀ o ∈ found, o.length = k + 1) (hn : found.length < 10000) :
    ∃ s4' s7', (s4' = .own (.lst (names.map lstI)) ∨ s4' = .fz (.lst (names.map lstI))) ∧ forL (gNm 7) b2_law_named ((crowdsP (k + 1) s).map tupD) [s0, s1, s2, .fz (lstI clocks), s4, .own (.lst (found.map tupD)), s6, s7, .emp, .emp, .emp] =
      some (.nx [s0, s1, s2, .fz (lstI clocks), s4', .own (.lst (((crowdsP (k + 1) s).foldl (stepZ (zeroP clocks names)) found).map tupD)), s6, s7', .emp, .emp, .emp]) := by
  have hlen := crowds_len k s
  have hpow : (s + 1) ^ k ≤ 7 ^ 3 := Nat.le_trans (Nat.pow_le_pow_left (by omega) k) (Nat.pow_le_pow_right (by decide) hk)
  have stepLen : ∀ (z : List Int → Bool) (f : List (List Int)) c, (stepZ z f c).length ≤ f.length + 1 := fun z f c => by unfold stepZ; split <;> simp
  obtain ⟨ρ', h1, s4', s7', h2, rfl, h5⟩ := forL_inv (f := gNm 7) (b := b2_law_named) (enc := tupD) (fun pre ρ => ∃ s4' s7', (s4' = .own (.lst (names.map lstI)) ∨ s4' = .fz (.lst (names.map lstI))) ∧ ρ = [s0, s1, s2, .fz (lstI clocks), s4', .own (.lst ((pre.foldl (stepZ (zeroP clocks names)) found).map tupD)), s6, s7', .emp, .emp, .emp] ∧ (∀ o ∈ pre.foldl (stepZ (zeroP clocks names)) found, o.length = k + 1) ∧ (pre.foldl (stepZ (zeroP clocks names)) found).length ≤ found.length + pre.length)
    (ts := crowdsP (k + 1) s) (ρ := [s0, s1, s2, .fz (lstI clocks), s4, .own (.lst (found.map tupD)), s6, s7, .emp, .emp, .emp]) ⟨s4, s7, h4, rfl, hf, by simp⟩ (fun pre t post ρ e hI => by
      obtain ⟨s4', s7', h2, rfl, h5, h6⟩ := hI
      obtain ⟨ht, hb⟩ := crowd_bound (show t ∈ crowdsP (k + 1) s by rw [e]; simp)
      have hpl : pre.length + 1 ≤ (crowdsP (k + 1) s).length := by rw [e]; simp
      obtain ⟨s4'', h7, h8⟩ := named_turn (s0 := s0) (s1 := s1) (s2 := s2) (s6 := s6) (c := t) h2 (Nat.le_of_eq h.len.symm) (fun row hr => by rw [(h.rowLen row hr).1, ht]; exact Nat.le_refl _) (by omega) (fun x hx => by have := hb x hx; omega) (fun row hr => (h.rowLen row hr).2) (fun o ho => by rw [h5 o ho, ht]; exact Nat.le_refl _) (by omega)
      refine ⟨_, _, by simp, .inl h8, s4'', .fz (tupD t), h7, by simp, ?_, ?_⟩
      · intro o ho
        rw [List.foldl_append] at ho
        rcases stepZ_sub ho with ho | ⟨rfl, _⟩
        · exact h5 o ho
        · exact ht
      · rw [List.foldl_append]
        have := stepLen (zeroP clocks names) (pre.foldl (stepZ (zeroP clocks names)) found) t
        simp at this ⊢
        omega)
  exact ⟨s4', s7', h2, h1⟩
end Q
namespace Q
open PySem PySem.Spec PyProof.Rows L2 L3
/-- a row of names is drawn -/
theorem names_row {cs : List Int} {b clock : Int} {k : Nat} {s2 s3 s4 s5 s6 s7 : Slot} (h : DlOk cs b) (hk : k ≤ 1000) (hc : 0 ≤ clock ∧ clock ≤ 1000) :
    ∃ row cs' b', e5_law_named [.io (.deal cs b), .fz (.int ((k : Int) + 1)), s2, s3, s4, s5, s6, s7, .fz (.int clock), .emp, .emp] = some (.ok (lstI row) [.io (.deal cs' b'), .fz (.int ((k : Int) + 1)), s2, s3, s4, s5, s6, s7, .fz (.int clock), .emp, .emp]) ∧
      DlOk cs' b' ∧ row.length = k + 1 ∧ ∀ x ∈ row, nameOk clock x := by
  have hr : inB ((k : Int) + 1) = true := inB_of (by omega) (by omega)
  obtain ⟨acc, ρ', h1, cs', b', row, rfl, h2, rfl, h3, h4⟩ := compL_rel (vs := [9]) (f := gNm 9) (mt := mYes) (me := e4_law_named) (enc := fun i : Nat => D.int (i : Nat)) (fun pre ρ acc => ∃ cs b row, ρ = [.io (.deal cs b), .fz (.int ((k : Int) + 1)), s2, s3, s4, s5, s6, s7, .fz (.int clock), .emp, .emp] ∧ DlOk cs b ∧ acc = row.map D.int ∧ row.length = pre.length ∧ ∀ x ∈ row, nameOk clock x)
    (ts := List.range (k + 1)) (ρ := [.io (.deal cs b), .fz (.int ((k : Int) + 1)), s2, s3, s4, s5, s6, s7, .fz (.int clock), .emp, .emp]) (sz_of (by simp; omega)) ⟨cs, b, [], rfl, h, rfl, rfl, nofun⟩ (fun pre t post ρ acc e hI => by
      obtain ⟨cs, b, row, rfl, ok, rfl, h3, h4⟩ := hI
      refine ⟨[.io (.deal cs b), .fz (.int ((k : Int) + 1)), s2, s3, s4, s5, s6, s7, .fz (.int clock), .fz (.int (t : Nat)), .emp], by simp, .inr ?_⟩
      by_cases q : 0 < clock
      · obtain ⟨v, cs', b', e1, e2, e3, ok'⟩ := any_spec (n := clock) ok q (by omega)
        refine ⟨_, [.io (.deal cs' b'), .fz (.int ((k : Int) + 1)), s2, s3, s4, s5, s6, s7, .fz (.int clock), .fz (.int (t : Nat)), .emp], .int v, rfl, by simp [e4_law_named, q, e1], cs', b', row ++ [v], by simp, ok', by simp, by simp [h3], fun x hx => ?_⟩
        rcases List.mem_append.mp hx with hx | hx
        · exact h4 x hx
        · rw [List.mem_singleton] at hx
          subst hx
          unfold nameOk
          rw [if_pos q]
          exact ⟨e2, e3⟩
      · obtain ⟨d, cs', b', e1, e2, ok'⟩ := of_spec (ds := [.int 1, .int 2, .int (-1), .int (-2), .int 0]) ok (by simp) (by simp)
        have : ∃ v : Int, d = .int v ∧ (v = 1 ∨ v = 2 ∨ v = -1 ∨ v = -2 ∨ v = 0) := by
          simp at e1
          rcases e1 with rfl | rfl | rfl | rfl | rfl
          · exact ⟨_, rfl, by simp⟩
          · exact ⟨_, rfl, by simp⟩
          · exact ⟨_, rfl, by simp⟩
          · exact ⟨_, rfl, by simp⟩
          · exact ⟨_, rfl, by simp⟩
        obtain ⟨v, rfl, hv⟩ := this
        refine ⟨_, [.io (.deal cs' b'), .fz (.int ((k : Int) + 1)), s2, s3, s4, s5, s6, s7, .fz (.int clock), .fz (.int (t : Nat)), .emp], .int v, rfl, by simp [e4_law_named, q, e2, sizeLine_eq], cs', b', row ++ [v], by simp, ok', by simp, by simp [h3], fun x hx => ?_⟩
        rcases List.mem_append.mp hx with hx | hx
        · exact h4 x hx
        · rw [List.mem_singleton] at hx
          subst hx
          unfold nameOk
          rw [if_neg (by omega)]
          exact hv)
  refine ⟨row, cs', b', ?_, h2, by simpa using h3, h4⟩
  simp [e5_law_named, hr, rangeD0_map, h1, lstI]
/-- the outer loop -/
theorem named_outer {s0 s2 s4 s6 s7 : Slot} {clocks : List Int} {names : List (List Int)} {k n : Nat} (h : NamedOk k clocks names) (hk : k ≤ 3) (hn : n ≤ 6) (h4 : s4 = .own (.lst (names.map lstI)) ∨ s4 = .fz (.lst (names.map lstI))) :
    ∃ s4' s6' s7', (s4' = .own (.lst (names.map lstI)) ∨ s4' = .fz (.lst (names.map lstI))) ∧ forL (gNm 6) b3_law_named ((List.range n).map fun i => D.int (1 + (i : Nat))) [s0, .fz (.int ((k : Int) + 1)), s2, .fz (lstI clocks), s4, .own (.lst []), s6, s7, .emp, .emp, .emp] =
      some (.nx [s0, .fz (.int ((k : Int) + 1)), s2, .fz (lstI clocks), s4', .own (.lst ((foldZ (zeroP clocks names) (sizesP k n)).map tupD)), s6', s7', .emp, .emp, .emp]) := by
  have hpow : ∀ s, s ≤ 6 → (s + 1) ^ k ≤ 7 ^ 3 := fun s hs => Nat.le_trans (Nat.pow_le_pow_left (by omega) k) (Nat.pow_le_pow_right (by decide) hk)
  have lenAt : ∀ pre : List Nat, (∀ i ∈ pre, 1 + i ≤ 6) → (pre.flatMap fun i => crowdsP (k + 1) (1 + i)).length ≤ pre.length * 7 ^ 3 := fun pre => by
    induction pre with
    | nil => intro _; simp
    | cons a pre ih =>
      intro hp
      have h1 := ih fun i hi => hp i (by simp [hi])
      have h2 := crowds_len k (1 + a)
      have h3 := hpow (1 + a) (hp a (by simp))
      rw [List.flatMap_cons, List.length_append, List.length_cons]
      omega
  obtain ⟨ρ', h1, s4', s6', s7', h2, rfl⟩ := forL_inv (f := gNm 6) (b := b3_law_named) (enc := fun i : Nat => D.int (1 + (i : Nat))) (fun pre ρ => ∃ s4' s6' s7', (s4' = .own (.lst (names.map lstI)) ∨ s4' = .fz (.lst (names.map lstI))) ∧ ρ = [s0, .fz (.int ((k : Int) + 1)), s2, .fz (lstI clocks), s4', .own (.lst ((foldZ (zeroP clocks names) (pre.flatMap fun i => crowdsP (k + 1) (1 + i))).map tupD)), s6', s7', .emp, .emp, .emp])
    (ts := List.range n) (ρ := [s0, .fz (.int ((k : Int) + 1)), s2, .fz (lstI clocks), s4, .own (.lst []), s6, s7, .emp, .emp, .emp]) ⟨s4, s6, s7, h4, rfl⟩ (fun pre t post ρ e hI => by
      obtain ⟨s4', s6', s7', h2, rfl⟩ := hI
      have ht : t < n := List.mem_range.mp (by rw [e]; simp)
      have hpl : pre.length + 1 ≤ n := by have := congrArg List.length e; simp at this; omega
      have hpre : ∀ i ∈ pre, 1 + i ≤ 6 := fun i hi => by have := List.mem_range.mp (show i ∈ List.range n by rw [e]; simp [hi]); omega
      have ec := crowds_eq 16 k (1 + t) (by omega) (by omega) (by omega) (Nat.le_trans (hpow (1 + t) (by omega)) (by decide))
      rw [show (((1 + t : Nat)) : Int) = 1 + (t : Int) by omega] at ec
      have hfl := foldZ_len (zeroP clocks names) (pre.flatMap fun i => crowdsP (k + 1) (1 + i))
      have hl := lenAt pre hpre
      have hmul : pre.length * 7 ^ 3 ≤ 6 * 7 ^ 3 := Nat.mul_le_mul_right _ (by omega)
      obtain ⟨s4'', s7'', h5, h6⟩ := named_inner (s0 := s0) (s1 := .fz (.int ((k : Int) + 1))) (s2 := s2) (s6 := .fz (.int (1 + (t : Int)))) (s7 := s7') (s := 1 + t) (found := foldZ (zeroP clocks names) (pre.flatMap fun i => crowdsP (k + 1) (1 + i))) h hk (by omega) h2 (fun o ho => by
        obtain ⟨h7, _⟩ := foldZ_sub ho
        obtain ⟨i, _, h8⟩ := List.mem_flatMap.mp h7
        exact (crowd_bound h8).1) (by omega)
      have ef : foldZ (zeroP clocks names) ((pre ++ [t]).flatMap fun i => crowdsP (k + 1) (1 + i)) = (crowdsP (k + 1) (1 + t)).foldl (stepZ (zeroP clocks names)) (foldZ (zeroP clocks names) (pre.flatMap fun i => crowdsP (k + 1) (1 + i))) := by
        simp [foldZ, List.foldl_append]
      refine ⟨[s0, .fz (.int ((k : Int) + 1)), s2, .fz (lstI clocks), s4', .own (.lst ((foldZ (zeroP clocks names) (pre.flatMap fun i => crowdsP (k + 1) (1 + i))).map tupD)), .fz (.int (1 + (t : Int))), s7', .emp, .emp, .emp], _, by simp, .inl ?_, s4'', .fz (.int (1 + (t : Int))), s7'', h5, rfl⟩
      rw [ef]
      simp [b3_law_named, ec, h6])
  exact ⟨s4', s6', s7', h2, h1⟩
end Q
namespace Q
open PySem PySem.Spec PyProof.Rows L2 L3
/-- crowds ascending -/
def sortL (ts : List (List Int)) : List (List Int) := ts.mergeSort leL
theorem sortL_perm (ts : List (List Int)) : (sortL ts).Perm ts := List.mergeSort_perm ..
theorem sortL_pair (ts : List (List Int)) : (sortL ts).Pairwise fun a b => leL a b = true := List.pairwise_mergeSort leL_trans leL_total ts
theorem leL_anti {a b : List Int} (h : leL a b = true) (h' : leL b a = true) : a = b := by
  unfold leL at h h'
  rw [Bool.not_eq_true'] at h h'
  exact L3S.ltL_eq h' h
/-- ascending lists of the same things are one -/
theorem asc_unique : ∀ {as bs : List (List Int)}, as.Pairwise (fun a b => leL a b = true) → bs.Pairwise (fun a b => leL a b = true) → as.Perm bs → as = bs
  | [], bs, _, _, h => by rw [List.Perm.eq_nil h.symm]
  | a :: as, bs, ha, hb, h => by
    cases bs with
    | nil => exact absurd h.length_eq (by simp)
    | cons b bs =>
      have ha' := List.pairwise_cons.mp ha
      have hb' := List.pairwise_cons.mp hb
      have e : a = b := by
        have h1 : a ∈ b :: bs := h.subset (by simp)
        have h2 : b ∈ a :: as := h.symm.subset (by simp)
        rcases List.mem_cons.mp h1 with h1 | h1
        · exact h1
        · rcases List.mem_cons.mp h2 with h2 | h2
          · exact h2.symm
          · exact leL_anti (ha'.1 b h2) (hb'.1 a h1)
      subst e
      rw [asc_unique ha'.2 hb'.2 ((List.perm_cons a).mp h)]
theorem sortL_of {as bs : List (List Int)} (h : as.Pairwise fun a b => leL a b = true) (hp : bs.Perm as) : sortL bs = as := asc_unique (sortL_pair bs) h ((sortL_perm bs).trans hp)
theorem fSrt_tups {ts : List (List Int)} (h : ∀ t ∈ ts, t ≠ []) : fSrt (.lst (ts.map tupD)) = some ((sortL ts).map tupD) := by
  have e : ∀ {ts : List (List Int)}, (∀ t ∈ ts, t ≠ []) → toTups (ts.map tupD) = some ts := by
    intro ts
    induction ts with
    | nil => intro _; rfl
    | cons a ts ih =>
      intro h
      have ha : toTup (tupD a) = some a := by
        show (toInts (a.map D.int)).bind _ = _
        rw [toInts_map, Option.bind_some, if_neg (h a (by simp))]
      simp only [List.map_cons, toTups, ha, Option.bind_some, ih fun t ht => h t (by simp [ht]), Option.map_some]
  cases ts with
  | nil => simp [fSrt, L3.itL, srtL, toInts, sortL]
  | cons a ts =>
    show (match toInts ((a :: ts).map tupD) with
      | some ns => some ((ns.mergeSort leI).map D.int)
      | none => (toTups ((a :: ts).map tupD)).map fun (us : List (List Int)) => (us.mergeSort leL).map tupD) = _
    have e1 : toInts ((a :: ts).map tupD) = none := rfl
    rw [e1, e h]
    rfl
/-- how far the sizes go -/
def mostP (k : Nat) : Nat := if k < 3 then 6 else 4
def batchesP (k : Nat) (clocks : List Int) (names : List (List Int)) : List (List Int) := sortL (foldZ (zeroP clocks names) (sizesP k (mostP k)))
theorem clock_at {v : Int} (h0 : 0 ≤ v) (h6 : v < 6) : ∃ i, fIx (.lst [.lst [.int 2], .lst [.int 3], .lst [.int 4], .lst [.int 2, .int 2], .lst [.int 0], .lst [.int 5]]) (.int v) = some (lstI (clocksOf i)) := by
  obtain ⟨i, rfl⟩ := Int.eq_ofNat_of_zero_le h0
  refine ⟨i, fIx_lst ?_⟩
  have : i < 6 := by omega
  match i, this with
  | 0, _ => rfl
  | 1, _ => rfl
  | 2, _ => rfl
  | 3, _ => rfl
  | 4, _ => rfl
  | 5, _ => rfl
theorem named_spec {cs : List Int} {b : Int} {k : Nat} (h : DlOk cs b) (hk : k ≤ 3) : ∃ clocks names cs' b', NamedOk k clocks names ∧ DlOk cs' b' ∧
    P_law_named [.io (.deal cs b), .fz (.int ((k : Int) + 1))] = some (.ret (.tup [lstI clocks, .lst (names.map lstI), .lst ((batchesP k clocks names).map tupD)]) [.io (.deal cs' b'), .emp]) := by
  obtain ⟨v, cs1, b1, e1, hv0, hv1, ok1⟩ := any_spec (n := 6) h (by decide) (by decide)
  obtain ⟨i, e2⟩ := clock_at hv0 hv1
  have hle := clocksOf_le i
  have hlen : (clocksOf i).length ≤ 2 := by unfold clocksOf; split <;> simp
  obtain ⟨acc, ρ', h3, cs2, b2, names, rfl, ok2, rfl, hN1, hN2⟩ := compL_rel (vs := [8]) (f := gNm 8) (mt := mYes) (me := e5_law_named) (enc := D.int)
    (fun pre ρ acc => ∃ cs b names, ρ = [.io (.deal cs b), .fz (.int ((k : Int) + 1)), .fz (.int v), .fz (lstI (clocksOf i)), .emp, .emp, .emp, .emp, .emp, .emp, .emp] ∧ DlOk cs b ∧ acc = names.map lstI ∧ names.length = pre.length ∧ ∀ p ∈ pre.zip names, p.2.length = k + 1 ∧ ∀ x ∈ p.2, nameOk p.1 x)
    (ts := clocksOf i) (ρ := [.io (.deal cs1 b1), .fz (.int ((k : Int) + 1)), .fz (.int v), .fz (lstI (clocksOf i)), .emp, .emp, .emp, .emp, .emp, .emp, .emp]) (sz_of (by omega)) ⟨cs1, b1, [], rfl, ok1, rfl, rfl, nofun⟩ (fun pre t post ρ acc e hI => by
      obtain ⟨cs, b, names, rfl, ok, rfl, hn1, hn2⟩ := hI
      obtain ⟨row, cs', b', h4, ok', h5, h6⟩ := names_row (clock := t) (k := k) (s2 := .fz (.int v)) (s3 := .fz (lstI (clocksOf i))) (s4 := .emp) (s5 := .emp) (s6 := .emp) (s7 := .emp) ok (by omega) (hle t (by rw [e]; simp))
      refine ⟨_, by simp, .inr ⟨_, _, _, rfl, h4, cs', b', names ++ [row], by simp, ok', by simp, by simp [hn1], fun p hp => ?_⟩⟩
      rw [List.zip_append hn1.symm] at hp
      rcases List.mem_append.mp hp with hp | hp
      · exact hn2 p hp
      · simp at hp
        subst hp
        exact ⟨h5, h6⟩)
  have hOk : NamedOk k (clocksOf i) names := ⟨⟨i, rfl⟩, hN1, hN2⟩
  have hm : mostP k ≤ 6 := by unfold mostP; split <;> omega
  obtain ⟨s4', s6', s7', hs4, h5⟩ := named_outer (s0 := .io (.deal cs2 b2)) (s2 := .fz (.int v)) (s4 := .own (.lst (names.map lstI))) (s6 := .emp) (s7 := .emp) (n := mostP k) hOk hk hm (.inl rfl)
  have hne : ∀ t ∈ foldZ (zeroP (clocksOf i) names) (sizesP k (mostP k)), t ≠ [] := fun t ht => by
    obtain ⟨h7, _⟩ := foldZ_sub ht
    obtain ⟨j, _, h8⟩ := List.mem_flatMap.mp h7
    have := (crowd_bound h8).1
    rintro rfl
    simp at this
  have hsrt := fSrt_tups hne
  refine ⟨clocksOf i, names, cs2, b2, hOk, ok2, ?_⟩
  have hi7 : inB 7 = true := by decide
  have hi5 : inB 5 = true := by decide
  have hi1 : inB 1 = true := by decide
  unfold lstI at h3 h5 e2 hs4 ⊢
  unfold batchesP
  by_cases q : k < 3
  · have q' : (k : Int) + 1 < 4 := by omega
    have hmo : mostP k = 6 := if_pos q
    rw [hmo] at h5 hsrt ⊢
    rcases hs4 with rfl | rfl
    · simp [P_law_named, m_law_named, e1, sizeLine_eq, e2, h3, q', hi7, hi1, rangeD_map, h5, hsrt]
    · simp [P_law_named, m_law_named, e1, sizeLine_eq, e2, h3, q', hi7, hi1, rangeD_map, h5, hsrt]
  · have q' : ¬ (k : Int) + 1 < 4 := by omega
    have hmo : mostP k = 4 := if_neg q
    rw [hmo] at h5 hsrt ⊢
    rcases hs4 with rfl | rfl
    · simp [P_law_named, m_law_named, e1, sizeLine_eq, e2, h3, q', hi5, hi1, rangeD_map, h5, hsrt]
    · simp [P_law_named, m_law_named, e1, sizeLine_eq, e2, h3, q', hi5, hi1, rangeD_map, h5, hsrt]
end Q
namespace Q
open PySem PySem.Spec PyProof.Rows L2 L3
/-- batches as the laws draw them -/
structure BatchOk (k : Nat) (b : List Int) : Prop where
  len : b.length = k + 1
  nn : ∀ x ∈ b, 0 ≤ x
  pos : 0 < b.sum
  small : b.sum ≤ 12
structure BooksOk (k : Nat) (bs : List (List Int)) : Prop where
  each : ∀ b ∈ bs, BatchOk k b
  nd : bs.Nodup
  asc : bs.Pairwise fun a b => leL a b = true
  len : bs.length ≤ 12
theorem BooksOk.sub {k : Nat} {bs cs : List (List Int)} (h : BooksOk k bs) (s : cs.Sublist bs) : BooksOk k cs := ⟨fun b hb => h.each b (s.subset hb), h.nd.sublist s, h.asc.sublist s, Nat.le_trans s.length_le h.len⟩
theorem booksOk_sort {k : Nat} {bs : List (List Int)} (h1 : ∀ b ∈ bs, BatchOk k b) (h2 : bs.Nodup) (h3 : bs.length ≤ 12) : BooksOk k (sortL bs) :=
  ⟨fun b hb => h1 b ((sortL_perm bs).subset hb), (sortL_perm bs).nodup_iff.mpr h2, sortL_pair bs, by rw [(sortL_perm bs).length_eq]; exact h3⟩
theorem batch_of_crowd {k s : Nat} {c : List Int} (h : c ∈ crowdsP (k + 1) s) (h0 : 0 < s) (h1 : s ≤ 12) : BatchOk k c := by
  obtain ⟨a, b, d⟩ := mem_crowds.mp h
  exact ⟨a, b, by omega, by omega⟩
theorem batches_ok {k : Nat} {clocks : List Int} {names : List (List Int)} (n : Nat) (hn : n ≤ 11) : BooksOk k ((batchesP k clocks names).take n) := by
  have key : ∀ b ∈ batchesP k clocks names, BatchOk k b := fun b hb => by
    obtain ⟨h1, _⟩ := foldZ_sub ((sortL_perm _).subset hb)
    obtain ⟨i, hi, h2⟩ := List.mem_flatMap.mp h1
    have hi' := List.mem_range.mp hi
    have hm : mostP k ≤ 6 := by unfold mostP; split <;> omega
    exact batch_of_crowd h2 (by omega) (by omega)
  exact ⟨fun b hb => key b (List.mem_of_mem_take hb), ((sortL_perm _).nodup_iff.mpr (foldZ_nodup _ _)).sublist (List.take_sublist n _), (sortL_pair _).sublist (List.take_sublist n _), by rw [List.length_take]; omega⟩
theorem sum_add : ∀ {xs ys : List Int}, xs.length = ys.length → (xs.zipWith (· + ·) ys).sum = xs.sum + ys.sum
  | [], [], _ => rfl
  | x :: xs, y :: ys, h => by
    have := sum_add (xs := xs) (ys := ys) (by simpa using h)
    simp [this]
    omega
theorem add_ok {k : Nat} {a b : List Int} (ha : BatchOk k a) (hb : BatchOk k b) (hs : (a.zipWith (· + ·) b).sum < 9) : BatchOk k (a.zipWith (· + ·) b) := by
  refine ⟨by simp [ha.len, hb.len], fun x hx => ?_, ?_, by omega⟩
  · obtain ⟨i, hi, e⟩ := List.mem_iff_getElem.mp hx
    rw [List.getElem_zipWith] at e
    have hi' : i < a.length ∧ i < b.length := by simp at hi; omega
    have h1 := ha.nn (a[i]'hi'.1) (List.getElem_mem _)
    have h2 := hb.nn (b[i]'hi'.2) (List.getElem_mem _)
    omega
  · rw [sum_add (by rw [ha.len, hb.len])]
    have := ha.pos
    have := hb.pos
    omega
theorem mem_tups {d : D} {ts : List (List Int)} (h : d ∈ ts.map tupD) : ∃ t, t ∈ ts ∧ d = tupD t := by
  obtain ⟨t, h1, h2⟩ := List.mem_map.mp h
  exact ⟨t, h1, h2.symm⟩
/-- the drawn ones, one after another -/
theorem book_loop {cs : List Int} {b v n : Int} {k m : Nat} {s6 s7 : Slot} (h : DlOk cs b) (hk : k ≤ 3) (hm : m ≤ 4) :
    ∃ (bs : List (List Int)) (cs' : List Int) (b' : Int) (s6' s7' : Slot), (∀ b ∈ bs, BatchOk k b) ∧ bs.Nodup ∧ bs.length ≤ m ∧ DlOk cs' b' ∧ forL (gNm 6) b1_law_book ((List.range m).map fun i => D.int (i : Nat)) [.io (.deal cs b), .fz (.int n), .fz (.int ((k : Int) + 1)), .fz (.int v), .own (.lst []), .emp, s6, s7] =
      some (.nx [.io (.deal cs' b'), .fz (.int n), .fz (.int ((k : Int) + 1)), .fz (.int v), .own (.lst (bs.map tupD)), .emp, s6', s7']) := by
  have hpow : ∀ s, s ≤ 4 → (s + 1) ^ k ≤ 5 ^ 3 := fun s hs => Nat.le_trans (Nat.pow_le_pow_left (by omega) k) (Nat.pow_le_pow_right (by decide) hk)
  obtain ⟨ρ', h1, bs, cs', b', s6', s7', h2, h3, h4, h5, rfl⟩ := forL_inv (f := gNm 6) (b := b1_law_book) (enc := fun i : Nat => D.int (i : Nat)) (fun pre ρ => ∃ (bs : List (List Int)) (cs : List Int) (b : Int) (s6 s7 : Slot), (∀ b ∈ bs, BatchOk k b) ∧ bs.Nodup ∧ bs.length ≤ pre.length ∧ DlOk cs b ∧ ρ = [.io (.deal cs b), .fz (.int n), .fz (.int ((k : Int) + 1)), .fz (.int v), .own (.lst (bs.map tupD)), .emp, s6, s7])
    (ts := List.range m) (ρ := [.io (.deal cs b), .fz (.int n), .fz (.int ((k : Int) + 1)), .fz (.int v), .own (.lst []), .emp, s6, s7]) ⟨[], cs, b, s6, s7, nofun, List.nodup_nil, Nat.le_refl _, h, rfl⟩ (fun pre t post ρ e hI => by
      obtain ⟨bs, cs, b, s6, s7, h2, h3, h4, h5, rfl⟩ := hI
      have hpl : pre.length + 1 ≤ m := by have := congrArg List.length e; simp at this; omega
      obtain ⟨v', cs1, b1, e1, hv0, hv1, ok1⟩ := any_spec (n := 4) h5 (by decide) (by decide)
      obtain ⟨s, rfl⟩ := Int.eq_ofNat_of_zero_le hv0
      have ec := crowds_eq 16 k (1 + s) (by omega) (by omega) (by omega) (Nat.le_trans (hpow (1 + s) (by omega)) (by decide))
      rw [show (((1 + s : Nat)) : Int) = 1 + (s : Int) by omega] at ec
      have hne : crowdsP (k + 1) (1 + s) ≠ [] := by
        have : (((1 + s : Nat) : Int) :: List.replicate k 0) ∈ crowdsP (k + 1) (1 + s) := mem_crowds.mpr ⟨by simp, fun x hx => by
          rcases List.mem_cons.mp hx with rfl | hx
          · omega
          · rw [List.eq_of_mem_replicate hx]; exact Int.le_refl 0, by simp⟩
        intro z; rw [z] at this; cases this
      have hlen := crowds_len k (1 + s)
      have hp := hpow (1 + s) (by omega)
      obtain ⟨d, cs2, b2, hd, e2, ok2⟩ := of_spec (ds := (crowdsP (k + 1) (1 + s)).map tupD) ok1 (by simpa using hne) (by simp; omega)
      obtain ⟨c, hc, rfl⟩ := mem_tups hd
      have hbo := batch_of_crowd hc (by omega) (by omega)
      have hbl : bs.length < 16777216 := by omega
      have eg : gNm 6 (.int (t : Nat)) [.io (.deal cs b), .fz (.int n), .fz (.int ((k : Int) + 1)), .fz (.int v), .own (.lst (bs.map tupD)), .emp, s6, s7] = some [.io (.deal cs b), .fz (.int n), .fz (.int ((k : Int) + 1)), .fz (.int v), .own (.lst (bs.map tupD)), .emp, .fz (.int (t : Nat)), s7] := by simp
      by_cases q : c ∈ bs
      · refine ⟨_, _, eg, .inl ?_, bs, cs2, b2, .fz (.int (t : Nat)), .fz (tupD c), h2, h3, by simp; omega, ok2, rfl⟩
        simp [b1_law_book, e1, ec, e2, q]
      · refine ⟨_, _, eg, .inl ?_, bs ++ [c], cs2, b2, .fz (.int (t : Nat)), .fz (tupD c), fun x hx => ?_, ?_, by simp; omega, ok2, rfl⟩
        · simp [b1_law_book, e1, ec, e2, q, sizeLine_eq, hbl]
        · rcases List.mem_append.mp hx with hx | hx
          · exact h2 x hx
          · rw [List.mem_singleton] at hx; subst hx; exact hbo
        · rw [List.nodup_append]
          refine ⟨h3, by simp, fun a ha b hb => ?_⟩
          rw [List.mem_singleton] at hb
          subst hb
          rintro rfl
          exact q ha)
  exact ⟨bs, cs', b', s6', s7', h2, h3, by simpa using h4, h5, h1⟩
end Q
namespace Q
open PySem PySem.Spec PyProof.Rows L2 L3
theorem BooksOk.ne {k : Nat} {bs : List (List Int)} (h : ∀ b ∈ bs, BatchOk k b) : ∀ t ∈ bs, t ≠ [] := fun t ht e => by
  have := (h t ht).len
  rw [e] at this
  simp at this
theorem book_spec {cs : List Int} {b : Int} {m : Nat} (h : DlOk cs b) (hm0 : 0 < m) (hm : m ≤ 4) : ∃ (k : Nat) (bs : List (List Int)) (cs' : List Int) (b' : Int), k < m ∧ BooksOk k bs ∧ DlOk cs' b' ∧
    P_law_book [.io (.deal cs b), .fz (.int (m : Int))] = some (.ret (.tup [.int ((k : Int) + 1), .lst (bs.map tupD)]) [.io (.deal cs' b'), .emp]) := by
  obtain ⟨v1, cs1, b1, e1, hk0, hk1, ok1⟩ := any_spec (n := (m : Int)) h (by omega) (by omega)
  obtain ⟨k, rfl⟩ := Int.eq_ofNat_of_zero_le hk0
  obtain ⟨v, cs2, b2, e2, hv0, hv1, ok2⟩ := any_spec (n := 5) ok1 (by decide) (by decide)
  have hk : k ≤ 3 := by omega
  have hcomm : (1 : Int) + (k : Int) = (k : Int) + 1 := Int.add_comm ..
  by_cases q : v < 3
  · obtain ⟨clocks, names, cs3, b3, hN, ok3, e3⟩ := named_spec (k := k) ok2 hk
    have hB := batches_ok (k := k) (clocks := clocks) (names := names) 11 (by decide)
    have hcut : cutD ((batchesP k clocks names).map tupD) none (some 11) = ((batchesP k clocks names).take 11).map tupD := by
      rw [show (11 : Int) = ((11 : Nat) : Int) from rfl, cutD_take, List.map_take]
    generalize hbs : (batchesP k clocks names).take 11 = bs at hB hcut
    have hBl : bs.length ≤ 11 := by rw [← hbs, List.length_take]; omega
    by_cases q1 : v = 1
    · subst q1
      by_cases q2 : 1 < bs.length
      · have hne : bs.map tupD ≠ [] := by intro z; have := congrArg List.length z; simp at this; rw [this] at q2; simp at q2
        obtain ⟨d1, cs4, b4, hd1, e4, ok4⟩ := of_spec ok3 hne (by simp; omega)
        obtain ⟨d2, cs5, b5, hd2, e5, ok5⟩ := of_spec ok4 hne (by simp; omega)
        obtain ⟨x, hx, rfl⟩ := mem_tups hd1
        obtain ⟨y, hy, rfl⟩ := mem_tups hd2
        have hxo := hB.each x hx
        have hyo := hB.each y hy
        have e6 := law_more_eq x y (sz_of (by have := hxo.len; omega)) (by rw [hxo.len, hyo.len]; exact Nat.le_refl _)
        have q2' : (1 : Int) < (bs.length : Int) := by omega
        generalize hz : x.zipWith (· + ·) y = z at e6
        by_cases q3 : z ∈ bs
        · refine ⟨k, bs, cs5, b5, by omega, hB, ok5, ?_⟩
          simp [P_law_book, m_law_book, e1, e2, hcomm, q, e3, hcut]
          simp [q2', e4, e5, e6, q3, sizeLine_eq]
        · by_cases q4 : z.sum < 9
          · have hzo : BatchOk k z := by rw [← hz]; exact add_ok hxo hyo (by rw [hz]; exact q4)
            have hall : ∀ t ∈ bs ++ [z], BatchOk k t := fun t ht => by
              rcases List.mem_append.mp ht with ht | ht
              · exact hB.each t ht
              · rw [List.mem_singleton] at ht; subst ht; exact hzo
            have hs := fSrt_tups (BooksOk.ne hall)
            rw [List.map_append] at hs
            have hfit : bs.length + 1 ≤ 16777216 := by omega
            refine ⟨k, sortL (bs ++ [z]), cs5, b5, by omega, booksOk_sort hall ?_ (by simp; omega), ok5, ?_⟩
            · rw [List.nodup_append]
              refine ⟨hB.nd, by simp, fun a ha c hc => ?_⟩
              rw [List.mem_singleton] at hc
              subst hc
              rintro rfl
              exact q3 ha
            · simp at hs
              simp [P_law_book, m_law_book, e1, e2, hcomm, q, e3, hcut]
              simp [q2', e4, e5, e6, q3, q4, sizeLine_eq, hfit, hs]
          · refine ⟨k, bs, cs5, b5, by omega, hB, ok5, ?_⟩
            simp [P_law_book, m_law_book, e1, e2, hcomm, q, e3, hcut]
            simp [q2', e4, e5, e6, q3, q4, sizeLine_eq]
      · have q2' : ¬ (1 : Int) < (bs.length : Int) := by omega
        refine ⟨k, bs, cs3, b3, by omega, hB, ok3, ?_⟩
        simp [P_law_book, m_law_book, e1, e2, hcomm, q, e3, hcut]
        simp [q2', sizeLine_eq]
    · by_cases q2 : v = 2
      · subst q2
        by_cases q3 : bs = []
        · refine ⟨k, bs, cs3, b3, by omega, hB, ok3, ?_⟩
          subst q3
          simp [P_law_book, m_law_book, e1, e2, hcomm, q, e3, hcut, sizeLine_eq]
        · have hp : 0 < bs.length := List.length_pos_iff.mpr q3
          obtain ⟨w, cs4, b4, e4, hw0, hw1, ok4⟩ := any_spec (n := (bs.length : Int)) ok3 (by omega) (by omega)
          obtain ⟨i, rfl⟩ := Int.eq_ofNat_of_zero_le hw0
          have hi : i < bs.length := by omega
          have hd : bs[i]? = some bs[i] := List.getElem?_eq_getElem hi
          have hs : seqIndex? (i : Int) bs.length = some i := seqIndex_nat hi
          have hb : inB (i : Nat) = true := inB_of (by omega) (by omega)
          refine ⟨k, bs.eraseIdx i, cs4, b4, by omega, hB.sub (List.eraseIdx_sublist ..), ok4, ?_⟩
          have hem : (bs.map tupD).eraseIdx i = (bs.eraseIdx i).map tupD := by rw [List.eraseIdx_eq_take_drop_succ, List.eraseIdx_eq_take_drop_succ, List.map_append, List.map_take, List.map_drop]
          simp [P_law_book, m_law_book, e1, e2, hcomm, q, e3, hcut]
          simp [q3, e4, hb, hs, hd, sizeLine_eq, hem]
      · refine ⟨k, bs, cs3, b3, by omega, hB, ok3, ?_⟩
        simp [P_law_book, m_law_book, e1, e2, hcomm, q, e3, hcut]
        simp [q1, q2, sizeLine_eq]
  · obtain ⟨w, cs3, b3, e3, hw0, hw1, ok3⟩ := any_spec (n := 5) ok2 (by decide) (by decide)
    obtain ⟨n, rfl⟩ := Int.eq_ofNat_of_zero_le hw0
    obtain ⟨bs, cs4, b4, s6, s7, h1, h2, h3, ok4, h5⟩ := book_loop (k := k) (m := n) (n := (m : Int)) (v := v) (s6 := .emp) (s7 := .emp) ok3 hk (by omega)
    have hs := fSrt_tups (BooksOk.ne h1)
    have hr : inB (n : Int) = true := inB_of (by omega) (by omega)
    refine ⟨k, sortL bs, cs4, b4, by omega, booksOk_sort h1 h2 (by omega), ok4, ?_⟩
    simp [P_law_book, m_law_book, e1, e2, hcomm, q, e3, hr, rangeD0_map, h5, hs, sizeLine_eq]
end Q
namespace L3
open PySem PySem.Spec PyProof.Rows L2
@[simp] theorem mAny_ap (i : Nat) (ρ : Env) : mAny i ρ = (match sa ρ i with
  | some (.bor _) => some (.ok (.bor i) ρ)
  | some (.fz d) => some (.ok (.val d) ρ)
  | some (.own (.lst ds)) => some (.ok (.val (.lst ds)) (ρ.set i (.fz (.lst ds))))
  | _ => none) := by
  unfold mAny
  rw [mVal_ap, bind_ap, mVar_ap]
  show (match sa ρ i with
    | some (.bor _) => some (Out.ok (Am.bor i) ρ)
    | _ => _) = _
  cases sa ρ i with
  | none => rfl
  | some s =>
    cases s with
    | own c => cases c <;> rfl
    | _ => rfl
@[simp] theorem amOk_b1 (i : Nat) : amOk [.bor i] = true := (rfl)
@[simp] theorem amOk_b2 (i : Nat) (d : D) : amOk [.val d, .bor i] = true := (rfl)
@[simp] theorem lent_fz (d : D) : lent (.fz d) = true := (rfl)
@[simp] theorem lent_bor (ds : List D) : lent (.bor ds) = true := (rfl)
@[simp] theorem pick_nil {α : Type} (xs : List α) : pick [] xs = [] := (rfl)
@[simp] theorem pick_cons {α : Type} (i : Nat) (is : List Nat) (xs : List α) : pick (i :: is) xs = (match xs[i]? with
  | none => pick is xs
  | some x => x :: pick is xs) := by
  show List.filterMap _ _ = _
  rw [List.filterMap_cons]
  cases xs[i]? <;> rfl
@[simp] theorem mPick_ap (prm : List Nat) (n : Nat) (m : M (List Am)) (ρ : Env) : mPick prm n m ρ = (match m ρ with
  | none => none
  | some (.ok ams ρ') => if ams.length = n then some (.ok (pick prm ams) ρ') else none
  | some (.exc c d ρ') => some (.exc c d ρ')) := by
  unfold mPick
  rw [bind_ap]
  cases m ρ with
  | none => rfl
  | some o =>
    cases o with
    | ok a ρ' => dsimp only; split <;> rfl
    | exc _ _ _ => rfl
@[simp] theorem mMake_ap (c n : Nat) (P : List Slot → Option MO) (m : M (List Am)) (ρ : Env) : mMake c n P m ρ = (match m ρ with
  | none => none
  | some (.ok ams ρ') => if ams.length = n ∧ amOk ams = true then (match amSlots ρ' ams with
    | none => none
    | some as => if as.all lent = true then (match P as with
      | none => none
      | some (.ok es) => some (.ok (.ob c es) ρ')
      | some (.exc c' od) => some (.exc c' od ρ')) else none) else none
  | some (.exc c d ρ') => some (.exc c d ρ')) := by
  unfold mMake
  rw [bind_ap]
  cases m ρ with
  | none => rfl
  | some o => cases o <;> rfl
theorem pIni_ap (n : Nat) (m : M (List D)) (as : List Slot) : pIni n m as = (match m (.raw :: (as ++ List.replicate (n - 1 - as.length) .emp)) with
  | some (.ok es _) => some (.ok es)
  | some (.exc c od _) => some (.exc c od)
  | none => none) := (rfl)
@[simp] theorem isRaw_raw (ρ : Env) : isRaw (.raw :: ρ) = true := (rfl)
@[simp] theorem mIniNil_ap (ρ : Env) : mIniNil ρ = some (.ok [] ρ) := (rfl)
@[simp] theorem mIniFld_ap (m : M D) (r : M (List D)) (ρ : Env) : mIniFld m r ρ = (match m ρ with
  | some (.ok d ρ1) => if isRaw ρ1 = true then (match r ρ1 with
    | some (.ok es ρ2) => some (.ok (d :: es) ρ2)
    | _ => none) else none
  | _ => none) := (rfl)
@[simp] theorem mIniPre_ap (ms : MS) (r : M (List D)) (ρ : Env) : mIniPre ms r ρ = (match ms ρ with
  | some (.nx ρ1) => if isRaw ρ1 = true then r ρ1 else none
  | some (.exc c d ρ1) => some (.exc c d ρ1)
  | _ => none) := (rfl)
@[simp] theorem mDic0_ap (ρ : Env) : mDic0 ρ = some (.ok .dic0 ρ) := (rfl)
@[simp] theorem isC_ob (cs : List Nat) (c0 c : Nat) (ds : List D) : fIsC cs c0 (.ob c ds) = if c ∈ cs then some (.bl (decide (c = c0))) else none := (rfl)
@[simp] theorem isC_tup (cs : List Nat) (c0 : Nat) (ds : List D) : fIsC cs c0 (.tup ds) = some (.bl false) := (rfl)
@[simp] theorem isC_lst (cs : List Nat) (c0 : Nat) (ds : List D) : fIsC cs c0 (.lst ds) = some (.bl false) := (rfl)
@[simp] theorem isC_str (cs : List Nat) (c0 : Nat) (z : Str) : fIsC cs c0 (.str z) = some (.bl false) := (rfl)
@[simp] theorem isC_int (cs : List Nat) (c0 : Nat) (i : Int) : fIsC cs c0 (.int i) = some (.bl false) := (rfl)
@[simp] theorem isC_non (cs : List Nat) (c0 : Nat) : fIsC cs c0 .non = some (.bl false) := (rfl)
@[simp] theorem isC_bl (cs : List Nat) (c0 : Nat) (b : Bool) : fIsC cs c0 (.bl b) = some (.bl false) := (rfl)
@[simp] theorem isC_dic0 (cs : List Nat) (c0 : Nat) : fIsC cs c0 .dic0 = some (.bl false) := (rfl)
@[simp] theorem frzD_val (ρ : Env) (d : D) : frzD ρ (.val d) = some d := (rfl)
@[simp] theorem frzD_sl (ρ : Env) (i : Nat) : frzD ρ (.sl i) = (match sa ρ i with
  | some (.fz d) => some d
  | _ => none) := (rfl)
@[simp] theorem eqOk_ob (c c' : Nat) (ds : List D) : eqOk c (.ob c' ds) = decide (c' = c) := (rfl)
@[simp] theorem eqOk_tup (c : Nat) (ds : List D) : eqOk c (.tup ds) = true := (rfl)
@[simp] theorem eqOk_lst (c : Nat) (ds : List D) : eqOk c (.lst ds) = true := (rfl)
@[simp] theorem eqOk_str (c : Nat) (z : Str) : eqOk c (.str z) = true := (rfl)
@[simp] theorem eqOk_int (c : Nat) (i : Int) : eqOk c (.int i) = true := (rfl)
@[simp] theorem eqOk_non (c : Nat) : eqOk c .non = true := (rfl)
@[simp] theorem obOf_ob (c : Nat) (ds : List D) : obOf (.ob c ds) = some c := (rfl)
@[simp] theorem mEqO_ap (c : Nat) (P : Fn) (neg : Bool) (f : D → D → Option D) (ma mb : M Bv) (ρ : Env) : mEqO c P neg f ma mb ρ = M.bind ma (fun a => M.bind mb fun b => fun ρ => match (frzD ρ a).bind obOf with
  | some c' => if c' = c then (match frzD ρ a, frzD ρ b with
      | some d, some e => if eqOk c e = true then (match fCall P [.val d, .val e] ρ with
        | some (.ok (.bl r) ρ') => some (.ok (.bl (r != neg)) ρ')
        | _ => none) else none
      | _, _ => none) else none
  | none => ret2 f a b ρ) ρ := (rfl)
@[simp] theorem mTry_ap (cs : List Nat) (c i : Nat) (hd : D → Option D) (mb : MS) (ρ : Env) : mTry cs c i hd mb ρ = (match mb ρ with
  | some (.exc c' (some dv) ρ') => if c' ∈ cs then (if c' = c then (if i < ρ'.length then (match hd dv with
      | none => none
      | some w => some (.rt w ρ')) else none) else some (.exc c' (some dv) ρ')) else none
  | some (.exc _ none _) => none
  | o => o) := by
  unfold mTry
  cases mb ρ with
  | none => rfl
  | some o =>
    cases o with
    | exc c' od ρ' =>
      cases od with
      | none => rfl
      | some dv => dsimp only; cases hd dv <;> rfl
    | _ => rfl
@[simp] theorem mTryN_ap (cs : List Nat) (ks : List Cd) (mb : MS) (ρ : Env) : mTryN cs ks mb ρ = (match mb ρ with
  | some (.exc c' (some dv) ρ') => if c' ∈ cs then goCl dv c' ρ' ks else none
  | some (.exc _ none _) => none
  | o => o) := (rfl)
@[simp] theorem goCl_nil (dv : D) (c' : Nat) (ρ' : Env) : goCl dv c' ρ' [] = some (.exc c' (some dv) ρ') := (rfl)
@[simp] theorem goCl_cons (dv : D) (c' : Nat) (ρ' : Env) (k : Cd) (r : List Cd) : goCl dv c' ρ' (k :: r) = if c' = k.c then (if k.i < ρ'.length then (match k.hd dv with
  | none => none
  | some w => some (.rt w ρ')) else none) else goCl dv c' ρ' r := by
  show (if c' = k.c then _ else _) = _
  cases k.hd dv <;> rfl
end L3
namespace Q
open PySem PySem.Spec PyProof.Rows L2 L3
theorem is_sequence_bor (ds : List D) : P_is_sequence [.bor ds] = some (.ret (.bl true) [.emp]) := by
  simp [P_is_sequence, m_is_sequence]
/-- a value that isinstance reads, its items too -/
def okEl (d : D) : Prop := notOb d = true ∧ ∀ ds, d = .tup ds → (∀ e ∈ ds, notOb e = true) ∧ ds.length ≤ sizeLine
def isBatchB (k : Int) : D → Bool
  | .tup ds => (decide ((ds.length : Int) = k) && ds.all isNumB) && decide (0 < (decT (.tup ds)).sum)
  | _ => false
theorem nums_ints {ds : List D} (h : ds.all isNumB = true) : ∃ ns : List Int, ds = ns.map D.int := by
  induction ds with
  | nil => exact ⟨[], rfl⟩
  | cons d ds ih =>
    simp only [List.all_cons, Bool.and_eq_true] at h
    obtain ⟨ns, rfl⟩ := ih h.2
    cases d with
    | int i => exact ⟨i :: ns, rfl⟩
    | _ => exact absurd h.1 (by simp [isNumB])
theorem is_batch_eq {k : Int} {d : D} (h : okEl d) : P_is_batch [.fz (.int k), .fz d] = some (.ret (.bl (isBatchB k d)) [.emp, .emp]) := by
  have h0 := h.1
  cases d with
  | tup ds =>
    obtain ⟨h1, h2⟩ := h.2 ds rfl
    have hc : compL [2] (gNm 2) mYes e1_is_batch (ds.map id) [.fz (.int k), .fz (.tup ds), .emp] [] = some ([] ++ ds.map (fun d => D.bl (isNumB d)), [.fz (.int k), .fz (.tup ds), .emp]) := by
      refine compL_yes (enc := id) (fun d => D.bl (isNumB d)) (by simpa using h2) fun t ht => ?_
      have e := is_number_eq (h1 t ht)
      simp [e1_is_batch, e]
    rw [List.map_id] at hc
    by_cases q1 : (ds.length : Int) = k
    · by_cases q2 : ds.all isNumB = true
      · obtain ⟨ns, hns⟩ := nums_ints q2
        have e : decT (.tup ds) = ns := by rw [hns]; exact decT_tupD ns
        have e2 : fSum (.tup ds) = some (.int ns.sum) := by rw [hns]; exact fSum_tup ns
        simp [P_is_batch, m_is_batch, isBatchB, q1, hc, q2, e, e2]
      · have q2' : ds.all isNumB = false := by simpa using q2
        simp [P_is_batch, m_is_batch, isBatchB, q1, hc]
        simp at q2
        simp [q2]
        obtain ⟨x, hx, hx2⟩ := q2
        intro hh
        rw [hh x hx] at hx2
        cases hx2
    · simp [P_is_batch, m_is_batch, isBatchB, q1]
  | ob _ _ => cases h0
  | dic _ _ _ => cases h0
  | fn _ => cases h0
  | _ => simp [P_is_batch, m_is_batch, isBatchB]
theorem batch_isB {k : Nat} {t : List Int} (h : BatchOk k t) : isBatchB ((k : Int) + 1) (tupD t) = true := by
  have e := decT_tupD t
  unfold tupD at e ⊢
  have := h.len
  have hp := h.pos
  simp [isBatchB, e, this, hp]
  intro x hx
  have := h.nn x hx
  simpa [isNumB] using this
theorem okEl_tupD {t : List Int} (h : t.length ≤ sizeLine) : okEl (tupD t) := by
  refine ⟨rfl, fun ds e => ?_⟩
  unfold tupD at e
  cases e
  refine ⟨fun e he => ?_, by simpa using h⟩
  obtain ⟨i, _, rfl⟩ := List.mem_map.mp he
  rfl
/-- a slot that shows these items one after another -/
def SeqSlot (s : Slot) (ds : List D) : Prop := s = .fz (.lst ds) ∨ s = .bor ds ∨ s = .fz (.tup ds)
theorem forL_inv_on {α : Type} {f : D → L3.Env → Option L3.Env} {b : MS} {enc : α → D} (I : List α → L3.Env → Prop) {ts : List α} {zs : List D} {ρ : L3.Env} (h0 : I [] ρ)
    (H : ∀ pre t post ρ, ts = pre ++ t :: post → I pre ρ → ∃ ρ1 ρ2, f (enc t) ρ = some ρ1 ∧ (b ρ1 = some (.nx ρ2) ∨ b ρ1 = some (.ct ρ2)) ∧ I (pre ++ [t]) ρ2) : ∃ ρ', forL f b (ts.map enc ++ zs) ρ = forL f b zs ρ' ∧ I ts ρ' := by
  have key : ∀ (post pre : List α) (ρ : L3.Env), ts = pre ++ post → I pre ρ → ∃ ρ', forL f b (post.map enc ++ zs) ρ = forL f b zs ρ' ∧ I ts ρ' := by
    intro post
    induction post with
    | nil =>
      intro pre ρ e hI
      rw [List.append_nil] at e
      subst e
      exact ⟨ρ, rfl, hI⟩
    | cons t post ih =>
      intro pre ρ e hI
      obtain ⟨ρ1, ρ2, h1, h2, h3⟩ := H pre t post ρ e hI
      obtain ⟨ρ', h4, h5⟩ := ih (pre ++ [t]) ρ2 (by rw [e]; simp) h3
      refine ⟨ρ', ?_, h5⟩
      rw [List.map_cons, List.cons_append, forL, h1, Option.bind_some]
      rcases h2 with h2 | h2 <;> rw [h2] <;> exact h4
  exact key ts [] ρ rfl h0
theorem fIn_tupT (x : List Int) (ts : List (List Int)) : fIn (tupD x) (.tup (ts.map tupD)) = some (.bl (decide (x ∈ ts))) := by
  rw [fIn_tup (okD_tupD 63 _) (by rw [okD_tup 63]; exact okDs_tups 62 _), any_tupD]
theorem take_app_lt {α β : Type} (f : α → β) (ts : List α) (zs : List β) {i : Nat} (h : i ≤ ts.length) : (ts.map f ++ zs).take i = (ts.take i).map f := by
  rw [List.take_append_of_le_length (by simpa using h), List.map_take]
theorem init_good {k : Nat} {s : Slot} {ts : List (List Int)} {zs : List D} {s3 s4 : Slot} (hk : k ≤ 9) (hs : SeqSlot s (ts.map tupD ++ zs)) (hb : ∀ t ∈ ts, BatchOk k t) (nd : ts.Nodup) (es : List D) :
    ∃ s3' s4', forL (gTp 2 (gC (gNm 3) (gC (gNm 4) gN0))) b1_init_Book ((ts.zipIdx.map fun p => D.tup [.int (p.2 : Nat), tupD p.1]) ++ es) [.raw, .fz (.int ((k : Int) + 1)), s, s3, s4] =
      forL (gTp 2 (gC (gNm 3) (gC (gNm 4) gN0))) b1_init_Book es [.raw, .fz (.int ((k : Int) + 1)), s, s3', s4'] := by
  obtain ⟨ρ', h1, s3', s4', rfl⟩ := forL_inv_on (f := gTp 2 (gC (gNm 3) (gC (gNm 4) gN0))) (b := b1_init_Book) (enc := fun p : List Int × Nat => D.tup [.int (p.2 : Nat), tupD p.1]) (fun _ ρ => ∃ s3 s4, ρ = [.raw, .fz (.int ((k : Int) + 1)), s, s3, s4])
    (ts := ts.zipIdx) (zs := es) (ρ := [.raw, .fz (.int ((k : Int) + 1)), s, s3, s4]) ⟨s3, s4, rfl⟩ fun pre t post ρ e hI => by
      obtain ⟨s3, s4, rfl⟩ := hI
      obtain ⟨hi, ht⟩ := zipIdx_get (p := t) (ts := ts) (by rw [e]; simp)
      obtain ⟨x, i⟩ := t
      dsimp only at hi ht ⊢
      have hx : x ∈ ts := List.mem_of_getElem? ht
      have e1 := is_batch_eq (k := (k : Int) + 1) (okEl_tupD (t := x) (sz_of (by have := (hb x hx).len; omega)))
      rw [batch_isB (hb x hx)] at e1
      have hn : x ∉ ts.take i := fun hm => by
        obtain ⟨j, hj, ej⟩ := List.mem_iff_getElem.mp hm
        rw [List.getElem_take] at ej
        have hj' : j < i := by rw [List.length_take] at hj; omega
        have ei : ts[i] = x := (List.getElem?_eq_some_iff.mp ht).2
        exact List.pairwise_iff_getElem.mp nd j i (by omega) hi hj' (ej.trans ei.symm)
      have f1 : fIn (tupD x) (.lst ((ts.map tupD ++ zs).take i)) = some (.bl false) := by rw [take_app_lt tupD ts zs (Nat.le_of_lt hi), fIn_tups, decide_eq_false hn]
      have f2 : fIn (tupD x) (.tup ((ts.map tupD ++ zs).take i)) = some (.bl false) := by rw [take_app_lt tupD ts zs (Nat.le_of_lt hi), fIn_tupT, decide_eq_false hn]
      generalize (ts.map tupD ++ zs) = al at hs f1 f2
      rcases hs with rfl | rfl | rfl
      · exact ⟨[.raw, .fz (.int ((k : Int) + 1)), .fz (.lst al), .fz (.int (i : Nat)), .fz (tupD x)], [.raw, .fz (.int ((k : Int) + 1)), .fz (.lst al), .fz (.int (i : Nat)), .fz (tupD x)], by simp, .inl (by simp [b1_init_Book, e1, cutD_take, f1]), _, _, rfl⟩
      · exact ⟨[.raw, .fz (.int ((k : Int) + 1)), .bor al, .fz (.int (i : Nat)), .fz (tupD x)], [.raw, .fz (.int ((k : Int) + 1)), .bor al, .fz (.int (i : Nat)), .fz (tupD x)], by simp, .inl (by simp [b1_init_Book, e1, cutD_take, f1]), _, _, rfl⟩
      · exact ⟨[.raw, .fz (.int ((k : Int) + 1)), .fz (.tup al), .fz (.int (i : Nat)), .fz (tupD x)], [.raw, .fz (.int ((k : Int) + 1)), .fz (.tup al), .fz (.int (i : Nat)), .fz (tupD x)], by simp, .inl (by simp [b1_init_Book, e1, cutD_take, f2]), _, _, rfl⟩
  exact ⟨s3', s4', h1⟩
/-- the instance of valid batches -/
def bookD (k : Nat) (ts : List (List Int)) : List D := [.int ((k : Int) + 1), .tup ((sortL ts).map tupD)]
theorem init_ok {k : Nat} {s : Slot} {ts : List (List Int)} (hk : k ≤ 9) (hs : SeqSlot s (ts.map tupD)) (hb : ∀ t ∈ ts, BatchOk k t) (nd : ts.Nodup) : P_init_Book [.fz (.int ((k : Int) + 1)), s] = some (.ok (bookD k ts)) := by
  obtain ⟨s3, s4, e⟩ := init_good (k := k) (s := s) (ts := ts) (zs := []) (s3 := .emp) (s4 := .emp) hk (by simpa using hs) hb nd []
  rw [List.append_nil] at e
  have hne := BooksOk.ne hb
  have hsrt := fSrt_tups hne
  have hsrt2 : fSrt (.tup (ts.map tupD)) = some ((sortL ts).map tupD) := hsrt
  have e0 := is_number_eq (d := .int ((k : Int) + 1)) rfl
  have hnn : (0 : Int) ≤ (k : Int) + 1 := by omega
  have hne1 : ¬ (k : Int) + 1 = 0 := by omega
  have e1 : P_is_sequence [.fz (.lst (ts.map tupD))] = some (.ret (.bl true) [.emp]) := is_sequence_eq rfl
  have e2 : P_is_sequence [.fz (.tup (ts.map tupD))] = some (.ret (.bl true) [.emp]) := is_sequence_eq rfl
  have e3 := is_sequence_bor (ts.map tupD)
  rcases hs with rfl | rfl | rfl
  · simp [P_init_Book, pIni_ap, m_init_Book, e0, isNumB, hnn, hne1, e1, enumD_map, e, forL, hsrt, bookD]
  · simp [P_init_Book, pIni_ap, m_init_Book, e0, isNumB, hnn, hne1, e3, enumD_map, e, forL, hsrt, bookD]
  · simp [P_init_Book, pIni_ap, m_init_Book, e0, isNumB, hnn, hne1, e2, enumD_map, e, forL, hsrt2, bookD]
end Q
namespace Q
open PySem PySem.Spec PyProof.Rows L2 L3
theorem eqDs_tups : ∀ {xs ys : List (List Int)}, eqDs (xs.map tupD) (ys.map tupD) = decide (xs = ys)
  | [], [] => by simp
  | [], _ :: _ => by simp
  | _ :: _, [] => by simp
  | x :: xs, y :: ys => by
    have ih := eqDs_tups (xs := xs) (ys := ys)
    simp [ih]
theorem fEq_tt (xs ys : List (List Int)) : fEq (.tup (xs.map tupD)) (.tup (ys.map tupD)) = some (.bl (decide (xs = ys))) := by
  rw [fEq_ok (by rw [okD_tup 63]; exact okDs_tups 62 _) (by rw [okD_tup 63]; exact okDs_tups 62 _), eqD_tup, eqDs_tups]
/-- a book as its class keeps it -/
def bk (a : Int) (xs : List (List Int)) : D := .ob 0 [.int a, .tup (xs.map tupD)]
theorem eqBook_bk (a b : Int) (xs ys : List (List Int)) : P_eqBook [.fz (bk a xs), .fz (bk b ys)] = some (.ret (.bl (decide (a = b) && decide (xs = ys))) [.emp, .emp]) := by
  by_cases q : a = b
  · simp [P_eqBook, m_eqBook, bk, q, fEq_tt]
  · simp [P_eqBook, m_eqBook, bk, q]
/-- a crowd that is one -/
structure CrowdOk (k : Nat) (d : D) (ns : List Int) : Prop where
  d_ : d = tupD ns ∨ d = .lst (ns.map D.int)
  nn : ∀ n ∈ ns, 0 ≤ n
  len : ns.length = k + 1
end Q
namespace Q
open PySem PySem.Spec PyProof.Rows L2 L3
section
variable {k : Nat} {xs : List (List Int)} {d : D} {ns : List Int} {a : Int} {r : D}
end
end Q
namespace Q
open PySem PySem.Spec PyProof.Rows L2 L3
theorem sortL_asc {k : Nat} {bs : List (List Int)} (h : BooksOk k bs) : sortL bs = bs := sortL_of h.asc (List.Perm.refl _)
end Q
namespace L3
open PySem PySem.Spec PyProof.Rows L2
@[simp] theorem mVarD_ap (i : Nat) (ρ : Env) : mVarD i ρ = (match sa ρ i with
  | some (.fz d) => some (.ok d ρ)
  | some (.own (.dic t ks vs)) => some (.ok (.dic t ks vs) (ρ.set i (.fz (.dic t ks vs))))
  | _ => none) := (rfl)
@[simp] theorem mDNew_ap (t : Bool) (ρ : Env) : mDNew t ρ = some (.ok (t, [], []) ρ) := (rfl)
@[simp] theorem mDisp1T_ap (mk mv : M D) (ρ : Env) : mDisp1T mk mv ρ = M.bind mk (fun d => M.bind mv fun e => fun ρ => if (keyOf true d).isSome = true then some (.ok (true, [d], [e]) ρ) else none) ρ := (rfl)
@[simp] theorem mOwnD_ap (i : Nat) (m : M Dn) (ρ : Env) : mOwnD i m ρ = (match m ρ with
  | none => none
  | some (.ok z ρ') => if i < ρ'.length then some (.nx (ρ'.set i (.own (.dic z.1 z.2.1 z.2.2)))) else none
  | some (.exc c d ρ') => some (.exc c d ρ')) := by
  unfold mOwnD; rw [thenS_ap]
  cases m ρ with
  | none => rfl
  | some o => cases o <;> rfl
@[simp] theorem mPFreshD_ap (m : M Dn) (n : M (List Pe)) (ρ : Env) : mPFreshD m n ρ = M.bind m (fun z => fun ρ => match n ρ with
  | some (.ok ps ρ') => some (.ok (.freshD z.1 z.2.1 z.2.2 :: ps) ρ')
  | _ => none) ρ := (rfl)
@[simp] theorem slot_freshD (t : Bool) (ks vs : List D) : Pe.slot (.freshD t ks vs) = .own (.dic t ks vs) := (rfl)
@[simp] theorem slotDic_own (t : Bool) (ks vs : List D) : slotDic (.own (.dic t ks vs)) = some (t, ks, vs) := (rfl)
@[simp] theorem slotPutD_own (c : Ct2) (t : Bool) (ks vs : List D) : slotPutD (.own c) t ks vs = .own (.dic t ks vs) := (rfl)
@[simp] theorem dicAt_ap (ρ : Env) (i : Nat) : dicAt ρ i = (match sa ρ i with
  | some s => slotDic s
  | none => none) := by
  show (ρ[i]?).bind slotDic = (match ρ[i]? with | some s => slotDic s | none => none)
  cases ρ[i]? <;> rfl
@[simp] theorem putD_ap (ρ : Env) (i : Nat) (t : Bool) (ks vs : List D) : putD ρ i t ks vs = ρ.set i (slotPutD ((sa ρ i).getD .emp) t ks vs) := (rfl)
@[simp] theorem mDPut_ap (i : Nat) (mk : M Bv) (mv : M D) (ρ : Env) : mDPut i mk mv ρ = (match mv ρ with
  | none => none
  | some (.exc c d ρ') => some (.exc c d ρ')
  | some (.ok y ρ1) => (match dicAt ρ1 i with
    | none => none
    | some _ => (match mk ρ1 with
      | none => none
      | some (.exc c d ρ') => some (.exc c d ρ')
      | some (.ok b ρ2) => (match dicAt ρ2 i, deref ρ2 b with
        | some (t, ks, vs), some e => if (keyOf t e).isSome = true ∧ ks.length < sizeLine then some (.nx (putD ρ2 i t (dPut t ks vs e y).1 (dPut t ks vs e y).2)) else none
        | _, _ => none)))) := by
  unfold mDPut
  rw [thenS_ap]
  cases mv ρ with
  | none => rfl
  | some o =>
    cases o with
    | exc c d ρ' => rfl
    | ok y ρ1 =>
      dsimp only
      cases dicAt ρ1 i with
      | none => rfl
      | some z =>
        dsimp only
        rw [thenS_ap]
        cases mk ρ1 with
        | none => rfl
        | some o2 => cases o2 <;> rfl
@[simp] theorem mKeys_ap (m : M D) (ρ : Env) : mKeys m ρ = (match m ρ with
  | none => none
  | some (.ok (.dic _ ks _) ρ') => some (.ok (ks, []) ρ')
  | some (.ok _ _) => none
  | some (.exc c d ρ') => some (.exc c d ρ')) := by
  unfold mKeys
  rw [bind_ap]
  cases m ρ with
  | none => rfl
  | some o =>
    cases o with
    | exc c d ρ' => rfl
    | ok d ρ' => cases d <;> rfl
@[simp] theorem mItems_ap (t : Bool) (m : M D) (ρ : Env) : mItems t m ρ = (match m ρ with
  | none => none
  | some (.ok (.dic t' ks vs) ρ') => if t' = t then some (.ok (itemsD ks vs, []) ρ') else none
  | some (.ok _ _) => none
  | some (.exc c d ρ') => some (.exc c d ρ')) := by
  unfold mItems
  rw [bind_ap]
  cases m ρ with
  | none => rfl
  | some o =>
    cases o with
    | exc c d ρ' => rfl
    | ok d ρ' => cases d <;> rfl
@[simp] theorem mDGet1_ap (ma : M D) (mb : M Bv) (ρ : Env) : mDGet1 ma mb ρ = (match ma ρ with
  | none => none
  | some (.ok (.dic t ks vs) ρ1) => (match mb ρ1 with
    | none => none
    | some (.ok b ρ2) => (match deref ρ2 b with
      | some e => if (keyOf t e).isSome = true then some (.ok ((dFind t ks vs e).getD .non) ρ2) else none
      | none => none)
    | some (.exc c d ρ') => some (.exc c d ρ'))
  | some (.ok _ _) => none
  | some (.exc c d ρ') => some (.exc c d ρ')) := by
  unfold mDGet1
  rw [bind_ap]
  cases ma ρ with
  | none => rfl
  | some o =>
    cases o with
    | exc c d ρ' => rfl
    | ok d ρ' =>
      cases d with
      | dic t ks vs =>
        dsimp only
        rw [bind_ap]
        cases mb ρ' with
        | none => rfl
        | some o2 => cases o2 <;> rfl
      | _ => rfl
@[simp] theorem mDGet2_ap (ma : M D) (mb : M Bv) (mc : M D) (ρ : Env) : mDGet2 ma mb mc ρ = (match ma ρ with
  | none => none
  | some (.ok (.dic t ks vs) ρ1) => (match mb ρ1 with
    | none => none
    | some (.ok b ρ2) => (match mc ρ2 with
      | none => none
      | some (.ok z ρ3) => (match deref ρ3 b with
        | some e => if (keyOf t e).isSome = true then some (.ok ((dFind t ks vs e).getD z) ρ3) else none
        | none => none)
      | some (.exc c d ρ') => some (.exc c d ρ'))
    | some (.exc c d ρ') => some (.exc c d ρ'))
  | some (.ok _ _) => none
  | some (.exc c d ρ') => some (.exc c d ρ')) := by
  unfold mDGet2
  rw [bind_ap]
  cases ma ρ with
  | none => rfl
  | some o =>
    cases o with
    | exc c d ρ' => rfl
    | ok d ρ' =>
      cases d with
      | dic t ks vs =>
        dsimp only
        rw [bind_ap]
        cases mb ρ' with
        | none => rfl
        | some o2 =>
          cases o2 with
          | exc _ _ _ => rfl
          | ok b ρ2 =>
            dsimp only
            rw [bind_ap]
            cases mc ρ2 with
            | none => rfl
            | some o3 => cases o3 <;> rfl
      | _ => rfl
@[simp] theorem mChain_ap (f f' : D → D → Option D) (ma mb mc : M Bv) (ρ : Env) : mChain f f' ma mb mc ρ = M.bind ma (fun a => M.bind mb fun b => M.bind (ret2 f a b) fun z => match z with
  | .bl true => M.bind mc fun c => ret2 f' b c
  | .bl false => M.ret (.bl false)
  | _ => fun _ => none) ρ := (rfl)
@[simp] theorem mListRg_ap (m : M Bv) (ρ : Env) : mListRg m ρ = (match m ρ with
  | none => none
  | some (.ok a ρ') => (match deref ρ' a with
    | some (.int j) => if inB j = true ∧ j.toNat ≤ 2 ^ 24 then some (.ok (rangeD 0 j.toNat) ρ') else none
    | _ => none)
  | some (.exc c d ρ') => some (.exc c d ρ')) := by
  unfold mListRg
  rw [bind_ap]
  cases m ρ with
  | none => rfl
  | some o => cases o <;> rfl
@[simp] theorem mStar_ap (m : M D) (n : M (List D)) (ρ : Env) : mStar m n ρ = (match m ρ with
  | none => none
  | some (.ok (.lst ds) ρ') => M.map (ds ++ ·) n ρ'
  | some (.ok (.tup ds) ρ') => M.map (ds ++ ·) n ρ'
  | some (.ok _ _) => none
  | some (.exc c d ρ') => some (.exc c d ρ')) := by
  unfold mStar
  rw [bind_ap]
  cases m ρ with
  | none => rfl
  | some o =>
    cases o with
    | exc c d ρ' => rfl
    | ok d ρ' => cases d <;> rfl
theorem ksOf_ints : ∀ ns : List Int, ksOf (ns.map D.int) = some (ns.map Sum.inl)
  | [] => rfl
  | n :: ns => by simp only [List.map_cons, ksOf, k1Of, Option.bind_some, ksOf_ints ns, Option.map_some]
@[simp] theorem keyOf_tupD (ns : List Int) : keyOf true (tupD ns) = some (.inr (ns.map Sum.inl)) := by
  simp only [tupD, keyOf, ksOf_ints, Option.map_some]
@[simp] theorem keyEq_tupD (a b : List Int) : keyEq true (tupD a) (tupD b) = decide (a = b) := by
  unfold keyEq
  rw [keyOf_tupD, keyOf_tupD]
  simp only [Sum.inr.injEq]
  have : (a.map (Sum.inl : Int → L2.Key) = b.map Sum.inl) ↔ a = b := List.map_inj_right (fun x y h => by injection h)
  simp only [this]
@[simp] theorem fDLen_dic (t : Bool) (ks vs : List D) : fDLen (.dic t ks vs) = some (.int (ks.length : Nat)) := (rfl)
end L3
namespace Q
open PySem PySem.Spec PyProof.Rows L2 L3
def digS : List Nat := ("0123456789" : Str).cps.toList
/-- a number's word, as the program takes it -/
def wordOk (w : Str) : Bool := decide (1 ≤ w.length) && decide (w.length ≤ 2) && w.cps.toList.all (fun c => decide (c ∈ digS)) && !(decide (w.length = 2) && decide (w.cps.toList[0]? = some 48))
theorem okD_str {z : Str} (h : PyData.strOk z = true) : okD 64 (.str z) = true := by simp [okD, h]
theorem fEq_str {y z : Str} (h : PyData.strOk y = true) (h' : PyData.strOk z = true) : fEq (.str y) (.str z) = some (.bl (decide (y = z))) := by
  rw [fEq_ok (okD_str h) (okD_str h')]; simp [eqD]; by_cases e : y = z <;> simp [e]
theorem fNe_str {y z : Str} (h : PyData.strOk y = true) (h' : PyData.strOk z = true) : fNe (.str y) (.str z) = some (.bl (!decide (y = z))) := by
  rw [fNe_ok (okD_str h) (okD_str h')]; simp [eqD]; by_cases e : y = z <;> simp [e]
theorem len_eq (w : Str) : w.length = w.cps.toList.length := by simp [Str.length]
theorem word_all {w : Str} {a b : D} (hl : w.length ≤ sizeLine) : compL [3] (gNm 3) mYes e2_numbers_of (L3.signs w) [.fz a, .fz b, .fz (.str w), .emp] [] = some (w.cps.toList.map (fun c => D.bl (decide (c ∈ digS))), [.fz a, .fz b, .fz (.str w), .emp]) := by
  have h := compL_yes (vs := [3]) (f := gNm 3) (me := e2_numbers_of) (enc := fun c : Nat => D.str ⟨#[c]⟩) (ρ := [.fz a, .fz b, .fz (.str w), .emp]) (acc := []) (fun c => D.bl (decide (c ∈ digS))) (ts := w.cps.toList) (by rw [List.length_nil, Nat.zero_add, ← len_eq]; exact hl) fun c hc =>
    ⟨[.fz a, .fz b, .fz (.str w), .fz (.str ⟨#[c]⟩)], by simp, [.fz a, .fz b, .fz (.str w), .fz (.str ⟨#[c]⟩)], by simp [e2_numbers_of, fInSign, digS], by simp⟩
  exact h
theorem str1_ok {x : Nat} (hx : x ∈ digS) : PyData.strOk ⟨#[x]⟩ = true := (by decide +kernel : ∀ q ∈ digS, PyData.strOk ⟨#[q]⟩ = true) x hx
theorem str1_eq (x : Nat) : decide ((⟨#[x]⟩ : Str) = "0") = decide (x = 48) := decide_eq_decide.mpr ⟨fun h => by
  have h' : (#[x] : Array Nat) = #[48] := congrArg Str.cps (h.trans (by decide +kernel : ("0" : Str) = ⟨#[48]⟩))
  simpa using h', fun h => by subst h; decide +kernel⟩
theorem first_sign {w : Str} (c3 : w.length = 2) (ha : w.cps.toList.all (fun c => decide (c ∈ digS)) = true) : ∃ x, fIx (.str w) (.int 0) = some (.str ⟨#[x]⟩) ∧ x ∈ digS ∧ w.cps.toList[0]? = some x := by
  obtain ⟨⟨l⟩⟩ := w
  have hl2 : l.length = 2 := by rw [← c3]; simp [Str.length]
  match l, hl2 with
  | [x, y], _ => exact ⟨x, by simp [fIx, Str.length, sizeLine_eq, atI, ixN], by simp at ha; exact ha.1, rfl⟩
theorem word_step {w : Str} {a b : D} (hz : w.length ≤ 1000) : b3_numbers_of [.fz a, .fz b, .fz (.str w), .emp] = (if wordOk w = true then some (.nx [.fz a, .fz b, .fz (.str w), .emp]) else some (.exc 15 (some b) [.fz a, .fz b, .fz (.str w), .emp])) := by
  have hz' : w.length ≤ sizeLine := by rw [sizeLine_eq]; omega
  have hl : fLen (.str w) = some (.int (w.length : Nat)) := by simp [fLen, hz']
  have h1 := word_all (w := w) (a := a) (b := b) hz'
  have h2 := fAll_map (fun c => decide (c ∈ digS)) w.cps.toList
  generalize ha : w.cps.toList.all (fun c => decide (c ∈ digS)) = al at h2
  have hle := len_eq w
  by_cases c1 : 1 ≤ w.length
  · have d1 : ((1 : Int) ≤ (w.length : Int)) = True := eq_true (by omega)
    by_cases c2 : w.length ≤ 2
    · have d2 : ((w.length : Int) ≤ 2) = True := eq_true (by omega)
      cases al with
      | false => 
        simp [b3_numbers_of, hl, c1, c2, d1, d2, mSigns, h1, h2, wordOk, ha]
      | true => 
        by_cases c3 : w.length = 2
        · have d3 : ((w.length : Int) = 2) = True := eq_true (by omega)
          obtain ⟨x, e1, hx, e0⟩ := first_sign c3 ha
          have e2 := fEq_str (str1_ok hx) (z := "0") (by decide +kernel)
          rw [str1_eq] at e2
          have hw : wordOk w = !decide (x = 48) := by simp [wordOk, c1, c2, c3, ha, e0]
          rw [hw]
          generalize decide (x = 48) = B at e2
          cases B <;> simp [b3_numbers_of, hl, c1, c2, c3, d1, d2, d3, mSigns, h1, h2, e1, e2]
        · have d3 : ((w.length : Int) = 2) = False := eq_false (by omega)
          simp [b3_numbers_of, hl, c1, c2, d1, d2, mSigns, h1, h2, wordOk, ha, c3, d3]
    · have d2 : ((w.length : Int) ≤ 2) = False := eq_false (by omega)
      simp [b3_numbers_of, hl, c1, c2, d1, d2, wordOk]
  · have d1 : ((1 : Int) ≤ (w.length : Int)) = False := eq_false (by omega)
    simp [b3_numbers_of, hl, c1, d1, wordOk]
theorem numbers_loop {a b : D} : ∀ {ws : List Str}, (∀ w ∈ ws, w.length ≤ 1000) → ∀ s2 : L3.Slot, ∃ s2' : L3.Slot, forL (gNm 2) b3_numbers_of (ws.map D.str) [.fz a, .fz b, s2, .emp] =
    (if ws.all wordOk = true then some (.nx [.fz a, .fz b, s2', .emp]) else some (.exc 15 (some b) [.fz a, .fz b, s2', .emp]))
  | [], _, s2 => ⟨s2, by simp [forL]⟩
  | w :: ws, h, s2 => by
    obtain ⟨s2', e⟩ := numbers_loop (a := a) (b := b) (ws := ws) (fun x hx => h x (List.mem_cons_of_mem _ hx)) (.fz (.str w))
    have e1 := word_step (w := w) (a := a) (b := b) (h w (List.mem_cons_self ..))
    cases hw : wordOk w with
    | true =>
      rw [hw, if_pos rfl] at e1
      exact ⟨s2', by simp [forL, e1, e, hw]⟩
    | false =>
      rw [hw, if_neg (by decide)] at e1
      exact ⟨.fz (.str w), by simp [forL, e1, hw]⟩
/-- the text of a number -/
def numS (n : Int) : Str := toString n
theorem num_ok : ∀ n : Fin 100, wordOk (numS ((n.1 : Nat) : Int)) = true ∧ PySem.intText? (numS ((n.1 : Nat) : Int)) = some ((n.1 : Nat) : Int) ∧ (numS ((n.1 : Nat) : Int)).length ≤ 2 ∧ 32 ∉ (numS ((n.1 : Nat) : Int)).cps.toList ∧ 10 ∉ (numS ((n.1 : Nat) : Int)).cps.toList := by decide +kernel
structure NumI (n : Int) : Prop where
  ok : wordOk (numS n) = true
  val : PySem.intText? (numS n) = some n
  len : (numS n).length ≤ 2
  sp : 32 ∉ (numS n).cps.toList
  nl : 10 ∉ (numS n).cps.toList
theorem numI {n : Int} (h0 : 0 ≤ n) (h1 : n < 100) : NumI n := by
  obtain ⟨m, rfl⟩ := Int.eq_ofNat_of_zero_le h0
  obtain ⟨a, b, c, d, e⟩ := num_ok ⟨m, by omega⟩
  exact ⟨a, b, c, d, e⟩
theorem numbers_bad {ws : List Str} {b : D} (hz : ∀ w ∈ ws, w.length ≤ 1000) (h : ws.all wordOk = false) : P_numbers_of [.fz (.lst (ws.map D.str)), .fz b] = some (.exc 15 (some b) [.emp, .emp]) := by
  obtain ⟨s2', e⟩ := numbers_loop (a := .lst (ws.map D.str)) (b := b) hz .emp
  rw [h, if_neg (by decide)] at e
  simp [P_numbers_of, m_numbers_of, e]
theorem numbers_ok {ns : List Int} {b : D} (h : ∀ n ∈ ns, 0 ≤ n ∧ n < 100) (hl : ns.length ≤ 1000) : P_numbers_of [.fz (.lst ((ns.map numS).map D.str)), .fz b] = some (.ret (tupD ns) [.emp, .emp]) := by
  obtain ⟨s2', e⟩ := numbers_loop (a := .lst ((ns.map numS).map D.str)) (b := b) (ws := ns.map numS) (fun w hw => by
    obtain ⟨n, hn, rfl⟩ := List.mem_map.mp hw
    have := (numI (h n hn).1 (h n hn).2).len
    omega) .emp
  have hall : (ns.map numS).all wordOk = true := List.all_eq_true.mpr fun w hw => by
    obtain ⟨n, hn, rfl⟩ := List.mem_map.mp hw
    exact (numI (h n hn).1 (h n hn).2).ok
  rw [hall, if_pos rfl] at e
  have e2 : ∀ s2 : L3.Slot, compL [2] (gNm 2) mYes e1_numbers_of ((ns.map numS).map D.str) [.fz (.lst ((ns.map numS).map D.str)), .fz b, .emp, .emp] [] = some (ns.map D.int, [.fz (.lst ((ns.map numS).map D.str)), .fz b, .emp, .emp]) := fun s2 => by
    have q := compL_yes (vs := [2]) (f := gNm 2) (me := e1_numbers_of) (enc := fun n : Int => D.str (numS n)) (ρ := [.fz (.lst ((ns.map numS).map D.str)), .fz b, .emp, .emp]) (acc := []) D.int (ts := ns) (by rw [List.length_nil, Nat.zero_add]; exact sz_of (by omega)) fun n hn => by
      have := numI (h n hn).1 (h n hn).2
      have hlen : (numS n).length ≤ 640 := by have := this.len; omega
      exact ⟨[.fz (.lst ((ns.map numS).map D.str)), .fz b, .fz (.str (numS n)), .emp], by simp, [.fz (.lst ((ns.map numS).map D.str)), .fz b, .fz (.str (numS n)), .emp], by simp [e1_numbers_of, fIntS, this.val, hlen], by simp⟩
    rw [show (ns.map fun n => D.str (numS n)) = (ns.map numS).map D.str by rw [List.map_map]; rfl] at q
    exact q
  have e3 := e2 .emp
  generalize hWS : (ns.map numS).map D.str = WS at e e3 ⊢
  cases s2' <;> simp [P_numbers_of, m_numbers_of, e, e3] <;> rfl
end Q
namespace Q
open PySem PySem.Spec PyProof.Rows L2 L3
theorem lexAt_shift (e r : Nat → Bool) (z : Bool) : ∀ k i, Ob.lexAt e r z (i + 1) k = Ob.lexAt (fun j => e (j + 1)) (fun j => r (j + 1)) z i k
  | 0, _ => rfl
  | k + 1, i => by rw [Ob.lexAt_succ, Ob.lexAt_succ, lexAt_shift e r z k (i + 1)]
theorem leTup_eq : ∀ ns ms : List Int, leTup ns ms = leL ns ms
  | [], ms => by cases ms <;> simp [leTup, leL, L3S.ltL, Ob.lexAt]
  | n :: ns, [] => by simp [leTup, leL, L3S.ltL, Ob.lexAt]
  | n :: ns, m :: ms => by
    have ih := leTup_eq ns ms
    unfold leTup at ih ⊢
    have e1 : min (n :: ns).length (m :: ms).length = min ns.length ms.length + 1 := by simp only [List.length_cons]; omega
    rw [e1, Ob.lexAt_succ, lexAt_shift]
    have e2 : decide ((n :: ns).length ≤ (m :: ms).length) = decide (ns.length ≤ ms.length) := by simp
    rw [e2]
    simp only [List.getD_cons_succ, List.getD_cons_zero, decide_eq_true_eq]
    rw [ih]
    unfold leL
    simp only [L3S.ltL]
    by_cases q : n = m
    · subst q; simp
    · rw [if_neg q, if_neg (fun z => q z.symm)]
      by_cases h : n ≤ m
      · simp [h]; 
      · simp [h]; omega
theorem sp_tl : TL.tl (" " : Str) = [32] := by decide +kernel
theorem nl_tl : TL.tl ("\n" : Str) = [10] := by decide +kernel
theorem join_tl (y : Str) (ps : List Str) : TL.tl (Txt.join y ps) = TL.joinL (TL.tl y) (ps.map TL.tl) := by rw [TL.join_eq, TL.tl_join]
theorem joinL_len (S : List Nat) : ∀ ps : List (List Nat), (TL.joinL S ps).length ≤ (ps.map (·.length)).sum + ps.length * S.length
  | [] => by simp [TL.joinL]
  | [p] => by simp [TL.joinL]
  | p :: q :: r => by
    have ih := joinL_len S (q :: r)
    simp only [TL.joinL, List.length_append, List.map_cons, List.sum_cons, List.length_cons] at ih ⊢
    have : (r.length + 1 + 1) * S.length = (r.length + 1) * S.length + S.length := Nat.succ_mul ..
    omega
theorem joinL_mem {S : List Nat} {c : Nat} : ∀ {ps : List (List Nat)}, c ∈ TL.joinL S ps → c ∈ S ∨ ∃ p ∈ ps, c ∈ p
  | [], h => by simp [TL.joinL] at h
  | [p], h => .inr ⟨p, List.mem_singleton.mpr rfl, h⟩
  | p :: q :: r, h => by
    simp only [TL.joinL, List.mem_append] at h
    rcases h with h | h | h
    · exact .inr ⟨p, List.mem_cons_self .., h⟩
    · exact .inl h
    · rcases joinL_mem h with h | ⟨x, hx, h⟩
      · exact .inl h
      · exact .inr ⟨x, List.mem_cons_of_mem _ hx, h⟩
theorem sum_le_of {α : Type} {f : α → Nat} {m : Nat} : ∀ {ts : List α}, (∀ t ∈ ts, f t ≤ m) → (ts.map f).sum ≤ ts.length * m
  | [], _ => by simp
  | t :: ts, h => by
    have ih := sum_le_of (ts := ts) fun x hx => h x (List.mem_cons_of_mem _ hx)
    have := h t (List.mem_cons_self ..)
    rw [List.map_cons, List.sum_cons, List.length_cons, Nat.succ_mul]
    omega
/-- a word, a line -/
structure WordF (w : Str) : Prop where
  sp : 32 ∉ TL.tl w
  nl : 10 ∉ TL.tl w
  len : w.length ≤ 10
  ok : ∀ c ∈ TL.tl w, c < 128
structure LineF (w : Str) : Prop where
  nl : 10 ∉ TL.tl w
  len : w.length ≤ 300
  ok : ∀ c ∈ TL.tl w, c < 128
def lnS (ws : List Str) : Str := Txt.join " " ws
def txS (ls : List Str) : Str := Txt.join "\n" ls
theorem tl_len (w : Str) : (TL.tl w).length = w.length := TL.len_tl w
theorem lnS_ok {ws : List Str} (h : ∀ w ∈ ws, WordF w) (hl : ws.length ≤ 20) : LineF (lnS ws) := by
  have key : ∀ c ∈ TL.tl (lnS ws), c = 32 ∨ ∃ w ∈ ws, c ∈ TL.tl w := fun c hc => by
    unfold lnS at hc
    rw [join_tl, sp_tl] at hc
    rcases joinL_mem hc with hc | ⟨p, hp, hc⟩
    · exact .inl (List.mem_singleton.mp hc)
    · obtain ⟨w, hw, rfl⟩ := List.mem_map.mp hp
      exact .inr ⟨w, hw, hc⟩
  refine ⟨fun hc => ?_, ?_, fun c hc => ?_⟩
  · rcases key _ hc with e | ⟨w, hw, hc⟩
    · cases e
    · exact (h w hw).nl hc
  · rw [← tl_len]
    unfold lnS
    rw [join_tl, sp_tl]
    have h1 := joinL_len [32] (ws.map TL.tl)
    rw [List.map_map, List.length_map] at h1
    have h2 : (ws.map (List.length ∘ TL.tl)).sum ≤ ws.length * 10 := sum_le_of fun w hw => by show (TL.tl w).length ≤ 10; rw [tl_len]; exact (h w hw).len
    have h3 : ws.length * [32].length = ws.length := by simp
    have h4 : (ws.map ((fun x => x.length) ∘ TL.tl)).sum = (ws.map (List.length ∘ TL.tl)).sum := rfl
    omega
  · rcases key _ hc with e | ⟨w, hw, hc⟩
    · omega
    · exact (h w hw).ok c hc
theorem fJoin_ln {ws : List Str} (h : ∀ w ∈ ws, WordF w) (hl : ws.length ≤ 20) : fJoin " " (.lst (ws.map D.str)) = some (.str (lnS ws)) := by
  have hb : joinB " " ws = true := by
    unfold joinB
    have h2 : (ws.map (·.length)).sum ≤ ws.length * 10 := sum_le_of fun w hw => (h w hw).len
    have h3 : (" " : Str).length = 1 := by decide +kernel
    rw [h3]
    exact decide_eq_true (by omega)
  simp [fJoin, joinS, toStrs_map, hb, lnS]
theorem fSplit_ln {ws : List Str} (h : ∀ w ∈ ws, WordF w) (hl : ws.length ≤ 20) (hne : ws ≠ []) : fSplit " " (.str (lnS ws)) = some (ws.map D.str) := by
  have h1 := (lnS_ok h hl).len
  have hb : splB (lnS ws) " " = true := by
    unfold splB
    have h3 : ((" " : Str).length == 0) = false := by decide +kernel
    rw [h3, decide_eq_true (by rw [sizeLine_eq]; omega)]; rfl
  have e := TL.split_join (y := " ") (s := 32) (S := []) sp_tl (by decide +kernel) hne fun p hp => (h p hp).sp
  simp only [fSplit, hb, if_true]
  unfold lnS
  rw [e]
theorem txS_ok {ls : List Str} (h : ∀ w ∈ ls, LineF w) (hl : ls.length ≤ 100) : (txS ls).length ≤ 40000 ∧ ∀ c ∈ TL.tl (txS ls), c < 128 := by
  constructor
  · rw [← tl_len]
    unfold txS
    rw [join_tl, nl_tl]
    have h1 := joinL_len [10] (ls.map TL.tl)
    rw [List.map_map, List.length_map] at h1
    have h2 : (ls.map (List.length ∘ TL.tl)).sum ≤ ls.length * 300 := sum_le_of fun w hw => by show (TL.tl w).length ≤ 300; rw [tl_len]; exact (h w hw).len
    have h3 : ls.length * [10].length = ls.length := by simp
    have h4 : (ls.map ((fun x => x.length) ∘ TL.tl)).sum = (ls.map (List.length ∘ TL.tl)).sum := rfl
    omega
  · intro c hc
    unfold txS at hc
    rw [join_tl, nl_tl] at hc
    rcases joinL_mem hc with hc | ⟨p, hp, hc⟩
    · rw [List.mem_singleton.mp hc]; omega
    · obtain ⟨w, hw, rfl⟩ := List.mem_map.mp hp
      exact (h w hw).ok c hc
theorem fJoin_tx {ls : List Str} (h : ∀ w ∈ ls, LineF w) (hl : ls.length ≤ 100) : fJoin "\n" (.lst (ls.map D.str)) = some (.str (txS ls)) := by
  have hb : joinB "\n" ls = true := by
    unfold joinB
    have h2 : (ls.map (·.length)).sum ≤ ls.length * 300 := sum_le_of fun w hw => (h w hw).len
    have h3 : ("\n" : Str).length = 1 := by decide +kernel
    rw [h3]
    exact decide_eq_true (by omega)
  simp [fJoin, joinS, toStrs_map, hb, txS]
theorem fSplit_tx {ls : List Str} (h : ∀ w ∈ ls, LineF w) (hl : ls.length ≤ 100) (hne : ls ≠ []) : fSplit "\n" (.str (txS ls)) = some (ls.map D.str) := by
  have h1 := (txS_ok h hl).1
  have hb : splB (txS ls) "\n" = true := by
    unfold splB
    have h3 : (("\n" : Str).length == 0) = false := by decide +kernel
    rw [h3, decide_eq_true (by rw [sizeLine_eq]; omega)]; rfl
  have e := TL.split_join (y := "\n") (s := 10) (S := []) nl_tl (by decide +kernel) hne fun p hp => (h p hp).nl
  simp only [fSplit, hb, if_true]
  unfold txS
  rw [e]
theorem joinL_snoc (S : List Nat) : ∀ ps : List (List Nat), ps ≠ [] → TL.joinL S (ps ++ [[]]) = TL.joinL S ps ++ S
  | [], h => absurd rfl h
  | [p], _ => by simp [TL.joinL]
  | p :: q :: r, _ => by
    have ih := joinL_snoc S (q :: r) (by simp)
    simp only [List.cons_append, TL.joinL] at ih ⊢
    rw [ih]
    simp [List.append_assoc]
theorem txS_snoc {ls : List Str} (h : ls ≠ []) : txS (ls ++ ([""] : List Str)) = txS ls ++ ("\n" : Str) := by
  refine TL.ext_tl ?_
  rw [TL.tl_append]
  unfold txS
  rw [join_tl, join_tl, List.map_append]
  have e : ([""] : List Str).map TL.tl = [[]] := by decide +kernel
  rw [e]
  exact joinL_snoc _ _ (by simpa using h)
theorem strOk_of {z : Str} (h : ∀ c ∈ TL.tl z, c < 128) : PyData.strOk z = true := by
  unfold PyData.strOk
  rw [Array.all_eq_true']
  intro c hc
  have := h c (by simpa [TL.tl] using hc)
  exact decide_eq_true (by omega)
end Q
namespace Q
open PySem PySem.Spec PyProof.Rows L2 L3
structure RowP (k : Nat) (b : List Int) : Prop where
  len : b.length = k + 1
  nn : ∀ x ∈ b, 0 ≤ x
  pos : 0 < b.sum
  lt : ∀ x ∈ b, x < 100
theorem rows_ne {k : Nat} {bs : List (List Int)} (h : ∀ b ∈ bs, RowP k b) : ∀ t ∈ bs, t ≠ [] := fun t ht e => by
  have := (h t ht).len
  rw [e] at this
  simp at this
theorem row_isB {k : Nat} {t : List Int} (h : RowP k t) : isBatchB ((k : Int) + 1) (tupD t) = true := by
  have e := decT_tupD t
  unfold tupD at e ⊢
  have := h.len
  have hp := h.pos
  simp [isBatchB, e, this, hp]
  intro x hx
  have := h.nn x hx
  simpa [isNumB] using this
theorem init_goodR {k : Nat} {s : Slot} {ts : List (List Int)} {zs : List D} {s3 s4 : Slot} (hk : k ≤ 9) (hs : SeqSlot s (ts.map tupD ++ zs)) (hb : ∀ t ∈ ts, RowP k t) (nd : ts.Nodup) (es : List D) :
    ∃ s3' s4', forL (gTp 2 (gC (gNm 3) (gC (gNm 4) gN0))) b1_init_Book ((ts.zipIdx.map fun p => D.tup [.int (p.2 : Nat), tupD p.1]) ++ es) [.raw, .fz (.int ((k : Int) + 1)), s, s3, s4] =
      forL (gTp 2 (gC (gNm 3) (gC (gNm 4) gN0))) b1_init_Book es [.raw, .fz (.int ((k : Int) + 1)), s, s3', s4'] := by
  obtain ⟨ρ', h1, s3', s4', rfl⟩ := forL_inv_on (f := gTp 2 (gC (gNm 3) (gC (gNm 4) gN0))) (b := b1_init_Book) (enc := fun p : List Int × Nat => D.tup [.int (p.2 : Nat), tupD p.1]) (fun _ ρ => ∃ s3 s4, ρ = [.raw, .fz (.int ((k : Int) + 1)), s, s3, s4])
    (ts := ts.zipIdx) (zs := es) (ρ := [.raw, .fz (.int ((k : Int) + 1)), s, s3, s4]) ⟨s3, s4, rfl⟩ fun pre t post ρ e hI => by
      obtain ⟨s3, s4, rfl⟩ := hI
      obtain ⟨hi, ht⟩ := zipIdx_get (p := t) (ts := ts) (by rw [e]; simp)
      obtain ⟨x, i⟩ := t
      dsimp only at hi ht ⊢
      have hx : x ∈ ts := List.mem_of_getElem? ht
      have e1 := is_batch_eq (k := (k : Int) + 1) (okEl_tupD (t := x) (sz_of (by have := (hb x hx).len; omega)))
      rw [row_isB (hb x hx)] at e1
      have hn : x ∉ ts.take i := fun hm => by
        obtain ⟨j, hj, ej⟩ := List.mem_iff_getElem.mp hm
        rw [List.getElem_take] at ej
        have hj' : j < i := by rw [List.length_take] at hj; omega
        have ei : ts[i] = x := (List.getElem?_eq_some_iff.mp ht).2
        exact List.pairwise_iff_getElem.mp nd j i (by omega) hi hj' (ej.trans ei.symm)
      have f1 : fIn (tupD x) (.lst ((ts.map tupD ++ zs).take i)) = some (.bl false) := by rw [take_app_lt tupD ts zs (Nat.le_of_lt hi), fIn_tups, decide_eq_false hn]
      have f2 : fIn (tupD x) (.tup ((ts.map tupD ++ zs).take i)) = some (.bl false) := by rw [take_app_lt tupD ts zs (Nat.le_of_lt hi), fIn_tupT, decide_eq_false hn]
      generalize (ts.map tupD ++ zs) = al at hs f1 f2
      rcases hs with rfl | rfl | rfl
      · exact ⟨[.raw, .fz (.int ((k : Int) + 1)), .fz (.lst al), .fz (.int (i : Nat)), .fz (tupD x)], [.raw, .fz (.int ((k : Int) + 1)), .fz (.lst al), .fz (.int (i : Nat)), .fz (tupD x)], by simp, .inl (by simp [b1_init_Book, e1, cutD_take, f1]), _, _, rfl⟩
      · exact ⟨[.raw, .fz (.int ((k : Int) + 1)), .bor al, .fz (.int (i : Nat)), .fz (tupD x)], [.raw, .fz (.int ((k : Int) + 1)), .bor al, .fz (.int (i : Nat)), .fz (tupD x)], by simp, .inl (by simp [b1_init_Book, e1, cutD_take, f1]), _, _, rfl⟩
      · exact ⟨[.raw, .fz (.int ((k : Int) + 1)), .fz (.tup al), .fz (.int (i : Nat)), .fz (tupD x)], [.raw, .fz (.int ((k : Int) + 1)), .fz (.tup al), .fz (.int (i : Nat)), .fz (tupD x)], by simp, .inl (by simp [b1_init_Book, e1, cutD_take, f2]), _, _, rfl⟩
  exact ⟨s3', s4', h1⟩
theorem init_okR {k : Nat} {s : Slot} {ts : List (List Int)} (hk : k ≤ 9) (hs : SeqSlot s (ts.map tupD)) (hb : ∀ t ∈ ts, RowP k t) (nd : ts.Nodup) : P_init_Book [.fz (.int ((k : Int) + 1)), s] = some (.ok (bookD k ts)) := by
  obtain ⟨s3, s4, e⟩ := init_goodR (k := k) (s := s) (ts := ts) (zs := []) (s3 := .emp) (s4 := .emp) hk (by simpa using hs) hb nd []
  rw [List.append_nil] at e
  have hne := rows_ne hb
  have hsrt := fSrt_tups hne
  have hsrt2 : fSrt (.tup (ts.map tupD)) = some ((sortL ts).map tupD) := hsrt
  have e0 := is_number_eq (d := .int ((k : Int) + 1)) rfl
  have hnn : (0 : Int) ≤ (k : Int) + 1 := by omega
  have hne1 : ¬ (k : Int) + 1 = 0 := by omega
  have e1 : P_is_sequence [.fz (.lst (ts.map tupD))] = some (.ret (.bl true) [.emp]) := is_sequence_eq rfl
  have e2 : P_is_sequence [.fz (.tup (ts.map tupD))] = some (.ret (.bl true) [.emp]) := is_sequence_eq rfl
  have e3 := is_sequence_bor (ts.map tupD)
  rcases hs with rfl | rfl | rfl
  · simp [P_init_Book, pIni_ap, m_init_Book, e0, isNumB, hnn, hne1, e1, enumD_map, e, forL, hsrt, bookD]
  · simp [P_init_Book, pIni_ap, m_init_Book, e0, isNumB, hnn, hne1, e3, enumD_map, e, forL, hsrt, bookD]
  · simp [P_init_Book, pIni_ap, m_init_Book, e0, isNumB, hnn, hne1, e2, enumD_map, e, forL, hsrt2, bookD]
end Q
namespace Q
open PySem PySem.Spec PyProof.Rows L2 L3
theorem fLeT_tup (ns ms : List Int) : fLeT (tupD ns) (tupD ms) = some (.bl (leTup ns ms)) := by simp [fLeT, tupD, toInts_map]
theorem fLen_tupD (ns : List Int) : fLen (tupD ns) = some (.int (ns.length : Nat)) := by simp [tupD]
theorem fSum_tupD (ns : List Int) : fSum (tupD ns) = some (.int ns.sum) := by simp [tupD, fSum, toInts_map]
theorem fIx_snocL (ds : List D) (d : D) : fIx (.lst (ds ++ [d])) (.int (-1)) = some d := by
  show atI (ds ++ [d]) (-1) = _
  unfold atI ixN
  rw [List.length_append, List.length_singleton, if_neg (by decide), if_pos (by omega)]
  have e : (-1 + ((ds.length + 1 : Nat) : Int)).toNat = ds.length := by omega
  rw [Option.bind_some, e, List.getElem?_append_right (Nat.le_refl _), Nat.sub_self]
  rfl
section
variable {k : Nat} {a : Int} {LS WS : List D} {l : Str} {ns : List Int} {acc : List (List Int)} {T s2 s6 : L3.Slot}
theorem read_good (e1 : fIx (.lst LS) (.int a) = some (.str l)) (e2 : fSplit " " (.str l) = some WS) (e3 : P_numbers_of [.fz (.lst WS), .fz (.int a)] = some (.ret (tupD ns) [.emp, .emp]))
    (hl : ns.length = k + 1) (hs : ns.sum ≠ 0) (hlast : ∀ p m, acc = p ++ [m] → leTup ns m = false) (hacc : acc.length < 1000) :
    b1_read_book [T, .fz (.lst LS), s2, .fz (.int ((k : Int) + 1)), .own (.lst (acc.map tupD)), .fz (.int a), s6] = some (.nx [T, .fz (.lst LS), s2, .fz (.int ((k : Int) + 1)), .own (.lst ((acc ++ [ns]).map tupD)), .fz (.int a), .fz (tupD ns)]) := by
  have f1 := fLen_tupD ns
  have f2 := fSum_tupD ns
  rw [hl] at f1
  have hz : acc.length < sizeLine := by rw [sizeLine_eq]; omega
  have c1 : ((k + 1 : Nat) : Int) = (k : Int) + 1 := by omega
  rw [c1] at f1
  rcases List.eq_nil_or_concat acc with rfl | ⟨p, m, hpm⟩
  · simp [b1_read_book, e1, e2, e3, f1, f2, hs, sizeLine_eq]
  · rw [List.concat_eq_append] at hpm
    subst hpm
    have hm := hlast p m rfl
    have f3 := fLeT_tup ns m
    rw [hm] at f3
    have f4 : fIx (.lst ((p ++ [m]).map tupD)) (.int (-1)) = some (tupD m) := by rw [List.map_append]; exact fIx_snocL _ _
    have f5 : fLen (.lst ((p ++ [m]).map tupD)) = some (.int ((p.length : Int) + 1)) := by simp
    have f6 : (0 : Int) < (p.length : Int) + 1 := by omega
    have hz' : ((p ++ [m]).map tupD).length < sizeLine := by rw [List.length_map]; exact hz
    have f7 : (p ++ [m] ++ [ns]).map tupD = (p ++ [m]).map tupD ++ [tupD ns] := by rw [List.map_append]; rfl
    rw [f7]
    generalize (p ++ [m]).map tupD = AC at f4 f5 hz' ⊢
    simp only [fLen_lst, Option.some.injEq, D.int.injEq] at f5
    simp [b1_read_book, e1, e2, e3, f1, f2, hs, f3, f4, f5, f6, hz']
theorem read_bad (e1 : fIx (.lst LS) (.int a) = some (.str l)) (e2 : fSplit " " (.str l) = some WS)
    (e3 : P_numbers_of [.fz (.lst WS), .fz (.int a)] = some (.exc 15 (some (.int a)) [.emp, .emp]) ∨ ∃ ns, P_numbers_of [.fz (.lst WS), .fz (.int a)] = some (.ret (tupD ns) [.emp, .emp]) ∧ (ns.length ≠ k + 1 ∨ ns.sum = 0 ∨ ∃ p m, acc = p ++ [m] ∧ leTup ns m = true)) :
    ∃ ρ', b1_read_book [T, .fz (.lst LS), s2, .fz (.int ((k : Int) + 1)), .own (.lst (acc.map tupD)), .fz (.int a), s6] = some (.exc 15 (some (.int a)) ρ') := by
  rcases e3 with e3 | ⟨ns, e3, h⟩
  · exact ⟨_, by simp [b1_read_book, e1, e2, e3]; rfl⟩
  · have f1 := fLen_tupD ns
    have f2 := fSum_tupD ns
    by_cases q : ns.length = k + 1
    · rw [q] at f1
      have c1 : ((k + 1 : Nat) : Int) = (k : Int) + 1 := by omega
      rw [c1] at f1
      by_cases q2 : ns.sum = 0
      · exact ⟨_, by simp [b1_read_book, e1, e2, e3, f1, f2, q2]; rfl⟩
      · rcases h with h | h | ⟨p, m, rfl, h⟩
        · exact absurd q h
        · exact absurd h q2
        · have f3 := fLeT_tup ns m
          rw [h] at f3
          have f4 : fIx (.lst ((p ++ [m]).map tupD)) (.int (-1)) = some (tupD m) := by rw [List.map_append]; exact fIx_snocL _ _
          have f5 : fLen (.lst ((p ++ [m]).map tupD)) = some (.int ((p.length : Int) + 1)) := by simp
          have f6 : (0 : Int) < (p.length : Int) + 1 := by omega
          generalize (p ++ [m]).map tupD = AC at f4 f5 ⊢
          simp only [fLen_lst, Option.some.injEq, D.int.injEq] at f5
          exact ⟨_, by simp [b1_read_book, e1, e2, e3, f1, f2, q2, f3, f4, f5, f6]; rfl⟩
    · have c1 : ((ns.length : Int) = (k : Int) + 1) = False := eq_false (by omega)
      exact ⟨_, by simp [b1_read_book, e1, e2, e3, f1, c1]; rfl⟩
end
end Q
namespace Q
open PySem PySem.Spec PyProof.Rows L2 L3
theorem num_ok2 : ∀ n : Fin 100, (numS ((n.1 : Nat) : Int)).cps.toList.all (fun c => decide (c < 128)) = true := by decide +kernel
theorem num_word {n : Int} (h0 : 0 ≤ n) (h1 : n < 100) : WordF (numS n) := by
  have q := numI h0 h1
  refine ⟨q.sp, q.nl, by have := q.len; omega, fun c hc => ?_⟩
  obtain ⟨m, rfl⟩ := Int.eq_ofNat_of_zero_le h0
  have h := num_ok2 ⟨m, by omega⟩
  exact of_decide_eq_true (List.all_eq_true.mp h c hc)
def lineN (ns : List Int) : Str := lnS (ns.map numS)
def firstN (k : Nat) : Str := lnS ["kinds", numS ((k : Int) + 1)]
theorem kinds_word : WordF "kinds" := ⟨by decide +kernel, by decide +kernel, by decide +kernel, by decide +kernel⟩
theorem words_num {ns : List Int} (h : ∀ n ∈ ns, 0 ≤ n ∧ n < 100) : ∀ w ∈ ns.map numS, WordF w := fun w hw => by
  obtain ⟨n, hn, rfl⟩ := List.mem_map.mp hw
  exact num_word (h n hn).1 (h n hn).2
theorem words_first {k : Nat} (hk : k ≤ 9) : ∀ w ∈ (["kinds", numS ((k : Int) + 1)] : List Str), WordF w := fun w hw => by
  simp only [List.mem_cons, List.not_mem_nil, or_false] at hw
  rcases hw with rfl | rfl
  · exact kinds_word
  · exact num_word (by omega) (by omega)
theorem range_from (a : Int) (n : Nat) : (List.range (n + 1)).map (fun i : Nat => D.int (a + i)) = D.int a :: (List.range n).map (fun i : Nat => D.int (a + 1 + i)) := by
  rw [List.range_succ_eq_map, List.map_cons, List.map_map]
  congr 1
  · simp
  · apply List.map_congr_left
    intro i _
    show D.int (a + ((i + 1 : Nat) : Int)) = D.int (a + 1 + (i : Int))
    congr 1
    omega
theorem line_numbers {k : Nat} {ns : List Int} {a : Int} (h : RowP k ns) (hk : k ≤ 9) : fSplit " " (.str (lineN ns)) = some ((ns.map numS).map D.str) ∧ P_numbers_of [.fz (.lst ((ns.map numS).map D.str)), .fz (.int a)] = some (.ret (tupD ns) [.emp, .emp]) := by
  have hb : ∀ n ∈ ns, 0 ≤ n ∧ n < 100 := fun n hn => ⟨h.nn n hn, h.lt n hn⟩
  have hl := h.len
  refine ⟨fSplit_ln (words_num hb) (by rw [List.length_map]; omega) (fun e => ?_), numbers_ok hb (by omega)⟩
  have := congrArg List.length e
  rw [List.length_map, hl] at this
  cases this
section
variable {k : Nat} {LS zs : List D} {T s2 : L3.Slot}
theorem read_loop (hk : k ≤ 9) : ∀ {bs acc : List (List Int)} {a : Int} {s5 s6 : L3.Slot}, (∀ b ∈ bs, RowP k b) → (∀ i (h : i < bs.length), fIx (.lst LS) (.int (a + (i : Nat))) = some (.str (lineN bs[i]))) →
    (∀ p m n q, acc ++ bs = p ++ m :: n :: q → leTup n m = false) → acc.length + bs.length < 1000 →
    ∃ s5' s6', forL (gNm 5) b1_read_book ((List.range bs.length).map (fun i : Nat => D.int (a + i)) ++ zs) [T, .fz (.lst LS), s2, .fz (.int ((k : Int) + 1)), .own (.lst (acc.map tupD)), s5, s6] =
      forL (gNm 5) b1_read_book zs [T, .fz (.lst LS), s2, .fz (.int ((k : Int) + 1)), .own (.lst ((acc ++ bs).map tupD)), s5', s6']
  | [], acc, a, s5, s6, _, _, _, _ => ⟨s5, s6, by simp⟩
  | b :: bs, acc, a, s5, s6, hr, hx, ha, hl => by
    obtain ⟨e2, e3⟩ := line_numbers (a := a) (hr b (List.mem_cons_self ..)) hk
    have e1 : fIx (.lst LS) (.int a) = some (.str (lineN b)) := by
      have := hx 0 (by simp)
      simpa using this
    have h0 := hr b (List.mem_cons_self ..)
    have g := read_good (k := k) (T := T) (s2 := s2) (s6 := s6) (acc := acc) e1 e2 e3 h0.len (by have := h0.pos; omega) (fun p m e => ha p m b bs (by rw [e]; simp)) (by simp at hl; omega)
    obtain ⟨s5', s6', e⟩ := read_loop hk (bs := bs) (acc := acc ++ [b]) (a := a + 1) (s5 := .fz (.int a)) (s6 := .fz (tupD b)) (fun x hx => hr x (List.mem_cons_of_mem _ hx)) (fun i h => by
      have := hx (i + 1) (by simpa using h)
      rw [show a + ((i + 1 : Nat) : Int) = a + 1 + (i : Nat) by omega] at this
      simpa using this) (fun p m n q e => ha p m n q (by rw [← e]; simp)) (by simp at hl ⊢; omega)
    refine ⟨s5', s6', ?_⟩
    rw [List.length_cons, range_from, List.cons_append, forL]
    rw [show gNm 5 (.int a) [T, .fz (.lst LS), s2, .fz (.int ((k : Int) + 1)), .own (.lst (acc.map tupD)), s5, s6] = some [T, .fz (.lst LS), s2, .fz (.int ((k : Int) + 1)), .own (.lst (acc.map tupD)), .fz (.int a), s6] by simp, Option.bind_some, g]
    dsimp only
    rw [e]
    simp
end
end Q
namespace Q
open PySem PySem.Spec PyProof.Rows L2 L3
noncomputable section
def rb1 : MS := (mIfS (mNot (mTru (M.map Bv.val (mUn (fIsT "str") (mSl 0))))) (seqS (mRaise 15 (M.ret (.int 0)))
  mNx) mNx)
def rb2 : MS := (mSet 1 (M.map D.lst (mUnO (fSplit "\n") (mSl 0))))
def rb3 : MS := (mSet 2 (M.map D.lst (mUnO (fSplit " ") (M.map Bv.val (mOp fIx (mSl 1) (M.map Bv.val (M.ret (.int 0))))))))
def rb4 (KI : D) : MS := (mIfS (mOr (asB (mOp fNe (M.map Bv.val (mUn fLen (mSl 2))) (M.map Bv.val (M.ret (.int 2))))) (asB (mOp fNe (M.map Bv.val (mOp fIx (mSl 2) (M.map Bv.val (M.ret (.int 0))))) (M.map Bv.val (M.ret KI))))) (seqS (mRaise 15 (M.ret (.int 0)))
  mNx) mNx)
def rb5 : MS := (mParN [3, 4] (mPKeep (mOp fIx (M.map Bv.val (mCall P_numbers_of 2 (mACons (mVal (mSli (mSl 2) (mPart (M.map Bv.val (M.ret (.int 1)))) mNoP)) (mACons (mVal (M.ret (.int 0))) mANil)))) (M.map Bv.val (M.ret (.int 0)))) (mPFresh (mLst mNil) mPNil)))
def rb6 : MS := (mIfS (asB (mOp fEq (mSl 3) (M.map Bv.val (M.ret (.int 0))))) (seqS (mRaise 15 (M.ret (.int 0)))
  mNx) mNx)
def rb7 : MS := (mFor (mRange2 (M.map Bv.val (M.ret (.int 1))) (M.map Bv.val (mUn fLen (mSl 1)))) (gNm 5) b1_read_book)
def rb8 : MS := (mRet (mMake 0 2 P_init_Book (mACons (mVal (mVar 3)) (mACons (mBor 4) mANil))))
theorem read_parts : m_read_book = seqS rb1 (seqS rb2 (seqS rb3 (seqS (rb4 (.str "kinds")) (seqS rb5 (seqS rb6 (seqS rb7 (seqS rb8 mNx))))))) := rfl
end
section
variable {k : Nat} {z w0 w1 l0 : Str} {LS WS NS : List D} {x1 x2 x3 x4 x5 x6 : L3.Slot} {r : MS} {d : D}
theorem rb1_str : rb1 [.fz (.str z), .emp, .emp, .emp, .emp, .emp, .emp] = some (.nx [.fz (.str z), .emp, .emp, .emp, .emp, .emp, .emp]) := by simp [rb1]
theorem rb1_no (h : fIsT "str" d = some (.bl false)) : rb1 [.fz d, .emp, .emp, .emp, .emp, .emp, .emp] = some (.exc 15 (some (.int 0)) [.fz d, .emp, .emp, .emp, .emp, .emp, .emp]) := by simp [rb1, h]
theorem rb2_at (e : fSplit "\n" (.str z) = some LS) : rb2 [.fz (.str z), .emp, .emp, .emp, .emp, .emp, .emp] = some (.nx [.fz (.str z), .fz (.lst LS), .emp, .emp, .emp, .emp, .emp]) := by simp [rb2, e]
theorem rb3_at (e : fIx (.lst LS) (.int 0) = some (.str l0)) (e2 : fSplit " " (.str l0) = some WS) : rb3 [.fz (.str z), .fz (.lst LS), .emp, .emp, .emp, .emp, .emp] = some (.nx [.fz (.str z), .fz (.lst LS), .fz (.lst WS), .emp, .emp, .emp, .emp]) := by simp [rb3, e, e2]
theorem rb4_ok {KI : D} (e : fLen (.lst WS) = some (.int 2)) (e1 : fIx (.lst WS) (.int 0) = some d) (e2 : fNe d KI = some (.bl false)) : rb4 KI [.fz (.str z), .fz (.lst LS), .fz (.lst WS), .emp, .emp, .emp, .emp] = some (.nx [.fz (.str z), .fz (.lst LS), .fz (.lst WS), .emp, .emp, .emp, .emp]) := by
  rw [fLen_lst] at e
  simp only [Option.some.injEq, D.int.injEq] at e
  simp [rb4, e, e1, e2]
theorem rb4_bad {KI : D} (h : WS.length ≠ 2 ∨ WS.length = 2 ∧ ∃ d, fIx (.lst WS) (.int 0) = some d ∧ fNe d KI = some (.bl true)) : rb4 KI [.fz (.str z), .fz (.lst LS), .fz (.lst WS), .emp, .emp, .emp, .emp] = some (.exc 15 (some (.int 0)) [.fz (.str z), .fz (.lst LS), .fz (.lst WS), .emp, .emp, .emp, .emp]) := by
  rcases h with h | ⟨h, d, e1, e2⟩
  · have c : ((WS.length : Int) = 2) = False := eq_false (by omega)
    simp [rb4, c]
  · have c : ((WS.length : Int) = 2) = True := eq_true (by omega)
    simp [rb4, c, e1, e2]
theorem rb5_ok {n : Int} (e : L3.cutD WS (some 1) none = NS) (e1 : P_numbers_of [.fz (.lst NS), .fz (.int 0)] = some (.ret (tupD [n]) [.emp, .emp])) : rb5 [.fz (.str z), .fz (.lst LS), .fz (.lst WS), .emp, .emp, .emp, .emp] = some (.nx [.fz (.str z), .fz (.lst LS), .fz (.lst WS), .fz (.int n), .own (.lst []), .emp, .emp]) := by
  have e8 : fIx (tupD [n]) (.int 0) = some (.int n) := rfl
  simp [rb5, e, e1, e8]
theorem rb5_bad (e : L3.cutD WS (some 1) none = NS) (e1 : P_numbers_of [.fz (.lst NS), .fz (.int 0)] = some (.exc 15 (some (.int 0)) [.emp, .emp])) : ∃ ρ', rb5 [.fz (.str z), .fz (.lst LS), .fz (.lst WS), .emp, .emp, .emp, .emp] = some (.exc 15 (some (.int 0)) ρ') :=
  ⟨_, by simp [rb5, e, e1]; rfl⟩
theorem rb6_ok {n : Int} (h : n ≠ 0) : rb6 [.fz (.str z), .fz (.lst LS), .fz (.lst WS), .fz (.int n), .own (.lst []), .emp, .emp] = some (.nx [.fz (.str z), .fz (.lst LS), .fz (.lst WS), .fz (.int n), .own (.lst []), .emp, .emp]) := by simp [rb6, h]
theorem rb6_bad : rb6 [.fz (.str z), .fz (.lst LS), .fz (.lst WS), .fz (.int 0), .own (.lst []), .emp, .emp] = some (.exc 15 (some (.int 0)) [.fz (.str z), .fz (.lst LS), .fz (.lst WS), .fz (.int 0), .own (.lst []), .emp, .emp]) := by simp [rb6]
theorem rb7_at {n : Int} {m : Nat} (hl : LS.length = m + 1) (hm : m ≤ 1000) : rb7 [.fz (.str z), .fz (.lst LS), .fz (.lst WS), .fz (.int n), .own (.lst []), .emp, .emp] =
    forL (gNm 5) b1_read_book ((List.range m).map fun i : Nat => D.int (1 + (i : Nat))) [.fz (.str z), .fz (.lst LS), .fz (.lst WS), .fz (.int n), .own (.lst []), .emp, .emp] := by
  have h1 : inB 1 = true := inB_of (by decide) (by decide)
  have h2 : inB ((m : Int) + 1) = true := inB_of (by omega) (by omega)
  have h3 : fLen (.lst LS) = some (.int ((m : Int) + 1)) := by rw [fLen_lst, hl]; rfl
  have h4 : ((m : Int) + 1 - 1).toNat = m := by omega
  rw [fLen_lst] at h3
  simp only [Option.some.injEq, D.int.injEq] at h3
  simp [rb7, h1, h2, h3, rangeD_map]
theorem rb8_at {bs : List (List Int)} {s5 s6 : L3.Slot} (hk : k ≤ 9) (hb : ∀ b ∈ bs, RowP k b) (nd : bs.Nodup) : ∃ ρ', rb8 [.fz (.str z), .fz (.lst LS), .fz (.lst WS), .fz (.int ((k : Int) + 1)), .own (.lst (bs.map tupD)), s5, s6] = some (.rt (.ob 0 (bookD k bs)) ρ') := by
  have e := init_okR (k := k) (s := .bor (bs.map tupD)) hk (.inr (.inl rfl)) hb nd
  exact ⟨_, by simp [rb8, e]; rfl⟩
end
end Q
namespace Q
open PySem PySem.Spec PyProof.Rows L2 L3
structure AscB (k : Nat) (bs : List (List Int)) : Prop where
  row : ∀ b ∈ bs, RowP k b
  asc : bs.Pairwise fun a b => leL a b = true
  nd : bs.Nodup
  len : bs.length ≤ 20
theorem AscB.next {k : Nat} {bs : List (List Int)} (h : AscB k bs) {p q : List (List Int)} {m n : List Int} (e : bs = p ++ m :: n :: q) : leTup n m = false := by
  rw [leTup_eq]
  have h1 := h.asc
  have h2 := h.nd
  rw [e, List.pairwise_append] at h1
  rw [e, List.nodup_append] at h2
  have h3 : leL m n = true := (List.pairwise_cons.mp h1.2.1).1 n (List.mem_cons_self ..)
  have h4 : m ≠ n := fun z => (List.nodup_cons.mp h2.2.1).1 (by rw [z]; exact List.mem_cons_self ..)
  cases h5 : leL n m with
  | false => rfl
  | true => exact absurd (leL_anti h3 h5) h4
theorem line_ok {k : Nat} {b : List Int} (h : RowP k b) (hk : k ≤ 9) : LineF (lineN b) := lnS_ok (words_num fun n hn => ⟨h.nn n hn, h.lt n hn⟩) (by rw [List.length_map, h.len]; omega)
theorem first_ok {k : Nat} (hk : k ≤ 9) : LineF (firstN k) := lnS_ok (words_first hk) (by simp)
structure GoodW (ws : List Str) : Prop where
  w : ∀ w ∈ ws, WordF w
  ne : ws ≠ []
  len : ws.length ≤ 20
def BadWs (k : Nat) (bs : List (List Int)) (ws : List Str) : Prop := ws.all wordOk = false ∨ ∃ ns : List Int, ws = ns.map numS ∧ (∀ n ∈ ns, 0 ≤ n ∧ n < 100) ∧ (ns.length ≠ k + 1 ∨ ns.sum = 0 ∨ ∃ p m, bs = p ++ [m] ∧ leTup ns m = true)
def HeadBad (ws : List Str) : Prop := ws.length ≠ 2 ∨ ∃ w0 w1, ws = [w0, w1] ∧ (w0 ≠ "kinds" ∨ w0 = "kinds" ∧ (wordOk w1 = false ∨ w1 = numS 0))
section
variable {k : Nat} {bs : List (List Int)} {ws : List Str} {ls rest : List Str}
theorem head_at (hk : k ≤ 9) (hf : ∀ w ∈ ls, LineF w) (hl : ls.length ≤ 100) (h0 : ls[0]? = some (firstN k)) (t : MS) :
    (seqS rb1 (seqS rb2 (seqS rb3 (seqS (rb4 (.str "kinds")) (seqS rb5 (seqS rb6 t)))))) [.fz (.str (txS ls)), .emp, .emp, .emp, .emp, .emp, .emp] =
      t [.fz (.str (txS ls)), .fz (.lst (ls.map D.str)), .fz (.lst (([("kinds" : Str), numS ((k : Int) + 1)] : List Str).map D.str)), .fz (.int ((k : Int) + 1)), .own (.lst []), .emp, .emp] := by
  have hne : ls ≠ [] := fun e => by rw [e] at h0; cases h0
  have e1 := fSplit_tx hf hl hne
  have e2 : fIx (.lst (ls.map D.str)) (.int 0) = some (.str (firstN k)) := fIx_lst (i := 0) (by rw [List.getElem?_map, h0]; rfl)
  have e3 : fSplit " " (.str (firstN k)) = some (([("kinds" : Str), numS ((k : Int) + 1)] : List Str).map D.str) := fSplit_ln (words_first hk) (by simp) (by simp)
  have e4 := fNe_str (y := "kinds") (z := "kinds") (by decide +kernel) (by decide +kernel)
  rw [decide_eq_true rfl] at e4
  have e5 := numbers_ok (ns := [(k : Int) + 1]) (b := .int 0) (fun n hn => by rw [List.mem_singleton.mp hn]; omega) (by simp)
  have e7 : L3.cutD (([("kinds" : Str), numS ((k : Int) + 1)] : List Str).map D.str) (some 1) none = ([(k : Int) + 1].map numS).map D.str := cutD_drop _ 1
  rw [seqS_ap, rb1_str]; dsimp only
  rw [seqS_ap, rb2_at e1]; dsimp only
  rw [seqS_ap, rb3_at e2 e3]; dsimp only
  rw [seqS_ap, rb4_ok (d := .str "kinds") rfl rfl e4]; dsimp only
  rw [seqS_ap, rb5_ok e7 e5]; dsimp only
  rw [seqS_ap, rb6_ok (n := (k : Int) + 1) (by omega)]
theorem endA1 {d : D} {ρ : L3.Env} : L3.endA [.fz d] ρ = [.emp] := by
  cases ρ <;> rfl
theorem fnOf7_rt {d d' : D} {body : MS} {ρ' : L3.Env} (h : body [.fz d, .emp, .emp, .emp, .emp, .emp, .emp] = some (.rt d' ρ')) : fnOf 7 body [.fz d] = some (.ret d' [.emp]) := by
  have h' : body ([L3.Slot.fz d] ++ List.replicate (7 - [L3.Slot.fz d].length) .emp) = some (.rt d' ρ') := h
  unfold fnOf
  rw [h']
  dsimp only
  rw [endA1]
theorem fnOf7_exc {d : D} {c : Nat} {od : Option D} {body : MS} {ρ' : L3.Env} (h : body [.fz d, .emp, .emp, .emp, .emp, .emp, .emp] = some (.exc c od ρ')) : fnOf 7 body [.fz d] = some (.exc c od [.emp]) := by
  have h' : body ([L3.Slot.fz d] ++ List.replicate (7 - [L3.Slot.fz d].length) .emp) = some (.exc c od ρ') := h
  unfold fnOf
  rw [h']
  dsimp only
  rw [endA1]
theorem range_two (n m : Nat) : (List.range (n + m)).map (fun i : Nat => D.int (1 + (i : Nat))) = (List.range n).map (fun i : Nat => D.int (1 + (i : Nat))) ++ (List.range m).map (fun i : Nat => D.int ((n : Int) + 1 + (i : Nat))) := by
  rw [List.range_add, List.map_append, List.map_map]
  refine congrArg _ (List.map_congr_left fun i _ => ?_)
  show D.int (1 + ((n + i : Nat) : Int)) = _
  rw [show (1 : Int) + ((n + i : Nat) : Int) = (n : Int) + 1 + (i : Int) by omega]
theorem read_ok (hk : k ≤ 9) (h : AscB k bs) : P_read_book [.fz (.str (txS (firstN k :: bs.map lineN)))] = some (.ret (.ob 0 (bookD k bs)) [.emp]) := by
  have hlen := h.len
  have hf : ∀ w ∈ firstN k :: bs.map lineN, LineF w := fun w hw => by
    rcases List.mem_cons.mp hw with rfl | hw
    · exact first_ok hk
    · obtain ⟨b, hb, rfl⟩ := List.mem_map.mp hw
      exact line_ok (h.row b hb) hk
  have e1 := head_at hk hf (by simp; omega) rfl (seqS rb7 (seqS rb8 mNx))
  rw [← read_parts] at e1
  obtain ⟨s5, s6, e2⟩ := read_loop (k := k) (LS := (firstN k :: bs.map lineN).map D.str) (zs := []) (T := .fz (.str (txS (firstN k :: bs.map lineN)))) (s2 := .fz (.lst (([("kinds" : Str), numS ((k : Int) + 1)] : List Str).map D.str))) hk (bs := bs) (acc := []) (a := 1) (s5 := .emp) (s6 := .emp) h.row (fun i hi => by
    rw [show (1 : Int) + (i : Nat) = ((i + 1 : Nat) : Int) by omega]
    exact fIx_lst (by simp [hi])) (fun p m n q e => h.next (by simpa using e)) (by simp; omega)
  rw [List.append_nil, List.nil_append] at e2
  have e3 := rb7_at (z := txS (firstN k :: bs.map lineN)) (LS := (firstN k :: bs.map lineN).map D.str) (WS := ([("kinds" : Str), numS ((k : Int) + 1)] : List Str).map D.str) (n := (k : Int) + 1) (m := bs.length) (by simp) (by omega)
  have e4 := e3.trans e2
  rw [forL] at e4
  obtain ⟨ρ', e5⟩ := rb8_at (k := k) (z := txS (firstN k :: bs.map lineN)) (LS := (firstN k :: bs.map lineN).map D.str) (WS := ([("kinds" : Str), numS ((k : Int) + 1)] : List Str).map D.str) (bs := bs) (s5 := s5) (s6 := s6) hk h.row h.nd
  rw [seqS_ap, e4] at e1
  dsimp only at e1
  rw [seqS_ap, e5] at e1
  dsimp only at e1
  exact fnOf7_rt e1
theorem read_at (hk : k ≤ 9) (h : AscB k bs) (hw : GoodW ws) (hb : BadWs k bs ws) (hr : ∀ w ∈ rest, LineF w) (hrl : rest.length ≤ 40) : P_read_book [.fz (.str (txS (firstN k :: (bs.map lineN ++ lnS ws :: rest))))] = some (.exc 15 (some (.int ((bs.length : Int) + 1))) [.emp]) := by
  have hlen := h.len
  generalize hL : firstN k :: (bs.map lineN ++ lnS ws :: rest) = L
  have hf : ∀ w ∈ L, LineF w := fun w hw' => by
    rw [← hL] at hw'
    simp only [List.mem_cons, List.mem_append, List.mem_map] at hw'
    rcases hw' with rfl | ⟨b, hb, rfl⟩ | rfl | hw'
    · exact first_ok hk
    · exact line_ok (h.row b hb) hk
    · exact lnS_ok hw.w hw.len
    · exact hr w hw'
  have hLl : L.length = bs.length + 1 + rest.length + 1 := by rw [← hL]; simp; omega
  have e1 := head_at hk hf (by omega) (by rw [← hL]; rfl) (seqS rb7 (seqS rb8 mNx))
  rw [← read_parts] at e1
  have hat : ∀ i (hi : i < bs.length), fIx (.lst (L.map D.str)) (.int (1 + (i : Nat))) = some (.str (lineN bs[i])) := fun i hi => by
    rw [show (1 : Int) + (i : Nat) = ((i + 1 : Nat) : Int) by omega]
    refine fIx_lst ?_
    rw [← hL, List.getElem?_map, List.getElem?_cons_succ, List.getElem?_append_left (by rw [List.length_map]; exact hi), List.getElem?_map, List.getElem?_eq_getElem hi]
    rfl
  have hbad : fIx (.lst (L.map D.str)) (.int ((bs.length : Int) + 1)) = some (.str (lnS ws)) := by
    rw [show (bs.length : Int) + 1 = ((bs.length + 1 : Nat) : Int) by omega]
    refine fIx_lst ?_
    rw [← hL, List.getElem?_map, List.getElem?_cons_succ, List.getElem?_append_right (by rw [List.length_map]; exact Nat.le_refl _), List.length_map, Nat.sub_self]
    rfl
  obtain ⟨s5, s6, e2⟩ := read_loop (k := k) (LS := L.map D.str) (zs := ((List.range (rest.length + 1)).map fun i : Nat => D.int ((bs.length : Int) + 1 + (i : Nat)))) (T := .fz (.str (txS L))) (s2 := .fz (.lst (([("kinds" : Str), numS ((k : Int) + 1)] : List Str).map D.str))) hk (bs := bs) (acc := []) (a := 1) (s5 := .emp) (s6 := .emp) h.row hat (fun p m n q e => h.next (by simpa using e)) (by simp; omega)
  rw [List.nil_append] at e2
  have e3 := rb7_at (z := txS L) (LS := L.map D.str) (WS := ([("kinds" : Str), numS ((k : Int) + 1)] : List Str).map D.str) (n := (k : Int) + 1) (m := bs.length + (rest.length + 1)) (by rw [List.length_map]; omega) (by omega)
  have hsp := range_two bs.length (rest.length + 1)
  rw [hsp] at e3
  have e4 := e3.trans e2
  rw [range_from, forL] at e4
  have hspl := fSplit_ln hw.w hw.len hw.ne
  have hnum : P_numbers_of [.fz (.lst (ws.map D.str)), .fz (.int ((bs.length : Int) + 1))] = some (.exc 15 (some (.int ((bs.length : Int) + 1))) [.emp, .emp]) ∨ ∃ ns, P_numbers_of [.fz (.lst (ws.map D.str)), .fz (.int ((bs.length : Int) + 1))] = some (.ret (tupD ns) [.emp, .emp]) ∧ (ns.length ≠ k + 1 ∨ ns.sum = 0 ∨ ∃ p m, bs = p ++ [m] ∧ leTup ns m = true) := by
    rcases hb with hb | ⟨ns, rfl, h1, h2⟩
    · exact .inl (numbers_bad (fun w hw' => by have := (hw.w w hw').len; omega) hb)
    · exact .inr ⟨ns, numbers_ok h1 (by have := hw.len; rw [List.length_map] at this; omega), h2⟩
  obtain ⟨ρ', e5⟩ := read_bad (k := k) (T := .fz (.str (txS L))) (s2 := .fz (.lst (([("kinds" : Str), numS ((k : Int) + 1)] : List Str).map D.str))) (s6 := s6) (acc := bs) hbad hspl hnum
  rw [show gNm 5 (.int ((bs.length : Int) + 1)) [.fz (.str (txS L)), .fz (.lst (L.map D.str)), .fz (.lst (([("kinds" : Str), numS ((k : Int) + 1)] : List Str).map D.str)), .fz (.int ((k : Int) + 1)), .own (.lst (bs.map tupD)), s5, s6] = some [.fz (.str (txS L)), .fz (.lst (L.map D.str)), .fz (.lst (([("kinds" : Str), numS ((k : Int) + 1)] : List Str).map D.str)), .fz (.int ((k : Int) + 1)), .own (.lst (bs.map tupD)), .fz (.int ((bs.length : Int) + 1)), s6] by simp, Option.bind_some, e5] at e4
  dsimp only at e4
  rw [seqS_ap, e4] at e1
  dsimp only at e1
  exact fnOf7_exc e1
theorem read_head_bad (hw : GoodW ws) (hb : HeadBad ws) (hr : ∀ w ∈ rest, LineF w) (hrl : rest.length ≤ 60) : P_read_book [.fz (.str (txS (lnS ws :: rest)))] = some (.exc 15 (some (.int 0)) [.emp]) := by
  have hf : ∀ w ∈ lnS ws :: rest, LineF w := fun w hw' => by
    rcases List.mem_cons.mp hw' with rfl | hw'
    · exact lnS_ok hw.w hw.len
    · exact hr w hw'
  have e1 := fSplit_tx hf (by simp; omega) (by simp)
  have e2 : fIx (.lst ((lnS ws :: rest).map D.str)) (.int 0) = some (.str (lnS ws)) := fIx_lst (i := 0) rfl
  have e3 := fSplit_ln hw.w hw.len hw.ne
  have key : ∃ ρ', m_read_book [.fz (.str (txS (lnS ws :: rest))), .emp, .emp, .emp, .emp, .emp, .emp] = some (.exc 15 (some (.int 0)) ρ') := by
    rw [read_parts, seqS_ap, rb1_str]; dsimp only
    rw [seqS_ap, rb2_at e1]; dsimp only
    rw [seqS_ap, rb3_at e2 e3]; dsimp only
    rw [seqS_ap]
    rcases hb with hb | ⟨w0, w1, rfl, hb⟩
    · rw [rb4_bad (.inl (by rw [List.length_map]; exact hb))]
      exact ⟨_, rfl⟩
    · have so : PyData.strOk w0 = true := strOk_of (hw.w w0 (by simp)).ok
      have e4 := fNe_str (y := w0) (z := "kinds") so (by decide +kernel)
      rcases hb with hb | ⟨rfl, hb⟩
      · rw [decide_eq_false hb] at e4
        rw [rb4_bad (.inr ⟨rfl, _, rfl, e4⟩)]
        exact ⟨_, rfl⟩
      · rw [decide_eq_true rfl] at e4
        rw [rb4_ok (d := .str "kinds") rfl rfl e4]; dsimp only
        rw [seqS_ap]
        have e7 : L3.cutD ((["kinds", w1] : List Str).map D.str) (some 1) none = ([w1] : List Str).map D.str := cutD_drop _ 1
        rcases hb with hb | rfl
        · have e5 := numbers_bad (ws := [w1]) (b := .int 0) (fun w hw' => by rw [List.mem_singleton.mp hw']; have := (hw.w w1 (by simp)).len; omega) (by simp [hb])
          obtain ⟨ρ', e8⟩ := rb5_bad (z := txS (lnS ["kinds", w1] :: rest)) (LS := (lnS ["kinds", w1] :: rest).map D.str) e7 e5
          rw [e8]
          exact ⟨_, rfl⟩
        · have e5 := numbers_ok (ns := [0]) (b := .int 0) (fun n hn => by rw [List.mem_singleton.mp hn]; omega) (by simp)
          rw [rb5_ok (NS := ([numS 0] : List Str).map D.str) e7 e5]; dsimp only
          rw [seqS_ap, rb6_bad]
          exact ⟨_, rfl⟩
  obtain ⟨ρ', e⟩ := key
  exact fnOf7_exc e
theorem read_no {d : D} (h : fIsT "str" d = some (.bl false)) : P_read_book [.fz d] = some (.exc 15 (some (.int 0)) [.emp]) := by
  have e : m_read_book [.fz d, .emp, .emp, .emp, .emp, .emp, .emp] = some (.exc 15 (some (.int 0)) [.fz d, .emp, .emp, .emp, .emp, .emp, .emp]) := by
    rw [read_parts, seqS_ap, rb1_no h]
  exact fnOf7_exc e
end
theorem law_read_ok {d d' : D} (h : P_read_book [.fz d] = some (.ret d' [.emp])) : P_law_read [.fz d] = some (.ret d' [.emp]) := by simp [P_law_read, m_law_read, h]
theorem law_read_exc {d d' : D} (h : P_read_book [.fz d] = some (.exc 15 (some d') [.emp])) : P_law_read [.fz d] = some (.ret d' [.emp]) := by simp [P_law_read, m_law_read, h]
end Q
namespace Q
open PySem PySem.Spec PyProof.Rows L2 L3
noncomputable section
def ll1 : MS := (mIfS (asB (mOp fEq (mSl 3) (M.map Bv.val (M.ret (.int 0))))) (seqS (mRet (mCall P_law_of 2 (mACons (mIo 0) (mACons (mVal (M.map D.lst (mLst (mCons (M.ret (.str "")) (mCons (M.ret (.str "kinds")) (mCons (M.ret (.str "kinds ")) (mCons (M.ret (.str "kinds 0")) (mCons (M.ret (.str "kinds 01")) (mCons (M.ret (.str "kinds x")) (mCons (M.ret (.str "Kinds 2")) (mCons (M.ret (.str "kinds  2")) (mCons (M.ret (.str "kinds 2 2")) (mCons (M.ret (.str "kinds 100")) (mCons (M.ret (.str "2")) mNil)))))))))))))) mANil))))
  mNx) mNx)
def ll2 : MS := (mIfS (mAnd (asB (mOp fGt (mSl 3) (M.map Bv.val (M.ret (.int 1))))) (asB (mOp fEq (M.map Bv.val (mCall P_law_any 2 (mACons (mIo 0) (mACons (mVal (M.ret (.int 2))) mANil)))) (M.map Bv.val (M.ret (.int 0)))))) (seqS (mRet (mOp fIx (mSl 2) (M.map Bv.val (mOp fSub (mSl 3) (M.map Bv.val (M.ret (.int 1))))))) mNx) mNx)
def ll3 : MS := (mSet 4 (M.map D.lst (mOpO fRepL (M.map Bv.val (M.map D.lst (mLst (mCons (M.ret (.str "1")) mNil)))) (mSl 1))))
def ll4 : MS := (mSet 5 (M.map D.lst (mLst (mCons (mOp fPlus (mSl 4) (M.map Bv.val (M.map D.lst (mLst (mCons (M.ret (.str "1")) mNil))))) (mCons (mSli (mSl 4) (mPart (M.map Bv.val (M.ret (.int 1)))) mNoP) (mCons (mOp fPlus (M.map Bv.val (M.map D.lst (mLst (mCons (M.ret (.str "01")) mNil)))) (M.map Bv.val (mSli (mSl 4) (mPart (M.map Bv.val (M.ret (.int 1)))) mNoP))) (mCons (mOp fPlus (M.map Bv.val (M.map D.lst (mLst (mCons (M.ret (.str "-1")) mNil)))) (M.map Bv.val (mSli (mSl 4) (mPart (M.map Bv.val (M.ret (.int 1)))) mNoP))) (mCons (mOp fPlus (M.map Bv.val (M.map D.lst (mLst (mCons (M.ret (.str "x")) mNil)))) (M.map Bv.val (mSli (mSl 4) (mPart (M.map Bv.val (M.ret (.int 1)))) mNoP))) (mCons (mOp fPlus (M.map Bv.val (M.map D.lst (mLst (mCons (M.ret (.str "")) mNil)))) (M.map Bv.val (mSli (mSl 4) (mPart (M.map Bv.val (M.ret (.int 1)))) mNoP))) (mCons (mOp fPlus (M.map Bv.val (M.map D.lst (mLst (mCons (M.ret (.str "100")) mNil)))) (M.map Bv.val (mSli (mSl 4) (mPart (M.map Bv.val (M.ret (.int 1)))) mNoP))) (mCons (M.map D.lst (mOpO fRepL (M.map Bv.val (M.map D.lst (mLst (mCons (M.ret (.str "0")) mNil)))) (mSl 1))) mNil)))))))))))
def ll5 : MS := (mRet (mUn (fJoin " ") (M.map Bv.val (mCall P_law_of 2 (mACons (mIo 0) (mACons (mVal (mOp fPlus (mSl 5) (M.map Bv.val (M.map D.lst (mLst (mCons (mOp fPlus (mSl 4) (M.map Bv.val (M.map D.lst (mLst (mCons (M.ret (.str "")) mNil))))) (mCons (mOp fPlus (M.map Bv.val (M.map D.lst (mLst (mCons (M.ret (.str " 1")) mNil)))) (M.map Bv.val (mSli (mSl 4) (mPart (M.map Bv.val (M.ret (.int 1)))) mNoP))) mNil))))))) mANil))))))
theorem line_parts : m_law_line = seqS ll1 (seqS ll2 (seqS ll3 (seqS ll4 (seqS ll5 (mNx))))) := rfl
end
def headL : List Str := ["", "kinds", "kinds ", "kinds 0", "kinds 01", "kinds x", "Kinds 2", "kinds  2", "kinds 2 2", "kinds 100", "2"]
def s1 : Str := "1"
def onesS (k : Nat) : List Str := List.replicate k s1
def oddA (k : Nat) : List (List Str) := [onesS (k + 1) ++ [s1], onesS k, "01" :: onesS k, "-1" :: onesS k, "x" :: onesS k, "" :: onesS k, "100" :: onesS k, List.replicate (k + 1) "0"]
def oddB (k : Nat) : List (List Str) := [onesS (k + 1) ++ [("" : Str)], " 1" :: onesS k]
def strsD (ws : List Str) : D := .lst (ws.map D.str)
section
variable {k : Nat} {cs : List Int} {b a : Int} {LS : List D} {x4 x5 : L3.Slot} {R1 RT R0 : List D}
theorem ll1_zero (h : DlOk cs b) : ∃ z cs' b', z ∈ headL ∧ DlOk cs' b' ∧ ll1 [.io (.deal cs b), .fz (.int ((k : Int) + 1)), .fz (.lst LS), .fz (.int 0), .emp, .emp] = some (.rt (.str z) [.io (.deal cs' b'), .fz (.int ((k : Int) + 1)), .fz (.lst LS), .fz (.int 0), .emp, .emp]) := by
  obtain ⟨d, cs', b', hd, e, ok⟩ := of_spec (ds := headL.map D.str) h (by simp [headL]) (by simp [headL])
  obtain ⟨z, hz, rfl⟩ := List.mem_map.mp hd
  refine ⟨z, cs', b', hz, ok, ?_⟩
  obtain ⟨HL, hHL⟩ : ∃ HL, HL = headL.map D.str := ⟨_, rfl⟩
  rw [← hHL] at e
  simp only [headL, List.map_cons, List.map_nil] at hHL
  simp [ll1, sizeLine_eq]
  rw [← hHL]
  simp [e]
theorem ll1_pos (ha : a ≠ 0) : ll1 [.io (.deal cs b), .fz (.int ((k : Int) + 1)), .fz (.lst LS), .fz (.int a), .emp, .emp] = some (.nx [.io (.deal cs b), .fz (.int ((k : Int) + 1)), .fz (.lst LS), .fz (.int a), .emp, .emp]) := by
  simp [ll1, ha]
theorem ll2_one : ll2 [.io (.deal cs b), .fz (.int ((k : Int) + 1)), .fz (.lst LS), .fz (.int 1), .emp, .emp] = some (.nx [.io (.deal cs b), .fz (.int ((k : Int) + 1)), .fz (.lst LS), .fz (.int 1), .emp, .emp]) := by
  simp [ll2]
theorem ll2_more {d : D} (h : DlOk cs b) (ha : 1 < a) (e : fIx (.lst LS) (.int (a - 1)) = some d) : ∃ cs' b', DlOk cs' b' ∧ (ll2 [.io (.deal cs b), .fz (.int ((k : Int) + 1)), .fz (.lst LS), .fz (.int a), .emp, .emp] = some (.nx [.io (.deal cs' b'), .fz (.int ((k : Int) + 1)), .fz (.lst LS), .fz (.int a), .emp, .emp]) ∨
    ll2 [.io (.deal cs b), .fz (.int ((k : Int) + 1)), .fz (.lst LS), .fz (.int a), .emp, .emp] = some (.rt d [.io (.deal cs' b'), .fz (.int ((k : Int) + 1)), .fz (.lst LS), .fz (.int a), .emp, .emp])) := by
  obtain ⟨v, cs', b', e1, h0, h1, ok⟩ := any_spec (n := 2) h (by decide) (by decide)
  refine ⟨cs', b', ok, ?_⟩
  by_cases q : v = 0
  · right; simp [ll2, ha, e1, q, e]
  · left; simp [ll2, ha, e1, q]
theorem rep_one {d : D} {k : Nat} (hk : k ≤ 900) : fRepL (.lst [d]) (.int ((k : Int) + 1)) = some (List.replicate (k + 1) d) := by
  have h : repOkB 1 ((k : Int) + 1) = true := decide_eq_true ⟨by omega, by omega, by omega⟩
  have e : ((k : Int) + 1).toNat = k + 1 := by omega
  have e2 : ∀ n, (List.replicate n [d]).flatten = List.replicate n d := fun n => by
    induction n with
    | zero => rfl
    | succ n ih => rw [List.replicate_succ, List.flatten_cons, ih]; rfl
  simp only [fRepL, List.length_singleton, h, if_true, e, e2]
theorem ll3_at (hk : k ≤ 9) : ll3 [.io (.deal cs b), .fz (.int ((k : Int) + 1)), .fz (.lst LS), .fz (.int a), .emp, .emp] = some (.nx [.io (.deal cs b), .fz (.int ((k : Int) + 1)), .fz (.lst LS), .fz (.int a), .fz (.lst (List.replicate (k + 1) (.str "1"))), .emp]) := by
  have e := rep_one (d := .str "1") (k := k) (by omega)
  generalize List.replicate (k + 1) (D.str "1") = RO at e ⊢
  simp [ll3, sizeLine_eq, e]
theorem ll4_at (hR : R1.length ≤ 100) (hT : L3.cutD R1 (some 1) none = RT) (hTl : RT.length ≤ 100) (h0 : fRepL (.lst [.str "0"]) (.int ((k : Int) + 1)) = some R0) : ll4 [.io (.deal cs b), .fz (.int ((k : Int) + 1)), .fz (.lst LS), .fz (.int a), .fz (.lst R1), .emp] = some (.nx [.io (.deal cs b), .fz (.int ((k : Int) + 1)), .fz (.lst LS), .fz (.int a), .fz (.lst R1),
    .fz (.lst [.lst (R1 ++ [.str "1"]), .lst RT, .lst (.str "01" :: RT), .lst (.str "-1" :: RT), .lst (.str "x" :: RT), .lst (.str "" :: RT), .lst (.str "100" :: RT), .lst R0])]) := by
  have c1 : R1.length + 1 ≤ 16777216 := by omega
  have c2 : RT.length + 1 ≤ 16777216 := by omega
  have c3 : 1 + RT.length ≤ 16777216 := by omega
  simp [ll4, sizeLine_eq, hT, h0, c1, c2, c3]
theorem ll5_at {OD WL : List D} {z : Str} {cs' : List Int} {b' : Int} {d : D} (hOD : OD.length ≤ 100) (hR : R1.length ≤ 100) (hT : L3.cutD R1 (some 1) none = RT) (hTl : RT.length ≤ 100) (hWL : OD ++ [.lst (R1 ++ [.str ""]), .lst (.str " 1" :: RT)] = WL)
    (e : P_law_of [.io (.deal cs b), .fz (.lst WL)] = some (.ret d [.io (.deal cs' b'), .emp])) (e2 : fJoin " " d = some (.str z)) :
    ll5 [.io (.deal cs b), .fz (.int ((k : Int) + 1)), .fz (.lst LS), .fz (.int a), .fz (.lst R1), .fz (.lst OD)] = some (.rt (.str z) [.io (.deal cs' b'), .fz (.int ((k : Int) + 1)), .fz (.lst LS), .fz (.int a), .fz (.lst R1), .fz (.lst OD)]) := by
  have c1 : R1.length + 1 ≤ 16777216 := by omega
  have c3 : 1 + RT.length ≤ 16777216 := by omega
  have c4 : OD.length + 2 ≤ 16777216 := by omega
  simp [ll5, sizeLine_eq, hT, c1, c3, c4, hWL, e, e2]
theorem s1_num : s1 = numS 1 := by decide +kernel
theorem s0_num : ("0" : Str) = numS 0 := by decide +kernel
theorem ones_num (k : Nat) : onesS k = (List.replicate k (1 : Int)).map numS := by unfold onesS; rw [List.map_replicate, s1_num]
theorem ones_word (k : Nat) : ∀ w ∈ onesS k, WordF w := fun w hw => by
  rw [(List.mem_replicate.mp hw).2, s1_num]
  exact num_word (by decide) (by decide)
theorem fJoin_any {ws : List Str} (h : ∀ w ∈ ws, w.length ≤ 10) (hl : ws.length ≤ 20) : fJoin " " (.lst (ws.map D.str)) = some (.str (lnS ws)) := by
  have hb : joinB " " ws = true := by
    unfold joinB
    have h2 : (ws.map (·.length)).sum ≤ ws.length * 10 := sum_le_of fun w hw => h w hw
    have h3 : (" " : Str).length = 1 := by decide +kernel
    rw [h3]
    exact decide_eq_true (by omega)
  simp [fJoin, joinS, toStrs_map, hb, lnS]
theorem bad_head {w : Str} {k : Nat} {bs : List (List Int)} (hk : k ≤ 3) (hw : WordF w) (hb : wordOk w = false) : ∃ ws', fJoin " " (strsD (w :: onesS k)) = some (.str (lnS ws')) ∧ GoodW ws' ∧ BadWs k bs ws' := by
  have hg : GoodW (w :: onesS k) := ⟨fun x hx => by
    rcases List.mem_cons.mp hx with rfl | hx
    · exact hw
    · exact ones_word k x hx, by simp, by simp [onesS]; omega⟩
  exact ⟨w :: onesS k, fJoin_ln hg.w hg.len, hg, .inl (by simp [hb])⟩
theorem sp_one (ws : List Str) : lnS (" 1" :: ws) = lnS ("" :: s1 :: ws) := by
  refine TL.ext_tl ?_
  unfold lnS
  rw [join_tl, join_tl, sp_tl, List.map_cons, List.map_cons, List.map_cons]
  have e1 : TL.tl (" 1" : Str) = [32, 49] := by decide +kernel
  have e2 : TL.tl ("" : Str) = [] := by decide +kernel
  have e3 : TL.tl s1 = [49] := by decide +kernel
  rw [e1, e2, e3]
  cases ws.map TL.tl with
  | nil => rfl
  | cons p r => simp [TL.joinL]
theorem sum_ones0 (n : Nat) : (List.replicate n (0 : Int)).sum = 0 := by simp
/-- each way in which a line of a batch is spoilt -/
theorem odd_bad {ws : List Str} {k : Nat} {bs : List (List Int)} (hk : k ≤ 3) (h : ws ∈ oddA k ++ oddB k) : ∃ ws', fJoin " " (strsD ws) = some (.str (lnS ws')) ∧ GoodW ws' ∧ BadWs k bs ws' := by
  have hE : WordF "" := ⟨by decide +kernel, by decide +kernel, by decide +kernel, by decide +kernel⟩
  simp only [oddA, oddB, List.mem_append, List.mem_cons, List.not_mem_nil, or_false] at h
  rcases h with (rfl | rfl | rfl | rfl | rfl | rfl | rfl | rfl) | (rfl | rfl)
  · have e : onesS (k + 1) ++ [s1] = onesS (k + 2) := by unfold onesS; rw [List.replicate_succ' (n := k + 1)]
    rw [e]
    have hg : GoodW (onesS (k + 2)) := ⟨ones_word _, by simp [onesS], by simp [onesS]; omega⟩
    refine ⟨_, fJoin_ln hg.w hg.len, hg, .inr ⟨_, ones_num _, fun n hn => ?_, .inl (by simp)⟩⟩
    rw [(List.mem_replicate.mp hn).2]; omega
  · by_cases q : k = 0
    · subst q
      refine ⟨[""], ?_, ⟨fun w hw => by rw [List.mem_singleton.mp hw]; exact hE, by simp, by simp⟩, .inl (by decide +kernel)⟩
      show fJoin " " (.lst (([] : List Str).map D.str)) = _
      exact fJoin_ln (ws := []) (by simp) (by simp)
    · have hg : GoodW (onesS k) := ⟨ones_word _, by simp [onesS, q], by simp [onesS]; omega⟩
      refine ⟨_, fJoin_ln hg.w hg.len, hg, .inr ⟨_, ones_num _, fun n hn => ?_, .inl (by simp)⟩⟩
      rw [(List.mem_replicate.mp hn).2]; omega
  · exact bad_head hk ⟨by decide +kernel, by decide +kernel, by decide +kernel, by decide +kernel⟩ (by decide +kernel)
  · exact bad_head hk ⟨by decide +kernel, by decide +kernel, by decide +kernel, by decide +kernel⟩ (by decide +kernel)
  · exact bad_head hk ⟨by decide +kernel, by decide +kernel, by decide +kernel, by decide +kernel⟩ (by decide +kernel)
  · exact bad_head hk hE (by decide +kernel)
  · exact bad_head hk ⟨by decide +kernel, by decide +kernel, by decide +kernel, by decide +kernel⟩ (by decide +kernel)
  · have e : List.replicate (k + 1) ("0" : Str) = (List.replicate (k + 1) (0 : Int)).map numS := by rw [List.map_replicate, s0_num]
    have hb : ∀ n ∈ List.replicate (k + 1) (0 : Int), 0 ≤ n ∧ n < 100 := fun n hn => by rw [(List.mem_replicate.mp hn).2]; omega
    rw [e]
    have hg : GoodW ((List.replicate (k + 1) (0 : Int)).map numS) := ⟨words_num hb, by simp, by simp; omega⟩
    exact ⟨_, fJoin_ln hg.w hg.len, hg, .inr ⟨_, rfl, hb, .inr (.inl (sum_ones0 _))⟩⟩
  · have hg : GoodW (onesS (k + 1) ++ [("" : Str)]) := ⟨fun w hw => by
      rcases List.mem_append.mp hw with hw | hw
      · exact ones_word _ w hw
      · rw [List.mem_singleton.mp hw]; exact hE, by simp, by simp [onesS]; omega⟩
    have hn : wordOk "" = false := by decide +kernel
    exact ⟨_, fJoin_ln hg.w hg.len, hg, .inl (by rw [List.all_append]; simp [hn])⟩
  · have hg : GoodW ("" :: s1 :: onesS k) := ⟨fun w hw => by
      rcases List.mem_cons.mp hw with rfl | hw
      · exact hE
      · exact ones_word (k + 1) w hw, by simp, by simp [onesS]; omega⟩
    have hn : wordOk "" = false := by decide +kernel
    refine ⟨_, ?_, hg, .inl (by simp [hn])⟩
    rw [← sp_one]
    exact fJoin_any (fun w hw => by
      rcases List.mem_cons.mp hw with rfl | hw
      · decide +kernel
      · exact (ones_word k w hw).len) (by simp [onesS]; omega)
theorem head_bad {z : Str} (h : z ∈ headL) : ∃ ws, z = lnS ws ∧ GoodW ws ∧ HeadBad ws := by
  have mk : ∀ ws : List Str, (∀ w ∈ ws, 32 ∉ TL.tl w) → (∀ w ∈ ws, 10 ∉ TL.tl w) → (∀ w ∈ ws, w.length ≤ 10) → (∀ w ∈ ws, ∀ c ∈ TL.tl w, c < 128) → ws ≠ [] → ws.length ≤ 20 → GoodW ws := fun ws a b c d e f => ⟨fun w hw => ⟨a w hw, b w hw, c w hw, d w hw⟩, e, f⟩
  simp only [headL, List.mem_cons, List.not_mem_nil, or_false] at h
  rcases h with rfl | rfl | rfl | rfl | rfl | rfl | rfl | rfl | rfl | rfl | rfl
  · exact ⟨[""], by decide +kernel, mk _ (by decide +kernel) (by decide +kernel) (by decide +kernel) (by decide +kernel) (by simp) (by simp), .inl (by simp)⟩
  · exact ⟨["kinds"], by decide +kernel, mk _ (by decide +kernel) (by decide +kernel) (by decide +kernel) (by decide +kernel) (by simp) (by simp), .inl (by simp)⟩
  · exact ⟨["kinds", ""], by decide +kernel, mk _ (by decide +kernel) (by decide +kernel) (by decide +kernel) (by decide +kernel) (by simp) (by simp), .inr ⟨_, _, rfl, .inr ⟨rfl, .inl (by decide +kernel)⟩⟩⟩
  · exact ⟨["kinds", "0"], by decide +kernel, mk _ (by decide +kernel) (by decide +kernel) (by decide +kernel) (by decide +kernel) (by simp) (by simp), .inr ⟨_, _, rfl, .inr ⟨rfl, .inr (by decide +kernel)⟩⟩⟩
  · exact ⟨["kinds", "01"], by decide +kernel, mk _ (by decide +kernel) (by decide +kernel) (by decide +kernel) (by decide +kernel) (by simp) (by simp), .inr ⟨_, _, rfl, .inr ⟨rfl, .inl (by decide +kernel)⟩⟩⟩
  · exact ⟨["kinds", "x"], by decide +kernel, mk _ (by decide +kernel) (by decide +kernel) (by decide +kernel) (by decide +kernel) (by simp) (by simp), .inr ⟨_, _, rfl, .inr ⟨rfl, .inl (by decide +kernel)⟩⟩⟩
  · exact ⟨["Kinds", "2"], by decide +kernel, mk _ (by decide +kernel) (by decide +kernel) (by decide +kernel) (by decide +kernel) (by simp) (by simp), .inr ⟨_, _, rfl, .inl (by decide +kernel)⟩⟩
  · exact ⟨["kinds", "", "2"], by decide +kernel, mk _ (by decide +kernel) (by decide +kernel) (by decide +kernel) (by decide +kernel) (by simp) (by simp), .inl (by simp)⟩
  · exact ⟨["kinds", "2", "2"], by decide +kernel, mk _ (by decide +kernel) (by decide +kernel) (by decide +kernel) (by decide +kernel) (by simp) (by simp), .inl (by simp)⟩
  · exact ⟨["kinds", "100"], by decide +kernel, mk _ (by decide +kernel) (by decide +kernel) (by decide +kernel) (by decide +kernel) (by simp) (by simp), .inr ⟨_, _, rfl, .inr ⟨rfl, .inl (by decide +kernel)⟩⟩⟩
  · exact ⟨["2"], by decide +kernel, mk _ (by decide +kernel) (by decide +kernel) (by decide +kernel) (by decide +kernel) (by simp) (by simp), .inl (by simp)⟩
end
end Q
namespace Q
open PySem PySem.Spec PyProof.Rows L2 L3
section
variable {k : Nat} {cs : List Int} {b a : Int} {LS : List D}
theorem fnOf6_rt {d1 d2 d3 d' : D} {cs' : List Int} {b' : Int} {s1 s2 s3 s4 s5 : L3.Slot} {body : MS} (h : body [.io (.deal cs b), .fz d1, .fz d2, .fz d3, .emp, .emp] = some (.rt d' [.io (.deal cs' b'), s1, s2, s3, s4, s5])) : fnOf 6 body [.io (.deal cs b), .fz d1, .fz d2, .fz d3] = some (.ret d' [.io (.deal cs' b'), .emp, .emp, .emp]) := by
  have h' : body ([L3.Slot.io (.deal cs b), .fz d1, .fz d2, .fz d3] ++ List.replicate (6 - [L3.Slot.io (.deal cs b), .fz d1, .fz d2, .fz d3].length) .emp) = some (.rt d' [.io (.deal cs' b'), s1, s2, s3, s4, s5]) := h
  unfold fnOf
  rw [h']
  rfl
theorem law_line_zero (h : DlOk cs b) : ∃ z cs' b', z ∈ headL ∧ DlOk cs' b' ∧ P_law_line [.io (.deal cs b), .fz (.int ((k : Int) + 1)), .fz (.lst LS), .fz (.int 0)] = some (.ret (.str z) [.io (.deal cs' b'), .emp, .emp, .emp]) := by
  obtain ⟨z, cs', b', hz, ok, e⟩ := ll1_zero (k := k) (LS := LS) h
  refine ⟨z, cs', b', hz, ok, fnOf6_rt (s1 := .fz (.int ((k : Int) + 1))) (s2 := .fz (.lst LS)) (s3 := .fz (.int 0)) (s4 := .emp) (s5 := .emp) ?_⟩
  rw [line_parts, seqS_ap, e]
theorem odd_list (k : Nat) : [D.lst ((onesS (k + 1)).map D.str ++ [.str "1"]), .lst ((onesS k).map D.str), .lst (.str "01" :: (onesS k).map D.str), .lst (.str "-1" :: (onesS k).map D.str), .lst (.str "x" :: (onesS k).map D.str), .lst (.str "" :: (onesS k).map D.str), .lst (.str "100" :: (onesS k).map D.str), .lst (List.replicate (k + 1) (.str "0"))] ++
    [.lst ((onesS (k + 1)).map D.str ++ [.str ""]), .lst (.str " 1" :: (onesS k).map D.str)] = (oddA k ++ oddB k).map strsD := by
  have e : ∀ (n : Nat) (z : Str), List.replicate n (D.str z) = (List.replicate n z).map D.str := fun n z => by rw [List.map_replicate]
  rw [e]
  have e2 : ∀ (l : List Str) (z : Str), l.map D.str ++ [D.str z] = (l ++ [z]).map D.str := fun l z => by rw [List.map_append]; rfl
  rw [e2, e2]
  rfl
theorem ones_drop (k : Nat) : L3.cutD ((onesS (k + 1)).map D.str) (some 1) none = (onesS k).map D.str := by
  have h := cutD_drop ((onesS (k + 1)).map D.str) 1
  rw [show (((1 : Nat) : Int)) = (1 : Int) from rfl] at h
  rw [h]; rfl
theorem law_line_pos {m : Nat} {bs : List (List Int)} (h : DlOk cs b) (hk : k ≤ 3) (hB : AscB k bs) (hm : m < bs.length) : ∃ ws cs' b', GoodW ws ∧ BadWs k (bs.take m) ws ∧ DlOk cs' b' ∧
    P_law_line [.io (.deal cs b), .fz (.int ((k : Int) + 1)), .fz (.lst ((firstN k :: bs.map lineN).map D.str)), .fz (.int ((m : Int) + 1))] = some (.ret (.str (lnS ws)) [.io (.deal cs' b'), .emp, .emp, .emp]) := by
  generalize hLS : (firstN k :: bs.map lineN).map D.str = LS
  have e1 := ll1_pos (k := k) (cs := cs) (b := b) (LS := LS) (a := (m : Int) + 1) (by omega)
  -- what the rows give
  have rest : ∀ {cs1 : List Int} {b1 : Int}, DlOk cs1 b1 → ∃ (ws : List Str) (cs' : List Int) (b' : Int) (s4 s5 : L3.Slot), GoodW ws ∧ BadWs k (bs.take m) ws ∧ DlOk cs' b' ∧
      (seqS ll3 (seqS ll4 (seqS ll5 mNx))) [.io (.deal cs1 b1), .fz (.int ((k : Int) + 1)), .fz (.lst LS), .fz (.int ((m : Int) + 1)), .emp, .emp] = some (.rt (.str (lnS ws)) [.io (.deal cs' b'), .fz (.int ((k : Int) + 1)), .fz (.lst LS), .fz (.int ((m : Int) + 1)), s4, s5]) := by
    intro cs1 b1 ok1
    obtain ⟨d, cs', b', hd, e, ok⟩ := of_spec (ds := (oddA k ++ oddB k).map strsD) ok1 (by simp [oddA]) (by simp [oddA, oddB])
    obtain ⟨ws, hws, rfl⟩ := List.mem_map.mp hd
    obtain ⟨ws', j1, j2, j3⟩ := odd_bad (k := k) (bs := bs.take m) hk hws
    have e3 := ll3_at (k := k) (cs := cs1) (b := b1) (LS := LS) (a := (m : Int) + 1) (by omega)
    have eR : List.replicate (k + 1) (D.str "1") = (onesS (k + 1)).map D.str := by unfold onesS; rw [List.map_replicate]; rfl
    rw [eR] at e3
    have e4 := ll4_at (k := k) (cs := cs1) (b := b1) (LS := LS) (a := (m : Int) + 1) (R1 := (onesS (k + 1)).map D.str) (RT := (onesS k).map D.str) (R0 := List.replicate (k + 1) (.str "0")) (by simp [onesS]; omega) (ones_drop k) (by simp [onesS]; omega) (rep_one (by omega))
    have e5 := ll5_at (k := k) (cs := cs1) (b := b1) (LS := LS) (a := (m : Int) + 1) (R1 := (onesS (k + 1)).map D.str) (RT := (onesS k).map D.str) (by simp) (by simp [onesS]; omega) (ones_drop k) (by simp [onesS]; omega) (odd_list k) e j1
    refine ⟨ws', cs', b', .fz (.lst ((onesS (k + 1)).map D.str)), .fz (.lst ([D.lst ((onesS (k + 1)).map D.str ++ [.str "1"]), .lst ((onesS k).map D.str), .lst (.str "01" :: (onesS k).map D.str), .lst (.str "-1" :: (onesS k).map D.str), .lst (.str "x" :: (onesS k).map D.str), .lst (.str "" :: (onesS k).map D.str), .lst (.str "100" :: (onesS k).map D.str), .lst (List.replicate (k + 1) (.str "0"))])), j2, j3, ok, ?_⟩
    rw [seqS_ap, e3]; dsimp only
    rw [seqS_ap, e4]; dsimp only
    rw [seqS_ap, e5]
  by_cases q : m = 0
  · subst q
    obtain ⟨ws, cs', b', s4, s5, g1, g2, ok, e⟩ := rest h
    refine ⟨ws, cs', b', g1, g2, ok, ?_⟩
    refine fnOf6_rt (s1 := .fz (.int ((k : Int) + 1))) (s2 := .fz (.lst LS)) (s3 := .fz (.int (((0 : Nat) : Int) + 1))) (s4 := s4) (s5 := s5) ?_
    rw [line_parts, seqS_ap, e1]; dsimp only
    rw [seqS_ap, show ((0 : Nat) : Int) + 1 = 1 from rfl, ll2_one]; dsimp only
    exact e
  · have hx : fIx (.lst LS) (.int ((m : Int) + 1 - 1)) = some (.str (lineN (bs[m - 1]'(by omega)))) := by
      rw [show (m : Int) + 1 - 1 = ((m - 1 + 1 : Nat) : Int) by omega]
      refine fIx_lst ?_
      rw [← hLS, List.getElem?_map, List.getElem?_cons_succ, List.getElem?_map, List.getElem?_eq_getElem (by omega)]
      rfl
    obtain ⟨cs1, b1, ok1, e2 | e2⟩ := ll2_more (k := k) (LS := LS) (a := (m : Int) + 1) h (by omega) hx
    · obtain ⟨ws, cs', b', s4, s5, g1, g2, ok, e⟩ := rest ok1
      refine ⟨ws, cs', b', g1, g2, ok, ?_⟩
      refine fnOf6_rt (s1 := .fz (.int ((k : Int) + 1))) (s2 := .fz (.lst LS)) (s3 := .fz (.int ((m : Int) + 1))) (s4 := s4) (s5 := s5) ?_
      rw [line_parts, seqS_ap, e1]; dsimp only
      rw [seqS_ap, e2]; dsimp only
      exact e
    · have hr := hB.row _ (List.getElem_mem (by omega : m - 1 < bs.length))
      have hb : ∀ n ∈ bs[m - 1]'(by omega), 0 ≤ n ∧ n < 100 := fun n hn => ⟨hr.nn n hn, hr.lt n hn⟩
      have hl := hr.len
      refine ⟨(bs[m - 1]'(by omega)).map numS, cs1, b1, ⟨words_num hb, fun e => ?_, by rw [List.length_map]; omega⟩, .inr ⟨bs[m - 1]'(by omega), rfl, hb, .inr (.inr ⟨bs.take (m - 1), bs[m - 1]'(by omega), ?_, ?_⟩)⟩, ok1, ?_⟩
      · have := congrArg List.length e
        rw [List.length_map, hl] at this
        cases this
      · have := List.take_succ_eq_append_getElem (l := bs) (i := m - 1) (by omega)
        rw [show m - 1 + 1 = m by omega] at this
        exact this
      · rw [leTup_eq]
        cases q2 : leL (bs[m - 1]'(by omega)) (bs[m - 1]'(by omega)) with
        | true => rfl
        | false =>
          have h1 := leL_total (bs[m - 1]'(by omega)) (bs[m - 1]'(by omega))
          rw [q2] at h1
          cases h1
      · refine fnOf6_rt (s1 := .fz (.int ((k : Int) + 1))) (s2 := .fz (.lst LS)) (s3 := .fz (.int ((m : Int) + 1))) (s4 := .emp) (s5 := .emp) ?_
        rw [line_parts, seqS_ap, e1]; dsimp only
        rw [seqS_ap, e2]
        rfl
end
end Q
namespace Q
open PySem PySem.Spec PyProof.Rows L2 L3
theorem AscB.sub {k : Nat} {bs cs : List (List Int)} (h : AscB k bs) (s : cs.Sublist bs) : AscB k cs := ⟨fun b hb => h.row b (s.subset hb), h.asc.sublist s, h.nd.sublist s, Nat.le_trans s.length_le h.len⟩
theorem le_sum4 : ∀ {c : List Int}, (∀ x ∈ c, 0 ≤ x) → ∀ x ∈ c, x ≤ c.sum
  | [], _, x, hx => by cases hx
  | y :: c, h, x, hx => by
    have h1 := le_sum4 (c := c) fun z hz => h z (List.mem_cons_of_mem _ hz)
    have h2 : 0 ≤ c.sum := by
      have : ∀ l : List Int, (∀ x ∈ l, 0 ≤ x) → 0 ≤ l.sum := fun l => by
        induction l with
        | nil => simp
        | cons a l ih => intro hh; rw [List.sum_cons]; have := ih fun z hz => hh z (List.mem_cons_of_mem _ hz); have := hh a (List.mem_cons_self ..); omega
      exact this c fun z hz => h z (List.mem_cons_of_mem _ hz)
    have h3 := h y (List.mem_cons_self ..)
    rw [List.sum_cons]
    rcases List.mem_cons.mp hx with rfl | hx
    · omega
    · have := h1 x hx; omega
theorem asc_of {k : Nat} {bs : List (List Int)} (h : BooksOk k bs) : AscB k bs := ⟨fun b hb => by
  have q := h.each b hb
  exact ⟨q.len, q.nn, q.pos, fun x hx => by have := le_sum4 q.nn x hx; have := q.small; omega⟩, h.asc, h.nd, by have := h.len; omega⟩
theorem log_small {n : Int} (h0 : 0 ≤ n) (h1 : n < 100) : n.natAbs.log2 < 1920 := by
  have h : n.natAbs < 2 ^ 1920 := Nat.lt_of_lt_of_le (show n.natAbs < 2 ^ 7 by omega) (Nat.pow_le_pow_right (by decide) (by decide))
  by_cases z : n.natAbs = 0
  · rw [z]; decide
  · exact (Nat.log2_lt z).mpr h
theorem fStr_num {n : Int} (h0 : 0 ≤ n) (h1 : n < 100) : fStr (.int n) = some (.str (numS n)) := by
  simp only [fStr, if_pos (log_small h0 h1)]; rfl
theorem kinds_eq (n : Int) : ("kinds " : Str) ++ numS n = lnS ["kinds", numS n] := by
  refine TL.ext_tl ?_
  rw [TL.tl_append]
  unfold lnS
  rw [join_tl, sp_tl]
  have e1 : TL.tl ("kinds " : Str) = TL.tl ("kinds" : Str) ++ [32] := by decide +kernel
  rw [e1, List.append_assoc]
  rfl
theorem fPlus_kinds {n : Int} (h0 : 0 ≤ n) (h1 : n < 100) : fPlus (.str "kinds ") (.str (numS n)) = some (.str (lnS ["kinds", numS n])) := by
  have h2 := (numI h0 h1).len
  have h3 : ("kinds " : Str).length = 6 := by decide +kernel
  rw [fPlus_str, if_pos (by rw [h3, sizeLine_eq]; omega), kinds_eq]
theorem fFmt_kinds {n : Int} (h0 : 0 ≤ n) (h1 : n < 100) : fFmt "kinds " (.int n) = some (.str (lnS ["kinds", numS n])) := by
  have h2 := (numI h0 h1).len
  have h3 : ("kinds " : Str).length = 6 := by decide +kernel
  have h4 : (("kinds " : Str) ++ numS n).length = 6 + (numS n).length := by rw [← h3, ← tl_len, TL.tl_append, List.length_append, tl_len, tl_len]
  have hb : fmtB "kinds " (numS n) = true := decide_eq_true ⟨by rw [h3, sizeLine_eq]; omega, by rw [h4, sizeLine_eq]; omega⟩
  have hb' : fmtB "kinds " (toString n : Str) = true := hb
  simp only [fFmt, if_pos (log_small h0 h1), hb', if_true]
  rw [show ("kinds " : Str) ++ (toString n : Str) = ("kinds " : Str) ++ numS n from rfl, kinds_eq]
theorem book_text_eq {k : Nat} {bs : List (List Int)} (hk : k ≤ 9) (hB : AscB k bs) : P_book_text [.fz (bk ((k : Int) + 1) bs)] = some (.ret (.str (txS (firstN k :: bs.map lineN))) [.emp]) := by
  have hlen := hB.len
  have e1 := fFmt_kinds (n := (k : Int) + 1) (by omega) (by omega)
  have e2 := compL_yes (vs := [2]) (f := gNm 2) (me := e2_book_text) (enc := tupD) (ρ := [.fz (bk ((k : Int) + 1) bs), .fz (.lst [.str (firstN k)]), .emp, .emp]) (acc := []) (fun t => D.str (lineN t)) (ts := bs) (by simp; exact sz_of (by omega)) fun t ht => by
    have hr := hB.row t ht
    have hb : ∀ n ∈ t, 0 ≤ n ∧ n < 100 := fun n hn => ⟨hr.nn n hn, hr.lt n hn⟩
    have hl := hr.len
    have q := compL_yes (vs := [3]) (f := gNm 3) (me := e1_book_text) (enc := D.int) (ρ := [.fz (bk ((k : Int) + 1) bs), .fz (.lst [.str (firstN k)]), .fz (tupD t), .emp]) (acc := []) (fun n => D.str (numS n)) (ts := t) (by simp; exact sz_of (by omega)) fun n hn => by
      have e := fStr_num (hb n hn).1 (hb n hn).2
      exact ⟨[.fz (bk ((k : Int) + 1) bs), .fz (.lst [.str (firstN k)]), .fz (tupD t), .fz (.int n)], by simp, [.fz (bk ((k : Int) + 1) bs), .fz (.lst [.str (firstN k)]), .fz (tupD t), .fz (.int n)], by simp [e1_book_text, e], by simp⟩
    rw [List.nil_append, show (t.map fun n => D.str (numS n)) = (t.map numS).map D.str by rw [List.map_map]; rfl] at q
    have j := fJoin_ln (words_num hb) (by rw [List.length_map]; omega)
    rw [show lnS (t.map numS) = lineN t from rfl] at j
    refine ⟨[.fz (bk ((k : Int) + 1) bs), .fz (.lst [.str (firstN k)]), .fz (tupD t), .emp], by simp, [.fz (bk ((k : Int) + 1) bs), .fz (.lst [.str (firstN k)]), .fz (tupD t), .emp], ?_, by simp⟩
    generalize (t.map numS).map D.str = WS at q j
    generalize lineN t = LT at j ⊢
    generalize firstN k = FI at q ⊢
    unfold tupD at q ⊢
    simp [e2_book_text, q, j]
  have hlo : ∀ w ∈ (firstN k :: bs.map lineN), LineF w := fun w hw => by
    rcases List.mem_cons.mp hw with rfl | hw
    · exact first_ok hk
    · obtain ⟨t, ht, rfl⟩ := List.mem_map.mp hw
      exact line_ok (hB.row t ht) hk
  have j := fJoin_tx hlo (by simp; omega)
  rw [List.map_cons] at j
  rw [List.nil_append, show (bs.map fun t => D.str (lineN t)) = (bs.map lineN).map D.str by rw [List.map_map]; rfl] at e2
  rw [show lnS ["kinds", numS ((k : Int) + 1)] = firstN k from rfl] at e1
  have hz : 1 + ((bs.map lineN).map D.str).length ≤ 16777216 := by simp; omega
  generalize hT : txS (firstN k :: bs.map lineN) = TX at j ⊢
  generalize firstN k = FI at e1 e2 j
  generalize (bs.map lineN).map D.str = WS at e2 j hz
  simp only [bk] at e1 e2 ⊢
  simp [P_book_text, m_book_text, e1, e2, j, hz, sizeLine_eq]
theorem line_good {k : Nat} {t : List Int} (hr : RowP k t) (hk : k ≤ 9) : GoodW (t.map numS) := ⟨words_num fun n hn => ⟨hr.nn n hn, hr.lt n hn⟩, fun e => by
  have h := congrArg List.length e
  rw [List.length_map, hr.len] at h
  exact absurd h (by simp), by rw [List.length_map, hr.len]; omega⟩
theorem obOf_int (i : Int) : obOf (.int i) = none := (rfl)
end Q
namespace Q
open PySem PySem.Spec PyProof.Rows L2 L3
noncomputable section
def q04t1 : MS := (mAsg (gTp 2 (gC (gNm 2) (gC (gNm 3) gN0))) (mCall P_law_book 2 (mACons (mIo 1) (mACons (mVal (M.ret (.int 4))) mANil))))
def q04t2 : MS := (mSet 4 (mMake 0 2 P_init_Book (mACons (mVal (mVar 2)) (mACons (mVal (mVar 3)) mANil))))
def q04t3 (za : D) : MS := (mOwn 5 (mLst (mCons (mOp fPlus (M.map Bv.val (M.ret za)) (M.map Bv.val (mUn fStr (mSl 2)))) mNil)))
def q04t4 : MS := (mFor (mSeq (mSqV 3)) (gNm 6) b2_law_k04)
def q04t5 : MS := (mSet 7 (mUn (fJoin "\n") (mSl 5)))
def q04t6 : MS := (mIfS (mOr (asB (mOp fNe (M.map Bv.val (mCall P_book_text 1 (mPick [0] 1 (mACons (mVal (mVar 4)) mANil)))) (mSl 7))) (asB (mEqO 0 P_eqBook true fNe (M.map Bv.val (mCall P_law_read 1 (mACons (mVal (mVar 7)) mANil))) (mSl 4)))) (seqS (mRet (M.ret (.bl false)))
  mNx) mNx)
def q04t7 : MS := (mSet 8 (mCall P_law_any 2 (mACons (mIo 1) (mACons (mVal (mUn fLen (mSl 5))) mANil))))
def q04t8 : MS := (mSet 9 (mOp fPlus (M.map Bv.val (mOp fPlus (M.map Bv.val (mSli (mSl 5) mNoP (mPart (mSl 8)))) (M.map Bv.val (M.map D.lst (mLst (mCons (mCall P_law_line 4 (mACons (mIo 1) (mACons (mVal (mVar 2)) (mACons (mVal (mVar 5)) (mACons (mVal (mVar 8)) mANil))))) mNil)))))) (M.map Bv.val (mSli (mSl 5) (mPart (M.map Bv.val (mOp fPlus (mSl 8) (M.map Bv.val (M.ret (.int 1)))))) mNoP))))
def q04t9 : MS := (mIfS (asB (mEqO 0 P_eqBook true fNe (M.map Bv.val (mCall P_law_read 1 (mACons (mVal (mUn (fJoin "\n") (mSl 9))) mANil))) (mSl 8))) (seqS (mRet (M.ret (.bl false)))
  mNx) mNx)
def q04u1 : MS := (mSet 10 (mOp fPlus (M.map Bv.val (M.ret (.int 1))) (M.map Bv.val (mCall P_law_any 2 (mACons (mIo 1) (mACons (mVal (mOp fSub (M.map Bv.val (mUn fLen (mSl 3))) (M.map Bv.val (M.ret (.int 1))))) mANil))))))
def q04u2 : MS := (mSet 11 (mOp fPlus (M.map Bv.val (mOp fPlus (M.map Bv.val (mSli (mSl 5) mNoP (mPart (mSl 10)))) (M.map Bv.val (M.map D.lst (mLst (mCons (mOp fIx (mSl 5) (M.map Bv.val (mOp fPlus (mSl 10) (M.map Bv.val (M.ret (.int 1)))))) (mCons (mOp fIx (mSl 5) (mSl 10)) mNil))))))) (M.map Bv.val (mSli (mSl 5) (mPart (M.map Bv.val (mOp fPlus (mSl 10) (M.map Bv.val (M.ret (.int 2)))))) mNoP))))
def q04u3 : MS := (mIfS (asB (mEqO 0 P_eqBook true fNe (M.map Bv.val (mCall P_law_read 1 (mACons (mVal (mUn (fJoin "\n") (mSl 11))) mANil))) (M.map Bv.val (mOp fPlus (mSl 10) (M.map Bv.val (M.ret (.int 1))))))) (seqS (mRet (M.ret (.bl false)))
  mNx) mNx)
def q04t10 : MS := (mIfS (asB (mOp fGt (M.map Bv.val (mUn fLen (mSl 3))) (M.map Bv.val (M.ret (.int 1))))) (seqS q04u1 (seqS q04u2 (seqS q04u3 mNx))) mNx)
def q04t11 (za : D) : MS := (mIfS (mOr (asB (mEqO 0 P_eqBook true fNe (M.map Bv.val (mCall P_law_read 1 (mACons (mVal (mOp fPlus (mSl 7) (M.map Bv.val (M.ret za)))) mANil))) (M.map Bv.val (mUn fLen (mSl 5))))) (asB (mEqO 0 P_eqBook true fNe (M.map Bv.val (mCall P_law_read 1 (mACons (mVal (mCall P_law_of 2 (mACons (mIo 1) (mACons (mVal (M.map D.lst (mLst (mCons (M.ret .non) (mCons (M.ret (.int 7)) (mCons (M.map D.lst (mLst (mCons (mVar 7) mNil))) (mCons (mTup (mCons (mVar 7) mNil)) mNil))))))) mANil)))) mANil))) (M.map Bv.val (M.ret (.int 0)))))) (seqS (mRet (M.ret (.bl false)))
  mNx) mNx)
def q04t12 (za zb zc : D) : MS := (mSet 12 (mCall P_law_read 1 (mACons (mVal (mUn (fJoin "\n") (M.map Bv.val (M.map D.lst (mLst (mCons (M.ret za) (mCons (M.ret zb) (mCons (M.ret zc) mNil)))))))) mANil)))
def q04t13 (za : D) : MS := (mRet (mAndV (mEqO 0 P_eqBook false fEq (mSl 12) (M.map Bv.val (mMake 0 2 P_init_Book (mACons (mVal (M.ret (.int 2))) (mACons (mVal (M.map D.lst (mLst (mCons (mTup (mCons (M.ret (.int 0)) (mCons (M.ret (.int 12)) mNil))) (mCons (mTup (mCons (M.ret (.int 10)) (mCons (M.ret (.int 9)) mNil))) mNil))))) mANil))))) (mEqO 0 P_eqBook false fEq (M.map Bv.val (mCall P_law_read 1 (mACons (mVal (M.ret za)) mANil))) (M.map Bv.val (mMake 0 2 P_init_Book (mACons (mVal (M.ret (.int 3))) (mACons (mVal (M.map D.lst (mLst mNil))) mANil)))))))
theorem k04_parts : m_law_k04 = seqS q04t1 (seqS q04t2 (seqS (q04t3 (.str "kinds ")) (seqS q04t4 (seqS q04t5 (seqS q04t6 (seqS q04t7 (seqS q04t8 (seqS q04t9 (seqS q04t10 (seqS (q04t11 (.str "\n")) (seqS (q04t12 (.str "kinds 2") (.str "0 12") (.str "10 9")) (seqS (q04t13 (.str "kinds 3")) (mNx))))))))))))) := rfl
end
section
variable {cs : List Int} {b : Int} {k : Nat} {bs : List (List Int)} {x2 x3 x4 x5 x6 x7 x8 x9 x10 x11 x12 : L3.Slot}
theorem q04_1 (h : DlOk cs b) : ∃ (k : Nat) (bs : List (List Int)) (cs' : List Int) (b' : Int), k ≤ 3 ∧ BooksOk k bs ∧ DlOk cs' b' ∧ q04t1 [.emp, .own (.deal cs b), x2, x3, x4, x5, x6, x7, x8, x9, x10, x11, x12, .emp] = some (.nx [.emp, .own (.deal cs' b'), .fz (.int ((k : Int) + 1)), .fz (.lst (bs.map tupD)), x4, x5, x6, x7, x8, x9, x10, x11, x12, .emp]) := by
  obtain ⟨k, bs, cs', b', hk, hB, ok, e⟩ := book_spec (m := 4) h (by decide) (by decide)
  have e' : P_law_book [.io (.deal cs b), .fz (.int 4)] = some (.ret (.tup [.int ((k : Int) + 1), .lst (bs.map tupD)]) [.io (.deal cs' b'), .emp]) := e
  exact ⟨k, bs, cs', b', by omega, hB, ok, by simp [q04t1, e']⟩
theorem q04_2 (hk : k ≤ 3) (hB : BooksOk k bs) : q04t2 [.emp, .own (.deal cs b), .fz (.int ((k : Int) + 1)), .fz (.lst (bs.map tupD)), x4, x5, x6, x7, x8, x9, x10, x11, x12, .emp] = some (.nx [.emp, .own (.deal cs b), .fz (.int ((k : Int) + 1)), .fz (.lst (bs.map tupD)), .fz (bk ((k : Int) + 1) bs), x5, x6, x7, x8, x9, x10, x11, x12, .emp]) := by
  have i1 := init_ok (k := k) (s := .fz (.lst (bs.map tupD))) (ts := bs) (by omega) (.inl rfl) (fun t ht => hB.each t ht) hB.nd
  have hs : sortL bs = bs := sortL_asc hB
  have hbk : D.ob 0 (bookD k bs) = bk ((k : Int) + 1) bs := by unfold bookD bk; rw [hs]
  simp [q04t2, i1, hbk]
theorem q04_3 (hk : k ≤ 3) : q04t3 (.str "kinds ") [.emp, .own (.deal cs b), .fz (.int ((k : Int) + 1)), .fz (.lst (bs.map tupD)), .fz (bk ((k : Int) + 1) bs), x5, x6, x7, x8, x9, x10, x11, x12, .emp] = some (.nx [.emp, .own (.deal cs b), .fz (.int ((k : Int) + 1)), .fz (.lst (bs.map tupD)), .fz (bk ((k : Int) + 1) bs), .own (.lst [.str (firstN k)]), x6, x7, x8, x9, x10, x11, x12, .emp]) := by
  have e1 := fStr_num (n := (k : Int) + 1) (by omega) (by omega)
  have e2 := fPlus_kinds (n := (k : Int) + 1) (by omega) (by omega)
  have e3 : lnS ["kinds", numS ((k : Int) + 1)] = firstN k := rfl
  rw [e3] at e2
  generalize numS ((k : Int) + 1) = NU at e1 e2
  generalize D.str (Str.ofString "kinds ") = KS at e2 ⊢
  generalize firstN k = FI at e2 ⊢
  simp [q04t3, e1, e2, sizeLine_eq]
theorem q04_b2 {pre : List (List Int)} {t : List Int} (hr : RowP k t) (hk : k ≤ 3) (hp : pre.length ≤ 20) : b2_law_k04 [.emp, .own (.deal cs b), .fz (.int ((k : Int) + 1)), .fz (.lst (bs.map tupD)), .fz (bk ((k : Int) + 1) bs), .own (.lst (([firstN k] ++ pre.map lineN).map D.str)), .fz (tupD t), x7, x8, x9, x10, x11, x12, .emp] = some (.nx [.emp, .own (.deal cs b), .fz (.int ((k : Int) + 1)), .fz (.lst (bs.map tupD)), .fz (bk ((k : Int) + 1) bs), .own (.lst (([firstN k] ++ (pre ++ [t]).map lineN).map D.str)), .fz (tupD t), x7, x8, x9, x10, x11, x12, .emp]) := by
  have hb : ∀ n ∈ t, 0 ≤ n ∧ n < 100 := fun n hn => ⟨hr.nn n hn, hr.lt n hn⟩
  have hl := hr.len
  have q := compL_yes (vs := [13]) (f := gNm 13) (me := e1_law_k04) (enc := D.int) (ρ := [.emp, .own (.deal cs b), .fz (.int ((k : Int) + 1)), .fz (.lst (bs.map tupD)), .fz (bk ((k : Int) + 1) bs), .own (.lst (([firstN k] ++ pre.map lineN).map D.str)), .fz (tupD t), x7, x8, x9, x10, x11, x12, .emp]) (acc := []) (fun n => D.str (numS n)) (ts := t) (by simp; exact sz_of (by omega)) fun n hn => by
    have e := fStr_num (hb n hn).1 (hb n hn).2
    exact ⟨[.emp, .own (.deal cs b), .fz (.int ((k : Int) + 1)), .fz (.lst (bs.map tupD)), .fz (bk ((k : Int) + 1) bs), .own (.lst (([firstN k] ++ pre.map lineN).map D.str)), .fz (tupD t), x7, x8, x9, x10, x11, x12, .fz (.int n)], by simp, [.emp, .own (.deal cs b), .fz (.int ((k : Int) + 1)), .fz (.lst (bs.map tupD)), .fz (bk ((k : Int) + 1) bs), .own (.lst (([firstN k] ++ pre.map lineN).map D.str)), .fz (tupD t), x7, x8, x9, x10, x11, x12, .fz (.int n)], by simp [e1_law_k04, e], by simp⟩
  rw [List.nil_append, show (t.map fun n => D.str (numS n)) = (t.map numS).map D.str by rw [List.map_map]; rfl] at q
  have j := fJoin_ln (words_num hb) (by rw [List.length_map]; omega)
  rw [show lnS (t.map numS) = lineN t from rfl] at j
  have hsz : (([firstN k] ++ pre.map lineN).map D.str).length < sizeLine := by rw [sizeLine_eq]; simp; omega
  rw [show (([firstN k] ++ (pre ++ [t]).map lineN).map D.str) = ([firstN k] ++ pre.map lineN).map D.str ++ [D.str (lineN t)] by simp]
  generalize ([firstN k] ++ pre.map lineN).map D.str = AC at q hsz ⊢
  generalize (t.map numS).map D.str = WS at q j
  generalize lineN t = LT at j ⊢
  unfold tupD at q ⊢
  simp [b2_law_k04, q, j, hsz]
theorem q04_4 (hk : k ≤ 3) (hB : AscB k bs) : ∃ s6 : L3.Slot, q04t4 [.emp, .own (.deal cs b), .fz (.int ((k : Int) + 1)), .fz (.lst (bs.map tupD)), .fz (bk ((k : Int) + 1) bs), .own (.lst [.str (firstN k)]), x6, x7, x8, x9, x10, x11, x12, .emp] = some (.nx [.emp, .own (.deal cs b), .fz (.int ((k : Int) + 1)), .fz (.lst (bs.map tupD)), .fz (bk ((k : Int) + 1) bs), .own (.lst ((firstN k :: bs.map lineN).map D.str)), s6, x7, x8, x9, x10, x11, x12, .emp]) := by
  have hlen := hB.len
  obtain ⟨ρ', h1, s6, rfl⟩ := forL_inv (f := gNm 6) (b := b2_law_k04) (enc := tupD) (fun pre ρ => ∃ s6 : L3.Slot, ρ = [.emp, .own (.deal cs b), .fz (.int ((k : Int) + 1)), .fz (.lst (bs.map tupD)), .fz (bk ((k : Int) + 1) bs), .own (.lst (([firstN k] ++ pre.map lineN).map D.str)), s6, x7, x8, x9, x10, x11, x12, .emp]) (ts := bs) (ρ := [.emp, .own (.deal cs b), .fz (.int ((k : Int) + 1)), .fz (.lst (bs.map tupD)), .fz (bk ((k : Int) + 1) bs), .own (.lst [.str (firstN k)]), x6, x7, x8, x9, x10, x11, x12, .emp]) ⟨x6, rfl⟩ fun pre t post ρ e hI => by
    obtain ⟨s6, rfl⟩ := hI
    have ht : t ∈ bs := by rw [e]; simp
    have hp : pre.length ≤ 20 := by have := congrArg List.length e; simp at this; omega
    exact ⟨[.emp, .own (.deal cs b), .fz (.int ((k : Int) + 1)), .fz (.lst (bs.map tupD)), .fz (bk ((k : Int) + 1) bs), .own (.lst (([firstN k] ++ pre.map lineN).map D.str)), .fz (tupD t), x7, x8, x9, x10, x11, x12, .emp], _, by simp, .inl (q04_b2 (hB.row t ht) hk hp), .fz (tupD t), rfl⟩
  refine ⟨s6, ?_⟩
  rw [show ([firstN k] ++ bs.map lineN) = (firstN k :: bs.map lineN) from rfl] at h1
  generalize (firstN k :: bs.map lineN).map D.str = AC at h1 ⊢
  simp [q04t4, h1]
theorem lines_ok {k : Nat} {bs : List (List Int)} (hk : k ≤ 3) (hB : AscB k bs) : ∀ w ∈ (firstN k :: bs.map lineN), LineF w := fun w hw => by
  rcases List.mem_cons.mp hw with rfl | hw
  · exact first_ok (by omega)
  · obtain ⟨t, ht, rfl⟩ := List.mem_map.mp hw
    exact line_ok (hB.row t ht) (by omega)
theorem q04_5 (hk : k ≤ 3) (hB : AscB k bs) : q04t5 [.emp, .own (.deal cs b), .fz (.int ((k : Int) + 1)), .fz (.lst (bs.map tupD)), .fz (bk ((k : Int) + 1) bs), .own (.lst ((firstN k :: bs.map lineN).map D.str)), x6, x7, x8, x9, x10, x11, x12, .emp] = some (.nx [.emp, .own (.deal cs b), .fz (.int ((k : Int) + 1)), .fz (.lst (bs.map tupD)), .fz (bk ((k : Int) + 1) bs), .own (.lst ((firstN k :: bs.map lineN).map D.str)), x6, .fz (.str (txS (firstN k :: bs.map lineN))), x8, x9, x10, x11, x12, .emp]) := by
  have hlen := hB.len
  have j := fJoin_tx (lines_ok hk hB) (by simp; omega)
  generalize (firstN k :: bs.map lineN).map D.str = AC at j ⊢
  generalize txS (firstN k :: bs.map lineN) = TX at j ⊢
  simp [q04t5, j]
theorem q04_6 (hk : k ≤ 3) (hB : AscB k bs) : q04t6 [.emp, .own (.deal cs b), .fz (.int ((k : Int) + 1)), .fz (.lst (bs.map tupD)), .fz (bk ((k : Int) + 1) bs), .own (.lst ((firstN k :: bs.map lineN).map D.str)), x6, .fz (.str (txS (firstN k :: bs.map lineN))), x8, x9, x10, x11, x12, .emp] = some (.nx [.emp, .own (.deal cs b), .fz (.int ((k : Int) + 1)), .fz (.lst (bs.map tupD)), .fz (bk ((k : Int) + 1) bs), .own (.lst ((firstN k :: bs.map lineN).map D.str)), x6, .fz (.str (txS (firstN k :: bs.map lineN))), x8, x9, x10, x11, x12, .emp]) := by
  have hlen := hB.len
  have e1 := book_text_eq (k := k) (by omega) hB
  have e2 := law_read_ok (read_ok (k := k) (by omega) hB)
  have hs : sortL bs = bs := sortL_of hB.asc (List.Perm.refl _)
  have hbk : D.ob 0 (bookD k bs) = bk ((k : Int) + 1) bs := by unfold bookD bk; rw [hs]
  rw [hbk] at e2
  have e3 := eqBook_bk ((k : Int) + 1) ((k : Int) + 1) bs bs
  have so := strOk_of (txS_ok (lines_ok hk hB) (by simp; omega)).2
  have e4 := fNe_str so so
  rw [decide_eq_true rfl] at e4
  generalize (firstN k :: bs.map lineN).map D.str = AC
  generalize txS (firstN k :: bs.map lineN) = TX at e1 e2 e4 ⊢
  simp only [bk] at e1 e2 e3 ⊢
  simp [q04t6, e1, e2, e3, e4]
theorem q04_7 (h : DlOk cs b) (hB : AscB k bs) : ∃ (m : Nat) (cs' : List Int) (b' : Int), m ≤ bs.length ∧ DlOk cs' b' ∧ q04t7 [.emp, .own (.deal cs b), .fz (.int ((k : Int) + 1)), .fz (.lst (bs.map tupD)), .fz (bk ((k : Int) + 1) bs), .own (.lst ((firstN k :: bs.map lineN).map D.str)), x6, .fz (.str (txS (firstN k :: bs.map lineN))), x8, x9, x10, x11, x12, .emp] = some (.nx [.emp, .own (.deal cs' b'), .fz (.int ((k : Int) + 1)), .fz (.lst (bs.map tupD)), .fz (bk ((k : Int) + 1) bs), .own (.lst ((firstN k :: bs.map lineN).map D.str)), x6, .fz (.str (txS (firstN k :: bs.map lineN))), .fz (.int (m : Nat)), x9, x10, x11, x12, .emp]) := by
  have hlen := hB.len
  obtain ⟨v, cs', b', e, h0, h1, ok⟩ := any_spec (n := (bs.length : Int) + 1) h (by omega) (by omega)
  obtain ⟨m, rfl⟩ := Int.eq_ofNat_of_zero_le h0
  have e2 : fLen (.lst ((firstN k :: bs.map lineN).map D.str)) = some (.int ((bs.length : Int) + 1)) := by simp
  refine ⟨m, cs', b', by omega, ok, ?_⟩
  generalize (firstN k :: bs.map lineN).map D.str = AC at e2 ⊢
  generalize txS (firstN k :: bs.map lineN) = TX
  rw [fLen_lst] at e2
  simp only [Option.some.injEq, D.int.injEq] at e2
  simp [q04t7, e2, e]
theorem q04_8 {m : Nat} (h : DlOk cs b) (hk : k ≤ 3) (hB : AscB k bs) (hm : m ≤ bs.length) : ∃ (SP : List Str) (cs' : List Int) (b' : Int), DlOk cs' b' ∧ (∀ w ∈ SP, LineF w) ∧ SP.length ≤ 100 ∧ P_law_read [.fz (.str (txS SP))] = some (.ret (.int (m : Nat)) [.emp]) ∧ q04t8 [.emp, .own (.deal cs b), .fz (.int ((k : Int) + 1)), .fz (.lst (bs.map tupD)), .fz (bk ((k : Int) + 1) bs), .own (.lst ((firstN k :: bs.map lineN).map D.str)), x6, .fz (.str (txS (firstN k :: bs.map lineN))), .fz (.int (m : Nat)), x9, x10, x11, x12, .emp] = some (.nx [.emp, .own (.deal cs' b'), .fz (.int ((k : Int) + 1)), .fz (.lst (bs.map tupD)), .fz (bk ((k : Int) + 1) bs), .fz (.lst ((firstN k :: bs.map lineN).map D.str)), x6, .fz (.str (txS (firstN k :: bs.map lineN))), .fz (.int (m : Nat)), .fz (.lst (SP.map D.str)), x10, x11, x12, .emp]) := by
  have hlen := hB.len
  have hlo := lines_ok hk hB
  have key : ∃ (z : Str) (cs' : List Int) (b' : Int), LineF z ∧ DlOk cs' b' ∧ P_law_line [.io (.deal cs b), .fz (.int ((k : Int) + 1)), .fz (.lst ((firstN k :: bs.map lineN).map D.str)), .fz (.int (m : Nat))] = some (.ret (.str z) [.io (.deal cs' b'), .emp, .emp, .emp]) ∧
      P_law_read [.fz (.str (txS ((firstN k :: bs.map lineN).take m ++ [z] ++ (firstN k :: bs.map lineN).drop (m + 1))))] = some (.ret (.int (m : Nat)) [.emp]) := by
    by_cases q : m = 0
    · subst q
      obtain ⟨z, cs', b', hz, ok, e⟩ := law_line_zero (k := k) (LS := (firstN k :: bs.map lineN).map D.str) h
      obtain ⟨ws, rfl, hg, hb⟩ := head_bad hz
      refine ⟨_, cs', b', lnS_ok hg.w hg.len, ok, e, ?_⟩
      rw [List.take_zero, List.nil_append, List.drop_one, List.tail_cons]
      exact law_read_exc (read_head_bad hg hb (fun w hw => hlo w (List.mem_cons_of_mem _ hw)) (by simp; omega))
    · obtain ⟨m', rfl⟩ : ∃ m', m = m' + 1 := ⟨m - 1, by omega⟩
      obtain ⟨ws, cs', b', hg, hb, ok, e⟩ := law_line_pos (m := m') h hk hB (by omega)
      refine ⟨_, cs', b', lnS_ok hg.w hg.len, ok, e, ?_⟩
      have hB' : AscB k (bs.take m') := hB.sub (List.take_sublist ..)
      have e2 := read_at (k := k) (rest := (bs.map lineN).drop (m' + 1)) (by omega) hB' hg hb (fun w hw => hlo w (List.mem_cons_of_mem _ (List.mem_of_mem_drop hw))) (by simp; omega)
      have e3 := law_read_exc e2
      have hl : (bs.take m').length = m' := by rw [List.length_take]; omega
      rw [hl] at e3
      rw [List.take_succ_cons, ← List.map_take, List.drop_succ_cons, List.append_assoc, List.cons_append]
      exact e3
  obtain ⟨z, cs', b', hz, ok, e, er⟩ := key
  refine ⟨_, cs', b', ok, fun w hw => ?_, ?_, er, ?_⟩
  · simp only [List.mem_append, List.mem_singleton] at hw
    rcases hw with (hw | rfl) | hw
    · exact hlo w (List.mem_of_mem_take hw)
    · exact hz
    · exact hlo w (List.mem_of_mem_drop hw)
  · simp; omega
  · rw [List.map_append, List.map_append, List.map_take, List.map_drop]
    have hL : ((firstN k :: bs.map lineN).map D.str).length = bs.length + 1 := by simp
    generalize (firstN k :: bs.map lineN).map D.str = AC at e hL ⊢
    generalize txS (firstN k :: bs.map lineN) = TX
    have c1 := cutD_take AC m
    have c2 := cutD_drop AC (m + 1)
    have c3 : (((m + 1 : Nat)) : Int) = (m : Int) + 1 := by omega
    rw [c3] at c2
    have z1 : (AC.take m).length + 1 ≤ 16777216 := by rw [List.length_take]; omega
    have z2 : (AC.take m).length + 1 + (AC.drop (m + 1)).length ≤ 16777216 := by rw [List.length_take, List.length_drop]; omega
    generalize AC.take m = A1 at c1 z1 z2 ⊢
    generalize AC.drop (m + 1) = A2 at c2 z2 ⊢
    simp [q04t8, e, c1, c2, z1, z2, sizeLine_eq]
theorem q04_9 {m : Nat} {SP : List Str} (h1 : ∀ w ∈ SP, LineF w) (h2 : SP.length ≤ 100) (er : P_law_read [.fz (.str (txS SP))] = some (.ret (.int (m : Nat)) [.emp])) : q04t9 [.emp, .own (.deal cs b), .fz (.int ((k : Int) + 1)), .fz (.lst (bs.map tupD)), .fz (bk ((k : Int) + 1) bs), .fz (.lst ((firstN k :: bs.map lineN).map D.str)), x6, .fz (.str (txS (firstN k :: bs.map lineN))), .fz (.int (m : Nat)), .fz (.lst (SP.map D.str)), x10, x11, x12, .emp] = some (.nx [.emp, .own (.deal cs b), .fz (.int ((k : Int) + 1)), .fz (.lst (bs.map tupD)), .fz (bk ((k : Int) + 1) bs), .fz (.lst ((firstN k :: bs.map lineN).map D.str)), x6, .fz (.str (txS (firstN k :: bs.map lineN))), .fz (.int (m : Nat)), .fz (.lst (SP.map D.str)), x10, x11, x12, .emp]) := by
  have j := fJoin_tx h1 h2
  generalize (firstN k :: bs.map lineN).map D.str = AC
  generalize txS (firstN k :: bs.map lineN) = TX
  generalize SP.map D.str = SL at j ⊢
  generalize txS SP = TS at j er
  simp [q04t9, j, er, obOf_int]
theorem swap_key {j : Nat} {k : Nat} {bs : List (List Int)} (hk : k ≤ 3) (hB : AscB k bs) (hj : j + 1 < bs.length) : ∃ SW : List Str, SW = (firstN k :: bs.map lineN).take (j + 1) ++ [lineN bs[j + 1], lineN (bs[j]'(by omega))] ++ (firstN k :: bs.map lineN).drop (j + 3) ∧ (∀ w ∈ SW, LineF w) ∧ SW.length ≤ 100 ∧ P_law_read [.fz (.str (txS SW))] = some (.ret (.int ((j : Int) + 2)) [.emp]) := by
  have hlen := hB.len
  have hlo := lines_ok hk hB
  have hj' : j < bs.length := by omega
  have hr := hB.row _ (List.getElem_mem hj')
  have hb : ∀ n ∈ bs[j]'hj', 0 ≤ n ∧ n < 100 := fun n hn => ⟨hr.nn n hn, hr.lt n hn⟩
  have hl := hr.len
  have hsub : (bs.take j ++ [bs[j + 1]]).Sublist bs := by
    have e : bs = bs.take j ++ bs[j]'hj' :: bs[j + 1] :: bs.drop (j + 2) := by
      have e1 : bs.drop j = bs[j]'hj' :: bs.drop (j + 1) := List.drop_eq_getElem_cons hj'
      have e2 : bs.drop (j + 1) = bs[j + 1] :: bs.drop (j + 1 + 1) := List.drop_eq_getElem_cons hj
      rw [← e2, ← e1, List.take_append_drop]
    have q : (bs.take j ++ [bs[j + 1]]).Sublist (bs.take j ++ bs[j]'hj' :: bs[j + 1] :: bs.drop (j + 2)) := (List.Sublist.refl _).append (.cons _ ((List.nil_sublist _).cons₂ _))
    rwa [← e] at q
  have hB' := hB.sub hsub
  have hg : GoodW ((bs[j]'hj').map numS) := line_good hr (by omega)
  have hbad : BadWs k (bs.take j ++ [bs[j + 1]]) ((bs[j]'hj').map numS) := .inr ⟨bs[j]'hj', rfl, hb, .inr (.inr ⟨bs.take j, bs[j + 1], rfl, by
    rw [leTup_eq]
    exact List.pairwise_iff_getElem.mp hB.asc j (j + 1) hj' hj (by omega)⟩)⟩
  have e2 := law_read_exc (read_at (k := k) (rest := (bs.map lineN).drop (j + 2)) (by omega) hB' hg hbad (fun w hw => hlo w (List.mem_cons_of_mem _ (List.mem_of_mem_drop hw))) (by simp; omega))
  have hl2 : ((bs.take j ++ [bs[j + 1]]).length : Int) + 1 = (j : Int) + 2 := by
    rw [List.length_append, List.length_take, List.length_singleton]; omega
  rw [hl2] at e2
  have eS : firstN k :: ((bs.take j ++ [bs[j + 1]]).map lineN ++ lnS ((bs[j]'hj').map numS) :: (bs.map lineN).drop (j + 2)) = (firstN k :: bs.map lineN).take (j + 1) ++ [lineN bs[j + 1], lineN (bs[j]'hj')] ++ (firstN k :: bs.map lineN).drop (j + 3) := by
    rw [List.take_succ_cons, ← List.map_take, List.drop_succ_cons, List.map_append, show lnS ((bs[j]'hj').map numS) = lineN (bs[j]'hj') from rfl]
    simp
  rw [eS] at e2
  refine ⟨_, rfl, fun w hw => ?_, by simp; omega, e2⟩
  simp only [List.mem_append, List.mem_cons, List.not_mem_nil, or_false] at hw
  rcases hw with (hw | rfl | rfl) | hw
  · exact hlo w (List.mem_of_mem_take hw)
  · exact line_ok (hB.row _ (List.getElem_mem hj)) (by omega)
  · exact line_ok hr (by omega)
  · exact hlo w (List.mem_of_mem_drop hw)
theorem q04_10 {m : Nat} {SP : List Str} (h : DlOk cs b) (hk : k ≤ 3) (hB : AscB k bs) : ∃ (cs' : List Int) (b' : Int) (y10 y11 : L3.Slot), DlOk cs' b' ∧ q04t10 [.emp, .own (.deal cs b), .fz (.int ((k : Int) + 1)), .fz (.lst (bs.map tupD)), .fz (bk ((k : Int) + 1) bs), .fz (.lst ((firstN k :: bs.map lineN).map D.str)), x6, .fz (.str (txS (firstN k :: bs.map lineN))), .fz (.int (m : Nat)), .fz (.lst (SP.map D.str)), x10, x11, x12, .emp] = some (.nx [.emp, .own (.deal cs' b'), .fz (.int ((k : Int) + 1)), .fz (.lst (bs.map tupD)), .fz (bk ((k : Int) + 1) bs), .fz (.lst ((firstN k :: bs.map lineN).map D.str)), x6, .fz (.str (txS (firstN k :: bs.map lineN))), .fz (.int (m : Nat)), .fz (.lst (SP.map D.str)), y10, y11, x12, .emp]) := by
  have hlen := hB.len
  by_cases q : 1 < bs.length
  · obtain ⟨v, cs', b', e, h0, h1, ok⟩ := any_spec (n := (bs.length : Int) - 1) h (by omega) (by omega)
    obtain ⟨j, rfl⟩ := Int.eq_ofNat_of_zero_le h0
    have hj : j + 1 < bs.length := by omega
    obtain ⟨SW, hSW, hl1, hl2, er⟩ := swap_key hk hB hj
    have jn := fJoin_tx hl1 hl2
    have hq : ((1 : Int) < (bs.length : Int)) = True := eq_true (by omega)
    have hL : ((firstN k :: bs.map lineN).map D.str).length = bs.length + 1 := by simp
    have g1 : fIx (.lst ((firstN k :: bs.map lineN).map D.str)) (.int ((j : Int) + 1)) = some (.str (lineN (bs[j]'(by omega)))) := by
      rw [show (j : Int) + 1 = ((j + 1 : Nat) : Int) by omega]
      exact fIx_lst (by simp [show j < bs.length by omega])
    have g2 : fIx (.lst ((firstN k :: bs.map lineN).map D.str)) (.int ((j : Int) + 2)) = some (.str (lineN bs[j + 1])) := by
      rw [show (j : Int) + 2 = ((j + 2 : Nat) : Int) by omega]
      exact fIx_lst (by simp [hj])
    have hM : SW.map D.str = ((firstN k :: bs.map lineN).map D.str).take (j + 1) ++ [D.str (lineN bs[j + 1]), D.str (lineN (bs[j]'(by omega)))] ++ ((firstN k :: bs.map lineN).map D.str).drop (j + 3) := by
      rw [hSW, List.map_append, List.map_append, List.map_take, List.map_drop]; rfl
    rw [hM] at jn
    obtain ⟨L2, hL2⟩ : ∃ L2, L2 = lineN bs[j + 1] := ⟨_, rfl⟩
    obtain ⟨L1, hL1⟩ : ∃ L1, L1 = lineN (bs[j]'(by omega)) := ⟨_, rfl⟩
    rw [← hL2] at g2
    rw [← hL1] at g1
    rw [← hL1, ← hL2] at jn
    clear hM hL1 hL2 hSW
    refine ⟨cs', b', .fz (.int ((j : Int) + 1)), .fz (.lst (((firstN k :: bs.map lineN).map D.str).take (j + 1) ++ [D.str L2, D.str L1] ++ ((firstN k :: bs.map lineN).map D.str).drop (j + 3))), ok, ?_⟩
    generalize (firstN k :: bs.map lineN).map D.str = AC at g1 g2 hL jn ⊢
    generalize txS (firstN k :: bs.map lineN) = TX
    have c1 := cutD_take AC (j + 1)
    have c2 := cutD_drop AC (j + 3)
    have c3 : (((j + 1 : Nat)) : Int) = (j : Int) + 1 := by omega
    have c4 : (((j + 3 : Nat)) : Int) = (j : Int) + 3 := by omega
    rw [c3] at c1
    rw [c4] at c2
    have z1 : (AC.take (j + 1)).length + 2 ≤ 16777216 := by rw [List.length_take]; omega
    have z2 : (AC.take (j + 1)).length + 2 + (AC.drop (j + 3)).length ≤ 16777216 := by rw [List.length_take, List.length_drop]; omega
    generalize AC.take (j + 1) = A1 at c1 z1 z2 jn ⊢
    generalize AC.drop (j + 3) = A2 at c2 z2 jn ⊢
    have e1 : q04u1 [.emp, .own (.deal cs b), .fz (.int ((k : Int) + 1)), .fz (.lst (bs.map tupD)), .fz (bk ((k : Int) + 1) bs), .fz (.lst AC), x6, .fz (.str TX), .fz (.int (m : Nat)), .fz (.lst (SP.map D.str)), x10, x11, x12, .emp] = some (.nx [.emp, .own (.deal cs' b'), .fz (.int ((k : Int) + 1)), .fz (.lst (bs.map tupD)), .fz (bk ((k : Int) + 1) bs), .fz (.lst AC), x6, .fz (.str TX), .fz (.int (m : Nat)), .fz (.lst (SP.map D.str)), .fz (.int ((j : Int) + 1)), x11, x12, .emp]) := by
      simp [q04u1, e, Int.add_comm 1 (j : Int)]
    have w1 : (j : Int) + 1 + 1 = (j : Int) + 2 := by omega
    have w2 : (j : Int) + 1 + 2 = (j : Int) + 3 := by omega
    have e2 : q04u2 [.emp, .own (.deal cs' b'), .fz (.int ((k : Int) + 1)), .fz (.lst (bs.map tupD)), .fz (bk ((k : Int) + 1) bs), .fz (.lst AC), x6, .fz (.str TX), .fz (.int (m : Nat)), .fz (.lst (SP.map D.str)), .fz (.int ((j : Int) + 1)), x11, x12, .emp] = some (.nx [.emp, .own (.deal cs' b'), .fz (.int ((k : Int) + 1)), .fz (.lst (bs.map tupD)), .fz (bk ((k : Int) + 1) bs), .fz (.lst AC), x6, .fz (.str TX), .fz (.int (m : Nat)), .fz (.lst (SP.map D.str)), .fz (.int ((j : Int) + 1)), .fz (.lst (A1 ++ [D.str L2, D.str L1] ++ A2)), x12, .emp]) := by
      simp [q04u2, w1, w2, g1, g2, c1, c2, z1, z2, sizeLine_eq]
    generalize A1 ++ [D.str L2, D.str L1] ++ A2 = SL at jn e2 ⊢
    generalize txS SW = TS at jn er
    have e3 : q04u3 [.emp, .own (.deal cs' b'), .fz (.int ((k : Int) + 1)), .fz (.lst (bs.map tupD)), .fz (bk ((k : Int) + 1) bs), .fz (.lst AC), x6, .fz (.str TX), .fz (.int (m : Nat)), .fz (.lst (SP.map D.str)), .fz (.int ((j : Int) + 1)), .fz (.lst SL), x12, .emp] = some (.nx [.emp, .own (.deal cs' b'), .fz (.int ((k : Int) + 1)), .fz (.lst (bs.map tupD)), .fz (bk ((k : Int) + 1) bs), .fz (.lst AC), x6, .fz (.str TX), .fz (.int (m : Nat)), .fz (.lst (SP.map D.str)), .fz (.int ((j : Int) + 1)), .fz (.lst SL), x12, .emp]) := by
      simp [q04u3, jn, er, obOf_int, w1]
    simp [q04t10, hq, e1, e2, e3]
  · have hq : ((1 : Int) < (bs.length : Int)) = False := eq_false (by omega)
    exact ⟨cs, b, x10, x11, h, by simp [q04t10, hq]⟩
theorem q04_11 (h : DlOk cs b) (hk : k ≤ 3) (hB : AscB k bs) : ∃ (cs' : List Int) (b' : Int), DlOk cs' b' ∧ q04t11 (.str "\n") [.emp, .own (.deal cs b), .fz (.int ((k : Int) + 1)), .fz (.lst (bs.map tupD)), .fz (bk ((k : Int) + 1) bs), .fz (.lst ((firstN k :: bs.map lineN).map D.str)), x6, .fz (.str (txS (firstN k :: bs.map lineN))), x8, x9, x10, x11, x12, .emp] = some (.nx [.emp, .own (.deal cs' b'), .fz (.int ((k : Int) + 1)), .fz (.lst (bs.map tupD)), .fz (bk ((k : Int) + 1) bs), .fz (.lst ((firstN k :: bs.map lineN).map D.str)), x6, .fz (.str (txS (firstN k :: bs.map lineN))), x8, x9, x10, x11, x12, .emp]) := by
  have hlen := hB.len
  have hlo := lines_ok hk hB
  have hE : GoodW [""] := ⟨fun w hw => by rw [List.mem_singleton.mp hw]; exact ⟨by decide +kernel, by decide +kernel, by decide +kernel, by decide +kernel⟩, by simp, by simp⟩
  have e1 := law_read_exc (read_at (k := k) (bs := bs) (ws := [""]) (rest := []) (by omega) hB hE (.inl (by decide +kernel)) (by simp) (by simp))
  rw [show lnS [""] = "" by decide +kernel, show firstN k :: (bs.map lineN ++ [("" : Str)]) = (firstN k :: bs.map lineN) ++ [("" : Str)] from rfl, txS_snoc (by simp)] at e1
  have hz := (txS_ok hlo (by simp; omega)).1
  have h1 : ("\n" : Str).length = 1 := by decide +kernel
  have e2 : fPlus (.str (txS (firstN k :: bs.map lineN))) (.str "\n") = some (.str (txS (firstN k :: bs.map lineN) ++ "\n")) := by
    rw [fPlus_str, if_pos (by rw [h1, sizeLine_eq]; omega)]
  have e3 : fLen (.lst ((firstN k :: bs.map lineN).map D.str)) = some (.int ((bs.length : Int) + 1)) := by simp
  obtain ⟨WL, hWL⟩ : ∃ WL, WL = [D.non, D.int 7, D.lst [.str (txS (firstN k :: bs.map lineN))], D.tup [.str (txS (firstN k :: bs.map lineN))]] := ⟨_, rfl⟩
  obtain ⟨d, cs', b', hd, e4, ok⟩ := of_spec (ds := WL) h (by rw [hWL]; simp) (by rw [hWL]; simp)
  have e5 : P_law_read [.fz d] = some (.ret (.int 0) [.emp]) := by
    refine law_read_exc (read_no ?_)
    rw [hWL] at hd
    simp only [List.mem_cons, List.not_mem_nil, or_false] at hd
    rcases hd with rfl | rfl | rfl | rfl <;> rfl
  have e6 : WL.length ≤ 16777216 := by rw [hWL]; simp
  refine ⟨cs', b', ok, ?_⟩
  generalize (firstN k :: bs.map lineN).map D.str = AC at e3 ⊢
  generalize txS (firstN k :: bs.map lineN) ++ ("\n" : Str) = TN at e1 e2
  generalize txS (firstN k :: bs.map lineN) = TX at e2 hWL ⊢
  generalize D.str (Str.ofString "\n") = NL at e2 ⊢
  rw [fLen_lst] at e3
  simp only [Option.some.injEq, D.int.injEq] at e3
  simp [q04t11, e1, e2, e3, obOf_int, sizeLine_eq, ← hWL, e4, e5, e6]
theorem two_book : D.ob 0 (bookD 1 [[0, 12], [10, 9]]) = bk 2 [[0, 12], [10, 9]] := by
  have hs : sortL [[0, 12], [10, 9]] = [[0, 12], [10, 9]] := sortL_of (by decide) (List.Perm.refl _)
  unfold bookD bk; rw [hs]; rfl
theorem two_asc : AscB 1 [[0, 12], [10, 9]] := ⟨fun b hb => by
  simp only [List.mem_cons, List.not_mem_nil, or_false] at hb
  rcases hb with rfl | rfl
  · exact ⟨rfl, by decide, by decide, by decide⟩
  · exact ⟨rfl, by decide, by decide, by decide⟩, by decide, by decide, by decide⟩
theorem q04_12 : q04t12 (.str "kinds 2") (.str "0 12") (.str "10 9") [.emp, .own (.deal cs b), .fz (.int ((k : Int) + 1)), .fz (.lst (bs.map tupD)), .fz (bk ((k : Int) + 1) bs), .fz (.lst ((firstN k :: bs.map lineN).map D.str)), x6, .fz (.str (txS (firstN k :: bs.map lineN))), x8, x9, x10, x11, x12, .emp] = some (.nx [.emp, .own (.deal cs b), .fz (.int ((k : Int) + 1)), .fz (.lst (bs.map tupD)), .fz (bk ((k : Int) + 1) bs), .fz (.lst ((firstN k :: bs.map lineN).map D.str)), x6, .fz (.str (txS (firstN k :: bs.map lineN))), x8, x9, x10, x11, .fz (bk 2 [[0, 12], [10, 9]]), .emp]) := by
  have e1 := law_read_ok (read_ok (k := 1) (by omega) two_asc)
  have j := fJoin_tx (lines_ok (k := 1) (by omega) two_asc) (by simp)
  rw [two_book] at e1
  have eS : (firstN 1 :: [[0, 12], [10, 9]].map lineN) = (["kinds 2", "0 12", "10 9"] : List Str) := by decide +kernel
  rw [eS] at e1 j
  rw [List.map_cons, List.map_cons, List.map_cons, List.map_nil] at j
  generalize txS ["kinds 2", "0 12", "10 9"] = TT at e1 j
  generalize D.str (Str.ofString "kinds 2") = za at j ⊢
  generalize D.str (Str.ofString "0 12") = zb at j ⊢
  generalize D.str (Str.ofString "10 9") = zc at j ⊢
  simp [q04t12, j, e1, sizeLine_eq]
theorem q04_13 : ∃ ρ', q04t13 (.str "kinds 3") [.emp, .own (.deal cs b), .fz (.int ((k : Int) + 1)), .fz (.lst (bs.map tupD)), .fz (bk ((k : Int) + 1) bs), .fz (.lst ((firstN k :: bs.map lineN).map D.str)), x6, .fz (.str (txS (firstN k :: bs.map lineN))), x8, x9, x10, x11, .fz (bk 2 [[0, 12], [10, 9]]), .emp] = some (.rt (.bl true) ρ') := by
  have e1 := law_read_ok (read_ok (k := 2) (bs := []) (by omega) ⟨by simp, by simp, by simp, by simp⟩)
  have eS : txS (firstN 2 :: [].map lineN) = "kinds 3" := by decide +kernel
  rw [eS] at e1
  have e2 : P_init_Book [.fz (.int 2), .fz (.lst [.tup [.int 0, .int 12], .tup [.int 10, .int 9]])] = some (.ok (bookD 1 [[0, 12], [10, 9]])) := init_okR (k := 1) (s := .fz (.lst ([[0, 12], [10, 9]].map tupD))) (by omega) (.inl rfl) two_asc.row two_asc.nd
  have e3 : P_init_Book [.fz (.int 3), .fz (.lst [])] = some (.ok (bookD 2 [])) := init_okR (k := 2) (s := .fz (.lst ([].map tupD))) (ts := []) (by omega) (.inl rfl) (by simp) (by simp)
  have e4 := eqBook_bk 2 2 [[0, 12], [10, 9]] [[0, 12], [10, 9]]
  have hn : D.ob 0 (bookD 2 []) = bk 3 [] := by
    have hs : sortL [] = [] := sortL_of (by decide) (List.Perm.refl _)
    unfold bookD bk; rw [hs]; rfl
  have e5 := eqBook_bk 3 3 [] []
  have ht := two_book
  rw [hn] at e1
  generalize (firstN k :: bs.map lineN).map D.str = AC
  generalize txS (firstN k :: bs.map lineN) = TX
  generalize D.str (Str.ofString "kinds 3") = za at e1 ⊢
  generalize bookD 1 [[0, 12], [10, 9]] = B1 at e2 ht
  generalize bookD 2 [] = B2 at e3 hn
  have o1 : obOf (bk 2 [[0, 12], [10, 9]]) = some 0 := rfl
  have o2 : obOf (bk 3 []) = some 0 := rfl
  have o3 : eqOk 0 (bk 2 [[0, 12], [10, 9]]) = true := rfl
  have o4 : eqOk 0 (bk 3 []) = true := rfl
  generalize bk 2 [[0, 12], [10, 9]] = K2 at e4 ht o1 o3 ⊢
  generalize bk 3 [] = K3 at e1 e5 hn o2 o4
  exact ⟨_, by simp [q04t13, e1, e2, e3, e4, e5, hn, ht, o1, o2, o3, o4, sizeLine_eq]; rfl⟩
end
end Q
namespace Q
open PySem PySem.Spec PyProof.Rows L2 L3
end Q
namespace Q
open PySem PySem.Spec PyProof.Rows L2 L3
noncomputable section
end
end Q
namespace Q
open PySem PySem.Spec PyProof.Rows L2 L3
theorem absN (i : Int) : 0 ≤ (if i < 0 then -i else i) := by split <;> omega
theorem draw_step {b c : Int} {s0 s1 s2 : L3.Slot} (h0 : 0 ≤ b) (h1 : b < 2 ^ 40) : ∃ b', b2_law_draw [s0, s1, s2, .fz (.int b), .fz (.int c)] = some (.nx [s0, s1, s2, .fz (.int b'), .fz (.int c)]) ∧ 0 ≤ b' ∧ b' < 2 ^ 40 := by
  have m0 : cMulB b 48271 = true := cMul_of (by
    have : b.natAbs < 2 ^ 40 := by omega
    exact Nat.lt_of_lt_of_le this (Nat.pow_le_pow_right (by decide) (by decide))) (by
    exact Nat.lt_of_lt_of_le (by decide : (48271 : Int).natAbs < 2 ^ 40) (Nat.pow_le_pow_right (by decide) (by decide)))
  refine ⟨_, by simp [b2_law_draw, m0]; rfl, ?_⟩
  generalize b * 48271 + c.fmod 2147483549 + 11 = y
  have r1 := Int.fmod_nonneg_of_pos y (show (0 : Int) < 2147483647 by decide)
  have r2 := Int.fmod_lt_of_pos y (show (0 : Int) < 2147483647 by decide)
  exact ⟨r1, by omega⟩
theorem draw_ok (ns : List Int) {z : Int} (h0 : 0 ≤ z) (h1 : z ≤ 1000) : ∃ cs b, dr_law_draw ns z = some (cs, b) ∧ DlOk cs b := by
  have hcut : cutD (ns.map D.int) none (some 48) = (ns.take 48).map D.int := by
    rw [show (48 : Int) = ((48 : Nat) : Int) from rfl, cutD_take, List.map_take]
  have hlen : (ns.take 48).length ≤ 48 := by rw [List.length_take]; omega
  generalize ns.take 48 = ms at hcut hlen
  have e1 := fun (s3 : L3.Slot) => compL_yes (vs := [4]) (f := gNm 4) (me := e1_law_draw) (enc := D.int) (ρ := [.emp, .fz (.int z), .emp, s3, .emp]) (acc := []) (fun i => D.int (if i < 0 then -i else i)) (ts := ms) (sz_of (by simp; omega)) fun t ht => by
    exact ⟨[.emp, .fz (.int z), .emp, s3, .fz (.int t)], by simp, [.emp, .fz (.int z), .emp, s3, .fz (.int t)], by simp [e1_law_draw], by simp⟩
  have hcs : (ms.map fun i => D.int (if i < 0 then -i else i)) = (ms.map fun i => if i < 0 then -i else i).map D.int := by rw [List.map_map]; rfl
  have hnn : ∀ c ∈ (ms.map fun i : Int => if i < 0 then -i else i), 0 ≤ c := fun c hc => by
    obtain ⟨i, _, rfl⟩ := List.mem_map.mp hc
    exact absN i
  have hl2 : (ms.map fun i : Int => if i < 0 then -i else i).length ≤ 48 := by simpa using hlen
  generalize (ms.map fun i : Int => if i < 0 then -i else i) = cells at hcs hnn hl2
  rw [hcs] at e1
  obtain ⟨ρ', h2, b, s4, hb0, hb1, rfl⟩ := forL_inv (f := gNm 4) (b := b2_law_draw) (enc := D.int) (fun _ ρ => ∃ b s4, 0 ≤ b ∧ b < 2 ^ 40 ∧ ρ = [.emp, .fz (.int z), .fz (.lst (cells.map D.int)), .fz (.int b), s4])
    (ts := cells) (ρ := [.emp, .fz (.int z), .fz (.lst (cells.map D.int)), .fz (.int (7919 + 104729 * z)), .emp]) ⟨_, .emp, by omega, by omega, rfl⟩ fun pre t post ρ e hI => by
      obtain ⟨b, s4, h3, h4, rfl⟩ := hI
      obtain ⟨b', h5, h6, h7⟩ := draw_step (b := b) (c := t) (s0 := .emp) (s1 := .fz (.int z)) (s2 := .fz (.lst (cells.map D.int))) h3 h4
      exact ⟨[.emp, .fz (.int z), .fz (.lst (cells.map D.int)), .fz (.int b), .fz (.int t)], _, by simp, .inl h5, b', _, h6, h7, rfl⟩
  have e3 := compL_pure (vs := [4]) (f := gNm 4) (mt := t3_law_draw) (me := mVar 4) (enc := D.int) (ρ := [.emp, .fz (.int z), .fz (.lst (cells.map D.int)), .fz (.int b), .emp]) (acc := [])
    (fun c => decide ((10 : Int) ^ 18 ≤ c)) D.int (ts := cells) (sz_of (by simp; omega)) fun t ht => by
      have p0 : cPowB 10 18 = true := by decide +kernel
      exact ⟨[.emp, .fz (.int z), .fz (.lst (cells.map D.int)), .fz (.int b), .fz (.int t)], by simp, [.emp, .fz (.int z), .fz (.lst (cells.map D.int)), .fz (.int b), .fz (.int t)], by simp [t3_law_draw, p0], fun _ => by simp, fun _ => ⟨_, by simp; rfl, by simp⟩⟩
  have m0 : cMulB 104729 z = true := cMul_of (by
    exact Nat.lt_of_lt_of_le (by decide : (104729 : Int).natAbs < 2 ^ 40) (Nat.pow_le_pow_right (by decide) (by decide))) (by
    have : z.natAbs < 2 ^ 40 := by omega
    exact Nat.lt_of_lt_of_le this (Nat.pow_le_pow_right (by decide) (by decide)))
  have e1' := e1 .emp
  refine ⟨(cells.filter fun c => decide ((10 : Int) ^ 18 ≤ c)).reverse, b, ?_, fun c hc => hnn c (List.mem_filter.mp (List.mem_reverse.mp hc)).1, by rw [List.length_reverse]; exact Nat.le_trans (List.length_filter_le ..) hl2, hb0, hb1⟩
  unfold dr_law_draw drOf
  simp [mScr, hcut, e1', m0, h2]
  simp [mDlR, e3, toInts_map]
end Q
namespace Q
open PySem PySem.Spec PyProof.Rows L2 L3
theorem law_k04_true (ns : List Int) (h : ns.length ≤ 63) : lw_k04 ns = true := by
  obtain ⟨cs, b, e0, ok⟩ := draw_ok ns (z := 4) (by decide) (by decide)
  obtain ⟨k, bs, cs1, b1, hk, hBo, ok1, e1⟩ := q04_1 (x2 := .emp) (x3 := .emp) (x4 := .emp) (x5 := .emp) (x6 := .emp) (x7 := .emp) (x8 := .emp) (x9 := .emp) (x10 := .emp) (x11 := .emp) (x12 := .emp) ok
  have hB := asc_of hBo
  have e2 := q04_2 (cs := cs1) (b := b1) (x4 := .emp) (x5 := .emp) (x6 := .emp) (x7 := .emp) (x8 := .emp) (x9 := .emp) (x10 := .emp) (x11 := .emp) (x12 := .emp) hk hBo
  have e3 := q04_3 (cs := cs1) (b := b1) (bs := bs) (x5 := .emp) (x6 := .emp) (x7 := .emp) (x8 := .emp) (x9 := .emp) (x10 := .emp) (x11 := .emp) (x12 := .emp) hk
  obtain ⟨s6, e4⟩ := q04_4 (cs := cs1) (b := b1) (x6 := .emp) (x7 := .emp) (x8 := .emp) (x9 := .emp) (x10 := .emp) (x11 := .emp) (x12 := .emp) hk hB
  have e5 := q04_5 (cs := cs1) (b := b1) (x6 := s6) (x7 := .emp) (x8 := .emp) (x9 := .emp) (x10 := .emp) (x11 := .emp) (x12 := .emp) hk hB
  have e6 := q04_6 (cs := cs1) (b := b1) (x6 := s6) (x8 := .emp) (x9 := .emp) (x10 := .emp) (x11 := .emp) (x12 := .emp) hk hB
  obtain ⟨m, cs2, b2, hm, ok2, e7⟩ := q04_7 (k := k) (x6 := s6) (x8 := .emp) (x9 := .emp) (x10 := .emp) (x11 := .emp) (x12 := .emp) ok1 hB
  obtain ⟨SP, cs3, b3, ok3, h1, h2, er, e8⟩ := q04_8 (x6 := s6) (x9 := .emp) (x10 := .emp) (x11 := .emp) (x12 := .emp) ok2 hk hB hm
  have e9 := q04_9 (cs := cs3) (b := b3) (k := k) (bs := bs) (x6 := s6) (x10 := .emp) (x11 := .emp) (x12 := .emp) h1 h2 er
  obtain ⟨cs4, b4, y10, y11, ok4, e10⟩ := q04_10 (x6 := s6) (x10 := .emp) (x11 := .emp) (x12 := .emp) (m := m) (SP := SP) ok3 hk hB
  obtain ⟨cs5, b5, ok5, e11⟩ := q04_11 (x6 := s6) (x8 := .fz (.int (m : Nat))) (x9 := .fz (.lst (SP.map D.str))) (x10 := y10) (x11 := y11) (x12 := .emp) ok4 hk hB
  have e12 := q04_12 (cs := cs5) (b := b5) (k := k) (bs := bs) (x6 := s6) (x8 := .fz (.int (m : Nat))) (x9 := .fz (.lst (SP.map D.str))) (x10 := y10) (x11 := y11) (x12 := .emp)
  obtain ⟨ρ', e13⟩ := q04_13 (cs := cs5) (b := b5) (k := k) (bs := bs) (x6 := s6) (x8 := .fz (.int (m : Nat))) (x9 := .fz (.lst (SP.map D.str))) (x10 := y10) (x11 := y11)
  have run : m_law_k04 [.emp, .own (.deal cs b), .emp, .emp, .emp, .emp, .emp, .emp, .emp, .emp, .emp, .emp, .emp, .emp] = some (.rt (.bl true) ρ') := by
    rw [k04_parts]
    rw [seqS_ap, e1]; dsimp only
    rw [seqS_ap, e2]; dsimp only
    rw [seqS_ap, e3]; dsimp only
    rw [seqS_ap, e4]; dsimp only
    rw [seqS_ap, e5]; dsimp only
    rw [seqS_ap, e6]; dsimp only
    rw [seqS_ap, e7]; dsimp only
    rw [seqS_ap, e8]; dsimp only
    rw [seqS_ap, e9]; dsimp only
    rw [seqS_ap, e10]; dsimp only
    rw [seqS_ap, e11]; dsimp only
    rw [seqS_ap, e12]; dsimp only
    rw [seqS_ap, e13]
  unfold lw_k04 lawOf
  rw [e0]
  have start : (((.emp :: List.replicate (14 - 1) .emp) : L3.Env).set 1 (.own (.deal cs b))) = [.emp, .own (.deal cs b), .emp, .emp, .emp, .emp, .emp, .emp, .emp, .emp, .emp, .emp, .emp, .emp] := rfl
  show (match m_law_k04 (((.emp :: List.replicate (14 - 1) .emp) : L3.Env).set 1 (.own (.deal cs b))) with
    | some (.rt (.bl true) _) => true
    | _ => false) = true
  rw [start, run]
end Q
open PySem PySem.W PySem.Calls PyProof.Rows
theorem PySem.Challenge.cw_noneleft_k04_texts_of_books_holds : PySem.Challenge.rw_noneleft_k04_texts_of_books.Holds := by
  w_on; o_law
  refine HandSHeadRun.head_any (r := OpenLaw.row PySem.Challenge.rw_noneleft_k04_texts_of_books) (q := view (OpenLaw.row PySem.Challenge.rw_noneleft_k04_texts_of_books).prog [28]) (H := K04.hk) (ob := K04.ob) (M := 4000) (loose := K04.nms) (d := HandSHeadRun.topDef (OpenLaw.row PySem.Challenge.rw_noneleft_k04_texts_of_books).prog 28) (kwd := []) K04.ob_eq (by kernel_rfl) (fun s => by kernel_rfl) K04.run (by kernel_rfl) (by kernel_rfl) (by kernel_rfl) (by rfl) (by first | assumption | decide +kernel) (by decide +kernel) ⟨rfl, rfl, rfl, rfl, rfl, by decide +kernel⟩ ?hw ?hc
  case hw => w_witness2
  case hc =>
    refine L3.lw_walk (l := PySem.Challenge.rw_noneleft_k04_texts_of_books) (n := 63) (k := 20) (x := "_law_script") (law := Q.lw_k04) rfl (by decide) (by kernel_rfl) ⟨⟨rfl, by decide, by decide⟩, fun _ => rfl⟩ ?F Q.law_k04_true
    intro w mg fa h Y G hmg0
    obtain ⟨K, KX, c⟩ := Y
    have hmg : mg ("law" : PySem.Str) = some (.ref fa) := by
      have e : (HandSHeadRun.topDef (OpenLaw.row PySem.Challenge.rw_noneleft_k04_texts_of_books).prog 28).name = ("law" : PySem.Str) := by kernel_rfl
      rw [← e]
      exact hmg0
    obtain ⟨f, fd, F, hm, hF⟩ := K04.law_all (w := w) (K04.txt KX G c)
    cases hmg.symm.trans hm
    exact ⟨K, fd, KX, L3.Fun.one F fun _ _ _ _ _ _ us hl => match us, hl with | [_], _ => rfl, fun base _ _ => hF base⟩
