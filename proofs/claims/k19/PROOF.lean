import PyProof.Rows.All
import Wide.All
import HandS.ExcCtx
import HandS.SuiteRaise
import HandS.ExcIs
import HandS.ForMost
import HandS.ForExc
import HandS.Wide
import HandS.CallSlots
import HandS.TupAny
import HandS.Conv
import HandS.IsInst
import KE.KDictKeyed
import HandS.Iter
import HandS.Zip
import HandS.Rev
import HandS.RevRange
import HandS.ExcOwn
import HandS.WordsExc
import HandS.Defaults
import PyProof.CollectStr
import KE.KDictList
import HandS.Strs
import KE.KIndexOf
import HandS.Text
import HandS.More
import HandS.WordsDict
import HandS.Style
import HandS.Ends
import KE.KRevSl
import HandS.TryOnly
import HandS.Dict
import HandS.SetFor
import PyProof.TupleOfStr
import KE.KDictZip
import HandS.ListItems
import HandS.DictComp
import PyProof.DictUpdate
import HandS.Small
import KE.DataMinMax
import HandS.Comp
import KE.SortData
import HandS.DictTup
import HandS.Sort
import HandS.Keys
import KE.GoesEnum
import PyProof.EnumMake
import HandS.SortInts
import HandS.List
import PyProof.SumAny
import PyProof.Rows.SeqMore
import PyProof.ReprRoads
import HandS.DeepEq
import PyProof.ExcBaseAll.ValueError
import HandS.HotCalls
import HandS.TupMul
import HandS.SetBool
import HandS.RaiseMore
import HandS.NoneIn
import KE.KDictDisplayH
import KE.KDictPairs
import OpenK.AllK
import PySem.Challenge.RW_twonames_k19_whole_fewest_names_by_all
section
set_option Elab.async false
set_option linter.all false
set_option maxRecDepth 100000
set_option maxHeartbeats 1000000
open PySem PySem.Spec PyProof.Rows L2
namespace Sim

/-! values of the mirror -/
inductive W where
  | non | bl (b : Bool) | int (i : Int) | str (x : Str) | ty (n : String) | obj (a : Addr)
  | tup (ws : List W) | lst (ws : List W) | dic (kvs : List (Key × W)) | loc (n : Nat) | prs (ws : List W) | scr (ws : List W)
  /-- a thing of its own kind: what is true of its object, and what it holds -/
  | ext (φ : Addr → Heap → Prop) (ws : List W)
instance : Inhabited W := ⟨.non⟩
/-- what stands at a tracked place -/
inductive Ob where
  | lst (ws : List W) | dic (kvs : List (Key × W))
  /-- a dict whose keys are tuples of plain things -/
  | dn (P : Program) (w : PySem.World) (kws : List (NestedKey × W))
  /-- an instance of the class of a global's name -/
  | ins (C : Str) (fs : List (Str × W))
mutual
def keyW : NestedKey → W
  | .none => .non
  | .num i => .int i
  | .text x => .str x
  | .tup ks => .tup (keyWs ks)
def keyWs : List NestedKey → List W
  | [] => []
  | k :: ks => keyW k :: keyWs ks
end
/-- the address of a global's own class -/
def gaX (K : PySem.W.Frag) (x : Str) : Addr := match PySem.W.nsIn K mainGlobals x with
  | some (some (.ref a)) => a
  | _ => 0
/-- what is true of the object of such a dict: keys, their addresses, values -/
def DNp (P : Program) (w : PySem.World) (kvs : List (NestedKey × Addr × V)) (a : Addr) (h : Heap) : Prop := kvs.length ≤ sizeLine ∧ (a == sysModules) = false ∧ ∃ xs : List (NestedKey × Addr × Value),
  Paired (fun (p : NestedKey × Addr × V) (q : NestedKey × Addr × Value) => p.1 = q.1 ∧ p.2.1 = q.2.1 ∧ RelV p.2.2 q.2.2) kvs xs ∧ ∃ o es ep, h.get? a = some o ∧ o.ExactDict ∧ o.data = .dict es ep ∧ es.toList = xs.map (entryOfKey (nestedKind P w)) ∧ (xs.map (·.1)).Nodup
abbrev Stt := List (Option Ob)
abbrev Ev := List (Option W)
structure Gm where
  ls : List Addr
  st : Stt
  hid : List Addr
abbrev Gm.to (G : Gm) (ls : List Addr) (st : Stt) : Gm := ⟨ls, st, G.hid⟩
def Gm.alive (G : Gm) (a : Addr) : Prop := (∃ (i : Nat) (ob : Ob), G.ls[i]? = some a ∧ G.st[i]? = some (some ob)) ∨ a ∈ G.hid

/-- a written list -/
def KL (K : PySem.W.Frag) (a : Addr) (xs : List V) : Prop :=
  ∃ (o : Obj) (its : Array Value) (n : Nat), K.lookup a = some o ∧ o.cls = .type "list" ∧ o.dict = none ∧ o.data = .seq its n ∧ its.size ≤ sizeLine ∧ Vals xs its.toList
def KT (K : PySem.W.Frag) (a : Addr) (xs : List V) : Prop :=
  ∃ (o : Obj) (its : Array Value) (n : Nat), K.lookup a = some o ∧ o.cls = .type "tuple" ∧ o.dict = none ∧ o.data = .seq its n ∧ its.size ≤ sizeLine ∧ Vals xs its.toList
/-- a tuple whose object is known -/
def Fx (G : Gm) (H : Hp) (a : Addr) (xs : List V) : Prop := (∃ o : Obj, o.dict = none ∧ H a = some (.frz o (.tup xs))) ∧ ¬ G.alive a
/-- read at a place that nobody changes -/
def Fe (G : Gm) (H : Hp) (a : Addr) (u : HO) : Prop := H a = some u ∧ ¬ G.alive a
def Fz (G : Gm) (H : Hp) (a : Addr) (u : HO) : Prop := Rd H a u ∧ ¬ G.alive a

mutual
inductive RepV (K : PySem.W.Frag) (G : Gm) (H : Hp) : W → V → Prop
  | non : RepV K G H .non .non
  | bl (b : Bool) : RepV K G H (.bl b) (.bl b)
  | int (i : Int) : RepV K G H (.int i) (.int i)
  | str (x : Str) : RepV K G H (.str x) (.str x)
  | ty (n : String) : RepV K G H (.ty n) (.ty n)
  | obj (a : Addr) : RepV K G H (.obj a) (.ref a)
  | tup {a : Addr} {ws : List W} {vs : List V} : (Fx G H a vs ∨ KT K a vs) → RepL K G H ws vs → RepV K G H (.tup ws) (.ref a)
  | prs {a : Addr} {ws : List W} {vs : List V} : Fz G H a (.tup vs) → RepL K G H ws vs → RepV K G H (.prs ws) (.ref a)
  | lst {a : Addr} {ws : List W} {vs : List V} : Fe G H a (.lst vs) → RepL K G H ws vs → RepV K G H (.lst ws) (.ref a)
  | scr {a : Addr} {ws : List W} {vs : List V} : (Fz G H a (.lst vs) ∨ KL K a vs) → RepL K G H ws vs → RepV K G H (.scr ws) (.ref a)
  | dic {a : Addr} {kws : List (Key × W)} {kvs : List (Key × V)} : Fz G H a (.dK kvs) → RepK K G H kws kvs → RepV K G H (.dic kws) (.ref a)
  | loc {n : Nat} {a : Addr} : G.ls[n]? = some a → RepV K G H (.loc n) (.ref a)
  | ext {a : Addr} {φ : Addr → Heap → Prop} {ws : List W} : Fz G H a (.ext (φ a)) → RepV K G H (.ext φ ws) (.ref a)
inductive RepL (K : PySem.W.Frag) (G : Gm) (H : Hp) : List W → List V → Prop
  | nil : RepL K G H [] []
  | cons {w : W} {ws : List W} {v : V} {vs : List V} : RepV K G H w v → RepL K G H ws vs → RepL K G H (w :: ws) (v :: vs)
inductive RepK (K : PySem.W.Frag) (G : Gm) (H : Hp) : List (Key × W) → List (Key × V) → Prop
  | nil : RepK K G H [] []
  | cons {k : Key} {w : W} {ws : List (Key × W)} {v : V} {vs : List (Key × V)} : RepV K G H w v → RepK K G H ws vs → RepK K G H ((k, w) :: ws) ((k, v) :: vs)
end

/-- a locked dict -/
def Fd (G : Gm) (H : Hp) (a : Addr) (o : Obj) (kvs : List (Key × V)) : Prop := H a = some (.frz o (.dK kvs)) ∧ ¬ G.alive a
/-- it stands still; a dict may come to be locked -/
def Kp (o : HO) (v : Option HO) : Prop := v = some o ∨ ∃ (kvs : List (Key × V)) (od : Obj), o = .dK kvs ∧ v = some (.frz od o)
structure Ext (G : Gm) (H : Hp) (G' : Gm) (H' : Hp) : Prop where
  ls : ∀ (i : Nat) (a : Addr), G.ls[i]? = some a → G'.ls[i]? = some a
  keep : ∀ (a : Addr) (o : HO), ¬ G.alive a → H a = some o → Kp o (H' a)
  al : ∀ a : Addr, G'.alive a → G.alive a ∨ H a = none
  non : ∀ a : Addr, H' a = none → H a = none
  hid : G'.hid = G.hid
  hidk : ∀ a ∈ G.hid, H' a = H a

theorem Kp.some {o : HO} {v : Option HO} (k : Kp o v) : ∃ o', v = Option.some o' := by
  rcases k with k | ⟨_, _, _, k⟩
  · exact ⟨_, k⟩
  · exact ⟨_, k⟩
theorem Ext.refl (G : Gm) (H : Hp) : Ext G H G H := ⟨fun _ _ e => e, fun _ _ _ e => .inl e, fun _ e => .inl e, fun _ e => e, rfl, fun _ _ => rfl⟩
theorem Ext.trans {G G1 G2 : Gm} {H H1 H2 : Hp} (x : Ext G H G1 H1) (y : Ext G1 H1 G2 H2) : Ext G H G2 H2 where
  ls := fun i a e => y.ls i a (x.ls i a e)
  keep := fun a o na e => by
    have na1 : ¬ G1.alive a := fun z => (x.al a z).elim na fun q => by rw [q] at e; cases e
    rcases x.keep a o na e with k | ⟨kvs, od, rfl, k⟩
    · exact y.keep a o na1 k
    · rcases y.keep a _ na1 k with q | ⟨_, _, q, _⟩
      · exact .inr ⟨kvs, od, rfl, q⟩
      · cases q
  al := fun a z => (y.al a z).elim (fun q => x.al a q) fun q => .inr (x.non a q)
  non := fun a e => x.non a (y.non a e)
  hid := y.hid.trans x.hid
  hidk := fun a h => (y.hidk a (by rw [x.hid]; exact h)).trans (x.hidk a h)

theorem Fz.mono {G G' : Gm} {H H' : Hp} {a : Addr} {u : HO} (x : Ext G H G' H') (h : Fz G H a u) : Fz G' H' a u := by
  obtain ⟨r, na⟩ := h
  refine ⟨?_, fun z => (x.al a z).elim na fun q => ?_⟩
  · rcases r with r | ⟨o, r⟩
    · rcases x.keep a _ na r with k | ⟨_, od, _, k⟩
      · exact .inl k
      · exact .inr ⟨od, k⟩
    · rcases x.keep a _ na r with k | ⟨_, _, k, _⟩
      · exact .inr ⟨o, k⟩
      · cases k
  · rcases r with r | ⟨o, r⟩ <;> (rw [q] at r; cases r)

theorem Fe.mono {G G' : Gm} {H H' : Hp} {a : Addr} {u : List V} (x : Ext G H G' H') (h : Fe G H a (.lst u)) : Fe G' H' a (.lst u) := by
  obtain ⟨r, na⟩ := h
  refine ⟨?_, fun z => (x.al a z).elim na fun q => ?_⟩
  · rcases x.keep a _ na r with k | ⟨_, _, k, _⟩
    · exact k
    · cases k
  · rw [q] at r; cases r
theorem Fd.mono {G G' : Gm} {H H' : Hp} {a : Addr} {o : Obj} {u : List (Key × V)} (x : Ext G H G' H') (h : Fd G H a o u) : Fd G' H' a o u := by
  obtain ⟨r, na⟩ := h
  refine ⟨?_, fun z => (x.al a z).elim na fun q => ?_⟩
  · rcases x.keep a _ na r with k | ⟨_, _, k, _⟩
    · exact k
    · cases k
  · rw [q] at r; cases r
theorem Fx.mono {G G' : Gm} {H H' : Hp} {a : Addr} {u : List V} (x : Ext G H G' H') (h : Fx G H a u) : Fx G' H' a u := by
  obtain ⟨⟨o, d, r⟩, na⟩ := h
  refine ⟨⟨o, d, ?_⟩, fun z => (x.al a z).elim na fun q => ?_⟩
  · rcases x.keep a _ na r with k | ⟨_, _, k, _⟩
    · exact k
    · cases k
  · rw [q] at r; cases r
section
variable {K : PySem.W.Frag} {G G' : Gm} {H H' : Hp}
/-- what a reading leans on: the places' addresses, what stands still -/
structure Less (G : Gm) (H : Hp) (G' : Gm) (H' : Hp) : Prop where
  ls : ∀ (i : Nat) (a : Addr), G.ls[i]? = some a → G'.ls[i]? = some a
  fz : ∀ (a : Addr) (u : HO), Fz G H a u → Fz G' H' a u
  fx : ∀ (a : Addr) (u : List V), Fx G H a u → Fx G' H' a u
  fe : ∀ (a : Addr) (u : List V), Fe G H a (.lst u) → Fe G' H' a (.lst u)
  fd : ∀ (a : Addr) (o : Obj) (u : List (Key × V)), Fd G H a o u → Fd G' H' a o u
mutual
theorem RepV.less (x : Less G H G' H') : ∀ {w : W} {v : V}, RepV K G H w v → RepV K G' H' w v
  | _, _, .non => .non
  | _, _, .bl b => .bl b
  | _, _, .int i => .int i
  | _, _, .str s => .str s
  | _, _, .ty n => .ty n
  | _, _, .obj a => .obj a
  | _, _, .tup h r => .tup (h.imp_left (x.fx _ _)) (RepL.less x r)
  | _, _, .prs h r => .prs (x.fz _ _ h) (RepL.less x r)
  | _, _, .lst h r => .lst (x.fe _ _ h) (RepL.less x r)
  | _, _, .scr h r => .scr (h.imp_left (x.fz _ _)) (RepL.less x r)
  | _, _, .dic h r => .dic (x.fz _ _ h) (RepK.less x r)
  | _, _, .loc e => .loc (x.ls _ _ e)
  | _, _, .ext h => .ext (x.fz _ _ h)
theorem RepL.less (x : Less G H G' H') : ∀ {ws : List W} {vs : List V}, RepL K G H ws vs → RepL K G' H' ws vs
  | _, _, .nil => .nil
  | _, _, .cons h r => .cons (RepV.less x h) (RepL.less x r)
theorem RepK.less (x : Less G H G' H') : ∀ {ws : List (Key × W)} {vs : List (Key × V)}, RepK K G H ws vs → RepK K G' H' ws vs
  | _, _, .nil => .nil
  | _, _, .cons h r => .cons (RepV.less x h) (RepK.less x r)
end
theorem Ext.less (x : Ext G H G' H') : Less G H G' H' := ⟨x.ls, fun _ _ h => Fz.mono x h, fun _ _ h => Fx.mono x h, fun _ _ h => Fe.mono x h, fun _ _ _ h => Fd.mono x h⟩
theorem RepV.mono (x : Ext G H G' H') {w : W} {v : V} (r : RepV K G H w v) : RepV K G' H' w v := r.less x.less
theorem RepL.mono (x : Ext G H G' H') {w : List W} {v : List V} (r : RepL K G H w v) : RepL K G' H' w v := r.less x.less
theorem RepK.mono (x : Ext G H G' H') {w : List (Key × W)} {v : List (Key × V)} (r : RepK K G H w v) : RepK K G' H' w v := r.less x.less
end

def RepO (K : PySem.W.Frag) (G : Gm) (H : Hp) (a : Addr) : Ob → Prop
  | .lst ws => ∃ vs, H a = some (.lst vs) ∧ RepL K G H ws vs
  | .dic kws => ∃ kvs, H a = some (.dK kvs) ∧ RepK K G H kws kvs
  | .dn P w kws => ∃ kvs : List (NestedKey × Addr × V), H a = some (.ext (DNp P w kvs a)) ∧ kvs.map (·.1) = kws.map (·.1) ∧ (∀ p ∈ kvs, p.1.depth ≤ 8) ∧ RepL K G H (kws.map fun p => keyW p.1) (kvs.map fun p => .ref p.2.1) ∧ RepL K G H (kws.map (·.2)) (kvs.map (·.2.2))
  | .ins C fs => ∃ (dx : Addr) (vs : List (Str × V)), H a = some (.ins (gaX K C) dx vs) ∧ vs.map (·.1) = fs.map (·.1) ∧ RepL K G H (fs.map (·.2)) (vs.map (·.2))

structure World (K : PySem.W.Frag) (G : Gm) (H : Hp) : Prop where
  len : G.ls.length = G.st.length
  nd : G.ls.Nodup
  tr : ∀ a ∈ G.ls, H a ≠ none
  hd : ∀ a ∈ G.hid, H a ≠ none ∧ a ∉ G.ls
  at' : ∀ (i : Nat) (a : Addr) (ob : Ob), G.ls[i]? = some a → G.st[i]? = some (some ob) → RepO K G H a ob

def RepE (K : PySem.W.Frag) (G : Gm) (H : Hp) (ρ : Ev) (σ : L2.St) : Prop :=
  ρ.length = σ.length ∧ ∀ (i : Nat) (w : W), ρ[i]? = some (some w) → ∃ v, σ[i]? = some (some v) ∧ RepV K G H w v
theorem RepE.mono {K : PySem.W.Frag} {G G' : Gm} {H H' : Hp} {ρ : Ev} {σ : L2.St} (x : Ext G H G' H') (h : RepE K G H ρ σ) : RepE K G' H' ρ σ :=
  ⟨h.1, fun i w e => let ⟨v, a, b⟩ := h.2 i w e; ⟨v, a, b.mono x⟩⟩
theorem RepE.set {K : PySem.W.Frag} {G : Gm} {H : Hp} {ρ : Ev} {σ : L2.St} {w : W} {v : V} (i : Nat) (h : RepE K G H ρ σ) (r : RepV K G H w v) : RepE K G H (ρ.set i (some w)) (σ.set i (some v)) := by
  refine ⟨by simp [h.1], fun j u e => ?_⟩
  by_cases hj : i = j
  · subst hj
    by_cases hl : i < ρ.length
    · rw [List.getElem?_set_self hl] at e
      cases e
      exact ⟨v, List.getElem?_set_self (by rw [← h.1]; exact hl), r⟩
    · rw [List.getElem?_eq_none (by simpa using hl)] at e
      cases e
  · rw [List.getElem?_set_ne hj] at e ⊢
    exact h.2 j u e

/-! heap steps -/
section
variable {K : PySem.W.Frag} {G : Gm} {H : Hp} {p : Addr} {o : HO}
theorem RepO.less {G' : Gm} {H' : Hp} (x : Less G H G' H') {a : Addr} {ob : Ob} (na : H' a = H a) (h : RepO K G H a ob) : RepO K G' H' a ob := by
  cases ob with
  | lst ws => obtain ⟨vs, e, r⟩ := h; exact ⟨vs, na.trans e, r.less x⟩
  | dic ws => obtain ⟨vs, e, r⟩ := h; exact ⟨vs, na.trans e, r.less x⟩
  | dn P w ws => obtain ⟨vs, e, q, d, r1, r2⟩ := h; exact ⟨vs, na.trans e, q, d, r1.less x, r2.less x⟩
  | ins C fs => obtain ⟨dx, vs, e, q, r⟩ := h; exact ⟨dx, vs, na.trans e, q, r.less x⟩
theorem RepO.mono {G' : Gm} {H' : Hp} (x : Ext G H G' H') {a : Addr} {ob : Ob} (na : H' a = H a) (h : RepO K G H a ob) : RepO K G' H' a ob := by
  cases ob with
  | lst ws => obtain ⟨vs, e, r⟩ := h; exact ⟨vs, na.trans e, r.mono x⟩
  | dic ws => obtain ⟨vs, e, r⟩ := h; exact ⟨vs, na.trans e, r.mono x⟩
  | dn P w ws => obtain ⟨vs, e, q, d, r1, r2⟩ := h; exact ⟨vs, na.trans e, q, d, r1.mono x, r2.mono x⟩
  | ins C fs => obtain ⟨dx, vs, e, q, r⟩ := h; exact ⟨dx, vs, na.trans e, q, r.mono x⟩
theorem Ext.new (w : World K G H) (h : H p = none) : Ext G H G (upd H p o) := by
  refine ⟨fun _ _ e => e, fun a u _ e => ?_, fun _ z => .inl z, fun a e => ?_, rfl, fun a ha => ?_⟩
  · rw [upd_ne (ne_of_none e h)]; exact .inl e
  · by_cases ha : a = p
    · subst ha; exact h
    · rw [upd_ne ha] at e; exact e
  · exact upd_ne fun z => (w.hd a ha).1 (by rw [z]; exact h)
theorem World.new (w : World K G H) (h : H p = none) : World K G (upd H p o) := by
  have ne : ∀ a ∈ G.ls, a ≠ p := fun a ha e => w.tr a ha (by rw [e]; exact h)
  refine ⟨w.len, w.nd, fun a ha => by rw [upd_ne (ne a ha)]; exact w.tr a ha, fun a ha => ⟨by rw [upd_ne fun z => (w.hd a ha).1 (by rw [z]; exact h)]; exact (w.hd a ha).1, (w.hd a ha).2⟩, fun i a ob e1 e2 => ?_⟩
  exact (w.at' i a ob e1 e2).mono (Ext.new w h) (upd_ne (ne a (List.mem_of_getElem? e1)))
/-- a new place that is tracked -/
def Gm.push (G : Gm) (p : Addr) (ob : Ob) : Gm := ⟨G.ls ++ [p], G.st ++ [some ob], G.hid⟩
theorem World.nal (w : World K G H) (h : H p = none) : ¬ G.alive p := fun z => z.elim (fun ⟨_, _, e, _⟩ => w.tr p (List.mem_of_getElem? e) h) fun z => (w.hd p z).1 h
theorem Ext.push (w : World K G H) (ob : Ob) (h : H p = none) : Ext G H (G.push p ob) (upd H p o) := by
  have x : Ext G H G (upd H p o) := Ext.new w h
  refine ⟨fun i a e => ?_, x.keep, fun a z => ?_, x.non, rfl, x.hidk⟩
  · show (G.ls ++ [p])[i]? = some a
    rw [List.getElem?_append_left (List.getElem?_eq_some_iff.mp e).1]; exact e
  · obtain ⟨i, ob', e1, e2⟩ | z := z
    rotate_left
    · exact .inl (.inr z)
    have e1 : (G.ls ++ [p])[i]? = some a := e1
    have e2 : (G.st ++ [some ob])[i]? = some (some ob') := e2
    by_cases hi : i < G.ls.length
    · rw [List.getElem?_append_left hi] at e1
      rw [List.getElem?_append_left (by rw [← w.len]; exact hi)] at e2
      exact .inl (.inl ⟨i, ob', e1, e2⟩)
    · rw [List.getElem?_append_right (by omega)] at e1
      have : a = p := by
        cases hk : i - G.ls.length with
        | zero => rw [hk] at e1; exact (Option.some.inj e1).symm
        | succ k => rw [hk] at e1; simp at e1
      exact .inr (by rw [this]; exact h)
theorem World.push (w : World K G H) (ob : Ob) (h : H p = none) (ho : RepO K (G.push p ob) (upd H p o) p ob) : World K (G.push p ob) (upd H p o) := by
  have ne : ∀ a ∈ G.ls, a ≠ p := fun a ha e => w.tr a ha (by rw [e]; exact h)
  refine ⟨?_, ?_, fun a ha => ?_, fun a ha => ?_, fun i a ob' e1 e2 => ?_⟩
  · show (G.ls ++ [p]).length = (G.st ++ [some ob]).length
    simp [w.len]
  · show (G.ls ++ [p]).Nodup
    rw [List.nodup_append]
    exact ⟨w.nd, by simp, fun a ha b hb => by rw [List.mem_singleton.mp hb]; exact ne a ha⟩
  · have ha : a ∈ G.ls ++ [p] := ha
    rcases List.mem_append.mp ha with q | q
    · rw [upd_ne (ne a q)]; exact w.tr a q
    · rw [List.mem_singleton.mp q, upd_same]; exact fun z => nomatch z
  · have np : a ≠ p := fun z => (w.hd a ha).1 (by rw [z]; exact h)
    refine ⟨by rw [upd_ne np]; exact (w.hd a ha).1, fun z => ?_⟩
    rcases List.mem_append.mp z with q | q
    · exact (w.hd a ha).2 q
    · exact np (List.mem_singleton.mp q)
  · have e1 : (G.ls ++ [p])[i]? = some a := e1
    have e2 : (G.st ++ [some ob])[i]? = some (some ob') := e2
    by_cases hi : i < G.ls.length
    · rw [List.getElem?_append_left hi] at e1
      rw [List.getElem?_append_left (by rw [← w.len]; exact hi)] at e2
      exact (w.at' i a ob' e1 e2).mono (Ext.push w ob h) (upd_ne (ne a (List.mem_of_getElem? e1)))
    · rw [List.getElem?_append_right (by omega)] at e1
      rw [List.getElem?_append_right (by rw [← w.len]; omega), ← w.len] at e2
      cases hk : i - G.ls.length with
      | zero =>
        rw [hk] at e1 e2
        have : p = a := Option.some.inj e1
        have q : ob = ob' := Option.some.inj (Option.some.inj e2)
        subst this q
        exact ho
      | succ k => rw [hk] at e1; simp at e1
/-- a tracked place is written -/
def Gm.put (G : Gm) (n : Nat) (ob : Ob) : Gm := ⟨G.ls, G.st.set n (some ob), G.hid⟩
theorem Gm.put_alive {n : Nat} {ob ob0 : Ob} {a b : Addr} (e1 : G.ls[n]? = some a) (e2 : G.st[n]? = some (some ob0)) (h : (G.put n ob).alive b) : G.alive b := by
  rcases h with ⟨i, ob', x1, x2⟩ | h
  · have x1 : G.ls[i]? = some b := x1
    have x2 : (G.st.set n (some ob))[i]? = some (some ob') := x2
    by_cases hi : n = i
    · subst hi; exact .inl ⟨n, ob0, x1, e2⟩
    · rw [List.getElem?_set_ne hi] at x2; exact .inl ⟨i, ob', x1, x2⟩
  · exact .inr h
theorem Ext.put {n : Nat} {ob ob0 : Ob} {a : Addr} (w : World K G H) (e1 : G.ls[n]? = some a) (e2 : G.st[n]? = some (some ob0)) : Ext G H (G.put n ob) (upd H a o) := by
  refine ⟨fun _ _ e => e, fun b u na e => ?_, fun b z => .inl (Gm.put_alive e1 e2 z), fun b e => ?_, rfl, fun b hb => ?_⟩
  · rw [upd_ne (fun z => na (by rw [z]; exact .inl ⟨n, ob0, e1, e2⟩))]; exact .inl e
  · by_cases hb : b = a
    · subst hb; rw [upd_same] at e; cases e
    · rw [upd_ne hb] at e; exact e
  · exact upd_ne fun z => (w.hd b hb).2 (by rw [z]; exact List.mem_of_getElem? e1)
theorem World.put {n : Nat} {ob ob0 : Ob} {a : Addr} (w : World K G H) (e1 : G.ls[n]? = some a) (e2 : G.st[n]? = some (some ob0)) (ho : RepO K (G.put n ob) (upd H a o) a ob) : World K (G.put n ob) (upd H a o) := by
  refine ⟨?_, w.nd, fun b hb => ?_, fun b hb => ⟨by rw [upd_ne fun z => (w.hd b hb).2 (by rw [z]; exact List.mem_of_getElem? e1)]; exact (w.hd b hb).1, (w.hd b hb).2⟩, fun i b ob' x1 x2 => ?_⟩
  · show G.ls.length = (G.st.set n (some ob)).length
    simp [w.len]
  · by_cases hq : b = a
    · subst hq; rw [upd_same]; exact fun z => nomatch z
    · rw [upd_ne hq]; exact w.tr b hb
  · have x1 : G.ls[i]? = some b := x1
    have x2 : (G.st.set n (some ob))[i]? = some (some ob') := x2
    by_cases hi : n = i
    · subst hi
      rw [e1] at x1
      have hl : n < G.st.length := (List.getElem?_eq_some_iff.mp e2).1
      rw [List.getElem?_set_self hl] at x2
      cases x1; cases x2
      exact ho
    · rw [List.getElem?_set_ne hi] at x2
      have nb : b ≠ a := by
        intro z
        subst z
        obtain ⟨h1, q1⟩ := List.getElem?_eq_some_iff.mp e1
        obtain ⟨h2, q2⟩ := List.getElem?_eq_some_iff.mp x1
        exact hi ((List.getElem_inj w.nd).mp (q1.trans q2.symm))
      exact (w.at' i b ob' x1 x2).mono (Ext.put w e1 e2) (upd_ne nb)
end
end Sim
end
section
set_option Elab.async false
set_option linter.all false
set_option maxRecDepth 100000
set_option maxHeartbeats 1000000
open PySem PySem.Spec PyProof.Rows L2
namespace Sim

/-- an exception of a class by its global's name -/
structure Exn where
  cls : Str
  fs : List (Str × W)
inductive Rs (α : Type) where
  | ok (a : α) (st : Stt) | er (x : Exn) (st : Stt) | no
def Rs.bind {α β : Type} (r : Rs α) (f : α → Stt → Rs β) : Rs β := match r with
  | .ok a st => f a st
  | .er x st => .er x st
  | .no => .no
@[simp] theorem Rs.bind_ok {α β : Type} (a : α) (st : Stt) (f : α → Stt → Rs β) : (Rs.ok a st).bind f = f a st := rfl
@[simp] theorem Rs.bind_er {α β : Type} (x : Exn) (st : Stt) (f : α → Stt → Rs β) : (Rs.er x st).bind f = .er x st := rfl
@[simp] theorem Rs.bind_no {α β : Type} (f : α → Stt → Rs β) : (Rs.no : Rs α).bind f = .no := rfl
abbrev EM := Ev → Stt → Rs W
abbrev TM := Ev → Stt → Rs Bool
abbrev AM := Ev → Stt → Rs (List W)
abbrev FM := List W → Stt → Rs W

def RepX (K : PySem.W.Frag) (G : Gm) (H : Hp) (x : Exn) (d : Option Addr) : Prop :=
  x.fs = [] ∧ d = none

def PostR {α β : Type} (K : PySem.W.Frag) (R : Gm → Hp → α → β → Prop) (Wx : Value → Option Addr → Hp → Prop) (G : Gm) (H : Hp) (r : Rs α) (Q : β → Hp → Prop) : Prop :=
  match r with
  | .ok a st' => ∀ (ls' : List Addr) (H' : Hp) (b : β), Ext G H (G.to ls' st') H' → World K (G.to ls' st') H' → R (G.to ls' st') H' a b → Q b H'
  | .er x st' => ∀ (ls' : List Addr) (H' : Hp) (d : Option Addr), Ext G H (G.to ls' st') H' → World K (G.to ls' st') H' → RepX K (G.to ls' st') H' x d → Wx (.ref (gaX K x.cls)) d H'
  | .no => False

section
variable {K : PySem.W.Frag} {α β γ δ : Type} {R : Gm → Hp → α → β → Prop} {R2 : Gm → Hp → γ → δ → Prop} {Wx : Value → Option Addr → Hp → Prop} {G G' : Gm} {H H' : Hp}
theorem PostR.mono {r : Rs α} {Q : β → Hp → Prop} (x : Ext G H G' H') (h : PostR K R Wx G H r Q) : PostR K R Wx G' H' r Q := by
  have hid := x.hid
  obtain ⟨l', s', h'⟩ := G'
  simp only at hid
  subst hid
  cases r with
  | ok a st => exact fun ls H1 b e w q => h ls H1 b (x.trans e) w q
  | er y st => exact fun ls H1 b e w q => h ls H1 b (x.trans e) w q
  | no => exact h
theorem PostR.bind {r : Rs α} {f : α → Stt → Rs γ} {Q : δ → Hp → Prop} {Q1 : β → Hp → Prop} (h : PostR K R2 Wx G H (r.bind f) Q)
    (k : ∀ a st' ls' H' b, r = .ok a st' → Ext G H (G.to ls' st') H' → World K (G.to ls' st') H' → R (G.to ls' st') H' a b → PostR K R2 Wx (G.to ls' st') H' (f a st') Q → Q1 b H') : PostR K R Wx G H r Q1 := by
  cases r with
  | ok a st => exact fun ls H1 b e w q => k a st ls H1 b rfl e w q (PostR.mono e h)
  | er y st => exact h
  | no => exact h
theorem PostR.ok {a : α} {b : β} {Q : β → Hp → Prop} (w : World K G H) (h : PostR K R Wx G H (.ok a G.st) Q) (r : R G H a b) : Q b H := h G.ls H b (Ext.refl _ _) w r
end

def SemE (K : PySem.W.Frag) (Wx : WX) (te : TE) (m : EM) : Prop := ∀ (G : Gm) (H : Hp) (ρ : Ev) (σ : L2.St) (Q : VK), World K G H → RepE K G H ρ σ → PostR K (RepV K) (fun c d H' => Wx c d σ H') G H (m ρ G.st) Q → te σ H Q
def SemT (K : PySem.W.Frag) (Wx : WX) (te : TT) (m : TM) : Prop := ∀ (G : Gm) (H : Hp) (ρ : Ev) (σ : L2.St) (Q : Bool → Hp → Prop), World K G H → RepE K G H ρ σ → PostR K (fun _ _ a b => a = b) (fun c d H' => Wx c d σ H') G H (m ρ G.st) Q → te σ H Q
def SemA (K : PySem.W.Frag) (Wx : WX) (te : TA) (m : AM) : Prop := ∀ (G : Gm) (H : Hp) (ρ : Ev) (σ : L2.St) (Q : List V → Hp → Prop), World K G H → RepE K G H ρ σ → PostR K (RepL K) (fun c d H' => Wx c d σ H') G H (m ρ G.st) Q → te σ H Q

structure CE (X : Cx) (Wx : WX) (e : Expr) (t : TE) (m : EM) : Prop where
  pe : PE X e t
  sem : SemE X.K Wx t m
structure CT (X : Cx) (Wx : WX) (e : Expr) (t : TT) (m : TM) : Prop where
  pe : PT X e t
  sem : SemT X.K Wx t m
structure CA (X : Cx) (Wx : WX) (es : List Expr) (t : TA) (m : AM) : Prop where
  pe : PA X es t
  sem : SemA X.K Wx t m

/-! expressions -/
def eVar (i : Nat) : EM := fun ρ st => match ρ[i]? with
  | some (some w) => .ok w st
  | _ => .no
def eC (w : W) : EM := fun _ st => .ok w st
def aNil : AM := fun _ st => .ok [] st
def aCons (m : EM) (r : AM) : AM := fun ρ st => (m ρ st).bind fun w st1 => (r ρ st1).bind fun ws st2 => .ok (w :: ws) st2
/-! a tuple whose object is known -/
section
variable {X : Cx}
theorem tup_laid {pins : List (Addr × Obj)} {σ : L2.St} {H : Hp} {s : Shared} {Q : VK} {its : List Value} {xs : List V} {h' : Heap} {tk : Nat} (I : L2.Inv X pins σ H { s with heap := h', toks := tk }) (rv : Vals xs its) (hz : xs.length ≤ sizeLine)
    (q : ∀ (p : Addr) (o : Obj), o.dict = none → H p = none → Q (.ref p) (upd H p (.frz o (.tup xs)))) : EP X pins σ Q (.ref h'.objs.size) { s with heap := h'.push { cls := .type "tuple", data := .seq its.toArray }, toks := tk } := by
  have e : (h'.push { cls := .type "tuple", data := .seq its.toArray }).get? h'.objs.size = some { cls := .type "tuple", data := .seq its.toArray } := Heap.get?_push_size _ rfl
  refine ⟨.ref h'.objs.size, upd H h'.objs.size (.frz { cls := .type "tuple", data := .seq its.toArray } (.tup xs)), I.laid (t' := tk) (fun b u q => Heap.get?_push_of_some _ q) (Nat.le_refl _) ⟨e, hz, its, rv, ⟨_, e, rfl, _, rfl⟩⟩, rfl, q _ _ rfl (I.hok.fresh (Nat.le_refl _))⟩
def tTupF (t : TA) : TE := fun σ H Q => t σ H fun xs H1 => xs.length ≤ sizeLine ∧ ∀ (p : Addr) (o : Obj), o.dict = none → H1 p = none → Q (.ref p) (upd H1 p (.frz o (.tup xs)))
theorem pe_tupF {es : List Expr} {t : TA} {x1 : Nat} {pos : Pos} (h : PA X es t) : PE X (.Tuple es x1 pos) (tTupF t) := by
  refine ⟨fun pins s σ H Q I hq => ?_⟩
  refine wpAny_Tuple_spliced (thn (h.run pos pins s σ H _ I hq) fun us s1 ⟨xs, H1, I1, r, z, q⟩ => ⟨by rw [← r.length]; exact z, ?_⟩)
  exact tup_laid (s := s1) (h' := s1.heap) (tk := s1.toks) I1 r z q
end
def eTup (r : AM) : EM := fun ρ st => (r ρ st).bind fun ws st1 => if ws.length ≤ 1000 then .ok (.tup ws) st1 else .no
def eLst (r : AM) : EM := fun ρ st => (r ρ st).bind fun ws st1 => if ws.length ≤ 1000 then .ok (.lst ws) st1 else .no
def eLstL (r : AM) : EM := fun ρ st => (r ρ st).bind fun ws st1 => if ws.length ≤ 1000 then .ok (.loc st1.length) (st1 ++ [some (.lst ws)]) else .no

section
variable {X : Cx} {Wx : WX} {K : PySem.W.Frag} {G : Gm} {H : Hp}
theorem RepL.length {K : PySem.W.Frag} {G : Gm} {H : Hp} : ∀ {ws : List W} {vs : List V}, RepL K G H ws vs → ws.length = vs.length
  | _, _, .nil => rfl
  | _, _, .cons _ r => by simp [RepL.length r]
theorem sz1000 {n : Nat} (h : n ≤ 1000) : n ≤ sizeLine := Nat.le_trans h (by decide)
theorem ce_var (i : Nat) {x : Str} {pos : Pos} (hN : X.N[i]? = some x := by rfl) (hv : Vis X.env.scope x := by first | exact Or.inl rfl | exact Or.inr (Or.inl rfl) | exact Or.inr (Or.inr rfl)) (hd : (x == ("__debug__" : Str)) = false := by decide)
    (hcd : (x == ("__classdict__" : Str)) = false := by decide) : CE X Wx (.Name x pos) (tVar i) (eVar i) := by
  refine ⟨pv i hN hv hd hcd, fun G H ρ σ Q w r h => ?_⟩
  unfold eVar at h
  cases e : ρ[i]? with
  | none => rw [e] at h; exact h.elim
  | some o =>
    cases o with
    | none => rw [e] at h; exact h.elim
    | some a =>
      rw [e] at h
      obtain ⟨v, e2, rv⟩ := r.2 i a e
      exact ⟨v, e2, PostR.ok w h rv⟩
theorem sem_c {w : W} {v : V} (hr : ∀ G H, RepV K G H w v) : SemE K Wx (tC v) (eC w) := fun G H ρ σ Q wo r h => PostR.ok (a := w) wo h (hr G H)
theorem ce_int {i : Int} {j pos} : CE X Wx (.Constant (.int i) j pos) (tC (.int i)) (eC (.int i)) := ⟨pe_int, sem_c fun _ _ => .int i⟩
theorem ce_bl {b : Bool} {j pos} : CE X Wx (.Constant (.bool b) j pos) (tC (.bl b)) (eC (.bl b)) := ⟨pe_bl, sem_c fun _ _ => .bl b⟩
theorem ce_non {j pos} : CE X Wx (.Constant .none j pos) (tC .non) (eC .non) := ⟨pe_non, sem_c fun _ _ => .non⟩
theorem ce_str {x : Str} {j pos} : CE X Wx (.Constant (.str x) j pos) (tC (.str x)) (eC (.str x)) := ⟨pe_str, sem_c fun _ _ => .str x⟩
/-- a constant of the module -/
theorem ce_glob {x : Str} {pos : Pos} {u : Value} {v : V} (w : W) (hg : Gl X x) (hm : X.mg x = some u) (r : RelV v u) (hr : ∀ G H, RepV X.K G H w v) (hd : (x == ("__debug__" : Str)) = false := by decide) : CE X Wx (.Name x pos) (tC v) (eC w) :=
  ⟨pe_glob hg hm r hd, sem_c hr⟩
theorem ca_nil : CA X Wx [] tNil aNil := ⟨pa_nil, fun G H ρ σ Q w r h => PostR.ok (b := []) w h .nil⟩
theorem ca_cons {e : Expr} {es : List Expr} {te : TE} {t : TA} {m : EM} {ms : AM} (h1 : CE X Wx e te m) (h2 : CA X Wx es t ms) (hs : starEach (e :: es) X.env = (false, eval e X.env) :: starEach es X.env := by rfl) : CA X Wx (e :: es) (tCons te t) (aCons m ms) := by
  refine ⟨pa_cons h1.pe h2.pe hs, fun G H ρ σ Q w r h => ?_⟩
  refine h1.sem G H ρ σ _ w r (PostR.bind h fun a st1 ls1 H1 v _ e1 w1 rv h1' => ?_)
  refine h2.sem (G.to ls1 st1) H1 ρ σ _ w1 (r.mono e1) (PostR.bind h1' fun as st2 ls2 H2 vs _ e2 w2 rvs h2' => ?_)
  exact PostR.ok (G := (G.to ls2 st2)) w2 h2' (.cons (rv.mono e2) rvs)
theorem ce_tup {es : List Expr} {t : TA} {m : AM} {x1 pos} (h1 : CA X Wx es t m) : CE X Wx (.Tuple es x1 pos) (tTupF t) (eTup m) := by
  refine ⟨pe_tupF h1.pe, fun G H ρ σ Q w r h => ?_⟩
  refine h1.sem G H ρ σ _ w r (PostR.bind h fun ws st1 ls1 H1 vs _ e1 w1 rvs h1' => ?_)
  skip
  split at h1'
  · rename_i hl
    refine ⟨sz1000 (by rw [← rvs.length]; exact hl), fun p o hd hp => ?_⟩
    exact h1' ls1 _ _ (Ext.new w1 hp) (w1.new hp) (.tup (.inl ⟨⟨o, hd, upd_same⟩, w1.nal hp⟩) (rvs.mono (Ext.new w1 hp)))
  · exact h1'.elim
theorem ce_lst {es : List Expr} {t : TA} {m : AM} {pos} (h1 : CA X Wx es t m) : CE X Wx (.List es pos) (tLst t) (eLst m) := by
  refine ⟨pe_lst h1.pe, fun G H ρ σ Q w r h => ?_⟩
  refine h1.sem G H ρ σ _ w r (PostR.bind h fun ws st1 ls1 H1 vs _ e1 w1 rvs h1' => ?_)
  skip
  split at h1'
  · rename_i hl
    refine ⟨sz1000 (by rw [← rvs.length]; exact hl), fun p hp => ?_⟩
    exact h1' ls1 _ _ (Ext.new w1 hp) (w1.new hp) (.lst ⟨upd_same, w1.nal hp⟩ (rvs.mono (Ext.new w1 hp)))
  · exact h1'.elim
/-- a new list that is tracked -/
theorem post_push {Wy : Value → Option Addr → Hp → Prop} {ls : List Addr} {st : Stt} {H : Hp} {ob : Ob} {Q : VK} {p : Addr} {o : HO} (w : World K (G.to ls st) H) (hp : H p = none) (h : PostR K (RepV K) Wy (G.to ls st) H (.ok (.loc st.length) (st ++ [some ob])) Q)
    (ho : RepO K (Gm.push (G.to ls st) p ob) (upd H p o) p ob) : Q (.ref p) (upd H p o) := by
  refine h (ls ++ [p]) _ _ (Ext.push w ob hp) (w.push ob hp ho) (.loc ?_)
  show (ls ++ [p])[st.length]? = some p
  have e : st.length = ls.length := w.len.symm
  rw [e]; simp
theorem ce_lstL {es : List Expr} {t : TA} {m : AM} {pos} (h1 : CA X Wx es t m) : CE X Wx (.List es pos) (tLst t) (eLstL m) := by
  refine ⟨pe_lst h1.pe, fun G H ρ σ Q w r h => ?_⟩
  refine h1.sem G H ρ σ _ w r (PostR.bind h fun ws st1 ls1 H1 vs _ e1 w1 rvs h1' => ?_)
  skip
  split at h1'
  · rename_i hl
    refine ⟨sz1000 (by rw [← rvs.length]; exact hl), fun p hp => ?_⟩
    exact post_push w1 hp h1' ⟨vs, upd_same, rvs.mono (Ext.push w1 _ hp)⟩
  · exact h1'.elim

/-! operators on values: f gives the value; it may be a new object that nobody changes -/
def PostV (K : PySem.W.Frag) (G : Gm) (H : Hp) (w : W) (Q : VK) : Prop := ∀ (H' : Hp) (v : V), Ext G H G H' → World K G H' → RepV K G H' w v → Q v H'
theorem PostV.of {Wy : Value → Option Addr → Hp → Prop} {ls : List Addr} {st : Stt} {w : W} {Q : VK} (h : PostR K (RepV K) Wy (G.to ls st) H (.ok w st) Q) : PostV K (G.to ls st) H w Q := fun H' v e wo r => h ls H' v e wo r
theorem PostV.val {w : W} {v : V} {Q : VK} (wo : World K G H) (h : PostV K G H w Q) (r : RepV K G H w v) : Q v H := h H v (Ext.refl _ _) wo r
theorem PostV.newT {ws : List W} {vs : List V} {Q : VK} {p : Addr} {o : Obj} (wo : World K G H) (h : PostV K G H (.tup ws) Q) (r : RepL K G H ws vs) (hd : o.dict = none) (hp : H p = none) : Q (.ref p) (upd H p (.frz o (.tup vs))) :=
  h _ _ (Ext.new wo hp) (wo.new hp) (.tup (.inl ⟨⟨o, hd, upd_same⟩, wo.nal hp⟩) (r.mono (Ext.new wo hp)))
theorem PostV.newL {ws : List W} {vs : List V} {Q : VK} {p : Addr} (wo : World K G H) (h : PostV K G H (.lst ws) Q) (r : RepL K G H ws vs) (hp : H p = none) : Q (.ref p) (upd H p (.lst vs)) :=
  h _ _ (Ext.new wo hp) (wo.new hp) (.lst ⟨upd_same, wo.nal hp⟩ (r.mono (Ext.new wo hp)))

abbrev F2 := Stt → W → W → Option W
def OpS (K : PySem.W.Frag) (r : R2) (f : F2) : Prop := ∀ (G : Gm) (H : Hp) (x y : W) (v u : V) (w : W) (Q : VK), World K G H → RepV K G H x v → RepV K G H y u → f G.st x y = some w → PostV K G H w Q → r v u H Q
def eOp (f : F2) (a b : EM) : EM := fun ρ st => (a ρ st).bind fun x st1 => (b ρ st1).bind fun y st2 => match f st2 x y with
  | some w => .ok w st2
  | none => .no
theorem sem_op {ta tb : TE} {a b : EM} {r : R2} {f : F2} (ha : SemE K Wx ta a) (hb : SemE K Wx tb b) (ho : OpS K r f) : SemE K Wx (tOp r ta tb) (eOp f a b) := fun G H ρ σ Q w r h => by
  refine ha G H ρ σ _ w r (PostR.bind h fun x st1 ls1 H1 v _ e1 w1 rv h1' => ?_)
  refine hb (G.to ls1 st1) H1 ρ σ _ w1 (r.mono e1) (PostR.bind h1' fun y st2 ls2 H2 u _ e2 w2 ru h2' => ?_)
  skip
  cases e : f st2 x y with
  | none => rw [e] at h2'; exact h2'.elim
  | some z =>
    rw [e] at h2'
    exact ho (G.to ls2 st2) H2 x y v u z Q w2 (rv.mono e2) ru e (PostV.of h2')
theorem ce_op {a b : Expr} {op : Operator} {ta tb : TE} {ma mb : EM} {r : R2} {f : F2} {pos : Pos} (ho : OpR X (binaryOp op) r) (hf : OpS X.K r f) (ha : CE X Wx a ta ma) (hb : CE X Wx b tb mb) : CE X Wx (.BinOp a op b pos) (tOp r ta tb) (eOp f ma mb) :=
  ⟨pe_op ho ha.pe hb.pe, sem_op ha.sem hb.sem hf⟩
theorem ce_cmp {a b : Expr} {op : CmpOp} {ta tb : TE} {ma mb : EM} {r : R2} {f : F2} {pos : Pos} (ho : OpR X (compareOp op) r) (hf : OpS X.K r f) (ha : CE X Wx a ta ma) (hb : CE X Wx b tb mb) (hm : behindInMarks op b = false := by first | exact nobehind _ (by decide) (by decide) | rfl) :
    CE X Wx (.Compare a [op] [b] pos) (tOp r ta tb) (eOp f ma mb) := ⟨pe_cmpR ho ha.pe hb.pe hm, sem_op ha.sem hb.sem hf⟩

/-! tests -/
def tmV (m : EM) : TM := fun ρ st => (m ρ st).bind fun w st1 => match w with
  | .bl b => .ok b st1
  | _ => .no
def tmNot (m : TM) : TM := fun ρ st => (m ρ st).bind fun b st1 => .ok (!b) st1
def tmAnd (m k : TM) : TM := fun ρ st => (m ρ st).bind fun b st1 => if b = true then k ρ st1 else .ok false st1
def tmOr (m k : TM) : TM := fun ρ st => (m ρ st).bind fun b st1 => if b = true then .ok true st1 else k ρ st1
theorem sem_tv {t : TE} {m : EM} (h : SemE K Wx t m) : SemT K Wx (tB t) (tmV m) := fun G H ρ σ Q w r hp => by
  refine h G H ρ σ _ w r (PostR.bind hp fun x st1 ls1 H1 v _ e1 w1 rv h1 => ?_)
  cases rv with
  | bl b => exact ⟨b, rfl, PostR.ok (G := (G.to ls1 st1)) w1 h1 rfl⟩
  | non => exact h1.elim
  | int _ => exact h1.elim
  | str _ => exact h1.elim
  | ty _ => exact h1.elim
  | obj _ => exact h1.elim
  | tup _ _ => exact h1.elim
  | prs _ _ => exact h1.elim
  | scr _ _ => exact h1.elim
  | lst _ _ => exact h1.elim
  | dic _ _ => exact h1.elim
  | loc _ => exact h1.elim
  | ext _ => exact h1.elim
theorem ct_val {e : Expr} {t : TE} {m : EM} (h : CE X Wx e t m) (he : ∀ whole, isTrue e X.env whole = (do let v ← whole; standAt e.pos; holding [v] (truthy v)) := by intro _; rfl) : CT X Wx e (tB t) (tmV m) := ⟨pt_val h.pe he, sem_tv h.sem⟩
theorem sem_test {t : TE} {m : EM} (h : SemE K Wx t m) : SemT K Wx (tTest t) (tmV m) := sem_tv h
theorem ct_cmp {a b : Expr} {op : CmpOp} {ta tb : TE} {ma mb : EM} {r : R2} {f : F2} {pos : Pos} (ho : OpR X (compareOp op) r) (hf : OpS X.K r f) (ha : CE X Wx a ta ma) (hb : CE X Wx b tb mb) (hm : behindInMarks op b = false := by first | exact nobehind _ (by decide) (by decide) | rfl) :
    CT X Wx (.Compare a [op] [b] pos) (tTest (tOp r ta tb)) (tmV (eOp f ma mb)) := ⟨pt_cmpR ho ha.pe hb.pe hm, sem_test (sem_op ha.sem hb.sem hf)⟩
theorem ct_not {a : Expr} {t : TT} {m : TM} {pos : Pos} (h : CT X Wx a t m) : CT X Wx (.UnaryOp .Not a pos) (tNot t) (tmNot m) := by
  refine ⟨pt_not h.pe, fun G H ρ σ Q w r hp => ?_⟩
  refine h.sem G H ρ σ _ w r (PostR.bind hp fun x st1 ls1 H1 v _ e1 w1 rv h1 => ?_)
  exact PostR.ok (G := (G.to ls1 st1)) w1 h1 (by rw [rv])
structure CW (X : Cx) (Wx : WX) (e : Expr) (t : TT) (m : TM) : Prop where
  pe : PW X e t
  sem : SemT X.K Wx t m
theorem CW.ct {e : Expr} {t : TT} {m : TM} (h : CW X Wx e t m) : CT X Wx e t m := ⟨h.pe.pt, h.sem⟩
theorem cw_and1 {a : Expr} {t : TT} {m : TM} {pos : Pos} (h : CT X Wx a t m) : CW X Wx (.BoolOp .And [a] pos) t m := ⟨pw_and1 h.pe, h.sem⟩
theorem cw_or1 {a : Expr} {t : TT} {m : TM} {pos : Pos} (h : CT X Wx a t m) : CW X Wx (.BoolOp .Or [a] pos) t m := ⟨pw_or1 h.pe, h.sem⟩
theorem cw_and {a b : Expr} {rest : List Expr} {t u : TT} {m k : TM} {pos : Pos} (h1 : CT X Wx a t m) (h2 : CW X Wx (.BoolOp .And (b :: rest) pos) u k) : CW X Wx (.BoolOp .And (a :: b :: rest) pos) (tAnd t u) (tmAnd m k) := by
  refine ⟨pw_and h1.pe h2.pe, fun G H ρ σ Q w r hp => ?_⟩
  refine h1.sem G H ρ σ _ w r (PostR.bind hp fun x st1 ls1 H1 v _ e1 w1 rv h1' => ?_)
  subst rv
  cases x with
  | true => exact h2.sem (G.to ls1 st1) H1 ρ σ Q w1 (r.mono e1) h1'
  | false => exact PostR.ok (G := (G.to ls1 st1)) w1 h1' rfl
theorem cw_or {a b : Expr} {rest : List Expr} {t u : TT} {m k : TM} {pos : Pos} (h1 : CT X Wx a t m) (h2 : CW X Wx (.BoolOp .Or (b :: rest) pos) u k) : CW X Wx (.BoolOp .Or (a :: b :: rest) pos) (tOr t u) (tmOr m k) := by
  refine ⟨pw_or h1.pe h2.pe, fun G H ρ σ Q w r hp => ?_⟩
  refine h1.sem G H ρ σ _ w r (PostR.bind hp fun x st1 ls1 H1 v _ e1 w1 rv h1' => ?_)
  subst rv
  cases x with
  | false => exact h2.sem (G.to ls1 st1) H1 ρ σ Q w1 (r.mono e1) h1'
  | true => exact PostR.ok (G := (G.to ls1 st1)) w1 h1' rfl
/-! and, or, not as values -/
def emAnd (m k : EM) : EM := fun ρ st => (m ρ st).bind fun w st1 => match w with
  | .bl true => k ρ st1
  | .bl false => .ok (.bl false) st1
  | _ => .no
def emOr (m k : EM) : EM := fun ρ st => (m ρ st).bind fun w st1 => match w with
  | .bl true => .ok (.bl true) st1
  | .bl false => k ρ st1
  | _ => .no
def emNot (m : EM) : EM := fun ρ st => (m ρ st).bind fun w st1 => match w with
  | .bl b => .ok (.bl (!b)) st1
  | _ => .no
theorem ce_one {a : Expr} {op} {t : TE} {m : EM} {pos : Pos} (h : CE X Wx a t m) : CE X Wx (.BoolOp op [a] pos) t m := ⟨pe_one h.pe, h.sem⟩
theorem ce_and {a b : Expr} {rest : List Expr} {t u : TE} {m k : EM} {pos : Pos} (h1 : CE X Wx a t m) (h2 : CE X Wx (.BoolOp .And (b :: rest) pos) u k) : CE X Wx (.BoolOp .And (a :: b :: rest) pos) (tAndV t u) (emAnd m k) := by
  refine ⟨pe_and h1.pe h2.pe, fun G H ρ σ Q w r hp => ?_⟩
  refine h1.sem G H ρ σ _ w r (PostR.bind hp fun x st1 ls1 H1 v _ e1 w1 rv h1' => ?_)
  cases rv with
  | bl b =>
    refine ⟨b, rfl, ?_⟩
    cases b with
    | true => exact iteT (h2.sem (G.to ls1 st1) H1 ρ σ Q w1 (r.mono e1) h1')
    | false => exact iteF (PostR.ok (G := (G.to ls1 st1)) w1 h1' (.bl false))
  | non => exact h1'.elim
  | int _ => exact h1'.elim
  | str _ => exact h1'.elim
  | ty _ => exact h1'.elim
  | obj _ => exact h1'.elim
  | tup _ _ => exact h1'.elim
  | prs _ _ => exact h1'.elim
  | scr _ _ => exact h1'.elim
  | lst _ _ => exact h1'.elim
  | dic _ _ => exact h1'.elim
  | loc _ => exact h1'.elim
  | ext _ => exact h1'.elim
def emIf (c : TM) (a b : EM) : EM := fun ρ st => (c ρ st).bind fun k st1 => if k = true then a ρ st1 else b ρ st1
theorem ce_if {c a b : Expr} {t : TT} {ta tb : TE} {m : TM} {ma mb : EM} {pos : Pos} (h : CT X Wx c t m) (h1 : CE X Wx a ta ma) (h2 : CE X Wx b tb mb) : CE X Wx (.IfExp c a b pos) (tIf t ta tb) (emIf m ma mb) := by
  refine ⟨pe_ifExp h.pe h1.pe h2.pe, fun G H ρ σ Q w r hp => ?_⟩
  refine h.sem G H ρ σ _ w r (PostR.bind hp fun x st1 ls1 H1 v _ e1 w1 rv h1' => ?_)
  subst rv
  cases x with
  | true => exact iteT (h1.sem (G.to ls1 st1) H1 ρ σ Q w1 (r.mono e1) h1')
  | false => exact iteF (h2.sem (G.to ls1 st1) H1 ρ σ Q w1 (r.mono e1) h1')
end
end Sim
end
section
set_option Elab.async false
set_option linter.all false
set_option maxRecDepth 100000
set_option maxHeartbeats 1000000
open PySem PySem.Spec PyProof.Rows L2
namespace Sim

/-! statements -/
inductive RS where
  | nx (ρ : Ev) (st : Stt) | rt (w : W) (st : Stt) | bk (ρ : Ev) (st : Stt) | ct (ρ : Ev) (st : Stt) | er (x : Exn) (ρ : Ev) (st : Stt) | no
abbrev SM := Ev → Stt → RS
def Rs.toS {α : Type} (r : Rs α) (ρ : Ev) (f : α → Stt → RS) : RS := match r with
  | .ok a st => f a st
  | .er x st => .er x ρ st
  | .no => .no
@[simp] theorem Rs.toS_ok {α : Type} (a : α) (st : Stt) (ρ : Ev) (f : α → Stt → RS) : (Rs.ok a st).toS ρ f = f a st := rfl
@[simp] theorem Rs.toS_er {α : Type} (x : Exn) (st : Stt) (ρ : Ev) (f : α → Stt → RS) : (Rs.er x st : Rs α).toS ρ f = .er x ρ st := rfl
@[simp] theorem Rs.toS_no {α : Type} (ρ : Ev) (f : α → Stt → RS) : (Rs.no : Rs α).toS ρ f = .no := rfl

def PostS (K : PySem.W.Frag) (Wx : WX) (D : Ends) (G : Gm) (H : Hp) (r : RS) : Prop := match r with
  | .nx ρ' st' => ∀ (ls' : List Addr) (σ' : L2.St) (H' : Hp), Ext G H (G.to ls' st') H' → World K (G.to ls' st') H' → RepE K (G.to ls' st') H' ρ' σ' → D.nx σ' H'
  | .rt w st' => ∀ (ls' : List Addr) (v : V) (H' : Hp), Ext G H (G.to ls' st') H' → World K (G.to ls' st') H' → RepV K (G.to ls' st') H' w v → D.rt v H'
  | .bk ρ' st' => ∀ (ls' : List Addr) (σ' : L2.St) (H' : Hp), Ext G H (G.to ls' st') H' → World K (G.to ls' st') H' → RepE K (G.to ls' st') H' ρ' σ' → D.bk σ' H'
  | .ct ρ' st' => ∀ (ls' : List Addr) (σ' : L2.St) (H' : Hp), Ext G H (G.to ls' st') H' → World K (G.to ls' st') H' → RepE K (G.to ls' st') H' ρ' σ' → D.ct σ' H'
  | .er x ρ' st' => ∀ (ls' : List Addr) (σ' : L2.St) (H' : Hp) (d : Option Addr), Ext G H (G.to ls' st') H' → World K (G.to ls' st') H' → RepE K (G.to ls' st') H' ρ' σ' → RepX K (G.to ls' st') H' x d → Wx (.ref (gaX K x.cls)) d σ' H'
  | .no => False

section
variable {K : PySem.W.Frag} {Wx : WX} {D : Ends} {G G' : Gm} {H H' : Hp} {α β : Type} {R : Gm → Hp → α → β → Prop} {σ : L2.St} {ρ : Ev}
theorem PostS.mono {r : RS} (x : Ext G H G' H') (h : PostS K Wx D G H r) : PostS K Wx D G' H' r := by
  have hid := x.hid
  obtain ⟨l', s', h'⟩ := G'
  simp only at hid
  subst hid
  cases r with
  | nx ρ st => exact fun ls σ H1 e w q => h ls σ H1 (x.trans e) w q
  | rt v st => exact fun ls σ H1 e w q => h ls σ H1 (x.trans e) w q
  | bk ρ st => exact fun ls σ H1 e w q => h ls σ H1 (x.trans e) w q
  | ct ρ st => exact fun ls σ H1 e w q => h ls σ H1 (x.trans e) w q
  | er y ρ st => exact fun ls σ H1 d e w q => h ls σ H1 d (x.trans e) w q
  | no => exact h
theorem PostS.bind {r : Rs α} {f : α → Stt → RS} {Q1 : β → Hp → Prop} (h : PostS K Wx D G H (r.toS ρ f)) (re : RepE K G H ρ σ)
    (k : ∀ a st' ls' H' b, r = .ok a st' → Ext G H (G.to ls' st') H' → World K (G.to ls' st') H' → R (G.to ls' st') H' a b → PostS K Wx D (G.to ls' st') H' (f a st') → Q1 b H') : PostR K R (fun c d H' => Wx c d σ H') G H r Q1 := by
  cases r with
  | ok a st => exact fun ls H1 b e w q => k a st ls H1 b rfl e w q (PostS.mono e h)
  | er y st => exact fun ls H1 d e w q => h ls σ H1 d e w (re.mono e) q
  | no => exact h
end

def SemS (K : PySem.W.Frag) (Wx : WX) (ts : TS) (m : SM) : Prop := ∀ (G : Gm) (H : Hp) (ρ : Ev) (σ : L2.St) (D : Ends), World K G H → RepE K G H ρ σ → PostS K Wx D G H (m ρ G.st) → ts D σ H
structure CS (X : Cx) (Wx : WX) (s : Stmt) (t : TS) (m : SM) : Prop where
  pe : PS X s t
  sem : SemS X.K Wx t m
structure CSs (X : Cx) (Wx : WX) (s : List Stmt) (t : TS) (m : SM) : Prop where
  pe : PSs X s t
  sem : SemS X.K Wx t m

def sNext : SM := fun ρ st => .nx ρ st
def sSeq (m k : SM) : SM := fun ρ st => match m ρ st with
  | .nx ρ' st' => k ρ' st'
  | .rt w st' => .rt w st'
  | .bk ρ' st' => .bk ρ' st'
  | .ct ρ' st' => .ct ρ' st'
  | .er x ρ' st' => .er x ρ' st'
  | .no => .no
def sDrop (m : EM) : SM := fun ρ st => (m ρ st).toS ρ fun _ st1 => .nx ρ st1
def sRet (m : EM) : SM := fun ρ st => (m ρ st).toS ρ fun w st1 => .rt w st1
def sRetN : SM := fun _ st => .rt .non st
def sIf (c : TM) (a b : SM) : SM := fun ρ st => (c ρ st).toS ρ fun k st1 => if k = true then a ρ st1 else b ρ st1
def sBreak : SM := fun ρ st => .bk ρ st
def sCont : SM := fun ρ st => .ct ρ st
abbrev GM := Stt → W → Ev → Option Ev
def SemG (K : PySem.W.Frag) (g : TG) (gm : GM) (is : List Nat) : Prop := ∀ (G : Gm) (H : Hp) (ρ : Ev) (σ : L2.St) (w : W) (v : V) (ρ' : Ev) (Q : L2.St → Hp → Prop), World K G H → RepE K G H ρ σ → RepV K G H w v → gm G.st w ρ = some ρ' →
  (∀ σ', σ'.length = σ.length → (∀ j, j ∉ is → σ'[j]? = σ[j]?) → RepE K G H ρ' σ' → Q σ' H) → g v σ H Q
def SemGs (K : PySem.W.Frag) (g : TGs) (gm : List W → Ev → Option Ev) (is : List Nat) : Prop := ∀ (G : Gm) (H : Hp) (ρ : Ev) (σ : L2.St) (ws : List W) (vs : List V) (ρ' : Ev) (Q : L2.St → Hp → Prop), World K G H → RepE K G H ρ σ → RepL K G H ws vs → gm ws ρ = some ρ' →
  (∀ σ', σ'.length = σ.length → (∀ j, j ∉ is → σ'[j]? = σ[j]?) → RepE K G H ρ' σ' → Q σ' H) → g vs σ H Q
structure CG (X : Cx) (e : Expr) (g : TG) (gm : GM) (is : List Nat) : Prop where
  pe : PG X e g
  sem : SemG X.K g gm is
structure CGs (X : Cx) (e : List Expr) (g : TGs) (gm : List W → Ev → Option Ev) (is : List Nat) : Prop where
  pe : PGs X e g
  sem : SemGs X.K g gm is
def gmName (i : Nat) : GM := fun _ w ρ => some (ρ.set i (some w))
def gmNil : List W → Ev → Option Ev := fun ws ρ => match ws with
  | [] => some ρ
  | _ :: _ => none
/-- names alone in a tuple -/
def gmCons (i : Nat) (r : List W → Ev → Option Ev) : List W → Ev → Option Ev := fun ws ρ => match ws with
  | w :: ws => r ws (ρ.set i (some w))
  | [] => none
def gmTup (n : Nat) (r : List W → Ev → Option Ev) : GM := fun _ w ρ => match w with
  | .tup ws => if ws.length = n then r ws ρ else none
  | .prs ws => if ws.length = n then r ws ρ else none
  | _ => none
/-- any target in a tuple -/
def gmConsG (g : GM) (r : List W → Ev → Option Ev) : List W → Ev → Option Ev := fun ws ρ => match ws with
  | w :: ws => (g [] w ρ).bind (r ws)
  | [] => none
def sAsg (m : EM) (g : GM) : SM := fun ρ st => (m ρ st).toS ρ fun w st1 => match g st1 w ρ with
  | some ρ' => .nx ρ' st1
  | none => .no

section
variable {X : Cx} {Wx : WX} {K : PySem.W.Frag}
theorem css_nil : CSs X Wx [] tNext sNext := ⟨pss_nil, fun G H ρ σ D w r h => h G.ls σ H (Ext.refl _ _) w r⟩
theorem sem_seq {t u : TS} {m k : SM} (h1 : SemS K Wx t m) (h2 : SemS K Wx u k) : SemS K Wx (tSeq t u) (sSeq m k) := fun G H ρ σ D w r h => by
  refine h1 G H ρ σ { D with nx := u D } w r ?_
  unfold sSeq at h
  cases e : m ρ G.st with
  | nx ρ' st' =>
    rw [e] at h
    exact fun ls' σ' H' x w' r' => h2 (G.to ls' st') H' ρ' σ' D w' r' (PostS.mono x h)
  | rt v st' => rw [e] at h; exact h
  | bk ρ' st' => rw [e] at h; exact h
  | ct ρ' st' => rw [e] at h; exact h
  | er y ρ' st' => rw [e] at h; exact h
  | no => rw [e] at h; exact h
theorem css_cons {s : Stmt} {rest : List Stmt} {t u : TS} {m k : SM} (h1 : CS X Wx s t m) (h2 : CSs X Wx rest u k) : CSs X Wx (s :: rest) (tSeq t u) (sSeq m k) := ⟨pss_cons h1.pe h2.pe, sem_seq h1.sem h2.sem⟩
theorem css_one {s : Stmt} {t : TS} {m : SM} (h1 : CS X Wx s t m) : CSs X Wx [s] t m := ⟨pss_one h1.pe, h1.sem⟩
theorem cs_expr {e : Expr} {te : TE} {m : EM} {pos : Pos} (he : CE X Wx e te m) (hs : swapsWith e none pos.line X.env = pure false := by rfl) : CS X Wx (.Expr e pos) (tDrop te) (sDrop m) := by
  refine ⟨ps_expr he.pe hs, fun G H ρ σ D w r h => ?_⟩
  exact he.sem G H ρ σ _ w r (PostS.bind h r fun a st1 ls1 H1 v _ e1 w1 _ h1 => h1 ls1 σ H1 (Ext.refl _ _) w1 (r.mono e1))
theorem cs_ret {e : Expr} {te : TE} {m : EM} {pos : Pos} (he : CE X Wx e te m) : CS X Wx (.Return (some e) pos) (tRet te) (sRet m) := by
  refine ⟨ps_ret he.pe, fun G H ρ σ D w r h => ?_⟩
  exact he.sem G H ρ σ _ w r (PostS.bind h r fun a st1 ls1 H1 v _ e1 w1 rv h1 => h1 ls1 v H1 (Ext.refl _ _) w1 rv)
theorem cs_if {c : Expr} {a b : List Stmt} {tc : TT} {t u : TS} {mc : TM} {m k : SM} {pos : Pos} (hc : CT X Wx c tc mc) (ha : CSs X Wx a t m) (hb : CSs X Wx b u k) : CS X Wx (.If c a b pos) (tIfS tc t u) (sIf mc m k) := by
  refine ⟨ps_if hc.pe ha.pe hb.pe, fun G H ρ σ D w r h => ?_⟩
  refine hc.sem G H ρ σ _ w r (PostS.bind h r fun x st1 ls1 H1 v _ e1 w1 rv h1 => ?_)
  subst rv
  cases x with
  | true => exact iteT (ha.sem (G.to ls1 st1) H1 ρ σ D w1 (r.mono e1) h1)
  | false => exact iteF (hb.sem (G.to ls1 st1) H1 ρ σ D w1 (r.mono e1) h1)
theorem sem_gname (i : Nat) : SemG K (gName i) (gmName i) [i] := fun G H ρ σ w v ρ' Q wo r rv e q => by
  cases e
  refine q _ (by simp) (fun j hj => ?_) (r.set i rv)
  rw [List.getElem?_set_ne (fun z => hj (by rw [z]; exact List.mem_singleton_self _))]
theorem cg_name {i : Nat} {x : Str} {pos : Pos} (hN : X.N.Nodup) (hi : X.N[i]? = some x) (hx : Loc X.env.scope x) (hf : X.fn x = true ∨ X.env.scope.names.lookup x = some .local := by first | exact .inl rfl | exact .inr rfl | assumption) : CG X (.Name x pos) (gName i) (gmName i) [i] := ⟨pg_name hN hi hx hf, sem_gname i⟩
theorem cgs_nil : CGs X [] gNil gmNil [] := ⟨pgs_nil, fun G H ρ σ ws vs ρ' Q wo r rv e q => by
  cases rv with
  | nil => cases e; exact ⟨rfl, q σ rfl (fun _ _ => rfl) r⟩
  | cons _ _ => cases e⟩
theorem cgs_name {i : Nat} {x : Str} {pos : Pos} {es : List Expr} {u : TGs} {gm : List W → Ev → Option Ev} {is : List Nat} (hN : X.N.Nodup) (hi : X.N[i]? = some x) (hx : Loc X.env.scope x) (h2 : CGs X es u gm is) (hf : X.fn x = true ∨ X.env.scope.names.lookup x = some .local := by first | exact .inl rfl | exact .inr rfl | assumption)
    (hs : (assignEach (.Name x pos :: es) X.env).map (·.2) = assign (.Name x pos) X.env :: (assignEach es X.env).map (·.2) := by rfl) : CGs X (.Name x pos :: es) (gCons (gName i) u) (gmCons i gm) (i :: is) := by
  refine ⟨pgs_cons (pg_name hN hi hx hf) h2.pe hs, fun G H ρ σ ws vs ρ' Q wo r rv e q => ?_⟩
  cases rv with
  | nil => cases e
  | cons a b =>
    refine ⟨_, _, rfl, ?_⟩
    refine h2.sem G H _ _ _ _ ρ' Q wo (r.set i a) b e fun σ' hl hj r' => ?_
    refine q σ' (by rw [hl]; simp) (fun j hjn => ?_) r'
    rw [hj j (fun z => hjn (List.mem_cons_of_mem _ z)), List.getElem?_set_ne (fun z => hjn (by rw [z]; exact List.mem_cons_self))]
theorem cg_tup {es : List Expr} {k : Nat} {t : TGs} {gm : List W → Ev → Option Ev} {is : List Nat} {n : Nat} {pos : Pos} (hc : X.calm = true) (h : CGs X es t gm is) (hn : (assignEach es X.env).length = n := by rfl) (hst : (assignEach es X.env).findIdx? (·.1) = none := by rfl) :
    CG X (.Tuple es k pos) (gTup X.K n t) (gmTup n gm) is := by
  refine ⟨pg_tup hc h.pe hn hst, fun G H ρ σ w v ρ' Q wo r rv e q => ?_⟩
  cases rv with
  | tup hq rl =>
    unfold gmTup at e
    dsimp only at e
    split at e
    · rename_i hl
      refine ⟨_, _, rfl, ?_, by rw [← rl.length]; exact hl, h.sem G H ρ σ _ _ ρ' Q wo r rl e q⟩
      rcases hq with ⟨⟨o, _, hq⟩, _⟩ | ⟨o, its, n, h1, h2, _, h3⟩
      · exact .inl (.inr ⟨o, hq⟩)
      · exact .inr ⟨o, its, n, h1, h2, h3⟩
    · cases e
  | prs hq rl =>
    unfold gmTup at e
    dsimp only at e
    split at e
    · rename_i hl
      exact ⟨_, _, rfl, .inl hq.1, by rw [← rl.length]; exact hl, h.sem G H ρ σ _ _ ρ' Q wo r rl e q⟩
    · cases e
  | _ => cases e
theorem sem_asg {te : TE} {g : TG} {m : EM} {gm : GM} {is : List Nat} (he : SemE K Wx te m) (hg : SemG K g gm is) : SemS K Wx (tAsg te g) (sAsg m gm) := fun G H ρ σ D w r h => by
  refine he G H ρ σ _ w r (PostS.bind h r fun x st1 ls1 H1 v _ e1 w1 rv h1 => ?_)
  cases e : gm st1 x ρ with
  | none => rw [e] at h1; exact h1.elim
  | some ρ' =>
    rw [e] at h1
    exact hg (G.to ls1 st1) H1 ρ σ x v ρ' _ w1 (r.mono e1) rv e fun σ' _ _ r' => h1 ls1 σ' H1 (Ext.refl _ _) w1 r'
theorem cs_set {i : Nat} {x : Str} {e : Expr} {te : TE} {m : EM} {pos pos' : Pos} (hN : X.N.Nodup) (hi : X.N[i]? = some x) (hx : Loc X.env.scope x) (he : CE X Wx e te m) (hs : swapsWith e (some (.Name x pos')) pos.line X.env = pure false := by rfl)
    (hf : X.fn x = true ∨ X.env.scope.names.lookup x = some .local := by first | exact .inl rfl | exact .inr rfl | assumption) : CS X Wx (.Assign [.Name x pos'] e pos) (tAsg te (gName i)) (sAsg m (gmName i)) :=
  ⟨ps_set hN hi hx he.pe hs hf, sem_asg he.sem (sem_gname i)⟩
theorem cs_asg {tg e : Expr} {te : TE} {g : TG} {m : EM} {gm : GM} {is : List Nat} {pos : Pos} (he : CE X Wx e te m) (hg : CG X tg g gm is) (hs : swapsWithSole [tg] e pos.line X.env = pure false := by rfl) (hw : swappedStores [tg] e X.env = pure none := by rfl)
    (h1 : (assignEach [tg] X.env).map (·.2) = [assign tg X.env] := by rfl) : CS X Wx (.Assign [tg] e pos) (tAsg te g) (sAsg m gm) := ⟨ps_asg he.pe hg.pe hs hw h1, sem_asg he.sem hg.sem⟩
def sPar (i j : Nat) (a b : EM) : SM := fun ρ st => (a ρ st).toS ρ fun x st1 => (b ρ st1).toS ρ fun y st2 => .nx ((ρ.set i (some x)).set j (some y)) st2
/-! loops -/
structure Src where
  items : List W
  ok : Stt → Prop
abbrev IM := Ev → Stt → Rs Src
def Walks (K : PySem.W.Frag) (G0 : Gm) (H0 : Hp) (src : Src) (J : It) : Prop := ∀ (G : Gm) (H : Hp), Less G0 H0 G H → World K G H → src.ok G.st → ∀ i : Nat,
  (∀ w, src.items[i]? = some w → J.go i H ∧ ∀ x H', J.yld i H x H' → Ext G H G H' ∧ World K G H' ∧ RepV K G H' w x) ∧ (src.items.length ≤ i → J.stop i H)
def SemI (K : PySem.W.Frag) (Wx : WX) (wi : TI) (im : IM) : Prop := ∀ (G : Gm) (H : Hp) (ρ : Ev) (σ : L2.St) (R : It → Hp → Prop), World K G H → RepE K G H ρ σ → PostR K (Walks K) (fun c d H' => Wx c d σ H') G H (im ρ G.st) R → wi σ H R
structure CI (X : Cx) (Wx : WX) (tg : Expr) (e : Expr) (wi : TI) (im : IM) : Prop where
  pe : PI X tg e wi
  sem : SemI X.K Wx wi im

def RS.loop (r : RS) (k : Ev → Stt → RS) : RS := match r with
  | .nx ρ st => k ρ st
  | .ct ρ st => k ρ st
  | .bk ρ st => .nx ρ st
  | .rt v st => .rt v st
  | .er x ρ st => .er x ρ st
  | .no => .no
open Classical in
noncomputable def forW (ok : Stt → Prop) (g : GM) (body : SM) : List W → Ev → Stt → RS
  | [], ρ, st => if ok st then .nx ρ st else .no
  | w :: ws, ρ, st => if ok st then (match g st w ρ with
      | none => .no
      | some ρ1 => (body ρ1 st).loop fun ρ2 st2 => forW ok g body ws ρ2 st2) else .no
noncomputable def sFor (im : IM) (g : GM) (body : SM) : SM := fun ρ st => (im ρ st).toS ρ fun src st1 => forW src.ok g body src.items ρ st1

theorem sem_for {wi : TI} {g : TG} {tb : TS} {im : IM} {gm : GM} {is : List Nat} {body : SM} (hi : SemI K Wx wi im) (hg : SemG K g gm is) (hb : SemS K Wx tb body) : SemS K Wx (tFor wi g tb) (sFor im gm body) := fun G H ρ σ D w r h => by
  refine hi G H ρ σ _ w r (PostS.bind h r fun src st1 ls1 H1 J _ e1 w1 wk h1 => ?_)
  refine ⟨fun i m σ H => m = src.items.length - i ∧ i ≤ src.items.length ∧ ∃ (G2 : Gm) (ρ2 : Ev), Ext (G.to ls1 st1) H1 G2 H ∧ World K G2 H ∧ RepE K G2 H ρ2 σ ∧ PostS K Wx D G2 H (forW src.ok gm body (src.items.drop i) ρ2 G2.st),
    ⟨_, rfl, Nat.zero_le _, (G.to ls1 st1), ρ, Ext.refl _ _, w1, r.mono e1, h1⟩, ?_⟩
  rintro i m σ2 H2 ⟨rfl, hle, G2, ρ2, e2, w2, r2, h2⟩
  by_cases hlt : i < src.items.length
  · rw [List.drop_eq_getElem_cons hlt] at h2
    rw [forW] at h2
    split at h2
    · rename_i hok
      obtain ⟨wg, ws⟩ := wk G2 H2 e2.less w2 hok i
      obtain ⟨hgo, hy⟩ := wg _ (List.getElem?_eq_getElem hlt)
      refine .inr ⟨hgo, fun σ' H' => i + 1 ≤ src.items.length ∧ ∃ (G3 : Gm) (ρ3 : Ev), Ext (G.to ls1 st1) H1 G3 H' ∧ World K G3 H' ∧ RepE K G3 H' ρ3 σ' ∧ PostS K Wx D G3 H' (forW src.ok gm body (src.items.drop (i + 1)) ρ3 G3.st), fun σ' H' hN => ⟨src.items.length - (i + 1), by omega, rfl, hN⟩, fun x H3 hx => ?_⟩
      obtain ⟨e3, w3, rx⟩ := hy x H3 hx
      cases eg : gm G2.st src.items[i] ρ2 with
      | none => rw [eg] at h2; exact h2.elim
      | some ρ3 =>
        rw [eg] at h2
        dsimp only at h2
        refine hg G2 H3 ρ2 σ2 _ x ρ3 _ w3 (r2.mono e3) rx eg fun σ4 _ _ r4 => ?_
        refine hb G2 H3 ρ3 σ4 _ w3 r4 ?_
        have e23 := e2.trans e3
        cases eb : body ρ3 G2.st with
        | nx ρ5 st5 =>
          rw [eb] at h2
          exact fun ls5 σ5 H5 e5 w5 r5 => ⟨hlt, (G2.to ls5 st5), ρ5, e23.trans e5, w5, r5, PostS.mono (e3.trans e5) h2⟩
        | ct ρ5 st5 =>
          rw [eb] at h2
          exact fun ls5 σ5 H5 e5 w5 r5 => ⟨hlt, (G2.to ls5 st5), ρ5, e23.trans e5, w5, r5, PostS.mono (e3.trans e5) h2⟩
        | bk ρ5 st5 =>
          rw [eb] at h2
          exact fun ls5 σ5 H5 e5 w5 r5 => h2 ls5 σ5 H5 (e3.trans e5) w5 r5
        | rt v5 st5 =>
          rw [eb] at h2
          exact fun ls5 σ5 H5 e5 w5 r5 => h2 ls5 σ5 H5 (e3.trans e5) w5 r5
        | er y5 ρ5 st5 =>
          rw [eb] at h2
          exact fun ls5 σ5 H5 d e5 w5 r5 => h2 ls5 σ5 H5 d (e3.trans e5) w5 r5
        | no => rw [eb] at h2; exact h2.elim
    · exact h2.elim
  · have ei : i = src.items.length := by omega
    subst ei
    rw [List.drop_length] at h2
    rw [forW] at h2
    split at h2
    · rename_i hok
      exact .inl ⟨(wk G2 H2 e2.less w2 hok _).2 (Nat.le_refl _), h2 G2.ls σ2 H2 (Ext.refl _ _) w2 r2⟩
    · exact h2.elim
theorem cs_for {tg iter : Expr} {body : List Stmt} {wi : TI} {g : TG} {tb : TS} {im : IM} {gm : GM} {is : List Nat} {mb : SM} {pos : Pos} (hp : PassesOwn (model X.prog X.w) X.A X.env X.xe) (hc : X.calm = true) (hi : CI X Wx tg iter wi im) (hg : CG X tg g gm is) (hb : CSs X Wx body tb mb)
    (hs : ∀ x, foldedSetIterable iter X.env x = pure x := by intro _; rfl) : CS X Wx (.For tg iter body [] pos) (tFor wi g tb) (sFor im gm mb) := ⟨ps_for hp hc hi.pe hg.pe hb.pe hs, sem_for hi.sem hg.sem hb.sem⟩

/-! what is walked -/
def seqOf (st : Stt) : W → Option (List W)
  | .lst ws => some ws
  | .scr ws => some ws
  | .tup ws => some ws
  | .loc n => match st[n]? with
    | some (some (.lst ws)) => some ws
    | _ => none
  | _ => none
def okOf : W → List W → Stt → Prop
  | .loc n, ws, st => st[n]? = some (some (.lst ws))
  | _, _, _ => True
def lstOf (st : Stt) : W → Option (List W)
  | .lst ws => some ws
  | .scr ws => some ws
  | .loc n => match st[n]? with
    | some (some (.lst ws)) => some ws
    | _ => none
  | _ => none
theorem Fz.rd {G : Gm} {H : Hp} {a : Addr} {u : HO} (h : Fz G H a u) : Rd H a u := h.1
theorem lst_sq {G : Gm} {H : Hp} {w : W} {v : V} {ws : List W} (wo : World K G H) (r : RepV K G H w v) (e : lstOf G.st w = some ws) : ∃ a vs, v = .ref a ∧ SqL K H a vs ∧ RepL K G H ws vs := by
  cases r with
  | lst h rl => cases e; exact ⟨_, _, rfl, .inl (.inl h.1), rl⟩
  | scr h rl => cases e; exact ⟨_, _, rfl, h.imp_left Fz.rd, rl⟩
  | loc h =>
    unfold lstOf at e
    dsimp only at e
    split at e
    · rename_i q
      cases e
      obtain ⟨vs, e1, rl⟩ := wo.at' _ _ _ h q
      exact ⟨_, vs, rfl, .inl (.inl e1), rl⟩
    · cases e
  | _ => cases e
theorem tup_sq {G : Gm} {H : Hp} {v : V} {ws : List W} (r : RepV K G H (.tup ws) v) : ∃ a vs, v = .ref a ∧ SqT K H a vs ∧ RepL K G H ws vs := by
  cases r with
  | tup h rl =>
    refine ⟨_, _, rfl, ?_, rl⟩
    rcases h with ⟨⟨o, _, hq⟩, _⟩ | ⟨o, its, n, h1, h2, _, h3⟩
    · exact .inl (.inr ⟨o, hq⟩)
    · exact .inr ⟨o, its, n, h1, h2, h3⟩
theorem seq_sq {G : Gm} {H : Hp} {w : W} {v : V} {ws : List W} (wo : World K G H) (r : RepV K G H w v) (e : seqOf G.st w = some ws) : ∃ a vs, v = .ref a ∧ (SqL K H a vs ∨ SqT K H a vs) ∧ RepL K G H ws vs := by
  cases w with
  | tup us => cases e; obtain ⟨a, vs, e1, h, rl⟩ := tup_sq r; exact ⟨a, vs, e1, .inr h, rl⟩
  | lst us => obtain ⟨a, vs, e1, h, rl⟩ := lst_sq wo r e; exact ⟨a, vs, e1, .inl h, rl⟩
  | scr us => obtain ⟨a, vs, e1, h, rl⟩ := lst_sq wo r e; exact ⟨a, vs, e1, .inl h, rl⟩
  | loc n => obtain ⟨a, vs, e1, h, rl⟩ := lst_sq wo r e; exact ⟨a, vs, e1, .inl h, rl⟩
  | _ => cases e
theorem RepL.get {G : Gm} {H : Hp} : ∀ {ws : List W} {vs : List V} {i : Nat} {w : W}, RepL K G H ws vs → ws[i]? = some w → ∃ v, vs[i]? = some v ∧ RepV K G H w v
  | _, _, _, _, .nil, e => by simp at e
  | _, _, 0, _, .cons h _, e => by simp at e; subst e; exact ⟨_, rfl, h⟩
  | _, _, i + 1, w, .cons _ r, e => by
    obtain ⟨v, a, b⟩ := RepL.get (i := i) (w := w) r (by simpa using e)
    exact ⟨v, by simpa using a, b⟩
end
end Sim
end
section
set_option Elab.async false
set_option linter.all false
set_option maxRecDepth 100000
set_option maxHeartbeats 1000000
open PySem PySem.Spec PyProof.Rows L2
namespace Sim
section
variable {X : Cx} {Wx : WX} {K : PySem.W.Frag} {tg : Expr}

/-! a list, a tuple, a text, by values -/
def iAny (K : PySem.W.Frag) (te : TE) : TI := fun σ H R => te σ H fun x H1 =>
  (∃ a, x = .ref a ∧ (∃ xs, SqL K H1 a xs) ∧ R (Itl K a) H1) ∨ (∃ a, x = .ref a ∧ (∃ xs, SqT K H1 a xs) ∧ R (Itt K a) H1) ∨ ∃ z, x = .str z ∧ R (Its z) H1
theorem pi_any {l : Expr} {tl : TE} (hl : PE X l tl) : PI X tg l (iAny X.K tl) := by
  refine ⟨fun pins s σ H R I h => ?_⟩
  refine thn (hl.run pins s σ H _ I h) fun v s1 ⟨x, H1, I1, r1, q1⟩ => ?_
  rcases q1 with ⟨a, rfl, ⟨xs, hq⟩, q⟩ | ⟨a, rfl, ⟨xs, hq⟩, q⟩ | ⟨z, rfl, q⟩
  · cases r1
    obtain ⟨its, rv, p, hz⟩ := I1.list hq
    refine wpAny_pyIter_list p.isList ⟨_, [s1.heap.objs.size], _, _, H1, rfl, I1.kept (t' := s1.toks) fun b o e => Heap.get?_push_of_some _ e, turn_list a _, ⟨_, Heap.get?_push_size _ rfl, rfl, rfl⟩, fun b hb => ?_, q⟩
    rw [List.mem_singleton.mp hb]
    exact I1.fpOk (Nat.le_refl _) (I1.hok.fresh (Nat.le_refl _))
  · cases r1
    obtain ⟨its, rv, p, hz⟩ := I1.tuple hq
    refine wpAny_pyIter_tuple (show s1.heap.IsTuple a its.toArray from p) ⟨_, [s1.heap.objs.size], _, _, H1, rfl, I1.kept (t' := s1.toks) fun b o e => Heap.get?_push_of_some _ e, turn_tuple a _, ⟨_, Heap.get?_push_size _ rfl, rfl, rfl⟩, fun b hb => ?_, q⟩
    rw [List.mem_singleton.mp hb]
    exact I1.fpOk (Nat.le_refl _) (I1.hok.fresh (Nat.le_refl _))
  · obtain ⟨t, rfl⟩ := r1
    cases ha : z.cps.all (· < 128)
    · exact wpAny_pyIter_wide ha (pi_one (tk := s1.toks) I1 _ (turn_str _ z t _ (.inr rfl)) ⟨_, Heap.get?_push_size _ rfl, rfl, rfl⟩ q)
    · exact wpAny_pyIter_ascii ha (pi_one (tk := s1.toks) I1 _ (turn_str _ z t _ (.inl rfl)) ⟨_, Heap.get?_push_size _ rfl, rfl, rfl⟩ q)
/-- what a walk goes through -/
def itemsOf (st : Stt) : W → Option (List W)
  | .str z => some (z.cps.toList.map fun c => .str ⟨#[c]⟩)
  | w => seqOf st w
def iSeq (m : EM) : IM := fun ρ st => (m ρ st).bind fun w st1 => match itemsOf st1 w with
  | some ws => .ok ⟨ws, okOf w ws⟩ st1
  | none => .no
theorem lstOf_ok {st0 st : Stt} {w : W} {ws : List W} (e : lstOf st0 w = some ws) (h : okOf w ws st) : lstOf st w = some ws := by
  cases w with
  | lst us => exact e
  | scr us => exact e
  | loc n =>
    unfold okOf at h
    unfold lstOf
    dsimp only at h ⊢
    rw [h]
  | _ => cases e
theorem walks_list {G0 : Gm} {H0 : Hp} {w : W} {a : Addr} {ws : List W} (r : RepV K G0 H0 w (.ref a)) (e : lstOf G0.st w = some ws) : Walks K G0 H0 ⟨ws, okOf w ws⟩ (Itl K a) := fun G H x wo hok i => by
  obtain ⟨a', vs, ea, sq, rl⟩ := lst_sq wo (r.less x) (lstOf_ok e hok)
  cases ea
  refine ⟨fun u hu => ?_, fun hl => ⟨vs, sq, by rw [← rl.length]; exact hl⟩⟩
  obtain ⟨v, ev, rv⟩ := rl.get hu
  refine ⟨⟨vs, v, sq, ev⟩, fun y H' hy => ?_⟩
  obtain ⟨rfl, hy⟩ := hy
  have : v = y := Option.some.inj (ev.symm.trans (hy vs sq))
  subst this
  exact ⟨Ext.refl _ _, wo, rv⟩
theorem walks_tup {G0 : Gm} {H0 : Hp} {a : Addr} {ws : List W} (r : RepV K G0 H0 (.tup ws) (.ref a)) : Walks K G0 H0 ⟨ws, fun _ => True⟩ (Itt K a) := fun G H x wo hok i => by
  obtain ⟨a', vs, ea, sq, rl⟩ := tup_sq (r.less x)
  cases ea
  refine ⟨fun u hu => ?_, fun hl => ⟨vs, sq, by rw [← rl.length]; exact hl⟩⟩
  obtain ⟨v, ev, rv⟩ := rl.get hu
  refine ⟨⟨vs, v, sq, ev⟩, fun y H' hy => ?_⟩
  obtain ⟨rfl, hy⟩ := hy
  have : v = y := Option.some.inj (ev.symm.trans (hy vs sq))
  subst this
  exact ⟨Ext.refl _ _, wo, rv⟩
theorem walks_str {G0 : Gm} {H0 : Hp} {z : Str} : Walks K G0 H0 ⟨z.cps.toList.map fun c => .str ⟨#[c]⟩, fun _ => True⟩ (Its z) := fun G H x wo hok i => by
  refine ⟨fun u hu => ?_, fun hl => ?_⟩
  · dsimp only at hu
    rw [List.getElem?_map] at hu
    cases e : z.cps.toList[i]? with
    | none => rw [e] at hu; cases hu
    | some c =>
      rw [e] at hu
      cases hu
      have hi := (List.getElem?_eq_some_iff.mp e).1
      refine ⟨show i < z.cps.size by simpa using hi, fun y H' hy => ?_⟩
      obtain ⟨rfl, d, hd, rfl⟩ := hy
      rw [Array.getElem?_toList] at e
      rw [e] at hd
      cases hd
      exact ⟨Ext.refl _ _, wo, .str _⟩
  · show z.cps.size ≤ i
    simpa using hl
theorem sem_seq_i {te : TE} {m : EM} (h : SemE K Wx te m) : SemI K Wx (iAny K te) (iSeq m) := fun G H ρ σ R w r hp => by
  refine h G H ρ σ _ w r (PostR.bind hp fun x st1 ls1 H1 v _ e1 w1 rv h1 => ?_)
  cases e : itemsOf st1 x with
  | none => rw [e] at h1; exact h1.elim
  | some ws =>
    rw [e] at h1
    dsimp only at h1
    cases x with
    | tup us =>
      cases e
      obtain ⟨a, vs, rfl, sq, _⟩ := tup_sq rv
      exact .inr (.inl ⟨a, rfl, ⟨vs, sq⟩, PostR.ok (G := G.to ls1 st1) w1 h1 (walks_tup rv)⟩)
    | scr us =>
      obtain ⟨a, vs, rfl, sq, _⟩ := lst_sq (G := G.to ls1 st1) w1 rv e
      exact .inl ⟨a, rfl, ⟨vs, sq⟩, PostR.ok (G := G.to ls1 st1) w1 h1 (walks_list rv e)⟩
    | lst us =>
      obtain ⟨a, vs, rfl, sq, _⟩ := lst_sq (G := G.to ls1 st1) w1 rv e
      exact .inl ⟨a, rfl, ⟨vs, sq⟩, PostR.ok (G := G.to ls1 st1) w1 h1 (walks_list rv e)⟩
    | loc n =>
      obtain ⟨a, vs, rfl, sq, _⟩ := lst_sq (G := G.to ls1 st1) w1 rv e
      exact .inl ⟨a, rfl, ⟨vs, sq⟩, PostR.ok (G := G.to ls1 st1) w1 h1 (walks_list rv e)⟩
    | str z =>
      cases e
      cases rv
      exact .inr (.inr ⟨z, rfl, PostR.ok (G := G.to ls1 st1) w1 h1 walks_str⟩)
    | _ => cases e
theorem ci_seq {e : Expr} {te : TE} {m : EM} (h : CE X Wx e te m) : CI X Wx tg e (iAny X.K te) (iSeq m) := ⟨pi_any h.pe, sem_seq_i h.sem⟩

/-! ranges -/
def rngW (lo : Int) (n : Nat) : List W := (List.range n).map fun (i : Nat) => .int (lo + (i : Int))
def iRange1 (ms : AM) : IM := fun ρ st => (ms ρ st).bind fun ws st1 => match ws with
  | [.int j] => if -(2 ^ 62) ≤ j ∧ j < 2 ^ 62 then .ok ⟨rngW 0 j.toNat, fun _ => True⟩ st1 else .no
  | _ => .no
def iRange2 (ms : AM) : IM := fun ρ st => (ms ρ st).bind fun ws st1 => match ws with
  | [.int i, .int j] => if -(2 ^ 62) ≤ i ∧ i < 2 ^ 62 ∧ -(2 ^ 62) ≤ j ∧ j < 2 ^ 62 then .ok ⟨rngW i (j - i).toNat, fun _ => True⟩ st1 else .no
  | _ => .no
theorem walks_rng {G0 : Gm} {H0 : Hp} {lo : Int} {n : Nat} : Walks K G0 H0 ⟨rngW lo n, fun _ => True⟩ (Itr lo n) := fun G H x wo hok i => by
  refine ⟨fun u hu => ?_, fun hl => show n ≤ i by simpa [rngW] using hl⟩
  have hi : i < n := by simpa [rngW] using (List.getElem?_eq_some_iff.mp hu).1
  refine ⟨hi, fun y H' hy => ?_⟩
  obtain ⟨rfl, rfl⟩ := hy
  simp only [rngW, List.getElem?_map, List.getElem?_range hi, Option.map_some, Option.some.injEq] at hu
  subst hu
  exact ⟨Ext.refl _ _, wo, .int _⟩
theorem RepL.one {G : Gm} {H : Hp} {w : W} {vs : List V} (h : RepL K G H [w] vs) : ∃ v, vs = [v] ∧ RepV K G H w v := by
  cases h with
  | cons a b => cases b; exact ⟨_, rfl, a⟩
theorem RepL.two {G : Gm} {H : Hp} {w w2 : W} {vs : List V} (h : RepL K G H [w, w2] vs) : ∃ v v2, vs = [v, v2] ∧ RepV K G H w v ∧ RepV K G H w2 v2 := by
  cases h with
  | cons a b =>
    obtain ⟨v2, rfl, c⟩ := b.one
    exact ⟨_, _, rfl, a, c⟩
theorem RepV.int_inv {G : Gm} {H : Hp} {i : Int} {v : V} (h : RepV K G H (.int i) v) : v = .int i := by cases h; rfl
theorem RepV.str_inv {G : Gm} {H : Hp} {i : Str} {v : V} (h : RepV K G H (.str i) v) : v = .str i := by cases h; rfl
theorem RepV.bl_inv {G : Gm} {H : Hp} {i : Bool} {v : V} (h : RepV K G H (.bl i) v) : v = .bl i := by cases h; rfl
theorem ci_range1 {a : Expr} {ta : TA} {ms : AM} {p pos : Pos} (hg : Gl X "range") (hm : X.mg "range" = none) (ha : CA X Wx [a] ta ms) (hs : starEach [a] X.env = [(false, eval a X.env)] := by rfl) : CI X Wx tg (.Call (.Name "range" p) [a] [] pos) (iRng1 ta) (iRange1 ms) := by
  refine ⟨pi_range1 hg hm ha.pe hs, fun G H ρ σ R w r hp => ?_⟩
  refine ha.sem G H ρ σ _ w r (PostR.bind hp fun ws st1 ls1 H1 vs he e1 w1 rv h1 => ?_)
  clear he
  split at h1
  · split at h1
    · rename_i j hj
      obtain ⟨v, rfl, r1⟩ := rv.one
      cases r1.int_inv
      exact ⟨j, rfl, hj.1, hj.2, PostR.ok (G := G.to ls1 st1) w1 h1 walks_rng⟩
    · exact h1.elim
  · exact h1.elim
def iRange3 (ms : AM) : IM := fun ρ st => (ms ρ st).bind fun ws st1 => match ws with
  | [.int i, .int j, .int c] => if -(2 ^ 62) ≤ i ∧ i < 2 ^ 62 ∧ -(2 ^ 62) ≤ j ∧ j < 2 ^ 62 ∧ c = -1 then .ok ⟨(List.range (i - j).toNat).map fun (k : Nat) => .int (i + (k : Int) * -1), fun _ => True⟩ st1 else .no
  | _ => .no
/-! zip and enumerate -/
end
end Sim
end
section
set_option Elab.async false
set_option linter.all false
set_option maxRecDepth 100000
set_option maxHeartbeats 1000000
open PySem PySem.Spec PyProof.Rows L2
namespace Sim

/-! comprehensions -/
abbrev Gm.hide (G : Gm) (D : Addr) : Gm := ⟨G.ls, G.st, D :: G.hid⟩
def W0 : WX := fun _ _ _ _ => False
def Rs.cb {α β : Type} (r : Rs α) (f : α → Stt → Rs β) : Rs β := match r with
  | .ok a st => f a st
  | _ => .no
@[simp] theorem Rs.cb_ok {α β : Type} (a : α) (st : Stt) (f : α → Stt → Rs β) : (Rs.ok a st).cb f = f a st := rfl
@[simp] theorem Rs.cb_no {α β : Type} (f : α → Stt → Rs β) : (Rs.no : Rs α).cb f = .no := rfl
theorem Rs.cb_eq {α β : Type} {r : Rs α} {f : α → Stt → Rs β} {b : β} {st : Stt} (h : r.cb f = .ok b st) : ∃ a st1, r = .ok a st1 ∧ f a st1 = .ok b st := by
  cases r with
  | ok a st1 => exact ⟨a, st1, rfl, h⟩
  | er x st1 => cases h
  | no => cases h
def wipeE (ρ : Ev) : List Nat → Ev
  | [] => ρ
  | v :: vs => (wipeE ρ vs).set v none
open Classical in
noncomputable def lcW (ok : Stt → Prop) (g : GM) (c : TM) (m : EM) (ρ : Ev) : List W → Stt → Rs (List W)
  | [], st => if ok st then .ok [] st else .no
  | w :: ws, st => if ok st then (match g st w ρ with
      | none => .no
      | some ρ1 => (c ρ1 st).cb fun b st1 => if b = true then (m ρ1 st1).cb fun y st2 => (lcW ok g c m ρ ws st2).cb fun ys st3 => .ok (y :: ys) st3 else lcW ok g c m ρ ws st1) else .no
noncomputable def eLc (im : IM) (g : GM) (c : TM) (m : EM) (vs : List Nat) : EM := fun ρ st => (im ρ st).bind fun src st1 => if src.items.length ≤ 100000 then (lcW src.ok g c m (wipeE ρ vs) src.items st1).cb fun ys st2 => .ok (.lst ys) st2 else .no
noncomputable def eLcL (im : IM) (g : GM) (c : TM) (m : EM) (vs : List Nat) : EM := fun ρ st => (im ρ st).bind fun src st1 => if src.items.length ≤ 100000 then (lcW src.ok g c m (wipeE ρ vs) src.items st1).cb fun ys st2 => .ok (.loc st2.length) (st2 ++ [some (.lst ys)]) else .no
def tmYes : TM := fun _ st => .ok true st

theorem wipe_get (σ : L2.St) : ∀ (vs : List Nat) (i : Nat), i ∉ vs → (wipe σ vs)[i]? = σ[i]?
  | [], i, _ => rfl
  | v :: vs, i, h => by
    unfold wipe
    rw [List.getElem?_set_ne (fun z => h (by rw [z]; exact List.mem_cons_self)), wipe_get σ vs i fun z => h (List.mem_cons_of_mem _ z)]
theorem wipe_in (σ : L2.St) : ∀ (vs : List Nat) (i : Nat), i ∈ vs → i < σ.length → (wipe σ vs)[i]? = some none
  | v :: vs, i, h, hl => by
    unfold wipe
    by_cases e : v = i
    · subst e; exact List.getElem?_set_self (by rw [wipe_length]; exact hl)
    · rw [List.getElem?_set_ne e]
      exact wipe_in σ vs i ((List.mem_cons.mp h).resolve_left fun z => e z.symm) hl
theorem wipe_same {σ σ2 : L2.St} {vs is : List Nat} (hl : σ2.length = σ.length) (h : ∀ j, j ∉ is → σ2[j]? = σ[j]?) (hs : ∀ i ∈ is, i ∈ vs) : wipe σ2 vs = wipe σ vs := by
  refine List.ext_getElem? fun i => ?_
  by_cases hi : i ∈ vs
  · by_cases hn : i < σ.length
    · rw [wipe_in σ vs i hi hn, wipe_in σ2 vs i hi (by rw [hl]; exact hn)]
    · rw [List.getElem?_eq_none (by rw [wipe_length, hl]; omega), List.getElem?_eq_none (by rw [wipe_length]; omega)]
  · rw [wipe_get _ _ _ hi, wipe_get _ _ _ hi, h i fun z => hi (hs i z)]
theorem wipe_wipe (σ : L2.St) (vs : List Nat) : wipe (wipe σ vs) vs = wipe σ vs := by
  refine List.ext_getElem? fun i => ?_
  by_cases hi : i ∈ vs
  · by_cases hn : i < σ.length
    · rw [wipe_in σ vs i hi hn, wipe_in _ vs i hi (by rw [wipe_length]; exact hn)]
    · rw [List.getElem?_eq_none (by rw [wipe_length, wipe_length]; omega), List.getElem?_eq_none (by rw [wipe_length]; omega)]
  · rw [wipe_get _ _ _ hi]
theorem RepE.less {K : PySem.W.Frag} {G G' : Gm} {H H' : Hp} {ρ : Ev} {σ : L2.St} (x : Less G H G' H') (h : RepE K G H ρ σ) : RepE K G' H' ρ σ :=
  ⟨h.1, fun i w e => let ⟨v, a, b⟩ := h.2 i w e; ⟨v, a, b.less x⟩⟩
theorem wipeE_get : ∀ {ρ : Ev} {vs : List Nat} {i : Nat} {w : W}, (wipeE ρ vs)[i]? = some (some w) → ρ[i]? = some (some w) ∧ i ∉ vs
  | _, [], _, _, h => ⟨h, by simp⟩
  | ρ, v :: vs, i, w, h => by
    unfold wipeE at h
    by_cases e : v = i
    · subst e
      by_cases hv : v < (wipeE ρ vs).length
      · rw [List.getElem?_set_self hv] at h; cases h
      · rw [List.getElem?_eq_none (by simpa using hv)] at h; cases h
    · rw [List.getElem?_set_ne e] at h
      obtain ⟨a, b⟩ := wipeE_get h
      exact ⟨a, fun z => (List.mem_cons.mp z).elim (fun q => e q.symm) b⟩
theorem wipeE_length (ρ : Ev) : ∀ vs : List Nat, (wipeE ρ vs).length = ρ.length
  | [] => rfl
  | v :: vs => by unfold wipeE; rw [List.length_set, wipeE_length ρ vs]
theorem RepE.wipe {K : PySem.W.Frag} {G : Gm} {H : Hp} {ρ : Ev} {σ : L2.St} (h : RepE K G H ρ σ) (vs : List Nat) : RepE K G H (wipeE ρ vs) (L2.wipe σ vs) := by
  refine ⟨by rw [wipeE_length, wipe_length]; exact h.1, fun i w e => ?_⟩
  obtain ⟨a, b⟩ := wipeE_get e
  rw [wipe_get _ _ _ b]
  exact h.2 i w a

section
variable {K : PySem.W.Frag} {G : Gm} {H : Hp} {D : Addr}
theorem RepL.app {ws us : List W} {vs ts : List V} (h : RepL K G H ws vs) (k : RepL K G H us ts) : RepL K G H (ws ++ us) (vs ++ ts) := by
  induction ws generalizing vs with
  | nil => cases h; exact k
  | cons w ws ih => cases h with
    | cons a b => exact .cons a (ih b)
theorem less_hide {o : HO} (w : World K G H) (hD : H D = none) : Less G H (G.hide D) (upd H D o) := by
  have nal : ∀ {a : Addr}, ¬ G.alive a → H a ≠ none → ¬ (G.hide D).alive a := fun {a} na hn z => by
    rcases z with z | z
    · exact na (.inl z)
    · rcases List.mem_cons.mp z with q | q
      · exact hn (by rw [q]; exact hD)
      · exact na (.inr q)
  refine ⟨fun _ _ e => e, fun a u h => ⟨(Fz.mono (Ext.new (o := o) w hD) h).1, nal h.2 ?_⟩, fun a u h => ⟨(Fx.mono (Ext.new (o := o) w hD) h).1, nal h.2 ?_⟩, fun a u h => ⟨(Fe.mono (Ext.new (o := o) w hD) h).1, nal h.2 ?_⟩, fun a p u h => ⟨(Fd.mono (Ext.new (o := o) w hD) h).1, nal h.2 ?_⟩⟩
  · rcases h.1 with r | ⟨_, r⟩ <;> (rw [r]; exact fun z => nomatch z)
  · obtain ⟨_, _, r⟩ := h.1
    rw [r]; exact fun z => nomatch z
  · rw [h.1]; exact fun z => nomatch z
  · rw [h.1]; exact fun z => nomatch z
theorem less_unhide : Less (G.hide D) H G H := ⟨fun _ _ e => e, fun a u h => ⟨h.1, fun z => h.2 (z.elim .inl fun q => .inr (List.mem_cons_of_mem _ q))⟩, fun a u h => ⟨h.1, fun z => h.2 (z.elim .inl fun q => .inr (List.mem_cons_of_mem _ q))⟩, fun a u h => ⟨h.1, fun z => h.2 (z.elim .inl fun q => .inr (List.mem_cons_of_mem _ q))⟩, fun a p u h => ⟨h.1, fun z => h.2 (z.elim .inl fun q => .inr (List.mem_cons_of_mem _ q))⟩⟩
theorem World.hide {o : HO} (w : World K G H) (hD : H D = none) : World K (G.hide D) (upd H D o) := by
  have w' := w.new (o := o) hD
  have nl : D ∉ G.ls := fun z => w.tr D z hD
  refine ⟨w.len, w.nd, w'.tr, fun a ha => ?_, fun i a ob e1 e2 => ?_⟩
  · rcases List.mem_cons.mp ha with q | q
    · subst q; exact ⟨by rw [upd_same]; exact (fun z => nomatch z), nl⟩
    · exact w'.hd a q
  · have : a ≠ D := fun z => nl (by rw [← z]; exact List.mem_of_getElem? e1)
    exact (w.at' i a ob e1 e2).less (less_hide w hD) (upd_ne this)
theorem World.unhide (w : World K (G.hide D) H) : World K G H :=
  ⟨w.len, w.nd, w.tr, fun a ha => w.hd a (List.mem_cons_of_mem _ ha), fun i a ob e1 e2 => (w.at' i a ob e1 e2).less less_unhide rfl⟩
theorem less_hidupd {o : HO} (hD : D ∈ G.hid) : Less G H G (upd H D o) := by
  refine ⟨fun _ _ e => e, fun a u h => ⟨?_, h.2⟩, fun a u h => ⟨?_, h.2⟩, fun a u h => ⟨by rw [upd_ne (fun z => h.2 (.inr (by rw [z]; exact hD)))]; exact h.1, h.2⟩, fun a p u h => ⟨by rw [upd_ne (fun z => h.2 (.inr (by rw [z]; exact hD)))]; exact h.1, h.2⟩⟩
  · have : a ≠ D := fun z => h.2 (.inr (by rw [z]; exact hD))
    rcases h.1 with r | ⟨p, r⟩
    · exact .inl (by rw [upd_ne this]; exact r)
    · exact .inr ⟨p, by rw [upd_ne this]; exact r⟩
  · have : a ≠ D := fun z => h.2 (.inr (by rw [z]; exact hD))
    obtain ⟨p, d, r⟩ := h.1
    exact ⟨p, d, by rw [upd_ne this]; exact r⟩
theorem World.hidupd {o : HO} (w : World K G H) (hD : D ∈ G.hid) : World K G (upd H D o) := by
  have nl := (w.hd D hD).2
  refine ⟨w.len, w.nd, fun a ha => ?_, fun a ha => ⟨?_, (w.hd a ha).2⟩, fun i a ob e1 e2 => ?_⟩
  · rw [upd_ne (fun z => nl (by rw [← z]; exact ha))]; exact w.tr a ha
  · by_cases q : a = D
    · subst q; rw [upd_same]; exact fun z => nomatch z
    · rw [upd_ne q]; exact (w.hd a ha).1
  · have : a ≠ D := fun z => nl (by rw [← z]; exact List.mem_of_getElem? e1)
    exact (w.at' i a ob e1 e2).less (less_hidupd hD) (upd_ne this)
/-- a step with D hidden, then D written: from outside -/
theorem Ext.under {G1 : Gm} {H1 H' : Hp} {ls st ls' st'} {o : HO} (w1 : World K G1 H1) (hD : H1 D = none) (x : Ext G1 H1 (G1.to ls st) H) (y : Ext ((G1.to ls st).hide D) H ((G1.to ls' st').hide D) H') : Ext G1 H1 (G1.to ls' st') (upd H' D o) := by
  have hal : ∀ a, ((G1.to ls st).hide D).alive a → a = D ∨ (G1.to ls st).alive a := fun a z => by
    rcases z with z | z
    · exact .inr (.inl z)
    · exact (List.mem_cons.mp z).imp_right .inr
  refine ⟨fun i a e => y.ls i a (x.ls i a e), fun a u na e => ?_, fun a z => ?_, fun a e => ?_, rfl, fun a ha => ?_⟩
  · have nD : a ≠ D := ne_of_none e hD
    rw [upd_ne nD]
    have na1 : ¬ ((G1.to ls st).hide D).alive a := fun z => by
      rcases hal a z with q | q
      · exact nD q
      · rcases x.al a q with q | q
        · exact na q
        · rw [q] at e; cases e
    rcases x.keep a u na e with k | ⟨kvs, od, rfl, k⟩
    · exact y.keep a u na1 k
    · rcases y.keep a _ na1 k with q | ⟨_, _, q, _⟩
      · exact .inr ⟨kvs, od, rfl, q⟩
      · cases q
  · have z' : ((G1.to ls' st').hide D).alive a := z.imp_right (List.mem_cons_of_mem _)
    rcases y.al a z' with q | q
    · rcases hal a q with q | q
      · exact .inr (by rw [q]; exact hD)
      · exact x.al a q
    · exact .inr (x.non a q)
  · by_cases q : a = D
    · rw [q]; exact hD
    · rw [upd_ne q] at e; exact x.non a (y.non a e)
  · have nD : a ≠ D := fun z => (w1.hd a ha).1 (by rw [z]; exact hD)
    rw [upd_ne nD, y.hidk a (List.mem_cons_of_mem _ ha), x.hidk a ha]

section
variable {Wx : WX} {G1 : Gm} {H1 : Hp}
/-- the loop of a list comprehension -/
theorem lc_loop {J : It} {src : Src} {g : TG} {gm : GM} {is vs : List Nat} {tt : TT} {c : TM} {te : TE} {m : EM} {ρ : Ev} {σ : L2.St} {Q : VK} (w1 : World K G1 H1) (re : RepE K G1 H1 ρ σ) (wk : Walks K G1 H1 src J) (hg : SemG K g gm is) (hs : ∀ i ∈ is, i ∈ vs)
    (ht : SemT K W0 tt c) (he : SemE K W0 te m) (hlen : src.items.length ≤ 100000) (hD : H1 D = none)
    (fin : ∀ (ys : List W) (st' : Stt) (ls' : List Addr) (H' : Hp) (av : List V), lcW src.ok gm c m (wipeE ρ vs) src.items G1.st = .ok ys st' → Ext G1 H1 (G1.to ls' st') H' → World K ((G1.to ls' st').hide D) H' → H' D = some (.lst av) → RepL K ((G1.to ls' st').hide D) H' ys av → Q (.ref D) H')
    (hok : ∃ ys st', lcW src.ok gm c m (wipeE ρ vs) src.items G1.st = .ok ys st') :
    ∃ W : Nat → Nat → Hp → Prop, (∃ m, W 0 m (upd H1 D (.lst []))) ∧ ∀ i m H, W i m H → (J.stop i H ∧ Q (.ref D) H) ∨ (J.go i H ∧ ∃ Nx : Hp → Prop, (∀ H', Nx H' → ∃ m', m' < m ∧ W (i + 1) m' H') ∧ ∀ x H', J.yld i H x H' → g x (L2.wipe σ vs) H' fun σ2 H2 => L2.wipe σ2 vs = L2.wipe σ vs ∧ tt σ2 H2 fun b H3 =>
      if b = true then te σ2 H3 fun y H4 => ∃ acc, H4 D = some (.lst acc) ∧ acc.length < sizeLine ∧ Nx (upd H4 D (.lst (acc ++ [y]))) else Nx H3) := by
  obtain ⟨ysF, stF, hok⟩ := hok
  let Inv : Nat → Hp → Prop := fun i H => i ≤ src.items.length ∧ ∃ (ls : List Addr) (st : Stt) (aw : List W) (av : List V) (ys : List W), Ext G1 H1 (G1.to ls st) H ∧ World K ((G1.to ls st).hide D) H ∧ H D = some (.lst av) ∧ RepL K ((G1.to ls st).hide D) H aw av ∧ av.length ≤ i ∧ Less G1 H1 ((G1.to ls st).hide D) H ∧
    lcW src.ok gm c m (wipeE ρ vs) (src.items.drop i) st = .ok ys stF ∧ aw ++ ys = ysF
  refine ⟨fun i m H => m = src.items.length - i ∧ Inv i H, ⟨_, rfl, Nat.zero_le _, G1.ls, G1.st, [], [], ysF, ?_, w1.hide hD, upd_same, .nil, Nat.le_refl _, less_hide w1 hD, hok, rfl⟩, ?_⟩
  · exact Ext.new w1 hD
  rintro i mm H ⟨rfl, hle, ls, st, aw, av, ys, x, w, hDv, rl, hl, le, hc, hys⟩
  by_cases hlt : i < src.items.length
  · rw [List.drop_eq_getElem_cons hlt] at hc
    rw [lcW] at hc
    split at hc
    · rename_i hokst
      obtain ⟨wg, _⟩ := wk _ H le w hokst i
      obtain ⟨hgo, hy⟩ := wg _ (List.getElem?_eq_getElem hlt)
      refine .inr ⟨hgo, Inv (i + 1), fun H' hN => ⟨_, ?_, rfl, hN⟩, fun xv H2 hx => ?_⟩
      · omega
      obtain ⟨x2, w2, rx⟩ := hy xv H2 hx
      cases eg : gm st src.items[i] (wipeE ρ vs) with
      | none => rw [eg] at hc; cases hc
      | some ρ1 =>
        rw [eg] at hc
        dsimp only at hc
        have re2 : RepE K ((G1.to ls st).hide D) H2 (wipeE ρ vs) (L2.wipe σ vs) := ((re.less le).less x2.less).wipe vs
        refine hg _ H2 _ _ _ xv ρ1 _ w2 re2 rx eg fun σ2 hl2 hj2 re3 => ⟨?_, ?_⟩
        · rw [wipe_same hl2 hj2 hs, wipe_wipe]
        obtain ⟨b, st3, hb, hc⟩ := Rs.cb_eq hc
        refine ht _ H2 ρ1 σ2 _ w2 re3 ?_
        rw [show ((G1.to ls st).hide D).st = st from rfl, hb]
        intro ls3 H3 b' x3 w3 eb
        subst eb
        have x23 := x2.trans x3
        have hD3 : H3 D = some (.lst av) := (x23.hidk D List.mem_cons_self).trans hDv
        cases b with
        | true =>
          rw [if_pos rfl] at hc ⊢
          obtain ⟨y, st4, hm, hc⟩ := Rs.cb_eq hc
          obtain ⟨ys', st5, hr, hc⟩ := Rs.cb_eq hc
          refine he (((G1.to ls st).hide D).to ls3 st3) H3 ρ1 σ2 _ w3 (re3.mono x3) ?_
          rw [show (((G1.to ls st).hide D).to ls3 st3).st = st3 from rfl, hm]
          intro ls4 H4 yv x4 w4 ry
          have x24 := x23.trans x4
          have hD4 : H4 D = some (.lst av) := (x24.hidk D List.mem_cons_self).trans hDv
          refine ⟨av, hD4, Nat.lt_of_le_of_lt (Nat.le_trans hl (Nat.le_of_lt hlt)) (Nat.lt_of_le_of_lt hlen (by decide)), hlt, ls4, st4, aw ++ [y], av ++ [yv], ys', Ext.under w1 hD x x24, w4.hidupd List.mem_cons_self, upd_same, ?_, ?_, ?_, ?_, ?_⟩
          · exact (RepL.app (rl.mono x24) (.cons ry .nil)).less (less_hidupd List.mem_cons_self)
          · simp; omega
          · have l2 := less_hidupd (G := (G1.to ls4 st4).hide D) (H := H4) (o := .lst (av ++ [yv])) List.mem_cons_self
            exact ⟨fun i a e => x24.ls i a (le.ls i a e), fun a u h => l2.fz a u (Fz.mono x24 (le.fz a u h)), fun a u h => l2.fx a u (Fx.mono x24 (le.fx a u h)), fun a u h => l2.fe a u (Fe.mono x24 (le.fe a u h)), fun a p u h => l2.fd a p u (Fd.mono x24 (le.fd a p u h))⟩
          · cases hc; exact hr
          · cases hc; rw [← hys]; simp
        | false =>
          rw [if_neg Bool.false_ne_true] at hc ⊢
          refine ⟨hlt, ls3, st3, aw, av, ys, ?_, w3, hD3, rl.mono x23, Nat.le_succ_of_le hl, ?_, hc, hys⟩
          · have q := Ext.under (o := .lst av) w1 hD x x23
            have : upd H3 D (.lst av) = H3 := by
              funext b
              by_cases e : b = D
              · subst e; rw [upd_same]; exact hD3.symm
              · rw [upd_ne e]
            rw [this] at q
            exact q
          · exact ⟨fun i a e => x23.ls i a (le.ls i a e), fun a u h => Fz.mono x23 (le.fz a u h), fun a u h => Fx.mono x23 (le.fx a u h), fun a u h => Fe.mono x23 (le.fe a u h), fun a p u h => Fd.mono x23 (le.fd a p u h)⟩
    · cases hc
  · have ei : i = src.items.length := by omega
    subst ei
    rw [List.drop_length, lcW] at hc
    split at hc
    · rename_i hokst
      cases hc
      refine .inl ⟨(wk _ H le w hokst _).2 (Nat.le_refl _), fin ysF _ ls H av hok x w hDv ?_⟩
      rw [← hys, List.append_nil]; exact rl
    · cases hc
end
end
end Sim
end
section
set_option Elab.async false
set_option linter.all false
set_option maxRecDepth 100000
set_option maxHeartbeats 1000000
open PySem PySem.Spec PyProof.Rows L2
namespace Sim
structure CTs (X : Cx) (Wx : WX) (ifs : List Expr) (t : TT) (m : TM) : Prop where
  pe : PTs X ifs t
  sem : SemT X.K Wx t m
section
variable {X : Cx} {Wx : WX} {K : PySem.W.Frag}
theorem cts_nil : CTs X Wx [] tYes tmYes := ⟨pts_nil, fun G H ρ σ Q w r h => PostR.ok w h rfl⟩
theorem cts_one {c : Expr} {t : TT} {m : TM} (h : CT X Wx c t m) : CTs X Wx [c] t m := ⟨pts_one h.pe, h.sem⟩
theorem RepL.unhide {G : Gm} {H : Hp} {D : Addr} {ws : List W} {vs : List V} (h : RepL K (G.hide D) H ws vs) : RepL K G H ws vs := h.less less_unhide
theorem hidden_nal {G : Gm} {H H1 : Hp} {G1 : Gm} {D : Addr} (w1 : World K G1 H1) (hD : H1 D = none) (x : Ext G1 H1 G H) (w : World K (G.hide D) H) : ¬ G.alive D := fun z => by
  have hn : H D ≠ none := (w.hd D List.mem_cons_self).1
  rcases x.al D z with q | q
  · exact w1.nal hD q
  · rcases z with ⟨i, ob, e1, _⟩ | z
    · exact (w.hd D List.mem_cons_self).2 (List.mem_of_getElem? e1)
    · rw [x.hid] at z
      exact (w1.hd D z).1 hD
theorem sem_lc {wi : TI} {g : TG} {gm : GM} {is vs : List Nat} {tt : TT} {c : TM} {te : TE} {m : EM} {im : IM} (hi : SemI K Wx wi im) (hg : SemG K g gm is) (hs : ∀ i ∈ is, i ∈ vs) (ht : SemT K W0 tt c) (he : SemE K W0 te m) :
    SemE K Wx (tLc wi g tt te vs) (eLc im gm c m vs) := fun G H ρ σ Q w r h => by
  refine hi G H ρ σ _ w r (PostR.bind h fun src st1 ls1 H1 J _ e1 w1 wk h1 => ?_)
  intro D hD
  split at h1
  · rename_i hlen
    cases hr : lcW src.ok gm c m (wipeE ρ vs) src.items st1 with
    | ok ys st2 =>
      rw [hr] at h1
      refine lc_loop w1 (r.mono e1) wk hg hs ht he hlen hD (fun ys' st' ls' H' av hq x w' hDv rl => ?_) ⟨ys, st2, hr⟩
      rw [show (G.to ls1 st1).st = st1 from rfl, hr] at hq
      cases hq
      exact h1 ls' H' (.ref D) x w'.unhide (.lst ⟨hDv, hidden_nal w1 hD x w'⟩ rl.unhide)
    | er x st2 => rw [hr] at h1; exact h1.elim
    | no => rw [hr] at h1; exact h1.elim
  · exact h1.elim
abbrev Blk (X : Cx) (scope : Scope) (P : Cx → Prop) : Prop := ∀ (s : Shared) (H : Hp) (C : Addr) (cl : List (Str × Addr)) (fp : List Addr), P (X.blk s H scope (compEnvC scope cl C X.env) fp)
theorem ce_lc {elt tg iter : Expr} {ifs : List Expr} {scope : Scope} {own : List (Str × Nat)} {pos : Pos} {wi : TI} {g : TG} {tt : TT} {te : TE} {im : IM} {gm : GM} {is : List Nat} {c : TM} {m : EM} (hc : X.calm = true) (hN : X.N.Nodup) (hi : CI X Wx tg iter wi im) (ok : BlkOk X.N X.env.scope scope own)
    (hg : Blk X scope fun Y => CG Y tg g gm is) (ht : Blk X scope fun Y => CTs Y W0 ifs tt c) (he : Blk X scope fun Y => CE Y W0 elt te m) (hsub : ∀ i ∈ is, i ∈ own.map (·.2) := by decide) (hs : ∀ x, foldedSetIterable iter X.env x = pure x := by intro _; rfl) :
    CE X Wx (.ListComp elt [⟨tg, iter, ifs, 0⟩] scope pos) (tLc wi g tt te (own.map (·.2))) (eLc im gm c m (own.map (·.2))) :=
  ⟨pe_lc hc hN hi.pe ok (fun s H C cl fp => (hg s H C cl fp).pe) (fun s H C cl fp => (ht s H C cl fp).pe) (fun s H C cl fp => (he s H C cl fp).pe) hs, sem_lc hi.sem (hg {} (fun _ => none) 0 [] []).sem hsub (ht {} (fun _ => none) 0 [] []).sem (he {} (fun _ => none) 0 [] []).sem⟩
/-! defs -/
def spF (K : PySem.W.Frag) (n : Nat) (m : FM) : Sp := fun vs H Q E => vs.length = n ∧ ∃ (G : Gm) (ws : List W), World K G H ∧ RepL K G H ws vs ∧ PostR K (RepV K) E G H (m ws G.st) Q
def eCall (m : FM) (as : AM) : EM := fun ρ st => (as ρ st).bind fun ws st1 => m ws st1
theorem sem_call {m : FM} {n : Nat} {ta : TA} {as : AM} {dvs : List V} {dws : List W} (ha : SemA K Wx ta as) (hd : ∀ G H, RepL K G H dws dvs) (hn : ∀ ρ st ws st', as ρ st = .ok ws st' → ws.length + dws.length = n) : SemE K Wx (tCallSD (spF K n m) dvs (WE Wx) ta) (eCall (fun ws => m (ws ++ dws)) as) := fun G H ρ σ Q w r h => by
  refine ha G H ρ σ _ w r (PostR.bind h fun ws st1 ls1 H1 vs he e1 w1 rv h1 => ?_)
  refine ⟨?_, G.to ls1 st1, ws ++ dws, w1, RepL.app rv (hd _ _), h1⟩
  rw [List.length_append, ← rv.length, ← (hd G H).length]
  exact hn _ _ _ _ he
/-- how many arguments -/
def ALen (as : AM) (n : Nat) : Prop := ∀ ρ st ws st', as ρ st = .ok ws st' → ws.length = n
theorem alen_nil : ALen aNil 0 := fun ρ st ws st' h => by cases h; rfl
theorem alen_cons {m : EM} {r : AM} {n : Nat} (h : ALen r n) : ALen (aCons m r) (n + 1) := fun ρ st ws st' e => by
  unfold aCons at e
  cases e1 : m ρ st with
  | ok w st1 =>
    rw [e1] at e
    dsimp only [Rs.bind] at e
    cases e2 : r ρ st1 with
    | ok us st2 =>
      rw [e2] at e
      cases e
      simp [h _ _ _ _ e2]
    | er x s => rw [e2] at e; cases e
    | no => rw [e2] at e; cases e
  | er x s => rw [e1] at e; cases e
  | no => rw [e1] at e; cases e
/-- f(e, ..), all arguments written by place -/
theorem ce_call {k : Nat} {f : Addr} {fd : FuncData} {ps : List Str} {m : FM} {x : Str} {p pos : Pos} {e : Expr} {es : List Expr} {t : TA} {as : AM} {n : Nat} (F : FnOk X.prog X.w X.K X.mg X.base (L2N.CX X.prog X.w) k f fd ps (spF X.K n m)) (hr : Room k X.A) (tk : L2N.Takes X Wx) (hg : Gl X x) (hm : X.mg x = some (.ref f)) (hk : PySem.W.keepIn X.K (.ref f) = true) (hb : Binds X.K fd ps [])
    (ha : CA X Wx (e :: es) t as) (hl : ALen as n) (hdb : (x == ("__debug__" : Str)) = false := by decide) (he : starEach (e :: es) X.env = (false, eval e X.env) :: starEach es X.env := by rfl) (hpl : (backTo pos (starEach es X.env)).any (·.1) = false := by rfl) :
    CE X Wx (.Call (.Name x p) (e :: es) [] pos) (tCallSD (spF X.K n m) [] (WE Wx) t) (eCall m as) := by
  refine ⟨pe_callSD F hr hg hm hk hb .nil (L2N.passAt tk) ha.pe hdb he hpl, ?_⟩
  have := sem_call (m := m) (n := n) (dvs := []) (dws := []) ha.sem (fun _ _ => .nil) (fun ρ st ws st' e => by simpa using hl ρ st ws st' e)
  simpa only [List.append_nil] using this

def entry (n : Nat) (ws : List W) : Ev := ws.map some ++ List.replicate (n - ws.length) none
def mFun (n : Nat) (b : SM) : FM := fun ws st => match b (entry n ws) st with
  | .nx _ st' => .ok .non st'
  | .rt w st' => .ok w st'
  | .er x _ st' => .er x st'
  | _ => .no
theorem RepL.ev {G : Gm} {H : Hp} {ws : List W} {vs : List V} (h : RepL K G H ws vs) {N : List Str} : RepE K G H (entry N.length ws) (L2.start N vs) := by
  refine ⟨by unfold entry L2.start; simp [h.length], fun i w e => ?_⟩
  unfold entry at e
  have hi : i < ws.length := by
    by_cases hi : i < ws.length
    · exact hi
    · rw [List.getElem?_append_right (by simpa using hi), List.getElem?_replicate] at e
      split at e <;> cases e
  rw [List.getElem?_append_left (by simpa using hi), List.getElem?_map] at e
  cases e2 : ws[i]? with
  | none => rw [e2] at e; cases e
  | some u =>
    rw [e2] at e
    cases e
    obtain ⟨v, ev, rv⟩ := h.get e2
    refine ⟨v, ?_, rv⟩
    unfold L2.start
    rw [List.getElem?_append_left (by simpa using (List.getElem?_eq_some_iff.mp ev).1), List.getElem?_map, ev]
    rfl
theorem okXN {P : Program} {w : PySem.World} {K : PySem.W.Frag} {mg : Str → Option Value} {base : Heap} {x qual : Str} {st : Stmt} {f : Addr} {fd : FuncData} {N ps : List Str} {k : Nat} {sp : Sp} (F : Fun K x qual st f fd) (S : FnScope N ps (defScope st)) (len : ∀ vs H Q E, sp vs H Q E → vs.length = ps.length)
    (hbody : ∀ (cdv : Value) (A : Around) (outer : List Env) (s : Shared) (H : Hp) (vs : List V) (Q : VK) (E : XK), Room k (A.deeper (envOfC qual (defScope st) s.heap.objs.size f cdv)) → sp vs H Q E →
      ∃ t, PSs (cxOf (L2N.CX P w) P w K mg base N qual (defScope st) f cdv A outer s H E) (defBody st) t ∧ t { nx := fun _ H' => Q .non H', rt := Q } (L2.start N vs) H) : FnOk P w K mg base (L2N.CX P w) (k + 1) f fd ps sp := by
  obtain ⟨oc, od, kV, doc, pm, an, cdv, ct, osl, rfl, lk, hcd⟩ := F.ex
  exact fn_of lk hcd S len fun A outer s H vs Q E hr hsp => hbody cdv A outer s H vs Q E hr hsp
theorem takes0N {X : Cx} : L2N.Takes X (fun _ _ _ _ => False) := fun _ _ x => by
  obtain ⟨_, _, _, _, _, _, _, _, _, _, _, _, _, _, _, _, h⟩ := x
  exact h.elim
theorem fn_ok {P : Program} {w : PySem.World} {mg : Str → Option Value} {base : Heap} {x qual : Str} {st : Stmt} {f : Addr} {fd : FuncData} {N ps : List Str} {k n : Nat} {b : SM} (F : Fun K x qual st f fd) (S : FnScope N ps (defScope st)) (hn : ps.length = n)
    (hbody : ∀ (cdv : Value) (A : Around) (outer : List Env) (s : Shared) (H : Hp) (E : XK), Room k (A.deeper (envOfC qual (defScope st) s.heap.objs.size f cdv)) →
      ∃ t, CSs (cxOf (L2N.CX P w) P w K mg base N qual (defScope st) f cdv A outer s H E) (fun c d _ H => E c d H) (defBody st) t b) : FnOk P w K mg base (L2N.CX P w) (k + 1) f fd ps (spF K n (mFun N.length b)) := by
  refine okXN F S (fun vs H Q E h => h.1.trans hn.symm) fun cdv A outer s H vs Q E hr h => ?_
  obtain ⟨t, ht⟩ := hbody cdv A outer s H E hr
  obtain ⟨hl, G, ws, wo, rl, hp⟩ := h
  refine ⟨t, ht.pe, ht.sem G H _ _ _ wo rl.ev ?_⟩
  unfold mFun at hp
  cases e : b (entry N.length ws) G.st with
  | nx ρ st' => rw [e] at hp; exact fun ls' σ' H' x w r => hp ls' H' .non x w .non
  | rt u st' => rw [e] at hp; exact fun ls' v H' x w r => hp ls' H' v x w r
  | bk ρ st' => rw [e] at hp; exact hp.elim
  | ct ρ st' => rw [e] at hp; exact hp.elim
  | er y ρ st' => rw [e] at hp; exact fun ls' σ' H' d x w r q => hp ls' H' d x w q
  | no => rw [e] at hp; exact hp.elim
/-- code that is never reached -/
def sNo : SM := fun _ _ => .no
theorem cs_never {s : Stmt} : CS X Wx s tNever sNo := ⟨ps_never, fun G H ρ σ D w r h => h.elim⟩
end
end Sim
end
section
set_option Elab.async false
set_option linter.all false
set_option maxRecDepth 100000
set_option maxHeartbeats 2000000
namespace Low
open PySem PySem.W PyProof.Rows PySem.Spec
section
variable {prog : Program} {w : World} {A : Around} {E : Value → Shared → Prop} {s : Shared}
/-- S grows by the signs of a text -/
theorem ext_str {R : Result → Shared → Prop} {x : Str} {t : Tok} {S : Addr} {res : Value} {c₀ : Nat} (hh : A.handled = none) (hn : x.cps.size ≤ sizeLine) (hS : s.heap.get? S = some { cls := .type "list", data := .seq #[] c₀ })
    (hR : ∀ h' tk acc c', (∀ b o, b ≠ S → s.heap.get? b = some o → h'.get? b = some o) → h'.get? S = some { cls := .type "list", dict := none, data := .seq acc c', slots := #[] } → ItemsOf (SignAt x) acc x.cps.size → R (.ok (.ret res)) { s with heap := h', toks := tk }) :
    wpAny (model prog w) A.in1 (Builtin.List.listExtendWith (.ref S) (.str x t) res)
      (fun fin s' => match fin with
        | .done f => R (.ok f) s'
        | .again c' => c'.quiet = true ∧ codeAny (model prog w) A c' R s') (fun e s' => R (.error e) s') s := by
  unfold Builtin.List.listExtendWith
  refine wpAny_bind (wpAny_typeOf (T := "str") (v := .str x t) rfl ?_)
  have a1 : Builtin.List.listSameRef (.ref S) (.str x t) = false := rfl
  have a2 : (Value.type "str" == Value.type "list") = false := by decide
  have a3 : (Value.type "str" == Value.type "tuple") = false := by decide
  simp only [a1, a2, a3, Bool.or_false, Bool.false_eq_true, if_false]
  refine wpAny_bind (wpAny_pyIter_str fun o St W hst => wpAny_bind (wpAny_holding ?_))
  unfold Builtin.List.listLengthHint
  refine wpAny_bind (wpAny_specialOf (T := "str") (v := .str x t) rfl PySem.F.str_len ?_)
  wp_delta
  refine wpAny_bind (wpAny_isInstance (T := "str") (v := .str x t) (b := true) rfl (by rw [isSubtype_type]; kernel_rfl) ?_)
  show wpAny _ A.in1 (typeOf (Value.str x t) >>= _) _ _ _
  refine wpAny_bind (wpAny_typeOf (T := "str") (v := .str x t) rfl (wpAny_pure ?_))
  rw [if_neg (by decide)]
  have hlt : S < s.heap.objs.size := Heap.lt_size hS
  have hSf : S ∉ [s.heap.objs.size] := fun z => absurd hlt (by rw [List.mem_singleton.mp z]; exact Nat.lt_irrefl _)
  have hS2 := Heap.get?_push_of_some o hS
  refine wpAny_pure ⟨plainId_quiet PySem.F.plain_extend_loop _, codeAny_extend_loopS (W A.in1 hh).toS hn _ hSf _ x.cps.size 0 _ _ _ rfl (Nat.zero_le _) hst hS2 (ItemsOf.nil _) fun s' acc c' hm hS' hacc => ?_⟩
  rw [Moved.eq_with hm]
  refine hR s'.heap s'.toks acc c' (fun b ob hb e => hm.heap b ob (fun z => ?_) (Heap.get?_push_of_some _ e)) hS' hacc
  rcases List.mem_cons.mp z with z | z
  · exact hb z
  · exact absurd (Heap.lt_size e) (by rw [List.mem_singleton.mp z]; exact Nat.lt_irrefl _)
theorem init_str {R : Result → Shared → Prop} {x : Str} {t : Tok} {S : Addr} (hh : A.handled = none) (hn : x.cps.size ≤ sizeLine) (hS : s.heap.get? S = some { cls := .type "list", data := .seq #[] })
    (hR : ∀ h' tk acc c', (∀ b o, b ≠ S → s.heap.get? b = some o → h'.get? b = some o) → h'.get? S = some { cls := .type "list", dict := none, data := .seq acc c', slots := #[] } → ItemsOf (SignAt x) acc x.cps.size → R (.ok (.ret .none)) { s with heap := h', toks := tk }) :
    wpAny (model prog w) A.in1 (Builtin.«list.__init__» ⟨[.ref S, .str x t], []⟩)
      (fun fin s' => match fin with
        | .done f => R (.ok f) s'
        | .again c' => c'.quiet = true ∧ codeAny (model prog w) A c' R s') (fun e s' => R (.error e) s') s := by
  show wpAny _ _ (Builtin.List.listItems (.ref S) >>= fun old => Builtin.List.listUpdate (.ref S) (fun _ => #[]) >>= fun _ => letGo old.toList.reverse >>= fun _ => Builtin.List.listExtendWith (.ref S) (.str x t) .none) _ _ s
  refine wpAny_bind ?_
  unfold Builtin.List.listItems
  refine wpAny_bind (wpAny_seqItems hS rfl (wpAny_pure ?_))
  show wpAny _ _ (updateSeq S (fun _ => #[]) >>= fun _ => letGo (#[] : Array Value).toList.reverse >>= fun _ => Builtin.List.listExtendWith (.ref S) (.str x t) .none) _ _ s
  refine wpAny_bind (wpAny_updateSeq hS rfl (wpAny_bind (wpAny_letGo ?_)))
  have hS2 := Heap.get?_update_self (Obj.mapSeq (fun _ => (#[] : Array Value))) hS rfl
  refine ext_str hh hn hS2 fun h' tk acc c' hk hS' hacc => hR h' tk acc c' (fun b o hb e => hk b o hb ?_) hS' hacc
  exact (Heap.get?_update_other _ _ (Ne.symm hb)).trans e
theorem list_str {x : Str} {t : Tok} {Q : Value → Shared → Prop} (hh : A.handled = none) (hn : x.cps.size ≤ sizeLine)
    (hQ : ∀ h' tk acc c', (∀ b o, s.heap.get? b = some o → h'.get? b = some o) → h'.get? s.heap.objs.size = some { cls := .type "list", dict := none, data := .seq acc c', slots := #[] } → ItemsOf (SignAt x) acc x.cps.size → Q (.ref s.heap.objs.size) { s with heap := h', toks := tk }) :
    wpAny (model prog w) A (call (.type "list") [.str x t]) Q E s := by
  refine callType_codes (Q₁ := fun obj s₁ => obj = .ref s.heap.objs.size ∧ s₁ = { s with heap := s.heap.push { cls := .type "list", data := .seq #[] } }) PySem.F.called_list (PySem.F.typeCall_list_1 _) PySem.F.entry_list_init
    (code_list_new _ ⟨rfl, rfl⟩) fun obj s₁ h₁ => ?_
  obtain ⟨rfl, rfl⟩ := h₁
  have hS : (s.heap.push { cls := .type "list", data := .seq #[] }).get? s.heap.objs.size = some { cls := .type "list", data := .seq #[] } := Heap.get?_push_size _ rfl
  refine ⟨⟨_, hS, rfl⟩, PySem.F.args_list_init_2 _ _, init_str (A := A.in1) hh hn hS fun h' tk acc c' hk hS' hacc => ⟨rfl, ?_⟩⟩
  exact hQ h' tk acc c' (fun b o e => hk b o (Nat.ne_of_lt (Heap.lt_size e)) (Heap.get?_push_of_some _ e)) hS' hacc
end
end Low
end
section
set_option Elab.async false
set_option linter.all false
set_option maxRecDepth 100000
set_option maxHeartbeats 4000000
namespace Low
open PySem PySem.Spec PyProof.Rows
def addS (l : List Str) (x : Str) : List Str := if x ∈ l then l else l ++ [x]
/-- the unlike ones, in the order in which they come -/
def nubS (xs : List Str) : List Str := xs.foldl addS []
theorem mem_addS {l : List Str} {x k : Str} : k ∈ addS l x ↔ k ∈ l ∨ k = x := by
  unfold addS
  split
  · rename_i h
    exact ⟨.inl, fun z => z.elim id fun e => by rw [e]; exact h⟩
  · simp
theorem mem_fold (xs : List Str) : ∀ (l : List Str) (k : Str), k ∈ xs.foldl addS l ↔ k ∈ l ∨ k ∈ xs := by
  induction xs with
  | nil => intro l k; simp
  | cons x r ih => intro l k; rw [List.foldl_cons, ih, mem_addS, List.mem_cons, or_assoc]
theorem mem_nubS {xs : List Str} {k : Str} : k ∈ nubS xs ↔ k ∈ xs := by simp [nubS, mem_fold]
theorem nubS_snoc (xs : List Str) (x : Str) : nubS (xs ++ [x]) = addS (nubS xs) x := by simp [nubS, List.foldl_append]
theorem len_fold (xs : List Str) : ∀ l : List Str, (xs.foldl addS l).length ≤ l.length + xs.length := by
  induction xs with
  | nil => intro l; simp
  | cons x r ih =>
    intro l
    have := ih (addS l x)
    have h2 : (addS l x).length ≤ l.length + 1 := by unfold addS; split <;> simp
    rw [List.foldl_cons, List.length_cons]
    omega
theorem nubS_le (xs : List Str) : (nubS xs).length ≤ xs.length := by simpa [nubS] using len_fold xs []
theorem nub_nodup (xs : List Str) : ∀ l : List Str, (l ++ xs).Nodup → xs.foldl addS l = l ++ xs := by
  induction xs with
  | nil => intro l _; simp
  | cons x r ih =>
    intro l h
    have hx : x ∉ l := fun z => by
      rw [List.nodup_append] at h
      exact h.2.2 x z x List.mem_cons_self rfl
    have e : addS l x = l ++ [x] := by unfold addS; rw [if_neg hx]
    rw [List.foldl_cons, e, ih (l ++ [x]) (by simpa using h)]
    simp
theorem nubS_of_nodup {xs : List Str} (h : xs.Nodup) : nubS xs = xs := by simpa [nubS] using nub_nodup xs [] (by simpa using h)
section
variable {prog : Program} {w : World} {A : Around} {R : Result → Shared → Prop} {I : Addr} {fp wr : List Addr} {G : Array GenState → Array GenState → Prop} {n : Nat} {P : Nat → Value → Prop} {St : Nat → Shared → Prop}
/-- a set takes texts, whatever stands in it -/
theorem loop_strs (W : WalksS prog w A.in1 I fp wr G n P St) (S : Addr) (hSf : S ∉ fp) (xs : List Str) (hsz : xs.length = n) (hn1 : n + 1 < scanBound) (hval : ∀ i v, P i v → ∃ t, v = .str (xs.getD i Str.empty) t) :
    ∀ (k i : Nat) (s : Shared), n - i = k → i ≤ n → St i s → s.heap.SetOf (PySem.strKind prog w) S (fun k' => (xs.take i).any (· == k')) (nubS (xs.take i)).length →
      (∀ s', Moved (S :: wr) G s s' → s'.heap.SetOf (PySem.strKind prog w) S (fun k' => xs.any (· == k')) (nubS xs).length → R (.ok (.ret .none)) s') →
      codeAny (model prog w) A (.builtin "set.update.loop" ⟨[.ref S, .ref I], []⟩) R s := by
  have hSw : S ∉ wr := fun h => hSf (W.sub _ h)
  have hsub : ∀ b ∈ wr, b ∈ S :: wr := fun b hb => List.mem_cons_of_mem _ hb
  intro k
  induction k with
  | zero =>
    intro i s hk hi hst hS hR
    have hin : i = xs.length := by omega
    refine codeAny_builtin PyProof.Rows.F.entry_set_update_loop ?_
    rw [Around.under_plainId PyProof.Rows.F.plain_set_update_loop _]
    show wpAny _ A.in1 (pyNext (.ref I) >>= _) _ _ s
    refine wpAny_bind (W.done s _ _ (by rw [← hsz, ← hin]; exact hst) fun s' hm => wpAny_pure (hR s' (hm.mono hsub) ?_))
    rw [hin, List.take_length] at hS
    obtain ⟨o, es, ep, t, ho, rest⟩ := hS
    exact ⟨o, es, ep, t, hm.heap S _ hSw ho, rest⟩
  | succ k ih =>
    intro i s hk hi hst hS hR
    have hlt : i < n := by omega
    have hlx : i < xs.length := by omega
    refine codeAny_builtin PyProof.Rows.F.entry_set_update_loop ?_
    rw [Around.under_plainId PyProof.Rows.F.plain_set_update_loop _]
    show wpAny _ A.in1 (pyNext (.ref I) >>= _) _ _ s
    refine wpAny_bind (W.item i s _ _ hlt hst fun v s' hP hst' hm => ?_)
    obtain ⟨t, rfl⟩ := hval i v hP
    have hS' : s'.heap.SetOf (PySem.strKind prog w) S (fun k' => (xs.take i).any (· == k')) (nubS (xs.take i)).length := by
      obtain ⟨o, es, ep, tb, ho, rest⟩ := hS
      exact ⟨o, es, ep, tb, hm.heap S _ hSw ho, rest⟩
    show wpAny _ A.in1 (holding [Value.str (xs.getD i Str.empty) t] (setAdd S (.str (xs.getD i Str.empty) t)) >>= _) _ _ s'
    refine wpAny_bind (wpAny_holding ?_)
    unfold setAdd
    refine wpAny_holding (wpAny_bind ((PySem.strKind prog w).pyHash (k := xs.getD i Str.empty) (strKind_is _ _ _ _) ?_))
    have hle := nubS_le (xs.take i)
    rw [List.length_take] at hle
    refine wpAny_setAddHashed_of (knd := PySem.strKind prog w) (s := { s' with toks := s'.toks + 1 }) (strKind_is _ _ _ _) rfl hS' (by omega) fun h' hsb hS2 => ?_
    have ex : xs.getD i Str.empty = xs[i] := by simp [hlx]
    have et : xs.take (i + 1) = xs.take i ++ [xs[i]] := by rw [List.take_add_one, List.getElem?_eq_getElem hlx]; rfl
    have hSi : h'.SetOf (PySem.strKind prog w) S (fun k' => (xs.take (i + 1)).any (· == k')) (nubS (xs.take (i + 1))).length := by
      rw [ex] at hS2
      refine SetOf_congr hS2 (fun k' => ?_) ?_
      · rw [et, List.any_append]
        by_cases e : k' = xs[i]
        · subst e; simp
        · have hb : (xs[i] == k') = false := beq_eq_false_iff_ne.mpr fun z => e z.symm
          simp [hb, e]
      · rw [et, nubS_snoc]
        unfold addS
        by_cases hm : xs[i] ∈ xs.take i
        · rw [if_pos (mem_nubS.mpr hm)]
          have : (xs.take i).any (· == xs[i]) = true := List.any_eq_true.mpr ⟨_, hm, by simp⟩
          simp [this]
        · rw [if_neg (fun z => hm (mem_nubS.mp z))]
          have : (xs.take i).any (· == xs[i]) = false := by
            rw [List.any_eq_false]
            intro y hy
            exact fun z => hm (by rw [← eq_of_beq z]; exact hy)
          simp [this]
    refine wpAny_pure ⟨plainId_quiet PyProof.Rows.F.plain_set_update_loop _, ih (i + 1) _ (by omega) hlt (W.frame _ s' _ _ hst' (Nat.le_succ _) fun b hb o e => ?_) hSi fun s'' hm'' hS'' => ?_⟩
    · rw [hsb.2 b (fun h : b = S => hSf (by rw [← h]; exact hb))]; exact e
    · refine hR s'' (Moved.trans W.gtrans ((hm.mono hsub).then_heap (Nat.le_succ _) fun b o hb e => ?_) hm'') hS''
      rw [hsb.2 b (fun h : b = S => hb (by rw [h]; exact List.mem_cons_self))]; exact e
end
section
variable {prog : Program} {w : World} {A : Around} {E : Value → Shared → Prop} {s : Shared}

theorem set_tuple {l : Addr} {items : Array Value} {xs : List Str} {Q : Value → Shared → Prop} (hh : A.handled = none) (hl : s.heap.IsTuple l items) (hi : StrsAre items.toList xs) (hn1 : xs.length + 1 < scanBound)
    (h : ∀ (h' : Heap) (tk : Nat), h'.SetOf (PySem.strKind prog w) s.heap.objs.size (fun k' => xs.any (· == k')) (nubS xs).length → (∀ b o, b < s.heap.objs.size → s.heap.get? b = some o → h'.get? b = some o) → Q (.ref s.heap.objs.size) { s with heap := h', toks := tk }) :
    wpAny (model prog w) A (call (.type "set") [.ref l]) Q E s := by
  obtain ⟨c, tl, hmro⟩ := PySem.F.called_set.mro
  have hmade := PySem.F.called_set.made
  have hsub := PySem.F.called_set.sub
  refine wpAny_call (codeAny_of_tree ?_)
  show wpAny _ _ (callAny (.type "set") _) _ _ _
  refine wpAny_pure ⟨Code.quiet_builtin _ (by decide +kernel), codeAny_builtin PySem.F.entry_type_call ?_⟩
  rw [Around.under_plain (weight_type_call_type "set" [.ref l] []) rfl]
  have h1 := PySem.F.called_set.notType
  have h2 := PySem.F.called_set.canCreate
  have hct := PySem.F.typeCall_set_1 (.ref l)
  repeat (any_goals (first | assumption | wp_step))
  refine codeAny_mono (code_set_new_1 (.ref l) (E := E) (Q₁ := fun obj s₁ => ∃ led : Bool, obj = .ref s.heap.objs.size ∧ s₁ = { s with heap := s.heap.push { cls := .type "set", dict := none, data := .set #[] 0 (.fresh 0 0 led) } }) fun led => ⟨led, rfl, rfl⟩) fun r s₁ hr => ?_
  cases r with
  | error e => exact hr
  | ok fl =>
    cases fl with
    | ret obj =>
      obtain ⟨led, rfl, rfl⟩ := hr
      let oS : Obj := { cls := .type "set", dict := none, data := .set #[] 0 (.fresh 0 0 led) }
      have hS : (s.heap.push oS).get? s.heap.objs.size = some oS := Heap.get?_push_size _ rfl
      have hT : Shared.TypeIs { s with heap := s.heap.push oS } (.ref s.heap.objs.size) "set" := ⟨_, hS, rfl⟩
      have hli := PySem.F.called_set.init.lookup
      have hbi := PySem.F.called_set.init.bind (.ref s.heap.objs.size)
      repeat (any_goals (first | assumption | wp_step))
      refine codeAny_mono (codeAny_call_builtin (R := wants (fun r s₂ => r = .none ∧ ∃ h' tk, s₂ = { s with heap := h', toks := tk } ∧ h'.SetOf (PySem.strKind prog w) s.heap.objs.size (fun k' => xs.any (· == k')) (nubS xs).length ∧
          (∀ b o, b < s.heap.objs.size → s.heap.get? b = some o → h'.get? b = some o)) E) PySem.F.called_set.init.plain PySem.F.entry_set_init (check_set_init_1 hT ?_)) fun r₂ s₂ hr₂ => ?_
      · obtain ⟨⟨ocls, odict, odata, oslots⟩, hol, hcl, nl, hdl⟩ := hl
        simp only at hcl hdl
        subst hcl hdl
        have hol' : (s.heap.push oS).get? l = some { cls := .type "tuple", dict := odict, data := .seq items nl, slots := oslots } := Heap.get?_push_of_some _ hol
        have hsls := PySem.F.sub_tuple_set
        have hslf := PySem.F.sub_tuple_frozenset
        have hne : (Value.type "tuple" == Value.type "dict") = false := by decide
        have hl1 : (s.heap.push oS).IsTuple l items := ⟨_, hol', rfl, nl, rfl⟩
        unfold Builtin.«set.__init__» noKeywords Builtin.Frozenset.updateFrom
        generalize hPI : pyIter = PI
        wp_walk
        subst hPI
        refine wpAny_pyIter_tuple hl1 (wpAny_bind (wpAny_runValue ?_))
        have hlS : l < s.heap.objs.size := Heap.lt_size hol
        have hh3 : A.in1.in1.in1.handled = none := by simp [hh]
        have hps : (s.heap.push oS).objs.size = s.heap.objs.size + 1 := Heap.size_push _ _
        have hneI : l ≠ (s.heap.push oS).objs.size := by rw [hps]; exact Nat.ne_of_lt (Nat.lt_succ_of_lt hlS)
        have hSf : s.heap.objs.size ∉ [(s.heap.push oS).objs.size, l] := by
          rw [hps]
          simp only [List.mem_cons, List.mem_singleton, List.not_mem_nil, or_false, not_or]
          exact ⟨Nat.ne_of_lt (Nat.lt_succ_self _), Nat.ne_of_gt hlS⟩
        have hsz : xs.length = items.size := by rw [← StrsAre.len_eq hi, Array.length_toList]
        have hval : ∀ (i : Nat) (v : Value), items[i]? = some v → ∃ t, v = .str (xs.getD i Str.empty) t := fun i v hv => SS.strs_at hi i v (by rw [Array.getElem?_toList]; exact hv)
        refine loop_strs ((Walks.tuple hh3 _ l hneI items).toS) s.heap.objs.size hSf xs hsz (by rw [← hsz]; exact hn1) hval (items.size - 0) 0 _ (by omega) (Nat.zero_le _) ⟨⟨_, Heap.get?_push_size _ rfl, rfl, rfl⟩, (hl1.push _)⟩ ?hS0 ?hR
        case hS0 =>
          have hget : ((s.heap.push oS).push { cls := .type "tuple_iterator", data := .fields #[.ref l, .int 0 0] }).get? s.heap.objs.size = some oS := Heap.get?_push_of_some _ hS
          exact PyProof.Rows.SetOf_congr ((PyProof.Rows.setObjOf_fresh (knd := PySem.strKind prog w) led).setOf hget (by unfold scanBound; omega)) (fun _ => rfl) rfl
        case hR =>
          intro s' hm hS'
          obtain ⟨h', g', d', tk', os'⟩ := s'
          have eg : g' = s.gens := hm.gens
          have ed : d' = s.drawn := hm.drawn
          have eo : os' = s.os := hm.os
          subst eg ed eo
          show wpAny _ _ _ _ _ _
          refine wpAny_pure ?_
          show wpAny _ _ (ret Value.none) _ _ _
          refine wpAny_pure ⟨rfl, h', tk', rfl, hS', fun b o hb e => ?_⟩
          have hb1 : b ≠ s.heap.objs.size := Nat.ne_of_lt hb
          have hb2 : b ≠ (s.heap.push oS).objs.size := by rw [hps]; exact Nat.ne_of_lt (Nat.lt_succ_of_lt hb)
          exact hm.heap b o (by simp only [List.mem_cons, List.mem_singleton, List.not_mem_nil, or_false, not_or]; exact ⟨hb1, hb2⟩) (Heap.get?_push_of_some _ (Heap.get?_push_of_some _ e))
      · cases r₂ with
        | error e => exact hr₂
        | ok fl₂ =>
          cases fl₂ with
          | ret r =>
            obtain ⟨rfl, h', tk, rfl, hS', hk'⟩ := hr₂
            repeat (any_goals (first | assumption | wp_step))
            exact h _ _ hS' hk'
          | _ => exact hr₂.elim
    | _ => exact hr.elim

theorem set_list {l : Addr} {items : Array Value} {xs : List Str} {Q : Value → Shared → Prop} (hh : A.handled = none) (hl : s.heap.IsList l items) (hi : StrsAre items.toList xs) (hn1 : xs.length + 1 < scanBound)
    (h : ∀ (h' : Heap) (tk : Nat), h'.SetOf (PySem.strKind prog w) s.heap.objs.size (fun k' => xs.any (· == k')) (nubS xs).length → (∀ b o, b < s.heap.objs.size → s.heap.get? b = some o → h'.get? b = some o) → Q (.ref s.heap.objs.size) { s with heap := h', toks := tk }) :
    wpAny (model prog w) A (call (.type "set") [.ref l]) Q E s := by
  obtain ⟨c, tl, hmro⟩ := PySem.F.called_set.mro
  have hmade := PySem.F.called_set.made
  have hsub := PySem.F.called_set.sub
  refine wpAny_call (codeAny_of_tree ?_)
  show wpAny _ _ (callAny (.type "set") _) _ _ _
  refine wpAny_pure ⟨Code.quiet_builtin _ (by decide +kernel), codeAny_builtin PySem.F.entry_type_call ?_⟩
  rw [Around.under_plain (weight_type_call_type "set" [.ref l] []) rfl]
  have h1 := PySem.F.called_set.notType
  have h2 := PySem.F.called_set.canCreate
  have hct := PySem.F.typeCall_set_1 (.ref l)
  repeat (any_goals (first | assumption | wp_step))
  refine codeAny_mono (code_set_new_1 (.ref l) (E := E) (Q₁ := fun obj s₁ => ∃ led : Bool, obj = .ref s.heap.objs.size ∧ s₁ = { s with heap := s.heap.push { cls := .type "set", dict := none, data := .set #[] 0 (.fresh 0 0 led) } }) fun led => ⟨led, rfl, rfl⟩) fun r s₁ hr => ?_
  cases r with
  | error e => exact hr
  | ok fl =>
    cases fl with
    | ret obj =>
      obtain ⟨led, rfl, rfl⟩ := hr
      let oS : Obj := { cls := .type "set", dict := none, data := .set #[] 0 (.fresh 0 0 led) }
      have hS : (s.heap.push oS).get? s.heap.objs.size = some oS := Heap.get?_push_size _ rfl
      have hT : Shared.TypeIs { s with heap := s.heap.push oS } (.ref s.heap.objs.size) "set" := ⟨_, hS, rfl⟩
      have hli := PySem.F.called_set.init.lookup
      have hbi := PySem.F.called_set.init.bind (.ref s.heap.objs.size)
      repeat (any_goals (first | assumption | wp_step))
      refine codeAny_mono (codeAny_call_builtin (R := wants (fun r s₂ => r = .none ∧ ∃ h' tk, s₂ = { s with heap := h', toks := tk } ∧ h'.SetOf (PySem.strKind prog w) s.heap.objs.size (fun k' => xs.any (· == k')) (nubS xs).length ∧
          (∀ b o, b < s.heap.objs.size → s.heap.get? b = some o → h'.get? b = some o)) E) PySem.F.called_set.init.plain PySem.F.entry_set_init (check_set_init_1 hT ?_)) fun r₂ s₂ hr₂ => ?_
      · obtain ⟨⟨ocls, odict, odata, oslots⟩, hol, hcl, nl, hdl⟩ := hl
        simp only at hcl hdl
        subst hcl hdl
        have hol' : (s.heap.push oS).get? l = some { cls := .type "list", dict := odict, data := .seq items nl, slots := oslots } := Heap.get?_push_of_some _ hol
        have hsls := PySem.F.sub_list_set
        have hslf := PySem.F.sub_list_frozenset
        have hne : (Value.type "list" == Value.type "dict") = false := by decide
        have hl1 : (s.heap.push oS).IsList l items := ⟨_, hol', rfl, nl, rfl⟩
        unfold Builtin.«set.__init__» noKeywords Builtin.Frozenset.updateFrom
        generalize hPI : pyIter = PI
        wp_walk
        subst hPI
        refine wpAny_pyIter_list hl1 (wpAny_bind (wpAny_runValue ?_))
        have hlS : l < s.heap.objs.size := Heap.lt_size hol
        have hh3 : A.in1.in1.in1.handled = none := by simp [hh]
        have hps : (s.heap.push oS).objs.size = s.heap.objs.size + 1 := Heap.size_push _ _
        have hneI : l ≠ (s.heap.push oS).objs.size := by rw [hps]; exact Nat.ne_of_lt (Nat.lt_succ_of_lt hlS)
        have hSf : s.heap.objs.size ∉ [(s.heap.push oS).objs.size, l] := by
          rw [hps]
          simp only [List.mem_cons, List.mem_singleton, List.not_mem_nil, or_false, not_or]
          exact ⟨Nat.ne_of_lt (Nat.lt_succ_self _), Nat.ne_of_gt hlS⟩
        have hsz : xs.length = items.size := by rw [← StrsAre.len_eq hi, Array.length_toList]
        have hval : ∀ (i : Nat) (v : Value), items[i]? = some v → ∃ t, v = .str (xs.getD i Str.empty) t := fun i v hv => SS.strs_at hi i v (by rw [Array.getElem?_toList]; exact hv)
        refine loop_strs ((Walks.list hh3 _ l hneI items).toS) s.heap.objs.size hSf xs hsz (by rw [← hsz]; exact hn1) hval (items.size - 0) 0 _ (by omega) (Nat.zero_le _) ⟨⟨_, Heap.get?_push_size _ rfl, rfl, rfl⟩, (hl1.push _)⟩ ?hS0 ?hR
        case hS0 =>
          have hget : ((s.heap.push oS).push { cls := .type "list_iterator", data := .fields #[.ref l, .int 0 0] }).get? s.heap.objs.size = some oS := Heap.get?_push_of_some _ hS
          exact PyProof.Rows.SetOf_congr ((PyProof.Rows.setObjOf_fresh (knd := PySem.strKind prog w) led).setOf hget (by unfold scanBound; omega)) (fun _ => rfl) rfl
        case hR =>
          intro s' hm hS'
          obtain ⟨h', g', d', tk', os'⟩ := s'
          have eg : g' = s.gens := hm.gens
          have ed : d' = s.drawn := hm.drawn
          have eo : os' = s.os := hm.os
          subst eg ed eo
          show wpAny _ _ _ _ _ _
          refine wpAny_pure ?_
          show wpAny _ _ (ret Value.none) _ _ _
          refine wpAny_pure ⟨rfl, h', tk', rfl, hS', fun b o hb e => ?_⟩
          have hb1 : b ≠ s.heap.objs.size := Nat.ne_of_lt hb
          have hb2 : b ≠ (s.heap.push oS).objs.size := by rw [hps]; exact Nat.ne_of_lt (Nat.lt_succ_of_lt hb)
          exact hm.heap b o (by simp only [List.mem_cons, List.mem_singleton, List.not_mem_nil, or_false, not_or]; exact ⟨hb1, hb2⟩) (Heap.get?_push_of_some _ (Heap.get?_push_of_some _ e))
      · cases r₂ with
        | error e => exact hr₂
        | ok fl₂ =>
          cases fl₂ with
          | ret r =>
            obtain ⟨rfl, h', tk, rfl, hS', hk'⟩ := hr₂
            repeat (any_goals (first | assumption | wp_step))
            exact h _ _ hS' hk'
          | _ => exact hr₂.elim
    | _ => exact hr.elim
end
end Low
end
section
set_option Elab.async false
set_option linter.all false
set_option maxRecDepth 100000
set_option maxHeartbeats 2000000
namespace Low
open PySem PySem.Spec PyProof.Rows L2
section
variable {X : Cx}
/-- a power -/
def CPw (i j : Int) : Prop := 0 ≤ j ∧ (Builtin.Int.intBits i : Int) * j ≤ 2 ^ 27
theorem op_powW : OpR X (binaryOp .Pow) (rI CPw fun i j => .int (i ^ j.toNat)) := opI fun _ _ _ _ _ _ _ hc q => pow_int hc.1 hc.2 q
/-- list(text) -/
def rListStr : List V → Hp → VK → Prop := fun xs H Q => ∃ z : Str, xs = [.str z] ∧ z.length ≤ sizeLine ∧ ∀ l, H l = none → Q (.ref l) (upd H l (.lst (z.cps.toList.map fun c => .str ⟨#[c]⟩)))
theorem signs_vals {z : Str} {acc : Array Value} (h : ItemsOf (SignAt z) acc z.cps.size) : Vals (z.cps.toList.map fun c => V.str ⟨#[c]⟩) acc.toList := by
  have key : ∀ (cs : List Nat) (us : List Value), us.length = cs.length → (∀ (j : Nat) (v : Value), us[j]? = some v → ∃ c u, cs[j]? = some c ∧ v = Value.str ⟨#[c]⟩ u) → Vals (cs.map fun c => V.str ⟨#[c]⟩) us := by
    intro cs
    induction cs with
    | nil => intro us hl _; cases us with
      | nil => exact .nil
      | cons _ _ => simp at hl
    | cons c r ih => intro us hl hv; cases us with
      | nil => simp at hl
      | cons u us =>
        obtain ⟨d, t, e1, e2⟩ := hv 0 u rfl
        cases e1
        exact .cons ⟨t, e2⟩ (ih us (by simpa using hl) fun j v e => by simpa using hv (j + 1) v (by simpa using e))
  refine key _ _ (by simp [h.1]) fun j v e => ?_
  obtain ⟨c, u, e1, e2⟩ := h.2 j v (by rw [← Array.getElem?_toList]; exact e)
  exact ⟨c, u, by rw [Array.getElem?_toList]; exact e1, e2⟩
theorem call_list_txt (hc : X.calm = true) : CallR X (.type "list") rListStr := by
  intro pins s σ H xs us Q I r h
  obtain ⟨z, rfl, hz, q⟩ := h
  obtain ⟨u, rfl, t, rfl⟩ := vals1 r
  refine list_str (I.ok.hd hc) hz fun h' tk acc c' kp e hi => ?_
  have hv := signs_vals hi
  exact ⟨.ref s.heap.objs.size, _, I.laid (t' := tk) kp (Nat.le_refl _) (show ObjOk X.prog X.w _ h' _ (.lst _) from ⟨by rw [List.length_map, Array.length_toList]; exact hz, acc.toList, c', hv, by simpa using e⟩), rfl, q _ (I.hok.fresh (Nat.le_refl _))⟩
/-- sorted(t), t a tuple of texts -/
def rSortedT (K : PySem.W.Frag) : List V → Hp → VK → Prop := fun vs H Q => ∃ (a : Addr) (xs : List Str), vs = [V.ref a] ∧ SqT K H a (xs.map V.str) ∧ xs.length < 64 ∧
  ∀ (ys : List Str) (p : Addr), ys.Perm xs → sortedS ys = true → H p = none → Q (.ref p) (upd H p (.lst (ys.map V.str)))
theorem cr_sortedT : CallR X (.builtin "sorted") (rSortedT X.K) := by
  intro pins s σ H vs us Q I r h
  obtain ⟨a, xs, rfl, hs, h64, q⟩ := h
  obtain ⟨its, rv, ⟨ot, hot, hct, nt, hdt⟩, hz⟩ := I.tuple hs
  rw [Vals.ref1 r]
  have hS := rv.strs
  have hl : its.length = xs.length := by
    have z := rv.length
    rw [List.length_map] at z
    exact z.symm
  refine Calls.call_function_entry kind_sorted plain_sorted entry_sorted (args_sorted1 _) ?_
  unfold Builtin.«sorted»
  refine wpAny_bind (m := checkCount "sorted" 1 1 _) (wpAny_pure ?_)
  refine wpAny_bind (wpAny_collect_seq a (.inr rfl) hot hct hdt (fun h' kp => ?_) (by rw [List.size_toArray, hl, sizeLine_eq]; omega))
  have I1 : L2.Inv X pins σ H { s with heap := h' } := I.kept (t' := s.toks) kp
  refine wpAny_bind (wpAny_newList ?_ (by simp only [hl, sizeLine_eq]; omega))
  have hoL : (h'.push (seqObj "list" its.toArray 0)).get? h'.objs.size = some (seqObj "list" its.toArray 0) := Heap.get?_push_size _ rfl
  show wpAny _ _ _ _ _ { s with heap := h'.push (seqObj "list" its.toArray 0) }
  refine wpAny_bind (wpAny_holding (wpAny_call_entry slot_list_sort ⟨_, hoL, rfl⟩ entry_list_sort
    (list_sort_treeK strKind_oneLt (s := { s with heap := h'.push (seqObj "list" its.toArray 0) }) hoL hS.keysOf (fun v₁ v₂ rest e => keyKind_strs (by rw [← e]; exact hS)) (by rw [hl]; exact h64) fun st' hp hs => ⟨_, rfl, ?_⟩) (args_list_sort _)))
  obtain ⟨ys, g1, g2, g3⟩ := sorted_out_str hS hp hs
  obtain ⟨e', he'⟩ := sortedHeap_at (vs := its) (out := (arrOf st').map (·.2)) hoL
  have hlen : (ys.map V.str).length ≤ sizeLine := by
    rw [List.length_map, g2.length_eq, sizeLine_eq]
    omega
  refine wpAny_pure ⟨_, rfl, .ref h'.objs.size, upd H h'.objs.size (.lst (ys.map V.str)), I1.laid (t' := s.toks) (fun b u e => ?_) (Nat.le_refl _)
    (show ObjOk X.prog X.w _ _ _ (.lst (ys.map V.str)) from ⟨hlen, ((arrOf st').map (·.2)).toList, e', vals_of_strs g1, by rw [Array.toArray_toList]; exact he'⟩), rfl, q ys _ g2 g3 (I1.hok.fresh (Nat.le_refl _))⟩
  have hb : b < h'.objs.size := Heap.lt_size e
  rw [sortedHeap_old (Nat.ne_of_lt hb) (by rw [size_push']; exact Nat.lt_succ_of_lt hb)]
  exact Heap.get?_push_of_some _ e
/-- len(set(xs)), xs a list or tuple of texts -/
def tLenSet (K : PySem.W.Frag) (ta : TE) : TE := fun σ H Q => ta σ H fun x H1 => ∃ (l : Addr) (xs : List Str), x = .ref l ∧ (SqL K H1 l (xs.map V.str) ∨ SqT K H1 l (xs.map V.str)) ∧ xs.length ≤ 1000 ∧ Q (.int ((nubS xs).length : Int)) H1
theorem pe_lenSet {a : Expr} {ta : TE} {p p2 q pos : Pos} (hc : X.calm = true) (hg : Gl X "len") (hm : X.mg "len" = none) (hg2 : Gl X "set") (hm2 : X.mg "set" = none) (ha : PE X a ta)
    (na : starEach [a] X.env = (false, eval a X.env) :: starEach [] X.env := by rfl) : PE X (.Call (.Name "len" p) [.Call (.Name "set" p2) [a] [] q] [] pos) (tLenSet X.K ta) := by
  refine ⟨fun pins s σ H Q I h => ?_⟩
  refine Call_ (ld_blt I hg hm boot_len (PyProof.Rows.callWith_builtin1 (PyProof.Rows.args_cons ?_ rfl) rfl rfl))
  refine Call_ (ld_blt I hg2 hm2 boot_set (PyProof.Rows.callWith_type1 (PyProof.Rows.args_cons (thn (ha.run pins s σ H _ I h) fun v s1 ⟨x, H1, I1, r1, q1⟩ => PyProof.Rows.args_nil ?_) na) na rfl))
  obtain ⟨l, xs, rfl, hq, h1, q1⟩ := q1
  cases r1
  have hnb := nubS_le xs
  have hsb : xs.length + 1 < scanBound := by unfold scanBound; omega
  have fin : ∀ (h' : Heap) (tk : Nat), h'.SetOf (PySem.strKind X.prog X.w) s1.heap.objs.size (fun k' => xs.any (· == k')) (nubS xs).length → (∀ b o, b < s1.heap.objs.size → s1.heap.get? b = some o → h'.get? b = some o) →
      wpAny (model X.prog X.w) X.A (spliced (backTo pos (starEach [] X.env))) (fun vs s₂ => wpAny (model X.prog X.w) X.A (call (.builtin "len") (Value.ref s1.heap.objs.size :: vs)) (EP X pins σ Q) X.xe s₂) X.xe { s1 with heap := h', toks := tk } := fun h' tk hS hk => by
    refine PyProof.Rows.args_nil ?_
    obtain ⟨o, es, ep, t, ho, hex, hd, _, _, _, hf, hn⟩ := hS
    have I2 : L2.Inv X pins σ H1 { s1 with heap := h', toks := tk } := I1.kept fun b o e => hk b o (Heap.lt_size e) e
    refine call_len_set ho hex hd hf (by rw [hn]; omega) ⟨.int ((nubS xs).length : Int), H1, I2.tok _, ⟨_, by rw [hn]⟩, q1⟩
  rcases hq with hq | hq
  · obtain ⟨its, r, pl, hz⟩ := I1.list hq
    exact set_list (I1.ok.hd hc) pl.isList (by simpa using L2.strsAre_of r) hsb fun h' tk hS hk => fin h' tk hS hk
  · obtain ⟨its, r, pl, hz⟩ := I1.tuple hq
    exact set_tuple (I1.ok.hd hc) pl (by simpa using L2.strsAre_of r) hsb fun h' tk hS hk => fin h' tk hS hk
/-- a tuple that is known to have no dict of its own -/
def TupN (K : PySem.W.Frag) (H : Hp) (a : Addr) (xs : List V) : Prop := (∃ o : Obj, o.dict = none ∧ H a = some (.frz o (.tup xs))) ∨
  ∃ (o : Obj) (its : Array Value) (n : Nat), K.lookup a = some o ∧ o.cls = .type "tuple" ∧ o.dict = none ∧ o.data = .seq its n ∧ its.size ≤ sizeLine ∧ Vals xs its.toList
/-- xs.index(y), texts -/
def rIdx (K : PySem.W.Frag) : V → List V → Hp → VK → Prop := fun x vs H Q => ∃ (p : Addr) (ys : List Str) (z : Str), x = .ref p ∧ vs = [.str z] ∧ SqT K H p (ys.map V.str) ∧ z ∈ ys ∧ Q (.int (ys.idxOf z : Nat)) H
def tIdxT (K : PySem.W.Frag) (to : TE) (t : TA) : TE := fun σ H Q => to σ H fun x H1 => (∃ a xs, x = .ref a ∧ TupN K H1 a xs) ∧ t σ H1 fun vs H2 => rIdx K x vs H2 Q
theorem pe_idxT {o e : Expr} {es : List Expr} {to : TE} {t : TA} {apos cpos : Pos} (ho : PE X o to) (ha : PA X (e :: es) t)
    (hbase : attributeBase o "index" X.env (eval o X.env) = eval o X.env := by rfl)
    (hfew : ((backTo cpos (starEach (e :: es) X.env)).all (fun x => !x.1) && (backToKw cpos (keywordEach [] X.env)).all (fun x => x.1.isSome) && decide ((e :: es).length + ([] : List Keyword).length + (if ([] : List Keyword).isEmpty then 0 else 1) < 30)) = true := by rfl)
    (hline : (apos.endLine == cpos.line) = true := by rfl) (hs : starEach (e :: es) X.env = (false, eval e X.env) :: starEach es X.env := by rfl) (hplain : (backTo cpos (starEach es X.env)).any (·.1) = false := by rfl) :
    PE X (.Call (.Attribute o "index" apos) (e :: es) [] cpos) (tIdxT X.K to t) := by
  refine ⟨fun pins s σ H Q I h => ?_⟩
  refine wpAny_Call_method_late hbase hfew hline rfl (thn (ho.run pins s σ H _ I h) fun v s1 ⟨x, H1, I1, r1, ty, q1⟩ => ?_)
  obtain ⟨a, xs, rfl, ty⟩ := ty
  cases r1
  have h1 : s1.TypeIs (.ref a) "tuple" ∧ ∃ ob, s1.heap.get? a = some ob ∧ ob.dict = none := by
    rcases ty with ⟨ob, hd, e⟩ | ⟨ob, its, n, hk, hc, hd, _⟩
    · obtain ⟨e1, _, its, _, o2, e2, hc, _⟩ := (show ObjOk X.prog X.w H1 s1.heap a (.frz ob (.tup xs)) from I1.hok a _ e)
      rw [e1] at e2
      cases e2
      exact ⟨⟨_, e1, hc⟩, _, e1, hd⟩
    · have e1 := I1.kIn a ob hk
      exact ⟨⟨_, e1, hc⟩, _, e1, hd⟩
  refine ⟨"tuple", _, PySem.F.plainAttrs_tuple, PySem.F.slot_tuple_index, PySem.F.type_tuple_index, h1.1, fun b eb => by cases eb; exact h1.2, ?_⟩
  have hA := ha.run cpos pins s1 σ H1 _ I1 q1
  rw [hs] at hA ⊢
  refine Calls.callWith_builtin (by show (false || (backTo cpos (starEach es X.env)).any (·.1)) = false; rw [hplain]; rfl) (Calls.evalArgs_plain ?_)
  refine thn hA fun us s2 ⟨vs, H2, I2, r2, q2⟩ => ?_
  obtain ⟨p, ys, z, e1, rfl, hq, hz, q⟩ := q2
  cases e1
  obtain ⟨u, rfl, t, rfl⟩ := vals1 r2
  obtain ⟨its, rv, tp, _⟩ := I2.tuple hq
  exact SeqAt.tuple_index_strs tp rv.strs hz ⟨.int (ys.idxOf z : Nat), H2, I2.tok _, ⟨_, rfl⟩, q⟩
end
end Low
end
section
set_option Elab.async false
set_option linter.all false
set_option maxRecDepth 100000
set_option maxHeartbeats 1000000
open PySem PySem.Spec PyProof.Rows L2
namespace Sim

abbrev F1 := Stt → List W → Option W
def FnS (K : PySem.W.Frag) (r : List V → Hp → VK → Prop) (f : F1) : Prop := ∀ (G : Gm) (H : Hp) (ws : List W) (vs : List V) (w : W) (Q : VK), World K G H → RepL K G H ws vs → f G.st ws = some w → PostV K G H w Q → r vs H Q
def eFn (f : F1) (as : AM) : EM := fun ρ st => (as ρ st).bind fun ws st1 => match f st1 ws with
  | some w => .ok w st1
  | none => .no
/-- what gives a new list: its items -/
abbrev FL := Stt → List W → Option (List W)
def FnN (K : PySem.W.Frag) (r : List V → Hp → VK → Prop) (f : FL) : Prop := ∀ (G : Gm) (H : Hp) (ws : List W) (vs : List V) (us : List W) (Q : VK), World K G H → RepL K G H ws vs → f G.st ws = some us →
  (∀ (p : Addr) (zs : List V), H p = none → RepL K G H us zs → Q (.ref p) (upd H p (.lst zs))) → r vs H Q
def eFnV (f : FL) (as : AM) : EM := fun ρ st => (as ρ st).bind fun ws st1 => match f st1 ws with
  | some us => .ok (.lst us) st1
  | none => .no
def eFnO (f : FL) (as : AM) : EM := fun ρ st => (as ρ st).bind fun ws st1 => match f st1 ws with
  | some us => .ok (.loc st1.length) (st1 ++ [some (.lst us)])
  | none => .no
section
variable {X : Cx} {Wx : WX} {K : PySem.W.Frag} {G : Gm} {H : Hp}
theorem sem_fn {ta : TA} {as : AM} {r : List V → Hp → VK → Prop} {f : F1} (ha : SemA K Wx ta as) (hf : FnS K r f) : SemE K Wx (tCB r ta) (eFn f as) := fun G H ρ σ Q w rr h => by
  refine ha G H ρ σ _ w rr (PostR.bind h fun ws st1 ls1 H1 vs he e1 w1 rv h1 => ?_)
  cases e : f st1 ws with
  | none => rw [e] at h1; exact h1.elim
  | some z => rw [e] at h1; exact hf (G.to ls1 st1) H1 ws vs z Q w1 rv e (PostV.of h1)
theorem sem_fnV {ta : TA} {as : AM} {r : List V → Hp → VK → Prop} {f : FL} (ha : SemA K Wx ta as) (hf : FnN K r f) : SemE K Wx (tCB r ta) (eFnV f as) := fun G H ρ σ Q w rr h => by
  refine ha G H ρ σ _ w rr (PostR.bind h fun ws st1 ls1 H1 vs he e1 w1 rv h1 => ?_)
  cases e : f st1 ws with
  | none => rw [e] at h1; exact h1.elim
  | some us => rw [e] at h1; exact hf (G.to ls1 st1) H1 ws vs us Q w1 rv e fun p zs hp rl => PostV.newL w1 (PostV.of h1) rl hp
section
variable {x : Str} {p pos : Pos} {e : Expr} {es : List Expr} {t : TA} {as : AM} {id T : String} {r : List V → Hp → VK → Prop} {f : F1} {g : FL}
theorem ce_fnB (hc : CallR X (.builtin id) r) (hf : FnS X.K r f) (hg : Gl X x) (hm : X.mg x = none) (hv : bootBuiltins x = some (.builtin id)) (ha : CA X Wx (e :: es) t as) (hn : x ≠ "__name__" := by decide) (hdb : (x == ("__debug__" : Str)) = false := by decide)
    (he : starEach (e :: es) X.env = (false, eval e X.env) :: starEach es X.env := by rfl) (hpl : (backTo pos (starEach es X.env)).any (·.1) = false := by rfl) : CE X Wx (.Call (.Name x p) (e :: es) [] pos) (tCB r t) (eFn f as) := ⟨pe_callB hc hg hm hv ha.pe hn hdb he hpl, sem_fn ha.sem hf⟩
theorem ce_fnT (hc : CallR X (.type T) r) (hf : FnS X.K r f) (hg : Gl X x) (hm : X.mg x = none) (hv : bootBuiltins x = some (.type T)) (ha : CA X Wx (e :: es) t as) (hn : x ≠ "__name__" := by decide) (hdb : (x == ("__debug__" : Str)) = false := by decide)
    (he : starEach (e :: es) X.env = (false, eval e X.env) :: starEach es X.env := by rfl) (hpl : (backTo pos (starEach es X.env)).any (·.1) = false := by rfl) : CE X Wx (.Call (.Name x p) (e :: es) [] pos) (tCB r t) (eFn f as) := ⟨pe_callTy hc hg hm hv ha.pe hn hdb he hpl, sem_fn ha.sem hf⟩
theorem ce_fnBV (hc : CallR X (.builtin id) r) (hf : FnN X.K r g) (hg : Gl X x) (hm : X.mg x = none) (hv : bootBuiltins x = some (.builtin id)) (ha : CA X Wx (e :: es) t as) (hn : x ≠ "__name__" := by decide) (hdb : (x == ("__debug__" : Str)) = false := by decide)
    (he : starEach (e :: es) X.env = (false, eval e X.env) :: starEach es X.env := by rfl) (hpl : (backTo pos (starEach es X.env)).any (·.1) = false := by rfl) : CE X Wx (.Call (.Name x p) (e :: es) [] pos) (tCB r t) (eFnV g as) := ⟨pe_callB hc hg hm hv ha.pe hn hdb he hpl, sem_fnV ha.sem hf⟩
theorem ce_fnTV (hc : CallR X (.type T) r) (hf : FnN X.K r g) (hg : Gl X x) (hm : X.mg x = none) (hv : bootBuiltins x = some (.type T)) (ha : CA X Wx (e :: es) t as) (hn : x ≠ "__name__" := by decide) (hdb : (x == ("__debug__" : Str)) = false := by decide)
    (he : starEach (e :: es) X.env = (false, eval e X.env) :: starEach es X.env := by rfl) (hpl : (backTo pos (starEach es X.env)).any (·.1) = false := by rfl) : CE X Wx (.Call (.Name x p) (e :: es) [] pos) (tCB r t) (eFnV g as) := ⟨pe_callTy hc hg hm hv ha.pe hn hdb he hpl, sem_fnV ha.sem hf⟩
end
/-- a built-in type's name -/
theorem ce_ty {x : Str} {pos : Pos} {n : String} (hg : Gl X x) (hm : X.mg x = none) (hv : bootBuiltins x = some (.type n)) (hn : x ≠ "__name__" := by decide) (hd : (x == ("__debug__" : Str)) = false := by decide) : CE X Wx (.Name x pos) (tC (.ty n)) (eC (.ty n)) :=
  ⟨pe_bltn (v := .ty n) hg hm hv rfl hn hd, sem_c fun _ _ => .ty n⟩

/-! ints -/
def fI (g : Int → Int → W) : F2 := fun _ x y => match x, y with
  | .int i, .int j => some (g i j)
  | _, _ => none
def fIc (c : Int → Int → Bool) (g : Int → Int → W) : F2 := fun _ x y => match x, y with
  | .int i, .int j => if c i j = true then some (g i j) else none
  | _, _ => none
theorem fI_some {g : Int → Int → W} {st : Stt} {x y w : W} (h : fI g st x y = some w) : ∃ i j, x = .int i ∧ y = .int j ∧ w = g i j := by
  unfold fI at h
  split at h
  · cases h; exact ⟨_, _, rfl, rfl, rfl⟩
  · cases h
theorem fIc_some {c : Int → Int → Bool} {g : Int → Int → W} {st : Stt} {x y w : W} (h : fIc c g st x y = some w) : ∃ i j, x = .int i ∧ y = .int j ∧ c i j = true ∧ w = g i j := by
  unfold fIc at h
  split at h
  · split at h
    · cases h; exact ⟨_, _, rfl, rfl, by assumption, rfl⟩
    · cases h
  · cases h
theorem os_int {g : Int → Int → V} {g' : Int → Int → W} (hr : ∀ (G : Gm) (H : Hp) i j, RepV K G H (g' i j) (g i j)) : OpS K (rI0 g) (fI g') := fun G H x y v u w Q wo rx ry e q => by
  obtain ⟨i, j, rfl, rfl, rfl⟩ := fI_some e
  cases rx.int_inv; cases ry.int_inv
  exact ⟨i, j, rfl, rfl, PostV.val wo q (hr G H i j)⟩
theorem os_intC {C : Int → Int → Prop} {c : Int → Int → Bool} {g : Int → Int → V} {g' : Int → Int → W} (hc : ∀ i j, c i j = true → C i j) (hr : ∀ (G : Gm) (H : Hp) i j, RepV K G H (g' i j) (g i j)) : OpS K (rI C g) (fIc c g') := fun G H x y v u w Q wo rx ry e q => by
  obtain ⟨i, j, rfl, rfl, h, rfl⟩ := fIc_some e
  cases rx.int_inv; cases ry.int_inv
  exact ⟨i, j, rfl, rfl, hc i j h, PostV.val wo q (hr G H i j)⟩
theorem OpS.or {r r' : R2} {f f' : F2} (h : OpS K r f) (h' : OpS K r' f') : OpS K (fun x y H Q => r x y H Q ∨ r' x y H Q) (fun st x y => match f st x y with | some w => some w | none => f' st x y) := fun G H x y v u w Q wo rx ry e q => by
  dsimp only at e
  cases e1 : f G.st x y with
  | some z => rw [e1] at e; cases e; exact .inl (h G H x y v u w Q wo rx ry e1 q)
  | none => rw [e1] at e; exact .inr (h' G H x y v u w Q wo rx ry e q)
def fSub : F2 := fI fun i j => .int (i - j)
def fLt : F2 := fI fun i j => .bl (decide (i < j))
def fLe : F2 := fI fun i j => .bl (decide (i ≤ j))
def fGt : F2 := fI fun i j => .bl (decide (j < i))
def fGe : F2 := fI fun i j => .bl (decide (j ≤ i))
theorem os_sub : OpS K (rI0 fun i j => .int (i - j)) fSub := os_int fun _ _ _ _ => .int _
theorem os_lt : OpS K (rI0 fun i j => .bl (decide (i < j))) fLt := os_int fun _ _ _ _ => .bl _
theorem os_le : OpS K (rI0 fun i j => .bl (decide (i ≤ j))) fLe := os_int fun _ _ _ _ => .bl _
theorem os_gt : OpS K (rI0 fun i j => .bl (decide (j < i))) fGt := os_int fun _ _ _ _ => .bl _
def fMod : F2 := fIc (fun _ j => decide (0 < j)) fun i j => .int (i % j)
theorem os_mod : OpS K (rI (fun _ j => 0 < j) fun i j => .int (i % j)) fMod := os_intC (fun _ _ h => of_decide_eq_true h) fun _ _ _ _ => .int _
def fDiv : F2 := fIc (fun _ j => decide (0 < j ∧ j < 2 ^ 62)) fun i j => .int (i / j)
theorem os_div : OpS K (rI CDivW fun i j => .int (i / j)) fDiv := os_intC (fun i j h => by
  obtain ⟨h1, h2⟩ := of_decide_eq_true h
  exact wide_div (b := 62) h1 (by omega) (by decide) (by decide)) fun _ _ _ _ => .int _
/-- as many bits as a product may have -/
def mulOk (i j : Int) : Bool := decide ((i.natAbs < 2 ^ 1000 ∧ j.natAbs < 2 ^ 1000))
theorem mulOk_c {i j : Int} (h : mulOk i j = true) : CMulW i j := by
  obtain ⟨h1, h2⟩ := of_decide_eq_true h
  exact wide_mul h1 h2 (by decide) (by decide) (by decide)
def fMulI : F2 := fIc mulOk fun i j => .int (i * j)
theorem os_mulI : OpS K (rI CMulW fun i j => .int (i * j)) fMulI := os_intC (fun _ _ h => mulOk_c h) fun _ _ _ _ => .int _
def powOk (i j : Int) : Bool := decide (i.natAbs < 2 ^ 1000 ∧ 0 ≤ j ∧ j ≤ 1000)
theorem bits_1000 {i : Int} (h : i.natAbs < 2 ^ 1000) : Builtin.Int.intBits i ≤ 1000 := by
  have := PySem.Flt.log2_lt_of (by decide : 0 < 1000) h
  unfold Builtin.Int.intBits
  split <;> omega
def fPow : F2 := fIc powOk fun i j => .int (i ^ j.toNat)
theorem os_pow : OpS K (rI Low.CPw fun i j => .int (i ^ j.toNat)) fPow := os_intC (fun i j h => by
  obtain ⟨h1, h2, h3⟩ := of_decide_eq_true h
  refine ⟨h2, ?_⟩
  have hb : (Builtin.Int.intBits i : Int) ≤ 1000 := by exact_mod_cast bits_1000 h1
  have h0 : (0 : Int) ≤ (Builtin.Int.intBits i : Int) := Int.natCast_nonneg _
  have := Int.mul_le_mul hb h3 h2 (by decide)
  omega) fun _ _ _ _ => .int _

/-! new tuples -/
theorem tupN {K : PySem.W.Frag} {G : Gm} {H : Hp} {v : V} {ws : List W} (r : RepV K G H (.tup ws) v) : ∃ a vs, v = .ref a ∧ Low.TupN K H a vs ∧ RepL K G H ws vs := by
  cases r with
  | tup h rl =>
    refine ⟨_, _, rfl, ?_, rl⟩
    rcases h with ⟨⟨o, hd, hq⟩, _⟩ | h
    · exact .inl ⟨o, hd, hq⟩
    · exact .inr h
def rCatF (K : PySem.W.Frag) : R2 := fun x y H Q => ∃ a b xs ys, x = .ref a ∧ y = .ref b ∧ SqT K H a xs ∧ SqT K H b ys ∧ xs.length + ys.length ≤ sizeLine ∧
  (xs = [] → Q (.ref b) H) ∧ (xs ≠ [] → ys = [] → Q (.ref a) H) ∧ (xs ≠ [] → ys ≠ [] → ∀ (p : Addr) (o : Obj), o.dict = none → H p = none → Q (.ref p) (upd H p (.frz o (.tup (xs ++ ys)))))
theorem op_catF : OpR X (binaryOp .Add) (rCatF X.K) := by
  intro pins s σ H x y v u Q I rx ry h
  obtain ⟨a, b, xs, ys, rfl, rfl, ha, hb, hz, q0, q1, q2⟩ := h
  cases rx
  cases ry
  obtain ⟨its, r1, p1, _⟩ := I.tuple ha
  obtain ⟨its2, r2, p2, _⟩ := I.tuple hb
  by_cases hx : xs = []
  · subst hx
    cases r1
    exact cat_tup0 p1 p2 ⟨.ref b, H, I, rfl, q0 rfl⟩
  · refine HT.cat_tup p1 p2 (fun z => hx (r1.nil_iff.mp z)) (fun z => ⟨.ref a, H, I, rfl, q1 hx (r2.nil_iff.mp z)⟩) (fun z => ?_) (by rw [← r1.length, ← r2.length]; exact hz)
    exact tup_laid (s := s) (h' := s.heap) (tk := s.toks) I (r1.append r2) (by rw [List.length_append]; exact hz) (q2 hx fun w => z (r2.nil_iff.mpr w))
def fCatT : F2 := fun _ x y => match x, y with
  | .tup xs, .tup ys => if xs.length + ys.length ≤ 100000 then some (.tup (xs ++ ys)) else none
  | _, _ => none
theorem RepL.nil_iff {ws : List W} {vs : List V} (h : RepL K G H ws vs) : vs = [] ↔ ws = [] := by cases h <;> simp
theorem os_catT : OpS K (rCatF K) fCatT := fun G H x y v u w Q wo rx ry e q => by
  unfold fCatT at e
  split at e
  · split at e
    · rename_i xs ys hl
      cases e
      obtain ⟨a, vs, rfl, sq, rl⟩ := tup_sq rx
      obtain ⟨b, us, rfl, sq2, rl2⟩ := tup_sq ry
      refine ⟨a, b, vs, us, rfl, rfl, sq, sq2, Nat.le_trans (by rw [← rl.length, ← rl2.length]; exact hl) (by decide), fun z => ?_, fun z1 z => ?_, fun z1 z2 p o hd hp => PostV.newT wo q (rl.app rl2) hd hp⟩
      · have : xs = [] := rl.nil_iff.mp z
        subst this
        exact PostV.val wo q ry
      · have : ys = [] := rl2.nil_iff.mp z
        subst this
        rw [List.append_nil] at q
        exact PostV.val wo q rx
    · cases e
  · cases e
def lstX (st : Stt) : W → Option (List W)
  | .lst ws => some ws
  | .loc n => match st[n]? with
    | some (some (.lst ws)) => some ws
    | _ => none
  | _ => none
theorem lst_x {G : Gm} {H : Hp} {w : W} {v : V} {ws : List W} (wo : World K G H) (r : RepV K G H w v) (e : lstX G.st w = some ws) : ∃ a vs, v = .ref a ∧ H a = some (.lst vs) ∧ RepL K G H ws vs := by
  cases r with
  | lst h rl => cases e; exact ⟨_, _, rfl, h.1, rl⟩
  | loc h =>
    unfold lstX at e
    dsimp only at e
    split at e
    · rename_i q
      cases e
      obtain ⟨vs, e1, rl⟩ := wo.at' _ _ _ h q
      exact ⟨_, vs, rfl, e1, rl⟩
    · cases e
  | _ => cases e
def fCatL : F2 := fun st x y => match lstX st x, lstX st y with
  | some xs, some ys => if xs.length + ys.length ≤ 100000 then some (.lst (xs ++ ys)) else none
  | _, _ => none
theorem os_catL : OpS K rCat fCatL := fun G H x y v u w Q wo rx ry e q => by
  unfold fCatL at e
  split at e
  · split at e
    · rename_i xs ys ex ey hl
      cases e
      obtain ⟨a, vs, rfl, sq, rl⟩ := lst_x wo rx ex
      obtain ⟨b, us, rfl, sq2, rl2⟩ := lst_x wo ry ey
      exact ⟨a, b, vs, us, rfl, rfl, sq, sq2, Nat.le_trans (by rw [← rl.length, ← rl2.length]; exact hl) (by decide), fun p hp => PostV.newL wo q (rl.app rl2) hp⟩
    · cases e
  · cases e
def fAddI : F2 := fI fun i j => .int (i + j)
theorem os_addI : OpS K (rI0 fun i j => .int (i + j)) fAddI := os_int fun _ _ _ _ => .int _
def fAddS : F2 := fun _ x y => match x, y with
  | .str a, .str b => if a.length + b.length ≤ 100000 then some (.str (a ++ b)) else none
  | _, _ => none
theorem os_addS : OpS K (fun x y H Q => ∃ i j, x = .str i ∧ y = .str j ∧ i.length + j.length ≤ sizeLine ∧ Q (.str (i ++ j)) H) fAddS := fun G H x y v u w Q wo rx ry e q => by
  unfold fAddS at e
  split at e
  · split at e
    · rename_i a b hl
      cases e
      cases rx.str_inv; cases ry.str_inv
      exact ⟨a, b, rfl, rfl, Nat.le_trans hl (by decide), PostV.val wo q (.str _)⟩
    · cases e
  · cases e
/-- x + y: ints, tuples, lists, texts -/
def fAdd : F2 := fun st x y => match x, y with
  | .int i, .int j => some (.int (i + j))
  | .tup xs, .tup ys => if xs.length + ys.length ≤ 100000 then some (.tup (xs ++ ys)) else none
  | .str a, .str b => if a.length + b.length ≤ 100000 then some (.str (a ++ b)) else none
  | x, y => fCatL st x y
def rAdd4 (K : PySem.W.Frag) : R2 := fun x y H Q => rI0 (fun i j => .int (i + j)) x y H Q ∨ (rCatF K x y H Q ∨ (rCat x y H Q ∨ ∃ i j, x = .str i ∧ y = .str j ∧ i.length + j.length ≤ sizeLine ∧ Q (.str (i ++ j)) H))
theorem op_add4 : OpR X (binaryOp .Add) (rAdd4 X.K) := op_add.or (op_catF.or (op_cat.or op_add_str))
theorem os_add : OpS K (rAdd4 K) fAdd := fun G H x y v u w Q wo rx ry e q => by
  unfold fAdd at e
  split at e
  · exact .inl (os_addI G H _ _ v u w Q wo rx ry e q)
  · exact .inr (.inl (os_catT G H _ _ v u w Q wo rx ry e q))
  · exact .inr (.inr (.inr (os_addS G H _ _ v u w Q wo rx ry e q)))
  · exact .inr (.inr (.inl (os_catL G H _ _ v u w Q wo rx ry e q)))
/-- x * y: ints; a list so often -/
def fMul : F2 := fun st x y => match x, y with
  | .int i, .int j => if mulOk i j = true then some (.int (i * j)) else none
  | x, .int k => match lstX st x with
    | some xs => if -(2 ^ 62) ≤ k ∧ k < 2 ^ 62 ∧ xs.length * k.toNat ≤ 100000 then some (.lst (List.replicate k.toNat xs).flatten) else none
    | none => none
  | _, _ => none
theorem RepL.rep {ws : List W} {vs : List V} (h : RepL K G H ws vs) : ∀ n : Nat, RepL K G H (List.replicate n ws).flatten (List.replicate n vs).flatten
  | 0 => .nil
  | n + 1 => by
    rw [List.replicate_succ, List.replicate_succ, List.flatten_cons, List.flatten_cons]
    exact h.app (RepL.rep h n)
theorem op_mul2 : OpR X (binaryOp .Mult) (fun x y H Q => rI CMulW (fun i j => .int (i * j)) x y H Q ∨ rRep x y H Q) := op_mulW.or op_rep
theorem os_mul : OpS K (fun x y H Q => rI CMulW (fun i j => .int (i * j)) x y H Q ∨ rRep x y H Q) fMul := fun G H x y v u w Q wo rx ry e q => by
  unfold fMul at e
  split at e
  · rename_i i j
    exact .inl (os_mulI G H _ _ v u w Q wo rx ry (by unfold fMulI fIc; exact e) q)
  · rename_i x k _
    split at e
    · rename_i xs ex
      split at e
      · rename_i hl
        cases e
        obtain ⟨a, vs, rfl, sq, rl⟩ := lst_x wo rx ex
        cases ry.int_inv
        refine .inr ⟨a, k, vs, rfl, rfl, sq, by omega, by omega, Nat.le_trans (by rw [← rl.length]; exact hl.2.2) (by decide), fun p hp => PostV.newL wo q (rl.rep _) hp⟩
      · cases e
    · cases e
  · cases e
end
end Sim
end
section
set_option Elab.async false
set_option linter.all false
set_option maxRecDepth 100000
set_option maxHeartbeats 1000000
open PySem PySem.Spec PyProof.Rows L2
namespace Sim

/-! values as data, for == -/
mutual
def toD0 : W → Option PyData
  | .non => some .none
  | .bl b => some (.bool b)
  | .int i => some (.int i)
  | .str x => some (.str x)
  | .tup ws => (toD0s ws).map .tuple
  | .lst ws => (toD0s ws).map .list
  | _ => none
def toD0s : List W → Option (List PyData)
  | [] => some []
  | w :: ws => match toD0 w, toD0s ws with
    | some d, some ds => some (d :: ds)
    | _, _ => none
end
mutual
def toD (st : Stt) : W → Option PyData
  | .non => some .none
  | .bl b => some (.bool b)
  | .int i => some (.int i)
  | .str x => some (.str x)
  | .tup ws => (toDs st ws).map .tuple
  | .lst ws => (toDs st ws).map .list
  | .scr ws => (toDs st ws).map .list
  | .loc n => match st[n]? with
    | some (some (.lst ws)) => (toD0s ws).map .list
    | _ => none
  | _ => none
def toDs (st : Stt) : List W → Option (List PyData)
  | [] => some []
  | w :: ws => match toD st w, toDs st ws with
    | some d, some ds => some (d :: ds)
    | _, _ => none
end
section
variable {K : PySem.W.Frag} {G : Gm} {H : Hp}
mutual
theorem toD0_dp : ∀ (w : W) (v : V) (d : PyData), RepV K G H w v → toD0 w = some d → Dp K H v d
  | .non, _, _, r, e => by cases r; rw [toD0] at e; cases e; exact .non
  | .bl b, _, _, r, e => by cases r; rw [toD0] at e; cases e; exact .bl b
  | .int b, _, _, r, e => by cases r; rw [toD0] at e; cases e; exact .int b
  | .str b, _, _, r, e => by cases r; rw [toD0] at e; cases e; exact .str b
  | .tup ws, _, d, r, e => by
    obtain ⟨a, vs, rfl, sq, rl⟩ := tup_sq r
    rw [toD0] at e
    cases e1 : toD0s ws with
    | none => rw [e1] at e; cases e
    | some ds => rw [e1] at e; cases e; exact .tup sq (toD0s_dp ws vs ds rl e1)
  | .lst ws, _, d, r, e => by
    cases r with
    | lst h rl =>
      rw [toD0] at e
      cases e1 : toD0s ws with
      | none => rw [e1] at e; cases e
      | some ds => rw [e1] at e; cases e; exact .lst (.inl (.inl h.1)) (toD0s_dp ws _ ds rl e1)
  | .scr _, _, _, _, e => by rw [toD0] at e <;> first | cases e | (intros; exact nofun)
  | .loc _, _, _, _, e => by rw [toD0] at e <;> first | cases e | (intros; exact nofun)
  | .dic _, _, _, _, e => by rw [toD0] at e <;> first | cases e | (intros; exact nofun)
  | .prs _, _, _, _, e => by rw [toD0] at e <;> first | cases e | (intros; exact nofun)
  | .ty _, _, _, _, e => by rw [toD0] at e <;> first | cases e | (intros; exact nofun)
  | .obj _, _, _, _, e => by rw [toD0] at e <;> first | cases e | (intros; exact nofun)
theorem toD0s_dp : ∀ (ws : List W) (vs : List V) (ds : List PyData), RepL K G H ws vs → toD0s ws = some ds → DpAll K H vs ds
  | [], _, _, r, e => by cases r; rw [toD0s] at e; cases e; exact .nil
  | w :: ws, _, ds, r, e => by
    cases r with
    | cons a b =>
      rw [toD0s] at e
      cases e1 : toD0 w with
      | none => rw [e1] at e; cases e
      | some d =>
        cases e2 : toD0s ws with
        | none => rw [e1, e2] at e; cases e
        | some ds2 => rw [e1, e2] at e; cases e; exact .cons (toD0_dp w _ d a e1) (toD0s_dp ws _ ds2 b e2)
end
mutual
theorem toD_dp (wo : World K G H) : ∀ (w : W) (v : V) (d : PyData), RepV K G H w v → toD G.st w = some d → Dp K H v d
  | .non, _, _, r, e => by cases r; rw [toD] at e; cases e; exact .non
  | .bl b, _, _, r, e => by cases r; rw [toD] at e; cases e; exact .bl b
  | .int b, _, _, r, e => by cases r; rw [toD] at e; cases e; exact .int b
  | .str b, _, _, r, e => by cases r; rw [toD] at e; cases e; exact .str b
  | .tup ws, _, d, r, e => by
    obtain ⟨a, vs, rfl, sq, rl⟩ := tup_sq r
    rw [toD] at e
    cases e1 : toDs G.st ws with
    | none => rw [e1] at e; cases e
    | some ds => rw [e1] at e; cases e; exact .tup sq (toDs_dp wo ws vs ds rl e1)
  | .lst ws, _, d, r, e => by
    cases r with
    | lst h rl =>
      rw [toD] at e
      cases e1 : toDs G.st ws with
      | none => rw [e1] at e; cases e
      | some ds => rw [e1] at e; cases e; exact .lst (.inl (.inl h.1)) (toDs_dp wo ws _ ds rl e1)
  | .scr ws, _, d, r, e => by
    cases r with
    | scr h rl =>
      rw [toD] at e
      cases e1 : toDs G.st ws with
      | none => rw [e1] at e; cases e
      | some ds => rw [e1] at e; cases e; exact .lst (h.imp_left Fz.rd) (toDs_dp wo ws _ ds rl e1)
  | .loc n, _, d, r, e => by
    cases r with
    | loc h =>
      rw [toD] at e
      split at e
      · rename_i ws q
        obtain ⟨vs, hv, rl⟩ := wo.at' _ _ _ h q
        cases e1 : toD0s ws with
        | none => rw [e1] at e; cases e
        | some ds => rw [e1] at e; cases e; exact .lst (.inl (.inl hv)) (toD0s_dp ws _ ds rl e1)
      · cases e
  | .dic _, _, _, _, e => by rw [toD] at e <;> first | cases e | (intros; exact nofun)
  | .prs _, _, _, _, e => by rw [toD] at e <;> first | cases e | (intros; exact nofun)
  | .ty _, _, _, _, e => by rw [toD] at e <;> first | cases e | (intros; exact nofun)
  | .obj _, _, _, _, e => by rw [toD] at e <;> first | cases e | (intros; exact nofun)
theorem toDs_dp (wo : World K G H) : ∀ (ws : List W) (vs : List V) (ds : List PyData), RepL K G H ws vs → toDs G.st ws = some ds → DpAll K H vs ds
  | [], _, _, r, e => by cases r; rw [toDs] at e; cases e; exact .nil
  | w :: ws, _, ds, r, e => by
    cases r with
    | cons a b =>
      rw [toDs] at e
      cases e1 : toD G.st w with
      | none => rw [e1] at e; cases e
      | some d =>
        cases e2 : toDs G.st ws with
        | none => rw [e1, e2] at e; cases e
        | some ds2 => rw [e1, e2] at e; cases e; exact .cons (toD_dp wo w _ d a e1) (toDs_dp wo ws _ ds2 b e2)
end
end
def fEq : F2 := fun st x y => match toD st x, toD st y with
  | some d, some e => if SeqAt.shaped d = true ∧ SeqAt.shaped e = true then some (.bl (PyData.eqv d e)) else none
  | _, _ => none
def fNe : F2 := fun st x y => match toD st x, toD st y with
  | some d, some e => if SeqAt.shaped d = true ∧ SeqAt.shaped e = true then some (.bl (!PyData.eqv d e)) else none
  | _, _ => none
section
variable {X : Cx} {Wx : WX} {K : PySem.W.Frag} {G : Gm} {H : Hp}
theorem os_eq : OpS K (rEqD K) fEq := fun G H x y v u w Q wo rx ry e q => by
  unfold fEq at e
  split at e
  · split at e
    · rename_i d d2 e1 e2 hs
      cases e
      exact ⟨d, d2, toD_dp wo x v d rx e1, toD_dp wo y u d2 ry e2, hs.1, hs.2, PostV.val wo q (.bl _)⟩
    · cases e
  · cases e
theorem os_ne : OpS K (rNeD K) fNe := fun G H x y v u w Q wo rx ry e q => by
  unfold fNe at e
  split at e
  · split at e
    · rename_i d d2 e1 e2 hs
      cases e
      exact ⟨d, d2, toD_dp wo x v d rx e1, toD_dp wo y u d2 ry e2, hs.1, hs.2, PostV.val wo q (.bl _)⟩
    · cases e
  · cases e
/-! is None -/
/-! x in xs -/
def flatW : W → Option V
  | .non => some .non
  | .bl b => some (.bl b)
  | .int i => some (.int i)
  | .str x => some (.str x)
  | _ => none
def flatWs : List W → Option (List V)
  | [] => some []
  | w :: ws => match flatW w, flatWs ws with
    | some v, some vs => some (v :: vs)
    | _, _ => none
theorem flatW_rep {w : W} {v v' : V} (r : RepV K G H w v) (e : flatW w = some v') : v = v' ∧ flatV v = true := by
  cases r <;> first | (cases e; exact ⟨rfl, rfl⟩) | cases e
theorem flatWs_rep : ∀ {ws : List W} {vs vs' : List V}, RepL K G H ws vs → flatWs ws = some vs' → vs = vs' ∧ vs.all flatV = true
  | _, _, _, .nil, e => by cases e; exact ⟨rfl, rfl⟩
  | _, _, vs', .cons (w := w) (ws := ws) a b, e => by
    rw [flatWs] at e
    cases e1 : flatW w with
    | none => rw [e1] at e; cases e
    | some v =>
      cases e2 : flatWs ws with
      | none => rw [e1, e2] at e; cases e
      | some us =>
        rw [e1, e2] at e
        cases e
        obtain ⟨p1, p2⟩ := flatW_rep a e1
        obtain ⟨q1, q2⟩ := flatWs_rep b e2
        subst p1 q1
        exact ⟨rfl, by simp [p2, q2]⟩
/-- a text of one sign -/
def signOf (a : Str) : Option Nat := match a.cps.toList with
  | [c] => some c
  | _ => none
theorem signOf_some {a : Str} {c : Nat} (h : signOf a = some c) : a = ⟨#[c]⟩ := by
  obtain ⟨cs⟩ := a
  unfold signOf at h
  split at h
  · rename_i d e
    cases h
    have : cs = [c].toArray := by rw [← e]
    rw [this]
  · cases h
def fIn (neg : Bool) : F2 := fun st x y => match x, y with
  | .str a, .str z => (signOf a).map fun c => (.bl (if neg then !decide (c ∈ z.cps.toList) else decide (c ∈ z.cps.toList)))
  | x, y => match seqOf st y with
    | some ws => match flatW x, flatWs ws with
      | some v, some vs => some (.bl (if neg then !inV v vs else inV v vs))
      | _, _ => none
    | none => none
def rInU (K : PySem.W.Frag) (neg : Bool) : R2 := fun x y H Q => rIn K neg x y H Q ∨ ∃ (c : Nat) (z : Str), x = .str ⟨#[c]⟩ ∧ y = .str z ∧ Q (.bl (if neg then !decide (c ∈ z.cps.toList) else decide (c ∈ z.cps.toList))) H
theorem op_inU : OpR X (compareOp .In) (rInU X.K false) := op_in_seq.or op_in_sign
theorem op_notInU : OpR X (compareOp .NotIn) (rInU X.K true) := op_notIn_seq.or op_notIn_sign
theorem os_in (neg : Bool) : OpS K (rInU K neg) (fIn neg) := fun G H x y v u w Q wo rx ry e q => by
  unfold fIn at e
  split at e
  · rename_i a z
    cases ec : signOf a with
    | none => rw [ec] at e; cases e
    | some c =>
      rw [ec] at e
      cases e
      cases rx.str_inv; cases ry.str_inv
      exact .inr ⟨c, z, by rw [signOf_some ec], rfl, PostV.val wo q (.bl _)⟩
  · split at e
    · rename_i ws es
      split at e
      · rename_i v1 vs1 e1 e2
        cases e
        obtain ⟨a, vs, rfl, sq, rl⟩ := seq_sq wo ry es
        obtain ⟨rfl, f1⟩ := flatW_rep rx e1
        obtain ⟨rfl, f2⟩ := flatWs_rep rl e2
        exact .inl ⟨a, vs, rfl, sq, f1, f2, PostV.val wo q (.bl _)⟩
      · cases e
    · cases e
/-! xs[i] -/
def fIx : F2 := fun st x y => match x, y with
  | .str z, .int i => if z.length ≤ 100000 then (atI z.cps.toList i).map fun c => .str ⟨#[c]⟩ else none
  | x, .int i => match seqOf st x with
    | some ws => atI ws i
    | none => none
  | _, _ => none
def rIxU (K : PySem.W.Frag) : R2 := fun x y H Q => rIxL K x y H Q ∨ (rIxT K x y H Q ∨ rIxS x y H Q)
theorem ix_u : IxR X (rIxU X.K) := ix_list.or (ix_tup.or ix_str)
theorem atI_rep {ws : List W} {vs : List V} {i : Int} {w : W} (r : RepL K G H ws vs) (e : atI ws i = some w) : ∃ v, atI vs i = some v ∧ RepV K G H w v := by
  unfold atI at e ⊢
  rw [← r.length]
  cases h : ixN ws.length i with
  | none => rw [h] at e; cases e
  | some j => rw [h] at e; exact r.get e
theorem os_ix : OpS K (rIxU K) fIx := fun G H x y v u w Q wo rx ry e q => by
  unfold fIx at e
  split at e
  · split at e
    · rename_i z i hz
      cases e1 : atI z.cps.toList i with
      | none => rw [e1] at e; cases e
      | some c =>
        rw [e1] at e
        cases e
        cases rx.str_inv; cases ry.int_inv
        exact .inr (.inr ⟨z, i, c, rfl, rfl, Nat.le_trans hz (by decide), e1, PostV.val wo q (.str _)⟩)
    · cases e
  · split at e
    · rename_i ws es
      obtain ⟨a, vs, rfl, sq, rl⟩ := seq_sq wo rx es
      cases ry.int_inv
      obtain ⟨v, ev, rv⟩ := atI_rep rl e
      rcases sq with sq | sq
      · exact .inl ⟨a, vs, _, v, rfl, rfl, sq, ev, PostV.val wo q rv⟩
      · exact .inr (.inl ⟨a, vs, _, v, rfl, rfl, sq, ev, PostV.val wo q rv⟩)
    · cases e
  · cases e
theorem ce_ix {a b : Expr} {ta tb : TE} {ma mb : EM} {pos : Pos} (ha : CE X Wx a ta ma) (hb : CE X Wx b tb mb) (hs : PlainIx b) : CE X Wx (.Subscript a b pos) (tOp (rIxU X.K) ta tb) (eOp fIx ma mb) := ⟨pe_ix ix_u ha.pe hb.pe hs, sem_op ha.sem hb.sem os_ix⟩

/-! slices -/
abbrev OM := Ev → Stt → Rs (Option Int)
def SemO (K : PySem.W.Frag) (Wx : WX) (te : TO) (m : OM) : Prop := ∀ (G : Gm) (H : Hp) (ρ : Ev) (σ : L2.St) (Q : Option Int → Hp → Prop), World K G H → RepE K G H ρ σ → PostR K (fun _ _ a b => a = b) (fun c d H' => Wx c d σ H') G H (m ρ G.st) Q → te σ H Q
structure CO (X : Cx) (Wx : WX) (e : Option Expr) (t : TO) (m : OM) : Prop where
  pe : PO X e t
  sem : SemO X.K Wx t m
def oNone : OM := fun _ st => .ok none st
def oSome (m : EM) : OM := fun ρ st => (m ρ st).bind fun w st1 => match w with
  | .int i => .ok (some i) st1
  | _ => .no
theorem co_none : CO X Wx none tNoPart oNone := ⟨po_none, fun G H ρ σ Q w r h => PostR.ok (a := none) w h rfl⟩
theorem co_some {e : Expr} {te : TE} {m : EM} (h : CE X Wx e te m) : CO X Wx (some e) (tPart te) (oSome m) := by
  refine ⟨po_some h.pe, fun G H ρ σ Q w r hp => ?_⟩
  refine h.sem G H ρ σ _ w r (PostR.bind hp fun x st1 ls1 H1 v he e1 w1 rv h1 => ?_)
  clear he
  split at h1
  · cases rv.int_inv
    exact ⟨_, rfl, PostR.ok (G := G.to ls1 st1) w1 h1 rfl⟩
  · exact h1.elim
def rSlF (K : PySem.W.Frag) : V → Option Int → Option Int → Hp → VK → Prop := fun x lo hi H Q => ∃ a xs, x = .ref a ∧ SqT K H a xs ∧
  (HT.sIx xs.length 0 lo = 0 ∧ HT.sIx xs.length xs.length hi = xs.length → Q (.ref a) H) ∧ (¬ (HT.sIx xs.length 0 lo = 0 ∧ HT.sIx xs.length xs.length hi = xs.length) → ∀ (p : Addr) (o : Obj), o.dict = none → H p = none → Q (.ref p) (upd H p (.frz o (.tup (cutV xs lo hi)))))
theorem sl_tupF : SlR X (rSlF X.K) := by
  intro pins s σ H x v vl vu lo hi sl Q I rx hs pl pu h
  obtain ⟨a, xs, rfl, hx, q1, q2⟩ := h
  by_cases hw : HT.sIx xs.length 0 lo = 0 ∧ HT.sIx xs.length xs.length hi = xs.length
  · exact sl_tupA pins s σ H _ v vl vu lo hi sl Q I rx hs pl pu ⟨a, xs, rfl, hx, q1, fun z => absurd hw z⟩
  · cases rx
    obtain ⟨its, r, ht, hz⟩ := I.tuple hx
    have hlen : its.toArray.size = xs.length := by rw [List.size_toArray]; exact r.length.symm
    refine ⟨"tuple", _, PyProof.Rows.slot_tuple_getitem.lookup, ht.typeIs, ?_⟩
    refine HT.getItem_tuple_cut ht hs pl pu (by rw [hlen]; exact hw) ?_ (by rw [hlen]; exact hz)
    rw [hlen]
    exact tup_laid (s := s) (h' := s.heap) (tk := s.toks) I ((r.drop (HT.sIx xs.length 0 lo)).take (HT.sIx xs.length xs.length hi - HT.sIx xs.length 0 lo)) (Nat.le_trans (cutV_length xs lo hi) hz) (q2 hw)
/-- xs[lo:hi], the items -/
def cutW (xs : List W) (lo hi : Option Int) : List W := (xs.drop (HT.sIx xs.length 0 lo)).take (HT.sIx xs.length xs.length hi - HT.sIx xs.length 0 lo)
theorem RepL.drop {ws : List W} {vs : List V} (h : RepL K G H ws vs) : ∀ n : Nat, RepL K G H (ws.drop n) (vs.drop n) := by
  intro n
  induction n generalizing ws vs with
  | zero => exact h
  | succ n ih => cases h with
    | nil => exact .nil
    | cons a b => exact ih b
theorem RepL.take {ws : List W} {vs : List V} (h : RepL K G H ws vs) : ∀ n : Nat, RepL K G H (ws.take n) (vs.take n) := by
  intro n
  induction n generalizing ws vs with
  | zero => exact .nil
  | succ n ih => cases h with
    | nil => exact .nil
    | cons a b => exact .cons a (ih b)
theorem RepL.cut {ws : List W} {vs : List V} (h : RepL K G H ws vs) (lo hi : Option Int) : RepL K G H (cutW ws lo hi) (cutV vs lo hi) := by
  unfold cutW cutV
  rw [h.length]
  exact (h.drop _).take _
/-- the whole of it -/
theorem cut_all {xs : List W} {lo hi : Option Int} (h : HT.sIx xs.length 0 lo = 0 ∧ HT.sIx xs.length xs.length hi = xs.length) : cutW xs lo hi = xs := by
  unfold cutW
  rw [h.1, h.2]
  simp
def rSlS : V → Option Int → Option Int → Hp → VK → Prop := fun x lo hi H Q => ∃ z, x = .str z ∧ z.length ≤ sizeLine ∧ Q (.str (cutS z lo hi)) H
abbrev FS := Stt → W → Option Int → Option Int → Option W
def fSl : FS := fun st x lo hi => match x with
  | .tup ws => some (.tup (cutW ws lo hi))
  | .str z => if z.length ≤ 100000 then some (.str (cutS z lo hi)) else none
  | x => match lstOf st x with
    | some ws => some (.lst (cutW ws lo hi))
    | none => none
def eSl (m : EM) (lo hi : OM) : EM := fun ρ st => (m ρ st).bind fun x st1 => (lo ρ st1).bind fun l st2 => (hi ρ st2).bind fun u st3 => match fSl st3 x l u with
  | some w => .ok w st3
  | none => .no
/-- a list's slice that is tracked -/
def eSlO (m : EM) (lo hi : OM) : EM := fun ρ st => (m ρ st).bind fun x st1 => (lo ρ st1).bind fun l st2 => (hi ρ st2).bind fun u st3 => match lstOf st3 x with
  | some ws => .ok (.loc st3.length) (st3 ++ [some (.lst (cutW ws l u))])
  | none => .no
def rSlU (K : PySem.W.Frag) : V → Option Int → Option Int → Hp → VK → Prop := fun x lo hi H Q => rSlF K x lo hi H Q ∨ (rSlL K x lo hi H Q ∨ rSlS x lo hi H Q)
theorem sl_u : SlR X (rSlU X.K) := sl_tupF.or (sl_list.or sl_str)
theorem sem_sl {te : TE} {tl th : TO} {m : EM} {ml mh : OM} (h : SemE K Wx te m) (h1 : SemO K Wx tl ml) (h2 : SemO K Wx th mh) : SemE K Wx (tSl (rSlU K) te tl th) (eSl m ml mh) := fun G H ρ σ Q w r hp => by
  refine h G H ρ σ _ w r (PostR.bind hp fun x st1 ls1 H1 v q1 e1 w1 rv hp1 => ?_)
  clear q1
  refine h1 (G.to ls1 st1) H1 ρ σ _ w1 (r.mono e1) (PostR.bind hp1 fun l st2 ls2 H2 l' q2 e2 w2 rl hp2 => ?_)
  clear q2
  refine h2 (G.to ls2 st2) H2 ρ σ _ w2 (r.mono (e1.trans e2)) (PostR.bind hp2 fun u st3 ls3 H3 u' q3 e3 w3 ru hp3 => ?_)
  clear q3
  subst rl ru
  have rv3 := rv.mono (e2.trans e3)
  cases e : fSl st3 x l u with
  | none => rw [e] at hp3; exact hp3.elim
  | some z =>
    rw [e] at hp3
    have q := PostV.of hp3
    unfold fSl at e
    split at e
    · rename_i ws
      cases e
      obtain ⟨a, vs, rfl, sq, rl⟩ := tup_sq rv3
      refine .inl ⟨a, vs, rfl, sq, fun hw => ?_, fun hw p o hd hpn => PostV.newT (G := G.to ls3 st3) w3 q (rl.cut l u) hd hpn⟩
      rw [← rl.length] at hw
      rw [cut_all hw] at q
      exact PostV.val (G := G.to ls3 st3) w3 q rv3
    · split at e
      · rename_i z hz
        cases e
        cases rv3.str_inv
        exact .inr (.inr ⟨z, rfl, Nat.le_trans hz (by decide), PostV.val (G := G.to ls3 st3) w3 q (.str _)⟩)
      · cases e
    · split at e
      · rename_i ws es
        cases e
        obtain ⟨a, vs, rfl, sq, rl⟩ := lst_sq (G := G.to ls3 st3) w3 rv3 es
        exact .inr (.inl ⟨a, vs, rfl, sq, fun p hpn => PostV.newL (G := G.to ls3 st3) w3 q (rl.cut l u) hpn⟩)
      · cases e
theorem sem_slO {te : TE} {tl th : TO} {m : EM} {ml mh : OM} (h : SemE K Wx te m) (h1 : SemO K Wx tl ml) (h2 : SemO K Wx th mh) : SemE K Wx (tSl (rSlU K) te tl th) (eSlO m ml mh) := fun G H ρ σ Q w r hp => by
  refine h G H ρ σ _ w r (PostR.bind hp fun x st1 ls1 H1 v q1 e1 w1 rv hp1 => ?_)
  clear q1
  refine h1 (G.to ls1 st1) H1 ρ σ _ w1 (r.mono e1) (PostR.bind hp1 fun l st2 ls2 H2 l' q2 e2 w2 rl hp2 => ?_)
  clear q2
  refine h2 (G.to ls2 st2) H2 ρ σ _ w2 (r.mono (e1.trans e2)) (PostR.bind hp2 fun u st3 ls3 H3 u' q3 e3 w3 ru hp3 => ?_)
  clear q3
  subst rl ru
  have rv3 := rv.mono (e2.trans e3)
  cases es : lstOf st3 x with
  | none => rw [es] at hp3; exact hp3.elim
  | some ws =>
    rw [es] at hp3
    obtain ⟨a, vs, rfl, sq, rl⟩ := lst_sq (G := G.to ls3 st3) w3 rv3 es
    exact .inr (.inl ⟨a, vs, rfl, sq, fun p hpn => post_push w3 hpn hp3 ⟨_, upd_same, (rl.cut l u).mono (Ext.push w3 _ hpn)⟩⟩)
theorem ce_sl {e : Expr} {lo hi : Option Expr} {te : TE} {tl th : TO} {m : EM} {ml mh : OM} {p2 pos : Pos} (h : CE X Wx e te m) (h1 : CO X Wx lo tl ml) (h2 : CO X Wx hi th mh) : CE X Wx (.Subscript e (.Slice lo hi none p2) pos) (tSl (rSlU X.K) te tl th) (eSl m ml mh) := ⟨pe_slice sl_u h.pe h1.pe h2.pe, sem_sl h.sem h1.sem h2.sem⟩
theorem ce_slO {e : Expr} {lo hi : Option Expr} {te : TE} {tl th : TO} {m : EM} {ml mh : OM} {p2 pos : Pos} (h : CE X Wx e te m) (h1 : CO X Wx lo tl ml) (h2 : CO X Wx hi th mh) : CE X Wx (.Subscript e (.Slice lo hi none p2) pos) (tSl (rSlU X.K) te tl th) (eSlO m ml mh) := ⟨pe_slice sl_u h.pe h1.pe h2.pe, sem_slO h.sem h1.sem h2.sem⟩
end
end Sim
end
section
set_option Elab.async false
set_option linter.all false
set_option maxRecDepth 100000
set_option maxHeartbeats 1000000
open PySem PySem.Spec PyProof.Rows L2
namespace Sim
section
variable {X : Cx} {Wx : WX} {K : PySem.W.Frag} {G : Gm} {H : Hp}

/-! chains of two comparisons -/
def eChain (f g : F2) (a b c : EM) : EM := fun ρ st => (a ρ st).bind fun x st1 => (b ρ st1).bind fun y st2 => match f st2 x y with
  | some (.bl true) => (c ρ st2).bind fun z st3 => match g st3 y z with
    | some w => .ok w st3
    | none => .no
  | some (.bl false) => .ok (.bl false) st2
  | _ => .no
theorem sem_chain {ta tb tc : TE} {a b c : EM} {r r' : R2} {f g : F2} (ha : SemE K Wx ta a) (hb : SemE K Wx tb b) (hc : SemE K Wx tc c) (ho : OpS K r f) (hg : OpS K r' g) : SemE K Wx (tChain r r' ta tb tc) (eChain f g a b c) := fun G H ρ σ Q w rr h => by
  refine ha G H ρ σ _ w rr (PostR.bind h fun x st1 ls1 H1 v q1 e1 w1 rv h1 => ?_)
  refine hb (G.to ls1 st1) H1 ρ σ _ w1 (rr.mono e1) (PostR.bind h1 fun y st2 ls2 H2 u q2 e2 w2 ru h2 => ?_)
  clear q1 q2
  cases e : f st2 x y with
  | none => rw [e] at h2; exact h2.elim
  | some z =>
    refine ho (G.to ls2 st2) H2 x y v u z _ w2 (rv.mono e2) ru e fun H3 zv e3 w3 rz => ?_
    rw [e] at h2
    cases z with
    | bl b =>
      cases rz
      refine ⟨b, rfl, ?_⟩
      cases b with
      | true =>
        refine iteT (hc (G.to ls2 st2) H3 ρ σ _ w3 ((rr.mono (e1.trans e2)).mono e3) (PostR.bind (PostR.mono e3 h2) fun z st4 ls4 H4 zv q4 e4 w4 rz h4 => ?_))
        clear q4
        cases eg : g st4 y z with
        | none => rw [eg] at h4; exact h4.elim
        | some w5 => rw [eg] at h4; exact hg (G.to ls4 st4) H4 y z u zv w5 Q w4 ((ru.mono e3).mono e4) rz eg (PostV.of h4)
      | false => exact iteF (PostR.ok (G := G.to ls2 st2) w3 (PostR.mono e3 h2) (.bl false))
    | _ => exact h2.elim
theorem ct_chain {a b c : Expr} {op op' : CmpOp} {ta tb tc : TE} {ma mb mc : EM} {r r' : R2} {f g : F2} {pos : Pos} (ho : OpR X (compareOp op) r) (hf : OpS X.K r f) (ho' : OpR X (compareOp op') r') (hg : OpS X.K r' g) (ha : CE X Wx a ta ma) (hb : CE X Wx b tb mb) (hc : CE X Wx c tc mc) (hm : lastMarks [op, op'] [b, c] = false := by with_unfolding_all rfl) :
    CT X Wx (.Compare a [op, op'] [b, c] pos) (tTest (tChain r r' ta tb tc)) (tmV (eChain f g ma mb mc)) := ⟨pt_chain ho ho' ha.pe hb.pe hc.pe hm, sem_test (sem_chain ha.sem hb.sem hc.sem hf hg)⟩

/-! functions of values -/
theorem FnS.or {r r' : List V → Hp → VK → Prop} {f f' : F1} (h : FnS K r f) (h' : FnS K r' f') : FnS K (fun xs H Q => r xs H Q ∨ r' xs H Q) (fun st ws => match f st ws with | some w => some w | none => f' st ws) := fun G H ws vs w Q wo rl e q => by
  dsimp only at e
  cases e1 : f G.st ws with
  | some z => rw [e1] at e; cases e; exact .inl (h G H ws vs w Q wo rl e1 q)
  | none => rw [e1] at e; exact .inr (h' G H ws vs w Q wo rl e q)
def lenOf (st : Stt) : W → Option Nat
  | .str z => if z.length ≤ 100000 then some z.length else none
  | .dic kvs => some kvs.length
  | .loc n => match st[n]? with
    | some (some (.lst ws)) => some ws.length
    | some (some (.dic kvs)) => some kvs.length
    | _ => none
  | w => (seqOf st w).map List.length
def fLen : F1 := fun st ws => match ws with
  | [x] => (lenOf st x).map fun n => .int (n : Int)
  | _ => none
def rLen (K : PySem.W.Frag) : List V → Hp → VK → Prop := fun xs H Q => (∃ x n, xs = [x] ∧ LenV K x H n ∧ Q (.int n) H) ∨ ∃ a kvs, xs = [V.ref a] ∧ Rd H a (.dK kvs) ∧ Q (.int kvs.length) H
theorem RepK.length {kws : List (Key × W)} {kvs : List (Key × V)} (h : RepK K G H kws kvs) : kws.length = kvs.length := by
  induction kws generalizing kvs with
  | nil => cases h; rfl
  | cons a b ih => cases h with
    | cons p q => simp [ih q]
theorem call_len_any : CallR X (.builtin "len") (rLen X.K) := by
  refine call_len.or ?_
  intro pins s σ H xs us Q I r h
  obtain ⟨a, kvs, rfl, ha, q⟩ := h
  obtain ⟨u, rfl, ru⟩ := vals1 r
  cases ru
  exact d_len I ha fun t s' I' => ⟨.int kvs.length, H, I', ⟨t, rfl⟩, q⟩
theorem fs_len : FnS K (rLen K) fLen := fun G H ws vs w Q wo rl e q => by
  unfold fLen at e
  split at e
  · rename_i x
    obtain ⟨v, rfl, rx⟩ := rl.one
    have seqs : ∀ us, seqOf G.st x = some us → w = .int (us.length : Int) → rLen K [v] H Q := fun us es ew => by
      obtain ⟨a, vs, rfl, sq, rl⟩ := seq_sq wo rx es
      refine .inl ⟨_, vs.length, rfl, ?_, ?_⟩
      · rcases sq with sq | sq
        · exact .inl ⟨vs, sq, rfl⟩
        · exact .inr ⟨vs, sq, rfl⟩
      · rw [← rl.length]
        subst ew
        exact PostV.val wo q (.int _)
    cases x with
    | str z =>
      rw [lenOf] at e
      split at e
      · rename_i hz
        cases e
        cases rx.str_inv
        exact .inl ⟨_, z.length, rfl, ⟨Nat.le_trans hz (by decide), rfl⟩, PostV.val wo q (.int _)⟩
      · cases e
    | dic kvs =>
      cases e
      cases rx with
      | dic h rk => exact .inr ⟨_, _, rfl, h.1, by rw [← rk.length]; exact PostV.val wo q (.int _)⟩
    | loc n =>
      rw [lenOf] at e
      split at e
      · rename_i us h
        cases e
        exact seqs us (by unfold seqOf; dsimp only; rw [h]) rfl
      · rename_i kvs h
        cases e
        cases rx with
        | loc hl =>
          obtain ⟨ks, e1, rk⟩ := wo.at' _ _ _ hl h
          exact .inr ⟨_, _, rfl, .inl e1, by rw [← rk.length]; exact PostV.val wo q (.int _)⟩
      · cases e
    | tup us => cases e; exact seqs us rfl rfl
    | lst us => cases e; exact seqs us rfl rfl
    | scr us => cases e; exact seqs us rfl rfl
    | _ => cases e
  · cases e
end
end Sim
end
section
set_option Elab.async false
set_option linter.all false
set_option maxRecDepth 100000
set_option maxHeartbeats 1000000
open PySem PySem.Spec PyProof.Rows L2
namespace Sim
/-! sorting texts -/
def leS (a b : Str) : Bool := !decide (b.cps.toList < a.cps.toList)
def sortS (xs : List Str) : List Str := xs.mergeSort leS
theorem leS_iff {a b : Str} : leS a b = true ↔ a.cps.toList ≤ b.cps.toList := by
  unfold leS
  rw [Bool.not_eq_true', decide_eq_false_iff_not]
  exact Iff.rfl
theorem leS_trans (a b c : Str) (h : leS a b = true) (k : leS b c = true) : leS a c = true := leS_iff.mpr (List.le_trans (leS_iff.mp h) (leS_iff.mp k))
theorem leS_total (a b : Str) : (leS a b || leS b a) = true := by
  rw [Bool.or_eq_true, leS_iff, leS_iff]
  exact List.le_total _ _
theorem leS_antisymm {a b : Str} (h : leS a b = true) (k : leS b a = true) : a = b := by
  have := List.le_antisymm (leS_iff.mp h) (leS_iff.mp k)
  obtain ⟨⟨x⟩⟩ := a
  obtain ⟨⟨y⟩⟩ := b
  have e : x = y := this
  rw [e]
theorem rising_le : ∀ {xs : List Str} {x : Str}, risingS x xs = true → ∀ y ∈ xs, leS x y = true
  | y :: r, x, h, z, hz => by
    rw [risingS, Bool.and_eq_true, ltCps_eq] at h
    have h1 : leS x y = true := h.1
    rcases List.mem_cons.mp hz with e | hz
    · rw [e]; exact h1
    · exact leS_trans _ _ _ h1 (rising_le h.2 z hz)
theorem rising_pair : ∀ {xs : List Str} {x : Str}, risingS x xs = true → List.Pairwise (fun a b => leS a b = true) (x :: xs)
  | [], x, _ => .cons (fun _ h => nomatch h) .nil
  | y :: r, x, h => .cons (rising_le h) (by
    rw [risingS, Bool.and_eq_true] at h
    exact rising_pair h.2)
theorem sorted_pair {xs : List Str} (h : sortedS xs = true) : List.Pairwise (fun a b => leS a b = true) xs := by
  cases xs with
  | nil => exact .nil
  | cons x r => exact rising_pair h
theorem sortS_pair (xs : List Str) : List.Pairwise (fun a b => leS a b = true) (sortS xs) := List.pairwise_mergeSort leS_trans leS_total xs
theorem sortS_perm (xs : List Str) : (sortS xs).Perm xs := List.mergeSort_perm xs leS
theorem sorted_eq {xs ys : List Str} (hp : ys.Perm xs) (h : sortedS ys = true) : ys = sortS xs :=
  List.Perm.eq_of_pairwise (le := fun a b => leS a b = true) (fun a b _ _ x y => leS_antisymm x y) (sorted_pair h) (sortS_pair xs) (hp.trans (sortS_perm xs).symm)

def strsOf : List W → Option (List Str)
  | [] => some []
  | .str x :: ws => (strsOf ws).map (x :: ·)
  | _ => none
def intsOf : List W → Option (List Int)
  | [] => some []
  | .int x :: ws => (intsOf ws).map (x :: ·)
  | _ => none
def blsOf : List W → Option (List Bool)
  | [] => some []
  | .bl x :: ws => (blsOf ws).map (x :: ·)
  | _ => none
theorem strsOf_eq : ∀ {ws : List W} {xs : List Str}, strsOf ws = some xs → ws = xs.map .str
  | [], xs, h => by cases h; rfl
  | .str x :: ws, xs, h => by
    rw [strsOf] at h
    cases e : strsOf ws with
    | none => rw [e] at h; cases h
    | some ys => rw [e] at h; cases h; rw [strsOf_eq e]; rfl
  | .non :: _, _, h => by simp [strsOf] at h
  | .bl _ :: _, _, h => by simp [strsOf] at h
  | .int _ :: _, _, h => by simp [strsOf] at h
  | .ty _ :: _, _, h => by simp [strsOf] at h
  | .obj _ :: _, _, h => by simp [strsOf] at h
  | .tup _ :: _, _, h => by simp [strsOf] at h
  | .lst _ :: _, _, h => by simp [strsOf] at h
  | .dic _ :: _, _, h => by simp [strsOf] at h
  | .loc _ :: _, _, h => by simp [strsOf] at h
  | .prs _ :: _, _, h => by simp [strsOf] at h
  | .scr _ :: _, _, h => by simp [strsOf] at h
theorem intsOf_eq : ∀ {ws : List W} {xs : List Int}, intsOf ws = some xs → ws = xs.map .int
  | [], xs, h => by cases h; rfl
  | .int x :: ws, xs, h => by
    rw [intsOf] at h
    cases e : intsOf ws with
    | none => rw [e] at h; cases h
    | some ys => rw [e] at h; cases h; rw [intsOf_eq e]; rfl
  | .non :: _, _, h => by simp [intsOf] at h
  | .bl _ :: _, _, h => by simp [intsOf] at h
  | .str _ :: _, _, h => by simp [intsOf] at h
  | .ty _ :: _, _, h => by simp [intsOf] at h
  | .obj _ :: _, _, h => by simp [intsOf] at h
  | .tup _ :: _, _, h => by simp [intsOf] at h
  | .lst _ :: _, _, h => by simp [intsOf] at h
  | .dic _ :: _, _, h => by simp [intsOf] at h
  | .loc _ :: _, _, h => by simp [intsOf] at h
  | .prs _ :: _, _, h => by simp [intsOf] at h
  | .scr _ :: _, _, h => by simp [intsOf] at h
theorem blsOf_eq : ∀ {ws : List W} {xs : List Bool}, blsOf ws = some xs → ws = xs.map .bl
  | [], xs, h => by cases h; rfl
  | .bl x :: ws, xs, h => by
    rw [blsOf] at h
    cases e : blsOf ws with
    | none => rw [e] at h; cases h
    | some ys => rw [e] at h; cases h; rw [blsOf_eq e]; rfl
  | .non :: _, _, h => by simp [blsOf] at h
  | .int _ :: _, _, h => by simp [blsOf] at h
  | .str _ :: _, _, h => by simp [blsOf] at h
  | .ty _ :: _, _, h => by simp [blsOf] at h
  | .obj _ :: _, _, h => by simp [blsOf] at h
  | .tup _ :: _, _, h => by simp [blsOf] at h
  | .lst _ :: _, _, h => by simp [blsOf] at h
  | .dic _ :: _, _, h => by simp [blsOf] at h
  | .loc _ :: _, _, h => by simp [blsOf] at h
  | .prs _ :: _, _, h => by simp [blsOf] at h
  | .scr _ :: _, _, h => by simp [blsOf] at h
section
variable {X : Cx} {Wx : WX} {K : PySem.W.Frag} {G : Gm} {H : Hp}
theorem RepL.strs : ∀ {xs : List Str} {vs : List V}, RepL K G H (xs.map .str) vs → vs = xs.map .str
  | [], _, h => by cases h; rfl
  | x :: xs, _, h => by
    cases h with
    | cons a b => rw [a.str_inv, RepL.strs b]; rfl
theorem RepL.ints : ∀ {xs : List Int} {vs : List V}, RepL K G H (xs.map .int) vs → vs = xs.map .int
  | [], _, h => by cases h; rfl
  | x :: xs, _, h => by
    cases h with
    | cons a b => rw [a.int_inv, RepL.ints b]; rfl
theorem RepL.bls : ∀ {xs : List Bool} {vs : List V}, RepL K G H (xs.map .bl) vs → vs = xs.map .bl
  | [], _, h => by cases h; rfl
  | x :: xs, _, h => by
    cases h with
    | cons a b => rw [a.bl_inv, RepL.bls b]; rfl
theorem rep_strs : ∀ {xs : List Str}, RepL K G H (xs.map .str) (xs.map .str)
  | [] => .nil
  | x :: xs => .cons (.str x) rep_strs
theorem rep_ints : ∀ {xs : List Int}, RepL K G H (xs.map .int) (xs.map .int)
  | [] => .nil
  | x :: xs => .cons (.int x) rep_ints

/-! isinstance -/
def tyW (st : Stt) : W → Option String
  | .non => some "NoneType"
  | .bl _ => some "bool"
  | .int _ => some "int"
  | .str _ => some "str"
  | .tup _ => some "tuple"
  | .lst _ => some "list"
  | .dic _ => some "dict"
  | .loc n => match st[n]? with
    | some (some (.lst _)) => some "list"
    | some (some (.dic _)) => some "dict"
    | _ => none
  | _ => none
theorem tyW_x {w : W} {v : V} {t : String} (wo : World K G H) (r : RepV K G H w v) (e : tyW G.st w = some t) : TyX K H v (.type t) := by
  cases r with
  | non => cases e; exact .base .non
  | bl b => cases e; exact .base (.bl b)
  | int b => cases e; exact .base (.int b)
  | str b => cases e; exact .base (.str b)
  | tup h _ =>
    cases e
    rcases h with ⟨⟨o, _, q⟩, _⟩ | ⟨o, its, n, h1, h2, _⟩
    · exact .fTuple q
    · exact .kTuple h1 h2
  | lst h _ => cases e; exact .base (.lst h.1)
  | dic h _ =>
    cases e
    rcases h.1 with q | ⟨o, q⟩
    · exact .base (.dK q)
    · exact .fDict q
  | loc h =>
    unfold tyW at e
    dsimp only at e
    split at e
    · rename_i q
      cases e
      obtain ⟨vs, e1, _⟩ := wo.at' _ _ _ h q
      exact .base (.lst e1)
    · rename_i q
      cases e
      obtain ⟨vs, e1, _⟩ := wo.at' _ _ _ h q
      exact .base (.dK e1)
    · cases e
  | _ => cases e
def fIsi : F1 := fun st ws => match ws with
  | [x, .ty T] => match tyW st x with
    | some t => (kitB t T).map .bl
    | none => none
  | _ => none
theorem fs_isi : FnS K (rIsi K) fIsi := fun G H ws vs w Q wo rl e q => by
  unfold fIsi at e
  split at e
  · rename_i x T
    split at e
    · rename_i t et
      cases ek : kitB t T with
      | none => rw [ek] at e; cases e
      | some b =>
        rw [ek] at e
        cases e
        obtain ⟨v, u, rfl, rx, ru⟩ := rl.two
        cases ru
        exact ⟨v, .ty T, _, _, b, rfl, .ty T, tyW_x wo rx et, kit_ty ek, PostV.val wo q (.bl b)⟩
    · cases e
  · cases e
def kitAnyB (t : String) : List String → Option Bool
  | [] => some false
  | n :: r => match kitB t n with
    | some true => some true
    | some false => kitAnyB t r
    | none => none
def eIsiT (m : EM) (ns : List String) : EM := fun ρ st => (m ρ st).bind fun x st1 => match tyW st1 x with
  | some t => match kitAnyB t ns with
    | some b => .ok (.bl b) st1
    | none => .no
  | none => .no
/-! numbers and rows of them -/
def fAbs : F1 := fun _ ws => match ws with
  | [.int i] => some (.int (if i < 0 then -i else i))
  | _ => none
def maxI : List Int → Int
  | [] => 0
  | [a] => a
  | a :: b :: r => max a (maxI (b :: r))
def minI : List Int → Int
  | [] => 0
  | [a] => a
  | a :: b :: r => min a (minI (b :: r))
theorem maxI_mem : ∀ {l : List Int}, l ≠ [] → maxI l ∈ l ∧ ∀ y ∈ l, y ≤ maxI l
  | [a], _ => by simp [maxI]
  | a :: b :: r, _ => by
    obtain ⟨h1, h2⟩ := maxI_mem (l := b :: r) (by simp)
    rw [maxI]
    refine ⟨?_, fun y hy => ?_⟩
    · by_cases h : a ≤ maxI (b :: r)
      · rw [Int.max_eq_right h]; exact List.mem_cons_of_mem _ h1
      · rw [Int.max_eq_left (by omega)]; exact List.mem_cons_self
    · rcases List.mem_cons.mp hy with e | hy
      · rw [e]; exact Int.le_max_left _ _
      · exact Int.le_trans (h2 y hy) (Int.le_max_right _ _)
theorem minI_mem : ∀ {l : List Int}, l ≠ [] → minI l ∈ l ∧ ∀ y ∈ l, minI l ≤ y
  | [a], _ => by simp [minI]
  | a :: b :: r, _ => by
    obtain ⟨h1, h2⟩ := minI_mem (l := b :: r) (by simp)
    rw [minI]
    refine ⟨?_, fun y hy => ?_⟩
    · by_cases h : minI (b :: r) ≤ a
      · rw [Int.min_eq_right h]; exact List.mem_cons_of_mem _ h1
      · rw [Int.min_eq_left (by omega)]; exact List.mem_cons_self
    · rcases List.mem_cons.mp hy with e | hy
      · rw [e]; exact Int.min_le_left _ _
      · exact Int.le_trans (Int.min_le_right _ _) (h2 y hy)
def fMax : F1 := fun st ws => match ws with
  | [.int i, .int j] => some (.int (if j > i then j else i))
  | [x] => match (lstOf st x).bind intsOf with
    | some ns => if ns ≠ [] then some (.int (maxI ns)) else none
    | none => none
  | _ => none
def fMin : F1 := fun st ws => match ws with
  | [.int i, .int j] => some (.int (if j < i then j else i))
  | [x] => match (lstOf st x).bind intsOf with
    | some ns => if ns ≠ [] then some (.int (minI ns)) else none
    | none => none
  | _ => none
def rMaxU (K : PySem.W.Frag) : List V → Hp → VK → Prop := fun xs H Q => (∃ i j, xs = [.int i, .int j] ∧ Q (.int (if j > i then j else i)) H) ∨ rMax K xs H Q
def rMinU (K : PySem.W.Frag) : List V → Hp → VK → Prop := fun xs H Q => (∃ i j, xs = [.int i, .int j] ∧ Q (.int (if j < i then j else i)) H) ∨ rMin K xs H Q
theorem cr_maxU (hc : X.calm = true) : CallR X (.builtin "max") (rMaxU X.K) := (call_max2 hc).or (cr_max hc)
theorem cr_minU (hc : X.calm = true) : CallR X (.builtin "min") (rMinU X.K) := (call_min2 hc).or (cr_min hc)
theorem lst_ints {x : W} {v : V} {ns : List Int} (wo : World K G H) (rx : RepV K G H x v) (e : (lstOf G.st x).bind intsOf = some ns) : ∃ a, v = .ref a ∧ SqL K H a (ns.map .int) := by
  cases e1 : lstOf G.st x with
  | none => rw [e1] at e; cases e
  | some us =>
    rw [e1] at e
    obtain ⟨a, vs, rfl, sq, rl⟩ := lst_sq wo rx e1
    rw [intsOf_eq e] at rl
    rw [rl.ints] at sq
    exact ⟨a, rfl, sq⟩
theorem lst_bls {x : W} {v : V} {ns : List Bool} (wo : World K G H) (rx : RepV K G H x v) (e : (lstOf G.st x).bind blsOf = some ns) : ∃ a, v = .ref a ∧ SqL K H a (ns.map .bl) := by
  cases e1 : lstOf G.st x with
  | none => rw [e1] at e; cases e
  | some us =>
    rw [e1] at e
    obtain ⟨a, vs, rfl, sq, rl⟩ := lst_sq wo rx e1
    rw [blsOf_eq e] at rl
    rw [rl.bls] at sq
    exact ⟨a, rfl, sq⟩
theorem fs_max : FnS K (rMaxU K) fMax := fun G H ws vs w Q wo rl e q => by
  unfold fMax at e
  split at e
  · cases e
    obtain ⟨v, u, rfl, rx, ry⟩ := rl.two
    cases rx.int_inv; cases ry.int_inv
    exact .inl ⟨_, _, rfl, PostV.val wo q (.int _)⟩
  · split at e
    · rename_i ns en
      split at e
      · rename_i hne
        cases e
        obtain ⟨v, rfl, rx⟩ := rl.one
        obtain ⟨a, rfl, sq⟩ := lst_ints wo rx en
        refine .inr ⟨a, ns, rfl, sq, List.length_pos_iff.mpr hne, fun m hm hle => ?_⟩
        obtain ⟨h1, h2⟩ := maxI_mem hne
        have : m = maxI ns := Int.le_antisymm (h2 m hm) (hle _ h1)
        subst this
        exact PostV.val wo q (.int _)
      · cases e
    · cases e
  · cases e
theorem fs_min : FnS K (rMinU K) fMin := fun G H ws vs w Q wo rl e q => by
  unfold fMin at e
  split at e
  · cases e
    obtain ⟨v, u, rfl, rx, ry⟩ := rl.two
    cases rx.int_inv; cases ry.int_inv
    exact .inl ⟨_, _, rfl, PostV.val wo q (.int _)⟩
  · split at e
    · rename_i ns en
      split at e
      · rename_i hne
        cases e
        obtain ⟨v, rfl, rx⟩ := rl.one
        obtain ⟨a, rfl, sq⟩ := lst_ints wo rx en
        refine .inr ⟨a, ns, rfl, sq, List.length_pos_iff.mpr hne, fun m hm hle => ?_⟩
        obtain ⟨h1, h2⟩ := minI_mem hne
        have : m = minI ns := Int.le_antisymm (hle _ h1) (h2 m hm)
        subst this
        exact PostV.val wo q (.int _)
      · cases e
    · cases e
  · cases e
def fAll : F1 := fun st ws => match ws with
  | [x] => match (lstOf st x).bind blsOf with
    | some bs => some (.bl (bs.all id))
    | none => none
  | _ => none
theorem fs_all : FnS K (rAll K) fAll := fun G H ws vs w Q wo rl e q => by
  unfold fAll at e
  split at e
  · split at e
    · rename_i ns en
      cases e
      obtain ⟨v, rfl, rx⟩ := rl.one
      obtain ⟨a, rfl, sq⟩ := lst_bls wo rx en
      exact ⟨a, ns, rfl, sq, PostV.val wo q (.bl _)⟩
    · cases e
  · cases e

/-! list(x), tuple(x), sorted(x) -/
def fList : FL := fun st ws => match ws with
  | [.str z] => if z.length ≤ 100000 then some (z.cps.toList.map fun c => .str ⟨#[c]⟩) else none
  | [x] => seqOf st x
  | _ => none
def rListU (K : PySem.W.Frag) : List V → Hp → VK → Prop := fun xs H Q => (∃ p ys, xs = [.ref p] ∧ (SqL K H p ys ∨ SqT K H p ys) ∧ ∀ l, H l = none → Q (.ref l) (upd H l (.lst ys))) ∨ Low.rListStr xs H Q
theorem cr_listU (hc : X.calm = true) : CallR X (.type "list") (rListU X.K) := call_list_of.or (Low.call_list_txt hc)
theorem rep_signs : ∀ {cs : List Nat}, RepL K G H (cs.map fun c => .str ⟨#[c]⟩) (cs.map fun c => .str ⟨#[c]⟩)
  | [] => .nil
  | _ :: _ => .cons (.str _) rep_signs
theorem fn_list : FnN K (rListU K) fList := fun G H ws vs us Q wo rl e q => by
  unfold fList at e
  split at e
  · split at e
    · rename_i z hz
      cases e
      obtain ⟨v, rfl, rx⟩ := rl.one
      cases rx.str_inv
      exact .inr ⟨z, rfl, Nat.le_trans hz (by decide), fun l hl => q l _ hl rep_signs⟩
    · cases e
  · obtain ⟨v, rfl, rx⟩ := rl.one
    obtain ⟨a, vs, rfl, sq, rl⟩ := seq_sq wo rx e
    exact .inl ⟨a, vs, rfl, sq, fun l hl => q l vs hl rl⟩
  · cases e
def rTupF (K : PySem.W.Frag) : List V → Hp → VK → Prop := fun xs H Q => ∃ p ys, xs = [.ref p] ∧ ((SqL K H p ys ∧ ∀ (l : Addr) (o : Obj), o.dict = none → H l = none → Q (.ref l) (upd H l (.frz o (.tup ys)))) ∨ (SqT K H p ys ∧ Q (.ref p) H))
theorem cr_tupF : CallR X (.type "tuple") (rTupF X.K) := by
  intro pins s σ H xs us Q I r h
  obtain ⟨p, ys, rfl, h⟩ := h
  obtain ⟨u, rfl, rx⟩ := vals1 r
  cases rx
  rcases h with ⟨hq, q⟩ | ⟨hq, q⟩
  · obtain ⟨its, r', pl, hz⟩ := I.list hq
    have hlen := r'.length
    refine call_tuple_list pl.isList (fun h' kp => ?_) (by simp only [List.size_toArray]; omega)
    have I1 : L2.Inv X pins σ H { s with heap := h' } := I.kept (t' := s.toks) kp
    exact tup_laid (s := s) (h' := h') (tk := s.toks) I1 r' hz q
  · obtain ⟨its, r', pl, hz⟩ := I.tuple hq
    exact call_tuple_same pl ⟨.ref p, H, I, rfl, q⟩
def fTuple : F1 := fun st ws => match ws with
  | [.tup us] => some (.tup us)
  | [x] => (lstOf st x).map .tup
  | _ => none
theorem fs_tuple : FnS K (rTupF K) fTuple := fun G H ws vs w Q wo rl e q => by
  unfold fTuple at e
  split at e
  · cases e
    obtain ⟨v, rfl, rx⟩ := rl.one
    obtain ⟨a, vs, rfl, sq, _⟩ := tup_sq rx
    exact ⟨a, vs, rfl, .inr ⟨sq, PostV.val wo q rx⟩⟩
  · rename_i x hn
    cases ex : lstOf G.st x with
    | none => rw [ex] at e; cases e
    | some us =>
      rw [ex] at e
      cases e
      obtain ⟨v, rfl, rx⟩ := rl.one
      obtain ⟨a, vs, rfl, sq, rl⟩ := lst_sq wo rx ex
      exact ⟨a, vs, rfl, .inl ⟨sq, fun l o hd hl => PostV.newT wo q rl hd hl⟩⟩
  · cases e
def fSorted : FL := fun st ws => match ws with
  | [x] => match (seqOf st x).bind strsOf with
    | some xs => if xs.length < 64 then some ((sortS xs).map .str) else none
    | none => none
  | _ => none
def rSortedU (K : PySem.W.Frag) : List V → Hp → VK → Prop := fun xs H Q => rSortedS K xs H Q ∨ Low.rSortedT K xs H Q
theorem cr_sortedU : CallR X (.builtin "sorted") (rSortedU X.K) := cr_sortedS.or Low.cr_sortedT
theorem seq_strs {x : W} {v : V} {xs : List Str} (wo : World K G H) (rx : RepV K G H x v) (e : (seqOf G.st x).bind strsOf = some xs) : ∃ a, v = .ref a ∧ (SqL K H a (xs.map .str) ∨ SqT K H a (xs.map .str)) := by
  cases e1 : seqOf G.st x with
  | none => rw [e1] at e; cases e
  | some us =>
    rw [e1] at e
    obtain ⟨a, vs, rfl, sq, rl⟩ := seq_sq wo rx e1
    rw [strsOf_eq e] at rl
    rw [rl.strs] at sq
    exact ⟨a, rfl, sq⟩
theorem fn_sorted : FnN K (rSortedU K) fSorted := fun G H ws vs us Q wo rl e q => by
  unfold fSorted at e
  split at e
  · split at e
    · rename_i xs en
      split at e
      · rename_i h64
        cases e
        obtain ⟨v, rfl, rx⟩ := rl.one
        obtain ⟨a, rfl, sq⟩ := seq_strs wo rx en
        have fin : ∀ (ys : List Str) (p : Addr), ys.Perm xs → sortedS ys = true → H p = none → Q (.ref p) (upd H p (.lst (ys.map .str))) := fun ys p hp hs hn => by
          rw [sorted_eq hp hs]
          exact q p _ hn rep_strs
        rcases sq with sq | sq
        · exact .inl ⟨a, xs, rfl, sq, h64, fin⟩
        · exact .inr ⟨a, xs, rfl, sq, h64, fin⟩
      · cases e
    · cases e
  · cases e
/-- len(set(x)) -/
def eLenSet (m : EM) : EM := fun ρ st => (m ρ st).bind fun x st1 => match (seqOf st1 x).bind strsOf with
  | some xs => if xs.length ≤ 1000 then .ok (.int ((Low.nubS xs).length : Int)) st1 else .no
  | none => .no
theorem ce_lenSet {a : Expr} {ta : TE} {m : EM} {p p2 q pos : Pos} (hc : X.calm = true) (hg : Gl X "len") (hm : X.mg "len" = none) (hg2 : Gl X "set") (hm2 : X.mg "set" = none) (ha : CE X Wx a ta m) (na : starEach [a] X.env = (false, eval a X.env) :: starEach [] X.env := by rfl) :
    CE X Wx (.Call (.Name "len" p) [.Call (.Name "set" p2) [a] [] q] [] pos) (Low.tLenSet X.K ta) (eLenSet m) := by
  refine ⟨Low.pe_lenSet hc hg hm hg2 hm2 ha.pe na, fun G H ρ σ Q w r hp => ?_⟩
  refine ha.sem G H ρ σ _ w r (PostR.bind hp fun y st1 ls1 H1 v q1 e1 w1 rv h1 => ?_)
  clear q1
  split at h1
  · rename_i xs ex
    split at h1
    · rename_i hl
      obtain ⟨a, rfl, sq⟩ := seq_strs (G := G.to ls1 st1) w1 rv ex
      exact ⟨a, xs, rfl, sq, hl, PostR.ok (G := G.to ls1 st1) w1 h1 (.int _)⟩
    · exact h1.elim
  · exact h1.elim
end
end Sim
end
section
set_option Elab.async false
set_option linter.all false
set_option maxRecDepth 100000
set_option maxHeartbeats 1000000
open PySem PySem.Spec PyProof.Rows L2
namespace Sim
section
variable {X : Cx} {Wx : WX} {K : PySem.W.Frag} {G : Gm} {H : Hp}

/-! methods of lists -/
abbrev MF := W → List W → Stt → Rs W
def MtS (K : PySem.W.Frag) (r : V → List V → Hp → VK → Prop) (mf : MF) : Prop := ∀ (G : Gm) (H : Hp) (x : W) (v : V) (ws : List W) (vs : List V) (Wy : Value → Option Addr → Hp → Prop) (Q : VK), World K G H → RepV K G H x v → RepL K G H ws vs → PostR K (RepV K) Wy G H (mf x ws G.st) Q → r v vs H Q
def eBM (m : EM) (as : AM) (mf : MF) : EM := fun ρ st => (m ρ st).bind fun x st1 => match lstX st1 x with
  | some _ => (as ρ st1).bind fun ws st2 => mf x ws st2
  | none => .no
theorem RepV.lst_ty {x : W} {v : V} {us : List W} (wo : World K G H) (r : RepV K G H x v) (e : lstX G.st x = some us) : tyV K "list" v H := by
  obtain ⟨a, vs, rfl, e1, _⟩ := lst_x wo r e
  exact .inl ⟨rfl, vs, .inl (.inl e1)⟩
theorem ce_bm {o e : Expr} {es : List Expr} {to : TE} {t : TA} {mo : EM} {as : AM} {name : Str} {apos cpos : Pos} {id : String} {r : V → List V → Hp → VK → Prop} {mf : MF} (slot : Slot "list" name id) (hty : typeOf (.builtin id) = pure (.type "method_descriptor")) (hm : MtR X id r) (hf : MtS X.K r mf) (ho : CE X Wx o to mo) (ha : CA X Wx (e :: es) t as)
    (hbase : attributeBase o name X.env (eval o X.env) = eval o X.env := by rfl)
    (hfew : ((backTo cpos (starEach (e :: es) X.env)).all (fun x => !x.1) && (backToKw cpos (keywordEach [] X.env)).all (fun x => x.1.isSome) && decide ((e :: es).length + ([] : List Keyword).length + (if ([] : List Keyword).isEmpty then 0 else 1) < 30)) = true := by rfl)
    (hline : (apos.endLine == cpos.line) = true := by rfl) (hs : starEach (e :: es) X.env = (false, eval e X.env) :: starEach es X.env := by rfl) (hplain : (backTo cpos (starEach es X.env)).any (·.1) = false := by rfl) :
    CE X Wx (.Call (.Attribute o name apos) (e :: es) [] cpos) (tBM X.K "list" r to t) (eBM mo as mf) := by
  refine ⟨pe_bm PySem.F.plainAttrs_list slot hty hm ho.pe ha.pe hbase hfew hline hs hplain, fun G H ρ σ Q w rr h => ?_⟩
  refine ho.sem G H ρ σ _ w rr (PostR.bind h fun x st1 ls1 H1 v q1 e1 w1 rv h1 => ?_)
  clear q1
  cases ex : lstX st1 x with
  | none => rw [ex] at h1; exact h1.elim
  | some us =>
    rw [ex] at h1
    refine ⟨RepV.lst_ty (G := G.to ls1 st1) w1 rv ex, ?_⟩
    refine ha.sem (G.to ls1 st1) H1 ρ σ _ w1 (rr.mono e1) (PostR.bind h1 fun ws st2 ls2 H2 vs q2 e2 w2 rvs h2 => ?_)
    exact hf (G.to ls2 st2) H2 x v ws vs _ Q w2 (rv.mono e2) rvs h2
theorem ce_bm0 {o : Expr} {to : TE} {mo : EM} {name : Str} {apos cpos : Pos} {id : String} {r : V → List V → Hp → VK → Prop} {mf : MF} (slot : Slot "list" name id) (hty : typeOf (.builtin id) = pure (.type "method_descriptor")) (hm : MtR X id r) (hf : MtS X.K r mf) (ho : CE X Wx o to mo)
    (hbase : attributeBase o name X.env (eval o X.env) = eval o X.env := by rfl) (hline : (apos.endLine == cpos.line) = true := by rfl) : CE X Wx (.Call (.Attribute o name apos) [] [] cpos) (tBM0 X.K "list" r to) (eBM mo aNil mf) := by
  refine ⟨pe_bm0 PySem.F.plainAttrs_list slot hty hm ho.pe hbase hline, fun G H ρ σ Q w rr h => ?_⟩
  refine ho.sem G H ρ σ _ w rr (PostR.bind h fun x st1 ls1 H1 v q1 e1 w1 rv h1 => ?_)
  clear q1
  cases ex : lstX st1 x with
  | none => rw [ex] at h1; exact h1.elim
  | some us =>
    rw [ex] at h1
    exact ⟨RepV.lst_ty (G := G.to ls1 st1) w1 rv ex, hf (G.to ls1 st1) H1 x v [] [] _ Q w1 rv .nil h1⟩
theorem post_put {Wy : Value → Option Addr → Hp → Prop} {n : Nat} {a : Addr} {ob ob0 : Ob} {o : HO} {Q : VK} {r : W} {v : V} (w : World K G H) (e1 : G.ls[n]? = some a) (e2 : G.st[n]? = some (some ob0)) (h : PostR K (RepV K) Wy G H (.ok r (G.st.set n (some ob))) Q)
    (ho : RepO K (G.put n ob) (upd H a o) a ob) (hr : RepV K G H r v) : Q v (upd H a o) := h G.ls _ v (Ext.put w e1 e2) (w.put e1 e2 ho) (hr.mono (Ext.put w e1 e2))
/-- what a list that is changed becomes, and what the change tells -/
def mUp (f : List W → List W → Stt → Option (W × List W)) : MF := fun x ws st => match x with
  | .loc n => match st[n]? with
    | some (some (.lst us)) => match f us ws st with
      | some (r, us') => .ok r (st.set n (some (.lst us')))
      | none => .no
    | _ => .no
  | _ => .no
theorem mt_up {r : V → List V → Hp → VK → Prop} {f : List W → List W → Stt → Option (W × List W)}
    (hf : ∀ (G : Gm) (H : Hp) (a : Addr) (us ws : List W) (zs vs : List V) (y : W) (us' : List W) (Q : VK), World K G H → H a = some (.lst zs) → RepL K G H us zs → RepL K G H ws vs → f us ws G.st = some (y, us') → (∀ (v : V) (zs' : List V), RepV K G H y v → RepL K G H us' zs' → Q v (upd H a (.lst zs'))) → r (.ref a) vs H Q) : MtS K r (mUp f) := fun G H x v ws vs Wy Q wo rx rl h => by
  unfold mUp at h
  split at h
  · rename_i n
    cases rx with
    | loc hl =>
      split at h
      · rename_i us hs
        obtain ⟨zs, hz, rz⟩ := wo.at' _ _ _ hl hs
        cases e : f us ws G.st with
        | none => rw [e] at h; exact h.elim
        | some p =>
          obtain ⟨y, us'⟩ := p
          rw [e] at h
          refine hf G H _ us ws zs vs y us' Q wo hz rz rl e fun v zs' rv rz' => post_put wo hl hs h ⟨zs', upd_same, rz'.mono (Ext.put wo hl hs)⟩ rv
      · exact h.elim
  · exact h.elim
def fAppend : List W → List W → Stt → Option (W × List W) := fun us ws _ => match ws with
  | [y] => if us.length < 100000 then some (.non, us ++ [y]) else none
  | _ => none
theorem ms_append : MtS K rAppend (mUp fAppend) := mt_up fun G H a us ws zs vs y us' Q wo hz rz rl e q => by
  unfold fAppend at e
  split at e
  · split at e
    · rename_i hl
      cases e
      obtain ⟨v, rfl, rv⟩ := rl.one
      exact ⟨a, zs, v, rfl, rfl, hz, Nat.lt_of_lt_of_le (by rw [← rz.length]; exact hl) (by decide), q _ _ .non (rz.app (.cons rv .nil))⟩
    · cases e
  · cases e
def fExtend : List W → List W → Stt → Option (W × List W) := fun us ws st => match ws with
  | [y] => match lstX st y with
    | some ys => if us.length + ys.length ≤ 100000 then some (.non, us ++ ys) else none
    | none => none
  | _ => none
theorem ms_extend : MtS K rExtend (mUp fExtend) := mt_up fun G H a us ws zs vs y us' Q wo hz rz rl e q => by
  unfold fExtend at e
  split at e
  · split at e
    · rename_i ys ey
      split at e
      · rename_i hl
        cases e
        obtain ⟨v, rfl, rv⟩ := rl.one
        obtain ⟨b, ts, rfl, hb, rt⟩ := lst_x wo rv ey
        exact ⟨a, b, zs, ts, rfl, rfl, hz, hb, Nat.le_trans (by rw [← rz.length, ← rt.length]; exact hl) (by decide), q _ _ .non (rz.app rt)⟩
      · cases e
    · cases e
  · cases e
theorem RepL.erase {ws : List W} {vs : List V} (h : RepL K G H ws vs) : ∀ n : Nat, RepL K G H (ws.eraseIdx n) (vs.eraseIdx n) := by
  intro n
  induction n generalizing ws vs with
  | zero => cases h with
    | nil => exact .nil
    | cons a b => exact b
  | succ n ih => cases h with
    | nil => exact .nil
    | cons a b => exact .cons a (ih b)
def fPopAt : List W → List W → Stt → Option (W × List W) := fun us ws _ => match ws with
  | [.int i] => if -(2 ^ 62) ≤ i ∧ i < 2 ^ 62 then match seqIndex? i us.length with
    | some k => match us[k]? with
      | some y => some (y, us.eraseIdx k)
      | none => none
    | none => none else none
  | _ => none
theorem ms_popAt : MtS K rPopAt (mUp fPopAt) := mt_up fun G H a us ws zs vs y us' Q wo hz rz rl e q => by
  unfold fPopAt at e
  split at e
  · rename_i i
    split at e
    · rename_i hi
      split at e
      · rename_i k hk
        split at e
        · rename_i y' hy
          cases e
          obtain ⟨v, rfl, rv⟩ := rl.one
          cases rv.int_inv
          obtain ⟨u, eu, ru⟩ := rz.get hy
          exact ⟨a, zs, i, k, u, rfl, rfl, hz, by omega, by omega, by rw [← rz.length]; exact hk, eu, q _ _ ru (rz.erase k)⟩
        · cases e
      · cases e
    · cases e
  · cases e
theorem RepL.dropLast {ws : List W} {vs : List V} (h : RepL K G H ws vs) : RepL K G H ws.dropLast vs.dropLast := by
  rw [List.dropLast_eq_take, List.dropLast_eq_take, h.length]
  exact h.take _
def fPop : List W → List W → Stt → Option (W × List W) := fun us ws _ => match ws with
  | [] => match us[us.length - 1]? with
    | some y => some (y, us.dropLast)
    | none => none
  | _ => none
theorem ms_pop : MtS K rPop (mUp fPop) := mt_up fun G H a us ws zs vs y us' Q wo hz rz rl e q => by
  unfold fPop at e
  split at e
  · split at e
    · rename_i y' hy
      cases e
      cases rl
      obtain ⟨u, eu, ru⟩ := rz.get hy
      exact ⟨a, zs, u, rfl, rfl, hz, by rw [← rz.length]; exact eu, q _ _ ru rz.dropLast⟩
    · cases e
  · cases e
/-! xs.index(y) -/
def mIdx : MF := fun x ws st => match ws with
  | [.str z] => match (seqOf st x).bind strsOf with
    | some ys => if z ∈ ys then .ok (.int (ys.idxOf z : Nat)) st else .no
    | none => .no
  | _ => .no
/-- of a tuple -/
def eIdxT (m : EM) (as : AM) : EM := fun ρ st => (m ρ st).bind fun x st1 => match x with
  | .tup us => (as ρ st1).bind fun ws st2 => mIdx (.tup us) ws st2
  | _ => .no
theorem ce_idxT {o e : Expr} {es : List Expr} {to : TE} {t : TA} {mo : EM} {as : AM} {apos cpos : Pos} (ho : CE X Wx o to mo) (ha : CA X Wx (e :: es) t as)
    (hbase : attributeBase o "index" X.env (eval o X.env) = eval o X.env := by rfl)
    (hfew : ((backTo cpos (starEach (e :: es) X.env)).all (fun x => !x.1) && (backToKw cpos (keywordEach [] X.env)).all (fun x => x.1.isSome) && decide ((e :: es).length + ([] : List Keyword).length + (if ([] : List Keyword).isEmpty then 0 else 1) < 30)) = true := by rfl)
    (hline : (apos.endLine == cpos.line) = true := by rfl) (hs : starEach (e :: es) X.env = (false, eval e X.env) :: starEach es X.env := by rfl) (hplain : (backTo cpos (starEach es X.env)).any (·.1) = false := by rfl) :
    CE X Wx (.Call (.Attribute o "index" apos) (e :: es) [] cpos) (Low.tIdxT X.K to t) (eIdxT mo as) := by
  refine ⟨Low.pe_idxT ho.pe ha.pe hbase hfew hline hs hplain, fun G H ρ σ Q w rr h => ?_⟩
  refine ho.sem G H ρ σ _ w rr (PostR.bind h fun x st1 ls1 H1 v q1 e1 w1 rv h1 => ?_)
  clear q1
  cases x with
  | tup us =>
    dsimp only at h1
    obtain ⟨a, zs, ea, tn, _⟩ := tupN rv
    refine ⟨⟨a, zs, ea, tn⟩, ?_⟩
    refine ha.sem (G.to ls1 st1) H1 ρ σ _ w1 (rr.mono e1) (PostR.bind h1 fun ws st2 ls2 H2 vs q2 e2 w2 rvs h2 => ?_)
    clear q2
    unfold mIdx at h2
    split at h2
    · rename_i z
      split at h2
      · rename_i ys ey
        split at h2
        · rename_i hz
          obtain ⟨b, ts, eb, sq, rt⟩ := tup_sq (rv.mono e2)
          have ey : strsOf us = some ys := ey
          rw [strsOf_eq ey] at rt
          obtain ⟨u, rfl, ru⟩ := rvs.one
          cases ru.str_inv
          rw [rt.strs] at sq
          exact ⟨b, ys, z, eb, rfl, sq, hz, PostR.ok (G := G.to ls2 st2) w2 h2 (.int _)⟩
        · exact h2.elim
      · exact h2.elim
    · exact h2.elim
  | _ => exact h1.elim

/-! statements that change -/
/-- o[i] = e, o a list -/
def sSetIx (e o i : EM) : SM := fun ρ st => (e ρ st).toS ρ fun x st1 => (o ρ st1).toS ρ fun l st2 => (i ρ st2).toS ρ fun k st3 => match l, k with
  | .loc n, .int j => match st3[n]? with
    | some (some (.lst us)) => match ixN us.length j with
      | some m => .nx ρ (st3.set n (some (.lst (us.set m x))))
      | none => .no
    | _ => .no
  | _, _ => .no
theorem RepL.set {ws : List W} {vs : List V} (h : RepL K G H ws vs) {w : W} {v : V} (r : RepV K G H w v) : ∀ n : Nat, RepL K G H (ws.set n w) (vs.set n v) := by
  intro n
  induction n generalizing ws vs with
  | zero => cases h with
    | nil => exact .nil
    | cons a b => exact .cons r b
  | succ n ih => cases h with
    | nil => exact .nil
    | cons a b => exact .cons a (ih b)
theorem cs_setIx {e o i : Expr} {te to ti : TE} {me mo mi : EM} {pos p2 : Pos} (he : CE X Wx e te me) (ho : CE X Wx o to mo) (hi : CE X Wx i ti mi) (hs : swapsWithSole [.Subscript o i p2] e pos.line X.env = pure false := by rfl) (hw : swappedStores [.Subscript o i p2] e X.env = pure none := by rfl)
    (h1 : (assignEach [.Subscript o i p2] X.env).map (·.2) = [assign (.Subscript o i p2) X.env] := by rfl)
    (ha : ∀ v, assign (.Subscript o i p2) X.env v = (do
      let ov ← holding [v] (eval o X.env)
      let iv ← holding [v, ov] (eval i X.env)
      standAt p2
      holding [v, ov, iv] (setItem ov iv v)
      release [v, ov, iv] []) := by intro _; rfl) : CS X Wx (.Assign [.Subscript o i p2] e pos) (tAsg te (gSub to ti rSetL)) (sSetIx me mo mi) := by
  refine ⟨ps_asg he.pe (pg_sub ho.pe hi.pe set_list ha) hs hw h1, fun G H ρ σ D w r h => ?_⟩
  refine he.sem G H ρ σ _ w r (PostS.bind h r fun x st1 ls1 H1 v q1 e1 w1 rv h1 => ?_)
  refine ho.sem (G.to ls1 st1) H1 ρ σ _ w1 (r.mono e1) (PostS.bind h1 (r.mono e1) fun l st2 ls2 H2 u q2 e2 w2 ru h2 => ?_)
  have r2 := r.mono (e1.trans e2)
  refine hi.sem (G.to ls2 st2) H2 ρ σ _ w2 r2 (PostS.bind h2 r2 fun k st3 ls3 H3 z q3 e3 w3 rz h3 => ?_)
  have r3 := r2.mono e3
  clear q1 q2 q3
  split at h3
  · rename_i n j
    split at h3
    · rename_i us hn
      split at h3
      · rename_i m hm
        cases rz.int_inv
        have ru3 := ru.mono e3
        cases ru3 with
        | loc hl =>
          obtain ⟨ts, ht, rt⟩ := w3.at' _ _ _ hl hn
          have rx := rv.mono (e2.trans e3)
          refine ⟨_, ts, j, m, rfl, rfl, ht, by rw [← rt.length]; exact hm, ?_⟩
          have xp : Ext (G.to ls3 st3) H3 ((G.to ls3 st3).put n (.lst (us.set m x))) (upd H3 _ (.lst (ts.set m v))) := Ext.put w3 hl hn
          exact h3 ls3 σ _ xp (w3.put hl hn ⟨_, upd_same, (rt.set rx m).mono xp⟩) (r3.mono xp)
      · exact h3.elim
    · exact h3.elim
  · exact h3.elim
/-! while -/
def whileW : Nat → TM → SM → SM
  | 0, _, _ => fun _ _ => .no
  | n + 1, c, body => fun ρ st => (c ρ st).toS ρ fun b st1 => if b = true then (body ρ st1).loop fun ρ2 st2 => whileW n c body ρ2 st2 else .nx ρ st1
theorem sem_while {tc : TT} {tb : TS} {c : TM} {body : SM} (n : Nat) (hc : SemT K Wx tc c) (hb : SemS K Wx tb body) : SemS K Wx (tWhile tc tb) (whileW n c body) := fun G H ρ σ D w r h => by
  refine ⟨fun m σ H => ∃ (G2 : Gm) (ρ2 : Ev), World K G2 H ∧ RepE K G2 H ρ2 σ ∧ PostS K Wx D G2 H (whileW m c body ρ2 G2.st), ⟨n, G, ρ, w, r, h⟩, ?_⟩
  rintro m σ2 H2 ⟨G2, ρ2, w2, r2, h2⟩
  cases m with
  | zero => exact h2.elim
  | succ m =>
    rw [whileW] at h2
    refine hc G2 H2 ρ2 σ2 _ w2 r2 (PostS.bind h2 r2 fun b st3 ls3 H3 b' q3 e3 w3 eb h3 => ?_)
    subst eb
    cases b with
    | false =>
      rw [if_neg Bool.false_ne_true] at h3
      exact iteF (h3 ls3 σ2 H3 (Ext.refl _ _) w3 (r2.mono e3))
    | true =>
      rw [if_pos rfl] at h3
      refine iteT ⟨fun σ' H' => ∃ (G4 : Gm) (ρ4 : Ev), World K G4 H' ∧ RepE K G4 H' ρ4 σ' ∧ PostS K Wx D G4 H' (whileW m c body ρ4 G4.st), fun σ' H' hN => ⟨m, Nat.lt_succ_self m, hN⟩, ?_⟩
      refine hb (G2.to ls3 st3) H3 ρ2 σ2 _ w3 (r2.mono e3) ?_
      cases eb : body ρ2 st3 with
      | nx ρ5 st5 =>
        rw [eb] at h3
        exact fun ls5 σ5 H5 e5 w5 r5 => ⟨_, ρ5, w5, r5, PostS.mono e5 h3⟩
      | ct ρ5 st5 =>
        rw [eb] at h3
        exact fun ls5 σ5 H5 e5 w5 r5 => ⟨_, ρ5, w5, r5, PostS.mono e5 h3⟩
      | bk ρ5 st5 =>
        rw [eb] at h3
        exact fun ls5 σ5 H5 e5 w5 r5 => h3 ls5 σ5 H5 e5 w5 r5
      | rt v5 st5 =>
        rw [eb] at h3
        exact fun ls5 σ5 H5 e5 w5 r5 => h3 ls5 σ5 H5 e5 w5 r5
      | er y5 ρ5 st5 =>
        rw [eb] at h3
        exact fun ls5 σ5 H5 d e5 w5 r5 => h3 ls5 σ5 H5 d e5 w5 r5
      | no => rw [eb] at h3; exact h3.elim
theorem cs_while {c : Expr} {body : List Stmt} {tc : TT} {tb : TS} {mc : TM} {mb : SM} {pos : Pos} (n : Nat) (hp : PassesOwn (model X.prog X.w) X.A X.env X.xe) (hc : CT X Wx c tc mc) (hb : CSs X Wx body tb mb) : CS X Wx (.While c body [] pos) (tWhile tc tb) (whileW n mc mb) := ⟨ps_while hp hc.pe hb.pe, sem_while n hc.sem hb.sem⟩
end
end Sim
end
section
set_option Elab.async false
set_option linter.all false
set_option maxRecDepth 100000
set_option maxHeartbeats 1000000
open PySem PySem.Spec PyProof.Rows L2
namespace Sim
/-! a def's own places are let go at its end; what it gives back becomes still -/
mutual
/-- no place from n on -/
def okL (n : Nat) : W → Bool
  | .tup ws => okLs n ws
  | .lst ws => okLs n ws
  | .prs ws => okLs n ws
  | .scr ws => okLs n ws
  | .dic kvs => okLk n kvs
  | .loc i => decide (i < n)
  | .non => true
  | .bl _ => true
  | .int _ => true
  | .str _ => true
  | .ty _ => true
  | .obj _ => true
  | .ext _ _ => true
def okLs (n : Nat) : List W → Bool
  | [] => true
  | w :: ws => okL n w && okLs n ws
def okLk (n : Nat) : List (Key × W) → Bool
  | [] => true
  | (_, w) :: ws => okL n w && okLk n ws
end
def okO (n : Nat) : Ob → Bool
  | .lst ws => okLs n ws
  | .dic kvs => okLk n kvs
  | .dn _ _ kws => okLs n (kws.map (·.2))
  | .ins _ fs => okLs n (fs.map (·.2))
def okStt (n : Nat) (st st' : Stt) : Prop := ∀ i, i < n → st'[i]? = st[i]? ∨ ∃ ob, st'[i]? = some (some ob) ∧ okO n ob = true
mutual
theorem okL_key (n : Nat) : ∀ k : NestedKey, okL n (keyW k) = true
  | .none => by rw [keyW, okL]
  | .num i => by rw [keyW, okL]
  | .text x => by rw [keyW, okL]
  | .tup ks => by rw [keyW, okL]; exact okL_keys n ks
theorem okL_keys (n : Nat) : ∀ ks : List NestedKey, okLs n (keyWs ks) = true
  | [] => by rw [keyWs, okLs]
  | k :: ks => by rw [keyWs, okLs, okL_key n k, okL_keys n ks]; rfl
end
theorem okL_keyM (n : Nat) {β : Type} : ∀ ks : List (NestedKey × β), okLs n (ks.map fun p => keyW p.1) = true
  | [] => by rw [List.map_nil, okLs]
  | k :: ks => by rw [List.map_cons, okLs, okL_key n k.1, okL_keyM n ks]; rfl
mutual
def fzW (n : Nat) (st : Stt) : W → Option W
  | .tup ws => (fzWs n st ws).map .tup
  | .lst ws => (fzWs n st ws).map .lst
  | .loc i => if i < n then some (.loc i) else match st[i]? with
    | some (some (.lst us)) => if okLs n us = true then some (.lst us) else none
    | some (some (.dic us)) => if okLk n us = true then some (.dic us) else none
    | _ => none
  | .dic kvs => if okLk n kvs = true then some (.dic kvs) else none
  | .prs us => if okLs n us = true then some (.prs us) else none
  | .scr us => if okLs n us = true then some (.scr us) else none
  | .non => some .non
  | .bl b => some (.bl b)
  | .int b => some (.int b)
  | .str b => some (.str b)
  | .ty b => some (.ty b)
  | .obj b => some (.obj b)
  | .ext φ ws => some (.ext φ ws)
def fzWs (n : Nat) (st : Stt) : List W → Option (List W)
  | [] => some []
  | w :: ws => match fzW n st w, fzWs n st ws with
    | some a, some b => some (a :: b)
    | _, _ => none
end
open Classical in
noncomputable def frz (m : FM) : FM := fun ws st => match m ws st with
  | .ok w st' => if okStt st.length st st' then (match fzW st.length st' w with
      | some w' => .ok w' (st'.take st.length)
      | none => .no) else .no
  | .er x st' => if okStt st.length st st' ∧ x.fs = [] then .er x (st'.take st.length) else .no
  | .no => .no
section
variable {K : PySem.W.Frag} {G G' : Gm} {H H' : Hp}
mutual
theorem RepV.okL (h : G.ls.length = n) : ∀ {w : W} {v : V}, RepV K G H w v → okL n w = true
  | _, _, .non => by rw [Sim.okL]
  | _, _, .bl b => by rw [Sim.okL]
  | _, _, .int i => by rw [Sim.okL]
  | _, _, .str s => by rw [Sim.okL]
  | _, _, .ty n => by rw [Sim.okL]
  | _, _, .obj a => by rw [Sim.okL]
  | _, _, .tup _ r => by rw [Sim.okL]; exact RepL.okL h r
  | _, _, .prs _ r => by rw [Sim.okL]; exact RepL.okL h r
  | _, _, .lst _ r => by rw [Sim.okL]; exact RepL.okL h r
  | _, _, .scr _ r => by rw [Sim.okL]; exact RepL.okL h r
  | _, _, .dic _ r => by rw [Sim.okL]; exact RepK.okL h r
  | _, _, .loc e => by rw [Sim.okL]; exact decide_eq_true (by rw [← h]; exact (List.getElem?_eq_some_iff.mp e).1)
  | _, _, .ext _ => by rw [Sim.okL]
theorem RepL.okL (h : G.ls.length = n) : ∀ {ws : List W} {vs : List V}, RepL K G H ws vs → okLs n ws = true
  | _, _, .nil => by rw [okLs]
  | _, _, .cons a r => by rw [okLs, RepV.okL h a, RepL.okL h r]; rfl
theorem RepK.okL (h : G.ls.length = n) : ∀ {ws : List (Key × W)} {vs : List (Key × V)}, RepK K G H ws vs → okLk n ws = true
  | _, _, .nil => by rw [okLk]
  | _, _, .cons a r => by rw [okLk, RepV.okL h a, RepK.okL h r]; rfl
end
/-- fewer places, the same heap -/
structure Shr (G G' : Gm) : Prop where
  ls : ∀ (i : Nat) (a : Addr), i < G.ls.length → G'.ls[i]? = some a → G.ls[i]? = some a
  al : ∀ a, G.alive a → G'.alive a
mutual
theorem RepV.shr (x : Shr G G') : ∀ {w : W} {v : V}, okL G.ls.length w = true → RepV K G' H w v → RepV K G H w v
  | _, _, _, .non => .non
  | _, _, _, .bl b => .bl b
  | _, _, _, .int i => .int i
  | _, _, _, .str s => .str s
  | _, _, _, .ty n => .ty n
  | _, _, _, .obj a => .obj a
  | _, _, o, .tup h r => .tup (h.imp_left fun z => ⟨z.1, fun y => z.2 (x.al _ y)⟩) (RepL.shr x (by rw [Sim.okL] at o; exact o) r)
  | _, _, o, .prs h r => .prs ⟨h.1, fun y => h.2 (x.al _ y)⟩ (RepL.shr x (by rw [Sim.okL] at o; exact o) r)
  | _, _, o, .lst h r => .lst ⟨h.1, fun y => h.2 (x.al _ y)⟩ (RepL.shr x (by rw [Sim.okL] at o; exact o) r)
  | _, _, o, .scr h r => .scr (h.imp_left fun z => ⟨z.1, fun y => z.2 (x.al _ y)⟩) (RepL.shr x (by rw [Sim.okL] at o; exact o) r)
  | _, _, o, .dic h r => .dic ⟨h.1, fun y => h.2 (x.al _ y)⟩ (RepK.shr x (by rw [Sim.okL] at o; exact o) r)
  | _, _, o, .loc e => .loc (x.ls _ _ (by rw [Sim.okL] at o; exact of_decide_eq_true o) e)
  | _, _, o, .ext h => .ext ⟨h.1, fun y => h.2 (x.al _ y)⟩
theorem RepL.shr (x : Shr G G') : ∀ {ws : List W} {vs : List V}, okLs G.ls.length ws = true → RepL K G' H ws vs → RepL K G H ws vs
  | _, _, _, .nil => .nil
  | _, _, o, .cons a r => by
    rw [okLs, Bool.and_eq_true] at o
    exact .cons (RepV.shr x o.1 a) (RepL.shr x o.2 r)
theorem RepK.shr (x : Shr G G') : ∀ {ws : List (Key × W)} {vs : List (Key × V)}, okLk G.ls.length ws = true → RepK K G' H ws vs → RepK K G H ws vs
  | _, _, _, .nil => .nil
  | _, _, o, .cons a r => by
    rw [okLk, Bool.and_eq_true] at o
    exact .cons (RepV.shr x o.1 a) (RepK.shr x o.2 r)
end
/-- the world cut back -/
theorem frz_cut {ls' : List Addr} {st' : Stt} (w : World K G H) (x : Ext G H (G.to ls' st') H') (w' : World K (G.to ls' st') H') (ok : okStt G.st.length G.st st') :
    Shr (G.to G.ls (st'.take G.st.length)) (G.to ls' st') ∧ Ext G H (G.to G.ls (st'.take G.st.length)) H' ∧ World K (G.to G.ls (st'.take G.st.length)) H' := by
  have hlen := w.len
  have hle : G.ls.length ≤ ls'.length := by
    by_cases h0 : G.ls.length = 0
    · omega
    · have := x.ls (G.ls.length - 1) _ (List.getElem?_eq_getElem (by omega))
      have := (List.getElem?_eq_some_iff.mp this).1
      simp only at this
      omega
  have hst : G.st.length ≤ st'.length := by
    have : ls'.length = st'.length := w'.len
    omega
  have tk : ∀ (i : Nat) (ob : Ob), (st'.take G.st.length)[i]? = some (some ob) → i < G.st.length ∧ st'[i]? = some (some ob) := fun i ob e => by
    have hi := (List.getElem?_eq_some_iff.mp e).1
    rw [List.length_take] at hi
    rw [List.getElem?_take_of_lt (by omega)] at e
    exact ⟨by omega, e⟩
  have alv : ∀ a, (G.to G.ls (st'.take G.st.length)).alive a → (G.to ls' st').alive a := fun a z => by
    rcases z with ⟨i, ob, e1, e2⟩ | z
    · exact .inl ⟨i, ob, x.ls i a e1, (tk i ob e2).2⟩
    · exact .inr z
  have alG : ∀ a, (G.to G.ls (st'.take G.st.length)).alive a → G.alive a ∨ H a = none := fun a z => x.al a (alv a z)
  have sh : Shr (G.to G.ls (st'.take G.st.length)) (G.to ls' st') := ⟨fun i a hi e => by
    have hi : i < G.ls.length := hi
    have q := x.ls i _ (List.getElem?_eq_getElem hi)
    rw [e] at q
    rw [Option.some.inj q]
    exact List.getElem?_eq_getElem hi, alv⟩
  refine ⟨sh, ⟨fun _ _ e => e, x.keep, alG, x.non, rfl, x.hidk⟩, ⟨?_, w.nd, fun a ha => fun z => w.tr a ha (x.non a z), fun a ha => ⟨?_, (w.hd a ha).2⟩, fun i a ob e1 e2 => ?_⟩⟩
  · show G.ls.length = (st'.take G.st.length).length
    rw [List.length_take]
    omega
  · rw [x.hidk a ha]; exact (w.hd a ha).1
  · obtain ⟨hi, e3⟩ := tk i ob e2
    have ro := w'.at' i a ob (x.ls i a e1) e3
    have okob : okO G.ls.length ob = true := by
      rcases ok i hi with q | ⟨ob', q, h⟩
      · rw [e3] at q
        have ro2 := w.at' i a ob e1 q.symm
        cases ob with
        | lst us => obtain ⟨_, _, r⟩ := ro2; exact RepL.okL rfl r
        | dic us => obtain ⟨_, _, r⟩ := ro2; exact RepK.okL rfl r
        | dn P w us => obtain ⟨_, _, _, _, _, r⟩ := ro2; exact RepL.okL rfl r
        | ins C us => obtain ⟨_, _, _, _, r⟩ := ro2; exact RepL.okL rfl r
      · rw [e3] at q
        cases q
        rw [hlen]; exact h
    cases ob with
    | lst us => obtain ⟨vs, e, r⟩ := ro; exact ⟨vs, e, RepL.shr sh okob r⟩
    | dic us => obtain ⟨vs, e, r⟩ := ro; exact ⟨vs, e, RepK.shr sh okob r⟩
    | dn P w us => obtain ⟨vs, e, q, d, r1, r2⟩ := ro; exact ⟨vs, e, q, d, RepL.shr sh (okL_keyM _ us) r1, RepL.shr sh okob r2⟩
    | ins C us => obtain ⟨dx, vs, e, q, r⟩ := ro; exact ⟨dx, vs, e, q, RepL.shr sh okob r⟩
mutual
theorem fz_rep {ls' : List Addr} {st' : Stt} (w' : World K (G.to ls' st') H') (sh : Shr G (G.to ls' st')) (hl : ∀ (i : Nat) (a : Addr), G.ls[i]? = some a → ls'[i]? = some a) : ∀ (w : W) (v : V) (w2 : W), RepV K (G.to ls' st') H' w v → fzW G.ls.length st' w = some w2 → RepV K G H' w2 v
  | .tup ws, v, w2, r, e => by
    rw [fzW] at e
    cases e1 : fzWs G.ls.length st' ws with
    | none => rw [e1] at e; cases e
    | some us =>
      rw [e1] at e
      cases e
      cases r with
      | tup h rl => exact .tup (h.imp_left fun z => ⟨z.1, fun y => z.2 (sh.al _ y)⟩) (fzs_rep w' sh hl ws _ us rl e1)
  | .lst ws, v, w2, r, e => by
    rw [fzW] at e
    cases e1 : fzWs G.ls.length st' ws with
    | none => rw [e1] at e; cases e
    | some us =>
      rw [e1] at e
      cases e
      cases r with
      | lst h rl => exact .lst ⟨h.1, fun y => h.2 (sh.al _ y)⟩ (fzs_rep w' sh hl ws _ us rl e1)
  | .loc i, v, w2, r, e => by
    rw [fzW] at e
    split at e
    · rename_i hi
      cases e
      exact RepV.shr sh (by rw [okL]; exact decide_eq_true hi) r
    · rename_i hi
      cases r with
      | loc he =>
        rename_i a
        have he : ls'[i]? = some a := he
        have nal : ¬ G.alive a := fun z => by
          rcases z with ⟨j, ob, e1, _⟩ | z
          · have e2 := hl j a e1
            obtain ⟨h1, q1⟩ := List.getElem?_eq_some_iff.mp he
            obtain ⟨h2, q2⟩ := List.getElem?_eq_some_iff.mp e2
            have : i = j := (List.getElem_inj w'.nd).mp (q1.trans q2.symm)
            exact hi (by rw [this]; exact (List.getElem?_eq_some_iff.mp e1).1)
          · exact (w'.hd a z).2 (List.mem_of_getElem? he)
        split at e
        · rename_i us hs
          split at e
          · rename_i ho
            cases e
            obtain ⟨vs, hv, rl⟩ := w'.at' i a _ he hs
            exact .lst ⟨hv, nal⟩ (RepL.shr sh ho rl)
          · cases e
        · rename_i us hs
          split at e
          · rename_i ho
            cases e
            obtain ⟨vs, hv, rl⟩ := w'.at' i a _ he hs
            exact .dic ⟨.inl hv, nal⟩ (RepK.shr sh ho rl)
          · cases e
        · cases e
  | .non, v, w2, r, e => by rw [fzW] at e; cases e; exact RepV.shr sh (by rw [okL]) r
  | .bl _, v, w2, r, e => by rw [fzW] at e; cases e; exact RepV.shr sh (by rw [okL]) r
  | .int _, v, w2, r, e => by rw [fzW] at e; cases e; exact RepV.shr sh (by rw [okL]) r
  | .str _, v, w2, r, e => by rw [fzW] at e; cases e; exact RepV.shr sh (by rw [okL]) r
  | .ty _, v, w2, r, e => by rw [fzW] at e; cases e; exact RepV.shr sh (by rw [okL]) r
  | .obj _, v, w2, r, e => by rw [fzW] at e; cases e; exact RepV.shr sh (by rw [okL]) r
  | .ext _ _, v, w2, r, e => by rw [fzW] at e; cases e; exact RepV.shr sh (by rw [okL]) r
  | .dic _, v, w2, r, e => by
    rw [fzW] at e
    split at e
    · rename_i h
      cases e
      exact RepV.shr sh (by rw [okL]; exact h) r
    · cases e
  | .prs _, v, w2, r, e => by
    rw [fzW] at e
    split at e
    · rename_i h
      cases e
      exact RepV.shr sh (by rw [okL]; exact h) r
    · cases e
  | .scr _, v, w2, r, e => by
    rw [fzW] at e
    split at e
    · rename_i h
      cases e
      exact RepV.shr sh (by rw [okL]; exact h) r
    · cases e
theorem fzs_rep {ls' : List Addr} {st' : Stt} (w' : World K (G.to ls' st') H') (sh : Shr G (G.to ls' st')) (hl : ∀ (i : Nat) (a : Addr), G.ls[i]? = some a → ls'[i]? = some a) : ∀ (ws : List W) (vs : List V) (us : List W), RepL K (G.to ls' st') H' ws vs → fzWs G.ls.length st' ws = some us → RepL K G H' us vs
  | [], _, _, r, e => by cases r; rw [fzWs] at e; cases e; exact .nil
  | w :: ws, _, us, r, e => by
    cases r with
    | cons a b =>
      rw [fzWs] at e
      cases e1 : fzW G.ls.length st' w with
      | none => rw [e1] at e; cases e
      | some u =>
        cases e2 : fzWs G.ls.length st' ws with
        | none => rw [e1, e2] at e; cases e
        | some us2 => rw [e1, e2] at e; cases e; exact .cons (fz_rep w' sh hl w _ u a e1) (fzs_rep w' sh hl ws _ us2 b e2)
end
/-- THE RULE: a def's promise, its own places let go -/
theorem fn_frz {P : Program} {w : PySem.World} {mg : Str → Option Value} {base : Heap} {CX : CXT} {f : Addr} {fd : FuncData} {ps : List Str} {k n : Nat} {m : FM} (F : FnOk P w K mg base CX k f fd ps (spF K n m)) : FnOk P w K mg base CX k f fd ps (spF K n (frz m)) :=
  F.imp fun vs H Q E q => by
    obtain ⟨hl, G, ws, wo, rl, hp⟩ := q
    refine ⟨hl, G, ws, wo, rl, ?_⟩
    unfold frz at hp
    cases e : m ws G.st with
    | no => rw [e] at hp; exact hp.elim
    | er x st' =>
      rw [e] at hp
      dsimp only at hp
      split at hp
      · rename_i hok
        intro ls' H' d xe w' rx
        obtain ⟨_, x2, w2⟩ := frz_cut wo xe w' hok.1
        exact hp G.ls H' d x2 w2 ⟨hok.2, rx.2⟩
      · exact hp.elim
    | ok r st' =>
      rw [e] at hp
      dsimp only at hp
      split at hp
      · rename_i hok
        cases ef : fzW G.st.length st' r with
        | none => rw [ef] at hp; exact hp.elim
        | some r' =>
          rw [ef] at hp
          intro ls' H' v xe w' rv
          obtain ⟨sh, x2, w2⟩ := frz_cut wo xe w' hok
          refine hp G.ls H' v x2 w2 ?_
          exact fz_rep (G := G.to G.ls (st'.take G.st.length)) w' sh xe.ls r v r' rv (by rw [show (G.to G.ls (st'.take G.st.length)).ls.length = G.st.length from wo.len]; exact ef)
      · exact hp.elim
theorem frz_eq {m : FM} {ws : List W} {st st' : Stt} {w w' : W} (h : m ws st = .ok w st') (ok : okStt st.length st st') (hf : fzW st.length st' w = some w') : frz m ws st = .ok w' (st'.take st.length) := by
  unfold frz
  rw [h]
  dsimp only
  rw [if_pos ok, hf]
/-- where nothing that stood was changed -/
theorem frz_new {m : FM} {ws : List W} {st ex : Stt} {w w' : W} (h : m ws st = .ok w (st ++ ex)) (hf : fzW st.length (st ++ ex) w = some w') : frz m ws st = .ok w' st := by
  have := frz_eq h (fun i hi => .inl (List.getElem?_append_left hi)) hf
  rw [this, List.take_left]
end
end Sim
end
section
set_option Elab.async false
set_option linter.all false
set_option maxRecDepth 100000
set_option maxHeartbeats 1000000
open PySem PySem.Spec PyProof.Rows L2
namespace Low
section
variable {prog : Program} {w : PySem.World} {A : Around} {E : Value → Shared → Prop} {s : Shared}
end
end Low
namespace Sim
section
variable {X : Cx} {Wx : WX}
/-- -e -/
def eNeg (m : EM) : EM := fun ρ st => (m ρ st).bind fun x st1 => match x with
  | .int i => .ok (.int (-i)) st1
  | _ => .no
theorem ce_neg {e : Expr} {te : TE} {m : EM} {pos : Pos} (h : CE X Wx e te m) : CE X Wx (.UnaryOp .USub e pos) (tUn (rU fun i => .int (-i)) te) (eNeg m) := by
  refine ⟨pe_un un_neg h.pe, fun G H ρ σ Q w r hp => ?_⟩
  refine h.sem G H ρ σ _ w r (PostR.bind hp fun x st1 ls1 H1 v q1 e1 w1 rv hp1 => ?_)
  clear q1
  split at hp1
  · cases rv.int_inv
    exact ⟨_, rfl, PostR.ok (G := G.to ls1 st1) w1 hp1 (.int _)⟩
  · exact hp1.elim
/-- t[::-1] of a tuple -/
def eRevT (m : EM) : EM := fun ρ st => (m ρ st).bind fun x st1 => match x with
  | .tup ws => .ok (.tup ws.reverse) st1
  | _ => .no
/-- t[::-1] of a list -/
def eRevL (m : EM) : EM := fun ρ st => (m ρ st).bind fun x st1 => match lstOf st1 x with
  | some ws => .ok (.lst ws.reverse) st1
  | none => .no
def eRevO (m : EM) : EM := fun ρ st => (m ρ st).bind fun x st1 => match lstOf st1 x with
  | some ws => .ok (.loc st1.length) (st1 ++ [some (.lst ws.reverse)])
  | none => .no
theorem post_bl {K : PySem.W.Frag} {st : Stt} {H : Hp} {ls : List Addr} {hid : List Addr} {Wy : Value → Option Addr → Hp → Prop} (w : World K ⟨ls, st, hid⟩ H) {r : Rs W} (h : ∃ st', r = .ok (.bl true) st') : PostR K (RepV K) Wy ⟨ls, st, hid⟩ H r (fun v _ => v = .bl true) := by
  obtain ⟨st', e⟩ := h
  rw [e]
  intro ls' H' v x w' rv
  cases rv
  rfl
/-- the end: the script is there, nothing else -/
theorem law_sp {K : PySem.W.Frag} {H : Hp} {a : Addr} {m : FM} (ns : List Int) (hO : Only H) (hS : SqL K H a (ns.map V.int)) (hm : ∃ st', m [.scr (ns.map .int)] [] = .ok (.bl true) st') :
    spF K 1 m [.ref a] H (fun v _ => v = .bl true) fun _ _ _ => False := by
  have wo : World K ⟨[], [], []⟩ H := ⟨rfl, .nil, fun a h => absurd h List.not_mem_nil, fun a h => absurd h List.not_mem_nil, fun i a ob h => by simp at h⟩
  have nal : ∀ b, ¬ Gm.alive ⟨[], [], []⟩ b := fun b z => by
    rcases z with ⟨i, ob, e, _⟩ | z
    · simp at e
    · exact absurd z List.not_mem_nil
  refine ⟨rfl, ⟨[], [], []⟩, [.scr (ns.map .int)], wo, .cons ?_ .nil, post_bl wo hm⟩
  rcases hS with h | h
  · exact .scr (.inl ⟨h, nal a⟩) rep_ints
  · exact .scr (.inr h) rep_ints
theorem blkE {X : Cx} {scope : Scope} {elt : Expr} {te : TE} {m : EM} (h : ∀ (s : Shared) (H : Hp) (C : Addr) (cl : List (Str × Addr)) (fp : List Addr), ∃ t', CE (X.blk s H scope (compEnvC scope cl C X.env) fp) W0 elt t' m ∧ t' = te) : Blk X scope fun Y => CE Y W0 elt te m := fun s H C cl fp => by
  obtain ⟨_, z, rfl⟩ := h s H C cl fp
  exact z
theorem blkT {X : Cx} {scope : Scope} {ifs : List Expr} {tt : TT} {c : TM} (h : ∀ (s : Shared) (H : Hp) (C : Addr) (cl : List (Str × Addr)) (fp : List Addr), ∃ t', CTs (X.blk s H scope (compEnvC scope cl C X.env) fp) W0 ifs t' c ∧ t' = tt) : Blk X scope fun Y => CTs Y W0 ifs tt c := fun s H C cl fp => by
  obtain ⟨_, z, rfl⟩ := h s H C cl fp
  exact z
theorem law_cx {P : Program} {w : PySem.World} {H : Hp} {s s' : Shared} {e : Value} (h : L2N.CX P w [] H s (fun _ _ _ => False) e s') : False := by
  obtain ⟨_, _, _, _, _, _, _, _, _, _, _, _, e⟩ := h
  exact e
end
end Sim
end
section
set_option Elab.async false
set_option linter.all false
set_option maxRecDepth 100000
set_option maxHeartbeats 1000000
open PySem PySem.Spec PyProof.Rows L2
namespace Sim
/-! the mirrors, worked out: one equation for each -/
section
variable {ρ : Ev} {st : Stt}
@[simp] theorem ev_var (i : Nat) : eVar i ρ st = match ρ[i]? with | some (some w) => .ok w st | _ => .no := by unfold eVar; rfl
@[simp] theorem ev_c (w : W) : eC w ρ st = .ok w st := id rfl
@[simp] theorem ev_nil : aNil ρ st = .ok [] st := id rfl
@[simp] theorem ev_yes : tmYes ρ st = .ok true st := id rfl
@[simp] theorem ev_oNone : oNone ρ st = .ok none st := id rfl
/-- what an option tells -/
def optR (o : Option W) (st : Stt) : Rs W := match o with | some w => .ok w st | none => .no
@[simp] theorem optR_some (w : W) : optR (some w) st = .ok w st := id rfl
def optL (o : Option (List W)) (st : Stt) : Rs W := match o with | some w => .ok (.lst w) st | none => .no
@[simp] theorem optL_some (w : List W) : optL (some w) st = .ok (.lst w) st := id rfl
def optO (o : Option (List W)) (st : Stt) : Rs W := match o with | some us => .ok (.loc st.length) (st ++ [some (.lst us)]) | none => .no
@[simp] theorem optO_some (us : List W) : optO (some us) st = .ok (.loc st.length) (st ++ [some (.lst us)]) := id rfl
def consK2 (w : W) (r : Rs (List W)) : Rs (List W) := match r with | .ok ws s => .ok (w :: ws) s | .er x s => .er x s | .no => .no
@[simp] theorem consK2_ok (w : W) (ws : List W) (s : Stt) : consK2 w (.ok ws s) = .ok (w :: ws) s := id rfl
def consK (k : AM) (ρ : Ev) (r : Rs W) : Rs (List W) := match r with | .ok a s => consK2 a (k ρ s) | .er x s => .er x s | .no => .no
@[simp] theorem consK_ok (k : AM) (ρ : Ev) (a : W) (s : Stt) : consK k ρ (.ok a s) = consK2 a (k ρ s) := id rfl
@[simp] theorem ev_cons (m : EM) (k : AM) : aCons m k ρ st = consK k ρ (m ρ st) := by
  unfold aCons consK
  cases m ρ st with
  | ok a s => show (k ρ s).bind _ = consK2 a (k ρ s); cases k ρ s <;> rfl
  | er x s => rfl
  | no => rfl
def tupK  (r : Rs (List W)) : Rs W := match r with | .ok ws s => if ws.length ≤ 1000 then .ok (.tup ws) s else .no | .er x s => .er x s | .no => .no
@[simp] theorem tupK_ok  (ws : List W) (s : Stt) : tupK  (.ok ws s) = if ws.length ≤ 1000 then .ok (.tup ws) s else .no := id rfl
@[simp] theorem ev_tup (k : AM) : eTup k ρ st = tupK (k ρ st) := by unfold eTup tupK; cases k ρ st <;> rfl
def lstK  (r : Rs (List W)) : Rs W := match r with | .ok ws s => if ws.length ≤ 1000 then .ok (.lst ws) s else .no | .er x s => .er x s | .no => .no
@[simp] theorem lstK_ok  (ws : List W) (s : Stt) : lstK  (.ok ws s) = if ws.length ≤ 1000 then .ok (.lst ws) s else .no := id rfl
@[simp] theorem ev_lst (k : AM) : eLst k ρ st = lstK (k ρ st) := by unfold eLst lstK; cases k ρ st <;> rfl
def lstLK  (r : Rs (List W)) : Rs W := match r with | .ok ws s => if ws.length ≤ 1000 then .ok (.loc s.length) (s ++ [some (.lst ws)]) else .no | .er x s => .er x s | .no => .no
@[simp] theorem lstLK_ok  (ws : List W) (s : Stt) : lstLK  (.ok ws s) = if ws.length ≤ 1000 then .ok (.loc s.length) (s ++ [some (.lst ws)]) else .no := id rfl
@[simp] theorem ev_lstL (k : AM) : eLstL k ρ st = lstLK (k ρ st) := by unfold eLstL lstLK; cases k ρ st <;> rfl
def opK2 (f : F2) (x : W) (r : Rs W) : Rs W := match r with | .ok y s => optR (f s x y) s | .er x s => .er x s | .no => .no
@[simp] theorem opK2_ok (f : F2) (x : W) (y : W) (s : Stt) : opK2 f x (.ok y s) = optR (f s x y) s := id rfl
def opK (f : F2) (b : EM) (ρ : Ev) (r : Rs W) : Rs W := match r with | .ok a s => opK2 f a (b ρ s) | .er x s => .er x s | .no => .no
@[simp] theorem opK_ok (f : F2) (b : EM) (ρ : Ev) (a : W) (s : Stt) : opK f b ρ (.ok a s) = opK2 f a (b ρ s) := id rfl
@[simp] theorem ev_op (f : F2) (a b : EM) : eOp f a b ρ st = opK f b ρ (a ρ st) := by
  unfold eOp opK
  cases a ρ st with
  | ok x s => show (b ρ s).bind _ = opK2 f x (b ρ s); cases b ρ s <;> rfl
  | er x s => rfl
  | no => rfl
/-- a value as a test -/
def tvW (w : W) (st : Stt) : Rs Bool := tmV (eC w) [] st
@[simp] theorem tvW_bl (b : Bool) : tvW (.bl b) st = .ok b st := id rfl
def tvK  (r : Rs W) : Rs Bool := match r with | .ok a s => tvW a s | .er x s => .er x s | .no => .no
@[simp] theorem tvK_ok  (a : W) (s : Stt) : tvK  (.ok a s) = tvW a s := id rfl
@[simp] theorem ev_tv (m : EM) : tmV m ρ st = tvK (m ρ st) := by
  unfold tvK tvW tmV
  cases m ρ st with
  | ok a s => cases a <;> rfl
  | er x s => rfl
  | no => rfl
def tnotK  (r : Rs Bool) : Rs Bool := match r with | .ok b s => .ok (!b) s | .er x s => .er x s | .no => .no
@[simp] theorem tnotK_ok  (b : Bool) (s : Stt) : tnotK  (.ok b s) = .ok (!b) s := id rfl
@[simp] theorem ev_tnot (m : TM) : tmNot m ρ st = tnotK (m ρ st) := by unfold tmNot tnotK; cases m ρ st <;> rfl
def tandK (k : TM) (ρ : Ev) (r : Rs Bool) : Rs Bool := match r with | .ok b s => if b = true then k ρ s else .ok false s | .er x s => .er x s | .no => .no
@[simp] theorem tandK_ok (k : TM) (ρ : Ev) (b : Bool) (s : Stt) : tandK k ρ (.ok b s) = if b = true then k ρ s else .ok false s := id rfl
@[simp] theorem ev_tand (m k : TM) : tmAnd m k ρ st = tandK k ρ (m ρ st) := by unfold tmAnd tandK; cases m ρ st <;> rfl
def torK (k : TM) (ρ : Ev) (r : Rs Bool) : Rs Bool := match r with | .ok b s => if b = true then .ok true s else k ρ s | .er x s => .er x s | .no => .no
@[simp] theorem torK_ok (k : TM) (ρ : Ev) (b : Bool) (s : Stt) : torK k ρ (.ok b s) = if b = true then .ok true s else k ρ s := id rfl
@[simp] theorem ev_tor (m k : TM) : tmOr m k ρ st = torK k ρ (m ρ st) := by unfold tmOr torK; cases m ρ st <;> rfl
def fnK (f : F1) (r : Rs (List W)) : Rs W := match r with | .ok ws s => optR (f s ws) s | .er x s => .er x s | .no => .no
@[simp] theorem fnK_ok (f : F1) (ws : List W) (s : Stt) : fnK f (.ok ws s) = optR (f s ws) s := id rfl
@[simp] theorem ev_fn (f : F1) (k : AM) : eFn f k ρ st = fnK f (k ρ st) := by unfold eFn fnK; cases k ρ st <;> rfl
def fnVK (f : FL) (r : Rs (List W)) : Rs W := match r with | .ok ws s => optL (f s ws) s | .er x s => .er x s | .no => .no
@[simp] theorem fnVK_ok (f : FL) (ws : List W) (s : Stt) : fnVK f (.ok ws s) = optL (f s ws) s := id rfl
@[simp] theorem ev_fnV (f : FL) (k : AM) : eFnV f k ρ st = fnVK f (k ρ st) := by unfold eFnV fnVK; cases k ρ st <;> rfl
def fnOK (f : FL) (r : Rs (List W)) : Rs W := match r with | .ok ws s => optO (f s ws) s | .er x s => .er x s | .no => .no
@[simp] theorem fnOK_ok (f : FL) (ws : List W) (s : Stt) : fnOK f (.ok ws s) = optO (f s ws) s := id rfl
@[simp] theorem ev_fnO (f : FL) (k : AM) : eFnO f k ρ st = fnOK f (k ρ st) := by unfold eFnO fnOK; cases k ρ st <;> rfl
def callK (m : FM) (r : Rs (List W)) : Rs W := match r with | .ok ws s => m ws s | .er x s => .er x s | .no => .no
@[simp] theorem callK_ok (m : FM) (ws : List W) (s : Stt) : callK m (.ok ws s) = m ws s := id rfl
@[simp] theorem ev_call (m : FM) (k : AM) : eCall m k ρ st = callK m (k ρ st) := by unfold eCall callK; cases k ρ st <;> rfl
def chK3 (g : F2) (y : W) (r : Rs W) : Rs W := match r with | .ok z s => optR (g s y z) s | .er x s => .er x s | .no => .no
@[simp] theorem chK3_ok (g : F2) (y : W) (z : W) (s : Stt) : chK3 g y (.ok z s) = optR (g s y z) s := id rfl
def chW (g : F2) (y : W) (c : EM) (ρ : Ev) (s : Stt) (o : Option W) : Rs W := match o with
  | some (.bl true) => chK3 g y (c ρ s)
  | some (.bl false) => .ok (.bl false) s
  | _ => .no
@[simp] theorem chW_bl (g : F2) (y : W) (c : EM) (ρ : Ev) (s : Stt) (b : Bool) : chW g y c ρ s (some (.bl b)) = if b = true then chK3 g y (c ρ s) else .ok (.bl false) s := by cases b <;> rfl
def chK2 (f g : F2) (c : EM) (ρ : Ev) (x : W) (r : Rs W) : Rs W := match r with | .ok y s => chW g y c ρ s (f s x y) | .er x s => .er x s | .no => .no
@[simp] theorem chK2_ok (f g : F2) (c : EM) (ρ : Ev) (x : W) (y : W) (s : Stt) : chK2 f g c ρ x (.ok y s) = chW g y c ρ s (f s x y) := id rfl
def chK (f g : F2) (b c : EM) (ρ : Ev) (r : Rs W) : Rs W := match r with | .ok a s => chK2 f g c ρ a (b ρ s) | .er x s => .er x s | .no => .no
@[simp] theorem chK_ok (f g : F2) (b c : EM) (ρ : Ev) (a : W) (s : Stt) : chK f g b c ρ (.ok a s) = chK2 f g c ρ a (b ρ s) := id rfl
@[simp] theorem ev_chain (f g : F2) (a b c : EM) : eChain f g a b c ρ st = chK f g b c ρ (a ρ st) := by
  unfold eChain chK
  cases a ρ st with
  | ok x s =>
    show (b ρ s).bind _ = chK2 f g c ρ x (b ρ s)
    unfold chK2
    cases b ρ s with
    | ok y s2 =>
      show _ = chW g y c ρ s2 (f s2 x y)
      unfold chW
      dsimp only [Rs.bind]
      cases f s2 x y with
      | none => rfl
      | some w => cases w with
        | bl q => cases q with
          | true => show (c ρ s2).bind _ = chK3 g y (c ρ s2); unfold chK3; cases c ρ s2 <;> rfl
          | false => rfl
        | _ => rfl
    | er x s => rfl
    | no => rfl
  | er x s => rfl
  | no => rfl
def negW (w : W) (s : Stt) : Rs W := match w with | .int i => .ok (.int (-i)) s | _ => .no
@[simp] theorem negW_int (i : Int) : negW (.int i) st = .ok (.int (-i)) st := id rfl
def negK  (r : Rs W) : Rs W := match r with | .ok a s => negW a s | .er x s => .er x s | .no => .no
@[simp] theorem negK_ok  (a : W) (s : Stt) : negK  (.ok a s) = negW a s := id rfl
@[simp] theorem ev_neg (m : EM) : eNeg m ρ st = negK (m ρ st) := by unfold eNeg negK negW; cases m ρ st <;> rfl
def revTW (w : W) (s : Stt) : Rs W := match w with | .tup ws => .ok (.tup ws.reverse) s | _ => .no
@[simp] theorem revTW_tup (ws : List W) : revTW (.tup ws) st = .ok (.tup ws.reverse) st := id rfl
def revTK  (r : Rs W) : Rs W := match r with | .ok a s => revTW a s | .er x s => .er x s | .no => .no
@[simp] theorem revTK_ok  (a : W) (s : Stt) : revTK  (.ok a s) = revTW a s := id rfl
@[simp] theorem ev_revT (m : EM) : eRevT m ρ st = revTK (m ρ st) := by unfold eRevT revTK revTW; cases m ρ st <;> rfl
def revLK  (r : Rs W) : Rs W := match r with | .ok a s => optL ((lstOf s a).map List.reverse) s | .er x s => .er x s | .no => .no
@[simp] theorem revLK_ok  (a : W) (s : Stt) : revLK  (.ok a s) = optL ((lstOf s a).map List.reverse) s := id rfl
@[simp] theorem ev_revL (m : EM) : eRevL m ρ st = revLK (m ρ st) := by
  unfold eRevL revLK
  cases m ρ st with
  | ok a s => dsimp only [Rs.bind]; cases lstOf s a <;> rfl
  | er x s => rfl
  | no => rfl
def revOK  (r : Rs W) : Rs W := match r with | .ok a s => optO ((lstOf s a).map List.reverse) s | .er x s => .er x s | .no => .no
@[simp] theorem revOK_ok  (a : W) (s : Stt) : revOK  (.ok a s) = optO ((lstOf s a).map List.reverse) s := id rfl
@[simp] theorem ev_revO (m : EM) : eRevO m ρ st = revOK (m ρ st) := by
  unfold eRevO revOK
  cases m ρ st with
  | ok a s => dsimp only [Rs.bind]; cases lstOf s a <;> rfl
  | er x s => rfl
  | no => rfl
def someW (w : W) (s : Stt) : Rs (Option Int) := match w with | .int i => .ok (some i) s | _ => .no
@[simp] theorem someW_int (i : Int) : someW (.int i) st = .ok (some i) st := id rfl
def oSomeK  (r : Rs W) : Rs (Option Int) := match r with | .ok a s => someW a s | .er x s => .er x s | .no => .no
@[simp] theorem oSomeK_ok  (a : W) (s : Stt) : oSomeK  (.ok a s) = someW a s := id rfl
@[simp] theorem ev_oSome (m : EM) : oSome m ρ st = oSomeK (m ρ st) := by unfold oSome oSomeK someW; cases m ρ st <;> rfl
def slK3 (x : W) (l : Option Int) (r : Rs (Option Int)) : Rs W := match r with | .ok u s => optR (fSl s x l u) s | .er x s => .er x s | .no => .no
@[simp] theorem slK3_ok (x : W) (l : Option Int) (u : Option Int) (s : Stt) : slK3 x l (.ok u s) = optR (fSl s x l u) s := id rfl
def slK2 (x : W) (hi : OM) (ρ : Ev) (r : Rs (Option Int)) : Rs W := match r with | .ok l s => slK3 x l (hi ρ s) | .er x s => .er x s | .no => .no
@[simp] theorem slK2_ok (x : W) (hi : OM) (ρ : Ev) (l : Option Int) (s : Stt) : slK2 x hi ρ (.ok l s) = slK3 x l (hi ρ s) := id rfl
def slK (lo hi : OM) (ρ : Ev) (r : Rs W) : Rs W := match r with | .ok a s => slK2 a hi ρ (lo ρ s) | .er x s => .er x s | .no => .no
@[simp] theorem slK_ok (lo hi : OM) (ρ : Ev) (a : W) (s : Stt) : slK lo hi ρ (.ok a s) = slK2 a hi ρ (lo ρ s) := id rfl
@[simp] theorem ev_sl (m : EM) (lo hi : OM) : eSl m lo hi ρ st = slK lo hi ρ (m ρ st) := by
  unfold eSl slK
  cases m ρ st with
  | ok x s =>
    show (lo ρ s).bind _ = slK2 x hi ρ (lo ρ s)
    unfold slK2
    cases lo ρ s with
    | ok l s2 => show (hi ρ s2).bind _ = slK3 x l (hi ρ s2); unfold slK3; cases hi ρ s2 with
      | ok u s3 => rfl
      | er x s => rfl
      | no => rfl
    | er x s => rfl
    | no => rfl
  | er x s => rfl
  | no => rfl
def slOK3 (x : W) (l : Option Int) (r : Rs (Option Int)) : Rs W := match r with | .ok u s => optO ((lstOf s x).map fun ws => cutW ws l u) s | .er x s => .er x s | .no => .no
@[simp] theorem slOK3_ok (x : W) (l : Option Int) (u : Option Int) (s : Stt) : slOK3 x l (.ok u s) = optO ((lstOf s x).map fun ws => cutW ws l u) s := id rfl
def slOK2 (x : W) (hi : OM) (ρ : Ev) (r : Rs (Option Int)) : Rs W := match r with | .ok l s => slOK3 x l (hi ρ s) | .er x s => .er x s | .no => .no
@[simp] theorem slOK2_ok (x : W) (hi : OM) (ρ : Ev) (l : Option Int) (s : Stt) : slOK2 x hi ρ (.ok l s) = slOK3 x l (hi ρ s) := id rfl
def slOK (lo hi : OM) (ρ : Ev) (r : Rs W) : Rs W := match r with | .ok a s => slOK2 a hi ρ (lo ρ s) | .er x s => .er x s | .no => .no
@[simp] theorem slOK_ok (lo hi : OM) (ρ : Ev) (a : W) (s : Stt) : slOK lo hi ρ (.ok a s) = slOK2 a hi ρ (lo ρ s) := id rfl
@[simp] theorem ev_slO (m : EM) (lo hi : OM) : eSlO m lo hi ρ st = slOK lo hi ρ (m ρ st) := by
  unfold eSlO slOK
  cases m ρ st with
  | ok x s =>
    show (lo ρ s).bind _ = slOK2 x hi ρ (lo ρ s)
    unfold slOK2
    cases lo ρ s with
    | ok l s2 => show (hi ρ s2).bind _ = slOK3 x l (hi ρ s2); unfold slOK3; cases hi ρ s2 with
      | ok u s3 => dsimp only [Rs.bind]; cases lstOf s3 x <;> rfl
      | er x s => rfl
      | no => rfl
    | er x s => rfl
    | no => rfl
  | er x s => rfl
  | no => rfl
def bmK2 (mf : MF) (x : W) (r : Rs (List W)) : Rs W := match r with | .ok ws s => mf x ws s | .er x s => .er x s | .no => .no
@[simp] theorem bmK2_ok (mf : MF) (x : W) (ws : List W) (s : Stt) : bmK2 mf x (.ok ws s) = mf x ws s := id rfl
def bmW (mf : MF) (k : AM) (ρ : Ev) (x : W) (s : Stt) (o : Option (List W)) : Rs W := match o with | some _ => bmK2 mf x (k ρ s) | none => .no
@[simp] theorem bmW_some (mf : MF) (k : AM) (x : W) (us : List W) : bmW mf k ρ x st (some us) = bmK2 mf x (k ρ st) := id rfl
def bmK (mf : MF) (k : AM) (ρ : Ev) (r : Rs W) : Rs W := match r with | .ok a s => bmW mf k ρ a s (lstX s a) | .er x s => .er x s | .no => .no
@[simp] theorem bmK_ok (mf : MF) (k : AM) (ρ : Ev) (a : W) (s : Stt) : bmK mf k ρ (.ok a s) = bmW mf k ρ a s (lstX s a) := id rfl
@[simp] theorem ev_bm (m : EM) (k : AM) (mf : MF) : eBM m k mf ρ st = bmK mf k ρ (m ρ st) := by
  unfold eBM bmK
  cases m ρ st with
  | ok x s =>
    show (match lstX s x with | some _ => (k ρ s).bind _ | none => .no) = bmW mf k ρ x s (lstX s x)
    unfold bmW
    cases lstX s x with
    | none => rfl
    | some us => show (k ρ s).bind _ = bmK2 mf x (k ρ s); unfold bmK2; cases k ρ s <;> rfl
  | er x s => rfl
  | no => rfl
def idxW (k : AM) (ρ : Ev) (w : W) (s : Stt) : Rs W := match w with | .tup us => bmK2 mIdx (.tup us) (k ρ s) | _ => .no
@[simp] theorem idxW_tup (k : AM) (us : List W) : idxW k ρ (.tup us) st = bmK2 mIdx (.tup us) (k ρ st) := id rfl
def idxK (k : AM) (ρ : Ev) (r : Rs W) : Rs W := match r with | .ok a s => idxW k ρ a s | .er x s => .er x s | .no => .no
@[simp] theorem idxK_ok (k : AM) (ρ : Ev) (a : W) (s : Stt) : idxK k ρ (.ok a s) = idxW k ρ a s := id rfl
@[simp] theorem ev_idxT (m : EM) (k : AM) : eIdxT m k ρ st = idxK k ρ (m ρ st) := by
  unfold eIdxT idxK
  cases m ρ st with
  | ok x s =>
    cases x with
    | tup us => show (k ρ s).bind _ = bmK2 mIdx (.tup us) (k ρ s); unfold bmK2; cases k ρ s <;> rfl
    | _ => rfl
  | er x s => rfl
  | no => rfl
def lsW (s : Stt) (o : Option (List Str)) : Rs W := match o with | some xs => if xs.length ≤ 1000 then .ok (.int ((Low.nubS xs).length : Int)) s else .no | none => .no
@[simp] theorem lsW_some (xs : List Str) : lsW st (some xs) = if xs.length ≤ 1000 then .ok (.int ((Low.nubS xs).length : Int)) st else .no := id rfl
def lenSetK  (r : Rs W) : Rs W := match r with | .ok a s => lsW s ((seqOf s a).bind strsOf) | .er x s => .er x s | .no => .no
@[simp] theorem lenSetK_ok  (a : W) (s : Stt) : lenSetK  (.ok a s) = lsW s ((seqOf s a).bind strsOf) := id rfl
@[simp] theorem ev_lenSet (m : EM) : eLenSet m ρ st = lenSetK (m ρ st) := by unfold eLenSet lenSetK lsW; cases m ρ st <;> rfl
def isiTW (ns : List String) (s : Stt) (o : Option String) : Rs W := match o with | some t => optR ((kitAnyB t ns).map .bl) s | none => .no
@[simp] theorem isiTW_some (ns : List String) (t : String) : isiTW ns st (some t) = optR ((kitAnyB t ns).map .bl) st := id rfl
def isiTK (ns : List String) (r : Rs W) : Rs W := match r with | .ok a s => isiTW ns s (tyW s a) | .er x s => .er x s | .no => .no
@[simp] theorem isiTK_ok (ns : List String) (a : W) (s : Stt) : isiTK ns (.ok a s) = isiTW ns s (tyW s a) := id rfl
@[simp] theorem ev_isiT (m : EM) (ns : List String) : eIsiT m ns ρ st = isiTK ns (m ρ st) := by
  unfold eIsiT isiTK isiTW
  cases m ρ st with
  | ok a s =>
    dsimp only [Rs.bind]
    cases tyW s a with
    | none => rfl
    | some t => dsimp only; cases kitAnyB t ns <;> rfl
  | er x s => rfl
  | no => rfl
def andW (k : EM) (ρ : Ev) (w : W) (st : Stt) : Rs W := emAnd (eC w) k ρ st
@[simp] theorem andW_bl (k : EM) (b : Bool) : andW k ρ (.bl b) st = if b = true then k ρ st else .ok (.bl false) st := by cases b <;> rfl
def orW (k : EM) (ρ : Ev) (w : W) (st : Stt) : Rs W := emOr (eC w) k ρ st
@[simp] theorem orW_bl (k : EM) (b : Bool) : orW k ρ (.bl b) st = if b = true then .ok (.bl true) st else k ρ st := by cases b <;> rfl
def notW (w : W) (st : Stt) : Rs W := emNot (eC w) [] st
@[simp] theorem notW_bl (b : Bool) : notW (.bl b) st = .ok (.bl (!b)) st := id rfl
def andK (k : EM) (ρ : Ev) (r : Rs W) : Rs W := match r with | .ok a s => andW k ρ a s | .er x s => .er x s | .no => .no
@[simp] theorem andK_ok (k : EM) (ρ : Ev) (a : W) (s : Stt) : andK k ρ (.ok a s) = andW k ρ a s := id rfl
@[simp] theorem ev_emAnd (m k : EM) : emAnd m k ρ st = andK k ρ (m ρ st) := by unfold andK andW emAnd; cases m ρ st <;> rfl
def orK (k : EM) (ρ : Ev) (r : Rs W) : Rs W := match r with | .ok a s => orW k ρ a s | .er x s => .er x s | .no => .no
@[simp] theorem orK_ok (k : EM) (ρ : Ev) (a : W) (s : Stt) : orK k ρ (.ok a s) = orW k ρ a s := id rfl
@[simp] theorem ev_emOr (m k : EM) : emOr m k ρ st = orK k ρ (m ρ st) := by unfold orK orW emOr; cases m ρ st <;> rfl
def notK  (r : Rs W) : Rs W := match r with | .ok a s => notW a s | .er x s => .er x s | .no => .no
@[simp] theorem notK_ok  (a : W) (s : Stt) : notK  (.ok a s) = notW a s := id rfl
@[simp] theorem ev_emNot (m : EM) : emNot m ρ st = notK (m ρ st) := by
  unfold notK notW emNot
  cases m ρ st with
  | ok a s => cases a <;> rfl
  | er x s => rfl
  | no => rfl
def ifEK (x y : EM) (ρ : Ev) (r : Rs Bool) : Rs W := match r with | .ok b s => if b = true then x ρ s else y ρ s | .er x s => .er x s | .no => .no
@[simp] theorem ifEK_ok (x y : EM) (ρ : Ev) (b : Bool) (s : Stt) : ifEK x y ρ (.ok b s) = if b = true then x ρ s else y ρ s := id rfl
@[simp] theorem ev_emIf (c : TM) (x y : EM) : emIf c x y ρ st = ifEK x y ρ (c ρ st) := by unfold emIf ifEK; cases c ρ st <;> rfl
/-! statements -/
@[simp] theorem ev_next : sNext ρ st = .nx ρ st := id rfl
def seqK (k : SM) (r : RS) : RS := match r with | .nx ρ' st' => k ρ' st' | .rt w st' => .rt w st' | .bk ρ' st' => .bk ρ' st' | .ct ρ' st' => .ct ρ' st' | .er x ρ' st' => .er x ρ' st' | .no => .no
@[simp] theorem ev_seq (m k : SM) : sSeq m k ρ st = seqK k (m ρ st) := by unfold sSeq seqK; rfl
@[simp] theorem seqK_nx (k : SM) : seqK k (.nx ρ st) = k ρ st := id rfl
@[simp] theorem seqK_rt (k : SM) (w : W) : seqK k (.rt w st) = .rt w st := id rfl
@[simp] theorem seqK_bk (k : SM) : seqK k (.bk ρ st) = .bk ρ st := id rfl
@[simp] theorem seqK_ct (k : SM) : seqK k (.ct ρ st) = .ct ρ st := id rfl
def dropK  (ρ : Ev) (r : Rs W) : RS := match r with | .ok _a s => .nx ρ s | .er x s => .er x ρ s | .no => .no
@[simp] theorem dropK_ok  (ρ : Ev) (_a : W) (s : Stt) : dropK  ρ (.ok _a s) = .nx ρ s := id rfl
@[simp] theorem ev_drop (m : EM) : sDrop m ρ st = dropK ρ (m ρ st) := by unfold sDrop dropK; cases m ρ st <;> rfl
def retK  (ρ : Ev) (r : Rs W) : RS := match r with | .ok a s => .rt a s | .er x s => .er x ρ s | .no => .no
@[simp] theorem retK_ok  (ρ : Ev) (a : W) (s : Stt) : retK  ρ (.ok a s) = .rt a s := id rfl
@[simp] theorem ev_ret (m : EM) : sRet m ρ st = retK ρ (m ρ st) := by unfold sRet retK; cases m ρ st <;> rfl
@[simp] theorem ev_retN : sRetN ρ st = .rt .non st := id rfl
def ifK (x y : SM) (ρ : Ev) (r : Rs Bool) : RS := match r with | .ok b s => if b = true then x ρ s else y ρ s | .er x s => .er x ρ s | .no => .no
@[simp] theorem ifK_ok (x y : SM) (ρ : Ev) (b : Bool) (s : Stt) : ifK x y ρ (.ok b s) = if b = true then x ρ s else y ρ s := id rfl
@[simp] theorem ev_if (c : TM) (x y : SM) : sIf c x y ρ st = ifK x y ρ (c ρ st) := by unfold sIf ifK; cases c ρ st <;> rfl
@[simp] theorem ev_brk : sBreak ρ st = .bk ρ st := id rfl
@[simp] theorem ev_cont : sCont ρ st = .ct ρ st := id rfl
def optS (o : Option Ev) (s : Stt) : RS := match o with | some ρ' => .nx ρ' s | none => .no
@[simp] theorem optS_some (ρ' : Ev) : optS (some ρ') st = .nx ρ' st := id rfl
def asgK (g : GM) (ρ : Ev) (r : Rs W) : RS := match r with | .ok a s => optS (g s a ρ) s | .er x s => .er x ρ s | .no => .no
@[simp] theorem asgK_ok (g : GM) (ρ : Ev) (a : W) (s : Stt) : asgK g ρ (.ok a s) = optS (g s a ρ) s := id rfl
@[simp] theorem ev_asg (m : EM) (g : GM) : sAsg m g ρ st = asgK g ρ (m ρ st) := by unfold sAsg asgK optS; cases m ρ st <;> rfl
def parK2 (i j : Nat) (x : W) (ρ : Ev) (r : Rs W) : RS := match r with | .ok y s => .nx ((ρ.set i (some x)).set j (some y)) s | .er x s => .er x ρ s | .no => .no
@[simp] theorem parK2_ok (i j : Nat) (x : W) (ρ : Ev) (y : W) (s : Stt) : parK2 i j x ρ (.ok y s) = .nx ((ρ.set i (some x)).set j (some y)) s := id rfl
def parK (i j : Nat) (b : EM) (ρ : Ev) (r : Rs W) : RS := match r with | .ok a s => parK2 i j a ρ (b ρ s) | .er x s => .er x ρ s | .no => .no
@[simp] theorem parK_ok (i j : Nat) (b : EM) (ρ : Ev) (a : W) (s : Stt) : parK i j b ρ (.ok a s) = parK2 i j a ρ (b ρ s) := id rfl
@[simp] theorem ev_par (i j : Nat) (a b : EM) : sPar i j a b ρ st = parK i j b ρ (a ρ st) := by
  unfold sPar parK
  cases a ρ st with
  | ok x s => show (b ρ s).toS ρ _ = parK2 i j x ρ (b ρ s); unfold parK2; cases b ρ s <;> rfl
  | er x s => rfl
  | no => rfl
def setW (x l k : W) (ρ : Ev) (st3 : Stt) : RS := match l, k with
  | .loc n, .int j => match st3[n]? with
    | some (some (.lst us)) => match ixN us.length j with
      | some m => .nx ρ (st3.set n (some (.lst (us.set m x))))
      | none => .no
    | _ => .no
  | _, _ => .no
def setK3 (x l : W) (ρ : Ev) (r : Rs W) : RS := match r with | .ok k s => setW x l k ρ s | .er x s => .er x ρ s | .no => .no
@[simp] theorem setK3_ok (x l : W) (ρ : Ev) (k : W) (s : Stt) : setK3 x l ρ (.ok k s) = setW x l k ρ s := id rfl
def setK2 (x : W) (i : EM) (ρ : Ev) (r : Rs W) : RS := match r with | .ok l s => setK3 x l ρ (i ρ s) | .er x s => .er x ρ s | .no => .no
@[simp] theorem setK2_ok (x : W) (i : EM) (ρ : Ev) (l : W) (s : Stt) : setK2 x i ρ (.ok l s) = setK3 x l ρ (i ρ s) := id rfl
def setK (o i : EM) (ρ : Ev) (r : Rs W) : RS := match r with | .ok a s => setK2 a i ρ (o ρ s) | .er x s => .er x ρ s | .no => .no
@[simp] theorem setK_ok (o i : EM) (ρ : Ev) (a : W) (s : Stt) : setK o i ρ (.ok a s) = setK2 a i ρ (o ρ s) := id rfl
@[simp] theorem ev_setIx (e o i : EM) : sSetIx e o i ρ st = setK o i ρ (e ρ st) := by
  unfold sSetIx setK
  cases e ρ st with
  | ok x s =>
    show (o ρ s).toS ρ _ = setK2 x i ρ (o ρ s)
    unfold setK2
    cases o ρ s with
    | ok l s2 => show (i ρ s2).toS ρ _ = setK3 x l ρ (i ρ s2); unfold setK3 setW; cases i ρ s2 <;> rfl
    | er x s => rfl
    | no => rfl
  | er x s => rfl
  | no => rfl
@[simp] theorem ev_gname (i : Nat) (w : W) : gmName i st w ρ = some (ρ.set i (some w)) := id rfl
@[simp] theorem ev_gtup (n : Nat) (r : List W → Ev → Option Ev) (ws : List W) : gmTup n r st (.tup ws) ρ = if ws.length = n then r ws ρ else none := id rfl
@[simp] theorem ev_gprs (n : Nat) (r : List W → Ev → Option Ev) (ws : List W) : gmTup n r st (.prs ws) ρ = if ws.length = n then r ws ρ else none := id rfl
@[simp] theorem ev_gcons (i : Nat) (r : List W → Ev → Option Ev) (w : W) (ws : List W) : gmCons i r (w :: ws) ρ = r ws (ρ.set i (some w)) := id rfl
@[simp] theorem ev_gnil : gmNil [] ρ = some ρ := id rfl
noncomputable def forK (g : GM) (body : SM) (ρ : Ev) (r : Rs Src) : RS := match r with | .ok src s => forW src.ok g body src.items ρ s | .er x s => .er x ρ s | .no => .no
@[simp] theorem forK_ok (g : GM) (body : SM) (src : Src) : forK g body ρ (.ok src st) = forW src.ok g body src.items ρ st := id rfl
@[simp] theorem ev_for (im : IM) (g : GM) (body : SM) : sFor im g body ρ st = forK g body ρ (im ρ st) := by unfold sFor forK; cases im ρ st <;> rfl
def lcV (r : Rs (List W)) : Rs W := match r with | .ok ys s => .ok (.lst ys) s | _ => .no
@[simp] theorem lcV_ok (ys : List W) : lcV (.ok ys st) = .ok (.lst ys) st := id rfl
def lcO (r : Rs (List W)) : Rs W := match r with | .ok ys s => .ok (.loc s.length) (s ++ [some (.lst ys)]) | _ => .no
@[simp] theorem lcO_ok (ys : List W) : lcO (.ok ys st) = .ok (.loc st.length) (st ++ [some (.lst ys)]) := id rfl
noncomputable def lcK (g : GM) (c : TM) (m : EM) (vs : List Nat) (ρ : Ev) (r : Rs Src) : Rs W := match r with | .ok src s => if src.items.length ≤ 100000 then lcV (lcW src.ok g c m (wipeE ρ vs) src.items s) else .no | .er x s => .er x s | .no => .no
@[simp] theorem lcK_ok (g : GM) (c : TM) (m : EM) (vs : List Nat) (src : Src) : lcK g c m vs ρ (.ok src st) = if src.items.length ≤ 100000 then lcV (lcW src.ok g c m (wipeE ρ vs) src.items st) else .no := id rfl
@[simp] theorem ev_lc (im : IM) (g : GM) (c : TM) (m : EM) (vs : List Nat) : eLc im g c m vs ρ st = lcK g c m vs ρ (im ρ st) := by
  unfold eLc lcK lcV
  cases im ρ st with
  | ok src s =>
    dsimp only [Rs.bind]
    split
    · cases lcW src.ok g c m (wipeE ρ vs) src.items s <;> rfl
    · rfl
  | er x s => rfl
  | no => rfl
noncomputable def lcLK (g : GM) (c : TM) (m : EM) (vs : List Nat) (ρ : Ev) (r : Rs Src) : Rs W := match r with | .ok src s => if src.items.length ≤ 100000 then lcO (lcW src.ok g c m (wipeE ρ vs) src.items s) else .no | .er x s => .er x s | .no => .no
@[simp] theorem lcLK_ok (g : GM) (c : TM) (m : EM) (vs : List Nat) (src : Src) : lcLK g c m vs ρ (.ok src st) = if src.items.length ≤ 100000 then lcO (lcW src.ok g c m (wipeE ρ vs) src.items st) else .no := id rfl
@[simp] theorem ev_lcL (im : IM) (g : GM) (c : TM) (m : EM) (vs : List Nat) : eLcL im g c m vs ρ st = lcLK g c m vs ρ (im ρ st) := by
  unfold eLcL lcLK lcO
  cases im ρ st with
  | ok src s =>
    dsimp only [Rs.bind]
    split
    · cases lcW src.ok g c m (wipeE ρ vs) src.items s <;> rfl
    · rfl
  | er x s => rfl
  | no => rfl
def srcW (w : W) (s : Stt) (o : Option (List W)) : Rs Src := match o with | some ws => .ok ⟨ws, okOf w ws⟩ s | none => .no
@[simp] theorem srcW_some (w : W) (ws : List W) : srcW w st (some ws) = .ok ⟨ws, okOf w ws⟩ st := id rfl
def iseqK  (r : Rs W) : Rs Src := match r with | .ok a s => srcW a s (itemsOf s a) | .er x s => .er x s | .no => .no
@[simp] theorem iseqK_ok  (a : W) (s : Stt) : iseqK  (.ok a s) = srcW a s (itemsOf s a) := id rfl
@[simp] theorem ev_iseq (m : EM) : iSeq m ρ st = iseqK (m ρ st) := by unfold iSeq iseqK srcW; cases m ρ st <;> rfl
def rng1W (ws : List W) (st : Stt) : Rs Src := iRange1 (fun _ s => .ok ws s) [] st
def rng1K  (r : Rs (List W)) : Rs Src := match r with | .ok ws s => rng1W ws s | .er x s => .er x s | .no => .no
@[simp] theorem rng1K_ok  (ws : List W) (s : Stt) : rng1K  (.ok ws s) = rng1W ws s := id rfl
@[simp] theorem ev_rng1 (k : AM) : iRange1 k ρ st = rng1K (k ρ st) := by unfold rng1K rng1W iRange1; cases k ρ st <;> rfl
theorem rng1_ok {j : Int} (h0 : -(2 ^ 62) ≤ j) (h : j < 2 ^ 62) : rng1W [.int j] st = .ok ⟨rngW 0 j.toNat, fun _ => True⟩ st := by
  show (if -(2 ^ 62) ≤ j ∧ j < 2 ^ 62 then Rs.ok (⟨rngW 0 j.toNat, fun _ => True⟩ : Src) st else .no) = _
  rw [if_pos ⟨h0, h⟩]
theorem rng1_nat {n : Nat} (h : n ≤ 100000) : rng1W [.int (n : Int)] st = .ok ⟨rngW 0 n, fun _ => True⟩ st := by
  rw [rng1_ok (by omega) (by omega), Int.toNat_natCast]
@[simp] theorem rng_len (lo : Int) (n : Nat) : (rngW lo n).length = n := by simp [rngW]
def rng2W (ws : List W) (st : Stt) : Rs Src := iRange2 (fun _ s => .ok ws s) [] st
def rng2K  (r : Rs (List W)) : Rs Src := match r with | .ok ws s => rng2W ws s | .er x s => .er x s | .no => .no
@[simp] theorem rng2K_ok  (ws : List W) (s : Stt) : rng2K  (.ok ws s) = rng2W ws s := id rfl
@[simp] theorem ev_rng2 (k : AM) : iRange2 k ρ st = rng2K (k ρ st) := by unfold rng2K rng2W iRange2; cases k ρ st <;> rfl
@[simp] theorem wipe_nil (ρ : Ev) : wipeE ρ [] = ρ := id rfl
@[simp] theorem wipe_cons (ρ : Ev) (v : Nat) (vs : List Nat) : wipeE ρ (v :: vs) = (wipeE ρ vs).set v none := id rfl
/-- a def's end -/
def funK (r : RS) : Rs W := match r with
  | .nx _ st' => .ok .non st'
  | .rt w st' => .ok w st'
  | .er x _ st' => .er x st'
  | _ => .no
@[simp] theorem funK_nx : funK (.nx ρ st) = .ok .non st := id rfl
@[simp] theorem funK_rt (w : W) : funK (.rt w st) = .ok w st := id rfl
@[simp] theorem ev_fun (n : Nat) (b : SM) (ws : List W) : mFun n b ws st = funK (b (entry n ws) st) := id rfl
/-! operations -/
@[simp] theorem f_addI (i j : Int) : fAdd st (.int i) (.int j) = some (.int (i + j)) := id rfl
@[simp] theorem f_addT (xs ys : List W) : fAdd st (.tup xs) (.tup ys) = if xs.length + ys.length ≤ 100000 then some (.tup (xs ++ ys)) else none := id rfl
@[simp] theorem f_addL (xs ys : List W) : fAdd st (.lst xs) (.lst ys) = fCatL st (.lst xs) (.lst ys) := id rfl
@[simp] theorem f_sub (i j : Int) : fSub st (.int i) (.int j) = some (.int (i - j)) := id rfl
@[simp] theorem f_lt (i j : Int) : fLt st (.int i) (.int j) = some (.bl (decide (i < j))) := id rfl
@[simp] theorem f_le (i j : Int) : fLe st (.int i) (.int j) = some (.bl (decide (i ≤ j))) := id rfl
@[simp] theorem f_gt (i j : Int) : fGt st (.int i) (.int j) = some (.bl (decide (j < i))) := id rfl
@[simp] theorem f_ge (i j : Int) : fGe st (.int i) (.int j) = some (.bl (decide (j ≤ i))) := id rfl
theorem f_mod (i j : Int) (h : 0 < j) : fMod st (.int i) (.int j) = some (.int (i % j)) := by
  show (if decide (0 < j) = true then _ else _) = _
  rw [if_pos (decide_eq_true h)]
theorem f_div (i j : Int) (h : 0 < j) (k : j < 2 ^ 62) : fDiv st (.int i) (.int j) = some (.int (i / j)) := by
  show (if decide (0 < j ∧ j < 2 ^ 62) = true then _ else _) = _
  rw [if_pos (decide_eq_true ⟨h, k⟩)]
theorem f_mul (i j : Int) (h : i.natAbs < 2 ^ 1000) (k : j.natAbs < 2 ^ 1000) : fMul st (.int i) (.int j) = some (.int (i * j)) := by
  show (if mulOk i j = true then _ else _) = _
  rw [if_pos (show mulOk i j = true from decide_eq_true ⟨h, k⟩)]
theorem f_pow (i j : Int) (h : i.natAbs < 2 ^ 1000) (k : 0 ≤ j) (l : j ≤ 1000) : fPow st (.int i) (.int j) = some (.int (i ^ j.toNat)) := by
  show (if powOk i j = true then _ else _) = _
  rw [if_pos (show powOk i j = true from decide_eq_true ⟨h, k, l⟩)]
@[simp] theorem f_isi (x : W) (T : String) : fIsi st [x, .ty T] = match tyW st x with | some t => (kitB t T).map .bl | none => none := by unfold fIsi; rfl
@[simp] theorem ty_int (i : Int) : tyW st (.int i) = some "int" := id rfl
@[simp] theorem ty_str (i : Str) : tyW st (.str i) = some "str" := id rfl
@[simp] theorem ty_tup (i : List W) : tyW st (.tup i) = some "tuple" := id rfl
@[simp] theorem ty_lst (i : List W) : tyW st (.lst i) = some "list" := id rfl
@[simp] theorem k_int : kitB "int" "int" = some true := by decide +kernel
@[simp] theorem k_intb : kitB "int" "bool" = some false := by decide +kernel
@[simp] theorem k_str : kitB "str" "str" = some true := by decide +kernel
@[simp] theorem k_tup : kitB "tuple" "tuple" = some true := by decide +kernel
@[simp] theorem k_lst : kitB "list" "list" = some true := by decide +kernel
@[simp] theorem f_len (x : W) : fLen st [x] = match lenOf st x with | some n => some (.int (n : Int)) | none => none := by
  unfold fLen
  dsimp only
  cases lenOf st x <;> rfl
@[simp] theorem len_tup (ws : List W) : lenOf st (.tup ws) = some ws.length := id rfl
@[simp] theorem len_lst (ws : List W) : lenOf st (.lst ws) = some ws.length := id rfl
@[simp] theorem len_str (z : Str) : lenOf st (.str z) = if z.length ≤ 100000 then some z.length else none := id rfl
@[simp] theorem len_loc (n : Nat) : lenOf st (.loc n) = match st[n]? with | some (some (.lst ws)) => some ws.length | some (some (.dic kvs)) => some kvs.length | _ => none := by unfold lenOf; rfl
@[simp] theorem sq_tup (ws : List W) : seqOf st (.tup ws) = some ws := id rfl
@[simp] theorem sq_lst (ws : List W) : seqOf st (.lst ws) = some ws := id rfl
@[simp] theorem sq_scr (ws : List W) : seqOf st (.scr ws) = some ws := id rfl
@[simp] theorem sq_loc (n : Nat) : seqOf st (.loc n) = match st[n]? with | some (some (.lst ws)) => some ws | _ => none := by unfold seqOf; rfl
@[simp] theorem ls_lst (ws : List W) : lstOf st (.lst ws) = some ws := id rfl
@[simp] theorem ls_scr (ws : List W) : lstOf st (.scr ws) = some ws := id rfl
@[simp] theorem ls_loc (n : Nat) : lstOf st (.loc n) = match st[n]? with | some (some (.lst ws)) => some ws | _ => none := by unfold lstOf; rfl
@[simp] theorem it_tup (ws : List W) : itemsOf st (.tup ws) = some ws := id rfl
@[simp] theorem it_lst (ws : List W) : itemsOf st (.lst ws) = some ws := id rfl
@[simp] theorem it_scr (ws : List W) : itemsOf st (.scr ws) = some ws := id rfl
@[simp] theorem it_loc (n : Nat) : itemsOf st (.loc n) = seqOf st (.loc n) := id rfl
@[simp] theorem okOf_tup (us ws : List W) : okOf (.tup us) ws = fun _ => True := id rfl
@[simp] theorem okOf_lst (us ws : List W) : okOf (.lst us) ws = fun _ => True := id rfl
@[simp] theorem okOf_scr (us ws : List W) : okOf (.scr us) ws = fun _ => True := id rfl
@[simp] theorem ix_tup' (ws : List W) (i : Int) : fIx st (.tup ws) (.int i) = atI ws i := id rfl
@[simp] theorem ix_lst' (ws : List W) (i : Int) : fIx st (.lst ws) (.int i) = atI ws i := id rfl
@[simp] theorem ix_scr' (ws : List W) (i : Int) : fIx st (.scr ws) (.int i) = atI ws i := id rfl
@[simp] theorem ix_loc' (n : Nat) (i : Int) : fIx st (.loc n) (.int i) = match seqOf st (.loc n) with | some ws => atI ws i | none => none := id rfl
theorem atI_nat {α : Type} (xs : List α) (i : Nat) : atI xs (i : Int) = xs[i]? := by
  unfold atI ixN
  rw [if_pos (by omega)]
  by_cases h : (i : Int) < xs.length
  · rw [if_pos h]; rfl
  · rw [if_neg h, List.getElem?_eq_none (by omega)]; rfl
@[simp] theorem atI_0 {α : Type} (xs : List α) : atI xs 0 = xs[0]? := atI_nat xs 0
@[simp] theorem atI_1 {α : Type} (xs : List α) : atI xs 1 = xs[1]? := atI_nat xs 1
@[simp] theorem atI_2 {α : Type} (xs : List α) : atI xs 2 = xs[2]? := atI_nat xs 2
@[simp] theorem f_max2 (i j : Int) : fMax st [.int i, .int j] = some (.int (max i j)) := by
  show some (W.int (if j > i then j else i)) = _
  congr 2
  split <;> omega
@[simp] theorem f_min2 (i j : Int) : fMin st [.int i, .int j] = some (.int (min i j)) := by
  show some (W.int (if j < i then j else i)) = _
  congr 2
  split <;> omega
@[simp] theorem f_abs (i : Int) : fAbs st [.int i] = some (.int (i.natAbs : Int)) := by
  show some (W.int (if i < 0 then -i else i)) = _
  congr 2
  split <;> omega
theorem blsOf_map {α : Type} (f : α → Bool) : ∀ xs : List α, blsOf (xs.map fun a => .bl (f a)) = some (xs.map f)
  | [] => rfl
  | a :: r => by rw [List.map_cons, blsOf]; rw [blsOf_map f r]; rfl
theorem strsOf_map : ∀ xs : List Str, strsOf (xs.map .str) = some xs
  | [] => rfl
  | a :: r => by rw [List.map_cons, strsOf]; rw [strsOf_map r]; rfl
theorem fAll_map {α : Type} (f : α → Bool) (xs : List α) : fAll st [.lst (xs.map fun a => .bl (f a))] = some (.bl (xs.all f)) := by
  show (match (lstOf st (.lst _)).bind blsOf with | some bs => some (W.bl (bs.all id)) | none => none) = _
  rw [ls_lst]
  show (match blsOf _ with | some bs => some (W.bl (bs.all id)) | none => none) = _
  rw [blsOf_map]
  simp
/-! comprehensions, loops -/
theorem lcW_pure {ok : Stt → Prop} {g : GM} {c : TM} {m : EM} {p : W → Bool} {f : W → W} (hk : ok st) : ∀ (ws : List W), (∀ w ∈ ws, ∃ ρ1, g st w ρ = some ρ1 ∧ c ρ1 st = .ok (p w) st ∧ (p w = true → m ρ1 st = .ok (f w) st)) →
    lcW ok g c m ρ ws st = .ok ((ws.filter p).map f) st
  | [], _ => by rw [lcW, if_pos hk]; rfl
  | w :: ws, h => by
    obtain ⟨ρ1, h1, h2, h3⟩ := h w List.mem_cons_self
    rw [lcW, if_pos hk, h1]
    dsimp only
    rw [h2]
    have ih := lcW_pure hk ws fun u hu => h u (List.mem_cons_of_mem _ hu)
    cases hp : p w with
    | true => simp [h3 hp, ih, hp]
    | false => simp [ih, hp]
theorem lcW_map {ok : Stt → Prop} {g : GM} {m : EM} {f : W → W} (hk : ok st) (ws : List W) (h : ∀ w ∈ ws, ∃ ρ1, g st w ρ = some ρ1 ∧ m ρ1 st = .ok (f w) st) : lcW ok g tmYes m ρ ws st = .ok (ws.map f) st := by
  have := lcW_pure (ok := ok) (g := g) (c := tmYes) (m := m) (p := fun _ => true) (f := f) (ρ := ρ) hk ws fun w hw => let ⟨ρ1, a, b⟩ := h w hw; ⟨ρ1, a, rfl, fun _ => b⟩
  rwa [List.filter_eq_self.mpr fun _ _ => rfl] at this
theorem lcW_true {ok : Stt → Prop} {g : GM} {m : EM} (hk : ok st) (ws : List W) (h : ∀ w ∈ ws, ∃ ρ1, g st w ρ = some ρ1 ∧ m ρ1 st = .ok (.bl true) st) : lcW ok g tmYes m ρ ws st = .ok (List.replicate ws.length (.bl true)) st := by
  rw [lcW_map (f := fun _ => .bl true) hk ws h, List.map_const']
@[simp] theorem fAll_rep (n : Nat) : fAll st [.lst (List.replicate n (.bl true))] = some (.bl true) := by
  have := fAll_map (st := st) (fun _ : Nat => true) (List.range n)
  rw [List.map_const', List.length_range] at this
  rw [this]
  simp
theorem forW_nil {ok : Stt → Prop} {g : GM} {body : SM} (hk : ok st) : forW ok g body [] ρ st = .nx ρ st := by rw [forW, if_pos hk]
theorem forW_nx {ok : Stt → Prop} {g : GM} {body : SM} {w : W} {ws : List W} {ρ1 ρ2 : Ev} {st2 : Stt} (hk : ok st) (hg : g st w ρ = some ρ1) (hb : body ρ1 st = .nx ρ2 st2) : forW ok g body (w :: ws) ρ st = forW ok g body ws ρ2 st2 := by
  rw [forW, if_pos hk, hg]
  dsimp only
  rw [hb]
  rfl
/-! data -/
mutual
def datW : Nat → W → Bool
  | _, .non => true
  | _, .bl _ => true
  | _, .int _ => true
  | _, .str x => PyData.strOk x
  | n, .tup ws => decide (0 < n) && datWs (n - 1) ws
  | n, .lst ws => decide (0 < n) && datWs (n - 1) ws
  | _, .dic _ => false
  | _, .ty _ => false
  | _, .obj _ => false
  | _, .loc _ => false
  | _, .prs _ => false
  | _, .scr _ => false
  | _, .ext _ _ => false
def datWs : Nat → List W → Bool
  | _, [] => true
  | n, w :: ws => datW n w && datWs n ws
end
theorem depthAll_nil : PyData.depthAll [] = 0 := by simp only [PyData.depthAll]
mutual
theorem dat_toD : ∀ (n : Nat) (w : W), datW n w = true → ∃ d, (∀ st, toD st w = some d) ∧ toD0 w = some d ∧ d.canLay0 = true ∧ d.depth ≤ n ∧ PyData.eqv d d = true
  | _, .non, _ => ⟨.none, fun _ => rfl, rfl, rfl, by simp only [PyData.depth]; omega, rfl⟩
  | _, .bl b, _ => ⟨.bool b, fun _ => rfl, rfl, rfl, by simp only [PyData.depth]; omega, by simp only [PyData.eqv, beq_self_eq_true]⟩
  | _, .int i, _ => ⟨.int i, fun _ => rfl, rfl, rfl, by simp only [PyData.depth]; omega, by simp only [PyData.eqv, beq_self_eq_true]⟩
  | _, .str x, h => ⟨.str x, fun _ => rfl, rfl, by simp only [PyData.canLay0]; rw [datW] at h; exact h, by simp only [PyData.depth]; omega, by simp only [PyData.eqv, beq_self_eq_true]⟩
  | n, .tup ws, h => by
    rw [datW, Bool.and_eq_true] at h
    obtain ⟨ds, h1, h2, h3, h4, h5⟩ := dats_toD (n - 1) ws h.2
    have h0 : 0 < n := of_decide_eq_true h.1
    exact ⟨.tuple ds, fun st => by rw [toD, h1 st]; rfl, by rw [toD0, h2]; rfl, by simp only [PyData.canLay0]; exact h3, by simp only [PyData.depth]; omega, by simp only [PyData.eqv]; exact h5⟩
  | n, .lst ws, h => by
    rw [datW, Bool.and_eq_true] at h
    obtain ⟨ds, h1, h2, h3, h4, h5⟩ := dats_toD (n - 1) ws h.2
    have h0 : 0 < n := of_decide_eq_true h.1
    exact ⟨.list ds, fun st => by rw [toD, h1 st]; rfl, by rw [toD0, h2]; rfl, by simp only [PyData.canLay0]; exact h3, by simp only [PyData.depth]; omega, by simp only [PyData.eqv]; exact h5⟩
  | _, .ext _ _, h => by rw [datW] at h; cases h
theorem dats_toD : ∀ (n : Nat) (ws : List W), datWs n ws = true → ∃ ds, (∀ st, toDs st ws = some ds) ∧ toD0s ws = some ds ∧ PyData.canLayAll0 ds = true ∧ PyData.depthAll ds ≤ n ∧ PyData.eqvAll ds ds = true
  | _, [], _ => ⟨[], fun _ => by rw [toDs], by rw [toD0s], by simp only [PyData.canLayAll0], by rw [depthAll_nil]; omega, by simp only [PyData.eqvAll]⟩
  | n, w :: ws, h => by
    rw [datWs, Bool.and_eq_true] at h
    obtain ⟨d, a1, a2, a3, a4, a5⟩ := dat_toD n w h.1
    obtain ⟨ds, b1, b2, b3, b4, b5⟩ := dats_toD n ws h.2
    refine ⟨d :: ds, fun st => by rw [toDs, a1 st, b1 st], by rw [toD0s, a2, b2], by simp only [PyData.canLayAll0]; rw [a3, b3]; rfl, by simp only [PyData.depthAll]; omega, by simp only [PyData.eqvAll]; rw [a5, b5]; rfl⟩
end
theorem shaped_of {d : PyData} (h : d.canLay0 = true) (k : d.depth ≤ 64) : SeqAt.shaped d = true := by
  show (d.canLay0 && decide (d.depth ≤ 64)) = true
  rw [h, decide_eq_true k]; rfl
theorem fEq_same {w : W} (h : datW 64 w = true) : fEq st w w = some (.bl true) := by
  obtain ⟨d, h1, _, h3, h4, h5⟩ := dat_toD 64 w h
  unfold fEq
  rw [h1 st]
  dsimp only
  rw [if_pos ⟨shaped_of h3 h4, shaped_of h3 h4⟩, h5]
theorem fNe_same {w : W} (h : datW 64 w = true) : fNe st w w = some (.bl false) := by
  obtain ⟨d, h1, _, h3, h4, h5⟩ := dat_toD 64 w h
  unfold fNe
  rw [h1 st]
  dsimp only
  rw [if_pos ⟨shaped_of h3 h4, shaped_of h3 h4⟩, h5]
  rfl
@[simp] theorem fEq_int (i j : Int) : fEq st (.int i) (.int j) = some (.bl (i == j)) := by
  unfold fEq toD
  dsimp only
  rw [if_pos ⟨shaped_of rfl (by simp only [PyData.depth]; omega), shaped_of rfl (by simp only [PyData.depth]; omega)⟩]
  simp only [PyData.eqv]
@[simp] theorem fNe_int (i j : Int) : fNe st (.int i) (.int j) = some (.bl (i != j)) := by
  unfold fNe toD
  dsimp only
  rw [if_pos ⟨shaped_of rfl (by simp only [PyData.depth]; omega), shaped_of rfl (by simp only [PyData.depth]; omega)⟩]
  simp only [PyData.eqv]
  rfl
theorem fEq_str (a b : Str) (h : PyData.strOk a = true) (k : PyData.strOk b = true) : fEq st (.str a) (.str b) = some (.bl (a == b)) := by
  unfold fEq toD
  dsimp only
  rw [if_pos ⟨shaped_of (by simp only [PyData.canLay0]; exact h) (by simp only [PyData.depth]; omega), shaped_of (by simp only [PyData.canLay0]; exact k) (by simp only [PyData.depth]; omega)⟩]
  simp only [PyData.eqv]
theorem fNe_str (a b : Str) (h : PyData.strOk a = true) (k : PyData.strOk b = true) : fNe st (.str a) (.str b) = some (.bl (a != b)) := by
  unfold fNe toD
  dsimp only
  rw [if_pos ⟨shaped_of (by simp only [PyData.canLay0]; exact h) (by simp only [PyData.depth]; omega), shaped_of (by simp only [PyData.canLay0]; exact k) (by simp only [PyData.depth]; omega)⟩]
  simp only [PyData.eqv]
  rfl
/-! frozen: what has no place in it -/
mutual
def nlW : W → Bool
  | .tup ws => nlWs ws
  | .lst ws => nlWs ws
  | .prs ws => nlWs ws
  | .scr ws => nlWs ws
  | .dic kvs => nlWk kvs
  | .loc _ => false
  | .non => true
  | .bl _ => true
  | .int _ => true
  | .str _ => true
  | .ty _ => true
  | .obj _ => true
  | .ext _ _ => true
def nlWs : List W → Bool
  | [] => true
  | w :: ws => nlW w && nlWs ws
def nlWk : List (Key × W) → Bool
  | [] => true
  | (_, w) :: ws => nlW w && nlWk ws
end
mutual
theorem nl_ok (n : Nat) : ∀ w : W, nlW w = true → okL n w = true
  | .tup ws, h => by rw [nlW] at h; rw [okL]; exact nls_ok n ws h
  | .lst ws, h => by rw [nlW] at h; rw [okL]; exact nls_ok n ws h
  | .prs ws, h => by rw [nlW] at h; rw [okL]; exact nls_ok n ws h
  | .scr ws, h => by rw [nlW] at h; rw [okL]; exact nls_ok n ws h
  | .dic ws, h => by rw [nlW] at h; rw [okL]; exact nlk_ok n ws h
  | .loc _, h => by rw [nlW] at h; cases h
  | .non, _ => by rw [okL]
  | .bl _, _ => by rw [okL]
  | .int _, _ => by rw [okL]
  | .str _, _ => by rw [okL]
  | .ty _, _ => by rw [okL]
  | .obj _, _ => by rw [okL]
  | .ext _ _, _ => by rw [okL]
theorem nls_ok (n : Nat) : ∀ w : List W, nlWs w = true → okLs n w = true
  | [], _ => by rw [okLs]
  | w :: ws, h => by rw [nlWs, Bool.and_eq_true] at h; rw [okLs, nl_ok n w h.1, nls_ok n ws h.2]; rfl
theorem nlk_ok (n : Nat) : ∀ w : List (Key × W), nlWk w = true → okLk n w = true
  | [], _ => by rw [okLk]
  | (k, w) :: ws, h => by rw [nlWk, Bool.and_eq_true] at h; rw [okLk, nl_ok n w h.1, nlk_ok n ws h.2]; rfl
end
mutual
theorem nl_fz (n : Nat) (st : Stt) : ∀ w : W, nlW w = true → fzW n st w = some w
  | .tup ws, h => by rw [nlW] at h; rw [fzW, nls_fz n st ws h]; rfl
  | .lst ws, h => by rw [nlW] at h; rw [fzW, nls_fz n st ws h]; rfl
  | .prs ws, h => by rw [nlW] at h; rw [fzW, if_pos (nls_ok n ws h)]
  | .scr ws, h => by rw [nlW] at h; rw [fzW, if_pos (nls_ok n ws h)]
  | .dic ws, h => by rw [nlW] at h; rw [fzW, if_pos (nlk_ok n ws h)]
  | .loc _, h => by rw [nlW] at h; cases h
  | .non, _ => by rw [fzW]
  | .bl _, _ => by rw [fzW]
  | .int _, _ => by rw [fzW]
  | .str _, _ => by rw [fzW]
  | .ty _, _ => by rw [fzW]
  | .obj _, _ => by rw [fzW]
  | .ext _ _, _ => by rw [fzW]
theorem nls_fz (n : Nat) (st : Stt) : ∀ w : List W, nlWs w = true → fzWs n st w = some w
  | [], _ => by rw [fzWs]
  | w :: ws, h => by rw [nlWs, Bool.and_eq_true] at h; rw [fzWs, nl_fz n st w h.1, nls_fz n st ws h.2]
end
theorem nl_strs (xs : List Str) : nlWs (xs.map .str) = true := by
  induction xs with
  | nil => simp only [List.map_nil, nlWs]
  | cons a r ih => rw [List.map_cons, nlWs, ih, nlW]; rfl
theorem dat_strs {n : Nat} {xs : List Str} (h : ∀ x ∈ xs, PyData.strOk x = true) : datWs n (xs.map .str) = true := by
  induction xs with
  | nil => simp only [List.map_nil, datWs]
  | cons a r ih => rw [List.map_cons, datWs, ih (fun x hx => h x (List.mem_cons_of_mem _ hx)), datW, h a List.mem_cons_self]; rfl
theorem nls_all {ws : List W} : nlWs ws = true ↔ ∀ w ∈ ws, nlW w = true := by
  induction ws with
  | nil => simp [nlWs]
  | cons a r ih => rw [nlWs, Bool.and_eq_true, ih]; simp
/-- a def that leaves the store as it stood -/
theorem frz_pure {m : FM} {ws : List W} {w : W} (h : m ws st = .ok w st) (hw : nlW w = true) : frz m ws st = .ok w st := by
  have := frz_new (m := m) (ws := ws) (st := st) (ex := []) (w := w) (w' := w) (by rw [List.append_nil]; exact h) (by rw [List.append_nil]; exact nl_fz _ _ w hw)
  exact this
end
end Sim
end
section
set_option Elab.async false
set_option linter.all false
set_option maxRecDepth 100000
set_option maxHeartbeats 1000000
open PySem PySem.Spec PyProof.Rows L2
namespace Sim
/-! draws -/
theorem small {x : Int} (h0 : 0 ≤ x) (h : x < 2 ^ 250) : x.natAbs < 2 ^ 1000 := by
  have h1 : x.natAbs < 2 ^ 250 := by
    have : (x.natAbs : Int) = x := Int.natAbs_of_nonneg h0
    have h2 : (x.natAbs : Int) < ((2 ^ 250 : Nat) : Int) := by rw [this]; exact_mod_cast h
    exact_mod_cast h2
  exact Nat.lt_trans h1 (Nat.pow_lt_pow_right (by decide) (by decide))
/-- the bag of draws: what is left, how many more draws may be made of it -/
def Sp (st : Stt) (i N : Nat) : Prop := ∃ a b c : Int, st[i]? = some (some (.lst [.int a, .int b, .int c])) ∧ 0 ≤ a ∧ 0 ≤ b ∧ b < 2 ^ 200 ∧ 0 ≤ c ∧ c + (N : Int) ≤ 2 ^ 100
theorem Sp.le {st : Stt} {i N M : Nat} (h : Sp st i N) (k : M ≤ N) : Sp st i M := by
  obtain ⟨a, b, c, h1, h2, h3, h4, h5, h6⟩ := h
  exact ⟨a, b, c, h1, h2, h3, h4, h5, by omega⟩
theorem Sp.cong {st st' : Stt} {i N M : Nat} (h : Sp st i N) (e : st'[i]? = st[i]?) (k : M ≤ N) : Sp st' i M := by
  obtain ⟨a, b, c, h1, h2, h3, h4, h5, h6⟩ := h
  exact ⟨a, b, c, e.trans h1, h2, h3, h4, h5, by omega⟩
theorem Sp.lt {st : Stt} {i N : Nat} (h : Sp st i N) : i < st.length := by
  obtain ⟨a, b, c, h1, _⟩ := h
  exact (List.getElem?_eq_some_iff.mp h1).1
structure Dr (st st' : Stt) (i N : Nat) : Prop where
  len : st'.length = st.length
  fr : ∀ j, j ≠ i → st'[j]? = st[j]?
  sp : Sp st' i N
theorem Dr.trans {st st1 st2 : Stt} {i N M : Nat} (x : Dr st st1 i N) (y : Dr st1 st2 i M) : Dr st st2 i M :=
  ⟨y.len.trans x.len, fun j h => (y.fr j h).trans (x.fr j h), y.sp⟩
theorem Dr.refl {st : Stt} {i N : Nat} (h : Sp st i N) : Dr st st i N := ⟨rfl, fun _ _ => rfl, h⟩
theorem frz_dr {m : FM} {ws : List W} {st st2 : Stt} {w w' : W} {i N : Nat} (h : m ws st = .ok w st2) (hw : fzW st.length st2 w = some w') (hf : ∀ j, j < st.length → j ≠ i → st2[j]? = st[j]?) (hs : Sp st2 i N) (hl : st.length ≤ st2.length) (hi : i < st.length) :
    ∃ st', frz m ws st = .ok w' st' ∧ Dr st st' i N := by
  refine ⟨st2.take st.length, frz_eq h (fun j hj => ?_) hw, by rw [List.length_take]; omega, fun j hj => ?_, ?_⟩
  · by_cases e : j = i
    · subst e
      obtain ⟨a, b, c, h1, _⟩ := hs
      exact .inr ⟨_, h1, by simp [okO, okLs, okL]⟩
    · exact .inl (hf j hj e)
  · by_cases hjl : j < st.length
    · rw [List.getElem?_take_of_lt hjl]; exact hf j hjl hj
    · rw [List.getElem?_eq_none (by rw [List.length_take]; omega), List.getElem?_eq_none (by omega)]
  · obtain ⟨a, b, c, h1, h2⟩ := hs
    exact ⟨a, b, c, by rw [List.getElem?_take_of_lt hi]; exact h1, h2⟩
theorem lcW_inv2 {ρ : Ev} {ok : Stt → Prop} {g : GM} {m : EM} (I : List W → Stt → Prop) (n : Nat) : ∀ (ws : List W) (acc : List W) (st : Stt), acc.length + ws.length = n → I acc st →
    (∀ (w : W) (acc : List W) (st : Stt), acc.length < n → w ∈ ws → I acc st → ∃ ρ1, g st w ρ = some ρ1 ∧ ∃ y st', m ρ1 st = .ok y st' ∧ I (acc ++ [y]) st') → (∀ acc st, I acc st → ok st) →
    ∃ ys st', lcW ok g tmYes m ρ ws st = .ok ys st' ∧ ys.length = ws.length ∧ I (acc ++ ys) st'
  | [], acc, st, _, hi, _, hk => ⟨[], st, by rw [lcW, if_pos (hk _ _ hi)], rfl, by rw [List.append_nil]; exact hi⟩
  | w :: ws, acc, st, hn, hi, h, hk => by
    obtain ⟨ρ1, h1, y, st1, h2, hi1⟩ := h w acc st (by simp at hn; omega) List.mem_cons_self hi
    obtain ⟨ys, st2, h3, h4, h5⟩ := lcW_inv2 I n ws (acc ++ [y]) st1 (by simp at hn ⊢; omega) hi1 (fun u acc st hl hu => h u acc st hl (List.mem_cons_of_mem _ hu)) hk
    refine ⟨y :: ys, st2, ?_, by simp [h4], by simpa using h5⟩
    rw [lcW, if_pos (hk _ _ hi), h1]
    simp [h2, h3]
theorem eraseIdx_perm {α : Type} {xs : List α} {k : Nat} (h : k < xs.length) : (xs[k] :: xs.eraseIdx k).Perm xs := by
  have : xs = xs.take k ++ xs[k] :: xs.drop (k + 1) := by rw [← List.drop_eq_getElem_cons h, List.take_append_drop]
  rw [List.eraseIdx_eq_take_drop_succ]
  exact List.perm_middle.symm.trans (by rw [← this])
theorem seqIx {v : Int} {n : Nat} (h0 : 0 ≤ v) (h : v < n) : seqIndex? v n = some v.toNat := by
  unfold seqIndex?
  have h1 : ¬ v < 0 := by omega
  simp [h1, h0, h]
theorem popAt_ok {us : List W} {v : Int} {st : Stt} (h0 : 0 ≤ v) (h : v < us.length) (hl : us.length ≤ 100000) : fPopAt us [.int v] st = some (us[v.toNat]'(by omega), us.eraseIdx v.toNat) := by
  unfold fPopAt
  dsimp only
  have hv : v.toNat < us.length := by omega
  rw [if_pos ⟨by omega, by omega⟩, seqIx h0 h]
  dsimp only
  rw [List.getElem?_eq_getElem hv]
end Sim
end
section
set_option Elab.async false
set_option linter.all false
set_option maxRecDepth 100000
set_option maxHeartbeats 1000000
open PySem PySem.Spec PyProof.Rows L2
namespace Sim
/-! a def that gives back a place of its own: that one is kept, as the last -/
section
variable {K : PySem.W.Frag} {G G' : Gm} {H H' : Hp}
structure ShrB (n : Nat) (G G' : Gm) : Prop where
  ls : ∀ (i : Nat) (a : Addr), i < n → G'.ls[i]? = some a → G.ls[i]? = some a
  al : ∀ a, G.alive a → G'.alive a
mutual
theorem RepV.shrB {n : Nat} (x : ShrB n G G') : ∀ {w : W} {v : V}, okL n w = true → RepV K G' H w v → RepV K G H w v
  | _, _, _, .non => .non
  | _, _, _, .bl b => .bl b
  | _, _, _, .int i => .int i
  | _, _, _, .str s => .str s
  | _, _, _, .ty n => .ty n
  | _, _, _, .obj a => .obj a
  | _, _, o, .tup h r => .tup (h.imp_left fun z => ⟨z.1, fun y => z.2 (x.al _ y)⟩) (RepL.shrB x (by rw [Sim.okL] at o; exact o) r)
  | _, _, o, .prs h r => .prs ⟨h.1, fun y => h.2 (x.al _ y)⟩ (RepL.shrB x (by rw [Sim.okL] at o; exact o) r)
  | _, _, o, .lst h r => .lst ⟨h.1, fun y => h.2 (x.al _ y)⟩ (RepL.shrB x (by rw [Sim.okL] at o; exact o) r)
  | _, _, o, .scr h r => .scr (h.imp_left fun z => ⟨z.1, fun y => z.2 (x.al _ y)⟩) (RepL.shrB x (by rw [Sim.okL] at o; exact o) r)
  | _, _, o, .dic h r => .dic ⟨h.1, fun y => h.2 (x.al _ y)⟩ (RepK.shrB x (by rw [Sim.okL] at o; exact o) r)
  | _, _, o, .loc e => .loc (x.ls _ _ (by rw [Sim.okL] at o; exact of_decide_eq_true o) e)
  | _, _, o, .ext h => .ext ⟨h.1, fun y => h.2 (x.al _ y)⟩
theorem RepL.shrB {n : Nat} (x : ShrB n G G') : ∀ {ws : List W} {vs : List V}, okLs n ws = true → RepL K G' H ws vs → RepL K G H ws vs
  | _, _, _, .nil => .nil
  | _, _, o, .cons a r => by
    rw [okLs, Bool.and_eq_true] at o
    exact .cons (RepV.shrB x o.1 a) (RepL.shrB x o.2 r)
theorem RepK.shrB {n : Nat} (x : ShrB n G G') : ∀ {ws : List (Key × W)} {vs : List (Key × V)}, okLk n ws = true → RepK K G' H ws vs → RepK K G H ws vs
  | _, _, _, .nil => .nil
  | _, _, o, .cons a r => by
    rw [okLk, Bool.and_eq_true] at o
    exact .cons (RepV.shrB x o.1 a) (RepK.shrB x o.2 r)
end
theorem RepO.shrB {n : Nat} (x : ShrB n G G') {a : Addr} {ob : Ob} (o : okO n ob = true) (h : RepO K G' H a ob) : RepO K G H a ob := by
  cases ob with
  | lst us => obtain ⟨vs, e, r⟩ := h; exact ⟨vs, e, RepL.shrB x o r⟩
  | dic us => obtain ⟨vs, e, r⟩ := h; exact ⟨vs, e, RepK.shrB x o r⟩
  | dn P w us => obtain ⟨vs, e, q, d, r1, r2⟩ := h; exact ⟨vs, e, q, d, RepL.shrB x (okL_keyM _ us) r1, RepL.shrB x o r2⟩
  | ins C us => obtain ⟨dx, vs, e, q, r⟩ := h; exact ⟨dx, vs, e, q, RepL.shrB x o r⟩
/-- the world cut back to what stood, and one place more -/
theorem frzL_cut {ls' : List Addr} {st' : Stt} {r : Nat} {p : Addr} {ob : Ob} (w : World K G H) (x : Ext G H (G.to ls' st') H') (w' : World K (G.to ls' st') H') (ok : okStt G.st.length G.st st') (hr : G.st.length ≤ r) (hp : ls'[r]? = some p) (hob : st'[r]? = some (some ob)) (ho : okO G.st.length ob = true) :
    Ext G H (G.to (G.ls ++ [p]) (st'.take G.st.length ++ [some ob])) H' ∧ World K (G.to (G.ls ++ [p]) (st'.take G.st.length ++ [some ob])) H' := by
  have hlen := w.len
  have hst : G.st.length ≤ st'.length := Nat.le_trans hr (Nat.le_of_lt (List.getElem?_eq_some_iff.mp hob).1)
  have htl : (st'.take G.st.length).length = G.st.length := by rw [List.length_take]; omega
  have rd : ∀ (i : Nat) (a : Addr) (ob' : Ob), (G.ls ++ [p])[i]? = some a → (st'.take G.st.length ++ [some ob])[i]? = some (some ob') →
      (i < G.st.length ∧ G.ls[i]? = some a ∧ st'[i]? = some (some ob')) ∨ (i = G.st.length ∧ a = p ∧ ob' = ob) := fun i a ob' e1 e2 => by
    by_cases hi : i < G.ls.length
    · rw [List.getElem?_append_left hi] at e1
      rw [List.getElem?_append_left (by rw [htl]; omega), List.getElem?_take_of_lt (by omega)] at e2
      exact .inl ⟨by omega, e1, e2⟩
    · rw [List.getElem?_append_right (by omega)] at e1
      rw [List.getElem?_append_right (by rw [htl]; omega), htl] at e2
      have hi2 : i - G.ls.length = 0 := by
        cases hk : i - G.ls.length with
        | zero => rfl
        | succ k => rw [hk] at e1; simp at e1
      rw [hi2] at e1
      rw [show i - G.st.length = 0 by omega] at e2
      exact .inr ⟨by omega, (Option.some.inj e1).symm, (Option.some.inj (Option.some.inj e2)).symm⟩
  have alv : ∀ a, (G.to (G.ls ++ [p]) (st'.take G.st.length ++ [some ob])).alive a → (G.to ls' st').alive a := fun a z => by
    rcases z with ⟨i, ob', e1, e2⟩ | z
    · rcases rd i a ob' e1 e2 with ⟨_, q1, q2⟩ | ⟨_, rfl, rfl⟩
      · exact .inl ⟨i, ob', x.ls i a q1, q2⟩
      · exact .inl ⟨r, _, hp, hob⟩
    · exact .inr z
  have pn : p ∉ G.ls := fun z => by
    obtain ⟨i, hi, e⟩ := List.getElem_of_mem z
    have e2 := x.ls i p (by rw [List.getElem?_eq_getElem hi, e])
    obtain ⟨h1, q1⟩ := List.getElem?_eq_some_iff.mp hp
    obtain ⟨h2, q2⟩ := List.getElem?_eq_some_iff.mp e2
    have : r = i := (List.getElem_inj w'.nd).mp (q1.trans q2.symm)
    omega
  have sh : ShrB G.st.length (G.to (G.ls ++ [p]) (st'.take G.st.length ++ [some ob])) (G.to ls' st') := ⟨fun i a hi e => by
    show (G.ls ++ [p])[i]? = some a
    rw [List.getElem?_append_left (by omega)]
    have q := x.ls i _ (List.getElem?_eq_getElem (by omega : i < G.ls.length))
    rw [e] at q
    rw [Option.some.inj q]
    exact List.getElem?_eq_getElem _, alv⟩
  refine ⟨⟨fun i a e => ?_, x.keep, fun a z => x.al a (alv a z), x.non, rfl, x.hidk⟩, ⟨?_, ?_, fun a ha => ?_, fun a ha => ⟨?_, fun z => ?_⟩, fun i a ob' e1 e2 => ?_⟩⟩
  · show (G.ls ++ [p])[i]? = some a
    rw [List.getElem?_append_left (List.getElem?_eq_some_iff.mp e).1]; exact e
  · show (G.ls ++ [p]).length = (st'.take G.st.length ++ [some ob]).length
    rw [List.length_append, List.length_append, htl, hlen]; rfl
  · show (G.ls ++ [p]).Nodup
    rw [List.nodup_append]
    exact ⟨w.nd, by simp, fun a ha b hb => by rw [List.mem_singleton.mp hb]; exact fun z => pn (z ▸ ha)⟩
  · have ha : a ∈ G.ls ++ [p] := ha
    rcases List.mem_append.mp ha with q | q
    · exact fun z => w.tr a q (x.non a z)
    · rw [List.mem_singleton.mp q]; exact w'.tr p (List.mem_of_getElem? hp)
  · rw [x.hidk a ha]; exact (w.hd a ha).1
  · have z : a ∈ G.ls ++ [p] := z
    rcases List.mem_append.mp z with q | q
    · exact (w.hd a ha).2 q
    · rw [List.mem_singleton.mp q] at ha
      exact (w'.hd p ha).2 (List.mem_of_getElem? hp)
  · rcases rd i a ob' e1 e2 with ⟨hi, q1, q2⟩ | ⟨_, rfl, rfl⟩
    · refine RepO.shrB sh ?_ (w'.at' i a ob' (x.ls i a q1) q2)
      rcases ok i hi with q | ⟨ob2, q, h⟩
      · rw [q2] at q
        have ro2 := w.at' i a ob' q1 q.symm
        cases ob' with
        | lst us => obtain ⟨_, _, rr⟩ := ro2; exact RepL.okL hlen rr
        | dic us => obtain ⟨_, _, rr⟩ := ro2; exact RepK.okL hlen rr
        | dn P w us => obtain ⟨_, _, _, _, _, rr⟩ := ro2; exact RepL.okL hlen rr
        | ins C us => obtain ⟨_, _, _, _, rr⟩ := ro2; exact RepL.okL hlen rr
      · rw [q2] at q
        cases q
        exact h
    · exact RepO.shrB sh ho (w'.at' r a ob' hp hob)
end
open Classical in
noncomputable def frzL (m : FM) : FM := fun ws st => match m ws st with
  | .ok (.loc r) st' => if okStt st.length st st' ∧ st.length ≤ r then (match st'[r]? with
      | some (some ob) => if okO st.length ob = true then .ok (.loc st.length) (st'.take st.length ++ [some ob]) else .no
      | _ => .no) else .no
  | .er x st' => if okStt st.length st st' ∧ x.fs = [] then .er x (st'.take st.length) else .no
  | _ => .no
theorem fn_frzL {K : PySem.W.Frag} {P : Program} {w : PySem.World} {mg : Str → Option Value} {base : Heap} {CX : CXT} {f : Addr} {fd : FuncData} {ps : List Str} {k n : Nat} {m : FM} (F : FnOk P w K mg base CX k f fd ps (spF K n m)) : FnOk P w K mg base CX k f fd ps (spF K n (frzL m)) :=
  F.imp fun vs H Q E q => by
    obtain ⟨hl, G, ws, wo, rl, hp⟩ := q
    refine ⟨hl, G, ws, wo, rl, ?_⟩
    unfold frzL at hp
    cases e : m ws G.st with
    | no => rw [e] at hp; exact hp.elim
    | er x st' =>
      rw [e] at hp
      dsimp only at hp
      split at hp
      · rename_i hok
        intro ls' H' d xe w' rx
        obtain ⟨_, x2, w2⟩ := frz_cut wo xe w' hok.1
        exact hp G.ls H' d x2 w2 ⟨hok.2, rx.2⟩
      · exact hp.elim
    | ok r st' =>
      rw [e] at hp
      cases r with
      | loc r =>
        dsimp only at hp
        split at hp
        · rename_i hok
          cases eo : st'[r]? with
          | none => rw [eo] at hp; exact hp.elim
          | some o =>
            cases o with
            | none => rw [eo] at hp; exact hp.elim
            | some ob =>
              rw [eo] at hp
              dsimp only at hp
              split at hp
              · rename_i ho
                intro ls' H' v xe w' rv
                cases rv with
                | loc he =>
                  obtain ⟨x2, w2⟩ := frzL_cut wo xe w' hok.1 hok.2 he eo ho
                  refine hp _ H' _ x2 w2 (.loc ?_)
                  show (G.ls ++ [_])[G.st.length]? = some _
                  rw [← wo.len]
                  exact List.getElem?_concat_length
              · exact hp.elim
        · exact hp.elim
      | _ => exact hp.elim
theorem frzL_eq {m : FM} {ws : List W} {st st' : Stt} {r : Nat} {ob : Ob} (h : m ws st = .ok (.loc r) st') (ok : okStt st.length st st') (hr : st.length ≤ r) (e : st'[r]? = some (some ob)) (ho : okO st.length ob = true) : frzL m ws st = .ok (.loc st.length) (st'.take st.length ++ [some ob]) := by
  unfold frzL
  rw [h]
  dsimp only
  rw [if_pos ⟨ok, hr⟩, e]
  dsimp only
  rw [if_pos ho]
end Sim
end
section
set_option Elab.async false
set_option linter.all false
set_option maxRecDepth 100000
set_option maxHeartbeats 1000000
open PySem PySem.Spec PyProof.Rows L2
namespace Sim
/-! dicts -/
def toKey : W → Option Key
  | .int i => some (.inl i)
  | .str x => some (.inr x)
  | _ => none
def dicX (st : Stt) : W → Option (List (Key × W))
  | .dic kvs => some kvs
  | .loc n => match st[n]? with
    | some (some (.dic kvs)) => some kvs
    | _ => none
  | _ => none
def valW (kvs : List (Key × W)) (k : Key) : Option W := (kvs.find? fun kv => decide (kv.1 = k)).map (·.2)
def putW (kvs : List (Key × W)) (k : Key) (v : W) : List (Key × W) :=
  if (kvs.any fun kv => decide (kv.1 = k)) = true then kvs.map (fun kv => if kv.1 = k then (kv.1, v) else kv) else kvs ++ [(k, v)]
def mergeW (kvs more : List (Key × W)) : List (Key × W) := more.foldl (fun acc kv => putW acc kv.1 kv.2) kvs
section
variable {X : Cx} {Wx : WX} {K : PySem.W.Frag} {G : Gm} {H : Hp}
theorem toKey_rep {w : W} {v : V} {k : Key} (r : RepV K G H w v) (e : toKey w = some k) : v = kV k := by
  cases r <;> (unfold toKey at e; cases e) <;> rfl
theorem RepK.val : ∀ {kws : List (Key × W)} {kvs : List (Key × V)} (k : Key), RepK K G H kws kvs → (valW kws k = none ∧ valV kvs k = none) ∨ ∃ w v, valW kws k = some w ∧ valV kvs k = some v ∧ RepV K G H w v
  | _, _, k, .nil => .inl ⟨rfl, rfl⟩
  | _, _, k, .cons (k := k') (w := w) (ws := ws) (v := v) (vs := vs) h r => by
    by_cases e : k' = k
    · exact .inr ⟨w, v, by simp [valW, List.find?_cons, e], by simp [valV, List.find?_cons, e], h⟩
    · have ih := RepK.val k r
      have e1 : valW ((k', w) :: ws) k = valW ws k := by simp [valW, List.find?_cons, e]
      have e2 : valV ((k', v) :: vs) k = valV vs k := by simp [valV, List.find?_cons, e]
      rw [e1, e2]; exact ih
theorem RepK.app {a b : List (Key × W)} {c d : List (Key × V)} (h : RepK K G H a c) (k : RepK K G H b d) : RepK K G H (a ++ b) (c ++ d) := by
  induction a generalizing c with
  | nil => cases h; exact k
  | cons p r ih => cases h with
    | cons x y => exact .cons x (ih y)
theorem RepK.any {kws : List (Key × W)} {kvs : List (Key × V)} (k : Key) (h : RepK K G H kws kvs) : (kws.any fun kv => decide (kv.1 = k)) = (kvs.any fun kv => decide (kv.1 = k)) := by
  induction kws generalizing kvs with
  | nil => cases h; rfl
  | cons p r ih => cases h with
    | cons x y => simp only [List.any_cons]; rw [ih y]
theorem RepK.mapPut {w : W} {v : V} (k : Key) (r : RepV K G H w v) : ∀ {kws : List (Key × W)} {kvs : List (Key × V)}, RepK K G H kws kvs → RepK K G H (kws.map fun kv => if kv.1 = k then (kv.1, w) else kv) (kvs.map fun kv => if kv.1 = k then (kv.1, v) else kv)
  | _, _, .nil => .nil
  | _, _, .cons (k := k') x y => by
    simp only [List.map_cons]
    by_cases e : k' = k
    · rw [if_pos e, if_pos e]; exact .cons r (RepK.mapPut k r y)
    · rw [if_neg e, if_neg e]; exact .cons x (RepK.mapPut k r y)
theorem RepK.put {kws : List (Key × W)} {kvs : List (Key × V)} {w : W} {v : V} (k : Key) (h : RepK K G H kws kvs) (r : RepV K G H w v) : RepK K G H (putW kws k w) (putK kvs k v) := by
  unfold putW putK
  rw [RepK.any k h]
  split
  · exact RepK.mapPut k r h
  · exact h.app (.cons r .nil)
theorem RepK.merge {more : List (Key × W)} {mv : List (Key × V)} (h : RepK K G H more mv) : ∀ {kws : List (Key × W)} {kvs : List (Key × V)}, RepK K G H kws kvs → RepK K G H (mergeW kws more) (mergeK kvs mv) := by
  induction more generalizing mv with
  | nil => cases h; exact fun q => q
  | cons p r ih => cases h with
    | cons x y => exact fun q => ih y (q.put _ x)
inductive RepP (K : PySem.W.Frag) (G : Gm) (H : Hp) : List (W × W) → List (V × V) → Prop
  | nil : RepP K G H [] []
  | cons {a b : W} {x y : V} {ps : List (W × W)} {qs : List (V × V)} : RepV K G H a x → RepV K G H b y → RepP K G H ps qs → RepP K G H ((a, b) :: ps) ((x, y) :: qs)
def prM : List (EM × EM) → Ev → Stt → Rs (List (W × W))
  | [], _, st => .ok [] st
  | (k, v) :: r, ρ, st => (k ρ st).bind fun x s1 => (v ρ s1).bind fun y s2 => (prM r ρ s2).bind fun ps s3 => .ok ((x, y) :: ps) s3
def SemP (K : PySem.W.Frag) (trs : List (TE × TE)) (ms : List (EM × EM)) : Prop := ∀ (G : Gm) (H : Hp) (ρ : Ev) (σ : L2.St) (Q : List (V × V) → Hp → Prop) (ps : List (W × W)) (st' : Stt), World K G H → RepE K G H ρ σ → prM ms ρ G.st = .ok ps st' →
  (∀ ls' H' qs, Ext G H (G.to ls' st') H' → World K (G.to ls' st') H' → RepP K (G.to ls' st') H' ps qs → Q qs H') → tPairs trs σ H Q
structure CP (X : Cx) (pos : Pos) (keys : List (Option Expr)) (values : List Expr) (trs : List (TE × TE)) (ms : List (EM × EM)) : Prop where
  pe : PPs X pos keys values trs
  sem : SemP X.K trs ms
theorem cp_nil {pos : Pos} : CP X pos [] [] [] [] := ⟨pps_nil, fun G H ρ σ Q ps st' w r e q => by cases e; exact q G.ls H [] (Ext.refl _ _) w .nil⟩
theorem Rs.bind_eq {α β : Type} {r : Rs α} {f : α → Stt → Rs β} {b : β} {st : Stt} (h : r.bind f = .ok b st) : ∃ a st1, r = .ok a st1 ∧ f a st1 = .ok b st := by
  cases r with
  | ok a st1 => exact ⟨a, st1, rfl, h⟩
  | er x st1 => cases h
  | no => cases h
theorem RepP.mono {G' : Gm} {H' : Hp} (x : Ext G H G' H') {ps : List (W × W)} {qs : List (V × V)} (h : RepP K G H ps qs) : RepP K G' H' ps qs := by
  induction h with
  | nil => exact .nil
  | cons a b _ ih => exact .cons (a.mono x) (b.mono x) ih
theorem cp_cons {pos : Pos} {k v : Expr} {ks : List (Option Expr)} {vs : List Expr} {tk tv : TE} {mk mv : EM} {trs : List (TE × TE)} {ms : List (EM × EM)} (hk : CE X W0 k tk mk) (hv : CE X W0 v tv mv) (hr : CP X pos ks vs trs ms) :
    CP X pos (some k :: ks) (v :: vs) ((tk, tv) :: trs) ((mk, mv) :: ms) := by
  refine ⟨pps_cons hk.pe hv.pe hr.pe, fun G H ρ σ Q ps st' w r e q => ?_⟩
  obtain ⟨a, s1, e1, e⟩ := Rs.bind_eq e
  obtain ⟨b, s2, e2, e⟩ := Rs.bind_eq e
  obtain ⟨rest, s3, e3, e⟩ := Rs.bind_eq e
  cases e
  refine hk.sem G H ρ σ _ w r ?_
  rw [e1]
  intro ls1 H1 x x1 w1 r1
  refine hv.sem (G.to ls1 s1) H1 ρ σ _ w1 (r.mono x1) ?_
  rw [show (G.to ls1 s1).st = s1 from rfl, e2]
  intro ls2 H2 y x2 w2 r2
  refine hr.sem (G.to ls2 s2) H2 ρ σ _ rest st' w2 (r.mono (x1.trans x2)) e3 fun ls3 H3 qs x3 w3 r3 => ?_
  exact q ls3 H3 _ ((x1.trans x2).trans x3) w3 (.cons (r1.mono (x2.trans x3)) (r2.mono x3) r3)
def keysOf : List (W × W) → Option (List (Key × W))
  | [] => some []
  | (a, b) :: r => match toKey a, keysOf r with
    | some k, some q => some ((k, b) :: q)
    | _, _ => none
/-- {k: v, ..} as a value -/
def eDic (ms : List (EM × EM)) : EM := fun ρ st => match prM ms ρ st with
  | .ok ps st1 => match keysOf ps with
    | some kws => if kws.length ≤ 15 then .ok (.dic (mergeW [] kws)) st1 else .no
    | none => .no
  | _ => .no
theorem dic_rd {w : W} {v : V} {kws : List (Key × W)} (wo : World K G H) (r : RepV K G H w v) (e : dicX G.st w = some kws) : ∃ a kvs, v = .ref a ∧ Rd H a (.dK kvs) ∧ RepK K G H kws kvs := by
  cases r with
  | dic h rk => cases e; exact ⟨_, _, rfl, h.1, rk⟩
  | loc h =>
    unfold dicX at e
    dsimp only at e
    split at e
    · rename_i q
      cases e
      obtain ⟨kvs, e1, rk⟩ := wo.at' _ _ _ h q
      exact ⟨_, kvs, rfl, .inl e1, rk⟩
    · cases e
  | _ => cases e
/-- d.get(k, x) -/
def eDget2 (d k x : EM) : EM := fun ρ st => (d ρ st).bind fun u s1 => match dicX s1 u with
  | some _ => (k ρ s1).bind fun y s2 => (x ρ s2).bind fun z s3 => match dicX s3 u, toKey y with
    | some kvs, some q => .ok ((valW kvs q).getD z) s3
    | _, _ => .no
  | none => .no
/-- d[k] -/
def eDget (d k : EM) : EM := fun ρ st => (d ρ st).bind fun u s1 => (k ρ s1).bind fun y s2 => match dicX s2 u, toKey y with
  | some kvs, some q => (match valW kvs q with | some z => .ok z s2 | none => .no)
  | _, _ => .no
theorem ce_dget {o e : Expr} {pos : Pos} {td ty : TE} {md mk : EM} (hu : X.A.units + 1 < cLine) (ho : CE X Wx o td md) (he : CE X Wx e ty mk) (hs : NoSl e) : CE X Wx (.Subscript o e pos) (tDGet td ty) (eDget md mk) := by
  refine ⟨pe_dget hu ho.pe he.pe hs, fun G H ρ σ Q w r hp => ?_⟩
  refine ho.sem G H ρ σ _ w r (PostR.bind hp fun u s1 ls1 H1 v q1 x1 w1 rv hp1 => ?_)
  clear q1
  refine he.sem (G.to ls1 s1) H1 ρ σ _ w1 (r.mono x1) (PostR.bind hp1 fun y s2 ls2 H2 vy q2 x2 w2 ry hp2 => ?_)
  clear q2
  cases e3 : dicX s2 u with
  | none => rw [e3] at hp2; exact hp2.elim
  | some kws =>
    cases e4 : toKey y with
    | none => rw [e3, e4] at hp2; exact hp2.elim
    | some k =>
      rw [e3, e4] at hp2
      dsimp only at hp2
      obtain ⟨a, kvs, rfl, hrd, rk⟩ := dic_rd (G := G.to ls2 s2) w2 (rv.mono x2) e3
      cases e5 : valW kws k with
      | none => rw [e5] at hp2; exact hp2.elim
      | some z =>
        rw [e5] at hp2
        rcases RepK.val k rk with ⟨h1, h2⟩ | ⟨w', v', h1, h2, h3⟩
        · rw [h1] at e5; cases e5
        · rw [h1] at e5
          cases e5
          exact ⟨a, v', rfl, .inl ⟨kvs, k, hrd, toKey_rep ry e4, h2.symm⟩, PostV.val (G := G.to ls2 s2) w2 (PostV.of hp2) h3⟩
end
section
variable {ρ : Ev} {st : Stt}
@[simp] theorem prM_nil : prM [] ρ st = .ok [] st := id rfl
def prK3 (x y : W) (r : Rs (List (W × W))) : Rs (List (W × W)) := match r with | .ok ps s => .ok ((x, y) :: ps) s | .er x s => .er x s | .no => .no
@[simp] theorem prK3_ok (x y : W) (ps : List (W × W)) : prK3 x y (.ok ps st) = .ok ((x, y) :: ps) st := id rfl
def prK2 (ms : List (EM × EM)) (ρ : Ev) (x : W) (r : Rs W) : Rs (List (W × W)) := match r with | .ok y s => prK3 x y (prM ms ρ s) | .er x s => .er x s | .no => .no
@[simp] theorem prK2_ok (ms : List (EM × EM)) (x y : W) : prK2 ms ρ x (.ok y st) = prK3 x y (prM ms ρ st) := id rfl
def prK (v : EM) (ms : List (EM × EM)) (ρ : Ev) (r : Rs W) : Rs (List (W × W)) := match r with | .ok x s => prK2 ms ρ x (v ρ s) | .er x s => .er x s | .no => .no
@[simp] theorem prK_ok (v : EM) (ms : List (EM × EM)) (x : W) : prK v ms ρ (.ok x st) = prK2 ms ρ x (v ρ st) := id rfl
@[simp] theorem prM_cons (k v : EM) (ms : List (EM × EM)) : prM ((k, v) :: ms) ρ st = prK v ms ρ (k ρ st) := by
  rw [prM]
  unfold prK
  cases k ρ st with
  | ok x s =>
    show (v ρ s).bind _ = prK2 ms ρ x (v ρ s)
    unfold prK2
    cases v ρ s with
    | ok y s2 => show (prM ms ρ s2).bind _ = prK3 x y (prM ms ρ s2); unfold prK3; cases prM ms ρ s2 <;> rfl
    | er x s => rfl
    | no => rfl
  | er x s => rfl
  | no => rfl
def dicK (r : Rs (List (W × W))) : Rs W := match r with
  | .ok ps st1 => match keysOf ps with
    | some kws => if kws.length ≤ 15 then .ok (.dic (mergeW [] kws)) st1 else .no
    | none => .no
  | _ => .no
@[simp] theorem dicK_ok {ps : List (W × W)} {kws : List (Key × W)} (h : keysOf ps = some kws) : dicK (.ok ps st) = if kws.length ≤ 15 then .ok (.dic (mergeW [] kws)) st else .no := by
  unfold dicK
  dsimp only
  rw [h]
@[simp] theorem ev_dic (ms : List (EM × EM)) : eDic ms ρ st = dicK (prM ms ρ st) := by unfold eDic dicK; rfl
@[simp] theorem keys_nil : keysOf [] = some [] := id rfl
@[simp] theorem keys_str (x : Str) (b : W) (r : List (W × W)) : keysOf ((.str x, b) :: r) = (keysOf r).map fun q => (.inr x, b) :: q := by
  rw [keysOf]
  show (match some (Sum.inr x), keysOf r with | some k, some q => some ((k, b) :: q) | _, _ => none) = _
  cases keysOf r <;> rfl
@[simp] theorem keys_int (x : Int) (b : W) (r : List (W × W)) : keysOf ((.int x, b) :: r) = (keysOf r).map fun q => (.inl x, b) :: q := by
  rw [keysOf]
  show (match some (Sum.inl x), keysOf r with | some k, some q => some ((k, b) :: q) | _, _ => none) = _
  cases keysOf r <;> rfl
@[simp] theorem dic_dic (kvs : List (Key × W)) : dicX st (.dic kvs) = some kvs := id rfl
def dg3 (u y z : W) (st : Stt) : Rs W := match dicX st u, toKey y with
  | some kvs, some q => .ok ((valW kvs q).getD z) st
  | _, _ => .no
def dgK3 (u y : W) (r : Rs W) : Rs W := match r with | .ok z s => dg3 u y z s | .er x s => .er x s | .no => .no
@[simp] theorem dgK3_ok (u y z : W) : dgK3 u y (.ok z st) = dg3 u y z st := id rfl
def dgK2 (u : W) (x : EM) (ρ : Ev) (r : Rs W) : Rs W := match r with | .ok y s => dgK3 u y (x ρ s) | .er x s => .er x s | .no => .no
@[simp] theorem dgK2_ok (u : W) (x : EM) (y : W) : dgK2 u x ρ (.ok y st) = dgK3 u y (x ρ st) := id rfl
def dgW (k x : EM) (ρ : Ev) (u : W) (st : Stt) (o : Option (List (Key × W))) : Rs W := match o with | some _ => dgK2 u x ρ (k ρ st) | none => .no
@[simp] theorem dgW_some (k x : EM) (u : W) (kvs : List (Key × W)) : dgW k x ρ u st (some kvs) = dgK2 u x ρ (k ρ st) := id rfl
def dgK (k x : EM) (ρ : Ev) (r : Rs W) : Rs W := match r with | .ok u s => dgW k x ρ u s (dicX s u) | .er x s => .er x s | .no => .no
@[simp] theorem dgK_ok (k x : EM) (u : W) : dgK k x ρ (.ok u st) = dgW k x ρ u st (dicX st u) := id rfl
@[simp] theorem ev_dget2 (d k x : EM) : eDget2 d k x ρ st = dgK k x ρ (d ρ st) := by
  unfold eDget2 dgK
  cases d ρ st with
  | ok u s =>
    show (match dicX s u with | some _ => (k ρ s).bind _ | none => .no) = dgW k x ρ u s (dicX s u)
    unfold dgW
    cases dicX s u with
    | none => rfl
    | some kvs =>
      show (k ρ s).bind _ = dgK2 u x ρ (k ρ s)
      unfold dgK2
      cases k ρ s with
      | ok y s2 => show (x ρ s2).bind _ = dgK3 u y (x ρ s2); unfold dgK3 dg3; cases x ρ s2 <;> rfl
      | er x s => rfl
      | no => rfl
  | er x s => rfl
  | no => rfl
end
end Sim
end
section
set_option Elab.async false
set_option linter.all false
set_option maxRecDepth 100000
set_option maxHeartbeats 1000000
open PySem PySem.Spec PyProof.Rows L2
namespace Sim
section
variable {X : Cx} {Wx : WX} {K : PySem.W.Frag} {G : Gm} {H : Hp}
/-- xs + ys, a list that is changed later -/
def eCatO (a b : EM) : EM := fun ρ st => (a ρ st).bind fun x st1 => (b ρ st1).bind fun y st2 => match lstX st2 x, lstX st2 y with
  | some xs, some ys => if xs.length + ys.length ≤ 100000 then .ok (.loc st2.length) (st2 ++ [some (.lst (xs ++ ys))]) else .no
  | _, _ => .no
end
section
variable {ρ : Ev} {st : Stt}
def catW (x y : W) (st : Stt) : Rs W := match lstX st x, lstX st y with
  | some xs, some ys => if xs.length + ys.length ≤ 100000 then .ok (.loc st.length) (st ++ [some (.lst (xs ++ ys))]) else .no
  | _, _ => .no
def catK2 (x : W) (r : Rs W) : Rs W := match r with | .ok y s => catW x y s | .er x s => .er x s | .no => .no
@[simp] theorem catK2_ok (x y : W) : catK2 x (.ok y st) = catW x y st := id rfl
def catK (b : EM) (ρ : Ev) (r : Rs W) : Rs W := match r with | .ok x s => catK2 x (b ρ s) | .er x s => .er x s | .no => .no
@[simp] theorem catK_ok (b : EM) (x : W) : catK b ρ (.ok x st) = catK2 x (b ρ st) := id rfl
@[simp] theorem ev_catO (a b : EM) : eCatO a b ρ st = catK b ρ (a ρ st) := by
  unfold eCatO catK
  cases a ρ st with
  | ok x s => show (b ρ s).bind _ = catK2 x (b ρ s); unfold catK2 catW; cases b ρ s <;> rfl
  | er x s => rfl
  | no => rfl
end
end Sim
end
section
set_option Elab.async false
set_option linter.all false
set_option maxRecDepth 100000
set_option maxHeartbeats 1000000
open PySem PySem.Spec PyProof.Rows L2
namespace Sim
/-! a call whose arguments are all given by name -/
def permL {α : Type} (is : List Nat) (l : List α) : List α := is.filterMap fun i => l[i]?
theorem Vals.at' {vs : List V} {us : List Value} (h : Vals vs us) : ∀ i : Nat, (vs[i]? = none ∧ us[i]? = none) ∨ ∃ v u, vs[i]? = some v ∧ us[i]? = some u ∧ RelV v u := by
  induction h with
  | nil => intro i; exact .inl ⟨rfl, rfl⟩
  | cons a _ ih =>
    intro i
    cases i with
    | zero => exact .inr ⟨_, _, rfl, rfl, a⟩
    | succ i => simpa using ih i
theorem Vals.perm {vs : List V} {us : List Value} (h : Vals vs us) : ∀ is : List Nat, Vals (permL is vs) (permL is us)
  | [] => .nil
  | i :: is => by
    have ih := Vals.perm h is
    unfold permL at ih ⊢
    rw [List.filterMap_cons, List.filterMap_cons]
    rcases Vals.at' h i with ⟨e1, e2⟩ | ⟨v, u, e1, e2, r⟩
    · rw [e1, e2]; exact ih
    · rw [e1, e2]; exact .cons r ih
section
variable {X : Cx} {Wx : WX} {K : PySem.W.Frag} {G : Gm} {H : Hp}
theorem RepL.at' {ws : List W} {vs : List V} (h : RepL K G H ws vs) : ∀ i : Nat, (ws[i]? = none ∧ vs[i]? = none) ∨ ∃ w v, ws[i]? = some w ∧ vs[i]? = some v ∧ RepV K G H w v := by
  induction ws generalizing vs with
  | nil => cases h; intro i; exact .inl ⟨rfl, rfl⟩
  | cons w r ih => cases h with
    | cons a b =>
      intro i
      cases i with
      | zero => exact .inr ⟨_, _, rfl, rfl, a⟩
      | succ i => simpa using ih b i
theorem RepL.perm {ws : List W} {vs : List V} (h : RepL K G H ws vs) : ∀ is : List Nat, RepL K G H (permL is ws) (permL is vs)
  | [] => .nil
  | i :: is => by
    have ih := RepL.perm h is
    unfold permL at ih ⊢
    rw [List.filterMap_cons, List.filterMap_cons]
    rcases RepL.at' h i with ⟨e1, e2⟩ | ⟨v, u, e1, e2, r⟩
    · rw [e1, e2]; exact ih
    · rw [e1, e2]; exact .cons r ih
structure CK (X : Cx) (Wx : WX) (kws : List Keyword) (t : TA) (m : AM) : Prop where
  pe : PK X kws t
  sem : SemA X.K Wx t m
structure KB (K : PySem.W.Frag) (fd : FuncData) (ps ks : List Str) (is : List Nat) : Prop where
  to : ∀ (s : Shared) (ws : List Value), K.In s.heap → ws.length = ks.length → BindsTo s fd ⟨[], ks.zip ws⟩ (ps.zip (permL is ws))
def eCallP (is : List Nat) (m : FM) (as : AM) : EM := fun ρ st => (as ρ st).bind fun ws st1 => m (permL is ws) st1
end
section
variable {ρ : Ev} {st : Stt}
def callPK (is : List Nat) (m : FM) (r : Rs (List W)) : Rs W := match r with | .ok ws s => m (permL is ws) s | .er x s => .er x s | .no => .no
@[simp] theorem callPK_ok (is : List Nat) (m : FM) (ws : List W) : callPK is m (.ok ws st) = m (permL is ws) st := id rfl
@[simp] theorem ev_callP (is : List Nat) (m : FM) (as : AM) : eCallP is m as ρ st = callPK is m (as ρ st) := by unfold eCallP callPK; cases as ρ st <;> rfl
end
end Sim
end
section
set_option Elab.async false
set_option linter.all false
set_option maxRecDepth 100000
set_option maxHeartbeats 1000000
open PySem PySem.Spec PyProof.Rows L2
namespace Sim
/-- behind draws, with a new list at the end -/
structure DrP (st st' : Stt) (i N : Nat) (ob : Ob) : Prop where
  len : st'.length = st.length + 1
  fr : ∀ j, j < st.length → j ≠ i → st'[j]? = st[j]?
  at' : st'[st.length]? = some (some ob)
  sp : Sp st' i N
end Sim
end
section
set_option Elab.async false
set_option linter.all false
set_option maxRecDepth 100000
set_option maxHeartbeats 1000000
open PySem PySem.Spec PyProof.Rows L2
namespace Sim
/-! a def that calls itself: by how deep -/
section
variable {X : Cx} {Wx : WX} {K : PySem.W.Frag} {G : Gm} {H : Hp}
/-! a, b = a list -/
def gmLst (n : Nat) (r : List W → Ev → Option Ev) : GM := fun st w ρ => match lstOf st w with
  | some ws => if ws.length = n then r ws ρ else none
  | none => none
@[simp] theorem ev_glst (n : Nat) (r : List W → Ev → Option Ev) (ws : List W) (ρ : Ev) (st : Stt) : gmLst n r st (.lst ws) ρ = if ws.length = n then r ws ρ else none := id rfl
/-! xs.remove(text) -/
/-! dict(a list of pairs) -/
def prsOf : List W → Option (List (Key × W))
  | [] => some []
  | .tup [a, b] :: r => match toKey a, prsOf r with
    | some k, some q => some ((k, b) :: q)
    | _, _ => none
  | _ => none
def fDictP : F1 := fun st ws => match ws with
  | [x] => match lstOf st x with
    | some ps => match prsOf ps with
      | some kws => some (.dic (mergeW [] kws))
      | none => none
    | none => none
  | _ => none
end
end Sim
end
section
set_option Elab.async false
set_option linter.all false
set_option maxRecDepth 100000
set_option maxHeartbeats 1000000
open PySem PySem.Spec PyProof.Rows L2
namespace Sim
section
variable {K : PySem.W.Frag} {st : Stt}
@[simp] theorem get_t0 {α : Type} (st : List α) (x y z : α) : (st ++ [x, y, z])[st.length]? = some x := by
  rw [List.getElem?_append_right (Nat.le_refl _), Nat.sub_self]; rfl
@[simp] theorem get_t1 {α : Type} (st : List α) (x y z : α) : (st ++ [x, y, z])[st.length + 1]? = some y := by
  rw [List.getElem?_append_right (by omega), show st.length + 1 - st.length = 1 by omega]; rfl
@[simp] theorem get_t2 {α : Type} (st : List α) (x y z : α) : (st ++ [x, y, z])[st.length + 1 + 1]? = some z := by
  rw [List.getElem?_append_right (by omega), show st.length + 1 + 1 - st.length = 2 by omega]; rfl
@[simp] theorem set_t0 {α : Type} (st : List α) (x y z u : α) : (st ++ [x, y, z]).set st.length u = st ++ [u, y, z] := by
  rw [List.set_append_right _ _ (Nat.le_refl _), Nat.sub_self]; rfl
@[simp] theorem set_t1 {α : Type} (st : List α) (x y z u : α) : (st ++ [x, y, z]).set (st.length + 1) u = st ++ [x, u, z] := by
  rw [List.set_append_right _ _ (by omega), show st.length + 1 - st.length = 1 by omega]; rfl
@[simp] theorem set_t2 {α : Type} (st : List α) (x y z u : α) : (st ++ [x, y, z]).set (st.length + 1 + 1) u = st ++ [x, y, u] := by
  rw [List.set_append_right _ _ (by omega), show st.length + 1 + 1 - st.length = 2 by omega]; rfl
end
end Sim
end
section
set_option Elab.async false
set_option linter.all false
set_option maxRecDepth 100000
set_option maxHeartbeats 1000000
open PySem PySem.Spec PyProof.Rows L2
namespace Sim
section
variable {X : Cx} {K : PySem.W.Frag} {G : Gm} {H : Hp}
end
end Sim
end
section
set_option Elab.async false
set_option linter.all false
set_option maxRecDepth 100000
set_option maxHeartbeats 2000000
open PySem
/-! dict(zip(a, b)) of two tuples -/
namespace ZT
section
variable {P : Program} {W : World} {R : Around} {Ex : Value → Shared → Prop}
/-- what stands all the while: the pair of iterators, each at the item k of its tuple -/
structure Stands (h : Heap) (TI u v a b : Addr) (p q : Array Value) (k : Nat) : Prop where
  two : IsPair h TI (.ref u) (.ref v)
  itU : h.IsTupleIter u a k
  itV : h.IsTupleIter v b k
  tupA : h.IsTuple a p
  tupB : h.IsTuple b q
variable {z TI TO u v a b T : Addr} {p q : Array Value} {k : Nat} {fl : Bool} {oT : Obj}
/-- the steps of zip's next up to its first item, while a tuple is out -/
theorem ahead {C : Value → Value → Sem Fin} {s : Shared} {Q : Fin → Shared → Prop} (ap : ZipApart z TI TO u v a b) (out : IsZipHeld s.heap z TI TO T fl) (live : s.heap.get? T = some oT) (st : Stands s.heap TI u v a b p q k)
    (both : ∀ x y, p[k]? = some x → q[k]? = some y → ∀ h3, IsZipHeld h3 z TI TO T true → h3.IsTupleIter u a (k + 1) → h3.IsTupleIter v b (k + 1) → h3.objs.size = s.heap.objs.size → (∀ c o, c ≠ z → c ≠ u → c ≠ v → s.heap.get? c = some o → h3.get? c = some o) →
      Q (.done (.ret (.ref h3.objs.size))) { s with heap := h3.push { cls := .type "tuple", data := .seq #[x, y] } })
    (over : R.handled = none → (p[k]? = none ∨ q[k]? = none) → ∀ h3 e, (∀ c o, c ≠ z → c ≠ u → c ≠ v → s.heap.get? c = some o → h3.get? c = some o) → (∃ o, h3.get? e = some o ∧ o.cls = .type "StopIteration") → Ex (.ref e) { s with heap := h3 })
    (calm : R.handled = none) : wpAny (model P W) R (Builtin.«zip.__next__» ⟨[.ref z], []⟩) Q Ex s := by
  obtain ⟨s2, s3, s4, s5, s6⟩ := st
  show wpAny _ _ (field (.ref z) 2 >>= _) _ _ _
  refine wpAny_bind (wpAny_field out rfl (x := .bool false) rfl ?_)
  show wpAny _ _ (field (.ref z) 3 >>= _) _ _ _
  refine wpAny_bind (wpAny_field out rfl (x := .ref TI) rfl ?_)
  refine wpAny_bind (wpAny_seqItems s2 rfl ?_)
  show wpAny _ _ (Builtin.SmallTypes.ownedTupleIsFree (.ref z) >>= _) _ _ _
  refine wpAny_bind (wpAny_tupleHeld_zip out live fun g1 out1 k1 => ?_)
  simp only [Bool.false_eq_true, if_false]
  refine wpAny_bind ?_
  rw [← Array.forIn_toList]
  simp only [List.forIn_cons, List.forIn_nil]
  refine wpAny_bind (wpAny_bind (wpAny_holding ?_))
  show wpAny _ _ (Builtin.SmallTypes.nextOf (.ref u) >>= _) _ _ _
  have itU1 := s3.extBut k1.extBut ap.i1z
  have tupA1 := s5.extBut k1.extBut ap.l1z
  cases hx : p[k]? with
  | none =>
    refine wpAny_bind (RZ.nextOf_tuple_end (s := { s with heap := g1 }) calm itU1 tupA1 hx fun g2 e k2 he => ?_)
    exact over calm (.inl hx) g2 e (fun c o c1 c2 _ y => k2 _ _ c2 (k1.extBut _ _ c1 y)) he
  | some x =>
    refine wpAny_bind (RZ.nextOf_tuple_item (s := { s with heap := g1 }) itU1 tupA1 hx fun g2 itU2 k2 => wpAny_pure (wpAny_pure ?_))
    refine wpAny_bind (wpAny_bind (wpAny_holding ?_))
    show wpAny _ _ (Builtin.SmallTypes.nextOf (.ref v) >>= _) _ _ _
    have itV2 := (s4.extBut k1.extBut ap.i2z).extBut k2.extBut ap.i12.symm
    have tupB2 := (s6.extBut k1.extBut ap.l2z).extBut k2.extBut ap.l2i1
    cases hy : q[k]? with
    | none =>
      refine wpAny_bind (RZ.nextOf_tuple_end (s := { s with heap := g2 }) calm itV2 tupB2 hy fun g3 e k3 he => ?_)
      exact over calm (.inr hy) g3 e (fun c o c1 c2 c3 y => k3 _ _ c3 (k2.extBut _ _ c2 (k1.extBut _ _ c1 y))) he
    | some y =>
      refine wpAny_bind (RZ.nextOf_tuple_item (s := { s with heap := g2 }) itV2 tupB2 hy fun g3 itV3 k3 => wpAny_pure (wpAny_pure (wpAny_pure ?_)))
      show wpAny _ _ (newTuple [x, y] >>= _) _ _ _
      refine wpAny_bind (wpAny_newTuple (wpAny_pure ?_))
      exact both x y hx hy g3 (k3.extBut _ _ ap.i2z.symm (k2.extBut _ _ ap.i1z.symm out1)) (itU2.extBut k3.extBut ap.i12) itV3 (by rw [k3.1, k2.1, k1.1]) fun c o c1 c2 c3 y => k3.extBut _ _ c3 (k2.extBut _ _ c2 (k1.extBut _ _ c1 y))
/-- next of such a zip: the pair, or the end -/
theorem next_out {s : Shared} {Q : Option Value → Shared → Prop} (ap : ZipApart z TI TO u v a b) (out : IsZipHeld s.heap z TI TO T fl) (live : s.heap.get? T = some oT) (st : Stands s.heap TI u v a b p q k) (calm : R.handled = none)
    (both : ∀ x y, p[k]? = some x → q[k]? = some y → ∀ h4, IsZipHeld h4 z TI TO T true → h4.IsTupleIter u a (k + 1) → h4.IsTupleIter v b (k + 1) → IsPair h4 s.heap.objs.size x y → (∀ c o, c ≠ z → c ≠ u → c ≠ v → s.heap.get? c = some o → h4.get? c = some o) → Q (some (.ref s.heap.objs.size)) { s with heap := h4 })
    (over : (p[k]? = none ∨ q[k]? = none) → ∀ h4, (∀ c o, c ≠ z → c ≠ u → c ≠ v → s.heap.get? c = some o → h4.get? c = some o) → Q none { s with heap := h4 }) : wpAny (model P W) R (pyNext (.ref z)) Q Ex s := by
  have ty : s.TypeIs (.ref z) "zip" := ⟨_, out, rfl⟩
  unfold pyNext
  refine wpAny_bind (wpAny_attempt (wpAny_callSpecial?_slot (name := Str.ofString "__next__") ty F.slot_zip_next (wpAny_call_entry F.slot_zip_next ty F.entry_zip_next (ahead (C := fun _ _ => pure (.done .next)) ap out live st (fun x y hx hy h3 o3 u3 v3 sz kp => ?_) (fun _ hn h3 e kp he => ?_) calm) (F.args_zip_next_1 _))))
  · refine ⟨_, rfl, wpAny_pure ?_⟩
    have top : IsPair (h3.push { cls := .type "tuple", data := .seq #[x, y] }) h3.objs.size x y := Heap.get?_push_size _ rfl
    rw [sz] at top ⊢
    exact both x y hx hy _ (Heap.get?_push_of_some _ o3) (u3.at fun o e => Heap.get?_push_of_some _ e) (v3.at fun o e => Heap.get?_push_of_some _ e) top fun c o c1 c2 c3 e => Heap.get?_push_of_some _ (kp c o c1 c2 c3 e)
  · obtain ⟨o, ho, hc⟩ := he
    refine wpAny_bind (wpAny_isInstance (T := "StopIteration") (b := true) ⟨o, ho, hc⟩ isSubtype_stop (wpAny_pure ?_))
    exact over hn h3 kp
theorem Stands.keep {h h' : Heap} {n : Nat} (st : Stands h TI u v a b p q n) (k : ∀ c, c = TI ∨ c = u ∨ c = v ∨ c = a ∨ c = b → ∀ o, h.get? c = some o → h'.get? c = some o) : Stands h' TI u v a b p q n :=
  ⟨k TI (.inl rfl) _ st.two, st.itU.at fun o => k u (.inr (.inl rfl)) o, st.itV.at fun o => k v (.inr (.inr (.inl rfl))) o, st.tupA.at fun o => k a (.inr (.inr (.inr (.inl rfl)))) o, st.tupB.at fun o => k b (.inr (.inr (.inr (.inr rfl)))) o⟩
/-- the tuple that it gives out: its own, or one that is out; d: what is written meanwhile -/
def Gives (h : Heap) (z TI TO u v d : Addr) : Prop := (IsZip h z TI TO .none ∧ ∃ x y, IsPair h TO x y) ∨ ∃ T fl oT, IsZipHeld h z TI TO T fl ∧ h.get? T = some oT ∧ T ≠ z ∧ T ≠ u ∧ T ≠ v ∧ T ≠ d
/-- zip of two tuples as what dict() is made of -/
theorem pairArg (ap : ZipApart z TI TO u v a b) : PairArg P W "zip" z [z, TI, TO, u, v, a, b] [z, TO, u, v] (min p.size q.size) (fun i x y => p[i]? = some x ∧ q[i]? = some y)
    (fun h => IsZip h z TI TO .none ∧ (∃ x y, IsPair h TO x y) ∧ Stands h TI u v a b p q 0) where
  type := fun s g => ⟨_, g.1, rfl⟩
  notDict := by decide
  keep := fun h h' g k => ⟨k _ _ g.1, g.2.1.elim fun x e => e.elim fun y e => ⟨x, y, k _ _ e⟩, g.2.2.keep fun c _ o e => k c o e⟩
  there := fun h g c hc => by
    obtain ⟨g1, ⟨x, y, g2⟩, ⟨g3, ⟨o4, g4, _⟩, ⟨o5, g5, _⟩, ⟨o6, g6, _⟩, ⟨o7, g7, _⟩⟩⟩ := g
    simp only [List.mem_cons, List.not_mem_nil, or_false] at hc
    rcases hc with rfl | rfl | rfl | rfl | rfl | rfl | rfl
    · exact ⟨_, g1⟩
    · exact ⟨_, g3⟩
    · exact ⟨_, g2⟩
    · exact ⟨_, g4⟩
    · exact ⟨_, g5⟩
    · exact ⟨_, g6⟩
    · exact ⟨_, g7⟩
  sub := fun c hc => by
    simp only [List.mem_cons, List.not_mem_nil, or_false] at hc ⊢
    rcases hc with e | e | e | e <;> simp [e]
  noKeys := fun R s Q Ex calm g k => getAttrOr_miss_zip g.1 rfl rfl rfl zip_no_keys (by decide +kernel) calm k
  iter := fun R s d Q Ex calm g hd hf k => by
    obtain ⟨g1, g2, g3⟩ := g
    simp only [List.mem_cons, List.not_mem_nil, or_false, not_or] at hf
    obtain ⟨nz, nTI, nTO, nu, nv, na, nb⟩ := hf
    refine wpAny_pyIter_zip g1 (k z [z, TO, u, v] (fun i h => Stands h TI u v a b p q i ∧ Gives h z TI TO u v d) s.heap s.toks ?_ ⟨g3, .inl ⟨g1, g2⟩⟩ (fun _ _ e => e) fun c hc => .inl hc)
    refine ⟨fun hm => ?_, fun i h h' st kp => ?_, fun i s1 Q1 E1 hi st hds kq => ?_, fun s1 Q1 E1 st kq => ?_⟩
    · simp only [List.mem_cons, List.not_mem_nil, or_false] at hm
      rcases hm with e | e | e | e
      · exact nz e
      · exact nTO e
      · exact nu e
      · exact nv e
    · refine ⟨st.1.keep fun c hc o e => kp c o (fun w => ?_) e, ?_⟩
      · subst w
        rcases hc with e | e | e | e | e
        · exact nTI e
        · exact nu e
        · exact nv e
        · exact na e
        · exact nb e
      · rcases st.2 with ⟨m1, x, y, m2⟩ | ⟨T, fl, oT, m1, m2, m3⟩
        · exact .inl ⟨kp _ _ (Ne.symm nz) m1, x, y, kp _ _ (Ne.symm nTO) m2⟩
        · exact .inr ⟨T, fl, oT, kp _ _ (Ne.symm nz) m1, kp _ _ m3.2.2.2 m2, m3⟩
    · have ip : i < p.size := Nat.lt_of_lt_of_le hi (Nat.min_le_left _ _)
      have iq : i < q.size := Nat.lt_of_lt_of_le hi (Nat.min_le_right _ _)
      have ep := Array.getElem?_eq_getElem ip
      have eq := Array.getElem?_eq_getElem iq
      have above : ∀ {c o}, s1.heap.get? c = some o → s1.heap.objs.size ≠ c := fun e => Nat.ne_of_gt (Heap.lt_size e)
      have au : s1.heap.objs.size ≠ u := st.1.itU.elim fun _ e => above e.1
      have av : s1.heap.objs.size ≠ v := st.1.itV.elim fun _ e => above e.1
      rcases st.2 with ⟨m1, x0, y0, m2⟩ | ⟨T, fl, oT, m1, m2, m3⟩
      · refine RZ.pyNext_zipT_item ap m1 st.1.two m2 st.1.itU st.1.itV st.1.tupA st.1.tupB ep eq fun h' c1 c2 c3 c4 c5 c6 kp => ?_
        refine kq s1.heap.objs.size _ _ h' s1.toks ⟨ep, eq⟩ (.inl ⟨_, c5, rfl, _, rfl⟩) ⟨⟨kp _ _ ap.TIz ap.TITO ap.TIi1 ap.TIi2 st.1.two, c3, c4, st.1.tupA.at fun o => kp _ o ap.l1z ap.l1TO ap.l1i1 ap.l1i2, st.1.tupB.at fun o => kp _ o ap.l2z ap.l2TO ap.l2i1 ap.l2i2⟩, .inr ⟨s1.heap.objs.size, false, _, c1, c5, above m1, au, av, Nat.ne_of_gt hds⟩⟩ fun c o hc e => ?_
        simp only [List.mem_cons, List.not_mem_nil, or_false, not_or] at hc
        exact kp c o hc.1 hc.2.1 hc.2.2.1 hc.2.2.2 e
      · refine next_out ap m1 m2 st.1 calm (fun x y hx hy h' c1 c3 c4 c5 kp => ?_) fun hn => ?_
        · refine kq s1.heap.objs.size _ _ h' s1.toks ⟨hx, hy⟩ (.inl ⟨_, c5, rfl, _, rfl⟩) ⟨⟨kp _ _ ap.TIz ap.TIi1 ap.TIi2 st.1.two, c3, c4, st.1.tupA.at fun o => kp _ o ap.l1z ap.l1i1 ap.l1i2, st.1.tupB.at fun o => kp _ o ap.l2z ap.l2i1 ap.l2i2⟩, .inr ⟨T, true, oT, c1, kp _ _ m3.1 m3.2.1 m3.2.2.1 m2, m3⟩⟩ fun c o hc e => ?_
          simp only [List.mem_cons, List.not_mem_nil, or_false, not_or] at hc
          exact kp c o hc.1 hc.2.2.1 hc.2.2.2 e
        · rw [ep, eq] at hn
          rcases hn with e | e <;> cases e
    · have hn : p[min p.size q.size]? = none ∨ q[min p.size q.size]? = none := by
        rcases Nat.le_total p.size q.size with e | e
        · exact .inl (Array.getElem?_eq_none (by rw [Nat.min_eq_left e]; exact Nat.le_refl _))
        · exact .inr (Array.getElem?_eq_none (by rw [Nat.min_eq_right e]; exact Nat.le_refl _))
      rcases st.2 with ⟨m1, x0, y0, m2⟩ | ⟨T, fl, oT, m1, m2, m3⟩
      · refine RZ.pyNext_zipT_end calm ap m1 st.1.two m2 st.1.itU st.1.itV st.1.tupA st.1.tupB hn fun h' kp => kq h' s1.toks fun c o hc e => ?_
        simp only [List.mem_cons, List.not_mem_nil, or_false, not_or] at hc
        exact kp c o hc.1 hc.2.1 hc.2.2.1 hc.2.2.2 e
      · refine next_out ap m1 m2 st.1 calm (fun x y hx hy => ?_) fun _ h' kp => kq h' s1.toks fun c o hc e => ?_
        · rcases hn with e | e
          · rw [e] at hx; cases hx
          · rw [e] at hy; cases hy
        · simp only [List.mem_cons, List.not_mem_nil, or_false, not_or] at hc
          exact kp c o hc.1 hc.2.2.1 hc.2.2.2 e
end
end ZT
end
section
set_option Elab.async false
set_option linter.all false
set_option maxRecDepth 100000
set_option maxHeartbeats 2000000
open PySem PySem.Spec PyProof.Rows L2
namespace Sim
section
variable {X : Cx}
theorem kv_zip {P : Program} {w : PySem.World} : ∀ {ks : List Key} {ys : List V} {us : List Value}, Vals ys us → KV (ks.zip ys) (ks.zip us)
  | [], _, _, _ => .nil
  | _ :: _, [], _, h => by cases h; exact .nil
  | k :: ks, y :: ys, _, h => by
    cases h with
    | cons a r => exact .cons ⟨rfl, a⟩ (kv_zip (P := P) (w := w) r)
def tDZ (K : PySem.W.Frag) (ta : TA) : TE := fun σ H Q => ta σ H fun vs H1 => ∃ (a b : Addr) (ks : List Key) (ys : List V), vs = [.ref a, .ref b] ∧ SqT K H1 a (ks.map kV) ∧ SqT K H1 b ys ∧ ∀ d, H1 d = none → Q (.ref d) (upd H1 d (.dK (mergeK [] (ks.zip ys))))
theorem call_dz (hc : X.calm = true) {pins : List (Addr × Obj)} {s1 : Shared} {σ : L2.St} {H1 : Hp} {Q : VK} {a b : Addr} {ks : List Key} {ys : List V} (I1 : L2.Inv X pins σ H1 s1) (qa : SqT X.K H1 a (ks.map kV)) (qb : SqT X.K H1 b ys) (q : ∀ d, H1 d = none → Q (.ref d) (upd H1 d (.dK (mergeK [] (ks.zip ys))))) :
    wpAny (model X.prog X.w) X.A (call (.type "zip") [.ref a, .ref b]) (fun zv s2 => wpAny (model X.prog X.w) X.A (call (.type "dict") [zv]) (EP X pins σ Q) X.xe s2) X.xe s1 := by
  obtain ⟨its, rv, p1, _⟩ := I1.tuple qa
  obtain ⟨its2, rv2, p2, z2⟩ := I1.tuple qb
  obtain ⟨o1, ho1, _⟩ := id p1
  obtain ⟨o2, ho2, _⟩ := id p2
  have hh := I1.ok.hd hc
  refine RZ.call_zipT (show s1.heap.IsTuple a its.toArray from p1) (show s1.heap.IsTuple b its2.toArray from p2) fun h' hz hTI hTO h1 h2 hsz hk => ?_
  have I2 : L2.Inv X pins σ H1 { s1 with heap := h' } := I1.kept (t' := s1.toks) hk
  have ap := PySem.W.ktu_apart s1.heap.objs.size a b (Heap.lt_size ho1) (Heap.lt_size ho2)
  have l1 : ks.length = its.length := by rw [← rv.length, List.length_map]
  have l2 : ys.length = its2.length := rv2.length
  have fresh : ∀ c ∈ [s1.heap.objs.size + 4, s1.heap.objs.size + 3, s1.heap.objs.size, s1.heap.objs.size + 1], FpOk X pins H1 c := fun c hcm => by
    have hle : s1.heap.objs.size ≤ c := by
      simp only [List.mem_cons, List.not_mem_nil, or_false] at hcm
      rcases hcm with e | e | e | e <;> (rw [e]; first | exact Nat.le_add_right _ _ | exact Nat.le_refl _)
    exact I1.fpOk hle (I1.hok.fresh hle)
  have pw : PairsHave (mixKind X.prog X.w) (min its.toArray.size its2.toArray.size) (fun i x y => its.toArray[i]? = some x ∧ its2.toArray[i]? = some y) (ks.zip its2) := by
    refine ⟨by rw [List.length_zip, l1]; simp, fun i x y hxy => ?_⟩
    obtain ⟨ex, ey⟩ := hxy
    have ex' : its[i]? = some x := by simpa using ex
    have ey' : its2[i]? = some y := by simpa using ey
    have hi : i < ks.length := by rw [l1]; exact (List.getElem?_eq_some_iff.mp ex').1
    obtain ⟨u, hu, ru⟩ := rv.get (i := i) (x := kV ks[i]) (by rw [List.getElem?_map, List.getElem?_eq_getElem hi]; rfl)
    rw [ex'] at hu
    cases hu
    exact ⟨ks[i], by rw [List.getElem?_zip_eq_some]; exact ⟨List.getElem?_eq_getElem hi, ey'⟩, kV_is ru⟩
  have hlz : (ks.zip its2).length ≤ sizeLine := by rw [List.length_zip]; exact Nat.le_trans (Nat.min_le_right _ _) (by rw [← l2]; exact z2)
  have hn : min its.toArray.size its2.toArray.size ≤ sizeLine := Nat.le_trans (Nat.min_le_right _ _) (by rw [List.size_toArray, ← l2]; exact z2)
  refine PySem.call_dict_pairs (s := { s1 with heap := h' }) (knd := mixKind X.prog X.w) (kvs := ks.zip its2) (ZT.pairArg (P := X.prog) (W := X.w) (p := its.toArray) (q := its2.toArray) ap) hh
    ⟨hz, ⟨_, _, hTO⟩, ⟨hTI, h1, h2, p1.keeps hk, p2.keeps hk⟩⟩ pw hn fun h'' tk hd' kp => ?_
  have hm : (h'.objs.size == sysModules) = false := beq_eq_false_iff_ne.mpr (Nat.ne_of_gt (I2.big))
  have rel : KV (ks.zip ys) (ks.zip its2) := kv_zip (P := X.prog) (w := X.w) rv2
  have hlen : (mergeK [] (ks.zip ys)).length ≤ sizeLine := by
    refine Nat.le_trans (length_mergeK (ks.zip ys) []) ?_
    rw [List.length_nil, Nat.zero_add, rel.length]
    exact hlz
  have new : ObjOk X.prog X.w (upd H1 h'.objs.size (.dK (mergeK [] (ks.zip ys)))) h'' h'.objs.size (.dK (mergeK [] (ks.zip ys))) := ⟨hlen, hm, merged [] (ks.zip its2), KV.merge rel .nil, hd'⟩
  exact ⟨.ref h'.objs.size, upd H1 h'.objs.size (.dK (mergeK [] (ks.zip ys))), I2.turnedNew (t' := tk) (ch := [s1.heap.objs.size + 4, s1.heap.objs.size + 3, s1.heap.objs.size, s1.heap.objs.size + 1]) kp fresh (Nat.le_refl _) new, rfl, q _ (I2.hok.fresh (Nat.le_refl _))⟩
end
end Sim
end
section
set_option Elab.async false
set_option linter.all false
set_option maxRecDepth 100000
set_option maxHeartbeats 2000000
open PySem PySem.Spec PyProof.Rows L2
namespace Sim
section
variable {X : Cx} {Wx : WX}
theorem pe_dictZip (hc : X.calm = true) (gz : Gl X "zip") (mz : X.mg "zip" = none) (gd : Gl X "dict") (md : X.mg "dict" = none) {e e2 : Expr} {ta : TA} {p pz cz pos : Pos} (ha : PA X [e, e2] ta)
    (hs1 : starEach [.Call (.Name "zip" pz) [e, e2] [] cz] X.env = (false, eval (.Call (.Name "zip" pz) [e, e2] [] cz) X.env) :: starEach [] X.env := by rfl)
    (hs2 : starEach [e, e2] X.env = (false, eval e X.env) :: starEach [e2] X.env := by rfl) (hpl : (backTo cz (starEach [e2] X.env)).any (·.1) = false := by rfl) :
    PE X (.Call (.Name "dict" p) [.Call (.Name "zip" pz) [e, e2] [] cz] [] pos) (tDZ X.K ta) := by
  refine ⟨fun pins s σ H Q I hq => ?_⟩
  refine wpAny_Call_Name_kw (ld_blt I gd md PyProof.Rows.boot_dict ?_)
  refine PyProof.Rows.callWith_type1 ?_ hs1 rfl
  rw [hs1]
  show wpAny _ _ (spliced ((false, eval (.Call (.Name "zip" pz) [e, e2] [] cz) X.env) :: backTo pos (starEach [] X.env))) _ _ s
  refine Calls.spliced_cons ?_
  refine wpAny_Call_Name_kw (ld_blt I gz mz PyProof.Rows.boot_zip ?_)
  refine PyProof.Rows.callWith_type1 (thn (ha.run cz pins s σ H _ I hq) fun us s1 ⟨vs, H1, I1, r1, q1⟩ => ?_) hs2 hpl
  obtain ⟨a, b, ks, ys, rfl, qa, qb, q⟩ := q1
  cases r1 with
  | cons r rr =>
    cases rr with
    | cons r' rr =>
      cases rr
      cases r
      cases r'
      exact wpAny_mono (call_dz hc I1 qa qb q) (fun zv s2 h => Calls.spliced_nil h) (fun _ _ x => x)
def keysL : List W → Option (List Key)
  | [] => some []
  | w :: r => match toKey w, keysL r with
    | some k, some ks => some (k :: ks)
    | _, _ => none
theorem keysL_rep {K : PySem.W.Frag} {G : Gm} {H : Hp} : ∀ {ws : List W} {vs : List V} {ks : List Key}, RepL K G H ws vs → keysL ws = some ks → vs = ks.map kV
  | [], _, _, h, e => by cases h; cases e; rfl
  | w :: r, _, ks, h, e => by
    cases h with
    | cons a b =>
      rw [keysL] at e
      cases e1 : toKey w with
      | none => rw [e1] at e; cases e
      | some k =>
        cases e2 : keysL r with
        | none => rw [e1, e2] at e; cases e
        | some q =>
          rw [e1, e2] at e
          cases e
          rw [List.map_cons, toKey_rep a e1, keysL_rep b e2]
theorem zip_rep {K : PySem.W.Frag} {G : Gm} {H : Hp} : ∀ {ks : List Key} {ys : List W} {vs : List V}, RepL K G H ys vs → RepK K G H (ks.zip ys) (ks.zip vs)
  | [], _, _, _ => .nil
  | _ :: _, [], _, h => by cases h; exact .nil
  | k :: ks, y :: ys, _, h => by
    cases h with
    | cons a b => exact .cons a (zip_rep b)
/-- dict(zip(a, b)) of two tuples -/
def eDictZip (as : AM) : EM := fun ρ st => (as ρ st).bind fun ws st1 => match ws with
  | [.tup xs, .tup ys] => match keysL xs with
    | some ks => .ok (.dic (mergeW [] (ks.zip ys))) st1
    | none => .no
  | _ => .no
theorem ce_dictZip (hc : X.calm = true) (gz : Gl X "zip") (mz : X.mg "zip" = none) (gd : Gl X "dict") (md : X.mg "dict" = none) {e e2 : Expr} {ta : TA} {as : AM} {p pz cz pos : Pos} (ha : CA X Wx [e, e2] ta as)
    (hs1 : starEach [.Call (.Name "zip" pz) [e, e2] [] cz] X.env = (false, eval (.Call (.Name "zip" pz) [e, e2] [] cz) X.env) :: starEach [] X.env := by rfl)
    (hs2 : starEach [e, e2] X.env = (false, eval e X.env) :: starEach [e2] X.env := by rfl) (hpl : (backTo cz (starEach [e2] X.env)).any (·.1) = false := by rfl) :
    CE X Wx (.Call (.Name "dict" p) [.Call (.Name "zip" pz) [e, e2] [] cz] [] pos) (tDZ X.K ta) (eDictZip as) := by
  refine ⟨pe_dictZip hc gz mz gd md ha.pe hs1 hs2 hpl, fun G H ρ σ Q w r h => ?_⟩
  refine ha.sem G H ρ σ _ w r (PostR.bind h fun ws st1 ls1 H1 vs he e1 w1 rv h1 => ?_)
  clear he
  split at h1
  · rename_i xs ys
    split at h1
    · rename_i ks hk
      obtain ⟨v, u, rfl, rx, ry⟩ := rv.two
      obtain ⟨a, vs, rfl, sq, rl⟩ := tup_sq rx
      obtain ⟨b, us, rfl, sq2, rl2⟩ := tup_sq ry
      cases keysL_rep rl hk
      refine ⟨a, b, ks, us, rfl, sq, sq2, fun d hn => ?_⟩
      have rm : RepK X.K (G.to ls1 st1) H1 (mergeW [] (ks.zip ys)) (mergeK [] (ks.zip us)) := RepK.merge (zip_rep rl2) .nil
      exact PostV.of h1 _ _ (Ext.new w1 hn) (w1.new hn) (.dic ⟨.inl upd_same, w1.nal hn⟩ (rm.mono (Ext.new w1 hn)))
    · exact h1.elim
  · exact h1.elim
end
end Sim
end
section
set_option Elab.async false
set_option linter.all false
set_option maxRecDepth 100000
set_option maxHeartbeats 2000000
open PySem PySem.Spec PyProof.Rows L2
namespace Sim
section
variable {X : Cx} {Wx : WX} {K : PySem.W.Frag} {G : Gm} {H : Hp}
/-! {} that is changed later -/
def eDic0 : EM := fun _ st => .ok (.loc st.length) (st ++ [some (.dic [])])
theorem ce_dic0 {pos : Pos} : CE X Wx (.Dict [] [] pos) tDNewK eDic0 := ⟨pe_dnewK, fun G H ρ σ Q w r h p hn => post_push (ob := .dic []) w hn h ⟨[], upd_same, .nil⟩⟩
@[simp] theorem ev_dic0 (ρ : Ev) (st : Stt) : eDic0 ρ st = .ok (.loc st.length) (st ++ [some (.dic [])]) := id rfl
/-! y in d -/
def fDin (neg : Bool) : F2 := fun st y d => match dicX st d, toKey y with
  | some kvs, some k => some (.bl (if neg then !(valW kvs k).isSome else (valW kvs k).isSome))
  | _, _ => none
theorem din_of {kws : List (Key × W)} {kvs : List (Key × V)} (k : Key) (h : RepK K G H kws kvs) : (valW kws k).isSome = (valV kvs k).isSome := by
  rcases RepK.val k h with ⟨h1, h2⟩ | ⟨w, v, h1, h2, _⟩ <;> rw [h1, h2] <;> rfl
theorem sem_din {neg : Bool} {ty td : TE} {my md : EM} (hy : SemE K Wx ty my) (hd : SemE K Wx td md) : SemE K Wx (if neg then tDNotIn ty td else tDIn ty td) (eOp (fDin neg) my md) := fun G H ρ σ Q w r h => by
  have key : ∀ (R : Bool → Prop), True := fun _ => trivial
  have main : ty σ H fun y H1 => td σ H1 fun x H2 => ∃ a o, x = .ref a ∧ DGet H2 a y o ∧ Q (.bl (if neg then !o.isSome else o.isSome)) H2 := by
    refine hy G H ρ σ _ w r (PostR.bind h fun y st1 ls1 H1 vy he e1 w1 ry h1 => ?_)
    clear he
    refine hd (G.to ls1 st1) H1 ρ σ _ w1 (r.mono e1) (PostR.bind h1 fun d st2 ls2 H2 vd he2 e2 w2 rd h2 => ?_)
    clear he2
    cases q : fDin neg st2 y d with
    | none => rw [q] at h2; exact h2.elim
    | some z =>
      rw [q] at h2
      unfold fDin at q
      split at q
      · rename_i kws k hk1 hk2
        cases q
        obtain ⟨a, kvs, rfl, hrd, rk⟩ := dic_rd (G := G.to ls2 st2) w2 rd hk1
        refine ⟨a, valV kvs k, rfl, .inl ⟨kvs, k, hrd, toKey_rep (ry.mono e2) hk2, rfl⟩, ?_⟩
        rw [← din_of k rk]
        exact PostR.ok (G := G.to ls2 st2) w2 h2 (.bl _)
      · cases q
  cases neg
  · exact main
  · exact main
/-! sorted(d) of a dict with texts as keys -/
def keyS : List (Key × W) → Option (List Str)
  | [] => some []
  | (.inr x, _) :: r => (keyS r).map (x :: ·)
  | _ => none
theorem keyS_rep : ∀ {kws : List (Key × W)} {kvs : List (Key × V)} {ks : List Str}, RepK K G H kws kvs → keyS kws = some ks → kvs.map (·.1) = ks.map Sum.inr
  | [], _, _, h, e => by cases h; cases e; rfl
  | (.inl i, w) :: r, _, _, h, e => by cases e
  | (.inr x, w) :: r, _, ks, h, e => by
    cases h with
    | cons a b =>
      rw [keyS] at e
      cases q : keyS r with
      | none => rw [q] at e; cases e
      | some zs =>
        rw [q] at e
        cases e
        rw [List.map_cons, keyS_rep b q]
        rfl
def fSortedD : FL := fun st ws => match ws with
  | [x] => match (dicX st x).bind keyS with
    | some xs => if xs.length < 64 then some ((sortS xs).map .str) else none
    | none => none
  | _ => none
def rSortedD (K : PySem.W.Frag) : List V → Hp → VK → Prop := fun xs H Q => ∃ (a : Addr) (kvs : List (Key × V)) (ks : List Str), xs = [.ref a] ∧ Rd H a (.dK kvs) ∧ kvs.map (·.1) = ks.map Sum.inr ∧ ks.length < 64 ∧
  ∀ ys p, ys.Perm ks → sortedS ys = true → H p = none → Q (.ref p) (upd H p (.lst (ys.map V.str)))
theorem cr_sortedD (hc : X.calm = true) : CallR X (.builtin "sorted") (rSortedD X.K) := call_sortedD hc
theorem fn_sortedD : FnN K (rSortedD K) fSortedD := fun G H ws vs us Q wo rl e q => by
  unfold fSortedD at e
  split at e
  · rename_i x
    split at e
    · rename_i xs en
      split at e
      · rename_i h64
        cases e
        obtain ⟨v, rfl, rx⟩ := rl.one
        cases ed : dicX G.st x with
        | none => rw [ed] at en; cases en
        | some kws =>
          rw [ed] at en
          obtain ⟨a, kvs, rfl, hrd, rk⟩ := dic_rd wo rx ed
          refine ⟨a, kvs, xs, rfl, hrd, keyS_rep rk en, h64, fun ys p hp hs hn => ?_⟩
          rw [sorted_eq hp hs]
          exact q p _ hn rep_strs
      · cases e
    · cases e
  · cases e
/-! d.update(e) -/
def rUpdD : V → List V → Hp → VK → Prop := fun x xs H Q => ∃ (a b : Addr) (kvs more : List (Key × V)), x = .ref a ∧ xs = [.ref b] ∧ a ≠ b ∧ H a = some (.dK kvs) ∧ Rd H b (.dK more) ∧ kvs.length + more.length ≤ sizeLine ∧ Q .non (upd H a (.dK (mergeK kvs more)))
theorem mt_updD : MtR X "dict.update" rUpdD := by
  intro pins s σ H x xs v us Q I rx rxs h
  obtain ⟨a, b, kvs, more, rfl, rfl, hab, ha, hb, hz, q⟩ := h
  cases rx
  obtain ⟨u, rfl, ru⟩ := rxs.one
  cases ru
  obtain ⟨z, hd, vs, rel, dd⟩ := dk_of I.hok ha
  obtain ⟨z2, hd2, vs2, rel2, dd2⟩ := dk_rd I.hok hb
  have l1 : kvs.length = vs.length := rel.length
  have l2 : more.length = vs2.length := rel2.length
  refine PySem.call_meetsIn PySem.F.slot_dict_update dd.typeIs PySem.F.entry_dict_update (PySem.F.args_dict_update_2 _ _) (PySem.meets_dict_update (mixKind X.prog X.w) a b hab hd2) ⟨vs, vs2, dd, dd2, by omega, fun h' dd' _ hs => ?_⟩
  have he : ∃ q, h'.get? a = some q := let ⟨q, _, _, hq, _⟩ := dd'; ⟨q, hq⟩
  have hl : (mergeK kvs more).length ≤ sizeLine := Nat.le_trans (length_mergeK more kvs) hz
  exact ⟨.non, _, d_write (t' := s.toks) I (by rw [ha]; exact True.intro) hs he (dk_new hl hd (KV.merge rel2 rel) dd'), rfl, q⟩
def mUpdD : MF := fun x ws st => match x, ws with
  | .loc n, [.dic more] => match st[n]? with
    | some (some (.dic kvs)) => if kvs.length + more.length ≤ 100000 then .ok .non (st.set n (some (.dic (mergeW kvs more)))) else .no
    | _ => .no
  | _, _ => .no
theorem ms_updD : MtS K rUpdD mUpdD := fun G H x v ws vs Wy Q wo rx rl h => by
  unfold mUpdD at h
  split at h
  · rename_i n more
    split at h
    · rename_i kws hk
      split at h
      · rename_i hl
        cases rx with
        | loc e1 =>
          rename_i a
          obtain ⟨kvs, e2, rk⟩ := wo.at' _ _ _ e1 hk
          obtain ⟨u, rfl, ru⟩ := rl.one
          cases ru with
          | dic hf rm =>
            rename_i b mvs
            have hab : a ≠ b := fun z => hf.2 (by rw [← z]; exact .inl ⟨n, _, e1, hk⟩)
            refine ⟨a, b, kvs, mvs, rfl, rfl, hab, e2, hf.1, Nat.le_trans (by rw [← rk.length, ← rm.length]; exact hl) (by decide), ?_⟩
            have x := Ext.put (G := G) (H := H) (ob := .dic (mergeW kws more)) (o := .dK (mergeK kvs mvs)) wo e1 hk
            exact post_put wo e1 hk h ⟨_, upd_same, (RepK.merge rm rk).mono x⟩ .non
      · exact h.elim
    · exact h.elim
  · exact h.elim
/-- d.name(..), d a dict that is changed -/
def eDM (m : EM) (as : AM) (mf : MF) : EM := fun ρ st => (m ρ st).bind fun x st1 => match x with
  | .loc n => match st1[n]? with
    | some (some (.dic _)) => (as ρ st1).bind fun ws st2 => mf x ws st2
    | _ => .no
  | _ => .no
theorem ce_dm {o e : Expr} {es : List Expr} {to : TE} {t : TA} {mo : EM} {as : AM} {name : Str} {apos cpos : Pos} {id : String} {r : V → List V → Hp → VK → Prop} {mf : MF} (slot : Slot "dict" name id) (hty : typeOf (.builtin id) = pure (.type "method_descriptor")) (hm : MtR X id r) (hf : MtS X.K r mf) (ho : CE X Wx o to mo) (ha : CA X Wx (e :: es) t as)
    (hbase : attributeBase o name X.env (eval o X.env) = eval o X.env := by rfl)
    (hfew : ((backTo cpos (starEach (e :: es) X.env)).all (fun x => !x.1) && (backToKw cpos (keywordEach [] X.env)).all (fun x => x.1.isSome) && decide ((e :: es).length + ([] : List Keyword).length + (if ([] : List Keyword).isEmpty then 0 else 1) < 30)) = true := by rfl)
    (hline : (apos.endLine == cpos.line) = true := by rfl) (hs : starEach (e :: es) X.env = (false, eval e X.env) :: starEach es X.env := by rfl) (hplain : (backTo cpos (starEach es X.env)).any (·.1) = false := by rfl) :
    CE X Wx (.Call (.Attribute o name apos) (e :: es) [] cpos) (tBM X.K "dict" r to t) (eDM mo as mf) := by
  refine ⟨pe_bm PySem.F.plainAttrs_dict slot hty hm ho.pe ha.pe hbase hfew hline hs hplain, fun G H ρ σ Q w rr h => ?_⟩
  refine ho.sem G H ρ σ _ w rr (PostR.bind h fun x st1 ls1 H1 v q1 e1 w1 rv h1 => ?_)
  clear q1
  split at h1
  · rename_i n
    split at h1
    · rename_i kws hk
      cases rv with
      | loc hn =>
        rename_i a
        obtain ⟨kvs, e2, rk⟩ := w1.at' _ _ _ hn hk
        refine ⟨.inr (.inr (.inl ⟨rfl, .inl ⟨kvs, e2⟩⟩)), ?_⟩
        refine ha.sem (G.to ls1 st1) H1 ρ σ _ w1 (rr.mono e1) (PostR.bind h1 fun ws st2 ls2 H2 vs q2 e2 w2 rvs h2 => ?_)
        exact hf (G.to ls2 st2) H2 (.loc n) _ ws vs _ Q w2 (RepV.mono e2 (.loc hn)) rvs h2
    · exact h1.elim
  · exact h1.elim
end
end Sim
end
section
set_option Elab.async false
set_option linter.all false
set_option maxRecDepth 100000
set_option maxHeartbeats 2000000
open PySem PySem.Spec PyProof.Rows L2
namespace Sim
open Classical in
noncomputable def dcW (ok : Stt → Prop) (g : GM) (c : TM) (mk mv : EM) (ρ : Ev) : List W → Stt → Rs (List (Key × W))
  | [], st => if ok st then .ok [] st else .no
  | w :: ws, st => if ok st then (match g st w ρ with
      | none => .no
      | some ρ1 => (c ρ1 st).cb fun b st1 => if b = true then (mk ρ1 st1).cb fun x st2 => (mv ρ1 st2).cb fun y st3 => (match toKey x with
        | some k => (dcW ok g c mk mv ρ ws st3).cb fun ys st4 => .ok ((k, y) :: ys) st4
        | none => .no) else dcW ok g c mk mv ρ ws st1) else .no
noncomputable def eDc (im : IM) (g : GM) (c : TM) (mk mv : EM) (vs : List Nat) : EM := fun ρ st => (im ρ st).bind fun src st1 => if src.items.length ≤ 100000 then (dcW src.ok g c mk mv (wipeE ρ vs) src.items st1).cb fun ys st2 => .ok (.dic (mergeW [] ys)) st2 else .no
section
variable {K : PySem.W.Frag} {Wx : WX} {G1 : Gm} {H1 : Hp} {D : Addr}
theorem merge_snoc (aw : List (Key × W)) (k : Key) (y : W) : mergeW [] (aw ++ [(k, y)]) = putW (mergeW [] aw) k y := by
  unfold mergeW
  rw [List.foldl_append]
  rfl
theorem dc_loop {J : It} {src : Src} {g : TG} {gm : GM} {is vs : List Nat} {tt : TT} {c : TM} {tk tv : TE} {mk mv : EM} {ρ : Ev} {σ : L2.St} {Q : VK} (w1 : World K G1 H1) (re : RepE K G1 H1 ρ σ) (wk : Walks K G1 H1 src J) (hg : SemG K g gm is) (hs : ∀ i ∈ is, i ∈ vs)
    (ht : SemT K W0 tt c) (hek : SemE K W0 tk mk) (hev : SemE K W0 tv mv) (hlen : src.items.length ≤ 100000) (hD : H1 D = none)
    (fin : ∀ (ys : List (Key × W)) (st' : Stt) (ls' : List Addr) (H' : Hp) (av : List (Key × V)), dcW src.ok gm c mk mv (wipeE ρ vs) src.items G1.st = .ok ys st' → Ext G1 H1 (G1.to ls' st') H' → World K ((G1.to ls' st').hide D) H' → H' D = some (.dK av) → RepK K ((G1.to ls' st').hide D) H' (mergeW [] ys) av → Q (.ref D) H')
    (hok : ∃ ys st', dcW src.ok gm c mk mv (wipeE ρ vs) src.items G1.st = .ok ys st') :
    ∃ W : Nat → Nat → Hp → Prop, (∃ m, W 0 m (upd H1 D (.dK []))) ∧ ∀ i m H, W i m H → (J.stop i H ∧ Q (.ref D) H) ∨ (J.go i H ∧ ∃ Nx : Hp → Prop, (∀ H', Nx H' → ∃ m', m' < m ∧ W (i + 1) m' H') ∧ ∀ x H', J.yld i H x H' → g x (L2.wipe σ vs) H' fun σ2 H2 => L2.wipe σ2 vs = L2.wipe σ vs ∧ tt σ2 H2 fun b H3 =>
      if b = true then tk σ2 H3 fun y H4 => tv σ2 H4 fun z H5 => ∃ kvs k, y = kV k ∧ H5 D = some (.dK kvs) ∧ kvs.length < sizeLine ∧ Nx (upd H5 D (.dK (putK kvs k z))) else Nx H3) := by
  obtain ⟨ysF, stF, hok⟩ := hok
  let Inv : Nat → Hp → Prop := fun i H => i ≤ src.items.length ∧ ∃ (ls : List Addr) (st : Stt) (aw : List (Key × W)) (av : List (Key × V)) (ys : List (Key × W)), Ext G1 H1 (G1.to ls st) H ∧ World K ((G1.to ls st).hide D) H ∧ H D = some (.dK av) ∧ RepK K ((G1.to ls st).hide D) H (mergeW [] aw) av ∧ av.length ≤ i ∧ Less G1 H1 ((G1.to ls st).hide D) H ∧
    dcW src.ok gm c mk mv (wipeE ρ vs) (src.items.drop i) st = .ok ys stF ∧ aw ++ ys = ysF
  refine ⟨fun i m H => m = src.items.length - i ∧ Inv i H, ⟨_, rfl, Nat.zero_le _, G1.ls, G1.st, [], [], ysF, ?_, w1.hide hD, upd_same, .nil, Nat.le_refl _, less_hide w1 hD, hok, rfl⟩, ?_⟩
  · exact Ext.new w1 hD
  rintro i mm H ⟨rfl, hle, ls, st, aw, av, ys, x, w, hDv, rl, hl, le, hc, hys⟩
  by_cases hlt : i < src.items.length
  · rw [List.drop_eq_getElem_cons hlt] at hc
    rw [dcW] at hc
    split at hc
    · rename_i hokst
      obtain ⟨wg, _⟩ := wk _ H le w hokst i
      obtain ⟨hgo, hy⟩ := wg _ (List.getElem?_eq_getElem hlt)
      refine .inr ⟨hgo, Inv (i + 1), fun H' hN => ⟨_, ?_, rfl, hN⟩, fun xv H2 hx => ?_⟩
      · omega
      obtain ⟨x2, w2, rx⟩ := hy xv H2 hx
      cases eg : gm st src.items[i] (wipeE ρ vs) with
      | none => rw [eg] at hc; cases hc
      | some ρ1 =>
        rw [eg] at hc
        dsimp only at hc
        have re2 : RepE K ((G1.to ls st).hide D) H2 (wipeE ρ vs) (L2.wipe σ vs) := ((re.less le).less x2.less).wipe vs
        refine hg _ H2 _ _ _ xv ρ1 _ w2 re2 rx eg fun σ2 hl2 hj2 re3 => ⟨?_, ?_⟩
        · rw [wipe_same hl2 hj2 hs, wipe_wipe]
        obtain ⟨b, st3, hb, hc⟩ := Rs.cb_eq hc
        refine ht _ H2 ρ1 σ2 _ w2 re3 ?_
        rw [show ((G1.to ls st).hide D).st = st from rfl, hb]
        intro ls3 H3 b' x3 w3 eb
        subst eb
        have x23 := x2.trans x3
        have hD3 : H3 D = some (.dK av) := (x23.hidk D List.mem_cons_self).trans hDv
        cases b with
        | true =>
          rw [if_pos rfl] at hc ⊢
          obtain ⟨kw, st4, hm, hc⟩ := Rs.cb_eq hc
          obtain ⟨y, st5, hm5, hc⟩ := Rs.cb_eq hc
          cases ek : toKey kw with
          | none => rw [ek] at hc; cases hc
          | some k =>
            rw [ek] at hc
            obtain ⟨ys', st6, hr, hc⟩ := Rs.cb_eq hc
            refine hek (((G1.to ls st).hide D).to ls3 st3) H3 ρ1 σ2 _ w3 (re3.mono x3) ?_
            rw [show (((G1.to ls st).hide D).to ls3 st3).st = st3 from rfl, hm]
            intro ls4 H4 kv x4 w4 rk
            refine hev (((G1.to ls st).hide D).to ls4 st4) H4 ρ1 σ2 _ w4 ((re3.mono x3).mono x4) ?_
            rw [show (((G1.to ls st).hide D).to ls4 st4).st = st4 from rfl, hm5]
            intro ls5 H5 yv x5 w5 ry
            have x24 := (x23.trans x4).trans x5
            have hD5 : H5 D = some (.dK av) := (x24.hidk D List.mem_cons_self).trans hDv
            have lp := length_putK av k yv
            refine ⟨av, k, toKey_rep rk ek, hD5, Nat.lt_of_le_of_lt (Nat.le_trans hl (Nat.le_of_lt hlt)) (Nat.lt_of_le_of_lt hlen (by decide)), hlt, ls5, st5, aw ++ [(k, y)], putK av k yv, ys', Ext.under w1 hD x x24, w5.hidupd List.mem_cons_self, upd_same, ?_, by omega, ?_, ?_, ?_⟩
            · rw [merge_snoc]
              exact ((rl.mono x24).put k ry).less (less_hidupd List.mem_cons_self)
            · have l2 := less_hidupd (G := (G1.to ls5 st5).hide D) (H := H5) (o := .dK (putK av k yv)) List.mem_cons_self
              exact ⟨fun i a e => x24.ls i a (le.ls i a e), fun a u h => l2.fz a u (Fz.mono x24 (le.fz a u h)), fun a u h => l2.fx a u (Fx.mono x24 (le.fx a u h)), fun a u h => l2.fe a u (Fe.mono x24 (le.fe a u h)), fun a p u h => l2.fd a p u (Fd.mono x24 (le.fd a p u h))⟩
            · cases hc; exact hr
            · cases hc; rw [← hys]; simp
        | false =>
          rw [if_neg Bool.false_ne_true] at hc ⊢
          refine ⟨hlt, ls3, st3, aw, av, ys, ?_, w3, hD3, rl.mono x23, Nat.le_succ_of_le hl, ?_, hc, hys⟩
          · have q := Ext.under (o := .dK av) w1 hD x x23
            have : upd H3 D (.dK av) = H3 := by
              funext b
              by_cases e : b = D
              · subst e; rw [upd_same]; exact hD3.symm
              · rw [upd_ne e]
            rw [this] at q
            exact q
          · exact ⟨fun i a e => x23.ls i a (le.ls i a e), fun a u h => Fz.mono x23 (le.fz a u h), fun a u h => Fx.mono x23 (le.fx a u h), fun a u h => Fe.mono x23 (le.fe a u h), fun a p u h => Fd.mono x23 (le.fd a p u h)⟩
    · cases hc
  · have ei : i = src.items.length := by omega
    subst ei
    rw [List.drop_length, dcW] at hc
    split at hc
    · rename_i hokst
      cases hc
      refine .inl ⟨(wk _ H le w hokst _).2 (Nat.le_refl _), fin ysF _ ls H av hok x w hDv ?_⟩
      rw [← hys, List.append_nil]; exact rl
    · cases hc
theorem sem_dc {wi : TI} {g : TG} {gm : GM} {is vs : List Nat} {tt : TT} {c : TM} {tk tv : TE} {mk mv : EM} {im : IM} (hi : SemI K Wx wi im) (hg : SemG K g gm is) (hs : ∀ i ∈ is, i ∈ vs) (ht : SemT K W0 tt c) (hek : SemE K W0 tk mk) (hev : SemE K W0 tv mv) :
    SemE K Wx (tDc wi g tt tk tv vs) (eDc im gm c mk mv vs) := fun G H ρ σ Q w r h => by
  refine hi G H ρ σ _ w r (PostR.bind h fun src st1 ls1 H1 J _ e1 w1 wk h1 => ?_)
  intro D hD
  split at h1
  · rename_i hlen
    cases hr : dcW src.ok gm c mk mv (wipeE ρ vs) src.items st1 with
    | ok ys st2 =>
      rw [hr] at h1
      refine dc_loop w1 (r.mono e1) wk hg hs ht hek hev hlen hD (fun ys' st' ls' H' av hq x w' hDv rl => ?_) ⟨ys, st2, hr⟩
      rw [show (G.to ls1 st1).st = st1 from rfl, hr] at hq
      cases hq
      exact h1 ls' H' (.ref D) x w'.unhide (.dic ⟨.inl hDv, hidden_nal w1 hD x w'⟩ (rl.less less_unhide))
    | er x st2 => rw [hr] at h1; exact h1.elim
    | no => rw [hr] at h1; exact h1.elim
  · exact h1.elim
variable {X : Cx}
theorem ce_dc {kx vx tg iter : Expr} {ifs : List Expr} {scope : Scope} {own : List (Str × Nat)} {pos : Pos} {wi : TI} {g : TG} {tt : TT} {tk tv : TE} {im : IM} {gm : GM} {is : List Nat} {c : TM} {mk mv : EM} (hc : X.calm = true) (hN : X.N.Nodup) (hi : CI X Wx tg iter wi im) (ok : BlkOk X.N X.env.scope scope own)
    (hg : Blk X scope fun Y => CG Y tg g gm is) (ht : Blk X scope fun Y => CTs Y W0 ifs tt c) (hk : Blk X scope fun Y => CE Y W0 kx tk mk) (he : Blk X scope fun Y => CE Y W0 vx tv mv) (hsub : ∀ i ∈ is, i ∈ own.map (·.2) := by decide) (hs : ∀ x, foldedSetIterable iter X.env x = pure x := by intro _; rfl) :
    CE X Wx (.DictComp kx vx [⟨tg, iter, ifs, 0⟩] scope pos) (tDc wi g tt tk tv (own.map (·.2))) (eDc im gm c mk mv (own.map (·.2))) :=
  ⟨pe_dc hc hN hi.pe ok (fun s H C cl fp => (hg s H C cl fp).pe) (fun s H C cl fp => (ht s H C cl fp).pe) (fun s H C cl fp => (hk s H C cl fp).pe) (fun s H C cl fp => (he s H C cl fp).pe) hs,
    sem_dc hi.sem (hg {} (fun _ => none) 0 [] []).sem hsub (ht {} (fun _ => none) 0 [] []).sem (hk {} (fun _ => none) 0 [] []).sem (he {} (fun _ => none) 0 [] []).sem⟩
end
end Sim
end
section
set_option Elab.async false
set_option linter.all false
set_option maxRecDepth 100000
set_option maxHeartbeats 1000000
open PySem PySem.Spec PyProof.Rows L2
namespace Sim
section
variable {X : Cx} {Wx : WX} {ρ : Ev} {st : Stt}
theorem ct_dnotin {a b : Expr} {ta tb : TE} {ma mb : EM} {pos : Pos} (hu : X.A.units + 1 < cLine) (ha : CE X Wx a ta ma) (hb : CE X Wx b tb mb) (hm : behindInMarks .NotIn b = false := by first | exact nobehind _ (by decide) (by decide) | rfl) :
    CT X Wx (.Compare a [.NotIn] [b] pos) (tB (tDNotIn ta tb)) (tmV (eOp (fDin true) ma mb)) := ⟨pt_cmp (pc_dnotin hu ha.pe hb.pe) hm, sem_tv (sem_din (neg := true) ha.sem hb.sem)⟩
/-! the mirrors of dicts, worked out -/
theorem dget_ok {md mk : EM} {kvs : List (Key × W)} {x : Str} {w : W} {d : W} (h1 : md ρ st = .ok d st) (hd : dicX st d = some kvs) (h2 : mk ρ st = .ok (.str x) st) (h3 : valW kvs (.inr x) = some w) : eDget md mk ρ st = .ok w st := by
  unfold eDget
  simp only [h1, Rs.bind, h2, hd, toKey, h3]
theorem dcW_map {ok : Stt → Prop} {g : GM} {mk mv : EM} {f : W → Key × W} (hk : ok st) : ∀ (ws : List W), (∀ w ∈ ws, ∃ ρ1 x, g st w ρ = some ρ1 ∧ mk ρ1 st = .ok x st ∧ toKey x = some (f w).1 ∧ mv ρ1 st = .ok (f w).2 st) → dcW ok g tmYes mk mv ρ ws st = .ok (ws.map f) st
  | [], _ => by rw [dcW, if_pos hk]; rfl
  | w :: ws, h => by
    obtain ⟨ρ1, x, h1, h2, h3, h4⟩ := h w List.mem_cons_self
    have ih := dcW_map hk ws fun u hu => h u (List.mem_cons_of_mem _ hu)
    have hy : tmYes ρ1 st = .ok true st := rfl
    rw [dcW, if_pos hk, h1]
    simp [hy, h2, h3, h4, ih]
def dcV (r : Rs (List (Key × W))) : Rs W := match r with | .ok ys s => .ok (.dic (mergeW [] ys)) s | _ => .no
@[simp] theorem dcV_ok (ys : List (Key × W)) : dcV (.ok ys st) = .ok (.dic (mergeW [] ys)) st := id rfl
noncomputable def dcK (g : GM) (c : TM) (mk mv : EM) (vs : List Nat) (ρ : Ev) (r : Rs Src) : Rs W := match r with | .ok src s => if src.items.length ≤ 100000 then dcV (dcW src.ok g c mk mv (wipeE ρ vs) src.items s) else .no | .er x s => .er x s | .no => .no
@[simp] theorem dcK_ok (g : GM) (c : TM) (mk mv : EM) (vs : List Nat) (src : Src) : dcK g c mk mv vs ρ (.ok src st) = if src.items.length ≤ 100000 then dcV (dcW src.ok g c mk mv (wipeE ρ vs) src.items st) else .no := id rfl
@[simp] theorem ev_dc (im : IM) (g : GM) (c : TM) (mk mv : EM) (vs : List Nat) : eDc im g c mk mv vs ρ st = dcK g c mk mv vs ρ (im ρ st) := by
  unfold eDc dcK dcV
  cases im ρ st with
  | ok src s =>
    dsimp only [Rs.bind]
    split
    · cases dcW src.ok g c mk mv (wipeE ρ vs) src.items s <;> rfl
    · rfl
  | er x s => rfl
  | no => rfl
/-- a loop while .., one turn -/
theorem while_stop {n : Nat} {c : TM} {body : SM} {st1 : Stt} (h : c ρ st = .ok false st1) : whileW (n + 1) c body ρ st = .nx ρ st1 := by
  rw [whileW]
  dsimp only
  rw [h]; rfl
theorem while_go {n : Nat} {c : TM} {body : SM} {st1 st2 : Stt} {ρ2 : Ev} (h : c ρ st = .ok true st1) (hb : body ρ st1 = .nx ρ2 st2) : whileW (n + 1) c body ρ st = whileW n c body ρ2 st2 := by
  rw [whileW]
  dsimp only
  rw [h]
  show (body ρ st1).loop (fun ρ2 st2 => whileW n c body ρ2 st2) = whileW n c body ρ2 st2
  rw [hb]
  rfl
end
end Sim
end
section
set_option Elab.async false
set_option linter.all false
set_option maxRecDepth 100000
set_option maxHeartbeats 1000000
open PySem PySem.Spec PyProof.Rows L2
namespace Sim
/-! a dict that nobody changes is walked: it is locked, and stays so -/
section
variable {X : Cx} {tg e : Expr} {td : TE} {apos cpos : Pos}
theorem locked {pins : List (Addr × Obj)} {s : Shared} {σ : L2.St} {H : Hp} {d : Addr} {kvs : List (Key × V)} {F : Obj → Hp → Prop} (I : Inv X pins σ H s) (q : (∃ o, H d = some (.frz o (.dK kvs)) ∧ F o H) ∨ (H d = some (.dK kvs) ∧ ∀ od, F od (upd H d (.frz od (.dK kvs))))) :
    ∃ o H2, Inv X pins σ H2 s ∧ H2 d = some (.frz o (.dK kvs)) ∧ F o H2 := by
  rcases q with ⟨o, e, q⟩ | ⟨e, q⟩
  · exact ⟨o, H, I, e, q⟩
  · obtain ⟨od, I2⟩ := I.lock e trivial
    exact ⟨od, _, I2, upd_same, q od⟩
end
section
variable {K : PySem.W.Frag} {G : Gm} {H : Hp} {d : Addr} {od : Obj} {kvs : List (Key × V)}
theorem Ext.lock (w : World K G H) (e : H d = some (.dK kvs)) (na : ¬ G.alive d) : Ext G H G (upd H d (.frz od (.dK kvs))) := by
  refine ⟨fun _ _ e => e, fun a u _ q => ?_, fun _ z => .inl z, fun a q => ?_, rfl, fun a ha => ?_⟩
  · by_cases h : a = d
    · subst h
      rw [e] at q
      cases q
      exact .inr ⟨kvs, od, rfl, upd_same⟩
    · exact .inl (by rw [upd_ne h]; exact q)
  · by_cases h : a = d
    · subst h; rw [upd_same] at q; cases q
    · rw [upd_ne h] at q; exact q
  · exact upd_ne fun z => na (.inr (by rw [← z]; exact ha))
theorem World.lock (w : World K G H) (e : H d = some (.dK kvs)) (na : ¬ G.alive d) : World K G (upd H d (.frz od (.dK kvs))) := by
  have nn : ∀ a, H a ≠ none → upd H d (.frz od (.dK kvs)) a ≠ none := fun a h => by
    by_cases q : a = d
    · subst q; rw [upd_same]; exact fun z => nomatch z
    · rw [upd_ne q]; exact h
  refine ⟨w.len, w.nd, fun a ha => nn a (w.tr a ha), fun a ha => ⟨nn a (w.hd a ha).1, (w.hd a ha).2⟩, fun i a ob e1 e2 => ?_⟩
  have ne : a ≠ d := fun z => na (.inl ⟨i, ob, by rw [← z]; exact e1, e2⟩)
  exact (w.at' i a ob e1 e2).mono (Ext.lock w e na) (upd_ne ne)
theorem RepK.get : ∀ {kws : List (Key × W)} {kvs : List (Key × V)}, RepK K G H kws kvs → ∀ {i : Nat} {p : Key × W}, kws[i]? = some p → ∃ v, kvs[i]? = some (p.1, v) ∧ RepV K G H p.2 v
  | _, _, .nil, i, p, h => by cases h
  | _, _, .cons (k := k) (w := w) (v := v) a b, 0, p, h => by
    have h : some (k, w) = some p := h
    cases h
    exact ⟨v, rfl, a⟩
  | _, _, .cons (k := k) (w := w) (v := v) a b, i + 1, p, h => RepK.get b h
theorem RepK.len : ∀ {kws : List (Key × W)} {kvs : List (Key × V)}, RepK K G H kws kvs → kws.length = kvs.length
  | _, _, .nil => rfl
  | _, _, .cons a b => congrArg (· + 1) (RepK.len b)
end
def iDict (f : Key × W → W) (m : EM) : IM := fun ρ st => (m ρ st).bind fun w st1 => match w with
  | .dic kws => .ok ⟨kws.map f, fun _ => True⟩ st1
  | _ => .no
section
variable {X : Cx} {Wx : WX} {K : PySem.W.Frag} {tg e : Expr} {te : TE} {m : EM} {apos cpos : Pos}
end
end Sim
end
section
set_option Elab.async false
set_option linter.all false
set_option maxRecDepth 100000
set_option maxHeartbeats 1000000
open PySem PySem.Spec PyProof.Rows L2
namespace Sim
section
variable {X : Cx} {Wx : WX} {K : PySem.W.Frag}
/-- d[k] = e, d a dict that is changed -/
def putD (x : W) (ρ : Ev) (l k : W) (s : Stt) : RS := match l, toKey k with
  | .loc n, some q => match s[n]? with
    | some (some (.dic us)) => if us.length < 100000 then .nx ρ (s.set n (some (.dic (putW us q x)))) else .no
    | _ => .no
  | _, _ => .no
def sSetD (e o i : EM) : SM := fun ρ st => (e ρ st).toS ρ fun x st1 => (o ρ st1).toS ρ fun l st2 => (i ρ st2).toS ρ fun k st3 => putD x ρ l k st3
/-! worked out -/
variable {ρ : Ev} {st : Stt}
def sdK3 (x l : W) (ρ : Ev) (r : Rs W) : RS := match r with | .ok k s => putD x ρ l k s | .er y s => .er y ρ s | .no => .no
@[simp] theorem sdK3_ok (x l k : W) : sdK3 x l ρ (.ok k st) = putD x ρ l k st := id rfl
def sdK2 (x : W) (i : EM) (ρ : Ev) (r : Rs W) : RS := match r with | .ok l s => sdK3 x l ρ (i ρ s) | .er y s => .er y ρ s | .no => .no
@[simp] theorem sdK2_ok (x l : W) (i : EM) : sdK2 x i ρ (.ok l st) = sdK3 x l ρ (i ρ st) := id rfl
def sdK (o i : EM) (ρ : Ev) (r : Rs W) : RS := match r with | .ok x s => sdK2 x i ρ (o ρ s) | .er y s => .er y ρ s | .no => .no
@[simp] theorem sdK_ok (o i : EM) (x : W) : sdK o i ρ (.ok x st) = sdK2 x i ρ (o ρ st) := id rfl
@[simp] theorem ev_setD (e o i : EM) : sSetD e o i ρ st = sdK o i ρ (e ρ st) := by
  unfold sSetD sdK
  cases e ρ st with
  | ok x s =>
    show (o ρ s).toS ρ _ = sdK2 x i ρ (o ρ s)
    unfold sdK2
    cases o ρ s with
    | ok l s2 => show (i ρ s2).toS ρ _ = sdK3 x l ρ (i ρ s2); unfold sdK3; cases i ρ s2 <;> rfl
    | er y s => rfl
    | no => rfl
  | er y s => rfl
  | no => rfl
end
end Sim
end
section
set_option Elab.async false
set_option linter.all false
set_option maxRecDepth 100000
set_option maxHeartbeats 2000000
namespace Low
open PySem PySem.Spec PyProof.Rows L2
section
variable {X : Cx}
end
end Low
end
section
set_option Elab.async false
set_option linter.all false
set_option maxRecDepth 100000
set_option maxHeartbeats 1000000
open PySem PySem.Spec PyProof.Rows L2
namespace Sim
/-! min(x) of texts -/
section
variable {K : PySem.W.Frag} {st : Stt}
end
end Sim
end
section
set_option Elab.async false
set_option linter.all false
set_option maxRecDepth 100000
set_option maxHeartbeats 2000000
open PySem PySem.Spec PyProof.Rows L2
namespace Sim
/-! list comprehensions with two fors -/
open Classical in
noncomputable def lcW2 (ok : Stt → Prop) (g : GM) (c : TM) (im1 : IM) (g1 : GM) (c1 : TM) (m : EM) (vs1 : List Nat) (ρ : Ev) : List W → Stt → Rs (List W)
  | [], st => if ok st then .ok [] st else .no
  | w :: ws, st => if ok st then (match g st w ρ with
      | none => .no
      | some ρ1 => (c ρ1 st).cb fun b st1 => if b = true then (im1 ρ1 st1).cb fun src st2 => (lcW src.ok g1 c1 m (wipeE ρ1 vs1) src.items st2).cb fun ys st3 => (lcW2 ok g c im1 g1 c1 m vs1 ρ ws st3).cb fun zs st4 => .ok (ys ++ zs) st4
        else lcW2 ok g c im1 g1 c1 m vs1 ρ ws st1) else .no
noncomputable def eLc2 (im : IM) (g : GM) (c : TM) (im1 : IM) (g1 : GM) (c1 : TM) (m : EM) (vs vs1 : List Nat) : EM := fun ρ st => (im ρ st).bind fun src st1 => (lcW2 src.ok g c im1 g1 c1 m vs1 (wipeE ρ vs) src.items st1).cb fun ys st2 => if ys.length ≤ 100000 then .ok (.lst ys) st2 else .no
section
variable {K : PySem.W.Frag} {Wx : WX} {G1 : Gm} {H1 : Hp} {D : Addr}
theorem RepL.len {G : Gm} {H : Hp} : ∀ {ws : List W} {vs : List V}, RepL K G H ws vs → vs.length = ws.length
  | _, _, .nil => rfl
  | _, _, .cons _ r => by rw [List.length_cons, List.length_cons, r.len]
/-- the new list D, hidden, holds what is made so far -/
structure Mk1 (K : PySem.W.Frag) (G1 : Gm) (H1 : Hp) (D : Addr) (ls : List Addr) (st : Stt) (aw : List W) (av : List V) (H : Hp) : Prop where
  x : Ext G1 H1 (G1.to ls st) H
  w : World K ((G1.to ls st).hide D) H
  hD : H D = some (.lst av)
  rl : RepL K ((G1.to ls st).hide D) H aw av
  le : Less G1 H1 ((G1.to ls st).hide D) H
theorem less_tr {G G2 G3 : Gm} {H H2 H3 : Hp} (a : Less G H G2 H2) (b : Less G2 H2 G3 H3) : Less G H G3 H3 :=
  ⟨fun i p e => b.ls i p (a.ls i p e), fun p u h => b.fz p u (a.fz p u h), fun p u h => b.fx p u (a.fx p u h), fun p u h => b.fe p u (a.fe p u h), fun p o u h => b.fd p o u (a.fd p o u h)⟩
theorem Mk1.step {ls ls' : List Addr} {st st' : Stt} {aw : List W} {av : List V} {H H' : Hp} (w1 : World K G1 H1) (hn : H1 D = none) (k : Mk1 K G1 H1 D ls st aw av H) (y : Ext ((G1.to ls st).hide D) H ((G1.to ls' st').hide D) H') (w' : World K ((G1.to ls' st').hide D) H') : Mk1 K G1 H1 D ls' st' aw av H' := by
  have hD' : H' D = some (.lst av) := (y.hidk D List.mem_cons_self).trans k.hD
  refine ⟨?_, w', hD', k.rl.mono y, less_tr k.le y.less⟩
  have q := Ext.under (o := .lst av) w1 hn k.x y
  have : upd H' D (.lst av) = H' := by
    funext b
    by_cases e : b = D
    · subst e; rw [upd_same]; exact hD'.symm
    · rw [upd_ne e]
  rwa [this] at q
theorem Mk1.push {ls : List Addr} {st : Stt} {aw : List W} {av : List V} {H : Hp} {y : W} {v : V} (w1 : World K G1 H1) (hn : H1 D = none) (k : Mk1 K G1 H1 D ls st aw av H) (r : RepV K ((G1.to ls st).hide D) H y v) : Mk1 K G1 H1 D ls st (aw ++ [y]) (av ++ [v]) (upd H D (.lst (av ++ [v]))) := by
  have l2 := less_hidupd (G := (G1.to ls st).hide D) (H := H) (o := .lst (av ++ [v])) List.mem_cons_self
  exact ⟨Ext.under w1 hn k.x (Ext.refl _ _), k.w.hidupd List.mem_cons_self, upd_same, (RepL.app k.rl (.cons r .nil)).less l2, less_tr k.le l2⟩
variable {X : Cx}
end
end Sim
end
section
set_option Elab.async false
set_option linter.all false
set_option maxRecDepth 100000
set_option maxHeartbeats 4000000
namespace Low
open PySem PySem.Spec PyProof.Rows L2
/-! dict comprehensions with two fors -/
section
variable {kx vx a0 b0 a1 b1 : Expr} {f0 f1 : List Expr} {sc : Scope} {ps : Pos}
abbrev tests (fs : List Expr) (env : Env) : Sem Bool := forIn fs true fun c r => if r = true then do let ok ← isTrue c env (eval c env); pure (ForInStep.yield ok) else pure (ForInStep.yield r)
variable {prog : Program} {w : World} {A : Around} {R : Result → Shared → Prop} {s : Shared} {it acc : Value} {D : Addr} {env : Env}
/-- what is noted where an exception leaves -/
abbrev out (prog : Program) (w : World) (A : Around) (env : Env) (R : Result → Shared → Prop) : Value → Shared → Prop := notedBy (model prog w) A env fun e s' => R (.error e) s'
end
section
variable {X : Cx}
end
end Low
end
section
set_option Elab.async false
set_option linter.all false
set_option maxRecDepth 100000
set_option maxHeartbeats 2000000
open PySem PySem.Spec PyProof.Rows L2
namespace Sim
/-! dict comprehensions with two fors; reversed -/
open Classical in
noncomputable def dcW2 (ok : Stt → Prop) (g : GM) (c : TM) (im1 : IM) (g1 : GM) (c1 : TM) (mk mv : EM) (vs1 : List Nat) (ρ : Ev) : List W → Stt → Rs (List (Key × W))
  | [], st => if ok st then .ok [] st else .no
  | w :: ws, st => if ok st then (match g st w ρ with
      | none => .no
      | some ρ1 => (c ρ1 st).cb fun b st1 => if b = true then (im1 ρ1 st1).cb fun src st2 => (dcW src.ok g1 c1 mk mv (wipeE ρ1 vs1) src.items st2).cb fun ys st3 => (dcW2 ok g c im1 g1 c1 mk mv vs1 ρ ws st3).cb fun zs st4 => .ok (ys ++ zs) st4
        else dcW2 ok g c im1 g1 c1 mk mv vs1 ρ ws st1) else .no
noncomputable def eDc2 (im : IM) (g : GM) (c : TM) (im1 : IM) (g1 : GM) (c1 : TM) (mk mv : EM) (vs vs1 : List Nat) : EM := fun ρ st => (im ρ st).bind fun src st1 => (dcW2 src.ok g c im1 g1 c1 mk mv vs1 (wipeE ρ vs) src.items st1).cb fun ys st2 => if ys.length ≤ 100000 then .ok (.dic (mergeW [] ys)) st2 else .no
section
variable {K : PySem.W.Frag} {Wx : WX} {G1 : Gm} {H1 : Hp} {D : Addr}
/-- the new dict D, hidden, holds what is made so far -/
structure Mk2 (K : PySem.W.Frag) (G1 : Gm) (H1 : Hp) (D : Addr) (ls : List Addr) (st : Stt) (aw : List (Key × W)) (av : List (Key × V)) (H : Hp) : Prop where
  x : Ext G1 H1 (G1.to ls st) H
  w : World K ((G1.to ls st).hide D) H
  hD : H D = some (.dK av)
  rl : RepK K ((G1.to ls st).hide D) H (mergeW [] aw) av
  len : av.length ≤ aw.length
  le : Less G1 H1 ((G1.to ls st).hide D) H
theorem Mk2.step {ls ls' : List Addr} {st st' : Stt} {aw : List (Key × W)} {av : List (Key × V)} {H H' : Hp} (w1 : World K G1 H1) (hn : H1 D = none) (k : Mk2 K G1 H1 D ls st aw av H) (y : Ext ((G1.to ls st).hide D) H ((G1.to ls' st').hide D) H') (w' : World K ((G1.to ls' st').hide D) H') : Mk2 K G1 H1 D ls' st' aw av H' := by
  have hD' : H' D = some (.dK av) := (y.hidk D List.mem_cons_self).trans k.hD
  refine ⟨?_, w', hD', k.rl.mono y, k.len, less_tr k.le y.less⟩
  have q := Ext.under (o := .dK av) w1 hn k.x y
  have : upd H' D (.dK av) = H' := by
    funext b
    by_cases e : b = D
    · subst e; rw [upd_same]; exact hD'.symm
    · rw [upd_ne e]
  rwa [this] at q
theorem Mk2.push {ls : List Addr} {st : Stt} {aw : List (Key × W)} {av : List (Key × V)} {H : Hp} {kk : Key} {y : W} {v : V} (w1 : World K G1 H1) (hn : H1 D = none) (k : Mk2 K G1 H1 D ls st aw av H) (r : RepV K ((G1.to ls st).hide D) H y v) : Mk2 K G1 H1 D ls st (aw ++ [(kk, y)]) (putK av kk v) (upd H D (.dK (putK av kk v))) := by
  have l2 := less_hidupd (G := (G1.to ls st).hide D) (H := H) (o := .dK (putK av kk v)) List.mem_cons_self
  have lp := length_putK av kk v
  refine ⟨Ext.under w1 hn k.x (Ext.refl _ _), k.w.hidupd List.mem_cons_self, upd_same, ?_, ?_, less_tr k.le l2⟩
  · rw [merge_snoc]
    exact (k.rl.put kk r).less l2
  · have := k.len
    rw [List.length_append, List.length_singleton]
    omega
variable {X : Cx}
/-! reversed(x) -/
def iRevT (m : EM) : IM := fun ρ st => (m ρ st).bind fun x st1 => match x with
  | .tup ws => .ok ⟨ws.reverse, fun _ => True⟩ st1
  | .lst ws => .ok ⟨ws.reverse, fun _ => True⟩ st1
  | _ => .no
end
end Sim
end
section
set_option Elab.async false
set_option linter.all false
set_option maxRecDepth 100000
set_option maxHeartbeats 1000000
open PySem PySem.Spec PyProof.Rows L2
namespace Sim
section
variable {ρ : Ev} {st : Stt}
def lc2V (r : Rs (List W)) : Rs W := match r with | .ok ys s => if ys.length ≤ 100000 then .ok (.lst ys) s else .no | _ => .no
@[simp] theorem lc2V_ok (ys : List W) : lc2V (.ok ys st) = if ys.length ≤ 100000 then .ok (.lst ys) st else .no := id rfl
noncomputable def lc2K (g : GM) (c : TM) (im1 : IM) (g1 : GM) (c1 : TM) (m : EM) (vs vs1 : List Nat) (ρ : Ev) (r : Rs Src) : Rs W := match r with | .ok src s => lc2V (lcW2 src.ok g c im1 g1 c1 m vs1 (wipeE ρ vs) src.items s) | .er x s => .er x s | .no => .no
@[simp] theorem lc2K_ok (g : GM) (c : TM) (im1 : IM) (g1 : GM) (c1 : TM) (m : EM) (vs vs1 : List Nat) (src : Src) : lc2K g c im1 g1 c1 m vs vs1 ρ (.ok src st) = lc2V (lcW2 src.ok g c im1 g1 c1 m vs1 (wipeE ρ vs) src.items st) := id rfl
@[simp] theorem ev_lc2 (im : IM) (g : GM) (c : TM) (im1 : IM) (g1 : GM) (c1 : TM) (m : EM) (vs vs1 : List Nat) : eLc2 im g c im1 g1 c1 m vs vs1 ρ st = lc2K g c im1 g1 c1 m vs vs1 ρ (im ρ st) := by
  unfold eLc2 lc2K
  cases im ρ st with
  | ok src s => dsimp only [Rs.bind]; unfold lc2V; cases lcW2 src.ok g c im1 g1 c1 m vs1 (wipeE ρ vs) src.items s <;> rfl
  | er x s => rfl
  | no => rfl
def dc2V (r : Rs (List (Key × W))) : Rs W := match r with | .ok ys s => if ys.length ≤ 100000 then .ok (.dic (mergeW [] ys)) s else .no | _ => .no
@[simp] theorem dc2V_ok (ys : List (Key × W)) : dc2V (.ok ys st) = if ys.length ≤ 100000 then .ok (.dic (mergeW [] ys)) st else .no := id rfl
noncomputable def dc2K (g : GM) (c : TM) (im1 : IM) (g1 : GM) (c1 : TM) (mk mv : EM) (vs vs1 : List Nat) (ρ : Ev) (r : Rs Src) : Rs W := match r with | .ok src s => dc2V (dcW2 src.ok g c im1 g1 c1 mk mv vs1 (wipeE ρ vs) src.items s) | .er x s => .er x s | .no => .no
@[simp] theorem dc2K_ok (g : GM) (c : TM) (im1 : IM) (g1 : GM) (c1 : TM) (mk mv : EM) (vs vs1 : List Nat) (src : Src) : dc2K g c im1 g1 c1 mk mv vs vs1 ρ (.ok src st) = dc2V (dcW2 src.ok g c im1 g1 c1 mk mv vs1 (wipeE ρ vs) src.items st) := id rfl
@[simp] theorem ev_dc2 (im : IM) (g : GM) (c : TM) (im1 : IM) (g1 : GM) (c1 : TM) (mk mv : EM) (vs vs1 : List Nat) : eDc2 im g c im1 g1 c1 mk mv vs vs1 ρ st = dc2K g c im1 g1 c1 mk mv vs vs1 ρ (im ρ st) := by
  unfold eDc2 dc2K
  cases im ρ st with
  | ok src s => dsimp only [Rs.bind]; unfold dc2V; cases dcW2 src.ok g c im1 g1 c1 mk mv vs1 (wipeE ρ vs) src.items s <;> rfl
  | er x s => rfl
  | no => rfl
def revI (w : W) (s : Stt) : Rs Src := match w with
  | .tup ws => .ok ⟨ws.reverse, fun _ => True⟩ s
  | .lst ws => .ok ⟨ws.reverse, fun _ => True⟩ s
  | _ => .no
@[simp] theorem revI_tup (ws : List W) : revI (.tup ws) st = .ok ⟨ws.reverse, fun _ => True⟩ st := id rfl
@[simp] theorem revI_lst (ws : List W) : revI (.lst ws) st = .ok ⟨ws.reverse, fun _ => True⟩ st := id rfl
def revIK (r : Rs W) : Rs Src := match r with | .ok a s => revI a s | .er x s => .er x s | .no => .no
@[simp] theorem revIK_ok (a : W) : revIK (.ok a st) = revI a st := id rfl
@[simp] theorem ev_irev (m : EM) : iRevT m ρ st = revIK (m ρ st) := by
  unfold iRevT revIK revI
  cases m ρ st with
  | ok a s => cases a <;> rfl
  | er x s => rfl
  | no => rfl
end
end Sim
end
section
set_option Elab.async false
set_option linter.all false
set_option maxRecDepth 100000
set_option maxHeartbeats 2000000
namespace Low
open PySem PySem.Spec PyProof.Rows L2
/-! sorted(xs), a list of tuples of texts -/
section
variable {X : Cx}
end
end Low
end
section
set_option Elab.async false
set_option linter.all false
set_option maxRecDepth 100000
set_option maxHeartbeats 1000000
open PySem PySem.Spec PyProof.Rows L2
namespace Sim
/-! sorted(x) of tuples of texts -/
section
variable {K : PySem.W.Frag} {G : Gm} {H : Hp} {st : Stt}
end
end Sim
end
section
set_option Elab.async false
set_option linter.all false
set_option maxRecDepth 100000
set_option maxHeartbeats 2000000
open PySem PySem.Spec PyProof.Rows L2
namespace Sim
section
variable {X : Cx} {Wx : WX}
end
end Sim
end
section
set_option Elab.async false
set_option linter.all false
set_option maxRecDepth 100000
set_option maxHeartbeats 2000000
namespace Low
open PySem PySem.Spec PyProof.Rows L2
/-! sorted(d.items()), texts to texts; max(d.values()) -/
def leP (e f : Str × Str) : Bool := PySem.W.dataLe false (fun e : Str × Str => PyData.tuple [.str e.1, .str e.2]) e f
section
variable {X : Cx}
end
end Low
end
section
set_option Elab.async false
set_option linter.all false
set_option maxRecDepth 100000
set_option maxHeartbeats 2000000
open PySem PySem.Spec PyProof.Rows L2
namespace Sim
/-! sorted(d.items()); max(d.values()) -/
section
variable {K : PySem.W.Frag} {G : Gm} {H H' : Hp}
def ssOf : List (Key × W) → Option (List (Str × Str))
  | [] => some []
  | (.inr x, .str y) :: r => (ssOf r).map ((x, y) :: ·)
  | _ => none
theorem RepK.ss : ∀ {ss : List (Str × Str)} {kvs : List (Key × V)}, RepK K G H (ss.map fun e => (Sum.inr e.1, W.str e.2)) kvs → kvs = ss.map fun e => (Sum.inr e.1, V.str e.2)
  | [], _, h => by cases h; rfl
  | e :: ss, _, h => by
    cases h with
    | cons a b => rw [a.str_inv, RepK.ss b]; rfl
def ivOf : List (Key × W) → Option (List Int)
  | [] => some []
  | (_, .int i) :: r => (ivOf r).map (i :: ·)
  | _ => none
theorem RepK.iv : ∀ {kws : List (Key × W)} {kvs : List (Key × V)} {is : List Int}, RepK K G H kws kvs → ivOf kws = some is → kvs.map (·.2) = is.map V.int
  | [], _, is, h, e => by cases h; cases e; rfl
  | (k, w) :: r, _, is, h, e => by
    cases h with
    | cons a b =>
      cases w with
      | int i =>
        rw [ivOf] at e
        cases q : ivOf r with
        | none => rw [q] at e; cases e
        | some t => rw [q] at e; cases e; rw [List.map_cons, List.map_cons, a.int_inv, RepK.iv b q]
      | _ => simp [ivOf] at e
def eSortIt (m : EM) : EM := fun ρ st => (m ρ st).bind fun x st1 => match (dicX st1 x).bind ssOf with
  | some ss => if ss.length ≤ 1000 then .ok (.lst ((ss.mergeSort Low.leP).map fun e => .tup [.str e.1, .str e.2])) st1 else .no
  | none => .no
def eMaxVals (m : EM) : EM := fun ρ st => (m ρ st).bind fun x st1 => match (dicX st1 x).bind ivOf with
  | some is => if is ≠ [] then .ok (.int (maxI is)) st1 else .no
  | none => .no
variable {X : Cx} {Wx : WX}
/-! worked out -/
variable {ρ : Ev} {st : Stt}
def siW (s : Stt) (o : Option (List (Str × Str))) : Rs W := match o with | some ss => if ss.length ≤ 1000 then .ok (.lst ((ss.mergeSort Low.leP).map fun e => .tup [.str e.1, .str e.2])) s else .no | none => .no
@[simp] theorem siW_some (ss : List (Str × Str)) : siW st (some ss) = if ss.length ≤ 1000 then .ok (.lst ((ss.mergeSort Low.leP).map fun e => .tup [.str e.1, .str e.2])) st else .no := id rfl
def siK (r : Rs W) : Rs W := match r with | .ok a s => siW s ((dicX s a).bind ssOf) | .er x s => .er x s | .no => .no
@[simp] theorem siK_ok (a : W) : siK (.ok a st) = siW st ((dicX st a).bind ssOf) := id rfl
@[simp] theorem ev_sortIt (m : EM) : eSortIt m ρ st = siK (m ρ st) := by unfold eSortIt siK siW; cases m ρ st <;> rfl
def mvW (s : Stt) (o : Option (List Int)) : Rs W := match o with | some is => if is ≠ [] then .ok (.int (maxI is)) s else .no | none => .no
@[simp] theorem mvW_some (is : List Int) : mvW st (some is) = if is ≠ [] then .ok (.int (maxI is)) st else .no := id rfl
def mvK (r : Rs W) : Rs W := match r with | .ok a s => mvW s ((dicX s a).bind ivOf) | .er x s => .er x s | .no => .no
@[simp] theorem mvK_ok (a : W) : mvK (.ok a st) = mvW st ((dicX st a).bind ivOf) := id rfl
@[simp] theorem ev_maxVals (m : EM) : eMaxVals m ρ st = mvK (m ρ st) := by unfold eMaxVals mvK mvW; cases m ρ st <;> rfl
end
end Sim
end
section
set_option Elab.async false
set_option linter.all false
set_option maxRecDepth 100000
set_option maxHeartbeats 2000000
namespace Low
open PySem PySem.Spec PyProof.Rows L2
/-! enumerate over a tuple -/
section
variable {prog : Program} {w : World} {A : Around} {E : Value → Shared → Prop} {s : Shared}
end
/-- the tuple at a, each item in a new pair -/
def IteT (K : PySem.W.Frag) (a : Addr) : It :=
  ⟨fun i H => ∃ (xs : List V) (x : V), SqT K H a xs ∧ xs[i]? = some x, fun i H v H' => ∃ T x, v = .ref T ∧ H T = none ∧ H' = upd H T (.tup [.int (i : Nat), x]) ∧ ∀ xs, SqT K H a xs → xs[i]? = some x, fun i H => ∃ xs : List V, SqT K H a xs ∧ xs.length ≤ i⟩
def iEnumT (K : PySem.W.Frag) (ta : TA) : TI := fun σ H R => ta σ H fun vs H1 => ∃ a xs, vs = [.ref a] ∧ SqT K H1 a xs ∧ R (IteT K a) H1
end Low
end
section
set_option Elab.async false
set_option linter.all false
set_option maxRecDepth 100000
set_option maxHeartbeats 2000000
open PySem PySem.Spec PyProof.Rows L2
namespace Sim
section
variable {X : Cx} {Wx : WX} {ρ : Ev} {st : Stt}
/-- enumerate over a tuple -/
def iEnumT (ms : AM) : IM := fun ρ st => (ms ρ st).bind fun ws st1 => match ws with
  | [.tup xs] => .ok ⟨xs.zipIdx.map fun p => .prs [.int (p.2 : Int), p.1], fun _ => True⟩ st1
  | _ => .no
def enT (ws : List W) (st : Stt) : Rs Src := match ws with
  | [.tup xs] => .ok ⟨xs.zipIdx.map fun p => .prs [.int (p.2 : Int), p.1], fun _ => True⟩ st
  | _ => .no
@[simp] theorem enT_tup (xs : List W) : enT [.tup xs] st = .ok ⟨xs.zipIdx.map fun p => .prs [.int (p.2 : Int), p.1], fun _ => True⟩ st := id rfl
def enTK (r : Rs (List W)) : Rs Src := match r with | .ok ws s => enT ws s | .er x s => .er x s | .no => .no
@[simp] theorem enTK_ok (ws : List W) : enTK (.ok ws st) = enT ws st := id rfl
@[simp] theorem ev_ienumT (ms : AM) : iEnumT ms ρ st = enTK (ms ρ st) := by
  unfold iEnumT enTK enT
  cases ms ρ st <;> rfl
end
end Sim
end
section
set_option Elab.async false
set_option linter.all false
set_option maxRecDepth 100000
set_option maxHeartbeats 2000000
open PySem PySem.Spec PyProof.Rows L2
namespace Low
/-! t[:0:-1] of a tuple -/
section
variable {prog : Program} {w : PySem.World} {A : Around} {E : Value → Shared → Prop} {s : Shared}
end
end Low
end
section
set_option Elab.async false
set_option linter.all false
set_option maxRecDepth 100000
set_option maxHeartbeats 2000000
open PySem PySem.Spec PyProof.Rows L2
namespace Sim
section
variable {X : Cx} {Wx : WX} {ρ : Ev} {st : Stt}
/-- t[:0:-1] of a tuple -/
def eRevT0 (m : EM) : EM := fun ρ st => (m ρ st).bind fun x st1 => match x with
  | .tup ws => .ok (.tup (ws.drop 1).reverse) st1
  | _ => .no
def revT0W (w : W) (s : Stt) : Rs W := match w with | .tup ws => .ok (.tup (ws.drop 1).reverse) s | _ => .no
@[simp] theorem revT0W_tup (ws : List W) : revT0W (.tup ws) st = .ok (.tup (ws.drop 1).reverse) st := id rfl
def revT0K (r : Rs W) : Rs W := match r with | .ok a s => revT0W a s | .er x s => .er x s | .no => .no
@[simp] theorem revT0K_ok (a : W) (s : Stt) : revT0K (.ok a s) = revT0W a s := id rfl
@[simp] theorem ev_revT0 (m : EM) : eRevT0 m ρ st = revT0K (m ρ st) := by unfold eRevT0 revT0K revT0W; cases m ρ st <;> rfl
end
end Sim
end
section
set_option Elab.async false
set_option linter.all false
set_option maxRecDepth 100000
set_option maxHeartbeats 2000000
open PySem PySem.Spec PyProof.Rows L2
namespace Sim
/-- ints, the least first -/
def sortI (is : List Int) : List Int := is.mergeSort fun a b => decide (a ≤ b)
section
variable {K : PySem.W.Frag} {G : Gm} {H : Hp} {st : Stt}
end
end Sim
end
section
set_option Elab.async false
set_option linter.all false
set_option maxRecDepth 100000
set_option maxHeartbeats 2000000
open PySem PySem.Spec PyProof.Rows L2
namespace Low
/-! sum(lists, []) -/
section
variable {prog : Program} {w : PySem.World} {A : Around} {E : Value → Shared → Prop} {s : Shared}
end
section
variable {prog : Program} {w : PySem.World} {A : Around} {R : Result → Shared → Prop} {s0 : Shared} {h0 : Heap} {l e S I : Addr} {refs : List Addr} {vss : List (List Value)}
end
section
variable {prog : Program} {w : PySem.World} {A : Around} {E : Value → Shared → Prop} {s : Shared} {l e : Addr} {refs : List Addr} {vss : List (List Value)}
end
section
variable {X : Cx}
theorem Vals.refs : ∀ {bs : List Addr} {us : List Value}, Vals (bs.map V.ref) us → us = bs.map Value.ref
  | [], _, h => by cases h; rfl
  | b :: bs, _, h => by
    cases h with
    | cons r t =>
      cases r
      rw [Vals.refs t]; rfl
end
end Low
end
section
set_option Elab.async false
set_option linter.all false
set_option maxRecDepth 100000
set_option maxHeartbeats 2000000
open PySem PySem.Spec PyProof.Rows L2
namespace Sim
section
variable {K : PySem.W.Frag} {G : Gm} {H : Hp} {st : Stt}
/-- the items of lists -/
def lstsOf (st : Stt) : List W → Option (List (List W))
  | [] => some []
  | w :: ws => match lstOf st w, lstsOf st ws with
    | some xs, some r => some (xs :: r)
    | _, _ => none
end
end Sim
end
section
set_option Elab.async false
set_option linter.all false
set_option maxRecDepth 100000
set_option maxHeartbeats 2000000
open PySem PySem.Spec PyProof.Rows L2
namespace Low
/-! repr(nested data) -/
section
variable {K : PySem.W.Frag} {H : Hp}
end
section
variable {X : Cx}
end
end Low
end
section
set_option Elab.async false
set_option linter.all false
set_option maxRecDepth 100000
set_option maxHeartbeats 1000000
open PySem PySem.Spec PyProof.Rows L2
namespace Sim
/-! defs that ask for repr: their promise where no repr is under way -/
structure FnG (P : Program) (w : PySem.World) (K : PySem.W.Frag) (mg : Str → Option Value) (base : Heap) (C : CXT) (k : Nat) (f : Addr) (fd : FuncData) (ps : List Str) (sp : L2.Sp) : Prop where
  len : ∀ vs H Q E, sp vs H Q E → vs.length = ps.length
  go : ∀ (A : Around) (outer : List Env) (s : Shared) (H : Hp) (args : Args) (us : List Value) (vs : List V) (Q : VK) (E : XK), A.guards = some [] → Room k A → Env0 P w K mg base A outer s H → BindsTo s fd args (ps.zip us) → Vals vs us → sp vs H Q E →
    codeAny (model P w) A (.call (.ref f) args) (CR C outer P w H s Q E) s
section
variable {P : Program} {w : PySem.World} {K : PySem.W.Frag} {mg : Str → Option Value} {base : Heap} {C : CXT} {k j : Nat} {f : Addr} {fd : FuncData} {ps : List Str} {sp sp' : L2.Sp}
theorem FnG.of (F : FnOk P w K mg base C k f fd ps sp) : FnG P w K mg base C k f fd ps sp := ⟨F.len, fun A outer s H args us vs Q E _ => F.run A outer s H args us vs Q E⟩
end
end Sim
end
section
set_option Elab.async false
set_option linter.all false
set_option maxRecDepth 100000
set_option maxHeartbeats 1000000
open PySem PySem.Spec PyProof.Rows L2
namespace Sim
section
variable {X : Cx} {Wx : WX} {C : CXT} {k n : Nat} {f : Addr} {fd : FuncData} {ps ks : List Str} {is : List Nat} {sp : L2.Sp} {E : L2.St → XK} {x : Str} {p pos : Pos} {e : Expr} {es : List Expr} {kws : List Keyword} {t : TA} {ds : List Value} {dvs : List V}
end
section
variable {X : Cx} {Wx : WX} {k n : Nat} {f : Addr} {fd : FuncData} {ps ks : List Str} {is : List Nat} {m : FM} {x : Str} {p pos : Pos} {e : Expr} {es : List Expr} {kws : List Keyword} {t : TA} {as : AM}
end
/-! repr(a tuple or a list) -/
section
variable {K : PySem.W.Frag}
end
end Sim
end
section
set_option Elab.async false
set_option linter.all false
set_option maxRecDepth 100000
set_option maxHeartbeats 1000000
open PySem PySem.Spec PyProof.Rows L2
namespace Sim
/-! the end of a law whose own def asks for repr: the outermost caller has no repr under way -/
section
variable {P : Program} {w : PySem.World} {K : PySem.W.Frag} {mg mb : Str → Option Value} {C : CXT} {k : Nat} {fa a : Addr} {fd : FuncData} {x : Str} {sp : L2.Sp} {s₁ : Shared} {vs : List Value} {ns : List Int}
end
end Sim
end
section
set_option Elab.async false
set_option linter.all false
set_option maxRecDepth 100000
set_option maxHeartbeats 1000000
open PySem PySem.Spec PyProof.Rows L2
namespace Sim
/-! how long a repr is, at most -/
end Sim
end
section
set_option Elab.async false
set_option linter.all false
set_option maxRecDepth 100000
set_option maxHeartbeats 2000000
open PySem PySem.Spec PyProof.Rows L2
namespace Low
/-! xs[:c] = ys, ys another list -/
section
variable {prog : Program} {w : PySem.World} {A : Around} {E : Value → Shared → Prop} {s : Shared}
end
section
variable {X : Cx} {Wx : WX}
end
end Low
namespace Sim
section
variable {X : Cx} {Wx : WX}
end
end Sim
end
section
set_option Elab.async false
set_option linter.all false
set_option maxRecDepth 100000
set_option maxHeartbeats 1000000
open PySem PySem.Spec PyProof.Rows L2
namespace Sim
section
variable {X : Cx} {Wx : WX} {K : PySem.W.Frag}
/-! dict(zip(a, b)) that is changed later -/
def eDictZipO (as : AM) : EM := fun ρ st => (as ρ st).bind fun ws st1 => match ws with
  | [.tup xs, .tup ys] => match keysL xs with
    | some ks => .ok (.loc st1.length) (st1 ++ [some (.dic (mergeW [] (ks.zip ys)))])
    | none => .no
  | _ => .no
/-! == of two dicts that are changed, texts in them, when they are equal -/
/-! d[i], d[j] = x, y -/
def subD (o i : EM) (ρ : Ev) (x : W) (st : Stt) (k : Stt → RS) : RS := (o ρ st).toS ρ fun l st2 => (i ρ st2).toS ρ fun q st3 => match putD x ρ l q st3 with
  | .nx _ s => k s
  | _ => .no
def sSet2D (e o i o2 i2 : EM) : SM := fun ρ st => (e ρ st).toS ρ fun w st1 => match w with
  | .tup [x, y] => subD o i ρ x st1 fun s => subD o2 i2 ρ y s fun s => .nx ρ s
  | _ => .no
/-! worked out -/
variable {ρ : Ev} {st : Stt}
def dzoK (r : Rs (List W)) : Rs W := match r with
  | .ok ws s => match ws with
    | [.tup xs, .tup ys] => match keysL xs with
      | some ks => .ok (.loc s.length) (s ++ [some (.dic (mergeW [] (ks.zip ys)))])
      | none => .no
    | _ => .no
  | .er y s => .er y s
  | .no => .no
@[simp] theorem ev_dictZipO (as : AM) : eDictZipO as ρ st = dzoK (as ρ st) := by
  unfold eDictZipO dzoK
  cases as ρ st <;> rfl
def s2K (o i o2 i2 : EM) (ρ : Ev) (r : Rs W) : RS := match r with
  | .ok w s => match w with
    | .tup [x, y] => subD o i ρ x s fun s => subD o2 i2 ρ y s fun s => .nx ρ s
    | _ => .no
  | .er y s => .er y ρ s
  | .no => .no
@[simp] theorem ev_set2D (e o i o2 i2 : EM) : sSet2D e o i o2 i2 ρ st = s2K o i o2 i2 ρ (e ρ st) := by
  unfold sSet2D s2K
  cases e ρ st <;> rfl
end
end Sim
end
section
set_option Elab.async false
set_option linter.all false
set_option maxRecDepth 100000
set_option maxHeartbeats 1000000
open PySem PySem.Spec PyProof.Rows L2
namespace Sim
/-! exceptions of own classes without anything in them -/
structure ExcF (K : PySem.W.Frag) (mg : Str → Option Value) (x : Str) : Prop where
  g : mg x = some (.ref (gaX K x))
  q : PySem.W.excIn K (gaX K x) [.type "ValueError", .type "Exception", .type "BaseException", .type "object"] "ValueError.__new__" = true
  k : PySem.W.keepIn K (.ref (gaX K x)) = true
  sub : PySem.W.subIn K (.ref (gaX K x)) (.type "BaseException") = some true
  ty : PySem.W.typeIn K (.ref (gaX K x)) = some (.type "type")
  self : PySem.W.exmOne K (.ref (gaX K x)) (.ref (gaX K x)) = some true
section
variable {X : Cx} {Wx : WX}
/-- raise X() -/
def sRaise (x : Str) : SM := fun ρ st => .er ⟨x, []⟩ ρ st
/-! worked out -/
variable {ρ : Ev} {st : Stt}
@[simp] theorem ev_raise (x : Str) : sRaise x ρ st = .er ⟨x, []⟩ ρ st := id rfl
end
end Sim
end
section
set_option Elab.async false
set_option linter.all false
set_option maxRecDepth 100000
set_option maxHeartbeats 1000000
open PySem PySem.Spec PyProof.Rows L2
namespace Sim
section
variable {K : PySem.W.Frag} {st : Stt}
end
end Sim
end
section
set_option Elab.async false
set_option linter.all false
set_option maxRecDepth 100000
set_option maxHeartbeats 2000000
open PySem PySem.Spec PyProof.Rows L2
namespace Sim
/-! an expression that reads a changed dict, which is locked meanwhile -/
mutual
/-- no dict with just these keys in it -/
def nkW (ks : List Key) : W → Bool
  | .tup ws => nkWs ks ws
  | .prs ws => nkWs ks ws
  | .lst ws => nkWs ks ws
  | .scr ws => nkWs ks ws
  | .dic kws => decide (kws.map (·.1) ≠ ks) && nkWk ks kws
  | .ext _ _ => false
  | _ => true
def nkWs (ks : List Key) : List W → Bool
  | [] => true
  | w :: ws => nkW ks w && nkWs ks ws
def nkWk (ks : List Key) : List (Key × W) → Bool
  | [] => true
  | (_, w) :: ws => nkW ks w && nkWk ks ws
end
def nkO (ks : List Key) : Ob → Bool
  | .lst ws => nkWs ks ws
  | .dic kws => nkWk ks kws
  | .dn _ _ kws => nkWs ks (kws.map (·.2))
  | .ins _ fs => nkWs ks (fs.map (·.2))
mutual
theorem nk_key (ks : List Key) : ∀ k : NestedKey, nkW ks (keyW k) = true
  | .none => by simp only [keyW, nkW]
  | .num i => by simp only [keyW, nkW]
  | .text x => by simp only [keyW, nkW]
  | .tup us => by simp only [keyW, nkW]; exact nk_keys ks us
theorem nk_keys (ks : List Key) : ∀ us : List NestedKey, nkWs ks (keyWs us) = true
  | [] => by rw [keyWs, nkWs]
  | k :: us => by rw [keyWs, nkWs, nk_key ks k, nk_keys ks us]; rfl
end
theorem nk_keyM (ks : List Key) {β : Type} : ∀ us : List (NestedKey × β), nkWs ks (us.map fun p => keyW p.1) = true
  | [] => by rw [List.map_nil, nkWs]
  | k :: us => by rw [List.map_cons, nkWs, nk_key ks k.1, nk_keyM ks us]; rfl
theorem keys_of_repK {K : PySem.W.Frag} {G : Gm} {H : Hp} : ∀ {kws : List (Key × W)} {kvs : List (Key × V)}, RepK K G H kws kvs → kws.map (·.1) = kvs.map (·.1)
  | _, _, .nil => rfl
  | _, _, .cons a b => by rw [List.map_cons, List.map_cons, keys_of_repK b]
structure Un (ks : List Key) (G : Gm) (H : Hp) (G' : Gm) (H' : Hp) : Prop where
  ls : ∀ (i : Nat) (a : Addr), G.ls[i]? = some a → G'.ls[i]? = some a
  ft : ∀ (a : Addr) (u : List V), Fz G H a (.tup u) → Fz G' H' a (.tup u)
  fl : ∀ (a : Addr) (u : List V), Fz G H a (.lst u) → Fz G' H' a (.lst u)
  fx : ∀ (a : Addr) (u : List V), Fx G H a u → Fx G' H' a u
  fe : ∀ (a : Addr) (u : List V), Fe G H a (.lst u) → Fe G' H' a (.lst u)
  fd : ∀ (a : Addr) (u : List (Key × V)), u.map (·.1) ≠ ks → Fz G H a (.dK u) → Fz G' H' a (.dK u)
section
variable {ks : List Key} {K : PySem.W.Frag} {G G' : Gm} {H H' : Hp}
mutual
theorem RepV.un (x : Un ks G H G' H') : ∀ {w : W} {v : V}, nkW ks w = true → RepV K G H w v → RepV K G' H' w v
  | _, _, _, .non => .non
  | _, _, _, .bl b => .bl b
  | _, _, _, .int i => .int i
  | _, _, _, .str s => .str s
  | _, _, _, .ty n => .ty n
  | _, _, _, .obj a => .obj a
  | _, _, n, .tup h r => .tup (h.imp_left (x.fx _ _)) (RepL.un x (by rw [nkW] at n; exact n) r)
  | _, _, n, .prs h r => .prs (x.ft _ _ h) (RepL.un x (by rw [nkW] at n; exact n) r)
  | _, _, n, .lst h r => .lst (x.fe _ _ h) (RepL.un x (by rw [nkW] at n; exact n) r)
  | _, _, n, .scr h r => .scr (h.imp_left (x.fl _ _)) (RepL.un x (by rw [nkW] at n; exact n) r)
  | _, _, n, .dic h r => by
    rw [nkW, Bool.and_eq_true, decide_eq_true_eq] at n
    exact .dic (x.fd _ _ (by rw [← keys_of_repK r]; exact n.1) h) (RepK.un x n.2 r)
  | _, _, _, .loc e => .loc (x.ls _ _ e)
  | _, _, n, .ext _ => by rw [nkW] at n; cases n
theorem RepL.un (x : Un ks G H G' H') : ∀ {ws : List W} {vs : List V}, nkWs ks ws = true → RepL K G H ws vs → RepL K G' H' ws vs
  | _, _, _, .nil => .nil
  | _, _, n, .cons h r => by
    rw [nkWs, Bool.and_eq_true] at n
    exact .cons (RepV.un x n.1 h) (RepL.un x n.2 r)
theorem RepK.un (x : Un ks G H G' H') : ∀ {ws : List (Key × W)} {vs : List (Key × V)}, nkWk ks ws = true → RepK K G H ws vs → RepK K G' H' ws vs
  | _, _, _, .nil => .nil
  | _, _, n, .cons h r => by
    rw [nkWk, Bool.and_eq_true] at n
    exact .cons (RepV.un x n.1 h) (RepK.un x n.2 r)
end
theorem RepO.un (x : Un ks G H G' H') {a : Addr} {ob : Ob} (n : nkO ks ob = true) (na : H' a = H a) (h : RepO K G H a ob) : RepO K G' H' a ob := by
  cases ob with
  | lst ws => obtain ⟨vs, e, r⟩ := h; exact ⟨vs, na.trans e, r.un x n⟩
  | dic ws => obtain ⟨vs, e, r⟩ := h; exact ⟨vs, na.trans e, r.un x n⟩
  | dn P w ws => obtain ⟨vs, e, q, d, r1, r2⟩ := h; exact ⟨vs, na.trans e, q, d, r1.un x (nk_keyM ks ws), r2.un x n⟩
  | ins C fs => obtain ⟨dx, vs, e, q, r⟩ := h; exact ⟨dx, vs, na.trans e, q, r.un x n⟩
end
section
variable {X : Cx} {Wx : WX} {K : PySem.W.Frag}
end
end Sim
end
section
set_option Elab.async false
set_option linter.all false
set_option maxRecDepth 100000
set_option maxHeartbeats 2000000
namespace Low
open PySem PySem.Spec PyProof.Rows L2
/-! min(xs), a list of tuples of texts -/
section
variable {X : Cx}
end
end Low
end
section
set_option Elab.async false
set_option linter.all false
set_option maxRecDepth 100000
set_option maxHeartbeats 1000000
open PySem PySem.Spec PyProof.Rows L2
namespace Sim
/-! min(x) of tuples of texts -/
section
variable {K : PySem.W.Frag} {st : Stt}
end
end Sim
end
section
set_option Elab.async false
set_option linter.all false
set_option maxRecDepth 100000
set_option maxHeartbeats 2000000
open PySem PySem.Spec PyProof.Rows L2
/-! o[i] += e, o a list of tuples, e a tuple -/
namespace Low
section
variable {prog : Program} {w : World} {A : Around} {E : Value → Shared → Prop} {s : Shared}
end
end Low
namespace Sim
section
variable {X : Cx} {K : PySem.W.Frag} {Wx : WX}
end
end Sim
end
section
set_option Elab.async false
set_option linter.all false
set_option maxRecDepth 100000
set_option maxHeartbeats 2000000
open PySem PySem.Spec PyProof.Rows L2
/-! xs.extend(t), t a tuple -/
namespace Low
open AutoSeq1
end Low
namespace Sim
section
variable {X : Cx} {K : PySem.W.Frag} {Wx : WX}
end
end Sim
end
section
set_option Elab.async false
set_option linter.all false
set_option maxRecDepth 100000
set_option maxHeartbeats 2000000
namespace Low
open PySem PySem.Spec PyProof.Rows L2
section
variable {X : Cx}
end
end Low
end
section
set_option Elab.async false
set_option linter.all false
set_option maxRecDepth 100000
set_option maxHeartbeats 2000000
open PySem PySem.Spec PyProof.Rows L2
namespace Sim
/-! max(x) of texts -/
section
variable {X : Cx} {Wx : WX} {K : PySem.W.Frag} {st : Stt}
end
section
variable {ρ : Ev} {st : Stt}
end
end Sim
end
section
set_option Elab.async false
set_option linter.all false
set_option maxRecDepth 100000
set_option maxHeartbeats 2000000
/-! a list walked, a tuple unpacked, where an exception is handled -/
namespace Hx
open PySem PySem.Spec PyProof.Rows HotX
section
variable {prog : Program} {w : World} {A : Around} {E : Value → Shared → Prop} {s : Shared}
end
end Hx
namespace L2
open PySem PySem.Spec PyProof.Rows L2H
section
variable {X : Cx} {pos : Pos}
end
end L2
end
section
set_option Elab.async false
set_option linter.all false
set_option maxRecDepth 100000
set_option maxHeartbeats 4000000
/-! a list comprehension where an exception is handled -/
namespace L2
open PySem PySem.Spec PyProof.Rows L2H
section
variable {X : Cx} {pins : List (Addr × Obj)} {σ : St} {H : Hp} {s : Shared}
end
section
variable {X : Cx} {p : Addr × Obj} {elt tg iter : Expr} {ifs : List Expr} {scope : Scope} {own : List (Str × Nat)} {pos : Pos} {wi : TI} {g : TG} {tt : TT} {te : TE}
end
end L2
end
section
set_option Elab.async false
set_option linter.all false
set_option maxRecDepth 100000
set_option maxHeartbeats 4000000
/-! an exception that is handled, handed to a def: isinstance, comprehensions there, except X as e: y = f(e) -/
namespace L2
open PySem PySem.Spec PyProof.Rows L2H
section
variable {X : Cx}
end
end L2
namespace Sim
open PySem PySem.Spec PyProof.Rows L2 L2H
/-! what the classes say -/
structure XTab (K : PySem.W.Frag) (mg : Str → Option Value) (cs ds : List Str) : Prop where
  one : ∀ c ∈ cs, ExcC K (gaX K c)
  val : ∀ c ∈ cs, PySem.W.kitOne K (.ref (gaX K c)) (.type "ValueError") = some true
  is : ∀ c ∈ cs, ∀ d ∈ ds, PySem.W.kitOne K (.ref (gaX K c)) (.ref (gaX K d)) = some (c == d)
  ex : ∀ c ∈ cs, PySem.W.exmOne K (.ref (gaX K c)) (.ref (gaX K "TellError")) = some true
  g : ∀ d ∈ ds, mg d = some (.ref (gaX K d))
  gt : mg "TellError" = some (.ref (gaX K "TellError"))
/-- where an exception of class c is handled -/
structure HX (X : Cx) (p : Addr × Obj) (c : Str) : Prop where
  mem : p ∈ X.pn
  hot : Hot1 X.A p
  cls : Zc (.ref (gaX X.K c)) none p.2
  fld : ∃ vs, p.2.data = .fields vs
theorem RoomH.units {k : Nat} {A : Around} (r : RoomH k A) : A.units + 64 < cLine := by have := r.un; omega
section
variable {X : Cx} {Wx : WX} {p : Addr × Obj} {c : Str} {cs ds : List Str}
/-- isinstance(e, ..) by the class -/
def eIsX (a : Addr) (b : Bool) (m : EM) : EM := fun ρ st => (m ρ st).bind fun w st1 => match w with
  | .obj a' => if a' = a then .ok (.bl b) st1 else .no
  | _ => .no
end
/-! what a def promises there -/
structure FnX (P : Program) (w : PySem.World) (K : PySem.W.Frag) (mg : Str → Option Value) (base : Heap) (k : Nat) (f : Addr) (fd : FuncData) (ps : List Str) (cs : List Str) (m : Str → Addr → FM) : Prop where
  run : ∀ (c : Str) (p : Addr × Obj) (A : Around) (outer : List Env) (s : Shared) (H : Hp) (args : Args) (Q : VK), c ∈ cs → RoomH k A → Hot1 A p → PinOk outer H s p → Zc (.ref (gaX K c)) none p.2 → (∃ vs, p.2.data = .fields vs) → Env0 P w K mg base A outer s H → BindsTo s fd args (ps.zip [.ref p.1]) →
    spF K 1 (m c p.1) [.ref p.1] H Q (fun _ _ _ => False) → codeAny (model P w) A (.call (.ref f) args) (CR (L2N.CX P w) outer P w H s Q (fun _ _ _ => False)) s
section
variable {X : Cx} {Wx : WX} {p : Addr × Obj} {c : Str} {cs : List Str} {k : Nat} {f : Addr} {fd : FuncData} {ps : List Str} {m : Str → Addr → FM}
end
section
variable {ρ : Ev} {st : Stt}
def isxK (a : Addr) (b : Bool) (r : Rs W) : Rs W := match r with | .ok (.obj a') s => if a' = a then .ok (.bl b) s else .no | .er x s => .er x s | _ => .no
@[simp] theorem isxK_ok (a : Addr) (b : Bool) : isxK a b (.ok (.obj a) st) = .ok (.bl b) st := by
  show (if a = a then Rs.ok (W.bl b) st else Rs.no) = _
  exact if_pos rfl
@[simp] theorem ev_isX (a : Addr) (b : Bool) (m : EM) : eIsX a b m ρ st = isxK a b (m ρ st) := by
  unfold eIsX isxK
  cases m ρ st with
  | ok w s => cases w <;> rfl
  | er x s => rfl
  | no => rfl
end
end Sim
end
section
set_option Elab.async false
set_option linter.all false
set_option maxRecDepth 100000
set_option maxHeartbeats 2000000
open PySem PySem.Spec PyProof.Rows L2
namespace Low
/-! repr(nested data with dicts in it) -/
def keyD : Key → PyData
  | .inl i => .int i
  | .inr x => .str x
mutual
inductive Dr (K : PySem.W.Frag) (H : Hp) : V → PyData → Prop
  | non : Dr K H .non .none
  | bl (b : Bool) : Dr K H (.bl b) (.bool b)
  | int (i : Int) : Dr K H (.int i) (.int i)
  | str (x : Str) : Dr K H (.str x) (.str x)
  | lst {a : Addr} {xs : List V} {ds : List PyData} : SqL K H a xs → DrAll K H xs ds → Dr K H (.ref a) (.list ds)
  | tup {a : Addr} {xs : List V} {ds : List PyData} : SqT K H a xs → DrAll K H xs ds → Dr K H (.ref a) (.tuple ds)
  | dic {a : Addr} {kvs : List (Key × V)} {ds : List PyData} : Rd H a (.dK kvs) → DrAll K H (kvs.map (·.2)) ds → Dr K H (.ref a) (.dict ((kvs.map (·.1)).map keyD |>.zip ds))
inductive DrAll (K : PySem.W.Frag) (H : Hp) : List V → List PyData → Prop
  | nil : DrAll K H [] []
  | cons {v : V} {vs : List V} {d : PyData} {ds : List PyData} : Dr K H v d → DrAll K H vs ds → DrAll K H (v :: vs) (d :: ds)
end
section
variable {P : Program} {w : PySem.World} {h : Heap}
end
section
variable {X : Cx} {pins : List (Addr × Obj)} {σ : L2.St} {H : Hp} {s : Shared}
end
end Low
end
section
set_option Elab.async false
set_option linter.all false
set_option maxRecDepth 100000
set_option maxHeartbeats 1000000
open PySem PySem.Spec PyProof.Rows L2
namespace Sim
/-! data with dicts in it -/
section
variable {K : PySem.W.Frag} {G : Gm} {H : Hp}
end
section
variable {K : PySem.W.Frag}
end
end Sim
end
section
set_option Elab.async false
set_option linter.all false
set_option maxRecDepth 100000
set_option maxHeartbeats 1000000
open PySem PySem.Spec PyProof.Rows L2 L2H
namespace Sim
/-! comprehensions where an exception is handled -/
def eOnlyL (m : EM) : EM := fun ρ st => (m ρ st).bind fun w st1 => match lstOf st1 w with
  | some _ => .ok w st1
  | none => .no
structure CIH (X : Cx) (Wx : WX) (tg : Expr) (e : Expr) (wi : TI) (im : IM) : Prop where
  pe : PIH X tg e wi
  sem : SemI X.K Wx wi im
section
variable {X : Cx} {Wx : WX} {p : Addr × Obj} {tg : Expr}
end
section
variable {X : Cx} {p : Addr × Obj} {scope : Scope}
end
section
variable {ρ : Ev} {st : Stt}
def onlyK (r : Rs W) : Rs W := match r with | .ok w s => (match lstOf s w with | some _ => .ok w s | none => .no) | .er x s => .er x s | .no => .no
theorem onlyK_ok {w : W} {ws : List W} (h : lstOf st w = some ws) : onlyK (.ok w st) = .ok w st := by
  unfold onlyK
  dsimp only
  rw [h]
@[simp] theorem onlyK_lst (ws : List W) : onlyK (.ok (.lst ws) st) = .ok (.lst ws) st := onlyK_ok rfl
@[simp] theorem ev_onlyL (m : EM) : eOnlyL m ρ st = onlyK (m ρ st) := by
  unfold eOnlyL onlyK
  cases m ρ st <;> rfl
end
end Sim
end
section
set_option Elab.async false
set_option linter.all false
set_option maxRecDepth 100000
set_option maxHeartbeats 1000000
open PySem PySem.Spec PyProof.Rows L2
/-! tuple * int, str.join, str.upper, {} -/
namespace Low
end Low
namespace Sim
section
variable {K : PySem.W.Frag} {G : Gm} {H : Hp}
end
section
variable {X : Cx} {Wx : WX}
/-- {} that is not changed -/
def eDicE : EM := fun _ st => .ok (.dic []) st
@[simp] theorem ev_dicE (ρ : Ev) (st : Stt) : eDicE ρ st = .ok (.dic []) st := id rfl
/-- a text's method with one argument, with none -/
def eStr (m : EM) : EM := fun ρ st => (m ρ st).bind fun x st1 => match x with
  | .str a => .ok (.str a) st1
  | _ => .no
def upF (a : Str) : Option W := if a.length ≤ 1000 then some (.str (Txt.upper a)) else none
def eUpper (mo : EM) : EM := fun ρ st => (mo ρ st).bind fun x st1 => match x with
    | .str a => (match upF a with | some w => .ok w st1 | none => .no)
    | _ => .no
end
section
variable {ρ : Ev} {st : Stt}
def strK (r : Rs W) : Rs W := match r with | .ok (.str a) s => .ok (.str a) s | .er x s => .er x s | _ => .no
@[simp] theorem strK_ok (a : Str) : strK (.ok (.str a) st) = .ok (.str a) st := id rfl
@[simp] theorem ev_str (m : EM) : eStr m ρ st = strK (m ρ st) := by
  unfold eStr strK
  cases m ρ st with
  | ok w s => cases w <;> rfl
  | er x s => rfl
  | no => rfl
def upK (r : Rs W) : Rs W := match r with | .ok (.str a) s => (match upF a with | some w => .ok w s | none => .no) | .er x s => .er x s | _ => .no
@[simp] theorem ev_upper (m : EM) : eUpper m ρ st = upK (m ρ st) := by
  unfold eUpper upK
  cases m ρ st with
  | ok w s => cases w <;> rfl
  | er x s => rfl
  | no => rfl
end
end Sim
end
section
set_option Elab.async false
set_option linter.all false
set_option maxRecDepth 100000
set_option maxHeartbeats 4000000
/-! a set of whole numbers by a comprehension with two fors -/
namespace L2
open PySem PySem.Spec PyProof.Rows
section
variable {X : Cx}
end
section
variable {prog : Program} {w : World} {A : Around} {R : Result → Shared → Prop} {s : Shared} {elt t0 i0 t1 i1 : Expr} {ifs0 ifs1 : List Expr} {scope : Scope} {pos : Pos} {it acc : Value} {env : Env}
end

section
variable {X : Cx}
end
end L2
end
section
set_option Elab.async false
set_option linter.all false
set_option maxRecDepth 100000
set_option maxHeartbeats 2000000
open PySem PySem.Spec PyProof.Rows L2
namespace Sim
/-! a set of whole numbers by a comprehension with two fors, sorted -/
section
variable {wd : PySem.World} {K : PySem.W.Frag} {Wx : WX} {G1 : Gm} {H1 : Hp} {D : Addr}
/-- the new set D, hidden, holds what is made so far -/
structure MkS (wd : PySem.World) (K : PySem.W.Frag) (G1 : Gm) (H1 : Hp) (D : Addr) (ls : List Addr) (st : Stt) (aw : List W) (H : Hp) : Prop where
  x : Ext G1 H1 (G1.to ls st) H
  w : World K ((G1.to ls st).hide D) H
  hD : ∃ (S : Int → Bool) (n : Nat), H D = some (SetO wd D S n) ∧ ∃ L : List Int, L.Nodup ∧ L.length = n ∧ (∀ k, k ∈ L ↔ W.int k ∈ aw) ∧ ∀ k, S k = true ↔ k ∈ L
  le : Less G1 H1 ((G1.to ls st).hide D) H
theorem MkS.step {ls ls' : List Addr} {st st' : Stt} {aw : List W} {H H' : Hp} (w1 : World K G1 H1) (hn : H1 D = none) (k : MkS wd K G1 H1 D ls st aw H) (y : Ext ((G1.to ls st).hide D) H ((G1.to ls' st').hide D) H') (w' : World K ((G1.to ls' st').hide D) H') : MkS wd K G1 H1 D ls' st' aw H' := by
  obtain ⟨S, n, hS, r⟩ := k.hD
  have hD' : H' D = some (SetO wd D S n) := (y.hidk D List.mem_cons_self).trans hS
  refine ⟨?_, w', ⟨S, n, hD', r⟩, less_tr k.le y.less⟩
  have q := Ext.under (o := SetO wd D S n) w1 hn k.x y
  have : upd H' D (SetO wd D S n) = H' := by
    funext b
    by_cases e : b = D
    · subst e; rw [upd_same]; exact hD'.symm
    · rw [upd_ne e]
  rwa [this] at q
theorem MkS.push {ls : List Addr} {st : Stt} {aw : List W} {H : Hp} {c : Int} {S : Int → Bool} {n : Nat} {L : List Int} (w1 : World K G1 H1) (hn : H1 D = none) (k : MkS wd K G1 H1 D ls st aw H) (hS : H D = some (SetO wd D S n)) (hL : L.Nodup) (hl : L.length = n) (hm : ∀ k, k ∈ L ↔ W.int k ∈ aw) (hSm : ∀ k, S k = true ↔ k ∈ L) :
    MkS wd K G1 H1 D ls st (aw ++ [.int c]) (upd H D (SetO wd D (fun j => S j || decide (j = c)) (if S c = true then n else n + 1))) := by
  have l2 := less_hidupd (G := (G1.to ls st).hide D) (H := H) (o := SetO wd D (fun j => S j || decide (j = c)) (if S c = true then n else n + 1)) List.mem_cons_self
  refine ⟨Ext.under w1 hn k.x (Ext.refl _ _), k.w.hidupd List.mem_cons_self, ⟨_, _, upd_same, ?_⟩, less_tr k.le l2⟩
  by_cases hc : S c = true
  · have hcL := (hSm c).mp hc
    refine ⟨L, hL, by rw [if_pos hc]; exact hl, fun j => ?_, fun j => ?_⟩
    · rw [hm j, List.mem_append, List.mem_singleton]
      constructor
      · exact .inl
      · rintro (z | z)
        · exact z
        · injection z with z; rw [z]; exact (hm c).mp hcL
    · rw [Bool.or_eq_true, decide_eq_true_eq, hSm j]
      constructor
      · rintro (z | z)
        · exact z
        · rw [z]; exact hcL
      · exact .inl
  · have hcL : c ∉ L := fun z => hc ((hSm c).mpr z)
    refine ⟨c :: L, List.nodup_cons.mpr ⟨hcL, hL⟩, by rw [if_neg hc, List.length_cons, hl], fun j => ?_, fun j => ?_⟩
    · rw [List.mem_cons, hm j, List.mem_append, List.mem_singleton]
      constructor
      · rintro (z | z)
        · exact .inr (by rw [z])
        · exact .inl z
      · rintro (z | z)
        · exact .inr z
        · injection z with z; exact .inl z
    · rw [Bool.or_eq_true, decide_eq_true_eq, hSm j, List.mem_cons]
      exact Or.comm
def nubZ : List Int → List Int
  | [] => []
  | x :: r => if x ∈ nubZ r then nubZ r else x :: nubZ r
def setZ (ks : List Int) : List Int := sortI (nubZ ks)
variable {X : Cx}
end
end Sim
end
section
set_option Elab.async false
set_option linter.all false
set_option maxRecDepth 100000
set_option maxHeartbeats 4000000
open PySem PySem.Spec PyProof.Rows L2
namespace Low
/-! set(list of whole numbers) -/
/-- the set of the numbers ys -/
def SetL (w : World) (h : Heap) (a : Addr) (ys : List Int) : Prop := ∃ (S : Int → Bool) (n : Nat) (L : List Int), SetR w h a S n ∧ L.Nodup ∧ L.length = n ∧ (∀ k, k ∈ L ↔ k ∈ ys) ∧ ∀ k, S k = true ↔ k ∈ L
theorem SetL.at {w : World} {h h' : Heap} {a : Addr} {ys : List Int} (x : SetL w h a ys) (k : ∀ o, h.get? a = some o → h'.get? a = some o) : SetL w h' a ys := by
  obtain ⟨S, n, L, R, q⟩ := x
  exact ⟨S, n, L, R.at k, q⟩
section
variable {prog : Program} {w : World} {A : Around} {E : Value → Shared → Prop} {s : Shared}
end
section
variable {prog : Program} {w : World} {A : Around} {R : Result → Shared → Prop} {I : Addr} {fp wr : List Addr} {G : Array GenState → Array GenState → Prop} {n : Nat} {P : Nat → Value → Prop} {St : Nat → Shared → Prop}
end
section
variable {prog : Program} {w : World} {A : Around} {E : Value → Shared → Prop} {s : Shared}
end
end Low
end
section
set_option Elab.async false
set_option linter.all false
set_option maxRecDepth 100000
set_option maxHeartbeats 1000000
open PySem PySem.Spec PyProof.Rows L2
namespace Low
end Low
namespace Sim
section
variable {X : Cx} {Wx : WX}
/-- sorted(set(a list of whole numbers)) -/
def eSortSet (m : EM) : EM := fun ρ st => (m ρ st).bind fun w st1 => match lstOf st1 w with
  | some ws => match intsOf ws with
    | some ks => if ks.length ≤ 4000 ∧ (nubZ ks).length < 64 then .ok (.lst ((setZ ks).map .int)) st1 else .no
    | none => .no
  | none => .no
end
section
variable {ρ : Ev} {st : Stt}
def ssK (r : Rs W) : Rs W := match r with
  | .ok w s => (match lstOf s w with
    | some ws => (match intsOf ws with
      | some ks => if ks.length ≤ 4000 ∧ (nubZ ks).length < 64 then .ok (.lst ((setZ ks).map .int)) s else .no
      | none => .no)
    | none => .no)
  | .er x s => .er x s
  | .no => .no
@[simp] theorem ev_sortSet (m : EM) : eSortSet m ρ st = ssK (m ρ st) := by
  unfold eSortSet ssK
  cases m ρ st <;> rfl
end
/-! the same, given back to be changed -/
section
variable {wd : PySem.World} {K : PySem.W.Frag} {Wx : WX}
variable {X : Cx}
end
end Sim
end
section
set_option Elab.async false
set_option linter.all false
set_option maxRecDepth 100000
set_option maxHeartbeats 1000000
open PySem PySem.Spec PyProof.Rows L2
namespace Sim
/-! repr of a truth -/
end Sim
end
section
set_option Elab.async false
set_option linter.all false
set_option maxRecDepth 100000
set_option maxHeartbeats 2000000
open PySem PySem.Spec PyProof.Rows L2
namespace Sim
/-! [f, g, ..][i](e, ..): defs in a display, one of them called -/
section
variable {X : Cx} {Wx : WX} {K : PySem.W.Frag}
structure FnAt (X : Cx) (n : Nat) (x : Str) (a : Addr) (m : FM) : Prop where
  ex : ∃ (k : Nat) (fd : FuncData) (ps : List Str), FnOk X.prog X.w X.K X.mg X.base (L2N.CX X.prog X.w) k a fd ps (spF X.K n m) ∧ Room k X.A ∧ Binds X.K fd ps []
  g : Gl X x
  hm : X.mg x = some (.ref a)
  kp : PySem.W.keepIn X.K (.ref a) = true
  hd : (x == ("__debug__" : Str)) = false
inductive Fns (X : Cx) (n : Nat) : List Expr → List (Addr × FM) → Prop
  | nil : Fns X n [] []
  | cons {x : Str} {p : Pos} {es : List Expr} {tab : List (Addr × FM)} {a : Addr} {m : FM} (h : FnAt X n x a m) (r : Fns X n es tab) (hs : starEach (.Name x p :: es) X.env = (false, eval (.Name x p) X.env) :: starEach es X.env) : Fns X n (.Name x p :: es) ((a, m) :: tab)
theorem Fns.at {n : Nat} : ∀ {es : List Expr} {tab : List (Addr × FM)}, Fns X n es tab → ∀ {a : Addr} {m : FM}, (a, m) ∈ tab → ∃ x, FnAt X n x a m
  | _, _, .nil, _, _, hm => absurd hm List.not_mem_nil
  | _, _, .cons h r _, _, _, hm => by
    rcases List.mem_cons.mp hm with e | hm
    · cases e; exact ⟨_, h⟩
    · exact r.at hm
def eCallIx (ms : List FM) (ix : EM) (as : AM) : EM := fun ρ st => (ix ρ st).bind fun k st1 => match k with
  | .int i => match atI ms i with
    | some m => (as ρ st1).bind fun ws st2 => m ws st2
    | none => .no
  | _ => .no
end
section
variable {ρ : Ev} {st : Stt}
def cixK2 (r : Rs (List W)) (m : FM) : Rs W := match r with | .ok ws s => m ws s | .er x s => .er x s | .no => .no
def cixW (ms : List FM) (as : AM) (ρ : Ev) (k : W) (s : Stt) : Rs W := match k with
  | .int i => match atI ms i with
    | some m => cixK2 (as ρ s) m
    | none => .no
  | _ => .no
def cixK (ms : List FM) (as : AM) (ρ : Ev) (r : Rs W) : Rs W := match r with | .ok k s => cixW ms as ρ k s | .er x s => .er x s | .no => .no
@[simp] theorem cixK_ok (ms : List FM) (as : AM) (k : W) : cixK ms as ρ (.ok k st) = cixW ms as ρ k st := id rfl
@[simp] theorem cixK2_ok (ws : List W) (m : FM) : cixK2 (.ok ws st) m = m ws st := id rfl
@[simp] theorem ev_callIx (ms : List FM) (ix : EM) (as : AM) : eCallIx ms ix as ρ st = cixK ms as ρ (ix ρ st) := by
  unfold eCallIx cixK
  cases ix ρ st with
  | ok k s =>
    show _ = cixW ms as ρ k s
    unfold cixW
    cases k with
    | int i =>
      show (match atI ms i with | some m => (as ρ s).bind fun ws st2 => m ws st2 | none => .no) = (match atI ms i with | some m => cixK2 (as ρ s) m | none => .no)
      cases atI ms i with
      | none => rfl
      | some m => show (as ρ s).bind _ = cixK2 (as ρ s) m; cases as ρ s <;> rfl
    | _ => rfl
  | er x s => rfl
  | no => rfl
end
end Sim
end
section
set_option Elab.async false
set_option linter.all false
set_option maxRecDepth 100000
set_option maxHeartbeats 1000000
open PySem PySem.Spec PyProof.Rows L2
/-! tuple * int, once too -/
namespace Low
end Low
namespace Low
end Low
namespace Sim
section
variable {K : PySem.W.Frag}
end
end Sim
end
section
set_option Elab.async false
set_option linter.all false
set_option maxRecDepth 100000
set_option maxHeartbeats 1000000
open PySem PySem.Spec PyProof.Rows L2
/-! repr of any plain thing; str of whole numbers and truths; a truth in a sum -/
namespace Low
/-! str -/
/-! a truth in a sum -/
end Low
namespace Sim
section
variable {K : PySem.W.Frag}
end
end Sim
end
section
set_option Elab.async false
set_option linter.all false
set_option maxRecDepth 100000
set_option maxHeartbeats 4000000
/-! a dict by a comprehension whose keys are ints, texts or None; what it has -/
namespace L2
open PySem PySem.Spec PyProof.Rows
section
variable {P : Program} {w : World} {X : Cx}
end
/-! a dict comprehension, whatever kind of dict it makes: o the empty one, put what a key and a value do -/
structure Fam (P : Program) (w : World) where
  o : Addr → HO
  new : ∀ (H : Hp) (h : Heap), sysModules < h.objs.size → ObjOk P w H (h.push { cls := .type "dict", data := .dict #[] }) h.objs.size (o h.objs.size)
  put : Addr → V → V → Hp → (Hp → Prop) → Prop
  set : ∀ {Y : Cx} {pins : List (Addr × Obj)} {σ : L2.St} {H : Hp} {s : Shared} {E : Value → Shared → Prop} {D : Addr} {y z : V} {u r : Value} {Nx : Hp → Prop}, Y.prog = P → Y.w = w → Inv Y pins σ H s → put D y z H Nx → RelV y u → RelV z r →
    wpAny (model Y.prog Y.w) Y.A (dictSet D u r) (fun _ s' => ∃ H', Inv Y pins σ H' s' ∧ Nx H') E s
section
variable {X : Cx}
end
end L2
end
section
set_option Elab.async false
set_option linter.all false
set_option maxRecDepth 100000
set_option maxHeartbeats 4000000
open PySem PySem.Spec PyProof.Rows L2
/-! a dict by a comprehension whose keys may be None: only asked whether it has a key -/
namespace Sim
section
variable {K : PySem.W.Frag} {Wx : WX} {G1 : Gm} {H1 : Hp} {D : Addr} {P : Program} {wd : PySem.World}
variable {X : Cx}
end
/-! y in d, y maybe None; xs.index(y), None among them -/
section
variable {K : PySem.W.Frag} {Wx : WX} {X : Cx} {G : Gm} {H : Hp}
end
end Sim
end
section
set_option Elab.async false
set_option linter.all false
set_option maxRecDepth 100000
set_option maxHeartbeats 4000000
open PySem PySem.Spec PyProof.Rows L2
/-! d.pop(k), k there; dict(pairs) that is changed later -/
namespace Sim
section
variable {K : PySem.W.Frag} {Wx : WX} {X : Cx} {G : Gm} {H : Hp}
def dropW (kvs : List (Key × W)) (k : Key) : List (Key × W) := kvs.filter fun kv => decide (kv.1 ≠ k)
theorem RepK.drop (k : Key) : ∀ {kws : List (Key × W)} {kvs : List (Key × V)}, RepK K G H kws kvs → RepK K G H (dropW kws k) (L2.dropK kvs k)
  | _, _, .nil => .nil
  | _, _, .cons (k := j) a r => by
    have ih := RepK.drop k r
    unfold dropW L2.dropK at *
    rw [List.filter_cons, List.filter_cons]
    by_cases e : j = k
    · have h : decide (j ≠ k) = false := decide_eq_false fun z => z e
      simp only [h, Bool.false_eq_true, if_false]
      exact ih
    · have h : decide (j ≠ k) = true := decide_eq_true e
      simp only [h, if_true]
      exact .cons a ih
def eDicPO (as : AM) : EM := fun ρ st => (as ρ st).bind fun ws st1 => match fDictP st1 ws with
  | some (.dic kws) => .ok (.loc st1.length) (st1 ++ [some (.dic kws)])
  | _ => .no
def dpK (r : Rs (List W)) : Rs W := match r with
  | .ok ws s => (match fDictP s ws with
    | some (.dic kws) => .ok (.loc s.length) (s ++ [some (.dic kws)])
    | _ => .no)
  | .er x s => .er x s
  | .no => .no
@[simp] theorem ev_dicPO {ρ : Ev} {st : Stt} (as : AM) : eDicPO as ρ st = dpK (as ρ st) := by
  unfold eDicPO dpK
  cases as ρ st <;> rfl
end
end Sim
end
section
set_option Elab.async false
set_option linter.all false
set_option maxRecDepth 100000
set_option maxHeartbeats 1000000
open PySem PySem.Spec PyProof.Rows L2
/-! tuple * int, never and less than never too -/
namespace Low
end Low
namespace Sim
section
variable {K : PySem.W.Frag}
end
end Sim
end
section
set_option Elab.async false
set_option linter.all false
set_option maxRecDepth 100000
set_option maxHeartbeats 1000000
open PySem PySem.Spec PyProof.Rows L2
namespace Sim
/-! a tuple of names among a tuple's targets -/
section
variable {X : Cx} {Wx : WX} {K : PySem.W.Frag}
end
@[simp] theorem ev_gconsG (g : GM) (r : List W → Ev → Option Ev) (w : W) (ws : List W) (ρ : Ev) : gmConsG g r (w :: ws) ρ = (g [] w ρ).bind (r ws) := id rfl
end Sim
end
section
set_option Elab.async false
set_option linter.all false
set_option maxRecDepth 100000
set_option maxHeartbeats 1000000
open PySem PySem.Spec PyProof.Rows L2
namespace Sim
/-! xs.clear() -/
section
variable {K : PySem.W.Frag}
end
end Sim
end
section
set_option Elab.async false
set_option linter.all false
set_option maxRecDepth 100000
set_option maxHeartbeats 2000000
open PySem PySem.Spec PyProof.Rows L2
namespace Low
/-! sum(lists, []): whose list it is -/
section
variable {prog : Program} {w : PySem.World} {A : Around} {R : Result → Shared → Prop} {s0 : Shared} {h0 : Heap} {l e S I : Addr} {refs : List Addr} {vss : List (List Value)}
end
section
variable {prog : Program} {w : PySem.World} {A : Around} {E : Value → Shared → Prop} {s : Shared} {l e : Addr} {refs : List Addr} {vss : List (List Value)}
end
section
variable {X : Cx}
end
end Low
end
section
set_option Elab.async false
set_option linter.all false
set_option maxRecDepth 100000
set_option maxHeartbeats 1000000
open PySem PySem.Spec PyProof.Rows L2
namespace Sim
/-! sum(lists, []) that is changed later -/
def eSumO (as : AM) : EM := fun ρ st => (as ρ st).bind fun ws st1 => match ws with
  | [x, .loc n] => match st1[n]? with
    | some (some (.lst [])) => match (lstOf st1 x).bind (lstsOf st1) with
      | some [] => .ok (.loc n) st1
      | some (y :: ys) => if (y :: ys).flatten.length ≤ 100000 then .ok (.loc st1.length) (st1 ++ [some (.lst (y :: ys).flatten)]) else .no
      | none => .no
    | _ => .no
  | _ => .no
section
variable {X : Cx} {Wx : WX} {K : PySem.W.Frag} {G : Gm} {H : Hp}
end
section
variable {ρ : Ev} {st : Stt}
def sumOK (r : Rs (List W)) : Rs W := match r with
  | .ok [x, .loc n] st1 => match st1[n]? with
    | some (some (.lst [])) => match (lstOf st1 x).bind (lstsOf st1) with
      | some [] => .ok (.loc n) st1
      | some (y :: ys) => if (y :: ys).flatten.length ≤ 100000 then .ok (.loc st1.length) (st1 ++ [some (.lst (y :: ys).flatten)]) else .no
      | none => .no
    | _ => .no
  | .ok _ _ => .no
  | .er x s => .er x s
  | .no => .no
@[simp] theorem ev_sumO (as : AM) : eSumO as ρ st = sumOK (as ρ st) := by
  unfold eSumO sumOK
  cases as ρ st with
  | ok ws s =>
    show (match ws with | [x, .loc n] => _ | _ => _) = _
    split
    · rfl
    · rename_i h
      split
      · rename_i x n _ heq
        cases heq
        exact absurd rfl (h x n)
      · rfl
      · rename_i heq; cases heq
      · rename_i heq; cases heq
  | er x s => rfl
  | no => rfl
end
end Sim
end
section
set_option Elab.async false
set_option linter.all false
set_option maxRecDepth 100000
set_option maxHeartbeats 1000000
open PySem PySem.Spec PyProof.Rows L2
namespace Sim
/-! f() -/
section
variable {X : Cx} {Wx : WX} {k : Nat} {f : Addr} {fd : FuncData} {ps : List Str} {m : FM} {x : Str} {p pos : Pos}
end
end Sim
end
section
set_option Elab.async false
set_option linter.all false
set_option maxRecDepth 100000
set_option maxHeartbeats 1000000
open PySem PySem.Spec PyProof.Rows L2
namespace Sim
/-! xs.count(text) -/
section
variable {K : PySem.W.Frag} {X : Cx} {G : Gm} {H : Hp}
end
end Sim
end
section
set_option Elab.async false
set_option linter.all false
set_option maxRecDepth 100000
set_option maxHeartbeats 600000
/-! dicts whose keys are tuples of plain things, at any depth -/
namespace L2
open PySem PySem.Spec PyProof.Rows Sim
mutual
/-- the value is the key -/
inductive KeyV (K : PySem.W.Frag) (H : Hp) : NestedKey → V → Prop
  | none : KeyV K H .none .non
  | num (i : Int) : KeyV K H (.num i) (.int i)
  | text (x : Str) : KeyV K H (.text x) (.str x)
  | tup {a : Addr} {vs : List V} {ks : List NestedKey} : SqT K H a vs → KeyVs K H ks vs → KeyV K H (.tup ks) (.ref a)
inductive KeyVs (K : PySem.W.Frag) (H : Hp) : List NestedKey → List V → Prop
  | nil : KeyVs K H [] []
  | cons {k : NestedKey} {v : V} {ks : List NestedKey} {vs : List V} : KeyV K H k v → KeyVs K H ks vs → KeyVs K H (k :: ks) (v :: vs)
end
abbrev DNs := List (NestedKey × Addr × V)
def dnGet (kvs : DNs) (k : NestedKey) : Option V := (kvs.find? fun p => decide (p.1 = k)).map (·.2.2)
def dnAt (k : NestedKey) (v : V) (p : NestedKey × Addr × V) : NestedKey × Addr × V := if p.1 = k then (p.1, p.2.1, v) else p
def dnPut (kvs : DNs) (k : NestedKey) (b : Addr) (v : V) : DNs := if (dnGet kvs k).isSome then kvs.map (dnAt k v) else kvs ++ [(k, b, v)]
def DNo (P : Program) (w : World) (kvs : DNs) (a : Addr) : HO := .ext (DNp P w kvs a)
def DNk (K : PySem.W.Frag) (H : Hp) (kvs : DNs) : Prop := ∀ p ∈ kvs, p.1.depth ≤ 8 ∧ KeyV K H p.1 (.ref p.2.1)
abbrev PairDN : NestedKey × Addr × V → NestedKey × Addr × Value → Prop := fun p q => p.1 = q.1 ∧ p.2.1 = q.2.1 ∧ RelV p.2.2 q.2.2
section
variable {P : Program} {w : World} {X : Cx}
theorem PairDN.get (k : NestedKey) : ∀ {kvs : DNs} {xs : List (NestedKey × Addr × Value)}, Paired PairDN kvs xs → (dnGet kvs k = none ∧ atKey xs k = none) ∨ ∃ v p, dnGet kvs k = some v ∧ atKey xs k = some p ∧ RelV v p.2
  | _, _, .nil => .inl ⟨rfl, rfl⟩
  | p :: kvs, q :: xs, .cons h r => by
    by_cases e : p.1 = k
    · have e2 : q.1 = k := h.1.symm.trans e
      refine .inr ⟨p.2.2, q.2, ?_, ?_, h.2.2⟩
      · simp [dnGet, List.find?_cons, e]
      · simp [atKey, List.find?_cons, e2]
    · have e2 : ¬ q.1 = k := fun z => e (h.1.trans z)
      have q1 : dnGet (p :: kvs) k = dnGet kvs k := by simp [dnGet, List.find?_cons, e]
      have q2 : atKey (q :: xs) k = atKey xs k := by simp [atKey, List.find?_cons, e2]
      rw [q1, q2]
      exact PairDN.get k r
theorem PairDN.map {k : NestedKey} {v : V} {u : Value} (rv : RelV v u) : ∀ {kvs : DNs} {xs : List (NestedKey × Addr × Value)}, Paired PairDN kvs xs → Paired PairDN (kvs.map (dnAt k v)) (xs.map (putAt k u))
  | _, _, .nil => .nil
  | p :: kvs, q :: xs, .cons h r => by
    refine .cons ?_ (PairDN.map rv r)
    unfold dnAt putAt
    by_cases e : p.1 = k
    · rw [if_pos e, if_pos (h.1.symm.trans e)]; exact ⟨h.1, h.2.1, rv⟩
    · rw [if_neg e, if_neg (fun z => e (h.1.trans z))]; exact h
theorem PairDN.app {k : NestedKey} {b : Addr} {v : V} {u : Value} (rv : RelV v u) : ∀ {kvs : DNs} {xs : List (NestedKey × Addr × Value)}, Paired PairDN kvs xs → Paired PairDN (kvs ++ [(k, b, v)]) (xs ++ [(k, b, u)])
  | _, _, .nil => .cons ⟨rfl, rfl, rv⟩ .nil
  | p :: kvs, q :: xs, .cons h r => .cons h (PairDN.app rv r)
theorem PairDN.put {k : NestedKey} {b : Addr} {v : V} {u : Value} {kvs : DNs} {xs : List (NestedKey × Addr × Value)} (rv : RelV v u) (r : Paired PairDN kvs xs) : Paired PairDN (dnPut kvs k b v) (storedH xs k b u) := by
  unfold dnPut storedH
  rcases PairDN.get k r with ⟨h1, h2⟩ | ⟨_, _, h1, h2, _⟩
  · rw [h1, h2]; exact PairDN.app rv r
  · rw [h1, h2]; exact PairDN.map rv r
theorem PairDN.len {kvs : DNs} {xs : List (NestedKey × Addr × Value)} (r : Paired PairDN kvs xs) : kvs.length = xs.length := Paired.length r
theorem dnPut_len (kvs : DNs) (k : NestedKey) (b : Addr) (v : V) : (dnPut kvs k b v).length ≤ kvs.length + 1 := by
  unfold dnPut
  split
  · rw [List.length_map]; omega
  · rw [List.length_append, List.length_singleton]; omega
mutual
theorem key_is {pins : List (Addr × Obj)} {σ : L2.St} {H : Hp} {s : Shared} (I : Inv X pins σ H s) : ∀ {k : NestedKey} {v : V} {u : Value}, KeyV X.K H k v → RelV v u → NestedIs s.heap k u
  | _, _, u, .none, r => by cases (show u = Value.none from r); exact .none
  | _, _, u, .num i, r => by obtain ⟨t, e⟩ := (show ∃ t, u = Value.int i t from r); subst e; exact .int i t
  | _, _, u, .text x, r => by obtain ⟨t, e⟩ := (show ∃ t, u = Value.str x t from r); subst e; exact .text x t
  | _, _, u, .tup (a := a) sq ks, r => by
    cases (show u = Value.ref a from r)
    obtain ⟨its, rv, ⟨o, e, c, n, d⟩, _⟩ := I.tuple sq
    exact .tup e c d (keys_are I ks rv)
theorem keys_are {pins : List (Addr × Obj)} {σ : L2.St} {H : Hp} {s : Shared} (I : Inv X pins σ H s) : ∀ {ks : List NestedKey} {vs : List V} {us : List Value}, KeyVs X.K H ks vs → Vals vs us → NestedAll s.heap ks us
  | _, _, _, .nil, r => by cases r; exact .nil
  | _, _, _, .cons a b, r => by cases r with | cons x y => exact .cons (key_is I a x) (keys_are I b y)
end
theorem dn_new {H : Hp} {h : Heap} {a : Addr} {kvs : DNs} (R : DNp P w kvs a h) : ObjOk P w H h a (DNo P w kvs a) := by
  have ⟨_, _, xs, _, o, es, ep, ho, _⟩ := R
  refine ⟨R, ⟨o, ho⟩, fun h1 h2 p k => ?_⟩
  obtain ⟨l, m, xs, e, o, es, ep, ho, r⟩ := p
  exact ⟨l, m, xs, e, o, es, ep, k o ho, r⟩
/-- such a dict, read -/
theorem dn_rd {pins : List (Addr × Obj)} {σ : L2.St} {H : Hp} {s : Shared} {a : Addr} {kvs : DNs} (I : Inv X pins σ H s) (e : Rd H a (DNo X.prog X.w kvs a)) (hk : DNk X.K H kvs) : kvs.length ≤ sizeLine ∧ (a == sysModules) = false ∧
    ∃ xs, Paired PairDN kvs xs ∧ s.heap.DictOfH (nestedKind X.prog X.w) a xs := by
  obtain ⟨⟨l, m, xs, rel, o, es, ep, h1, h2, h3, h4, h5⟩, _⟩ := (show ObjOk X.prog X.w H s.heap a (DNo X.prog X.w kvs a) from e.ok I.hok)
  refine ⟨l, m, xs, rel, o, es, ep, h1, h2, h3, h4, ?_, h5⟩
  have all : ∀ {kvs : DNs} {xs : List (NestedKey × Addr × Value)}, Paired PairDN kvs xs → DNk X.K H kvs → ∀ x ∈ xs, (nestedKind X.prog X.w).is s.heap x.1 x.2.1 := by
    intro kvs xs r hk
    induction r with
    | nil => intro x hx; cases hx
    | @cons p q ps qs h r ih =>
      intro x hx
      rcases List.mem_cons.mp hx with rfl | hx
      · obtain ⟨d, kv⟩ := hk p List.mem_cons_self
        exact ⟨by rw [← h.1, ← h.2.1]; exact key_is I kv rfl, by rw [← h.1]; exact d⟩
      · exact ih (fun y hy => hk y (List.mem_cons_of_mem _ hy)) x hx
  exact all rel hk
/-- the key y of the dict at a, and what stands there -/
def DNAt (X : Cx) (H : Hp) (a : Addr) (y : V) (kvs : DNs) (k : NestedKey) : Prop := Rd H a (DNo X.prog X.w kvs a) ∧ DNk X.K H kvs ∧ k.depth ≤ 8 ∧ KeyV X.K H k y ∧ ∃ b, y = .ref b
theorem room_in1 {A : Around} (h : A.units + 64 < cLine) : (nestedKind P w).room A.in1 := by
  show A.units + 1 + 8 < cLine
  omega
/-- y in d -/
def rInT (X : Cx) (neg : Bool) : R2 := fun y x H Q => ∃ a kvs k, x = .ref a ∧ DNAt X H a y kvs k ∧ Q (.bl (if neg then !(dnGet kvs k).isSome else (dnGet kvs k).isSome)) H
theorem op_notInT (hu : X.A.units + 64 < cLine) : OpR X (compareOp .NotIn) (rInT X true) := by
  intro pins s σ H y x v u Q I ry rx h
  obtain ⟨a, kvs, k, rfl, ⟨e, hk, hd, kv, b, rfl⟩, q⟩ := h
  cases rx
  cases ry
  obtain ⟨l, m, xs, rel, dd⟩ := dn_rd I e hk
  refine wpAny_notIn_heap (room_in1 hu) ⟨key_is I kv rfl, hd⟩ m dd ?_
  have : (atKey xs k).isSome = (dnGet kvs k).isSome := by rcases PairDN.get k rel with ⟨h1, h2⟩ | ⟨_, _, h1, h2, _⟩ <;> rw [h1, h2] <;> rfl
  rw [this]
  exact ⟨.bl _, H, I.tok _, rfl, q⟩
/-- d[y] = v -/
def rSetT (X : Cx) : TSet := fun o i v H Q => ∃ a kvs k b, o = .ref a ∧ i = .ref b ∧ H a = some (DNo X.prog X.w kvs a) ∧ DNAt X H a i kvs k ∧ kvs.length < sizeLine ∧ Q (upd H a (DNo X.prog X.w (dnPut kvs k b v) a))
theorem set_dictT (hu : X.A.units + 64 < cLine) : PSet X (rSetT X) := by
  intro pins s σ H o i v ov iv u Q I ro ri rv h
  obtain ⟨a, kvs, k, b, rfl, rfl, ha, ⟨e, hk, hd, kv, _⟩, hz, q⟩ := h
  cases (show ov = Value.ref a from ro)
  cases (show iv = Value.ref b from ri)
  obtain ⟨l, m, xs, rel, dd⟩ := dn_rd I e hk
  have l1 : kvs.length = xs.length := PairDN.len rel
  refine wpAny_setItem_heap (hsz := by omega) (room_in1 hu) ⟨key_is I kv rfl, hd⟩ dd fun h' dd' hs => ⟨_, ?_, q⟩
  have he : ∃ q, h'.get? a = some q := let ⟨q, _, _, hq, _⟩ := dd'; ⟨q, hq⟩
  refine d_write I (by rw [ha]; exact True.intro) hs he (dn_new ⟨?_, m, _, PairDN.put rv rel, ?_⟩)
  · have := dnPut_len kvs k b v; omega
  · obtain ⟨o', es', ep', g1, g2, g3, g4, _, g6⟩ := dd'
    exact ⟨o', es', ep', g1, g2, g3, g4, g6⟩
theorem dn_empty {H : Hp} (h : Heap) (hb : sysModules < h.objs.size) : ObjOk P w H (h.push { cls := .type "dict", data := .dict #[] }) h.objs.size (DNo P w [] h.objs.size) :=
  dn_new ⟨Nat.zero_le _, beq_eq_false_iff_ne.mpr (Ne.symm (Nat.ne_of_lt hb)), [], .nil, _, #[], 0, Heap.get?_push_size _ rfl, ⟨rfl, rfl, rfl⟩, rfl, rfl, List.nodup_nil⟩
/-- {y: v} -/
def tDisp1 (P : Program) (w : World) (K : PySem.W.Frag) (trs : List (TE × TE)) : TE := fun σ H Q => ∀ p, H p = none → tPairs trs σ (upd H p (DNo P w [] p)) fun ps H2 => ∃ k b v, ps = [(.ref b, v)] ∧ k.depth ≤ 8 ∧ KeyV K H2 k (.ref b) ∧ H2 p = some (DNo P w [] p) ∧ Q (.ref p) (upd H2 p (DNo P w [(k, b, v)] p))
theorem one_line {x : NestedKey × Addr × V} : [x].length ≤ sizeLine := by
  rw [List.length_singleton, sizeLine_eq]
  omega
theorem vv1 {x y : V} {ws : List (Value × Value)} (r : VV [(x, y)] ws) : ∃ u v, ws = [(u, v)] ∧ RelV x u ∧ RelV y v := by
  cases r with
  | cons a b => cases b; exact ⟨_, _, rfl, a⟩
theorem pe_disp1 {pos : Pos} {ke ve : Expr} {trs : List (TE × TE)} (hu : X.A.units + 64 < cLine) (h : PPs X pos [some ke] [ve] trs) : PE X (.Dict [some ke] [ve] pos) (tDisp1 X.prog X.w X.K trs) := by
  refine ⟨fun pins s σ H Q I q => ?_⟩
  have hn := I.hok.fresh (Nat.le_refl s.heap.objs.size)
  have I1 := I.laid (a := s.heap.objs.size) (o := DNo X.prog X.w [] s.heap.objs.size) (h' := s.heap.push { cls := .type "dict", data := .dict #[] }) (t' := s.toks) (fun _ _ q => Heap.get?_push_of_some _ q) (Nat.le_refl _) (dn_empty s.heap I.big)
  have hl := pairTrees_length [some ke] [ve] X.env pos rfl rfl
  have h0 : pairTrees [some ke] [ve] X.env pos ≠ [] := fun z => by rw [z] at hl; cases hl
  rw [arm_eval_Dict, zip_pairTrees [some ke] [ve] X.env pos rfl rfl, dictDisplay_pairs _ h0 (by rw [hl]; simp)]
  refine wpAny_bind (wpAny_standAt (wpAny_bind (wpAny_subDictH (knd := nestedKind X.prog X.w) (Q := fun d s' => wpAny (model X.prog X.w) X.A (pure (Value.ref d)) (EP X pins σ Q) X.xe s') (by show X.A.units + 8 < cLine; omega) (by rw [hl]; simp)
    (thn (h.run pins _ σ _ _ I1 (q _ hn)) fun ws s2 ⟨ps, H2, I2, rel, k, b, v, ep, hd, kv, e, q2⟩ => ?_))))
  subst ep
  obtain ⟨_, m, xs0, r0, dd⟩ := dn_rd I2 (.inl e) (fun p hp => by cases hp)
  cases r0
  obtain ⟨uk, uv, ew, rk, rv⟩ := vv1 rel
  cases (show uk = Value.ref b from rk)
  subst ew
  refine ⟨[(k, b, uv)], ⟨rfl, rfl, ⟨key_is I2 kv rfl, hd⟩, trivial⟩, dd, fun h' tk dd' hs => ?_⟩
  refine wpAny_pure ⟨.ref s.heap.objs.size, _, ?_, rfl, q2⟩
  obtain ⟨o', es', ep', g1, g2, g3, g4, g5, g6⟩ := dd'
  have he : ∃ q, h'.get? s.heap.objs.size = some q := ⟨o', g1⟩
  refine d_write I2 (by rw [e]; exact True.intro) hs he (dn_new ?_)
  exact ⟨one_line, m, [(k, b, uv)], .cons ⟨rfl, rfl, rv⟩ .nil, o', es', ep', g1, g2, g3, g4, g6⟩
end
end L2
end
section
set_option Elab.async false
set_option linter.all false
set_option maxRecDepth 100000
set_option maxHeartbeats 2000000
open PySem PySem.Spec PyProof.Rows L2
namespace Sim
/-! dicts whose keys are tuples, that are changed -/
mutual
def toNK : W → Option NestedKey
  | .non => some .none
  | .int i => some (.num i)
  | .str x => some (.text x)
  | .tup ws => (toNKs ws).map .tup
  | _ => none
def toNKs : List W → Option (List NestedKey)
  | [] => some []
  | w :: ws => match toNK w, toNKs ws with
    | some k, some ks => some (k :: ks)
    | _, _ => none
end
mutual
theorem toNK_key : ∀ k : NestedKey, toNK (keyW k) = some k
  | .none => by rw [keyW, toNK]
  | .num i => by rw [keyW, toNK]
  | .text x => by rw [keyW, toNK]
  | .tup ks => by rw [keyW, toNK, toNKs_key ks]; rfl
theorem toNKs_key : ∀ ks : List NestedKey, toNKs (keyWs ks) = some ks
  | [] => by rw [keyWs, toNKs]
  | k :: ks => by rw [keyWs, toNKs, toNK_key k, toNKs_key ks]
end
mutual
theorem keyW_of : ∀ (w : W) (k : NestedKey), toNK w = some k → keyW k = w
  | .non, _, e => by rw [toNK] at e; cases e; rw [keyW]
  | .int i, _, e => by rw [toNK] at e; cases e; rw [keyW]
  | .str i, _, e => by rw [toNK] at e; cases e; rw [keyW]
  | .tup ws, k, e => by
    rw [toNK] at e
    cases h : toNKs ws with
    | none => rw [h] at e; cases e
    | some ks => rw [h] at e; cases e; rw [keyW, keyWs_of ws ks h]
  | .bl _, _, e => by rw [toNK] at e <;> first | cases e | (intros; exact nofun)
  | .ty _, _, e => by rw [toNK] at e <;> first | cases e | (intros; exact nofun)
  | .obj _, _, e => by rw [toNK] at e <;> first | cases e | (intros; exact nofun)
  | .lst _, _, e => by rw [toNK] at e <;> first | cases e | (intros; exact nofun)
  | .dic _, _, e => by rw [toNK] at e <;> first | cases e | (intros; exact nofun)
  | .loc _, _, e => by rw [toNK] at e <;> first | cases e | (intros; exact nofun)
  | .prs _, _, e => by rw [toNK] at e <;> first | cases e | (intros; exact nofun)
  | .scr _, _, e => by rw [toNK] at e <;> first | cases e | (intros; exact nofun)
  | .ext _ _, _, e => by rw [toNK] at e <;> first | cases e | (intros; exact nofun)
theorem keyWs_of : ∀ (ws : List W) (ks : List NestedKey), toNKs ws = some ks → keyWs ks = ws
  | [], _, e => by rw [toNKs] at e; cases e; rw [keyWs]
  | w :: ws, ks, e => by
    rw [toNKs] at e
    cases h1 : toNK w with
    | none => rw [h1] at e; cases e
    | some k =>
      cases h2 : toNKs ws with
      | none => rw [h1, h2] at e; cases e
      | some us => rw [h1, h2] at e; cases e; rw [keyWs, keyW_of w k h1, keyWs_of ws us h2]
end
def knGet (kws : List (NestedKey × W)) (k : NestedKey) : Option W := (kws.find? fun p => decide (p.1 = k)).map (·.2)
def knAt (k : NestedKey) (v : W) (p : NestedKey × W) : NestedKey × W := if p.1 = k then (p.1, v) else p
def knPut (kws : List (NestedKey × W)) (k : NestedKey) (v : W) : List (NestedKey × W) := if (knGet kws k).isSome then kws.map (knAt k v) else kws ++ [(k, v)]
section
variable {X : Cx} {Wx : WX} {K : PySem.W.Frag} {G : Gm} {H : Hp} {P : Program} {wd : PySem.World}
mutual
theorem keyV_rep : ∀ {k : NestedKey} {w : W} {v : V}, RepV K G H w v → toNK w = some k → KeyV K H k v
  | k, .non, _, r, e => by cases r; rw [toNK] at e; cases e; exact .none
  | k, .int i, _, r, e => by cases r; rw [toNK] at e; cases e; exact .num i
  | k, .str i, _, r, e => by cases r; rw [toNK] at e; cases e; exact .text i
  | k, .tup ws, v, r, e => by
    obtain ⟨a, vs, rfl, sq, rl⟩ := tup_sq r
    rw [toNK] at e
    cases h : toNKs ws with
    | none => rw [h] at e; cases e
    | some ks => rw [h] at e; cases e; exact .tup sq (keyVs_rep rl h)
  | _, .bl _, _, _, e => by rw [toNK] at e <;> first | cases e | (intros; exact nofun)
  | _, .ty _, _, _, e => by rw [toNK] at e <;> first | cases e | (intros; exact nofun)
  | _, .obj _, _, _, e => by rw [toNK] at e <;> first | cases e | (intros; exact nofun)
  | _, .lst _, _, _, e => by rw [toNK] at e <;> first | cases e | (intros; exact nofun)
  | _, .dic _, _, _, e => by rw [toNK] at e <;> first | cases e | (intros; exact nofun)
  | _, .loc _, _, _, e => by rw [toNK] at e <;> first | cases e | (intros; exact nofun)
  | _, .prs _, _, _, e => by rw [toNK] at e <;> first | cases e | (intros; exact nofun)
  | _, .scr _, _, _, e => by rw [toNK] at e <;> first | cases e | (intros; exact nofun)
  | _, .ext _ _, _, _, e => by rw [toNK] at e <;> first | cases e | (intros; exact nofun)
theorem keyVs_rep : ∀ {ks : List NestedKey} {ws : List W} {vs : List V}, RepL K G H ws vs → toNKs ws = some ks → KeyVs K H ks vs
  | ks, [], _, r, e => by cases r; rw [toNKs] at e; cases e; exact .nil
  | ks, w :: ws, _, r, e => by
    cases r with
    | cons a b =>
      rw [toNKs] at e
      cases h1 : toNK w with
      | none => rw [h1] at e; cases e
      | some k =>
        cases h2 : toNKs ws with
        | none => rw [h1, h2] at e; cases e
        | some us => rw [h1, h2] at e; cases e; exact .cons (keyV_rep a h1) (keyVs_rep b h2)
end
/-- keys and values, each as it stands -/
inductive RepN (K : PySem.W.Frag) (G : Gm) (H : Hp) : List (NestedKey × W) → DNs → Prop
  | nil : RepN K G H [] []
  | cons {k : NestedKey} {w : W} {b : Addr} {v : V} {kws : List (NestedKey × W)} {kvs : DNs} : k.depth ≤ 8 → RepV K G H (keyW k) (.ref b) → RepV K G H w v → RepN K G H kws kvs → RepN K G H ((k, w) :: kws) ((k, b, v) :: kvs)
theorem repN_of : ∀ {kws : List (NestedKey × W)} {kvs : DNs}, kvs.map (·.1) = kws.map (·.1) → (∀ p ∈ kvs, p.1.depth ≤ 8) → RepL K G H (kws.map fun p => keyW p.1) (kvs.map fun p => .ref p.2.1) → RepL K G H (kws.map (·.2)) (kvs.map (·.2.2)) → RepN K G H kws kvs
  | [], [], _, _, _, _ => .nil
  | [], _ :: _, e, _, _, _ => by cases e
  | _ :: _, [], e, _, _, _ => by cases e
  | (k, w) :: kws, (k', b, v) :: kvs, e, d, r1, r2 => by
    rw [List.map_cons, List.map_cons] at e
    injection e with e1 e2
    subst e1
    cases r1 with
    | cons a1 b1 => cases r2 with
      | cons a2 b2 => exact .cons (d _ List.mem_cons_self) a1 a2 (repN_of e2 (fun p hp => d p (List.mem_cons_of_mem _ hp)) b1 b2)
theorem RepN.parts : ∀ {kws : List (NestedKey × W)} {kvs : DNs}, RepN K G H kws kvs → kvs.map (·.1) = kws.map (·.1) ∧ (∀ p ∈ kvs, p.1.depth ≤ 8) ∧ RepL K G H (kws.map fun p => keyW p.1) (kvs.map fun p => .ref p.2.1) ∧ RepL K G H (kws.map (·.2)) (kvs.map (·.2.2))
  | _, _, .nil => ⟨rfl, fun p hp => by (cases hp), .nil, .nil⟩
  | _, _, .cons d a b r => by
    obtain ⟨e, dd, r1, r2⟩ := r.parts
    refine ⟨by rw [List.map_cons, List.map_cons, e], fun p hp => ?_, .cons a r1, .cons b r2⟩
    rcases List.mem_cons.mp hp with rfl | hp
    · exact d
    · exact dd p hp
theorem RepN.mono {G' : Gm} {H' : Hp} (x : Ext G H G' H') : ∀ {kws : List (NestedKey × W)} {kvs : DNs}, RepN K G H kws kvs → RepN K G' H' kws kvs
  | _, _, .nil => .nil
  | _, _, .cons d a b r => .cons d (a.mono x) (b.mono x) (r.mono x)
theorem RepN.length : ∀ {kws : List (NestedKey × W)} {kvs : DNs}, RepN K G H kws kvs → kws.length = kvs.length
  | _, _, .nil => rfl
  | _, _, .cons _ _ _ r => by rw [List.length_cons, List.length_cons, r.length]
theorem RepN.keys : ∀ {kws : List (NestedKey × W)} {kvs : DNs}, RepN K G H kws kvs → DNk K H kvs
  | _, _, .nil => fun p hp => by cases hp
  | _, _, .cons d a b r => fun p hp => by
    rcases List.mem_cons.mp hp with rfl | hp
    · exact ⟨d, keyV_rep a (toNK_key _)⟩
    · exact r.keys p hp
theorem RepN.get (k : NestedKey) : ∀ {kws : List (NestedKey × W)} {kvs : DNs}, RepN K G H kws kvs → (knGet kws k = none ∧ dnGet kvs k = none) ∨ ∃ w v, knGet kws k = some w ∧ dnGet kvs k = some v ∧ RepV K G H w v
  | _, _, .nil => .inl ⟨rfl, rfl⟩
  | _, _, .cons (k := j) (w := w) (b := b) (v := v) (kws := kws) (kvs := kvs) d a q r => by
    by_cases e : j = k
    · refine .inr ⟨w, v, ?_, ?_, q⟩
      · simp [knGet, List.find?_cons, e]
      · simp [dnGet, List.find?_cons, e]
    · have q1 : knGet ((j, w) :: kws) k = knGet kws k := by simp [knGet, List.find?_cons, e]
      have q2 : dnGet ((j, b, v) :: kvs) k = dnGet kvs k := by simp [dnGet, List.find?_cons, e]
      rw [q1, q2]
      exact RepN.get k r
theorem RepN.map {k : NestedKey} {w : W} {v : V} (rv : RepV K G H w v) : ∀ {kws : List (NestedKey × W)} {kvs : DNs}, RepN K G H kws kvs → RepN K G H (kws.map (knAt k w)) (kvs.map (dnAt k v))
  | _, _, .nil => .nil
  | _, _, .cons (k := j) d a q r => by
    rw [List.map_cons, List.map_cons]
    unfold knAt dnAt
    by_cases e : j = k
    · rw [if_pos e, if_pos e]; exact .cons d a rv (RepN.map rv r)
    · rw [if_neg e, if_neg e]; exact .cons d a q (RepN.map rv r)
theorem RepN.app {k : NestedKey} {b : Addr} {w : W} {v : V} (d : k.depth ≤ 8) (rk : RepV K G H (keyW k) (.ref b)) (rv : RepV K G H w v) : ∀ {kws : List (NestedKey × W)} {kvs : DNs}, RepN K G H kws kvs → RepN K G H (kws ++ [(k, w)]) (kvs ++ [(k, b, v)])
  | _, _, .nil => .cons d rk rv .nil
  | _, _, .cons d' a q r => .cons d' a q (RepN.app d rk rv r)
theorem RepN.put {k : NestedKey} {b : Addr} {w : W} {v : V} {kws : List (NestedKey × W)} {kvs : DNs} (r : RepN K G H kws kvs) (d : k.depth ≤ 8) (rk : RepV K G H (keyW k) (.ref b)) (rv : RepV K G H w v) : RepN K G H (knPut kws k w) (dnPut kvs k b v) := by
  unfold knPut dnPut
  rcases RepN.get k r with ⟨h1, h2⟩ | ⟨_, _, h1, h2, _⟩
  · rw [h1, h2]; exact RepN.app d rk rv r
  · rw [h1, h2]; exact RepN.map rv r
theorem RepO.dn {a : Addr} {kws : List (NestedKey × W)} (h : RepO K G H a (.dn P wd kws)) : ∃ kvs, H a = some (DNo P wd kvs a) ∧ RepN K G H kws kvs := by
  obtain ⟨kvs, e, q, d, r1, r2⟩ := h
  exact ⟨kvs, e, repN_of q d r1 r2⟩
theorem RepN.ob {a : Addr} {kws : List (NestedKey × W)} {kvs : DNs} (e : H a = some (DNo P wd kvs a)) (r : RepN K G H kws kvs) : RepO K G H a (.dn P wd kws) := by
  obtain ⟨q, d, r1, r2⟩ := r.parts
  exact ⟨kvs, e, q, d, r1, r2⟩
open Classical in
/-- the pairs of such a dict of this run -/
noncomputable def dnX (P : Program) (wd : PySem.World) (st : Stt) : W → Option (List (NestedKey × W))
  | .loc n => match st[n]? with
    | some (some (.dn P' w' kws)) => if P' = P ∧ w' = wd then some kws else none
    | _ => none
  | _ => none
theorem dn_x {w : W} {v : V} {kws : List (NestedKey × W)} (wo : World K G H) (r : RepV K G H w v) (e : dnX P wd G.st w = some kws) : ∃ n a kvs, w = .loc n ∧ v = .ref a ∧ G.ls[n]? = some a ∧ G.st[n]? = some (some (.dn P wd kws)) ∧ H a = some (DNo P wd kvs a) ∧ RepN K G H kws kvs := by
  cases r with
  | loc h =>
    rename_i n a
    unfold dnX at e
    dsimp only at e
    split at e
    · rename_i P' w' ks q
      split at e
      · rename_i hp
        obtain ⟨rfl, rfl⟩ := hp
        cases e
        obtain ⟨kvs, e1, rn⟩ := (wo.at' _ _ _ h q).dn
        exact ⟨n, a, kvs, rfl, rfl, h, q, e1, rn⟩
      · cases e
    · cases e
  | _ => cases e
/-- a key of a tuple, not too deep -/
def tupNK (w : W) : Option NestedKey := match toNK w with
  | some (.tup ks) => if (NestedKey.tup ks).depth ≤ 8 then some (.tup ks) else none
  | _ => none
theorem tupNK_of {w : W} {k : NestedKey} (e : tupNK w = some k) : toNK w = some k ∧ k.depth ≤ 8 ∧ ∃ ks, k = .tup ks := by
  unfold tupNK at e
  split at e
  · rename_i ks h
    split at e
    · rename_i hd
      cases e
      exact ⟨h, hd, ks, rfl⟩
    · cases e
  · cases e
theorem tupNK_rep {w : W} {v : V} {k : NestedKey} (r : RepV K G H w v) (e : tupNK w = some k) : k.depth ≤ 8 ∧ KeyV K H k v ∧ RepV K G H (keyW k) v ∧ ∃ b, v = .ref b := by
  obtain ⟨h, hd, ks, rfl⟩ := tupNK_of e
  have kv := keyV_rep r h
  refine ⟨hd, kv, by rw [keyW_of w _ h]; exact r, ?_⟩
  cases kv with
  | tup sq _ => exact ⟨_, rfl⟩
/-! {} and {k: v} -/
noncomputable def eDn0 (P : Program) (wd : PySem.World) : EM := fun _ st => .ok (.loc st.length) (st ++ [some (.dn P wd [])])
noncomputable def eDn1 (P : Program) (wd : PySem.World) (mk mv : EM) : EM := fun ρ st => match prM [(mk, mv)] ρ st with
  | .ok [(x, y)] st1 => match tupNK x with
    | some k => .ok (.loc st1.length) (st1 ++ [some (.dn P wd [(k, y)])])
    | none => .no
  | _ => .no
/-- what is hidden becomes a tracked one -/
theorem unhide_pushO {G1 G : Gm} {H1 H : Hp} {D : Addr} {ob0 : Ob} (w1 : World K G1 H1) (hD : H1 D = none) (x : Ext G1 H1 G H) (w : World K (G.hide D) H) (rl : RepO K (G.hide D) H D ob0) :
    Ext G1 H1 ⟨G.ls ++ [D], G.st ++ [some ob0], G.hid⟩ H ∧ World K ⟨G.ls ++ [D], G.st ++ [some ob0], G.hid⟩ H := by
  have nl : D ∉ G.ls := (w.hd D List.mem_cons_self).2
  have nh : D ∉ G.hid := fun z => by
    rw [x.hid] at z
    exact (w1.hd D z).1 hD
  have hal : ∀ a, Gm.alive ⟨G.ls ++ [D], G.st ++ [some ob0], G.hid⟩ a → a = D ∨ G.alive a := fun a z => by
    rcases z with ⟨i, ob, e1, e2⟩ | z
    · have e1 : (G.ls ++ [D])[i]? = some a := e1
      have e2 : (G.st ++ [some ob0])[i]? = some (some ob) := e2
      have hln : G.ls.length = G.st.length := w.len
      by_cases hi : i < G.ls.length
      · rw [List.getElem?_append_left hi] at e1
        rw [List.getElem?_append_left (by omega)] at e2
        exact .inr (.inl ⟨i, ob, e1, e2⟩)
      · rw [List.getElem?_append_right (by omega)] at e1
        cases hk : i - G.ls.length with
        | zero => rw [hk] at e1; exact .inl (Option.some.inj e1).symm
        | succ k => rw [hk] at e1; simp at e1
    · exact .inr (.inr z)
  have lss : Less (G.hide D) H ⟨G.ls ++ [D], G.st ++ [some ob0], G.hid⟩ H := by
    refine ⟨fun i a e => ?_, fun a u h => ⟨h.1, fun z => ?_⟩, fun a u h => ⟨h.1, fun z => ?_⟩, fun a u h => ⟨h.1, fun z => ?_⟩, fun a p u h => ⟨h.1, fun z => ?_⟩⟩
    · show (G.ls ++ [D])[i]? = some a
      have e : G.ls[i]? = some a := e
      rw [List.getElem?_append_left (List.getElem?_eq_some_iff.mp e).1]; exact e
    · rcases hal a z with q | q
      · exact h.2 (.inr (by rw [q]; exact List.mem_cons_self))
      · exact h.2 (q.imp_right (List.mem_cons_of_mem _))
    · rcases hal a z with q | q
      · exact h.2 (.inr (by rw [q]; exact List.mem_cons_self))
      · exact h.2 (q.imp_right (List.mem_cons_of_mem _))
    · rcases hal a z with q | q
      · exact h.2 (.inr (by rw [q]; exact List.mem_cons_self))
      · exact h.2 (q.imp_right (List.mem_cons_of_mem _))
    · rcases hal a z with q | q
      · exact h.2 (.inr (by rw [q]; exact List.mem_cons_self))
      · exact h.2 (q.imp_right (List.mem_cons_of_mem _))
  refine ⟨⟨fun i a e => lss.ls i a (x.ls i a e), x.keep, fun a z => ?_, x.non, x.hid, x.hidk⟩, ⟨?_, ?_, fun a ha => ?_, fun a ha => ⟨(w.hd a (List.mem_cons_of_mem _ ha)).1, fun z => ?_⟩, fun i a ob e1 e2 => ?_⟩⟩
  · rcases hal a z with q | q
    · exact .inr (by rw [q]; exact hD)
    · exact x.al a q
  · have hln : G.ls.length = G.st.length := w.len
    simp [hln]
  · show (G.ls ++ [D]).Nodup
    rw [List.nodup_append]
    exact ⟨w.nd, by simp, fun a ha b hb => by rw [List.mem_singleton.mp hb]; exact fun z => nl (by rw [← z]; exact ha)⟩
  · have ha : a ∈ G.ls ++ [D] := ha
    rcases List.mem_append.mp ha with q | q
    · exact w.tr a q
    · rw [List.mem_singleton.mp q]; exact (w.hd D List.mem_cons_self).1
  · have z : a ∈ G.ls ++ [D] := z
    rcases List.mem_append.mp z with q | q
    · exact (w.hd a (List.mem_cons_of_mem _ ha)).2 q
    · exact nh (by rw [← List.mem_singleton.mp q]; exact ha)
  · have e1 : (G.ls ++ [D])[i]? = some a := e1
    have e2 : (G.st ++ [some ob0])[i]? = some (some ob) := e2
    have hln : G.ls.length = G.st.length := w.len
    by_cases hi : i < G.ls.length
    · rw [List.getElem?_append_left hi] at e1
      rw [List.getElem?_append_left (by omega)] at e2
      exact (w.at' i a ob e1 e2).less lss rfl
    · rw [List.getElem?_append_right (by omega)] at e1
      rw [List.getElem?_append_right (by omega), ← hln] at e2
      cases hk : i - G.ls.length with
      | zero =>
        rw [hk] at e1 e2
        have q1 : D = a := Option.some.inj e1
        have q2 : ob0 = ob := Option.some.inj (Option.some.inj e2)
        subst q1 q2
        exact RepO.less lss rfl rl
      | succ k => rw [hk] at e1; simp at e1
theorem sem_dn1 {tk tv : TE} {mk mv : EM} (h : SemP K [(tk, tv)] [(mk, mv)]) : SemE K Wx (tDisp1 P wd K [(tk, tv)]) (eDn1 P wd mk mv) := fun G H ρ σ Q w r hp => by
  intro p hn
  unfold eDn1 at hp
  split at hp
  · rename_i x y st1 e
    split at hp
    · rename_i k hk
      refine h (G.hide p) (upd H p (DNo P wd [] p)) ρ σ _ [(x, y)] st1 (w.hide hn) (r.less (less_hide w hn)) e fun ls' H' qs xx w' rp => ?_
      have hp0 : H' p = some (DNo P wd [] p) := (xx.hidk p List.mem_cons_self).trans upd_same
      cases rp with
      | cons ra rb rest =>
        cases rest
        rename_i xv yv
        obtain ⟨hd, kv, rk, b, rfl⟩ := tupNK_rep ra hk
        refine ⟨k, b, yv, rfl, hd, kv, hp0, ?_⟩
        have w2 : World K ((G.to ls' st1).hide p) (upd H' p (DNo P wd [(k, b, yv)] p)) := w'.hidupd List.mem_cons_self
        have x2 : Ext G H (G.to ls' st1) (upd H' p (DNo P wd [(k, b, yv)] p)) := Ext.under (G1 := G) (H1 := H) (ls := G.ls) (st := G.st) (H := upd H p (DNo P wd [] p)) w hn (Ext.new w hn) xx
        have ro : RepO K ((G.to ls' st1).hide p) (upd H' p (DNo P wd [(k, b, yv)] p)) p (.dn P wd [(k, y)]) := RepN.ob upd_same (.cons hd (rk.less (less_hidupd List.mem_cons_self)) (rb.less (less_hidupd List.mem_cons_self)) .nil)
        obtain ⟨x3, w3⟩ := unhide_pushO w hn x2 w2 ro
        refine hp (ls' ++ [p]) _ (.ref p) x3 w3 (.loc ?_)
        show (ls' ++ [p])[st1.length]? = some p
        rw [show st1.length = ls'.length from w'.len.symm]
        simp
    · exact hp.elim
  · exact hp.elim
theorem ce_dn1 {pos : Pos} {ke ve : Expr} {tk tv : TE} {mk mv : EM} (hu : X.A.units + 64 < cLine) (hk : CE X W0 ke tk mk) (hv : CE X W0 ve tv mv) : CE X Wx (.Dict [some ke] [ve] pos) (tDisp1 X.prog X.w X.K [(tk, tv)]) (eDn1 X.prog X.w mk mv) :=
  let h : CP X pos [some ke] [ve] [(tk, tv)] [(mk, mv)] := cp_cons hk hv cp_nil
  ⟨pe_disp1 hu h.pe, sem_dn1 h.sem⟩
/-! k in d -/
noncomputable def fInT (P : Program) (wd : PySem.World) (neg : Bool) : F2 := fun st y d => match dnX P wd st d, tupNK y with
  | some kws, some k => some (.bl (if neg then !(knGet kws k).isSome else (knGet kws k).isSome))
  | _, _ => none
theorem RepN.some (k : NestedKey) {kws : List (NestedKey × W)} {kvs : DNs} (r : RepN K G H kws kvs) : (knGet kws k).isSome = (dnGet kvs k).isSome := by
  rcases RepN.get k r with ⟨h1, h2⟩ | ⟨_, _, h1, h2, _⟩ <;> rw [h1, h2] <;> rfl
theorem os_inT (neg : Bool) : OpS X.K (rInT X neg) (fInT X.prog X.w neg) := fun G H y x v u w Q wo ry rx e q => by
  unfold fInT at e
  split at e
  · rename_i kws k h1 h2
    cases e
    obtain ⟨n, a, kvs, rfl, rfl, hl, hs, ha, rn⟩ := dn_x wo rx h1
    obtain ⟨hd, kv, rk, b, rfl⟩ := tupNK_rep ry h2
    refine ⟨a, kvs, k, rfl, ⟨.inl ha, rn.keys, hd, kv, b, rfl⟩, ?_⟩
    rw [← rn.some k]
    exact PostV.val wo q (.bl _)
  · cases e
/-! d[k] -/
noncomputable def eDgetT (P : Program) (wd : PySem.World) (d k : EM) : EM := fun ρ st => (d ρ st).bind fun u s1 => (k ρ s1).bind fun y s2 => match dnX P wd s2 u, tupNK y with
  | some kws, some q => match knGet kws q with
    | some w => .ok w s2
    | none => .no
  | _, _ => .no
/-! d.get(k, x) -/
noncomputable def eDget2T (P : Program) (wd : PySem.World) (d k x : EM) : EM := fun ρ st => (d ρ st).bind fun u s1 => match dnX P wd s1 u with
  | some _ => (k ρ s1).bind fun y s2 => (x ρ s2).bind fun z s3 => match dnX P wd s3 u, tupNK y with
    | some kws, some q => .ok ((knGet kws q).getD z) s3
    | _, _ => .no
  | none => .no
/-! d[k] = e -/
noncomputable def putT (P : Program) (wd : PySem.World) (x : W) (ρ : Ev) (l k : W) (s : Stt) : RS := match dnX P wd s l, tupNK k, l with
  | some kws, some q, .loc n => if kws.length < 100000 then .nx ρ (s.set n (some (.dn P wd (knPut kws q x)))) else .no
  | _, _, _ => .no
noncomputable def sSetT (P : Program) (wd : PySem.World) (e o i : EM) : SM := fun ρ st => (e ρ st).toS ρ fun x st1 => (o ρ st1).toS ρ fun l st2 => (i ρ st2).toS ρ fun k st3 => putT P wd x ρ l k st3
theorem cs_setT {e o i : Expr} {te to ti : TE} {me mo mi : EM} {pos p2 : Pos} (hu : X.A.units + 64 < cLine) (he : CE X Wx e te me) (ho : CE X Wx o to mo) (hi : CE X Wx i ti mi) (hs : swapsWithSole [.Subscript o i p2] e pos.line X.env = pure false := by rfl) (hw : swappedStores [.Subscript o i p2] e X.env = pure none := by rfl)
    (h1 : (assignEach [.Subscript o i p2] X.env).map (·.2) = [assign (.Subscript o i p2) X.env] := by rfl)
    (ha : ∀ v, assign (.Subscript o i p2) X.env v = (do
      let ov ← holding [v] (eval o X.env)
      let iv ← holding [v, ov] (eval i X.env)
      standAt p2
      holding [v, ov, iv] (setItem ov iv v)
      release [v, ov, iv] []) := by intro _; rfl) : CS X Wx (.Assign [.Subscript o i p2] e pos) (tAsg te (gSub to ti (rSetT X))) (sSetT X.prog X.w me mo mi) := by
  refine ⟨ps_asg he.pe (pg_sub ho.pe hi.pe (set_dictT hu) ha) hs hw h1, fun G H ρ σ D w r h => ?_⟩
  refine he.sem G H ρ σ _ w r (PostS.bind h r fun x st1 ls1 H1 v q1 e1 w1 rv h1 => ?_)
  refine ho.sem (G.to ls1 st1) H1 ρ σ _ w1 (r.mono e1) (PostS.bind h1 (r.mono e1) fun l st2 ls2 H2 u q2 e2 w2 ru h2 => ?_)
  have r2 := r.mono (e1.trans e2)
  refine hi.sem (G.to ls2 st2) H2 ρ σ _ w2 r2 (PostS.bind h2 r2 fun k st3 ls3 H3 z q3 e3 w3 rz h3 => ?_)
  have r3 := r2.mono e3
  clear q1 q2 q3
  unfold putT at h3
  split at h3
  · rename_i kws q n hq hx
    split at h3
    · rename_i hl
      obtain ⟨n', a, kvs, en, ea, hl2, hs2, ha2, rn⟩ := dn_x (G := G.to ls3 st3) w3 (ru.mono e3) hx
      cases en
      obtain ⟨hd', kv, rk, b, rfl⟩ := tupNK_rep rz hq
      have rx := rv.mono (e2.trans e3)
      have xp : Ext (G.to ls3 st3) H3 ((G.to ls3 st3).put n (.dn X.prog X.w (knPut kws q x))) (upd H3 a (DNo X.prog X.w (dnPut kvs q b v) a)) := Ext.put w3 hl2 hs2
      exact ⟨a, kvs, q, b, ea, rfl, ha2, ⟨.inl ha2, rn.keys, hd', kv, b, rfl⟩, Nat.lt_of_lt_of_le (by rw [← rn.length]; exact hl) (by decide), h3 ls3 σ _ xp (w3.put hl2 hs2 (RepN.ob upd_same ((rn.put hd' rk rx).mono xp))) (r3.mono xp)⟩
    · exact h3.elim
  · exact h3.elim
end
end Sim
end
section
set_option Elab.async false
set_option linter.all false
set_option maxRecDepth 100000
set_option maxHeartbeats 2000000
open PySem PySem.Spec PyProof.Rows L2
namespace L2
section
variable {X : Cx} {CX : CXT} {k : Nat} {f C : Addr} {fd : FuncData} {ps : List Str} {sp : Sp} {dvs : List V} {ds : List Value} {E : St → XK} {x m : Str} {p pos apos : Pos} {e o : Expr} {es : List Expr} {ta : TE} {t : TA}
end
end L2
namespace Sim
/-! instances of own classes -/
def putFW (f : Str) (w : W) : List (Str × W) → List (Str × W)
  | [] => [(f, w)]
  | (g, x) :: r => if g = f then (g, w) :: r else (g, x) :: putFW f w r
section
variable {X : Cx} {Wx : WX} {K : PySem.W.Frag} {G : Gm} {H : Hp}
/-- the fields of an instance of the class -/
def insX (C : Str) (st : Stt) : W → Option (List (Str × W))
  | .loc n => match st[n]? with
    | some (some (.ins C' fs)) => if C' = C then some fs else none
    | _ => none
  | _ => none
/-- o.f -/
def eFld (C f : Str) (m : EM) : EM := fun ρ st => (m ρ st).bind fun x s1 => match insX C s1 x with
  | some fs => match fs.lookup f with
    | some w => .ok w s1
    | none => .no
  | none => .no
/-- o.f = e -/
def sFldW (C f : Str) (o e : EM) : SM := fun ρ st => (e ρ st).toS ρ fun y st1 => (o ρ st1).toS ρ fun x st2 => match insX C st2 x, x with
  | some fs, .loc n => if fs.length < 100 then .nx ρ (st2.set n (some (.ins C (putFW f y fs)))) else .no
  | _, _ => .no
/-- C(..) -/
def eMake (C : Str) (mi : FM) (as : AM) : EM := fun ρ st => (as ρ st).bind fun ws st1 => match mi (.loc st1.length :: ws) (st1 ++ [some (.ins C [])]) with
  | .ok .non st2 => .ok (.loc st1.length) st2
  | .er x st2 => .er x st2
  | _ => .no
/-- o.m(..) -/
def eMeth (C mn : Str) (m : FM) (o : EM) (as : AM) : EM := fun ρ st => (o ρ st).bind fun x s1 => match insX C s1 x with
  | some fs => if fs.lookup mn = none then (as ρ s1).bind fun ws s2 => m (x :: ws) s2 else .no
  | none => .no
end
end Sim
end
section
set_option Elab.async false
set_option linter.all false
set_option maxRecDepth 100000
set_option maxHeartbeats 2000000
open PySem PySem.Spec PyProof.Rows L2
/-! tuple(range(n)) -/
namespace L2
section
variable {X : Cx} {e : Expr} {te : St → Hp → (Int → Int → Hp → Prop) → Prop}
end
end L2
namespace Sim
section
variable {X : Cx} {Wx : WX} {K : PySem.W.Frag} {G : Gm} {H : Hp}
def rgW (n : Nat) : List W := (List.range n).map fun (i : Nat) => W.int (i : Int)
def eTupRg (m : EM) : EM := fun ρ st => (m ρ st).bind fun x s1 => match x with
  | .int n => if 0 ≤ n ∧ n ≤ 1000 then .ok (.tup (rgW n.toNat)) s1 else .no
  | _ => .no
variable {ρ : Ev} {st : Stt}
def tupRgK (r : Rs W) : Rs W := match r with
  | .ok (.int n) s => if 0 ≤ n ∧ n ≤ 1000 then .ok (.tup (rgW n.toNat)) s else .no
  | .er x s => .er x s
  | _ => .no
@[simp] theorem tupRgK_ok {n : Nat} (h : n ≤ 1000) : tupRgK (.ok (.int (n : Int)) st) = .ok (.tup (rgW n)) st := by
  unfold tupRgK
  dsimp only
  rw [if_pos ⟨by omega, by omega⟩]
  rfl
@[simp] theorem ev_tupRg (m : EM) : eTupRg m ρ st = tupRgK (m ρ st) := by
  unfold eTupRg tupRgK
  cases m ρ st with
  | ok x s => cases x <;> rfl
  | er x s => rfl
  | no => rfl
end
end Sim
end
section
set_option Elab.async false
set_option linter.all false
set_option maxRecDepth 100000
set_option maxHeartbeats 1000000
open PySem PySem.Spec PyProof.Rows L2
namespace Sim
/-! instances, dicts with tuple keys: worked out -/
section
variable {ρ : Ev} {st : Stt} {C f mn : Str} {P : Program} {wd : PySem.World} {n : Nat}
def fldV (C f : Str) (x : W) (st : Stt) : Rs W := match insX C st x with
  | some fs => match fs.lookup f with
    | some w => .ok w st
    | none => .no
  | none => .no
def fldK (C f : Str) (r : Rs W) : Rs W := match r with
  | .ok x s => fldV C f x s
  | .er x s => .er x s
  | .no => .no
@[simp] theorem fldK_ok (x : W) : fldK C f (.ok x st) = fldV C f x st := id rfl
@[simp] theorem ev_fld (m : EM) : eFld C f m ρ st = fldK C f (m ρ st) := by
  unfold eFld fldK
  cases m ρ st <;> rfl
def methA (m : FM) (x : W) (r : Rs (List W)) : Rs W := match r with
  | .ok ws s => m (x :: ws) s
  | .er x s => .er x s
  | .no => .no
@[simp] theorem methA_ok (m : FM) (x : W) (ws : List W) : methA m x (.ok ws st) = m (x :: ws) st := id rfl
def methV (C mn : Str) (m : FM) (as : AM) (ρ : Ev) (x : W) (st : Stt) : Rs W := match insX C st x with
  | some fs => if fs.lookup mn = none then methA m x (as ρ st) else .no
  | none => .no
def methK (C mn : Str) (m : FM) (as : AM) (ρ : Ev) (r : Rs W) : Rs W := match r with
  | .ok x s => methV C mn m as ρ x s
  | .er x s => .er x s
  | .no => .no
@[simp] theorem methK_ok (m : FM) (as : AM) (x : W) : methK C mn m as ρ (.ok x st) = methV C mn m as ρ x st := id rfl
@[simp] theorem ev_meth (m : FM) (o : EM) (as : AM) : eMeth C mn m o as ρ st = methK C mn m as ρ (o ρ st) := by
  unfold eMeth methK
  cases o ρ st with
  | ok x s =>
    show (match insX C s x with | some fs => if fs.lookup mn = none then (as ρ s).bind (fun ws s2 => m (x :: ws) s2) else .no | none => .no) = methV C mn m as ρ x s
    unfold methV
    cases insX C s x with
    | none => rfl
    | some fs =>
      dsimp only
      split
      · unfold methA; cases as ρ s <;> rfl
      · rfl
  | er x s => rfl
  | no => rfl
def mkR (n : Nat) (r : Rs W) : Rs W := match r with
  | .ok .non s => .ok (.loc n) s
  | .er x s => .er x s
  | _ => .no
@[simp] theorem mkR_ok : mkR n (.ok .non st) = .ok (.loc n) st := id rfl
def mkK (C : Str) (mi : FM) (r : Rs (List W)) : Rs W := match r with
  | .ok ws s => mkR s.length (mi (.loc s.length :: ws) (s ++ [some (.ins C [])]))
  | .er x s => .er x s
  | .no => .no
@[simp] theorem mkK_ok (mi : FM) (ws : List W) : mkK C mi (.ok ws st) = mkR st.length (mi (.loc st.length :: ws) (st ++ [some (.ins C [])])) := id rfl
@[simp] theorem ev_make (mi : FM) (as : AM) : eMake C mi as ρ st = mkK C mi (as ρ st) := by
  unfold eMake mkK
  cases as ρ st with
  | ok ws s => rfl
  | er x s => rfl
  | no => rfl
def sfV (C f : Str) (y : W) (ρ : Ev) (x : W) (st : Stt) : RS := match insX C st x, x with
  | some fs, .loc n => if fs.length < 100 then .nx ρ (st.set n (some (.ins C (putFW f y fs)))) else .no
  | _, _ => .no
def sfK2 (C f : Str) (y : W) (ρ : Ev) (r : Rs W) : RS := match r with
  | .ok x s => sfV C f y ρ x s
  | .er x s => .er x ρ s
  | .no => .no
@[simp] theorem sfK2_ok (x y : W) : sfK2 C f y ρ (.ok x st) = sfV C f y ρ x st := id rfl
def sfK (C f : Str) (o : EM) (ρ : Ev) (r : Rs W) : RS := match r with
  | .ok y s => sfK2 C f y ρ (o ρ s)
  | .er x s => .er x ρ s
  | .no => .no
@[simp] theorem sfK_ok (o : EM) (y : W) : sfK C f o ρ (.ok y st) = sfK2 C f y ρ (o ρ st) := id rfl
@[simp] theorem ev_fldW (o e : EM) : sFldW C f o e ρ st = sfK C f o ρ (e ρ st) := by
  unfold sFldW sfK
  cases e ρ st with
  | ok y s =>
    show (o ρ s).toS ρ _ = sfK2 C f y ρ (o ρ s)
    unfold sfK2
    cases o ρ s <;> rfl
  | er x s => rfl
  | no => rfl
/-! dicts -/
theorem dnX_ok {kws : List (NestedKey × W)} (h : st[n]? = some (some (.dn P wd kws))) : dnX P wd st (.loc n) = some kws := by
  unfold dnX
  dsimp only
  rw [h]
  dsimp only
  rw [if_pos ⟨rfl, rfl⟩]
@[simp] theorem ev_dn0 : eDn0 P wd ρ st = .ok (.loc st.length) (st ++ [some (.dn P wd [])]) := id rfl
noncomputable def dn1V (P : Program) (wd : PySem.World) (x y : W) (st : Stt) : Rs W := match tupNK x with
  | some k => .ok (.loc st.length) (st ++ [some (.dn P wd [(k, y)])])
  | none => .no
theorem dn1V_ok {x y : W} {k : NestedKey} (h : tupNK x = some k) : dn1V P wd x y st = .ok (.loc st.length) (st ++ [some (.dn P wd [(k, y)])]) := by
  unfold dn1V
  rw [h]
noncomputable def dn1K2 (P : Program) (wd : PySem.World) (x : W) (r : Rs W) : Rs W := match r with
  | .ok y s => dn1V P wd x y s
  | _ => .no
@[simp] theorem dn1K2_ok (x y : W) : dn1K2 P wd x (.ok y st) = dn1V P wd x y st := id rfl
noncomputable def dn1K (P : Program) (wd : PySem.World) (mv : EM) (ρ : Ev) (r : Rs W) : Rs W := match r with
  | .ok x s => dn1K2 P wd x (mv ρ s)
  | _ => .no
@[simp] theorem dn1K_ok (mv : EM) (x : W) : dn1K P wd mv ρ (.ok x st) = dn1K2 P wd x (mv ρ st) := id rfl
@[simp] theorem ev_dn1 (mk mv : EM) : eDn1 P wd mk mv ρ st = dn1K P wd mv ρ (mk ρ st) := by
  unfold eDn1 dn1K prM
  cases mk ρ st with
  | ok x s =>
    dsimp only [Rs.bind]
    cases hv : mv ρ s with
    | ok y s2 => simp only [hv]; rfl
    | er y s2 => simp only [hv]; rfl
    | no => simp only [hv]; rfl
  | er x s => rfl
  | no => rfl
theorem f_inT {kws : List (NestedKey × W)} {y : W} {k : NestedKey} (neg : Bool) (h : st[n]? = some (some (.dn P wd kws))) (hk : tupNK y = some k) : fInT P wd neg st y (.loc n) = some (.bl (if neg then !(knGet kws k).isSome else (knGet kws k).isSome)) := by
  unfold fInT
  rw [dnX_ok h, hk]
noncomputable def dgtV (P : Program) (wd : PySem.World) (u y : W) (st : Stt) : Rs W := match dnX P wd st u, tupNK y with
  | some kws, some q => match knGet kws q with
    | some w => .ok w st
    | none => .no
  | _, _ => .no
noncomputable def dgtK2 (P : Program) (wd : PySem.World) (u : W) (r : Rs W) : Rs W := match r with
  | .ok y s => dgtV P wd u y s
  | .er x s => .er x s
  | .no => .no
@[simp] theorem dgtK2_ok (u y : W) : dgtK2 P wd u (.ok y st) = dgtV P wd u y st := id rfl
noncomputable def dgtK (P : Program) (wd : PySem.World) (k : EM) (ρ : Ev) (r : Rs W) : Rs W := match r with
  | .ok u s => dgtK2 P wd u (k ρ s)
  | .er x s => .er x s
  | .no => .no
@[simp] theorem dgtK_ok (k : EM) (u : W) : dgtK P wd k ρ (.ok u st) = dgtK2 P wd u (k ρ st) := id rfl
@[simp] theorem ev_dgetT (d k : EM) : eDgetT P wd d k ρ st = dgtK P wd k ρ (d ρ st) := by
  unfold eDgetT dgtK
  cases d ρ st with
  | ok u s =>
    show (k ρ s).bind _ = dgtK2 P wd u (k ρ s)
    unfold dgtK2
    cases k ρ s <;> rfl
  | er x s => rfl
  | no => rfl
noncomputable def dg2V (P : Program) (wd : PySem.World) (u y z : W) (st : Stt) : Rs W := match dnX P wd st u, tupNK y with
  | some kws, some q => .ok ((knGet kws q).getD z) st
  | _, _ => .no
noncomputable def dg2K3 (P : Program) (wd : PySem.World) (u y : W) (r : Rs W) : Rs W := match r with
  | .ok z s => dg2V P wd u y z s
  | .er x s => .er x s
  | .no => .no
@[simp] theorem dg2K3_ok (u y z : W) : dg2K3 P wd u y (.ok z st) = dg2V P wd u y z st := id rfl
noncomputable def dg2K2 (P : Program) (wd : PySem.World) (u : W) (x : EM) (ρ : Ev) (r : Rs W) : Rs W := match r with
  | .ok y s => dg2K3 P wd u y (x ρ s)
  | .er x s => .er x s
  | .no => .no
@[simp] theorem dg2K2_ok (u y : W) (x : EM) : dg2K2 P wd u x ρ (.ok y st) = dg2K3 P wd u y (x ρ st) := id rfl
noncomputable def dg2U (P : Program) (wd : PySem.World) (k x : EM) (ρ : Ev) (u : W) (st : Stt) : Rs W := match dnX P wd st u with
  | some _ => dg2K2 P wd u x ρ (k ρ st)
  | none => .no
noncomputable def dg2K (P : Program) (wd : PySem.World) (k x : EM) (ρ : Ev) (r : Rs W) : Rs W := match r with
  | .ok u s => dg2U P wd k x ρ u s
  | .er x s => .er x s
  | .no => .no
@[simp] theorem dg2K_ok (k x : EM) (u : W) : dg2K P wd k x ρ (.ok u st) = dg2U P wd k x ρ u st := id rfl
@[simp] theorem ev_dget2T (d k x : EM) : eDget2T P wd d k x ρ st = dg2K P wd k x ρ (d ρ st) := by
  unfold eDget2T dg2K
  cases d ρ st with
  | ok u s =>
    show (match dnX P wd s u with | some _ => _ | none => Rs.no) = dg2U P wd k x ρ u s
    unfold dg2U
    cases dnX P wd s u with
    | none => rfl
    | some kws =>
      show (k ρ s).bind _ = dg2K2 P wd u x ρ (k ρ s)
      unfold dg2K2
      cases k ρ s with
      | ok y s2 =>
        show (x ρ s2).bind _ = dg2K3 P wd u y (x ρ s2)
        unfold dg2K3
        cases x ρ s2 <;> rfl
      | er y s2 => rfl
      | no => rfl
  | er x s => rfl
  | no => rfl
theorem putT_ok {kws : List (NestedKey × W)} {x y : W} {k : NestedKey} (h : st[n]? = some (some (.dn P wd kws))) (hk : tupNK y = some k) (hl : kws.length < 100000) : putT P wd x ρ (.loc n) y st = .nx ρ (st.set n (some (.dn P wd (knPut kws k x)))) := by
  unfold putT
  rw [dnX_ok h, hk]
  dsimp only
  rw [if_pos hl]
noncomputable def stK3 (P : Program) (wd : PySem.World) (x l : W) (ρ : Ev) (r : Rs W) : RS := match r with | .ok k s => putT P wd x ρ l k s | .er y s => .er y ρ s | .no => .no
@[simp] theorem stK3_ok (x l k : W) : stK3 P wd x l ρ (.ok k st) = putT P wd x ρ l k st := id rfl
noncomputable def stK2 (P : Program) (wd : PySem.World) (x : W) (i : EM) (ρ : Ev) (r : Rs W) : RS := match r with | .ok l s => stK3 P wd x l ρ (i ρ s) | .er y s => .er y ρ s | .no => .no
@[simp] theorem stK2_ok (x l : W) (i : EM) : stK2 P wd x i ρ (.ok l st) = stK3 P wd x l ρ (i ρ st) := id rfl
noncomputable def stK (P : Program) (wd : PySem.World) (o i : EM) (ρ : Ev) (r : Rs W) : RS := match r with | .ok x s => stK2 P wd x i ρ (o ρ s) | .er y s => .er y ρ s | .no => .no
@[simp] theorem stK_ok (o i : EM) (x : W) : stK P wd o i ρ (.ok x st) = stK2 P wd x i ρ (o ρ st) := id rfl
@[simp] theorem ev_setT (e o i : EM) : sSetT P wd e o i ρ st = stK P wd o i ρ (e ρ st) := by
  unfold sSetT stK
  cases e ρ st with
  | ok x s =>
    show (o ρ s).toS ρ _ = stK2 P wd x i ρ (o ρ s)
    unfold stK2
    cases o ρ s with
    | ok l s2 => show (i ρ s2).toS ρ _ = stK3 P wd x l ρ (i ρ s2); unfold stK3; cases i ρ s2 <;> rfl
    | er y s => rfl
    | no => rfl
  | er y s => rfl
  | no => rfl
/-! look-ups -/
end
end Sim
end
section
set_option Elab.async false
set_option linter.all false
set_option maxRecDepth 100000
set_option maxHeartbeats 600000
/-! list(d) of a dict whose keys are tuples -/
namespace L2
open PySem PySem.Spec PyProof.Rows Sim
def rListT (X : Cx) : List V → Hp → VK → Prop := fun xs H Q => ∃ d kvs, xs = [V.ref d] ∧ Rd H d (DNo X.prog X.w kvs d) ∧ DNk X.K H kvs ∧ ∀ p, H p = none → Q (.ref p) (upd H p (.lst (kvs.map fun k => V.ref k.2.1)))
section
variable {X : Cx}
theorem call_listT (hc : X.calm = true) : CallR X (.type "list") (rListT X) := by
  intro pins s σ H xs us Q I r h
  obtain ⟨d, kvs, rfl, hd, hk, q⟩ := h
  obtain ⟨u, rfl, rx⟩ := r.one
  cases rx
  obtain ⟨z, hs, ks, pr, o, es, ep, ho, hx, hdt, he, hst, hn⟩ := dn_rd I hd hk
  have l1 : es.size = ks.length := size_of_entries he
  have l2 : kvs.length = ks.length := PairDN.len pr
  refine PySem.W.kdl_call (kdl_raw hs hx hdt) (I.ok.hd hc) ho (by omega) fun h' tk acc' c' kp e it => ?_
  have ea : acc'.toList = ks.map fun x => Value.ref x.2.1 := by
    have hl : acc'.toList.length = ks.length := by rw [Array.length_toList, it.1]; exact l1
    apply List.ext_getElem?
    intro j
    rw [List.getElem?_map]
    cases hj : acc'.toList[j]? with
    | none =>
      have h1 := List.getElem?_eq_none_iff.mp hj
      rw [List.getElem?_eq_none (by omega)]
      all_goals rfl
    | some v =>
      obtain ⟨en, hen, hv⟩ := it.2 j v (by rw [← Array.getElem?_toList]; exact hj)
      have qe := entry_at he j
      rw [hen] at qe
      cases hb : ks[j]? with
      | none =>
        rw [hb] at qe
        exact nomatch (show some en = none from qe)
      | some b =>
        rw [hb] at qe
        have e2 := Option.some.inj qe
        rw [hv, e2]
        all_goals rfl
  have eb : kvs.map (fun k => V.ref k.2.1) = (ks.map fun x => x.2.1).map V.ref := by
    rw [List.map_map]
    clear q hd hk it ea l1 l2 he hst hn z
    induction pr with
    | nil => rfl
    | cons h t ih => rw [List.map_cons, List.map_cons, ih, h.2.1]; rfl
  refine ⟨.ref s.heap.objs.size, upd H s.heap.objs.size (.lst (kvs.map fun k => V.ref k.2.1)), I.laid kp (Nat.le_refl _) (show ObjOk X.prog X.w _ _ _ (.lst (kvs.map fun k => V.ref k.2.1)) from ⟨?_, acc'.toList, c', ?_, ?_⟩), rfl, q _ (I.hok.fresh (Nat.le_refl _))⟩
  · rw [List.length_map]; exact z
  · rw [ea, eb]
    have := vals_refs (ks.map fun x => x.2.1)
    rw [List.map_map] at this ⊢
    rw [List.map_map] at this
    exact this
  · rw [Array.toArray_toList]; exact e
end
end L2
namespace Sim
open PySem PySem.Spec PyProof.Rows L2
section
variable {X : Cx} {K : PySem.W.Frag} {G : Gm} {H : Hp} {P : Program} {wd : PySem.World} {st : Stt}
noncomputable def fListT (P : Program) (wd : PySem.World) : FL := fun st ws => match ws with
  | [x] => (dnX P wd st x).map fun kws => kws.map fun p => keyW p.1
  | _ => none
theorem fn_listT : FnN X.K (rListT X) (fListT X.prog X.w) := fun G H ws vs us Q wo rl e q => by
  unfold fListT at e
  split at e
  · rename_i x
    cases rl with
    | cons rx r0 =>
      cases r0
      cases ed : dnX X.prog X.w G.st x with
      | none => rw [ed] at e; cases e
      | some kws =>
        rw [ed] at e
        cases e
        obtain ⟨n, a, kvs, rfl, rfl, _, _, hd, rn⟩ := dn_x wo rx ed
        obtain ⟨_, _, r1, _⟩ := rn.parts
        exact ⟨a, kvs, rfl, .inl hd, rn.keys, fun p hp => q p _ hp r1⟩
  · cases e
theorem f_listT {n : Nat} {kws : List (NestedKey × W)} (h : st[n]? = some (some (.dn P wd kws))) : fListT P wd st [.loc n] = some (kws.map fun p => keyW p.1) := by
  unfold fListT
  dsimp only
  rw [dnX_ok h]
  rfl
end
end Sim
end
section
set_option Elab.async false
set_option linter.all false
set_option maxRecDepth 100000
set_option maxHeartbeats 600000
/-! dict(a list of pairs) whose keys are tuples -/
namespace L2
open PySem PySem.Spec PyProof.Rows Sim
def dnPutAll (xs kvs : DNs) : DNs := kvs.foldl (fun acc p => dnPut acc p.1 p.2.1 p.2.2) xs
def rDictT (X : Cx) : List V → Hp → VK → Prop := fun xs H Q => ∃ (a : Addr) (ps : List Addr) (kvs : DNs), xs = [V.ref a] ∧ SqL X.K H a (ps.map V.ref) ∧ Paired (fun p kv => SqT X.K H p [V.ref kv.2.1, kv.2.2]) ps kvs ∧ DNk X.K H kvs ∧ ∀ p, H p = none → Q (.ref p) (upd H p (DNo X.prog X.w (dnPutAll [] kvs) p))
section
variable {X : Cx}
theorem dn_pairs {pins : List (Addr × Obj)} {σ : L2.St} {H : Hp} {s : Shared} (I : Inv X pins σ H s) : ∀ {ps : List Addr} {kvs : DNs}, Paired (fun p kv => SqT X.K H p [V.ref kv.2.1, kv.2.2]) ps kvs →
    ∃ prs : List (NestedKey × Addr × Value), Paired PairDN kvs prs ∧ prs.length = ps.length ∧ ∀ (j : Nat) (q : NestedKey × Addr × Value), prs[j]? = some q → ∃ (b : Addr), ps[j]? = some b ∧ IsTup s.heap b #[.ref q.2.1, q.2.2]
  | _, _, .nil => ⟨[], .nil, rfl, fun j q e => by simp at e⟩
  | _, _, .cons (a := p) (b := kv) h t => by
    obtain ⟨prs, r, hl, hp⟩ := dn_pairs I t
    obtain ⟨its, rv, ht, _⟩ := I.tuple h
    obtain ⟨u, y, ei, ru, ry⟩ := vals2 rv
    subst ei
    cases (show u = Value.ref kv.2.1 from ru)
    refine ⟨(kv.1, kv.2.1, y) :: prs, .cons ⟨rfl, rfl, ry⟩ r, by rw [List.length_cons, List.length_cons, hl], fun j q e => ?_⟩
    cases j with
    | zero =>
      have e' : (kv.1, kv.2.1, y) = q := Option.some.inj e
      subst e'
      exact ⟨p, rfl, ht⟩
    | succ j =>
      obtain ⟨b, e1, e2⟩ := hp j q (by simpa using e)
      exact ⟨b, by simpa using e1, e2⟩
theorem PairDN.all {kvs : DNs} {prs : List (NestedKey × Addr × Value)} (r : Paired PairDN kvs prs) : ∀ {xs : DNs} {ys : List (NestedKey × Addr × Value)}, Paired PairDN xs ys → Paired PairDN (dnPutAll xs kvs) (storedAllH ys prs) := by
  induction r with
  | nil => exact fun r => r
  | @cons p q ps qs h r ih =>
    intro xs ys rx
    show Paired PairDN (dnPutAll (dnPut xs p.1 p.2.1 p.2.2) ps) (storedAllH (storedH ys q.1 q.2.1 q.2.2) qs)
    refine ih ?_
    rw [h.1, h.2.1]
    exact PairDN.put h.2.2 rx
theorem dnPutAll_len (kvs : DNs) : ∀ xs : DNs, (dnPutAll xs kvs).length ≤ xs.length + kvs.length := by
  induction kvs with
  | nil => exact fun xs => Nat.le_refl _
  | cons p kvs ih =>
    intro xs
    have h1 := ih (dnPut xs p.1 p.2.1 p.2.2)
    have h2 := dnPut_len xs p.1 p.2.1 p.2.2
    show (dnPutAll (dnPut xs p.1 p.2.1 p.2.2) kvs).length ≤ _
    rw [List.length_cons]
    omega
theorem call_dictT (hc : X.calm = true) (hu : X.A.units + 64 < cLine) : CallR X (.type "dict") (rDictT X) := by
  intro pins s σ H xs us Q I r h
  obtain ⟨a, ps, kvs, rfl, hq, hp, hk, q⟩ := h
  obtain ⟨u, rfl, rx⟩ := r.one
  cases rx
  obtain ⟨its, rv, pl, hz⟩ := I.list hq
  have ei := refs_at rv
  subst ei
  rw [List.length_map] at hz
  obtain ⟨prs, rel, hl, hpr⟩ := dn_pairs I hp
  obtain ⟨o, n, ho, hcl, hd, hdat⟩ := pl
  obtain ⟨Ts, hTs⟩ : ∃ Ts : Nat → Addr, Ts = fun j => (ps[j]?).getD 0 := ⟨_, rfl⟩
  have lk : kvs.length = prs.length := PairDN.len rel
  have hm : (s.heap.objs.size == sysModules) = false := beq_eq_false_iff_ne.mpr (Nat.ne_of_gt I.big)
  have keys : ∀ x ∈ prs, NestedIs s.heap x.1 (.ref x.2.1) ∧ x.1.depth ≤ 8 := by
    have all : ∀ {kvs : DNs} {prs : List (NestedKey × Addr × Value)}, Paired PairDN kvs prs → DNk X.K H kvs → ∀ x ∈ prs, NestedIs s.heap x.1 (.ref x.2.1) ∧ x.1.depth ≤ 8 := by
      intro kvs prs r hk
      induction r with
      | nil => intro x hx; cases hx
      | @cons p q ps qs h r ih =>
        intro x hx
        rcases List.mem_cons.mp hx with rfl | hx
        · obtain ⟨d, kv⟩ := hk p List.mem_cons_self
          exact ⟨by rw [← h.1, ← h.2.1]; exact key_is I kv rfl, by rw [← h.1]; exact d⟩
        · exact ih (fun y hy => hk y (List.mem_cons_of_mem _ hy)) x hx
    exact all rel hk
  refine call_dict_pairsH (knd := nestedKind X.prog X.w) (ps := prs) (PairArg.list a _ Ts (prs.map fun q => (Value.ref q.2.1, q.2.2))) (I.ok.hd hc) (by show X.A.units + 1 + 1 + 8 < cLine; omega) ⟨⟨o, n, ho, hcl, hd, hdat⟩, ?_⟩ ⟨by rw [List.length_map], fun i key v hr => ?_⟩ (fun h' hk' x hx => ?_) (by rw [List.length_map, hl]; exact hz) fun h' tk dd kp => ?_
  · refine ⟨by rw [List.length_map, hl]; simp, fun j k v hj => ?_⟩
    rw [List.getElem?_map] at hj
    cases e : prs[j]? with
    | none => rw [e] at hj; cases hj
    | some x =>
      rw [e] at hj
      cases hj
      obtain ⟨b, e1, e2⟩ := hpr j x e
      have eT : Ts j = b := by rw [hTs]; show (ps[j]?).getD 0 = b; rw [e1]; rfl
      rw [eT]
      refine ⟨by simp [e1], .inl ?_⟩
      obtain ⟨ot, h1, h2, h3, h4⟩ := e2
      exact ⟨ot, h1, h2, h3, h4⟩
  · have hr : (prs.map fun q => (Value.ref q.2.1, q.2.2))[i]? = some (key, v) := hr
    rw [List.getElem?_map] at hr
    cases e : prs[i]? with
    | none => rw [e] at hr; cases hr
    | some x =>
      rw [e] at hr
      cases hr
      exact ⟨x.1, x.2.1, rfl, rfl⟩
  · obtain ⟨k1, k2⟩ := keys x hx
    exact ⟨NestedIs.at (fun a o vs n e _ => hk' a o (Nat.ne_of_lt (Heap.lt_size e)) (by simp) e) _ _ k1, k2⟩
  · obtain ⟨o', es', ep', g1, g2, g3, g4, _, g6⟩ := dd
    refine ⟨.ref s.heap.objs.size, upd H s.heap.objs.size (DNo X.prog X.w (dnPutAll [] kvs) s.heap.objs.size), I.laid (t' := tk) (fun b o e => kp b o (by simp) e) (Nat.le_refl _) (dn_new ⟨?_, hm, _, PairDN.all rel .nil, o', es', ep', g1, g2, g3, g4, g6⟩), rfl, q _ (I.hok.fresh (Nat.le_refl _))⟩
    have := dnPutAll_len kvs []
    rw [List.length_nil] at this
    omega
end
end L2
end
section
set_option Elab.async false
set_option linter.all false
set_option maxRecDepth 100000
set_option maxHeartbeats 1000000
open PySem PySem.Spec PyProof.Rows L2
namespace Sim
/-! dict(a list of pairs) whose keys are tuples, that is changed later -/
noncomputable def prsNK : List W → Option (List (NestedKey × W))
  | [] => some []
  | .tup [a, b] :: r => match tupNK a, prsNK r with
    | some k, some q => some ((k, b) :: q)
    | _, _ => none
  | _ => none
def knPutAll (xs kws : List (NestedKey × W)) : List (NestedKey × W) := kws.foldl (fun acc p => knPut acc p.1 p.2) xs
section
variable {X : Cx} {Wx : WX} {K : PySem.W.Frag} {G : Gm} {H : Hp} {P : Program} {wd : PySem.World}
theorem RepN.all {kws : List (NestedKey × W)} {kvs : DNs} (r : RepN K G H kws kvs) : ∀ {xs : List (NestedKey × W)} {ys : DNs}, RepN K G H xs ys → RepN K G H (knPutAll xs kws) (dnPutAll ys kvs) := by
  induction r with
  | nil => exact fun r => r
  | @cons k w b v kws kvs d rk rv r ih =>
    intro xs ys rx
    show RepN K G H (knPutAll (knPut xs k w) kws) (dnPutAll (dnPut ys k b v) kvs)
    exact ih (rx.put d rk rv)
theorem prsNK_rep : ∀ {ps : List W} {vs : List V} {kws : List (NestedKey × W)}, RepL K G H ps vs → prsNK ps = some kws → ∃ (as : List Addr) (kvs : DNs), vs = as.map V.ref ∧ Paired (fun p kv => SqT K H p [V.ref kv.2.1, kv.2.2]) as kvs ∧ RepN K G H kws kvs
  | [], _, kws, h, e => by cases h; cases e; exact ⟨[], [], rfl, .nil, .nil⟩
  | w :: ps, _, kws, h, e => by
    cases h with
    | cons rw' rl =>
      unfold prsNK at e
      split at e
      · rename_i h; cases h
      · rename_i a b r hw
        cases hw
        split at e
        · rename_i k q hk hq
          cases e
          obtain ⟨as, kvs, rfl, hp, rk⟩ := prsNK_rep rl hq
          obtain ⟨p, xs, rfl, sq, rx⟩ := tup_sq rw'
          obtain ⟨v, u, rfl, rv, ru⟩ := rx.two
          obtain ⟨hd, kv, rk2, b2, rfl⟩ := tupNK_rep rv hk
          exact ⟨p :: as, (k, b2, u) :: kvs, rfl, .cons sq hp, .cons hd rk2 ru rk⟩
        · cases e
      · cases e
noncomputable def eDicTO (P : Program) (wd : PySem.World) (as : AM) : EM := fun ρ st => (as ρ st).bind fun ws st1 => match ws with
  | [x] => match lstOf st1 x with
    | some ps => match prsNK ps with
      | some kws => .ok (.loc st1.length) (st1 ++ [some (.dn P wd (knPutAll [] kws))])
      | none => .no
    | none => .no
  | _ => .no
theorem sem_dicTO {ta : TA} {as : AM} (ha : SemA X.K Wx ta as) : SemE X.K Wx (tCB (rDictT X) ta) (eDicTO X.prog X.w as) := fun G H ρ σ Q w rr h => by
  refine ha G H ρ σ _ w rr (PostR.bind h fun ws st1 ls1 H1 vs he e1 w1 rv h1 => ?_)
  clear he
  split at h1
  · rename_i x
    split at h1
    · rename_i ps hps
      split at h1
      · rename_i kws hk
        obtain ⟨v, rfl, rx⟩ := rv.one
        obtain ⟨a, vs, rfl, sq, rps⟩ := lst_sq w1 rx hps
        obtain ⟨as, kvs, rfl, hp, rk⟩ := prsNK_rep rps hk
        refine ⟨a, as, kvs, rfl, sq, hp, rk.keys, fun p hn => ?_⟩
        have rm : RepN X.K (G.to ls1 st1) H1 (knPutAll [] kws) (dnPutAll [] kvs) := RepN.all rk .nil
        exact post_push (G := G.to ls1 st1) (ob := .dn X.prog X.w (knPutAll [] kws)) w1 hn h1 (RepN.ob upd_same (rm.mono (Ext.push w1 _ hn)))
      · exact h1.elim
    · exact h1.elim
  · exact h1.elim
theorem ce_dicTO {x : Str} {e : Expr} {es : List Expr} {p pos : Pos} {t : TA} {as : AM} (hu : X.A.units + 64 < cLine) (hcalm : X.calm = true) (hg : Gl X x) (hm : X.mg x = none) (hv : bootBuiltins x = some (.type "dict")) (ha : CA X Wx (e :: es) t as) (hn : x ≠ "__name__" := by decide) (hdb : (x == ("__debug__" : Str)) = false := by decide)
    (he : starEach (e :: es) X.env = (false, eval e X.env) :: starEach es X.env := by rfl) (hpl : (backTo pos (starEach es X.env)).any (·.1) = false := by rfl) : CE X Wx (.Call (.Name x p) (e :: es) [] pos) (tCB (rDictT X) t) (eDicTO X.prog X.w as) :=
  ⟨pe_callTy (call_dictT hcalm hu) hg hm hv ha.pe hn hdb he hpl, sem_dicTO ha.sem⟩
noncomputable def dpT (P : Program) (wd : PySem.World) (r : Rs (List W)) : Rs W := match r with
  | .ok ws s => (match ws with
    | [x] => match lstOf s x with
      | some ps => match prsNK ps with
        | some kws => .ok (.loc s.length) (s ++ [some (.dn P wd (knPutAll [] kws))])
        | none => .no
      | none => .no
    | _ => .no)
  | .er x s => .er x s
  | .no => .no
theorem ev_dicTO {ρ : Ev} {st : Stt} (as : AM) : eDicTO P wd as ρ st = dpT P wd (as ρ st) := by
  unfold eDicTO dpT
  cases as ρ st <;> rfl
theorem dpT_ok {st : Stt} {x : W} {ps : List W} {kws : List (NestedKey × W)} (h : lstOf st x = some ps) (k : prsNK ps = some kws) : dpT P wd (.ok [x] st) = .ok (.loc st.length) (st ++ [some (.dn P wd (knPutAll [] kws))]) := by
  unfold dpT
  dsimp only
  rw [h]
  dsimp only
  rw [k]
end
end Sim
end
section
set_option Elab.async false
set_option linter.all false
set_option maxRecDepth 100000
set_option maxHeartbeats 4000000
open PySem PySem.Spec PyProof.Rows L2
namespace Lw
open Sim
abbrev pW : Program := PySem.Challenge.pw_twonames_k19_whole_fewest_names_by_all
def topS (i : Nat) : Stmt := pW.main.body.getD i (.Pass ⟨0, 0, 0, 0⟩)
abbrev s_is_letter : Stmt := topS 6
abbrev nm_is_letter : List Str := ["thing"]
theorem sc_is_letter : FnScope nm_is_letter ["thing"] (defScope s_is_letter) := ⟨rfl, rfl, rfl, by decide +kernel, rfl, by decide +kernel, by decide +kernel⟩
abbrev s_is_row : Stmt := topS 7
abbrev nm_is_row : List Str := ["thing", "one"]
theorem sc_is_row : FnScope nm_is_row ["thing"] (defScope s_is_row) := ⟨rfl, rfl, rfl, by decide +kernel, rfl, by decide +kernel, by decide +kernel⟩
abbrev s_is_pair : Stmt := topS 8
abbrev nm_is_pair : List Str := ["thing", "row"]
theorem sc_is_pair : FnScope nm_is_pair ["thing"] (defScope s_is_pair) := ⟨rfl, rfl, rfl, by decide +kernel, rfl, by decide +kernel, by decide +kernel⟩
abbrev s_need_pair : Stmt := topS 9
abbrev nm_need_pair : List Str := ["pair"]
theorem sc_need_pair : FnScope nm_need_pair ["pair"] (defScope s_need_pair) := ⟨rfl, rfl, rfl, by decide +kernel, rfl, by decide +kernel, by decide +kernel⟩
abbrev s_read_as : Stmt := topS 11
abbrev nm_read_as : List Str := ["pair"]
theorem sc_read_as : FnScope nm_read_as ["pair"] (defScope s_read_as) := ⟨rfl, rfl, rfl, by decide +kernel, rfl, by decide +kernel, by decide +kernel⟩
abbrev s_rings_of : Stmt := topS 12
abbrev nm_rings_of : List Str := ["nexts", "found", "known", "letter", "ring", "one"]
theorem sc_rings_of : FnScope nm_rings_of ["nexts"] (defScope s_rings_of) := ⟨rfl, rfl, rfl, by decide +kernel, rfl, by decide +kernel, by decide +kernel⟩
abbrev s_rings : Stmt := topS 13
abbrev nm_rings : List Str := ["pair"]
theorem sc_rings : FnScope nm_rings ["pair"] (defScope s_rings) := ⟨rfl, rfl, rfl, by decide +kernel, rfl, by decide +kernel, by decide +kernel⟩
abbrev s_names_needed : Stmt := topS 16
abbrev nm_names_needed : List Str := ["pair"]
theorem sc_names_needed : FnScope nm_names_needed ["pair"] (defScope s_names_needed) := ⟨rfl, rfl, rfl, by decide +kernel, rfl, by decide +kernel, by decide +kernel⟩
abbrev s__law_cell_at : Stmt := topS 18
abbrev nm__law_cell_at : List Str := ["script", "k"]
theorem sc__law_cell_at : FnScope nm__law_cell_at ["script", "k"] (defScope s__law_cell_at) := ⟨rfl, rfl, rfl, by decide +kernel, rfl, by decide +kernel, by decide +kernel⟩
abbrev s__law_bag : Stmt := topS 19
abbrev nm__law_bag : List Str := ["cell"]
theorem sc__law_bag : FnScope nm__law_bag ["cell"] (defScope s__law_bag) := ⟨rfl, rfl, rfl, by decide +kernel, rfl, by decide +kernel, by decide +kernel⟩
abbrev s__law_draw : Stmt := topS 20
abbrev nm__law_draw : List Str := ["bag", "sides", "digit"]
theorem sc__law_draw : FnScope nm__law_draw ["bag", "sides"] (defScope s__law_draw) := ⟨rfl, rfl, rfl, by decide +kernel, rfl, by decide +kernel, by decide +kernel⟩
abbrev s__law_line : Stmt := topS 21
abbrev nm__law_line : List Str := ["bag", "upto", "size", "stock", "k"]
theorem sc__law_line : FnScope nm__law_line ["bag", "upto"] (defScope s__law_line) := ⟨rfl, rfl, rfl, by decide +kernel, rfl, by decide +kernel, by decide +kernel⟩
abbrev s__law_front : Stmt := topS 22
abbrev nm__law_front : List Str := ["line", "spot"]
theorem sc__law_front : FnScope nm__law_front ["line", "spot"] (defScope s__law_front) := ⟨rfl, rfl, rfl, by decide +kernel, rfl, by decide +kernel, by decide +kernel⟩
abbrev s__law_act : Stmt := topS 23
abbrev nm__law_act : List Str := ["two", "act", "one", "other", "kind", "named", "later", "told_letter", "heard_at", "notes"]
theorem sc__law_act : FnScope nm__law_act ["two", "act"] (defScope s__law_act) := ⟨rfl, rfl, rfl, by decide +kernel, rfl, by decide +kernel, by decide +kernel⟩
abbrev s__law_all_lines : Stmt := topS 24
abbrev nm__law_all_lines : List Str := ["line", "found", "k", "longer", "some", "one"]
theorem sc__law_all_lines : FnScope nm__law_all_lines ["line"] (defScope s__law_all_lines) := ⟨rfl, rfl, rfl, by decide +kernel, rfl, by decide +kernel, by decide +kernel⟩
abbrev s__law_by_places : Stmt := topS 25
abbrev nm__law_by_places : List Str := ["two", "found", "left_ones", "now", "spot", "later"]
theorem sc__law_by_places : FnScope nm__law_by_places ["two"] (defScope s__law_by_places) := ⟨rfl, rfl, rfl, by decide +kernel, rfl, by decide +kernel, by decide +kernel⟩
abbrev s__law_least_names : Stmt := topS 26
abbrev nm__law_least_names : List Str := ["two", "layer", "one", "known", "many_names", "further", "letter_now", "later", "more"]
theorem sc__law_least_names : FnScope nm__law_least_names ["two"] (defScope s__law_least_names) := ⟨rfl, rfl, rfl, by decide +kernel, rfl, by decide +kernel, by decide +kernel⟩
abbrev s_law : Stmt := topS 27
abbrev nm_law : List Str := ["script", "k", "bag", "line", "lines", "turn", "two"]
theorem sc_law : FnScope nm_law ["script"] (defScope s_law) := ⟨rfl, rfl, rfl, by decide +kernel, rfl, by decide +kernel, by decide +kernel⟩
structure Txt (K : PySem.W.Frag) (mg : Str → Option Value) where
  f_is_letter : Addr
  d_is_letter : FuncData
  F_is_letter : Fun K "is_letter" "is_letter" s_is_letter f_is_letter d_is_letter
  b_is_letter : Binds K d_is_letter ["thing"] []
  g_is_letter : mg "is_letter" = some (.ref f_is_letter)
  f_is_row : Addr
  d_is_row : FuncData
  F_is_row : Fun K "is_row" "is_row" s_is_row f_is_row d_is_row
  b_is_row : Binds K d_is_row ["thing"] []
  g_is_row : mg "is_row" = some (.ref f_is_row)
  f_is_pair : Addr
  d_is_pair : FuncData
  F_is_pair : Fun K "is_pair" "is_pair" s_is_pair f_is_pair d_is_pair
  b_is_pair : Binds K d_is_pair ["thing"] []
  g_is_pair : mg "is_pair" = some (.ref f_is_pair)
  f_need_pair : Addr
  d_need_pair : FuncData
  F_need_pair : Fun K "need_pair" "need_pair" s_need_pair f_need_pair d_need_pair
  b_need_pair : Binds K d_need_pair ["pair"] []
  g_need_pair : mg "need_pair" = some (.ref f_need_pair)
  f_read_as : Addr
  d_read_as : FuncData
  F_read_as : Fun K "read_as" "read_as" s_read_as f_read_as d_read_as
  b_read_as : Binds K d_read_as ["pair"] []
  g_read_as : mg "read_as" = some (.ref f_read_as)
  f_rings_of : Addr
  d_rings_of : FuncData
  F_rings_of : Fun K "rings_of" "rings_of" s_rings_of f_rings_of d_rings_of
  b_rings_of : Binds K d_rings_of ["nexts"] []
  g_rings_of : mg "rings_of" = some (.ref f_rings_of)
  f_rings : Addr
  d_rings : FuncData
  F_rings : Fun K "rings" "rings" s_rings f_rings d_rings
  b_rings : Binds K d_rings ["pair"] []
  g_rings : mg "rings" = some (.ref f_rings)
  f_names_needed : Addr
  d_names_needed : FuncData
  F_names_needed : Fun K "names_needed" "names_needed" s_names_needed f_names_needed d_names_needed
  b_names_needed : Binds K d_names_needed ["pair"] []
  g_names_needed : mg "names_needed" = some (.ref f_names_needed)
  f__law_cell_at : Addr
  d__law_cell_at : FuncData
  F__law_cell_at : Fun K "_law_cell_at" "_law_cell_at" s__law_cell_at f__law_cell_at d__law_cell_at
  b__law_cell_at : Binds K d__law_cell_at ["script", "k"] []
  g__law_cell_at : mg "_law_cell_at" = some (.ref f__law_cell_at)
  f__law_bag : Addr
  d__law_bag : FuncData
  F__law_bag : Fun K "_law_bag" "_law_bag" s__law_bag f__law_bag d__law_bag
  b__law_bag : Binds K d__law_bag ["cell"] []
  g__law_bag : mg "_law_bag" = some (.ref f__law_bag)
  f__law_draw : Addr
  d__law_draw : FuncData
  F__law_draw : Fun K "_law_draw" "_law_draw" s__law_draw f__law_draw d__law_draw
  b__law_draw : Binds K d__law_draw ["bag", "sides"] []
  g__law_draw : mg "_law_draw" = some (.ref f__law_draw)
  f__law_line : Addr
  d__law_line : FuncData
  F__law_line : Fun K "_law_line" "_law_line" s__law_line f__law_line d__law_line
  b__law_line : Binds K d__law_line ["bag", "upto"] []
  g__law_line : mg "_law_line" = some (.ref f__law_line)
  f__law_front : Addr
  d__law_front : FuncData
  F__law_front : Fun K "_law_front" "_law_front" s__law_front f__law_front d__law_front
  b__law_front : Binds K d__law_front ["line", "spot"] []
  g__law_front : mg "_law_front" = some (.ref f__law_front)
  f__law_act : Addr
  d__law_act : FuncData
  F__law_act : Fun K "_law_act" "_law_act" s__law_act f__law_act d__law_act
  b__law_act : Binds K d__law_act ["two", "act"] []
  g__law_act : mg "_law_act" = some (.ref f__law_act)
  f__law_all_lines : Addr
  d__law_all_lines : FuncData
  F__law_all_lines : Fun K "_law_all_lines" "_law_all_lines" s__law_all_lines f__law_all_lines d__law_all_lines
  b__law_all_lines : Binds K d__law_all_lines ["line"] []
  g__law_all_lines : mg "_law_all_lines" = some (.ref f__law_all_lines)
  f__law_by_places : Addr
  d__law_by_places : FuncData
  F__law_by_places : Fun K "_law_by_places" "_law_by_places" s__law_by_places f__law_by_places d__law_by_places
  b__law_by_places : Binds K d__law_by_places ["two"] []
  g__law_by_places : mg "_law_by_places" = some (.ref f__law_by_places)
  f__law_least_names : Addr
  d__law_least_names : FuncData
  F__law_least_names : Fun K "_law_least_names" "_law_least_names" s__law_least_names f__law_least_names d__law_least_names
  b__law_least_names : Binds K d__law_least_names ["two"] []
  g__law_least_names : mg "_law_least_names" = some (.ref f__law_least_names)
  f_law : Addr
  d_law : FuncData
  F_law : Fun K "law" "law" s_law f_law d_law
  b_law : Binds K d_law ["script"] []
  g_law : mg "law" = some (.ref f_law)
  t_LETTERS : Tok
  g_LETTERS : mg "LETTERS" = some (.str "abcdefghijklmnopqrstuvwxyz" t_LETTERS)
  t_MOST_LETTERS : Tok
  g_MOST_LETTERS : mg "MOST_LETTERS" = some (.int 16 t_MOST_LETTERS)
  t_MOST_NAMES : Tok
  g_MOST_NAMES : mg "MOST_NAMES" = some (.int 2 t_MOST_NAMES)
  z_all : mg "all" = none
  z_dict : mg "dict" = none
  z_isinstance : mg "isinstance" = none
  z_len : mg "len" = none
  z_list : mg "list" = none
  z_max : mg "max" = none
  z_min : mg "min" = none
  z_range : mg "range" = none
  z_set : mg "set" = none
  z_sorted : mg "sorted" = none
  z_str : mg "str" = none
  z_tuple : mg "tuple" = none
  z_zip : mg "zip" = none
section
variable {P : Program} {w : PySem.World} {K : PySem.W.Frag} {mg : Str → Option Value} {base : Heap}
noncomputable def r_is_letter : FM := mFun 1
    (sRet (emAnd (eFn fIsi (aCons (eVar 0) (aCons (eC (.ty "str")) aNil))) (emAnd (eOp fEq (eFn fLen (aCons (eVar 0) aNil)) (eC (.int 1))) (eOp (fIn false) (eVar 0) (eC (.str "abcdefghijklmnopqrstuvwxyz"))))))
noncomputable def m_is_letter : FM := frz r_is_letter
theorem ok_is_letter (T : Txt K mg) : FnOk P w K mg base (L2N.CX P w) 1 T.f_is_letter T.d_is_letter ["thing"] (spF K 1 m_is_letter) :=
  fn_frz (m := r_is_letter) (fn_ok T.F_is_letter sc_is_letter rfl (fun cdv A outer s H E hr => ⟨_, (css_one (cs_ret (ce_and (ce_fnB call_isi fs_isi (by rfl) T.z_isinstance (by decide +kernel) (ca_cons (ce_var 0) (ca_cons (ce_ty (by rfl) T.z_str (by decide +kernel)) ca_nil))) (ce_and (ce_cmp (op_eqD hr.units) os_eq (ce_fnB call_len_any fs_len (by rfl) T.z_len (by decide +kernel) (ca_cons (ce_var 0) ca_nil)) ce_int) (ce_one (ce_cmp op_inU (os_in false) (ce_var 0) (ce_glob (v := (.str "abcdefghijklmnopqrstuvwxyz")) (.str "abcdefghijklmnopqrstuvwxyz") (by rfl) T.g_LETTERS ⟨_, rfl⟩ (fun _ _ => .str _))))))))⟩))
noncomputable def r_read_as : FM := mFun 1
    (sRet (eDictZip (aCons (eOp fIx (eVar 0) (eC (.int 0))) (aCons (eOp fIx (eVar 0) (eC (.int 1))) aNil))))
noncomputable def m_read_as : FM := frz r_read_as
theorem ok_read_as (T : Txt K mg) : FnOk P w K mg base (L2N.CX P w) 1 T.f_read_as T.d_read_as ["pair"] (spF K 1 m_read_as) :=
  fn_frz (m := r_read_as) (fn_ok T.F_read_as sc_read_as rfl (fun cdv A outer s H E hr => ⟨_, (css_one (cs_ret (ce_dictZip rfl (by rfl) T.z_zip (by rfl) T.z_dict (ca_cons (ce_ix (ce_var 0) ce_int (fun _ _ => rfl)) (ca_cons (ce_ix (ce_var 0) ce_int (fun _ _ => rfl)) ca_nil)))))⟩))
noncomputable def r_rings_of : FM := mFun 6
    (sSeq (sAsg (eLstL aNil) (gmName 1))
    (sSeq (sAsg eDic0 (gmName 2))
    (sSeq (sFor (iSeq (eFnV fSortedD (aCons (eVar 0) aNil))) (gmName 3) (sIf (tmAnd (tmV (eOp (fDin true) (eVar 3) (eVar 2))) (tmV (eOp fNe (eDget (eVar 0) (eVar 3)) (eVar 3)))) (sSeq (sAsg (eLstL (aCons (eVar 3) aNil)) (gmName 4))
    (sSeq (whileW 1000000 (tmV (eOp fNe (eDget (eVar 0) (eOp fIx (eVar 4) (eNeg (eC (.int 1))))) (eVar 3))) (sDrop (eBM (eVar 4) (aCons (eDget (eVar 0) (eOp fIx (eVar 4) (eNeg (eC (.int 1))))) aNil) (mUp fAppend))))
    (sSeq (sDrop (eDM (eVar 2) (aCons (eDc (iSeq (eVar 4)) (gmName 5) tmYes (eVar 5) (eC (.bl true)) [5]) aNil) mUpdD))
    (sDrop (eBM (eVar 1) (aCons (eFn fTuple (aCons (eVar 4) aNil)) aNil) (mUp fAppend)))))) sNext))
    (sRet (eVar 1)))))
noncomputable def m_rings_of : FM := frz r_rings_of
theorem ok_rings_of (T : Txt K mg) : FnOk P w K mg base (L2N.CX P w) 1 T.f_rings_of T.d_rings_of ["nexts"] (spF K 1 m_rings_of) :=
  fn_frz (m := r_rings_of) (fn_ok T.F_rings_of sc_rings_of rfl (fun cdv A outer s H E hr => ⟨_, (css_cons (cs_set (i := 1) sc_rings_of.nd rfl (.inl rfl) (ce_lstL ca_nil))
    (css_cons (cs_set (i := 2) sc_rings_of.nd rfl (.inl rfl) ce_dic0)
    (css_cons (cs_for (passes_of rfl) rfl (ci_seq (ce_fnBV (cr_sortedD rfl) fn_sortedD (by rfl) T.z_sorted (by decide +kernel) (ca_cons (ce_var 0) ca_nil))) (cg_name (i := 3) sc_rings_of.nd rfl (.inl rfl)) (css_one (cs_if (CW.ct (cw_and (ct_dnotin (L2.hu_of hr) (ce_var 3) (ce_var 2)) (cw_and1 (ct_cmp (op_neD hr.units) os_ne (ce_dget (L2.hu_of hr) (ce_var 0) (ce_var 3) (fun _ _ => rfl)) (ce_var 3))))) (css_cons (cs_set (i := 4) sc_rings_of.nd rfl (.inl rfl) (ce_lstL (ca_cons (ce_var 3) ca_nil)))
    (css_cons (cs_while 1000000 (passes_of rfl) (ct_cmp (op_neD hr.units) os_ne (ce_dget (L2.hu_of hr) (ce_var 0) (ce_ix (ce_var 4) (ce_neg ce_int) (fun _ _ => rfl)) (fun _ _ => rfl)) (ce_var 3)) (css_one (cs_expr (ce_bm PySem.F.slot_list_append PySem.F.type_list_append mt_append ms_append (ce_var 4) (ca_cons (ce_dget (L2.hu_of hr) (ce_var 0) (ce_ix (ce_var 4) (ce_neg ce_int) (fun _ _ => rfl)) (fun _ _ => rfl)) ca_nil)))))
    (css_cons (cs_expr (ce_dm PySem.F.slot_dict_update PySem.F.type_dict_update mt_updD ms_updD (ce_var 2) (ca_cons (ce_dc (own := [("one", 5)]) rfl sc_rings_of.nd (ci_seq (ce_var 4)) (blkOk_by (own := [("one", 5)]) (N := nm_rings_of) (sc := defScope s_rings_of) (by decide +kernel)) (fun _ _ _ _ _ => (cg_name (i := 5) sc_rings_of.nd rfl (.inl rfl))) (fun _ _ _ _ _ => cts_nil) (blkE fun _ _ _ _ _ => ⟨_, ce_var 5, by first | (dsimp only [L2.Cx.blk]; done) | rfl | (dsimp only [L2.Cx.blk]; rfl)⟩) (blkE fun _ _ _ _ _ => ⟨_, ce_bl, by first | (dsimp only [L2.Cx.blk]; done) | rfl | (dsimp only [L2.Cx.blk]; rfl)⟩)) ca_nil)))
    (css_one (cs_expr (ce_bm PySem.F.slot_list_append PySem.F.type_list_append mt_append ms_append (ce_var 1) (ca_cons (ce_fnT cr_tupF fs_tuple (by rfl) T.z_tuple (by decide +kernel) (ca_cons (ce_var 4) ca_nil)) ca_nil))))))) css_nil)))
    (css_one (cs_ret (ce_var 1))))))⟩))
noncomputable def r__law_cell_at : FM := mFun 2
    (sSeq (sIf (tmV (eOp fLt (eVar 1) (eFn fLen (aCons (eVar 0) aNil)))) (sRet (eOp fIx (eVar 0) (eVar 1))) sNext)
    (sRet (eC (.int 0))))
noncomputable def m__law_cell_at : FM := frz r__law_cell_at
theorem ok__law_cell_at (T : Txt K mg) : FnOk P w K mg base (L2N.CX P w) 1 T.f__law_cell_at T.d__law_cell_at ["script", "k"] (spF K 2 m__law_cell_at) :=
  fn_frz (m := r__law_cell_at) (fn_ok T.F__law_cell_at sc__law_cell_at rfl (fun cdv A outer s H E hr => ⟨_, (css_cons (cs_if (ct_cmp op_lt os_lt (ce_var 1) (ce_fnB call_len_any fs_len (by rfl) T.z_len (by decide +kernel) (ca_cons (ce_var 0) ca_nil))) (css_one (cs_ret (ce_ix (ce_var 0) (ce_var 1) (fun _ _ => rfl)))) css_nil)
    (css_one (cs_ret ce_int)))⟩))
noncomputable def r__law_bag : FM := mFun 1
    (sRet (eLstL (aCons (eFn fMax (aCons (eC (.int 1)) (aCons (eOp fSub (eVar 0) (eOp fPow (eC (.int 10)) (eC (.int 18)))) aNil))) (aCons (eOp fMod (eVar 0) (eOp fAdd (eOp fPow (eC (.int 10)) (eC (.int 40))) (eC (.int 121)))) (aCons (eC (.int 0)) aNil)))))
noncomputable def m__law_bag : FM := frzL r__law_bag
theorem ok__law_bag (T : Txt K mg) : FnOk P w K mg base (L2N.CX P w) 1 T.f__law_bag T.d__law_bag ["cell"] (spF K 1 m__law_bag) :=
  fn_frzL (m := r__law_bag) (fn_ok T.F__law_bag sc__law_bag rfl (fun cdv A outer s H E hr => ⟨_, (css_one (cs_ret (ce_lstL (ca_cons (ce_fnB (cr_maxU rfl) fs_max (by rfl) T.z_max (by decide +kernel) (ca_cons ce_int (ca_cons (ce_op op_sub os_sub (ce_var 0) (ce_op Low.op_powW os_pow ce_int ce_int)) ca_nil))) (ca_cons (ce_op op_mod os_mod (ce_var 0) (ce_op op_add4 os_add (ce_op Low.op_powW os_pow ce_int ce_int) ce_int)) (ca_cons ce_int ca_nil))))))⟩))
noncomputable def r__law_draw : FM := mFun 3
    (sSeq (sIf (tmV (eOp fGt (eOp fIx (eVar 0) (eC (.int 0))) (eC (.int 1)))) (sSeq (sAsg (eOp fMod (eOp fIx (eVar 0) (eC (.int 0))) (eVar 1)) (gmName 2))
    (sSeq (sSetIx (eOp fDiv (eOp fIx (eVar 0) (eC (.int 0))) (eVar 1)) (eVar 0) (eC (.int 0)))
    (sRet (eVar 2)))) sNext)
    (sSeq (sSetIx (eOp fAdd (eOp fIx (eVar 0) (eC (.int 2))) (eC (.int 1))) (eVar 0) (eC (.int 2)))
    (sSeq (sAsg (eOp fMod (eOp fPow (eOp fAdd (eOp fIx (eVar 0) (eC (.int 1))) (eOp fMul (eOp fIx (eVar 0) (eC (.int 2))) (eC (.int 982451653)))) (eC (.int 5))) (eOp fAdd (eOp fPow (eC (.int 10)) (eC (.int 39))) (eC (.int 3)))) (gmName 2))
    (sSeq (sAsg (eOp fMod (eOp fPow (eOp fAdd (eVar 2) (eOp fMul (eOp fIx (eVar 0) (eC (.int 2))) (eC (.int 15485863)))) (eC (.int 3))) (eOp fAdd (eOp fPow (eC (.int 10)) (eC (.int 36))) (eC (.int 67)))) (gmName 2))
    (sRet (eOp fMod (eOp fDiv (eVar 2) (eC (.int 1024))) (eVar 1)))))))
noncomputable def m__law_draw : FM := frz r__law_draw
theorem ok__law_draw (T : Txt K mg) : FnOk P w K mg base (L2N.CX P w) 1 T.f__law_draw T.d__law_draw ["bag", "sides"] (spF K 2 m__law_draw) :=
  fn_frz (m := r__law_draw) (fn_ok T.F__law_draw sc__law_draw rfl (fun cdv A outer s H E hr => ⟨_, (css_cons (cs_if (ct_cmp op_gt os_gt (ce_ix (ce_var 0) ce_int (fun _ _ => rfl)) ce_int) (css_cons (cs_set (i := 2) sc__law_draw.nd rfl (.inl rfl) (ce_op op_mod os_mod (ce_ix (ce_var 0) ce_int (fun _ _ => rfl)) (ce_var 1)))
    (css_cons (cs_setIx (ce_op op_fdivW os_div (ce_ix (ce_var 0) ce_int (fun _ _ => rfl)) (ce_var 1)) (ce_var 0) ce_int)
    (css_one (cs_ret (ce_var 2))))) css_nil)
    (css_cons (cs_setIx (ce_op op_add4 os_add (ce_ix (ce_var 0) ce_int (fun _ _ => rfl)) ce_int) (ce_var 0) ce_int)
    (css_cons (cs_set (i := 2) sc__law_draw.nd rfl (.inl rfl) (ce_op op_mod os_mod (ce_op Low.op_powW os_pow (ce_op op_add4 os_add (ce_ix (ce_var 0) ce_int (fun _ _ => rfl)) (ce_op op_mul2 os_mul (ce_ix (ce_var 0) ce_int (fun _ _ => rfl)) ce_int)) ce_int) (ce_op op_add4 os_add (ce_op Low.op_powW os_pow ce_int ce_int) ce_int)))
    (css_cons (cs_set (i := 2) sc__law_draw.nd rfl (.inl rfl) (ce_op op_mod os_mod (ce_op Low.op_powW os_pow (ce_op op_add4 os_add (ce_var 2) (ce_op op_mul2 os_mul (ce_ix (ce_var 0) ce_int (fun _ _ => rfl)) ce_int)) ce_int) (ce_op op_add4 os_add (ce_op Low.op_powW os_pow ce_int ce_int) ce_int)))
    (css_one (cs_ret (ce_op op_mod os_mod (ce_op op_fdivW os_div (ce_var 2) ce_int) (ce_var 1))))))))⟩))
noncomputable def r__law_front : FM := mFun 2
    (sRet (eOp fAdd (eOp fAdd (eTup (aCons (eOp fIx (eVar 0) (eVar 1)) aNil)) (eSl (eVar 0) oNone (oSome (eVar 1)))) (eSl (eVar 0) (oSome (eOp fAdd (eVar 1) (eC (.int 1)))) oNone)))
noncomputable def m__law_front : FM := frz r__law_front
theorem ok__law_front (T : Txt K mg) : FnOk P w K mg base (L2N.CX P w) 1 T.f__law_front T.d__law_front ["line", "spot"] (spF K 2 m__law_front) :=
  fn_frz (m := r__law_front) (fn_ok T.F__law_front sc__law_front rfl (fun cdv A outer s H E hr => ⟨_, (css_one (cs_ret (ce_op op_add4 os_add (ce_op op_add4 os_add (ce_tup (ca_cons (ce_ix (ce_var 0) (ce_var 1) (fun _ _ => rfl)) ca_nil)) (ce_sl (ce_var 0) co_none (co_some (ce_var 1)))) (ce_sl (ce_var 0) (co_some (ce_op op_add4 os_add (ce_var 1) ce_int)) co_none))))⟩))
noncomputable def r__law_all_lines : FM := mFun 6
    (sSeq (sAsg (eLst (aCons (eTup aNil) aNil)) (gmName 1))
    (sSeq (sFor (iRange1 (aCons (eFn fLen (aCons (eVar 0) aNil)) aNil)) (gmName 2) (sSeq (sAsg (eLstL aNil) (gmName 3))
    (sSeq (sFor (iSeq (eVar 1)) (gmName 4) (sDrop (eBM (eVar 3) (aCons (eLc (iSeq (eVar 0)) (gmName 5) (tmV (eOp (fIn true) (eVar 5) (eVar 4))) (eOp fAdd (eVar 4) (eTup (aCons (eVar 5) aNil))) [5]) aNil) (mUp fExtend))))
    (sAsg (eVar 3) (gmName 1)))))
    (sRet (eVar 1))))
noncomputable def m__law_all_lines : FM := frz r__law_all_lines
theorem ok__law_all_lines (T : Txt K mg) : FnOk P w K mg base (L2N.CX P w) 1 T.f__law_all_lines T.d__law_all_lines ["line"] (spF K 1 m__law_all_lines) :=
  fn_frz (m := r__law_all_lines) (fn_ok T.F__law_all_lines sc__law_all_lines rfl (fun cdv A outer s H E hr => ⟨_, (css_cons (cs_set (i := 1) sc__law_all_lines.nd rfl (.inl rfl) (ce_lst (ca_cons (ce_tup ca_nil) ca_nil)))
    (css_cons (cs_for (passes_of rfl) rfl (ci_range1 (by rfl) T.z_range (ca_cons (ce_fnB call_len_any fs_len (by rfl) T.z_len (by decide +kernel) (ca_cons (ce_var 0) ca_nil)) ca_nil)) (cg_name (i := 2) sc__law_all_lines.nd rfl (.inl rfl)) (css_cons (cs_set (i := 3) sc__law_all_lines.nd rfl (.inl rfl) (ce_lstL ca_nil))
    (css_cons (cs_for (passes_of rfl) rfl (ci_seq (ce_var 1)) (cg_name (i := 4) sc__law_all_lines.nd rfl (.inr rfl)) (css_one (cs_expr (ce_bm PySem.F.slot_list_extend PySem.F.type_list_extend mt_extend ms_extend (ce_var 3) (ca_cons (ce_lc (own := [("one", 5)]) rfl sc__law_all_lines.nd (ci_seq (ce_var 0)) (blkOk_by (own := [("one", 5)]) (N := nm__law_all_lines) (sc := defScope s__law_all_lines) (by decide +kernel)) (fun _ _ _ _ _ => (cg_name (i := 5) sc__law_all_lines.nd rfl (.inl rfl))) (blkT fun _ _ _ _ _ => ⟨_, (cts_one (ct_cmp op_notInU (os_in true) (ce_var 5) (ce_var 4))), by first | (dsimp only [L2.Cx.blk]; done) | rfl | (dsimp only [L2.Cx.blk]; rfl)⟩) (blkE fun _ _ _ _ _ => ⟨_, (ce_op op_add4 os_add (ce_var 4) (ce_tup (ca_cons (ce_var 5) ca_nil))), by first | (dsimp only [L2.Cx.blk]; done) | rfl | (dsimp only [L2.Cx.blk]; rfl)⟩)) ca_nil)))))
    (css_one (cs_set (i := 1) sc__law_all_lines.nd rfl (.inl rfl) (ce_var 3))))))
    (css_one (cs_ret (ce_var 1)))))⟩))
noncomputable def r_is_row : FM := mFun 2
    (sSeq (sIf (tmOr (tmNot (tmV (eFn fIsi (aCons (eVar 0) (aCons (eC (.ty "tuple")) aNil))))) (tmNot (tmV (eChain fLe fLe (eC (.int 1)) (eFn fLen (aCons (eVar 0) aNil)) (eC (.int 16)))))) (sRet (eC (.bl false))) sNext)
    (sRet (emAnd (eFn fAll (aCons (eLc (iSeq (eVar 0)) (gmName 1) tmYes (eCall m_is_letter (aCons (eVar 1) aNil)) [1]) aNil)) (eOp fEq (eLenSet (eVar 0)) (eFn fLen (aCons (eVar 0) aNil))))))
noncomputable def m_is_row : FM := frz r_is_row
theorem ok_is_row (T : Txt K mg) : FnOk P w K mg base (L2N.CX P w) 2 T.f_is_row T.d_is_row ["thing"] (spF K 1 m_is_row) :=
  fn_frz (m := r_is_row) (fn_ok T.F_is_row sc_is_row rfl (fun cdv A outer s H E hr => ⟨_, (css_cons (cs_if (CW.ct (cw_or (ct_not (ct_val (ce_fnB call_isi fs_isi (by rfl) T.z_isinstance (by decide +kernel) (ca_cons (ce_var 0) (ca_cons (ce_ty (by rfl) T.z_tuple (by decide +kernel)) ca_nil))))) (cw_or1 (ct_not (ct_chain op_le os_le op_le os_le ce_int (ce_fnB call_len_any fs_len (by rfl) T.z_len (by decide +kernel) (ca_cons (ce_var 0) ca_nil)) (ce_glob (v := (.int 16)) (.int 16) (by rfl) T.g_MOST_LETTERS ⟨_, rfl⟩ (fun _ _ => .int _))))))) (css_one (cs_ret ce_bl)) css_nil)
    (css_one (cs_ret (ce_and (ce_fnB (cr_all rfl) fs_all (by rfl) T.z_all (by decide +kernel) (ca_cons (ce_lc (own := [("one", 1)]) rfl sc_is_row.nd (ci_seq (ce_var 0)) (blkOk_by (own := [("one", 1)]) (N := nm_is_row) (sc := defScope s_is_row) (by decide +kernel)) (fun _ _ _ _ _ => (cg_name (i := 1) sc_is_row.nd rfl (.inl rfl))) (fun _ _ _ _ _ => cts_nil) (blkE fun _ _ _ _ _ => ⟨_, (ce_call (n := 1) (ok_is_letter T) hr takes0N (by rfl) T.g_is_letter T.F_is_letter.kp T.b_is_letter (ca_cons (ce_var 1) ca_nil) (alen_cons alen_nil)), by first | (dsimp only [L2.Cx.blk]; done) | rfl | (dsimp only [L2.Cx.blk]; rfl)⟩)) ca_nil)) (ce_one (ce_cmp (op_eqD hr.units) os_eq (ce_lenSet rfl (by rfl) T.z_len (by rfl) T.z_set (ce_var 0)) (ce_fnB call_len_any fs_len (by rfl) T.z_len (by decide +kernel) (ca_cons (ce_var 0) ca_nil))))))))⟩))
noncomputable def r__law_line : FM := mFun 5
    (sSeq (sAsg (eOp fAdd (eC (.int 1)) (eCall m__law_draw (aCons (eVar 0) (aCons (eVar 1) aNil)))) (gmName 2))
    (sSeq (sAsg (eSlO (eFnV fList (aCons (eC (.str "abcdefghijklmnopqrstuvwxyz")) aNil)) (oSome (eCall m__law_draw (aCons (eVar 0) (aCons (eC (.int 11)) aNil)))) oNone) (gmName 3))
    (sSeq (sAsg (emIf (tmV (eOp fEq (eCall m__law_draw (aCons (eVar 0) (aCons (eC (.int 2)) aNil))) (eC (.int 0)))) (eSlO (eVar 3) oNone (oSome (eVar 2))) (eVar 3)) (gmName 3))
    (sRet (eFn fTuple (aCons (eLc (iRange1 (aCons (eVar 2) aNil)) (gmName 4) tmYes (eBM (eVar 3) (aCons (eCall m__law_draw (aCons (eVar 0) (aCons (eFn fLen (aCons (eVar 3) aNil)) aNil))) aNil) (mUp fPopAt)) [4]) aNil))))))
noncomputable def m__law_line : FM := frz r__law_line
theorem ok__law_line (T : Txt K mg) : FnOk P w K mg base (L2N.CX P w) 2 T.f__law_line T.d__law_line ["bag", "upto"] (spF K 2 m__law_line) :=
  fn_frz (m := r__law_line) (fn_ok T.F__law_line sc__law_line rfl (fun cdv A outer s H E hr => ⟨_, (css_cons (cs_set (i := 2) sc__law_line.nd rfl (.inl rfl) (ce_op op_add4 os_add ce_int (ce_call (n := 2) (ok__law_draw T) hr (L2N.takes_of rfl rfl rfl rfl) (by rfl) T.g__law_draw T.F__law_draw.kp T.b__law_draw (ca_cons (ce_var 0) (ca_cons (ce_var 1) ca_nil)) (alen_cons (alen_cons alen_nil)))))
    (css_cons (cs_set (i := 3) sc__law_line.nd rfl (.inr rfl) (ce_slO (ce_fnTV (cr_listU rfl) fn_list (by rfl) T.z_list (by decide +kernel) (ca_cons ce_str ca_nil)) (co_some (ce_call (n := 2) (ok__law_draw T) hr (L2N.takes_of rfl rfl rfl rfl) (by rfl) T.g__law_draw T.F__law_draw.kp T.b__law_draw (ca_cons (ce_var 0) (ca_cons ce_int ca_nil)) (alen_cons (alen_cons alen_nil)))) co_none))
    (css_cons (cs_set (i := 3) sc__law_line.nd rfl (.inr rfl) (ce_if (ct_cmp (op_eqD hr.units) os_eq (ce_call (n := 2) (ok__law_draw T) hr (L2N.takes_of rfl rfl rfl rfl) (by rfl) T.g__law_draw T.F__law_draw.kp T.b__law_draw (ca_cons (ce_var 0) (ca_cons ce_int ca_nil)) (alen_cons (alen_cons alen_nil))) ce_int) (ce_slO (ce_var 3) co_none (co_some (ce_var 2))) (ce_var 3)))
    (css_one (cs_ret (ce_fnT cr_tupF fs_tuple (by rfl) T.z_tuple (by decide +kernel) (ca_cons (ce_lc (own := [("k", 4)]) rfl sc__law_line.nd (ci_range1 (by rfl) T.z_range (ca_cons (ce_var 2) ca_nil)) (blkOk_by (own := [("k", 4)]) (N := nm__law_line) (sc := defScope s__law_line) (by decide +kernel)) (fun _ _ _ _ _ => (cg_name (i := 4) sc__law_line.nd rfl (.inl rfl))) (fun _ _ _ _ _ => cts_nil) (blkE fun _ _ _ _ _ => ⟨_, (ce_bm PySem.F.slot_list_pop PySem.F.type_list_pop mt_popAt ms_popAt (ce_var 3) (ca_cons (ce_call (n := 2) (ok__law_draw T) hr takes0N (by rfl) T.g__law_draw T.F__law_draw.kp T.b__law_draw (ca_cons (ce_var 0) (ca_cons (ce_fnB call_len_any fs_len (by rfl) T.z_len (by decide +kernel) (ca_cons (ce_var 3) ca_nil)) ca_nil)) (alen_cons (alen_cons alen_nil))) ca_nil)), by first | (dsimp only [L2.Cx.blk]; done) | rfl | (dsimp only [L2.Cx.blk]; rfl)⟩)) ca_nil)))))))⟩))
noncomputable def r__law_act : FM := mFun 10
    (sSeq (sAsg (eVar 0) (gmTup 2 (gmCons 2 (gmCons 3 gmNil))))
    (sSeq (sAsg (eOp fIx (eVar 1) (eC (.int 0))) (gmName 4))
    (sSeq (sIf (tmV (eOp fEq (eVar 4) (eC (.str "name")))) (sSeq (sAsg (eOp fIx (eVar 1) (eC (.int 1))) (gmName 5))
    (sSeq (sAsg (eTup (aCons (eCall m__law_front (aCons (eVar 2) (aCons (eIdxT (eVar 2) (aCons (eVar 5) aNil)) aNil))) (aCons (eCall m__law_front (aCons (eVar 3) (aCons (eIdxT (eVar 3) (aCons (eVar 5) aNil)) aNil))) aNil))) (gmName 6))
    (sRet (eTup (aCons (eVar 6) (aCons (eVar 5) (aCons (eLst (aCons (eVar 5) aNil)) aNil))))))) sNext)
    (sSeq (sAsg (eOp fIx (eVar 2) (eOp fIx (eVar 1) (eC (.int 1)))) (gmName 7))
    (sSeq (sIf (tmV (eOp fEq (eVar 4) (eC (.str "lost")))) (sRet (eTup (aCons (eTup (aCons (eCall m__law_front (aCons (eVar 2) (aCons (eOp fIx (eVar 1) (eC (.int 1))) aNil))) (aCons (eVar 3) aNil))) (aCons (eVar 7) (aCons (eLst aNil) aNil))))) sNext)
    (sSeq (sAsg (emIf (tmV (eOp fEq (eVar 4) (eC (.str "as")))) (eOp fIx (eVar 1) (eC (.int 2))) (eOp fIx (eVar 1) (eC (.int 1)))) (gmName 8))
    (sSeq (sAsg (eLstL (aCons (eOp fIx (eVar 3) (eVar 8)) aNil)) (gmName 9))
    (sSeq (sAsg (eCall m__law_front (aCons (eVar 3) (aCons (eVar 8) aNil))) (gmName 6))
    (sSeq (sIf (tmV (eOp fEq (eVar 4) (eC (.str "twice")))) (sSeq (sDrop (eBM (eVar 9) (aCons (eOp fIx (eVar 6) (eOp fIx (eVar 1) (eC (.int 1)))) aNil) (mUp fAppend)))
    (sAsg (eCall m__law_front (aCons (eVar 6) (aCons (eOp fIx (eVar 1) (eC (.int 1))) aNil))) (gmName 6))) sNext)
    (sRet (eTup (aCons (eTup (aCons (eCall m__law_front (aCons (eVar 2) (aCons (eOp fIx (eVar 1) (eC (.int 1))) aNil))) (aCons (eVar 6) aNil))) (aCons (eVar 7) (aCons (eVar 9) aNil))))))))))))))
noncomputable def m__law_act : FM := frz r__law_act
theorem ok__law_act (T : Txt K mg) : FnOk P w K mg base (L2N.CX P w) 2 T.f__law_act T.d__law_act ["two", "act"] (spF K 2 m__law_act) :=
  fn_frz (m := r__law_act) (fn_ok T.F__law_act sc__law_act rfl (fun cdv A outer s H E hr => ⟨_, (css_cons (cs_asg (ce_var 0) (cg_tup rfl (cgs_name (i := 2) sc__law_act.nd rfl (.inl rfl) (cgs_name (i := 3) sc__law_act.nd rfl (.inl rfl) cgs_nil))))
    (css_cons (cs_set (i := 4) sc__law_act.nd rfl (.inl rfl) (ce_ix (ce_var 1) ce_int (fun _ _ => rfl)))
    (css_cons (cs_if (ct_cmp (op_eqD hr.units) os_eq (ce_var 4) ce_str) (css_cons (cs_set (i := 5) sc__law_act.nd rfl (.inl rfl) (ce_ix (ce_var 1) ce_int (fun _ _ => rfl)))
    (css_cons (cs_set (i := 6) sc__law_act.nd rfl (.inl rfl) (ce_tup (ca_cons (ce_call (n := 2) (ok__law_front T) hr (L2N.takes_of rfl rfl rfl rfl) (by rfl) T.g__law_front T.F__law_front.kp T.b__law_front (ca_cons (ce_var 2) (ca_cons (ce_idxT (ce_var 2) (ca_cons (ce_var 5) ca_nil)) ca_nil)) (alen_cons (alen_cons alen_nil))) (ca_cons (ce_call (n := 2) (ok__law_front T) hr (L2N.takes_of rfl rfl rfl rfl) (by rfl) T.g__law_front T.F__law_front.kp T.b__law_front (ca_cons (ce_var 3) (ca_cons (ce_idxT (ce_var 3) (ca_cons (ce_var 5) ca_nil)) ca_nil)) (alen_cons (alen_cons alen_nil))) ca_nil))))
    (css_one (cs_ret (ce_tup (ca_cons (ce_var 6) (ca_cons (ce_var 5) (ca_cons (ce_lst (ca_cons (ce_var 5) ca_nil)) ca_nil)))))))) css_nil)
    (css_cons (cs_set (i := 7) sc__law_act.nd rfl (.inl rfl) (ce_ix (ce_var 2) (ce_ix (ce_var 1) ce_int (fun _ _ => rfl)) (fun _ _ => rfl)))
    (css_cons (cs_if (ct_cmp (op_eqD hr.units) os_eq (ce_var 4) ce_str) (css_one (cs_ret (ce_tup (ca_cons (ce_tup (ca_cons (ce_call (n := 2) (ok__law_front T) hr (L2N.takes_of rfl rfl rfl rfl) (by rfl) T.g__law_front T.F__law_front.kp T.b__law_front (ca_cons (ce_var 2) (ca_cons (ce_ix (ce_var 1) ce_int (fun _ _ => rfl)) ca_nil)) (alen_cons (alen_cons alen_nil))) (ca_cons (ce_var 3) ca_nil))) (ca_cons (ce_var 7) (ca_cons (ce_lst ca_nil) ca_nil)))))) css_nil)
    (css_cons (cs_set (i := 8) sc__law_act.nd rfl (.inl rfl) (ce_if (ct_cmp (op_eqD hr.units) os_eq (ce_var 4) ce_str) (ce_ix (ce_var 1) ce_int (fun _ _ => rfl)) (ce_ix (ce_var 1) ce_int (fun _ _ => rfl))))
    (css_cons (cs_set (i := 9) sc__law_act.nd rfl (.inl rfl) (ce_lstL (ca_cons (ce_ix (ce_var 3) (ce_var 8) (fun _ _ => rfl)) ca_nil)))
    (css_cons (cs_set (i := 6) sc__law_act.nd rfl (.inl rfl) (ce_call (n := 2) (ok__law_front T) hr (L2N.takes_of rfl rfl rfl rfl) (by rfl) T.g__law_front T.F__law_front.kp T.b__law_front (ca_cons (ce_var 3) (ca_cons (ce_var 8) ca_nil)) (alen_cons (alen_cons alen_nil))))
    (css_cons (cs_if (ct_cmp (op_eqD hr.units) os_eq (ce_var 4) ce_str) (css_cons (cs_expr (ce_bm PySem.F.slot_list_append PySem.F.type_list_append mt_append ms_append (ce_var 9) (ca_cons (ce_ix (ce_var 6) (ce_ix (ce_var 1) ce_int (fun _ _ => rfl)) (fun _ _ => rfl)) ca_nil)))
    (css_one (cs_set (i := 6) sc__law_act.nd rfl (.inl rfl) (ce_call (n := 2) (ok__law_front T) hr (L2N.takes_of rfl rfl rfl rfl) (by rfl) T.g__law_front T.F__law_front.kp T.b__law_front (ca_cons (ce_var 6) (ca_cons (ce_ix (ce_var 1) ce_int (fun _ _ => rfl)) ca_nil)) (alen_cons (alen_cons alen_nil)))))) css_nil)
    (css_one (cs_ret (ce_tup (ca_cons (ce_tup (ca_cons (ce_call (n := 2) (ok__law_front T) hr (L2N.takes_of rfl rfl rfl rfl) (by rfl) T.g__law_front T.F__law_front.kp T.b__law_front (ca_cons (ce_var 2) (ca_cons (ce_ix (ce_var 1) ce_int (fun _ _ => rfl)) ca_nil)) (alen_cons (alen_cons alen_nil))) (ca_cons (ce_var 6) ca_nil))) (ca_cons (ce_var 7) (ca_cons (ce_var 9) ca_nil)))))))))))))))⟩))
noncomputable def r__law_by_places (P : Program) (w : PySem.World) : FM := mFun 6
    (sSeq (sAsg (eDn1 P w (eVar 0) (eC (.bl true))) (gmName 1))
    (sSeq (sAsg (eLstL (aCons (eVar 0) aNil)) (gmName 2))
    (sSeq (whileW 1000000 (tmV (eOp fNe (eVar 2) (eLst aNil))) (sSeq (sAsg (eBM (eVar 2) aNil (mUp fPop)) (gmName 3))
    (sFor (iRange1 (aCons (eFn fLen (aCons (eOp fIx (eVar 0) (eC (.int 0))) aNil)) aNil)) (gmName 4) (sSeq (sAsg (eTup (aCons (eCall m__law_front (aCons (eOp fIx (eVar 3) (eC (.int 0))) (aCons (eVar 4) aNil))) (aCons (eCall m__law_front (aCons (eOp fIx (eVar 3) (eC (.int 1))) (aCons (eVar 4) aNil))) aNil))) (gmName 5))
    (sIf (tmV (eOp (fInT P w true) (eVar 5) (eVar 1))) (sSeq (sSetT P w (eC (.bl true)) (eVar 1) (eVar 5))
    (sDrop (eBM (eVar 2) (aCons (eVar 5) aNil) (mUp fAppend)))) sNext)))))
    (sRet (eFnV (fListT P w) (aCons (eVar 1) aNil))))))
noncomputable def m__law_by_places (P : Program) (w : PySem.World) : FM := frz (r__law_by_places P w)
theorem ok__law_by_places (T : Txt K mg) : FnOk P w K mg base (L2N.CX P w) 2 T.f__law_by_places T.d__law_by_places ["two"] (spF K 1 (m__law_by_places P w)) :=
  fn_frz (m := (r__law_by_places P w)) (fn_ok T.F__law_by_places sc__law_by_places rfl (fun cdv A outer s H E hr => ⟨_, (css_cons (cs_set (i := 1) sc__law_by_places.nd rfl (.inl rfl) (ce_dn1 hr.units (ce_var 0) ce_bl))
    (css_cons (cs_set (i := 2) sc__law_by_places.nd rfl (.inl rfl) (ce_lstL (ca_cons (ce_var 0) ca_nil)))
    (css_cons (cs_while 1000000 (passes_of rfl) (ct_cmp (op_neD hr.units) os_ne (ce_var 2) (ce_lst ca_nil)) (css_cons (cs_set (i := 3) sc__law_by_places.nd rfl (.inl rfl) (ce_bm0 PySem.F.slot_list_pop PySem.F.type_list_pop mt_pop ms_pop (ce_var 2)))
    (css_one (cs_for (passes_of rfl) rfl (ci_range1 (by rfl) T.z_range (ca_cons (ce_fnB call_len_any fs_len (by rfl) T.z_len (by decide +kernel) (ca_cons (ce_ix (ce_var 0) ce_int (fun _ _ => rfl)) ca_nil)) ca_nil)) (cg_name (i := 4) sc__law_by_places.nd rfl (.inl rfl)) (css_cons (cs_set (i := 5) sc__law_by_places.nd rfl (.inl rfl) (ce_tup (ca_cons (ce_call (n := 2) (ok__law_front T) hr (L2N.takes_of rfl rfl rfl rfl) (by rfl) T.g__law_front T.F__law_front.kp T.b__law_front (ca_cons (ce_ix (ce_var 3) ce_int (fun _ _ => rfl)) (ca_cons (ce_var 4) ca_nil)) (alen_cons (alen_cons alen_nil))) (ca_cons (ce_call (n := 2) (ok__law_front T) hr (L2N.takes_of rfl rfl rfl rfl) (by rfl) T.g__law_front T.F__law_front.kp T.b__law_front (ca_cons (ce_ix (ce_var 3) ce_int (fun _ _ => rfl)) (ca_cons (ce_var 4) ca_nil)) (alen_cons (alen_cons alen_nil))) ca_nil))))
    (css_one (cs_if (ct_cmp (op_notInT hr.units) (os_inT true) (ce_var 5) (ce_var 1)) (css_cons (cs_setT hr.units ce_bl (ce_var 1) (ce_var 5))
    (css_one (cs_expr (ce_bm PySem.F.slot_list_append PySem.F.type_list_append mt_append ms_append (ce_var 2) (ca_cons (ce_var 5) ca_nil))))) css_nil)))))))
    (css_one (cs_ret (ce_fnTV (call_listT rfl) fn_listT (by rfl) T.z_list (by decide +kernel) (ca_cons (ce_var 1) ca_nil)))))))⟩))
noncomputable def r_is_pair : FM := mFun 2
    (sSeq (sIf (tmOr (tmNot (tmV (eFn fIsi (aCons (eVar 0) (aCons (eC (.ty "tuple")) aNil))))) (tmOr (tmV (eOp fNe (eFn fLen (aCons (eVar 0) aNil)) (eC (.int 2)))) (tmNot (tmV (eFn fAll (aCons (eLc (iSeq (eVar 0)) (gmName 1) tmYes (eCall m_is_row (aCons (eVar 1) aNil)) [1]) aNil)))))) (sRet (eC (.bl false))) sNext)
    (sRet (eOp fEq (eFnV fSorted (aCons (eOp fIx (eVar 0) (eC (.int 0))) aNil)) (eFnV fSorted (aCons (eOp fIx (eVar 0) (eC (.int 1))) aNil)))))
noncomputable def m_is_pair : FM := frz r_is_pair
theorem ok_is_pair (T : Txt K mg) : FnOk P w K mg base (L2N.CX P w) 3 T.f_is_pair T.d_is_pair ["thing"] (spF K 1 m_is_pair) :=
  fn_frz (m := r_is_pair) (fn_ok T.F_is_pair sc_is_pair rfl (fun cdv A outer s H E hr => ⟨_, (css_cons (cs_if (CW.ct (cw_or (ct_not (ct_val (ce_fnB call_isi fs_isi (by rfl) T.z_isinstance (by decide +kernel) (ca_cons (ce_var 0) (ca_cons (ce_ty (by rfl) T.z_tuple (by decide +kernel)) ca_nil))))) (cw_or (ct_cmp (op_neD hr.units) os_ne (ce_fnB call_len_any fs_len (by rfl) T.z_len (by decide +kernel) (ca_cons (ce_var 0) ca_nil)) ce_int) (cw_or1 (ct_not (ct_val (ce_fnB (cr_all rfl) fs_all (by rfl) T.z_all (by decide +kernel) (ca_cons (ce_lc (own := [("row", 1)]) rfl sc_is_pair.nd (ci_seq (ce_var 0)) (blkOk_by (own := [("row", 1)]) (N := nm_is_pair) (sc := defScope s_is_pair) (by decide +kernel)) (fun _ _ _ _ _ => (cg_name (i := 1) sc_is_pair.nd rfl (.inl rfl))) (fun _ _ _ _ _ => cts_nil) (blkE fun _ _ _ _ _ => ⟨_, (ce_call (n := 1) (ok_is_row T) hr takes0N (by rfl) T.g_is_row T.F_is_row.kp T.b_is_row (ca_cons (ce_var 1) ca_nil) (alen_cons alen_nil)), by first | (dsimp only [L2.Cx.blk]; done) | rfl | (dsimp only [L2.Cx.blk]; rfl)⟩)) ca_nil)))))))) (css_one (cs_ret ce_bl)) css_nil)
    (css_one (cs_ret (ce_cmp (op_eqD hr.units) os_eq (ce_fnBV cr_sortedU fn_sorted (by rfl) T.z_sorted (by decide +kernel) (ca_cons (ce_ix (ce_var 0) ce_int (fun _ _ => rfl)) ca_nil)) (ce_fnBV cr_sortedU fn_sorted (by rfl) T.z_sorted (by decide +kernel) (ca_cons (ce_ix (ce_var 0) ce_int (fun _ _ => rfl)) ca_nil))))))⟩))
noncomputable def r__law_least_names (P : Program) (w : PySem.World) : FM := mFun 9
    (sSeq (sAsg (eCall (m__law_by_places P w) (aCons (eVar 0) aNil)) (gmName 1))
    (sSeq (sAsg (eDicTO P w (aCons (eLc (iSeq (eVar 1)) (gmName 2) tmYes (eTup (aCons (eVar 2) (aCons (eC (.bl true)) aNil))) [2]) aNil)) (gmName 3))
    (sSeq (sFor (iRange1 (aCons (eC (.int 5)) aNil)) (gmName 4) (sSeq (sIf (tmV (eOp fNe (eLc (iSeq (eVar 1)) (gmName 2) (tmV (eOp fEq (eOp fIx (eVar 2) (eC (.int 0))) (eOp fIx (eVar 2) (eC (.int 1))))) (eVar 2) [2]) (eLst aNil))) (sRet (eVar 4)) sNext)
    (sSeq (sAsg (eLstL aNil) (gmName 5))
    (sSeq (sFor (iSeq (eVar 1)) (gmName 2) (sFor (iSeq (eOp fIx (eVar 0) (eC (.int 0)))) (gmName 6) (sSeq (sAsg (eOp fIx (eCall m__law_act (aCons (eVar 2) (aCons (eTup (aCons (eC (.str "name")) (aCons (eVar 6) aNil))) aNil))) (eC (.int 0))) (gmName 7))
    (sIf (tmV (eOp (fInT P w true) (eVar 7) (eVar 3))) (sFor (iSeq (eCall (m__law_by_places P w) (aCons (eVar 7) aNil))) (gmName 8) (sSeq (sSetT P w (eC (.bl true)) (eVar 3) (eVar 8))
    (sDrop (eBM (eVar 5) (aCons (eVar 8) aNil) (mUp fAppend))))) sNext))))
    (sAsg (eVar 5) (gmName 1))))))
    (sRet (eC .non)))))
noncomputable def m__law_least_names (P : Program) (w : PySem.World) : FM := frz (r__law_least_names P w)
theorem ok__law_least_names (T : Txt K mg) : FnOk P w K mg base (L2N.CX P w) 3 T.f__law_least_names T.d__law_least_names ["two"] (spF K 1 (m__law_least_names P w)) :=
  fn_frz (m := (r__law_least_names P w)) (fn_ok T.F__law_least_names sc__law_least_names rfl (fun cdv A outer s H E hr => ⟨_, (css_cons (cs_set (i := 1) sc__law_least_names.nd rfl (.inl rfl) (ce_call (n := 1) (ok__law_by_places T) hr (L2N.takes_of rfl rfl rfl rfl) (by rfl) T.g__law_by_places T.F__law_by_places.kp T.b__law_by_places (ca_cons (ce_var 0) ca_nil) (alen_cons alen_nil)))
    (css_cons (cs_set (i := 3) sc__law_least_names.nd rfl (.inl rfl) (ce_dicTO hr.units rfl (by rfl) T.z_dict (by decide +kernel) (ca_cons (ce_lc (own := [("one", 2)]) rfl sc__law_least_names.nd (ci_seq (ce_var 1)) (blkOk_by (own := [("one", 2)]) (N := nm__law_least_names) (sc := defScope s__law_least_names) (by decide +kernel)) (fun _ _ _ _ _ => (cg_name (i := 2) sc__law_least_names.nd rfl (.inl rfl))) (fun _ _ _ _ _ => cts_nil) (blkE fun _ _ _ _ _ => ⟨_, (ce_tup (ca_cons (ce_var 2) (ca_cons ce_bl ca_nil))), by first | (dsimp only [L2.Cx.blk]; done) | rfl | (dsimp only [L2.Cx.blk]; rfl)⟩)) ca_nil)))
    (css_cons (cs_for (passes_of rfl) rfl (ci_range1 (by rfl) T.z_range (ca_cons ce_int ca_nil)) (cg_name (i := 4) sc__law_least_names.nd rfl (.inl rfl)) (css_cons (cs_if (ct_cmp (op_neD hr.units) os_ne (ce_lc (own := [("one", 2)]) rfl sc__law_least_names.nd (ci_seq (ce_var 1)) (blkOk_by (own := [("one", 2)]) (N := nm__law_least_names) (sc := defScope s__law_least_names) (by decide +kernel)) (fun _ _ _ _ _ => (cg_name (i := 2) sc__law_least_names.nd rfl (.inl rfl))) (blkT fun _ _ _ _ _ => ⟨_, (cts_one (ct_cmp (op_eqD hr.units) os_eq (ce_ix (ce_var 2) ce_int (fun _ _ => rfl)) (ce_ix (ce_var 2) ce_int (fun _ _ => rfl)))), by first | (dsimp only [L2.Cx.blk]; done) | rfl | (dsimp only [L2.Cx.blk]; rfl)⟩) (blkE fun _ _ _ _ _ => ⟨_, ce_var 2, by first | (dsimp only [L2.Cx.blk]; done) | rfl | (dsimp only [L2.Cx.blk]; rfl)⟩)) (ce_lst ca_nil)) (css_one (cs_ret (ce_var 4))) css_nil)
    (css_cons (cs_set (i := 5) sc__law_least_names.nd rfl (.inl rfl) (ce_lstL ca_nil))
    (css_cons (cs_for (passes_of rfl) rfl (ci_seq (ce_var 1)) (cg_name (i := 2) sc__law_least_names.nd rfl (.inl rfl)) (css_one (cs_for (passes_of rfl) rfl (ci_seq (ce_ix (ce_var 0) ce_int (fun _ _ => rfl))) (cg_name (i := 6) sc__law_least_names.nd rfl (.inl rfl)) (css_cons (cs_set (i := 7) sc__law_least_names.nd rfl (.inl rfl) (ce_ix (ce_call (n := 2) (ok__law_act T) hr (L2N.takes_of rfl rfl rfl rfl) (by rfl) T.g__law_act T.F__law_act.kp T.b__law_act (ca_cons (ce_var 2) (ca_cons (ce_tup (ca_cons ce_str (ca_cons (ce_var 6) ca_nil))) ca_nil)) (alen_cons (alen_cons alen_nil))) ce_int (fun _ _ => rfl)))
    (css_one (cs_if (ct_cmp (op_notInT hr.units) (os_inT true) (ce_var 7) (ce_var 3)) (css_one (cs_for (passes_of rfl) rfl (ci_seq (ce_call (n := 1) (ok__law_by_places T) hr (L2N.takes_of rfl rfl rfl rfl) (by rfl) T.g__law_by_places T.F__law_by_places.kp T.b__law_by_places (ca_cons (ce_var 7) ca_nil) (alen_cons alen_nil))) (cg_name (i := 8) sc__law_least_names.nd rfl (.inl rfl)) (css_cons (cs_setT hr.units ce_bl (ce_var 3) (ce_var 8))
    (css_one (cs_expr (ce_bm PySem.F.slot_list_append PySem.F.type_list_append mt_append ms_append (ce_var 5) (ca_cons (ce_var 8) ca_nil))))))) css_nil))))))
    (css_one (cs_set (i := 1) sc__law_least_names.nd rfl (.inl rfl) (ce_var 5)))))))
    (css_one (cs_ret ce_non)))))⟩))
noncomputable def r_need_pair : FM := mFun 1
    (sIf (tmNot (tmV (eCall m_is_pair (aCons (eVar 0) aNil)))) sNo sNext)
noncomputable def m_need_pair : FM := frz r_need_pair
theorem ok_need_pair (T : Txt K mg) : FnOk P w K mg base (L2N.CX P w) 4 T.f_need_pair T.d_need_pair ["pair"] (spF K 1 m_need_pair) :=
  fn_frz (m := r_need_pair) (fn_ok T.F_need_pair sc_need_pair rfl (fun cdv A outer s H E hr => ⟨_, (css_one (cs_if (ct_not (ct_val (ce_call (n := 1) (ok_is_pair T) hr (L2N.takes_of rfl rfl rfl rfl) (by rfl) T.g_is_pair T.F_is_pair.kp T.b_is_pair (ca_cons (ce_var 0) ca_nil) (alen_cons alen_nil)))) (css_one cs_never) css_nil))⟩))
noncomputable def r_rings : FM := mFun 1
    (sSeq (sDrop (eCall m_need_pair (aCons (eVar 0) aNil)))
    (sRet (eCall m_rings_of (aCons (eCall m_read_as (aCons (eVar 0) aNil)) aNil))))
noncomputable def m_rings : FM := frz r_rings
theorem ok_rings (T : Txt K mg) : FnOk P w K mg base (L2N.CX P w) 5 T.f_rings T.d_rings ["pair"] (spF K 1 m_rings) :=
  fn_frz (m := r_rings) (fn_ok T.F_rings sc_rings rfl (fun cdv A outer s H E hr => ⟨_, (css_cons (cs_expr (ce_call (n := 1) (ok_need_pair T) hr (L2N.takes_of rfl rfl rfl rfl) (by rfl) T.g_need_pair T.F_need_pair.kp T.b_need_pair (ca_cons (ce_var 0) ca_nil) (alen_cons alen_nil)))
    (css_one (cs_ret (ce_call (n := 1) (ok_rings_of T) (hr.mono (by decide)) (L2N.takes_of rfl rfl rfl rfl) (by rfl) T.g_rings_of T.F_rings_of.kp T.b_rings_of (ca_cons (ce_call (n := 1) (ok_read_as T) (hr.mono (by decide)) (L2N.takes_of rfl rfl rfl rfl) (by rfl) T.g_read_as T.F_read_as.kp T.b_read_as (ca_cons (ce_var 0) ca_nil) (alen_cons alen_nil)) ca_nil) (alen_cons alen_nil)))))⟩))
noncomputable def r_names_needed : FM := mFun 1
    (sSeq (sDrop (eCall m_need_pair (aCons (eVar 0) aNil)))
    (sRet (eFn fMin (aCons (eC (.int 2)) (aCons (eFn fLen (aCons (eCall m_rings (aCons (eVar 0) aNil)) aNil)) aNil)))))
noncomputable def m_names_needed : FM := frz r_names_needed
theorem ok_names_needed (T : Txt K mg) : FnOk P w K mg base (L2N.CX P w) 6 T.f_names_needed T.d_names_needed ["pair"] (spF K 1 m_names_needed) :=
  fn_frz (m := r_names_needed) (fn_ok T.F_names_needed sc_names_needed rfl (fun cdv A outer s H E hr => ⟨_, (css_cons (cs_expr (ce_call (n := 1) (ok_need_pair T) (hr.mono (by decide)) (L2N.takes_of rfl rfl rfl rfl) (by rfl) T.g_need_pair T.F_need_pair.kp T.b_need_pair (ca_cons (ce_var 0) ca_nil) (alen_cons alen_nil)))
    (css_one (cs_ret (ce_fnB (cr_minU rfl) fs_min (by rfl) T.z_min (by decide +kernel) (ca_cons (ce_glob (v := (.int 2)) (.int 2) (by rfl) T.g_MOST_NAMES ⟨_, rfl⟩ (fun _ _ => .int _)) (ca_cons (ce_fnB call_len_any fs_len (by rfl) T.z_len (by decide +kernel) (ca_cons (ce_call (n := 1) (ok_rings T) hr (L2N.takes_of rfl rfl rfl rfl) (by rfl) T.g_rings T.F_rings.kp T.b_rings (ca_cons (ce_var 0) ca_nil) (alen_cons alen_nil)) ca_nil)) ca_nil))))))⟩))
noncomputable def r_law (P : Program) (w : PySem.World) : FM := mFun 7
    (sSeq (sFor (iRange1 (aCons (eFn fMax (aCons (eC (.int 1)) (aCons (eFn fMin (aCons (eC (.int 3)) (aCons (eFn fLen (aCons (eVar 0) aNil)) aNil))) aNil))) aNil)) (gmName 1) (sSeq (sAsg (eCall m__law_bag (aCons (eOp fAdd (eCall m__law_cell_at (aCons (eVar 0) (aCons (eVar 1) aNil))) (eC (.int 1))) aNil)) (gmName 2))
    (sSeq (sAsg (eCall m__law_line (aCons (eVar 2) (aCons (eC (.int 4)) aNil))) (gmName 3))
    (sSeq (sAsg (eCall m__law_all_lines (aCons (eVar 3) aNil)) (gmName 4))
    (sFor (iRange1 (aCons (eC (.int 4)) aNil)) (gmName 5) (sSeq (sAsg (eTup (aCons (eVar 3) (aCons (eOp fIx (eVar 4) (eCall m__law_draw (aCons (eVar 2) (aCons (eFn fLen (aCons (eVar 4) aNil)) aNil)))) aNil))) (gmName 6))
    (sIf (tmV (eOp fNe (eCall m_names_needed (aCons (eVar 6) aNil)) (eCall (m__law_least_names P w) (aCons (eVar 6) aNil)))) (sRet (eC (.bl false))) sNext)))))))
    (sRet (eC (.bl true))))
noncomputable def m_law (P : Program) (w : PySem.World) : FM := frz (r_law P w)
theorem ok_law (T : Txt K mg) : FnOk P w K mg base (L2N.CX P w) 7 T.f_law T.d_law ["script"] (spF K 1 (m_law P w)) :=
  fn_frz (m := (r_law P w)) (fn_ok T.F_law sc_law rfl (fun cdv A outer s H E hr => ⟨_, (css_cons (cs_for (passes_of rfl) rfl (ci_range1 (by rfl) T.z_range (ca_cons (ce_fnB (cr_maxU rfl) fs_max (by rfl) T.z_max (by decide +kernel) (ca_cons ce_int (ca_cons (ce_fnB (cr_minU rfl) fs_min (by rfl) T.z_min (by decide +kernel) (ca_cons ce_int (ca_cons (ce_fnB call_len_any fs_len (by rfl) T.z_len (by decide +kernel) (ca_cons (ce_var 0) ca_nil)) ca_nil))) ca_nil))) ca_nil)) (cg_name (i := 1) sc_law.nd rfl (.inl rfl)) (css_cons (cs_set (i := 2) sc_law.nd rfl (.inl rfl) (ce_call (n := 1) (ok__law_bag T) (hr.mono (by decide)) (L2N.takes_of rfl rfl rfl rfl) (by rfl) T.g__law_bag T.F__law_bag.kp T.b__law_bag (ca_cons (ce_op op_add4 os_add (ce_call (n := 2) (ok__law_cell_at T) (hr.mono (by decide)) (L2N.takes_of rfl rfl rfl rfl) (by rfl) T.g__law_cell_at T.F__law_cell_at.kp T.b__law_cell_at (ca_cons (ce_var 0) (ca_cons (ce_var 1) ca_nil)) (alen_cons (alen_cons alen_nil))) ce_int) ca_nil) (alen_cons alen_nil)))
    (css_cons (cs_set (i := 3) sc_law.nd rfl (.inl rfl) (ce_call (n := 2) (ok__law_line T) (hr.mono (by decide)) (L2N.takes_of rfl rfl rfl rfl) (by rfl) T.g__law_line T.F__law_line.kp T.b__law_line (ca_cons (ce_var 2) (ca_cons ce_int ca_nil)) (alen_cons (alen_cons alen_nil))))
    (css_cons (cs_set (i := 4) sc_law.nd rfl (.inl rfl) (ce_call (n := 1) (ok__law_all_lines T) (hr.mono (by decide)) (L2N.takes_of rfl rfl rfl rfl) (by rfl) T.g__law_all_lines T.F__law_all_lines.kp T.b__law_all_lines (ca_cons (ce_var 3) ca_nil) (alen_cons alen_nil)))
    (css_one (cs_for (passes_of rfl) rfl (ci_range1 (by rfl) T.z_range (ca_cons ce_int ca_nil)) (cg_name (i := 5) sc_law.nd rfl (.inl rfl)) (css_cons (cs_set (i := 6) sc_law.nd rfl (.inl rfl) (ce_tup (ca_cons (ce_var 3) (ca_cons (ce_ix (ce_var 4) (ce_call (n := 2) (ok__law_draw T) (hr.mono (by decide)) (L2N.takes_of rfl rfl rfl rfl) (by rfl) T.g__law_draw T.F__law_draw.kp T.b__law_draw (ca_cons (ce_var 2) (ca_cons (ce_fnB call_len_any fs_len (by rfl) T.z_len (by decide +kernel) (ca_cons (ce_var 4) ca_nil)) ca_nil)) (alen_cons (alen_cons alen_nil))) (fun _ _ => rfl)) ca_nil))))
    (css_one (cs_if (ct_cmp (op_neD hr.units) os_ne (ce_call (n := 1) (ok_names_needed T) hr (L2N.takes_of rfl rfl rfl rfl) (by rfl) T.g_names_needed T.F_names_needed.kp T.b_names_needed (ca_cons (ce_var 6) ca_nil) (alen_cons alen_nil)) (ce_call (n := 1) (ok__law_least_names T) (hr.mono (by decide)) (L2N.takes_of rfl rfl rfl rfl) (by rfl) T.g__law_least_names T.F__law_least_names.kp T.b__law_least_names (ca_cons (ce_var 6) ca_nil) (alen_cons alen_nil))) (css_one (cs_ret ce_bl)) css_nil)))))))))
    (css_one (cs_ret ce_bl)))⟩))
end
-- with P w: _law_by_places _law_least_names law
end Lw
end
section
set_option Elab.async false
set_option linter.all false
set_option maxRecDepth 100000
set_option maxHeartbeats 1000000
open PySem PySem.Spec PyProof.Rows L2
namespace Lw
open Sim
def Ltr (x : Str) : Prop := ∃ c : Nat, x = ⟨#[c]⟩ ∧ 97 ≤ c ∧ c ≤ 122
structure Row (xs : List Str) : Prop where
  pos : 1 ≤ xs.length
  few : xs.length ≤ 16
  ltr : ∀ x ∈ xs, Ltr x
  nd : xs.Nodup
theorem Ltr.ok {x : Str} (h : Ltr x) : PyData.strOk x = true := by
  obtain ⟨c, rfl, h1, h2⟩ := h
  have : ∀ c : Nat, c < 123 → PyData.strOk ⟨#[c]⟩ = true := by decide +kernel
  exact this c (by omega)
theorem abc_eq : (Str.ofString "abcdefghijklmnopqrstuvwxyz").cps.toList = (List.range 26).map (97 + ·) := by decide +kernel
theorem is_letter_ok {x : Str} {st : Stt} (h : Ltr x) : m_is_letter [.str x] st = .ok (.bl true) st := by
  obtain ⟨c, rfl, h1, h2⟩ := h
  refine frz_pure ?_ rfl
  have hl : Str.length ⟨#[c]⟩ = 1 := rfl
  have hin : fIn false st (.str ⟨#[c]⟩) (.str (Str.ofString "abcdefghijklmnopqrstuvwxyz")) = some (.bl true) := by
    show some (W.bl (decide (c ∈ (Str.ofString "abcdefghijklmnopqrstuvwxyz").cps.toList))) = _
    rw [abc_eq, decide_eq_true]
    simp
    exact ⟨c - 97, by omega, by omega⟩
  simp [r_is_letter, entry, hl, hin]
theorem is_row_ok {xs : List Str} {st : Stt} (h : Row xs) : m_is_row [.tup (xs.map .str)] st = .ok (.bl true) st := by
  refine frz_pure ?_ rfl
  have h1 : (1 : Int) ≤ (xs.length : Int) := by have := h.pos; omega
  have h2 : (xs.length : Int) ≤ 16 := by have := h.few; omega
  have h3 : xs.length ≤ 1000 := by omega
  have h4 : xs.length ≤ 100000 := by omega
  have hc : ∀ ρ : Ev, 2 = ρ.length → lcW (fun _ => True) (gmName 1) tmYes (eCall m_is_letter (aCons (eVar 1) aNil)) ρ (xs.map .str) st = .ok (List.replicate xs.length (.bl true)) st := fun ρ hρ => by
    rw [show xs.length = (xs.map W.str).length by simp]
    refine lcW_true trivial _ fun w hw => ?_
    obtain ⟨x, hx, rfl⟩ := List.mem_map.mp hw
    refine ⟨_, rfl, ?_⟩
    simp [is_letter_ok (h.ltr x hx), ← hρ]
  have hn : Low.nubS xs = xs := Low.nubS_of_nodup h.nd
  simp [r_is_row, entry, hc, strsOf_map, hn, h1, h2, h3, h4]

/-! pairs -/
theorem sortS_congr {xs ys : List Str} (h : ys.Perm xs) : sortS ys = sortS xs :=
  List.Perm.eq_of_pairwise (le := fun a b => leS a b = true) (fun a b _ _ x y => leS_antisymm x y) (sortS_pair ys) (sortS_pair xs) ((sortS_perm ys).trans (h.trans (sortS_perm xs).symm))
theorem Row.perm {xs ys : List Str} (h : Row xs) (p : ys.Perm xs) : Row ys := ⟨by rw [p.length_eq]; exact h.pos, by rw [p.length_eq]; exact h.few, fun x hx => h.ltr x (p.mem_iff.mp hx), p.nodup_iff.mpr h.nd⟩
structure Both (t h : List Str) : Prop where
  row : Row t
  perm : h.Perm t
theorem Both.rowH {t h : List Str} (b : Both t h) : Row h := b.row.perm b.perm
abbrev wS (xs : List Str) : W := .tup (xs.map .str)
abbrev wL (xs : List Str) : W := .lst (xs.map .str)
theorem dat_row {n : Nat} {xs : List Str} (h : ∀ x ∈ xs, Ltr x) : datWs n (xs.map .str) = true := dat_strs fun x hx => (h x hx).ok
theorem datS {n : Nat} {xs : List Str} (h : ∀ x ∈ xs, Ltr x) : datW (n + 1) (wS xs) = true := by
  rw [datW, Nat.add_sub_cancel, dat_row h]; simp
theorem datL {n : Nat} {xs : List Str} (h : ∀ x ∈ xs, Ltr x) : datW (n + 1) (wL xs) = true := by
  rw [datW, Nat.add_sub_cancel, dat_row h]; simp
theorem is_pair_ok {t h : List Str} {st : Stt} (b : Both t h) : m_is_pair [.tup [wS t, wS h]] st = .ok (.bl true) st := by
  refine frz_pure ?_ rfl
  have hc : ∀ ρ : Ev, 2 = ρ.length → lcW (fun _ => True) (gmName 1) tmYes (eCall m_is_row (aCons (eVar 1) aNil)) ρ [wS t, wS h] st = .ok (List.replicate 2 (.bl true)) st := fun ρ hρ => by
    refine lcW_true trivial _ fun w hw => ?_
    simp only [List.mem_cons, List.not_mem_nil, or_false] at hw
    refine ⟨_, rfl, ?_⟩
    rcases hw with rfl | rfl
    · simp [is_row_ok b.row, ← hρ]
    · simp [is_row_ok b.rowH, ← hρ]
  have h3 : t.length < 64 := by have := b.row.few; omega
  have h4 : h.length < 64 := by have := b.rowH.few; omega
  have hs : fEq st (wL (sortS h)) (wL (sortS t)) = some (.bl true) := by
    rw [sortS_congr b.perm]
    exact fEq_same (datL (n := 63) fun x hx => b.row.ltr x ((sortS_perm t).mem_iff.mp hx))
  have hs' : fEq st (wL (sortS t)) (wL (sortS t)) = some (.bl true) := by
    exact fEq_same (datL (n := 63) fun x hx => b.row.ltr x ((sortS_perm t).mem_iff.mp hx))
  have e := sortS_congr b.perm
  have ha : fAll st [W.lst [W.bl true, W.bl true]] = some (.bl true) := fAll_rep 2
  simp [r_is_pair, ha, entry, hc, fSorted, strsOf_map, h3, h4, hs', e]
section
variable {st : Stt}
theorem flat_strs : ∀ xs : List Str, flatWs (xs.map .str) = some (xs.map V.str)
  | [] => rfl
  | a :: r => by rw [List.map_cons, flatWs, flatW, flat_strs r]; rfl
theorem inV_strs (x : Str) : ∀ xs : List Str, inV (.str x) (xs.map V.str) = decide (x ∈ xs)
  | [] => rfl
  | a :: r => by
    have ih := inV_strs x r
    unfold inV at ih ⊢
    rw [List.map_cons, List.any_cons, ih]
    show ((a == x) || decide (x ∈ r)) = _
    by_cases h : a = x
    · subst h; simp
    · have : ¬ x = a := fun z => h z.symm
      simp [h, this]
theorem sIx_n (n d : Nat) (k : Nat) : HT.sIx n d (some (k : Int)) = min k n := HT.sIx_nat n d k
theorem cut_take (ws : List W) (p : Nat) : cutW ws none (some (p : Int)) = ws.take p := by
  unfold cutW
  rw [HT.sIx_none, sIx_n, List.drop_zero, Nat.sub_zero]
  by_cases h : p ≤ ws.length
  · rw [Nat.min_eq_left h]
  · rw [Nat.min_eq_right (by omega), List.take_length, List.take_of_length_le (by omega)]
theorem cut_drop (ws : List W) (p : Nat) : cutW ws (some (p : Int)) none = ws.drop p := by
  unfold cutW
  rw [HT.sIx_none, sIx_n]
  by_cases h : p ≤ ws.length
  · rw [Nat.min_eq_left h, List.take_of_length_le (by simp)]
  · rw [Nat.min_eq_right (by omega), List.drop_length, List.drop_eq_nil_of_le (by omega)]; simp
theorem cut_drop1 (ws : List W) (p : Nat) : cutW ws (some ((p : Int) + 1)) none = ws.drop (p + 1) := cut_drop ws (p + 1)
def front {α : Type} (xs : List α) (p : Nat) : List α := match xs[p]? with
  | some x => x :: (xs.take p ++ xs.drop (p + 1))
  | none => xs
theorem front_map {α β : Type} (f : α → β) (xs : List α) (p : Nat) : front (xs.map f) p = (front xs p).map f := by
  unfold front
  rw [List.getElem?_map]
  cases xs[p]? <;> simp
theorem front_perm {α : Type} (xs : List α) (p : Nat) : (front xs p).Perm xs := by
  unfold front
  cases h : xs[p]? with
  | none => exact .refl _
  | some x =>
    obtain ⟨hp, e⟩ := List.getElem?_eq_some_iff.mp h
    have : xs = xs.take p ++ x :: xs.drop (p + 1) := by
      rw [← e, ← List.drop_eq_getElem_cons hp, List.take_append_drop]
    exact (List.perm_middle.symm).trans (by rw [← this])
theorem front_length {α : Type} (xs : List α) (p : Nat) : (front xs p).length = xs.length := (front_perm xs p).length_eq
theorem front_mem {xs : List Str} {p : Nat} {x : Str} : x ∈ front xs p ↔ x ∈ xs := (front_perm xs p).mem_iff
theorem Both.len {t h : List Str} (b : Both t h) : h.length = t.length := b.perm.length_eq
@[simp] theorem set_push {α : Type} (st : List α) (x y : α) : (st ++ [x]).set st.length y = st ++ [y] := by
  rw [List.set_append_right _ _ (Nat.le_refl _), Nat.sub_self]; rfl
@[simp] theorem fz_tup' (n : Nat) (ws : List W) : fzW n st (.tup ws) = (fzWs n st ws).map .tup := by rw [fzW]
@[simp] theorem fzs_nil (n : Nat) : fzWs n st [] = some [] := by rw [fzWs]
@[simp] theorem fzs_cons (n : Nat) (w : W) (ws : List W) : fzWs n st (w :: ws) = match fzW n st w, fzWs n st ws with | some a, some b => some (a :: b) | _, _ => none := by
  rw [fzWs]
  all_goals (cases fzW n st w <;> cases fzWs n st ws <;> rfl)
@[simp] theorem fzs_strs (n : Nat) (xs : List Str) : fzWs n st (xs.map .str) = some (xs.map .str) := nls_fz n st _ (nl_strs xs)
theorem fz_wS (n : Nat) (xs : List Str) : fzW n st (wS xs) = some (wS xs) := nl_fz n st _ (by rw [nlW]; exact nl_strs xs)
theorem fz_loc0 (us : List W) (h : nlWs us = true) : fzW st.length (st ++ [some (.lst us)]) (.loc st.length) = some (.lst us) := by
  rw [fzW, if_neg (Nat.lt_irrefl _), List.getElem?_concat_length]
  dsimp only
  rw [if_pos (nls_ok _ _ h)]
theorem idxT_ok (x : Str) (xs : List Str) (h : x ∈ xs) : mIdx (wS xs) [.str x] st = .ok (.int (xs.idxOf x : Nat)) st := by
  unfold mIdx
  simp [strsOf_map, h]
theorem get_map {xs : List Str} {p : Nat} (h : p < xs.length) : (xs.map W.str)[p]? = some (.str xs[p]) := by
  rw [List.getElem?_map, List.getElem?_eq_getElem h]; rfl
@[simp] theorem get_p0 {α : Type} (st : List α) (x y : α) : (st ++ [x, y])[st.length]? = some x := by
  rw [List.getElem?_append_right (Nat.le_refl _), Nat.sub_self]; rfl
@[simp] theorem get_p1 {α : Type} (st : List α) (x y : α) : (st ++ [x, y])[st.length + 1]? = some y := by
  rw [List.getElem?_append_right (by omega), show st.length + 1 - st.length = 1 by omega]; rfl
@[simp] theorem set_p0 {α : Type} (st : List α) (x y z : α) : (st ++ [x, y]).set st.length z = st ++ [z, y] := by
  rw [List.set_append_right _ _ (Nat.le_refl _), Nat.sub_self]; rfl
@[simp] theorem set_p1 {α : Type} (st : List α) (x y z : α) : (st ++ [x, y]).set (st.length + 1) z = st ++ [x, z] := by
  rw [List.set_append_right _ _ (by omega), show st.length + 1 - st.length = 1 by omega]; rfl
theorem row_head {t : List Str} (h : 1 ≤ t.length) : ∃ a r, t = a :: r := by
  cases t with
  | nil => simp at h
  | cons a r => exact ⟨a, r, rfl⟩
theorem need_pair_ok {t h : List Str} (b : Both t h) : m_need_pair [.tup [wS t, wS h]] st = .ok .non st := by
  refine frz_pure ?_ rfl
  simp [r_need_pair, entry, is_pair_ok b]
theorem front_idx {x : Str} : ∀ {t : List Str}, x ∈ t → front t (t.idxOf x) = x :: t.erase x := fun {t} h => by
  unfold front
  have hl := List.idxOf_lt_length_of_mem h
  rw [List.getElem?_eq_getElem hl, List.getElem_idxOf hl]
  dsimp only
  rw [List.erase_eq_eraseIdx_of_idxOf rfl, List.eraseIdx_eq_take_drop_succ]
end
end Lw
end
section
set_option Elab.async false
set_option linter.all false
set_option maxRecDepth 100000
set_option maxHeartbeats 1000000
open PySem PySem.Spec PyProof.Rows L2
namespace Lw
open Sim
/-! rows behind what was told: the letters told, the last one first, then the others -/
def fr (F row : List Str) : List Str := F ++ row.filter fun y => !decide (y ∈ F)
def ff (F : List Str) (x : Str) : List Str := x :: F.erase x
def Ff : List Str → List Str → List Str
  | F, [] => F
  | F, x :: r => Ff (ff F x) r
theorem mem_ff {F : List Str} {x y : Str} : y ∈ ff F x ↔ y = x ∨ y ∈ F := by
  unfold ff
  rw [List.mem_cons]
  by_cases h : y = x
  · simp [h]
  · simp [h, List.mem_erase_of_ne h]
theorem mem_fr {F row : List Str} {x : Str} (h : x ∈ row) : x ∈ fr F row := by
  unfold fr
  by_cases hF : x ∈ F
  · exact List.mem_append_left _ hF
  · exact List.mem_append_right _ (List.mem_filter.mpr ⟨h, by simp [hF]⟩)
theorem front_fr {F row : List Str} {x : Str} (hn : row.Nodup) (hx : x ∈ row) : front (fr F row) ((fr F row).idxOf x) = fr (ff F x) row := by
  rw [front_idx (mem_fr hx)]
  unfold fr
  by_cases hF : x ∈ F
  · rw [List.erase_append_left _ hF]
    unfold ff
    rw [List.cons_append]
    congr 2
    apply List.filter_congr
    intro y _
    have := mem_ff (F := F) (x := x) (y := y)
    unfold ff at this
    by_cases q : y ∈ F
    · simp [q, this.mpr (.inr q)]
    · have : y ∉ x :: F.erase x := fun z => (this.mp z).elim (fun e => q (e ▸ hF)) q
      simp [q, this]
  · have hfe : F.erase x = F := List.erase_of_not_mem hF
    rw [List.erase_append_right _ hF]
    unfold ff
    rw [hfe, List.cons_append]
    congr 2
    rw [List.Nodup.erase_eq_filter (List.Pairwise.filter _ hn) x, List.filter_filter]
    apply List.filter_congr
    intro y _
    by_cases q : y = x
    · subst q; simp
    · by_cases q2 : y ∈ F <;> simp [q, q2]
theorem fr_nil (row : List Str) : fr [] row = row := by
  unfold fr
  rw [List.nil_append, List.filter_eq_self.mpr fun _ _ => by simp]
theorem fr_perm {F t : List Str} (hF : F.Nodup) (hs : ∀ y ∈ F, y ∈ t) (ht : t.Nodup) : (fr F t).Perm t := by
  have hn : (fr F t).Nodup := by
    unfold fr
    rw [List.nodup_append]
    refine ⟨hF, List.Pairwise.filter _ ht, fun a ha b hb => fun e => ?_⟩
    subst e
    have := (List.mem_filter.mp hb).2
    simp [ha] at this
  refine (List.perm_ext_iff_of_nodup hn ht).mpr fun y => ⟨fun hy => ?_, fun hy => mem_fr hy⟩
  rcases List.mem_append.mp hy with q | q
  · exact hs y q
  · exact (List.mem_filter.mp q).1
theorem Ff_app : ∀ (xs ys F : List Str), Ff F (xs ++ ys) = Ff (Ff F xs) ys
  | [], ys, F => rfl
  | x :: r, ys, F => Ff_app r ys (ff F x)
/-- of a text read from behind the letters that come for the first time -/
def firstE (acc : List Str) : List Str → List Str
  | [] => acc
  | x :: r => firstE (if x ∈ acc then acc else acc ++ [x]) r
theorem firstE_acc : ∀ (xs A B : List Str), (∀ y ∈ A, y ∉ B) → firstE (A ++ B) xs = A ++ (firstE (B) (xs.filter fun y => !decide (y ∈ A)))
  | [], A, B, _ => rfl
  | x :: r, A, B, h => by
    rw [firstE, List.filter_cons]
    by_cases hA : x ∈ A
    · rw [if_pos (List.mem_append_left _ hA), if_neg (by simp [hA])]
      exact firstE_acc r A B h
    · rw [if_pos (by simp [hA] : (!decide (x ∈ A)) = true), firstE]
      by_cases hB : x ∈ B
      · rw [if_pos (List.mem_append_right _ hB), if_pos hB]
        exact firstE_acc r A B h
      · rw [if_neg (by simp [hA, hB]), if_neg hB, List.append_assoc]
        exact firstE_acc r A (B ++ [x]) fun y hy => by
          have := h y hy
          simp [this]
          rintro rfl
          exact hA hy
theorem firstE_erase {x : Str} : ∀ (xs B : List Str), B.Nodup → firstE (B.erase x) (xs.filter fun y => !decide (y ∈ [x])) = (firstE B xs).erase x
  | [], B, _ => rfl
  | y :: r, B, hB => by
    rw [List.filter_cons]
    by_cases hy : y = x
    · subst hy
      rw [if_neg (by simp), firstE]
      by_cases hm : y ∈ B
      · rw [if_pos hm]; exact firstE_erase r B hB
      · rw [if_neg hm]
        have := firstE_erase (x := y) r (B ++ [y]) (by rw [List.nodup_append]; exact ⟨hB, by simp, fun a ha b hb => by simp at hb; subst hb; exact fun z => hm (z ▸ ha)⟩)
        rw [← this, List.erase_append_right _ hm, List.erase_of_not_mem hm]
        simp
    · rw [if_pos (by simp [hy]), firstE, firstE]
      have hm : y ∈ B.erase x ↔ y ∈ B := List.mem_erase_of_ne hy
      by_cases h : y ∈ B
      · rw [if_pos (hm.mpr h), if_pos h]; exact firstE_erase r B hB
      · rw [if_neg (fun z => h (hm.mp z)), if_neg h]
        have := firstE_erase (x := x) r (B ++ [y]) (by rw [List.nodup_append]; exact ⟨hB, by simp, fun a ha b hb => by simp at hb; subst hb; exact fun z => h (z ▸ ha)⟩)
        rw [← this]
        congr 1
        by_cases hx : x ∈ B
        · rw [List.erase_append_left _ hx]
        · rw [List.erase_append_right _ hx, List.erase_of_not_mem hx, List.erase_of_not_mem (by simp; exact fun z => hy z.symm)]
theorem firstE_rev : ∀ (xs : List Str), firstE [] xs.reverse = Ff [] xs := fun xs => by
  suffices h : ∀ n, ∀ xs : List Str, xs.length = n → firstE [] xs.reverse = Ff [] xs from h _ xs rfl
  intro n
  induction n with
  | zero => intro xs h; rw [List.eq_nil_of_length_eq_zero h]; rfl
  | succ n ih =>
    intro xs h
    obtain ⟨m, a, rfl⟩ : ∃ m a, xs = m ++ [a] := by
      have hne : xs ≠ [] := by intro z; rw [z] at h; simp at h
      exact ⟨xs.dropLast, xs.getLast hne, (List.dropLast_concat_getLast hne).symm⟩
    have hm : m.length = n := by simpa using h
    rw [List.reverse_append, Ff_app]
    show firstE [a] m.reverse = ff (Ff [] m) a
    have h1 := firstE_acc m.reverse [a] [] (fun _ _ => List.not_mem_nil)
    have h2 := firstE_erase (x := a) m.reverse [] List.nodup_nil
    rw [List.append_nil] at h1
    rw [h1]
    rw [show ([] : List Str).erase a = [] from rfl] at h2
    rw [h2, ih m hm]
    rfl
end Lw
end
section
set_option Elab.async false
set_option linter.all false
set_option maxRecDepth 100000
set_option maxHeartbeats 1000000
open PySem PySem.Spec PyProof.Rows L2
namespace Lw
open Sim
/-! rings: plain laws -/
section
variable {φ : Str → Str}
def itr (φ : Str → Str) : Nat → Str → Str
  | 0, x => x
  | n + 1, x => itr φ n (φ x)
theorem itr_add : ∀ (a b : Nat) (x : Str), itr φ (a + b) x = itr φ b (itr φ a x)
  | 0, b, x => by rw [Nat.zero_add]; rfl
  | a + 1, b, x => by rw [show a + 1 + b = (a + b) + 1 by omega]; exact itr_add a b (φ x)
theorem itr_succ (n : Nat) (x : Str) : itr φ (n + 1) x = φ (itr φ n x) := by rw [itr_add n 1 x]; rfl
/-- the letters S, turned by φ among themselves -/
structure Prm (φ : Str → Str) (S : List Str) : Prop where
  nd : S.Nodup
  cl : ∀ x ∈ S, φ x ∈ S
  inj : ∀ x ∈ S, ∀ y ∈ S, φ x = φ y → x = y
theorem Prm.itr {S : List Str} (P : Prm φ S) : ∀ (n : Nat) {x : Str}, x ∈ S → itr φ n x ∈ S
  | 0, x, h => h
  | n + 1, x, h => P.itr n (P.cl x h)
theorem Prm.itr_inj {S : List Str} (P : Prm φ S) : ∀ (n : Nat) {x y : Str}, x ∈ S → y ∈ S → Lw.itr φ n x = Lw.itr φ n y → x = y
  | 0, _, _, _, _, e => e
  | n + 1, x, y, hx, hy, e => P.inj x hx y hy (P.itr_inj n (P.cl x hx) (P.cl y hy) e)
theorem nodup_le : ∀ (xs ys : List Str), xs.Nodup → (∀ x ∈ xs, x ∈ ys) → xs.length ≤ ys.length
  | [], _, _, _ => Nat.zero_le _
  | x :: r, ys, hn, hs => by
    obtain ⟨n1, n2⟩ := List.nodup_cons.mp hn
    have hx := hs x List.mem_cons_self
    have := nodup_le r (ys.erase x) n2 fun z hz => (List.mem_erase_of_ne (fun e => n1 (by rw [← e]; exact hz))).mpr (hs z (List.mem_cons_of_mem _ hz))
    rw [List.length_erase_of_mem hx] at this
    have := List.length_pos_of_mem hx
    simp
    omega
theorem nodup_rng {f : Nat → Str} {n : Nat} (h : ∀ i j, i < j → j < n → f i ≠ f j) : ((List.range n).map f).Nodup := by
  unfold List.Nodup
  rw [List.pairwise_map]
  refine List.Pairwise.imp_of_mem (fun {a b} ha hb hab => ?_) List.pairwise_lt_range
  exact h a b hab (List.mem_range.mp hb)
/-- the first return -/
def isPer (φ : Str → Str) (l : Str) (p : Nat) : Prop := 1 ≤ p ∧ itr φ p l = l ∧ ∀ j, 1 ≤ j → j < p → itr φ j l ≠ l
theorem per_ex {S : List Str} (P : Prm φ S) {l : Str} (hl : l ∈ S) : ∃ p, isPer φ l p ∧ p ≤ S.length := by
  have h1 : ∃ p, 1 ≤ p ∧ p ≤ S.length ∧ itr φ p l = l := by
    apply Classical.byContradiction
    intro hno
    have hd : ((List.range (S.length + 1)).map fun i => itr φ i l).Nodup := nodup_rng fun i j hij hj e => by
      refine hno ⟨j - i, by omega, by omega, ?_⟩
      have e2 : itr φ j l = itr φ i (itr φ (j - i) l) := by rw [← itr_add, show j - i + i = j by omega]
      rw [e2] at e
      exact (P.itr_inj i hl (P.itr _ hl) e).symm
    have := nodup_le _ S hd fun x hx => by
      obtain ⟨i, _, rfl⟩ := List.mem_map.mp hx
      exact P.itr i hl
    simp at this
    omega
  obtain ⟨p, hp⟩ := h1
  have key : ∀ n p, p ≤ n → 1 ≤ p → p ≤ S.length → itr φ p l = l → ∃ q, isPer φ l q ∧ q ≤ S.length := by
    intro n
    induction n with
    | zero => intro p h1 h2; omega
    | succ n ih =>
      intro p h1 h2 h3 h4
      by_cases hq : ∃ j, 1 ≤ j ∧ j < p ∧ itr φ j l = l
      · obtain ⟨j, j1, j2, j3⟩ := hq
        exact ih j (by omega) j1 (by omega) j3
      · exact ⟨p, ⟨h2, h4, fun j j1 j2 j3 => hq ⟨j, j1, j2, j3⟩⟩, h3⟩
  exact key p p (Nat.le_refl _) hp.1 hp.2.1 hp.2.2
def orbL (φ : Str → Str) (l : Str) (p : Nat) : List Str := (List.range p).map fun i => itr φ i l
theorem orb_mem {l x : Str} {p : Nat} : x ∈ orbL φ l p ↔ ∃ i, i < p ∧ itr φ i l = x := by
  unfold orbL
  rw [List.mem_map]
  exact ⟨fun ⟨i, h1, h2⟩ => ⟨i, List.mem_range.mp h1, h2⟩, fun ⟨i, h1, h2⟩ => ⟨i, List.mem_range.mpr h1, h2⟩⟩
theorem orb_nd {S : List Str} (P : Prm φ S) {l : Str} (hl : l ∈ S) {p : Nat} (h : isPer φ l p) : (orbL φ l p).Nodup := nodup_rng fun i j hij hj e => by
  have e2 : itr φ j l = itr φ i (itr φ (j - i) l) := by rw [← itr_add, show j - i + i = j by omega]
  rw [e2] at e
  exact h.2.2 (j - i) (by omega) (by omega) (P.itr_inj i hl (P.itr _ hl) e).symm
theorem orb_map {l : Str} {p : Nat} (h : isPer φ l p) : ∃ o, orbL φ l p = l :: o ∧ (l :: o).map φ = o ++ [l] := by
  obtain ⟨q, rfl⟩ : ∃ q, p = q + 1 := ⟨p - 1, by have := h.1; omega⟩
  refine ⟨(List.range q).map fun i => itr φ (i + 1) l, ?_, ?_⟩
  · unfold orbL
    rw [List.range_succ_eq_map, List.map_cons, List.map_map]
    rfl
  · have e1 : l :: ((List.range q).map fun i => itr φ (i + 1) l) = (List.range (q + 1)).map fun i => itr φ i l := by
      rw [List.range_succ_eq_map, List.map_cons, List.map_map]; rfl
    rw [e1, List.map_map, List.range_succ, List.map_append]
    congr 1
    · apply List.map_congr_left
      intro i _
      exact (itr_succ i l).symm
    · have e := h.2.1
      rw [itr_succ] at e
      simp only [List.map_cons, List.map_nil, Function.comp, e]
/-- a ring: each letter is read as the next one, the last one as the first -/
def Cyc (φ : Str → Str) (c : List Str) : Prop := ∃ a o, c = a :: o ∧ o ≠ [] ∧ (a :: o).map φ = o ++ [a] ∧ c.Nodup
theorem chain_itr {b : Str} : ∀ (o : List Str) (a : Str), (a :: o).map φ = o ++ [b] → ∀ y ∈ a :: o, (∃ k, itr φ k a = y) ∧ ∃ k, itr φ k y = b
  | [], a, h, y, hy => by
    have hy : y = a := by simpa using hy
    subst hy
    have : φ y = b := by simpa using h
    exact ⟨⟨0, rfl⟩, 1, this⟩
  | c :: o, a, h, y, hy => by
    rw [List.map_cons, List.cons_append] at h
    injection h with h1 h2
    have ih := chain_itr o c h2
    rcases List.mem_cons.mp hy with rfl | hy
    · obtain ⟨k, hk⟩ := (ih c List.mem_cons_self).2
      exact ⟨⟨0, rfl⟩, k + 1, by rw [itr, h1]; exact hk⟩
    · obtain ⟨⟨k, hk⟩, h3⟩ := ih y hy
      exact ⟨⟨k + 1, by rw [itr, h1]; exact hk⟩, h3⟩
theorem Cyc.orb {c : List Str} (h : Cyc φ c) : ∀ x ∈ c, ∀ y ∈ c, ∃ k, itr φ k x = y := by
  obtain ⟨a, o, rfl, _, hm, _⟩ := h
  intro x hx y hy
  obtain ⟨k, hk⟩ := (chain_itr o a hm x hx).2
  obtain ⟨j, hj⟩ := (chain_itr o a hm y hy).1
  exact ⟨k + j, by rw [itr_add, hk, hj]⟩
theorem map_mem {c : List Str} {a : Str} {o : List Str} (e : c = a :: o) (hm : (a :: o).map φ = o ++ [a]) : ∀ x ∈ c, φ x ∈ c := fun x hx => by
  rw [e] at hx ⊢
  have : φ x ∈ (a :: o).map φ := List.mem_map.mpr ⟨x, hx, rfl⟩
  rw [hm] at this
  rcases List.mem_append.mp this with h | h
  · exact List.mem_cons_of_mem _ h
  · rw [List.mem_singleton.mp h]; exact List.mem_cons_self
theorem Cyc.cl {c : List Str} (h : Cyc φ c) : ∀ x ∈ c, φ x ∈ c := by
  obtain ⟨a, o, e, _, hm, _⟩ := h
  exact map_mem e hm
theorem Cyc.mv {c : List Str} (h : Cyc φ c) : ∀ x ∈ c, φ x ≠ x := by
  intro x hx e
  have fixd : ∀ k, itr φ k x = x := fun k => by
    induction k with
    | zero => rfl
    | succ k ih => rw [itr, e]; exact ih
  have orb := h.orb
  obtain ⟨a, o, rfl, ho, _, hn⟩ := h
  obtain ⟨b, r, rfl⟩ : ∃ b r, o = b :: r := by
    cases o with
    | nil => exact absurd rfl ho
    | cons b r => exact ⟨b, r, rfl⟩
  obtain ⟨k, hk⟩ := orb x hx a List.mem_cons_self
  obtain ⟨j, hj⟩ := orb x hx b (by simp)
  rw [fixd] at hk hj
  rw [← hk, ← hj] at hn
  simp at hn
theorem itr_cl {c : List Str} (h : ∀ x ∈ c, φ x ∈ c) : ∀ (n : Nat) {x : Str}, x ∈ c → itr φ n x ∈ c
  | 0, _, hx => hx
  | n + 1, x, hx => itr_cl h n (h x hx)
noncomputable def per (φ : Str → Str) (l : Str) : Nat := open Classical in if h : ∃ p, isPer φ l p then Classical.choose h else 1
theorem per_is {S : List Str} (P : Prm φ S) {l : Str} (hl : l ∈ S) : isPer φ l (per φ l) := by
  obtain ⟨p, hp, _⟩ := per_ex P hl
  have h : ∃ p, isPer φ l p := ⟨p, hp⟩
  unfold per
  rw [dif_pos h]
  exact Classical.choose_spec h
theorem per_uniq {l : Str} {p q : Nat} (h : isPer φ l p) (k : isPer φ l q) : p = q := by
  rcases Nat.lt_trichotomy p q with e | e | e
  · exact absurd h.2.1 (k.2.2 p h.1 e)
  · exact e
  · exact absurd k.2.1 (h.2.2 q k.1 e)
theorem per_le {S : List Str} (P : Prm φ S) {l : Str} (hl : l ∈ S) : per φ l ≤ S.length := by
  obtain ⟨p, hp, h⟩ := per_ex P hl
  rw [per_uniq (per_is P hl) hp]; exact h
noncomputable def ringO (φ : Str → Str) (l : Str) : List Str := orbL φ l (per φ l)
theorem ring_cyc {S : List Str} (P : Prm φ S) {l : Str} (hl : l ∈ S) (hm : φ l ≠ l) : Cyc φ (ringO φ l) := by
  have hp := per_is P hl
  obtain ⟨o, e1, e2⟩ := orb_map hp
  refine ⟨l, o, e1, fun z => ?_, e2, orb_nd P hl hp⟩
  subst z
  exact hm (by simpa using e2)
theorem ring_cl {S : List Str} (P : Prm φ S) {l : Str} (hl : l ∈ S) : ∀ x ∈ ringO φ l, φ x ∈ ringO φ l := by
  obtain ⟨o, e1, e2⟩ := orb_map (per_is P hl)
  exact map_mem e1 e2
theorem ring_self {S : List Str} (P : Prm φ S) {l : Str} (hl : l ∈ S) : l ∈ ringO φ l := orb_mem.mpr ⟨0, (per_is P hl).1, rfl⟩
theorem ring_sub {S : List Str} (P : Prm φ S) {l : Str} (hl : l ∈ S) : ∀ x ∈ ringO φ l, x ∈ S := fun x hx => by
  obtain ⟨i, _, rfl⟩ := orb_mem.mp hx
  exact P.itr i hl
theorem ring_back {S : List Str} (P : Prm φ S) {l : Str} (hl : l ∈ S) {K : List Str} (hK : ∀ x ∈ K, φ x ∈ K) : ∀ x ∈ ringO φ l, x ∈ K → l ∈ K := fun x hx hk => by
  have hp := per_is P hl
  obtain ⟨i, hi, rfl⟩ := orb_mem.mp hx
  have := itr_cl hK (per φ l - i) hk
  rw [← itr_add, show i + (per φ l - i) = per φ l by omega, hp.2.1] at this
  exact this
open Classical in
/-- the rings of some letters, in their order, but of those that are known -/
noncomputable def ringsF (φ : Str → Str) : List Str → List Str → List (List Str)
  | [], _ => []
  | l :: r, K => if l ∉ K ∧ φ l ≠ l then ringO φ l :: ringsF φ r (K ++ ringO φ l) else ringsF φ r K
theorem rings_all {S : List Str} (P : Prm φ S) : ∀ (L K : List Str), (∀ l ∈ L, l ∈ S) → (∀ x ∈ K, φ x ∈ K) →
    (∀ r ∈ ringsF φ L K, Cyc φ r ∧ (∀ x ∈ r, x ∈ S) ∧ ∀ x ∈ r, x ∉ K) ∧ (ringsF φ L K).Pairwise (fun a b => ∀ x ∈ a, x ∉ b) ∧ ∀ l ∈ L, φ l ≠ l → l ∈ K ∨ ∃ r ∈ ringsF φ L K, l ∈ r
  | [], K, _, _ => ⟨fun r hr => absurd hr List.not_mem_nil, List.Pairwise.nil, fun l hl => absurd hl List.not_mem_nil⟩
  | l :: L, K, hL, hK => by
    have hl := hL l List.mem_cons_self
    have hL' := fun x hx => hL x (List.mem_cons_of_mem l hx)
    unfold ringsF
    by_cases hc : l ∉ K ∧ φ l ≠ l
    · rw [if_pos hc]
      have hK2 : ∀ x ∈ K ++ ringO φ l, φ x ∈ K ++ ringO φ l := fun x hx => by
        rcases List.mem_append.mp hx with h | h
        · exact List.mem_append_left _ (hK x h)
        · exact List.mem_append_right _ (ring_cl P hl x h)
      obtain ⟨i1, i2, i3⟩ := rings_all P L (K ++ ringO φ l) hL' hK2
      refine ⟨fun r hr => ?_, List.Pairwise.cons (fun b hb x hx hxb => (i1 b hb).2.2 x hxb (List.mem_append_right _ hx)) i2, fun y hy hm => ?_⟩
      · rcases List.mem_cons.mp hr with rfl | hr
        · exact ⟨ring_cyc P hl hc.2, ring_sub P hl, fun x hx hk => hc.1 (ring_back P hl hK x hx hk)⟩
        · exact ⟨(i1 r hr).1, (i1 r hr).2.1, fun x hx hk => (i1 r hr).2.2 x hx (List.mem_append_left _ hk)⟩
      · rcases List.mem_cons.mp hy with rfl | hy
        · exact .inr ⟨_, List.mem_cons_self, ring_self P hl⟩
        · rcases i3 y hy hm with h | ⟨r, hr, h⟩
          · rcases List.mem_append.mp h with h | h
            · exact .inl h
            · exact .inr ⟨_, List.mem_cons_self, h⟩
          · exact .inr ⟨r, List.mem_cons_of_mem _ hr, h⟩
    · rw [if_neg hc]
      obtain ⟨i1, i2, i3⟩ := rings_all P L K hL' hK
      refine ⟨i1, i2, fun y hy hm => ?_⟩
      rcases List.mem_cons.mp hy with rfl | hy
      · by_cases hk : y ∈ K
        · exact .inl hk
        · exact absurd ⟨hk, hm⟩ hc
      · exact i3 y hy hm
theorem rings_none {S L : List Str} (P : Prm φ S) (hL : ∀ l ∈ L, l ∈ S) (h : ∀ x ∈ S, φ x = x) : ringsF φ L [] = [] := by
  obtain ⟨i1, _, _⟩ := rings_all P L [] hL (fun x hx => absurd hx List.not_mem_nil)
  cases e : ringsF φ L [] with
  | nil => rfl
  | cons r rs =>
    rw [e] at i1
    obtain ⟨c, s, _⟩ := i1 r List.mem_cons_self
    have mv := c.mv
    obtain ⟨a, o, rfl, _⟩ := c
    exact absurd (h a (s a List.mem_cons_self)) (mv a List.mem_cons_self)
theorem rings_one {S L c : List Str} (P : Prm φ S) (hL : ∀ l, l ∈ L ↔ l ∈ S) (hc : Cyc φ c) (hs : ∀ x ∈ c, x ∈ S) (ho : ∀ x ∈ S, x ∉ c → φ x = x) : (ringsF φ L []).length = 1 := by
  obtain ⟨i1, i2, i3⟩ := rings_all P L [] (fun l hl => (hL l).mp hl) (fun x hx => absurd hx List.not_mem_nil)
  have meet : ∀ r ∈ ringsF φ L [], ∀ y ∈ c, y ∈ r := fun r hr y hy => by
    obtain ⟨k1, k2, _⟩ := i1 r hr
    have mv := k1.mv
    have cl := k1.cl
    obtain ⟨a, o, rfl, _⟩ := k1
    have ha : a ∈ c := Classical.byContradiction fun z => mv a List.mem_cons_self (ho a (k2 a List.mem_cons_self) z)
    obtain ⟨k, hk⟩ := hc.orb a ha y hy
    rw [← hk]
    exact itr_cl cl k List.mem_cons_self
  obtain ⟨a, ha⟩ : ∃ a, a ∈ c := by obtain ⟨a, o, rfl, _⟩ := hc; exact ⟨a, List.mem_cons_self⟩
  rcases i3 a ((hL a).mpr (hs a ha)) (hc.mv a ha) with h | ⟨r, hr, _⟩
  · exact absurd h List.not_mem_nil
  · cases e : ringsF φ L [] with
    | nil => rw [e] at hr; exact absurd hr List.not_mem_nil
    | cons x rs =>
      cases rs with
      | nil => rfl
      | cons y rs =>
        rw [e] at i2 meet
        exact absurd (meet y (by simp) a ha) ((List.pairwise_cons.mp i2).1 y List.mem_cons_self a (meet x List.mem_cons_self a ha))
end
end Lw
end
section
set_option Elab.async false
set_option linter.all false
set_option maxRecDepth 100000
set_option maxHeartbeats 1000000
open PySem PySem.Spec PyProof.Rows L2
namespace Lw
open Sim
/-! events -/
inductive Evt where
  | pl (p : Nat) | lo (p : Nat) | tw (p : Nat) | as (p q : Nat) | nm (x : Str)
def Evt.w : Evt → W
  | .pl p => .tup [.str "place", .int (p : Int)]
  | .lo p => .tup [.str "lost", .int (p : Int)]
  | .tw p => .tup [.str "twice", .int (p : Int)]
  | .as p q => .tup [.str "as", .int (p : Int), .int (q : Int)]
  | .nm x => .tup [.str "name", .str x]
def Evt.ok (xs : List Str) : Evt → Prop
  | .pl p => p < xs.length
  | .lo p => p < xs.length
  | .tw p => p < xs.length
  | .as p q => p < xs.length ∧ q < xs.length ∧ p ≠ q
  | .nm x => x ∈ xs
section
variable {st : Stt}
@[simp] theorem kd1 : fEq st (.str "place") (.str "as") = some (.bl false) := by rw [fEq_str _ _ (by decide +kernel) (by decide +kernel)]; rfl
@[simp] theorem kd2 : fEq st (.str "lost") (.str "as") = some (.bl false) := by rw [fEq_str _ _ (by decide +kernel) (by decide +kernel)]; rfl
@[simp] theorem kd3 : fEq st (.str "twice") (.str "as") = some (.bl false) := by rw [fEq_str _ _ (by decide +kernel) (by decide +kernel)]; rfl
@[simp] theorem kd4 : fEq st (.str "as") (.str "as") = some (.bl true) := by rw [fEq_str _ _ (by decide +kernel) (by decide +kernel)]; rfl
@[simp] theorem kd5 : fEq st (.str "name") (.str "as") = some (.bl false) := by rw [fEq_str _ _ (by decide +kernel) (by decide +kernel)]; rfl
@[simp] theorem kd6 : fEq st (.str "place") (.str "name") = some (.bl false) := by rw [fEq_str _ _ (by decide +kernel) (by decide +kernel)]; rfl
@[simp] theorem kd7 : fEq st (.str "lost") (.str "name") = some (.bl false) := by rw [fEq_str _ _ (by decide +kernel) (by decide +kernel)]; rfl
@[simp] theorem kd8 : fEq st (.str "twice") (.str "name") = some (.bl false) := by rw [fEq_str _ _ (by decide +kernel) (by decide +kernel)]; rfl
@[simp] theorem kd9 : fEq st (.str "as") (.str "name") = some (.bl false) := by rw [fEq_str _ _ (by decide +kernel) (by decide +kernel)]; rfl
@[simp] theorem kd10 : fEq st (.str "name") (.str "name") = some (.bl true) := by rw [fEq_str _ _ (by decide +kernel) (by decide +kernel)]; rfl
@[simp] theorem kd11 : fEq st (.str "place") (.str "lost") = some (.bl false) := by rw [fEq_str _ _ (by decide +kernel) (by decide +kernel)]; rfl
@[simp] theorem kd12 : fEq st (.str "lost") (.str "lost") = some (.bl true) := by rw [fEq_str _ _ (by decide +kernel) (by decide +kernel)]; rfl
@[simp] theorem kd13 : fEq st (.str "twice") (.str "lost") = some (.bl false) := by rw [fEq_str _ _ (by decide +kernel) (by decide +kernel)]; rfl
@[simp] theorem kd14 : fEq st (.str "as") (.str "lost") = some (.bl false) := by rw [fEq_str _ _ (by decide +kernel) (by decide +kernel)]; rfl
@[simp] theorem kd15 : fEq st (.str "place") (.str "twice") = some (.bl false) := by rw [fEq_str _ _ (by decide +kernel) (by decide +kernel)]; rfl
@[simp] theorem kd16 : fEq st (.str "twice") (.str "twice") = some (.bl true) := by rw [fEq_str _ _ (by decide +kernel) (by decide +kernel)]; rfl
@[simp] theorem kd17 : fEq st (.str "as") (.str "twice") = some (.bl false) := by rw [fEq_str _ _ (by decide +kernel) (by decide +kernel)]; rfl
@[simp] theorem in23a : fIn true st (.int 2) (.tup [.int 2, .int 3]) = some (.bl false) := rfl
@[simp] theorem in23b : fIn true st (.int 3) (.tup [.int 2, .int 3]) = some (.bl false) := rfl
@[simp] theorem inpl : fIn false st (.str "place") (.tup [.str "place", .str "lost", .str "twice"]) = some (.bl true) := rfl
@[simp] theorem inlo : fIn false st (.str "lost") (.tup [.str "place", .str "lost", .str "twice"]) = some (.bl true) := rfl
@[simp] theorem intw : fIn false st (.str "twice") (.tup [.str "place", .str "lost", .str "twice"]) = some (.bl true) := rfl
def doneE (t h : List Str) : Evt → List Str × List Str × List Str
  | .nm x => (front t (t.idxOf x), front h (h.idxOf x), [x])
  | .lo p => (front t p, h, [])
  | .pl p => (front t p, front h p, (h[p]?).toList)
  | .tw p => (front t p, front (front h p) p, (h[p]?).toList ++ ((front h p)[p]?).toList)
  | .as p q => (front t p, front h q, (h[q]?).toList)
theorem done_perm (t h : List Str) (e : Evt) : (doneE t h e).1.Perm t ∧ (doneE t h e).2.1.Perm h := by
  cases e with
  | nm x => exact ⟨front_perm _ _, front_perm _ _⟩
  | lo p => exact ⟨front_perm _ _, .refl _⟩
  | pl p => exact ⟨front_perm _ _, front_perm _ _⟩
  | tw p => exact ⟨front_perm _ _, (front_perm _ _).trans (front_perm _ _)⟩
  | as p q => exact ⟨front_perm _ _, front_perm _ _⟩
theorem done_both {t h : List Str} (b : Both t h) (e : Evt) : Both (doneE t h e).1 (doneE t h e).2.1 :=
  ⟨b.row.perm (done_perm t h e).1, ((done_perm t h e).2.trans b.perm).trans (done_perm t h e).1.symm⟩
def goneE : List Str → List Str → List Evt → List Str × List Str × List Str × List Str
  | t, h, [] => (t, h, [], [])
  | t, h, e :: r => ((goneE (doneE t h e).1 (doneE t h e).2.1 r).1, (goneE (doneE t h e).1 (doneE t h e).2.1 r).2.1,
    (doneE t h e).1.head?.toList ++ (goneE (doneE t h e).1 (doneE t h e).2.1 r).2.2.1, (doneE t h e).2.2 ++ (goneE (doneE t h e).1 (doneE t h e).2.1 r).2.2.2)
theorem gone_both {es : List Evt} : ∀ {t h : List Str}, Both t h → Both (goneE t h es).1 (goneE t h es).2.1 := by
  induction es with
  | nil => exact fun b => b
  | cons e r ih => exact fun b => ih (done_both b e)
theorem gone_perm {es : List Evt} : ∀ {t h : List Str}, (goneE t h es).1.Perm t ∧ (goneE t h es).2.1.Perm h := by
  induction es with
  | nil => exact ⟨.refl _, .refl _⟩
  | cons e r ih => exact fun {t h} => ⟨(ih (t := (doneE t h e).1) (h := (doneE t h e).2.1)).1.trans (done_perm t h e).1, (ih (t := (doneE t h e).1) (h := (doneE t h e).2.1)).2.trans (done_perm t h e).2⟩
/-- what events are handed in as -/
structure Evs (st : Stt) (x : W) (ws : List W) : Prop where
  it : itemsOf st x = some ws
  ok : ∀ ex : Stt, okOf x ws (st ++ ex)
  ty : tyW st x = some "list"
theorem Evs.lst {ws : List W} : Evs st (.lst ws) ws := ⟨rfl, fun _ => trivial, rfl⟩
end
end Lw
end
section
set_option Elab.async false
set_option linter.all false
set_option maxRecDepth 100000
set_option maxHeartbeats 1000000
open PySem PySem.Spec PyProof.Rows L2
namespace Lw
open Sim
/-! rows: plain laws -/
section
variable {α : Type}
def itF (p : Nat) : Nat → List α → List α
  | 0, xs => xs
  | k + 1, xs => itF p k (front xs p)
theorem front_mid (l : List α) (a : α) (zs : List α) : front (l ++ a :: zs) l.length = a :: (l ++ zs) := by
  unfold front
  rw [List.getElem?_append_right (Nat.le_refl _), Nat.sub_self]
  simp
theorem itF_turn (p : Nat) (zs : List α) : ∀ (k : Nat) (l1 l2 : List α), l2.length = k → l1.length + k = p + 1 → itF p k (l1 ++ l2 ++ zs) = l2 ++ l1 ++ zs
  | 0, l1, l2, h, _ => by
    have : l2 = [] := List.eq_nil_of_length_eq_zero h
    subst this
    simp [itF]
  | k + 1, l1, l2, h, hp => by
    obtain ⟨m, a, rfl⟩ : ∃ m a, l2 = m ++ [a] := by
      have hne : l2 ≠ [] := by intro z; rw [z] at h; simp at h
      exact ⟨l2.dropLast, l2.getLast hne, (List.dropLast_concat_getLast hne).symm⟩
    have hm : m.length = k := by simpa using h
    have hl : (l1 ++ m).length = p := by simp; omega
    rw [itF]
    have e : front (l1 ++ (m ++ [a]) ++ zs) p = (a :: l1) ++ m ++ zs := by
      have := front_mid (l1 ++ m) a zs
      rw [hl] at this
      simpa [List.append_assoc] using this
    rw [e, itF_turn p zs k (a :: l1) m hm (by simp; omega)]
    simp
theorem itF_all {p : Nat} {xs : List α} (h : p < xs.length) : itF p (p + 1) xs = xs := by
  have := itF_turn p (xs.drop (p + 1)) (p + 1) [] (xs.take (p + 1)) (by rw [List.length_take]; omega) (by simp)
  simpa using this
end
theorem gone_app : ∀ (es fs : List Evt) (t h : List Str), goneE t h (es ++ fs) =
    ((goneE (goneE t h es).1 (goneE t h es).2.1 fs).1, (goneE (goneE t h es).1 (goneE t h es).2.1 fs).2.1, (goneE t h es).2.2.1 ++ (goneE (goneE t h es).1 (goneE t h es).2.1 fs).2.2.1, (goneE t h es).2.2.2 ++ (goneE (goneE t h es).1 (goneE t h es).2.1 fs).2.2.2)
  | [], fs, t, h => by simp [goneE]
  | e :: es, fs, t, h => by
    rw [List.cons_append]
    simp only [goneE]
    rw [gone_app es fs]
    simp [List.append_assoc]
end Lw
end
section
set_option Elab.async false
set_option linter.all false
set_option maxRecDepth 100000
set_option maxHeartbeats 1000000
open PySem PySem.Spec PyProof.Rows L2
namespace Lw
open Sim
/-! places, and what they leave of which letter is read as which -/
def placesE : List Str → List Str → List Nat
  | _, [] => []
  | row, x :: r => row.idxOf x :: placesE (front row (row.idxOf x)) r
theorem places_len : ∀ (xs row : List Str), (placesE row xs).length = xs.length
  | [], _ => rfl
  | x :: r, row => by rw [placesE, List.length_cons, places_len, List.length_cons]
theorem places_lt : ∀ (xs row : List Str), (∀ x ∈ xs, x ∈ row) → ∀ p ∈ placesE row xs, p < row.length
  | [], _, _ => fun p hp => absurd hp List.not_mem_nil
  | x :: r, row, h => fun p hp => by
    rw [placesE] at hp
    rcases List.mem_cons.mp hp with rfl | hp
    · exact List.idxOf_lt_length_of_mem (h x List.mem_cons_self)
    · have := places_lt r (front row (row.idxOf x)) (fun y hy => front_mem.mpr (h y (List.mem_cons_of_mem _ hy))) p hp
      rwa [front_length] at this
section
variable {φ ψ : Str → Str}
theorem gone_placesM {t : List Str} (ht : t.Nodup) : ∀ (xs F : List Str), (∀ x ∈ xs, x ∈ t) → (goneE (fr F t) ((fr F t).map φ) ((placesE (fr F t) xs).map .pl)).1 = fr (Ff F xs) t ∧ (goneE (fr F t) ((fr F t).map φ) ((placesE (fr F t) xs).map .pl)).2.1 = (fr (Ff F xs) t).map φ
  | [], F, _ => ⟨rfl, rfl⟩
  | x :: r, F, h => by
    have hx := h x List.mem_cons_self
    have ih := gone_placesM ht r (ff F x) fun y hy => h y (List.mem_cons_of_mem _ hy)
    rw [placesE, List.map_cons]
    simp only [goneE, doneE]
    rw [front_map, front_fr ht hx]
    exact ih
/-- any places leave it -/
theorem gone_plM : ∀ (ps : List Nat) (t : List Str), (goneE t (t.map φ) (ps.map .pl)).2.1 = (goneE t (t.map φ) (ps.map .pl)).1.map φ
  | [], _ => rfl
  | p :: r, t => by
    rw [List.map_cons]
    simp only [goneE, doneE]
    rw [front_map]
    exact gone_plM r (front t p)
theorem firstE_nd : ∀ (L acc : List Str), (acc ++ L).Nodup → firstE acc L = acc ++ L
  | [], acc, _ => by rw [firstE, List.append_nil]
  | x :: r, acc, h => by
    have hx : x ∉ acc := fun z => by
      rw [List.nodup_append] at h
      exact h.2.2 x z x List.mem_cons_self rfl
    rw [firstE, if_neg hx, firstE_nd r (acc ++ [x]) (by simpa using h)]
    simp
theorem Ff_rev {L : List Str} (h : L.Nodup) : Ff [] L.reverse = L := by
  have := firstE_rev L.reverse
  rw [List.reverse_reverse] at this
  rw [← this, firstE_nd L [] (by simpa using h), List.nil_append]
theorem prm_of {t : List Str} (ht : t.Nodup) (p : (t.map φ).Perm t) : Prm φ t := by
  refine ⟨ht, fun x hx => p.mem_iff.mp (List.mem_map.mpr ⟨x, hx, rfl⟩), fun x hx y hy e => ?_⟩
  have hn : (t.map φ).Nodup := p.nodup_iff.mpr ht
  unfold List.Nodup at hn
  rw [List.pairwise_map] at hn
  apply Classical.byContradiction
  intro hne
  obtain ⟨i, hi, rfl⟩ := List.mem_iff_getElem.mp hx
  obtain ⟨j, hj, rfl⟩ := List.mem_iff_getElem.mp hy
  rw [List.pairwise_iff_getElem] at hn
  rcases Nat.lt_trichotomy i j with h | h | h
  · exact hn i j hi hj h e
  · subst h; exact hne rfl
  · exact hn j i hj hi h e.symm
/-! several rings made one -/
def blocks : List (Str × List Str) → List Str
  | [] => []
  | (x, xr) :: q => blocks q ++ xr ++ [x]
theorem blk_chain : ∀ (qs : List (Str × List Str)) (s e : Str), (∀ q ∈ qs, (q.1 :: q.2).map φ = q.2 ++ [q.1]) → (∀ q ∈ qs, ∀ y ∈ q.2, ψ y = φ y) → (qs.map (·.1)).map ψ ++ [ψ e] = s :: qs.map (fun q => φ q.1) → (e :: blocks qs).map ψ = blocks qs ++ [s]
  | [], s, e, _, _, h => by simpa [blocks] using h
  | (x, xr) :: q, s, e, h1, h2, h => by
    simp only [List.map_cons, List.cons_append] at h
    injection h with h3 h4
    have ih := blk_chain q (φ x) e (fun p hp => h1 p (List.mem_cons_of_mem _ hp)) (fun p hp => h2 p (List.mem_cons_of_mem _ hp)) h4
    have hx : φ x :: xr.map φ = xr ++ [x] := by simpa using h1 (x, xr) List.mem_cons_self
    have hm : xr.map ψ = xr.map φ := List.map_congr_left fun y hy => h2 (x, xr) List.mem_cons_self y hy
    rw [blocks, show e :: (blocks q ++ xr ++ [x]) = (e :: blocks q) ++ xr ++ [x] by simp, List.map_append, List.map_append, ih, hm]
    simp only [List.map_cons, List.map_nil, h3, List.append_assoc, List.singleton_append]
    rw [hx]
    simp
theorem blk_mem : ∀ (qs : List (Str × List Str)) (y : Str), y ∈ blocks qs ↔ ∃ q ∈ qs, y = q.1 ∨ y ∈ q.2
  | [], y => by simp [blocks]
  | (x, xr) :: q, y => by
    rw [blocks, List.mem_append, List.mem_append, blk_mem q y, List.mem_singleton]
    constructor
    · rintro ((⟨p, hp, h⟩ | h) | h)
      · exact ⟨p, List.mem_cons_of_mem _ hp, h⟩
      · exact ⟨_, List.mem_cons_self, .inr h⟩
      · exact ⟨_, List.mem_cons_self, .inl h⟩
    · rintro ⟨p, hp, h⟩
      rcases List.mem_cons.mp hp with rfl | hp
      · exact h.elim (fun z => .inr z) fun z => .inl (.inr z)
      · exact .inl (.inl ⟨p, hp, h⟩)
theorem blk_nd : ∀ (qs : List (Str × List Str)), (∀ q ∈ qs, (q.1 :: q.2).Nodup) → qs.Pairwise (fun a b => ∀ x ∈ a.1 :: a.2, x ∉ b.1 :: b.2) → (blocks qs).Nodup
  | [], _, _ => List.nodup_nil
  | (x, xr) :: q, h, hp => by
    have ih := blk_nd q (fun p hp => h p (List.mem_cons_of_mem _ hp)) (List.pairwise_cons.mp hp).2
    have h0 := (List.pairwise_cons.mp hp).1
    obtain ⟨n1, n2⟩ := List.nodup_cons.mp (h (x, xr) List.mem_cons_self)
    have off : ∀ y ∈ blocks q, y ∉ x :: xr := fun y hy hz => by
      obtain ⟨p, hp, hyp⟩ := (blk_mem q y).mp hy
      exact h0 p hp y hz (by rcases hyp with e | e; rw [e]; exact List.mem_cons_self; exact List.mem_cons_of_mem _ e)
    rw [blocks, List.nodup_append, List.nodup_append]
    refine ⟨⟨ih, n2, fun a ha b hb e => off a ha (by rw [e]; exact List.mem_cons_of_mem _ hb)⟩, by simp, fun a ha b hb e => ?_⟩
    rw [List.mem_singleton] at hb
    subst hb
    subst e
    rcases List.mem_append.mp ha with z | z
    · exact off a z List.mem_cons_self
    · exact n1 z
theorem merge_cyc {a e : Str} {ar' : List Str} {qs : List (Str × List Str)} (hq : qs ≠ []) (ha : (a :: (ar' ++ [e])).map φ = (ar' ++ [e]) ++ [a]) (h1 : ∀ q ∈ qs, (q.1 :: q.2).map φ = q.2 ++ [q.1]) (h2 : ∀ q ∈ qs, ∀ y ∈ q.2, ψ y = φ y) (h3 : ∀ y ∈ ar', ψ y = φ y)
    (h4 : (qs.map (·.1)).map ψ ++ [ψ e] = φ a :: qs.map (fun q => φ q.1)) (hn : (ar' ++ [e] ++ blocks qs).Nodup) : Cyc ψ (ar' ++ [e] ++ blocks qs) := by
  have ch := blk_chain qs (φ a) e h1 h2 h4
  obtain ⟨b, o, ho⟩ : ∃ b o, ar' ++ [e] = b :: o := by
    cases ar' with
    | nil => exact ⟨e, [], rfl⟩
    | cons b r => exact ⟨b, r ++ [e], rfl⟩
  rw [ho, List.map_cons, List.cons_append] at ha
  injection ha with hb hm
  have hm2 : ar'.map φ = o := by
    have : (b :: o).map φ = ar'.map φ ++ [φ e] := by rw [← ho, List.map_append]; rfl
    rw [this] at hm
    exact (List.append_inj' hm rfl).1
  have hne : blocks qs ≠ [] := by
    cases qs with
    | nil => exact absurd rfl hq
    | cons p r => obtain ⟨x, xr⟩ := p; rw [blocks]; simp
  refine ⟨b, o ++ blocks qs, by rw [ho]; rfl, by simp [hne], ?_, hn⟩
  have e1 : b :: (o ++ blocks qs) = ar' ++ (e :: blocks qs) := by
    rw [← List.cons_append, ← ho]; simp
  rw [e1, List.map_append, ch, List.map_congr_left h3, hm2, hb, List.append_assoc]
/-! the events that heal -/
def cureE (t L : List Str) : List Evt := (placesE t L.reverse).map .pl ++ [.nm (L.headD "")]
theorem gone_cure {t L : List Str} {a : Str} {L' : List Str} (hL : L = a :: L') (ht : t.Nodup) (hn : L.Nodup) (hs : ∀ x ∈ L, x ∈ t) :
    (goneE t (t.map φ) (cureE t L)).1 = front (fr L t) ((fr L t).idxOf a) ∧ (goneE t (t.map φ) (cureE t L)).2.1 = front ((fr L t).map φ) (((fr L t).map φ).idxOf a) := by
  have g := gone_placesM (φ := φ) ht L.reverse [] fun x hx => hs x (List.mem_reverse.mp hx)
  rw [fr_nil, Ff_rev hn] at g
  unfold cureE
  rw [gone_app]
  rw [g.1, g.2]
  have hd : L.headD "" = a := by rw [hL]; rfl
  rw [hd]
  exact ⟨rfl, rfl⟩
theorem front_top {α : Type} (x : α) (l : List α) : front (x :: l) 0 = x :: l := by simp [front]
theorem idx_app {a : Str} {u v : List Str} (h : a ∉ u) : (u ++ a :: v).idxOf a = u.length := by
  rw [List.idxOf_append, if_neg h, List.idxOf_cons_self]; omega
theorem front_at {a : Str} {u v : List Str} (h : a ∉ u) : front (u ++ a :: v) ((u ++ a :: v).idxOf a) = a :: (u ++ v) := by
  rw [idx_app h]
  exact front_mid u a v
end
end Lw
end
section
set_option Elab.async false
set_option linter.all false
set_option maxRecDepth 100000
set_option maxHeartbeats 1000000
open PySem PySem.Spec PyProof.Rows L2
namespace Lw
open Sim
theorem abc_len : (Str.ofString "abcdefghijklmnopqrstuvwxyz").length = 26 := by decide +kernel
abbrev abcS : List Str := (List.range 26).map fun k => ⟨#[97 + k]⟩
theorem list_abc {st : Stt} : fList st [.str (Str.ofString "abcdefghijklmnopqrstuvwxyz")] = some (abcS.map .str) := by
  show (if (Str.ofString "abcdefghijklmnopqrstuvwxyz").length ≤ 100000 then some ((Str.ofString "abcdefghijklmnopqrstuvwxyz").cps.toList.map fun c => W.str ⟨#[c]⟩) else none) = _
  rw [if_pos (by rw [abc_len]; decide), abc_eq, List.map_map, List.map_map]
  rfl
theorem abc_ltr : ∀ x ∈ abcS, Ltr x := fun x hx => by
  obtain ⟨k, hk, rfl⟩ := List.mem_map.mp hx
  exact ⟨97 + k, rfl, by omega, by have := List.mem_range.mp hk; omega⟩
theorem abc_nd : abcS.Nodup := by decide +kernel
/-- what is drawn from: a list, a row, the letters -/
structure Ths (st : Stt) (x : W) (ws : List W) : Prop where
  it : fList st [x] = some ws
  ln : lenOf st x = some ws.length
  lw : ∀ ex : Stt, lenOf (st ++ ex) x = some ws.length
theorem Ths.tup {st : Stt} {ws : List W} : Ths st (.tup ws) ws := ⟨rfl, rfl, fun _ => rfl⟩
theorem Ths.lst {st : Stt} {ws : List W} : Ths st (.lst ws) ws := ⟨rfl, rfl, fun _ => rfl⟩
theorem perm_strs {ys : List W} {xs : List Str} (h : ys.Perm (xs.map .str)) : ∃ zs : List Str, ys = zs.map .str ∧ zs.Perm xs := by
  have : ∀ w ∈ ys, ∃ z : Str, w = .str z := fun w hw => by
    obtain ⟨z, _, e⟩ := List.mem_map.mp (h.mem_iff.mp hw)
    exact ⟨z, e.symm⟩
  obtain ⟨zs, rfl⟩ : ∃ zs : List Str, ys = zs.map .str := by
    clear h
    induction ys with
    | nil => exact ⟨[], rfl⟩
    | cons w r ih =>
      obtain ⟨z, rfl⟩ := this w List.mem_cons_self
      obtain ⟨zs, rfl⟩ := ih fun u hu => this u (List.mem_cons_of_mem _ hu)
      exact ⟨z :: zs, rfl⟩
  refine ⟨zs, rfl, ?_⟩
  have g := h.filterMap (fun w : W => match w with | .str z => some z | _ => none)
  simpa [List.filterMap_map, Function.comp_def] using g
end Lw
end
section
set_option Elab.async false
set_option linter.all false
set_option maxRecDepth 100000
set_option maxHeartbeats 1000000
open PySem PySem.Spec PyProof.Rows L2
namespace Lw
open Sim
/-! what the program's rings tell -/
def kvE (t : List Str) (φ : Str → Str) : List (Key × W) := t.map fun x => (.inr x, .str (φ x))
theorem merge_new : ∀ (kvs acc : List (Key × W)), ((acc ++ kvs).map (·.1)).Nodup → mergeW acc kvs = acc ++ kvs
  | [], acc, _ => by simp [mergeW]
  | (k, v) :: r, acc, h => by
    have hk : ∀ kv ∈ acc, kv.1 ≠ k := fun kv hm e => by
      rw [List.map_append, List.nodup_append] at h
      exact h.2.2 kv.1 (List.mem_map.mpr ⟨kv, hm, rfl⟩) k (by simp) e
    have e1 : putW acc k v = acc ++ [(k, v)] := by
      unfold putW
      rw [if_neg]
      intro z
      obtain ⟨kv, hm, hd⟩ := List.any_eq_true.mp z
      exact hk kv hm (of_decide_eq_true hd)
    have := merge_new r (acc ++ [(k, v)]) (by simpa using h)
    unfold mergeW at this ⊢
    rw [List.foldl_cons, e1, this]
    simp
theorem nodup_inr : ∀ {line : List Str}, line.Nodup → (line.map (Sum.inr : Str → Key)).Nodup
  | [], _ => List.nodup_nil
  | a :: l, h => by
    obtain ⟨h1, h2⟩ := List.nodup_cons.mp h
    refine List.nodup_cons.mpr ⟨fun z => ?_, nodup_inr h2⟩
    obtain ⟨b, hb, e⟩ := List.mem_map.mp z
    cases e
    exact h1 hb
theorem kv_val {φ : Str → Str} {x : Str} : ∀ {t : List Str}, x ∈ t → valW (kvE t φ) (.inr x) = some (.str (φ x))
  | [], h => absurd h List.not_mem_nil
  | a :: l, h => by
    unfold valW kvE
    rw [List.map_cons, List.find?_cons]
    by_cases e : a = x
    · subst e; simp
    · have e1 : decide ((Sum.inr a : Key) = .inr x) = false := decide_eq_false fun z => e (by cases z; rfl)
      have ih := kv_val (φ := φ) ((List.mem_cons.mp h).resolve_left fun z => e z.symm)
      unfold valW kvE at ih
      rw [e1]
      exact ih
theorem keysL_strs : ∀ t : List Str, keysL (t.map .str) = some (t.map Sum.inr)
  | [] => rfl
  | a :: r => by rw [List.map_cons, keysL, keysL_strs r]; rfl
theorem zip_kv {φ : Str → Str} : ∀ t : List Str, (t.map (Sum.inr : Str → Key)).zip ((t.map φ).map W.str) = kvE t φ
  | [] => rfl
  | a :: r => by
    have := zip_kv (φ := φ) r
    unfold kvE at this ⊢
    rw [List.map_cons, List.map_cons, List.map_cons, List.zip_cons_cons, this, List.map_cons]
theorem keyS_kv {φ : Str → Str} : ∀ t : List Str, keyS (kvE t φ) = some t
  | [] => rfl
  | a :: r => by
    have := keyS_kv (φ := φ) r
    unfold kvE at this ⊢
    rw [List.map_cons, keyS, this]
    rfl
theorem kv_merge {φ : Str → Str} {t : List Str} (hn : t.Nodup) : mergeW [] (kvE t φ) = kvE t φ := by
  have h : (kvE t φ).map (·.1) = t.map Sum.inr := by unfold kvE; rw [List.map_map]; rfl
  have := merge_new (kvE t φ) [] (by rw [List.nil_append, h]; exact nodup_inr hn)
  simpa using this
theorem nlk_kv {φ : Str → Str} : ∀ t : List Str, nlWk (kvE t φ) = true
  | [] => by unfold kvE; rw [List.map_nil, nlWk]
  | a :: r => by
    have := nlk_kv (φ := φ) r
    unfold kvE at this ⊢
    rw [List.map_cons, nlWk, this, nlW]; rfl
/-- which keys a dict has -/
theorem put_some (kn : List (Key × W)) (k : Key) (v : W) (q : Key) : (valW (putW kn k v) q).isSome = ((valW kn q).isSome || decide (k = q)) := by
  have any_find : ∀ (l : List (Key × W)) (q : Key), (valW l q).isSome = l.any fun kv => decide (kv.1 = q) := fun l q => by
    unfold valW
    rw [Option.isSome_map, Bool.eq_iff_iff, List.find?_isSome]
    simp
  rw [any_find, any_find]
  unfold putW
  by_cases h : (kn.any fun kv => decide (kv.1 = k)) = true
  · rw [if_pos h, List.any_map]
    have : ((fun kv : Key × W => decide (kv.1 = q)) ∘ fun kv => if kv.1 = k then (kv.1, v) else kv) = fun kv => decide (kv.1 = q) := by
      funext kv
      simp only [Function.comp]
      split <;> rfl
    rw [this]
    by_cases hq : k = q
    · subst hq; rw [h]; simp
    · simp [hq]
  · rw [if_neg h, List.any_append]
    simp
theorem merge_some : ∀ (more kn : List (Key × W)) (q : Key), (valW (mergeW kn more) q).isSome = ((valW kn q).isSome || more.any fun kv => decide (kv.1 = q))
  | [], kn, q => by simp [mergeW]
  | (k, v) :: r, kn, q => by
    have := merge_some r (putW kn k v) q
    unfold mergeW at this ⊢
    rw [List.foldl_cons, this, put_some, List.any_cons, Bool.or_assoc]
theorem put_len (kn : List (Key × W)) (k : Key) (v : W) : (putW kn k v).length ≤ kn.length + 1 := by
  unfold putW
  split <;> simp
theorem merge_len : ∀ (more kn : List (Key × W)), (mergeW kn more).length ≤ kn.length + more.length
  | [], kn => by simp [mergeW]
  | (k, v) :: r, kn => by
    have h1 := merge_len r (putW kn k v)
    have h2 := put_len kn k v
    unfold mergeW at h1 ⊢
    rw [List.foldl_cons, List.length_cons]
    dsimp only at h1 ⊢
    omega
section
variable {st : Stt} {φ : Str → Str}
theorem read_as_ok {t : List Str} (ht : t.Nodup) : m_read_as [.tup [wS t, wS (t.map φ)]] st = .ok (.dic (kvE t φ)) st := by
  refine frz_pure ?_ (by rw [nlW]; exact nlk_kv t)
  have hz : ∀ ρ : Ev, ρ[0]? = some (some (.tup [wS t, wS (t.map φ)])) → eDictZip (aCons (eOp fIx (eVar 0) (eC (.int 0))) (aCons (eOp fIx (eVar 0) (eC (.int 1))) aNil)) ρ st = .ok (.dic (kvE t φ)) st := fun ρ h0 => by
    unfold eDictZip
    simp only [ev_cons, ev_op, ev_var, h0, ev_c, opK_ok, opK2_ok, ix_tup', atI_0, atI_1, List.getElem?_cons_zero, List.getElem?_cons_succ, optR_some, consK_ok, ev_nil, consK2_ok, Rs.bind, keysL_strs]
    rw [zip_kv, kv_merge ht]
  simp [r_read_as, entry, hz]
/-- the ring grown to its end -/
theorem orb_succ (l : Str) (k : Nat) : orbL φ l (k + 1) = orbL φ l k ++ [itr φ k l] := by
  unfold orbL
  rw [List.range_succ, List.map_append]; rfl
theorem atI_neg1 {α : Type} (pre : List α) (w : α) : atI (pre ++ [w]) (-1) = some w := by
  unfold atI ixN
  simp
  rw [if_pos (by omega), show (-1 + ((pre.length : Int) + 1)).toNat = pre.length by omega]
  simp
theorem ring_loop {t : List Str} {l : Str} {p C : Nat} {a1 a2 a5 : Option W} (P : Prm φ t) (tl : ∀ x ∈ t, Ltr x) (hl : l ∈ t) (hp : isPer φ l p) (hpn : p ≤ 1000) : ∀ (d k n : Nat) (s : Stt), p = k + d → 1 ≤ k → d < n → s[C]? = some (some (.lst ((orbL φ l k).map .str))) →
    whileW n (tmV (eOp fNe (eDget (eVar 0) (eOp fIx (eVar 4) (eNeg (eC (.int 1))))) (eVar 3))) (sDrop (eBM (eVar 4) (aCons (eDget (eVar 0) (eOp fIx (eVar 4) (eNeg (eC (.int 1))))) aNil) (mUp fAppend))) [some (.dic (kvE t φ)), a1, a2, some (.str l), some (.loc C), a5] s =
      .nx [some (.dic (kvE t φ)), a1, a2, some (.str l), some (.loc C), a5] (s.set C (some (.lst ((orbL φ l p).map .str)))) := by
  intro d
  induction d with
  | zero =>
    intro k n s hk h1 hn hC
    obtain ⟨n, rfl⟩ : ∃ m, n = m + 1 := ⟨n - 1, by omega⟩
    obtain ⟨q, rfl⟩ : ∃ q, k = q + 1 := ⟨k - 1, by omega⟩
    have hk' : p = q + 1 := by omega
    subst hk'
    have hix : fIx s (.loc C) (.int (-1)) = some (.str (itr φ q l)) := by
      rw [ix_loc', sq_loc, hC]
      dsimp only
      rw [orb_succ, List.map_append]
      exact atI_neg1 _ _
    have hm := P.itr q hl
    have hv := kv_val (φ := φ) hm
    have e1 : φ (itr φ q l) = l := by rw [← itr_succ (φ := φ)]; exact hp.2.1
    rw [e1] at hv
    have hg : eDget (eVar 0) (eOp fIx (eVar 4) (eNeg (eC (.int 1)))) [some (.dic (kvE t φ)), a1, a2, some (.str l), some (.loc C), a5] s = .ok (.str l) s :=
      dget_ok (d := .dic (kvE t φ)) (kvs := kvE t φ) rfl rfl (x := itr φ q l) (by simp only [ev_op, ev_var, ev_neg, ev_c, negK_ok, negW_int, List.getElem?_cons_succ, List.getElem?_cons_zero, opK_ok, opK2_ok, Int.reduceNeg, hix, optR_some]) hv
    have hne : fNe s (.str l) (.str l) = some (.bl false) := fNe_same (by rw [datW]; exact (tl l hl).ok)
    rw [while_stop (st1 := s) (by simp only [ev_tv, ev_op, hg, opK_ok, ev_var, List.getElem?_cons_succ, List.getElem?_cons_zero, opK2_ok, hne, optR_some, tvK_ok, tvW_bl])]
    congr 1
    refine List.ext_getElem? fun j => ?_
    by_cases hj : j = C
    · subst hj
      rw [List.getElem?_set_self (List.getElem?_eq_some_iff.mp hC).1]; exact hC
    · rw [List.getElem?_set_ne (fun z => hj z.symm)]
  | succ d ih =>
    intro k n s hk h1 hn hC
    obtain ⟨n, rfl⟩ : ∃ m, n = m + 1 := ⟨n - 1, by omega⟩
    obtain ⟨q, rfl⟩ : ∃ q, k = q + 1 := ⟨k - 1, by omega⟩
    have hix : ∀ r : Str, True := fun _ => trivial
    have hix : fIx s (.loc C) (.int (-1)) = some (.str (itr φ q l)) := by
      rw [ix_loc', sq_loc, hC]
      dsimp only
      rw [orb_succ, List.map_append]
      exact atI_neg1 _ _
    have hm := P.itr q hl
    have hv := kv_val (φ := φ) hm
    rw [← itr_succ (φ := φ)] at hv
    have hg : eDget (eVar 0) (eOp fIx (eVar 4) (eNeg (eC (.int 1)))) [some (.dic (kvE t φ)), a1, a2, some (.str l), some (.loc C), a5] s = .ok (.str (itr φ (q + 1) l)) s :=
      dget_ok (d := .dic (kvE t φ)) (kvs := kvE t φ) rfl rfl (x := itr φ q l) (by simp only [ev_op, ev_var, ev_neg, ev_c, negK_ok, negW_int, List.getElem?_cons_succ, List.getElem?_cons_zero, opK_ok, opK2_ok, Int.reduceNeg, hix, optR_some]) hv
    have hne : fNe s (.str (itr φ (q + 1) l)) (.str l) = some (.bl true) := by
      rw [fNe_str _ _ (tl _ (P.itr (q + 1) hl)).ok (tl l hl).ok]
      have := hp.2.2 (q + 1) (by omega) (by omega)
      simp [this]
    have hlen : ((orbL φ l (q + 1)).map W.str).length < 100000 := by unfold orbL; simp; omega
    have hup : mUp fAppend (.loc C) [.str (itr φ (q + 1) l)] s = .ok .non (s.set C (some (.lst ((orbL φ l (q + 1 + 1)).map .str)))) := by
      unfold mUp
      dsimp only
      rw [hC]
      dsimp only
      unfold fAppend
      dsimp only
      rw [if_pos hlen, orb_succ l (q + 1), List.map_append (l₁ := orbL φ l (q + 1))]
      rfl
    have hlx : lstX s (.loc C) = some ((orbL φ l (q + 1)).map .str) := by simp only [lstX, hC]
    rw [while_go (st1 := s) (ρ2 := [some (.dic (kvE t φ)), a1, a2, some (.str l), some (.loc C), a5]) (st2 := s.set C (some (.lst ((orbL φ l (q + 1 + 1)).map .str))))
      (by simp only [ev_tv, ev_op, hg, opK_ok, ev_var, List.getElem?_cons_succ, List.getElem?_cons_zero, opK2_ok, hne, optR_some, tvK_ok, tvW_bl])
      (by simp only [ev_drop, ev_bm, ev_var, List.getElem?_cons_succ, List.getElem?_cons_zero, bmK_ok, hlx, bmW_some, ev_cons, hg, ev_nil, consK_ok, consK2_ok, bmK2_ok, hup, dropK_ok])]
    rw [ih (q + 1 + 1) n _ (by omega) (by omega) (by omega) (List.getElem?_set_self (List.getElem?_eq_some_iff.mp hC).1), List.set_set]
end
end Lw
end
section
set_option Elab.async false
set_option linter.all false
set_option maxRecDepth 100000
set_option maxHeartbeats 1000000
open PySem PySem.Spec PyProof.Rows L2
namespace Lw
open Sim
theorem frz_same {m : FM} {ws : List W} {st st2 : Stt} {w w' : W} (h : m ws st = .ok w st2) (hl : st.length ≤ st2.length) (hf : ∀ j, j < st.length → st2[j]? = st[j]?) (hw : fzW st.length st2 w = some w') : frz m ws st = .ok w' st := by
  rw [frz_eq h (fun j hj => .inl (hf j hj)) hw]
  congr 1
  refine List.ext_getElem? fun j => ?_
  by_cases hj : j < st.length
  · rw [List.getElem?_take_of_lt hj, hf j hj]
  · rw [List.getElem?_eq_none (by rw [List.length_take]; omega), List.getElem?_eq_none (by omega)]
theorem nl_rows (rs : List (List Str)) : nlWs (rs.map wS) = true := by
  rw [nls_all]
  intro w hw
  obtain ⟨k, _, rfl⟩ := List.mem_map.mp hw
  rw [nlW]
  exact nl_strs k
def moreE (r : List Str) : List (Key × W) := r.map fun x => (.inr x, .bl true)
theorem more_merge {r : List Str} (hn : r.Nodup) : mergeW [] (moreE r) = moreE r := by
  have h : (moreE r).map (·.1) = r.map Sum.inr := by unfold moreE; rw [List.map_map]; rfl
  have := merge_new (moreE r) [] (by rw [List.nil_append, h]; exact nodup_inr hn)
  simpa using this
theorem more_any (r : List Str) (x : Str) : ((moreE r).any fun kv => decide (kv.1 = .inr x)) = decide (x ∈ r) := by
  unfold moreE
  rw [List.any_map, Bool.eq_iff_iff]
  simp only [List.any_eq_true, Function.comp, decide_eq_true_eq]
  constructor
  · rintro ⟨y, hy, e⟩
    cases e
    exact hy
  · exact fun h => ⟨x, h, rfl⟩
noncomputable abbrev ringB : SM := sIf (tmAnd (tmV (eOp (fDin true) (eVar 3) (eVar 2))) (tmV (eOp fNe (eDget (eVar 0) (eVar 3)) (eVar 3)))) (sSeq (sAsg (eLstL (aCons (eVar 3) aNil)) (gmName 4))
    (sSeq (whileW 1000000 (tmV (eOp fNe (eDget (eVar 0) (eOp fIx (eVar 4) (eNeg (eC (.int 1))))) (eVar 3))) (sDrop (eBM (eVar 4) (aCons (eDget (eVar 0) (eOp fIx (eVar 4) (eNeg (eC (.int 1))))) aNil) (mUp fAppend))))
    (sSeq (sDrop (eDM (eVar 2) (aCons (eDc (iSeq (eVar 4)) (gmName 5) tmYes (eVar 5) (eC (.bl true)) [5]) aNil) mUpdD))
    (sDrop (eBM (eVar 1) (aCons (eFn fTuple (aCons (eVar 4) aNil)) aNil) (mUp fAppend)))))) sNext
section
variable {st : Stt} {φ : Str → Str}
theorem ring_step {t : List Str} (P : Prm φ t) (tl : ∀ x ∈ t, Ltr x) (t16 : t.length ≤ 16) {A B : Nat} {l : Str} (hl : l ∈ t) {K : List Str} {acc : List (List Str)} {kn : List (Key × W)} {s : Stt} {a3 a4 a5 : Option W} (hAB : A ≠ B)
    (hA : s[A]? = some (some (.lst (acc.map wS)))) (hB : s[B]? = some (some (.dic kn))) (hk : ∀ x, (valW kn (.inr x)).isSome = decide (x ∈ K)) (h1 : acc.length ≤ 900) (h2 : kn.length ≤ 900) (hc : l ∉ K ∧ φ l ≠ l) :
    ∃ s' C, ringB [some (.dic (kvE t φ)), some (.loc A), some (.loc B), some (.str l), a4, a5] s = .nx [some (.dic (kvE t φ)), some (.loc A), some (.loc B), some (.str l), some (.loc C), a5] s' ∧ s.length ≤ s'.length ∧ (∀ j, j < s.length → j ≠ A → j ≠ B → s'[j]? = s[j]?) ∧
      s'[A]? = some (some (.lst ((acc ++ [ringO φ l]).map wS))) ∧ ∃ kn', s'[B]? = some (some (.dic kn')) ∧ (∀ x, (valW kn' (.inr x)).isSome = decide (x ∈ K ++ ringO φ l)) ∧ kn'.length ≤ kn.length + 16 := by
  have lA : A < s.length := (List.getElem?_eq_some_iff.mp hA).1
  have lB : B < s.length := (List.getElem?_eq_some_iff.mp hB).1
  have hp := per_is P hl
  have hpl := per_le P hl
  have rl : (ringO φ l).length ≤ 16 := by unfold ringO orbL; simp; omega
  have rn : (ringO φ l).Nodup := orb_nd P hl hp
  have t1 : fDin true s (.str l) (.loc B) = some (.bl true) := by
    unfold fDin
    simp only [dicX, hB, toKey, hk]
    simp [hc.1]
  have hv := kv_val (φ := φ) hl
  have t2 : fNe s (.str (φ l)) (.str l) = some (.bl true) := by
    rw [fNe_str _ _ (tl _ (P.cl l hl)).ok (tl l hl).ok]
    simp [hc.2]
  have g0 : eDget (eVar 0) (eVar 3) [some (.dic (kvE t φ)), some (.loc A), some (.loc B), some (.str l), a4, a5] s = .ok (.str (φ l)) s := dget_ok (d := .dic (kvE t φ)) (kvs := kvE t φ) rfl rfl (x := l) rfl hv
  obtain ⟨s1, hs1⟩ : ∃ s1, s1 = s ++ [some (Ob.lst [.str l])] := ⟨_, rfl⟩
  have c1 : s1[s.length]? = some (some (.lst ((orbL φ l 1).map .str))) := by rw [hs1]; exact List.getElem?_concat_length
  have wl := ring_loop (a1 := some (.loc A)) (a2 := some (.loc B)) (a5 := a5) P tl hl hp (by omega) (per φ l - 1) 1 1000000 s1 (by have := hp.1; omega) (Nat.le_refl _) (by omega) c1
  obtain ⟨s2, hs2⟩ : ∃ s2, s2 = s1.set s.length (some (Ob.lst ((orbL φ l (per φ l)).map W.str))) := ⟨_, rfl⟩
  rw [← hs2] at wl
  have l1 : s1.length = s.length + 1 := by rw [hs1]; simp
  have l2 : s2.length = s.length + 1 := by rw [hs2, List.length_set, l1]
  have c2 : s2[s.length]? = some (some (.lst ((ringO φ l).map .str))) := by rw [hs2]; exact List.getElem?_set_self (by omega)
  have o2 : ∀ j, j < s.length → s2[j]? = s[j]? := fun j hj => by rw [hs2, List.getElem?_set_ne (by omega), hs1, List.getElem?_append_left hj]
  have b2 : s2[B]? = some (some (.dic kn)) := by rw [o2 B lB]; exact hB
  have dc : ∀ ρ : Ev, 5 < ρ.length → dcW (okOf (.loc s.length) ((ringO φ l).map .str)) (gmName 5) tmYes (eVar 5) (eC (.bl true)) ρ ((ringO φ l).map .str) s2 = .ok (moreE (ringO φ l)) s2 := fun ρ hρ => by
    rw [dcW_map (f := fun w => match w with | .str x => (.inr x, .bl true) | w => (.inl 0, w)) (by exact c2)]
    · unfold moreE; rw [List.map_map]; rfl
    · intro w hw
      obtain ⟨x, hx, rfl⟩ := List.mem_map.mp hw
      have e5 : (ρ.set 5 (some (.str x)))[5]? = some (some (.str x)) := List.getElem?_set_self hρ
      exact ⟨_, .str x, rfl, by simp only [ev_var, e5], rfl, rfl⟩
  have lr : ((ringO φ l).map W.str).length ≤ 100000 := by rw [List.length_map]; omega
  have edc : eDc (iSeq (eVar 4)) (gmName 5) tmYes (eVar 5) (eC (.bl true)) [5] [some (.dic (kvE t φ)), some (.loc A), some (.loc B), some (.str l), some (.loc s.length), a5] s2 = .ok (.dic (moreE (ringO φ l))) s2 := by
    simp only [ev_dc, ev_iseq, ev_var, List.getElem?_cons_succ, List.getElem?_cons_zero, iseqK_ok, it_loc, sq_loc, c2, srcW_some, dcK_ok, lr, if_true, wipe_cons, wipe_nil, List.set_cons_succ, List.set_cons_zero]
    rw [dc _ (by simp), dcV_ok, more_merge rn]
  obtain ⟨s3, hs3⟩ : ∃ s3, s3 = s2.set B (some (Ob.dic (mergeW kn (moreE (ringO φ l))))) := ⟨_, rfl⟩
  have ml : (moreE (ringO φ l)).length = (ringO φ l).length := by unfold moreE; simp
  have hup : mUpdD (.loc B) [.dic (moreE (ringO φ l))] s2 = .ok .non s3 := by
    unfold mUpdD
    dsimp only
    rw [b2]
    dsimp only
    rw [if_pos (by omega), hs3]
  have c3 : s3[s.length]? = some (some (.lst ((ringO φ l).map .str))) := by rw [hs3, List.getElem?_set_ne (by omega)]; exact c2
  have a3' : s3[A]? = some (some (.lst (acc.map wS))) := by rw [hs3, List.getElem?_set_ne (fun z => hAB z.symm), o2 A lA]; exact hA
  have ft : fTuple s3 [.loc s.length] = some (wS (ringO φ l)) := by
    show (lstOf s3 (.loc s.length)).map W.tup = _
    rw [ls_loc, c3]
    rfl
  obtain ⟨s4, hs4⟩ : ∃ s4, s4 = s3.set A (some (Ob.lst ((acc ++ [ringO φ l]).map wS))) := ⟨_, rfl⟩
  have hap : mUp fAppend (.loc A) [wS (ringO φ l)] s3 = .ok .non s4 := by
    have : (acc.map wS).length < 100000 := by rw [List.length_map]; omega
    unfold mUp
    dsimp only
    rw [a3']
    dsimp only
    unfold fAppend
    dsimp only
    rw [if_pos this, hs4, List.map_append]
    rfl
  have hlx : lstX s3 (.loc A) = some (acc.map wS) := by simp only [lstX, a3']
  have l3 : s3.length = s.length + 1 := by rw [hs3, List.length_set, l2]
  have edm : eDM (eVar 2) (aCons (eDc (iSeq (eVar 4)) (gmName 5) tmYes (eVar 5) (eC (.bl true)) [5]) aNil) mUpdD [some (.dic (kvE t φ)), some (.loc A), some (.loc B), some (.str l), some (.loc s.length), a5] s2 = .ok .non s3 := by
    unfold eDM
    simp only [ev_var, List.getElem?_cons_succ, List.getElem?_cons_zero, Rs.bind, b2, ev_cons, edc, consK_ok, ev_nil, consK2_ok, hup]
  have elst : eLstL (aCons (eVar 3) aNil) [some (.dic (kvE t φ)), some (.loc A), some (.loc B), some (.str l), a4, a5] s = .ok (.loc s.length) s1 := by
    simp only [ev_lstL, ev_cons, ev_var, List.getElem?_cons_succ, List.getElem?_cons_zero, consK_ok, ev_nil, consK2_ok, lstLK_ok, List.length_cons, List.length_nil, hs1]
    rfl
  refine ⟨s4, s.length, ?_, by rw [hs4, List.length_set, l3]; omega, fun j hj hjA hjB => by rw [hs4, List.getElem?_set_ne (fun z => hjA z.symm), hs3, List.getElem?_set_ne (fun z => hjB z.symm), o2 j hj], by rw [hs4]; exact List.getElem?_set_self (by omega), mergeW kn (moreE (ringO φ l)), ?_, fun x => ?_, ?_⟩
  · simp only [ringB, ev_if, ev_tand, ev_tv, ev_op, ev_var, List.getElem?_cons_succ, List.getElem?_cons_zero, opK_ok, opK2_ok, t1, optR_some, tvK_ok, tvW_bl, tandK_ok, if_true, g0, t2, ifK_ok, ev_seq, ev_asg, elst, asgK_ok, ev_gname, optS_some, seqK_nx, List.set_cons_succ, List.set_cons_zero]
    rw [wl, seqK_nx]
    simp only [ev_seq, ev_drop, edm, dropK_ok, seqK_nx, ev_bm, ev_var, List.getElem?_cons_succ, List.getElem?_cons_zero, bmK_ok, hlx, bmW_some, ev_cons, ev_fn, consK_ok, ev_nil, consK2_ok, fnK_ok, ft, optR_some, bmK2_ok, hap]
  · rw [hs4, List.getElem?_set_ne hAB, hs3]; exact List.getElem?_set_self (by omega)
  · rw [merge_some, hk, more_any]
    simp [List.mem_append]
  · have := merge_len (moreE (ringO φ l)) kn
    omega
theorem ring_skip {t : List Str} (P : Prm φ t) (tl : ∀ x ∈ t, Ltr x) {A B : Nat} {l : Str} (hl : l ∈ t) {K : List Str} {kn : List (Key × W)} {s : Stt} {a4 a5 : Option W}
    (hB : s[B]? = some (some (.dic kn))) (hk : ∀ x, (valW kn (.inr x)).isSome = decide (x ∈ K)) (hc : ¬ (l ∉ K ∧ φ l ≠ l)) :
    ringB [some (.dic (kvE t φ)), some (.loc A), some (.loc B), some (.str l), a4, a5] s = .nx [some (.dic (kvE t φ)), some (.loc A), some (.loc B), some (.str l), a4, a5] s := by
  have t1 : fDin true s (.str l) (.loc B) = some (.bl (!decide (l ∈ K))) := by
    unfold fDin
    simp only [dicX, hB, toKey, hk]
    simp
  have hv := kv_val (φ := φ) hl
  have t2 : fNe s (.str (φ l)) (.str l) = some (.bl (φ l != l)) := fNe_str _ _ (tl _ (P.cl l hl)).ok (tl l hl).ok
  have g0 : eDget (eVar 0) (eVar 3) [some (.dic (kvE t φ)), some (.loc A), some (.loc B), some (.str l), a4, a5] s = .ok (.str (φ l)) s := dget_ok (d := .dic (kvE t φ)) (kvs := kvE t φ) rfl rfl (x := l) rfl hv
  by_cases hK : l ∈ K
  · simp only [ringB, ev_if, ev_tand, ev_tv, ev_op, ev_var, List.getElem?_cons_succ, List.getElem?_cons_zero, opK_ok, opK2_ok, t1, optR_some, tvK_ok, tvW_bl, tandK_ok, hK, decide_true, Bool.not_true, Bool.false_eq_true, if_false, ifK_ok, ev_next]
  · have he : φ l = l := Classical.byContradiction fun z => hc ⟨hK, z⟩
    have hb : (φ l != l) = false := by rw [he]; simp
    simp only [ringB, ev_if, ev_tand, ev_tv, ev_op, ev_var, List.getElem?_cons_succ, List.getElem?_cons_zero, opK_ok, opK2_ok, t1, optR_some, tvK_ok, tvW_bl, tandK_ok, hK, decide_false, Bool.not_false, if_true, g0, t2, hb, Bool.false_eq_true, if_false, ifK_ok, ev_next]
theorem rings_loop {t : List Str} (P : Prm φ t) (tl : ∀ x ∈ t, Ltr x) (t16 : t.length ≤ 16) {A B : Nat} (hAB : A ≠ B) : ∀ (L K : List Str) (acc : List (List Str)) (kn : List (Key × W)) (s : Stt) (a3 a4 a5 : Option W), (∀ l ∈ L, l ∈ t) →
    s[A]? = some (some (.lst (acc.map wS))) → s[B]? = some (some (.dic kn)) → (∀ x, (valW kn (.inr x)).isSome = decide (x ∈ K)) → acc.length + L.length ≤ 900 → kn.length + 16 * L.length ≤ 900 →
    ∃ s' a3' a4', forW (fun _ => True) (gmName 3) ringB (L.map .str) [some (.dic (kvE t φ)), some (.loc A), some (.loc B), a3, a4, a5] s = .nx [some (.dic (kvE t φ)), some (.loc A), some (.loc B), a3', a4', a5] s' ∧ s.length ≤ s'.length ∧ (∀ j, j < s.length → j ≠ A → j ≠ B → s'[j]? = s[j]?) ∧
      s'[A]? = some (some (.lst ((acc ++ ringsF φ L K).map wS))) := by
  intro L
  induction L with
  | nil => exact fun K acc kn s a3 a4 a5 _ hA _ _ _ _ => ⟨s, a3, a4, forW_nil trivial, Nat.le_refl _, fun _ _ _ _ => rfl, by unfold ringsF; rw [List.append_nil]; exact hA⟩
  | cons l L ih =>
    intro K acc kn s a3 a4 a5 hL hA hB hk h1 h2
    have hl := hL l List.mem_cons_self
    have hL' := fun x hx => hL x (List.mem_cons_of_mem l hx)
    have lA : A < s.length := (List.getElem?_eq_some_iff.mp hA).1
    have lB : B < s.length := (List.getElem?_eq_some_iff.mp hB).1
    rw [List.length_cons] at h1 h2
    unfold ringsF
    by_cases hc : l ∉ K ∧ φ l ≠ l
    · obtain ⟨s1, C, e1, e2, e3, e4, kn', e5, e6, e7⟩ := ring_step (a3 := a3) (a4 := a4) (a5 := a5) P tl t16 hl hAB hA hB hk (by omega) (by omega) hc
      obtain ⟨s', a3', a4', f1, f2, f3, f4⟩ := ih (K ++ ringO φ l) (acc ++ [ringO φ l]) kn' s1 (some (.str l)) (some (.loc C)) a5 hL' e4 e5 e6 (by rw [List.length_append, List.length_singleton]; omega) (by omega)
      refine ⟨s', a3', a4', ?_, by omega, fun j hj hjA hjB => by rw [f3 j (by omega) hjA hjB, e3 j hj hjA hjB], ?_⟩
      · rw [List.map_cons, forW_nx trivial rfl e1]; exact f1
      · rw [if_pos hc, f4, List.append_assoc, List.singleton_append]
    · obtain ⟨s', a3', a4', f1, f2, f3, f4⟩ := ih K acc kn s (some (.str l)) a4 a5 hL' hA hB hk (by omega) (by omega)
      refine ⟨s', a3', a4', ?_, f2, f3, ?_⟩
      · rw [List.map_cons, forW_nx trivial rfl (ring_skip (a4 := a4) (a5 := a5) P tl hl hB hk hc)]; exact f1
      · rw [if_neg hc]; exact f4
theorem rings_of_ok {t : List Str} (P : Prm φ t) (tl : ∀ x ∈ t, Ltr x) (t16 : t.length ≤ 16) : m_rings_of [.dic (kvE t φ)] st = .ok (.lst ((ringsF φ (sortS t) []).map wS)) st := by
  have sl : (sortS t).length = t.length := (sortS_perm t).length_eq
  obtain ⟨s', a3', a4', e1, e2, e3, e4⟩ := rings_loop (φ := φ) P tl t16 (A := st.length) (B := st.length + 1) (by omega) (sortS t) [] [] [] (st ++ [some (.lst []), some (.dic [])]) none none none (fun l hl => (sortS_perm t).mem_iff.mp hl)
    (get_p0 _ _ _) (get_p1 _ _ _) (fun x => by simp [valW]) (by simp; omega) (by simp; omega)
  rw [List.nil_append] at e4
  have fs : ∀ s, fSortedD s [.dic (kvE t φ)] = some ((sortS t).map .str) := fun s => by
    unfold fSortedD
    simp only [dicX, Option.bind_some, keyS_kv]
    rw [if_pos (by omega)]
  refine frz_same (w := .loc st.length) (st2 := s') ?_ (by simp at e2; omega) (fun j hj => by rw [e3 j (by simp; omega) (by omega) (by omega), List.getElem?_append_left hj]) ?_
  · simp [r_rings_of, entry, fs, e1]
  · rw [fzW, if_neg (by omega), e4]
    dsimp only
    rw [if_pos (nls_ok _ _ (nl_rows _))]
theorem rings_ok {t : List Str} (b : Both t (t.map φ)) : m_rings [.tup [wS t, wS (t.map φ)]] st = .ok (.lst ((ringsF φ (sortS t) []).map wS)) st := by
  refine frz_pure ?_ (by rw [nlW]; exact nl_rows _)
  have P := prm_of (φ := φ) b.row.nd b.perm
  simp [r_rings, entry, need_pair_ok b, read_as_ok b.row.nd, rings_of_ok P b.row.ltr b.row.few]
end
end Lw
end
section
set_option Elab.async false
set_option linter.all false
set_option maxRecDepth 100000
set_option maxHeartbeats 1000000
open PySem PySem.Spec PyProof.Rows L2
namespace Lw
open Sim
/-! how any pair is healed -/
def phi (t h : List Str) (x : Str) : Str := h.getD (t.idxOf x) ""
theorem phi_map {t h : List Str} (ht : t.Nodup) (hl : h.length = t.length) : t.map (phi t h) = h := by
  refine List.ext_getElem (by simp [hl]) fun i h1 h2 => ?_
  have hi : i < t.length := by simpa using h1
  rw [List.getElem_map]
  unfold phi
  rw [ht.idxOf_getElem i hi]
  simp [List.getD, h2]
noncomputable def ringsP (t h : List Str) : List (List Str) := ringsF (phi t h) (sortS t) []
theorem rings_facts {t h : List Str} (b : Both t h) : (∀ r ∈ ringsP t h, Cyc (phi t h) r ∧ ∀ x ∈ r, x ∈ t) ∧ (ringsP t h).Pairwise (fun a b => ∀ x ∈ a, x ∉ b) ∧ ∀ x ∈ t, phi t h x ≠ x → ∃ r ∈ ringsP t h, x ∈ r := by
  have hm := phi_map b.row.nd b.len
  have P := prm_of (φ := phi t h) b.row.nd (by rw [hm]; exact b.perm)
  obtain ⟨i1, i2, i3⟩ := rings_all P (sortS t) [] (fun l hl => (sortS_perm t).mem_iff.mp hl) (fun x hx => absurd hx List.not_mem_nil)
  exact ⟨fun r hr => ⟨(i1 r hr).1, (i1 r hr).2.1⟩, i2, fun x hx hn => (i3 x ((sortS_perm t).mem_iff.mpr hx) hn).resolve_left List.not_mem_nil⟩
theorem rings_nil {t h : List Str} (b : Both t h) : ringsP t h = [] ↔ t = h := by
  have hm := phi_map b.row.nd b.len
  constructor
  · intro e
    have i3 := (rings_facts b).2.2
    rw [e] at i3
    have : t.map (phi t h) = t.map id := List.map_congr_left fun x hx => Classical.byContradiction fun z => by
      obtain ⟨r, hr, _⟩ := i3 x hx z
      exact absurd hr List.not_mem_nil
    rw [hm, List.map_id] at this
    exact this.symm
  · intro e
    have P := prm_of (φ := phi t h) b.row.nd (by rw [hm]; exact b.perm)
    refine rings_none P (fun l hl => (sortS_perm t).mem_iff.mp hl) fun x hx => ?_
    have h2 : t.map (phi t h) = t.map id := by rw [hm, List.map_id]; exact e.symm
    exact List.map_inj_left.mp h2 x hx
theorem ringsP_one {t h c : List Str} (b : Both t h) (hc : Cyc (phi t h) c) (hs : ∀ x ∈ c, x ∈ t) (ho : ∀ x ∈ t, x ∉ c → phi t h x = x) : (ringsP t h).length = 1 := by
  have hm := phi_map b.row.nd b.len
  have P := prm_of (φ := phi t h) b.row.nd (by rw [hm]; exact b.perm)
  exact rings_one P (fun l => (sortS_perm t).mem_iff) hc hs ho
def lettersE : List (List Str) → List Str
  | [] => []
  | [r] => r
  | r :: s :: rs => [r.headD ""] ++ (s :: rs).map (·.headD "") ++ [r.getLastD ""]
/-- a ring's ends -/
theorem Cyc.ends {φ : Str → Str} {c : List Str} (h : Cyc φ c) : ∃ a ar e, c = a :: (ar ++ [e]) ∧ (a :: (ar ++ [e])).map φ = (ar ++ [e]) ++ [a] ∧ c.Nodup := by
  obtain ⟨a, o, e1, ho, e2, e3⟩ := h
  obtain ⟨ar, e, rfl⟩ : ∃ ar e, o = ar ++ [e] := ⟨o.dropLast, o.getLast ho, (List.dropLast_concat_getLast ho).symm⟩
  exact ⟨a, ar, e, e1, e2, e3⟩
theorem Cyc.top {φ : Str → Str} {c : List Str} (h : Cyc φ c) : c.headD "" :: c.tail = c ∧ (c.headD "" :: c.tail).map φ = c.tail ++ [c.headD ""] ∧ c.headD "" ∈ c := by
  obtain ⟨a, o, rfl, ho, e2, e3⟩ := h
  exact ⟨rfl, e2, List.mem_cons_self⟩
theorem heads_nd : ∀ (cs : List (List Str)), (∀ c ∈ cs, c.headD "" ∈ c) → cs.Pairwise (fun a b => ∀ x ∈ a, x ∉ b) → (cs.map (·.headD "")).Nodup
  | [], _, _ => List.nodup_nil
  | c :: r, h, p => by
    obtain ⟨p1, p2⟩ := List.pairwise_cons.mp p
    rw [List.map_cons]
    refine List.nodup_cons.mpr ⟨fun z => ?_, heads_nd r (fun x hx => h x (List.mem_cons_of_mem _ hx)) p2⟩
    obtain ⟨d, hd, e⟩ := List.mem_map.mp z
    exact p1 d hd _ (h c List.mem_cons_self) (e ▸ h d (List.mem_cons_of_mem _ hd))
theorem letters_ok {t h : List Str} (b : Both t h) (hR : ringsP t h ≠ []) : (lettersE (ringsP t h)).Nodup ∧ (∀ x ∈ lettersE (ringsP t h), x ∈ t) ∧ lettersE (ringsP t h) ≠ [] := by
  obtain ⟨i1, i2, _⟩ := rings_facts b
  cases e : ringsP t h with
  | nil => exact absurd e hR
  | cons r q =>
    rw [e] at i1 i2
    have c0 := (i1 r List.mem_cons_self).1
    have s0 := (i1 r List.mem_cons_self).2
    obtain ⟨a, ar, l, e1, e2, e3⟩ := c0.ends
    cases q with
    | nil => exact ⟨e3, s0, by rw [lettersE, e1]; exact List.cons_ne_nil _ _⟩
    | cons s rs =>
      have hh : ∀ c ∈ s :: rs, c.headD "" ∈ c := fun c hc => ((i1 c (List.mem_cons_of_mem _ hc)).1.top).2.2
      have p0 := (List.pairwise_cons.mp i2).1
      have nd := heads_nd (s :: rs) hh (List.pairwise_cons.mp i2).2
      have off : ∀ x ∈ r, x ∉ (s :: rs).map (·.headD "") := fun x hx z => by
        obtain ⟨d, hd, e⟩ := List.mem_map.mp z
        exact p0 d hd x hx (e ▸ hh d hd)
      have hl : r.getLastD "" = l := by rw [e1, ← List.cons_append, List.getLastD_eq_getLast?, List.getLast?_concat]; rfl
      have hd : r.headD "" = a := by rw [e1]; rfl
      rw [lettersE, hl, hd]
      have ha : a ∈ r := by rw [e1]; exact List.mem_cons_self
      have hlr : l ∈ r := by rw [e1]; simp
      have hal : a ≠ l := fun z => by
        rw [e1, z] at e3
        simp at e3
      obtain ⟨H, hH⟩ : ∃ H, H = (s :: rs).map (·.headD "") := ⟨_, rfl⟩
      rw [← hH] at nd off ⊢
      refine ⟨?_, fun x hx => ?_, by simp⟩
      · rw [List.nodup_append]
        refine ⟨?_, by simp, fun x hx y hy => ?_⟩
        · exact List.nodup_cons.mpr ⟨off a ha, nd⟩
        · rw [List.mem_singleton] at hy
          subst hy
          rcases List.mem_cons.mp hx with rfl | hx
          · exact hal
          · rintro rfl; exact off x hlr hx
      · rcases List.mem_append.mp hx with hx | hx
        · rcases List.mem_cons.mp hx with rfl | hx
          · exact s0 _ ha
          · have hx : x ∈ H := hx
            rw [hH] at hx
            obtain ⟨d, hd, rfl⟩ := List.mem_map.mp hx
            exact (i1 d (List.mem_cons_of_mem _ hd)).2 _ (hh d hd)
        · rw [List.mem_singleton.mp hx]; exact s0 _ hlr
theorem heal_cyc {t h r s : List Str} {rs : List (List Str)} (b : Both t h) (hR : ringsP t h = r :: s :: rs) : ∃ c, Cyc (phi (goneE t h (cureE t (lettersE (r :: s :: rs)))).1 (goneE t h (cureE t (lettersE (r :: s :: rs)))).2.1) c ∧ (∀ x ∈ c, x ∈ (goneE t h (cureE t (lettersE (r :: s :: rs)))).1) ∧
    (∀ x ∈ (goneE t h (cureE t (lettersE (r :: s :: rs)))).1, x ∉ c → phi (goneE t h (cureE t (lettersE (r :: s :: rs)))).1 (goneE t h (cureE t (lettersE (r :: s :: rs)))).2.1 x = x) ∧ ∀ x, x ∈ c ↔ x ≠ r.headD "" ∧ ∃ d ∈ r :: s :: rs, x ∈ d := by
  obtain ⟨i1, i2, i3⟩ := rings_facts b
  obtain ⟨l1, l2, _⟩ := letters_ok b (by rw [hR]; exact List.cons_ne_nil _ _)
  have b2 := gone_both (es := cureE t (lettersE (r :: s :: rs))) b
  rw [hR] at i1 i2 i3 l1 l2
  have hm := phi_map b.row.nd b.len
  have c0 := (i1 r List.mem_cons_self).1
  have s0 := (i1 r List.mem_cons_self).2
  obtain ⟨a, ar, l, e1, e2, e3⟩ := c0.ends
  have p0 := (List.pairwise_cons.mp i2).1
  have p1 := (List.pairwise_cons.mp i2).2
  have hl : r.getLastD "" = l := by rw [e1, ← List.cons_append, List.getLastD_eq_getLast?, List.getLast?_concat]; rfl
  have hd : r.headD "" = a := by rw [e1]; rfl
  obtain ⟨qs, hqs⟩ : ∃ qs, qs = (s :: rs).map fun c => (c.headD "", c.tail) := ⟨_, rfl⟩
  have hH : (s :: rs).map (·.headD "") = qs.map (·.1) := by rw [hqs, List.map_map]; rfl
  have hL : lettersE (r :: s :: rs) = a :: (qs.map (·.1) ++ [l]) := by rw [lettersE, hl, hd, hH]; rfl
  have hq : ∀ q ∈ qs, ∃ c ∈ s :: rs, q = (c.headD "", c.tail) := fun q hq => by
    rw [hqs] at hq
    obtain ⟨c, hc, e⟩ := List.mem_map.mp hq
    exact ⟨c, hc, e.symm⟩
  rw [hL] at l1 l2 b2 ⊢
  have g := gone_cure (φ := phi t h) rfl b.row.nd l1 l2
  rw [hm] at g
  obtain ⟨t2, ht2⟩ : ∃ t2, t2 = (goneE t h (cureE t (a :: (qs.map (·.1) ++ [l])))).1 := ⟨_, rfl⟩
  obtain ⟨h2, hh2⟩ : ∃ h2, h2 = (goneE t h (cureE t (a :: (qs.map (·.1) ++ [l])))).2.1 := ⟨_, rfl⟩
  rw [← ht2, ← hh2] at b2 g ⊢
  obtain ⟨B, hB⟩ : ∃ B, B = t.filter fun y => !decide (y ∈ a :: (qs.map (·.1) ++ [l])) := ⟨_, rfl⟩
  have f1 : fr (a :: (qs.map (·.1) ++ [l])) t = a :: ((qs.map (·.1) ++ [l]) ++ B) := by unfold fr; rw [← hB]; rfl
  have pl : phi t h l = a := by
    have e4 : (a :: ar).map (phi t h) ++ [phi t h l] = (ar ++ [l]) ++ [a] := by rw [← e2, ← List.cons_append, List.map_append]; rfl
    have := (List.append_inj' e4 rfl).2
    injection this
  have f2 : (fr (a :: (qs.map (·.1) ++ [l])) t).map (phi t h) = (phi t h a :: qs.map (fun q => phi t h q.1)) ++ a :: B.map (phi t h) := by
    rw [f1, List.map_cons, List.map_append, List.map_append, List.map_map, List.map_cons, List.map_nil, pl]
    simp [Function.comp_def]
  have ar0 : a ∈ r := by rw [e1]; exact List.mem_cons_self
  have lr0 : l ∈ r := by rw [e1]; simp
  have hn1 : a ∉ phi t h a :: qs.map (fun q => phi t h q.1) := fun z => by
    rcases List.mem_cons.mp z with z | z
    · exact c0.mv a ar0 z.symm
    · obtain ⟨q, hq1, e⟩ := List.mem_map.mp z
      obtain ⟨c, hc, rfl⟩ := hq q hq1
      have k := (i1 c (List.mem_cons_of_mem _ hc)).1
      have := k.cl _ k.top.2.2
      rw [e] at this
      exact p0 c hc a ar0 this
  have g1 : t2 = a :: ((qs.map (·.1) ++ [l]) ++ B) := by rw [g.1, f1, List.idxOf_cons_self, front_top]
  have g2 : h2 = a :: ((phi t h a :: qs.map (fun q => phi t h q.1)) ++ B.map (phi t h)) := by rw [g.2, f2, front_at hn1]
  have m2 := phi_map b2.row.nd b2.len
  have m3 : (a :: ((qs.map (·.1) ++ [l]) ++ B)).map (phi t2 h2) = a :: ((phi t h a :: qs.map (fun q => phi t h q.1)) ++ B.map (phi t h)) := by rw [← g1, m2, g2]
  obtain ⟨ψ, hψ⟩ : ∃ ψ, ψ = phi t2 h2 := ⟨_, rfl⟩
  rw [← hψ, List.map_cons, List.map_append] at m3
  injection m3 with m4 m5
  obtain ⟨m6, m7⟩ := List.append_inj m5 (by simp)
  have m8 := List.map_inj_left.mp m7
  have inB : ∀ y ∈ t, y ∉ a :: (qs.map (·.1) ++ [l]) → ψ y = phi t h y := fun y hy hn => m8 y (by rw [hB]; exact List.mem_filter.mpr ⟨hy, by simp only [hn, decide_false, Bool.not_false]⟩)
  have hmem : ∀ y, y ∈ a :: (qs.map (·.1) ++ [l]) ↔ y = a ∨ (∃ c ∈ s :: rs, y = c.headD "") ∨ y = l := fun y => by
    rw [List.mem_cons, List.mem_append, List.mem_singleton, ← hH, List.mem_map]
    exact or_congr_right (or_congr_left ⟨fun ⟨c, h1, h2⟩ => ⟨c, h1, h2.symm⟩, fun ⟨c, h1, h2⟩ => ⟨c, h1, h2.symm⟩⟩)
  have hne : qs ≠ [] := by rw [hqs, List.map_cons]; exact List.cons_ne_nil _ _
  have k1 : ∀ q ∈ qs, (q.1 :: q.2).map (phi t h) = q.2 ++ [q.1] := fun q hq1 => by
    obtain ⟨c, hc, rfl⟩ := hq q hq1
    exact ((i1 c (List.mem_cons_of_mem _ hc)).1.top).2.1
  have disj : ∀ c ∈ s :: rs, ∀ d ∈ s :: rs, ∀ y, y ∈ c → y ∈ d → c = d := fun c hc d hd y h1 h2 => by
    obtain ⟨i, hi, rfl⟩ := List.mem_iff_getElem.mp hc
    obtain ⟨j, hj, rfl⟩ := List.mem_iff_getElem.mp hd
    rw [List.pairwise_iff_getElem] at p1
    rcases Nat.lt_trichotomy i j with z | z | z
    · exact absurd h2 (p1 i j hi hj z y h1)
    · subst z; rfl
    · exact absurd h1 (p1 j i hj hi z y h2)
  have tailN : ∀ c ∈ s :: rs, c.headD "" ∉ c.tail := fun c hc => by
    have k := (i1 c (List.mem_cons_of_mem _ hc)).1
    obtain ⟨x, o, rfl, _, _, n⟩ := k
    exact (List.nodup_cons.mp n).1
  have k2 : ∀ q ∈ qs, ∀ y ∈ q.2, ψ y = phi t h y := fun q hq1 y hy => by
    obtain ⟨c, hc, rfl⟩ := hq q hq1
    have yc : y ∈ c := List.mem_of_mem_tail hy
    refine inB y ((i1 c (List.mem_cons_of_mem _ hc)).2 y yc) fun z => ?_
    rcases (hmem y).mp z with rfl | ⟨d, hd, rfl⟩ | rfl
    · exact p0 c hc y ar0 yc
    · have := disj c hc d hd _ yc ((i1 d (List.mem_cons_of_mem _ hd)).1.top).2.2
      subst this
      exact tailN c hc hy
    · exact p0 c hc y lr0 yc
  rw [e1] at e3
  obtain ⟨n1, n2⟩ := List.nodup_cons.mp e3
  have k3 : ∀ y ∈ ar, ψ y = phi t h y := fun y hy => by
    have yr : y ∈ r := by rw [e1]; exact List.mem_cons_of_mem _ (List.mem_append_left _ hy)
    refine inB y (s0 y yr) fun z => ?_
    rcases (hmem y).mp z with rfl | ⟨d, hd, rfl⟩ | rfl
    · exact n1 (List.mem_append_left _ hy)
    · exact p0 d hd _ yr ((i1 d (List.mem_cons_of_mem _ hd)).1.top).2.2
    · rw [List.nodup_append] at n2
      exact n2.2.2 y hy y (by simp) rfl
  have k4 : (qs.map (·.1)).map ψ ++ [ψ l] = phi t h a :: qs.map (fun q => phi t h q.1) := by rw [← m6, List.map_append]; rfl
  have bq : ∀ y, y ∈ blocks qs ↔ ∃ c ∈ s :: rs, y ∈ c := fun y => by
    rw [blk_mem]
    constructor
    · rintro ⟨q, hq1, h⟩
      obtain ⟨c, hc, rfl⟩ := hq q hq1
      refine ⟨c, hc, ?_⟩
      have := ((i1 c (List.mem_cons_of_mem _ hc)).1.top).2.2
      rcases h with h | h
      · rw [h]; exact this
      · exact List.mem_of_mem_tail h
    · rintro ⟨c, hc, h⟩
      refine ⟨(c.headD "", c.tail), by rw [hqs]; exact List.mem_map.mpr ⟨c, hc, rfl⟩, ?_⟩
      have := ((i1 c (List.mem_cons_of_mem _ hc)).1.top).1
      rw [← this] at h
      exact List.mem_cons.mp h
  have hb1 : (blocks qs).Nodup := by
    refine blk_nd qs (fun q hq1 => ?_) ?_
    · obtain ⟨c, hc, rfl⟩ := hq q hq1
      have k := (i1 c (List.mem_cons_of_mem _ hc)).1
      have e := k.top.1
      dsimp only
      rw [e]
      obtain ⟨x, o, rfl, _, _, n⟩ := k
      exact n
    · rw [hqs, List.pairwise_map]
      refine p1.imp_of_mem fun {c d} hc hd h => ?_
      have ec := ((i1 c (List.mem_cons_of_mem _ hc)).1.top).1
      have ed := ((i1 d (List.mem_cons_of_mem _ hd)).1.top).1
      dsimp only
      rw [ec, ed]
      exact h
  have nn : (ar ++ [l] ++ blocks qs).Nodup := by
    rw [List.nodup_append]
    refine ⟨n2, hb1, fun x hx y hy e => ?_⟩
    subst e
    obtain ⟨c, hc, h⟩ := (bq x).mp hy
    exact p0 c hc x (by rw [e1]; exact List.mem_cons_of_mem _ hx) h
  have cy := merge_cyc hne e2 k1 k2 k3 k4 nn
  rw [hψ] at cy
  refine ⟨_, cy, fun x hx => ?_, fun x hx hn => ?_, fun x => ?_⟩
  · have hx : x ∈ t := by
      rcases List.mem_append.mp hx with h | h
      · exact s0 x (by rw [e1]; exact List.mem_cons_of_mem _ h)
      · obtain ⟨c, hc, h⟩ := (bq x).mp h
        exact (i1 c (List.mem_cons_of_mem _ hc)).2 x h
    rw [ht2]
    exact gone_perm.1.mem_iff.mpr hx
  · have xt : x ∈ t := by rw [ht2] at hx; exact gone_perm.1.mem_iff.mp hx
    rw [← hψ]
    by_cases hxa : x = a
    · subst hxa; exact m4
    · have hx1 : x ∉ r := fun z => by
        rw [e1] at z
        rcases List.mem_cons.mp z with z | z
        · exact hxa z
        · exact hn (List.mem_append_left _ z)
      have hx2 : ∀ c ∈ s :: rs, x ∉ c := fun c hc z => hn (List.mem_append_right _ ((bq x).mpr ⟨c, hc, z⟩))
      rw [inB x xt fun z => ?_]
      · refine Classical.byContradiction fun z => ?_
        obtain ⟨c, hc, h⟩ := i3 x xt z
        rcases List.mem_cons.mp hc with rfl | hc
        · exact hx1 h
        · exact hx2 c hc h
      · rcases (hmem x).mp z with z | ⟨d, hd, z⟩ | z
        · exact hxa z
        · exact hx2 d hd (z ▸ ((i1 d (List.mem_cons_of_mem _ hd)).1.top).2.2)
        · exact hx1 (z ▸ lr0)
  · rw [hd]
    constructor
    · intro hx
      rcases List.mem_append.mp hx with h | h
      · refine ⟨fun z => n1 (z ▸ h), r, List.mem_cons_self, by rw [e1]; exact List.mem_cons_of_mem _ h⟩
      · obtain ⟨c, hc, h⟩ := (bq x).mp h
        exact ⟨fun z => p0 c hc a ar0 (z ▸ h), c, List.mem_cons_of_mem _ hc, h⟩
    · rintro ⟨h1, d, hd', h2⟩
      rcases List.mem_cons.mp hd' with rfl | hd'
      · rw [e1] at h2
        rcases List.mem_cons.mp h2 with z | z
        · exact absurd z h1
        · exact List.mem_append_left _ z
      · exact List.mem_append_right _ ((bq x).mpr ⟨d, hd', h2⟩)
theorem heal_more {t h r s : List Str} {rs : List (List Str)} (b : Both t h) (hR : ringsP t h = r :: s :: rs) : (ringsP (goneE t h (cureE t (lettersE (r :: s :: rs)))).1 (goneE t h (cureE t (lettersE (r :: s :: rs)))).2.1).length = 1 := by
  obtain ⟨c, c1, c2, c3, _⟩ := heal_cyc b hR
  exact ringsP_one (gone_both b) c1 c2 c3
end Lw
end
section
set_option Elab.async false
set_option linter.all false
set_option maxRecDepth 100000
set_option maxHeartbeats 1000000
open PySem PySem.Spec PyProof.Rows L2
namespace Lw
open Sim
section
variable {st : Stt}
end
end Lw
end
section
set_option Elab.async false
set_option linter.all false
set_option maxRecDepth 100000
set_option maxHeartbeats 1000000
open PySem PySem.Spec PyProof.Rows L2
namespace Lw
open Sim
/-! equality of texts' rows and lists -/
theorem toDs_strs {st : Stt} : ∀ xs : List Str, toDs st (xs.map .str) = some (xs.map PyData.str)
  | [] => by rw [List.map_nil, toDs]; rfl
  | a :: r => by rw [List.map_cons, toDs, toD, toDs_strs r]; rfl
theorem eqvAll_strs : ∀ xs ys : List Str, PyData.eqvAll (xs.map PyData.str) (ys.map PyData.str) = decide (xs = ys)
  | [], [] => by simp [PyData.eqvAll]
  | [], b :: ys => by simp [PyData.eqvAll]
  | a :: xs, [] => by simp [PyData.eqvAll]
  | a :: xs, b :: ys => by
    rw [List.map_cons, List.map_cons, PyData.eqvAll, PyData.eqv, eqvAll_strs xs ys]
    by_cases h : a = b
    · subst h; simp
    · simp [h]
theorem sh_strsT {st : Stt} {xs : List Str} (h : ∀ x ∈ xs, Ltr x) : SeqAt.shaped (.tuple (xs.map PyData.str)) = true := by
  obtain ⟨d, h1, _, h3, h4, _⟩ := dat_toD 64 (wS xs) (datS (n := 63) h)
  have := h1 st
  rw [toD, toDs_strs] at this
  cases this
  exact shaped_of h3 h4
theorem eq_rows {st : Stt} {xs ys : List Str} (h : ∀ x ∈ xs, Ltr x) (k : ∀ x ∈ ys, Ltr x) : fEq st (wS xs) (wS ys) = some (.bl (decide (xs = ys))) := by
  unfold fEq
  rw [toD, toD, toDs_strs, toDs_strs]
  dsimp only [Option.map_some]
  rw [if_pos ⟨sh_strsT (st := st) h, sh_strsT (st := st) k⟩, PyData.eqv, eqvAll_strs]
theorem ne_nilL {st : Stt} {ws : List W} (h : datWs 63 ws = true) : fNe st (.lst ws) (.lst []) = some (.bl (!ws.isEmpty)) := by
  obtain ⟨d, h1, _, h3, h4, _⟩ := dat_toD 64 (.lst ws) (by rw [datW, h]; rfl)
  obtain ⟨ds, k1, _⟩ := dats_toD 63 ws h
  have e := h1 st
  rw [toD, k1 st] at e
  cases e
  unfold fNe
  rw [h1 st]
  rw [toD, toDs]
  dsimp only [Option.map_some]
  rw [if_pos ⟨shaped_of h3 h4, shaped_of rfl (by decide)⟩, PyData.eqv]
  cases ws with
  | nil => have := k1 st; rw [toDs] at this; cases this; rfl
  | cons w r =>
    have := k1 st
    rw [toDs] at this
    cases e1 : toD st w <;> rw [e1] at this
    · cases this
    · cases e2 : toDs st r <;> rw [e2] at this <;> cases this
      simp [PyData.eqvAll]
/-! _law_alike -/
end Lw
end
section
set_option Elab.async false
set_option linter.all false
set_option maxRecDepth 100000
set_option maxHeartbeats 1000000
open PySem PySem.Spec PyProof.Rows L2
namespace Lw
open Sim
/-! healing's mirror -/
section
variable {st : Stt}
theorem ringsP_ok {t h : List Str} (b : Both t h) : m_rings [.tup [wS t, wS h]] st = .ok (.lst ((ringsP t h).map wS)) st := by
  have hm := phi_map b.row.nd b.len
  have := rings_ok (st := st) (φ := phi t h) (t := t) (by rw [hm]; exact b)
  rw [hm] at this
  exact this
theorem names_needed_ok {t h : List Str} (b : Both t h) : m_names_needed [.tup [wS t, wS h]] st = .ok (.int ((min 2 (ringsP t h).length : Nat) : Int)) st := by
  refine frz_pure ?_ (by rw [nlW])
  have hmin : fMin st [.int 2, .int ((ringsP t h).length : Int)] = some (.int ((min 2 (ringsP t h).length : Nat) : Int)) := by
    have : (((min 2 (ringsP t h).length : Nat)) : Int) = min 2 ((ringsP t h).length : Int) := by omega
    rw [this]
    exact f_min2 _ _
  simp [r_names_needed, entry, need_pair_ok b, ringsP_ok b, hmin]
def rng3W (ws : List W) (st : Stt) : Rs Src := iRange3 (fun _ s => .ok ws s) [] st
def rng3K (r : Rs (List W)) : Rs Src := match r with | .ok ws s => rng3W ws s | .er x s => .er x s | .no => .no
@[simp] theorem rng3K_ok (ws : List W) (s : Stt) : rng3K (.ok ws s) = rng3W ws s := id rfl
@[simp] theorem ev_rng3 (k : AM) {ρ : Ev} : iRange3 k ρ st = rng3K (k ρ st) := by unfold rng3K rng3W iRange3; cases k ρ st <;> rfl
end
end Lw
end
section
set_option Elab.async false
set_option linter.all false
set_option maxRecDepth 100000
set_option maxHeartbeats 2000000
open PySem PySem.Spec PyProof.Rows L2
namespace Lw
open Sim
/-! one ring: the walk -/
section
variable {st : Stt}
def risesB (ks : List Nat) : Bool := (ks.zip (ks.drop 1)).all fun p => decide (p.1 < p.2)
/-- the letters to be told -/
def toldE (t w : List Str) (k : Nat) : Option (List Str) :=
  if risesB ((w.drop (w.length - k)).map t.idxOf) = true then
    (if k = 0 then some w else some ((((t.drop (if k = w.length then t.idxOf (w.headD "") else 0)).take (t.idxOf (w.getLastD "") - (if k = w.length then t.idxOf (w.headD "") else 0))).filter fun x => !decide (x ∈ w)) ++ w.take (w.length - k)))
  else none
/-! all orders, the best -/
def turnE (c : List Str) (a : Nat) : List (List Str × Str) := [(c.drop a ++ c.take a, (c.drop a ++ c.take a).headD ""), ((c.drop a ++ c.take a).reverse, (c.drop a ++ c.take a).headD "")]
def ordersE (c : List Str) : List (List Str × Str) := (List.range c.length).flatMap (turnE c)
abbrev Cand := Option (List Str) × Str
def stepB (f : Option (List Str × Str)) (p : Cand) : Option (List Str × Str) := match p.1 with
  | none => f
  | some L => match f with
    | none => some (L, p.2)
    | some q => if L.length < q.1.length then some (L, p.2) else some q
def candsO (t : List Str) (o : List Str × Str) : List Cand := (List.range (o.1.length + 1)).map fun k => (toldE t o.1 k, o.2)
def bestE (t c : List Str) : Option (List Str × Str) := ((ordersE c).flatMap (candsO t)).foldl stepB none
theorem ord_mem {c : List Str} {o : List Str × Str} (h : o ∈ ordersE c) : ∃ a, a < c.length ∧ (o = (c.drop a ++ c.take a, (c.drop a ++ c.take a).headD "") ∨ o = ((c.drop a ++ c.take a).reverse, (c.drop a ++ c.take a).headD "")) := by
  unfold ordersE at h
  obtain ⟨a, ha, hm⟩ := List.mem_flatMap.mp h
  refine ⟨a, List.mem_range.mp ha, ?_⟩
  simpa [turnE] using hm
theorem ord_len {c : List Str} {o : List Str × Str} (h : o ∈ ordersE c) : o.1.length = c.length ∧ o.1.Perm c := by
  obtain ⟨a, ha, e⟩ := ord_mem h
  have p : (c.drop a ++ c.take a).Perm c := (List.perm_append_comm).trans (by rw [List.take_append_drop])
  rcases e with rfl | rfl
  · exact ⟨p.length_eq, p⟩
  · have q := (List.reverse_perm (c.drop a ++ c.take a)).trans p
    exact ⟨q.length_eq, q⟩
theorem fold_best : ∀ (l : List Cand) (f : Option (List Str × Str)), (l.foldl stepB f = none → f = none ∧ ∀ p ∈ l, p.1 = none) ∧ ∀ q, l.foldl stepB f = some q → (f = some q ∨ (some q.1, q.2) ∈ l) ∧ (∀ r, f = some r → q.1.length ≤ r.1.length) ∧ ∀ p ∈ l, ∀ L, p.1 = some L → q.1.length ≤ L.length
  | [], f => ⟨fun h => ⟨h, fun p hp => absurd hp List.not_mem_nil⟩, fun q h => ⟨.inl h, fun r hr => by rw [List.foldl_nil] at h; rw [hr] at h; cases h; exact Nat.le_refl _, fun p hp => absurd hp List.not_mem_nil⟩⟩
  | p :: l, f => by
    obtain ⟨ih1, ih2⟩ := fold_best l (stepB f p)
    obtain ⟨o, x⟩ := p
    rw [List.foldl_cons]
    cases o with
    | none =>
      have e : stepB f (none, x) = f := rfl
      rw [e] at ih1 ih2 ⊢
      refine ⟨fun h => ⟨(ih1 h).1, fun p hp => ?_⟩, fun q h => ?_⟩
      · rcases List.mem_cons.mp hp with rfl | hp
        · rfl
        · exact (ih1 h).2 p hp
      · obtain ⟨a, b, c⟩ := ih2 q h
        refine ⟨a.imp_right (List.mem_cons_of_mem _), b, fun p hp L hL => ?_⟩
        rcases List.mem_cons.mp hp with rfl | hp
        · cases hL
        · exact c p hp L hL
    | some L0 =>
      obtain ⟨r, hr, h1, h2, h3⟩ : ∃ r, stepB f (some L0, x) = some r ∧ (f = some r ∨ r = (L0, x)) ∧ r.1.length ≤ L0.length ∧ ∀ s, f = some s → r.1.length ≤ s.1.length := by
        cases f with
        | none => exact ⟨(L0, x), rfl, .inr rfl, Nat.le_refl _, fun s hs => by cases hs⟩
        | some s =>
          by_cases hlt : L0.length < s.1.length
          · exact ⟨(L0, x), by simp [stepB, hlt], .inr rfl, Nat.le_refl _, fun s' hs => by cases hs; exact Nat.le_of_lt hlt⟩
          · exact ⟨s, by simp [stepB, hlt], .inl rfl, by omega, fun s' hs => by cases hs; exact Nat.le_refl _⟩
      rw [hr] at ih1 ih2 ⊢
      refine ⟨fun h => absurd (ih1 h).1 (fun z => nomatch z), fun q h => ?_⟩
      obtain ⟨a, b, c⟩ := ih2 q h
      have hq := b r rfl
      refine ⟨?_, fun s hs => Nat.le_trans hq (h3 s hs), fun p hp L hL => ?_⟩
      · rcases a with a | a
        · cases a
          rcases h1 with h1 | h1
          · exact .inl h1
          · exact .inr (by rw [h1]; exact List.mem_cons_self)
        · exact .inr (List.mem_cons_of_mem _ a)
      · rcases List.mem_cons.mp hp with rfl | hp
        · cases hL; exact Nat.le_trans hq h2
        · exact c p hp L hL
theorem told_zero (t w : List Str) : toldE t w 0 = some w := by
  unfold toldE
  rw [Nat.sub_zero, List.drop_length]
  rfl
theorem best_spec {t c : List Str} (h : 1 ≤ c.length) : ∃ L x, bestE t c = some (L, x) ∧ (∃ o ∈ ordersE c, ∃ k, k ≤ o.1.length ∧ o.2 = x ∧ toldE t o.1 k = some L) ∧ ∀ o ∈ ordersE c, ∀ k, k ≤ o.1.length → ∀ L', toldE t o.1 k = some L' → L.length ≤ L'.length := by
  obtain ⟨f1, f2⟩ := fold_best ((ordersE c).flatMap (candsO t)) none
  have mem : ∀ o ∈ ordersE c, ∀ k, k ≤ o.1.length → (toldE t o.1 k, o.2) ∈ (ordersE c).flatMap (candsO t) := fun o ho k hk => List.mem_flatMap.mpr ⟨o, ho, List.mem_map.mpr ⟨k, List.mem_range.mpr (by omega), rfl⟩⟩
  have o0 : (c.drop 0 ++ c.take 0, (c.drop 0 ++ c.take 0).headD "") ∈ ordersE c := List.mem_flatMap.mpr ⟨0, List.mem_range.mpr (by omega), List.mem_cons_self⟩
  cases e : bestE t c with
  | none =>
    have := (f1 e).2 _ (mem _ o0 0 (Nat.zero_le _))
    rw [told_zero] at this
    cases this
  | some q =>
    obtain ⟨L, x⟩ := q
    obtain ⟨a, _, d⟩ := f2 (L, x) e
    refine ⟨L, x, rfl, ?_, fun o ho k hk L' hL' => d _ (mem o ho k hk) L' hL'⟩
    rcases a with a | a
    · cases a
    · obtain ⟨o, ho, hm⟩ := List.mem_flatMap.mp a
      obtain ⟨k, hk, e2⟩ := List.mem_map.mp hm
      have e3 := congrArg Prod.fst e2
      have e4 := congrArg Prod.snd e2
      exact ⟨o, ho, k, by have := List.mem_range.mp hk; omega, e4, e3⟩
theorem told_mem {t w L : List Str} {k : Nat} (hw : ∀ x ∈ w, x ∈ t) (h : toldE t w k = some L) : ∀ x ∈ L, x ∈ t := fun x hx => by
  unfold toldE at h
  split at h
  · split at h
    · cases h; exact hw x hx
    · cases h
      rcases List.mem_append.mp hx with hx | hx
      · exact List.mem_of_mem_drop (List.mem_of_mem_take (List.mem_filter.mp hx).1)
      · exact hw x (List.mem_of_mem_take hx)
  · cases h
/-- the best's letters, its name -/
noncomputable def bestL (t c : List Str) : List Str := ((bestE t c).getD ([], "")).1
noncomputable def bestX (t c : List Str) : Str := ((bestE t c).getD ([], "")).2
/-- what is told to heal one ring -/
noncomputable def shortE (t c : List Str) : List Evt := (placesE t (bestL t c).reverse).map .pl ++ [.nm (bestX t c)]
end
end Lw
end
section
set_option Elab.async false
set_option linter.all false
set_option maxRecDepth 100000
set_option maxHeartbeats 2000000
open PySem PySem.Spec PyProof.Rows L2
namespace Lw
open Sim
/-! one ring: what is told heals -/
section
variable {φ : Str → Str}
def Up (t K : List Str) : Prop := K.Pairwise fun a b => t.idxOf a < t.idxOf b
theorem rises_pw : ∀ ks : List Nat, risesB ks = true ↔ ks.Pairwise (· < ·)
  | [] => by simp [risesB]
  | [a] => by simp [risesB]
  | a :: b :: r => by
    have ih := rises_pw (b :: r)
    have e : risesB (a :: b :: r) = (decide (a < b) && risesB (b :: r)) := rfl
    rw [e, Bool.and_eq_true, ih, decide_eq_true_iff]
    constructor
    · rintro ⟨h1, h2⟩
      refine List.pairwise_cons.mpr ⟨fun y hy => ?_, h2⟩
      rcases List.mem_cons.mp hy with rfl | hy
      · exact h1
      · exact Nat.lt_trans h1 ((List.pairwise_cons.mp h2).1 y hy)
    · intro h
      obtain ⟨h1, h2⟩ := List.pairwise_cons.mp h
      exact ⟨h1 b List.mem_cons_self, h2⟩
theorem rises_up {t K : List Str} : risesB (K.map t.idxOf) = true ↔ Up t K := by
  rw [rises_pw, List.pairwise_map]; exact Iff.rfl
theorem up_self : ∀ {t : List Str}, t.Nodup → Up t t := fun {t} h => by
  unfold Up
  rw [List.pairwise_iff_getElem]
  intro i j hi hj hij
  rw [List.Nodup.idxOf_getElem h, List.Nodup.idxOf_getElem h]
  exact hij
theorem up_filter {t K : List Str} (ht : t.Nodup) (hK : K.Nodup) (hs : ∀ x ∈ K, x ∈ t) (u : Up t K) : t.filter (fun x => decide (x ∈ K)) = K := by
  have p : (t.filter fun x => decide (x ∈ K)).Perm K := (List.perm_ext_iff_of_nodup (List.Pairwise.filter _ ht) hK).mpr fun y => by
    rw [List.mem_filter]
    exact ⟨fun z => by simpa using z.2, fun z => ⟨hs y z, by simpa using z⟩⟩
  refine List.Perm.eq_of_pairwise (le := fun a b => t.idxOf a < t.idxOf b) (fun a b _ _ x y => absurd y (by omega)) ((up_self ht).filter _) u p
/-- how the row stands when they are told -/
theorem told_split {t w L : List Str} {k : Nat} (ht : t.Nodup) (hw : w.Nodup) (hs : ∀ x ∈ w, x ∈ t) (h1 : 1 ≤ w.length) (hk : k ≤ w.length) (h : toldE t w k = some L) :
    L.Nodup ∧ ∃ A B, fr L t = A ++ w ++ B ∧ (∀ x ∈ A, x ∉ w) ∧ ∀ x ∈ B, x ∉ w := by
  unfold toldE at h
  split at h
  · rename_i hr
    rw [rises_up] at hr
    split at h
    · cases h
      refine ⟨hw, [], t.filter fun y => !decide (y ∈ w), rfl, fun x hx => absurd hx List.not_mem_nil, fun x hx => ?_⟩
      have := (List.mem_filter.mp hx).2
      simpa using this
    · rename_i hk0
      cases h
      obtain ⟨K, hK⟩ : ∃ K, K = w.drop (w.length - k) := ⟨_, rfl⟩
      obtain ⟨Q, hQ⟩ : ∃ Q, Q = w.take (w.length - k) := ⟨_, rfl⟩
      have hwQK : w = Q ++ K := by rw [hQ, hK, List.take_append_drop]
      have lK : K.length = k := by rw [hK, List.length_drop]; omega
      rw [← hK] at hr
      rw [← hQ]
      obtain ⟨nQ, nK, dQK⟩ := List.nodup_append.mp (hwQK ▸ hw)
      have sK : ∀ x ∈ K, x ∈ t := fun x hx => hs x (by rw [hwQK]; exact List.mem_append_right _ hx)
      -- the last one
      obtain ⟨K0, z, hKz⟩ : ∃ K0 z, K = K0 ++ [z] := ⟨K.dropLast, K.getLast (by intro y; rw [y] at lK; simp at lK; omega), (List.dropLast_concat_getLast _).symm⟩
      have hlast : w.getLastD "" = z := by rw [hwQK, hKz, ← List.append_assoc]; simp
      rw [hlast]
      obtain ⟨b, hb⟩ : ∃ b, b = t.idxOf z := ⟨_, rfl⟩
      obtain ⟨a, ha⟩ : ∃ a, a = (if k = w.length then t.idxOf (w.headD "") else 0) := ⟨_, rfl⟩
      rw [← ha, ← hb]
      have zK : z ∈ K := by rw [hKz]; exact List.mem_append_right _ (List.mem_singleton_self _)
      have zt := sK z zK
      have lb : b < t.length := by rw [hb]; exact List.idxOf_lt_length_of_mem zt
      have ab : a ≤ b := by
        rw [ha]
        split
        · rename_i hkl
          have eK : K = w := by rw [hK, hkl, Nat.sub_self, List.drop_zero]
          rw [← eK]
          cases hK0 : K0 with
          | nil => rw [hKz, hK0, hb]; exact Nat.le_refl _
          | cons c r =>
            rw [hKz, hK0] at hr ⊢
            have := (List.pairwise_cons.mp hr).1 z (List.mem_append_right _ (List.mem_singleton_self _))
            rw [hb]
            exact Nat.le_of_lt this
        · exact Nat.zero_le _
      have kle : ∀ x ∈ K, t.idxOf x ≤ b := fun x hx => by
        rw [hKz] at hx hr
        rcases List.mem_append.mp hx with hx | hx
        · rw [hb]
          exact Nat.le_of_lt ((List.pairwise_append.mp hr).2.2 x hx z (List.mem_singleton_self _))
        · rw [List.mem_singleton.mp hx, hb]; exact Nat.le_refl _
      -- the row in parts
      obtain ⟨P, hP⟩ : ∃ P, P = t.take a := ⟨_, rfl⟩
      obtain ⟨M, hM⟩ : ∃ M, M = (t.drop a).take (b - a) := ⟨_, rfl⟩
      obtain ⟨D, hD⟩ : ∃ D, D = t.drop (b + 1) := ⟨_, rfl⟩
      have hz : t[b] = z := by simp only [hb]; exact List.getElem_idxOf _
      have hparts : t = P ++ M ++ z :: D := by
        have e1 : t.drop a = M ++ t.drop b := by
          rw [hM, show t.drop b = (t.drop a).drop (b - a) by rw [List.drop_drop]; congr 1; omega, List.take_append_drop]
        have e2 : t.drop b = z :: D := by rw [hD, ← hz]; exact List.drop_eq_getElem_cons lb
        rw [hP, List.append_assoc, ← e2, ← e1, List.take_append_drop]
      rw [← hM]
      have nd := ht
      rw [hparts] at nd
      obtain ⟨nPM, nzD, dPM⟩ := List.nodup_append.mp nd
      obtain ⟨nP, nM, dPM2⟩ := List.nodup_append.mp nPM
      have zD : z ∉ D := (List.nodup_cons.mp nzD).1
      have idxP : ∀ x ∈ P, t.idxOf x < a := fun x hx => by
        rw [hP] at hx
        have := List.idxOf_lt_length_of_mem hx
        have e : t.idxOf x = (t.take a).idxOf x := by
          conv => lhs; rw [← List.take_append_drop a t]
          rw [List.idxOf_append, if_pos hx]
        rw [e]
        rw [List.length_take] at this
        omega
      have PK : ∀ x ∈ P, x ∉ w := fun x hx hxw => by
        have h2 := idxP x hx
        rw [ha] at h2
        split at h2
        · rename_i hkl
          have eK : K = w := by rw [hK, hkl, Nat.sub_self, List.drop_zero]
          rw [← eK] at hxw
          cases w with
          | nil => simp at h1
          | cons c r =>
            rw [eK] at hxw hr
            simp only [List.headD_cons] at h2
            rcases List.mem_cons.mp hxw with rfl | hxw
            · omega
            · have := (List.pairwise_cons.mp hr).1 x hxw
              omega
        · omega
      have DK : ∀ x ∈ D, x ∉ K := fun x hx hxK => by
        have h2 := kle x hxK
        have h3 : x ∉ P ++ M := fun q => dPM x q x (List.mem_cons_of_mem _ hx) rfl
        have h4 : x ≠ z := fun q => zD (q ▸ hx)
        have e : t.idxOf x = (P ++ M).length + (D.idxOf x + 1) := by
          have e0 : (z :: D).idxOf x = D.idxOf x + 1 := by
            rw [List.idxOf_cons]
            have : (z == x) = false := beq_eq_false_iff_ne.mpr fun q => h4 q.symm
            rw [this]; rfl
          rw [hparts, List.idxOf_append, if_neg h3, e0]; omega
        have e2 : b = (P ++ M).length := by
          have h5 : z ∉ P ++ M := fun q => dPM z q z List.mem_cons_self rfl
          rw [hb, hparts, List.idxOf_append, if_neg h5, List.idxOf_cons_self]; omega
        omega
      have MK : M.filter (fun x => decide (x ∈ K)) ++ [z] = K := by
        have q := up_filter ht nK sK hr
        rw [hparts, List.filter_append, List.filter_append, List.filter_cons, if_pos (by simpa using zK)] at q
        have p0 : P.filter (fun x => decide (x ∈ K)) = [] := List.filter_eq_nil_iff.mpr fun x hx => by
          have := PK x hx
          simp only [decide_eq_true_eq]
          exact fun c => this (by rw [hwQK]; exact List.mem_append_right _ c)
        have d0 : D.filter (fun x => decide (x ∈ K)) = [] := List.filter_eq_nil_iff.mpr fun x hx => by
          have := DK x hx
          simpa using this
        rw [p0, d0] at q
        simpa using q
      obtain ⟨O, hO⟩ : ∃ O, O = M.filter fun x => !decide (x ∈ w) := ⟨_, rfl⟩
      rw [← hO]
      have OM : ∀ x ∈ O, x ∈ M ∧ x ∉ w := fun x hx => by
        rw [hO] at hx
        obtain ⟨q1, q2⟩ := List.mem_filter.mp hx
        exact ⟨q1, by simpa using q2⟩
      have nO : O.Nodup := by rw [hO]; exact List.Pairwise.filter _ nM
      have nL : (O ++ Q).Nodup := List.nodup_append.mpr ⟨nO, nQ, fun x hx y hy e => (OM x hx).2 (by rw [e, hwQK]; exact List.mem_append_left _ hy)⟩
      -- what is left
      have r1 : P.filter (fun y => !decide (y ∈ O ++ Q)) = P := List.filter_eq_self.mpr fun x hx => by
        have : x ∉ O ++ Q := fun c => by
          rcases List.mem_append.mp c with c | c
          · exact dPM2 x hx x (OM x c).1 rfl
          · exact PK x hx (by rw [hwQK]; exact List.mem_append_left _ c)
        simpa using this
      have r2 : M.filter (fun y => !decide (y ∈ O ++ Q)) = M.filter fun x => decide (x ∈ K) := by
        refine List.filter_congr fun x hx => ?_
        by_cases q : x ∈ w
        · have q' := q
          rw [hwQK] at q'
          rcases List.mem_append.mp q' with q2 | q2
          · have n : x ∉ K := fun c => dQK x q2 x c rfl
            have m : x ∈ O ++ Q := List.mem_append_right _ q2
            simp only [m, n, decide_true, decide_false, Bool.not_true]
          · have n : x ∉ O ++ Q := fun c => by
              rcases List.mem_append.mp c with c | c
              · exact (OM x c).2 q
              · exact dQK x c x q2 rfl
            simp only [n, q2, decide_true, decide_false, Bool.not_false]
        · have m : x ∈ O ++ Q := List.mem_append_left _ (by rw [hO]; exact List.mem_filter.mpr ⟨hx, by simpa using q⟩)
          have n : x ∉ K := fun c => q (by rw [hwQK]; exact List.mem_append_right _ c)
          simp only [m, n, decide_true, decide_false, Bool.not_true]
      have r3 : (!decide (z ∈ O ++ Q)) = true := by
        have : z ∉ O ++ Q := fun c => by
          rcases List.mem_append.mp c with c | c
          · exact (OM z c).2 (by rw [hwQK]; exact List.mem_append_right _ zK)
          · exact dQK z c z zK rfl
        simpa using this
      obtain ⟨B, hB⟩ : ∃ B, B = D.filter fun y => !decide (y ∈ O ++ Q) := ⟨_, rfl⟩
      have rest : t.filter (fun y => !decide (y ∈ O ++ Q)) = P ++ K ++ B := by
        conv => lhs; rw [hparts]
        rw [List.filter_append, List.filter_append, List.filter_cons, if_pos r3, r1, r2, ← hB]
        conv => rhs; rw [← MK]
        simp
      have BW : ∀ x ∈ B, x ∉ w := fun x hx hxw => by
        rw [hB] at hx
        obtain ⟨q1, q2⟩ := List.mem_filter.mp hx
        rw [hwQK] at hxw
        rcases List.mem_append.mp hxw with c | c
        · have : x ∈ O ++ Q := List.mem_append_right _ c
          simp [this] at q2
        · exact DK x q1 c
      by_cases hkl : k = w.length
      · have eQ : Q = [] := by rw [hQ, hkl, Nat.sub_self, List.take_zero]
        have eK : K = w := by rw [hK, hkl, Nat.sub_self, List.drop_zero]
        refine ⟨nL, O ++ P, B, ?_, fun x hx => ?_, BW⟩
        · unfold fr
          rw [rest, eQ, eK]
          simp
        · rcases List.mem_append.mp hx with c | c
          · exact (OM x c).2
          · exact PK x c
      · have eP : P = [] := by rw [hP, ha, if_neg hkl, List.take_zero]
        refine ⟨nL, O, B, ?_, fun x hx => (OM x hx).2, BW⟩
        unfold fr
        rw [rest, eP]
        conv => rhs; rw [hwQK]
        simp
  · cases h
/-! a ring begun elsewhere -/
theorem rot_map {c : List Str} {a : Nat} (h : c.map φ = c.drop 1 ++ c.take 1) (ha : a < c.length) : ∃ r0 r', c.drop a ++ c.take a = r0 :: r' ∧ (r0 :: r').map φ = r' ++ [r0] := by
  obtain ⟨u, hu⟩ : ∃ u, u = c.take a := ⟨_, rfl⟩
  obtain ⟨v, hv⟩ : ∃ v, v = c.drop a := ⟨_, rfl⟩
  have hc : c = u ++ v := by rw [hu, hv, List.take_append_drop]
  have lv : 1 ≤ v.length := by rw [hv, List.length_drop]; omega
  obtain ⟨v0, v', hv0⟩ := row_head lv
  rw [← hu, ← hv]
  cases u with
  | nil =>
    rw [List.nil_append] at hc
    rw [List.append_nil, hv0]
    rw [hc, hv0] at h
    exact ⟨v0, v', rfl, h⟩
  | cons u0 u' =>
    rw [hc, hv0] at h
    rw [hv0]
    refine ⟨v0, v' ++ u0 :: u', rfl, ?_⟩
    have e : (u0 :: u').map φ ++ (v0 :: v').map φ = (u' ++ [v0]) ++ (v' ++ [u0]) := by
      rw [← List.map_append, h]
      simp
    obtain ⟨e1, e2⟩ := List.append_inj e (by simp)
    rw [← List.cons_append, List.map_append, e1, e2]
    simp
theorem name_heals {A B r' : List Str} {r0 : Str} {w : List Str} (hA : ∀ x ∈ A, x ∉ w) (hw : w = r0 :: r' ∧ (r0 :: r').map φ = r' ++ [r0] ∨ w = r'.reverse ++ [r0] ∧ (r0 :: r').map φ = r' ++ [r0]) (nd : w.Nodup) (fA : A.map φ = A) (fB : B.map φ = B) :
    front (A ++ w ++ B) ((A ++ w ++ B).idxOf r0) = front ((A ++ w ++ B).map φ) (((A ++ w ++ B).map φ).idxOf r0) := by
  have r0A : r0 ∉ A := fun z => hA r0 z (by rcases hw with ⟨e, _⟩ | ⟨e, _⟩ <;> (rw [e]; simp))
  rcases hw with ⟨e, m⟩ | ⟨e, m⟩
  · have nr : r0 ∉ r' := by rw [e] at nd; exact (List.nodup_cons.mp nd).1
    rw [List.map_append, List.map_append, fA, fB, e, m]
    have e1 : A ++ r0 :: r' ++ B = A ++ r0 :: (r' ++ B) := by simp
    have e2 : A ++ (r' ++ [r0]) ++ B = (A ++ r') ++ r0 :: B := by simp
    rw [e1, e2, front_at r0A, front_at (by simp [r0A, nr]), List.append_assoc]
  · have nr : r0 ∉ r' := by
      rw [e] at nd
      have := (List.nodup_append.mp nd).2.2
      intro z
      exact this r0 (List.mem_reverse.mpr z) r0 (List.mem_singleton_self _) rfl
    have m2 : (r'.reverse ++ [r0]).map φ = r0 :: r'.reverse := by
      have : r'.reverse ++ [r0] = (r0 :: r').reverse := by simp
      rw [this, List.map_reverse, m]
      simp
    rw [List.map_append, List.map_append, fA, fB, e, m2]
    have e1 : A ++ (r'.reverse ++ [r0]) ++ B = (A ++ r'.reverse) ++ r0 :: B := by simp
    have e2 : A ++ r0 :: r'.reverse ++ B = A ++ r0 :: (r'.reverse ++ B) := by simp
    rw [e1, e2, front_at r0A, front_at (by simp [r0A, nr]), List.append_assoc]
/-- one ring of a pair -/
structure One (t h c : List Str) : Prop where
  both : Both t h
  ring : ringsP t h = [c]
  sub : ∀ x ∈ c, x ∈ t
  nd : c.Nodup
  two : 2 ≤ c.length
  mp : c.map (phi t h) = c.drop 1 ++ c.take 1
  off : ∀ x ∈ t, x ∉ c → phi t h x = x
theorem One.of {t h c : List Str} (b : Both t h) (hR : ringsP t h = [c]) : One t h c := by
  obtain ⟨i1, _, i3⟩ := rings_facts b
  rw [hR] at i1 i3
  obtain ⟨⟨a, o, e1, ho, e2, e3⟩, s0⟩ := i1 c List.mem_cons_self
  refine ⟨b, hR, s0, e3, ?_, ?_, fun x hx hn => Classical.byContradiction fun z => ?_⟩
  · rw [e1, List.length_cons]
    cases o with
    | nil => exact absurd rfl ho
    | cons y r => simp
  · rw [e1]; exact e2
  · obtain ⟨r', hr', hx'⟩ := i3 x hx z
    rw [List.mem_singleton.mp hr'] at hx'
    exact hn hx'
theorem One.few {t h c : List Str} (o : One t h c) : c.length ≤ 16 := Nat.le_trans (nodup_le c t o.nd o.sub) o.both.row.few
/-- letters told by places, then a name -/
theorem told_heals {t h c L : List Str} {o : List Str × Str} {k : Nat} (O : One t h c) (ho : o ∈ ordersE c) (hk : k ≤ o.1.length) (hL : toldE t o.1 k = some L) :
    (goneE t h ((placesE t L.reverse).map .pl ++ [.nm o.2])).1 = (goneE t h ((placesE t L.reverse).map .pl ++ [.nm o.2])).2.1 := by
  obtain ⟨q1, q2⟩ := ord_len ho
  have hm := phi_map O.both.row.nd O.both.len
  have nw : o.1.Nodup := q2.nodup_iff.mpr O.nd
  have sw : ∀ x ∈ o.1, x ∈ t := fun x hx => O.sub x (q2.mem_iff.mp hx)
  obtain ⟨nL, A, B, e, hA, hB⟩ := told_split O.both.row.nd nw sw (by have := O.two; omega) hk hL
  have sL := told_mem sw hL
  have g := gone_placesM (φ := phi t h) O.both.row.nd L.reverse [] fun x hx => sL x (List.mem_reverse.mp hx)
  rw [fr_nil, Ff_rev nL, hm] at g
  have pf : (fr L t).Perm t := fr_perm nL sL O.both.row.nd
  rw [gone_app]
  rw [g.1, g.2]
  have fix : ∀ C : List Str, (∀ x ∈ C, x ∈ t) → (∀ x ∈ C, x ∉ o.1) → C.map (phi t h) = C := fun C h1 h2 => by
    have : C.map (phi t h) = C.map id := List.map_congr_left fun x hx => O.off x (h1 x hx) fun z => h2 x hx (q2.mem_iff.mpr z)
    rw [this, List.map_id]
  have inA : ∀ x ∈ A, x ∈ t := fun x hx => pf.mem_iff.mp (by rw [e]; simp [hx])
  have inB : ∀ x ∈ B, x ∈ t := fun x hx => pf.mem_iff.mp (by rw [e]; simp [hx])
  obtain ⟨a, ha, ho2⟩ := ord_mem ho
  obtain ⟨r0, r', e1, e2⟩ := rot_map O.mp ha
  have hx : o.2 = r0 ∧ (o.1 = r0 :: r' ∨ o.1 = r'.reverse ++ [r0]) := by
    rw [e1] at ho2
    rcases ho2 with z | z
    · rw [z]; exact ⟨rfl, .inl rfl⟩
    · rw [z]; exact ⟨rfl, .inr (by simp)⟩
  simp only [goneE, doneE]
  rw [hx.1, e]
  exact name_heals hA (hx.2.elim (fun z => .inl ⟨z, e2⟩) fun z => .inr ⟨z, e2⟩) nw (fix A inA hA) (fix B inB hB)
theorem short_heals {t h c : List Str} (O : One t h c) : (goneE t h (shortE t c)).1 = (goneE t h (shortE t c)).2.1 := by
  obtain ⟨L, x, e, ⟨o, ho, k, hk, hx, hL⟩, _⟩ := best_spec (t := t) (c := c) (by have := O.two; omega)
  have := told_heals O ho hk hL
  unfold shortE bestL bestX
  rw [e]
  rw [hx] at this
  exact this
end
end Lw
end
section
set_option Elab.async false
set_option linter.all false
set_option maxRecDepth 100000
set_option maxHeartbeats 2000000
open PySem PySem.Spec PyProof.Rows L2
namespace Lw
open Sim
/-! one ring: the fewest places -/
section
/-- how many letters from beyond the ring stand ahead of one -/
def nb (t w : List Str) (y : Str) : Nat := (t.filter fun a => !decide (a ∈ w) && decide (t.idxOf a < t.idxOf y)).length
/-! how many are told -/
end
end Lw
end
section
set_option Elab.async false
set_option linter.all false
set_option maxRecDepth 100000
set_option maxHeartbeats 2000000
open PySem PySem.Spec PyProof.Rows L2
namespace Lw
open Sim
section
variable {st : Stt} {φ : Str → Str}
def diW (f : Key × W → W) (r : Rs W) : Rs Src := match r with | .ok (.dic kws) s => .ok ⟨kws.map f, fun _ => True⟩ s | .er x s => .er x s | _ => .no
@[simp] theorem diW_ok (f : Key × W → W) (kws : List (Key × W)) (s : Stt) : diW f (.ok (.dic kws) s) = .ok ⟨kws.map f, fun _ => True⟩ s := id rfl
@[simp] theorem ev_idict {ρ : Ev} (f : Key × W → W) (m : EM) : iDict f m ρ st = diW f (m ρ st) := by
  unfold iDict diW
  cases m ρ st with
  | ok w s => cases w <;> rfl
  | er x s => rfl
  | no => rfl
theorem prm_phi {t h : List Str} (b : Both t h) : Prm (phi t h) t := prm_of b.row.nd (by rw [phi_map b.row.nd b.len]; exact b.perm)
end
end Lw
end
section
set_option Elab.async false
set_option linter.all false
set_option maxRecDepth 100000
set_option maxHeartbeats 1000000
open PySem PySem.Spec PyProof.Rows L2
namespace Lw
open Sim
/-! one fault makes one ring -/
theorem Cyc.congr {φ ψ : Str → Str} {c : List Str} (h : ∀ x ∈ c, φ x = ψ x) (k : Cyc φ c) : Cyc ψ c := by
  obtain ⟨a, o, rfl, ho, hm, hn⟩ := k
  exact ⟨a, o, rfl, ho, by rw [← hm]; exact List.map_congr_left fun x hx => (h x hx).symm, hn⟩
end Lw
end
section
set_option Elab.async false
set_option linter.all false
set_option maxRecDepth 100000
set_option maxHeartbeats 1000000
open PySem PySem.Spec PyProof.Rows L2
namespace Lw
open Sim
/-! rings gone round -/
section
variable {φ ψ : Str → Str}
theorem cyc_det {c : List Str} (h : Cyc φ c) (k : Cyc ψ c) : ∀ x ∈ c, φ x = ψ x := by
  obtain ⟨a, o, rfl, _, hm, _⟩ := h
  obtain ⟨a', o', e, _, hm', _⟩ := k
  cases e
  exact List.map_inj_left.mp (hm.trans hm'.symm)
/-- rings tell the reading -/
theorem rings_tell {t h t2 h2 : List Str} (b : Both t h) (b2 : Both t2 h2) (p : t2.Perm t) : ringsP t2 h2 = ringsP t h ↔ ∀ x ∈ t, phi t2 h2 x = phi t h x := by
  obtain ⟨i1, _, i3⟩ := rings_facts b
  obtain ⟨j1, _, j3⟩ := rings_facts b2
  constructor
  · intro e x hx
    rw [e] at j1 j3
    by_cases h1 : ∃ r ∈ ringsP t h, x ∈ r
    · obtain ⟨r, hr, hxr⟩ := h1
      exact cyc_det (j1 r hr).1 (i1 r hr).1 x hxr
    · have e1 : phi t h x = x := Classical.byContradiction fun z => h1 (i3 x hx z)
      have e2 : phi t2 h2 x = x := Classical.byContradiction fun z => h1 (j3 x (p.mem_iff.mpr hx) z)
      rw [e1, e2]
  · intro e
    have itrE : ∀ (n : Nat) (x : Str), x ∈ t → itr (phi t2 h2) n x = itr (phi t h) n x := by
      intro n
      induction n with
      | zero => exact fun _ _ => rfl
      | succ n ih => exact fun x hx => by rw [itr, itr, e x hx]; exact ih _ ((prm_phi b).cl x hx |> fun z => by rwa [(show (phi t h x ∈ t) = (phi t h x ∈ t) from rfl)] at z)
    have perE : ∀ x ∈ t, isPer (phi t2 h2) x = isPer (phi t h) x := fun x hx => by
      funext n
      unfold isPer
      simp only [itrE _ x hx]
    have perE2 : ∀ x ∈ t, per (phi t2 h2) x = per (phi t h) x := fun x hx => by
      unfold per
      rw [perE x hx]
    have ringE : ∀ x ∈ t, ringO (phi t2 h2) x = ringO (phi t h) x := fun x hx => by
      unfold ringO orbL
      rw [perE2 x hx]
      exact List.map_congr_left fun i _ => itrE i x hx
    have fE : ∀ (L K : List Str), (∀ x ∈ L, x ∈ t) → ringsF (phi t2 h2) L K = ringsF (phi t h) L K := by
      intro L
      induction L with
      | nil => exact fun _ _ => rfl
      | cons a L ih =>
        intro K hL
        have ha := hL a List.mem_cons_self
        have hL' := fun x hx => hL x (List.mem_cons_of_mem a hx)
        unfold ringsF
        rw [e a ha, ringE a ha, ih _ hL', ih _ hL']
    unfold ringsP
    rw [sortS_congr p]
    exact fE _ _ fun x hx => (sortS_perm t).mem_iff.mp hx
end
end Lw
end
section
set_option Elab.async false
set_option linter.all false
set_option maxRecDepth 100000
set_option maxHeartbeats 2000000
open PySem PySem.Spec PyProof.Rows L2
namespace Lw
open Sim
/-! one ring: how far it is from healing -/
section
theorem rings_placesV {t h : List Str} (b : Both t h) (ps : List Nat) : ringsP (goneE t h (ps.map .pl)).1 (goneE t h (ps.map .pl)).2.1 = ringsP t h := by
  have hm := phi_map b.row.nd b.len
  have b2 := gone_both (es := ps.map .pl) b
  have p := (gone_perm (es := ps.map .pl) (t := t) (h := h)).1
  refine (rings_tell b b2 p).mpr fun x hx => ?_
  have e1 := gone_plM (φ := phi t h) ps t
  rw [hm] at e1
  have e2 := phi_map b2.row.nd b2.len
  rw [e1] at e2
  rw [e1]
  exact List.map_inj_left.mp e2 x (p.mem_iff.mpr hx)
theorem One.place {t h c : List Str} (O : One t h c) (p : Nat) : One (front t p) (front h p) c :=
  One.of (done_both O.both (.pl p)) (by have := rings_placesV O.both [p]; rw [O.ring] at this; exact this)
/-- the fewest places -/
noncomputable def distE (t c : List Str) : Nat := (bestL t c).length
/-- the best's name stands in the ring -/
theorem best_name {t h c : List Str} (O : One t h c) : bestX t c ∈ c := by
  obtain ⟨M, x, e, ⟨o, ho, k, hk, hx, _⟩, _⟩ := best_spec (t := t) (c := c) (by have := O.two; omega)
  obtain ⟨a, ha, ho2⟩ := ord_mem ho
  obtain ⟨r0, r', e1, _⟩ := rot_map O.mp ha
  have q : o.2 = r0 := by rw [e1] at ho2; rcases ho2 with z | z <;> (rw [z]; rfl)
  have ex : bestX t c = x := by unfold bestX; rw [e]; rfl
  rw [ex, ← hx, q]
  have : r0 ∈ c.drop a ++ c.take a := by rw [e1]; exact List.mem_cons_self
  rcases List.mem_append.mp this with z | z
  · exact List.mem_of_mem_drop z
  · exact List.mem_of_mem_take z
theorem short_okE {t h c : List Str} (O : One t h c) : (∀ x ∈ bestL t c, x ∈ t) ∧ (bestL t c).Nodup ∧ ∀ e ∈ shortE t c, e.ok t := by
  obtain ⟨M, x, e, ⟨o, ho, k, hk, hx, hL⟩, _⟩ := best_spec (t := t) (c := c) (by have := O.two; omega)
  obtain ⟨o1, o2⟩ := ord_len ho
  have sw : ∀ y ∈ o.1, y ∈ t := fun y hy => O.sub y (o2.mem_iff.mp hy)
  have mL := told_mem sw hL
  have eL : bestL t c = M := by unfold bestL; rw [e]; rfl
  rw [eL]
  refine ⟨mL, (told_split O.both.row.nd (o2.nodup_iff.mpr O.nd) sw (by have := O.two; omega) hk hL).1, fun f hf => ?_⟩
  unfold shortE at hf
  rw [eL] at hf
  rcases List.mem_append.mp hf with hf | hf
  · obtain ⟨p, hp, rfl⟩ := List.mem_map.mp hf
    exact places_lt _ _ (fun y hy => mL y (List.mem_reverse.mp hy)) p hp
  · rw [List.mem_singleton.mp hf]
    exact O.sub _ (best_name O)
/-- places and a name that heal -/
def heal (t h : List Str) (ps : List Nat) (x : Str) : Prop := (goneE t h (ps.map .pl ++ [.nm x])).1 = (goneE t h (ps.map .pl ++ [.nm x])).2.1
/-- what is told to heal, and how many -/
theorem short_path {t h c : List Str} (O : One t h c) : ∃ ps : List Nat, shortE t c = ps.map .pl ++ [.nm (bestX t c)] ∧ ps.length = distE t c ∧ (∀ p ∈ ps, p < t.length) ∧ heal t h ps (bestX t c) := by
  obtain ⟨m, _, _⟩ := short_okE O
  refine ⟨placesE t (bestL t c).reverse, rfl, by rw [places_len, List.length_reverse]; rfl, places_lt _ _ fun y hy => m y (List.mem_reverse.mp hy), short_heals O⟩
end
end Lw
end
section
set_option Elab.async false
set_option linter.all false
set_option maxRecDepth 100000
set_option maxHeartbeats 1000000
open PySem PySem.Spec PyProof.Rows L2
namespace Lw
open Sim
/-! what a fault turns -/
section
variable {φ ψ : Str → Str}
/-- the letters that a fault turns, each read as the next one was -/
def frng (t : List Str) : Evt → List Str
  | .lo p => t.take (p + 1)
  | .tw p => (t.take (p + 1)).reverse
  | .as a b => if b ≤ a then (t.take (a + 1)).drop b else ((t.take (b + 1)).drop a).reverse
  | _ => []
theorem cut3 {t : List Str} {a b : Nat} (ha : a < t.length) (hb : b < t.length) (hab : b < a) : ∃ A M C x y, t = A ++ (x :: (M ++ [y])) ++ C ∧ A.length = b ∧ M.length + 1 + b = a ∧ (t.take (a + 1)).drop b = x :: (M ++ [y]) ∧ front t a = y :: (A ++ (x :: M) ++ C) ∧ front t b = x :: (A ++ (M ++ [y]) ++ C) := by
  obtain ⟨D, hD⟩ : ∃ D, D = (t.take (a + 1)).drop b := ⟨_, rfl⟩
  have lD : D.length = a + 1 - b := by rw [hD, List.length_drop, List.length_take]; omega
  obtain ⟨x, D', rfl⟩ : ∃ x D', D = x :: D' := by
    cases D with
    | nil => simp at lD; omega
    | cons x D' => exact ⟨x, D', rfl⟩
  have hne : D' ≠ [] := by
    intro e
    subst e
    simp at lD
    omega
  obtain ⟨M, y, rfl⟩ : ∃ M y, D' = M ++ [y] := ⟨D'.dropLast, D'.getLast hne, (List.dropLast_concat_getLast hne).symm⟩
  have sp : t = t.take b ++ (x :: (M ++ [y])) ++ t.drop (a + 1) := by
    rw [hD]
    have : t.take b = (t.take (a + 1)).take b := by rw [List.take_take, Nat.min_eq_left (by omega)]
    rw [this, List.take_append_drop, List.take_append_drop]
  obtain ⟨A, hA⟩ : ∃ A, A = t.take b := ⟨_, rfl⟩
  obtain ⟨C, hC⟩ : ∃ C, C = t.drop (a + 1) := ⟨_, rfl⟩
  rw [← hA, ← hC] at sp
  have lA : A.length = b := by rw [hA, List.length_take]; omega
  have lM : M.length + 1 + b = a := by simp at lD; omega
  refine ⟨A, M, C, x, y, sp, lA, lM, hD.symm, ?_, ?_⟩
  · have e : t = (A ++ x :: M) ++ y :: C := by rw [sp]; simp
    have l : (A ++ x :: M).length = a := by rw [List.length_append, List.length_cons]; omega
    rw [e, ← l, front_mid]
  · have e : t = A ++ x :: ((M ++ [y]) ++ C) := by rw [sp]; simp
    rw [e, ← lA, front_mid]
    simp
/-- a row with one letter in front, read as the row with another one in front -/
theorem as_cyc {t : List Str} {a b : Nat} (hn : t.Nodup) (ha : a < t.length) (hb : b < t.length) (hab : a ≠ b) (hm : (front t a).map ψ = front t b) : Cyc ψ (frng t (.as a b)) ∧ (∀ x ∈ frng t (.as a b), x ∈ t) ∧ ∀ x ∈ t, x ∉ frng t (.as a b) → ψ x = x := by
  have fix : ∀ {A : List Str}, A.map ψ = A → ∀ x ∈ A, ψ x = x := fun {A} e => List.map_inj_left.mp (e.trans (List.map_id A).symm)
  by_cases h : b < a
  · obtain ⟨A, M, C, x, y, sp, lA, lM, ed, f1, f2⟩ := cut3 ha hb h
    have er : frng t (.as a b) = x :: (M ++ [y]) := by
      show (if b ≤ a then _ else _) = _
      rw [if_pos (by omega), ed]
    rw [er]
    rw [f1, f2, List.map_cons, List.map_append, List.map_append] at hm
    injection hm with hy hm
    obtain ⟨hm, hC⟩ := List.append_inj' hm (by simp)
    obtain ⟨hA, hM⟩ := List.append_inj hm (by simp)
    have nd : (x :: (M ++ [y])).Nodup := by
      rw [sp] at hn
      exact (List.nodup_append.mp (List.nodup_append.mp hn).1).2.1
    refine ⟨⟨x, M ++ [y], rfl, by simp, ?_, nd⟩, fun z hz => ?_, fun z hz hnz => ?_⟩
    · rw [← List.cons_append, List.map_append, hM]
      simp [hy]
    · rw [sp]; exact List.mem_append_left _ (List.mem_append_right _ hz)
    · rw [sp] at hz
      rcases List.mem_append.mp hz with k | k
      · rcases List.mem_append.mp k with k | k
        · exact fix hA z k
        · exact absurd k hnz
      · exact fix hC z k
  · obtain ⟨A, M, C, x, y, sp, lA, lM, ed, f1, f2⟩ := cut3 hb ha (show a < b by omega)
    have er : frng t (.as a b) = (x :: (M ++ [y])).reverse := by
      show (if b ≤ a then _ else _) = _
      rw [if_neg (by omega), ed]
    rw [er]
    rw [f1, f2, List.map_cons, List.map_append, List.map_append] at hm
    injection hm with hy hm
    obtain ⟨hm, hC⟩ := List.append_inj' hm (by simp)
    obtain ⟨hA, hM⟩ := List.append_inj hm (by simp)
    have nd : (x :: (M ++ [y])).Nodup := by
      rw [sp] at hn
      exact (List.nodup_append.mp (List.nodup_append.mp hn).1).2.1
    have e1 : (x :: (M ++ [y])).reverse = y :: (M.reverse ++ [x]) := by simp
    refine ⟨⟨y, M.reverse ++ [x], e1, by simp, ?_, (List.reverse_perm _).nodup_iff.mpr nd⟩, fun z hz => ?_, fun z hz hnz => ?_⟩
    · rw [← e1, List.map_reverse, List.map_cons, hy, hM]
      simp
    · rw [sp]; exact List.mem_append_left _ (List.mem_append_right _ (List.mem_reverse.mp hz))
    · rw [sp] at hz
      rcases List.mem_append.mp hz with k | k
      · rcases List.mem_append.mp k with k | k
        · exact fix hA z k
        · exact absurd (List.mem_reverse.mpr k) hnz
      · exact fix hC z k
def Evt.fault : Evt → Bool
  | .pl _ => false
  | .nm _ => false
  | _ => true
/-! rings by their least letters -/
end
end Lw
end
section
set_option Elab.async false
set_option linter.all false
set_option maxRecDepth 100000
set_option maxHeartbeats 2000000
open PySem PySem.Spec PyProof.Rows L2
namespace Lw
open Sim
/-! all pairs that come by places and names: plain -/
abbrev Pr := List Str × List Str
def pr (q : Pr) : W := .tup [wS q.1, wS q.2]
def frP (q : Pr) (p : Nat) : Pr := (front q.1 p, front q.2 p)
def nmP (q : Pr) (x : Str) : Pr := (front q.1 (q.1.idxOf x), front q.2 (q.2.idxOf x))
def kP (q : Pr) : NestedKey := .tup [.tup (q.1.map .text), .tup (q.2.map .text)]
def kvP (q : Pr) : NestedKey × W := (kP q, .bl true)
theorem text_inj : ∀ {xs ys : List Str}, xs.map NestedKey.text = ys.map NestedKey.text → xs = ys
  | [], [], _ => rfl
  | [], _ :: _, h => nomatch h
  | _ :: _, [], h => nomatch h
  | x :: xs, y :: ys, h => by
    rw [List.map_cons, List.map_cons] at h
    injection h with h1 h2
    injection h1 with h1
    rw [h1, text_inj h2]
theorem kP_inj {q r : Pr} (h : kP q = kP r) : q = r := by
  unfold kP at h
  injection h with h
  injection h with h1 h2
  injection h2 with h2 _
  injection h1 with h1
  injection h2 with h2
  exact Prod.ext (text_inj h1) (text_inj h2)
theorem nks_text : ∀ xs : List Str, toNKs (xs.map .str) = some (xs.map .text)
  | [] => by rw [List.map_nil, toNKs]; rfl
  | x :: xs => by rw [List.map_cons, toNKs, toNK, nks_text xs]; rfl
theorem dep_text : ∀ xs : List Str, NestedKey.depthAll (xs.map .text) = 0
  | [] => by rw [List.map_nil, NestedKey.depthAll]
  | x :: xs => by rw [List.map_cons, NestedKey.depthAll, NestedKey.depth, dep_text xs]; rfl
theorem pr_nk (q : Pr) : toNK (pr q) = some (kP q) := by
  unfold pr wS
  simp only [toNK, toNKs, nks_text, Option.map_some]
  rfl
theorem pr_key (q : Pr) : tupNK (pr q) = some (kP q) := by
  have e := pr_nk q
  have d : (kP q).depth ≤ 8 := by
    unfold kP
    simp only [NestedKey.depth, NestedKey.depthAll, dep_text]
    decide
  unfold tupNK
  rw [e]
  unfold kP at d ⊢
  dsimp only
  rw [if_pos d]
theorem key_pr (q : Pr) : keyW (kP q) = pr q := keyW_of _ _ (pr_nk q)
theorem kn_mem (F : List Pr) (q : Pr) : (knGet (F.map kvP) (kP q)).isSome = decide (q ∈ F) := by
  induction F with
  | nil => rfl
  | cons r F ih =>
    unfold knGet at ih ⊢
    rw [List.map_cons, List.find?_cons]
    by_cases e : r = q
    · subst e
      simp [kvP]
    · have : ¬ kP r = kP q := fun z => e (kP_inj z)
      have e2 : ¬ q = r := fun z => e z.symm
      simp only [kvP, this, decide_false]
      rw [ih]
      simp [e2]
theorem kn_put (F : List Pr) (q : Pr) : knPut (F.map kvP) (kP q) (.bl true) = if q ∈ F then F.map kvP else (F ++ [q]).map kvP := by
  unfold knPut
  rw [kn_mem]
  by_cases h : q ∈ F
  · rw [if_pos h, decide_eq_true h, if_pos rfl, List.map_map]
    apply List.map_congr_left
    intro r _
    show knAt (kP q) (.bl true) (kvP r) = kvP r
    unfold knAt kvP
    split <;> rfl
  · rw [if_neg h, decide_eq_false h, if_neg (by decide), List.map_append]
    rfl
theorem kn_all : ∀ (R F : List Pr), (F ++ R).Nodup → knPutAll (F.map kvP) (R.map kvP) = (F ++ R).map kvP
  | [], F, _ => by rw [List.append_nil]; rfl
  | r :: R, F, h => by
    have hr : r ∉ F := fun z => (List.nodup_append.mp h).2.2 r z r List.mem_cons_self rfl
    show knPutAll (knPut (F.map kvP) (kP r) (.bl true)) (R.map kvP) = _
    rw [kn_put, if_neg hr, kn_all R (F ++ [r]) (by rw [List.append_assoc]; exact h), List.append_assoc]
    rfl
theorem nodup_leP : ∀ {xs ys : List Pr}, xs.Nodup → (∀ x ∈ xs, x ∈ ys) → xs.length ≤ ys.length
  | [], _, _, _ => Nat.zero_le _
  | x :: xs, ys, hn, h => by
    have hx := h x List.mem_cons_self
    obtain ⟨n1, n2⟩ := List.nodup_cons.mp hn
    have e := nodup_leP (xs := xs) (ys := ys.erase x) n2 fun y hy => (List.mem_erase_of_ne (fun z => n1 (by rw [← z]; exact hy))).mpr (h y (List.mem_cons_of_mem _ hy))
    rw [List.length_erase_of_mem hx] at e
    have := List.length_pos_of_mem hx
    rw [List.length_cons]
    omega
/-- all words of so many letters -/
def wordsE (t : List Str) : Nat → List (List Str)
  | 0 => [[]]
  | k + 1 => (wordsE t k).flatMap fun w => t.map fun x => x :: w
theorem sum_rep (n k : Nat) : (List.replicate n k).sum = n * k := by
  induction n with
  | zero => simp
  | succ n ih => rw [List.replicate_succ, List.sum_cons, ih, Nat.succ_mul]; omega
theorem words_len (t : List Str) : ∀ k, (wordsE t k).length = t.length ^ k
  | 0 => rfl
  | k + 1 => by
    rw [wordsE, List.length_flatMap, Nat.pow_succ, ← words_len t k]
    have : (wordsE t k).map (fun w => (t.map fun x => x :: w).length) = (wordsE t k).map fun _ => t.length := List.map_congr_left fun w _ => List.length_map ..
    rw [this, List.map_const', sum_rep]
theorem words_mem {t : List Str} : ∀ {k : Nat} {w : List Str}, w.length = k → (∀ x ∈ w, x ∈ t) → w ∈ wordsE t k
  | 0, w, h, _ => by rw [List.length_eq_zero_iff.mp h, wordsE]; exact List.mem_singleton_self _
  | k + 1, [], h, _ => by simp at h
  | k + 1, x :: w, h, hx => by
    rw [wordsE, List.mem_flatMap]
    exact ⟨w, words_mem (by simpa using h) fun y hy => hx y (List.mem_cons_of_mem _ hy), List.mem_map.mpr ⟨x, hx x List.mem_cons_self, rfl⟩⟩
/-- all pairs of words -/
def allP (t : List Str) : List Pr := (wordsE t t.length).flatMap fun a => (wordsE t t.length).map fun b => (a, b)
theorem allP_len (t : List Str) : (allP t).length = t.length ^ t.length * t.length ^ t.length := by
  unfold allP
  rw [List.length_flatMap]
  have : (wordsE t t.length).map (fun a => ((wordsE t t.length).map fun b => (a, b)).length) = (wordsE t t.length).map fun _ => t.length ^ t.length := List.map_congr_left fun w _ => by rw [List.length_map, words_len]
  rw [this, List.map_const', sum_rep, words_len]
theorem allP_few {t : List Str} (h : t.length ≤ 4) : (allP t).length ≤ 65536 := by
  rw [allP_len]
  have h1 : t.length ^ t.length ≤ 256 := by
    have : t.length = 0 ∨ t.length = 1 ∨ t.length = 2 ∨ t.length = 3 ∨ t.length = 4 := by omega
    rcases this with e | e | e | e | e <;> rw [e] <;> decide
  exact Nat.mul_le_mul h1 h1
/-- a pair of orders of the same letters -/
def Of (t : List Str) (q : Pr) : Prop := q.1.Perm t ∧ q.2.Perm t
theorem Of.mem {t : List Str} {q : Pr} (o : Of t q) : q ∈ allP t := by
  unfold allP
  rw [List.mem_flatMap]
  exact ⟨q.1, words_mem o.1.length_eq fun x hx => o.1.mem_iff.mp hx, List.mem_map.mpr ⟨q.2, words_mem o.2.length_eq fun x hx => o.2.mem_iff.mp hx, rfl⟩⟩
theorem Of.fr {t : List Str} {q : Pr} (o : Of t q) (p : Nat) : Of t (frP q p) := ⟨(front_perm _ _).trans o.1, (front_perm _ _).trans o.2⟩
theorem Of.nm {t : List Str} {q : Pr} (o : Of t q) (x : Str) : Of t (nmP q x) := ⟨(front_perm _ _).trans o.1, (front_perm _ _).trans o.2⟩
theorem few_of {t : List Str} {F : List Pr} (h : t.length ≤ 4) (hn : F.Nodup) (ho : ∀ q ∈ F, Of t q) : F.length ≤ 65536 :=
  Nat.le_trans (nodup_leP hn fun q hq => (ho q hq).mem) (allP_few h)
/-- what comes by places -/
inductive Rch (n : Nat) : Pr → Pr → Prop
  | refl (q : Pr) : Rch n q q
  | step {q r : Pr} {p : Nat} : p < n → Rch n (frP q p) r → Rch n q r
theorem Rch.trans {n : Nat} {a b c : Pr} (x : Rch n a b) (y : Rch n b c) : Rch n a c := by
  induction x with
  | refl => exact y
  | step h _ ih => exact .step h (ih y)
theorem Rch.one {n p : Nat} {q : Pr} (h : p < n) : Rch n q (frP q p) := .step h (.refl _)
theorem it_rch {n p : Nat} (h : p < n) : ∀ (k : Nat) (q : Pr), Rch n q (itF p k q.1, itF p k q.2)
  | 0, q => .refl q
  | k + 1, q => .step h (it_rch h k (frP q p))
theorem Rch.back {n p : Nat} {q : Pr} (h : p < n) (h1 : q.1.length = n) (h2 : q.2.length = n) : Rch n (frP q p) q := by
  have := it_rch h p (frP q p)
  have e1 : itF p p (front q.1 p) = q.1 := itF_all (by omega)
  have e2 : itF p p (front q.2 p) = q.2 := itF_all (by omega)
  rw [show itF p p (frP q p).1 = q.1 from e1, show itF p p (frP q p).2 = q.2 from e2] at this
  exact this
theorem Rch.len {n : Nat} {q r : Pr} (x : Rch n q r) : r.1.length = q.1.length ∧ r.2.length = q.2.length := by
  induction x with
  | refl => exact ⟨rfl, rfl⟩
  | step _ _ ih => exact ⟨ih.1.trans (front_length _ _), ih.2.trans (front_length _ _)⟩
theorem Rch.symm {n : Nat} {q r : Pr} (x : Rch n q r) (h1 : q.1.length = n) (h2 : q.2.length = n) : Rch n r q := by
  induction x with
  | refl => exact .refl _
  | step h _ ih => exact (ih (by show (front _ _).length = n; rw [front_length]; exact h1) (by show (front _ _).length = n; rw [front_length]; exact h2)).trans (Rch.back h h1 h2)
theorem Rch.of {n : Nat} {t : List Str} {q r : Pr} (x : Rch n q r) (o : Of t q) : Of t r := by
  induction x with
  | refl => exact o
  | step _ _ ih => exact ih (o.fr _)
theorem front_inj {a b : List Str} {p : Nat} (h1 : p < a.length) (h2 : p < b.length) (hl : a.length = b.length) (e : front a p = front b p) : a = b := by
  have h := congrArg (itF p p) e
  have e1 : itF p p (front a p) = a := itF_all h1
  have e2 : itF p p (front b p) = b := itF_all h2
  rw [e1, e2] at h
  exact h
theorem Rch.eq {n : Nat} {q r : Pr} (x : Rch n q r) (h1 : q.1.length = n) (h2 : q.2.length = n) (e : r.1 = r.2) : q.1 = q.2 := by
  induction x with
  | refl => exact e
  | step h _ ih => exact front_inj (by omega) (by omega) (by omega) (ih (by show (front _ _).length = n; rw [front_length]; exact h1) (by show (front _ _).length = n; rw [front_length]; exact h2) e)
theorem Rch.rings {n : Nat} {q r : Pr} (x : Rch n q r) (b : Both q.1 q.2) : ringsP r.1 r.2 = ringsP q.1 q.2 ∧ Both r.1 r.2 := by
  induction x with
  | refl => exact ⟨rfl, b⟩
  | @step q r p h _ ih =>
    have b1 : Both (frP q p).1 (frP q p).2 := done_both b (.pl p)
    obtain ⟨e, b2⟩ := ih b1
    exact ⟨e.trans (rings_placesV b [p]), b2⟩
theorem pls_rch {n : Nat} : ∀ (ps : List Nat) (q : Pr), (∀ p ∈ ps, p < n) → Rch n q ((goneE q.1 q.2 (ps.map .pl)).1, (goneE q.1 q.2 (ps.map .pl)).2.1)
  | [], q, _ => .refl q
  | p :: ps, q, h => .step (h p List.mem_cons_self) (pls_rch ps (frP q p) fun r hr => h r (List.mem_cons_of_mem _ hr))
/-- a name that makes the rows one: one ring at most -/
theorem near_few {q : Pr} {x : Str} (b : Both q.1 q.2) (hx : x ∈ q.1) (e : (nmP q x).1 = (nmP q x).2) : (ringsP q.1 q.2).length ≤ 1 := by
  have hm := phi_map b.row.nd b.len
  have hxh : x ∈ q.2 := b.perm.mem_iff.mpr hx
  have hi := List.idxOf_lt_length_of_mem hx
  have hj := List.idxOf_lt_length_of_mem hxh
  have hl := b.len
  obtain ⟨i, hi'⟩ : ∃ i, i = q.1.idxOf x := ⟨_, rfl⟩
  obtain ⟨j, hj'⟩ : ∃ j, j = q.2.idxOf x := ⟨_, rfl⟩
  have e : front q.1 i = front q.2 j := by rw [hi', hj']; exact e
  have e2 : (front q.1 j).map (phi q.1 q.2) = front q.1 i := by rw [← front_map, hm]; exact e.symm
  by_cases ij : j = i
  · have e' : front q.1 i = front q.2 i := by rw [ij] at e; exact e
    have hq : q.1 = q.2 := front_inj (by omega) (by omega) (by omega) e'
    have h0 : ringsP q.1 q.2 = [] := (rings_nil b).mpr hq
    rw [h0]; exact Nat.zero_le _
  · obtain ⟨c1, c2, c3⟩ := as_cyc (ψ := phi q.1 q.2) b.row.nd (by omega) (by omega) ij e2
    exact Nat.le_of_eq (ringsP_one b c1 c2 c3)
end Lw
end
section
set_option Elab.async false
set_option linter.all false
set_option maxRecDepth 100000
set_option maxHeartbeats 1000000
open PySem PySem.Spec PyProof.Rows L2
namespace Lw
open Sim
section
variable {st : Stt}
theorem lfront_ok {xs : List Str} {p : Nat} (h : p < xs.length) (hl : xs.length ≤ 1000) : m__law_front [wS xs, .int (p : Int)] st = .ok (wS (front xs p)) st := by
  have h0 : p < (xs.map W.str).length := by simpa using h
  have h1 : (xs.map W.str)[p]? = some (.str xs[p]) := get_map h
  refine frz_pure ?_ (nl_strs _)
  have hs1 : fSl st (wS xs) none (some (p : Int)) = some (wS (xs.take p)) := by
    show some (W.tup (cutW _ none (some (p : Int)))) = _
    rw [cut_take, ← List.map_take]
  have hs2 : fSl st (wS xs) (some ((p : Int) + 1)) none = some (wS (xs.drop (p + 1))) := by
    show some (W.tup (cutW _ (some ((p : Int) + 1)) none)) = _
    rw [cut_drop1, ← List.map_drop]
  obtain ⟨A, hA⟩ : ∃ A, A = xs.take p := ⟨_, rfl⟩
  obtain ⟨B, hB⟩ : ∃ B, B = xs.drop (p + 1) := ⟨_, rfl⟩
  have hf : front xs p = xs[p] :: (A ++ B) := by unfold front; rw [List.getElem?_eq_getElem h, hA, hB]
  have lA : A.length ≤ 1000 := by rw [hA, List.length_take]; omega
  have lB : B.length ≤ 1000 := by rw [hB, List.length_drop]; omega
  rw [← hA] at hs1
  rw [← hB] at hs2
  have l1 : 1 + A.length ≤ 100000 := by omega
  have l2 : 1 + A.length + B.length ≤ 100000 := by omega
  have l3 : A.length + 1 ≤ 100000 := by omega
  have l4 : A.length + 1 + B.length ≤ 100000 := by omega
  have l5 : 1 + (A.length + B.length) ≤ 100000 := by omega
  have l6 : A.length + B.length + 1 ≤ 100000 := by omega
  simp [r__law_front, entry, Sim.atI_nat, h1, hs1, hs2, hf, l1, l2, l3, l4, l5, l6, List.getElem?_eq_getElem h]
end
end Lw
end
section
set_option Elab.async false
set_option linter.all false
set_option maxRecDepth 100000
set_option maxHeartbeats 2000000
open PySem PySem.Spec PyProof.Rows L2
namespace Lw
open Sim
section
variable {st : Stt} {P : Program} {W0 : PySem.World}
/-! all pairs that come by places, gone through -/
noncomputable abbrev bpB (P : Program) (w : PySem.World) : SM := (sSeq (sAsg (eTup (aCons (eCall m__law_front (aCons (eOp fIx (eVar 3) (eC (.int 0))) (aCons (eVar 4) aNil))) (aCons (eCall m__law_front (aCons (eOp fIx (eVar 3) (eC (.int 1))) (aCons (eVar 4) aNil))) aNil))) (gmName 5))
    (sIf (tmV (eOp (fInT P w true) (eVar 5) (eVar 1))) (sSeq (sSetT P w (eC (.bl true)) (eVar 1) (eVar 5))
    (sDrop (eBM (eVar 2) (aCons (eVar 5) aNil) (mUp fAppend)))) sNext))
noncomputable abbrev bwB (P : Program) (w : PySem.World) : SM := (sSeq (sAsg (eBM (eVar 2) aNil (mUp fPop)) (gmName 3))
    (sFor (iRange1 (aCons (eFn fLen (aCons (eOp fIx (eVar 0) (eC (.int 0))) aNil)) aNil)) (gmName 4) (bpB P w)))
def two (P : Program) (W0 : PySem.World) (st : Stt) (F S : List Pr) : Stt := st ++ [some (.dn P W0 (F.map kvP)), some (.lst (S.map pr))]
theorem two_A {F S : List Pr} : (two P W0 st F S)[st.length]? = some (some (.dn P W0 (F.map kvP))) := by unfold two; simp
theorem two_B {F S : List Pr} : (two P W0 st F S)[st.length + 1]? = some (some (.lst (S.map pr))) := by unfold two; simp
theorem two_setA {F F' S : List Pr} : (two P W0 st F S).set st.length (some (.dn P W0 (F'.map kvP))) = two P W0 st F' S := by unfold two; simp
theorem two_setB {F S S' : List Pr} : (two P W0 st F S).set (st.length + 1) (some (.lst (S'.map pr))) = two P W0 st F S' := by unfold two; simp
theorem up_B {f : List W → List W → Stt → Option (W × List W)} {F S S' : List Pr} {us : List W} {y : W} (h : f (S.map pr) us (two P W0 st F S) = some (y, S'.map pr)) : mUp f (.loc (st.length + 1)) us (two P W0 st F S) = .ok y (two P W0 st F S') := by
  unfold mUp
  dsimp only
  rw [two_B]
  dsimp only
  rw [h]
  dsimp only
  rw [two_setB]
theorem bp_step {q : Pr} {p n : Nat} {F S : List Pr} {x0 x5 : Option W} (h1 : q.1.length = n) (h2 : q.2.length = n) (n16 : n ≤ 16) (hp : p < n) (hF : F.length ≤ 70000) (hS : S.length ≤ 70000) :
    bpB P W0 [x0, some (.loc st.length), some (.loc (st.length + 1)), some (pr q), some (.int (p : Int)), x5] (two P W0 st F S) =
      .nx [x0, some (.loc st.length), some (.loc (st.length + 1)), some (pr q), some (.int (p : Int)), some (pr (frP q p))] (if frP q p ∈ F then two P W0 st F S else two P W0 st (F ++ [frP q p]) (S ++ [frP q p])) := by
  obtain ⟨s, hs⟩ : ∃ s, s = two P W0 st F S := ⟨_, rfl⟩
  have f1 := lfront_ok (st := s) (xs := q.1) (p := p) (by omega) (by omega)
  have f2 := lfront_ok (st := s) (xs := q.2) (p := p) (by omega) (by omega)
  have i0 : fIx s (pr q) (.int 0) = some (wS q.1) := rfl
  have i1 : fIx s (pr q) (.int 1) = some (wS q.2) := rfl
  have hA : s[st.length]? = some (some (.dn P W0 (F.map kvP))) := by rw [hs]; exact two_A
  have it := f_inT (st := s) (n := st.length) (y := pr (frP q p)) (k := kP (frP q p)) true hA (pr_key _)
  rw [kn_mem, if_pos rfl] at it
  have e : W.tup [wS (front q.1 p), wS (front q.2 p)] = pr (frP q p) := rfl
  obtain ⟨r, hr⟩ : ∃ r, r = frP q p := ⟨_, rfl⟩
  rw [← hr] at it e ⊢
  rw [← hs]
  by_cases h : r ∈ F
  · rw [decide_eq_true h] at it
    rw [if_pos h]
    unfold bpB
    rw [ev_seq]; simp only [ev_var, ev_c, ev_nil, ev_yes, ev_oNone, optR_some, optL_some, optO_some, consK2_ok, consK_ok, ev_cons, tupK_ok, ev_tup, lstK_ok, ev_lst, lstLK_ok, ev_lstL, opK2_ok, opK_ok, ev_op, tvW_bl, tvK_ok, ev_tv, tnotK_ok, ev_tnot, tandK_ok, ev_tand, torK_ok, ev_tor, fnK_ok, ev_fn, fnVK_ok, ev_fnV, fnOK_ok, ev_fnO, callK_ok, ev_call, chK3_ok, chW_bl, chK2_ok, chK_ok, ev_chain, negW_int, negK_ok, ev_neg, revTW_tup, revTK_ok, ev_revT, revLK_ok, ev_revL, revOK_ok, ev_revO, someW_int, oSomeK_ok, ev_oSome, slK3_ok, slK2_ok, slK_ok, ev_sl, slOK3_ok, slOK2_ok, slOK_ok, ev_slO, bmK2_ok, bmW_some, bmK_ok, ev_bm, idxW_tup, idxK_ok, ev_idxT, lsW_some, lenSetK_ok, ev_lenSet, isiTW_some, isiTK_ok, ev_isiT, andW_bl, orW_bl, notW_bl, andK_ok, ev_emAnd, orK_ok, ev_emOr, notK_ok, ev_emNot, ifEK_ok, ev_emIf, ev_next, seqK_nx, seqK_rt, dropK_ok, ev_drop, retK_ok, ev_ret, ev_retN, ifK_ok, ev_if, ev_brk, ev_cont, optS_some, asgK_ok, ev_asg, parK2_ok, parK_ok, ev_par, setK3_ok, setK2_ok, setK_ok, ev_setIx, ev_gname, ev_gtup, ev_gcons, ev_gnil, forK_ok, ev_for, lcV_ok, lcO_ok, lcK_ok, ev_lc, lcLK_ok, ev_lcL, wipe_nil, wipe_cons, srcW_some, iseqK_ok, ev_iseq, rng1K_ok, ev_rng1, rng2K_ok, ev_rng2, funK_nx, funK_rt, ev_fun, ev_callP, callPK_ok, List.getElem?_cons_zero, List.getElem?_cons_succ, List.set_cons_succ, List.set_cons_zero, Bool.not_true, Bool.not_false, if_true, if_false, Bool.false_eq_true, List.length_cons, List.length_nil, Nat.reduceAdd, Nat.reduceLeDiff, i0, f1, i1, f2, e]
    simp only [ev_var, ev_c, ev_nil, ev_yes, ev_oNone, optR_some, optL_some, optO_some, consK2_ok, consK_ok, ev_cons, tupK_ok, ev_tup, lstK_ok, ev_lst, lstLK_ok, ev_lstL, opK2_ok, opK_ok, ev_op, tvW_bl, tvK_ok, ev_tv, tnotK_ok, ev_tnot, tandK_ok, ev_tand, torK_ok, ev_tor, fnK_ok, ev_fn, fnVK_ok, ev_fnV, fnOK_ok, ev_fnO, callK_ok, ev_call, chK3_ok, chW_bl, chK2_ok, chK_ok, ev_chain, negW_int, negK_ok, ev_neg, revTW_tup, revTK_ok, ev_revT, revLK_ok, ev_revL, revOK_ok, ev_revO, someW_int, oSomeK_ok, ev_oSome, slK3_ok, slK2_ok, slK_ok, ev_sl, slOK3_ok, slOK2_ok, slOK_ok, ev_slO, bmK2_ok, bmW_some, bmK_ok, ev_bm, idxW_tup, idxK_ok, ev_idxT, lsW_some, lenSetK_ok, ev_lenSet, isiTW_some, isiTK_ok, ev_isiT, andW_bl, orW_bl, notW_bl, andK_ok, ev_emAnd, orK_ok, ev_emOr, notK_ok, ev_emNot, ifEK_ok, ev_emIf, ev_next, seqK_nx, seqK_rt, dropK_ok, ev_drop, retK_ok, ev_ret, ev_retN, ifK_ok, ev_if, ev_brk, ev_cont, optS_some, asgK_ok, ev_asg, parK2_ok, parK_ok, ev_par, setK3_ok, setK2_ok, setK_ok, ev_setIx, ev_gname, ev_gtup, ev_gcons, ev_gnil, forK_ok, ev_for, lcV_ok, lcO_ok, lcK_ok, ev_lc, lcLK_ok, ev_lcL, wipe_nil, wipe_cons, srcW_some, iseqK_ok, ev_iseq, rng1K_ok, ev_rng1, rng2K_ok, ev_rng2, funK_nx, funK_rt, ev_fun, ev_callP, callPK_ok, List.getElem?_cons_zero, List.getElem?_cons_succ, List.set_cons_succ, List.set_cons_zero, Bool.not_true, Bool.not_false, if_true, if_false, Bool.false_eq_true, List.length_cons, List.length_nil, Nat.reduceAdd, Nat.reduceLeDiff, it]
  · rw [decide_eq_false h] at it
    rw [if_neg h]
    have pt := fun ρ => putT_ok (P := P) (wd := W0) (ρ := ρ) (x := .bl true) (y := pr r) (k := kP r) hA (pr_key _) (by rw [List.length_map]; omega)
    rw [kn_put, if_neg h, hs, two_setA] at pt
    rw [← hs] at pt
    have lx : lstX (two P W0 st (F ++ [r]) S) (.loc (st.length + 1)) = some (S.map pr) := by simp only [lstX, two_B]
    have ap := up_B (P := P) (W0 := W0) (st := st) (f := fAppend) (F := F ++ [r]) (S := S) (S' := S ++ [r]) (us := [pr r]) (y := .non) (by
      unfold fAppend
      dsimp only
      rw [if_pos (by rw [List.length_map]; omega), List.map_append]
      rfl)
    unfold bpB
    rw [ev_seq]; simp only [ev_var, ev_c, ev_nil, ev_yes, ev_oNone, optR_some, optL_some, optO_some, consK2_ok, consK_ok, ev_cons, tupK_ok, ev_tup, lstK_ok, ev_lst, lstLK_ok, ev_lstL, opK2_ok, opK_ok, ev_op, tvW_bl, tvK_ok, ev_tv, tnotK_ok, ev_tnot, tandK_ok, ev_tand, torK_ok, ev_tor, fnK_ok, ev_fn, fnVK_ok, ev_fnV, fnOK_ok, ev_fnO, callK_ok, ev_call, chK3_ok, chW_bl, chK2_ok, chK_ok, ev_chain, negW_int, negK_ok, ev_neg, revTW_tup, revTK_ok, ev_revT, revLK_ok, ev_revL, revOK_ok, ev_revO, someW_int, oSomeK_ok, ev_oSome, slK3_ok, slK2_ok, slK_ok, ev_sl, slOK3_ok, slOK2_ok, slOK_ok, ev_slO, bmK2_ok, bmW_some, bmK_ok, ev_bm, idxW_tup, idxK_ok, ev_idxT, lsW_some, lenSetK_ok, ev_lenSet, isiTW_some, isiTK_ok, ev_isiT, andW_bl, orW_bl, notW_bl, andK_ok, ev_emAnd, orK_ok, ev_emOr, notK_ok, ev_emNot, ifEK_ok, ev_emIf, ev_next, seqK_nx, seqK_rt, dropK_ok, ev_drop, retK_ok, ev_ret, ev_retN, ifK_ok, ev_if, ev_brk, ev_cont, optS_some, asgK_ok, ev_asg, parK2_ok, parK_ok, ev_par, setK3_ok, setK2_ok, setK_ok, ev_setIx, ev_gname, ev_gtup, ev_gcons, ev_gnil, forK_ok, ev_for, lcV_ok, lcO_ok, lcK_ok, ev_lc, lcLK_ok, ev_lcL, wipe_nil, wipe_cons, srcW_some, iseqK_ok, ev_iseq, rng1K_ok, ev_rng1, rng2K_ok, ev_rng2, funK_nx, funK_rt, ev_fun, ev_callP, callPK_ok, List.getElem?_cons_zero, List.getElem?_cons_succ, List.set_cons_succ, List.set_cons_zero, Bool.not_true, Bool.not_false, if_true, if_false, Bool.false_eq_true, List.length_cons, List.length_nil, Nat.reduceAdd, Nat.reduceLeDiff, i0, f1, i1, f2, e]
    simp only [ev_var, ev_c, ev_nil, ev_yes, ev_oNone, optR_some, optL_some, optO_some, consK2_ok, consK_ok, ev_cons, tupK_ok, ev_tup, lstK_ok, ev_lst, lstLK_ok, ev_lstL, opK2_ok, opK_ok, ev_op, tvW_bl, tvK_ok, ev_tv, tnotK_ok, ev_tnot, tandK_ok, ev_tand, torK_ok, ev_tor, fnK_ok, ev_fn, fnVK_ok, ev_fnV, fnOK_ok, ev_fnO, callK_ok, ev_call, chK3_ok, chW_bl, chK2_ok, chK_ok, ev_chain, negW_int, negK_ok, ev_neg, revTW_tup, revTK_ok, ev_revT, revLK_ok, ev_revL, revOK_ok, ev_revO, someW_int, oSomeK_ok, ev_oSome, slK3_ok, slK2_ok, slK_ok, ev_sl, slOK3_ok, slOK2_ok, slOK_ok, ev_slO, bmK2_ok, bmW_some, bmK_ok, ev_bm, idxW_tup, idxK_ok, ev_idxT, lsW_some, lenSetK_ok, ev_lenSet, isiTW_some, isiTK_ok, ev_isiT, andW_bl, orW_bl, notW_bl, andK_ok, ev_emAnd, orK_ok, ev_emOr, notK_ok, ev_emNot, ifEK_ok, ev_emIf, ev_next, seqK_nx, seqK_rt, dropK_ok, ev_drop, retK_ok, ev_ret, ev_retN, ifK_ok, ev_if, ev_brk, ev_cont, optS_some, asgK_ok, ev_asg, parK2_ok, parK_ok, ev_par, setK3_ok, setK2_ok, setK_ok, ev_setIx, ev_gname, ev_gtup, ev_gcons, ev_gnil, forK_ok, ev_for, lcV_ok, lcO_ok, lcK_ok, ev_lc, lcLK_ok, ev_lcL, wipe_nil, wipe_cons, srcW_some, iseqK_ok, ev_iseq, rng1K_ok, ev_rng1, rng2K_ok, ev_rng2, funK_nx, funK_rt, ev_fun, ev_callP, callPK_ok, List.getElem?_cons_zero, List.getElem?_cons_succ, List.set_cons_succ, List.set_cons_zero, Bool.not_true, Bool.not_false, if_true, if_false, Bool.false_eq_true, List.length_cons, List.length_nil, Nat.reduceAdd, Nat.reduceLeDiff, it, ev_seq, ev_setT, stK_ok, stK2_ok, stK3_ok, pt, lx, ap]
theorem bp_loop {q : Pr} {n : Nat} {x0 : Option W} {t : List Str} (h1 : q.1.length = n) (h2 : q.2.length = n) (t4 : t.length ≤ 4) (ht : t.length = n) (oq : Of t q) : ∀ (ps : List Nat) (F S : List Pr) (x4 x5 : Option W), (∀ p ∈ ps, p < n) → F.Nodup → (∀ r ∈ F, Of t r) → S.length + ps.length ≤ 70000 →
    ∃ N y4 y5, forW (fun _ => True) (gmName 4) (bpB P W0) (ps.map fun (p : Nat) => W.int (p : Int)) [x0, some (.loc st.length), some (.loc (st.length + 1)), some (pr q), x4, x5] (two P W0 st F S) =
      .nx [x0, some (.loc st.length), some (.loc (st.length + 1)), some (pr q), y4, y5] (two P W0 st (F ++ N) (S ++ N)) ∧ (F ++ N).Nodup ∧ (∀ r ∈ N, Rch n q r) ∧ (∀ p ∈ ps, frP q p ∈ F ++ N) ∧ N.length ≤ ps.length
  | [], F, S, x4, x5, _, nd, _, _ => ⟨[], x4, x5, by rw [List.append_nil, List.append_nil, List.map_nil, forW_nil trivial], by rw [List.append_nil]; exact nd, fun r h => (by cases h), fun p h => (by cases h), Nat.le_refl _⟩
  | p :: ps, F, S, x4, x5, hp, nd, hF, hS => by
    rw [List.length_cons] at hS
    have hp1 := hp p List.mem_cons_self
    have fF := few_of t4 nd hF
    have s1 := bp_step (P := P) (W0 := W0) (st := st) (x0 := x0) (x5 := x5) (F := F) (S := S) h1 h2 (by omega) hp1 (by omega) (by omega)
    by_cases h : frP q p ∈ F
    · rw [if_pos h] at s1
      obtain ⟨N, y4, y5, e1, e2, e3, e4, e5⟩ := bp_loop (x0 := x0) h1 h2 t4 ht oq ps F S (some (.int (p : Int))) (some (pr (frP q p))) (fun r hr => hp r (List.mem_cons_of_mem _ hr)) nd hF (by omega)
      refine ⟨N, y4, y5, ?_, e2, e3, fun r hr => ?_, by rw [List.length_cons]; omega⟩
      · rw [List.map_cons, forW_nx trivial rfl s1]; exact e1
      · rcases List.mem_cons.mp hr with rfl | hr
        · exact List.mem_append_left _ h
        · exact e4 r hr
    · rw [if_neg h] at s1
      have nd1 : (F ++ [frP q p]).Nodup := by
        rw [List.nodup_append]
        exact ⟨nd, by simp, fun a ha b hb z => h (by rw [← List.mem_singleton.mp hb, ← z]; exact ha)⟩
      obtain ⟨N, y4, y5, e1, e2, e3, e4, e5⟩ := bp_loop (x0 := x0) h1 h2 t4 ht oq ps (F ++ [frP q p]) (S ++ [frP q p]) (some (.int (p : Int))) (some (pr (frP q p))) (fun r hr => hp r (List.mem_cons_of_mem _ hr)) nd1 (fun r hr => (List.mem_append.mp hr).elim (hF r) fun z => by rw [List.mem_singleton.mp z]; exact oq.fr p) (by rw [List.length_append, List.length_singleton]; omega)
      refine ⟨frP q p :: N, y4, y5, ?_, ?_, fun r hr => ?_, fun r hr => ?_, by rw [List.length_cons, List.length_cons]; omega⟩
      · rw [List.map_cons, forW_nx trivial rfl s1, e1, List.append_assoc, List.append_assoc, List.singleton_append]
      · rw [List.append_assoc, List.singleton_append] at e2; exact e2
      · rcases List.mem_cons.mp hr with rfl | hr
        · exact Rch.one hp1
        · exact e3 r hr
      · rcases List.mem_cons.mp hr with rfl | hr
        · simp
        · have := e4 r hr
          rw [List.append_assoc, List.singleton_append] at this
          exact this
theorem ne_nil_locB {st : Stt} {n : Nat} {ws : List W} (h : st[n]? = some (some (.lst ws))) (hd : datWs 62 ws = true) : fNe st (.loc n) (.lst []) = some (.bl (!ws.isEmpty)) := by
  obtain ⟨ds, k1, k2, k3, k4, _⟩ := dats_toD 62 ws hd
  have e1 : toD st (.loc n) = some (.list ds) := by
    rw [toD, h]
    dsimp only
    rw [k2]; rfl
  have e2 : toD st (.lst []) = some (.list []) := by rw [toD, toDs]; rfl
  unfold fNe
  rw [e1, e2]
  dsimp only
  rw [if_pos ⟨shaped_of (by simp only [PyData.canLay0]; exact k3) (by simp only [PyData.depth]; omega), shaped_of rfl (by decide)⟩, PyData.eqv]
  cases ws with
  | nil => rw [toD0s] at k2; cases k2; rfl
  | cons w r =>
    rw [toD0s] at k2
    cases e1 : toD0 w <;> rw [e1] at k2
    · cases k2
    · cases e2 : toD0s r <;> rw [e2] at k2 <;> cases k2
      simp [PyData.eqvAll]
theorem dat_prsB {n : Nat} : ∀ {L : List Pr}, (∀ q ∈ L, (∀ x ∈ q.1, Ltr x) ∧ ∀ x ∈ q.2, Ltr x) → datWs (n + 2) (L.map pr) = true
  | [], _ => by rw [List.map_nil, datWs]
  | q :: L, h => by
    obtain ⟨b1, b2⟩ := h q List.mem_cons_self
    rw [List.map_cons, datWs, dat_prsB fun u hu => h u (List.mem_cons_of_mem _ hu), Bool.and_true]
    unfold pr
    rw [datW, datWs, datWs, datWs, datW, datW, dat_row b1, dat_row b2]
    rfl
theorem rng_natB (n : Nat) : rngW 0 n = (List.range n).map fun (q : Nat) => W.int (q : Int) := by
  unfold rngW
  apply List.map_congr_left
  intro k _
  rw [Int.zero_add]
structure Gone (n : Nat) (t : List Str) (q0 : Pr) (F S : List Pr) : Prop where
  nd : F.Nodup
  rch : ∀ r ∈ F, Rch n q0 r
  sub : ∀ r ∈ S, r ∈ F
  cl : ∀ r ∈ F, r ∈ S ∨ ∀ p, p < n → frP r p ∈ F
  q0 : q0 ∈ F
  sn : S.Nodup
theorem bw_loop {n : Nat} {t : List Str} {q0 : Pr} (t4 : t.length ≤ 4) (ht : t.length = n) (o0 : Of t q0) (lt : ∀ x ∈ t, Ltr x) : ∀ (k j : Nat) (F S : List Pr) (x3 x4 x5 : Option W), 5 * (65536 - F.length) + S.length ≤ k → Gone n t q0 F S →
    ∃ F' y3 y4 y5, whileW (k + 1 + j) (tmV (eOp fNe (eVar 2) (eLst aNil))) (bwB P W0) [some (pr q0), some (.loc st.length), some (.loc (st.length + 1)), x3, x4, x5] (two P W0 st F S) =
      .nx [some (pr q0), some (.loc st.length), some (.loc (st.length + 1)), y3, y4, y5] (two P W0 st F' []) ∧ Gone n t q0 F' [] := by
  intro k
  induction k with
  | zero =>
    intro j F S x3 x4 x5 hk I
    have hS : S = [] := List.length_eq_zero_iff.mp (by omega)
    subst hS
    refine ⟨F, x3, x4, x5, ?_, I⟩
    have ne := ne_nil_locB (st := two P W0 st F []) (n := st.length + 1) two_B rfl
    have ne : fNe (two P W0 st F []) (.loc (st.length + 1)) (.lst []) = some (.bl false) := ne
    rw [show 0 + 1 + j = j + 1 by omega, while_stop (st1 := two P W0 st F [])]
    simp only [ev_var, ev_c, ev_nil, ev_yes, ev_oNone, optR_some, optL_some, optO_some, consK2_ok, consK_ok, ev_cons, tupK_ok, ev_tup, lstK_ok, ev_lst, lstLK_ok, ev_lstL, opK2_ok, opK_ok, ev_op, tvW_bl, tvK_ok, ev_tv, tnotK_ok, ev_tnot, tandK_ok, ev_tand, torK_ok, ev_tor, fnK_ok, ev_fn, fnVK_ok, ev_fnV, fnOK_ok, ev_fnO, callK_ok, ev_call, chK3_ok, chW_bl, chK2_ok, chK_ok, ev_chain, negW_int, negK_ok, ev_neg, revTW_tup, revTK_ok, ev_revT, revLK_ok, ev_revL, revOK_ok, ev_revO, someW_int, oSomeK_ok, ev_oSome, slK3_ok, slK2_ok, slK_ok, ev_sl, slOK3_ok, slOK2_ok, slOK_ok, ev_slO, bmK2_ok, bmW_some, bmK_ok, ev_bm, idxW_tup, idxK_ok, ev_idxT, lsW_some, lenSetK_ok, ev_lenSet, isiTW_some, isiTK_ok, ev_isiT, andW_bl, orW_bl, notW_bl, andK_ok, ev_emAnd, orK_ok, ev_emOr, notK_ok, ev_emNot, ifEK_ok, ev_emIf, ev_next, seqK_nx, seqK_rt, dropK_ok, ev_drop, retK_ok, ev_ret, ev_retN, ifK_ok, ev_if, ev_brk, ev_cont, optS_some, asgK_ok, ev_asg, parK2_ok, parK_ok, ev_par, setK3_ok, setK2_ok, setK_ok, ev_setIx, ev_gname, ev_gtup, ev_gcons, ev_gnil, forK_ok, ev_for, lcV_ok, lcO_ok, lcK_ok, ev_lc, lcLK_ok, ev_lcL, wipe_nil, wipe_cons, srcW_some, iseqK_ok, ev_iseq, rng1K_ok, ev_rng1, rng2K_ok, ev_rng2, funK_nx, funK_rt, ev_fun, ev_callP, callPK_ok, List.getElem?_cons_zero, List.getElem?_cons_succ, List.set_cons_succ, List.set_cons_zero, Bool.not_true, Bool.not_false, if_true, if_false, Bool.false_eq_true, List.length_cons, List.length_nil, Nat.reduceAdd, Nat.reduceLeDiff, ne]
  | succ k ih =>
    intro j F S x3 x4 x5 hk I
    have hS := nodup_leP I.sn I.sub
    have ofF : ∀ r ∈ F, Of t r := fun r hr => (I.rch r hr).of o0
    have ltr : ∀ r ∈ F, (∀ x ∈ r.1, Ltr x) ∧ ∀ x ∈ r.2, Ltr x := fun r hr => ⟨fun x hx => lt x ((ofF r hr).1.mem_iff.mp hx), fun x hx => lt x ((ofF r hr).2.mem_iff.mp hx)⟩
    have ne := ne_nil_locB (st := two P W0 st F S) (n := st.length + 1) two_B (dat_prsB (n := 60) fun r hr => ltr r (I.sub r hr))
    have fF := few_of t4 I.nd ofF
    rcases List.eq_nil_or_concat S with hS0 | ⟨S0, q, hS0⟩
    · subst hS0
      refine ⟨F, x3, x4, x5, ?_, I⟩
      have ne : fNe (two P W0 st F []) (.loc (st.length + 1)) (.lst []) = some (.bl false) := ne
      rw [show k + 1 + 1 + j = (k + 1 + j) + 1 by omega, while_stop (st1 := two P W0 st F [])]
      simp only [ev_var, ev_c, ev_nil, ev_yes, ev_oNone, optR_some, optL_some, optO_some, consK2_ok, consK_ok, ev_cons, tupK_ok, ev_tup, lstK_ok, ev_lst, lstLK_ok, ev_lstL, opK2_ok, opK_ok, ev_op, tvW_bl, tvK_ok, ev_tv, tnotK_ok, ev_tnot, tandK_ok, ev_tand, torK_ok, ev_tor, fnK_ok, ev_fn, fnVK_ok, ev_fnV, fnOK_ok, ev_fnO, callK_ok, ev_call, chK3_ok, chW_bl, chK2_ok, chK_ok, ev_chain, negW_int, negK_ok, ev_neg, revTW_tup, revTK_ok, ev_revT, revLK_ok, ev_revL, revOK_ok, ev_revO, someW_int, oSomeK_ok, ev_oSome, slK3_ok, slK2_ok, slK_ok, ev_sl, slOK3_ok, slOK2_ok, slOK_ok, ev_slO, bmK2_ok, bmW_some, bmK_ok, ev_bm, idxW_tup, idxK_ok, ev_idxT, lsW_some, lenSetK_ok, ev_lenSet, isiTW_some, isiTK_ok, ev_isiT, andW_bl, orW_bl, notW_bl, andK_ok, ev_emAnd, orK_ok, ev_emOr, notK_ok, ev_emNot, ifEK_ok, ev_emIf, ev_next, seqK_nx, seqK_rt, dropK_ok, ev_drop, retK_ok, ev_ret, ev_retN, ifK_ok, ev_if, ev_brk, ev_cont, optS_some, asgK_ok, ev_asg, parK2_ok, parK_ok, ev_par, setK3_ok, setK2_ok, setK_ok, ev_setIx, ev_gname, ev_gtup, ev_gcons, ev_gnil, forK_ok, ev_for, lcV_ok, lcO_ok, lcK_ok, ev_lc, lcLK_ok, ev_lcL, wipe_nil, wipe_cons, srcW_some, iseqK_ok, ev_iseq, rng1K_ok, ev_rng1, rng2K_ok, ev_rng2, funK_nx, funK_rt, ev_fun, ev_callP, callPK_ok, List.getElem?_cons_zero, List.getElem?_cons_succ, List.set_cons_succ, List.set_cons_zero, Bool.not_true, Bool.not_false, if_true, if_false, Bool.false_eq_true, List.length_cons, List.length_nil, Nat.reduceAdd, Nat.reduceLeDiff, ne]
    · rw [List.concat_eq_append] at hS0
      subst hS0
      have hq : q ∈ F := I.sub q (by simp)
      have oq := ofF q hq
      have l1 : q.1.length = n := by rw [oq.1.length_eq, ht]
      have l2 : q.2.length = n := by rw [oq.2.length_eq, ht]
      rw [List.length_append, List.length_singleton] at hk hS
      obtain ⟨N, y4, y5, e1, e2, e3, e4, e5⟩ := bp_loop (P := P) (W0 := W0) (st := st) (x0 := some (pr q0)) l1 l2 t4 ht oq (List.range n) F S0 x4 x5 (fun p hp => List.mem_range.mp hp) I.nd ofF (by rw [List.length_range]; omega)
      rw [List.length_range] at e5
      have ofN : ∀ r ∈ F ++ N, Of t r := fun r hr => (List.mem_append.mp hr).elim (ofF r) fun z => (e3 r z).of oq
      have fN := few_of t4 e2 ofN
      rw [List.length_append] at fN
      have I' : Gone n t q0 (F ++ N) (S0 ++ N) := ⟨e2, fun r hr => (List.mem_append.mp hr).elim (I.rch r) fun z => (I.rch q hq).trans (e3 r z), fun r hr => (List.mem_append.mp hr).elim (fun z => List.mem_append_left _ (I.sub r (List.mem_append_left _ z))) fun z => List.mem_append_right _ z, fun r hr => by
        rcases List.mem_append.mp hr with z | z
        · rcases I.cl r z with y | y
          · rcases List.mem_append.mp y with u | u
            · exact .inl (List.mem_append_left _ u)
            · rw [List.mem_singleton.mp u]
              exact .inr fun p hp => e4 p (List.mem_range.mpr hp)
          · exact .inr fun p hp => List.mem_append_left _ (y p hp)
        · exact .inl (List.mem_append_right _ z), List.mem_append_left _ I.q0, by
        obtain ⟨u1, u2, u3⟩ := List.nodup_append.mp e2
        obtain ⟨v1, _, _⟩ := List.nodup_append.mp I.sn
        rw [List.nodup_append]
        exact ⟨v1, u2, fun a ha b hb => u3 a (I.sub a (List.mem_append_left _ ha)) b hb⟩⟩
      obtain ⟨F', z3, z4, z5, f1, f2⟩ := ih j (F ++ N) (S0 ++ N) (some (pr q)) y4 y5 (by rw [List.length_append, List.length_append]; omega) I'
      refine ⟨F', z3, z4, z5, ?_, f2⟩
      have hne : ((S0 ++ [q]).map pr).isEmpty = false := by rw [List.map_append]; simp
      rw [hne] at ne
      have lx : lstX (two P W0 st F (S0 ++ [q])) (.loc (st.length + 1)) = some ((S0 ++ [q]).map pr) := by simp only [lstX, two_B]
      have pp := up_B (P := P) (W0 := W0) (st := st) (f := fPop) (F := F) (S := S0 ++ [q]) (S' := S0) (us := []) (y := pr q) (by
        unfold fPop
        dsimp only
        rw [List.map_append, List.map_singleton]
        simp)
      have i0 : fIx (two P W0 st F S0) (pr q0) (.int 0) = some (wS q0.1) := rfl
      have lT : fLen (two P W0 st F S0) [wS q0.1] = some (.int (n : Int)) := by simp [fLen, Sim.lenOf, o0.1.length_eq, ht]
      have rg : rng1W [.int (n : Int)] (two P W0 st F S0) = .ok ⟨rngW 0 n, fun _ => True⟩ (two P W0 st F S0) := rng1_nat (by omega)
      rw [← rng_natB] at e1
      rw [show k + 1 + 1 + j = (k + 1 + j) + 1 by omega, while_go (st1 := two P W0 st F (S0 ++ [q])) (st2 := two P W0 st (F ++ N) (S0 ++ N)) (ρ2 := [some (pr q0), some (.loc st.length), some (.loc (st.length + 1)), some (pr q), y4, y5])]
      · exact f1
      · simp only [ev_var, ev_c, ev_nil, ev_yes, ev_oNone, optR_some, optL_some, optO_some, consK2_ok, consK_ok, ev_cons, tupK_ok, ev_tup, lstK_ok, ev_lst, lstLK_ok, ev_lstL, opK2_ok, opK_ok, ev_op, tvW_bl, tvK_ok, ev_tv, tnotK_ok, ev_tnot, tandK_ok, ev_tand, torK_ok, ev_tor, fnK_ok, ev_fn, fnVK_ok, ev_fnV, fnOK_ok, ev_fnO, callK_ok, ev_call, chK3_ok, chW_bl, chK2_ok, chK_ok, ev_chain, negW_int, negK_ok, ev_neg, revTW_tup, revTK_ok, ev_revT, revLK_ok, ev_revL, revOK_ok, ev_revO, someW_int, oSomeK_ok, ev_oSome, slK3_ok, slK2_ok, slK_ok, ev_sl, slOK3_ok, slOK2_ok, slOK_ok, ev_slO, bmK2_ok, bmW_some, bmK_ok, ev_bm, idxW_tup, idxK_ok, ev_idxT, lsW_some, lenSetK_ok, ev_lenSet, isiTW_some, isiTK_ok, ev_isiT, andW_bl, orW_bl, notW_bl, andK_ok, ev_emAnd, orK_ok, ev_emOr, notK_ok, ev_emNot, ifEK_ok, ev_emIf, ev_next, seqK_nx, seqK_rt, dropK_ok, ev_drop, retK_ok, ev_ret, ev_retN, ifK_ok, ev_if, ev_brk, ev_cont, optS_some, asgK_ok, ev_asg, parK2_ok, parK_ok, ev_par, setK3_ok, setK2_ok, setK_ok, ev_setIx, ev_gname, ev_gtup, ev_gcons, ev_gnil, forK_ok, ev_for, lcV_ok, lcO_ok, lcK_ok, ev_lc, lcLK_ok, ev_lcL, wipe_nil, wipe_cons, srcW_some, iseqK_ok, ev_iseq, rng1K_ok, ev_rng1, rng2K_ok, ev_rng2, funK_nx, funK_rt, ev_fun, ev_callP, callPK_ok, List.getElem?_cons_zero, List.getElem?_cons_succ, List.set_cons_succ, List.set_cons_zero, Bool.not_true, Bool.not_false, if_true, if_false, Bool.false_eq_true, List.length_cons, List.length_nil, Nat.reduceAdd, Nat.reduceLeDiff, ne]
      · unfold bwB
        rw [ev_seq]; simp only [ev_var, ev_c, ev_nil, ev_yes, ev_oNone, optR_some, optL_some, optO_some, consK2_ok, consK_ok, ev_cons, tupK_ok, ev_tup, lstK_ok, ev_lst, lstLK_ok, ev_lstL, opK2_ok, opK_ok, ev_op, tvW_bl, tvK_ok, ev_tv, tnotK_ok, ev_tnot, tandK_ok, ev_tand, torK_ok, ev_tor, fnK_ok, ev_fn, fnVK_ok, ev_fnV, fnOK_ok, ev_fnO, callK_ok, ev_call, chK3_ok, chW_bl, chK2_ok, chK_ok, ev_chain, negW_int, negK_ok, ev_neg, revTW_tup, revTK_ok, ev_revT, revLK_ok, ev_revL, revOK_ok, ev_revO, someW_int, oSomeK_ok, ev_oSome, slK3_ok, slK2_ok, slK_ok, ev_sl, slOK3_ok, slOK2_ok, slOK_ok, ev_slO, bmK2_ok, bmW_some, bmK_ok, ev_bm, idxW_tup, idxK_ok, ev_idxT, lsW_some, lenSetK_ok, ev_lenSet, isiTW_some, isiTK_ok, ev_isiT, andW_bl, orW_bl, notW_bl, andK_ok, ev_emAnd, orK_ok, ev_emOr, notK_ok, ev_emNot, ifEK_ok, ev_emIf, ev_next, seqK_nx, seqK_rt, dropK_ok, ev_drop, retK_ok, ev_ret, ev_retN, ifK_ok, ev_if, ev_brk, ev_cont, optS_some, asgK_ok, ev_asg, parK2_ok, parK_ok, ev_par, setK3_ok, setK2_ok, setK_ok, ev_setIx, ev_gname, ev_gtup, ev_gcons, ev_gnil, forK_ok, ev_for, lcV_ok, lcO_ok, lcK_ok, ev_lc, lcLK_ok, ev_lcL, wipe_nil, wipe_cons, srcW_some, iseqK_ok, ev_iseq, rng1K_ok, ev_rng1, rng2K_ok, ev_rng2, funK_nx, funK_rt, ev_fun, ev_callP, callPK_ok, List.getElem?_cons_zero, List.getElem?_cons_succ, List.set_cons_succ, List.set_cons_zero, Bool.not_true, Bool.not_false, if_true, if_false, Bool.false_eq_true, List.length_cons, List.length_nil, Nat.reduceAdd, Nat.reduceLeDiff, lx, pp]
        simp only [ev_var, ev_c, ev_nil, ev_yes, ev_oNone, optR_some, optL_some, optO_some, consK2_ok, consK_ok, ev_cons, tupK_ok, ev_tup, lstK_ok, ev_lst, lstLK_ok, ev_lstL, opK2_ok, opK_ok, ev_op, tvW_bl, tvK_ok, ev_tv, tnotK_ok, ev_tnot, tandK_ok, ev_tand, torK_ok, ev_tor, fnK_ok, ev_fn, fnVK_ok, ev_fnV, fnOK_ok, ev_fnO, callK_ok, ev_call, chK3_ok, chW_bl, chK2_ok, chK_ok, ev_chain, negW_int, negK_ok, ev_neg, revTW_tup, revTK_ok, ev_revT, revLK_ok, ev_revL, revOK_ok, ev_revO, someW_int, oSomeK_ok, ev_oSome, slK3_ok, slK2_ok, slK_ok, ev_sl, slOK3_ok, slOK2_ok, slOK_ok, ev_slO, bmK2_ok, bmW_some, bmK_ok, ev_bm, idxW_tup, idxK_ok, ev_idxT, lsW_some, lenSetK_ok, ev_lenSet, isiTW_some, isiTK_ok, ev_isiT, andW_bl, orW_bl, notW_bl, andK_ok, ev_emAnd, orK_ok, ev_emOr, notK_ok, ev_emNot, ifEK_ok, ev_emIf, ev_next, seqK_nx, seqK_rt, dropK_ok, ev_drop, retK_ok, ev_ret, ev_retN, ifK_ok, ev_if, ev_brk, ev_cont, optS_some, asgK_ok, ev_asg, parK2_ok, parK_ok, ev_par, setK3_ok, setK2_ok, setK_ok, ev_setIx, ev_gname, ev_gtup, ev_gcons, ev_gnil, forK_ok, ev_for, lcV_ok, lcO_ok, lcK_ok, ev_lc, lcLK_ok, ev_lcL, wipe_nil, wipe_cons, srcW_some, iseqK_ok, ev_iseq, rng1K_ok, ev_rng1, rng2K_ok, ev_rng2, funK_nx, funK_rt, ev_fun, ev_callP, callPK_ok, List.getElem?_cons_zero, List.getElem?_cons_succ, List.set_cons_succ, List.set_cons_zero, Bool.not_true, Bool.not_false, if_true, if_false, Bool.false_eq_true, List.length_cons, List.length_nil, Nat.reduceAdd, Nat.reduceLeDiff, i0, lT, rg]
        exact e1
theorem by_places_ok {t : List Str} {q0 : Pr} (t4 : t.length ≤ 4) (o0 : Of t q0) (lt : ∀ x ∈ t, Ltr x) : ∃ R : List Pr, m__law_by_places P W0 [pr q0] st = .ok (.lst (R.map pr)) st ∧ R.Nodup ∧ ∀ r, r ∈ R ↔ Rch t.length q0 r := by
  obtain ⟨F, y3, y4, y5, e, I⟩ := bw_loop (P := P) (W0 := W0) (st := st) t4 rfl o0 lt 400000 599999 [q0] [q0] none none none (by simp) ⟨by simp, fun r hr => by rw [List.mem_singleton.mp hr]; exact .refl _, fun r hr => hr, fun r hr => .inl hr, List.mem_singleton_self _, by simp⟩
  refine ⟨F, ?_, I.nd, fun r => ⟨I.rch r, fun x => ?_⟩⟩
  · have d1 := dn1V_ok (st := st) (P := P) (wd := W0) (x := pr q0) (y := .bl true) (pr_key q0)
    have fl := f_listT (P := P) (wd := W0) (n := st.length) (st := two P W0 st F []) (kws := F.map kvP) two_A
    have ek : (F.map kvP).map (fun p => keyW p.1) = F.map pr := by
      rw [List.map_map]
      exact List.map_congr_left fun r _ => key_pr r
    rw [ek] at fl
    have h0 : st ++ [some (.dn P W0 [(kP q0, .bl true)])] ++ [some (.lst [pr q0])] = two P W0 st [q0] [q0] := by unfold two; simp [kvP]
    refine frz_new (ex := [some (.dn P W0 (F.map kvP)), some (.lst [])]) (w := .lst (F.map pr)) ?_ (nl_fz _ _ _ ?_)
    · unfold r__law_by_places
      rw [ev_fun, show entry 6 [pr q0] = [some (pr q0), none, none, none, none, none] from rfl]
      rw [ev_seq]; simp only [ev_var, ev_c, ev_nil, ev_yes, ev_oNone, optR_some, optL_some, optO_some, consK2_ok, consK_ok, ev_cons, tupK_ok, ev_tup, lstK_ok, ev_lst, lstLK_ok, ev_lstL, opK2_ok, opK_ok, ev_op, tvW_bl, tvK_ok, ev_tv, tnotK_ok, ev_tnot, tandK_ok, ev_tand, torK_ok, ev_tor, fnK_ok, ev_fn, fnVK_ok, ev_fnV, fnOK_ok, ev_fnO, callK_ok, ev_call, chK3_ok, chW_bl, chK2_ok, chK_ok, ev_chain, negW_int, negK_ok, ev_neg, revTW_tup, revTK_ok, ev_revT, revLK_ok, ev_revL, revOK_ok, ev_revO, someW_int, oSomeK_ok, ev_oSome, slK3_ok, slK2_ok, slK_ok, ev_sl, slOK3_ok, slOK2_ok, slOK_ok, ev_slO, bmK2_ok, bmW_some, bmK_ok, ev_bm, idxW_tup, idxK_ok, ev_idxT, lsW_some, lenSetK_ok, ev_lenSet, isiTW_some, isiTK_ok, ev_isiT, andW_bl, orW_bl, notW_bl, andK_ok, ev_emAnd, orK_ok, ev_emOr, notK_ok, ev_emNot, ifEK_ok, ev_emIf, ev_next, seqK_nx, seqK_rt, dropK_ok, ev_drop, retK_ok, ev_ret, ev_retN, ifK_ok, ev_if, ev_brk, ev_cont, optS_some, asgK_ok, ev_asg, parK2_ok, parK_ok, ev_par, setK3_ok, setK2_ok, setK_ok, ev_setIx, ev_gname, ev_gtup, ev_gcons, ev_gnil, forK_ok, ev_for, lcV_ok, lcO_ok, lcK_ok, ev_lc, lcLK_ok, ev_lcL, wipe_nil, wipe_cons, srcW_some, iseqK_ok, ev_iseq, rng1K_ok, ev_rng1, rng2K_ok, ev_rng2, funK_nx, funK_rt, ev_fun, ev_callP, callPK_ok, List.getElem?_cons_zero, List.getElem?_cons_succ, List.set_cons_succ, List.set_cons_zero, Bool.not_true, Bool.not_false, if_true, if_false, Bool.false_eq_true, List.length_cons, List.length_nil, Nat.reduceAdd, Nat.reduceLeDiff, ev_dn1, dn1K_ok, dn1K2_ok, d1]
      rw [ev_seq]; simp only [ev_var, ev_c, ev_nil, ev_yes, ev_oNone, optR_some, optL_some, optO_some, consK2_ok, consK_ok, ev_cons, tupK_ok, ev_tup, lstK_ok, ev_lst, lstLK_ok, ev_lstL, opK2_ok, opK_ok, ev_op, tvW_bl, tvK_ok, ev_tv, tnotK_ok, ev_tnot, tandK_ok, ev_tand, torK_ok, ev_tor, fnK_ok, ev_fn, fnVK_ok, ev_fnV, fnOK_ok, ev_fnO, callK_ok, ev_call, chK3_ok, chW_bl, chK2_ok, chK_ok, ev_chain, negW_int, negK_ok, ev_neg, revTW_tup, revTK_ok, ev_revT, revLK_ok, ev_revL, revOK_ok, ev_revO, someW_int, oSomeK_ok, ev_oSome, slK3_ok, slK2_ok, slK_ok, ev_sl, slOK3_ok, slOK2_ok, slOK_ok, ev_slO, bmK2_ok, bmW_some, bmK_ok, ev_bm, idxW_tup, idxK_ok, ev_idxT, lsW_some, lenSetK_ok, ev_lenSet, isiTW_some, isiTK_ok, ev_isiT, andW_bl, orW_bl, notW_bl, andK_ok, ev_emAnd, orK_ok, ev_emOr, notK_ok, ev_emNot, ifEK_ok, ev_emIf, ev_next, seqK_nx, seqK_rt, dropK_ok, ev_drop, retK_ok, ev_ret, ev_retN, ifK_ok, ev_if, ev_brk, ev_cont, optS_some, asgK_ok, ev_asg, parK2_ok, parK_ok, ev_par, setK3_ok, setK2_ok, setK_ok, ev_setIx, ev_gname, ev_gtup, ev_gcons, ev_gnil, forK_ok, ev_for, lcV_ok, lcO_ok, lcK_ok, ev_lc, lcLK_ok, ev_lcL, wipe_nil, wipe_cons, srcW_some, iseqK_ok, ev_iseq, rng1K_ok, ev_rng1, rng2K_ok, ev_rng2, funK_nx, funK_rt, ev_fun, ev_callP, callPK_ok, List.getElem?_cons_zero, List.getElem?_cons_succ, List.set_cons_succ, List.set_cons_zero, Bool.not_true, Bool.not_false, if_true, if_false, Bool.false_eq_true, List.length_cons, List.length_nil, Nat.reduceAdd, Nat.reduceLeDiff]
      rw [List.length_append, List.length_singleton, h0, ev_seq]
      rw [show whileW 1000000 _ _ [some (pr q0), some (.loc st.length), some (.loc (st.length + 1)), none, none, none] (two P W0 st [q0] [q0]) = _ from e]
      simp only [ev_var, ev_c, ev_nil, ev_yes, ev_oNone, optR_some, optL_some, optO_some, consK2_ok, consK_ok, ev_cons, tupK_ok, ev_tup, lstK_ok, ev_lst, lstLK_ok, ev_lstL, opK2_ok, opK_ok, ev_op, tvW_bl, tvK_ok, ev_tv, tnotK_ok, ev_tnot, tandK_ok, ev_tand, torK_ok, ev_tor, fnK_ok, ev_fn, fnVK_ok, ev_fnV, fnOK_ok, ev_fnO, callK_ok, ev_call, chK3_ok, chW_bl, chK2_ok, chK_ok, ev_chain, negW_int, negK_ok, ev_neg, revTW_tup, revTK_ok, ev_revT, revLK_ok, ev_revL, revOK_ok, ev_revO, someW_int, oSomeK_ok, ev_oSome, slK3_ok, slK2_ok, slK_ok, ev_sl, slOK3_ok, slOK2_ok, slOK_ok, ev_slO, bmK2_ok, bmW_some, bmK_ok, ev_bm, idxW_tup, idxK_ok, ev_idxT, lsW_some, lenSetK_ok, ev_lenSet, isiTW_some, isiTK_ok, ev_isiT, andW_bl, orW_bl, notW_bl, andK_ok, ev_emAnd, orK_ok, ev_emOr, notK_ok, ev_emNot, ifEK_ok, ev_emIf, ev_next, seqK_nx, seqK_rt, dropK_ok, ev_drop, retK_ok, ev_ret, ev_retN, ifK_ok, ev_if, ev_brk, ev_cont, optS_some, asgK_ok, ev_asg, parK2_ok, parK_ok, ev_par, setK3_ok, setK2_ok, setK_ok, ev_setIx, ev_gname, ev_gtup, ev_gcons, ev_gnil, forK_ok, ev_for, lcV_ok, lcO_ok, lcK_ok, ev_lc, lcLK_ok, ev_lcL, wipe_nil, wipe_cons, srcW_some, iseqK_ok, ev_iseq, rng1K_ok, ev_rng1, rng2K_ok, ev_rng2, funK_nx, funK_rt, ev_fun, ev_callP, callPK_ok, List.getElem?_cons_zero, List.getElem?_cons_succ, List.set_cons_succ, List.set_cons_zero, Bool.not_true, Bool.not_false, if_true, if_false, Bool.false_eq_true, List.length_cons, List.length_nil, Nat.reduceAdd, Nat.reduceLeDiff, fl]
      rfl
    · rw [nlW, nls_all]
      intro w hw
      obtain ⟨r, _, rfl⟩ := List.mem_map.mp hw
      unfold pr
      rw [nlW, nlWs, nlWs, nlWs, nlW, nlW, nl_strs, nl_strs]; rfl
  · have key : ∀ {a b : Pr}, Rch t.length a b → a ∈ F → b ∈ F := fun {a b} x => by
      induction x with
      | refl => exact id
      | @step q r p h _ ih => exact fun ha => ih ((I.cl q ha).elim (fun z => absurd z List.not_mem_nil) fun z => z p h)
    exact key x I.q0
end
end Lw
end
section
set_option Elab.async false
set_option linter.all false
set_option maxRecDepth 100000
set_option maxHeartbeats 1000000
open PySem PySem.Spec PyProof.Rows L2
namespace Lw
open Sim
section
variable {st : Stt}
theorem front_hd {α : Type} {xs : List α} {p : Nat} (h : p < xs.length) : (front xs p).head? = xs[p]? := by
  unfold front
  rw [List.getElem?_eq_getElem h]; rfl
@[simp] theorem kn1 : fEq st (.str "place") (.str "name") = some (.bl false) := by rw [fEq_str _ _ (by decide +kernel) (by decide +kernel)]; rfl
@[simp] theorem kn2 : fEq st (.str "lost") (.str "name") = some (.bl false) := by rw [fEq_str _ _ (by decide +kernel) (by decide +kernel)]; rfl
@[simp] theorem kn3 : fEq st (.str "twice") (.str "name") = some (.bl false) := by rw [fEq_str _ _ (by decide +kernel) (by decide +kernel)]; rfl
@[simp] theorem kn4 : fEq st (.str "as") (.str "name") = some (.bl false) := by rw [fEq_str _ _ (by decide +kernel) (by decide +kernel)]; rfl
@[simp] theorem kn5 : fEq st (.str "name") (.str "name") = some (.bl true) := by rw [fEq_str _ _ (by decide +kernel) (by decide +kernel)]; rfl
theorem fz_str (n : Nat) (s : Stt) (x : Str) : fzW n s (.str x) = some (.str x) := by rw [fzW]
theorem lact_ok {t h : List Str} {e : Evt} (b : Both t h) (he : e.ok t) : m__law_act [.tup [wS t, wS h], e.w] st = .ok (.tup [.tup [wS (doneE t h e).1, wS (doneE t h e).2.1], .str ((doneE t h e).1.headD ""), wL (doneE t h e).2.2]) st := by
  have hl := b.len
  have ht : t.length ≤ 1000 := by have := b.row.few; omega
  have hh : h.length ≤ 1000 := by omega
  have hd : ∀ {p : Nat} (hp : p < t.length), (front t p).headD "" = t[p] := fun {p} hp => by rw [List.headD_eq_head?_getD, front_hd hp, List.getElem?_eq_getElem hp]; rfl
  cases e with
  | nm x =>
    have hx : x ∈ t := he
    have hx' : x ∈ h := b.perm.mem_iff.mpr hx
    have i1 := List.idxOf_lt_length_of_mem hx
    have i2 := List.idxOf_lt_length_of_mem hx'
    have h1 : (doneE t h (.nm x)).1.headD "" = x := by rw [doneE, hd i1]; exact List.getElem_idxOf i1
    rw [h1]
    refine frz_pure ?_ (by simp [nlW, nlWs, nl_strs])
    simp [r__law_act, entry, Evt.w, idxT_ok x t hx, idxT_ok x h hx', lfront_ok i1 ht, lfront_ok i2 hh, doneE]
  | lo p =>
    have hp : p < t.length := he
    have h1 : (doneE t h (.lo p)).1.headD "" = t[p] := hd hp
    rw [h1]
    refine frz_pure ?_ (by simp [nlW, nlWs, nl_strs, doneE])
    simp [r__law_act, entry, Evt.w, lfront_ok hp ht, doneE, Sim.atI_nat, hp]
  | pl p =>
    have hp : p < t.length := he
    have hp' : p < h.length := by omega
    have h1 : (doneE t h (.pl p)).1.headD "" = t[p] := hd hp
    rw [h1]
    refine frz_new (ex := [some (.lst [.str h[p]])]) (w := .tup [.tup [wS (front t p), wS (front h p)], .str t[p], .loc st.length]) ?_ (by simp [fz_str, fz_wS, fz_loc0, nlWs, nlW, doneE, hp'])
    simp [r__law_act, entry, Evt.w, lfront_ok hp ht, lfront_ok hp' hh, Sim.atI_nat, hp', hp]
  | tw p =>
    have hp : p < t.length := he
    have hp' : p < h.length := by omega
    have hp2 : p < (front h p).length := by rw [front_length]; exact hp'
    have h1 : (doneE t h (.tw p)).1.headD "" = t[p] := hd hp
    rw [h1]
    refine frz_new (ex := [some (.lst [.str h[p], .str (front h p)[p]])]) (w := .tup [.tup [wS (front t p), wS (front (front h p) p)], .str t[p], .loc st.length]) ?_ (by simp [fz_str, fz_wS, fz_loc0, nlWs, nlW, doneE, hp', hp2])
    have l2 : (front h p).length ≤ 1000 := by rw [front_length]; exact hh
    simp [r__law_act, entry, Evt.w, lfront_ok hp ht, lfront_ok hp' hh, Sim.atI_nat, hp', lfront_ok hp2 l2, hp2, lstX, mUp, fAppend, hp]
  | as p q =>
    obtain ⟨hp, hq, hpq⟩ : p < t.length ∧ q < t.length ∧ p ≠ q := he
    have hq' : q < h.length := by omega
    have h1 : (doneE t h (.as p q)).1.headD "" = t[p] := hd hp
    rw [h1]
    refine frz_new (ex := [some (.lst [.str h[q]])]) (w := .tup [.tup [wS (front t p), wS (front h q)], .str t[p], .loc st.length]) ?_ (by simp [fz_str, fz_wS, fz_loc0, nlWs, nlW, doneE, hq'])
    simp [r__law_act, entry, Evt.w, lfront_ok hp ht, lfront_ok hq' hh, Sim.atI_nat, hq', hp]
end
end Lw
end
section
set_option Elab.async false
set_option linter.all false
set_option maxRecDepth 100000
set_option maxHeartbeats 1000000
open PySem PySem.Spec PyProof.Rows L2
namespace Lw
open Sim
theorem draw_ok {st : Stt} {i N : Nat} {n : Int} (hn : 0 < n) (hn2 : n < 2 ^ 62) (h : Sp st i (N + 1)) : ∃ v st', m__law_draw [.loc i, .int n] st = .ok (.int v) st' ∧ 0 ≤ v ∧ v < n ∧ Dr st st' i N := by
  have hi := h.lt
  obtain ⟨a, b, c, hs, ha, hb, hb2, hc, hcN⟩ := h
  have key : ∃ (v : Int) (ob : List W), r__law_draw [.loc i, .int n] st = .ok (.int v) (st.set i (some (.lst ob))) ∧ 0 ≤ v ∧ v < n ∧ Sp (st.set i (some (.lst ob))) i N := by
    by_cases h0 : 1 < a
    · refine ⟨a % n, [.int (a / n), .int b, .int c], ?_, Int.emod_nonneg _ (by omega), Int.emod_lt_of_pos _ hn, a / n, b, c, List.getElem?_set_self hi, Int.ediv_nonneg ha (by omega), hb, hb2, hc, by omega⟩
      have e1 := f_mod (st := st) a n hn
      have e2 := f_div (st := st) a n hn hn2
      simp [r__law_draw, entry, hs, h0, e1, e2, setW, ixN]
    · have hc1 : 0 ≤ c + 1 := by omega
      have q10 : (10 : Int).natAbs < 2 ^ 1000 := small (by decide) (by decide)
      have p39 := fun s => f_pow (st := s) 10 39 q10 (by decide) (by decide)
      have p36 := fun s => f_pow (st := s) 10 36 q10 (by decide) (by decide)
      have k39 : (39 : Int).toNat = 39 := rfl
      have k36 : (36 : Int).toNat = 36 := rfl
      rw [k39] at p39
      rw [k36] at p36
      have q1 : (982451653 : Int).natAbs < 2 ^ 1000 := small (by decide) (by decide)
      have q2 : (15485863 : Int).natAbs < 2 ^ 1000 := small (by decide) (by decide)
      have q3 : (c + 1).natAbs < 2 ^ 1000 := small (by omega) (by omega)
      have q4 : (b + (c + 1) * 982451653).natAbs < 2 ^ 1000 := small (by omega) (by omega)
      generalize hm1 : (b + (c + 1) * 982451653) ^ 5 % ((10 : Int) ^ 39 + 3) = x1
      have x1a : 0 ≤ x1 := by rw [← hm1]; exact Int.emod_nonneg _ (by decide)
      have x1b : x1 < (10 : Int) ^ 39 + 3 := by rw [← hm1]; exact Int.emod_lt_of_pos _ (by decide)
      have q5 : (x1 + (c + 1) * 15485863).natAbs < 2 ^ 1000 := small (by omega) (by omega)
      generalize hm2 : (x1 + (c + 1) * 15485863) ^ 3 % ((10 : Int) ^ 36 + 67) = x2
      refine ⟨x2 / 1024 % n, [.int a, .int b, .int (c + 1)], ?_, Int.emod_nonneg _ (by omega), Int.emod_lt_of_pos _ hn, a, b, c + 1, List.getElem?_set_self hi, ha, hb, hb2, by omega, by omega⟩
      have m1 := fun s => f_mul (st := s) (c + 1) 982451653 q3 q1
      have m2 := fun s => f_mul (st := s) (c + 1) 15485863 q3 q2
      have w1 := fun s => f_pow (st := s) (b + (c + 1) * 982451653) 5 q4 (by decide) (by decide)
      have w2 := fun s => f_pow (st := s) (x1 + (c + 1) * 15485863) 3 q5 (by decide) (by decide)
      have d1 := fun s x => f_mod (st := s) x ((10 : Int) ^ 39 + 3) (by decide)
      have d2 := fun s x => f_mod (st := s) x ((10 : Int) ^ 36 + 67) (by decide)
      have d3 := fun s => f_mod (st := s) (x2 / 1024) n hn
      have d4 := fun s => f_div (st := s) x2 1024 (by decide) (by decide)
      have hg : (st.set i (some (.lst [.int a, .int b, .int (c + 1)])))[i]? = some (some (.lst [.int a, .int b, .int (c + 1)])) := List.getElem?_set_self hi
      have k3 : (3 : Int).toNat = 3 := rfl
      have k5 : (5 : Int).toNat = 5 := rfl
      rw [k5] at w1
      rw [k3] at w2
      simp [r__law_draw, entry, hs, h0, setW, ixN, hg, m1, m2, w1, p39, p36, d1, d2, hm1, w2, hm2, d3, d4, -Int.reducePow, -Int.reduceAdd]
  obtain ⟨v, ob, h1, h2, h3, h4⟩ := key
  obtain ⟨st', h5, h6⟩ := frz_dr (st := st) h1 (w' := .int v) (by rw [fzW]) (fun j _ hj => List.getElem?_set_ne (fun z => hj z.symm)) h4 (by simp) hi
  exact ⟨v, st', h5, h2, h3, h6⟩
/-- [stock.pop(_law_draw(bag, len(stock))) for .. in ..]: some of the things, in a drawn order -/
theorem pops_ok {st : Stt} {i N b r kk rr bb : Nat} {ws items : List W} {ρ : Ev} {ok : Stt → Prop} (hok : ∀ s, ok s) (hl : ws.length ≤ 1000) (hm : items.length ≤ ws.length) (hib : i < b) (hbr : b ≤ r) (hr : st[r]? = some (some (.lst ws))) (h : Sp st i (N + items.length))
    (hρ : kk < ρ.length) (h1 : rr ≠ kk) (h2 : bb ≠ kk) (e1 : ρ[rr]? = some (some (.loc r))) (e2 : ρ[bb]? = some (some (.loc i))) :
    ∃ (ys rest : List W) (s : Stt), lcW ok (gmName kk) tmYes (eBM (eVar rr) (aCons (eCall m__law_draw (aCons (eVar bb) (aCons (eFn fLen (aCons (eVar rr) aNil)) aNil))) aNil) (mUp fPopAt)) ρ items st = .ok ys s ∧
      ys.length = items.length ∧ (ys ++ rest).Perm ws ∧ s.length = st.length ∧ (∀ j, j < b → j ≠ i → s[j]? = st[j]?) ∧ s[r]? = some (some (.lst rest)) ∧ Sp s i N := by
  have hrl : r < st.length := (List.getElem?_eq_some_iff.mp hr).1
  let I : List W → Stt → Prop := fun acc s => s.length = st.length ∧ (∀ j, j < b → j ≠ i → s[j]? = st[j]?) ∧ ∃ rest, s[r]? = some (some (.lst rest)) ∧ (acc ++ rest).Perm ws ∧ Sp s i (N + (items.length - acc.length))
  obtain ⟨ys, s, e3, l3, l2, f2, rest, r2, p2, s2⟩ := lcW_inv2 (ρ := ρ) (ok := ok) (g := gmName kk) (m := eBM (eVar rr) (aCons (eCall m__law_draw (aCons (eVar bb) (aCons (eFn fLen (aCons (eVar rr) aNil)) aNil))) aNil) (mUp fPopAt))
    I items.length items [] st (by simp) ⟨rfl, fun _ _ _ => rfl, ws, hr, .refl _, h.le (by simp)⟩ (fun w acc s hacc _ hI => by
      obtain ⟨ls, fr, rest, hr, pr, sp⟩ := hI
      have pl := pr.length_eq
      rw [List.length_append] at pl
      obtain ⟨v, s', w1, w2, w3, w4⟩ := draw_ok (st := s) (i := i) (N := N + (items.length - (acc.length + 1))) (n := (rest.length : Int)) (by omega) (by omega) (sp.le (by omega))
      have hne : r ≠ i := by omega
      have hr' : s'[r]? = some (some (.lst rest)) := by rw [w4.fr _ hne]; exact hr
      have hvl : v.toNat < rest.length := by omega
      have hp := popAt_ok (us := rest) (v := v) (st := s') w2 w3 (by omega)
      have q1 : (ρ.set kk (some w))[rr]? = some (some (.loc r)) := by rw [List.getElem?_set_ne (fun z => h1 z.symm)]; exact e1
      have q2 : (ρ.set kk (some w))[bb]? = some (some (.loc i)) := by rw [List.getElem?_set_ne (fun z => h2 z.symm)]; exact e2
      refine ⟨_, rfl, rest[v.toNat], s'.set r (some (.lst (rest.eraseIdx v.toNat))), ?_, ?_⟩
      · have hlx : lstX s (.loc r) = some rest := by simp [lstX, hr]
        have hlen : lenOf s (.loc r) = some rest.length := by rw [Sim.len_loc, hr]
        have hup : mUp fPopAt (.loc r) [.int v] s' = .ok rest[v.toNat] (s'.set r (some (.lst (rest.eraseIdx v.toNat)))) := by
          unfold mUp
          dsimp only
          rw [hr']
          dsimp only
          rw [hp]
        simp only [ev_bm, ev_var, q1, bmK_ok, hlx, bmW_some, ev_cons, ev_call, q2, ev_fn, ev_nil, consK_ok, consK2_ok, fnK_ok, f_len, hlen, optR_some, callK_ok, w1, bmK2_ok, hup]
      · refine ⟨by rw [List.length_set, w4.len]; exact ls, fun j hj hji => ?_, rest.eraseIdx v.toNat, List.getElem?_set_self (by rw [w4.len, ls]; omega), ?_, ?_⟩
        · rw [List.getElem?_set_ne (by omega), w4.fr j hji]; exact fr j hj hji
        · rw [List.append_assoc]
          exact ((eraseIdx_perm hvl).append_left acc).trans pr
        · rw [List.length_append, List.length_singleton]
          exact w4.sp.cong (List.getElem?_set_ne (by omega)) (Nat.le_refl _)) (fun _ _ _ => hok _)
  rw [List.nil_append] at p2 s2
  exact ⟨ys, rest, s, e3, l3, p2, l2, f2, r2, s2.le (by omega)⟩
theorem pick_strs {ys rest : List W} {xs : List Str} (h : (ys ++ rest).Perm (xs.map .str)) : ∃ as bs : List Str, ys = as.map .str ∧ rest = bs.map .str ∧ (as ++ bs).Perm xs := by
  obtain ⟨zs, e, p⟩ := perm_strs h
  have : ∃ as bs, ys = as.map W.str ∧ rest = bs.map W.str ∧ as ++ bs = zs := by
    refine ⟨zs.take ys.length, zs.drop ys.length, ?_, ?_, List.take_append_drop _ _⟩
    · rw [List.map_take, ← e, List.take_left]
    · rw [List.map_drop, ← e, List.drop_left]
  obtain ⟨as, bs, h1, h2, h3⟩ := this
  exact ⟨as, bs, h1, h2, by rw [h3]; exact p⟩
theorem cell_at_ok {st : Stt} {ns : List Int} {k : Nat} : ∃ c : Int, m__law_cell_at [.scr (ns.map .int), .int (k : Int)] st = .ok (.int c) st := by
  by_cases h : k < ns.length
  · refine ⟨ns[k], frz_pure ?_ (by rw [nlW])⟩
    have hx : fIx st (.scr (ns.map .int)) (.int (k : Int)) = some (.int ns[k]) := by
      show atI (ns.map W.int) (k : Int) = _
      rw [Sim.atI_nat, List.getElem?_map, List.getElem?_eq_getElem h]; rfl
    simp [r__law_cell_at, entry, hx, h, lenOf]
  · refine ⟨0, frz_pure ?_ (by rw [nlW])⟩
    simp [r__law_cell_at, entry, h, lenOf]
theorem bag_ok {st : Stt} {cell : Int} : ∃ st', m__law_bag [.int cell] st = .ok (.loc st.length) st' ∧ (∃ ob, st' = st ++ [some ob]) ∧ Sp st' st.length 1000000 := by
  have q10 : (10 : Int).natAbs < 2 ^ 1000 := small (by decide) (by decide)
  have p18 := fun s => f_pow (st := s) 10 18 q10 (by decide) (by decide)
  have k18 : (18 : Int).toNat = 18 := rfl
  rw [k18] at p18
  have p40 := fun s => f_pow (st := s) 10 40 q10 (by decide) (by decide)
  have k40 : (40 : Int).toNat = 40 := rfl
  rw [k40] at p40
  have d1 := fun s x => f_mod (st := s) x ((10 : Int) ^ 40 + 121) (by decide)
  have e1 : 0 ≤ cell % ((10 : Int) ^ 40 + 121) := Int.emod_nonneg _ (by decide)
  have e2 : cell % ((10 : Int) ^ 40 + 121) < (10 : Int) ^ 40 + 121 := Int.emod_lt_of_pos _ (by decide)
  have hraw : r__law_bag [.int cell] st = .ok (.loc st.length) (st ++ [some (.lst [.int (max 1 (cell - 10 ^ 18)), .int (cell % ((10 : Int) ^ 40 + 121)), .int 0])]) := by
    simp [r__law_bag, entry, p18, p40, d1, -Int.reducePow, -Int.reduceAdd]
  refine ⟨_, frzL_eq hraw (fun j hj => .inl (List.getElem?_append_left hj)) (Nat.le_refl _) List.getElem?_concat_length (by simp [okO, okLs, okL]), ?_, ?_⟩
  · rw [List.take_left]; exact ⟨_, rfl⟩
  · rw [List.take_left]
    exact ⟨_, _, _, List.getElem?_concat_length, by omega, by omega, by omega, by omega, by omega⟩
end Lw
end
section
set_option Elab.async false
set_option linter.all false
set_option maxRecDepth 100000
set_option maxHeartbeats 1000000
open PySem PySem.Spec PyProof.Rows L2
namespace Lw
open Sim
theorem line_ok {st : Stt} {i N upto : Nat} (h1 : 1 ≤ upto) (h2 : upto ≤ 16) (h : Sp st i (N + 30)) : ∃ t st', m__law_line [.loc i, .int (upto : Int)] st = .ok (wS t) st' ∧ Row t ∧ t.length ≤ upto ∧ Dr st st' i N := by
  have hi := h.lt
  obtain ⟨v, st1, a1, a2, a3, d1⟩ := draw_ok (N := N + 29) (n := (upto : Int)) (by omega) (by omega) (h.le (by omega))
  obtain ⟨m, rfl⟩ : ∃ m : Nat, v = m := ⟨v.toNat, by omega⟩
  obtain ⟨w, st2, b1, b2, b3, d2⟩ := draw_ok (st := st1) (N := N + 28) (n := (11 : Int)) (by decide) (by decide) (d1.sp.le (by omega))
  obtain ⟨a, rfl⟩ : ∃ a : Nat, w = a := ⟨w.toNat, by omega⟩
  have sl : ∀ s : Stt, lstOf s (.lst (abcS.map .str)) = some (abcS.map .str) := fun _ => rfl
  obtain ⟨A, hA⟩ : ∃ A, A = abcS.drop a := ⟨_, rfl⟩
  have lA : A.length = 26 - a := by rw [hA, List.length_drop]; rfl
  have cA : cutW (abcS.map W.str) (some (a : Int)) none = A.map .str := by rw [cut_drop, ← List.map_drop, hA]
  obtain ⟨s3, hs3⟩ : ∃ s3, s3 = st2 ++ [some (Ob.lst (A.map W.str))] := ⟨_, rfl⟩
  have l2 : st2.length = st.length := by rw [d2.len, d1.len]
  have g3 : s3[st2.length]? = some (some (.lst (A.map .str))) := by rw [hs3]; exact List.getElem?_concat_length
  have sp3 : Sp s3 i (N + 28) := d2.sp.cong (by rw [hs3]; exact List.getElem?_append_left (by omega)) (Nat.le_refl _)
  obtain ⟨x, st4, c1, c2, c3, d4⟩ := draw_ok (st := s3) (N := N + 27) (n := (2 : Int)) (by decide) (by decide) (sp3.le (by omega))
  have l4 : st4.length = st.length + 1 := by rw [d4.len, hs3]; simp [l2]
  have g4 : st4[st2.length]? = some (some (.lst (A.map .str))) := by rw [d4.fr _ (by omega)]; exact g3
  have fr4 : ∀ j, j < st.length → j ≠ i → st4[j]? = st[j]? := fun j hj hji => by
    rw [d4.fr j hji, hs3, List.getElem?_append_left (by omega), d2.fr j hji, d1.fr j hji]
  obtain ⟨r, B, s5, key, g5, lB, sB, l5, f5, sp5⟩ : ∃ (r : Nat) (B : List Str) (s5 : Stt), (∀ ρ4 : Option W, sAsg (emIf (tmV (eOp fEq (eCall m__law_draw (aCons (eVar 0) (aCons (eC (.int 2)) aNil))) (eC (.int 0)))) (eSlO (eVar 3) oNone (oSome (eVar 2))) (eVar 3)) (gmName 3) [some (.loc i), some (.int (upto : Int)), some (.int (1 + (m : Int))), some (.loc st2.length), ρ4] s3 = .nx [some (.loc i), some (.int (upto : Int)), some (.int (1 + (m : Int))), some (.loc r), ρ4] s5) ∧
      s5[r]? = some (some (.lst (B.map .str))) ∧ 1 + m ≤ B.length ∧ B.Sublist A ∧ st.length ≤ r ∧ (∀ j, j < st.length → j ≠ i → s5[j]? = st[j]?) ∧ Sp s5 i (N + 27) := by
    by_cases hx : x = 0
    · refine ⟨st4.length, A.take (1 + m), st4 ++ [some (.lst ((A.take (1 + m)).map .str))], fun ρ4 => ?_, List.getElem?_concat_length, by rw [List.length_take]; omega, List.take_sublist _ _, by omega, fun j hj hji => by rw [List.getElem?_append_left (by omega)]; exact fr4 j hj hji, d4.sp.cong (List.getElem?_append_left (by omega)) (Nat.le_refl _)⟩
      have hls : lstOf st4 (.loc st2.length) = some (A.map .str) := by rw [ls_loc, g4]
      have hc : cutW (A.map W.str) none (some (1 + (m : Int))) = (A.take (1 + m)).map .str := by
        rw [show (1 + (m : Int)) = ((1 + m : Nat) : Int) by omega, cut_take, ← List.map_take]
      simp [c1, hx, g4, hc, -List.map_take]
    · refine ⟨st2.length, A, st4, fun ρ4 => ?_, g4, by omega, List.Sublist.refl _, by omega, fr4, d4.sp⟩
      simp [c1, hx]
  have hm : 1 + m ≤ 16 := by omega
  have hm5 : 1 + m ≤ 100000 := by omega
  have r1 : ∀ s, rng1W [.int (1 + (m : Int))] s = .ok ⟨rngW 0 (1 + m), fun _ => True⟩ s := fun s => by
    rw [show (1 + (m : Int)) = ((1 + m : Nat) : Int) by omega]; exact rng1_nat (by omega)
  have bl : B.length ≤ 26 := by have := sB.length_le; omega
  obtain ⟨ys, rest, s6, e1, e2, e3, e4, e5, e6, e7⟩ := pops_ok (st := s5) (i := i) (N := N) (b := st.length) (r := r) (kk := 4) (rr := 3) (bb := 0) (ws := B.map .str) (items := rngW 0 (1 + m)) (ρ := [some (.loc i), some (.int (upto : Int)), some (.int (1 + (m : Int))), some (.loc r), none]) (ok := fun _ => True) (fun _ => trivial)
    (by simp; omega) (by simp; omega) hi l5 g5 (sp5.le (by simp; omega)) (by simp) (by decide) (by decide) rfl rfl
  obtain ⟨as, bs, rfl, rfl, pm⟩ := pick_strs e3
  rw [List.length_map, rng_len] at e2
  have sAl : ∀ y ∈ B, y ∈ abcS := fun y hy => by have := sB.subset hy; rw [hA] at this; exact List.mem_of_mem_drop this
  have ndB : B.Nodup := (List.Nodup.sublist sB) (by rw [hA]; exact abc_nd.sublist (List.drop_sublist _ _))
  have row : Row as := ⟨by omega, by omega, fun y hy => abc_ltr y (sAl y (pm.mem_iff.mp (List.mem_append_left _ hy))), ((pm.nodup_iff.mpr ndB).sublist (List.sublist_append_left _ _))⟩
  have hlst : ∀ s : Stt, fList s [.str (Str.ofString "abcdefghijklmnopqrstuvwxyz")] = some (abcS.map .str) := fun s => list_abc
  have hraw : r__law_line [.loc i, .int (upto : Int)] st = .ok (wS as) s6 := by
    unfold r__law_line
    rw [ev_fun, ev_seq]
    simp only [entry, List.map_cons, List.map_nil, List.length_cons, List.length_nil, List.replicate, List.cons_append, List.nil_append]
    rw [show sAsg (eOp fAdd (eC (.int 1)) (eCall m__law_draw (aCons (eVar 0) (aCons (eVar 1) aNil)))) (gmName 2) [some (.loc i), some (.int (upto : Int)), none, none, none] st = .nx [some (.loc i), some (.int (upto : Int)), some (.int (1 + (m : Int))), none, none] st1 from by simp [a1]]
    rw [seqK_nx, ev_seq]
    rw [show sAsg (eSlO (eFnV fList (aCons (eC (.str "abcdefghijklmnopqrstuvwxyz")) aNil)) (oSome (eCall m__law_draw (aCons (eVar 0) (aCons (eC (.int 11)) aNil)))) oNone) (gmName 3) [some (.loc i), some (.int (upto : Int)), some (.int (1 + (m : Int))), none, none] st1 = .nx [some (.loc i), some (.int (upto : Int)), some (.int (1 + (m : Int))), some (.loc st2.length), none] s3 from by
      simp only [ev_asg, ev_slO, ev_fnV, ev_cons, ev_c, ev_nil, consK_ok, consK2_ok, fnVK_ok, hlst, optL_some, slOK_ok, ev_oSome, ev_call, ev_var, List.getElem?_cons_zero, callK_ok, b1, oSomeK_ok, someW_int, slOK2_ok, ev_oNone, slOK3_ok, ls_lst, Option.map_some, cA, optO_some, asgK_ok, ev_gname, optS_some, hs3]; rfl]
    rw [seqK_nx, ev_seq, key none, seqK_nx]
    simp [r1, e1, hm5, fTuple]
  obtain ⟨st', g7, g8⟩ := frz_dr (N := N) (st := st) hraw (w' := wS as) (fz_wS _ _) (fun j hj hji => by rw [e5 j hj hji]; exact f5 j hj hji) e7 (by rw [e4]; have := (List.getElem?_eq_some_iff.mp g5).1; omega) hi
  exact ⟨as, st', g7, row, by omega, g8⟩
end Lw
end
section
set_option Elab.async false
set_option linter.all false
set_option maxRecDepth 100000
set_option maxHeartbeats 1000000
open PySem PySem.Spec PyProof.Rows L2
namespace Lw
open Sim
/-! the law's own loop over the first cells -/
theorem cells_gen {lawB : SM} {scr : W} {n : Nat} (hb : ∀ (k : Nat), k ≤ 60 → ∀ (st : Stt) (tl : Ev), tl.length = n → ∃ (tl' : Ev) (st' : Stt), tl'.length = n ∧ lawB (some scr :: some (.int (k : Int)) :: tl) st = .nx (some scr :: some (.int (k : Int)) :: tl') st') :
    ∀ (ks : List Nat) (st : Stt) (a1 : Option W) (tl : Ev), tl.length = n → (∀ k ∈ ks, k ≤ 60) → ∃ ρ' st', forW (fun _ => True) (gmName 1) lawB (ks.map fun (k : Nat) => W.int (k : Int)) (some scr :: a1 :: tl) st = .nx ρ' st'
  | [], st, a1, tl, _, _ => ⟨_, st, forW_nil trivial⟩
  | k :: ks, st, a1, tl, hl, hk => by
    obtain ⟨tl', st1, l1, e1⟩ := hb k (hk k List.mem_cons_self) st tl hl
    obtain ⟨ρ', st', ih⟩ := cells_gen hb ks st1 (some (.int (k : Int))) tl' l1 fun j hj => hk j (List.mem_cons_of_mem _ hj)
    exact ⟨ρ', st', by rw [List.map_cons, forW_nx trivial rfl e1]; exact ih⟩
theorem law_gen {lawB : SM} {c : Int} {n : Nat} (c1 : 1 ≤ c) (c2 : c ≤ 60) {ns : List Int} (h : ns.length ≤ 63)
    (hb : ∀ (k : Nat), k ≤ 60 → ∀ (st : Stt) (tl : Ev), tl.length = n → ∃ (tl' : Ev) (st' : Stt), tl'.length = n ∧ lawB (some (.scr (ns.map .int)) :: some (.int (k : Int)) :: tl) st = .nx (some (.scr (ns.map .int)) :: some (.int (k : Int)) :: tl') st') :
    ∃ st', frz (mFun (n + 2) (sSeq (sFor (iRange1 (aCons (eFn fMax (aCons (eC (.int 1)) (aCons (eFn fMin (aCons (eC (.int c)) (aCons (eFn fLen (aCons (eVar 0) aNil)) aNil))) aNil))) aNil)) (gmName 1) lawB) (sRet (eC (.bl true))))) [.scr (ns.map .int)] [] = .ok (.bl true) st' := by
  obtain ⟨m, hm, hm4⟩ : ∃ m : Nat, (max 1 (min c (ns.length : Int))) = (m : Int) ∧ m ≤ 60 := ⟨(max 1 (min c (ns.length : Int))).toNat, by omega, by omega⟩
  obtain ⟨ρ', st', e⟩ := cells_gen hb (List.range m) [] none (List.replicate n none) (by simp) fun k hk => by have := List.mem_range.mp hk; omega
  have hr : rng1W [.int (m : Int)] [] = .ok ⟨rngW 0 m, fun _ => True⟩ [] := rng1_nat (by omega)
  have hw : (rngW 0 m) = (List.range m).map fun (k : Nat) => W.int (k : Int) := by
    unfold rngW
    apply List.map_congr_left
    intro k _
    rw [Int.zero_add]
  rw [← hw] at e
  refine ⟨_, frz_eq (w := .bl true) (st' := st') (w' := .bl true) ?_ (fun i hi => absurd hi (Nat.not_lt_zero i)) (by rw [fzW])⟩
  have hl : ∀ s, lenOf s (.scr (ns.map .int)) = some ns.length := fun s => by simp [lenOf]
  have en : entry (n + 2) [.scr (ns.map .int)] = some (.scr (ns.map .int)) :: none :: List.replicate n none := by
    unfold entry
    simp only [List.map_cons, List.map_nil, List.length_cons, List.length_nil, List.singleton_append]
    rw [show n + 2 - (0 + 1) = n + 1 by omega, List.replicate_succ]
  rw [ev_fun, en, ev_seq]
  simp only [ev_for, ev_rng1, ev_cons, ev_fn, ev_c, consK_ok, ev_var, List.getElem?_cons_zero, ev_nil, consK2_ok, fnK_ok, f_len, hl, optR_some, f_min2, f_max2, hm, rng1K_ok, hr, forK_ok, e, seqK_nx, ev_ret, retK_ok, funK_rt]
end Lw
end
section
set_option Elab.async false
set_option linter.all false
set_option maxRecDepth 100000
set_option maxHeartbeats 2000000
open PySem PySem.Spec PyProof.Rows L2
namespace Lw
open Sim
section
variable {st : Stt} {P : Program} {W0 : PySem.World}
theorem app_D {s : Stt} {A : Nat} {ws : List W} {w : W} (h : s[A]? = some (some (.lst ws))) (hl : ws.length < 100000) : mUp fAppend (.loc A) [w] s = .ok .non (s.set A (some (.lst (ws ++ [w])))) := by
  unfold mUp
  dsimp only
  rw [h]
  dsimp only
  unfold fAppend
  dsimp only
  rw [if_pos hl]
def Only (A F : Nat) (s s' : Stt) : Prop := s'.length = s.length ∧ ∀ j, j ≠ A → j ≠ F → s'[j]? = s[j]?
theorem Only.refl {A F : Nat} {s : Stt} : Only A F s s := ⟨rfl, fun _ _ _ => rfl⟩
theorem Only.trans {A F : Nat} {a b c : Stt} (x : Only A F a b) (y : Only A F b c) : Only A F a c := ⟨y.1.trans x.1, fun j h1 h2 => (y.2 j h1 h2).trans (x.2 j h1 h2)⟩
/-- the known ones and the new ones -/
structure Kn (P : Program) (W0 : PySem.World) (A B : Nat) (s : Stt) (F N : List Pr) : Prop where
  a : s[A]? = some (some (.dn P W0 (F.map kvP)))
  b : s[B]? = some (some (.lst (N.map pr)))
noncomputable abbrev moB (P : Program) (w : PySem.World) : SM := (sSeq (sSetT P w (eC (.bl true)) (eVar 3) (eVar 8))
    (sDrop (eBM (eVar 5) (aCons (eVar 8) aNil) (mUp fAppend))))
noncomputable abbrev leB (P : Program) (w : PySem.World) : SM := (sSeq (sAsg (eOp fIx (eCall m__law_act (aCons (eVar 2) (aCons (eTup (aCons (eC (.str "name")) (aCons (eVar 6) aNil))) aNil))) (eC (.int 0))) (gmName 7))
    (sIf (tmV (eOp (fInT P w true) (eVar 7) (eVar 3))) (sFor (iSeq (eCall (m__law_by_places P w) (aCons (eVar 7) aNil))) (gmName 8) (moB P w)) sNext))
noncomputable abbrev laB (P : Program) (w : PySem.World) : SM := (sFor (iSeq (eOp fIx (eVar 0) (eC (.int 0)))) (gmName 6) (leB P w))
noncomputable abbrev rdB (P : Program) (w : PySem.World) : SM := (sSeq (sIf (tmV (eOp fNe (eLc (iSeq (eVar 1)) (gmName 2) (tmV (eOp fEq (eOp fIx (eVar 2) (eC (.int 0))) (eOp fIx (eVar 2) (eC (.int 1))))) (eVar 2) [2]) (eLst aNil))) (sRet (eVar 4)) sNext)
    (sSeq (sAsg (eLstL aNil) (gmName 5))
    (sSeq (sFor (iSeq (eVar 1)) (gmName 2) (laB P w))
    (sAsg (eVar 5) (gmName 1)))))
theorem mo_loop {A B : Nat} {x0 x1 x2 x4 x6 x7 : Option W} (hAB : A ≠ B) : ∀ (R F N : List Pr) (s : Stt) (x8 : Option W), Kn P W0 A B s F N → (F ++ R).Nodup → (F ++ R).length ≤ 70000 → (N ++ R).length ≤ 70000 →
    ∃ s' y8, forW (fun _ => True) (gmName 8) (moB P W0) (R.map pr) [x0, x1, x2, some (.loc A), x4, some (.loc B), x6, x7, x8] s = .nx [x0, x1, x2, some (.loc A), x4, some (.loc B), x6, x7, y8] s' ∧ Kn P W0 A B s' (F ++ R) (N ++ R) ∧ Only A B s s'
  | [], F, N, s, x8, k, _, _, _ => ⟨s, x8, by rw [List.map_nil, forW_nil trivial], by rw [List.append_nil, List.append_nil]; exact k, .refl⟩
  | r :: R, F, N, s, x8, k, nd, hF, hN => by
    have hr : r ∉ F := fun z => (List.nodup_append.mp nd).2.2 r z r List.mem_cons_self rfl
    have lA : A < s.length := (List.getElem?_eq_some_iff.mp k.a).1
    have lB : B < s.length := (List.getElem?_eq_some_iff.mp k.b).1
    rw [List.length_append, List.length_cons] at hF hN
    have pt := fun ρ => putT_ok (P := P) (wd := W0) (ρ := ρ) (x := .bl true) (y := pr r) (k := kP r) k.a (pr_key _) (by rw [List.length_map]; omega)
    rw [kn_put, if_neg hr] at pt
    obtain ⟨s1, hs1⟩ : ∃ s1, s1 = s.set A (some (Ob.dn P W0 ((F ++ [r]).map kvP))) := ⟨_, rfl⟩
    rw [← hs1] at pt
    have gB : s1[B]? = some (some (.lst (N.map pr))) := by rw [hs1, List.getElem?_set_ne hAB]; exact k.b
    have lx : lstX s1 (.loc B) = some (N.map pr) := by simp only [lstX, gB]
    have ap := app_D (w := pr r) gB (by rw [List.length_map]; omega)
    obtain ⟨s2, hs2⟩ : ∃ s2, s2 = s1.set B (some (Ob.lst (N.map pr ++ [pr r]))) := ⟨_, rfl⟩
    rw [← hs2] at ap
    have k2 : Kn P W0 A B s2 (F ++ [r]) (N ++ [r]) := ⟨by rw [hs2, List.getElem?_set_ne (Ne.symm hAB), hs1, List.getElem?_set_self lA], by
      rw [hs2, List.getElem?_set_self (by rw [hs1, List.length_set]; exact lB), List.map_append]; rfl⟩
    have on : Only A B s s2 := ⟨by rw [hs2, hs1, List.length_set, List.length_set], fun j h1 h2 => by rw [hs2, List.getElem?_set_ne (Ne.symm h2), hs1, List.getElem?_set_ne (Ne.symm h1)]⟩
    obtain ⟨s', y8, e1, e2, e3⟩ := mo_loop (x0 := x0) (x1 := x1) (x2 := x2) (x4 := x4) (x6 := x6) (x7 := x7) hAB R (F ++ [r]) (N ++ [r]) s2 (some (pr r)) k2 (by rw [List.append_assoc]; exact nd) (by simp; omega) (by simp; omega)
    refine ⟨s', y8, ?_, by rw [List.append_assoc, List.append_assoc] at e2; exact e2, on.trans e3⟩
    rw [List.map_cons, forW_nx (ρ1 := [x0, x1, x2, some (.loc A), x4, some (.loc B), x6, x7, some (pr r)]) (ρ2 := [x0, x1, x2, some (.loc A), x4, some (.loc B), x6, x7, some (pr r)]) (st2 := s2) trivial rfl ?_]
    · exact e1
    · unfold moB
      rw [ev_seq]; simp only [ev_var, ev_c, ev_nil, ev_yes, ev_oNone, optR_some, optL_some, optO_some, consK2_ok, consK_ok, ev_cons, tupK_ok, ev_tup, lstK_ok, ev_lst, lstLK_ok, ev_lstL, opK2_ok, opK_ok, ev_op, tvW_bl, tvK_ok, ev_tv, tnotK_ok, ev_tnot, tandK_ok, ev_tand, torK_ok, ev_tor, fnK_ok, ev_fn, fnVK_ok, ev_fnV, fnOK_ok, ev_fnO, callK_ok, ev_call, chK3_ok, chW_bl, chK2_ok, chK_ok, ev_chain, negW_int, negK_ok, ev_neg, revTW_tup, revTK_ok, ev_revT, revLK_ok, ev_revL, revOK_ok, ev_revO, someW_int, oSomeK_ok, ev_oSome, slK3_ok, slK2_ok, slK_ok, ev_sl, slOK3_ok, slOK2_ok, slOK_ok, ev_slO, bmK2_ok, bmW_some, bmK_ok, ev_bm, idxW_tup, idxK_ok, ev_idxT, lsW_some, lenSetK_ok, ev_lenSet, isiTW_some, isiTK_ok, ev_isiT, andW_bl, orW_bl, notW_bl, andK_ok, ev_emAnd, orK_ok, ev_emOr, notK_ok, ev_emNot, ifEK_ok, ev_emIf, ev_next, seqK_nx, seqK_rt, dropK_ok, ev_drop, retK_ok, ev_ret, ev_retN, ifK_ok, ev_if, ev_brk, ev_cont, optS_some, asgK_ok, ev_asg, parK2_ok, parK_ok, ev_par, setK3_ok, setK2_ok, setK_ok, ev_setIx, ev_gname, ev_gtup, ev_gcons, ev_gnil, forK_ok, ev_for, lcV_ok, lcO_ok, lcK_ok, ev_lc, lcLK_ok, ev_lcL, wipe_nil, wipe_cons, srcW_some, iseqK_ok, ev_iseq, rng1K_ok, ev_rng1, rng2K_ok, ev_rng2, funK_nx, funK_rt, ev_fun, ev_callP, callPK_ok, List.getElem?_cons_zero, List.getElem?_cons_succ, List.set_cons_succ, List.set_cons_zero, Bool.not_true, Bool.not_false, if_true, if_false, Bool.false_eq_true, List.length_cons, List.length_nil, Nat.reduceAdd, Nat.reduceLeDiff, ev_setT, stK_ok, stK2_ok, stK3_ok, pt]
      simp only [ev_var, ev_c, ev_nil, ev_yes, ev_oNone, optR_some, optL_some, optO_some, consK2_ok, consK_ok, ev_cons, tupK_ok, ev_tup, lstK_ok, ev_lst, lstLK_ok, ev_lstL, opK2_ok, opK_ok, ev_op, tvW_bl, tvK_ok, ev_tv, tnotK_ok, ev_tnot, tandK_ok, ev_tand, torK_ok, ev_tor, fnK_ok, ev_fn, fnVK_ok, ev_fnV, fnOK_ok, ev_fnO, callK_ok, ev_call, chK3_ok, chW_bl, chK2_ok, chK_ok, ev_chain, negW_int, negK_ok, ev_neg, revTW_tup, revTK_ok, ev_revT, revLK_ok, ev_revL, revOK_ok, ev_revO, someW_int, oSomeK_ok, ev_oSome, slK3_ok, slK2_ok, slK_ok, ev_sl, slOK3_ok, slOK2_ok, slOK_ok, ev_slO, bmK2_ok, bmW_some, bmK_ok, ev_bm, idxW_tup, idxK_ok, ev_idxT, lsW_some, lenSetK_ok, ev_lenSet, isiTW_some, isiTK_ok, ev_isiT, andW_bl, orW_bl, notW_bl, andK_ok, ev_emAnd, orK_ok, ev_emOr, notK_ok, ev_emNot, ifEK_ok, ev_emIf, ev_next, seqK_nx, seqK_rt, dropK_ok, ev_drop, retK_ok, ev_ret, ev_retN, ifK_ok, ev_if, ev_brk, ev_cont, optS_some, asgK_ok, ev_asg, parK2_ok, parK_ok, ev_par, setK3_ok, setK2_ok, setK_ok, ev_setIx, ev_gname, ev_gtup, ev_gcons, ev_gnil, forK_ok, ev_for, lcV_ok, lcO_ok, lcK_ok, ev_lc, lcLK_ok, ev_lcL, wipe_nil, wipe_cons, srcW_some, iseqK_ok, ev_iseq, rng1K_ok, ev_rng1, rng2K_ok, ev_rng2, funK_nx, funK_rt, ev_fun, ev_callP, callPK_ok, List.getElem?_cons_zero, List.getElem?_cons_succ, List.set_cons_succ, List.set_cons_zero, Bool.not_true, Bool.not_false, if_true, if_false, Bool.false_eq_true, List.length_cons, List.length_nil, Nat.reduceAdd, Nat.reduceLeDiff, lx, ap]
/-- what is known, and what is new -/
structure Rd (t : List Str) (F0 N L : List Pr) : Prop where
  nd : (F0 ++ N).Nodup
  of : ∀ r ∈ F0 ++ N, Of t r
  cl : ∀ a ∈ F0 ++ N, ∀ b, Rch t.length a b → b ∈ F0 ++ N
  cn : ∀ a ∈ N, ∀ b, Rch t.length a b → b ∈ N
  src : ∀ r ∈ N, ∃ q ∈ L, ∃ x ∈ t, Rch t.length (nmP q x) r
theorem le_loop {A B : Nat} {t : List Str} {L F0 : List Pr} {q : Pr} {x0 x1 x4 : Option W} (hAB : A ≠ B) (t4 : t.length ≤ 4) (lt : Row t) (hq : q ∈ L) (oq : Of t q) : ∀ (xs : List Str) (N : List Pr) (s : Stt) (x6 x7 x8 : Option W), (∀ x ∈ xs, x ∈ t) → Kn P W0 A B s (F0 ++ N) N → Rd t F0 N L →
    ∃ s' N' y6 y7 y8, forW (fun _ => True) (gmName 6) (leB P W0) (xs.map .str) [x0, x1, some (pr q), some (.loc A), x4, some (.loc B), x6, x7, x8] s = .nx [x0, x1, some (pr q), some (.loc A), x4, some (.loc B), y6, y7, y8] s' ∧ Kn P W0 A B s' (F0 ++ N') N' ∧ Only A B s s' ∧ Rd t F0 N' L ∧ (∀ r ∈ N, r ∈ N') ∧ ∀ x ∈ xs, nmP q x ∈ F0 ++ N'
  | [], N, s, x6, x7, x8, _, k, R => ⟨s, N, x6, x7, x8, by rw [List.map_nil, forW_nil trivial], k, .refl, R, fun r h => h, fun x h => (by cases h)⟩
  | x :: xs, N, s, x6, x7, x8, hx, k, R => by
    have hxt := hx x List.mem_cons_self
    have b : Both q.1 q.2 := ⟨lt.perm oq.1, oq.2.trans oq.1.symm⟩
    have la := lact_ok (st := s) (e := .nm x) b (oq.1.mem_iff.mpr hxt)
    have la : m__law_act [pr q, .tup [.str "name", .str x]] s = .ok (.tup [pr (nmP q x), .str ((doneE q.1 q.2 (.nm x)).1.headD ""), wL (doneE q.1 q.2 (.nm x)).2.2]) s := la
    have g0 : ∀ (x y z : W), fIx s (.tup [x, y, z]) (.int 0) = some x := fun _ _ _ => rfl
    have it := f_inT (st := s) (n := A) (y := pr (nmP q x)) (k := kP (nmP q x)) true k.a (pr_key _)
    rw [kn_mem, if_pos rfl] at it
    have om := oq.nm x
    obtain ⟨r, hr⟩ : ∃ r, r = nmP q x := ⟨_, rfl⟩
    obtain ⟨w1, hw1⟩ : ∃ w1, w1 = W.str ((doneE q.1 q.2 (.nm x)).1.headD "") := ⟨_, rfl⟩
    obtain ⟨w2, hw2⟩ : ∃ w2, w2 = wL (doneE q.1 q.2 (.nm x)).2.2 := ⟨_, rfl⟩
    rw [← hr] at la it om
    rw [← hw1, ← hw2] at la
    have go : ∀ (N1 : List Pr) (s1 : Stt) (z8 : Option W), (leB P W0) [x0, x1, some (pr q), some (.loc A), x4, some (.loc B), some (.str x), x7, x8] s = .nx [x0, x1, some (pr q), some (.loc A), x4, some (.loc B), some (.str x), some (pr r), z8] s1 → Kn P W0 A B s1 (F0 ++ N1) N1 → Only A B s s1 → Rd t F0 N1 L → (∀ r ∈ N, r ∈ N1) → r ∈ F0 ++ N1 →
        ∃ s' N' y6 y7 y8, forW (fun _ => True) (gmName 6) (leB P W0) ((x :: xs).map .str) [x0, x1, some (pr q), some (.loc A), x4, some (.loc B), x6, x7, x8] s = .nx [x0, x1, some (pr q), some (.loc A), x4, some (.loc B), y6, y7, y8] s' ∧ Kn P W0 A B s' (F0 ++ N') N' ∧ Only A B s s' ∧ Rd t F0 N' L ∧ (∀ r ∈ N, r ∈ N') ∧ ∀ y ∈ x :: xs, nmP q y ∈ F0 ++ N' := fun N1 s1 z8 h1 h2 h3 h4 h5 h6 => by
      obtain ⟨s', N', y6, y7, y8, e1, e2, e3, e4, e5, e6⟩ := le_loop (x0 := x0) (x1 := x1) (x4 := x4) hAB t4 lt hq oq xs N1 s1 (some (.str x)) (some (pr r)) z8 (fun y hy => hx y (List.mem_cons_of_mem _ hy)) h2 h4
      refine ⟨s', N', y6, y7, y8, ?_, e2, h3.trans e3, e4, fun u hu => e5 u (h5 u hu), fun y hy => ?_⟩
      · rw [List.map_cons, forW_nx (ρ1 := [x0, x1, some (pr q), some (.loc A), x4, some (.loc B), some (.str x), x7, x8]) trivial rfl h1]
        exact e1
      · rcases List.mem_cons.mp hy with rfl | hy
        · rw [← hr]
          exact (List.mem_append.mp h6).elim (fun z => List.mem_append_left _ z) fun z => List.mem_append_right _ (e5 _ z)
        · exact e6 y hy
    by_cases h : r ∈ F0 ++ N
    · rw [decide_eq_true h] at it
      refine go N s x8 ?_ k .refl R (fun _ h => h) h
      unfold leB
      rw [ev_seq]; simp only [ev_var, ev_c, ev_nil, ev_yes, ev_oNone, optR_some, optL_some, optO_some, consK2_ok, consK_ok, ev_cons, tupK_ok, ev_tup, lstK_ok, ev_lst, lstLK_ok, ev_lstL, opK2_ok, opK_ok, ev_op, tvW_bl, tvK_ok, ev_tv, tnotK_ok, ev_tnot, tandK_ok, ev_tand, torK_ok, ev_tor, fnK_ok, ev_fn, fnVK_ok, ev_fnV, fnOK_ok, ev_fnO, callK_ok, ev_call, chK3_ok, chW_bl, chK2_ok, chK_ok, ev_chain, negW_int, negK_ok, ev_neg, revTW_tup, revTK_ok, ev_revT, revLK_ok, ev_revL, revOK_ok, ev_revO, someW_int, oSomeK_ok, ev_oSome, slK3_ok, slK2_ok, slK_ok, ev_sl, slOK3_ok, slOK2_ok, slOK_ok, ev_slO, bmK2_ok, bmW_some, bmK_ok, ev_bm, idxW_tup, idxK_ok, ev_idxT, lsW_some, lenSetK_ok, ev_lenSet, isiTW_some, isiTK_ok, ev_isiT, andW_bl, orW_bl, notW_bl, andK_ok, ev_emAnd, orK_ok, ev_emOr, notK_ok, ev_emNot, ifEK_ok, ev_emIf, ev_next, seqK_nx, seqK_rt, dropK_ok, ev_drop, retK_ok, ev_ret, ev_retN, ifK_ok, ev_if, ev_brk, ev_cont, optS_some, asgK_ok, ev_asg, parK2_ok, parK_ok, ev_par, setK3_ok, setK2_ok, setK_ok, ev_setIx, ev_gname, ev_gtup, ev_gcons, ev_gnil, forK_ok, ev_for, lcV_ok, lcO_ok, lcK_ok, ev_lc, lcLK_ok, ev_lcL, wipe_nil, wipe_cons, srcW_some, iseqK_ok, ev_iseq, rng1K_ok, ev_rng1, rng2K_ok, ev_rng2, funK_nx, funK_rt, ev_fun, ev_callP, callPK_ok, List.getElem?_cons_zero, List.getElem?_cons_succ, List.set_cons_succ, List.set_cons_zero, Bool.not_true, Bool.not_false, if_true, if_false, Bool.false_eq_true, List.length_cons, List.length_nil, Nat.reduceAdd, Nat.reduceLeDiff, la, g0]
      simp only [ev_var, ev_c, ev_nil, ev_yes, ev_oNone, optR_some, optL_some, optO_some, consK2_ok, consK_ok, ev_cons, tupK_ok, ev_tup, lstK_ok, ev_lst, lstLK_ok, ev_lstL, opK2_ok, opK_ok, ev_op, tvW_bl, tvK_ok, ev_tv, tnotK_ok, ev_tnot, tandK_ok, ev_tand, torK_ok, ev_tor, fnK_ok, ev_fn, fnVK_ok, ev_fnV, fnOK_ok, ev_fnO, callK_ok, ev_call, chK3_ok, chW_bl, chK2_ok, chK_ok, ev_chain, negW_int, negK_ok, ev_neg, revTW_tup, revTK_ok, ev_revT, revLK_ok, ev_revL, revOK_ok, ev_revO, someW_int, oSomeK_ok, ev_oSome, slK3_ok, slK2_ok, slK_ok, ev_sl, slOK3_ok, slOK2_ok, slOK_ok, ev_slO, bmK2_ok, bmW_some, bmK_ok, ev_bm, idxW_tup, idxK_ok, ev_idxT, lsW_some, lenSetK_ok, ev_lenSet, isiTW_some, isiTK_ok, ev_isiT, andW_bl, orW_bl, notW_bl, andK_ok, ev_emAnd, orK_ok, ev_emOr, notK_ok, ev_emNot, ifEK_ok, ev_emIf, ev_next, seqK_nx, seqK_rt, dropK_ok, ev_drop, retK_ok, ev_ret, ev_retN, ifK_ok, ev_if, ev_brk, ev_cont, optS_some, asgK_ok, ev_asg, parK2_ok, parK_ok, ev_par, setK3_ok, setK2_ok, setK_ok, ev_setIx, ev_gname, ev_gtup, ev_gcons, ev_gnil, forK_ok, ev_for, lcV_ok, lcO_ok, lcK_ok, ev_lc, lcLK_ok, ev_lcL, wipe_nil, wipe_cons, srcW_some, iseqK_ok, ev_iseq, rng1K_ok, ev_rng1, rng2K_ok, ev_rng2, funK_nx, funK_rt, ev_fun, ev_callP, callPK_ok, List.getElem?_cons_zero, List.getElem?_cons_succ, List.set_cons_succ, List.set_cons_zero, Bool.not_true, Bool.not_false, if_true, if_false, Bool.false_eq_true, List.length_cons, List.length_nil, Nat.reduceAdd, Nat.reduceLeDiff, it]
    · rw [decide_eq_false h] at it
      obtain ⟨C, c1, c2, c3⟩ := by_places_ok (P := P) (W0 := W0) (st := s) t4 om lt.ltr
      have lr1 : r.1.length = t.length := om.1.length_eq
      have lr2 : r.2.length = t.length := om.2.length_eq
      have dis : ∀ a ∈ F0 ++ N, ∀ c ∈ C, a ≠ c := fun a ha c hc z => by
        subst z
        exact h (R.cl a ha r (((c3 a).mp hc).symm lr1 lr2))
      have nd : ((F0 ++ N) ++ C).Nodup := List.nodup_append.mpr ⟨R.nd, c2, dis⟩
      have ofC : ∀ u ∈ C, Of t u := fun u hu => ((c3 u).mp hu).of om
      have ofA : ∀ u ∈ (F0 ++ N) ++ C, Of t u := fun u hu => (List.mem_append.mp hu).elim (R.of u) (ofC u)
      have fw := few_of t4 nd ofA
      have fw2 : (N ++ C).length ≤ 70000 := by
        rw [List.length_append, List.length_append] at fw
        rw [List.length_append]
        omega
      obtain ⟨s1, y8, m1, m2, m3⟩ := mo_loop (P := P) (W0 := W0) (x0 := x0) (x1 := x1) (x2 := some (pr q)) (x4 := x4) (x6 := some (.str x)) (x7 := some (pr r)) hAB C (F0 ++ N) N s x8 k nd (by omega) fw2
      rw [List.append_assoc] at m2
      refine go (N ++ C) s1 y8 ?_ m2 m3 ⟨by rw [← List.append_assoc]; exact nd, by rw [← List.append_assoc]; exact ofA, fun a ha b hb => ?_, fun a ha b hb => ?_, fun u hu => ?_⟩ (fun u hu => List.mem_append_left _ hu) (by rw [← List.append_assoc]; exact List.mem_append_right _ ((c3 r).mpr (.refl r)))
      · have itC : itemsOf s (.lst (C.map pr)) = some (C.map pr) := rfl
        have okC : okOf (.lst (C.map pr)) (C.map pr) = fun _ => True := rfl
        unfold leB
        rw [ev_seq]; simp only [ev_var, ev_c, ev_nil, ev_yes, ev_oNone, optR_some, optL_some, optO_some, consK2_ok, consK_ok, ev_cons, tupK_ok, ev_tup, lstK_ok, ev_lst, lstLK_ok, ev_lstL, opK2_ok, opK_ok, ev_op, tvW_bl, tvK_ok, ev_tv, tnotK_ok, ev_tnot, tandK_ok, ev_tand, torK_ok, ev_tor, fnK_ok, ev_fn, fnVK_ok, ev_fnV, fnOK_ok, ev_fnO, callK_ok, ev_call, chK3_ok, chW_bl, chK2_ok, chK_ok, ev_chain, negW_int, negK_ok, ev_neg, revTW_tup, revTK_ok, ev_revT, revLK_ok, ev_revL, revOK_ok, ev_revO, someW_int, oSomeK_ok, ev_oSome, slK3_ok, slK2_ok, slK_ok, ev_sl, slOK3_ok, slOK2_ok, slOK_ok, ev_slO, bmK2_ok, bmW_some, bmK_ok, ev_bm, idxW_tup, idxK_ok, ev_idxT, lsW_some, lenSetK_ok, ev_lenSet, isiTW_some, isiTK_ok, ev_isiT, andW_bl, orW_bl, notW_bl, andK_ok, ev_emAnd, orK_ok, ev_emOr, notK_ok, ev_emNot, ifEK_ok, ev_emIf, ev_next, seqK_nx, seqK_rt, dropK_ok, ev_drop, retK_ok, ev_ret, ev_retN, ifK_ok, ev_if, ev_brk, ev_cont, optS_some, asgK_ok, ev_asg, parK2_ok, parK_ok, ev_par, setK3_ok, setK2_ok, setK_ok, ev_setIx, ev_gname, ev_gtup, ev_gcons, ev_gnil, forK_ok, ev_for, lcV_ok, lcO_ok, lcK_ok, ev_lc, lcLK_ok, ev_lcL, wipe_nil, wipe_cons, srcW_some, iseqK_ok, ev_iseq, rng1K_ok, ev_rng1, rng2K_ok, ev_rng2, funK_nx, funK_rt, ev_fun, ev_callP, callPK_ok, List.getElem?_cons_zero, List.getElem?_cons_succ, List.set_cons_succ, List.set_cons_zero, Bool.not_true, Bool.not_false, if_true, if_false, Bool.false_eq_true, List.length_cons, List.length_nil, Nat.reduceAdd, Nat.reduceLeDiff, la, g0]
        simp only [ev_var, ev_c, ev_nil, ev_yes, ev_oNone, optR_some, optL_some, optO_some, consK2_ok, consK_ok, ev_cons, tupK_ok, ev_tup, lstK_ok, ev_lst, lstLK_ok, ev_lstL, opK2_ok, opK_ok, ev_op, tvW_bl, tvK_ok, ev_tv, tnotK_ok, ev_tnot, tandK_ok, ev_tand, torK_ok, ev_tor, fnK_ok, ev_fn, fnVK_ok, ev_fnV, fnOK_ok, ev_fnO, callK_ok, ev_call, chK3_ok, chW_bl, chK2_ok, chK_ok, ev_chain, negW_int, negK_ok, ev_neg, revTW_tup, revTK_ok, ev_revT, revLK_ok, ev_revL, revOK_ok, ev_revO, someW_int, oSomeK_ok, ev_oSome, slK3_ok, slK2_ok, slK_ok, ev_sl, slOK3_ok, slOK2_ok, slOK_ok, ev_slO, bmK2_ok, bmW_some, bmK_ok, ev_bm, idxW_tup, idxK_ok, ev_idxT, lsW_some, lenSetK_ok, ev_lenSet, isiTW_some, isiTK_ok, ev_isiT, andW_bl, orW_bl, notW_bl, andK_ok, ev_emAnd, orK_ok, ev_emOr, notK_ok, ev_emNot, ifEK_ok, ev_emIf, ev_next, seqK_nx, seqK_rt, dropK_ok, ev_drop, retK_ok, ev_ret, ev_retN, ifK_ok, ev_if, ev_brk, ev_cont, optS_some, asgK_ok, ev_asg, parK2_ok, parK_ok, ev_par, setK3_ok, setK2_ok, setK_ok, ev_setIx, ev_gname, ev_gtup, ev_gcons, ev_gnil, forK_ok, ev_for, lcV_ok, lcO_ok, lcK_ok, ev_lc, lcLK_ok, ev_lcL, wipe_nil, wipe_cons, srcW_some, iseqK_ok, ev_iseq, rng1K_ok, ev_rng1, rng2K_ok, ev_rng2, funK_nx, funK_rt, ev_fun, ev_callP, callPK_ok, List.getElem?_cons_zero, List.getElem?_cons_succ, List.set_cons_succ, List.set_cons_zero, Bool.not_true, Bool.not_false, if_true, if_false, Bool.false_eq_true, List.length_cons, List.length_nil, Nat.reduceAdd, Nat.reduceLeDiff, it, c1, itC, okC]
        exact m1
      · rw [← List.append_assoc] at ha ⊢
        rcases List.mem_append.mp ha with z | z
        · exact List.mem_append_left _ (R.cl a z b hb)
        · exact List.mem_append_right _ ((c3 b).mpr (((c3 a).mp z).trans hb))
      · rcases List.mem_append.mp ha with z | z
        · exact List.mem_append_left _ (R.cn a z b hb)
        · exact List.mem_append_right _ ((c3 b).mpr (((c3 a).mp z).trans hb))
      · rcases List.mem_append.mp hu with z | z
        · exact R.src u z
        · exact ⟨q, hq, x, hxt, by rw [← hr]; exact (c3 u).mp z⟩
theorem la_loop {A B : Nat} {t : List Str} {L F0 : List Pr} {q0 : Pr} {ok : Stt → Prop} {x1 x4 : Option W} (hAB : A ≠ B) (t4 : t.length ≤ 4) (lt : Row t) (o0 : q0.1 = t) (hok : ∀ s s', Only A B s s' → ok s → ok s') : ∀ (qs N : List Pr) (s : Stt) (x2 x6 x7 x8 : Option W), (∀ q ∈ qs, q ∈ L ∧ Of t q) → ok s → Kn P W0 A B s (F0 ++ N) N → Rd t F0 N L →
    ∃ s' N' y2 y6 y7 y8, forW ok (gmName 2) (laB P W0) (qs.map pr) [some (pr q0), x1, x2, some (.loc A), x4, some (.loc B), x6, x7, x8] s = .nx [some (pr q0), x1, y2, some (.loc A), x4, some (.loc B), y6, y7, y8] s' ∧ Kn P W0 A B s' (F0 ++ N') N' ∧ Only A B s s' ∧ Rd t F0 N' L ∧ (∀ r ∈ N, r ∈ N') ∧ ∀ q ∈ qs, ∀ x ∈ t, nmP q x ∈ F0 ++ N'
  | [], N, s, x2, x6, x7, x8, _, hk, k, R => ⟨s, N, x2, x6, x7, x8, by rw [List.map_nil, forW_nil hk], k, .refl, R, fun r h => h, fun x h => (by cases h)⟩
  | q :: qs, N, s, x2, x6, x7, x8, hq, hk, k, R => by
    obtain ⟨h1, h2⟩ := hq q List.mem_cons_self
    obtain ⟨s1, N1, z6, z7, z8, e1, e2, e3, e4, e5, e6⟩ := le_loop (P := P) (W0 := W0) (x0 := some (pr q0)) (x1 := x1) (x4 := x4) hAB t4 lt h1 h2 t N s x6 x7 x8 (fun x h => h) k R
    obtain ⟨s', N', y2, y6, y7, y8, f1, f2, f3, f4, f5, f6⟩ := la_loop (x1 := x1) (x4 := x4) hAB t4 lt o0 hok qs N1 s1 (some (pr q)) z6 z7 z8 (fun r hr => hq r (List.mem_cons_of_mem _ hr)) (hok _ _ e3 hk) e2 e4
    refine ⟨s', N', y2, y6, y7, y8, ?_, f2, e3.trans f3, f4, fun r hr => f5 r (e5 r hr), fun r hr x hx => ?_⟩
    · have i0 : fIx s (pr q0) (.int 0) = some (wS t) := by rw [← o0]; rfl
      have it : itemsOf s (wS t) = some (t.map .str) := rfl
      have okt : okOf (wS t) (t.map .str) = fun _ => True := rfl
      rw [List.map_cons, forW_nx (ρ1 := [some (pr q0), x1, some (pr q), some (.loc A), x4, some (.loc B), x6, x7, x8]) (ρ2 := [some (pr q0), x1, some (pr q), some (.loc A), x4, some (.loc B), z6, z7, z8]) (st2 := s1) hk rfl ?_]
      · exact f1
      · unfold laB
        rw [ev_for]
        simp only [ev_iseq, ev_op, ev_var, ev_c, List.getElem?_cons_zero, List.getElem?_cons_succ, opK_ok, opK2_ok, i0, optR_some, iseqK_ok, it, srcW_some, forK_ok, okt]
        exact e1
    · rcases List.mem_cons.mp hr with rfl | hr
      · exact (List.mem_append.mp (e6 x hx)).elim (fun z => List.mem_append_left _ z) fun z => List.mem_append_right _ (f5 _ z)
      · exact f6 r hr x hx
end
end Lw
end
section
set_option Elab.async false
set_option linter.all false
set_option maxRecDepth 100000
set_option maxHeartbeats 1000000
open PySem PySem.Spec PyProof.Rows L2
namespace Lw
open Sim
/-! healing's mirror -/
section
variable {st : Stt}
theorem cure_ok {t L : List Str} (hs : ∀ x ∈ L, x ∈ t) (h0 : L ≠ []) : ∀ e ∈ cureE t L, e.ok t := fun e he => by
  unfold cureE at he
  rcases List.mem_append.mp he with he | he
  · obtain ⟨p, hp, rfl⟩ := List.mem_map.mp he
    exact places_lt _ _ (fun x hx => hs x (List.mem_reverse.mp hx)) p hp
  · rw [List.mem_singleton.mp he]
    obtain ⟨x, xs, rfl⟩ := List.exists_cons_of_ne_nil h0
    exact hs x List.mem_cons_self
end
end Lw
end
section
set_option Elab.async false
set_option linter.all false
set_option maxRecDepth 100000
set_option maxHeartbeats 2000000
open PySem PySem.Spec PyProof.Rows L2
namespace Lw
open Sim
section
variable {st : Stt} {P : Program} {W0 : PySem.World}
structure Lay (s : Stt) (v : W) (L : List Pr) (A : Nat) : Prop where
  it : itemsOf s v = some (L.map pr)
  ok : okOf v (L.map pr) s
  on : v = .lst (L.map pr) ∨ ∃ B, v = .loc B ∧ B < s.length ∧ B ≠ A
theorem of_ltr {t : List Str} {q : Pr} (r : Row t) (o : Of t q) : (∀ x ∈ q.1, Ltr x) ∧ ∀ x ∈ q.2, Ltr x := ⟨fun x hx => r.ltr x (o.1.mem_iff.mp hx), fun x hx => r.ltr x (o.2.mem_iff.mp hx)⟩
theorem eq_lc {ok : Stt → Prop} (hk : ok st) {t : List Str} (r : Row t) {ρ : Ev} (hρ : 2 < ρ.length) {L : List Pr} (h : ∀ q ∈ L, Of t q) : lcW ok (gmName 2) (tmV (eOp fEq (eOp fIx (eVar 2) (eC (.int 0))) (eOp fIx (eVar 2) (eC (.int 1))))) (eVar 2) ρ (L.map pr) st = .ok ((L.filter fun q => decide (q.1 = q.2)).map pr) st := by
  induction L with
  | nil => rw [List.map_nil, lcW, if_pos hk]; rfl
  | cons q L ih =>
    have ih := ih fun u hu => h u (List.mem_cons_of_mem _ hu)
    obtain ⟨l1, l2⟩ := of_ltr r (h q List.mem_cons_self)
    have z : (ρ.set 2 (some (pr q)))[2]? = some (some (pr q)) := List.getElem?_set_self hρ
    have i0 : fIx st (pr q) (.int 0) = some (wS q.1) := rfl
    have i1 : fIx st (pr q) (.int 1) = some (wS q.2) := rfl
    have eq := eq_rows (st := st) l1 l2
    have c1 : tmV (eOp fEq (eOp fIx (eVar 2) (eC (.int 0))) (eOp fIx (eVar 2) (eC (.int 1)))) (ρ.set 2 (some (pr q))) st = .ok (decide (q.1 = q.2)) st := by
      simp only [ev_var, ev_c, ev_nil, ev_yes, ev_oNone, optR_some, optL_some, optO_some, consK2_ok, consK_ok, ev_cons, tupK_ok, ev_tup, lstK_ok, ev_lst, lstLK_ok, ev_lstL, opK2_ok, opK_ok, ev_op, tvW_bl, tvK_ok, ev_tv, tnotK_ok, ev_tnot, tandK_ok, ev_tand, torK_ok, ev_tor, fnK_ok, ev_fn, fnVK_ok, ev_fnV, fnOK_ok, ev_fnO, callK_ok, ev_call, chK3_ok, chW_bl, chK2_ok, chK_ok, ev_chain, negW_int, negK_ok, ev_neg, revTW_tup, revTK_ok, ev_revT, revLK_ok, ev_revL, revOK_ok, ev_revO, someW_int, oSomeK_ok, ev_oSome, slK3_ok, slK2_ok, slK_ok, ev_sl, slOK3_ok, slOK2_ok, slOK_ok, ev_slO, bmK2_ok, bmW_some, bmK_ok, ev_bm, idxW_tup, idxK_ok, ev_idxT, lsW_some, lenSetK_ok, ev_lenSet, isiTW_some, isiTK_ok, ev_isiT, andW_bl, orW_bl, notW_bl, andK_ok, ev_emAnd, orK_ok, ev_emOr, notK_ok, ev_emNot, ifEK_ok, ev_emIf, ev_next, seqK_nx, seqK_rt, dropK_ok, ev_drop, retK_ok, ev_ret, ev_retN, ifK_ok, ev_if, ev_brk, ev_cont, optS_some, asgK_ok, ev_asg, parK2_ok, parK_ok, ev_par, setK3_ok, setK2_ok, setK_ok, ev_setIx, ev_gname, ev_gtup, ev_gcons, ev_gnil, forK_ok, ev_for, lcV_ok, lcO_ok, lcK_ok, ev_lc, lcLK_ok, ev_lcL, wipe_nil, wipe_cons, srcW_some, iseqK_ok, ev_iseq, rng1K_ok, ev_rng1, rng2K_ok, ev_rng2, funK_nx, funK_rt, ev_fun, ev_callP, callPK_ok, List.getElem?_cons_zero, List.getElem?_cons_succ, List.set_cons_succ, List.set_cons_zero, Bool.not_true, Bool.not_false, if_true, if_false, Bool.false_eq_true, List.length_cons, List.length_nil, Nat.reduceAdd, Nat.reduceLeDiff, z, i0, i1, eq]
    have m1 : eVar 2 (ρ.set 2 (some (pr q))) st = .ok (pr q) st := by
      simp only [ev_var, ev_c, ev_nil, ev_yes, ev_oNone, optR_some, optL_some, optO_some, consK2_ok, consK_ok, ev_cons, tupK_ok, ev_tup, lstK_ok, ev_lst, lstLK_ok, ev_lstL, opK2_ok, opK_ok, ev_op, tvW_bl, tvK_ok, ev_tv, tnotK_ok, ev_tnot, tandK_ok, ev_tand, torK_ok, ev_tor, fnK_ok, ev_fn, fnVK_ok, ev_fnV, fnOK_ok, ev_fnO, callK_ok, ev_call, chK3_ok, chW_bl, chK2_ok, chK_ok, ev_chain, negW_int, negK_ok, ev_neg, revTW_tup, revTK_ok, ev_revT, revLK_ok, ev_revL, revOK_ok, ev_revO, someW_int, oSomeK_ok, ev_oSome, slK3_ok, slK2_ok, slK_ok, ev_sl, slOK3_ok, slOK2_ok, slOK_ok, ev_slO, bmK2_ok, bmW_some, bmK_ok, ev_bm, idxW_tup, idxK_ok, ev_idxT, lsW_some, lenSetK_ok, ev_lenSet, isiTW_some, isiTK_ok, ev_isiT, andW_bl, orW_bl, notW_bl, andK_ok, ev_emAnd, orK_ok, ev_emOr, notK_ok, ev_emNot, ifEK_ok, ev_emIf, ev_next, seqK_nx, seqK_rt, dropK_ok, ev_drop, retK_ok, ev_ret, ev_retN, ifK_ok, ev_if, ev_brk, ev_cont, optS_some, asgK_ok, ev_asg, parK2_ok, parK_ok, ev_par, setK3_ok, setK2_ok, setK_ok, ev_setIx, ev_gname, ev_gtup, ev_gcons, ev_gnil, forK_ok, ev_for, lcV_ok, lcO_ok, lcK_ok, ev_lc, lcLK_ok, ev_lcL, wipe_nil, wipe_cons, srcW_some, iseqK_ok, ev_iseq, rng1K_ok, ev_rng1, rng2K_ok, ev_rng2, funK_nx, funK_rt, ev_fun, ev_callP, callPK_ok, List.getElem?_cons_zero, List.getElem?_cons_succ, List.set_cons_succ, List.set_cons_zero, Bool.not_true, Bool.not_false, if_true, if_false, Bool.false_eq_true, List.length_cons, List.length_nil, Nat.reduceAdd, Nat.reduceLeDiff, z]
    have g1 : gmName 2 st (pr q) ρ = some (ρ.set 2 (some (pr q))) := rfl
    rw [List.map_cons, lcW, if_pos hk, g1, List.filter_cons]
    dsimp only
    rw [c1]
    by_cases e : q.1 = q.2
    · rw [decide_eq_true e]
      simp only [Rs.cb, if_true, m1, ih, List.map_cons]
    · rw [decide_eq_false e]
      simp only [Rs.cb, Bool.false_eq_true, if_false, ih]
theorem rd_eq {A : Nat} {t : List Str} {L : List Pr} {v : W} {m : Nat} {x0 x2 x5 x6 x7 x8 : Option W} (r : Row t) (ly : Lay st v L A) (hL : ∀ q ∈ L, Of t q) (hl : L.length ≤ 65536) (he : ∃ q ∈ L, q.1 = q.2) : rdB P W0 [x0, some v, x2, some (.loc A), some (.int (m : Int)), x5, x6, x7, x8] st = .rt (.int (m : Int)) st := by
  have nl := eq_lc (st := st) ly.ok r (ρ := [x0, some v, none, some (.loc A), some (.int (m : Int)), x5, x6, x7, x8]) (by simp) hL
  obtain ⟨q, hq, e⟩ := he
  obtain ⟨X, hX⟩ : ∃ X, X = L.filter fun q => decide (q.1 = q.2) := ⟨_, rfl⟩
  have hq' : q ∈ X := by rw [hX]; exact List.mem_filter.mpr ⟨hq, decide_eq_true e⟩
  have dX : datWs 63 (X.map pr) = true := dat_prsB (n := 61) fun u hu => of_ltr r (hL u (by rw [hX] at hu; exact (List.mem_filter.mp hu).1))
  have ne := ne_nilL (st := st) dX
  rw [← hX] at nl
  have hne : (X.map pr).isEmpty = false := by
    cases X with
    | nil => cases hq'
    | cons a X => rfl
  rw [hne] at ne
  have l5 : (L.map pr).length ≤ 100000 := by rw [List.length_map]; omega
  unfold rdB
  rw [ev_seq]
  simp only [ev_if, ev_tv, ev_op, ev_lc, ev_iseq, ev_var, ev_lst, ev_nil, List.getElem?_cons_zero, List.getElem?_cons_succ, iseqK_ok, ly.it, srcW_some, lcK_ok, l5, if_true, wipe_cons, wipe_nil, List.set_cons_succ, List.set_cons_zero]
  rw [nl]
  simp only [ev_var, ev_c, ev_nil, ev_yes, ev_oNone, optR_some, optL_some, optO_some, consK2_ok, consK_ok, ev_cons, tupK_ok, ev_tup, lstK_ok, ev_lst, lstLK_ok, ev_lstL, opK2_ok, opK_ok, ev_op, tvW_bl, tvK_ok, ev_tv, tnotK_ok, ev_tnot, tandK_ok, ev_tand, torK_ok, ev_tor, fnK_ok, ev_fn, fnVK_ok, ev_fnV, fnOK_ok, ev_fnO, callK_ok, ev_call, chK3_ok, chW_bl, chK2_ok, chK_ok, ev_chain, negW_int, negK_ok, ev_neg, revTW_tup, revTK_ok, ev_revT, revLK_ok, ev_revL, revOK_ok, ev_revO, someW_int, oSomeK_ok, ev_oSome, slK3_ok, slK2_ok, slK_ok, ev_sl, slOK3_ok, slOK2_ok, slOK_ok, ev_slO, bmK2_ok, bmW_some, bmK_ok, ev_bm, idxW_tup, idxK_ok, ev_idxT, lsW_some, lenSetK_ok, ev_lenSet, isiTW_some, isiTK_ok, ev_isiT, andW_bl, orW_bl, notW_bl, andK_ok, ev_emAnd, orK_ok, ev_emOr, notK_ok, ev_emNot, ifEK_ok, ev_emIf, ev_next, seqK_nx, seqK_rt, dropK_ok, ev_drop, retK_ok, ev_ret, ev_retN, ifK_ok, ev_if, ev_brk, ev_cont, optS_some, asgK_ok, ev_asg, parK2_ok, parK_ok, ev_par, setK3_ok, setK2_ok, setK_ok, ev_setIx, ev_gname, ev_gtup, ev_gcons, ev_gnil, forK_ok, ev_for, lcV_ok, lcO_ok, lcK_ok, ev_lc, lcLK_ok, ev_lcL, wipe_nil, wipe_cons, srcW_some, iseqK_ok, ev_iseq, rng1K_ok, ev_rng1, rng2K_ok, ev_rng2, funK_nx, funK_rt, ev_fun, ev_callP, callPK_ok, List.getElem?_cons_zero, List.getElem?_cons_succ, List.set_cons_succ, List.set_cons_zero, Bool.not_true, Bool.not_false, if_true, if_false, Bool.false_eq_true, List.length_cons, List.length_nil, Nat.reduceAdd, Nat.reduceLeDiff, ne]
theorem rd_go {A : Nat} {t : List Str} {L F0 : List Pr} {q0 : Pr} {v : W} {m : Nat} {x2 x5 x6 x7 x8 : Option W} (r : Row t) (t4 : t.length ≤ 4) (o0 : q0.1 = t) (ly : Lay st v L A) (hA : st[A]? = some (some (.dn P W0 (F0.map kvP)))) (hL : ∀ q ∈ L, Of t q) (hl : L.length ≤ 65536) (hn : ∀ q ∈ L, q.1 ≠ q.2) (nd : F0.Nodup) (of : ∀ u ∈ F0, Of t u) (cl : ∀ a ∈ F0, ∀ b, Rch t.length a b → b ∈ F0) :
    ∃ s' N y2 y6 y7 y8, rdB P W0 [some (pr q0), some v, x2, some (.loc A), some (.int (m : Int)), x5, x6, x7, x8] st = .nx [some (pr q0), some (.loc st.length), y2, some (.loc A), some (.int (m : Int)), some (.loc st.length), y6, y7, y8] s' ∧ Kn P W0 A st.length s' (F0 ++ N) N ∧ s'.length = st.length + 1 ∧ (∀ j, j < A → s'[j]? = st[j]?) ∧ Rd t F0 N L ∧ ∀ q ∈ L, ∀ x ∈ t, nmP q x ∈ F0 ++ N := by
  have lA : A < st.length := (List.getElem?_eq_some_iff.mp hA).1
  have nl := eq_lc (st := st) ly.ok r (ρ := [some (pr q0), some v, none, some (.loc A), some (.int (m : Int)), x5, x6, x7, x8]) (by simp) hL
  have hX : (L.filter fun q => decide (q.1 = q.2)) = [] := by
    rw [List.filter_eq_nil_iff]
    intro q hq
    simpa using hn q hq
  rw [hX] at nl
  have l5 : (L.map pr).length ≤ 100000 := by rw [List.length_map]; omega
  have n0 : fNe st (.lst []) (.lst []) = some (.bl false) := fNe_same (by rw [datW]; rfl)
  obtain ⟨s1, hs1⟩ : ∃ s1, s1 = st ++ [some (Ob.lst ([] : List W))] := ⟨_, rfl⟩
  have k1 : Kn P W0 A st.length s1 (F0 ++ []) [] := ⟨by rw [List.append_nil, hs1, List.getElem?_append_left lA]; exact hA, by rw [hs1]; exact List.getElem?_concat_length⟩
  have it1 : itemsOf s1 v = some (L.map pr) := by
    rcases ly.on with rfl | ⟨B, rfl, hB, _⟩
    · rfl
    · have := ly.it
      rw [it_loc, sq_loc] at this ⊢
      rw [hs1, List.getElem?_append_left hB]
      exact this
  have ok1 : okOf v (L.map pr) s1 := by
    rcases ly.on with rfl | ⟨B, rfl, hB, _⟩
    · trivial
    · have : st[B]? = some (some (.lst (L.map pr))) := ly.ok
      show s1[B]? = _
      rw [hs1, List.getElem?_append_left hB]
      exact this
  obtain ⟨s2, N, y2, y6, y7, y8, f1, f2, f3, f4, _, f6⟩ := la_loop (P := P) (W0 := W0) (A := A) (B := st.length) (t := t) (L := L) (F0 := F0) (q0 := q0) (ok := okOf v (L.map pr)) (x1 := some v) (x4 := some (.int (m : Int))) (by omega) t4 r o0 (fun a b on ha => by
    rcases ly.on with rfl | ⟨B, rfl, hB, hBA⟩
    · trivial
    · have ha : a[B]? = some (some (.lst (L.map pr))) := ha
      show b[B]? = _
      rw [on.2 B hBA (by omega)]
      exact ha) L [] s1 x2 x6 x7 x8 (fun q hq => ⟨hq, hL q hq⟩) ok1 k1 ⟨by rw [List.append_nil]; exact nd, by rw [List.append_nil]; exact of, by rw [List.append_nil]; exact cl, fun a h => (by cases h), fun a h => (by cases h)⟩
  refine ⟨s2, N, y2, y6, y7, y8, ?_, f2, by rw [f3.1, hs1]; simp, fun j hj => by rw [f3.2 j (by omega) (by omega), hs1, List.getElem?_append_left (by omega)], f4, f6⟩
  unfold rdB
  rw [ev_seq]
  simp only [ev_if, ev_tv, ev_op, ev_lc, ev_iseq, ev_var, ev_lst, ev_nil, List.getElem?_cons_zero, List.getElem?_cons_succ, iseqK_ok, ly.it, srcW_some, lcK_ok, l5, if_true, wipe_cons, wipe_nil, List.set_cons_succ, List.set_cons_zero]
  rw [nl]
  simp only [ev_var, ev_c, ev_nil, ev_yes, ev_oNone, optR_some, optL_some, optO_some, consK2_ok, consK_ok, ev_cons, tupK_ok, ev_tup, lstK_ok, ev_lst, lstLK_ok, ev_lstL, opK2_ok, opK_ok, ev_op, tvW_bl, tvK_ok, ev_tv, tnotK_ok, ev_tnot, tandK_ok, ev_tand, torK_ok, ev_tor, fnK_ok, ev_fn, fnVK_ok, ev_fnV, fnOK_ok, ev_fnO, callK_ok, ev_call, chK3_ok, chW_bl, chK2_ok, chK_ok, ev_chain, negW_int, negK_ok, ev_neg, revTW_tup, revTK_ok, ev_revT, revLK_ok, ev_revL, revOK_ok, ev_revO, someW_int, oSomeK_ok, ev_oSome, slK3_ok, slK2_ok, slK_ok, ev_sl, slOK3_ok, slOK2_ok, slOK_ok, ev_slO, bmK2_ok, bmW_some, bmK_ok, ev_bm, idxW_tup, idxK_ok, ev_idxT, lsW_some, lenSetK_ok, ev_lenSet, isiTW_some, isiTK_ok, ev_isiT, andW_bl, orW_bl, notW_bl, andK_ok, ev_emAnd, orK_ok, ev_emOr, notK_ok, ev_emNot, ifEK_ok, ev_emIf, ev_next, seqK_nx, seqK_rt, dropK_ok, ev_drop, retK_ok, ev_ret, ev_retN, ifK_ok, ev_if, ev_brk, ev_cont, optS_some, asgK_ok, ev_asg, parK2_ok, parK_ok, ev_par, setK3_ok, setK2_ok, setK_ok, ev_setIx, ev_gname, ev_gtup, ev_gcons, ev_gnil, forK_ok, ev_for, lcV_ok, lcO_ok, lcK_ok, ev_lc, lcLK_ok, ev_lcL, wipe_nil, wipe_cons, srcW_some, iseqK_ok, ev_iseq, rng1K_ok, ev_rng1, rng2K_ok, ev_rng2, funK_nx, funK_rt, ev_fun, ev_callP, callPK_ok, List.getElem?_cons_zero, List.getElem?_cons_succ, List.set_cons_succ, List.set_cons_zero, Bool.not_true, Bool.not_false, if_true, if_false, Bool.false_eq_true, List.length_cons, List.length_nil, Nat.reduceAdd, Nat.reduceLeDiff, List.map_nil, n0]
  rw [ev_seq]; simp only [ev_var, ev_c, ev_nil, ev_yes, ev_oNone, optR_some, optL_some, optO_some, consK2_ok, consK_ok, ev_cons, tupK_ok, ev_tup, lstK_ok, ev_lst, lstLK_ok, ev_lstL, opK2_ok, opK_ok, ev_op, tvW_bl, tvK_ok, ev_tv, tnotK_ok, ev_tnot, tandK_ok, ev_tand, torK_ok, ev_tor, fnK_ok, ev_fn, fnVK_ok, ev_fnV, fnOK_ok, ev_fnO, callK_ok, ev_call, chK3_ok, chW_bl, chK2_ok, chK_ok, ev_chain, negW_int, negK_ok, ev_neg, revTW_tup, revTK_ok, ev_revT, revLK_ok, ev_revL, revOK_ok, ev_revO, someW_int, oSomeK_ok, ev_oSome, slK3_ok, slK2_ok, slK_ok, ev_sl, slOK3_ok, slOK2_ok, slOK_ok, ev_slO, bmK2_ok, bmW_some, bmK_ok, ev_bm, idxW_tup, idxK_ok, ev_idxT, lsW_some, lenSetK_ok, ev_lenSet, isiTW_some, isiTK_ok, ev_isiT, andW_bl, orW_bl, notW_bl, andK_ok, ev_emAnd, orK_ok, ev_emOr, notK_ok, ev_emNot, ifEK_ok, ev_emIf, ev_next, seqK_nx, seqK_rt, dropK_ok, ev_drop, retK_ok, ev_ret, ev_retN, ifK_ok, ev_if, ev_brk, ev_cont, optS_some, asgK_ok, ev_asg, parK2_ok, parK_ok, ev_par, setK3_ok, setK2_ok, setK_ok, ev_setIx, ev_gname, ev_gtup, ev_gcons, ev_gnil, forK_ok, ev_for, lcV_ok, lcO_ok, lcK_ok, ev_lc, lcLK_ok, ev_lcL, wipe_nil, wipe_cons, srcW_some, iseqK_ok, ev_iseq, rng1K_ok, ev_rng1, rng2K_ok, ev_rng2, funK_nx, funK_rt, ev_fun, ev_callP, callPK_ok, List.getElem?_cons_zero, List.getElem?_cons_succ, List.set_cons_succ, List.set_cons_zero, Bool.not_true, Bool.not_false, if_true, if_false, Bool.false_eq_true, List.length_cons, List.length_nil, Nat.reduceAdd, Nat.reduceLeDiff]
  rw [← hs1, ev_seq, ev_for]
  simp only [ev_iseq, ev_var, List.getElem?_cons_zero, List.getElem?_cons_succ, iseqK_ok, it1, srcW_some, forK_ok]
  rw [f1]
  simp only [ev_var, ev_c, ev_nil, ev_yes, ev_oNone, optR_some, optL_some, optO_some, consK2_ok, consK_ok, ev_cons, tupK_ok, ev_tup, lstK_ok, ev_lst, lstLK_ok, ev_lstL, opK2_ok, opK_ok, ev_op, tvW_bl, tvK_ok, ev_tv, tnotK_ok, ev_tnot, tandK_ok, ev_tand, torK_ok, ev_tor, fnK_ok, ev_fn, fnVK_ok, ev_fnV, fnOK_ok, ev_fnO, callK_ok, ev_call, chK3_ok, chW_bl, chK2_ok, chK_ok, ev_chain, negW_int, negK_ok, ev_neg, revTW_tup, revTK_ok, ev_revT, revLK_ok, ev_revL, revOK_ok, ev_revO, someW_int, oSomeK_ok, ev_oSome, slK3_ok, slK2_ok, slK_ok, ev_sl, slOK3_ok, slOK2_ok, slOK_ok, ev_slO, bmK2_ok, bmW_some, bmK_ok, ev_bm, idxW_tup, idxK_ok, ev_idxT, lsW_some, lenSetK_ok, ev_lenSet, isiTW_some, isiTK_ok, ev_isiT, andW_bl, orW_bl, notW_bl, andK_ok, ev_emAnd, orK_ok, ev_emOr, notK_ok, ev_emNot, ifEK_ok, ev_emIf, ev_next, seqK_nx, seqK_rt, dropK_ok, ev_drop, retK_ok, ev_ret, ev_retN, ifK_ok, ev_if, ev_brk, ev_cont, optS_some, asgK_ok, ev_asg, parK2_ok, parK_ok, ev_par, setK3_ok, setK2_ok, setK_ok, ev_setIx, ev_gname, ev_gtup, ev_gcons, ev_gnil, forK_ok, ev_for, lcV_ok, lcO_ok, lcK_ok, ev_lc, lcLK_ok, ev_lcL, wipe_nil, wipe_cons, srcW_some, iseqK_ok, ev_iseq, rng1K_ok, ev_rng1, rng2K_ok, ev_rng2, funK_nx, funK_rt, ev_fun, ev_callP, callPK_ok, List.getElem?_cons_zero, List.getElem?_cons_succ, List.set_cons_succ, List.set_cons_zero, Bool.not_true, Bool.not_false, if_true, if_false, Bool.false_eq_true, List.length_cons, List.length_nil, Nat.reduceAdd, Nat.reduceLeDiff]
theorem heal_nm {t h : List Str} {ps : List Nat} {x : Str} (H : heal t h ps x) : (nmP ((goneE t h (ps.map .pl)).1, (goneE t h (ps.map .pl)).2.1) x).1 = (nmP ((goneE t h (ps.map .pl)).1, (goneE t h (ps.map .pl)).2.1) x).2 := by
  unfold heal at H
  rw [gone_app] at H
  exact H
theorem prs_nk : ∀ L : List Pr, prsNK (L.map fun r => .tup [pr r, .bl true]) = some (L.map kvP)
  | [] => rfl
  | r :: L => by
    rw [List.map_cons, prsNK, pr_key, prs_nk L]
    rfl
theorem lc_true {L : List Pr} {ρ : Ev} (hρ : 2 < ρ.length) : lcW (fun _ => True) (gmName 2) tmYes (eTup (aCons (eVar 2) (aCons (eC (.bl true)) aNil))) ρ (L.map pr) st = .ok (L.map fun r => .tup [pr r, .bl true]) st := by
  rw [lcW_map (f := fun w => .tup [w, .bl true]) trivial]
  · rw [List.map_map]; rfl
  · intro w hw
    have z : (ρ.set 2 (some w))[2]? = some (some w) := List.getElem?_set_self hρ
    refine ⟨_, rfl, ?_⟩
    simp only [ev_var, ev_c, ev_nil, ev_yes, ev_oNone, optR_some, optL_some, optO_some, consK2_ok, consK_ok, ev_cons, tupK_ok, ev_tup, lstK_ok, ev_lst, lstLK_ok, ev_lstL, opK2_ok, opK_ok, ev_op, tvW_bl, tvK_ok, ev_tv, tnotK_ok, ev_tnot, tandK_ok, ev_tand, torK_ok, ev_tor, fnK_ok, ev_fn, fnVK_ok, ev_fnV, fnOK_ok, ev_fnO, callK_ok, ev_call, chK3_ok, chW_bl, chK2_ok, chK_ok, ev_chain, negW_int, negK_ok, ev_neg, revTW_tup, revTK_ok, ev_revT, revLK_ok, ev_revL, revOK_ok, ev_revO, someW_int, oSomeK_ok, ev_oSome, slK3_ok, slK2_ok, slK_ok, ev_sl, slOK3_ok, slOK2_ok, slOK_ok, ev_slO, bmK2_ok, bmW_some, bmK_ok, ev_bm, idxW_tup, idxK_ok, ev_idxT, lsW_some, lenSetK_ok, ev_lenSet, isiTW_some, isiTK_ok, ev_isiT, andW_bl, orW_bl, notW_bl, andK_ok, ev_emAnd, orK_ok, ev_emOr, notK_ok, ev_emNot, ifEK_ok, ev_emIf, ev_next, seqK_nx, seqK_rt, dropK_ok, ev_drop, retK_ok, ev_ret, ev_retN, ifK_ok, ev_if, ev_brk, ev_cont, optS_some, asgK_ok, ev_asg, parK2_ok, parK_ok, ev_par, setK3_ok, setK2_ok, setK_ok, ev_setIx, ev_gname, ev_gtup, ev_gcons, ev_gnil, forK_ok, ev_for, lcV_ok, lcO_ok, lcK_ok, ev_lc, lcLK_ok, ev_lcL, wipe_nil, wipe_cons, srcW_some, iseqK_ok, ev_iseq, rng1K_ok, ev_rng1, rng2K_ok, ev_rng2, funK_nx, funK_rt, ev_fun, ev_callP, callPK_ok, List.getElem?_cons_zero, List.getElem?_cons_succ, List.set_cons_succ, List.set_cons_zero, Bool.not_true, Bool.not_false, if_true, if_false, Bool.false_eq_true, List.length_cons, List.length_nil, Nat.reduceAdd, Nat.reduceLeDiff, z]
theorem for_rt {ok : Stt → Prop} {g : GM} {body : SM} {w : W} {ws : List W} {ρ ρ1 : Ev} {s : Stt} {y : W} (hk : ok s) (h1 : g s w ρ = some ρ1) (h2 : body ρ1 s = .rt y s) : forW ok g body (w :: ws) ρ s = .rt y s := by
  rw [forW, if_pos hk, h1]
  show RS.loop (body ρ1 s) _ = _
  rw [h2]
  rfl
theorem least_ok {t h : List Str} (b : Both t h) (t4 : t.length ≤ 4) : m__law_least_names P W0 [pr (t, h)] st = .ok (.int ((min 2 (ringsP t h).length : Nat) : Int)) st := by
  have o0 : Of t (t, h) := ⟨.refl _, b.perm⟩
  have r := b.row
  obtain ⟨L0, a1, a2, a3⟩ := by_places_ok (P := P) (W0 := W0) (st := st) t4 o0 r.ltr
  have q0L : (t, h) ∈ L0 := (a3 _).mpr (.refl _)
  have of0 : ∀ u ∈ L0, Of t u := fun u hu => ((a3 u).mp hu).of o0
  have few0 := few_of t4 a2 of0
  have lo := lc_true (st := st) (L := L0) (ρ := [some (pr (t, h)), some (.lst (L0.map pr)), none, none, none, none, none, none, none]) (by simp)
  have itL : itemsOf st (.lst (L0.map pr)) = some (L0.map pr) := rfl
  have okL : okOf (.lst (L0.map pr)) (L0.map pr) = fun _ => True := rfl
  have l5 : (L0.map pr).length ≤ 100000 := by rw [List.length_map]; omega
  have dp := dpT_ok (P := P) (wd := W0) (st := st) (x := .lst (L0.map fun r => .tup [pr r, .bl true])) rfl (prs_nk L0)
  have ka := kn_all L0 [] (by rw [List.nil_append]; exact a2)
  rw [List.map_nil, List.nil_append] at ka
  rw [ka] at dp
  obtain ⟨s0, hs0⟩ : ∃ s0, s0 = st ++ [some (Ob.dn P W0 (L0.map kvP))] := ⟨_, rfl⟩
  rw [← hs0] at dp
  have gA : s0[st.length]? = some (some (.dn P W0 (L0.map kvP))) := by rw [hs0]; exact List.getElem?_concat_length
  have f0 : ∀ j, j < st.length → s0[j]? = st[j]? := fun j hj => by rw [hs0, List.getElem?_append_left hj]
  have ly0 : Lay s0 (.lst (L0.map pr)) L0 st.length := ⟨rfl, trivial, .inl rfl⟩
  have cl0 : ∀ a ∈ L0, ∀ c, Rch t.length a c → c ∈ L0 := fun a ha c hc => (a3 c).mpr (((a3 a).mp ha).trans hc)
  have rg : ∀ s : Stt, rng1W [.int 5] s = .ok ⟨[.int 0, .int 1, .int 2, .int 3, .int 4], fun _ => True⟩ s := fun s => rng1_nat (n := 5) (by omega)
  have len2 : ∀ {u : Pr}, Of t u → u.1.length = t.length ∧ u.2.length = t.length := fun o => ⟨o.1.length_eq, o.2.length_eq⟩
  -- the end of it
  have fin : ∀ (k : Nat) (s' : Stt), (∀ j, j < st.length → s'[j]? = st[j]?) → forW (fun _ => True) (gmName 4) (rdB P W0) [.int 0, .int 1, .int 2, .int 3, .int 4] [some (pr (t, h)), some (.lst (L0.map pr)), none, some (.loc st.length), none, none, none, none, none] s0 = .rt (.int (k : Int)) s' → m__law_least_names P W0 [pr (t, h)] st = .ok (.int (k : Int)) st := fun k s' hf hfor => by
    have hraw : r__law_least_names P W0 [pr (t, h)] st = .ok (.int (k : Int)) s' := by
      unfold r__law_least_names
      rw [ev_fun, show entry 9 [pr (t, h)] = [some (pr (t, h)), none, none, none, none, none, none, none, none] from rfl]
      rw [ev_seq]; simp only [ev_var, ev_c, ev_nil, ev_yes, ev_oNone, optR_some, optL_some, optO_some, consK2_ok, consK_ok, ev_cons, tupK_ok, ev_tup, lstK_ok, ev_lst, lstLK_ok, ev_lstL, opK2_ok, opK_ok, ev_op, tvW_bl, tvK_ok, ev_tv, tnotK_ok, ev_tnot, tandK_ok, ev_tand, torK_ok, ev_tor, fnK_ok, ev_fn, fnVK_ok, ev_fnV, fnOK_ok, ev_fnO, callK_ok, ev_call, chK3_ok, chW_bl, chK2_ok, chK_ok, ev_chain, negW_int, negK_ok, ev_neg, revTW_tup, revTK_ok, ev_revT, revLK_ok, ev_revL, revOK_ok, ev_revO, someW_int, oSomeK_ok, ev_oSome, slK3_ok, slK2_ok, slK_ok, ev_sl, slOK3_ok, slOK2_ok, slOK_ok, ev_slO, bmK2_ok, bmW_some, bmK_ok, ev_bm, idxW_tup, idxK_ok, ev_idxT, lsW_some, lenSetK_ok, ev_lenSet, isiTW_some, isiTK_ok, ev_isiT, andW_bl, orW_bl, notW_bl, andK_ok, ev_emAnd, orK_ok, ev_emOr, notK_ok, ev_emNot, ifEK_ok, ev_emIf, ev_next, seqK_nx, seqK_rt, dropK_ok, ev_drop, retK_ok, ev_ret, ev_retN, ifK_ok, ev_if, ev_brk, ev_cont, optS_some, asgK_ok, ev_asg, parK2_ok, parK_ok, ev_par, setK3_ok, setK2_ok, setK_ok, ev_setIx, ev_gname, ev_gtup, ev_gcons, ev_gnil, forK_ok, ev_for, lcV_ok, lcO_ok, lcK_ok, ev_lc, lcLK_ok, ev_lcL, wipe_nil, wipe_cons, srcW_some, iseqK_ok, ev_iseq, rng1K_ok, ev_rng1, rng2K_ok, ev_rng2, funK_nx, funK_rt, ev_fun, ev_callP, callPK_ok, List.getElem?_cons_zero, List.getElem?_cons_succ, List.set_cons_succ, List.set_cons_zero, Bool.not_true, Bool.not_false, if_true, if_false, Bool.false_eq_true, List.length_cons, List.length_nil, Nat.reduceAdd, Nat.reduceLeDiff, a1]
      rw [ev_seq]
      simp only [ev_asg, ev_dicTO, ev_cons, ev_nil, ev_lc, ev_iseq, ev_var, List.getElem?_cons_zero, List.getElem?_cons_succ, iseqK_ok, itL, srcW_some, lcK_ok, l5, if_true, wipe_cons, wipe_nil, List.set_cons_succ, List.set_cons_zero, okL]
      rw [lo]
      simp only [lcV_ok, consK_ok, ev_nil, consK2_ok, dp, asgK_ok, ev_gname, optS_some, List.set_cons_succ, List.set_cons_zero, seqK_nx]
      rw [ev_seq, ev_for]
      simp only [ev_rng1, ev_cons, ev_c, ev_nil, consK_ok, consK2_ok, rng1K_ok, rg, srcW_some, forK_ok]
      rw [hfor]
      simp only [ev_var, ev_c, ev_nil, ev_yes, ev_oNone, optR_some, optL_some, optO_some, consK2_ok, consK_ok, ev_cons, tupK_ok, ev_tup, lstK_ok, ev_lst, lstLK_ok, ev_lstL, opK2_ok, opK_ok, ev_op, tvW_bl, tvK_ok, ev_tv, tnotK_ok, ev_tnot, tandK_ok, ev_tand, torK_ok, ev_tor, fnK_ok, ev_fn, fnVK_ok, ev_fnV, fnOK_ok, ev_fnO, callK_ok, ev_call, chK3_ok, chW_bl, chK2_ok, chK_ok, ev_chain, negW_int, negK_ok, ev_neg, revTW_tup, revTK_ok, ev_revT, revLK_ok, ev_revL, revOK_ok, ev_revO, someW_int, oSomeK_ok, ev_oSome, slK3_ok, slK2_ok, slK_ok, ev_sl, slOK3_ok, slOK2_ok, slOK_ok, ev_slO, bmK2_ok, bmW_some, bmK_ok, ev_bm, idxW_tup, idxK_ok, ev_idxT, lsW_some, lenSetK_ok, ev_lenSet, isiTW_some, isiTK_ok, ev_isiT, andW_bl, orW_bl, notW_bl, andK_ok, ev_emAnd, orK_ok, ev_emOr, notK_ok, ev_emNot, ifEK_ok, ev_emIf, ev_next, seqK_nx, seqK_rt, dropK_ok, ev_drop, retK_ok, ev_ret, ev_retN, ifK_ok, ev_if, ev_brk, ev_cont, optS_some, asgK_ok, ev_asg, parK2_ok, parK_ok, ev_par, setK3_ok, setK2_ok, setK_ok, ev_setIx, ev_gname, ev_gtup, ev_gcons, ev_gnil, forK_ok, ev_for, lcV_ok, lcO_ok, lcK_ok, ev_lc, lcLK_ok, ev_lcL, wipe_nil, wipe_cons, srcW_some, iseqK_ok, ev_iseq, rng1K_ok, ev_rng1, rng2K_ok, ev_rng2, funK_nx, funK_rt, ev_fun, ev_callP, callPK_ok, List.getElem?_cons_zero, List.getElem?_cons_succ, List.set_cons_succ, List.set_cons_zero, Bool.not_true, Bool.not_false, if_true, if_false, Bool.false_eq_true, List.length_cons, List.length_nil, Nat.reduceAdd, Nat.reduceLeDiff]
    have := frz_eq hraw (w' := .int (k : Int)) (fun j hj => .inl (hf j hj)) rfl
    rw [show m__law_least_names P W0 = frz (r__law_least_names P W0) from rfl, this]
    congr 1
    apply List.ext_getElem?
    intro j
    by_cases hj : j < st.length
    · rw [List.getElem?_take_of_lt hj, hf j hj]
    · rw [List.getElem?_eq_none (by rw [List.length_take]; omega), List.getElem?_eq_none (by omega)]
  cases hR : ringsP t h with
  | nil =>
    have e := (rings_nil b).mp hR
    refine fin 0 s0 f0 (for_rt trivial rfl ?_)
    exact rd_eq (m := 0) r ly0 of0 few0 ⟨_, q0L, e⟩
  | cons c R =>
    have ne0 : ∀ q ∈ L0, q.1 ≠ q.2 := fun q hq z => by
      have e := ((a3 q).mp hq).eq rfl b.len z
      have := (rings_nil b).mpr e
      rw [hR] at this
      cases this
    obtain ⟨s1, N1, y2, y6, y7, y8, g1, g2, g3, g4, g5, g6⟩ := rd_go (st := s0) (P := P) (W0 := W0) (m := 0) (q0 := (t, h)) (x2 := none) (x5 := none) (x6 := none) (x7 := none) (x8 := none) r t4 rfl ly0 gA of0 few0 ne0 a2 of0 cl0
    have of1 : ∀ u ∈ N1, Of t u := fun u hu => g5.of u (List.mem_append_right _ hu)
    have nd1 : N1.Nodup := (List.nodup_append.mp g5.nd).2.1
    have few1 := few_of t4 nd1 of1
    have s0l : s0.length = st.length + 1 := by rw [hs0]; simp
    have ly1 : Lay s1 (.loc s0.length) N1 st.length := ⟨by rw [it_loc, sq_loc, g2.b], g2.b, .inr ⟨s0.length, rfl, by omega, by omega⟩⟩
    have f1 : ∀ j, j < st.length → s1[j]? = st[j]? := fun j hj => (g4 j hj).trans (f0 j hj)
    cases R with
    | nil =>
      have O := One.of b hR
      obtain ⟨ps, _, _, e3, e4⟩ := short_path O
      have xt := O.sub _ (best_name O)
      have hs := pls_rch (n := t.length) ps (t, h) e3
      have sL := (a3 _).mpr hs
      have en := heal_nm e4
      have hm := g6 _ sL _ xt
      have eq1 : ∃ q ∈ N1, q.1 = q.2 := by
        rcases List.mem_append.mp hm with z | z
        · exact absurd en (ne0 _ z)
        · exact ⟨_, z, en⟩
      refine fin 1 s1 f1 ?_
      rw [forW_nx trivial rfl g1]
      exact for_rt trivial rfl (rd_eq (m := 1) r ly1 of1 few1 eq1)
    | cons d R =>
      have big : 2 ≤ (ringsP t h).length := by rw [hR]; simp
      have ne1 : ∀ q ∈ N1, q.1 ≠ q.2 := fun q hq z => by
        obtain ⟨s, hs, x, hx, hr⟩ := g5.src q hq
        have os := of0 s hs
        have om := os.nm x
        have e := hr.eq (len2 om).1 (len2 om).2 z
        have rs := ((a3 s).mp hs).rings b
        have := near_few rs.2 (os.1.mem_iff.mpr hx) e
        rw [rs.1] at this
        have : (ringsP t h).length ≤ 1 := this
        omega
      obtain ⟨s2, N2, z2, z6, z7, z8, h1, h2, h3, h4, h5, h6⟩ := rd_go (st := s1) (P := P) (W0 := W0) (m := 1) (q0 := (t, h)) (x2 := y2) (x5 := some (.loc s0.length)) (x6 := y6) (x7 := y7) (x8 := y8) r t4 rfl ly1 g2.a of1 few1 ne1 g5.nd g5.of g5.cl
      have of2 : ∀ u ∈ N2, Of t u := fun u hu => h5.of u (List.mem_append_right _ hu)
      have nd2 : N2.Nodup := (List.nodup_append.mp h5.nd).2.1
      have few2 := few_of t4 nd2 of2
      have ly2 : Lay s2 (.loc s1.length) N2 st.length := ⟨by rw [it_loc, sq_loc, h2.b], h2.b, .inr ⟨s1.length, rfl, by omega, by omega⟩⟩
      have f2 : ∀ j, j < st.length → s2[j]? = st[j]? := fun j hj => (h4 j hj).trans (f1 j hj)
      -- the first name
      have hm := heal_more b hR
      obtain ⟨L, hL⟩ : ∃ L, L = lettersE (c :: d :: R) := ⟨_, rfl⟩
      rw [← hL] at hm
      have lk := letters_ok b (by rw [hR]; simp)
      rw [hR, ← hL] at lk
      have ok := cure_ok (t := t) (L := L) lk.2.1 lk.2.2
      obtain ⟨ps, hps⟩ : ∃ ps, ps = placesE t L.reverse := ⟨_, rfl⟩
      have hc : cureE t L = ps.map .pl ++ [.nm (L.headD "")] := by rw [hps]; rfl
      rw [hc] at hm ok
      have psk : ∀ p ∈ ps, p < t.length := fun p hp => ok (.pl p) (List.mem_append_left _ (List.mem_map.mpr ⟨p, hp, rfl⟩))
      have xt : L.headD "" ∈ t := ok (.nm _) (List.mem_append_right _ (List.mem_singleton_self _))
      have hs := pls_rch (n := t.length) ps (t, h) psk
      have sL := (a3 _).mpr hs
      obtain ⟨s, hsd⟩ : ∃ s : Pr, s = ((goneE t h (ps.map .pl)).1, (goneE t h (ps.map .pl)).2.1) := ⟨_, rfl⟩
      have hs : Rch t.length (t, h) s := by rw [hsd]; exact hs
      have sL : s ∈ L0 := by rw [hsd]; exact sL
      rw [gone_app] at hm
      have hm : (ringsP (nmP s (L.headD "")).1 (nmP s (L.headD "")).2).length = 1 := by rw [hsd]; exact hm
      obtain ⟨u, hu⟩ : ∃ u, u = nmP s (L.headD "") := ⟨_, rfl⟩
      rw [← hu] at hm
      have ou : Of t u := by rw [hu]; exact (of0 s sL).nm _
      have bu : Both u.1 u.2 := ⟨r.perm ou.1, ou.2.trans ou.1.symm⟩
      have uN : u ∈ N1 := by
        rcases List.mem_append.mp (g6 s sL _ xt) with z | z
        · rw [← hu] at z
          have rs := ((a3 u).mp z).rings b
          rw [rs.1] at hm
          have hm : (ringsP t h).length = 1 := hm
          omega
        · rw [hu]; exact z
      obtain ⟨c1, hc1⟩ : ∃ c1, ringsP u.1 u.2 = [c1] := by
        match hx : ringsP u.1 u.2, hm with
        | [c1], _ => exact ⟨c1, rfl⟩
      have O := One.of bu hc1
      obtain ⟨ps2, _, _, e3, e4⟩ := short_path O
      have xu := O.sub _ (best_name O)
      have hs2 := pls_rch (n := t.length) ps2 u (fun p hp => by rw [← (len2 ou).1]; exact e3 p hp)
      have vN := g5.cn u uN _ hs2
      have en := heal_nm e4
      have hm2 := h6 _ vN _ (ou.1.mem_iff.mp xu)
      have eq2 : ∃ q ∈ N2, q.1 = q.2 := by
        rcases List.mem_append.mp hm2 with z | z
        · rcases List.mem_append.mp z with z | z
          · exact absurd en (ne0 _ z)
          · exact absurd en (ne1 _ z)
        · exact ⟨_, z, en⟩
      have hmin : min 2 (c :: d :: R).length = 2 := by simp
      rw [hmin]
      refine fin 2 s2 f2 ?_
      rw [forW_nx trivial rfl g1, forW_nx trivial rfl h1]
      exact for_rt trivial rfl (rd_eq (m := 2) r ly2 of2 few2 eq2)
end
end Lw
end
section
set_option Elab.async false
set_option linter.all false
set_option maxRecDepth 100000
set_option maxHeartbeats 2000000
open PySem PySem.Spec PyProof.Rows L2
namespace Lw
open Sim
section
variable {st : Stt} {P : Program} {W0 : PySem.World}
theorem perm_same : ∀ {l t : List Str}, l.Nodup → (∀ x ∈ l, x ∈ t) → l.length = t.length → l.Perm t
  | [], t, _, _, h => by rw [List.length_eq_zero_iff.mp h.symm]
  | x :: l, t, hn, hs, hl => by
    have hx := hs x List.mem_cons_self
    obtain ⟨n1, n2⟩ := List.nodup_cons.mp hn
    have ih := perm_same (l := l) (t := t.erase x) n2 (fun y hy => (List.mem_erase_of_ne (fun z => n1 (by rw [← z]; exact hy))).mpr (hs y (List.mem_cons_of_mem _ hy))) (by
      rw [List.length_erase_of_mem hx]
      rw [List.length_cons] at hl
      omega)
    exact (List.Perm.cons x ih).trans (List.perm_cons_erase hx).symm
/-- a row, longer by each letter that is not in it -/
def extL (t l : List Str) : List (List Str) := (t.filter fun x => !decide (x ∈ l)).map fun x => l ++ [x]
noncomputable abbrev alB : SM := (sDrop (eBM (eVar 3) (aCons (eLc (iSeq (eVar 0)) (gmName 5) (tmV (eOp (fIn true) (eVar 5) (eVar 4))) (eOp fAdd (eVar 4) (eTup (aCons (eVar 5) aNil))) [5]) aNil) (mUp fExtend)))
noncomputable abbrev akB : SM := (sSeq (sAsg (eLstL aNil) (gmName 3))
    (sSeq (sFor (iSeq (eVar 1)) (gmName 4) alB)
    (sAsg (eVar 3) (gmName 1))))
theorem notin_rowL (x : Str) (xs : List Str) : fIn true st (.str x) (wS xs) = some (.bl (!decide (x ∈ xs))) := by
  show (match flatW (.str x), flatWs (xs.map .str) with | some v, some vs => some (W.bl (!inV v vs)) | _, _ => none) = _
  rw [flat_strs]
  show some (W.bl (!inV (.str x) (xs.map V.str))) = _
  rw [inV_strs]
theorem ext_lc {t l : List Str} {ρ : Ev} (hρ : 5 < ρ.length) (h4 : ρ[4]? = some (some (wS l))) (hl : l.length ≤ 100) : ∀ xs : List Str, lcW (fun _ => True) (gmName 5) (tmV (eOp (fIn true) (eVar 5) (eVar 4))) (eOp fAdd (eVar 4) (eTup (aCons (eVar 5) aNil))) ρ (xs.map .str) st = .ok (((xs.filter fun x => !decide (x ∈ l)).map fun x => l ++ [x]).map wS) st
  | [] => by rw [List.map_nil, lcW, if_pos trivial]; rfl
  | x :: xs => by
    have ih := ext_lc (t := t) hρ h4 hl xs
    have z5 : (ρ.set 5 (some (.str x)))[5]? = some (some (.str x)) := List.getElem?_set_self hρ
    have z4 : (ρ.set 5 (some (.str x)))[4]? = some (some (wS l)) := by rw [List.getElem?_set_ne (by decide)]; exact h4
    have ni := notin_rowL (st := st) x l
    have ad : fAdd st (wS l) (.tup [.str x]) = some (wS (l ++ [x])) := by
      show (if (l.map W.str).length + 1 ≤ 100000 then some (W.tup (l.map W.str ++ [.str x])) else none) = _
      rw [if_pos (by rw [List.length_map]; omega)]
      show _ = some (W.tup ((l ++ [x]).map W.str))
      rw [List.map_append]
      rfl
    have c1 : tmV (eOp (fIn true) (eVar 5) (eVar 4)) (ρ.set 5 (some (.str x))) st = .ok (!decide (x ∈ l)) st := by
      simp only [ev_var, ev_c, ev_nil, ev_yes, ev_oNone, optR_some, optL_some, optO_some, consK2_ok, consK_ok, ev_cons, tupK_ok, ev_tup, lstK_ok, ev_lst, lstLK_ok, ev_lstL, opK2_ok, opK_ok, ev_op, tvW_bl, tvK_ok, ev_tv, tnotK_ok, ev_tnot, tandK_ok, ev_tand, torK_ok, ev_tor, fnK_ok, ev_fn, fnVK_ok, ev_fnV, fnOK_ok, ev_fnO, callK_ok, ev_call, chK3_ok, chW_bl, chK2_ok, chK_ok, ev_chain, negW_int, negK_ok, ev_neg, revTW_tup, revTK_ok, ev_revT, revLK_ok, ev_revL, revOK_ok, ev_revO, someW_int, oSomeK_ok, ev_oSome, slK3_ok, slK2_ok, slK_ok, ev_sl, slOK3_ok, slOK2_ok, slOK_ok, ev_slO, bmK2_ok, bmW_some, bmK_ok, ev_bm, idxW_tup, idxK_ok, ev_idxT, lsW_some, lenSetK_ok, ev_lenSet, isiTW_some, isiTK_ok, ev_isiT, andW_bl, orW_bl, notW_bl, andK_ok, ev_emAnd, orK_ok, ev_emOr, notK_ok, ev_emNot, ifEK_ok, ev_emIf, ev_next, seqK_nx, seqK_rt, dropK_ok, ev_drop, retK_ok, ev_ret, ev_retN, ifK_ok, ev_if, ev_brk, ev_cont, optS_some, asgK_ok, ev_asg, parK2_ok, parK_ok, ev_par, setK3_ok, setK2_ok, setK_ok, ev_setIx, ev_gname, ev_gtup, ev_gcons, ev_gnil, forK_ok, ev_for, lcV_ok, lcO_ok, lcK_ok, ev_lc, lcLK_ok, ev_lcL, wipe_nil, wipe_cons, srcW_some, iseqK_ok, ev_iseq, rng1K_ok, ev_rng1, rng2K_ok, ev_rng2, funK_nx, funK_rt, ev_fun, ev_callP, callPK_ok, List.getElem?_cons_zero, List.getElem?_cons_succ, List.set_cons_succ, List.set_cons_zero, Bool.not_true, Bool.not_false, if_true, if_false, Bool.false_eq_true, List.length_cons, List.length_nil, Nat.reduceAdd, Nat.reduceLeDiff, z5, z4, ni]
    have m1 : eOp fAdd (eVar 4) (eTup (aCons (eVar 5) aNil)) (ρ.set 5 (some (.str x))) st = .ok (wS (l ++ [x])) st := by
      simp only [ev_var, ev_c, ev_nil, ev_yes, ev_oNone, optR_some, optL_some, optO_some, consK2_ok, consK_ok, ev_cons, tupK_ok, ev_tup, lstK_ok, ev_lst, lstLK_ok, ev_lstL, opK2_ok, opK_ok, ev_op, tvW_bl, tvK_ok, ev_tv, tnotK_ok, ev_tnot, tandK_ok, ev_tand, torK_ok, ev_tor, fnK_ok, ev_fn, fnVK_ok, ev_fnV, fnOK_ok, ev_fnO, callK_ok, ev_call, chK3_ok, chW_bl, chK2_ok, chK_ok, ev_chain, negW_int, negK_ok, ev_neg, revTW_tup, revTK_ok, ev_revT, revLK_ok, ev_revL, revOK_ok, ev_revO, someW_int, oSomeK_ok, ev_oSome, slK3_ok, slK2_ok, slK_ok, ev_sl, slOK3_ok, slOK2_ok, slOK_ok, ev_slO, bmK2_ok, bmW_some, bmK_ok, ev_bm, idxW_tup, idxK_ok, ev_idxT, lsW_some, lenSetK_ok, ev_lenSet, isiTW_some, isiTK_ok, ev_isiT, andW_bl, orW_bl, notW_bl, andK_ok, ev_emAnd, orK_ok, ev_emOr, notK_ok, ev_emNot, ifEK_ok, ev_emIf, ev_next, seqK_nx, seqK_rt, dropK_ok, ev_drop, retK_ok, ev_ret, ev_retN, ifK_ok, ev_if, ev_brk, ev_cont, optS_some, asgK_ok, ev_asg, parK2_ok, parK_ok, ev_par, setK3_ok, setK2_ok, setK_ok, ev_setIx, ev_gname, ev_gtup, ev_gcons, ev_gnil, forK_ok, ev_for, lcV_ok, lcO_ok, lcK_ok, ev_lc, lcLK_ok, ev_lcL, wipe_nil, wipe_cons, srcW_some, iseqK_ok, ev_iseq, rng1K_ok, ev_rng1, rng2K_ok, ev_rng2, funK_nx, funK_rt, ev_fun, ev_callP, callPK_ok, List.getElem?_cons_zero, List.getElem?_cons_succ, List.set_cons_succ, List.set_cons_zero, Bool.not_true, Bool.not_false, if_true, if_false, Bool.false_eq_true, List.length_cons, List.length_nil, Nat.reduceAdd, Nat.reduceLeDiff, z5, z4, ad]
    have g1 : gmName 5 st (.str x) ρ = some (ρ.set 5 (some (.str x))) := rfl
    rw [List.map_cons, lcW, if_pos trivial, g1, List.filter_cons]
    dsimp only
    rw [c1]
    by_cases e : x ∈ l
    · rw [decide_eq_true e]
      simp only [Rs.cb, Bool.not_true, Bool.false_eq_true, if_false, ih]
    · rw [decide_eq_false e]
      simp only [Rs.cb, Bool.not_false, if_true, m1, ih, List.map_cons]
theorem al_loop {t : List Str} {x1 x2 : Option W} {L : Nat} {ok : Stt → Prop} (t4 : t.length ≤ 16) : ∀ (Ls acc : List (List Str)) (s : Stt) (x4 x5 : Option W), (∀ l ∈ Ls, l.length ≤ 100) → (∀ s', s'.length = s.length → (∀ j, j ≠ L → s'[j]? = s[j]?) → ok s') → s[L]? = some (some (.lst (acc.map wS))) → acc.length + Ls.length * t.length ≤ 90000 →
    ∃ s' y4 y5, forW ok (gmName 4) alB (Ls.map wS) [some (wS t), x1, x2, some (.loc L), x4, x5] s = .nx [some (wS t), x1, x2, some (.loc L), y4, y5] s' ∧ s'[L]? = some (some (.lst ((acc ++ Ls.flatMap (extL t)).map wS))) ∧ s'.length = s.length ∧ ∀ j, j ≠ L → s'[j]? = s[j]?
  | [], acc, s, x4, x5, _, hk, hL, _ => ⟨s, x4, x5, by rw [List.map_nil, forW_nil (hk s rfl fun _ _ => rfl)], by simpa using hL, rfl, fun _ _ => rfl⟩
  | l :: Ls, acc, s, x4, x5, hl, hk, hL, hz => by
    rw [List.length_cons, Nat.succ_mul] at hz
    have lL : L < s.length := (List.getElem?_eq_some_iff.mp hL).1
    have hl1 := hl l List.mem_cons_self
    have lc := ext_lc (st := s) (t := t) (l := l) (ρ := [some (wS t), x1, x2, some (.loc L), some (wS l), none]) (by simp) rfl hl1 t
    have le : (extL t l).length ≤ t.length := by
      unfold extL
      rw [List.length_map]
      exact List.length_filter_le _ _
    have lx : lstX s (.loc L) = some (acc.map wS) := by simp only [lstX, hL]
    obtain ⟨s1, hs1⟩ : ∃ s1, s1 = s.set L (some (Ob.lst ((acc ++ extL t l).map wS))) := ⟨_, rfl⟩
    have up : mUp fExtend (.loc L) [.lst ((extL t l).map wS)] s = .ok .non s1 := by
      have h5 : (acc.map wS).length + ((extL t l).map wS).length < 100000 := by rw [List.length_map, List.length_map]; omega
      have fe : fExtend (acc.map wS) [.lst ((extL t l).map wS)] s = some (.non, acc.map wS ++ (extL t l).map wS) := by
        unfold fExtend
        dsimp only
        rw [show lstX s (.lst ((extL t l).map wS)) = some ((extL t l).map wS) from rfl]
        dsimp only
        rw [if_pos (by omega)]
      unfold mUp
      dsimp only
      rw [hL]
      dsimp only
      rw [fe]
      dsimp only
      rw [hs1, List.map_append]
    have it : itemsOf s (wS t) = some (t.map .str) := rfl
    have okt : okOf (wS t) (t.map .str) = fun _ => True := rfl
    have l5 : (t.map W.str).length ≤ 100000 := by rw [List.length_map]; omega
    have hL1 : s1[L]? = some (some (.lst ((acc ++ extL t l).map wS))) := by rw [hs1]; exact List.getElem?_set_self lL
    have on : ∀ j, j ≠ L → s1[j]? = s[j]? := fun j hj => by rw [hs1, List.getElem?_set_ne (Ne.symm hj)]
    have sl : s1.length = s.length := by rw [hs1, List.length_set]
    obtain ⟨s', y4, y5, e1, e2, e3, e4⟩ := al_loop (x1 := x1) (x2 := x2) t4 Ls (acc ++ extL t l) s1 (some (wS l)) x5 (fun u hu => hl u (List.mem_cons_of_mem _ hu)) (fun s' h1 h2 => hk s' (h1.trans sl) fun j hj => (h2 j hj).trans (on j hj)) hL1 (by rw [List.length_append]; omega)
    refine ⟨s', y4, y5, ?_, by rw [e2, List.flatMap_cons, List.append_assoc], e3.trans sl, fun j hj => (e4 j hj).trans (on j hj)⟩
    rw [List.map_cons, forW_nx (ρ1 := [some (wS t), x1, x2, some (.loc L), some (wS l), x5]) (ρ2 := [some (wS t), x1, x2, some (.loc L), some (wS l), x5]) (st2 := s1) (hk s rfl fun _ _ => rfl) rfl ?_]
    · exact e1
    · unfold alB
      simp only [ev_drop, ev_bm, ev_var, List.getElem?_cons_zero, List.getElem?_cons_succ, bmK_ok, lx, bmW_some, ev_cons, ev_lc, ev_iseq, iseqK_ok, it, srcW_some, lcK_ok, l5, if_true, wipe_cons, wipe_nil, List.set_cons_succ, List.set_cons_zero, okt]
      rw [lc]
      have up' : mUp fExtend (.loc L) [.lst (((t.filter fun x => !decide (x ∈ l)).map fun x => l ++ [x]).map wS)] s = .ok .non s1 := up
      simp only [lcV_ok, consK_ok, ev_nil, consK2_ok, bmK2_ok, up', dropK_ok]
def linesE (t : List Str) : Nat → List (List Str)
  | 0 => [[]]
  | k + 1 => (linesE t k).flatMap (extL t)
theorem ext_mem {t l m : List Str} (h : m ∈ extL t l) : ∃ x, x ∈ t ∧ x ∉ l ∧ m = l ++ [x] := by
  unfold extL at h
  obtain ⟨x, hx, rfl⟩ := List.mem_map.mp h
  obtain ⟨h1, h2⟩ := List.mem_filter.mp hx
  exact ⟨x, h1, by simpa using h2, rfl⟩
theorem lines_of {t : List Str} : ∀ {k : Nat}, ∀ l ∈ linesE t k, l.length = k ∧ l.Nodup ∧ ∀ x ∈ l, x ∈ t
  | 0, l, h => by rw [List.mem_singleton.mp (show l ∈ [[]] from h)]; exact ⟨rfl, List.nodup_nil, fun x h => (by cases h)⟩
  | k + 1, l, h => by
    rw [linesE] at h
    obtain ⟨m, hm, h⟩ := List.mem_flatMap.mp h
    obtain ⟨x, hx, hn, rfl⟩ := ext_mem h
    obtain ⟨a1, a2, a3⟩ := lines_of m hm
    refine ⟨by rw [List.length_append, a1]; rfl, ?_, fun y hy => (List.mem_append.mp hy).elim (a3 y) fun z => by rw [List.mem_singleton.mp z]; exact hx⟩
    rw [List.nodup_append]
    exact ⟨a2, by simp, fun a ha b hb z => hn (by rw [← List.mem_singleton.mp hb, ← z]; exact ha)⟩
theorem lines_len {t : List Str} (t4 : t.length ≤ 4) : ∀ k, (linesE t k).length ≤ 4 ^ k
  | 0 => Nat.le_refl _
  | k + 1 => by
    have ih := lines_len t4 k
    rw [linesE, List.length_flatMap, Nat.pow_succ]
    have : ∀ Ls : List (List Str), (Ls.map fun l => (extL t l).length).sum ≤ Ls.length * 4 := by
      intro Ls
      induction Ls with
      | nil => exact Nat.zero_le _
      | cons l Ls ih =>
        have : (extL t l).length ≤ t.length := by
          unfold extL
          rw [List.length_map]
          exact List.length_filter_le _ _
        rw [List.map_cons, List.sum_cons, List.length_cons, Nat.succ_mul]
        omega
    exact Nat.le_trans (this _) (Nat.mul_le_mul_right 4 ih)
theorem lines_some {t : List Str} (hn : t.Nodup) : ∀ k, k ≤ t.length → linesE t k ≠ []
  | 0, _ => by simp [linesE]
  | k + 1, h => by
    have ih := lines_some hn k (by omega)
    obtain ⟨l, q, e⟩ : ∃ l q, linesE t k = l :: q := by
      cases h : linesE t k with
      | nil => exact absurd h ih
      | cons l q => exact ⟨l, q, rfl⟩
    obtain ⟨a1, a2, a3⟩ := lines_of l (by rw [e]; exact List.mem_cons_self)
    intro z
    rw [linesE, e, List.flatMap_cons, List.append_eq_nil_iff] at z
    have z := z.1
    unfold extL at z
    rw [List.map_eq_nil_iff, List.filter_eq_nil_iff] at z
    have sub : ∀ x ∈ t, x ∈ l := fun x hx => by
      have := z x hx
      simpa using this
    have := nodup_le t l hn sub
    omega
theorem ak_loop {t : List Str} (t4 : t.length ≤ 4) : ∀ (k m : Nat) (s : Stt) (v : W) (x2 x3 x4 x5 : Option W), m + k ≤ 4 → (v = .lst ((linesE t m).map wS) ∨ ∃ B, v = .loc B ∧ B < s.length ∧ s[B]? = some (some (.lst ((linesE t m).map wS)))) →
    ∃ s' v' y2 y3 y4 y5, forW (fun _ => True) (gmName 2) akB ((List.range' m k).map fun (q : Nat) => W.int (q : Int)) [some (wS t), some v, x2, x3, x4, x5] s = .nx [some (wS t), some v', y2, y3, y4, y5] s' ∧ (∀ j, j < s.length → s'[j]? = s[j]?) ∧ s.length ≤ s'.length ∧ (v' = v ∧ k = 0 ∨ ∃ B, v' = .loc B ∧ s.length ≤ B ∧ B < s'.length ∧ s'[B]? = some (some (.lst ((linesE t (m + k)).map wS))))
  | 0, m, s, v, x2, x3, x4, x5, _, hv => ⟨s, v, x2, x3, x4, x5, forW_nil trivial, fun _ _ => rfl, Nat.le_refl _, .inl ⟨rfl, rfl⟩⟩
  | k + 1, m, s, v, x2, x3, x4, x5, hm, hv => by
    have ll := lines_len t4 m
    have p3 : 4 ^ m ≤ 4 ^ 3 := Nat.pow_le_pow_right (by decide) (by omega)
    have e3 : (4 : Nat) ^ 3 = 64 := by decide
    have hz : (linesE t m).length * t.length ≤ 64 * 4 := Nat.mul_le_mul (by omega) t4
    obtain ⟨s1, hs1⟩ : ∃ s1, s1 = s ++ [some (Ob.lst ([] : List W))] := ⟨_, rfl⟩
    have gL : s1[s.length]? = some (some (.lst (([] : List (List Str)).map wS))) := by rw [hs1]; exact List.getElem?_concat_length
    have l1 : s1.length = s.length + 1 := by rw [hs1]; simp
    have it1 : itemsOf s1 v = some ((linesE t m).map wS) := by
      rcases hv with rfl | ⟨B, rfl, hB, h⟩
      · rfl
      · rw [it_loc, sq_loc, hs1, List.getElem?_append_left hB, h]
    obtain ⟨s2, y4, y5, a1, a2, a3, a4⟩ := al_loop (t := t) (x1 := some v) (x2 := some (.int (m : Int))) (L := s.length) (ok := okOf v ((linesE t m).map wS)) (by omega) (linesE t m) [] s1 x4 x5 (fun l hl => by have := (lines_of l hl).1; omega) (fun s' h1 h2 => by
      rcases hv with rfl | ⟨B, rfl, hB, h⟩
      · trivial
      · show s'[B]? = _
        rw [h2 B (by omega), hs1, List.getElem?_append_left hB, h]) gL (by simp; omega)
    rw [List.nil_append] at a2
    have a2 : s2[s.length]? = some (some (.lst ((linesE t (m + 1)).map wS))) := a2
    obtain ⟨s', v', z2, z3, z4, z5, b1, b2, b3, b4⟩ := ak_loop t4 k (m + 1) s2 (.loc s.length) (some (.int (m : Int))) (some (.loc s.length)) y4 y5 (by omega) (.inr ⟨s.length, rfl, by omega, a2⟩)
    refine ⟨s', v', z2, z3, z4, z5, ?_, fun j hj => by rw [b2 j (by omega), a4 j (by omega), hs1, List.getElem?_append_left hj], by omega, .inr ?_⟩
    · have body : akB [some (wS t), some v, some (.int (m : Int)), x3, x4, x5] s = .nx [some (wS t), some (.loc s.length), some (.int (m : Int)), some (.loc s.length), y4, y5] s2 := by
        unfold akB
        rw [ev_seq]; simp only [ev_var, ev_c, ev_nil, ev_yes, ev_oNone, optR_some, optL_some, optO_some, consK2_ok, consK_ok, ev_cons, tupK_ok, ev_tup, lstK_ok, ev_lst, lstLK_ok, ev_lstL, opK2_ok, opK_ok, ev_op, tvW_bl, tvK_ok, ev_tv, tnotK_ok, ev_tnot, tandK_ok, ev_tand, torK_ok, ev_tor, fnK_ok, ev_fn, fnVK_ok, ev_fnV, fnOK_ok, ev_fnO, callK_ok, ev_call, chK3_ok, chW_bl, chK2_ok, chK_ok, ev_chain, negW_int, negK_ok, ev_neg, revTW_tup, revTK_ok, ev_revT, revLK_ok, ev_revL, revOK_ok, ev_revO, someW_int, oSomeK_ok, ev_oSome, slK3_ok, slK2_ok, slK_ok, ev_sl, slOK3_ok, slOK2_ok, slOK_ok, ev_slO, bmK2_ok, bmW_some, bmK_ok, ev_bm, idxW_tup, idxK_ok, ev_idxT, lsW_some, lenSetK_ok, ev_lenSet, isiTW_some, isiTK_ok, ev_isiT, andW_bl, orW_bl, notW_bl, andK_ok, ev_emAnd, orK_ok, ev_emOr, notK_ok, ev_emNot, ifEK_ok, ev_emIf, ev_next, seqK_nx, seqK_rt, dropK_ok, ev_drop, retK_ok, ev_ret, ev_retN, ifK_ok, ev_if, ev_brk, ev_cont, optS_some, asgK_ok, ev_asg, parK2_ok, parK_ok, ev_par, setK3_ok, setK2_ok, setK_ok, ev_setIx, ev_gname, ev_gtup, ev_gcons, ev_gnil, forK_ok, ev_for, lcV_ok, lcO_ok, lcK_ok, ev_lc, lcLK_ok, ev_lcL, wipe_nil, wipe_cons, srcW_some, iseqK_ok, ev_iseq, rng1K_ok, ev_rng1, rng2K_ok, ev_rng2, funK_nx, funK_rt, ev_fun, ev_callP, callPK_ok, List.getElem?_cons_zero, List.getElem?_cons_succ, List.set_cons_succ, List.set_cons_zero, Bool.not_true, Bool.not_false, if_true, if_false, Bool.false_eq_true, List.length_cons, List.length_nil, Nat.reduceAdd, Nat.reduceLeDiff]
        rw [← hs1, ev_seq, ev_for]
        simp only [ev_iseq, ev_var, List.getElem?_cons_zero, List.getElem?_cons_succ, iseqK_ok, it1, srcW_some, forK_ok]
        rw [a1]
        simp only [ev_var, ev_c, ev_nil, ev_yes, ev_oNone, optR_some, optL_some, optO_some, consK2_ok, consK_ok, ev_cons, tupK_ok, ev_tup, lstK_ok, ev_lst, lstLK_ok, ev_lstL, opK2_ok, opK_ok, ev_op, tvW_bl, tvK_ok, ev_tv, tnotK_ok, ev_tnot, tandK_ok, ev_tand, torK_ok, ev_tor, fnK_ok, ev_fn, fnVK_ok, ev_fnV, fnOK_ok, ev_fnO, callK_ok, ev_call, chK3_ok, chW_bl, chK2_ok, chK_ok, ev_chain, negW_int, negK_ok, ev_neg, revTW_tup, revTK_ok, ev_revT, revLK_ok, ev_revL, revOK_ok, ev_revO, someW_int, oSomeK_ok, ev_oSome, slK3_ok, slK2_ok, slK_ok, ev_sl, slOK3_ok, slOK2_ok, slOK_ok, ev_slO, bmK2_ok, bmW_some, bmK_ok, ev_bm, idxW_tup, idxK_ok, ev_idxT, lsW_some, lenSetK_ok, ev_lenSet, isiTW_some, isiTK_ok, ev_isiT, andW_bl, orW_bl, notW_bl, andK_ok, ev_emAnd, orK_ok, ev_emOr, notK_ok, ev_emNot, ifEK_ok, ev_emIf, ev_next, seqK_nx, seqK_rt, dropK_ok, ev_drop, retK_ok, ev_ret, ev_retN, ifK_ok, ev_if, ev_brk, ev_cont, optS_some, asgK_ok, ev_asg, parK2_ok, parK_ok, ev_par, setK3_ok, setK2_ok, setK_ok, ev_setIx, ev_gname, ev_gtup, ev_gcons, ev_gnil, forK_ok, ev_for, lcV_ok, lcO_ok, lcK_ok, ev_lc, lcLK_ok, ev_lcL, wipe_nil, wipe_cons, srcW_some, iseqK_ok, ev_iseq, rng1K_ok, ev_rng1, rng2K_ok, ev_rng2, funK_nx, funK_rt, ev_fun, ev_callP, callPK_ok, List.getElem?_cons_zero, List.getElem?_cons_succ, List.set_cons_succ, List.set_cons_zero, Bool.not_true, Bool.not_false, if_true, if_false, Bool.false_eq_true, List.length_cons, List.length_nil, Nat.reduceAdd, Nat.reduceLeDiff]
      rw [List.range'_succ, List.map_cons, forW_nx trivial rfl body]
      exact b1
    · rcases b4 with ⟨h1, h2⟩ | ⟨B, h1, h2, h3, h4⟩
      · subst h2
        exact ⟨s.length, h1, Nat.le_refl _, by omega, by rw [b2 _ (by omega)]; exact a2⟩
      · exact ⟨B, h1, by omega, h3, by rw [show m + (k + 1) = m + 1 + k by omega]; exact h4⟩
theorem all_lines_ok {t : List Str} (r : Row t) (t4 : t.length ≤ 4) : m__law_all_lines [wS t] st = .ok (.lst ((linesE t t.length).map wS)) st := by
  obtain ⟨s', v', y2, y3, y4, y5, b1, b2, b3, b4⟩ := ak_loop (t := t) t4 t.length 0 st (.lst [.tup []]) none none none none (by omega) (.inl rfl)
  have tp := r.pos
  obtain ⟨B, rfl, h2, h3, h4⟩ : ∃ B, v' = .loc B ∧ st.length ≤ B ∧ B < s'.length ∧ s'[B]? = some (some (.lst ((linesE t (0 + t.length)).map wS))) := by
    rcases b4 with ⟨_, h⟩ | h
    · omega
    · exact h
  rw [Nat.zero_add] at h4
  have hr : (List.range' 0 t.length).map (fun (q : Nat) => W.int (q : Int)) = rngW 0 t.length := by
    rw [rng_natB, List.range_eq_range']
  rw [hr] at b1
  have lT : fLen st [wS t] = some (.int (t.length : Int)) := by simp [fLen, Sim.lenOf]
  have rg : rng1W [.int (t.length : Int)] st = .ok ⟨rngW 0 t.length, fun _ => True⟩ st := rng1_nat (by omega)
  have hraw : r__law_all_lines [wS t] st = .ok (.loc B) s' := by
    unfold r__law_all_lines
    rw [ev_fun, show entry 6 [wS t] = [some (wS t), none, none, none, none, none] from rfl]
    rw [ev_seq]; simp only [ev_var, ev_c, ev_nil, ev_yes, ev_oNone, optR_some, optL_some, optO_some, consK2_ok, consK_ok, ev_cons, tupK_ok, ev_tup, lstK_ok, ev_lst, lstLK_ok, ev_lstL, opK2_ok, opK_ok, ev_op, tvW_bl, tvK_ok, ev_tv, tnotK_ok, ev_tnot, tandK_ok, ev_tand, torK_ok, ev_tor, fnK_ok, ev_fn, fnVK_ok, ev_fnV, fnOK_ok, ev_fnO, callK_ok, ev_call, chK3_ok, chW_bl, chK2_ok, chK_ok, ev_chain, negW_int, negK_ok, ev_neg, revTW_tup, revTK_ok, ev_revT, revLK_ok, ev_revL, revOK_ok, ev_revO, someW_int, oSomeK_ok, ev_oSome, slK3_ok, slK2_ok, slK_ok, ev_sl, slOK3_ok, slOK2_ok, slOK_ok, ev_slO, bmK2_ok, bmW_some, bmK_ok, ev_bm, idxW_tup, idxK_ok, ev_idxT, lsW_some, lenSetK_ok, ev_lenSet, isiTW_some, isiTK_ok, ev_isiT, andW_bl, orW_bl, notW_bl, andK_ok, ev_emAnd, orK_ok, ev_emOr, notK_ok, ev_emNot, ifEK_ok, ev_emIf, ev_next, seqK_nx, seqK_rt, dropK_ok, ev_drop, retK_ok, ev_ret, ev_retN, ifK_ok, ev_if, ev_brk, ev_cont, optS_some, asgK_ok, ev_asg, parK2_ok, parK_ok, ev_par, setK3_ok, setK2_ok, setK_ok, ev_setIx, ev_gname, ev_gtup, ev_gcons, ev_gnil, forK_ok, ev_for, lcV_ok, lcO_ok, lcK_ok, ev_lc, lcLK_ok, ev_lcL, wipe_nil, wipe_cons, srcW_some, iseqK_ok, ev_iseq, rng1K_ok, ev_rng1, rng2K_ok, ev_rng2, funK_nx, funK_rt, ev_fun, ev_callP, callPK_ok, List.getElem?_cons_zero, List.getElem?_cons_succ, List.set_cons_succ, List.set_cons_zero, Bool.not_true, Bool.not_false, if_true, if_false, Bool.false_eq_true, List.length_cons, List.length_nil, Nat.reduceAdd, Nat.reduceLeDiff]
    rw [ev_seq, ev_for]
    simp only [ev_rng1, ev_cons, ev_fn, ev_var, ev_nil, List.getElem?_cons_zero, List.getElem?_cons_succ, consK_ok, consK2_ok, fnK_ok, lT, optR_some, rng1K_ok, rg, srcW_some, forK_ok]
    rw [show forW (fun _ => True) (gmName 2) _ (rngW 0 t.length) [some (wS t), some (.lst [.tup []]), none, none, none, none] st = _ from b1]
    simp only [ev_var, ev_c, ev_nil, ev_yes, ev_oNone, optR_some, optL_some, optO_some, consK2_ok, consK_ok, ev_cons, tupK_ok, ev_tup, lstK_ok, ev_lst, lstLK_ok, ev_lstL, opK2_ok, opK_ok, ev_op, tvW_bl, tvK_ok, ev_tv, tnotK_ok, ev_tnot, tandK_ok, ev_tand, torK_ok, ev_tor, fnK_ok, ev_fn, fnVK_ok, ev_fnV, fnOK_ok, ev_fnO, callK_ok, ev_call, chK3_ok, chW_bl, chK2_ok, chK_ok, ev_chain, negW_int, negK_ok, ev_neg, revTW_tup, revTK_ok, ev_revT, revLK_ok, ev_revL, revOK_ok, ev_revO, someW_int, oSomeK_ok, ev_oSome, slK3_ok, slK2_ok, slK_ok, ev_sl, slOK3_ok, slOK2_ok, slOK_ok, ev_slO, bmK2_ok, bmW_some, bmK_ok, ev_bm, idxW_tup, idxK_ok, ev_idxT, lsW_some, lenSetK_ok, ev_lenSet, isiTW_some, isiTK_ok, ev_isiT, andW_bl, orW_bl, notW_bl, andK_ok, ev_emAnd, orK_ok, ev_emOr, notK_ok, ev_emNot, ifEK_ok, ev_emIf, ev_next, seqK_nx, seqK_rt, dropK_ok, ev_drop, retK_ok, ev_ret, ev_retN, ifK_ok, ev_if, ev_brk, ev_cont, optS_some, asgK_ok, ev_asg, parK2_ok, parK_ok, ev_par, setK3_ok, setK2_ok, setK_ok, ev_setIx, ev_gname, ev_gtup, ev_gcons, ev_gnil, forK_ok, ev_for, lcV_ok, lcO_ok, lcK_ok, ev_lc, lcLK_ok, ev_lcL, wipe_nil, wipe_cons, srcW_some, iseqK_ok, ev_iseq, rng1K_ok, ev_rng1, rng2K_ok, ev_rng2, funK_nx, funK_rt, ev_fun, ev_callP, callPK_ok, List.getElem?_cons_zero, List.getElem?_cons_succ, List.set_cons_succ, List.set_cons_zero, Bool.not_true, Bool.not_false, if_true, if_false, Bool.false_eq_true, List.length_cons, List.length_nil, Nat.reduceAdd, Nat.reduceLeDiff]
  have hfz : fzW st.length s' (.loc B) = some (.lst ((linesE t t.length).map wS)) := by
    rw [fzW, if_neg (by omega), h4]
    dsimp only
    rw [if_pos]
    refine nls_ok _ _ ?_
    rw [nls_all]
    intro w hw
    obtain ⟨l, _, rfl⟩ := List.mem_map.mp hw
    rw [nlW]; exact nl_strs l
  have ht : s'.take st.length = st := by
    apply List.ext_getElem?
    intro j
    by_cases hj : j < st.length
    · rw [List.getElem?_take_of_lt hj, b2 j hj]
    · rw [List.getElem?_eq_none (by rw [List.length_take]; omega), List.getElem?_eq_none (by omega)]
  have := frz_eq hraw (fun j hj => .inl (b2 j hj)) hfz
  rw [ht] at this
  exact this
noncomputable abbrev tuB (P : Program) (w : PySem.World) : SM := (sSeq (sAsg (eTup (aCons (eVar 3) (aCons (eOp fIx (eVar 4) (eCall m__law_draw (aCons (eVar 2) (aCons (eFn fLen (aCons (eVar 4) aNil)) aNil)))) aNil))) (gmName 6))
    (sIf (tmV (eOp fNe (eCall m_names_needed (aCons (eVar 6) aNil)) (eCall (m__law_least_names P w) (aCons (eVar 6) aNil)))) (sRet (eC (.bl false))) sNext))
theorem tu_loop {t : List Str} {i : Nat} {x0 x1 : Option W} (r : Row t) (t4 : t.length ≤ 4) : ∀ (ks : List W) (N : Nat) (s : Stt) (x5 x6 : Option W), Sp s i (N + ks.length) →
    ∃ s' y5 y6, forW (fun _ => True) (gmName 5) (tuB P W0) ks [x0, x1, some (.loc i), some (wS t), some (.lst ((linesE t t.length).map wS)), x5, x6] s = .nx [x0, x1, some (.loc i), some (wS t), some (.lst ((linesE t t.length).map wS)), y5, y6] s'
  | [], N, s, x5, x6, _ => ⟨s, x5, x6, forW_nil trivial⟩
  | k :: ks, N, s, x5, x6, sp => by
    have lp : 1 ≤ (linesE t t.length).length := List.length_pos_iff.mpr (lines_some r.nd t.length (Nat.le_refl _))
    have ll := lines_len t4 t.length
    have p3 : 4 ^ t.length ≤ 4 ^ 4 := Nat.pow_le_pow_right (by decide) t4
    have e3 : (4 : Nat) ^ 4 = 256 := by decide
    obtain ⟨v, s1, w1, w2, w3, d⟩ := draw_ok (st := s) (N := N + ks.length) (n := ((linesE t t.length).length : Int)) (by omega) (by omega) (sp.le (by rw [List.length_cons]; omega))
    obtain ⟨p, rfl⟩ : ∃ p : Nat, v = p := ⟨v.toNat, by omega⟩
    have hp : p < (linesE t t.length).length := by omega
    obtain ⟨h, hh⟩ : ∃ h, h = (linesE t t.length)[p] := ⟨_, rfl⟩
    obtain ⟨a1, a2, a3⟩ := lines_of h (by rw [hh]; exact List.getElem_mem hp)
    have b : Both t h := ⟨r, perm_same a2 a3 a1⟩
    have lL : fLen s [.lst ((linesE t t.length).map wS)] = some (.int ((linesE t t.length).length : Int)) := by simp [fLen, Sim.lenOf]
    have ix : fIx s1 (.lst ((linesE t t.length).map wS)) (.int (p : Int)) = some (wS h) := by
      show atI ((linesE t t.length).map wS) (p : Int) = _
      rw [Sim.atI_nat, List.getElem?_map, List.getElem?_eq_getElem hp, hh]
      rfl
    have nn := names_needed_ok (st := s1) b
    have le := least_ok (P := P) (W0 := W0) (st := s1) b t4
    have ne : ∀ n : Int, fNe s1 (.int n) (.int n) = some (.bl false) := fun n => fNe_same (by rw [datW])
    have le : m__law_least_names P W0 [.tup [wS t, wS h]] s1 = .ok (.int ((min 2 (ringsP t h).length : Nat) : Int)) s1 := le
    obtain ⟨Q, hQ⟩ : ∃ Q, Q = W.lst ((linesE t t.length).map wS) := ⟨_, rfl⟩
    obtain ⟨T, hT⟩ : ∃ T, T = wS t := ⟨_, rfl⟩
    obtain ⟨s', y5, y6, e⟩ := tu_loop (x0 := x0) (x1 := x1) r t4 ks N s1 (some k) (some (.tup [wS t, wS h])) d.sp
    refine ⟨s', y5, y6, ?_⟩
    rw [← hQ, ← hT] at e ⊢
    rw [← hQ] at lL ix
    rw [← hT] at nn le
    rw [forW_nx (ρ1 := [x0, x1, some (.loc i), some T, some Q, some k, x6]) (ρ2 := [x0, x1, some (.loc i), some T, some Q, some k, some (.tup [T, wS h])]) (st2 := s1) trivial rfl ?_]
    · exact e
    · unfold tuB
      rw [ev_seq]; simp only [ev_var, ev_c, ev_nil, ev_yes, ev_oNone, optR_some, optL_some, optO_some, consK2_ok, consK_ok, ev_cons, tupK_ok, ev_tup, lstK_ok, ev_lst, lstLK_ok, ev_lstL, opK2_ok, opK_ok, ev_op, tvW_bl, tvK_ok, ev_tv, tnotK_ok, ev_tnot, tandK_ok, ev_tand, torK_ok, ev_tor, fnK_ok, ev_fn, fnVK_ok, ev_fnV, fnOK_ok, ev_fnO, callK_ok, ev_call, chK3_ok, chW_bl, chK2_ok, chK_ok, ev_chain, negW_int, negK_ok, ev_neg, revTW_tup, revTK_ok, ev_revT, revLK_ok, ev_revL, revOK_ok, ev_revO, someW_int, oSomeK_ok, ev_oSome, slK3_ok, slK2_ok, slK_ok, ev_sl, slOK3_ok, slOK2_ok, slOK_ok, ev_slO, bmK2_ok, bmW_some, bmK_ok, ev_bm, idxW_tup, idxK_ok, ev_idxT, lsW_some, lenSetK_ok, ev_lenSet, isiTW_some, isiTK_ok, ev_isiT, andW_bl, orW_bl, notW_bl, andK_ok, ev_emAnd, orK_ok, ev_emOr, notK_ok, ev_emNot, ifEK_ok, ev_emIf, ev_next, seqK_nx, seqK_rt, dropK_ok, ev_drop, retK_ok, ev_ret, ev_retN, ifK_ok, ev_if, ev_brk, ev_cont, optS_some, asgK_ok, ev_asg, parK2_ok, parK_ok, ev_par, setK3_ok, setK2_ok, setK_ok, ev_setIx, ev_gname, ev_gtup, ev_gcons, ev_gnil, forK_ok, ev_for, lcV_ok, lcO_ok, lcK_ok, ev_lc, lcLK_ok, ev_lcL, wipe_nil, wipe_cons, srcW_some, iseqK_ok, ev_iseq, rng1K_ok, ev_rng1, rng2K_ok, ev_rng2, funK_nx, funK_rt, ev_fun, ev_callP, callPK_ok, List.getElem?_cons_zero, List.getElem?_cons_succ, List.set_cons_succ, List.set_cons_zero, Bool.not_true, Bool.not_false, if_true, if_false, Bool.false_eq_true, List.length_cons, List.length_nil, Nat.reduceAdd, Nat.reduceLeDiff, lL, w1, ix]
      simp only [ev_var, ev_c, ev_nil, ev_yes, ev_oNone, optR_some, optL_some, optO_some, consK2_ok, consK_ok, ev_cons, tupK_ok, ev_tup, lstK_ok, ev_lst, lstLK_ok, ev_lstL, opK2_ok, opK_ok, ev_op, tvW_bl, tvK_ok, ev_tv, tnotK_ok, ev_tnot, tandK_ok, ev_tand, torK_ok, ev_tor, fnK_ok, ev_fn, fnVK_ok, ev_fnV, fnOK_ok, ev_fnO, callK_ok, ev_call, chK3_ok, chW_bl, chK2_ok, chK_ok, ev_chain, negW_int, negK_ok, ev_neg, revTW_tup, revTK_ok, ev_revT, revLK_ok, ev_revL, revOK_ok, ev_revO, someW_int, oSomeK_ok, ev_oSome, slK3_ok, slK2_ok, slK_ok, ev_sl, slOK3_ok, slOK2_ok, slOK_ok, ev_slO, bmK2_ok, bmW_some, bmK_ok, ev_bm, idxW_tup, idxK_ok, ev_idxT, lsW_some, lenSetK_ok, ev_lenSet, isiTW_some, isiTK_ok, ev_isiT, andW_bl, orW_bl, notW_bl, andK_ok, ev_emAnd, orK_ok, ev_emOr, notK_ok, ev_emNot, ifEK_ok, ev_emIf, ev_next, seqK_nx, seqK_rt, dropK_ok, ev_drop, retK_ok, ev_ret, ev_retN, ifK_ok, ev_if, ev_brk, ev_cont, optS_some, asgK_ok, ev_asg, parK2_ok, parK_ok, ev_par, setK3_ok, setK2_ok, setK_ok, ev_setIx, ev_gname, ev_gtup, ev_gcons, ev_gnil, forK_ok, ev_for, lcV_ok, lcO_ok, lcK_ok, ev_lc, lcLK_ok, ev_lcL, wipe_nil, wipe_cons, srcW_some, iseqK_ok, ev_iseq, rng1K_ok, ev_rng1, rng2K_ok, ev_rng2, funK_nx, funK_rt, ev_fun, ev_callP, callPK_ok, List.getElem?_cons_zero, List.getElem?_cons_succ, List.set_cons_succ, List.set_cons_zero, Bool.not_true, Bool.not_false, if_true, if_false, Bool.false_eq_true, List.length_cons, List.length_nil, Nat.reduceAdd, Nat.reduceLeDiff, nn, le, ne]
theorem law_all (ns : List Int) (h : ns.length ≤ 63) : ∃ st', m_law P W0 [.scr (ns.map .int)] [] = .ok (.bl true) st' := by
  refine law_gen (c := 3) (n := 5) (by decide) (by decide) h fun k hk st tl hl => ?_
  match tl, hl with
  | [a2, a3, a4, a5, a6], _ =>
  obtain ⟨z, c1⟩ := cell_at_ok (st := st) (ns := ns) (k := k)
  obtain ⟨st1, b1, _, sp⟩ := bag_ok (st := st) (cell := z + 1)
  obtain ⟨i, hi⟩ : ∃ i, i = st.length := ⟨_, rfl⟩
  rw [← hi] at b1 sp
  obtain ⟨t, st2, l1, r, t4, d1⟩ := line_ok (st := st1) (N := 700) (upto := 4) (by decide) (by decide) (sp.le (by omega))
  have l1 : m__law_line [.loc i, .int 4] st1 = .ok (wS t) st2 := l1
  have al := all_lines_ok (st := st2) r t4
  obtain ⟨s', y5, y6, e⟩ := tu_loop (P := P) (W0 := W0) (x0 := some (.scr (ns.map .int))) (x1 := some (.int (k : Int))) r t4 [.int 0, .int 1, .int 2, .int 3] 100 st2 a5 a6 (d1.sp.le (by simp))
  have rg : ∀ s : Stt, rng1W [.int 4] s = .ok ⟨[.int 0, .int 1, .int 2, .int 3], fun _ => True⟩ s := fun s => rng1_nat (n := 4) (by omega)
  refine ⟨[some (.loc i), some (wS t), some (.lst ((linesE t t.length).map wS)), y5, y6], s', rfl, ?_⟩
  rw [ev_seq]; simp only [ev_var, ev_c, ev_nil, ev_yes, ev_oNone, optR_some, optL_some, optO_some, consK2_ok, consK_ok, ev_cons, tupK_ok, ev_tup, lstK_ok, ev_lst, lstLK_ok, ev_lstL, opK2_ok, opK_ok, ev_op, tvW_bl, tvK_ok, ev_tv, tnotK_ok, ev_tnot, tandK_ok, ev_tand, torK_ok, ev_tor, fnK_ok, ev_fn, fnVK_ok, ev_fnV, fnOK_ok, ev_fnO, callK_ok, ev_call, chK3_ok, chW_bl, chK2_ok, chK_ok, ev_chain, negW_int, negK_ok, ev_neg, revTW_tup, revTK_ok, ev_revT, revLK_ok, ev_revL, revOK_ok, ev_revO, someW_int, oSomeK_ok, ev_oSome, slK3_ok, slK2_ok, slK_ok, ev_sl, slOK3_ok, slOK2_ok, slOK_ok, ev_slO, bmK2_ok, bmW_some, bmK_ok, ev_bm, idxW_tup, idxK_ok, ev_idxT, lsW_some, lenSetK_ok, ev_lenSet, isiTW_some, isiTK_ok, ev_isiT, andW_bl, orW_bl, notW_bl, andK_ok, ev_emAnd, orK_ok, ev_emOr, notK_ok, ev_emNot, ifEK_ok, ev_emIf, ev_next, seqK_nx, seqK_rt, dropK_ok, ev_drop, retK_ok, ev_ret, ev_retN, ifK_ok, ev_if, ev_brk, ev_cont, optS_some, asgK_ok, ev_asg, parK2_ok, parK_ok, ev_par, setK3_ok, setK2_ok, setK_ok, ev_setIx, ev_gname, ev_gtup, ev_gcons, ev_gnil, forK_ok, ev_for, lcV_ok, lcO_ok, lcK_ok, ev_lc, lcLK_ok, ev_lcL, wipe_nil, wipe_cons, srcW_some, iseqK_ok, ev_iseq, rng1K_ok, ev_rng1, rng2K_ok, ev_rng2, funK_nx, funK_rt, ev_fun, ev_callP, callPK_ok, List.getElem?_cons_zero, List.getElem?_cons_succ, List.set_cons_succ, List.set_cons_zero, Bool.not_true, Bool.not_false, if_true, if_false, Bool.false_eq_true, List.length_cons, List.length_nil, Nat.reduceAdd, Nat.reduceLeDiff, c1, f_addI, b1]
  rw [ev_seq]; simp only [ev_var, ev_c, ev_nil, ev_yes, ev_oNone, optR_some, optL_some, optO_some, consK2_ok, consK_ok, ev_cons, tupK_ok, ev_tup, lstK_ok, ev_lst, lstLK_ok, ev_lstL, opK2_ok, opK_ok, ev_op, tvW_bl, tvK_ok, ev_tv, tnotK_ok, ev_tnot, tandK_ok, ev_tand, torK_ok, ev_tor, fnK_ok, ev_fn, fnVK_ok, ev_fnV, fnOK_ok, ev_fnO, callK_ok, ev_call, chK3_ok, chW_bl, chK2_ok, chK_ok, ev_chain, negW_int, negK_ok, ev_neg, revTW_tup, revTK_ok, ev_revT, revLK_ok, ev_revL, revOK_ok, ev_revO, someW_int, oSomeK_ok, ev_oSome, slK3_ok, slK2_ok, slK_ok, ev_sl, slOK3_ok, slOK2_ok, slOK_ok, ev_slO, bmK2_ok, bmW_some, bmK_ok, ev_bm, idxW_tup, idxK_ok, ev_idxT, lsW_some, lenSetK_ok, ev_lenSet, isiTW_some, isiTK_ok, ev_isiT, andW_bl, orW_bl, notW_bl, andK_ok, ev_emAnd, orK_ok, ev_emOr, notK_ok, ev_emNot, ifEK_ok, ev_emIf, ev_next, seqK_nx, seqK_rt, dropK_ok, ev_drop, retK_ok, ev_ret, ev_retN, ifK_ok, ev_if, ev_brk, ev_cont, optS_some, asgK_ok, ev_asg, parK2_ok, parK_ok, ev_par, setK3_ok, setK2_ok, setK_ok, ev_setIx, ev_gname, ev_gtup, ev_gcons, ev_gnil, forK_ok, ev_for, lcV_ok, lcO_ok, lcK_ok, ev_lc, lcLK_ok, ev_lcL, wipe_nil, wipe_cons, srcW_some, iseqK_ok, ev_iseq, rng1K_ok, ev_rng1, rng2K_ok, ev_rng2, funK_nx, funK_rt, ev_fun, ev_callP, callPK_ok, List.getElem?_cons_zero, List.getElem?_cons_succ, List.set_cons_succ, List.set_cons_zero, Bool.not_true, Bool.not_false, if_true, if_false, Bool.false_eq_true, List.length_cons, List.length_nil, Nat.reduceAdd, Nat.reduceLeDiff, l1]
  rw [ev_seq]; simp only [ev_var, ev_c, ev_nil, ev_yes, ev_oNone, optR_some, optL_some, optO_some, consK2_ok, consK_ok, ev_cons, tupK_ok, ev_tup, lstK_ok, ev_lst, lstLK_ok, ev_lstL, opK2_ok, opK_ok, ev_op, tvW_bl, tvK_ok, ev_tv, tnotK_ok, ev_tnot, tandK_ok, ev_tand, torK_ok, ev_tor, fnK_ok, ev_fn, fnVK_ok, ev_fnV, fnOK_ok, ev_fnO, callK_ok, ev_call, chK3_ok, chW_bl, chK2_ok, chK_ok, ev_chain, negW_int, negK_ok, ev_neg, revTW_tup, revTK_ok, ev_revT, revLK_ok, ev_revL, revOK_ok, ev_revO, someW_int, oSomeK_ok, ev_oSome, slK3_ok, slK2_ok, slK_ok, ev_sl, slOK3_ok, slOK2_ok, slOK_ok, ev_slO, bmK2_ok, bmW_some, bmK_ok, ev_bm, idxW_tup, idxK_ok, ev_idxT, lsW_some, lenSetK_ok, ev_lenSet, isiTW_some, isiTK_ok, ev_isiT, andW_bl, orW_bl, notW_bl, andK_ok, ev_emAnd, orK_ok, ev_emOr, notK_ok, ev_emNot, ifEK_ok, ev_emIf, ev_next, seqK_nx, seqK_rt, dropK_ok, ev_drop, retK_ok, ev_ret, ev_retN, ifK_ok, ev_if, ev_brk, ev_cont, optS_some, asgK_ok, ev_asg, parK2_ok, parK_ok, ev_par, setK3_ok, setK2_ok, setK_ok, ev_setIx, ev_gname, ev_gtup, ev_gcons, ev_gnil, forK_ok, ev_for, lcV_ok, lcO_ok, lcK_ok, ev_lc, lcLK_ok, ev_lcL, wipe_nil, wipe_cons, srcW_some, iseqK_ok, ev_iseq, rng1K_ok, ev_rng1, rng2K_ok, ev_rng2, funK_nx, funK_rt, ev_fun, ev_callP, callPK_ok, List.getElem?_cons_zero, List.getElem?_cons_succ, List.set_cons_succ, List.set_cons_zero, Bool.not_true, Bool.not_false, if_true, if_false, Bool.false_eq_true, List.length_cons, List.length_nil, Nat.reduceAdd, Nat.reduceLeDiff, al]
  simp only [ev_var, ev_c, ev_nil, ev_yes, ev_oNone, optR_some, optL_some, optO_some, consK2_ok, consK_ok, ev_cons, tupK_ok, ev_tup, lstK_ok, ev_lst, lstLK_ok, ev_lstL, opK2_ok, opK_ok, ev_op, tvW_bl, tvK_ok, ev_tv, tnotK_ok, ev_tnot, tandK_ok, ev_tand, torK_ok, ev_tor, fnK_ok, ev_fn, fnVK_ok, ev_fnV, fnOK_ok, ev_fnO, callK_ok, ev_call, chK3_ok, chW_bl, chK2_ok, chK_ok, ev_chain, negW_int, negK_ok, ev_neg, revTW_tup, revTK_ok, ev_revT, revLK_ok, ev_revL, revOK_ok, ev_revO, someW_int, oSomeK_ok, ev_oSome, slK3_ok, slK2_ok, slK_ok, ev_sl, slOK3_ok, slOK2_ok, slOK_ok, ev_slO, bmK2_ok, bmW_some, bmK_ok, ev_bm, idxW_tup, idxK_ok, ev_idxT, lsW_some, lenSetK_ok, ev_lenSet, isiTW_some, isiTK_ok, ev_isiT, andW_bl, orW_bl, notW_bl, andK_ok, ev_emAnd, orK_ok, ev_emOr, notK_ok, ev_emNot, ifEK_ok, ev_emIf, ev_next, seqK_nx, seqK_rt, dropK_ok, ev_drop, retK_ok, ev_ret, ev_retN, ifK_ok, ev_if, ev_brk, ev_cont, optS_some, asgK_ok, ev_asg, parK2_ok, parK_ok, ev_par, setK3_ok, setK2_ok, setK_ok, ev_setIx, ev_gname, ev_gtup, ev_gcons, ev_gnil, forK_ok, ev_for, lcV_ok, lcO_ok, lcK_ok, ev_lc, lcLK_ok, ev_lcL, wipe_nil, wipe_cons, srcW_some, iseqK_ok, ev_iseq, rng1K_ok, ev_rng1, rng2K_ok, ev_rng2, funK_nx, funK_rt, ev_fun, ev_callP, callPK_ok, List.getElem?_cons_zero, List.getElem?_cons_succ, List.set_cons_succ, List.set_cons_zero, Bool.not_true, Bool.not_false, if_true, if_false, Bool.false_eq_true, List.length_cons, List.length_nil, Nat.reduceAdd, Nat.reduceLeDiff, rg]
  exact e
end
end Lw
end
section
set_option Elab.async false
set_option linter.all false
set_option maxRecDepth 100000
set_option maxHeartbeats 4000000
open PySem PySem.Spec PyProof.Rows L2
namespace Lw
open Sim
theorem all_mk {w : PySem.World} {K : PySem.W.Frag} {h : Heap} {mg : Str → Option Value} {fa : Addr} (X : K.In h) (G : h.Ns mainGlobals mg) (hfa : mg "law" = some (.ref fa))
    {f_is_letter : Addr} {od_is_letter an_is_letter : Option Addr} {sl_is_letter : Array (Option Value)} {oc_is_letter kV_is_letter dc_is_letter pm_is_letter cd_is_letter ct_is_letter : Value}
    (a_is_letter : PySem.W.nsIn K mainGlobals "is_letter" = some (some (.ref f_is_letter))) (l_is_letter : K.lookup f_is_letter = some ⟨oc_is_letter, od_is_letter, .func (PySem.W.fnOf "is_letter" "is_letter" (defArgs s_is_letter) (defBody s_is_letter) (defScope s_is_letter) .none kV_is_letter dc_is_letter pm_is_letter an_is_letter cd_is_letter ct_is_letter), sl_is_letter⟩) (c_is_letter : PySem.W.codeIn K cd_is_letter "is_letter" = true) (k_is_letter : PySem.W.keepIn K (.ref f_is_letter) = true)
    {f_is_row : Addr} {od_is_row an_is_row : Option Addr} {sl_is_row : Array (Option Value)} {oc_is_row kV_is_row dc_is_row pm_is_row cd_is_row ct_is_row : Value}
    (a_is_row : PySem.W.nsIn K mainGlobals "is_row" = some (some (.ref f_is_row))) (l_is_row : K.lookup f_is_row = some ⟨oc_is_row, od_is_row, .func (PySem.W.fnOf "is_row" "is_row" (defArgs s_is_row) (defBody s_is_row) (defScope s_is_row) .none kV_is_row dc_is_row pm_is_row an_is_row cd_is_row ct_is_row), sl_is_row⟩) (c_is_row : PySem.W.codeIn K cd_is_row "is_row" = true) (k_is_row : PySem.W.keepIn K (.ref f_is_row) = true)
    {f_is_pair : Addr} {od_is_pair an_is_pair : Option Addr} {sl_is_pair : Array (Option Value)} {oc_is_pair kV_is_pair dc_is_pair pm_is_pair cd_is_pair ct_is_pair : Value}
    (a_is_pair : PySem.W.nsIn K mainGlobals "is_pair" = some (some (.ref f_is_pair))) (l_is_pair : K.lookup f_is_pair = some ⟨oc_is_pair, od_is_pair, .func (PySem.W.fnOf "is_pair" "is_pair" (defArgs s_is_pair) (defBody s_is_pair) (defScope s_is_pair) .none kV_is_pair dc_is_pair pm_is_pair an_is_pair cd_is_pair ct_is_pair), sl_is_pair⟩) (c_is_pair : PySem.W.codeIn K cd_is_pair "is_pair" = true) (k_is_pair : PySem.W.keepIn K (.ref f_is_pair) = true)
    {f_need_pair : Addr} {od_need_pair an_need_pair : Option Addr} {sl_need_pair : Array (Option Value)} {oc_need_pair kV_need_pair dc_need_pair pm_need_pair cd_need_pair ct_need_pair : Value}
    (a_need_pair : PySem.W.nsIn K mainGlobals "need_pair" = some (some (.ref f_need_pair))) (l_need_pair : K.lookup f_need_pair = some ⟨oc_need_pair, od_need_pair, .func (PySem.W.fnOf "need_pair" "need_pair" (defArgs s_need_pair) (defBody s_need_pair) (defScope s_need_pair) .none kV_need_pair dc_need_pair pm_need_pair an_need_pair cd_need_pair ct_need_pair), sl_need_pair⟩) (c_need_pair : PySem.W.codeIn K cd_need_pair "need_pair" = true) (k_need_pair : PySem.W.keepIn K (.ref f_need_pair) = true)
    {f_read_as : Addr} {od_read_as an_read_as : Option Addr} {sl_read_as : Array (Option Value)} {oc_read_as kV_read_as dc_read_as pm_read_as cd_read_as ct_read_as : Value}
    (a_read_as : PySem.W.nsIn K mainGlobals "read_as" = some (some (.ref f_read_as))) (l_read_as : K.lookup f_read_as = some ⟨oc_read_as, od_read_as, .func (PySem.W.fnOf "read_as" "read_as" (defArgs s_read_as) (defBody s_read_as) (defScope s_read_as) .none kV_read_as dc_read_as pm_read_as an_read_as cd_read_as ct_read_as), sl_read_as⟩) (c_read_as : PySem.W.codeIn K cd_read_as "read_as" = true) (k_read_as : PySem.W.keepIn K (.ref f_read_as) = true)
    {f_rings_of : Addr} {od_rings_of an_rings_of : Option Addr} {sl_rings_of : Array (Option Value)} {oc_rings_of kV_rings_of dc_rings_of pm_rings_of cd_rings_of ct_rings_of : Value}
    (a_rings_of : PySem.W.nsIn K mainGlobals "rings_of" = some (some (.ref f_rings_of))) (l_rings_of : K.lookup f_rings_of = some ⟨oc_rings_of, od_rings_of, .func (PySem.W.fnOf "rings_of" "rings_of" (defArgs s_rings_of) (defBody s_rings_of) (defScope s_rings_of) .none kV_rings_of dc_rings_of pm_rings_of an_rings_of cd_rings_of ct_rings_of), sl_rings_of⟩) (c_rings_of : PySem.W.codeIn K cd_rings_of "rings_of" = true) (k_rings_of : PySem.W.keepIn K (.ref f_rings_of) = true)
    {f_rings : Addr} {od_rings an_rings : Option Addr} {sl_rings : Array (Option Value)} {oc_rings kV_rings dc_rings pm_rings cd_rings ct_rings : Value}
    (a_rings : PySem.W.nsIn K mainGlobals "rings" = some (some (.ref f_rings))) (l_rings : K.lookup f_rings = some ⟨oc_rings, od_rings, .func (PySem.W.fnOf "rings" "rings" (defArgs s_rings) (defBody s_rings) (defScope s_rings) .none kV_rings dc_rings pm_rings an_rings cd_rings ct_rings), sl_rings⟩) (c_rings : PySem.W.codeIn K cd_rings "rings" = true) (k_rings : PySem.W.keepIn K (.ref f_rings) = true)
    {f_names_needed : Addr} {od_names_needed an_names_needed : Option Addr} {sl_names_needed : Array (Option Value)} {oc_names_needed kV_names_needed dc_names_needed pm_names_needed cd_names_needed ct_names_needed : Value}
    (a_names_needed : PySem.W.nsIn K mainGlobals "names_needed" = some (some (.ref f_names_needed))) (l_names_needed : K.lookup f_names_needed = some ⟨oc_names_needed, od_names_needed, .func (PySem.W.fnOf "names_needed" "names_needed" (defArgs s_names_needed) (defBody s_names_needed) (defScope s_names_needed) .none kV_names_needed dc_names_needed pm_names_needed an_names_needed cd_names_needed ct_names_needed), sl_names_needed⟩) (c_names_needed : PySem.W.codeIn K cd_names_needed "names_needed" = true) (k_names_needed : PySem.W.keepIn K (.ref f_names_needed) = true)
    {f__law_cell_at : Addr} {od__law_cell_at an__law_cell_at : Option Addr} {sl__law_cell_at : Array (Option Value)} {oc__law_cell_at kV__law_cell_at dc__law_cell_at pm__law_cell_at cd__law_cell_at ct__law_cell_at : Value}
    (a__law_cell_at : PySem.W.nsIn K mainGlobals "_law_cell_at" = some (some (.ref f__law_cell_at))) (l__law_cell_at : K.lookup f__law_cell_at = some ⟨oc__law_cell_at, od__law_cell_at, .func (PySem.W.fnOf "_law_cell_at" "_law_cell_at" (defArgs s__law_cell_at) (defBody s__law_cell_at) (defScope s__law_cell_at) .none kV__law_cell_at dc__law_cell_at pm__law_cell_at an__law_cell_at cd__law_cell_at ct__law_cell_at), sl__law_cell_at⟩) (c__law_cell_at : PySem.W.codeIn K cd__law_cell_at "_law_cell_at" = true) (k__law_cell_at : PySem.W.keepIn K (.ref f__law_cell_at) = true)
    {f__law_bag : Addr} {od__law_bag an__law_bag : Option Addr} {sl__law_bag : Array (Option Value)} {oc__law_bag kV__law_bag dc__law_bag pm__law_bag cd__law_bag ct__law_bag : Value}
    (a__law_bag : PySem.W.nsIn K mainGlobals "_law_bag" = some (some (.ref f__law_bag))) (l__law_bag : K.lookup f__law_bag = some ⟨oc__law_bag, od__law_bag, .func (PySem.W.fnOf "_law_bag" "_law_bag" (defArgs s__law_bag) (defBody s__law_bag) (defScope s__law_bag) .none kV__law_bag dc__law_bag pm__law_bag an__law_bag cd__law_bag ct__law_bag), sl__law_bag⟩) (c__law_bag : PySem.W.codeIn K cd__law_bag "_law_bag" = true) (k__law_bag : PySem.W.keepIn K (.ref f__law_bag) = true)
    {f__law_draw : Addr} {od__law_draw an__law_draw : Option Addr} {sl__law_draw : Array (Option Value)} {oc__law_draw kV__law_draw dc__law_draw pm__law_draw cd__law_draw ct__law_draw : Value}
    (a__law_draw : PySem.W.nsIn K mainGlobals "_law_draw" = some (some (.ref f__law_draw))) (l__law_draw : K.lookup f__law_draw = some ⟨oc__law_draw, od__law_draw, .func (PySem.W.fnOf "_law_draw" "_law_draw" (defArgs s__law_draw) (defBody s__law_draw) (defScope s__law_draw) .none kV__law_draw dc__law_draw pm__law_draw an__law_draw cd__law_draw ct__law_draw), sl__law_draw⟩) (c__law_draw : PySem.W.codeIn K cd__law_draw "_law_draw" = true) (k__law_draw : PySem.W.keepIn K (.ref f__law_draw) = true)
    {f__law_line : Addr} {od__law_line an__law_line : Option Addr} {sl__law_line : Array (Option Value)} {oc__law_line kV__law_line dc__law_line pm__law_line cd__law_line ct__law_line : Value}
    (a__law_line : PySem.W.nsIn K mainGlobals "_law_line" = some (some (.ref f__law_line))) (l__law_line : K.lookup f__law_line = some ⟨oc__law_line, od__law_line, .func (PySem.W.fnOf "_law_line" "_law_line" (defArgs s__law_line) (defBody s__law_line) (defScope s__law_line) .none kV__law_line dc__law_line pm__law_line an__law_line cd__law_line ct__law_line), sl__law_line⟩) (c__law_line : PySem.W.codeIn K cd__law_line "_law_line" = true) (k__law_line : PySem.W.keepIn K (.ref f__law_line) = true)
    {f__law_front : Addr} {od__law_front an__law_front : Option Addr} {sl__law_front : Array (Option Value)} {oc__law_front kV__law_front dc__law_front pm__law_front cd__law_front ct__law_front : Value}
    (a__law_front : PySem.W.nsIn K mainGlobals "_law_front" = some (some (.ref f__law_front))) (l__law_front : K.lookup f__law_front = some ⟨oc__law_front, od__law_front, .func (PySem.W.fnOf "_law_front" "_law_front" (defArgs s__law_front) (defBody s__law_front) (defScope s__law_front) .none kV__law_front dc__law_front pm__law_front an__law_front cd__law_front ct__law_front), sl__law_front⟩) (c__law_front : PySem.W.codeIn K cd__law_front "_law_front" = true) (k__law_front : PySem.W.keepIn K (.ref f__law_front) = true)
    {f__law_act : Addr} {od__law_act an__law_act : Option Addr} {sl__law_act : Array (Option Value)} {oc__law_act kV__law_act dc__law_act pm__law_act cd__law_act ct__law_act : Value}
    (a__law_act : PySem.W.nsIn K mainGlobals "_law_act" = some (some (.ref f__law_act))) (l__law_act : K.lookup f__law_act = some ⟨oc__law_act, od__law_act, .func (PySem.W.fnOf "_law_act" "_law_act" (defArgs s__law_act) (defBody s__law_act) (defScope s__law_act) .none kV__law_act dc__law_act pm__law_act an__law_act cd__law_act ct__law_act), sl__law_act⟩) (c__law_act : PySem.W.codeIn K cd__law_act "_law_act" = true) (k__law_act : PySem.W.keepIn K (.ref f__law_act) = true)
    {f__law_all_lines : Addr} {od__law_all_lines an__law_all_lines : Option Addr} {sl__law_all_lines : Array (Option Value)} {oc__law_all_lines kV__law_all_lines dc__law_all_lines pm__law_all_lines cd__law_all_lines ct__law_all_lines : Value}
    (a__law_all_lines : PySem.W.nsIn K mainGlobals "_law_all_lines" = some (some (.ref f__law_all_lines))) (l__law_all_lines : K.lookup f__law_all_lines = some ⟨oc__law_all_lines, od__law_all_lines, .func (PySem.W.fnOf "_law_all_lines" "_law_all_lines" (defArgs s__law_all_lines) (defBody s__law_all_lines) (defScope s__law_all_lines) .none kV__law_all_lines dc__law_all_lines pm__law_all_lines an__law_all_lines cd__law_all_lines ct__law_all_lines), sl__law_all_lines⟩) (c__law_all_lines : PySem.W.codeIn K cd__law_all_lines "_law_all_lines" = true) (k__law_all_lines : PySem.W.keepIn K (.ref f__law_all_lines) = true)
    {f__law_by_places : Addr} {od__law_by_places an__law_by_places : Option Addr} {sl__law_by_places : Array (Option Value)} {oc__law_by_places kV__law_by_places dc__law_by_places pm__law_by_places cd__law_by_places ct__law_by_places : Value}
    (a__law_by_places : PySem.W.nsIn K mainGlobals "_law_by_places" = some (some (.ref f__law_by_places))) (l__law_by_places : K.lookup f__law_by_places = some ⟨oc__law_by_places, od__law_by_places, .func (PySem.W.fnOf "_law_by_places" "_law_by_places" (defArgs s__law_by_places) (defBody s__law_by_places) (defScope s__law_by_places) .none kV__law_by_places dc__law_by_places pm__law_by_places an__law_by_places cd__law_by_places ct__law_by_places), sl__law_by_places⟩) (c__law_by_places : PySem.W.codeIn K cd__law_by_places "_law_by_places" = true) (k__law_by_places : PySem.W.keepIn K (.ref f__law_by_places) = true)
    {f__law_least_names : Addr} {od__law_least_names an__law_least_names : Option Addr} {sl__law_least_names : Array (Option Value)} {oc__law_least_names kV__law_least_names dc__law_least_names pm__law_least_names cd__law_least_names ct__law_least_names : Value}
    (a__law_least_names : PySem.W.nsIn K mainGlobals "_law_least_names" = some (some (.ref f__law_least_names))) (l__law_least_names : K.lookup f__law_least_names = some ⟨oc__law_least_names, od__law_least_names, .func (PySem.W.fnOf "_law_least_names" "_law_least_names" (defArgs s__law_least_names) (defBody s__law_least_names) (defScope s__law_least_names) .none kV__law_least_names dc__law_least_names pm__law_least_names an__law_least_names cd__law_least_names ct__law_least_names), sl__law_least_names⟩) (c__law_least_names : PySem.W.codeIn K cd__law_least_names "_law_least_names" = true) (k__law_least_names : PySem.W.keepIn K (.ref f__law_least_names) = true)
    {f_law : Addr} {od_law an_law : Option Addr} {sl_law : Array (Option Value)} {oc_law kV_law dc_law pm_law cd_law ct_law : Value}
    (a_law : PySem.W.nsIn K mainGlobals "law" = some (some (.ref f_law))) (l_law : K.lookup f_law = some ⟨oc_law, od_law, .func (PySem.W.fnOf "law" "law" (defArgs s_law) (defBody s_law) (defScope s_law) .none kV_law dc_law pm_law an_law cd_law ct_law), sl_law⟩) (c_law : PySem.W.codeIn K cd_law "law" = true) (k_law : PySem.W.keepIn K (.ref f_law) = true)
    {t_LETTERS : Tok} (a_LETTERS : PySem.W.nsIn K mainGlobals "LETTERS" = some (some (.str "abcdefghijklmnopqrstuvwxyz" t_LETTERS)))
    {t_MOST_LETTERS : Tok} (a_MOST_LETTERS : PySem.W.nsIn K mainGlobals "MOST_LETTERS" = some (some (.int 16 t_MOST_LETTERS)))
    {t_MOST_NAMES : Tok} (a_MOST_NAMES : PySem.W.nsIn K mainGlobals "MOST_NAMES" = some (some (.int 2 t_MOST_NAMES)))
    (z_all : PySem.W.nsIn K mainGlobals "all" = some none)
    (z_dict : PySem.W.nsIn K mainGlobals "dict" = some none)
    (z_isinstance : PySem.W.nsIn K mainGlobals "isinstance" = some none)
    (z_len : PySem.W.nsIn K mainGlobals "len" = some none)
    (z_list : PySem.W.nsIn K mainGlobals "list" = some none)
    (z_max : PySem.W.nsIn K mainGlobals "max" = some none)
    (z_min : PySem.W.nsIn K mainGlobals "min" = some none)
    (z_range : PySem.W.nsIn K mainGlobals "range" = some none)
    (z_set : PySem.W.nsIn K mainGlobals "set" = some none)
    (z_sorted : PySem.W.nsIn K mainGlobals "sorted" = some none)
    (z_str : PySem.W.nsIn K mainGlobals "str" = some none)
    (z_tuple : PySem.W.nsIn K mainGlobals "tuple" = some none)
    (z_zip : PySem.W.nsIn K mainGlobals "zip" = some none) :
    ∃ fd : FuncData, (∀ (s : Shared) (v : Value), BindsTo s fd ⟨[v], []⟩ [("script", v)]) ∧ ∀ base : Heap, K.In base → base.Ns mainGlobals mg → FnOk PySem.Challenge.rw_twonames_k19_whole_fewest_names_by_all.prog w K mg base (L2N.CX PySem.Challenge.rw_twonames_k19_whole_fewest_names_by_all.prog w) 7 fa fd ["script"] (spF K 1 (m_law PySem.Challenge.rw_twonames_k19_whole_fewest_names_by_all.prog w)) := by
  have e := hfa.symm.trans (PySem.W.mg_of X G a_law)
  cases e
  let T : Txt K mg := ⟨f_is_letter, _, fun_mk (st := s_is_letter) l_is_letter c_is_letter k_is_letter, (fun_mk (st := s_is_letter) l_is_letter c_is_letter k_is_letter).binds (ps := ["thing"]) (fun _ _ _ _ _ _ us hl => match us, hl with | [_], _ => rfl), PySem.W.mg_of X G a_is_letter,
    f_is_row, _, fun_mk (st := s_is_row) l_is_row c_is_row k_is_row, (fun_mk (st := s_is_row) l_is_row c_is_row k_is_row).binds (ps := ["thing"]) (fun _ _ _ _ _ _ us hl => match us, hl with | [_], _ => rfl), PySem.W.mg_of X G a_is_row,
    f_is_pair, _, fun_mk (st := s_is_pair) l_is_pair c_is_pair k_is_pair, (fun_mk (st := s_is_pair) l_is_pair c_is_pair k_is_pair).binds (ps := ["thing"]) (fun _ _ _ _ _ _ us hl => match us, hl with | [_], _ => rfl), PySem.W.mg_of X G a_is_pair,
    f_need_pair, _, fun_mk (st := s_need_pair) l_need_pair c_need_pair k_need_pair, (fun_mk (st := s_need_pair) l_need_pair c_need_pair k_need_pair).binds (ps := ["pair"]) (fun _ _ _ _ _ _ us hl => match us, hl with | [_], _ => rfl), PySem.W.mg_of X G a_need_pair,
    f_read_as, _, fun_mk (st := s_read_as) l_read_as c_read_as k_read_as, (fun_mk (st := s_read_as) l_read_as c_read_as k_read_as).binds (ps := ["pair"]) (fun _ _ _ _ _ _ us hl => match us, hl with | [_], _ => rfl), PySem.W.mg_of X G a_read_as,
    f_rings_of, _, fun_mk (st := s_rings_of) l_rings_of c_rings_of k_rings_of, (fun_mk (st := s_rings_of) l_rings_of c_rings_of k_rings_of).binds (ps := ["nexts"]) (fun _ _ _ _ _ _ us hl => match us, hl with | [_], _ => rfl), PySem.W.mg_of X G a_rings_of,
    f_rings, _, fun_mk (st := s_rings) l_rings c_rings k_rings, (fun_mk (st := s_rings) l_rings c_rings k_rings).binds (ps := ["pair"]) (fun _ _ _ _ _ _ us hl => match us, hl with | [_], _ => rfl), PySem.W.mg_of X G a_rings,
    f_names_needed, _, fun_mk (st := s_names_needed) l_names_needed c_names_needed k_names_needed, (fun_mk (st := s_names_needed) l_names_needed c_names_needed k_names_needed).binds (ps := ["pair"]) (fun _ _ _ _ _ _ us hl => match us, hl with | [_], _ => rfl), PySem.W.mg_of X G a_names_needed,
    f__law_cell_at, _, fun_mk (st := s__law_cell_at) l__law_cell_at c__law_cell_at k__law_cell_at, (fun_mk (st := s__law_cell_at) l__law_cell_at c__law_cell_at k__law_cell_at).binds (ps := ["script", "k"]) (fun _ _ _ _ _ _ us hl => match us, hl with | [_, _], _ => rfl), PySem.W.mg_of X G a__law_cell_at,
    f__law_bag, _, fun_mk (st := s__law_bag) l__law_bag c__law_bag k__law_bag, (fun_mk (st := s__law_bag) l__law_bag c__law_bag k__law_bag).binds (ps := ["cell"]) (fun _ _ _ _ _ _ us hl => match us, hl with | [_], _ => rfl), PySem.W.mg_of X G a__law_bag,
    f__law_draw, _, fun_mk (st := s__law_draw) l__law_draw c__law_draw k__law_draw, (fun_mk (st := s__law_draw) l__law_draw c__law_draw k__law_draw).binds (ps := ["bag", "sides"]) (fun _ _ _ _ _ _ us hl => match us, hl with | [_, _], _ => rfl), PySem.W.mg_of X G a__law_draw,
    f__law_line, _, fun_mk (st := s__law_line) l__law_line c__law_line k__law_line, (fun_mk (st := s__law_line) l__law_line c__law_line k__law_line).binds (ps := ["bag", "upto"]) (fun _ _ _ _ _ _ us hl => match us, hl with | [_, _], _ => rfl), PySem.W.mg_of X G a__law_line,
    f__law_front, _, fun_mk (st := s__law_front) l__law_front c__law_front k__law_front, (fun_mk (st := s__law_front) l__law_front c__law_front k__law_front).binds (ps := ["line", "spot"]) (fun _ _ _ _ _ _ us hl => match us, hl with | [_, _], _ => rfl), PySem.W.mg_of X G a__law_front,
    f__law_act, _, fun_mk (st := s__law_act) l__law_act c__law_act k__law_act, (fun_mk (st := s__law_act) l__law_act c__law_act k__law_act).binds (ps := ["two", "act"]) (fun _ _ _ _ _ _ us hl => match us, hl with | [_, _], _ => rfl), PySem.W.mg_of X G a__law_act,
    f__law_all_lines, _, fun_mk (st := s__law_all_lines) l__law_all_lines c__law_all_lines k__law_all_lines, (fun_mk (st := s__law_all_lines) l__law_all_lines c__law_all_lines k__law_all_lines).binds (ps := ["line"]) (fun _ _ _ _ _ _ us hl => match us, hl with | [_], _ => rfl), PySem.W.mg_of X G a__law_all_lines,
    f__law_by_places, _, fun_mk (st := s__law_by_places) l__law_by_places c__law_by_places k__law_by_places, (fun_mk (st := s__law_by_places) l__law_by_places c__law_by_places k__law_by_places).binds (ps := ["two"]) (fun _ _ _ _ _ _ us hl => match us, hl with | [_], _ => rfl), PySem.W.mg_of X G a__law_by_places,
    f__law_least_names, _, fun_mk (st := s__law_least_names) l__law_least_names c__law_least_names k__law_least_names, (fun_mk (st := s__law_least_names) l__law_least_names c__law_least_names k__law_least_names).binds (ps := ["two"]) (fun _ _ _ _ _ _ us hl => match us, hl with | [_], _ => rfl), PySem.W.mg_of X G a__law_least_names,
    fa, _, fun_mk (st := s_law) l_law c_law k_law, (fun_mk (st := s_law) l_law c_law k_law).binds (ps := ["script"]) (fun _ _ _ _ _ _ us hl => match us, hl with | [_], _ => rfl), PySem.W.mg_of X G a_law,
    t_LETTERS, PySem.W.mg_of X G a_LETTERS,
    t_MOST_LETTERS, PySem.W.mg_of X G a_MOST_LETTERS,
    t_MOST_NAMES, PySem.W.mg_of X G a_MOST_NAMES,
    PySem.W.mg_none_of X G z_all,
    PySem.W.mg_none_of X G z_dict,
    PySem.W.mg_none_of X G z_isinstance,
    PySem.W.mg_none_of X G z_len,
    PySem.W.mg_none_of X G z_list,
    PySem.W.mg_none_of X G z_max,
    PySem.W.mg_none_of X G z_min,
    PySem.W.mg_none_of X G z_range,
    PySem.W.mg_none_of X G z_set,
    PySem.W.mg_none_of X G z_sorted,
    PySem.W.mg_none_of X G z_str,
    PySem.W.mg_none_of X G z_tuple,
    PySem.W.mg_none_of X G z_zip⟩
  exact ⟨T.d_law, fun s v => .of_eq rfl, fun base _ _ => ok_law T⟩
end Lw
open PySem PySem.W PyProof.Rows
set_option maxHeartbeats 0 in
theorem PySem.Challenge.cw_twonames_k19_whole_fewest_names_by_all_holds : PySem.Challenge.rw_twonames_k19_whole_fewest_names_by_all.Holds := by
  w_on; o_law; k_head; (case hw => w_witness2)
  k_fill
  refine L2.walk_of (l := PySem.Challenge.rw_twonames_k19_whole_fewest_names_by_all) (n := 63) (k := 7) (x := "script") (CX := fun w => L2N.CX PySem.Challenge.rw_twonames_k19_whole_fewest_names_by_all.prog w) (sp := fun w => Sim.spF _ 1 (Lw.m_law PySem.Challenge.rw_twonames_k19_whole_fewest_names_by_all.prog w)) rfl (by decide) rfl ⟨rfl, by decide, by decide⟩ (fun w h Y => PySem.W.kIn_of Y) ?F (fun w H a ns hl ho hS => Sim.law_sp ns ho hS (Lw.law_all ns hl)) (fun w H s e s2 h => Sim.law_cx h)
  case F =>
    intro w mg fa h KX G hmg
    refine' Lw.all_mk KX G hmg ?a_is_letter ?l_is_letter ?c_is_letter ?k_is_letter ?a_is_row ?l_is_row ?c_is_row ?k_is_row ?a_is_pair ?l_is_pair ?c_is_pair ?k_is_pair ?a_need_pair ?l_need_pair ?c_need_pair ?k_need_pair ?a_read_as ?l_read_as ?c_read_as ?k_read_as ?a_rings_of ?l_rings_of ?c_rings_of ?k_rings_of ?a_rings ?l_rings ?c_rings ?k_rings ?a_names_needed ?l_names_needed ?c_names_needed ?k_names_needed ?a__law_cell_at ?l__law_cell_at ?c__law_cell_at ?k__law_cell_at ?a__law_bag ?l__law_bag ?c__law_bag ?k__law_bag ?a__law_draw ?l__law_draw ?c__law_draw ?k__law_draw ?a__law_line ?l__law_line ?c__law_line ?k__law_line ?a__law_front ?l__law_front ?c__law_front ?k__law_front ?a__law_act ?l__law_act ?c__law_act ?k__law_act ?a__law_all_lines ?l__law_all_lines ?c__law_all_lines ?k__law_all_lines ?a__law_by_places ?l__law_by_places ?c__law_by_places ?k__law_by_places ?a__law_least_names ?l__law_least_names ?c__law_least_names ?k__law_least_names ?a_law ?l_law ?c_law ?k_law ?a_LETTERS ?a_MOST_LETTERS ?a_MOST_NAMES ?z_all ?z_dict ?z_isinstance ?z_len ?z_list ?z_max ?z_min ?z_range ?z_set ?z_sorted ?z_str ?z_tuple ?z_zip
    (case a_is_letter => k_is); (case l_is_letter => k_is); (case c_is_letter => k_is); (case k_is_letter => k_is); (case a_is_row => k_is); (case l_is_row => k_is); (case c_is_row => k_is); (case k_is_row => k_is); (case a_is_pair => k_is); (case l_is_pair => k_is); (case c_is_pair => k_is); (case k_is_pair => k_is); (case a_need_pair => k_is); (case l_need_pair => k_is); (case c_need_pair => k_is); (case k_need_pair => k_is); (case a_read_as => k_is); (case l_read_as => k_is); (case c_read_as => k_is); (case k_read_as => k_is); (case a_rings_of => k_is); (case l_rings_of => k_is); (case c_rings_of => k_is); (case k_rings_of => k_is); (case a_rings => k_is); (case l_rings => k_is); (case c_rings => k_is); (case k_rings => k_is); (case a_names_needed => k_is); (case l_names_needed => k_is); (case c_names_needed => k_is); (case k_names_needed => k_is); (case a__law_cell_at => k_is); (case l__law_cell_at => k_is); (case c__law_cell_at => k_is); (case k__law_cell_at => k_is); (case a__law_bag => k_is); (case l__law_bag => k_is); (case c__law_bag => k_is); (case k__law_bag => k_is); (case a__law_draw => k_is); (case l__law_draw => k_is); (case c__law_draw => k_is); (case k__law_draw => k_is); (case a__law_line => k_is); (case l__law_line => k_is); (case c__law_line => k_is); (case k__law_line => k_is); (case a__law_front => k_is); (case l__law_front => k_is); (case c__law_front => k_is); (case k__law_front => k_is); (case a__law_act => k_is); (case l__law_act => k_is); (case c__law_act => k_is); (case k__law_act => k_is); (case a__law_all_lines => k_is); (case l__law_all_lines => k_is); (case c__law_all_lines => k_is); (case k__law_all_lines => k_is); (case a__law_by_places => k_is); (case l__law_by_places => k_is); (case c__law_by_places => k_is); (case k__law_by_places => k_is); (case a__law_least_names => k_is); (case l__law_least_names => k_is); (case c__law_least_names => k_is); (case k__law_least_names => k_is); (case a_law => k_is); (case l_law => k_is); (case c_law => k_is); (case k_law => k_is); (case a_LETTERS => k_is); (case a_MOST_LETTERS => k_is); (case a_MOST_NAMES => k_is); (case z_all => k_is); (case z_dict => k_is); (case z_isinstance => k_is); (case z_len => k_is); (case z_list => k_is); (case z_max => k_is); (case z_min => k_is); (case z_range => k_is); (case z_set => k_is); (case z_sorted => k_is); (case z_str => k_is); (case z_tuple => k_is); (case z_zip => k_is)
end
