import PyProof.Rows.All
import Wide.All
import HandS.ForMost
import HandS.ForExc
import HandS.Wide
import HandS.CallSlots
import HandS.TupAny
import HandS.Conv
import HandS.IsInst
import HandS.Iter
import HandS.Zip
import HandS.Rev
import HandS.RevRange
import HandS.ExcOwn
import HandS.WordsExc
import HandS.Defaults
import PyProof.CollectStr
import KE.KDictList
import HandS.Strs
import KE.KIndexOf
import HandS.Text
import HandS.More
import HandS.WordsDict
import HandS.Style
import HandS.Ends
import KE.KRevSl
import HandS.TryOnly
import HandS.Dict
import HandS.SetFor
import PyProof.TupleOfStr
import KE.KDictZip
import HandS.ListItems
import HandS.DictComp
import PyProof.DictUpdate
import HandS.Small
import KE.DataMinMax
import HandS.Comp
import KE.SortData
import HandS.DictTup
import HandS.Sort
import HandS.Keys
import KE.GoesEnum
import PyProof.EnumMake
import HandS.SortInts
import HandS.List
import PyProof.SumAny
import PyProof.Rows.SeqMore
import PyProof.ReprRoads
import OpenK.AllK
import PySem.Challenge.RW_twonames_k01_told_and_written
section
set_option Elab.async false
set_option linter.all false
set_option maxRecDepth 100000
set_option maxHeartbeats 1000000
open PySem PySem.Spec PyProof.Rows L2
namespace Sim

/-! values of the mirror -/
inductive W where
  | non | bl (b : Bool) | int (i : Int) | str (x : Str) | ty (n : String) | obj (a : Addr)
  | tup (ws : List W) | lst (ws : List W) | dic (kvs : List (Key × W)) | loc (n : Nat) | prs (ws : List W) | scr (ws : List W)
instance : Inhabited W := ⟨.non⟩
/-- what stands at a tracked place -/
inductive Ob where
  | lst (ws : List W) | dic (kvs : List (Key × W))
abbrev Stt := List (Option Ob)
abbrev Ev := List (Option W)
structure Gm where
  ls : List Addr
  st : Stt
  hid : List Addr
abbrev Gm.to (G : Gm) (ls : List Addr) (st : Stt) : Gm := ⟨ls, st, G.hid⟩
def Gm.alive (G : Gm) (a : Addr) : Prop := (∃ (i : Nat) (ob : Ob), G.ls[i]? = some a ∧ G.st[i]? = some (some ob)) ∨ a ∈ G.hid

/-- a written list -/
def KL (K : PySem.W.Frag) (a : Addr) (xs : List V) : Prop :=
  ∃ (o : Obj) (its : Array Value) (n : Nat), K.lookup a = some o ∧ o.cls = .type "list" ∧ o.dict = none ∧ o.data = .seq its n ∧ its.size ≤ sizeLine ∧ Vals xs its.toList
def KT (K : PySem.W.Frag) (a : Addr) (xs : List V) : Prop :=
  ∃ (o : Obj) (its : Array Value) (n : Nat), K.lookup a = some o ∧ o.cls = .type "tuple" ∧ o.dict = none ∧ o.data = .seq its n ∧ its.size ≤ sizeLine ∧ Vals xs its.toList
/-- a tuple whose object is known -/
def Fx (G : Gm) (H : Hp) (a : Addr) (xs : List V) : Prop := (∃ o : Obj, o.dict = none ∧ H a = some (.frz o (.tup xs))) ∧ ¬ G.alive a
/-- read at a place that nobody changes -/
def Fe (G : Gm) (H : Hp) (a : Addr) (u : HO) : Prop := H a = some u ∧ ¬ G.alive a
def Fz (G : Gm) (H : Hp) (a : Addr) (u : HO) : Prop := Rd H a u ∧ ¬ G.alive a

mutual
inductive RepV (K : PySem.W.Frag) (G : Gm) (H : Hp) : W → V → Prop
  | non : RepV K G H .non .non
  | bl (b : Bool) : RepV K G H (.bl b) (.bl b)
  | int (i : Int) : RepV K G H (.int i) (.int i)
  | str (x : Str) : RepV K G H (.str x) (.str x)
  | ty (n : String) : RepV K G H (.ty n) (.ty n)
  | obj (a : Addr) : RepV K G H (.obj a) (.ref a)
  | tup {a : Addr} {ws : List W} {vs : List V} : (Fx G H a vs ∨ KT K a vs) → RepL K G H ws vs → RepV K G H (.tup ws) (.ref a)
  | prs {a : Addr} {ws : List W} {vs : List V} : Fz G H a (.tup vs) → RepL K G H ws vs → RepV K G H (.prs ws) (.ref a)
  | lst {a : Addr} {ws : List W} {vs : List V} : Fe G H a (.lst vs) → RepL K G H ws vs → RepV K G H (.lst ws) (.ref a)
  | scr {a : Addr} {ws : List W} {vs : List V} : (Fz G H a (.lst vs) ∨ KL K a vs) → RepL K G H ws vs → RepV K G H (.scr ws) (.ref a)
  | dic {a : Addr} {kws : List (Key × W)} {kvs : List (Key × V)} : Fz G H a (.dK kvs) → RepK K G H kws kvs → RepV K G H (.dic kws) (.ref a)
  | loc {n : Nat} {a : Addr} : G.ls[n]? = some a → RepV K G H (.loc n) (.ref a)
inductive RepL (K : PySem.W.Frag) (G : Gm) (H : Hp) : List W → List V → Prop
  | nil : RepL K G H [] []
  | cons {w : W} {ws : List W} {v : V} {vs : List V} : RepV K G H w v → RepL K G H ws vs → RepL K G H (w :: ws) (v :: vs)
inductive RepK (K : PySem.W.Frag) (G : Gm) (H : Hp) : List (Key × W) → List (Key × V) → Prop
  | nil : RepK K G H [] []
  | cons {k : Key} {w : W} {ws : List (Key × W)} {v : V} {vs : List (Key × V)} : RepV K G H w v → RepK K G H ws vs → RepK K G H ((k, w) :: ws) ((k, v) :: vs)
end

/-- a locked dict -/
def Fd (G : Gm) (H : Hp) (a : Addr) (o : Obj) (kvs : List (Key × V)) : Prop := H a = some (.frz o (.dK kvs)) ∧ ¬ G.alive a
/-- it stands still; a dict may come to be locked -/
def Kp (o : HO) (v : Option HO) : Prop := v = some o ∨ ∃ (kvs : List (Key × V)) (od : Obj), o = .dK kvs ∧ v = some (.frz od o)
structure Ext (G : Gm) (H : Hp) (G' : Gm) (H' : Hp) : Prop where
  ls : ∀ (i : Nat) (a : Addr), G.ls[i]? = some a → G'.ls[i]? = some a
  keep : ∀ (a : Addr) (o : HO), ¬ G.alive a → H a = some o → Kp o (H' a)
  al : ∀ a : Addr, G'.alive a → G.alive a ∨ H a = none
  non : ∀ a : Addr, H' a = none → H a = none
  hid : G'.hid = G.hid
  hidk : ∀ a ∈ G.hid, H' a = H a

theorem Kp.some {o : HO} {v : Option HO} (k : Kp o v) : ∃ o', v = Option.some o' := by
  rcases k with k | ⟨_, _, _, k⟩
  · exact ⟨_, k⟩
  · exact ⟨_, k⟩
theorem Ext.refl (G : Gm) (H : Hp) : Ext G H G H := ⟨fun _ _ e => e, fun _ _ _ e => .inl e, fun _ e => .inl e, fun _ e => e, rfl, fun _ _ => rfl⟩
theorem Ext.trans {G G1 G2 : Gm} {H H1 H2 : Hp} (x : Ext G H G1 H1) (y : Ext G1 H1 G2 H2) : Ext G H G2 H2 where
  ls := fun i a e => y.ls i a (x.ls i a e)
  keep := fun a o na e => by
    have na1 : ¬ G1.alive a := fun z => (x.al a z).elim na fun q => by rw [q] at e; cases e
    rcases x.keep a o na e with k | ⟨kvs, od, rfl, k⟩
    · exact y.keep a o na1 k
    · rcases y.keep a _ na1 k with q | ⟨_, _, q, _⟩
      · exact .inr ⟨kvs, od, rfl, q⟩
      · cases q
  al := fun a z => (y.al a z).elim (fun q => x.al a q) fun q => .inr (x.non a q)
  non := fun a e => x.non a (y.non a e)
  hid := y.hid.trans x.hid
  hidk := fun a h => (y.hidk a (by rw [x.hid]; exact h)).trans (x.hidk a h)

theorem Fz.mono {G G' : Gm} {H H' : Hp} {a : Addr} {u : HO} (x : Ext G H G' H') (h : Fz G H a u) : Fz G' H' a u := by
  obtain ⟨r, na⟩ := h
  refine ⟨?_, fun z => (x.al a z).elim na fun q => ?_⟩
  · rcases r with r | ⟨o, r⟩
    · rcases x.keep a _ na r with k | ⟨_, od, _, k⟩
      · exact .inl k
      · exact .inr ⟨od, k⟩
    · rcases x.keep a _ na r with k | ⟨_, _, k, _⟩
      · exact .inr ⟨o, k⟩
      · cases k
  · rcases r with r | ⟨o, r⟩ <;> (rw [q] at r; cases r)

theorem Fe.mono {G G' : Gm} {H H' : Hp} {a : Addr} {u : List V} (x : Ext G H G' H') (h : Fe G H a (.lst u)) : Fe G' H' a (.lst u) := by
  obtain ⟨r, na⟩ := h
  refine ⟨?_, fun z => (x.al a z).elim na fun q => ?_⟩
  · rcases x.keep a _ na r with k | ⟨_, _, k, _⟩
    · exact k
    · cases k
  · rw [q] at r; cases r
theorem Fd.mono {G G' : Gm} {H H' : Hp} {a : Addr} {o : Obj} {u : List (Key × V)} (x : Ext G H G' H') (h : Fd G H a o u) : Fd G' H' a o u := by
  obtain ⟨r, na⟩ := h
  refine ⟨?_, fun z => (x.al a z).elim na fun q => ?_⟩
  · rcases x.keep a _ na r with k | ⟨_, _, k, _⟩
    · exact k
    · cases k
  · rw [q] at r; cases r
theorem Fx.mono {G G' : Gm} {H H' : Hp} {a : Addr} {u : List V} (x : Ext G H G' H') (h : Fx G H a u) : Fx G' H' a u := by
  obtain ⟨⟨o, d, r⟩, na⟩ := h
  refine ⟨⟨o, d, ?_⟩, fun z => (x.al a z).elim na fun q => ?_⟩
  · rcases x.keep a _ na r with k | ⟨_, _, k, _⟩
    · exact k
    · cases k
  · rw [q] at r; cases r
section
variable {K : PySem.W.Frag} {G G' : Gm} {H H' : Hp}
/-- what a reading leans on: the places' addresses, what stands still -/
structure Less (G : Gm) (H : Hp) (G' : Gm) (H' : Hp) : Prop where
  ls : ∀ (i : Nat) (a : Addr), G.ls[i]? = some a → G'.ls[i]? = some a
  fz : ∀ (a : Addr) (u : HO), Fz G H a u → Fz G' H' a u
  fx : ∀ (a : Addr) (u : List V), Fx G H a u → Fx G' H' a u
  fe : ∀ (a : Addr) (u : List V), Fe G H a (.lst u) → Fe G' H' a (.lst u)
  fd : ∀ (a : Addr) (o : Obj) (u : List (Key × V)), Fd G H a o u → Fd G' H' a o u
mutual
theorem RepV.less (x : Less G H G' H') : ∀ {w : W} {v : V}, RepV K G H w v → RepV K G' H' w v
  | _, _, .non => .non
  | _, _, .bl b => .bl b
  | _, _, .int i => .int i
  | _, _, .str s => .str s
  | _, _, .ty n => .ty n
  | _, _, .obj a => .obj a
  | _, _, .tup h r => .tup (h.imp_left (x.fx _ _)) (RepL.less x r)
  | _, _, .prs h r => .prs (x.fz _ _ h) (RepL.less x r)
  | _, _, .lst h r => .lst (x.fe _ _ h) (RepL.less x r)
  | _, _, .scr h r => .scr (h.imp_left (x.fz _ _)) (RepL.less x r)
  | _, _, .dic h r => .dic (x.fz _ _ h) (RepK.less x r)
  | _, _, .loc e => .loc (x.ls _ _ e)
theorem RepL.less (x : Less G H G' H') : ∀ {ws : List W} {vs : List V}, RepL K G H ws vs → RepL K G' H' ws vs
  | _, _, .nil => .nil
  | _, _, .cons h r => .cons (RepV.less x h) (RepL.less x r)
theorem RepK.less (x : Less G H G' H') : ∀ {ws : List (Key × W)} {vs : List (Key × V)}, RepK K G H ws vs → RepK K G' H' ws vs
  | _, _, .nil => .nil
  | _, _, .cons h r => .cons (RepV.less x h) (RepK.less x r)
end
theorem Ext.less (x : Ext G H G' H') : Less G H G' H' := ⟨x.ls, fun _ _ h => Fz.mono x h, fun _ _ h => Fx.mono x h, fun _ _ h => Fe.mono x h, fun _ _ _ h => Fd.mono x h⟩
theorem RepV.mono (x : Ext G H G' H') {w : W} {v : V} (r : RepV K G H w v) : RepV K G' H' w v := r.less x.less
theorem RepL.mono (x : Ext G H G' H') {w : List W} {v : List V} (r : RepL K G H w v) : RepL K G' H' w v := r.less x.less
theorem RepK.mono (x : Ext G H G' H') {w : List (Key × W)} {v : List (Key × V)} (r : RepK K G H w v) : RepK K G' H' w v := r.less x.less
end

def RepO (K : PySem.W.Frag) (G : Gm) (H : Hp) (a : Addr) : Ob → Prop
  | .lst ws => ∃ vs, H a = some (.lst vs) ∧ RepL K G H ws vs
  | .dic kws => ∃ kvs, H a = some (.dK kvs) ∧ RepK K G H kws kvs

structure World (K : PySem.W.Frag) (G : Gm) (H : Hp) : Prop where
  len : G.ls.length = G.st.length
  nd : G.ls.Nodup
  tr : ∀ a ∈ G.ls, H a ≠ none
  hd : ∀ a ∈ G.hid, H a ≠ none ∧ a ∉ G.ls
  at' : ∀ (i : Nat) (a : Addr) (ob : Ob), G.ls[i]? = some a → G.st[i]? = some (some ob) → RepO K G H a ob

def RepE (K : PySem.W.Frag) (G : Gm) (H : Hp) (ρ : Ev) (σ : L2.St) : Prop :=
  ρ.length = σ.length ∧ ∀ (i : Nat) (w : W), ρ[i]? = some (some w) → ∃ v, σ[i]? = some (some v) ∧ RepV K G H w v
theorem RepE.mono {K : PySem.W.Frag} {G G' : Gm} {H H' : Hp} {ρ : Ev} {σ : L2.St} (x : Ext G H G' H') (h : RepE K G H ρ σ) : RepE K G' H' ρ σ :=
  ⟨h.1, fun i w e => let ⟨v, a, b⟩ := h.2 i w e; ⟨v, a, b.mono x⟩⟩
theorem RepE.set {K : PySem.W.Frag} {G : Gm} {H : Hp} {ρ : Ev} {σ : L2.St} {w : W} {v : V} (i : Nat) (h : RepE K G H ρ σ) (r : RepV K G H w v) : RepE K G H (ρ.set i (some w)) (σ.set i (some v)) := by
  refine ⟨by simp [h.1], fun j u e => ?_⟩
  by_cases hj : i = j
  · subst hj
    by_cases hl : i < ρ.length
    · rw [List.getElem?_set_self hl] at e
      cases e
      exact ⟨v, List.getElem?_set_self (by rw [← h.1]; exact hl), r⟩
    · rw [List.getElem?_eq_none (by simpa using hl)] at e
      cases e
  · rw [List.getElem?_set_ne hj] at e ⊢
    exact h.2 j u e

/-! heap steps -/
section
variable {K : PySem.W.Frag} {G : Gm} {H : Hp} {p : Addr} {o : HO}
theorem RepO.less {G' : Gm} {H' : Hp} (x : Less G H G' H') {a : Addr} {ob : Ob} (na : H' a = H a) (h : RepO K G H a ob) : RepO K G' H' a ob := by
  cases ob with
  | lst ws => obtain ⟨vs, e, r⟩ := h; exact ⟨vs, na.trans e, r.less x⟩
  | dic ws => obtain ⟨vs, e, r⟩ := h; exact ⟨vs, na.trans e, r.less x⟩
theorem RepO.mono {G' : Gm} {H' : Hp} (x : Ext G H G' H') {a : Addr} {ob : Ob} (na : H' a = H a) (h : RepO K G H a ob) : RepO K G' H' a ob := by
  cases ob with
  | lst ws => obtain ⟨vs, e, r⟩ := h; exact ⟨vs, na.trans e, r.mono x⟩
  | dic ws => obtain ⟨vs, e, r⟩ := h; exact ⟨vs, na.trans e, r.mono x⟩
theorem Ext.new (w : World K G H) (h : H p = none) : Ext G H G (upd H p o) := by
  refine ⟨fun _ _ e => e, fun a u _ e => ?_, fun _ z => .inl z, fun a e => ?_, rfl, fun a ha => ?_⟩
  · rw [upd_ne (ne_of_none e h)]; exact .inl e
  · by_cases ha : a = p
    · subst ha; exact h
    · rw [upd_ne ha] at e; exact e
  · exact upd_ne fun z => (w.hd a ha).1 (by rw [z]; exact h)
theorem World.new (w : World K G H) (h : H p = none) : World K G (upd H p o) := by
  have ne : ∀ a ∈ G.ls, a ≠ p := fun a ha e => w.tr a ha (by rw [e]; exact h)
  refine ⟨w.len, w.nd, fun a ha => by rw [upd_ne (ne a ha)]; exact w.tr a ha, fun a ha => ⟨by rw [upd_ne fun z => (w.hd a ha).1 (by rw [z]; exact h)]; exact (w.hd a ha).1, (w.hd a ha).2⟩, fun i a ob e1 e2 => ?_⟩
  exact (w.at' i a ob e1 e2).mono (Ext.new w h) (upd_ne (ne a (List.mem_of_getElem? e1)))
/-- a new place that is tracked -/
def Gm.push (G : Gm) (p : Addr) (ob : Ob) : Gm := ⟨G.ls ++ [p], G.st ++ [some ob], G.hid⟩
theorem World.nal (w : World K G H) (h : H p = none) : ¬ G.alive p := fun z => z.elim (fun ⟨_, _, e, _⟩ => w.tr p (List.mem_of_getElem? e) h) fun z => (w.hd p z).1 h
theorem Ext.push (w : World K G H) (ob : Ob) (h : H p = none) : Ext G H (G.push p ob) (upd H p o) := by
  have x : Ext G H G (upd H p o) := Ext.new w h
  refine ⟨fun i a e => ?_, x.keep, fun a z => ?_, x.non, rfl, x.hidk⟩
  · show (G.ls ++ [p])[i]? = some a
    rw [List.getElem?_append_left (List.getElem?_eq_some_iff.mp e).1]; exact e
  · obtain ⟨i, ob', e1, e2⟩ | z := z
    rotate_left
    · exact .inl (.inr z)
    have e1 : (G.ls ++ [p])[i]? = some a := e1
    have e2 : (G.st ++ [some ob])[i]? = some (some ob') := e2
    by_cases hi : i < G.ls.length
    · rw [List.getElem?_append_left hi] at e1
      rw [List.getElem?_append_left (by rw [← w.len]; exact hi)] at e2
      exact .inl (.inl ⟨i, ob', e1, e2⟩)
    · rw [List.getElem?_append_right (by omega)] at e1
      have : a = p := by
        cases hk : i - G.ls.length with
        | zero => rw [hk] at e1; exact (Option.some.inj e1).symm
        | succ k => rw [hk] at e1; simp at e1
      exact .inr (by rw [this]; exact h)
theorem World.push (w : World K G H) (ob : Ob) (h : H p = none) (ho : RepO K (G.push p ob) (upd H p o) p ob) : World K (G.push p ob) (upd H p o) := by
  have ne : ∀ a ∈ G.ls, a ≠ p := fun a ha e => w.tr a ha (by rw [e]; exact h)
  refine ⟨?_, ?_, fun a ha => ?_, fun a ha => ?_, fun i a ob' e1 e2 => ?_⟩
  · show (G.ls ++ [p]).length = (G.st ++ [some ob]).length
    simp [w.len]
  · show (G.ls ++ [p]).Nodup
    rw [List.nodup_append]
    exact ⟨w.nd, by simp, fun a ha b hb => by rw [List.mem_singleton.mp hb]; exact ne a ha⟩
  · have ha : a ∈ G.ls ++ [p] := ha
    rcases List.mem_append.mp ha with q | q
    · rw [upd_ne (ne a q)]; exact w.tr a q
    · rw [List.mem_singleton.mp q, upd_same]; exact fun z => nomatch z
  · have np : a ≠ p := fun z => (w.hd a ha).1 (by rw [z]; exact h)
    refine ⟨by rw [upd_ne np]; exact (w.hd a ha).1, fun z => ?_⟩
    rcases List.mem_append.mp z with q | q
    · exact (w.hd a ha).2 q
    · exact np (List.mem_singleton.mp q)
  · have e1 : (G.ls ++ [p])[i]? = some a := e1
    have e2 : (G.st ++ [some ob])[i]? = some (some ob') := e2
    by_cases hi : i < G.ls.length
    · rw [List.getElem?_append_left hi] at e1
      rw [List.getElem?_append_left (by rw [← w.len]; exact hi)] at e2
      exact (w.at' i a ob' e1 e2).mono (Ext.push w ob h) (upd_ne (ne a (List.mem_of_getElem? e1)))
    · rw [List.getElem?_append_right (by omega)] at e1
      rw [List.getElem?_append_right (by rw [← w.len]; omega), ← w.len] at e2
      cases hk : i - G.ls.length with
      | zero =>
        rw [hk] at e1 e2
        have : p = a := Option.some.inj e1
        have q : ob = ob' := Option.some.inj (Option.some.inj e2)
        subst this q
        exact ho
      | succ k => rw [hk] at e1; simp at e1
/-- a tracked place is written -/
def Gm.put (G : Gm) (n : Nat) (ob : Ob) : Gm := ⟨G.ls, G.st.set n (some ob), G.hid⟩
theorem Gm.put_alive {n : Nat} {ob ob0 : Ob} {a b : Addr} (e1 : G.ls[n]? = some a) (e2 : G.st[n]? = some (some ob0)) (h : (G.put n ob).alive b) : G.alive b := by
  rcases h with ⟨i, ob', x1, x2⟩ | h
  · have x1 : G.ls[i]? = some b := x1
    have x2 : (G.st.set n (some ob))[i]? = some (some ob') := x2
    by_cases hi : n = i
    · subst hi; exact .inl ⟨n, ob0, x1, e2⟩
    · rw [List.getElem?_set_ne hi] at x2; exact .inl ⟨i, ob', x1, x2⟩
  · exact .inr h
theorem Ext.put {n : Nat} {ob ob0 : Ob} {a : Addr} (w : World K G H) (e1 : G.ls[n]? = some a) (e2 : G.st[n]? = some (some ob0)) : Ext G H (G.put n ob) (upd H a o) := by
  refine ⟨fun _ _ e => e, fun b u na e => ?_, fun b z => .inl (Gm.put_alive e1 e2 z), fun b e => ?_, rfl, fun b hb => ?_⟩
  · rw [upd_ne (fun z => na (by rw [z]; exact .inl ⟨n, ob0, e1, e2⟩))]; exact .inl e
  · by_cases hb : b = a
    · subst hb; rw [upd_same] at e; cases e
    · rw [upd_ne hb] at e; exact e
  · exact upd_ne fun z => (w.hd b hb).2 (by rw [z]; exact List.mem_of_getElem? e1)
theorem World.put {n : Nat} {ob ob0 : Ob} {a : Addr} (w : World K G H) (e1 : G.ls[n]? = some a) (e2 : G.st[n]? = some (some ob0)) (ho : RepO K (G.put n ob) (upd H a o) a ob) : World K (G.put n ob) (upd H a o) := by
  refine ⟨?_, w.nd, fun b hb => ?_, fun b hb => ⟨by rw [upd_ne fun z => (w.hd b hb).2 (by rw [z]; exact List.mem_of_getElem? e1)]; exact (w.hd b hb).1, (w.hd b hb).2⟩, fun i b ob' x1 x2 => ?_⟩
  · show G.ls.length = (G.st.set n (some ob)).length
    simp [w.len]
  · by_cases hq : b = a
    · subst hq; rw [upd_same]; exact fun z => nomatch z
    · rw [upd_ne hq]; exact w.tr b hb
  · have x1 : G.ls[i]? = some b := x1
    have x2 : (G.st.set n (some ob))[i]? = some (some ob') := x2
    by_cases hi : n = i
    · subst hi
      rw [e1] at x1
      have hl : n < G.st.length := (List.getElem?_eq_some_iff.mp e2).1
      rw [List.getElem?_set_self hl] at x2
      cases x1; cases x2
      exact ho
    · rw [List.getElem?_set_ne hi] at x2
      have nb : b ≠ a := by
        intro z
        subst z
        obtain ⟨h1, q1⟩ := List.getElem?_eq_some_iff.mp e1
        obtain ⟨h2, q2⟩ := List.getElem?_eq_some_iff.mp x1
        exact hi ((List.getElem_inj w.nd).mp (q1.trans q2.symm))
      exact (w.at' i b ob' x1 x2).mono (Ext.put w e1 e2) (upd_ne nb)
end
end Sim
end
section
set_option Elab.async false
set_option linter.all false
set_option maxRecDepth 100000
set_option maxHeartbeats 1000000
open PySem PySem.Spec PyProof.Rows L2
namespace Sim

structure Exn where
  cls : Value
  fs : List (Str × W)
inductive Rs (α : Type) where
  | ok (a : α) (st : Stt) | er (x : Exn) (st : Stt) | no
def Rs.bind {α β : Type} (r : Rs α) (f : α → Stt → Rs β) : Rs β := match r with
  | .ok a st => f a st
  | .er x st => .er x st
  | .no => .no
@[simp] theorem Rs.bind_ok {α β : Type} (a : α) (st : Stt) (f : α → Stt → Rs β) : (Rs.ok a st).bind f = f a st := rfl
@[simp] theorem Rs.bind_er {α β : Type} (x : Exn) (st : Stt) (f : α → Stt → Rs β) : (Rs.er x st).bind f = .er x st := rfl
@[simp] theorem Rs.bind_no {α β : Type} (f : α → Stt → Rs β) : (Rs.no : Rs α).bind f = .no := rfl
abbrev EM := Ev → Stt → Rs W
abbrev TM := Ev → Stt → Rs Bool
abbrev AM := Ev → Stt → Rs (List W)
abbrev FM := List W → Stt → Rs W

def RepX (K : PySem.W.Frag) (G : Gm) (H : Hp) (x : Exn) (d : Option Addr) : Prop :=
  x.fs = [] ∨ ∃ (a : Addr) (vs : List (Str × V)), d = some a ∧ H a = some (.xd vs) ∧ x.fs.map (·.1) = vs.map (·.1) ∧ RepL K G H (x.fs.map (·.2)) (vs.map (·.2))

def PostR {α β : Type} (K : PySem.W.Frag) (R : Gm → Hp → α → β → Prop) (Wx : Value → Option Addr → Hp → Prop) (G : Gm) (H : Hp) (r : Rs α) (Q : β → Hp → Prop) : Prop :=
  match r with
  | .ok a st' => ∀ (ls' : List Addr) (H' : Hp) (b : β), Ext G H (G.to ls' st') H' → World K (G.to ls' st') H' → R (G.to ls' st') H' a b → Q b H'
  | .er x st' => ∀ (ls' : List Addr) (H' : Hp) (d : Option Addr), Ext G H (G.to ls' st') H' → World K (G.to ls' st') H' → RepX K (G.to ls' st') H' x d → Wx x.cls d H'
  | .no => False

section
variable {K : PySem.W.Frag} {α β γ δ : Type} {R : Gm → Hp → α → β → Prop} {R2 : Gm → Hp → γ → δ → Prop} {Wx : Value → Option Addr → Hp → Prop} {G G' : Gm} {H H' : Hp}
theorem PostR.mono {r : Rs α} {Q : β → Hp → Prop} (x : Ext G H G' H') (h : PostR K R Wx G H r Q) : PostR K R Wx G' H' r Q := by
  have hid := x.hid
  obtain ⟨l', s', h'⟩ := G'
  simp only at hid
  subst hid
  cases r with
  | ok a st => exact fun ls H1 b e w q => h ls H1 b (x.trans e) w q
  | er y st => exact fun ls H1 b e w q => h ls H1 b (x.trans e) w q
  | no => exact h
theorem PostR.bind {r : Rs α} {f : α → Stt → Rs γ} {Q : δ → Hp → Prop} {Q1 : β → Hp → Prop} (h : PostR K R2 Wx G H (r.bind f) Q)
    (k : ∀ a st' ls' H' b, r = .ok a st' → Ext G H (G.to ls' st') H' → World K (G.to ls' st') H' → R (G.to ls' st') H' a b → PostR K R2 Wx (G.to ls' st') H' (f a st') Q → Q1 b H') : PostR K R Wx G H r Q1 := by
  cases r with
  | ok a st => exact fun ls H1 b e w q => k a st ls H1 b rfl e w q (PostR.mono e h)
  | er y st => exact h
  | no => exact h
theorem PostR.ok {a : α} {b : β} {Q : β → Hp → Prop} (w : World K G H) (h : PostR K R Wx G H (.ok a G.st) Q) (r : R G H a b) : Q b H := h G.ls H b (Ext.refl _ _) w r
end

def SemE (K : PySem.W.Frag) (Wx : WX) (te : TE) (m : EM) : Prop := ∀ (G : Gm) (H : Hp) (ρ : Ev) (σ : L2.St) (Q : VK), World K G H → RepE K G H ρ σ → PostR K (RepV K) (fun c d H' => Wx c d σ H') G H (m ρ G.st) Q → te σ H Q
def SemT (K : PySem.W.Frag) (Wx : WX) (te : TT) (m : TM) : Prop := ∀ (G : Gm) (H : Hp) (ρ : Ev) (σ : L2.St) (Q : Bool → Hp → Prop), World K G H → RepE K G H ρ σ → PostR K (fun _ _ a b => a = b) (fun c d H' => Wx c d σ H') G H (m ρ G.st) Q → te σ H Q
def SemA (K : PySem.W.Frag) (Wx : WX) (te : TA) (m : AM) : Prop := ∀ (G : Gm) (H : Hp) (ρ : Ev) (σ : L2.St) (Q : List V → Hp → Prop), World K G H → RepE K G H ρ σ → PostR K (RepL K) (fun c d H' => Wx c d σ H') G H (m ρ G.st) Q → te σ H Q

structure CE (X : Cx) (Wx : WX) (e : Expr) (t : TE) (m : EM) : Prop where
  pe : PE X e t
  sem : SemE X.K Wx t m
structure CT (X : Cx) (Wx : WX) (e : Expr) (t : TT) (m : TM) : Prop where
  pe : PT X e t
  sem : SemT X.K Wx t m
structure CA (X : Cx) (Wx : WX) (es : List Expr) (t : TA) (m : AM) : Prop where
  pe : PA X es t
  sem : SemA X.K Wx t m

/-! expressions -/
def eVar (i : Nat) : EM := fun ρ st => match ρ[i]? with
  | some (some w) => .ok w st
  | _ => .no
def eC (w : W) : EM := fun _ st => .ok w st
def aNil : AM := fun _ st => .ok [] st
def aCons (m : EM) (r : AM) : AM := fun ρ st => (m ρ st).bind fun w st1 => (r ρ st1).bind fun ws st2 => .ok (w :: ws) st2
/-! a tuple whose object is known -/
section
variable {X : Cx}
theorem tup_laid {pins : List (Addr × Obj)} {σ : L2.St} {H : Hp} {s : Shared} {Q : VK} {its : List Value} {xs : List V} {h' : Heap} {tk : Nat} (I : L2.Inv X pins σ H { s with heap := h', toks := tk }) (rv : Vals xs its) (hz : xs.length ≤ sizeLine)
    (q : ∀ (p : Addr) (o : Obj), o.dict = none → H p = none → Q (.ref p) (upd H p (.frz o (.tup xs)))) : EP X pins σ Q (.ref h'.objs.size) { s with heap := h'.push { cls := .type "tuple", data := .seq its.toArray }, toks := tk } := by
  have e : (h'.push { cls := .type "tuple", data := .seq its.toArray }).get? h'.objs.size = some { cls := .type "tuple", data := .seq its.toArray } := Heap.get?_push_size _ rfl
  refine ⟨.ref h'.objs.size, upd H h'.objs.size (.frz { cls := .type "tuple", data := .seq its.toArray } (.tup xs)), I.laid (t' := tk) (fun b u q => Heap.get?_push_of_some _ q) (Nat.le_refl _) ⟨e, hz, its, rv, ⟨_, e, rfl, _, rfl⟩⟩, rfl, q _ _ rfl (I.hok.fresh (Nat.le_refl _))⟩
def tTupF (t : TA) : TE := fun σ H Q => t σ H fun xs H1 => xs.length ≤ sizeLine ∧ ∀ (p : Addr) (o : Obj), o.dict = none → H1 p = none → Q (.ref p) (upd H1 p (.frz o (.tup xs)))
theorem pe_tupF {es : List Expr} {t : TA} {x1 : Nat} {pos : Pos} (h : PA X es t) : PE X (.Tuple es x1 pos) (tTupF t) := by
  refine ⟨fun pins s σ H Q I hq => ?_⟩
  refine wpAny_Tuple_spliced (thn (h.run pos pins s σ H _ I hq) fun us s1 ⟨xs, H1, I1, r, z, q⟩ => ⟨by rw [← r.length]; exact z, ?_⟩)
  exact tup_laid (s := s1) (h' := s1.heap) (tk := s1.toks) I1 r z q
end
def eTup (r : AM) : EM := fun ρ st => (r ρ st).bind fun ws st1 => if ws.length ≤ 1000 then .ok (.tup ws) st1 else .no
def eLst (r : AM) : EM := fun ρ st => (r ρ st).bind fun ws st1 => if ws.length ≤ 1000 then .ok (.lst ws) st1 else .no
def eLstL (r : AM) : EM := fun ρ st => (r ρ st).bind fun ws st1 => if ws.length ≤ 1000 then .ok (.loc st1.length) (st1 ++ [some (.lst ws)]) else .no

section
variable {X : Cx} {Wx : WX} {K : PySem.W.Frag} {G : Gm} {H : Hp}
theorem RepL.length {K : PySem.W.Frag} {G : Gm} {H : Hp} : ∀ {ws : List W} {vs : List V}, RepL K G H ws vs → ws.length = vs.length
  | _, _, .nil => rfl
  | _, _, .cons _ r => by simp [RepL.length r]
theorem sz1000 {n : Nat} (h : n ≤ 1000) : n ≤ sizeLine := Nat.le_trans h (by decide)
theorem ce_var (i : Nat) {x : Str} {pos : Pos} (hN : X.N[i]? = some x := by rfl) (hv : Vis X.env.scope x := by first | exact Or.inl rfl | exact Or.inr (Or.inl rfl) | exact Or.inr (Or.inr rfl)) (hd : (x == ("__debug__" : Str)) = false := by decide)
    (hcd : (x == ("__classdict__" : Str)) = false := by decide) : CE X Wx (.Name x pos) (tVar i) (eVar i) := by
  refine ⟨pv i hN hv hd hcd, fun G H ρ σ Q w r h => ?_⟩
  unfold eVar at h
  cases e : ρ[i]? with
  | none => rw [e] at h; exact h.elim
  | some o =>
    cases o with
    | none => rw [e] at h; exact h.elim
    | some a =>
      rw [e] at h
      obtain ⟨v, e2, rv⟩ := r.2 i a e
      exact ⟨v, e2, PostR.ok w h rv⟩
theorem sem_c {w : W} {v : V} (hr : ∀ G H, RepV K G H w v) : SemE K Wx (tC v) (eC w) := fun G H ρ σ Q wo r h => PostR.ok (a := w) wo h (hr G H)
theorem ce_int {i : Int} {j pos} : CE X Wx (.Constant (.int i) j pos) (tC (.int i)) (eC (.int i)) := ⟨pe_int, sem_c fun _ _ => .int i⟩
theorem ce_bl {b : Bool} {j pos} : CE X Wx (.Constant (.bool b) j pos) (tC (.bl b)) (eC (.bl b)) := ⟨pe_bl, sem_c fun _ _ => .bl b⟩
theorem ce_non {j pos} : CE X Wx (.Constant .none j pos) (tC .non) (eC .non) := ⟨pe_non, sem_c fun _ _ => .non⟩
theorem ce_str {x : Str} {j pos} : CE X Wx (.Constant (.str x) j pos) (tC (.str x)) (eC (.str x)) := ⟨pe_str, sem_c fun _ _ => .str x⟩
/-- a constant of the module -/
theorem ce_glob {x : Str} {pos : Pos} {u : Value} {v : V} (w : W) (hg : Gl X x) (hm : X.mg x = some u) (r : RelV v u) (hr : ∀ G H, RepV X.K G H w v) (hd : (x == ("__debug__" : Str)) = false := by decide) : CE X Wx (.Name x pos) (tC v) (eC w) :=
  ⟨pe_glob hg hm r hd, sem_c hr⟩
theorem ca_nil : CA X Wx [] tNil aNil := ⟨pa_nil, fun G H ρ σ Q w r h => PostR.ok (b := []) w h .nil⟩
theorem ca_cons {e : Expr} {es : List Expr} {te : TE} {t : TA} {m : EM} {ms : AM} (h1 : CE X Wx e te m) (h2 : CA X Wx es t ms) (hs : starEach (e :: es) X.env = (false, eval e X.env) :: starEach es X.env := by rfl) : CA X Wx (e :: es) (tCons te t) (aCons m ms) := by
  refine ⟨pa_cons h1.pe h2.pe hs, fun G H ρ σ Q w r h => ?_⟩
  refine h1.sem G H ρ σ _ w r (PostR.bind h fun a st1 ls1 H1 v _ e1 w1 rv h1' => ?_)
  refine h2.sem (G.to ls1 st1) H1 ρ σ _ w1 (r.mono e1) (PostR.bind h1' fun as st2 ls2 H2 vs _ e2 w2 rvs h2' => ?_)
  exact PostR.ok (G := (G.to ls2 st2)) w2 h2' (.cons (rv.mono e2) rvs)
theorem ce_tup {es : List Expr} {t : TA} {m : AM} {x1 pos} (h1 : CA X Wx es t m) : CE X Wx (.Tuple es x1 pos) (tTupF t) (eTup m) := by
  refine ⟨pe_tupF h1.pe, fun G H ρ σ Q w r h => ?_⟩
  refine h1.sem G H ρ σ _ w r (PostR.bind h fun ws st1 ls1 H1 vs _ e1 w1 rvs h1' => ?_)
  skip
  split at h1'
  · rename_i hl
    refine ⟨sz1000 (by rw [← rvs.length]; exact hl), fun p o hd hp => ?_⟩
    exact h1' ls1 _ _ (Ext.new w1 hp) (w1.new hp) (.tup (.inl ⟨⟨o, hd, upd_same⟩, w1.nal hp⟩) (rvs.mono (Ext.new w1 hp)))
  · exact h1'.elim
theorem ce_lst {es : List Expr} {t : TA} {m : AM} {pos} (h1 : CA X Wx es t m) : CE X Wx (.List es pos) (tLst t) (eLst m) := by
  refine ⟨pe_lst h1.pe, fun G H ρ σ Q w r h => ?_⟩
  refine h1.sem G H ρ σ _ w r (PostR.bind h fun ws st1 ls1 H1 vs _ e1 w1 rvs h1' => ?_)
  skip
  split at h1'
  · rename_i hl
    refine ⟨sz1000 (by rw [← rvs.length]; exact hl), fun p hp => ?_⟩
    exact h1' ls1 _ _ (Ext.new w1 hp) (w1.new hp) (.lst ⟨upd_same, w1.nal hp⟩ (rvs.mono (Ext.new w1 hp)))
  · exact h1'.elim
/-- a new list that is tracked -/
theorem post_push {Wy : Value → Option Addr → Hp → Prop} {ls : List Addr} {st : Stt} {H : Hp} {ob : Ob} {Q : VK} {p : Addr} {o : HO} (w : World K (G.to ls st) H) (hp : H p = none) (h : PostR K (RepV K) Wy (G.to ls st) H (.ok (.loc st.length) (st ++ [some ob])) Q)
    (ho : RepO K (Gm.push (G.to ls st) p ob) (upd H p o) p ob) : Q (.ref p) (upd H p o) := by
  refine h (ls ++ [p]) _ _ (Ext.push w ob hp) (w.push ob hp ho) (.loc ?_)
  show (ls ++ [p])[st.length]? = some p
  have e : st.length = ls.length := w.len.symm
  rw [e]; simp
theorem ce_lstL {es : List Expr} {t : TA} {m : AM} {pos} (h1 : CA X Wx es t m) : CE X Wx (.List es pos) (tLst t) (eLstL m) := by
  refine ⟨pe_lst h1.pe, fun G H ρ σ Q w r h => ?_⟩
  refine h1.sem G H ρ σ _ w r (PostR.bind h fun ws st1 ls1 H1 vs _ e1 w1 rvs h1' => ?_)
  skip
  split at h1'
  · rename_i hl
    refine ⟨sz1000 (by rw [← rvs.length]; exact hl), fun p hp => ?_⟩
    exact post_push w1 hp h1' ⟨vs, upd_same, rvs.mono (Ext.push w1 _ hp)⟩
  · exact h1'.elim

/-! operators on values: f gives the value; it may be a new object that nobody changes -/
def PostV (K : PySem.W.Frag) (G : Gm) (H : Hp) (w : W) (Q : VK) : Prop := ∀ (H' : Hp) (v : V), Ext G H G H' → World K G H' → RepV K G H' w v → Q v H'
theorem PostV.of {Wy : Value → Option Addr → Hp → Prop} {ls : List Addr} {st : Stt} {w : W} {Q : VK} (h : PostR K (RepV K) Wy (G.to ls st) H (.ok w st) Q) : PostV K (G.to ls st) H w Q := fun H' v e wo r => h ls H' v e wo r
theorem PostV.val {w : W} {v : V} {Q : VK} (wo : World K G H) (h : PostV K G H w Q) (r : RepV K G H w v) : Q v H := h H v (Ext.refl _ _) wo r
theorem PostV.newT {ws : List W} {vs : List V} {Q : VK} {p : Addr} {o : Obj} (wo : World K G H) (h : PostV K G H (.tup ws) Q) (r : RepL K G H ws vs) (hd : o.dict = none) (hp : H p = none) : Q (.ref p) (upd H p (.frz o (.tup vs))) :=
  h _ _ (Ext.new wo hp) (wo.new hp) (.tup (.inl ⟨⟨o, hd, upd_same⟩, wo.nal hp⟩) (r.mono (Ext.new wo hp)))
theorem PostV.newL {ws : List W} {vs : List V} {Q : VK} {p : Addr} (wo : World K G H) (h : PostV K G H (.lst ws) Q) (r : RepL K G H ws vs) (hp : H p = none) : Q (.ref p) (upd H p (.lst vs)) :=
  h _ _ (Ext.new wo hp) (wo.new hp) (.lst ⟨upd_same, wo.nal hp⟩ (r.mono (Ext.new wo hp)))

abbrev F2 := Stt → W → W → Option W
def OpS (K : PySem.W.Frag) (r : R2) (f : F2) : Prop := ∀ (G : Gm) (H : Hp) (x y : W) (v u : V) (w : W) (Q : VK), World K G H → RepV K G H x v → RepV K G H y u → f G.st x y = some w → PostV K G H w Q → r v u H Q
def eOp (f : F2) (a b : EM) : EM := fun ρ st => (a ρ st).bind fun x st1 => (b ρ st1).bind fun y st2 => match f st2 x y with
  | some w => .ok w st2
  | none => .no
theorem sem_op {ta tb : TE} {a b : EM} {r : R2} {f : F2} (ha : SemE K Wx ta a) (hb : SemE K Wx tb b) (ho : OpS K r f) : SemE K Wx (tOp r ta tb) (eOp f a b) := fun G H ρ σ Q w r h => by
  refine ha G H ρ σ _ w r (PostR.bind h fun x st1 ls1 H1 v _ e1 w1 rv h1' => ?_)
  refine hb (G.to ls1 st1) H1 ρ σ _ w1 (r.mono e1) (PostR.bind h1' fun y st2 ls2 H2 u _ e2 w2 ru h2' => ?_)
  skip
  cases e : f st2 x y with
  | none => rw [e] at h2'; exact h2'.elim
  | some z =>
    rw [e] at h2'
    exact ho (G.to ls2 st2) H2 x y v u z Q w2 (rv.mono e2) ru e (PostV.of h2')
theorem ce_op {a b : Expr} {op : Operator} {ta tb : TE} {ma mb : EM} {r : R2} {f : F2} {pos : Pos} (ho : OpR X (binaryOp op) r) (hf : OpS X.K r f) (ha : CE X Wx a ta ma) (hb : CE X Wx b tb mb) : CE X Wx (.BinOp a op b pos) (tOp r ta tb) (eOp f ma mb) :=
  ⟨pe_op ho ha.pe hb.pe, sem_op ha.sem hb.sem hf⟩
theorem ce_cmp {a b : Expr} {op : CmpOp} {ta tb : TE} {ma mb : EM} {r : R2} {f : F2} {pos : Pos} (ho : OpR X (compareOp op) r) (hf : OpS X.K r f) (ha : CE X Wx a ta ma) (hb : CE X Wx b tb mb) (hm : behindInMarks op b = false := by first | exact nobehind _ (by decide) (by decide) | rfl) :
    CE X Wx (.Compare a [op] [b] pos) (tOp r ta tb) (eOp f ma mb) := ⟨pe_cmpR ho ha.pe hb.pe hm, sem_op ha.sem hb.sem hf⟩

/-! tests -/
def tmV (m : EM) : TM := fun ρ st => (m ρ st).bind fun w st1 => match w with
  | .bl b => .ok b st1
  | _ => .no
def tmNot (m : TM) : TM := fun ρ st => (m ρ st).bind fun b st1 => .ok (!b) st1
def tmAnd (m k : TM) : TM := fun ρ st => (m ρ st).bind fun b st1 => if b = true then k ρ st1 else .ok false st1
def tmOr (m k : TM) : TM := fun ρ st => (m ρ st).bind fun b st1 => if b = true then .ok true st1 else k ρ st1
theorem sem_tv {t : TE} {m : EM} (h : SemE K Wx t m) : SemT K Wx (tB t) (tmV m) := fun G H ρ σ Q w r hp => by
  refine h G H ρ σ _ w r (PostR.bind hp fun x st1 ls1 H1 v _ e1 w1 rv h1 => ?_)
  cases rv with
  | bl b => exact ⟨b, rfl, PostR.ok (G := (G.to ls1 st1)) w1 h1 rfl⟩
  | non => exact h1.elim
  | int _ => exact h1.elim
  | str _ => exact h1.elim
  | ty _ => exact h1.elim
  | obj _ => exact h1.elim
  | tup _ _ => exact h1.elim
  | prs _ _ => exact h1.elim
  | scr _ _ => exact h1.elim
  | lst _ _ => exact h1.elim
  | dic _ _ => exact h1.elim
  | loc _ => exact h1.elim
theorem ct_val {e : Expr} {t : TE} {m : EM} (h : CE X Wx e t m) (he : ∀ whole, isTrue e X.env whole = (do let v ← whole; standAt e.pos; holding [v] (truthy v)) := by intro _; rfl) : CT X Wx e (tB t) (tmV m) := ⟨pt_val h.pe he, sem_tv h.sem⟩
theorem sem_test {t : TE} {m : EM} (h : SemE K Wx t m) : SemT K Wx (tTest t) (tmV m) := sem_tv h
theorem ct_cmp {a b : Expr} {op : CmpOp} {ta tb : TE} {ma mb : EM} {r : R2} {f : F2} {pos : Pos} (ho : OpR X (compareOp op) r) (hf : OpS X.K r f) (ha : CE X Wx a ta ma) (hb : CE X Wx b tb mb) (hm : behindInMarks op b = false := by first | exact nobehind _ (by decide) (by decide) | rfl) :
    CT X Wx (.Compare a [op] [b] pos) (tTest (tOp r ta tb)) (tmV (eOp f ma mb)) := ⟨pt_cmpR ho ha.pe hb.pe hm, sem_test (sem_op ha.sem hb.sem hf)⟩
theorem ct_not {a : Expr} {t : TT} {m : TM} {pos : Pos} (h : CT X Wx a t m) : CT X Wx (.UnaryOp .Not a pos) (tNot t) (tmNot m) := by
  refine ⟨pt_not h.pe, fun G H ρ σ Q w r hp => ?_⟩
  refine h.sem G H ρ σ _ w r (PostR.bind hp fun x st1 ls1 H1 v _ e1 w1 rv h1 => ?_)
  exact PostR.ok (G := (G.to ls1 st1)) w1 h1 (by rw [rv])
structure CW (X : Cx) (Wx : WX) (e : Expr) (t : TT) (m : TM) : Prop where
  pe : PW X e t
  sem : SemT X.K Wx t m
theorem CW.ct {e : Expr} {t : TT} {m : TM} (h : CW X Wx e t m) : CT X Wx e t m := ⟨h.pe.pt, h.sem⟩
theorem cw_and1 {a : Expr} {t : TT} {m : TM} {pos : Pos} (h : CT X Wx a t m) : CW X Wx (.BoolOp .And [a] pos) t m := ⟨pw_and1 h.pe, h.sem⟩
theorem cw_or1 {a : Expr} {t : TT} {m : TM} {pos : Pos} (h : CT X Wx a t m) : CW X Wx (.BoolOp .Or [a] pos) t m := ⟨pw_or1 h.pe, h.sem⟩
theorem cw_and {a b : Expr} {rest : List Expr} {t u : TT} {m k : TM} {pos : Pos} (h1 : CT X Wx a t m) (h2 : CW X Wx (.BoolOp .And (b :: rest) pos) u k) : CW X Wx (.BoolOp .And (a :: b :: rest) pos) (tAnd t u) (tmAnd m k) := by
  refine ⟨pw_and h1.pe h2.pe, fun G H ρ σ Q w r hp => ?_⟩
  refine h1.sem G H ρ σ _ w r (PostR.bind hp fun x st1 ls1 H1 v _ e1 w1 rv h1' => ?_)
  subst rv
  cases x with
  | true => exact h2.sem (G.to ls1 st1) H1 ρ σ Q w1 (r.mono e1) h1'
  | false => exact PostR.ok (G := (G.to ls1 st1)) w1 h1' rfl
theorem cw_or {a b : Expr} {rest : List Expr} {t u : TT} {m k : TM} {pos : Pos} (h1 : CT X Wx a t m) (h2 : CW X Wx (.BoolOp .Or (b :: rest) pos) u k) : CW X Wx (.BoolOp .Or (a :: b :: rest) pos) (tOr t u) (tmOr m k) := by
  refine ⟨pw_or h1.pe h2.pe, fun G H ρ σ Q w r hp => ?_⟩
  refine h1.sem G H ρ σ _ w r (PostR.bind hp fun x st1 ls1 H1 v _ e1 w1 rv h1' => ?_)
  subst rv
  cases x with
  | false => exact h2.sem (G.to ls1 st1) H1 ρ σ Q w1 (r.mono e1) h1'
  | true => exact PostR.ok (G := (G.to ls1 st1)) w1 h1' rfl
/-! and, or, not as values -/
def emAnd (m k : EM) : EM := fun ρ st => (m ρ st).bind fun w st1 => match w with
  | .bl true => k ρ st1
  | .bl false => .ok (.bl false) st1
  | _ => .no
def emOr (m k : EM) : EM := fun ρ st => (m ρ st).bind fun w st1 => match w with
  | .bl true => .ok (.bl true) st1
  | .bl false => k ρ st1
  | _ => .no
def emNot (m : EM) : EM := fun ρ st => (m ρ st).bind fun w st1 => match w with
  | .bl b => .ok (.bl (!b)) st1
  | _ => .no
theorem ce_one {a : Expr} {op} {t : TE} {m : EM} {pos : Pos} (h : CE X Wx a t m) : CE X Wx (.BoolOp op [a] pos) t m := ⟨pe_one h.pe, h.sem⟩
theorem ce_and {a b : Expr} {rest : List Expr} {t u : TE} {m k : EM} {pos : Pos} (h1 : CE X Wx a t m) (h2 : CE X Wx (.BoolOp .And (b :: rest) pos) u k) : CE X Wx (.BoolOp .And (a :: b :: rest) pos) (tAndV t u) (emAnd m k) := by
  refine ⟨pe_and h1.pe h2.pe, fun G H ρ σ Q w r hp => ?_⟩
  refine h1.sem G H ρ σ _ w r (PostR.bind hp fun x st1 ls1 H1 v _ e1 w1 rv h1' => ?_)
  cases rv with
  | bl b =>
    refine ⟨b, rfl, ?_⟩
    cases b with
    | true => exact iteT (h2.sem (G.to ls1 st1) H1 ρ σ Q w1 (r.mono e1) h1')
    | false => exact iteF (PostR.ok (G := (G.to ls1 st1)) w1 h1' (.bl false))
  | non => exact h1'.elim
  | int _ => exact h1'.elim
  | str _ => exact h1'.elim
  | ty _ => exact h1'.elim
  | obj _ => exact h1'.elim
  | tup _ _ => exact h1'.elim
  | prs _ _ => exact h1'.elim
  | scr _ _ => exact h1'.elim
  | lst _ _ => exact h1'.elim
  | dic _ _ => exact h1'.elim
  | loc _ => exact h1'.elim
theorem ce_or {a b : Expr} {rest : List Expr} {t u : TE} {m k : EM} {pos : Pos} (h1 : CE X Wx a t m) (h2 : CE X Wx (.BoolOp .Or (b :: rest) pos) u k) : CE X Wx (.BoolOp .Or (a :: b :: rest) pos) (tOrV t u) (emOr m k) := by
  refine ⟨pe_or h1.pe h2.pe, fun G H ρ σ Q w r hp => ?_⟩
  refine h1.sem G H ρ σ _ w r (PostR.bind hp fun x st1 ls1 H1 v _ e1 w1 rv h1' => ?_)
  cases rv with
  | bl b =>
    refine ⟨b, rfl, ?_⟩
    cases b with
    | false => exact iteF (h2.sem (G.to ls1 st1) H1 ρ σ Q w1 (r.mono e1) h1')
    | true => exact iteT (PostR.ok (G := (G.to ls1 st1)) w1 h1' (.bl true))
  | non => exact h1'.elim
  | int _ => exact h1'.elim
  | str _ => exact h1'.elim
  | ty _ => exact h1'.elim
  | obj _ => exact h1'.elim
  | tup _ _ => exact h1'.elim
  | prs _ _ => exact h1'.elim
  | scr _ _ => exact h1'.elim
  | lst _ _ => exact h1'.elim
  | dic _ _ => exact h1'.elim
  | loc _ => exact h1'.elim
theorem ce_not {a : Expr} {t : TE} {m : EM} {pos : Pos} (h1 : CE X Wx a t m) : CE X Wx (.UnaryOp .Not a pos) (tNotV t) (emNot m) := by
  refine ⟨pe_not h1.pe, fun G H ρ σ Q w r hp => ?_⟩
  refine h1.sem G H ρ σ _ w r (PostR.bind hp fun x st1 ls1 H1 v _ e1 w1 rv h1' => ?_)
  cases rv with
  | bl b => exact ⟨b, rfl, PostR.ok (G := (G.to ls1 st1)) w1 h1' (.bl (!b))⟩
  | non => exact h1'.elim
  | int _ => exact h1'.elim
  | str _ => exact h1'.elim
  | ty _ => exact h1'.elim
  | obj _ => exact h1'.elim
  | tup _ _ => exact h1'.elim
  | prs _ _ => exact h1'.elim
  | scr _ _ => exact h1'.elim
  | lst _ _ => exact h1'.elim
  | dic _ _ => exact h1'.elim
  | loc _ => exact h1'.elim
def emIf (c : TM) (a b : EM) : EM := fun ρ st => (c ρ st).bind fun k st1 => if k = true then a ρ st1 else b ρ st1
theorem ce_if {c a b : Expr} {t : TT} {ta tb : TE} {m : TM} {ma mb : EM} {pos : Pos} (h : CT X Wx c t m) (h1 : CE X Wx a ta ma) (h2 : CE X Wx b tb mb) : CE X Wx (.IfExp c a b pos) (tIf t ta tb) (emIf m ma mb) := by
  refine ⟨pe_ifExp h.pe h1.pe h2.pe, fun G H ρ σ Q w r hp => ?_⟩
  refine h.sem G H ρ σ _ w r (PostR.bind hp fun x st1 ls1 H1 v _ e1 w1 rv h1' => ?_)
  subst rv
  cases x with
  | true => exact iteT (h1.sem (G.to ls1 st1) H1 ρ σ Q w1 (r.mono e1) h1')
  | false => exact iteF (h2.sem (G.to ls1 st1) H1 ρ σ Q w1 (r.mono e1) h1')
end
end Sim
end
section
set_option Elab.async false
set_option linter.all false
set_option maxRecDepth 100000
set_option maxHeartbeats 1000000
open PySem PySem.Spec PyProof.Rows L2
namespace Sim

/-! statements -/
inductive RS where
  | nx (ρ : Ev) (st : Stt) | rt (w : W) (st : Stt) | bk (ρ : Ev) (st : Stt) | ct (ρ : Ev) (st : Stt) | er (x : Exn) (ρ : Ev) (st : Stt) | no
abbrev SM := Ev → Stt → RS
def Rs.toS {α : Type} (r : Rs α) (ρ : Ev) (f : α → Stt → RS) : RS := match r with
  | .ok a st => f a st
  | .er x st => .er x ρ st
  | .no => .no
@[simp] theorem Rs.toS_ok {α : Type} (a : α) (st : Stt) (ρ : Ev) (f : α → Stt → RS) : (Rs.ok a st).toS ρ f = f a st := rfl
@[simp] theorem Rs.toS_er {α : Type} (x : Exn) (st : Stt) (ρ : Ev) (f : α → Stt → RS) : (Rs.er x st : Rs α).toS ρ f = .er x ρ st := rfl
@[simp] theorem Rs.toS_no {α : Type} (ρ : Ev) (f : α → Stt → RS) : (Rs.no : Rs α).toS ρ f = .no := rfl

def PostS (K : PySem.W.Frag) (Wx : WX) (D : Ends) (G : Gm) (H : Hp) (r : RS) : Prop := match r with
  | .nx ρ' st' => ∀ (ls' : List Addr) (σ' : L2.St) (H' : Hp), Ext G H (G.to ls' st') H' → World K (G.to ls' st') H' → RepE K (G.to ls' st') H' ρ' σ' → D.nx σ' H'
  | .rt w st' => ∀ (ls' : List Addr) (v : V) (H' : Hp), Ext G H (G.to ls' st') H' → World K (G.to ls' st') H' → RepV K (G.to ls' st') H' w v → D.rt v H'
  | .bk ρ' st' => ∀ (ls' : List Addr) (σ' : L2.St) (H' : Hp), Ext G H (G.to ls' st') H' → World K (G.to ls' st') H' → RepE K (G.to ls' st') H' ρ' σ' → D.bk σ' H'
  | .ct ρ' st' => ∀ (ls' : List Addr) (σ' : L2.St) (H' : Hp), Ext G H (G.to ls' st') H' → World K (G.to ls' st') H' → RepE K (G.to ls' st') H' ρ' σ' → D.ct σ' H'
  | .er x ρ' st' => ∀ (ls' : List Addr) (σ' : L2.St) (H' : Hp) (d : Option Addr), Ext G H (G.to ls' st') H' → World K (G.to ls' st') H' → RepE K (G.to ls' st') H' ρ' σ' → RepX K (G.to ls' st') H' x d → Wx x.cls d σ' H'
  | .no => False

section
variable {K : PySem.W.Frag} {Wx : WX} {D : Ends} {G G' : Gm} {H H' : Hp} {α β : Type} {R : Gm → Hp → α → β → Prop} {σ : L2.St} {ρ : Ev}
theorem PostS.mono {r : RS} (x : Ext G H G' H') (h : PostS K Wx D G H r) : PostS K Wx D G' H' r := by
  have hid := x.hid
  obtain ⟨l', s', h'⟩ := G'
  simp only at hid
  subst hid
  cases r with
  | nx ρ st => exact fun ls σ H1 e w q => h ls σ H1 (x.trans e) w q
  | rt v st => exact fun ls σ H1 e w q => h ls σ H1 (x.trans e) w q
  | bk ρ st => exact fun ls σ H1 e w q => h ls σ H1 (x.trans e) w q
  | ct ρ st => exact fun ls σ H1 e w q => h ls σ H1 (x.trans e) w q
  | er y ρ st => exact fun ls σ H1 d e w q => h ls σ H1 d (x.trans e) w q
  | no => exact h
theorem PostS.bind {r : Rs α} {f : α → Stt → RS} {Q1 : β → Hp → Prop} (h : PostS K Wx D G H (r.toS ρ f)) (re : RepE K G H ρ σ)
    (k : ∀ a st' ls' H' b, r = .ok a st' → Ext G H (G.to ls' st') H' → World K (G.to ls' st') H' → R (G.to ls' st') H' a b → PostS K Wx D (G.to ls' st') H' (f a st') → Q1 b H') : PostR K R (fun c d H' => Wx c d σ H') G H r Q1 := by
  cases r with
  | ok a st => exact fun ls H1 b e w q => k a st ls H1 b rfl e w q (PostS.mono e h)
  | er y st => exact fun ls H1 d e w q => h ls σ H1 d e w (re.mono e) q
  | no => exact h
end

def SemS (K : PySem.W.Frag) (Wx : WX) (ts : TS) (m : SM) : Prop := ∀ (G : Gm) (H : Hp) (ρ : Ev) (σ : L2.St) (D : Ends), World K G H → RepE K G H ρ σ → PostS K Wx D G H (m ρ G.st) → ts D σ H
structure CS (X : Cx) (Wx : WX) (s : Stmt) (t : TS) (m : SM) : Prop where
  pe : PS X s t
  sem : SemS X.K Wx t m
structure CSs (X : Cx) (Wx : WX) (s : List Stmt) (t : TS) (m : SM) : Prop where
  pe : PSs X s t
  sem : SemS X.K Wx t m

def sNext : SM := fun ρ st => .nx ρ st
def sSeq (m k : SM) : SM := fun ρ st => match m ρ st with
  | .nx ρ' st' => k ρ' st'
  | .rt w st' => .rt w st'
  | .bk ρ' st' => .bk ρ' st'
  | .ct ρ' st' => .ct ρ' st'
  | .er x ρ' st' => .er x ρ' st'
  | .no => .no
def sDrop (m : EM) : SM := fun ρ st => (m ρ st).toS ρ fun _ st1 => .nx ρ st1
def sRet (m : EM) : SM := fun ρ st => (m ρ st).toS ρ fun w st1 => .rt w st1
def sRetN : SM := fun _ st => .rt .non st
def sIf (c : TM) (a b : SM) : SM := fun ρ st => (c ρ st).toS ρ fun k st1 => if k = true then a ρ st1 else b ρ st1
def sBreak : SM := fun ρ st => .bk ρ st
def sCont : SM := fun ρ st => .ct ρ st
abbrev GM := Stt → W → Ev → Option Ev
def SemG (K : PySem.W.Frag) (g : TG) (gm : GM) (is : List Nat) : Prop := ∀ (G : Gm) (H : Hp) (ρ : Ev) (σ : L2.St) (w : W) (v : V) (ρ' : Ev) (Q : L2.St → Hp → Prop), World K G H → RepE K G H ρ σ → RepV K G H w v → gm G.st w ρ = some ρ' →
  (∀ σ', σ'.length = σ.length → (∀ j, j ∉ is → σ'[j]? = σ[j]?) → RepE K G H ρ' σ' → Q σ' H) → g v σ H Q
def SemGs (K : PySem.W.Frag) (g : TGs) (gm : List W → Ev → Option Ev) (is : List Nat) : Prop := ∀ (G : Gm) (H : Hp) (ρ : Ev) (σ : L2.St) (ws : List W) (vs : List V) (ρ' : Ev) (Q : L2.St → Hp → Prop), World K G H → RepE K G H ρ σ → RepL K G H ws vs → gm ws ρ = some ρ' →
  (∀ σ', σ'.length = σ.length → (∀ j, j ∉ is → σ'[j]? = σ[j]?) → RepE K G H ρ' σ' → Q σ' H) → g vs σ H Q
structure CG (X : Cx) (e : Expr) (g : TG) (gm : GM) (is : List Nat) : Prop where
  pe : PG X e g
  sem : SemG X.K g gm is
structure CGs (X : Cx) (e : List Expr) (g : TGs) (gm : List W → Ev → Option Ev) (is : List Nat) : Prop where
  pe : PGs X e g
  sem : SemGs X.K g gm is
def gmName (i : Nat) : GM := fun _ w ρ => some (ρ.set i (some w))
def gmNil : List W → Ev → Option Ev := fun ws ρ => match ws with
  | [] => some ρ
  | _ :: _ => none
/-- names alone in a tuple -/
def gmCons (i : Nat) (r : List W → Ev → Option Ev) : List W → Ev → Option Ev := fun ws ρ => match ws with
  | w :: ws => r ws (ρ.set i (some w))
  | [] => none
def gmTup (n : Nat) (r : List W → Ev → Option Ev) : GM := fun _ w ρ => match w with
  | .tup ws => if ws.length = n then r ws ρ else none
  | .prs ws => if ws.length = n then r ws ρ else none
  | _ => none
/-- any target in a tuple -/
def gmConsG (g : GM) (r : List W → Ev → Option Ev) : List W → Ev → Option Ev := fun ws ρ => match ws with
  | w :: ws => (g [] w ρ).bind (r ws)
  | [] => none
def sAsg (m : EM) (g : GM) : SM := fun ρ st => (m ρ st).toS ρ fun w st1 => match g st1 w ρ with
  | some ρ' => .nx ρ' st1
  | none => .no

section
variable {X : Cx} {Wx : WX} {K : PySem.W.Frag}
theorem css_nil : CSs X Wx [] tNext sNext := ⟨pss_nil, fun G H ρ σ D w r h => h G.ls σ H (Ext.refl _ _) w r⟩
theorem sem_seq {t u : TS} {m k : SM} (h1 : SemS K Wx t m) (h2 : SemS K Wx u k) : SemS K Wx (tSeq t u) (sSeq m k) := fun G H ρ σ D w r h => by
  refine h1 G H ρ σ { D with nx := u D } w r ?_
  unfold sSeq at h
  cases e : m ρ G.st with
  | nx ρ' st' =>
    rw [e] at h
    exact fun ls' σ' H' x w' r' => h2 (G.to ls' st') H' ρ' σ' D w' r' (PostS.mono x h)
  | rt v st' => rw [e] at h; exact h
  | bk ρ' st' => rw [e] at h; exact h
  | ct ρ' st' => rw [e] at h; exact h
  | er y ρ' st' => rw [e] at h; exact h
  | no => rw [e] at h; exact h
theorem css_cons {s : Stmt} {rest : List Stmt} {t u : TS} {m k : SM} (h1 : CS X Wx s t m) (h2 : CSs X Wx rest u k) : CSs X Wx (s :: rest) (tSeq t u) (sSeq m k) := ⟨pss_cons h1.pe h2.pe, sem_seq h1.sem h2.sem⟩
theorem css_one {s : Stmt} {t : TS} {m : SM} (h1 : CS X Wx s t m) : CSs X Wx [s] t m := ⟨pss_one h1.pe, h1.sem⟩
theorem cs_pass {pos : Pos} : CS X Wx (.Pass pos) tNext sNext := ⟨ps_pass, css_nil.sem⟩
theorem cs_break {pos : Pos} : CS X Wx (.Break pos) tBreak sBreak := ⟨ps_break, fun G H ρ σ D w r h => h G.ls σ H (Ext.refl _ _) w r⟩
theorem cs_cont {pos : Pos} : CS X Wx (.Continue pos) tCont sCont := ⟨ps_continue, fun G H ρ σ D w r h => h G.ls σ H (Ext.refl _ _) w r⟩
theorem cs_expr {e : Expr} {te : TE} {m : EM} {pos : Pos} (he : CE X Wx e te m) (hs : swapsWith e none pos.line X.env = pure false := by rfl) : CS X Wx (.Expr e pos) (tDrop te) (sDrop m) := by
  refine ⟨ps_expr he.pe hs, fun G H ρ σ D w r h => ?_⟩
  exact he.sem G H ρ σ _ w r (PostS.bind h r fun a st1 ls1 H1 v _ e1 w1 _ h1 => h1 ls1 σ H1 (Ext.refl _ _) w1 (r.mono e1))
theorem cs_ret {e : Expr} {te : TE} {m : EM} {pos : Pos} (he : CE X Wx e te m) : CS X Wx (.Return (some e) pos) (tRet te) (sRet m) := by
  refine ⟨ps_ret he.pe, fun G H ρ σ D w r h => ?_⟩
  exact he.sem G H ρ σ _ w r (PostS.bind h r fun a st1 ls1 H1 v _ e1 w1 rv h1 => h1 ls1 v H1 (Ext.refl _ _) w1 rv)
theorem cs_retN {pos : Pos} : CS X Wx (.Return none pos) tRetN sRetN := ⟨ps_retN, fun G H ρ σ D w r h => h G.ls .non H (Ext.refl _ _) w .non⟩
theorem cs_if {c : Expr} {a b : List Stmt} {tc : TT} {t u : TS} {mc : TM} {m k : SM} {pos : Pos} (hc : CT X Wx c tc mc) (ha : CSs X Wx a t m) (hb : CSs X Wx b u k) : CS X Wx (.If c a b pos) (tIfS tc t u) (sIf mc m k) := by
  refine ⟨ps_if hc.pe ha.pe hb.pe, fun G H ρ σ D w r h => ?_⟩
  refine hc.sem G H ρ σ _ w r (PostS.bind h r fun x st1 ls1 H1 v _ e1 w1 rv h1 => ?_)
  subst rv
  cases x with
  | true => exact iteT (ha.sem (G.to ls1 st1) H1 ρ σ D w1 (r.mono e1) h1)
  | false => exact iteF (hb.sem (G.to ls1 st1) H1 ρ σ D w1 (r.mono e1) h1)
theorem sem_gname (i : Nat) : SemG K (gName i) (gmName i) [i] := fun G H ρ σ w v ρ' Q wo r rv e q => by
  cases e
  refine q _ (by simp) (fun j hj => ?_) (r.set i rv)
  rw [List.getElem?_set_ne (fun z => hj (by rw [z]; exact List.mem_singleton_self _))]
theorem cg_name {i : Nat} {x : Str} {pos : Pos} (hN : X.N.Nodup) (hi : X.N[i]? = some x) (hx : Loc X.env.scope x) (hf : X.fn x = true ∨ X.env.scope.names.lookup x = some .local := by first | exact .inl rfl | exact .inr rfl | assumption) : CG X (.Name x pos) (gName i) (gmName i) [i] := ⟨pg_name hN hi hx hf, sem_gname i⟩
theorem cgs_nil : CGs X [] gNil gmNil [] := ⟨pgs_nil, fun G H ρ σ ws vs ρ' Q wo r rv e q => by
  cases rv with
  | nil => cases e; exact ⟨rfl, q σ rfl (fun _ _ => rfl) r⟩
  | cons _ _ => cases e⟩
theorem cgs_name {i : Nat} {x : Str} {pos : Pos} {es : List Expr} {u : TGs} {gm : List W → Ev → Option Ev} {is : List Nat} (hN : X.N.Nodup) (hi : X.N[i]? = some x) (hx : Loc X.env.scope x) (h2 : CGs X es u gm is) (hf : X.fn x = true ∨ X.env.scope.names.lookup x = some .local := by first | exact .inl rfl | exact .inr rfl | assumption)
    (hs : (assignEach (.Name x pos :: es) X.env).map (·.2) = assign (.Name x pos) X.env :: (assignEach es X.env).map (·.2) := by rfl) : CGs X (.Name x pos :: es) (gCons (gName i) u) (gmCons i gm) (i :: is) := by
  refine ⟨pgs_cons (pg_name hN hi hx hf) h2.pe hs, fun G H ρ σ ws vs ρ' Q wo r rv e q => ?_⟩
  cases rv with
  | nil => cases e
  | cons a b =>
    refine ⟨_, _, rfl, ?_⟩
    refine h2.sem G H _ _ _ _ ρ' Q wo (r.set i a) b e fun σ' hl hj r' => ?_
    refine q σ' (by rw [hl]; simp) (fun j hjn => ?_) r'
    rw [hj j (fun z => hjn (List.mem_cons_of_mem _ z)), List.getElem?_set_ne (fun z => hjn (by rw [z]; exact List.mem_cons_self))]
theorem cg_tup {es : List Expr} {k : Nat} {t : TGs} {gm : List W → Ev → Option Ev} {is : List Nat} {n : Nat} {pos : Pos} (hc : X.calm = true) (h : CGs X es t gm is) (hn : (assignEach es X.env).length = n := by rfl) (hst : (assignEach es X.env).findIdx? (·.1) = none := by rfl) :
    CG X (.Tuple es k pos) (gTup X.K n t) (gmTup n gm) is := by
  refine ⟨pg_tup hc h.pe hn hst, fun G H ρ σ w v ρ' Q wo r rv e q => ?_⟩
  cases rv with
  | tup hq rl =>
    unfold gmTup at e
    dsimp only at e
    split at e
    · rename_i hl
      refine ⟨_, _, rfl, ?_, by rw [← rl.length]; exact hl, h.sem G H ρ σ _ _ ρ' Q wo r rl e q⟩
      rcases hq with ⟨⟨o, _, hq⟩, _⟩ | ⟨o, its, n, h1, h2, _, h3⟩
      · exact .inl (.inr ⟨o, hq⟩)
      · exact .inr ⟨o, its, n, h1, h2, h3⟩
    · cases e
  | prs hq rl =>
    unfold gmTup at e
    dsimp only at e
    split at e
    · rename_i hl
      exact ⟨_, _, rfl, .inl hq.1, by rw [← rl.length]; exact hl, h.sem G H ρ σ _ _ ρ' Q wo r rl e q⟩
    · cases e
  | _ => cases e
theorem sem_asg {te : TE} {g : TG} {m : EM} {gm : GM} {is : List Nat} (he : SemE K Wx te m) (hg : SemG K g gm is) : SemS K Wx (tAsg te g) (sAsg m gm) := fun G H ρ σ D w r h => by
  refine he G H ρ σ _ w r (PostS.bind h r fun x st1 ls1 H1 v _ e1 w1 rv h1 => ?_)
  cases e : gm st1 x ρ with
  | none => rw [e] at h1; exact h1.elim
  | some ρ' =>
    rw [e] at h1
    exact hg (G.to ls1 st1) H1 ρ σ x v ρ' _ w1 (r.mono e1) rv e fun σ' _ _ r' => h1 ls1 σ' H1 (Ext.refl _ _) w1 r'
theorem cs_set {i : Nat} {x : Str} {e : Expr} {te : TE} {m : EM} {pos pos' : Pos} (hN : X.N.Nodup) (hi : X.N[i]? = some x) (hx : Loc X.env.scope x) (he : CE X Wx e te m) (hs : swapsWith e (some (.Name x pos')) pos.line X.env = pure false := by rfl)
    (hf : X.fn x = true ∨ X.env.scope.names.lookup x = some .local := by first | exact .inl rfl | exact .inr rfl | assumption) : CS X Wx (.Assign [.Name x pos'] e pos) (tAsg te (gName i)) (sAsg m (gmName i)) :=
  ⟨ps_set hN hi hx he.pe hs hf, sem_asg he.sem (sem_gname i)⟩
theorem cs_asg {tg e : Expr} {te : TE} {g : TG} {m : EM} {gm : GM} {is : List Nat} {pos : Pos} (he : CE X Wx e te m) (hg : CG X tg g gm is) (hs : swapsWithSole [tg] e pos.line X.env = pure false := by rfl) (hw : swappedStores [tg] e X.env = pure none := by rfl)
    (h1 : (assignEach [tg] X.env).map (·.2) = [assign tg X.env] := by rfl) : CS X Wx (.Assign [tg] e pos) (tAsg te g) (sAsg m gm) := ⟨ps_asg he.pe hg.pe hs hw h1, sem_asg he.sem hg.sem⟩
def sPar (i j : Nat) (a b : EM) : SM := fun ρ st => (a ρ st).toS ρ fun x st1 => (b ρ st1).toS ρ fun y st2 => .nx ((ρ.set i (some x)).set j (some y)) st2
theorem cs_par {i j : Nat} {x y : Str} {a b : Expr} {ta tb : TE} {ma mb : EM} {px py pt : Pos} {kt k2 pt2} {pos : Pos} (hc : X.calm = true) (hN : X.N.Nodup) (hi : X.N[i]? = some x) (hj : X.N[j]? = some y) (hij : i ≠ j)
    (hx : X.env.scope.names.lookup x = some .local) (hy : X.env.scope.names.lookup y = some .local) (ha : CE X Wx a ta ma) (hb : CE X Wx b tb mb)
    (hw : swappedStores [.Tuple [.Name x px, .Name y py] kt pt] (.Tuple [a, b] k2 pt2) X.env = pure (some [x, y]))
    (hs1 : starEach [b] X.env = (false, eval b X.env) :: starEach [] X.env := by rfl) (hs2 : starEach [a, b] X.env = (false, eval a X.env) :: starEach [b] X.env := by rfl)
    (hs : swapsWithSole [.Tuple [.Name x px, .Name y py] kt pt] (.Tuple [a, b] k2 pt2) pos.line X.env = pure false := by rfl) :
    CS X Wx (.Assign [.Tuple [.Name x px, .Name y py] kt pt] (.Tuple [a, b] k2 pt2) pos) (tPar i j (tCons ta (tCons tb tNil))) (sPar i j ma mb) := by
  refine ⟨ps_par hc hN hi hj hij hx hy (pa_cons ha.pe (pa_cons hb.pe pa_nil hs1) hs2) hw hs, fun G H ρ σ D w r h => ?_⟩
  refine ha.sem G H ρ σ _ w r (PostS.bind h r fun u st1 ls1 H1 v _ e1 w1 rv h1 => ?_)
  refine hb.sem (G.to ls1 st1) H1 ρ σ _ w1 (r.mono e1) (PostS.bind h1 (r.mono e1) fun u2 st2 ls2 H2 v2 _ e2 w2 rv2 h2 => ?_)
  exact ⟨v, v2, rfl, h2 ls2 _ H2 (Ext.refl _ _) w2 (((r.mono (e1.trans e2)).set i (rv.mono e2)).set j rv2)⟩

/-! loops -/
structure Src where
  items : List W
  ok : Stt → Prop
abbrev IM := Ev → Stt → Rs Src
def Walks (K : PySem.W.Frag) (G0 : Gm) (H0 : Hp) (src : Src) (J : It) : Prop := ∀ (G : Gm) (H : Hp), Less G0 H0 G H → World K G H → src.ok G.st → ∀ i : Nat,
  (∀ w, src.items[i]? = some w → J.go i H ∧ ∀ x H', J.yld i H x H' → Ext G H G H' ∧ World K G H' ∧ RepV K G H' w x) ∧ (src.items.length ≤ i → J.stop i H)
def SemI (K : PySem.W.Frag) (Wx : WX) (wi : TI) (im : IM) : Prop := ∀ (G : Gm) (H : Hp) (ρ : Ev) (σ : L2.St) (R : It → Hp → Prop), World K G H → RepE K G H ρ σ → PostR K (Walks K) (fun c d H' => Wx c d σ H') G H (im ρ G.st) R → wi σ H R
structure CI (X : Cx) (Wx : WX) (tg : Expr) (e : Expr) (wi : TI) (im : IM) : Prop where
  pe : PI X tg e wi
  sem : SemI X.K Wx wi im

def RS.loop (r : RS) (k : Ev → Stt → RS) : RS := match r with
  | .nx ρ st => k ρ st
  | .ct ρ st => k ρ st
  | .bk ρ st => .nx ρ st
  | .rt v st => .rt v st
  | .er x ρ st => .er x ρ st
  | .no => .no
open Classical in
noncomputable def forW (ok : Stt → Prop) (g : GM) (body : SM) : List W → Ev → Stt → RS
  | [], ρ, st => if ok st then .nx ρ st else .no
  | w :: ws, ρ, st => if ok st then (match g st w ρ with
      | none => .no
      | some ρ1 => (body ρ1 st).loop fun ρ2 st2 => forW ok g body ws ρ2 st2) else .no
noncomputable def sFor (im : IM) (g : GM) (body : SM) : SM := fun ρ st => (im ρ st).toS ρ fun src st1 => forW src.ok g body src.items ρ st1

theorem sem_for {wi : TI} {g : TG} {tb : TS} {im : IM} {gm : GM} {is : List Nat} {body : SM} (hi : SemI K Wx wi im) (hg : SemG K g gm is) (hb : SemS K Wx tb body) : SemS K Wx (tFor wi g tb) (sFor im gm body) := fun G H ρ σ D w r h => by
  refine hi G H ρ σ _ w r (PostS.bind h r fun src st1 ls1 H1 J _ e1 w1 wk h1 => ?_)
  refine ⟨fun i m σ H => m = src.items.length - i ∧ i ≤ src.items.length ∧ ∃ (G2 : Gm) (ρ2 : Ev), Ext (G.to ls1 st1) H1 G2 H ∧ World K G2 H ∧ RepE K G2 H ρ2 σ ∧ PostS K Wx D G2 H (forW src.ok gm body (src.items.drop i) ρ2 G2.st),
    ⟨_, rfl, Nat.zero_le _, (G.to ls1 st1), ρ, Ext.refl _ _, w1, r.mono e1, h1⟩, ?_⟩
  rintro i m σ2 H2 ⟨rfl, hle, G2, ρ2, e2, w2, r2, h2⟩
  by_cases hlt : i < src.items.length
  · rw [List.drop_eq_getElem_cons hlt] at h2
    rw [forW] at h2
    split at h2
    · rename_i hok
      obtain ⟨wg, ws⟩ := wk G2 H2 e2.less w2 hok i
      obtain ⟨hgo, hy⟩ := wg _ (List.getElem?_eq_getElem hlt)
      refine .inr ⟨hgo, fun σ' H' => i + 1 ≤ src.items.length ∧ ∃ (G3 : Gm) (ρ3 : Ev), Ext (G.to ls1 st1) H1 G3 H' ∧ World K G3 H' ∧ RepE K G3 H' ρ3 σ' ∧ PostS K Wx D G3 H' (forW src.ok gm body (src.items.drop (i + 1)) ρ3 G3.st), fun σ' H' hN => ⟨src.items.length - (i + 1), by omega, rfl, hN⟩, fun x H3 hx => ?_⟩
      obtain ⟨e3, w3, rx⟩ := hy x H3 hx
      cases eg : gm G2.st src.items[i] ρ2 with
      | none => rw [eg] at h2; exact h2.elim
      | some ρ3 =>
        rw [eg] at h2
        dsimp only at h2
        refine hg G2 H3 ρ2 σ2 _ x ρ3 _ w3 (r2.mono e3) rx eg fun σ4 _ _ r4 => ?_
        refine hb G2 H3 ρ3 σ4 _ w3 r4 ?_
        have e23 := e2.trans e3
        cases eb : body ρ3 G2.st with
        | nx ρ5 st5 =>
          rw [eb] at h2
          exact fun ls5 σ5 H5 e5 w5 r5 => ⟨hlt, (G2.to ls5 st5), ρ5, e23.trans e5, w5, r5, PostS.mono (e3.trans e5) h2⟩
        | ct ρ5 st5 =>
          rw [eb] at h2
          exact fun ls5 σ5 H5 e5 w5 r5 => ⟨hlt, (G2.to ls5 st5), ρ5, e23.trans e5, w5, r5, PostS.mono (e3.trans e5) h2⟩
        | bk ρ5 st5 =>
          rw [eb] at h2
          exact fun ls5 σ5 H5 e5 w5 r5 => h2 ls5 σ5 H5 (e3.trans e5) w5 r5
        | rt v5 st5 =>
          rw [eb] at h2
          exact fun ls5 σ5 H5 e5 w5 r5 => h2 ls5 σ5 H5 (e3.trans e5) w5 r5
        | er y5 ρ5 st5 =>
          rw [eb] at h2
          exact fun ls5 σ5 H5 d e5 w5 r5 => h2 ls5 σ5 H5 d (e3.trans e5) w5 r5
        | no => rw [eb] at h2; exact h2.elim
    · exact h2.elim
  · have ei : i = src.items.length := by omega
    subst ei
    rw [List.drop_length] at h2
    rw [forW] at h2
    split at h2
    · rename_i hok
      exact .inl ⟨(wk G2 H2 e2.less w2 hok _).2 (Nat.le_refl _), h2 G2.ls σ2 H2 (Ext.refl _ _) w2 r2⟩
    · exact h2.elim
theorem cs_for {tg iter : Expr} {body : List Stmt} {wi : TI} {g : TG} {tb : TS} {im : IM} {gm : GM} {is : List Nat} {mb : SM} {pos : Pos} (hp : PassesOwn (model X.prog X.w) X.A X.env X.xe) (hc : X.calm = true) (hi : CI X Wx tg iter wi im) (hg : CG X tg g gm is) (hb : CSs X Wx body tb mb)
    (hs : ∀ x, foldedSetIterable iter X.env x = pure x := by intro _; rfl) : CS X Wx (.For tg iter body [] pos) (tFor wi g tb) (sFor im gm mb) := ⟨ps_for hp hc hi.pe hg.pe hb.pe hs, sem_for hi.sem hg.sem hb.sem⟩

/-! what is walked -/
def seqOf (st : Stt) : W → Option (List W)
  | .lst ws => some ws
  | .scr ws => some ws
  | .tup ws => some ws
  | .loc n => match st[n]? with
    | some (some (.lst ws)) => some ws
    | _ => none
  | _ => none
def okOf : W → List W → Stt → Prop
  | .loc n, ws, st => st[n]? = some (some (.lst ws))
  | _, _, _ => True
def lstOf (st : Stt) : W → Option (List W)
  | .lst ws => some ws
  | .scr ws => some ws
  | .loc n => match st[n]? with
    | some (some (.lst ws)) => some ws
    | _ => none
  | _ => none
theorem Fz.rd {G : Gm} {H : Hp} {a : Addr} {u : HO} (h : Fz G H a u) : Rd H a u := h.1
theorem lst_sq {G : Gm} {H : Hp} {w : W} {v : V} {ws : List W} (wo : World K G H) (r : RepV K G H w v) (e : lstOf G.st w = some ws) : ∃ a vs, v = .ref a ∧ SqL K H a vs ∧ RepL K G H ws vs := by
  cases r with
  | lst h rl => cases e; exact ⟨_, _, rfl, .inl (.inl h.1), rl⟩
  | scr h rl => cases e; exact ⟨_, _, rfl, h.imp_left Fz.rd, rl⟩
  | loc h =>
    unfold lstOf at e
    dsimp only at e
    split at e
    · rename_i q
      cases e
      obtain ⟨vs, e1, rl⟩ := wo.at' _ _ _ h q
      exact ⟨_, vs, rfl, .inl (.inl e1), rl⟩
    · cases e
  | _ => cases e
theorem tup_sq {G : Gm} {H : Hp} {v : V} {ws : List W} (r : RepV K G H (.tup ws) v) : ∃ a vs, v = .ref a ∧ SqT K H a vs ∧ RepL K G H ws vs := by
  cases r with
  | tup h rl =>
    refine ⟨_, _, rfl, ?_, rl⟩
    rcases h with ⟨⟨o, _, hq⟩, _⟩ | ⟨o, its, n, h1, h2, _, h3⟩
    · exact .inl (.inr ⟨o, hq⟩)
    · exact .inr ⟨o, its, n, h1, h2, h3⟩
theorem seq_sq {G : Gm} {H : Hp} {w : W} {v : V} {ws : List W} (wo : World K G H) (r : RepV K G H w v) (e : seqOf G.st w = some ws) : ∃ a vs, v = .ref a ∧ (SqL K H a vs ∨ SqT K H a vs) ∧ RepL K G H ws vs := by
  cases w with
  | tup us => cases e; obtain ⟨a, vs, e1, h, rl⟩ := tup_sq r; exact ⟨a, vs, e1, .inr h, rl⟩
  | lst us => obtain ⟨a, vs, e1, h, rl⟩ := lst_sq wo r e; exact ⟨a, vs, e1, .inl h, rl⟩
  | scr us => obtain ⟨a, vs, e1, h, rl⟩ := lst_sq wo r e; exact ⟨a, vs, e1, .inl h, rl⟩
  | loc n => obtain ⟨a, vs, e1, h, rl⟩ := lst_sq wo r e; exact ⟨a, vs, e1, .inl h, rl⟩
  | _ => cases e
theorem RepL.get {G : Gm} {H : Hp} : ∀ {ws : List W} {vs : List V} {i : Nat} {w : W}, RepL K G H ws vs → ws[i]? = some w → ∃ v, vs[i]? = some v ∧ RepV K G H w v
  | _, _, _, _, .nil, e => by simp at e
  | _, _, 0, _, .cons h _, e => by simp at e; subst e; exact ⟨_, rfl, h⟩
  | _, _, i + 1, w, .cons _ r, e => by
    obtain ⟨v, a, b⟩ := RepL.get (i := i) (w := w) r (by simpa using e)
    exact ⟨v, by simpa using a, b⟩
end
end Sim
end
section
set_option Elab.async false
set_option linter.all false
set_option maxRecDepth 100000
set_option maxHeartbeats 1000000
open PySem PySem.Spec PyProof.Rows L2
namespace Sim
section
variable {X : Cx} {Wx : WX} {K : PySem.W.Frag} {tg : Expr}

/-! a list, a tuple, a text, by values -/
def iAny (K : PySem.W.Frag) (te : TE) : TI := fun σ H R => te σ H fun x H1 =>
  (∃ a, x = .ref a ∧ (∃ xs, SqL K H1 a xs) ∧ R (Itl K a) H1) ∨ (∃ a, x = .ref a ∧ (∃ xs, SqT K H1 a xs) ∧ R (Itt K a) H1) ∨ ∃ z, x = .str z ∧ R (Its z) H1
theorem pi_any {l : Expr} {tl : TE} (hl : PE X l tl) : PI X tg l (iAny X.K tl) := by
  refine ⟨fun pins s σ H R I h => ?_⟩
  refine thn (hl.run pins s σ H _ I h) fun v s1 ⟨x, H1, I1, r1, q1⟩ => ?_
  rcases q1 with ⟨a, rfl, ⟨xs, hq⟩, q⟩ | ⟨a, rfl, ⟨xs, hq⟩, q⟩ | ⟨z, rfl, q⟩
  · cases r1
    obtain ⟨its, rv, p, hz⟩ := I1.list hq
    refine wpAny_pyIter_list p.isList ⟨_, [s1.heap.objs.size], _, _, H1, rfl, I1.kept (t' := s1.toks) fun b o e => Heap.get?_push_of_some _ e, turn_list a _, ⟨_, Heap.get?_push_size _ rfl, rfl, rfl⟩, fun b hb => ?_, q⟩
    rw [List.mem_singleton.mp hb]
    exact I1.fpOk (Nat.le_refl _) (I1.hok.fresh (Nat.le_refl _))
  · cases r1
    obtain ⟨its, rv, p, hz⟩ := I1.tuple hq
    refine wpAny_pyIter_tuple (show s1.heap.IsTuple a its.toArray from p) ⟨_, [s1.heap.objs.size], _, _, H1, rfl, I1.kept (t' := s1.toks) fun b o e => Heap.get?_push_of_some _ e, turn_tuple a _, ⟨_, Heap.get?_push_size _ rfl, rfl, rfl⟩, fun b hb => ?_, q⟩
    rw [List.mem_singleton.mp hb]
    exact I1.fpOk (Nat.le_refl _) (I1.hok.fresh (Nat.le_refl _))
  · obtain ⟨t, rfl⟩ := r1
    cases ha : z.cps.all (· < 128)
    · exact wpAny_pyIter_wide ha (pi_one (tk := s1.toks) I1 _ (turn_str _ z t _ (.inr rfl)) ⟨_, Heap.get?_push_size _ rfl, rfl, rfl⟩ q)
    · exact wpAny_pyIter_ascii ha (pi_one (tk := s1.toks) I1 _ (turn_str _ z t _ (.inl rfl)) ⟨_, Heap.get?_push_size _ rfl, rfl, rfl⟩ q)
/-- what a walk goes through -/
def itemsOf (st : Stt) : W → Option (List W)
  | .str z => some (z.cps.toList.map fun c => .str ⟨#[c]⟩)
  | w => seqOf st w
def iSeq (m : EM) : IM := fun ρ st => (m ρ st).bind fun w st1 => match itemsOf st1 w with
  | some ws => .ok ⟨ws, okOf w ws⟩ st1
  | none => .no
theorem lstOf_ok {st0 st : Stt} {w : W} {ws : List W} (e : lstOf st0 w = some ws) (h : okOf w ws st) : lstOf st w = some ws := by
  cases w with
  | lst us => exact e
  | scr us => exact e
  | loc n =>
    unfold okOf at h
    unfold lstOf
    dsimp only at h ⊢
    rw [h]
  | _ => cases e
theorem walks_list {G0 : Gm} {H0 : Hp} {w : W} {a : Addr} {ws : List W} (r : RepV K G0 H0 w (.ref a)) (e : lstOf G0.st w = some ws) : Walks K G0 H0 ⟨ws, okOf w ws⟩ (Itl K a) := fun G H x wo hok i => by
  obtain ⟨a', vs, ea, sq, rl⟩ := lst_sq wo (r.less x) (lstOf_ok e hok)
  cases ea
  refine ⟨fun u hu => ?_, fun hl => ⟨vs, sq, by rw [← rl.length]; exact hl⟩⟩
  obtain ⟨v, ev, rv⟩ := rl.get hu
  refine ⟨⟨vs, v, sq, ev⟩, fun y H' hy => ?_⟩
  obtain ⟨rfl, hy⟩ := hy
  have : v = y := Option.some.inj (ev.symm.trans (hy vs sq))
  subst this
  exact ⟨Ext.refl _ _, wo, rv⟩
theorem walks_tup {G0 : Gm} {H0 : Hp} {a : Addr} {ws : List W} (r : RepV K G0 H0 (.tup ws) (.ref a)) : Walks K G0 H0 ⟨ws, fun _ => True⟩ (Itt K a) := fun G H x wo hok i => by
  obtain ⟨a', vs, ea, sq, rl⟩ := tup_sq (r.less x)
  cases ea
  refine ⟨fun u hu => ?_, fun hl => ⟨vs, sq, by rw [← rl.length]; exact hl⟩⟩
  obtain ⟨v, ev, rv⟩ := rl.get hu
  refine ⟨⟨vs, v, sq, ev⟩, fun y H' hy => ?_⟩
  obtain ⟨rfl, hy⟩ := hy
  have : v = y := Option.some.inj (ev.symm.trans (hy vs sq))
  subst this
  exact ⟨Ext.refl _ _, wo, rv⟩
theorem walks_str {G0 : Gm} {H0 : Hp} {z : Str} : Walks K G0 H0 ⟨z.cps.toList.map fun c => .str ⟨#[c]⟩, fun _ => True⟩ (Its z) := fun G H x wo hok i => by
  refine ⟨fun u hu => ?_, fun hl => ?_⟩
  · dsimp only at hu
    rw [List.getElem?_map] at hu
    cases e : z.cps.toList[i]? with
    | none => rw [e] at hu; cases hu
    | some c =>
      rw [e] at hu
      cases hu
      have hi := (List.getElem?_eq_some_iff.mp e).1
      refine ⟨show i < z.cps.size by simpa using hi, fun y H' hy => ?_⟩
      obtain ⟨rfl, d, hd, rfl⟩ := hy
      rw [Array.getElem?_toList] at e
      rw [e] at hd
      cases hd
      exact ⟨Ext.refl _ _, wo, .str _⟩
  · show z.cps.size ≤ i
    simpa using hl
theorem sem_seq_i {te : TE} {m : EM} (h : SemE K Wx te m) : SemI K Wx (iAny K te) (iSeq m) := fun G H ρ σ R w r hp => by
  refine h G H ρ σ _ w r (PostR.bind hp fun x st1 ls1 H1 v _ e1 w1 rv h1 => ?_)
  cases e : itemsOf st1 x with
  | none => rw [e] at h1; exact h1.elim
  | some ws =>
    rw [e] at h1
    dsimp only at h1
    cases x with
    | tup us =>
      cases e
      obtain ⟨a, vs, rfl, sq, _⟩ := tup_sq rv
      exact .inr (.inl ⟨a, rfl, ⟨vs, sq⟩, PostR.ok (G := G.to ls1 st1) w1 h1 (walks_tup rv)⟩)
    | scr us =>
      obtain ⟨a, vs, rfl, sq, _⟩ := lst_sq (G := G.to ls1 st1) w1 rv e
      exact .inl ⟨a, rfl, ⟨vs, sq⟩, PostR.ok (G := G.to ls1 st1) w1 h1 (walks_list rv e)⟩
    | lst us =>
      obtain ⟨a, vs, rfl, sq, _⟩ := lst_sq (G := G.to ls1 st1) w1 rv e
      exact .inl ⟨a, rfl, ⟨vs, sq⟩, PostR.ok (G := G.to ls1 st1) w1 h1 (walks_list rv e)⟩
    | loc n =>
      obtain ⟨a, vs, rfl, sq, _⟩ := lst_sq (G := G.to ls1 st1) w1 rv e
      exact .inl ⟨a, rfl, ⟨vs, sq⟩, PostR.ok (G := G.to ls1 st1) w1 h1 (walks_list rv e)⟩
    | str z =>
      cases e
      cases rv
      exact .inr (.inr ⟨z, rfl, PostR.ok (G := G.to ls1 st1) w1 h1 walks_str⟩)
    | _ => cases e
theorem ci_seq {e : Expr} {te : TE} {m : EM} (h : CE X Wx e te m) : CI X Wx tg e (iAny X.K te) (iSeq m) := ⟨pi_any h.pe, sem_seq_i h.sem⟩

/-! ranges -/
def rngW (lo : Int) (n : Nat) : List W := (List.range n).map fun (i : Nat) => .int (lo + (i : Int))
def iRange1 (ms : AM) : IM := fun ρ st => (ms ρ st).bind fun ws st1 => match ws with
  | [.int j] => if -(2 ^ 62) ≤ j ∧ j < 2 ^ 62 then .ok ⟨rngW 0 j.toNat, fun _ => True⟩ st1 else .no
  | _ => .no
def iRange2 (ms : AM) : IM := fun ρ st => (ms ρ st).bind fun ws st1 => match ws with
  | [.int i, .int j] => if -(2 ^ 62) ≤ i ∧ i < 2 ^ 62 ∧ -(2 ^ 62) ≤ j ∧ j < 2 ^ 62 then .ok ⟨rngW i (j - i).toNat, fun _ => True⟩ st1 else .no
  | _ => .no
theorem walks_rng {G0 : Gm} {H0 : Hp} {lo : Int} {n : Nat} : Walks K G0 H0 ⟨rngW lo n, fun _ => True⟩ (Itr lo n) := fun G H x wo hok i => by
  refine ⟨fun u hu => ?_, fun hl => show n ≤ i by simpa [rngW] using hl⟩
  have hi : i < n := by simpa [rngW] using (List.getElem?_eq_some_iff.mp hu).1
  refine ⟨hi, fun y H' hy => ?_⟩
  obtain ⟨rfl, rfl⟩ := hy
  simp only [rngW, List.getElem?_map, List.getElem?_range hi, Option.map_some, Option.some.injEq] at hu
  subst hu
  exact ⟨Ext.refl _ _, wo, .int _⟩
theorem RepL.one {G : Gm} {H : Hp} {w : W} {vs : List V} (h : RepL K G H [w] vs) : ∃ v, vs = [v] ∧ RepV K G H w v := by
  cases h with
  | cons a b => cases b; exact ⟨_, rfl, a⟩
theorem RepL.two {G : Gm} {H : Hp} {w w2 : W} {vs : List V} (h : RepL K G H [w, w2] vs) : ∃ v v2, vs = [v, v2] ∧ RepV K G H w v ∧ RepV K G H w2 v2 := by
  cases h with
  | cons a b =>
    obtain ⟨v2, rfl, c⟩ := b.one
    exact ⟨_, _, rfl, a, c⟩
theorem RepL.three {G : Gm} {H : Hp} {w w2 w3 : W} {vs : List V} (h : RepL K G H [w, w2, w3] vs) : ∃ v v2 v3, vs = [v, v2, v3] ∧ RepV K G H w v ∧ RepV K G H w2 v2 ∧ RepV K G H w3 v3 := by
  cases h with
  | cons a b =>
    obtain ⟨v2, v3, rfl, c, d⟩ := b.two
    exact ⟨_, _, _, rfl, a, c, d⟩
theorem RepV.int_inv {G : Gm} {H : Hp} {i : Int} {v : V} (h : RepV K G H (.int i) v) : v = .int i := by cases h; rfl
theorem RepV.str_inv {G : Gm} {H : Hp} {i : Str} {v : V} (h : RepV K G H (.str i) v) : v = .str i := by cases h; rfl
theorem RepV.bl_inv {G : Gm} {H : Hp} {i : Bool} {v : V} (h : RepV K G H (.bl i) v) : v = .bl i := by cases h; rfl
theorem ci_range1 {a : Expr} {ta : TA} {ms : AM} {p pos : Pos} (hg : Gl X "range") (hm : X.mg "range" = none) (ha : CA X Wx [a] ta ms) (hs : starEach [a] X.env = [(false, eval a X.env)] := by rfl) : CI X Wx tg (.Call (.Name "range" p) [a] [] pos) (iRng1 ta) (iRange1 ms) := by
  refine ⟨pi_range1 hg hm ha.pe hs, fun G H ρ σ R w r hp => ?_⟩
  refine ha.sem G H ρ σ _ w r (PostR.bind hp fun ws st1 ls1 H1 vs he e1 w1 rv h1 => ?_)
  clear he
  split at h1
  · split at h1
    · rename_i j hj
      obtain ⟨v, rfl, r1⟩ := rv.one
      cases r1.int_inv
      exact ⟨j, rfl, hj.1, hj.2, PostR.ok (G := G.to ls1 st1) w1 h1 walks_rng⟩
    · exact h1.elim
  · exact h1.elim
theorem ci_range2 {a b : Expr} {ta : TA} {ms : AM} {p pos : Pos} (hg : Gl X "range") (hm : X.mg "range" = none) (ha : CA X Wx [a, b] ta ms) (hs : starEach [a, b] X.env = [(false, eval a X.env), (false, eval b X.env)] := by rfl) (hs2 : starEach [b] X.env = [(false, eval b X.env)] := by rfl) :
    CI X Wx tg (.Call (.Name "range" p) [a, b] [] pos) (iRng2 ta) (iRange2 ms) := by
  refine ⟨pi_range2 hg hm ha.pe hs hs2, fun G H ρ σ R w r hp => ?_⟩
  refine ha.sem G H ρ σ _ w r (PostR.bind hp fun ws st1 ls1 H1 vs he e1 w1 rv h1 => ?_)
  clear he
  split at h1
  · split at h1
    · rename_i i j hj
      obtain ⟨v, u, rfl, r1, ru⟩ := rv.two
      cases r1.int_inv
      cases ru.int_inv
      exact ⟨i, j, rfl, hj, PostR.ok (G := G.to ls1 st1) w1 h1 walks_rng⟩
    · exact h1.elim
  · exact h1.elim
def iRange3 (ms : AM) : IM := fun ρ st => (ms ρ st).bind fun ws st1 => match ws with
  | [.int i, .int j, .int c] => if -(2 ^ 62) ≤ i ∧ i < 2 ^ 62 ∧ -(2 ^ 62) ≤ j ∧ j < 2 ^ 62 ∧ c = -1 then .ok ⟨(List.range (i - j).toNat).map fun (k : Nat) => .int (i + (k : Int) * -1), fun _ => True⟩ st1 else .no
  | _ => .no
theorem ci_range3 {a b c : Expr} {ta : TA} {ms : AM} {p pos : Pos} (hg : Gl X "range") (hm : X.mg "range" = none) (ha : CA X Wx [a, b, c] ta ms)
    (hs : starEach [a, b, c] X.env = (false, eval a X.env) :: starEach [b, c] X.env := by rfl) (hpl : (backTo pos (starEach [b, c] X.env)).any (·.1) = false := by rfl) : CI X Wx tg (.Call (.Name "range" p) [a, b, c] [] pos) (iRng3 ta) (iRange3 ms) := by
  refine ⟨pi_range3 hg hm ha.pe hs hpl, fun G H ρ σ R w r hp => ?_⟩
  refine ha.sem G H ρ σ _ w r (PostR.bind hp fun ws st1 ls1 H1 vs he e1 w1 rv h1 => ?_)
  clear he
  split at h1
  · split at h1
    · rename_i i j c hj
      obtain ⟨v, u, z, rfl, r1, ru, rz⟩ := rv.three
      cases r1.int_inv
      cases ru.int_inv
      cases rz.int_inv
      obtain ⟨a1, a2, a3, a4, rfl⟩ := hj
      refine ⟨i, j, -1, (i - j).toNat, rfl, RgC.neg a1 a2 a3 a4, PostR.ok (G := G.to ls1 st1) w1 h1 fun G H x wo hok k => ?_⟩
      refine ⟨fun u hu => ?_, fun hl => show (i - j).toNat ≤ k by simpa using hl⟩
      have hi : k < (i - j).toNat := by simpa using (List.getElem?_eq_some_iff.mp hu).1
      refine ⟨hi, fun y H' hy => ?_⟩
      obtain ⟨rfl, rfl⟩ := hy
      simp only [List.getElem?_map, List.getElem?_range hi, Option.map_some, Option.some.injEq] at hu
      subst hu
      exact ⟨Ext.refl _ _, wo, .int _⟩
    · exact h1.elim
  · exact h1.elim

/-! zip and enumerate -/
def iZipW (ms : AM) : IM := fun ρ st => (ms ρ st).bind fun ws st1 => match ws with
  | [.tup xs, .tup ys] => .ok ⟨(xs.zip ys).map fun p => .prs [p.1, p.2], fun _ => True⟩ st1
  | [x, y] => match lstOf st1 x, lstOf st1 y with
    | some xs, some ys => .ok ⟨(xs.zip ys).map fun p => .prs [p.1, p.2], fun st => okOf x xs st ∧ okOf y ys st⟩ st1
    | _, _ => .no
  | _ => .no
theorem get_zip {xs ys : List W} {i : Nat} {u : W} (h : ((xs.zip ys).map fun p => W.prs [p.1, p.2])[i]? = some u) : ∃ a b, xs[i]? = some a ∧ ys[i]? = some b ∧ u = .prs [a, b] := by
  rw [List.getElem?_map] at h
  cases e : (xs.zip ys)[i]? with
  | none => rw [e] at h; cases h
  | some p =>
    rw [e] at h
    cases h
    have := List.getElem?_zip_eq_some.mp e
    exact ⟨p.1, p.2, this.1, this.2, rfl⟩
theorem ci_zip {e e2 : Expr} {ta : TA} {ms : AM} {p pos tpos : Pos} {elts : List Expr} {kk : Nat} (hg : Gl X "zip") (hm : X.mg "zip" = none) (ha : CA X Wx [e, e2] ta ms)
    (hs : starEach [e, e2] X.env = (false, eval e X.env) :: starEach [e2] X.env := by rfl) (hpl : (backTo pos (starEach [e2] X.env)).any (·.1) = false := by rfl) : CI X Wx (.Tuple elts kk tpos) (.Call (.Name "zip" p) [e, e2] [] pos) (RZ.iZipA X.K ta) (iZipW ms) := by
  refine ⟨RZ.pi_zipA hg hm ha.pe hs hpl, fun G H ρ σ R w r hp => ?_⟩
  refine ha.sem G H ρ σ _ w r (PostR.bind hp fun ws st1 ls1 H1 vs he e1 w1 rv h1 => ?_)
  clear he
  split at h1
  · rename_i xs ys
    obtain ⟨v, u, rfl, rx, ry⟩ := rv.two
    obtain ⟨a, vs, rfl, sq, _⟩ := tup_sq rx
    obtain ⟨b, us, rfl, sq2, _⟩ := tup_sq ry
    refine ⟨a, b, vs, us, rfl, .inr ⟨sq, sq2, PostR.ok (G := G.to ls1 st1) w1 h1 fun G H x wo hok i => ?_⟩⟩
    obtain ⟨a', vs', ea, sq', rl⟩ := tup_sq (rx.less x)
    obtain ⟨b', us', eb, sq2', rl2⟩ := tup_sq (ry.less x)
    cases ea; cases eb
    refine ⟨fun w hw => ?_, fun hl => ⟨vs', us', sq', sq2', ?_⟩⟩
    · obtain ⟨p, q, hp, hq, rfl⟩ := get_zip hw
      obtain ⟨v, ev, rv⟩ := rl.get hp
      obtain ⟨u, eu, ru⟩ := rl2.get hq
      refine ⟨⟨vs', us', v, u, sq', sq2', ev, eu⟩, fun y H' hy => ?_⟩
      obtain ⟨T, x1, x2, rfl, nT, rfl, f1, f2⟩ := hy
      have : v = x1 := Option.some.inj (ev.symm.trans (f1 _ sq'))
      have : u = x2 := Option.some.inj (eu.symm.trans (f2 _ sq2'))
      subst v u
      have x' := Ext.new (o := .tup [x1, x2]) wo nT
      exact ⟨x', wo.new nT, .prs ⟨.inl upd_same, wo.nal nT⟩ (.cons (rv.mono x') (.cons (ru.mono x') .nil))⟩
    · have : min xs.length ys.length ≤ i := by simpa using hl
      rw [← rl.length, ← rl2.length]
      omega
  · rename_i x y hnt
    split at h1
    · rename_i xs ys ex ey
      obtain ⟨v, u, rfl, rx, ry⟩ := rv.two
      obtain ⟨a, vs, rfl, sq, _⟩ := lst_sq (G := G.to ls1 st1) w1 rx ex
      obtain ⟨b, us, rfl, sq2, _⟩ := lst_sq (G := G.to ls1 st1) w1 ry ey
      refine ⟨a, b, vs, us, rfl, .inl ⟨sq, sq2, PostR.ok (G := G.to ls1 st1) w1 h1 fun G H z wo hok i => ?_⟩⟩
      obtain ⟨a', vs', ea, sq', rl⟩ := lst_sq wo (rx.less z) (lstOf_ok ex hok.1)
      obtain ⟨b', us', eb, sq2', rl2⟩ := lst_sq wo (ry.less z) (lstOf_ok ey hok.2)
      cases ea; cases eb
      refine ⟨fun w hw => ?_, fun hl => ⟨vs', us', sq', sq2', ?_⟩⟩
      · obtain ⟨p, q, hp, hq, rfl⟩ := get_zip hw
        obtain ⟨v, ev, rv⟩ := rl.get hp
        obtain ⟨u, eu, ru⟩ := rl2.get hq
        refine ⟨⟨vs', us', v, u, sq', sq2', ev, eu⟩, fun y H' hy => ?_⟩
        obtain ⟨T, x1, x2, rfl, nT, rfl, f1, f2⟩ := hy
        have : v = x1 := Option.some.inj (ev.symm.trans (f1 _ sq'))
        have : u = x2 := Option.some.inj (eu.symm.trans (f2 _ sq2'))
        subst v u
        have x' := Ext.new (o := .tup [x1, x2]) wo nT
        exact ⟨x', wo.new nT, .prs ⟨.inl upd_same, wo.nal nT⟩ (.cons (rv.mono x') (.cons (ru.mono x') .nil))⟩
      · have : min xs.length ys.length ≤ i := by simpa using hl
        rw [← rl.length, ← rl2.length]
        omega
    · exact h1.elim
  · exact h1.elim
def iEnumW (ms : AM) : IM := fun ρ st => (ms ρ st).bind fun ws st1 => match ws with
  | [x] => match lstOf st1 x with
    | some xs => .ok ⟨xs.zipIdx.map fun p => .prs [.int (p.2 : Int), p.1], okOf x xs⟩ st1
    | _ => .no
  | _ => .no
theorem ci_enum {e : Expr} {ta : TA} {ms : AM} {p pos tpos : Pos} {elts : List Expr} {kk : Nat} (hg : Gl X "enumerate") (hm : X.mg "enumerate" = none) (ha : CA X Wx [e] ta ms) (hs : starEach [e] X.env = [(false, eval e X.env)] := by rfl) :
    CI X Wx (.Tuple elts kk tpos) (.Call (.Name "enumerate" p) [e] [] pos) (iEnum X.K ta) (iEnumW ms) := by
  refine ⟨pi_enum hg hm ha.pe hs, fun G H ρ σ R w r hp => ?_⟩
  refine ha.sem G H ρ σ _ w r (PostR.bind hp fun ws st1 ls1 H1 vs he e1 w1 rv h1 => ?_)
  clear he
  split at h1
  · rename_i x
    split at h1
    · rename_i xs ex
      obtain ⟨v, rfl, rx⟩ := rv.one
      obtain ⟨a, vs, rfl, sq, _⟩ := lst_sq (G := G.to ls1 st1) w1 rx ex
      refine ⟨a, vs, rfl, sq, PostR.ok (G := G.to ls1 st1) w1 h1 fun G H z wo hok i => ?_⟩
      obtain ⟨a', vs', ea, sq', rl⟩ := lst_sq wo (rx.less z) (lstOf_ok ex hok)
      cases ea
      refine ⟨fun w hw => ?_, fun hl => ⟨vs', sq', by rw [← rl.length]; simpa using hl⟩⟩
      rw [List.getElem?_map, List.getElem?_zipIdx] at hw
      cases eq : xs[i]? with
      | none => rw [eq] at hw; cases hw
      | some q =>
        rw [eq] at hw
        simp only [Option.map_some, Option.some.injEq, Nat.zero_add] at hw
        subst hw
        obtain ⟨v, ev, rv⟩ := rl.get eq
        refine ⟨⟨vs', v, sq', ev⟩, fun y H' hy => ?_⟩
        obtain ⟨T, x1, rfl, nT, rfl, f1⟩ := hy
        have : v = x1 := Option.some.inj (ev.symm.trans (f1 _ sq'))
        subst v
        have x' := Ext.new (o := .tup [.int (i : Int), x1]) wo nT
        exact ⟨x', wo.new nT, .prs ⟨.inl upd_same, wo.nal nT⟩ (.cons (.int _) (.cons (rv.mono x') .nil))⟩
    · exact h1.elim
  · exact h1.elim
end
end Sim
end
section
set_option Elab.async false
set_option linter.all false
set_option maxRecDepth 100000
set_option maxHeartbeats 1000000
open PySem PySem.Spec PyProof.Rows L2
namespace Sim

/-! comprehensions -/
abbrev Gm.hide (G : Gm) (D : Addr) : Gm := ⟨G.ls, G.st, D :: G.hid⟩
def W0 : WX := fun _ _ _ _ => False
def Rs.cb {α β : Type} (r : Rs α) (f : α → Stt → Rs β) : Rs β := match r with
  | .ok a st => f a st
  | _ => .no
@[simp] theorem Rs.cb_ok {α β : Type} (a : α) (st : Stt) (f : α → Stt → Rs β) : (Rs.ok a st).cb f = f a st := rfl
@[simp] theorem Rs.cb_no {α β : Type} (f : α → Stt → Rs β) : (Rs.no : Rs α).cb f = .no := rfl
theorem Rs.cb_eq {α β : Type} {r : Rs α} {f : α → Stt → Rs β} {b : β} {st : Stt} (h : r.cb f = .ok b st) : ∃ a st1, r = .ok a st1 ∧ f a st1 = .ok b st := by
  cases r with
  | ok a st1 => exact ⟨a, st1, rfl, h⟩
  | er x st1 => cases h
  | no => cases h
def wipeE (ρ : Ev) : List Nat → Ev
  | [] => ρ
  | v :: vs => (wipeE ρ vs).set v none
open Classical in
noncomputable def lcW (ok : Stt → Prop) (g : GM) (c : TM) (m : EM) (ρ : Ev) : List W → Stt → Rs (List W)
  | [], st => if ok st then .ok [] st else .no
  | w :: ws, st => if ok st then (match g st w ρ with
      | none => .no
      | some ρ1 => (c ρ1 st).cb fun b st1 => if b = true then (m ρ1 st1).cb fun y st2 => (lcW ok g c m ρ ws st2).cb fun ys st3 => .ok (y :: ys) st3 else lcW ok g c m ρ ws st1) else .no
noncomputable def eLc (im : IM) (g : GM) (c : TM) (m : EM) (vs : List Nat) : EM := fun ρ st => (im ρ st).bind fun src st1 => if src.items.length ≤ 100000 then (lcW src.ok g c m (wipeE ρ vs) src.items st1).cb fun ys st2 => .ok (.lst ys) st2 else .no
noncomputable def eLcL (im : IM) (g : GM) (c : TM) (m : EM) (vs : List Nat) : EM := fun ρ st => (im ρ st).bind fun src st1 => if src.items.length ≤ 100000 then (lcW src.ok g c m (wipeE ρ vs) src.items st1).cb fun ys st2 => .ok (.loc st2.length) (st2 ++ [some (.lst ys)]) else .no
def tmYes : TM := fun _ st => .ok true st

theorem wipe_get (σ : L2.St) : ∀ (vs : List Nat) (i : Nat), i ∉ vs → (wipe σ vs)[i]? = σ[i]?
  | [], i, _ => rfl
  | v :: vs, i, h => by
    unfold wipe
    rw [List.getElem?_set_ne (fun z => h (by rw [z]; exact List.mem_cons_self)), wipe_get σ vs i fun z => h (List.mem_cons_of_mem _ z)]
theorem wipe_in (σ : L2.St) : ∀ (vs : List Nat) (i : Nat), i ∈ vs → i < σ.length → (wipe σ vs)[i]? = some none
  | v :: vs, i, h, hl => by
    unfold wipe
    by_cases e : v = i
    · subst e; exact List.getElem?_set_self (by rw [wipe_length]; exact hl)
    · rw [List.getElem?_set_ne e]
      exact wipe_in σ vs i ((List.mem_cons.mp h).resolve_left fun z => e z.symm) hl
theorem wipe_same {σ σ2 : L2.St} {vs is : List Nat} (hl : σ2.length = σ.length) (h : ∀ j, j ∉ is → σ2[j]? = σ[j]?) (hs : ∀ i ∈ is, i ∈ vs) : wipe σ2 vs = wipe σ vs := by
  refine List.ext_getElem? fun i => ?_
  by_cases hi : i ∈ vs
  · by_cases hn : i < σ.length
    · rw [wipe_in σ vs i hi hn, wipe_in σ2 vs i hi (by rw [hl]; exact hn)]
    · rw [List.getElem?_eq_none (by rw [wipe_length, hl]; omega), List.getElem?_eq_none (by rw [wipe_length]; omega)]
  · rw [wipe_get _ _ _ hi, wipe_get _ _ _ hi, h i fun z => hi (hs i z)]
theorem wipe_wipe (σ : L2.St) (vs : List Nat) : wipe (wipe σ vs) vs = wipe σ vs := by
  refine List.ext_getElem? fun i => ?_
  by_cases hi : i ∈ vs
  · by_cases hn : i < σ.length
    · rw [wipe_in σ vs i hi hn, wipe_in _ vs i hi (by rw [wipe_length]; exact hn)]
    · rw [List.getElem?_eq_none (by rw [wipe_length, wipe_length]; omega), List.getElem?_eq_none (by rw [wipe_length]; omega)]
  · rw [wipe_get _ _ _ hi]
theorem RepE.less {K : PySem.W.Frag} {G G' : Gm} {H H' : Hp} {ρ : Ev} {σ : L2.St} (x : Less G H G' H') (h : RepE K G H ρ σ) : RepE K G' H' ρ σ :=
  ⟨h.1, fun i w e => let ⟨v, a, b⟩ := h.2 i w e; ⟨v, a, b.less x⟩⟩
theorem wipeE_get : ∀ {ρ : Ev} {vs : List Nat} {i : Nat} {w : W}, (wipeE ρ vs)[i]? = some (some w) → ρ[i]? = some (some w) ∧ i ∉ vs
  | _, [], _, _, h => ⟨h, by simp⟩
  | ρ, v :: vs, i, w, h => by
    unfold wipeE at h
    by_cases e : v = i
    · subst e
      by_cases hv : v < (wipeE ρ vs).length
      · rw [List.getElem?_set_self hv] at h; cases h
      · rw [List.getElem?_eq_none (by simpa using hv)] at h; cases h
    · rw [List.getElem?_set_ne e] at h
      obtain ⟨a, b⟩ := wipeE_get h
      exact ⟨a, fun z => (List.mem_cons.mp z).elim (fun q => e q.symm) b⟩
theorem wipeE_length (ρ : Ev) : ∀ vs : List Nat, (wipeE ρ vs).length = ρ.length
  | [] => rfl
  | v :: vs => by unfold wipeE; rw [List.length_set, wipeE_length ρ vs]
theorem RepE.wipe {K : PySem.W.Frag} {G : Gm} {H : Hp} {ρ : Ev} {σ : L2.St} (h : RepE K G H ρ σ) (vs : List Nat) : RepE K G H (wipeE ρ vs) (L2.wipe σ vs) := by
  refine ⟨by rw [wipeE_length, wipe_length]; exact h.1, fun i w e => ?_⟩
  obtain ⟨a, b⟩ := wipeE_get e
  rw [wipe_get _ _ _ b]
  exact h.2 i w a

section
variable {K : PySem.W.Frag} {G : Gm} {H : Hp} {D : Addr}
theorem RepL.app {ws us : List W} {vs ts : List V} (h : RepL K G H ws vs) (k : RepL K G H us ts) : RepL K G H (ws ++ us) (vs ++ ts) := by
  induction ws generalizing vs with
  | nil => cases h; exact k
  | cons w ws ih => cases h with
    | cons a b => exact .cons a (ih b)
theorem less_hide {o : HO} (w : World K G H) (hD : H D = none) : Less G H (G.hide D) (upd H D o) := by
  have nal : ∀ {a : Addr}, ¬ G.alive a → H a ≠ none → ¬ (G.hide D).alive a := fun {a} na hn z => by
    rcases z with z | z
    · exact na (.inl z)
    · rcases List.mem_cons.mp z with q | q
      · exact hn (by rw [q]; exact hD)
      · exact na (.inr q)
  refine ⟨fun _ _ e => e, fun a u h => ⟨(Fz.mono (Ext.new (o := o) w hD) h).1, nal h.2 ?_⟩, fun a u h => ⟨(Fx.mono (Ext.new (o := o) w hD) h).1, nal h.2 ?_⟩, fun a u h => ⟨(Fe.mono (Ext.new (o := o) w hD) h).1, nal h.2 ?_⟩, fun a p u h => ⟨(Fd.mono (Ext.new (o := o) w hD) h).1, nal h.2 ?_⟩⟩
  · rcases h.1 with r | ⟨_, r⟩ <;> (rw [r]; exact fun z => nomatch z)
  · obtain ⟨_, _, r⟩ := h.1
    rw [r]; exact fun z => nomatch z
  · rw [h.1]; exact fun z => nomatch z
  · rw [h.1]; exact fun z => nomatch z
theorem less_unhide : Less (G.hide D) H G H := ⟨fun _ _ e => e, fun a u h => ⟨h.1, fun z => h.2 (z.elim .inl fun q => .inr (List.mem_cons_of_mem _ q))⟩, fun a u h => ⟨h.1, fun z => h.2 (z.elim .inl fun q => .inr (List.mem_cons_of_mem _ q))⟩, fun a u h => ⟨h.1, fun z => h.2 (z.elim .inl fun q => .inr (List.mem_cons_of_mem _ q))⟩, fun a p u h => ⟨h.1, fun z => h.2 (z.elim .inl fun q => .inr (List.mem_cons_of_mem _ q))⟩⟩
theorem World.hide {o : HO} (w : World K G H) (hD : H D = none) : World K (G.hide D) (upd H D o) := by
  have w' := w.new (o := o) hD
  have nl : D ∉ G.ls := fun z => w.tr D z hD
  refine ⟨w.len, w.nd, w'.tr, fun a ha => ?_, fun i a ob e1 e2 => ?_⟩
  · rcases List.mem_cons.mp ha with q | q
    · subst q; exact ⟨by rw [upd_same]; exact (fun z => nomatch z), nl⟩
    · exact w'.hd a q
  · have : a ≠ D := fun z => nl (by rw [← z]; exact List.mem_of_getElem? e1)
    exact (w.at' i a ob e1 e2).less (less_hide w hD) (upd_ne this)
theorem World.unhide (w : World K (G.hide D) H) : World K G H :=
  ⟨w.len, w.nd, w.tr, fun a ha => w.hd a (List.mem_cons_of_mem _ ha), fun i a ob e1 e2 => (w.at' i a ob e1 e2).less less_unhide rfl⟩
theorem less_hidupd {o : HO} (hD : D ∈ G.hid) : Less G H G (upd H D o) := by
  refine ⟨fun _ _ e => e, fun a u h => ⟨?_, h.2⟩, fun a u h => ⟨?_, h.2⟩, fun a u h => ⟨by rw [upd_ne (fun z => h.2 (.inr (by rw [z]; exact hD)))]; exact h.1, h.2⟩, fun a p u h => ⟨by rw [upd_ne (fun z => h.2 (.inr (by rw [z]; exact hD)))]; exact h.1, h.2⟩⟩
  · have : a ≠ D := fun z => h.2 (.inr (by rw [z]; exact hD))
    rcases h.1 with r | ⟨p, r⟩
    · exact .inl (by rw [upd_ne this]; exact r)
    · exact .inr ⟨p, by rw [upd_ne this]; exact r⟩
  · have : a ≠ D := fun z => h.2 (.inr (by rw [z]; exact hD))
    obtain ⟨p, d, r⟩ := h.1
    exact ⟨p, d, by rw [upd_ne this]; exact r⟩
theorem World.hidupd {o : HO} (w : World K G H) (hD : D ∈ G.hid) : World K G (upd H D o) := by
  have nl := (w.hd D hD).2
  refine ⟨w.len, w.nd, fun a ha => ?_, fun a ha => ⟨?_, (w.hd a ha).2⟩, fun i a ob e1 e2 => ?_⟩
  · rw [upd_ne (fun z => nl (by rw [← z]; exact ha))]; exact w.tr a ha
  · by_cases q : a = D
    · subst q; rw [upd_same]; exact fun z => nomatch z
    · rw [upd_ne q]; exact (w.hd a ha).1
  · have : a ≠ D := fun z => nl (by rw [← z]; exact List.mem_of_getElem? e1)
    exact (w.at' i a ob e1 e2).less (less_hidupd hD) (upd_ne this)
/-- a step with D hidden, then D written: from outside -/
theorem Ext.under {G1 : Gm} {H1 H' : Hp} {ls st ls' st'} {o : HO} (w1 : World K G1 H1) (hD : H1 D = none) (x : Ext G1 H1 (G1.to ls st) H) (y : Ext ((G1.to ls st).hide D) H ((G1.to ls' st').hide D) H') : Ext G1 H1 (G1.to ls' st') (upd H' D o) := by
  have hal : ∀ a, ((G1.to ls st).hide D).alive a → a = D ∨ (G1.to ls st).alive a := fun a z => by
    rcases z with z | z
    · exact .inr (.inl z)
    · exact (List.mem_cons.mp z).imp_right .inr
  refine ⟨fun i a e => y.ls i a (x.ls i a e), fun a u na e => ?_, fun a z => ?_, fun a e => ?_, rfl, fun a ha => ?_⟩
  · have nD : a ≠ D := ne_of_none e hD
    rw [upd_ne nD]
    have na1 : ¬ ((G1.to ls st).hide D).alive a := fun z => by
      rcases hal a z with q | q
      · exact nD q
      · rcases x.al a q with q | q
        · exact na q
        · rw [q] at e; cases e
    rcases x.keep a u na e with k | ⟨kvs, od, rfl, k⟩
    · exact y.keep a u na1 k
    · rcases y.keep a _ na1 k with q | ⟨_, _, q, _⟩
      · exact .inr ⟨kvs, od, rfl, q⟩
      · cases q
  · have z' : ((G1.to ls' st').hide D).alive a := z.imp_right (List.mem_cons_of_mem _)
    rcases y.al a z' with q | q
    · rcases hal a q with q | q
      · exact .inr (by rw [q]; exact hD)
      · exact x.al a q
    · exact .inr (x.non a q)
  · by_cases q : a = D
    · rw [q]; exact hD
    · rw [upd_ne q] at e; exact x.non a (y.non a e)
  · have nD : a ≠ D := fun z => (w1.hd a ha).1 (by rw [z]; exact hD)
    rw [upd_ne nD, y.hidk a (List.mem_cons_of_mem _ ha), x.hidk a ha]

section
variable {Wx : WX} {G1 : Gm} {H1 : Hp}
/-- the loop of a list comprehension -/
theorem lc_loop {J : It} {src : Src} {g : TG} {gm : GM} {is vs : List Nat} {tt : TT} {c : TM} {te : TE} {m : EM} {ρ : Ev} {σ : L2.St} {Q : VK} (w1 : World K G1 H1) (re : RepE K G1 H1 ρ σ) (wk : Walks K G1 H1 src J) (hg : SemG K g gm is) (hs : ∀ i ∈ is, i ∈ vs)
    (ht : SemT K W0 tt c) (he : SemE K W0 te m) (hlen : src.items.length ≤ 100000) (hD : H1 D = none)
    (fin : ∀ (ys : List W) (st' : Stt) (ls' : List Addr) (H' : Hp) (av : List V), lcW src.ok gm c m (wipeE ρ vs) src.items G1.st = .ok ys st' → Ext G1 H1 (G1.to ls' st') H' → World K ((G1.to ls' st').hide D) H' → H' D = some (.lst av) → RepL K ((G1.to ls' st').hide D) H' ys av → Q (.ref D) H')
    (hok : ∃ ys st', lcW src.ok gm c m (wipeE ρ vs) src.items G1.st = .ok ys st') :
    ∃ W : Nat → Nat → Hp → Prop, (∃ m, W 0 m (upd H1 D (.lst []))) ∧ ∀ i m H, W i m H → (J.stop i H ∧ Q (.ref D) H) ∨ (J.go i H ∧ ∃ Nx : Hp → Prop, (∀ H', Nx H' → ∃ m', m' < m ∧ W (i + 1) m' H') ∧ ∀ x H', J.yld i H x H' → g x (L2.wipe σ vs) H' fun σ2 H2 => L2.wipe σ2 vs = L2.wipe σ vs ∧ tt σ2 H2 fun b H3 =>
      if b = true then te σ2 H3 fun y H4 => ∃ acc, H4 D = some (.lst acc) ∧ acc.length < sizeLine ∧ Nx (upd H4 D (.lst (acc ++ [y]))) else Nx H3) := by
  obtain ⟨ysF, stF, hok⟩ := hok
  let Inv : Nat → Hp → Prop := fun i H => i ≤ src.items.length ∧ ∃ (ls : List Addr) (st : Stt) (aw : List W) (av : List V) (ys : List W), Ext G1 H1 (G1.to ls st) H ∧ World K ((G1.to ls st).hide D) H ∧ H D = some (.lst av) ∧ RepL K ((G1.to ls st).hide D) H aw av ∧ av.length ≤ i ∧ Less G1 H1 ((G1.to ls st).hide D) H ∧
    lcW src.ok gm c m (wipeE ρ vs) (src.items.drop i) st = .ok ys stF ∧ aw ++ ys = ysF
  refine ⟨fun i m H => m = src.items.length - i ∧ Inv i H, ⟨_, rfl, Nat.zero_le _, G1.ls, G1.st, [], [], ysF, ?_, w1.hide hD, upd_same, .nil, Nat.le_refl _, less_hide w1 hD, hok, rfl⟩, ?_⟩
  · exact Ext.new w1 hD
  rintro i mm H ⟨rfl, hle, ls, st, aw, av, ys, x, w, hDv, rl, hl, le, hc, hys⟩
  by_cases hlt : i < src.items.length
  · rw [List.drop_eq_getElem_cons hlt] at hc
    rw [lcW] at hc
    split at hc
    · rename_i hokst
      obtain ⟨wg, _⟩ := wk _ H le w hokst i
      obtain ⟨hgo, hy⟩ := wg _ (List.getElem?_eq_getElem hlt)
      refine .inr ⟨hgo, Inv (i + 1), fun H' hN => ⟨_, ?_, rfl, hN⟩, fun xv H2 hx => ?_⟩
      · omega
      obtain ⟨x2, w2, rx⟩ := hy xv H2 hx
      cases eg : gm st src.items[i] (wipeE ρ vs) with
      | none => rw [eg] at hc; cases hc
      | some ρ1 =>
        rw [eg] at hc
        dsimp only at hc
        have re2 : RepE K ((G1.to ls st).hide D) H2 (wipeE ρ vs) (L2.wipe σ vs) := ((re.less le).less x2.less).wipe vs
        refine hg _ H2 _ _ _ xv ρ1 _ w2 re2 rx eg fun σ2 hl2 hj2 re3 => ⟨?_, ?_⟩
        · rw [wipe_same hl2 hj2 hs, wipe_wipe]
        obtain ⟨b, st3, hb, hc⟩ := Rs.cb_eq hc
        refine ht _ H2 ρ1 σ2 _ w2 re3 ?_
        rw [show ((G1.to ls st).hide D).st = st from rfl, hb]
        intro ls3 H3 b' x3 w3 eb
        subst eb
        have x23 := x2.trans x3
        have hD3 : H3 D = some (.lst av) := (x23.hidk D List.mem_cons_self).trans hDv
        cases b with
        | true =>
          rw [if_pos rfl] at hc ⊢
          obtain ⟨y, st4, hm, hc⟩ := Rs.cb_eq hc
          obtain ⟨ys', st5, hr, hc⟩ := Rs.cb_eq hc
          refine he (((G1.to ls st).hide D).to ls3 st3) H3 ρ1 σ2 _ w3 (re3.mono x3) ?_
          rw [show (((G1.to ls st).hide D).to ls3 st3).st = st3 from rfl, hm]
          intro ls4 H4 yv x4 w4 ry
          have x24 := x23.trans x4
          have hD4 : H4 D = some (.lst av) := (x24.hidk D List.mem_cons_self).trans hDv
          refine ⟨av, hD4, Nat.lt_of_le_of_lt (Nat.le_trans hl (Nat.le_of_lt hlt)) (Nat.lt_of_le_of_lt hlen (by decide)), hlt, ls4, st4, aw ++ [y], av ++ [yv], ys', Ext.under w1 hD x x24, w4.hidupd List.mem_cons_self, upd_same, ?_, ?_, ?_, ?_, ?_⟩
          · exact (RepL.app (rl.mono x24) (.cons ry .nil)).less (less_hidupd List.mem_cons_self)
          · simp; omega
          · have l2 := less_hidupd (G := (G1.to ls4 st4).hide D) (H := H4) (o := .lst (av ++ [yv])) List.mem_cons_self
            exact ⟨fun i a e => x24.ls i a (le.ls i a e), fun a u h => l2.fz a u (Fz.mono x24 (le.fz a u h)), fun a u h => l2.fx a u (Fx.mono x24 (le.fx a u h)), fun a u h => l2.fe a u (Fe.mono x24 (le.fe a u h)), fun a p u h => l2.fd a p u (Fd.mono x24 (le.fd a p u h))⟩
          · cases hc; exact hr
          · cases hc; rw [← hys]; simp
        | false =>
          rw [if_neg Bool.false_ne_true] at hc ⊢
          refine ⟨hlt, ls3, st3, aw, av, ys, ?_, w3, hD3, rl.mono x23, Nat.le_succ_of_le hl, ?_, hc, hys⟩
          · have q := Ext.under (o := .lst av) w1 hD x x23
            have : upd H3 D (.lst av) = H3 := by
              funext b
              by_cases e : b = D
              · subst e; rw [upd_same]; exact hD3.symm
              · rw [upd_ne e]
            rw [this] at q
            exact q
          · exact ⟨fun i a e => x23.ls i a (le.ls i a e), fun a u h => Fz.mono x23 (le.fz a u h), fun a u h => Fx.mono x23 (le.fx a u h), fun a u h => Fe.mono x23 (le.fe a u h), fun a p u h => Fd.mono x23 (le.fd a p u h)⟩
    · cases hc
  · have ei : i = src.items.length := by omega
    subst ei
    rw [List.drop_length, lcW] at hc
    split at hc
    · rename_i hokst
      cases hc
      refine .inl ⟨(wk _ H le w hokst _).2 (Nat.le_refl _), fin ysF _ ls H av hok x w hDv ?_⟩
      rw [← hys, List.append_nil]; exact rl
    · cases hc
end
end
end Sim
end
section
set_option Elab.async false
set_option linter.all false
set_option maxRecDepth 100000
set_option maxHeartbeats 1000000
open PySem PySem.Spec PyProof.Rows L2
namespace Sim
structure CTs (X : Cx) (Wx : WX) (ifs : List Expr) (t : TT) (m : TM) : Prop where
  pe : PTs X ifs t
  sem : SemT X.K Wx t m
section
variable {X : Cx} {Wx : WX} {K : PySem.W.Frag}
theorem cts_nil : CTs X Wx [] tYes tmYes := ⟨pts_nil, fun G H ρ σ Q w r h => PostR.ok w h rfl⟩
theorem cts_one {c : Expr} {t : TT} {m : TM} (h : CT X Wx c t m) : CTs X Wx [c] t m := ⟨pts_one h.pe, h.sem⟩
theorem RepL.unhide {G : Gm} {H : Hp} {D : Addr} {ws : List W} {vs : List V} (h : RepL K (G.hide D) H ws vs) : RepL K G H ws vs := h.less less_unhide
theorem hidden_nal {G : Gm} {H H1 : Hp} {G1 : Gm} {D : Addr} (w1 : World K G1 H1) (hD : H1 D = none) (x : Ext G1 H1 G H) (w : World K (G.hide D) H) : ¬ G.alive D := fun z => by
  have hn : H D ≠ none := (w.hd D List.mem_cons_self).1
  rcases x.al D z with q | q
  · exact w1.nal hD q
  · rcases z with ⟨i, ob, e1, _⟩ | z
    · exact (w.hd D List.mem_cons_self).2 (List.mem_of_getElem? e1)
    · rw [x.hid] at z
      exact (w1.hd D z).1 hD
theorem sem_lc {wi : TI} {g : TG} {gm : GM} {is vs : List Nat} {tt : TT} {c : TM} {te : TE} {m : EM} {im : IM} (hi : SemI K Wx wi im) (hg : SemG K g gm is) (hs : ∀ i ∈ is, i ∈ vs) (ht : SemT K W0 tt c) (he : SemE K W0 te m) :
    SemE K Wx (tLc wi g tt te vs) (eLc im gm c m vs) := fun G H ρ σ Q w r h => by
  refine hi G H ρ σ _ w r (PostR.bind h fun src st1 ls1 H1 J _ e1 w1 wk h1 => ?_)
  intro D hD
  split at h1
  · rename_i hlen
    cases hr : lcW src.ok gm c m (wipeE ρ vs) src.items st1 with
    | ok ys st2 =>
      rw [hr] at h1
      refine lc_loop w1 (r.mono e1) wk hg hs ht he hlen hD (fun ys' st' ls' H' av hq x w' hDv rl => ?_) ⟨ys, st2, hr⟩
      rw [show (G.to ls1 st1).st = st1 from rfl, hr] at hq
      cases hq
      exact h1 ls' H' (.ref D) x w'.unhide (.lst ⟨hDv, hidden_nal w1 hD x w'⟩ rl.unhide)
    | er x st2 => rw [hr] at h1; exact h1.elim
    | no => rw [hr] at h1; exact h1.elim
  · exact h1.elim
/-- the hidden list becomes a tracked one -/
theorem unhide_push {G1 G : Gm} {H1 H : Hp} {D : Addr} {aw : List W} {av : List V} (w1 : World K G1 H1) (hD : H1 D = none) (x : Ext G1 H1 G H) (w : World K (G.hide D) H) (hDv : H D = some (.lst av)) (rl : RepL K (G.hide D) H aw av) :
    Ext G1 H1 ⟨G.ls ++ [D], G.st ++ [some (.lst aw)], G.hid⟩ H ∧ World K ⟨G.ls ++ [D], G.st ++ [some (.lst aw)], G.hid⟩ H := by
  have nl : D ∉ G.ls := (w.hd D List.mem_cons_self).2
  have nh : D ∉ G.hid := fun z => by
    rw [x.hid] at z
    exact (w1.hd D z).1 hD
  have hal : ∀ a, Gm.alive ⟨G.ls ++ [D], G.st ++ [some (.lst aw)], G.hid⟩ a → a = D ∨ G.alive a := fun a z => by
    rcases z with ⟨i, ob, e1, e2⟩ | z
    · have e1 : (G.ls ++ [D])[i]? = some a := e1
      have e2 : (G.st ++ [some (.lst aw)])[i]? = some (some ob) := e2
      have hln : G.ls.length = G.st.length := w.len
      by_cases hi : i < G.ls.length
      · rw [List.getElem?_append_left hi] at e1
        rw [List.getElem?_append_left (by omega)] at e2
        exact .inr (.inl ⟨i, ob, e1, e2⟩)
      · rw [List.getElem?_append_right (by omega)] at e1
        cases hk : i - G.ls.length with
        | zero => rw [hk] at e1; exact .inl (Option.some.inj e1).symm
        | succ k => rw [hk] at e1; simp at e1
    · exact .inr (.inr z)
  have lss : Less (G.hide D) H ⟨G.ls ++ [D], G.st ++ [some (.lst aw)], G.hid⟩ H := by
    refine ⟨fun i a e => ?_, fun a u h => ⟨h.1, fun z => ?_⟩, fun a u h => ⟨h.1, fun z => ?_⟩, fun a u h => ⟨h.1, fun z => ?_⟩, fun a p u h => ⟨h.1, fun z => ?_⟩⟩
    · show (G.ls ++ [D])[i]? = some a
      have e : G.ls[i]? = some a := e
      rw [List.getElem?_append_left (List.getElem?_eq_some_iff.mp e).1]; exact e
    · rcases hal a z with q | q
      · exact h.2 (.inr (by rw [q]; exact List.mem_cons_self))
      · exact h.2 (q.imp_right (List.mem_cons_of_mem _))
    · rcases hal a z with q | q
      · exact h.2 (.inr (by rw [q]; exact List.mem_cons_self))
      · exact h.2 (q.imp_right (List.mem_cons_of_mem _))
    · rcases hal a z with q | q
      · exact h.2 (.inr (by rw [q]; exact List.mem_cons_self))
      · exact h.2 (q.imp_right (List.mem_cons_of_mem _))
    · rcases hal a z with q | q
      · exact h.2 (.inr (by rw [q]; exact List.mem_cons_self))
      · exact h.2 (q.imp_right (List.mem_cons_of_mem _))
  refine ⟨⟨fun i a e => lss.ls i a (x.ls i a e), x.keep, fun a z => ?_, x.non, x.hid, x.hidk⟩, ⟨?_, ?_, fun a ha => ?_, fun a ha => ⟨(w.hd a (List.mem_cons_of_mem _ ha)).1, fun z => ?_⟩, fun i a ob e1 e2 => ?_⟩⟩
  · rcases hal a z with q | q
    · exact .inr (by rw [q]; exact hD)
    · exact x.al a q
  · have hln : G.ls.length = G.st.length := w.len
    simp [hln]
  · show (G.ls ++ [D]).Nodup
    rw [List.nodup_append]
    exact ⟨w.nd, by simp, fun a ha b hb => by rw [List.mem_singleton.mp hb]; exact fun z => nl (by rw [← z]; exact ha)⟩
  · have ha : a ∈ G.ls ++ [D] := ha
    rcases List.mem_append.mp ha with q | q
    · exact w.tr a q
    · rw [List.mem_singleton.mp q, hDv]; exact (fun z => nomatch z)
  · have z : a ∈ G.ls ++ [D] := z
    rcases List.mem_append.mp z with q | q
    · exact (w.hd a (List.mem_cons_of_mem _ ha)).2 q
    · exact nh (by rw [← List.mem_singleton.mp q]; exact ha)
  · have e1 : (G.ls ++ [D])[i]? = some a := e1
    have e2 : (G.st ++ [some (.lst aw)])[i]? = some (some ob) := e2
    have hln : G.ls.length = G.st.length := w.len
    by_cases hi : i < G.ls.length
    · rw [List.getElem?_append_left hi] at e1
      rw [List.getElem?_append_left (by omega)] at e2
      exact (w.at' i a ob e1 e2).less lss rfl
    · rw [List.getElem?_append_right (by omega)] at e1
      rw [List.getElem?_append_right (by omega), ← hln] at e2
      cases hk : i - G.ls.length with
      | zero =>
        rw [hk] at e1 e2
        have q1 : D = a := Option.some.inj e1
        have q2 : Ob.lst aw = ob := Option.some.inj (Option.some.inj e2)
        subst q1 q2
        exact ⟨av, hDv, rl.less lss⟩
      | succ k => rw [hk] at e1; simp at e1
theorem sem_lcL {wi : TI} {g : TG} {gm : GM} {is vs : List Nat} {tt : TT} {c : TM} {te : TE} {m : EM} {im : IM} (hi : SemI K Wx wi im) (hg : SemG K g gm is) (hs : ∀ i ∈ is, i ∈ vs) (ht : SemT K W0 tt c) (he : SemE K W0 te m) :
    SemE K Wx (tLc wi g tt te vs) (eLcL im gm c m vs) := fun G H ρ σ Q w r h => by
  refine hi G H ρ σ _ w r (PostR.bind h fun src st1 ls1 H1 J _ e1 w1 wk h1 => ?_)
  intro D hD
  split at h1
  · rename_i hlen
    cases hr : lcW src.ok gm c m (wipeE ρ vs) src.items st1 with
    | ok ys st2 =>
      rw [hr] at h1
      refine lc_loop w1 (r.mono e1) wk hg hs ht he hlen hD (fun ys' st' ls' H' av hq x w' hDv rl => ?_) ⟨ys, st2, hr⟩
      rw [show (G.to ls1 st1).st = st1 from rfl, hr] at hq
      cases hq
      obtain ⟨x2, w2⟩ := unhide_push w1 hD x w' hDv rl
      refine h1 (ls' ++ [D]) H' (.ref D) x2 w2 (.loc ?_)
      show (ls' ++ [D])[st2.length]? = some D
      rw [show st2.length = ls'.length from w'.len.symm]
      simp
    | er x st2 => rw [hr] at h1; exact h1.elim
    | no => rw [hr] at h1; exact h1.elim
  · exact h1.elim
abbrev Blk (X : Cx) (scope : Scope) (P : Cx → Prop) : Prop := ∀ (s : Shared) (H : Hp) (C : Addr) (cl : List (Str × Addr)) (fp : List Addr), P (X.blk s H scope (compEnvC scope cl C X.env) fp)
theorem ce_lc {elt tg iter : Expr} {ifs : List Expr} {scope : Scope} {own : List (Str × Nat)} {pos : Pos} {wi : TI} {g : TG} {tt : TT} {te : TE} {im : IM} {gm : GM} {is : List Nat} {c : TM} {m : EM} (hc : X.calm = true) (hN : X.N.Nodup) (hi : CI X Wx tg iter wi im) (ok : BlkOk X.N X.env.scope scope own)
    (hg : Blk X scope fun Y => CG Y tg g gm is) (ht : Blk X scope fun Y => CTs Y W0 ifs tt c) (he : Blk X scope fun Y => CE Y W0 elt te m) (hsub : ∀ i ∈ is, i ∈ own.map (·.2) := by decide) (hs : ∀ x, foldedSetIterable iter X.env x = pure x := by intro _; rfl) :
    CE X Wx (.ListComp elt [⟨tg, iter, ifs, 0⟩] scope pos) (tLc wi g tt te (own.map (·.2))) (eLc im gm c m (own.map (·.2))) :=
  ⟨pe_lc hc hN hi.pe ok (fun s H C cl fp => (hg s H C cl fp).pe) (fun s H C cl fp => (ht s H C cl fp).pe) (fun s H C cl fp => (he s H C cl fp).pe) hs, sem_lc hi.sem (hg {} (fun _ => none) 0 [] []).sem hsub (ht {} (fun _ => none) 0 [] []).sem (he {} (fun _ => none) 0 [] []).sem⟩
theorem ce_lcL {elt tg iter : Expr} {ifs : List Expr} {scope : Scope} {own : List (Str × Nat)} {pos : Pos} {wi : TI} {g : TG} {tt : TT} {te : TE} {im : IM} {gm : GM} {is : List Nat} {c : TM} {m : EM} (hc : X.calm = true) (hN : X.N.Nodup) (hi : CI X Wx tg iter wi im) (ok : BlkOk X.N X.env.scope scope own)
    (hg : Blk X scope fun Y => CG Y tg g gm is) (ht : Blk X scope fun Y => CTs Y W0 ifs tt c) (he : Blk X scope fun Y => CE Y W0 elt te m) (hsub : ∀ i ∈ is, i ∈ own.map (·.2) := by decide) (hs : ∀ x, foldedSetIterable iter X.env x = pure x := by intro _; rfl) :
    CE X Wx (.ListComp elt [⟨tg, iter, ifs, 0⟩] scope pos) (tLc wi g tt te (own.map (·.2))) (eLcL im gm c m (own.map (·.2))) :=
  ⟨pe_lc hc hN hi.pe ok (fun s H C cl fp => (hg s H C cl fp).pe) (fun s H C cl fp => (ht s H C cl fp).pe) (fun s H C cl fp => (he s H C cl fp).pe) hs, sem_lcL hi.sem (hg {} (fun _ => none) 0 [] []).sem hsub (ht {} (fun _ => none) 0 [] []).sem (he {} (fun _ => none) 0 [] []).sem⟩
theorem cs_setLc {i : Nat} {y : Str} {py : Pos} {elt tg iter : Expr} {ifs : List Expr} {scope : Scope} {own : List (Str × Nat)} {pos spos : Pos} {wi : TI} {g : TG} {tt : TT} {te : TE} {im : IM} {gm : GM} {is : List Nat} {c : TM} {m : EM} (hc : X.calm = true) (hN : X.N.Nodup) (hy : X.N[i]? = some y) (hyl : X.env.scope.names.lookup y = some .local)
    (hsw : swapsWith (.ListComp elt [⟨tg, iter, ifs, 0⟩] scope pos) (some (.Name y py)) spos.line X.env = pure true) (hi : CI X Wx tg iter wi im) (ok : BlkOk X.N X.env.scope scope own)
    (hg : Blk X scope fun Y => CG Y tg g gm is) (ht : Blk X scope fun Y => CTs Y W0 ifs tt c) (he : Blk X scope fun Y => CE Y W0 elt te m) (hsub : ∀ i ∈ is, i ∈ own.map (·.2) := by decide) (hs : ∀ x, foldedSetIterable iter X.env x = pure x := by intro _; rfl) :
    CS X Wx (.Assign [.Name y py] (.ListComp elt [⟨tg, iter, ifs, 0⟩] scope pos) spos) (tAsg (tLc wi g tt te (own.map (·.2))) (gName i)) (sAsg (eLc im gm c m (own.map (·.2))) (gmName i)) :=
  ⟨ps_setLc hc hN hy hyl hsw hi.pe ok (fun s H C cl fp => (hg s H C cl fp).pe) (fun s H C cl fp => (ht s H C cl fp).pe) (fun s H C cl fp => (he s H C cl fp).pe) hs, sem_asg (sem_lc hi.sem (hg {} (fun _ => none) 0 [] []).sem hsub (ht {} (fun _ => none) 0 [] []).sem (he {} (fun _ => none) 0 [] []).sem) (sem_gname i)⟩
theorem cs_setLcL {i : Nat} {y : Str} {py : Pos} {elt tg iter : Expr} {ifs : List Expr} {scope : Scope} {own : List (Str × Nat)} {pos spos : Pos} {wi : TI} {g : TG} {tt : TT} {te : TE} {im : IM} {gm : GM} {is : List Nat} {c : TM} {m : EM} (hc : X.calm = true) (hN : X.N.Nodup) (hy : X.N[i]? = some y) (hyl : X.env.scope.names.lookup y = some .local)
    (hsw : swapsWith (.ListComp elt [⟨tg, iter, ifs, 0⟩] scope pos) (some (.Name y py)) spos.line X.env = pure true) (hi : CI X Wx tg iter wi im) (ok : BlkOk X.N X.env.scope scope own)
    (hg : Blk X scope fun Y => CG Y tg g gm is) (ht : Blk X scope fun Y => CTs Y W0 ifs tt c) (he : Blk X scope fun Y => CE Y W0 elt te m) (hsub : ∀ i ∈ is, i ∈ own.map (·.2) := by decide) (hs : ∀ x, foldedSetIterable iter X.env x = pure x := by intro _; rfl) :
    CS X Wx (.Assign [.Name y py] (.ListComp elt [⟨tg, iter, ifs, 0⟩] scope pos) spos) (tAsg (tLc wi g tt te (own.map (·.2))) (gName i)) (sAsg (eLcL im gm c m (own.map (·.2))) (gmName i)) :=
  ⟨ps_setLc hc hN hy hyl hsw hi.pe ok (fun s H C cl fp => (hg s H C cl fp).pe) (fun s H C cl fp => (ht s H C cl fp).pe) (fun s H C cl fp => (he s H C cl fp).pe) hs, sem_asg (sem_lcL hi.sem (hg {} (fun _ => none) 0 [] []).sem hsub (ht {} (fun _ => none) 0 [] []).sem (he {} (fun _ => none) 0 [] []).sem) (sem_gname i)⟩

/-! defs -/
def spF (K : PySem.W.Frag) (n : Nat) (m : FM) : Sp := fun vs H Q E => vs.length = n ∧ ∃ (G : Gm) (ws : List W), World K G H ∧ RepL K G H ws vs ∧ PostR K (RepV K) E G H (m ws G.st) Q
def eCall (m : FM) (as : AM) : EM := fun ρ st => (as ρ st).bind fun ws st1 => m ws st1
theorem sem_call {m : FM} {n : Nat} {ta : TA} {as : AM} {dvs : List V} {dws : List W} (ha : SemA K Wx ta as) (hd : ∀ G H, RepL K G H dws dvs) (hn : ∀ ρ st ws st', as ρ st = .ok ws st' → ws.length + dws.length = n) : SemE K Wx (tCallSD (spF K n m) dvs (WE Wx) ta) (eCall (fun ws => m (ws ++ dws)) as) := fun G H ρ σ Q w r h => by
  refine ha G H ρ σ _ w r (PostR.bind h fun ws st1 ls1 H1 vs he e1 w1 rv h1 => ?_)
  refine ⟨?_, G.to ls1 st1, ws ++ dws, w1, RepL.app rv (hd _ _), h1⟩
  rw [List.length_append, ← rv.length, ← (hd G H).length]
  exact hn _ _ _ _ he
/-- how many arguments -/
def ALen (as : AM) (n : Nat) : Prop := ∀ ρ st ws st', as ρ st = .ok ws st' → ws.length = n
theorem alen_nil : ALen aNil 0 := fun ρ st ws st' h => by cases h; rfl
theorem alen_cons {m : EM} {r : AM} {n : Nat} (h : ALen r n) : ALen (aCons m r) (n + 1) := fun ρ st ws st' e => by
  unfold aCons at e
  cases e1 : m ρ st with
  | ok w st1 =>
    rw [e1] at e
    dsimp only [Rs.bind] at e
    cases e2 : r ρ st1 with
    | ok us st2 =>
      rw [e2] at e
      cases e
      simp [h _ _ _ _ e2]
    | er x s => rw [e2] at e; cases e
    | no => rw [e2] at e; cases e
  | er x s => rw [e1] at e; cases e
  | no => rw [e1] at e; cases e
/-- f(e, ..), all arguments written by place -/
theorem ce_call {k : Nat} {f : Addr} {fd : FuncData} {ps : List Str} {m : FM} {x : Str} {p pos : Pos} {e : Expr} {es : List Expr} {t : TA} {as : AM} {n : Nat} (F : FnOk X.prog X.w X.K X.mg X.base (L2.CX X.prog X.w) k f fd ps (spF X.K n m)) (hr : Room k X.A) (tk : Takes X Wx) (hg : Gl X x) (hm : X.mg x = some (.ref f)) (hk : PySem.W.keepIn X.K (.ref f) = true) (hb : Binds X.K fd ps [])
    (ha : CA X Wx (e :: es) t as) (hl : ALen as n) (hdb : (x == ("__debug__" : Str)) = false := by decide) (he : starEach (e :: es) X.env = (false, eval e X.env) :: starEach es X.env := by rfl) (hpl : (backTo pos (starEach es X.env)).any (·.1) = false := by rfl) :
    CE X Wx (.Call (.Name x p) (e :: es) [] pos) (tCallSD (spF X.K n m) [] (WE Wx) t) (eCall m as) := by
  refine ⟨pe_callSD F hr hg hm hk hb .nil (passAt tk) ha.pe hdb he hpl, ?_⟩
  have := sem_call (m := m) (n := n) (dvs := []) (dws := []) ha.sem (fun _ _ => .nil) (fun ρ st ws st' e => by simpa using hl ρ st ws st' e)
  simpa only [List.append_nil] using this

def entry (n : Nat) (ws : List W) : Ev := ws.map some ++ List.replicate (n - ws.length) none
def mFun (n : Nat) (b : SM) : FM := fun ws st => match b (entry n ws) st with
  | .nx _ st' => .ok .non st'
  | .rt w st' => .ok w st'
  | .er x _ st' => .er x st'
  | _ => .no
theorem RepL.ev {G : Gm} {H : Hp} {ws : List W} {vs : List V} (h : RepL K G H ws vs) {N : List Str} : RepE K G H (entry N.length ws) (L2.start N vs) := by
  refine ⟨by unfold entry L2.start; simp [h.length], fun i w e => ?_⟩
  unfold entry at e
  have hi : i < ws.length := by
    by_cases hi : i < ws.length
    · exact hi
    · rw [List.getElem?_append_right (by simpa using hi), List.getElem?_replicate] at e
      split at e <;> cases e
  rw [List.getElem?_append_left (by simpa using hi), List.getElem?_map] at e
  cases e2 : ws[i]? with
  | none => rw [e2] at e; cases e
  | some u =>
    rw [e2] at e
    cases e
    obtain ⟨v, ev, rv⟩ := h.get e2
    refine ⟨v, ?_, rv⟩
    unfold L2.start
    rw [List.getElem?_append_left (by simpa using (List.getElem?_eq_some_iff.mp ev).1), List.getElem?_map, ev]
    rfl
theorem fn_ok {P : Program} {w : PySem.World} {mg : Str → Option Value} {base : Heap} {x qual : Str} {st : Stmt} {f : Addr} {fd : FuncData} {N ps : List Str} {k n : Nat} {b : SM} (F : Fun K x qual st f fd) (S : FnScope N ps (defScope st)) (hn : ps.length = n)
    (hbody : ∀ (cdv : Value) (A : Around) (outer : List Env) (s : Shared) (H : Hp) (E : XK), Room k (A.deeper (envOfC qual (defScope st) s.heap.objs.size f cdv)) →
      ∃ t, CSs (cxOf (L2.CX P w) P w K mg base N qual (defScope st) f cdv A outer s H E) (fun c d _ H => E c d H) (defBody st) t b) : FnOk P w K mg base (L2.CX P w) (k + 1) f fd ps (spF K n (mFun N.length b)) := by
  refine F.okX S (fun vs H Q E h => h.1.trans hn.symm) fun cdv A outer s H vs Q E hr h => ?_
  obtain ⟨t, ht⟩ := hbody cdv A outer s H E hr
  obtain ⟨hl, G, ws, wo, rl, hp⟩ := h
  refine ⟨t, ht.pe, ht.sem G H _ _ _ wo rl.ev ?_⟩
  unfold mFun at hp
  cases e : b (entry N.length ws) G.st with
  | nx ρ st' => rw [e] at hp; exact fun ls' σ' H' x w r => hp ls' H' .non x w .non
  | rt u st' => rw [e] at hp; exact fun ls' v H' x w r => hp ls' H' v x w r
  | bk ρ st' => rw [e] at hp; exact hp.elim
  | ct ρ st' => rw [e] at hp; exact hp.elim
  | er y ρ st' => rw [e] at hp; exact fun ls' σ' H' d x w r q => hp ls' H' d x w q
  | no => rw [e] at hp; exact hp.elim
/-- a better promise: m' says no more than m -/
theorem fn_imp {P : Program} {w : PySem.World} {mg : Str → Option Value} {base : Heap} {CX : CXT} {f : Addr} {fd : FuncData} {ps : List Str} {k n : Nat} {m m' : FM} (F : FnOk P w K mg base CX k f fd ps (spF K n m)) (h : ∀ ws st, ws.length = n → m' ws st = .no ∨ m' ws st = m ws st) : FnOk P w K mg base CX k f fd ps (spF K n m') :=
  F.imp fun vs H Q E q => by
    obtain ⟨hl, G, ws, wo, rl, hp⟩ := q
    refine ⟨hl, G, ws, wo, rl, ?_⟩
    rcases h ws G.st (rl.length.trans hl) with e | e
    · rw [e] at hp; exact hp.elim
    · rw [← e]; exact hp
/-- code that is never reached -/
def sNo : SM := fun _ _ => .no
theorem cs_never {s : Stmt} : CS X Wx s tNever sNo := ⟨ps_never, fun G H ρ σ D w r h => h.elim⟩
end
end Sim
end
section
set_option Elab.async false
set_option linter.all false
set_option maxRecDepth 100000
set_option maxHeartbeats 2000000
namespace Low
open PySem PySem.W PyProof.Rows PySem.Spec
section
variable {prog : Program} {w : World} {A : Around} {E : Value → Shared → Prop} {s : Shared}
/-- S grows by the signs of a text -/
theorem ext_str {R : Result → Shared → Prop} {x : Str} {t : Tok} {S : Addr} {res : Value} {c₀ : Nat} (hh : A.handled = none) (hn : x.cps.size ≤ sizeLine) (hS : s.heap.get? S = some { cls := .type "list", data := .seq #[] c₀ })
    (hR : ∀ h' tk acc c', (∀ b o, b ≠ S → s.heap.get? b = some o → h'.get? b = some o) → h'.get? S = some { cls := .type "list", dict := none, data := .seq acc c', slots := #[] } → ItemsOf (SignAt x) acc x.cps.size → R (.ok (.ret res)) { s with heap := h', toks := tk }) :
    wpAny (model prog w) A.in1 (Builtin.List.listExtendWith (.ref S) (.str x t) res)
      (fun fin s' => match fin with
        | .done f => R (.ok f) s'
        | .again c' => c'.quiet = true ∧ codeAny (model prog w) A c' R s') (fun e s' => R (.error e) s') s := by
  unfold Builtin.List.listExtendWith
  refine wpAny_bind (wpAny_typeOf (T := "str") (v := .str x t) rfl ?_)
  have a1 : Builtin.List.listSameRef (.ref S) (.str x t) = false := rfl
  have a2 : (Value.type "str" == Value.type "list") = false := by decide
  have a3 : (Value.type "str" == Value.type "tuple") = false := by decide
  simp only [a1, a2, a3, Bool.or_false, Bool.false_eq_true, if_false]
  refine wpAny_bind (wpAny_pyIter_str fun o St W hst => wpAny_bind (wpAny_holding ?_))
  unfold Builtin.List.listLengthHint
  refine wpAny_bind (wpAny_specialOf (T := "str") (v := .str x t) rfl PySem.F.str_len ?_)
  wp_delta
  refine wpAny_bind (wpAny_isInstance (T := "str") (v := .str x t) (b := true) rfl (by rw [isSubtype_type]; kernel_rfl) ?_)
  show wpAny _ A.in1 (typeOf (Value.str x t) >>= _) _ _ _
  refine wpAny_bind (wpAny_typeOf (T := "str") (v := .str x t) rfl (wpAny_pure ?_))
  rw [if_neg (by decide)]
  have hlt : S < s.heap.objs.size := Heap.lt_size hS
  have hSf : S ∉ [s.heap.objs.size] := fun z => absurd hlt (by rw [List.mem_singleton.mp z]; exact Nat.lt_irrefl _)
  have hS2 := Heap.get?_push_of_some o hS
  refine wpAny_pure ⟨plainId_quiet PySem.F.plain_extend_loop _, codeAny_extend_loopS (W A.in1 hh).toS hn _ hSf _ x.cps.size 0 _ _ _ rfl (Nat.zero_le _) hst hS2 (ItemsOf.nil _) fun s' acc c' hm hS' hacc => ?_⟩
  rw [Moved.eq_with hm]
  refine hR s'.heap s'.toks acc c' (fun b ob hb e => hm.heap b ob (fun z => ?_) (Heap.get?_push_of_some _ e)) hS' hacc
  rcases List.mem_cons.mp z with z | z
  · exact hb z
  · exact absurd (Heap.lt_size e) (by rw [List.mem_singleton.mp z]; exact Nat.lt_irrefl _)
theorem init_str {R : Result → Shared → Prop} {x : Str} {t : Tok} {S : Addr} (hh : A.handled = none) (hn : x.cps.size ≤ sizeLine) (hS : s.heap.get? S = some { cls := .type "list", data := .seq #[] })
    (hR : ∀ h' tk acc c', (∀ b o, b ≠ S → s.heap.get? b = some o → h'.get? b = some o) → h'.get? S = some { cls := .type "list", dict := none, data := .seq acc c', slots := #[] } → ItemsOf (SignAt x) acc x.cps.size → R (.ok (.ret .none)) { s with heap := h', toks := tk }) :
    wpAny (model prog w) A.in1 (Builtin.«list.__init__» ⟨[.ref S, .str x t], []⟩)
      (fun fin s' => match fin with
        | .done f => R (.ok f) s'
        | .again c' => c'.quiet = true ∧ codeAny (model prog w) A c' R s') (fun e s' => R (.error e) s') s := by
  show wpAny _ _ (Builtin.List.listItems (.ref S) >>= fun old => Builtin.List.listUpdate (.ref S) (fun _ => #[]) >>= fun _ => letGo old.toList.reverse >>= fun _ => Builtin.List.listExtendWith (.ref S) (.str x t) .none) _ _ s
  refine wpAny_bind ?_
  unfold Builtin.List.listItems
  refine wpAny_bind (wpAny_seqItems hS rfl (wpAny_pure ?_))
  show wpAny _ _ (updateSeq S (fun _ => #[]) >>= fun _ => letGo (#[] : Array Value).toList.reverse >>= fun _ => Builtin.List.listExtendWith (.ref S) (.str x t) .none) _ _ s
  refine wpAny_bind (wpAny_updateSeq hS rfl (wpAny_bind (wpAny_letGo ?_)))
  have hS2 := Heap.get?_update_self (Obj.mapSeq (fun _ => (#[] : Array Value))) hS rfl
  refine ext_str hh hn hS2 fun h' tk acc c' hk hS' hacc => hR h' tk acc c' (fun b o hb e => hk b o hb ?_) hS' hacc
  exact (Heap.get?_update_other _ _ (Ne.symm hb)).trans e
theorem list_str {x : Str} {t : Tok} {Q : Value → Shared → Prop} (hh : A.handled = none) (hn : x.cps.size ≤ sizeLine)
    (hQ : ∀ h' tk acc c', (∀ b o, s.heap.get? b = some o → h'.get? b = some o) → h'.get? s.heap.objs.size = some { cls := .type "list", dict := none, data := .seq acc c', slots := #[] } → ItemsOf (SignAt x) acc x.cps.size → Q (.ref s.heap.objs.size) { s with heap := h', toks := tk }) :
    wpAny (model prog w) A (call (.type "list") [.str x t]) Q E s := by
  refine callType_codes (Q₁ := fun obj s₁ => obj = .ref s.heap.objs.size ∧ s₁ = { s with heap := s.heap.push { cls := .type "list", data := .seq #[] } }) PySem.F.called_list (PySem.F.typeCall_list_1 _) PySem.F.entry_list_init
    (code_list_new _ ⟨rfl, rfl⟩) fun obj s₁ h₁ => ?_
  obtain ⟨rfl, rfl⟩ := h₁
  have hS : (s.heap.push { cls := .type "list", data := .seq #[] }).get? s.heap.objs.size = some { cls := .type "list", data := .seq #[] } := Heap.get?_push_size _ rfl
  refine ⟨⟨_, hS, rfl⟩, PySem.F.args_list_init_2 _ _, init_str (A := A.in1) hh hn hS fun h' tk acc c' hk hS' hacc => ⟨rfl, ?_⟩⟩
  exact hQ h' tk acc c' (fun b o e => hk b o (Nat.ne_of_lt (Heap.lt_size e)) (Heap.get?_push_of_some _ e)) hS' hacc
end
end Low
end
section
set_option Elab.async false
set_option linter.all false
set_option maxRecDepth 100000
set_option maxHeartbeats 4000000
namespace Low
open PySem PySem.Spec PyProof.Rows
def addS (l : List Str) (x : Str) : List Str := if x ∈ l then l else l ++ [x]
/-- the unlike ones, in the order in which they come -/
def nubS (xs : List Str) : List Str := xs.foldl addS []
theorem mem_addS {l : List Str} {x k : Str} : k ∈ addS l x ↔ k ∈ l ∨ k = x := by
  unfold addS
  split
  · rename_i h
    exact ⟨.inl, fun z => z.elim id fun e => by rw [e]; exact h⟩
  · simp
theorem mem_fold (xs : List Str) : ∀ (l : List Str) (k : Str), k ∈ xs.foldl addS l ↔ k ∈ l ∨ k ∈ xs := by
  induction xs with
  | nil => intro l k; simp
  | cons x r ih => intro l k; rw [List.foldl_cons, ih, mem_addS, List.mem_cons, or_assoc]
theorem mem_nubS {xs : List Str} {k : Str} : k ∈ nubS xs ↔ k ∈ xs := by simp [nubS, mem_fold]
theorem nubS_snoc (xs : List Str) (x : Str) : nubS (xs ++ [x]) = addS (nubS xs) x := by simp [nubS, List.foldl_append]
theorem len_fold (xs : List Str) : ∀ l : List Str, (xs.foldl addS l).length ≤ l.length + xs.length := by
  induction xs with
  | nil => intro l; simp
  | cons x r ih =>
    intro l
    have := ih (addS l x)
    have h2 : (addS l x).length ≤ l.length + 1 := by unfold addS; split <;> simp
    rw [List.foldl_cons, List.length_cons]
    omega
theorem nubS_le (xs : List Str) : (nubS xs).length ≤ xs.length := by simpa [nubS] using len_fold xs []
theorem nub_nodup (xs : List Str) : ∀ l : List Str, (l ++ xs).Nodup → xs.foldl addS l = l ++ xs := by
  induction xs with
  | nil => intro l _; simp
  | cons x r ih =>
    intro l h
    have hx : x ∉ l := fun z => by
      rw [List.nodup_append] at h
      exact h.2.2 x z x List.mem_cons_self rfl
    have e : addS l x = l ++ [x] := by unfold addS; rw [if_neg hx]
    rw [List.foldl_cons, e, ih (l ++ [x]) (by simpa using h)]
    simp
theorem nubS_of_nodup {xs : List Str} (h : xs.Nodup) : nubS xs = xs := by simpa [nubS] using nub_nodup xs [] (by simpa using h)
theorem nodup_fold (xs : List Str) : ∀ l : List Str, l.Nodup → (xs.foldl addS l).Nodup := by
  induction xs with
  | nil => intro l h; exact h
  | cons x r ih =>
    intro l h
    refine ih _ ?_
    unfold addS
    split
    · exact h
    · rename_i hx
      rw [List.nodup_append]
      exact ⟨h, by simp, fun a ha b hb e => hx (by rw [← List.mem_singleton.mp hb, ← e]; exact ha)⟩
theorem nubS_nodup (xs : List Str) : (nubS xs).Nodup := nodup_fold xs [] .nil
theorem nodup_of_len {xs : List Str} (h : (nubS xs).length = xs.length) : xs.Nodup := by
  have h1 : ∀ (ys l : List Str), (ys.foldl addS l).length = l.length + ys.length → ys.foldl addS l = l ++ ys := by
    intro ys
    induction ys with
    | nil => intro l _; simp
    | cons y r ih =>
      intro l e
      rw [List.foldl_cons] at e ⊢
      have b := len_fold r (addS l y)
      by_cases hy : y ∈ l
      · have e2 : addS l y = l := by unfold addS; rw [if_pos hy]
        rw [e2] at e b
        rw [List.length_cons] at e
        omega
      · have e2 : addS l y = l ++ [y] := by unfold addS; rw [if_neg hy]
        rw [e2] at e ⊢
        rw [ih (l ++ [y]) (by rw [e]; simp; omega)]
        simp
  have := h1 xs [] (by simpa [nubS] using h)
  have q : nubS xs = xs := by simpa [nubS] using this
  rw [← q]; exact nubS_nodup xs
section
variable {prog : Program} {w : World} {A : Around} {R : Result → Shared → Prop} {I : Addr} {fp wr : List Addr} {G : Array GenState → Array GenState → Prop} {n : Nat} {P : Nat → Value → Prop} {St : Nat → Shared → Prop}
/-- a set takes texts, whatever stands in it -/
theorem loop_strs (W : WalksS prog w A.in1 I fp wr G n P St) (S : Addr) (hSf : S ∉ fp) (xs : List Str) (hsz : xs.length = n) (hn1 : n + 1 < scanBound) (hval : ∀ i v, P i v → ∃ t, v = .str (xs.getD i Str.empty) t) :
    ∀ (k i : Nat) (s : Shared), n - i = k → i ≤ n → St i s → s.heap.SetOf (PySem.strKind prog w) S (fun k' => (xs.take i).any (· == k')) (nubS (xs.take i)).length →
      (∀ s', Moved (S :: wr) G s s' → s'.heap.SetOf (PySem.strKind prog w) S (fun k' => xs.any (· == k')) (nubS xs).length → R (.ok (.ret .none)) s') →
      codeAny (model prog w) A (.builtin "set.update.loop" ⟨[.ref S, .ref I], []⟩) R s := by
  have hSw : S ∉ wr := fun h => hSf (W.sub _ h)
  have hsub : ∀ b ∈ wr, b ∈ S :: wr := fun b hb => List.mem_cons_of_mem _ hb
  intro k
  induction k with
  | zero =>
    intro i s hk hi hst hS hR
    have hin : i = xs.length := by omega
    refine codeAny_builtin PyProof.Rows.F.entry_set_update_loop ?_
    rw [Around.under_plainId PyProof.Rows.F.plain_set_update_loop _]
    show wpAny _ A.in1 (pyNext (.ref I) >>= _) _ _ s
    refine wpAny_bind (W.done s _ _ (by rw [← hsz, ← hin]; exact hst) fun s' hm => wpAny_pure (hR s' (hm.mono hsub) ?_))
    rw [hin, List.take_length] at hS
    obtain ⟨o, es, ep, t, ho, rest⟩ := hS
    exact ⟨o, es, ep, t, hm.heap S _ hSw ho, rest⟩
  | succ k ih =>
    intro i s hk hi hst hS hR
    have hlt : i < n := by omega
    have hlx : i < xs.length := by omega
    refine codeAny_builtin PyProof.Rows.F.entry_set_update_loop ?_
    rw [Around.under_plainId PyProof.Rows.F.plain_set_update_loop _]
    show wpAny _ A.in1 (pyNext (.ref I) >>= _) _ _ s
    refine wpAny_bind (W.item i s _ _ hlt hst fun v s' hP hst' hm => ?_)
    obtain ⟨t, rfl⟩ := hval i v hP
    have hS' : s'.heap.SetOf (PySem.strKind prog w) S (fun k' => (xs.take i).any (· == k')) (nubS (xs.take i)).length := by
      obtain ⟨o, es, ep, tb, ho, rest⟩ := hS
      exact ⟨o, es, ep, tb, hm.heap S _ hSw ho, rest⟩
    show wpAny _ A.in1 (holding [Value.str (xs.getD i Str.empty) t] (setAdd S (.str (xs.getD i Str.empty) t)) >>= _) _ _ s'
    refine wpAny_bind (wpAny_holding ?_)
    unfold setAdd
    refine wpAny_holding (wpAny_bind ((PySem.strKind prog w).pyHash (k := xs.getD i Str.empty) (strKind_is _ _ _ _) ?_))
    have hle := nubS_le (xs.take i)
    rw [List.length_take] at hle
    refine wpAny_setAddHashed_of (knd := PySem.strKind prog w) (s := { s' with toks := s'.toks + 1 }) (strKind_is _ _ _ _) rfl hS' (by omega) fun h' hsb hS2 => ?_
    have ex : xs.getD i Str.empty = xs[i] := by simp [hlx]
    have et : xs.take (i + 1) = xs.take i ++ [xs[i]] := by rw [List.take_add_one, List.getElem?_eq_getElem hlx]; rfl
    have hSi : h'.SetOf (PySem.strKind prog w) S (fun k' => (xs.take (i + 1)).any (· == k')) (nubS (xs.take (i + 1))).length := by
      rw [ex] at hS2
      refine SetOf_congr hS2 (fun k' => ?_) ?_
      · rw [et, List.any_append]
        by_cases e : k' = xs[i]
        · subst e; simp
        · have hb : (xs[i] == k') = false := beq_eq_false_iff_ne.mpr fun z => e z.symm
          simp [hb, e]
      · rw [et, nubS_snoc]
        unfold addS
        by_cases hm : xs[i] ∈ xs.take i
        · rw [if_pos (mem_nubS.mpr hm)]
          have : (xs.take i).any (· == xs[i]) = true := List.any_eq_true.mpr ⟨_, hm, by simp⟩
          simp [this]
        · rw [if_neg (fun z => hm (mem_nubS.mp z))]
          have : (xs.take i).any (· == xs[i]) = false := by
            rw [List.any_eq_false]
            intro y hy
            exact fun z => hm (by rw [← eq_of_beq z]; exact hy)
          simp [this]
    refine wpAny_pure ⟨plainId_quiet PyProof.Rows.F.plain_set_update_loop _, ih (i + 1) _ (by omega) hlt (W.frame _ s' _ _ hst' (Nat.le_succ _) fun b hb o e => ?_) hSi fun s'' hm'' hS'' => ?_⟩
    · rw [hsb.2 b (fun h : b = S => hSf (by rw [← h]; exact hb))]; exact e
    · refine hR s'' (Moved.trans W.gtrans ((hm.mono hsub).then_heap (Nat.le_succ _) fun b o hb e => ?_) hm'') hS''
      rw [hsb.2 b (fun h : b = S => hb (by rw [h]; exact List.mem_cons_self))]; exact e
end
section
variable {prog : Program} {w : World} {A : Around} {E : Value → Shared → Prop} {s : Shared}

theorem set_tuple {l : Addr} {items : Array Value} {xs : List Str} {Q : Value → Shared → Prop} (hh : A.handled = none) (hl : s.heap.IsTuple l items) (hi : StrsAre items.toList xs) (hn1 : xs.length + 1 < scanBound)
    (h : ∀ (h' : Heap) (tk : Nat), h'.SetOf (PySem.strKind prog w) s.heap.objs.size (fun k' => xs.any (· == k')) (nubS xs).length → (∀ b o, b < s.heap.objs.size → s.heap.get? b = some o → h'.get? b = some o) → Q (.ref s.heap.objs.size) { s with heap := h', toks := tk }) :
    wpAny (model prog w) A (call (.type "set") [.ref l]) Q E s := by
  obtain ⟨c, tl, hmro⟩ := PySem.F.called_set.mro
  have hmade := PySem.F.called_set.made
  have hsub := PySem.F.called_set.sub
  refine wpAny_call (codeAny_of_tree ?_)
  show wpAny _ _ (callAny (.type "set") _) _ _ _
  refine wpAny_pure ⟨Code.quiet_builtin _ (by decide +kernel), codeAny_builtin PySem.F.entry_type_call ?_⟩
  rw [Around.under_plain (weight_type_call_type "set" [.ref l] []) rfl]
  have h1 := PySem.F.called_set.notType
  have h2 := PySem.F.called_set.canCreate
  have hct := PySem.F.typeCall_set_1 (.ref l)
  repeat (any_goals (first | assumption | wp_step))
  refine codeAny_mono (code_set_new_1 (.ref l) (E := E) (Q₁ := fun obj s₁ => ∃ led : Bool, obj = .ref s.heap.objs.size ∧ s₁ = { s with heap := s.heap.push { cls := .type "set", dict := none, data := .set #[] 0 (.fresh 0 0 led) } }) fun led => ⟨led, rfl, rfl⟩) fun r s₁ hr => ?_
  cases r with
  | error e => exact hr
  | ok fl =>
    cases fl with
    | ret obj =>
      obtain ⟨led, rfl, rfl⟩ := hr
      let oS : Obj := { cls := .type "set", dict := none, data := .set #[] 0 (.fresh 0 0 led) }
      have hS : (s.heap.push oS).get? s.heap.objs.size = some oS := Heap.get?_push_size _ rfl
      have hT : Shared.TypeIs { s with heap := s.heap.push oS } (.ref s.heap.objs.size) "set" := ⟨_, hS, rfl⟩
      have hli := PySem.F.called_set.init.lookup
      have hbi := PySem.F.called_set.init.bind (.ref s.heap.objs.size)
      repeat (any_goals (first | assumption | wp_step))
      refine codeAny_mono (codeAny_call_builtin (R := wants (fun r s₂ => r = .none ∧ ∃ h' tk, s₂ = { s with heap := h', toks := tk } ∧ h'.SetOf (PySem.strKind prog w) s.heap.objs.size (fun k' => xs.any (· == k')) (nubS xs).length ∧
          (∀ b o, b < s.heap.objs.size → s.heap.get? b = some o → h'.get? b = some o)) E) PySem.F.called_set.init.plain PySem.F.entry_set_init (check_set_init_1 hT ?_)) fun r₂ s₂ hr₂ => ?_
      · obtain ⟨⟨ocls, odict, odata, oslots⟩, hol, hcl, nl, hdl⟩ := hl
        simp only at hcl hdl
        subst hcl hdl
        have hol' : (s.heap.push oS).get? l = some { cls := .type "tuple", dict := odict, data := .seq items nl, slots := oslots } := Heap.get?_push_of_some _ hol
        have hsls := PySem.F.sub_tuple_set
        have hslf := PySem.F.sub_tuple_frozenset
        have hne : (Value.type "tuple" == Value.type "dict") = false := by decide
        have hl1 : (s.heap.push oS).IsTuple l items := ⟨_, hol', rfl, nl, rfl⟩
        unfold Builtin.«set.__init__» noKeywords Builtin.Frozenset.updateFrom
        generalize hPI : pyIter = PI
        wp_walk
        subst hPI
        refine wpAny_pyIter_tuple hl1 (wpAny_bind (wpAny_runValue ?_))
        have hlS : l < s.heap.objs.size := Heap.lt_size hol
        have hh3 : A.in1.in1.in1.handled = none := by simp [hh]
        have hps : (s.heap.push oS).objs.size = s.heap.objs.size + 1 := Heap.size_push _ _
        have hneI : l ≠ (s.heap.push oS).objs.size := by rw [hps]; exact Nat.ne_of_lt (Nat.lt_succ_of_lt hlS)
        have hSf : s.heap.objs.size ∉ [(s.heap.push oS).objs.size, l] := by
          rw [hps]
          simp only [List.mem_cons, List.mem_singleton, List.not_mem_nil, or_false, not_or]
          exact ⟨Nat.ne_of_lt (Nat.lt_succ_self _), Nat.ne_of_gt hlS⟩
        have hsz : xs.length = items.size := by rw [← StrsAre.len_eq hi, Array.length_toList]
        have hval : ∀ (i : Nat) (v : Value), items[i]? = some v → ∃ t, v = .str (xs.getD i Str.empty) t := fun i v hv => SS.strs_at hi i v (by rw [Array.getElem?_toList]; exact hv)
        refine loop_strs ((Walks.tuple hh3 _ l hneI items).toS) s.heap.objs.size hSf xs hsz (by rw [← hsz]; exact hn1) hval (items.size - 0) 0 _ (by omega) (Nat.zero_le _) ⟨⟨_, Heap.get?_push_size _ rfl, rfl, rfl⟩, (hl1.push _)⟩ ?hS0 ?hR
        case hS0 =>
          have hget : ((s.heap.push oS).push { cls := .type "tuple_iterator", data := .fields #[.ref l, .int 0 0] }).get? s.heap.objs.size = some oS := Heap.get?_push_of_some _ hS
          exact PyProof.Rows.SetOf_congr ((PyProof.Rows.setObjOf_fresh (knd := PySem.strKind prog w) led).setOf hget (by unfold scanBound; omega)) (fun _ => rfl) rfl
        case hR =>
          intro s' hm hS'
          obtain ⟨h', g', d', tk', os'⟩ := s'
          have eg : g' = s.gens := hm.gens
          have ed : d' = s.drawn := hm.drawn
          have eo : os' = s.os := hm.os
          subst eg ed eo
          show wpAny _ _ _ _ _ _
          refine wpAny_pure ?_
          show wpAny _ _ (ret Value.none) _ _ _
          refine wpAny_pure ⟨rfl, h', tk', rfl, hS', fun b o hb e => ?_⟩
          have hb1 : b ≠ s.heap.objs.size := Nat.ne_of_lt hb
          have hb2 : b ≠ (s.heap.push oS).objs.size := by rw [hps]; exact Nat.ne_of_lt (Nat.lt_succ_of_lt hb)
          exact hm.heap b o (by simp only [List.mem_cons, List.mem_singleton, List.not_mem_nil, or_false, not_or]; exact ⟨hb1, hb2⟩) (Heap.get?_push_of_some _ (Heap.get?_push_of_some _ e))
      · cases r₂ with
        | error e => exact hr₂
        | ok fl₂ =>
          cases fl₂ with
          | ret r =>
            obtain ⟨rfl, h', tk, rfl, hS', hk'⟩ := hr₂
            repeat (any_goals (first | assumption | wp_step))
            exact h _ _ hS' hk'
          | _ => exact hr₂.elim
    | _ => exact hr.elim

theorem set_list {l : Addr} {items : Array Value} {xs : List Str} {Q : Value → Shared → Prop} (hh : A.handled = none) (hl : s.heap.IsList l items) (hi : StrsAre items.toList xs) (hn1 : xs.length + 1 < scanBound)
    (h : ∀ (h' : Heap) (tk : Nat), h'.SetOf (PySem.strKind prog w) s.heap.objs.size (fun k' => xs.any (· == k')) (nubS xs).length → (∀ b o, b < s.heap.objs.size → s.heap.get? b = some o → h'.get? b = some o) → Q (.ref s.heap.objs.size) { s with heap := h', toks := tk }) :
    wpAny (model prog w) A (call (.type "set") [.ref l]) Q E s := by
  obtain ⟨c, tl, hmro⟩ := PySem.F.called_set.mro
  have hmade := PySem.F.called_set.made
  have hsub := PySem.F.called_set.sub
  refine wpAny_call (codeAny_of_tree ?_)
  show wpAny _ _ (callAny (.type "set") _) _ _ _
  refine wpAny_pure ⟨Code.quiet_builtin _ (by decide +kernel), codeAny_builtin PySem.F.entry_type_call ?_⟩
  rw [Around.under_plain (weight_type_call_type "set" [.ref l] []) rfl]
  have h1 := PySem.F.called_set.notType
  have h2 := PySem.F.called_set.canCreate
  have hct := PySem.F.typeCall_set_1 (.ref l)
  repeat (any_goals (first | assumption | wp_step))
  refine codeAny_mono (code_set_new_1 (.ref l) (E := E) (Q₁ := fun obj s₁ => ∃ led : Bool, obj = .ref s.heap.objs.size ∧ s₁ = { s with heap := s.heap.push { cls := .type "set", dict := none, data := .set #[] 0 (.fresh 0 0 led) } }) fun led => ⟨led, rfl, rfl⟩) fun r s₁ hr => ?_
  cases r with
  | error e => exact hr
  | ok fl =>
    cases fl with
    | ret obj =>
      obtain ⟨led, rfl, rfl⟩ := hr
      let oS : Obj := { cls := .type "set", dict := none, data := .set #[] 0 (.fresh 0 0 led) }
      have hS : (s.heap.push oS).get? s.heap.objs.size = some oS := Heap.get?_push_size _ rfl
      have hT : Shared.TypeIs { s with heap := s.heap.push oS } (.ref s.heap.objs.size) "set" := ⟨_, hS, rfl⟩
      have hli := PySem.F.called_set.init.lookup
      have hbi := PySem.F.called_set.init.bind (.ref s.heap.objs.size)
      repeat (any_goals (first | assumption | wp_step))
      refine codeAny_mono (codeAny_call_builtin (R := wants (fun r s₂ => r = .none ∧ ∃ h' tk, s₂ = { s with heap := h', toks := tk } ∧ h'.SetOf (PySem.strKind prog w) s.heap.objs.size (fun k' => xs.any (· == k')) (nubS xs).length ∧
          (∀ b o, b < s.heap.objs.size → s.heap.get? b = some o → h'.get? b = some o)) E) PySem.F.called_set.init.plain PySem.F.entry_set_init (check_set_init_1 hT ?_)) fun r₂ s₂ hr₂ => ?_
      · obtain ⟨⟨ocls, odict, odata, oslots⟩, hol, hcl, nl, hdl⟩ := hl
        simp only at hcl hdl
        subst hcl hdl
        have hol' : (s.heap.push oS).get? l = some { cls := .type "list", dict := odict, data := .seq items nl, slots := oslots } := Heap.get?_push_of_some _ hol
        have hsls := PySem.F.sub_list_set
        have hslf := PySem.F.sub_list_frozenset
        have hne : (Value.type "list" == Value.type "dict") = false := by decide
        have hl1 : (s.heap.push oS).IsList l items := ⟨_, hol', rfl, nl, rfl⟩
        unfold Builtin.«set.__init__» noKeywords Builtin.Frozenset.updateFrom
        generalize hPI : pyIter = PI
        wp_walk
        subst hPI
        refine wpAny_pyIter_list hl1 (wpAny_bind (wpAny_runValue ?_))
        have hlS : l < s.heap.objs.size := Heap.lt_size hol
        have hh3 : A.in1.in1.in1.handled = none := by simp [hh]
        have hps : (s.heap.push oS).objs.size = s.heap.objs.size + 1 := Heap.size_push _ _
        have hneI : l ≠ (s.heap.push oS).objs.size := by rw [hps]; exact Nat.ne_of_lt (Nat.lt_succ_of_lt hlS)
        have hSf : s.heap.objs.size ∉ [(s.heap.push oS).objs.size, l] := by
          rw [hps]
          simp only [List.mem_cons, List.mem_singleton, List.not_mem_nil, or_false, not_or]
          exact ⟨Nat.ne_of_lt (Nat.lt_succ_self _), Nat.ne_of_gt hlS⟩
        have hsz : xs.length = items.size := by rw [← StrsAre.len_eq hi, Array.length_toList]
        have hval : ∀ (i : Nat) (v : Value), items[i]? = some v → ∃ t, v = .str (xs.getD i Str.empty) t := fun i v hv => SS.strs_at hi i v (by rw [Array.getElem?_toList]; exact hv)
        refine loop_strs ((Walks.list hh3 _ l hneI items).toS) s.heap.objs.size hSf xs hsz (by rw [← hsz]; exact hn1) hval (items.size - 0) 0 _ (by omega) (Nat.zero_le _) ⟨⟨_, Heap.get?_push_size _ rfl, rfl, rfl⟩, (hl1.push _)⟩ ?hS0 ?hR
        case hS0 =>
          have hget : ((s.heap.push oS).push { cls := .type "list_iterator", data := .fields #[.ref l, .int 0 0] }).get? s.heap.objs.size = some oS := Heap.get?_push_of_some _ hS
          exact PyProof.Rows.SetOf_congr ((PyProof.Rows.setObjOf_fresh (knd := PySem.strKind prog w) led).setOf hget (by unfold scanBound; omega)) (fun _ => rfl) rfl
        case hR =>
          intro s' hm hS'
          obtain ⟨h', g', d', tk', os'⟩ := s'
          have eg : g' = s.gens := hm.gens
          have ed : d' = s.drawn := hm.drawn
          have eo : os' = s.os := hm.os
          subst eg ed eo
          show wpAny _ _ _ _ _ _
          refine wpAny_pure ?_
          show wpAny _ _ (ret Value.none) _ _ _
          refine wpAny_pure ⟨rfl, h', tk', rfl, hS', fun b o hb e => ?_⟩
          have hb1 : b ≠ s.heap.objs.size := Nat.ne_of_lt hb
          have hb2 : b ≠ (s.heap.push oS).objs.size := by rw [hps]; exact Nat.ne_of_lt (Nat.lt_succ_of_lt hb)
          exact hm.heap b o (by simp only [List.mem_cons, List.mem_singleton, List.not_mem_nil, or_false, not_or]; exact ⟨hb1, hb2⟩) (Heap.get?_push_of_some _ (Heap.get?_push_of_some _ e))
      · cases r₂ with
        | error e => exact hr₂
        | ok fl₂ =>
          cases fl₂ with
          | ret r =>
            obtain ⟨rfl, h', tk, rfl, hS', hk'⟩ := hr₂
            repeat (any_goals (first | assumption | wp_step))
            exact h _ _ hS' hk'
          | _ => exact hr₂.elim
    | _ => exact hr.elim
end
end Low
end
section
set_option Elab.async false
set_option linter.all false
set_option maxRecDepth 100000
set_option maxHeartbeats 2000000
namespace Low
open PySem PySem.Spec PyProof.Rows L2
section
variable {X : Cx}
/-- a power -/
def CPw (i j : Int) : Prop := 0 ≤ j ∧ (Builtin.Int.intBits i : Int) * j ≤ 2 ^ 27
theorem op_powW : OpR X (binaryOp .Pow) (rI CPw fun i j => .int (i ^ j.toNat)) := opI fun _ _ _ _ _ _ _ hc q => pow_int hc.1 hc.2 q
/-- list(text) -/
def rListStr : List V → Hp → VK → Prop := fun xs H Q => ∃ z : Str, xs = [.str z] ∧ z.length ≤ sizeLine ∧ ∀ l, H l = none → Q (.ref l) (upd H l (.lst (z.cps.toList.map fun c => .str ⟨#[c]⟩)))
theorem signs_vals {z : Str} {acc : Array Value} (h : ItemsOf (SignAt z) acc z.cps.size) : Vals (z.cps.toList.map fun c => V.str ⟨#[c]⟩) acc.toList := by
  have key : ∀ (cs : List Nat) (us : List Value), us.length = cs.length → (∀ (j : Nat) (v : Value), us[j]? = some v → ∃ c u, cs[j]? = some c ∧ v = Value.str ⟨#[c]⟩ u) → Vals (cs.map fun c => V.str ⟨#[c]⟩) us := by
    intro cs
    induction cs with
    | nil => intro us hl _; cases us with
      | nil => exact .nil
      | cons _ _ => simp at hl
    | cons c r ih => intro us hl hv; cases us with
      | nil => simp at hl
      | cons u us =>
        obtain ⟨d, t, e1, e2⟩ := hv 0 u rfl
        cases e1
        exact .cons ⟨t, e2⟩ (ih us (by simpa using hl) fun j v e => by simpa using hv (j + 1) v (by simpa using e))
  refine key _ _ (by simp [h.1]) fun j v e => ?_
  obtain ⟨c, u, e1, e2⟩ := h.2 j v (by rw [← Array.getElem?_toList]; exact e)
  exact ⟨c, u, by rw [Array.getElem?_toList]; exact e1, e2⟩
theorem call_list_txt (hc : X.calm = true) : CallR X (.type "list") rListStr := by
  intro pins s σ H xs us Q I r h
  obtain ⟨z, rfl, hz, q⟩ := h
  obtain ⟨u, rfl, t, rfl⟩ := vals1 r
  refine list_str (I.ok.hd hc) hz fun h' tk acc c' kp e hi => ?_
  have hv := signs_vals hi
  exact ⟨.ref s.heap.objs.size, _, I.laid (t' := tk) kp (Nat.le_refl _) (show ObjOk X.prog X.w _ h' _ (.lst _) from ⟨by rw [List.length_map, Array.length_toList]; exact hz, acc.toList, c', hv, by simpa using e⟩), rfl, q _ (I.hok.fresh (Nat.le_refl _))⟩
/-- sorted(t), t a tuple of texts -/
def rSortedT (K : PySem.W.Frag) : List V → Hp → VK → Prop := fun vs H Q => ∃ (a : Addr) (xs : List Str), vs = [V.ref a] ∧ SqT K H a (xs.map V.str) ∧ xs.length < 64 ∧
  ∀ (ys : List Str) (p : Addr), ys.Perm xs → sortedS ys = true → H p = none → Q (.ref p) (upd H p (.lst (ys.map V.str)))
theorem cr_sortedT : CallR X (.builtin "sorted") (rSortedT X.K) := by
  intro pins s σ H vs us Q I r h
  obtain ⟨a, xs, rfl, hs, h64, q⟩ := h
  obtain ⟨its, rv, ⟨ot, hot, hct, nt, hdt⟩, hz⟩ := I.tuple hs
  rw [Vals.ref1 r]
  have hS := rv.strs
  have hl : its.length = xs.length := by
    have z := rv.length
    rw [List.length_map] at z
    exact z.symm
  refine Calls.call_function_entry kind_sorted plain_sorted entry_sorted (args_sorted1 _) ?_
  unfold Builtin.«sorted»
  refine wpAny_bind (m := checkCount "sorted" 1 1 _) (wpAny_pure ?_)
  refine wpAny_bind (wpAny_collect_seq a (.inr rfl) hot hct hdt (fun h' kp => ?_) (by rw [List.size_toArray, hl, sizeLine_eq]; omega))
  have I1 : L2.Inv X pins σ H { s with heap := h' } := I.kept (t' := s.toks) kp
  refine wpAny_bind (wpAny_newList ?_ (by simp only [hl, sizeLine_eq]; omega))
  have hoL : (h'.push (seqObj "list" its.toArray 0)).get? h'.objs.size = some (seqObj "list" its.toArray 0) := Heap.get?_push_size _ rfl
  show wpAny _ _ _ _ _ { s with heap := h'.push (seqObj "list" its.toArray 0) }
  refine wpAny_bind (wpAny_holding (wpAny_call_entry slot_list_sort ⟨_, hoL, rfl⟩ entry_list_sort
    (list_sort_treeK strKind_oneLt (s := { s with heap := h'.push (seqObj "list" its.toArray 0) }) hoL hS.keysOf (fun v₁ v₂ rest e => keyKind_strs (by rw [← e]; exact hS)) (by rw [hl]; exact h64) fun st' hp hs => ⟨_, rfl, ?_⟩) (args_list_sort _)))
  obtain ⟨ys, g1, g2, g3⟩ := sorted_out_str hS hp hs
  obtain ⟨e', he'⟩ := sortedHeap_at (vs := its) (out := (arrOf st').map (·.2)) hoL
  have hlen : (ys.map V.str).length ≤ sizeLine := by
    rw [List.length_map, g2.length_eq, sizeLine_eq]
    omega
  refine wpAny_pure ⟨_, rfl, .ref h'.objs.size, upd H h'.objs.size (.lst (ys.map V.str)), I1.laid (t' := s.toks) (fun b u e => ?_) (Nat.le_refl _)
    (show ObjOk X.prog X.w _ _ _ (.lst (ys.map V.str)) from ⟨hlen, ((arrOf st').map (·.2)).toList, e', vals_of_strs g1, by rw [Array.toArray_toList]; exact he'⟩), rfl, q ys _ g2 g3 (I1.hok.fresh (Nat.le_refl _))⟩
  have hb : b < h'.objs.size := Heap.lt_size e
  rw [sortedHeap_old (Nat.ne_of_lt hb) (by rw [size_push']; exact Nat.lt_succ_of_lt hb)]
  exact Heap.get?_push_of_some _ e
/-- len(set(xs)), xs a list or tuple of texts -/
def tLenSet (K : PySem.W.Frag) (ta : TE) : TE := fun σ H Q => ta σ H fun x H1 => ∃ (l : Addr) (xs : List Str), x = .ref l ∧ (SqL K H1 l (xs.map V.str) ∨ SqT K H1 l (xs.map V.str)) ∧ xs.length ≤ 1000 ∧ Q (.int ((nubS xs).length : Int)) H1
theorem pe_lenSet {a : Expr} {ta : TE} {p p2 q pos : Pos} (hc : X.calm = true) (hg : Gl X "len") (hm : X.mg "len" = none) (hg2 : Gl X "set") (hm2 : X.mg "set" = none) (ha : PE X a ta)
    (na : starEach [a] X.env = (false, eval a X.env) :: starEach [] X.env := by rfl) : PE X (.Call (.Name "len" p) [.Call (.Name "set" p2) [a] [] q] [] pos) (tLenSet X.K ta) := by
  refine ⟨fun pins s σ H Q I h => ?_⟩
  refine Call_ (ld_blt I hg hm boot_len (PyProof.Rows.callWith_builtin1 (PyProof.Rows.args_cons ?_ rfl) rfl rfl))
  refine Call_ (ld_blt I hg2 hm2 boot_set (PyProof.Rows.callWith_type1 (PyProof.Rows.args_cons (thn (ha.run pins s σ H _ I h) fun v s1 ⟨x, H1, I1, r1, q1⟩ => PyProof.Rows.args_nil ?_) na) na rfl))
  obtain ⟨l, xs, rfl, hq, h1, q1⟩ := q1
  cases r1
  have hnb := nubS_le xs
  have hsb : xs.length + 1 < scanBound := by unfold scanBound; omega
  have fin : ∀ (h' : Heap) (tk : Nat), h'.SetOf (PySem.strKind X.prog X.w) s1.heap.objs.size (fun k' => xs.any (· == k')) (nubS xs).length → (∀ b o, b < s1.heap.objs.size → s1.heap.get? b = some o → h'.get? b = some o) →
      wpAny (model X.prog X.w) X.A (spliced (backTo pos (starEach [] X.env))) (fun vs s₂ => wpAny (model X.prog X.w) X.A (call (.builtin "len") (Value.ref s1.heap.objs.size :: vs)) (EP X pins σ Q) X.xe s₂) X.xe { s1 with heap := h', toks := tk } := fun h' tk hS hk => by
    refine PyProof.Rows.args_nil ?_
    obtain ⟨o, es, ep, t, ho, hex, hd, _, _, _, hf, hn⟩ := hS
    have I2 : L2.Inv X pins σ H1 { s1 with heap := h', toks := tk } := I1.kept fun b o e => hk b o (Heap.lt_size e) e
    refine call_len_set ho hex hd hf (by rw [hn]; omega) ⟨.int ((nubS xs).length : Int), H1, I2.tok _, ⟨_, by rw [hn]⟩, q1⟩
  rcases hq with hq | hq
  · obtain ⟨its, r, pl, hz⟩ := I1.list hq
    exact set_list (I1.ok.hd hc) pl.isList (by simpa using L2.strsAre_of r) hsb fun h' tk hS hk => fin h' tk hS hk
  · obtain ⟨its, r, pl, hz⟩ := I1.tuple hq
    exact set_tuple (I1.ok.hd hc) pl (by simpa using L2.strsAre_of r) hsb fun h' tk hS hk => fin h' tk hS hk
/-- a tuple that is known to have no dict of its own -/
def TupN (K : PySem.W.Frag) (H : Hp) (a : Addr) (xs : List V) : Prop := (∃ o : Obj, o.dict = none ∧ H a = some (.frz o (.tup xs))) ∨
  ∃ (o : Obj) (its : Array Value) (n : Nat), K.lookup a = some o ∧ o.cls = .type "tuple" ∧ o.dict = none ∧ o.data = .seq its n ∧ its.size ≤ sizeLine ∧ Vals xs its.toList
/-- xs.index(y), texts -/
def rIdx (K : PySem.W.Frag) : V → List V → Hp → VK → Prop := fun x vs H Q => ∃ (p : Addr) (ys : List Str) (z : Str), x = .ref p ∧ vs = [.str z] ∧ SqT K H p (ys.map V.str) ∧ z ∈ ys ∧ Q (.int (ys.idxOf z : Nat)) H
def tIdxT (K : PySem.W.Frag) (to : TE) (t : TA) : TE := fun σ H Q => to σ H fun x H1 => (∃ a xs, x = .ref a ∧ TupN K H1 a xs) ∧ t σ H1 fun vs H2 => rIdx K x vs H2 Q
theorem pe_idxT {o e : Expr} {es : List Expr} {to : TE} {t : TA} {apos cpos : Pos} (ho : PE X o to) (ha : PA X (e :: es) t)
    (hbase : attributeBase o "index" X.env (eval o X.env) = eval o X.env := by rfl)
    (hfew : ((backTo cpos (starEach (e :: es) X.env)).all (fun x => !x.1) && (backToKw cpos (keywordEach [] X.env)).all (fun x => x.1.isSome) && decide ((e :: es).length + ([] : List Keyword).length + (if ([] : List Keyword).isEmpty then 0 else 1) < 30)) = true := by rfl)
    (hline : (apos.endLine == cpos.line) = true := by rfl) (hs : starEach (e :: es) X.env = (false, eval e X.env) :: starEach es X.env := by rfl) (hplain : (backTo cpos (starEach es X.env)).any (·.1) = false := by rfl) :
    PE X (.Call (.Attribute o "index" apos) (e :: es) [] cpos) (tIdxT X.K to t) := by
  refine ⟨fun pins s σ H Q I h => ?_⟩
  refine wpAny_Call_method_late hbase hfew hline rfl (thn (ho.run pins s σ H _ I h) fun v s1 ⟨x, H1, I1, r1, ty, q1⟩ => ?_)
  obtain ⟨a, xs, rfl, ty⟩ := ty
  cases r1
  have h1 : s1.TypeIs (.ref a) "tuple" ∧ ∃ ob, s1.heap.get? a = some ob ∧ ob.dict = none := by
    rcases ty with ⟨ob, hd, e⟩ | ⟨ob, its, n, hk, hc, hd, _⟩
    · obtain ⟨e1, _, its, _, o2, e2, hc, _⟩ := (show ObjOk X.prog X.w H1 s1.heap a (.frz ob (.tup xs)) from I1.hok a _ e)
      rw [e1] at e2
      cases e2
      exact ⟨⟨_, e1, hc⟩, _, e1, hd⟩
    · have e1 := I1.kIn a ob hk
      exact ⟨⟨_, e1, hc⟩, _, e1, hd⟩
  refine ⟨"tuple", _, PySem.F.plainAttrs_tuple, PySem.F.slot_tuple_index, PySem.F.type_tuple_index, h1.1, fun b eb => by cases eb; exact h1.2, ?_⟩
  have hA := ha.run cpos pins s1 σ H1 _ I1 q1
  rw [hs] at hA ⊢
  refine Calls.callWith_builtin (by show (false || (backTo cpos (starEach es X.env)).any (·.1)) = false; rw [hplain]; rfl) (Calls.evalArgs_plain ?_)
  refine thn hA fun us s2 ⟨vs, H2, I2, r2, q2⟩ => ?_
  obtain ⟨p, ys, z, e1, rfl, hq, hz, q⟩ := q2
  cases e1
  obtain ⟨u, rfl, t, rfl⟩ := vals1 r2
  obtain ⟨its, rv, tp, _⟩ := I2.tuple hq
  exact SeqAt.tuple_index_strs tp rv.strs hz ⟨.int (ys.idxOf z : Nat), H2, I2.tok _, ⟨_, rfl⟩, q⟩
end
end Low
end
section
set_option Elab.async false
set_option linter.all false
set_option maxRecDepth 100000
set_option maxHeartbeats 1000000
open PySem PySem.Spec PyProof.Rows L2
namespace Sim

abbrev F1 := Stt → List W → Option W
def FnS (K : PySem.W.Frag) (r : List V → Hp → VK → Prop) (f : F1) : Prop := ∀ (G : Gm) (H : Hp) (ws : List W) (vs : List V) (w : W) (Q : VK), World K G H → RepL K G H ws vs → f G.st ws = some w → PostV K G H w Q → r vs H Q
def eFn (f : F1) (as : AM) : EM := fun ρ st => (as ρ st).bind fun ws st1 => match f st1 ws with
  | some w => .ok w st1
  | none => .no
/-- what gives a new list: its items -/
abbrev FL := Stt → List W → Option (List W)
def FnN (K : PySem.W.Frag) (r : List V → Hp → VK → Prop) (f : FL) : Prop := ∀ (G : Gm) (H : Hp) (ws : List W) (vs : List V) (us : List W) (Q : VK), World K G H → RepL K G H ws vs → f G.st ws = some us →
  (∀ (p : Addr) (zs : List V), H p = none → RepL K G H us zs → Q (.ref p) (upd H p (.lst zs))) → r vs H Q
def eFnV (f : FL) (as : AM) : EM := fun ρ st => (as ρ st).bind fun ws st1 => match f st1 ws with
  | some us => .ok (.lst us) st1
  | none => .no
def eFnO (f : FL) (as : AM) : EM := fun ρ st => (as ρ st).bind fun ws st1 => match f st1 ws with
  | some us => .ok (.loc st1.length) (st1 ++ [some (.lst us)])
  | none => .no
section
variable {X : Cx} {Wx : WX} {K : PySem.W.Frag} {G : Gm} {H : Hp}
theorem sem_fn {ta : TA} {as : AM} {r : List V → Hp → VK → Prop} {f : F1} (ha : SemA K Wx ta as) (hf : FnS K r f) : SemE K Wx (tCB r ta) (eFn f as) := fun G H ρ σ Q w rr h => by
  refine ha G H ρ σ _ w rr (PostR.bind h fun ws st1 ls1 H1 vs he e1 w1 rv h1 => ?_)
  cases e : f st1 ws with
  | none => rw [e] at h1; exact h1.elim
  | some z => rw [e] at h1; exact hf (G.to ls1 st1) H1 ws vs z Q w1 rv e (PostV.of h1)
theorem sem_fnV {ta : TA} {as : AM} {r : List V → Hp → VK → Prop} {f : FL} (ha : SemA K Wx ta as) (hf : FnN K r f) : SemE K Wx (tCB r ta) (eFnV f as) := fun G H ρ σ Q w rr h => by
  refine ha G H ρ σ _ w rr (PostR.bind h fun ws st1 ls1 H1 vs he e1 w1 rv h1 => ?_)
  cases e : f st1 ws with
  | none => rw [e] at h1; exact h1.elim
  | some us => rw [e] at h1; exact hf (G.to ls1 st1) H1 ws vs us Q w1 rv e fun p zs hp rl => PostV.newL w1 (PostV.of h1) rl hp
theorem sem_fnO {ta : TA} {as : AM} {r : List V → Hp → VK → Prop} {f : FL} (ha : SemA K Wx ta as) (hf : FnN K r f) : SemE K Wx (tCB r ta) (eFnO f as) := fun G H ρ σ Q w rr h => by
  refine ha G H ρ σ _ w rr (PostR.bind h fun ws st1 ls1 H1 vs he e1 w1 rv h1 => ?_)
  cases e : f st1 ws with
  | none => rw [e] at h1; exact h1.elim
  | some us => rw [e] at h1; exact hf (G.to ls1 st1) H1 ws vs us Q w1 rv e fun p zs hp rl => post_push w1 hp h1 ⟨zs, upd_same, rl.mono (Ext.push w1 _ hp)⟩
section
variable {x : Str} {p pos : Pos} {e : Expr} {es : List Expr} {t : TA} {as : AM} {id T : String} {r : List V → Hp → VK → Prop} {f : F1} {g : FL}
theorem ce_fnB (hc : CallR X (.builtin id) r) (hf : FnS X.K r f) (hg : Gl X x) (hm : X.mg x = none) (hv : bootBuiltins x = some (.builtin id)) (ha : CA X Wx (e :: es) t as) (hn : x ≠ "__name__" := by decide) (hdb : (x == ("__debug__" : Str)) = false := by decide)
    (he : starEach (e :: es) X.env = (false, eval e X.env) :: starEach es X.env := by rfl) (hpl : (backTo pos (starEach es X.env)).any (·.1) = false := by rfl) : CE X Wx (.Call (.Name x p) (e :: es) [] pos) (tCB r t) (eFn f as) := ⟨pe_callB hc hg hm hv ha.pe hn hdb he hpl, sem_fn ha.sem hf⟩
theorem ce_fnT (hc : CallR X (.type T) r) (hf : FnS X.K r f) (hg : Gl X x) (hm : X.mg x = none) (hv : bootBuiltins x = some (.type T)) (ha : CA X Wx (e :: es) t as) (hn : x ≠ "__name__" := by decide) (hdb : (x == ("__debug__" : Str)) = false := by decide)
    (he : starEach (e :: es) X.env = (false, eval e X.env) :: starEach es X.env := by rfl) (hpl : (backTo pos (starEach es X.env)).any (·.1) = false := by rfl) : CE X Wx (.Call (.Name x p) (e :: es) [] pos) (tCB r t) (eFn f as) := ⟨pe_callTy hc hg hm hv ha.pe hn hdb he hpl, sem_fn ha.sem hf⟩
theorem ce_fnBV (hc : CallR X (.builtin id) r) (hf : FnN X.K r g) (hg : Gl X x) (hm : X.mg x = none) (hv : bootBuiltins x = some (.builtin id)) (ha : CA X Wx (e :: es) t as) (hn : x ≠ "__name__" := by decide) (hdb : (x == ("__debug__" : Str)) = false := by decide)
    (he : starEach (e :: es) X.env = (false, eval e X.env) :: starEach es X.env := by rfl) (hpl : (backTo pos (starEach es X.env)).any (·.1) = false := by rfl) : CE X Wx (.Call (.Name x p) (e :: es) [] pos) (tCB r t) (eFnV g as) := ⟨pe_callB hc hg hm hv ha.pe hn hdb he hpl, sem_fnV ha.sem hf⟩
theorem ce_fnBO (hc : CallR X (.builtin id) r) (hf : FnN X.K r g) (hg : Gl X x) (hm : X.mg x = none) (hv : bootBuiltins x = some (.builtin id)) (ha : CA X Wx (e :: es) t as) (hn : x ≠ "__name__" := by decide) (hdb : (x == ("__debug__" : Str)) = false := by decide)
    (he : starEach (e :: es) X.env = (false, eval e X.env) :: starEach es X.env := by rfl) (hpl : (backTo pos (starEach es X.env)).any (·.1) = false := by rfl) : CE X Wx (.Call (.Name x p) (e :: es) [] pos) (tCB r t) (eFnO g as) := ⟨pe_callB hc hg hm hv ha.pe hn hdb he hpl, sem_fnO ha.sem hf⟩
theorem ce_fnTV (hc : CallR X (.type T) r) (hf : FnN X.K r g) (hg : Gl X x) (hm : X.mg x = none) (hv : bootBuiltins x = some (.type T)) (ha : CA X Wx (e :: es) t as) (hn : x ≠ "__name__" := by decide) (hdb : (x == ("__debug__" : Str)) = false := by decide)
    (he : starEach (e :: es) X.env = (false, eval e X.env) :: starEach es X.env := by rfl) (hpl : (backTo pos (starEach es X.env)).any (·.1) = false := by rfl) : CE X Wx (.Call (.Name x p) (e :: es) [] pos) (tCB r t) (eFnV g as) := ⟨pe_callTy hc hg hm hv ha.pe hn hdb he hpl, sem_fnV ha.sem hf⟩
theorem ce_fnTO (hc : CallR X (.type T) r) (hf : FnN X.K r g) (hg : Gl X x) (hm : X.mg x = none) (hv : bootBuiltins x = some (.type T)) (ha : CA X Wx (e :: es) t as) (hn : x ≠ "__name__" := by decide) (hdb : (x == ("__debug__" : Str)) = false := by decide)
    (he : starEach (e :: es) X.env = (false, eval e X.env) :: starEach es X.env := by rfl) (hpl : (backTo pos (starEach es X.env)).any (·.1) = false := by rfl) : CE X Wx (.Call (.Name x p) (e :: es) [] pos) (tCB r t) (eFnO g as) := ⟨pe_callTy hc hg hm hv ha.pe hn hdb he hpl, sem_fnO ha.sem hf⟩
end
/-- a built-in type's name -/
theorem ce_ty {x : Str} {pos : Pos} {n : String} (hg : Gl X x) (hm : X.mg x = none) (hv : bootBuiltins x = some (.type n)) (hn : x ≠ "__name__" := by decide) (hd : (x == ("__debug__" : Str)) = false := by decide) : CE X Wx (.Name x pos) (tC (.ty n)) (eC (.ty n)) :=
  ⟨pe_bltn (v := .ty n) hg hm hv rfl hn hd, sem_c fun _ _ => .ty n⟩

/-! ints -/
def fI (g : Int → Int → W) : F2 := fun _ x y => match x, y with
  | .int i, .int j => some (g i j)
  | _, _ => none
def fIc (c : Int → Int → Bool) (g : Int → Int → W) : F2 := fun _ x y => match x, y with
  | .int i, .int j => if c i j = true then some (g i j) else none
  | _, _ => none
theorem fI_some {g : Int → Int → W} {st : Stt} {x y w : W} (h : fI g st x y = some w) : ∃ i j, x = .int i ∧ y = .int j ∧ w = g i j := by
  unfold fI at h
  split at h
  · cases h; exact ⟨_, _, rfl, rfl, rfl⟩
  · cases h
theorem fIc_some {c : Int → Int → Bool} {g : Int → Int → W} {st : Stt} {x y w : W} (h : fIc c g st x y = some w) : ∃ i j, x = .int i ∧ y = .int j ∧ c i j = true ∧ w = g i j := by
  unfold fIc at h
  split at h
  · split at h
    · cases h; exact ⟨_, _, rfl, rfl, by assumption, rfl⟩
    · cases h
  · cases h
theorem os_int {g : Int → Int → V} {g' : Int → Int → W} (hr : ∀ (G : Gm) (H : Hp) i j, RepV K G H (g' i j) (g i j)) : OpS K (rI0 g) (fI g') := fun G H x y v u w Q wo rx ry e q => by
  obtain ⟨i, j, rfl, rfl, rfl⟩ := fI_some e
  cases rx.int_inv; cases ry.int_inv
  exact ⟨i, j, rfl, rfl, PostV.val wo q (hr G H i j)⟩
theorem os_intC {C : Int → Int → Prop} {c : Int → Int → Bool} {g : Int → Int → V} {g' : Int → Int → W} (hc : ∀ i j, c i j = true → C i j) (hr : ∀ (G : Gm) (H : Hp) i j, RepV K G H (g' i j) (g i j)) : OpS K (rI C g) (fIc c g') := fun G H x y v u w Q wo rx ry e q => by
  obtain ⟨i, j, rfl, rfl, h, rfl⟩ := fIc_some e
  cases rx.int_inv; cases ry.int_inv
  exact ⟨i, j, rfl, rfl, hc i j h, PostV.val wo q (hr G H i j)⟩
theorem OpS.or {r r' : R2} {f f' : F2} (h : OpS K r f) (h' : OpS K r' f') : OpS K (fun x y H Q => r x y H Q ∨ r' x y H Q) (fun st x y => match f st x y with | some w => some w | none => f' st x y) := fun G H x y v u w Q wo rx ry e q => by
  dsimp only at e
  cases e1 : f G.st x y with
  | some z => rw [e1] at e; cases e; exact .inl (h G H x y v u w Q wo rx ry e1 q)
  | none => rw [e1] at e; exact .inr (h' G H x y v u w Q wo rx ry e q)
def fSub : F2 := fI fun i j => .int (i - j)
def fLt : F2 := fI fun i j => .bl (decide (i < j))
def fLe : F2 := fI fun i j => .bl (decide (i ≤ j))
def fGt : F2 := fI fun i j => .bl (decide (j < i))
def fGe : F2 := fI fun i j => .bl (decide (j ≤ i))
theorem os_sub : OpS K (rI0 fun i j => .int (i - j)) fSub := os_int fun _ _ _ _ => .int _
theorem os_lt : OpS K (rI0 fun i j => .bl (decide (i < j))) fLt := os_int fun _ _ _ _ => .bl _
theorem os_le : OpS K (rI0 fun i j => .bl (decide (i ≤ j))) fLe := os_int fun _ _ _ _ => .bl _
theorem os_gt : OpS K (rI0 fun i j => .bl (decide (j < i))) fGt := os_int fun _ _ _ _ => .bl _
theorem os_ge : OpS K (rI0 fun i j => .bl (decide (j ≤ i))) fGe := os_int fun _ _ _ _ => .bl _
def fMod : F2 := fIc (fun _ j => decide (0 < j)) fun i j => .int (i % j)
theorem os_mod : OpS K (rI (fun _ j => 0 < j) fun i j => .int (i % j)) fMod := os_intC (fun _ _ h => of_decide_eq_true h) fun _ _ _ _ => .int _
def fDiv : F2 := fIc (fun _ j => decide (0 < j ∧ j < 2 ^ 62)) fun i j => .int (i / j)
theorem os_div : OpS K (rI CDivW fun i j => .int (i / j)) fDiv := os_intC (fun i j h => by
  obtain ⟨h1, h2⟩ := of_decide_eq_true h
  exact wide_div (b := 62) h1 (by omega) (by decide) (by decide)) fun _ _ _ _ => .int _
/-- as many bits as a product may have -/
def mulOk (i j : Int) : Bool := decide ((i.natAbs < 2 ^ 1000 ∧ j.natAbs < 2 ^ 1000))
theorem mulOk_c {i j : Int} (h : mulOk i j = true) : CMulW i j := by
  obtain ⟨h1, h2⟩ := of_decide_eq_true h
  exact wide_mul h1 h2 (by decide) (by decide) (by decide)
def fMulI : F2 := fIc mulOk fun i j => .int (i * j)
theorem os_mulI : OpS K (rI CMulW fun i j => .int (i * j)) fMulI := os_intC (fun _ _ h => mulOk_c h) fun _ _ _ _ => .int _
def powOk (i j : Int) : Bool := decide (i.natAbs < 2 ^ 1000 ∧ 0 ≤ j ∧ j ≤ 1000)
theorem bits_1000 {i : Int} (h : i.natAbs < 2 ^ 1000) : Builtin.Int.intBits i ≤ 1000 := by
  have := PySem.Flt.log2_lt_of (by decide : 0 < 1000) h
  unfold Builtin.Int.intBits
  split <;> omega
def fPow : F2 := fIc powOk fun i j => .int (i ^ j.toNat)
theorem os_pow : OpS K (rI Low.CPw fun i j => .int (i ^ j.toNat)) fPow := os_intC (fun i j h => by
  obtain ⟨h1, h2, h3⟩ := of_decide_eq_true h
  refine ⟨h2, ?_⟩
  have hb : (Builtin.Int.intBits i : Int) ≤ 1000 := by exact_mod_cast bits_1000 h1
  have h0 : (0 : Int) ≤ (Builtin.Int.intBits i : Int) := Int.natCast_nonneg _
  have := Int.mul_le_mul hb h3 h2 (by decide)
  omega) fun _ _ _ _ => .int _

/-! new tuples -/
theorem tupN {K : PySem.W.Frag} {G : Gm} {H : Hp} {v : V} {ws : List W} (r : RepV K G H (.tup ws) v) : ∃ a vs, v = .ref a ∧ Low.TupN K H a vs ∧ RepL K G H ws vs := by
  cases r with
  | tup h rl =>
    refine ⟨_, _, rfl, ?_, rl⟩
    rcases h with ⟨⟨o, hd, hq⟩, _⟩ | h
    · exact .inl ⟨o, hd, hq⟩
    · exact .inr h
def rCatF (K : PySem.W.Frag) : R2 := fun x y H Q => ∃ a b xs ys, x = .ref a ∧ y = .ref b ∧ SqT K H a xs ∧ SqT K H b ys ∧ xs.length + ys.length ≤ sizeLine ∧
  (xs = [] → Q (.ref b) H) ∧ (xs ≠ [] → ys = [] → Q (.ref a) H) ∧ (xs ≠ [] → ys ≠ [] → ∀ (p : Addr) (o : Obj), o.dict = none → H p = none → Q (.ref p) (upd H p (.frz o (.tup (xs ++ ys)))))
theorem op_catF : OpR X (binaryOp .Add) (rCatF X.K) := by
  intro pins s σ H x y v u Q I rx ry h
  obtain ⟨a, b, xs, ys, rfl, rfl, ha, hb, hz, q0, q1, q2⟩ := h
  cases rx
  cases ry
  obtain ⟨its, r1, p1, _⟩ := I.tuple ha
  obtain ⟨its2, r2, p2, _⟩ := I.tuple hb
  by_cases hx : xs = []
  · subst hx
    cases r1
    exact cat_tup0 p1 p2 ⟨.ref b, H, I, rfl, q0 rfl⟩
  · refine HT.cat_tup p1 p2 (fun z => hx (r1.nil_iff.mp z)) (fun z => ⟨.ref a, H, I, rfl, q1 hx (r2.nil_iff.mp z)⟩) (fun z => ?_) (by rw [← r1.length, ← r2.length]; exact hz)
    exact tup_laid (s := s) (h' := s.heap) (tk := s.toks) I (r1.append r2) (by rw [List.length_append]; exact hz) (q2 hx fun w => z (r2.nil_iff.mpr w))
def fCatT : F2 := fun _ x y => match x, y with
  | .tup xs, .tup ys => if xs.length + ys.length ≤ 100000 then some (.tup (xs ++ ys)) else none
  | _, _ => none
theorem RepL.nil_iff {ws : List W} {vs : List V} (h : RepL K G H ws vs) : vs = [] ↔ ws = [] := by cases h <;> simp
theorem os_catT : OpS K (rCatF K) fCatT := fun G H x y v u w Q wo rx ry e q => by
  unfold fCatT at e
  split at e
  · split at e
    · rename_i xs ys hl
      cases e
      obtain ⟨a, vs, rfl, sq, rl⟩ := tup_sq rx
      obtain ⟨b, us, rfl, sq2, rl2⟩ := tup_sq ry
      refine ⟨a, b, vs, us, rfl, rfl, sq, sq2, Nat.le_trans (by rw [← rl.length, ← rl2.length]; exact hl) (by decide), fun z => ?_, fun z1 z => ?_, fun z1 z2 p o hd hp => PostV.newT wo q (rl.app rl2) hd hp⟩
      · have : xs = [] := rl.nil_iff.mp z
        subst this
        exact PostV.val wo q ry
      · have : ys = [] := rl2.nil_iff.mp z
        subst this
        rw [List.append_nil] at q
        exact PostV.val wo q rx
    · cases e
  · cases e
def lstX (st : Stt) : W → Option (List W)
  | .lst ws => some ws
  | .loc n => match st[n]? with
    | some (some (.lst ws)) => some ws
    | _ => none
  | _ => none
theorem lst_x {G : Gm} {H : Hp} {w : W} {v : V} {ws : List W} (wo : World K G H) (r : RepV K G H w v) (e : lstX G.st w = some ws) : ∃ a vs, v = .ref a ∧ H a = some (.lst vs) ∧ RepL K G H ws vs := by
  cases r with
  | lst h rl => cases e; exact ⟨_, _, rfl, h.1, rl⟩
  | loc h =>
    unfold lstX at e
    dsimp only at e
    split at e
    · rename_i q
      cases e
      obtain ⟨vs, e1, rl⟩ := wo.at' _ _ _ h q
      exact ⟨_, vs, rfl, e1, rl⟩
    · cases e
  | _ => cases e
def fCatL : F2 := fun st x y => match lstX st x, lstX st y with
  | some xs, some ys => if xs.length + ys.length ≤ 100000 then some (.lst (xs ++ ys)) else none
  | _, _ => none
theorem os_catL : OpS K rCat fCatL := fun G H x y v u w Q wo rx ry e q => by
  unfold fCatL at e
  split at e
  · split at e
    · rename_i xs ys ex ey hl
      cases e
      obtain ⟨a, vs, rfl, sq, rl⟩ := lst_x wo rx ex
      obtain ⟨b, us, rfl, sq2, rl2⟩ := lst_x wo ry ey
      exact ⟨a, b, vs, us, rfl, rfl, sq, sq2, Nat.le_trans (by rw [← rl.length, ← rl2.length]; exact hl) (by decide), fun p hp => PostV.newL wo q (rl.app rl2) hp⟩
    · cases e
  · cases e
def fAddI : F2 := fI fun i j => .int (i + j)
theorem os_addI : OpS K (rI0 fun i j => .int (i + j)) fAddI := os_int fun _ _ _ _ => .int _
def fAddS : F2 := fun _ x y => match x, y with
  | .str a, .str b => if a.length + b.length ≤ 100000 then some (.str (a ++ b)) else none
  | _, _ => none
theorem os_addS : OpS K (fun x y H Q => ∃ i j, x = .str i ∧ y = .str j ∧ i.length + j.length ≤ sizeLine ∧ Q (.str (i ++ j)) H) fAddS := fun G H x y v u w Q wo rx ry e q => by
  unfold fAddS at e
  split at e
  · split at e
    · rename_i a b hl
      cases e
      cases rx.str_inv; cases ry.str_inv
      exact ⟨a, b, rfl, rfl, Nat.le_trans hl (by decide), PostV.val wo q (.str _)⟩
    · cases e
  · cases e
/-- x + y: ints, tuples, lists, texts -/
def fAdd : F2 := fun st x y => match x, y with
  | .int i, .int j => some (.int (i + j))
  | .tup xs, .tup ys => if xs.length + ys.length ≤ 100000 then some (.tup (xs ++ ys)) else none
  | .str a, .str b => if a.length + b.length ≤ 100000 then some (.str (a ++ b)) else none
  | x, y => fCatL st x y
def rAdd4 (K : PySem.W.Frag) : R2 := fun x y H Q => rI0 (fun i j => .int (i + j)) x y H Q ∨ (rCatF K x y H Q ∨ (rCat x y H Q ∨ ∃ i j, x = .str i ∧ y = .str j ∧ i.length + j.length ≤ sizeLine ∧ Q (.str (i ++ j)) H))
theorem op_add4 : OpR X (binaryOp .Add) (rAdd4 X.K) := op_add.or (op_catF.or (op_cat.or op_add_str))
theorem os_add : OpS K (rAdd4 K) fAdd := fun G H x y v u w Q wo rx ry e q => by
  unfold fAdd at e
  split at e
  · exact .inl (os_addI G H _ _ v u w Q wo rx ry e q)
  · exact .inr (.inl (os_catT G H _ _ v u w Q wo rx ry e q))
  · exact .inr (.inr (.inr (os_addS G H _ _ v u w Q wo rx ry e q)))
  · exact .inr (.inr (.inl (os_catL G H _ _ v u w Q wo rx ry e q)))
/-- x * y: ints; a list so often -/
def fMul : F2 := fun st x y => match x, y with
  | .int i, .int j => if mulOk i j = true then some (.int (i * j)) else none
  | x, .int k => match lstX st x with
    | some xs => if -(2 ^ 62) ≤ k ∧ k < 2 ^ 62 ∧ xs.length * k.toNat ≤ 100000 then some (.lst (List.replicate k.toNat xs).flatten) else none
    | none => none
  | _, _ => none
theorem RepL.rep {ws : List W} {vs : List V} (h : RepL K G H ws vs) : ∀ n : Nat, RepL K G H (List.replicate n ws).flatten (List.replicate n vs).flatten
  | 0 => .nil
  | n + 1 => by
    rw [List.replicate_succ, List.replicate_succ, List.flatten_cons, List.flatten_cons]
    exact h.app (RepL.rep h n)
theorem op_mul2 : OpR X (binaryOp .Mult) (fun x y H Q => rI CMulW (fun i j => .int (i * j)) x y H Q ∨ rRep x y H Q) := op_mulW.or op_rep
theorem os_mul : OpS K (fun x y H Q => rI CMulW (fun i j => .int (i * j)) x y H Q ∨ rRep x y H Q) fMul := fun G H x y v u w Q wo rx ry e q => by
  unfold fMul at e
  split at e
  · rename_i i j
    exact .inl (os_mulI G H _ _ v u w Q wo rx ry (by unfold fMulI fIc; exact e) q)
  · rename_i x k _
    split at e
    · rename_i xs ex
      split at e
      · rename_i hl
        cases e
        obtain ⟨a, vs, rfl, sq, rl⟩ := lst_x wo rx ex
        cases ry.int_inv
        refine .inr ⟨a, k, vs, rfl, rfl, sq, by omega, by omega, Nat.le_trans (by rw [← rl.length]; exact hl.2.2) (by decide), fun p hp => PostV.newL wo q (rl.rep _) hp⟩
      · cases e
    · cases e
  · cases e
end
end Sim
end
section
set_option Elab.async false
set_option linter.all false
set_option maxRecDepth 100000
set_option maxHeartbeats 1000000
open PySem PySem.Spec PyProof.Rows L2
namespace Sim

/-! values as data, for == -/
mutual
def toD0 : W → Option PyData
  | .non => some .none
  | .bl b => some (.bool b)
  | .int i => some (.int i)
  | .str x => some (.str x)
  | .tup ws => (toD0s ws).map .tuple
  | .lst ws => (toD0s ws).map .list
  | _ => none
def toD0s : List W → Option (List PyData)
  | [] => some []
  | w :: ws => match toD0 w, toD0s ws with
    | some d, some ds => some (d :: ds)
    | _, _ => none
end
mutual
def toD (st : Stt) : W → Option PyData
  | .non => some .none
  | .bl b => some (.bool b)
  | .int i => some (.int i)
  | .str x => some (.str x)
  | .tup ws => (toDs st ws).map .tuple
  | .lst ws => (toDs st ws).map .list
  | .scr ws => (toDs st ws).map .list
  | .loc n => match st[n]? with
    | some (some (.lst ws)) => (toD0s ws).map .list
    | _ => none
  | _ => none
def toDs (st : Stt) : List W → Option (List PyData)
  | [] => some []
  | w :: ws => match toD st w, toDs st ws with
    | some d, some ds => some (d :: ds)
    | _, _ => none
end
section
variable {K : PySem.W.Frag} {G : Gm} {H : Hp}
mutual
theorem toD0_dp : ∀ (w : W) (v : V) (d : PyData), RepV K G H w v → toD0 w = some d → Dp K H v d
  | .non, _, _, r, e => by cases r; rw [toD0] at e; cases e; exact .non
  | .bl b, _, _, r, e => by cases r; rw [toD0] at e; cases e; exact .bl b
  | .int b, _, _, r, e => by cases r; rw [toD0] at e; cases e; exact .int b
  | .str b, _, _, r, e => by cases r; rw [toD0] at e; cases e; exact .str b
  | .tup ws, _, d, r, e => by
    obtain ⟨a, vs, rfl, sq, rl⟩ := tup_sq r
    rw [toD0] at e
    cases e1 : toD0s ws with
    | none => rw [e1] at e; cases e
    | some ds => rw [e1] at e; cases e; exact .tup sq (toD0s_dp ws vs ds rl e1)
  | .lst ws, _, d, r, e => by
    cases r with
    | lst h rl =>
      rw [toD0] at e
      cases e1 : toD0s ws with
      | none => rw [e1] at e; cases e
      | some ds => rw [e1] at e; cases e; exact .lst (.inl (.inl h.1)) (toD0s_dp ws _ ds rl e1)
  | .scr _, _, _, _, e => by rw [toD0] at e <;> first | cases e | (intros; exact nofun)
  | .loc _, _, _, _, e => by rw [toD0] at e <;> first | cases e | (intros; exact nofun)
  | .dic _, _, _, _, e => by rw [toD0] at e <;> first | cases e | (intros; exact nofun)
  | .prs _, _, _, _, e => by rw [toD0] at e <;> first | cases e | (intros; exact nofun)
  | .ty _, _, _, _, e => by rw [toD0] at e <;> first | cases e | (intros; exact nofun)
  | .obj _, _, _, _, e => by rw [toD0] at e <;> first | cases e | (intros; exact nofun)
theorem toD0s_dp : ∀ (ws : List W) (vs : List V) (ds : List PyData), RepL K G H ws vs → toD0s ws = some ds → DpAll K H vs ds
  | [], _, _, r, e => by cases r; rw [toD0s] at e; cases e; exact .nil
  | w :: ws, _, ds, r, e => by
    cases r with
    | cons a b =>
      rw [toD0s] at e
      cases e1 : toD0 w with
      | none => rw [e1] at e; cases e
      | some d =>
        cases e2 : toD0s ws with
        | none => rw [e1, e2] at e; cases e
        | some ds2 => rw [e1, e2] at e; cases e; exact .cons (toD0_dp w _ d a e1) (toD0s_dp ws _ ds2 b e2)
end
mutual
theorem toD_dp (wo : World K G H) : ∀ (w : W) (v : V) (d : PyData), RepV K G H w v → toD G.st w = some d → Dp K H v d
  | .non, _, _, r, e => by cases r; rw [toD] at e; cases e; exact .non
  | .bl b, _, _, r, e => by cases r; rw [toD] at e; cases e; exact .bl b
  | .int b, _, _, r, e => by cases r; rw [toD] at e; cases e; exact .int b
  | .str b, _, _, r, e => by cases r; rw [toD] at e; cases e; exact .str b
  | .tup ws, _, d, r, e => by
    obtain ⟨a, vs, rfl, sq, rl⟩ := tup_sq r
    rw [toD] at e
    cases e1 : toDs G.st ws with
    | none => rw [e1] at e; cases e
    | some ds => rw [e1] at e; cases e; exact .tup sq (toDs_dp wo ws vs ds rl e1)
  | .lst ws, _, d, r, e => by
    cases r with
    | lst h rl =>
      rw [toD] at e
      cases e1 : toDs G.st ws with
      | none => rw [e1] at e; cases e
      | some ds => rw [e1] at e; cases e; exact .lst (.inl (.inl h.1)) (toDs_dp wo ws _ ds rl e1)
  | .scr ws, _, d, r, e => by
    cases r with
    | scr h rl =>
      rw [toD] at e
      cases e1 : toDs G.st ws with
      | none => rw [e1] at e; cases e
      | some ds => rw [e1] at e; cases e; exact .lst (h.imp_left Fz.rd) (toDs_dp wo ws _ ds rl e1)
  | .loc n, _, d, r, e => by
    cases r with
    | loc h =>
      rw [toD] at e
      split at e
      · rename_i ws q
        obtain ⟨vs, hv, rl⟩ := wo.at' _ _ _ h q
        cases e1 : toD0s ws with
        | none => rw [e1] at e; cases e
        | some ds => rw [e1] at e; cases e; exact .lst (.inl (.inl hv)) (toD0s_dp ws _ ds rl e1)
      · cases e
  | .dic _, _, _, _, e => by rw [toD] at e <;> first | cases e | (intros; exact nofun)
  | .prs _, _, _, _, e => by rw [toD] at e <;> first | cases e | (intros; exact nofun)
  | .ty _, _, _, _, e => by rw [toD] at e <;> first | cases e | (intros; exact nofun)
  | .obj _, _, _, _, e => by rw [toD] at e <;> first | cases e | (intros; exact nofun)
theorem toDs_dp (wo : World K G H) : ∀ (ws : List W) (vs : List V) (ds : List PyData), RepL K G H ws vs → toDs G.st ws = some ds → DpAll K H vs ds
  | [], _, _, r, e => by cases r; rw [toDs] at e; cases e; exact .nil
  | w :: ws, _, ds, r, e => by
    cases r with
    | cons a b =>
      rw [toDs] at e
      cases e1 : toD G.st w with
      | none => rw [e1] at e; cases e
      | some d =>
        cases e2 : toDs G.st ws with
        | none => rw [e1, e2] at e; cases e
        | some ds2 => rw [e1, e2] at e; cases e; exact .cons (toD_dp wo w _ d a e1) (toDs_dp wo ws _ ds2 b e2)
end
end
def fEq : F2 := fun st x y => match toD st x, toD st y with
  | some d, some e => if SeqAt.shaped d = true ∧ SeqAt.shaped e = true then some (.bl (PyData.eqv d e)) else none
  | _, _ => none
def fNe : F2 := fun st x y => match toD st x, toD st y with
  | some d, some e => if SeqAt.shaped d = true ∧ SeqAt.shaped e = true then some (.bl (!PyData.eqv d e)) else none
  | _, _ => none
section
variable {X : Cx} {Wx : WX} {K : PySem.W.Frag} {G : Gm} {H : Hp}
theorem os_eq : OpS K (rEqD K) fEq := fun G H x y v u w Q wo rx ry e q => by
  unfold fEq at e
  split at e
  · split at e
    · rename_i d d2 e1 e2 hs
      cases e
      exact ⟨d, d2, toD_dp wo x v d rx e1, toD_dp wo y u d2 ry e2, hs.1, hs.2, PostV.val wo q (.bl _)⟩
    · cases e
  · cases e
theorem os_ne : OpS K (rNeD K) fNe := fun G H x y v u w Q wo rx ry e q => by
  unfold fNe at e
  split at e
  · split at e
    · rename_i d d2 e1 e2 hs
      cases e
      exact ⟨d, d2, toD_dp wo x v d rx e1, toD_dp wo y u d2 ry e2, hs.1, hs.2, PostV.val wo q (.bl _)⟩
    · cases e
  · cases e
/-! is None -/
def fIsN : F2 := fun _ x y => match y with
  | .non => match x with
    | .non => some (.bl true)
    | _ => some (.bl false)
  | _ => none
def fNotN : F2 := fun _ x y => match y with
  | .non => match x with
    | .non => some (.bl false)
    | _ => some (.bl true)
  | _ => none
theorem isN_dec {w : W} {v : V} (r : RepV K G H w v) : (match w with | .non => true | _ => false) = decide (v = V.non) := by
  cases r <;> first | rfl | (symm; exact decide_eq_false (fun z => nomatch z))
theorem os_isN : OpS K (fun x y H Q => y = .non ∧ Q (.bl (decide (x = .non))) H) fIsN := fun G H x y v u w Q wo rx ry e q => by
  unfold fIsN at e
  split at e
  · cases ry
    refine ⟨rfl, ?_⟩
    rw [← isN_dec rx]
    cases x <;> (cases e; exact PostV.val wo q (.bl _))
  · cases e
theorem os_notN : OpS K (fun x y H Q => y = .non ∧ Q (.bl (!decide (x = .non))) H) fNotN := fun G H x y v u w Q wo rx ry e q => by
  unfold fNotN at e
  split at e
  · cases ry
    refine ⟨rfl, ?_⟩
    rw [← isN_dec rx]
    cases x <;> (cases e; exact PostV.val wo q (.bl _))
  · cases e
/-! x in xs -/
def flatW : W → Option V
  | .non => some .non
  | .bl b => some (.bl b)
  | .int i => some (.int i)
  | .str x => some (.str x)
  | _ => none
def flatWs : List W → Option (List V)
  | [] => some []
  | w :: ws => match flatW w, flatWs ws with
    | some v, some vs => some (v :: vs)
    | _, _ => none
theorem flatW_rep {w : W} {v v' : V} (r : RepV K G H w v) (e : flatW w = some v') : v = v' ∧ flatV v = true := by
  cases r <;> first | (cases e; exact ⟨rfl, rfl⟩) | cases e
theorem flatWs_rep : ∀ {ws : List W} {vs vs' : List V}, RepL K G H ws vs → flatWs ws = some vs' → vs = vs' ∧ vs.all flatV = true
  | _, _, _, .nil, e => by cases e; exact ⟨rfl, rfl⟩
  | _, _, vs', .cons (w := w) (ws := ws) a b, e => by
    rw [flatWs] at e
    cases e1 : flatW w with
    | none => rw [e1] at e; cases e
    | some v =>
      cases e2 : flatWs ws with
      | none => rw [e1, e2] at e; cases e
      | some us =>
        rw [e1, e2] at e
        cases e
        obtain ⟨p1, p2⟩ := flatW_rep a e1
        obtain ⟨q1, q2⟩ := flatWs_rep b e2
        subst p1 q1
        exact ⟨rfl, by simp [p2, q2]⟩
/-- a text of one sign -/
def signOf (a : Str) : Option Nat := match a.cps.toList with
  | [c] => some c
  | _ => none
theorem signOf_some {a : Str} {c : Nat} (h : signOf a = some c) : a = ⟨#[c]⟩ := by
  obtain ⟨cs⟩ := a
  unfold signOf at h
  split at h
  · rename_i d e
    cases h
    have : cs = [c].toArray := by rw [← e]
    rw [this]
  · cases h
def fIn (neg : Bool) : F2 := fun st x y => match x, y with
  | .str a, .str z => (signOf a).map fun c => (.bl (if neg then !decide (c ∈ z.cps.toList) else decide (c ∈ z.cps.toList)))
  | x, y => match seqOf st y with
    | some ws => match flatW x, flatWs ws with
      | some v, some vs => some (.bl (if neg then !inV v vs else inV v vs))
      | _, _ => none
    | none => none
def rInU (K : PySem.W.Frag) (neg : Bool) : R2 := fun x y H Q => rIn K neg x y H Q ∨ ∃ (c : Nat) (z : Str), x = .str ⟨#[c]⟩ ∧ y = .str z ∧ Q (.bl (if neg then !decide (c ∈ z.cps.toList) else decide (c ∈ z.cps.toList))) H
theorem op_inU : OpR X (compareOp .In) (rInU X.K false) := op_in_seq.or op_in_sign
theorem op_notInU : OpR X (compareOp .NotIn) (rInU X.K true) := op_notIn_seq.or op_notIn_sign
theorem os_in (neg : Bool) : OpS K (rInU K neg) (fIn neg) := fun G H x y v u w Q wo rx ry e q => by
  unfold fIn at e
  split at e
  · rename_i a z
    cases ec : signOf a with
    | none => rw [ec] at e; cases e
    | some c =>
      rw [ec] at e
      cases e
      cases rx.str_inv; cases ry.str_inv
      exact .inr ⟨c, z, by rw [signOf_some ec], rfl, PostV.val wo q (.bl _)⟩
  · split at e
    · rename_i ws es
      split at e
      · rename_i v1 vs1 e1 e2
        cases e
        obtain ⟨a, vs, rfl, sq, rl⟩ := seq_sq wo ry es
        obtain ⟨rfl, f1⟩ := flatW_rep rx e1
        obtain ⟨rfl, f2⟩ := flatWs_rep rl e2
        exact .inl ⟨a, vs, rfl, sq, f1, f2, PostV.val wo q (.bl _)⟩
      · cases e
    · cases e
/-! xs[i] -/
def fIx : F2 := fun st x y => match x, y with
  | .str z, .int i => if z.length ≤ 100000 then (atI z.cps.toList i).map fun c => .str ⟨#[c]⟩ else none
  | x, .int i => match seqOf st x with
    | some ws => atI ws i
    | none => none
  | _, _ => none
def rIxU (K : PySem.W.Frag) : R2 := fun x y H Q => rIxL K x y H Q ∨ (rIxT K x y H Q ∨ rIxS x y H Q)
theorem ix_u : IxR X (rIxU X.K) := ix_list.or (ix_tup.or ix_str)
theorem atI_rep {ws : List W} {vs : List V} {i : Int} {w : W} (r : RepL K G H ws vs) (e : atI ws i = some w) : ∃ v, atI vs i = some v ∧ RepV K G H w v := by
  unfold atI at e ⊢
  rw [← r.length]
  cases h : ixN ws.length i with
  | none => rw [h] at e; cases e
  | some j => rw [h] at e; exact r.get e
theorem os_ix : OpS K (rIxU K) fIx := fun G H x y v u w Q wo rx ry e q => by
  unfold fIx at e
  split at e
  · split at e
    · rename_i z i hz
      cases e1 : atI z.cps.toList i with
      | none => rw [e1] at e; cases e
      | some c =>
        rw [e1] at e
        cases e
        cases rx.str_inv; cases ry.int_inv
        exact .inr (.inr ⟨z, i, c, rfl, rfl, Nat.le_trans hz (by decide), e1, PostV.val wo q (.str _)⟩)
    · cases e
  · split at e
    · rename_i ws es
      obtain ⟨a, vs, rfl, sq, rl⟩ := seq_sq wo rx es
      cases ry.int_inv
      obtain ⟨v, ev, rv⟩ := atI_rep rl e
      rcases sq with sq | sq
      · exact .inl ⟨a, vs, _, v, rfl, rfl, sq, ev, PostV.val wo q rv⟩
      · exact .inr (.inl ⟨a, vs, _, v, rfl, rfl, sq, ev, PostV.val wo q rv⟩)
    · cases e
  · cases e
theorem ce_ix {a b : Expr} {ta tb : TE} {ma mb : EM} {pos : Pos} (ha : CE X Wx a ta ma) (hb : CE X Wx b tb mb) (hs : PlainIx b) : CE X Wx (.Subscript a b pos) (tOp (rIxU X.K) ta tb) (eOp fIx ma mb) := ⟨pe_ix ix_u ha.pe hb.pe hs, sem_op ha.sem hb.sem os_ix⟩

/-! slices -/
abbrev OM := Ev → Stt → Rs (Option Int)
def SemO (K : PySem.W.Frag) (Wx : WX) (te : TO) (m : OM) : Prop := ∀ (G : Gm) (H : Hp) (ρ : Ev) (σ : L2.St) (Q : Option Int → Hp → Prop), World K G H → RepE K G H ρ σ → PostR K (fun _ _ a b => a = b) (fun c d H' => Wx c d σ H') G H (m ρ G.st) Q → te σ H Q
structure CO (X : Cx) (Wx : WX) (e : Option Expr) (t : TO) (m : OM) : Prop where
  pe : PO X e t
  sem : SemO X.K Wx t m
def oNone : OM := fun _ st => .ok none st
def oSome (m : EM) : OM := fun ρ st => (m ρ st).bind fun w st1 => match w with
  | .int i => .ok (some i) st1
  | _ => .no
theorem co_none : CO X Wx none tNoPart oNone := ⟨po_none, fun G H ρ σ Q w r h => PostR.ok (a := none) w h rfl⟩
theorem co_some {e : Expr} {te : TE} {m : EM} (h : CE X Wx e te m) : CO X Wx (some e) (tPart te) (oSome m) := by
  refine ⟨po_some h.pe, fun G H ρ σ Q w r hp => ?_⟩
  refine h.sem G H ρ σ _ w r (PostR.bind hp fun x st1 ls1 H1 v he e1 w1 rv h1 => ?_)
  clear he
  split at h1
  · cases rv.int_inv
    exact ⟨_, rfl, PostR.ok (G := G.to ls1 st1) w1 h1 rfl⟩
  · exact h1.elim
def rSlF (K : PySem.W.Frag) : V → Option Int → Option Int → Hp → VK → Prop := fun x lo hi H Q => ∃ a xs, x = .ref a ∧ SqT K H a xs ∧
  (HT.sIx xs.length 0 lo = 0 ∧ HT.sIx xs.length xs.length hi = xs.length → Q (.ref a) H) ∧ (¬ (HT.sIx xs.length 0 lo = 0 ∧ HT.sIx xs.length xs.length hi = xs.length) → ∀ (p : Addr) (o : Obj), o.dict = none → H p = none → Q (.ref p) (upd H p (.frz o (.tup (cutV xs lo hi)))))
theorem sl_tupF : SlR X (rSlF X.K) := by
  intro pins s σ H x v vl vu lo hi sl Q I rx hs pl pu h
  obtain ⟨a, xs, rfl, hx, q1, q2⟩ := h
  by_cases hw : HT.sIx xs.length 0 lo = 0 ∧ HT.sIx xs.length xs.length hi = xs.length
  · exact sl_tupA pins s σ H _ v vl vu lo hi sl Q I rx hs pl pu ⟨a, xs, rfl, hx, q1, fun z => absurd hw z⟩
  · cases rx
    obtain ⟨its, r, ht, hz⟩ := I.tuple hx
    have hlen : its.toArray.size = xs.length := by rw [List.size_toArray]; exact r.length.symm
    refine ⟨"tuple", _, PyProof.Rows.slot_tuple_getitem.lookup, ht.typeIs, ?_⟩
    refine HT.getItem_tuple_cut ht hs pl pu (by rw [hlen]; exact hw) ?_ (by rw [hlen]; exact hz)
    rw [hlen]
    exact tup_laid (s := s) (h' := s.heap) (tk := s.toks) I ((r.drop (HT.sIx xs.length 0 lo)).take (HT.sIx xs.length xs.length hi - HT.sIx xs.length 0 lo)) (Nat.le_trans (cutV_length xs lo hi) hz) (q2 hw)
/-- xs[lo:hi], the items -/
def cutW (xs : List W) (lo hi : Option Int) : List W := (xs.drop (HT.sIx xs.length 0 lo)).take (HT.sIx xs.length xs.length hi - HT.sIx xs.length 0 lo)
theorem RepL.drop {ws : List W} {vs : List V} (h : RepL K G H ws vs) : ∀ n : Nat, RepL K G H (ws.drop n) (vs.drop n) := by
  intro n
  induction n generalizing ws vs with
  | zero => exact h
  | succ n ih => cases h with
    | nil => exact .nil
    | cons a b => exact ih b
theorem RepL.take {ws : List W} {vs : List V} (h : RepL K G H ws vs) : ∀ n : Nat, RepL K G H (ws.take n) (vs.take n) := by
  intro n
  induction n generalizing ws vs with
  | zero => exact .nil
  | succ n ih => cases h with
    | nil => exact .nil
    | cons a b => exact .cons a (ih b)
theorem RepL.cut {ws : List W} {vs : List V} (h : RepL K G H ws vs) (lo hi : Option Int) : RepL K G H (cutW ws lo hi) (cutV vs lo hi) := by
  unfold cutW cutV
  rw [h.length]
  exact (h.drop _).take _
/-- the whole of it -/
theorem cut_all {xs : List W} {lo hi : Option Int} (h : HT.sIx xs.length 0 lo = 0 ∧ HT.sIx xs.length xs.length hi = xs.length) : cutW xs lo hi = xs := by
  unfold cutW
  rw [h.1, h.2]
  simp
def rSlS : V → Option Int → Option Int → Hp → VK → Prop := fun x lo hi H Q => ∃ z, x = .str z ∧ z.length ≤ sizeLine ∧ Q (.str (cutS z lo hi)) H
abbrev FS := Stt → W → Option Int → Option Int → Option W
def fSl : FS := fun st x lo hi => match x with
  | .tup ws => some (.tup (cutW ws lo hi))
  | .str z => if z.length ≤ 100000 then some (.str (cutS z lo hi)) else none
  | x => match lstOf st x with
    | some ws => some (.lst (cutW ws lo hi))
    | none => none
def eSl (m : EM) (lo hi : OM) : EM := fun ρ st => (m ρ st).bind fun x st1 => (lo ρ st1).bind fun l st2 => (hi ρ st2).bind fun u st3 => match fSl st3 x l u with
  | some w => .ok w st3
  | none => .no
/-- a list's slice that is tracked -/
def eSlO (m : EM) (lo hi : OM) : EM := fun ρ st => (m ρ st).bind fun x st1 => (lo ρ st1).bind fun l st2 => (hi ρ st2).bind fun u st3 => match lstOf st3 x with
  | some ws => .ok (.loc st3.length) (st3 ++ [some (.lst (cutW ws l u))])
  | none => .no
def rSlU (K : PySem.W.Frag) : V → Option Int → Option Int → Hp → VK → Prop := fun x lo hi H Q => rSlF K x lo hi H Q ∨ (rSlL K x lo hi H Q ∨ rSlS x lo hi H Q)
theorem sl_u : SlR X (rSlU X.K) := sl_tupF.or (sl_list.or sl_str)
theorem sem_sl {te : TE} {tl th : TO} {m : EM} {ml mh : OM} (h : SemE K Wx te m) (h1 : SemO K Wx tl ml) (h2 : SemO K Wx th mh) : SemE K Wx (tSl (rSlU K) te tl th) (eSl m ml mh) := fun G H ρ σ Q w r hp => by
  refine h G H ρ σ _ w r (PostR.bind hp fun x st1 ls1 H1 v q1 e1 w1 rv hp1 => ?_)
  clear q1
  refine h1 (G.to ls1 st1) H1 ρ σ _ w1 (r.mono e1) (PostR.bind hp1 fun l st2 ls2 H2 l' q2 e2 w2 rl hp2 => ?_)
  clear q2
  refine h2 (G.to ls2 st2) H2 ρ σ _ w2 (r.mono (e1.trans e2)) (PostR.bind hp2 fun u st3 ls3 H3 u' q3 e3 w3 ru hp3 => ?_)
  clear q3
  subst rl ru
  have rv3 := rv.mono (e2.trans e3)
  cases e : fSl st3 x l u with
  | none => rw [e] at hp3; exact hp3.elim
  | some z =>
    rw [e] at hp3
    have q := PostV.of hp3
    unfold fSl at e
    split at e
    · rename_i ws
      cases e
      obtain ⟨a, vs, rfl, sq, rl⟩ := tup_sq rv3
      refine .inl ⟨a, vs, rfl, sq, fun hw => ?_, fun hw p o hd hpn => PostV.newT (G := G.to ls3 st3) w3 q (rl.cut l u) hd hpn⟩
      rw [← rl.length] at hw
      rw [cut_all hw] at q
      exact PostV.val (G := G.to ls3 st3) w3 q rv3
    · split at e
      · rename_i z hz
        cases e
        cases rv3.str_inv
        exact .inr (.inr ⟨z, rfl, Nat.le_trans hz (by decide), PostV.val (G := G.to ls3 st3) w3 q (.str _)⟩)
      · cases e
    · split at e
      · rename_i ws es
        cases e
        obtain ⟨a, vs, rfl, sq, rl⟩ := lst_sq (G := G.to ls3 st3) w3 rv3 es
        exact .inr (.inl ⟨a, vs, rfl, sq, fun p hpn => PostV.newL (G := G.to ls3 st3) w3 q (rl.cut l u) hpn⟩)
      · cases e
theorem sem_slO {te : TE} {tl th : TO} {m : EM} {ml mh : OM} (h : SemE K Wx te m) (h1 : SemO K Wx tl ml) (h2 : SemO K Wx th mh) : SemE K Wx (tSl (rSlU K) te tl th) (eSlO m ml mh) := fun G H ρ σ Q w r hp => by
  refine h G H ρ σ _ w r (PostR.bind hp fun x st1 ls1 H1 v q1 e1 w1 rv hp1 => ?_)
  clear q1
  refine h1 (G.to ls1 st1) H1 ρ σ _ w1 (r.mono e1) (PostR.bind hp1 fun l st2 ls2 H2 l' q2 e2 w2 rl hp2 => ?_)
  clear q2
  refine h2 (G.to ls2 st2) H2 ρ σ _ w2 (r.mono (e1.trans e2)) (PostR.bind hp2 fun u st3 ls3 H3 u' q3 e3 w3 ru hp3 => ?_)
  clear q3
  subst rl ru
  have rv3 := rv.mono (e2.trans e3)
  cases es : lstOf st3 x with
  | none => rw [es] at hp3; exact hp3.elim
  | some ws =>
    rw [es] at hp3
    obtain ⟨a, vs, rfl, sq, rl⟩ := lst_sq (G := G.to ls3 st3) w3 rv3 es
    exact .inr (.inl ⟨a, vs, rfl, sq, fun p hpn => post_push w3 hpn hp3 ⟨_, upd_same, (rl.cut l u).mono (Ext.push w3 _ hpn)⟩⟩)
theorem ce_sl {e : Expr} {lo hi : Option Expr} {te : TE} {tl th : TO} {m : EM} {ml mh : OM} {p2 pos : Pos} (h : CE X Wx e te m) (h1 : CO X Wx lo tl ml) (h2 : CO X Wx hi th mh) : CE X Wx (.Subscript e (.Slice lo hi none p2) pos) (tSl (rSlU X.K) te tl th) (eSl m ml mh) := ⟨pe_slice sl_u h.pe h1.pe h2.pe, sem_sl h.sem h1.sem h2.sem⟩
theorem ce_slO {e : Expr} {lo hi : Option Expr} {te : TE} {tl th : TO} {m : EM} {ml mh : OM} {p2 pos : Pos} (h : CE X Wx e te m) (h1 : CO X Wx lo tl ml) (h2 : CO X Wx hi th mh) : CE X Wx (.Subscript e (.Slice lo hi none p2) pos) (tSl (rSlU X.K) te tl th) (eSlO m ml mh) := ⟨pe_slice sl_u h.pe h1.pe h2.pe, sem_slO h.sem h1.sem h2.sem⟩
end
end Sim
end
section
set_option Elab.async false
set_option linter.all false
set_option maxRecDepth 100000
set_option maxHeartbeats 1000000
open PySem PySem.Spec PyProof.Rows L2
namespace Sim
section
variable {X : Cx} {Wx : WX} {K : PySem.W.Frag} {G : Gm} {H : Hp}

/-! chains of two comparisons -/
def eChain (f g : F2) (a b c : EM) : EM := fun ρ st => (a ρ st).bind fun x st1 => (b ρ st1).bind fun y st2 => match f st2 x y with
  | some (.bl true) => (c ρ st2).bind fun z st3 => match g st3 y z with
    | some w => .ok w st3
    | none => .no
  | some (.bl false) => .ok (.bl false) st2
  | _ => .no
def OpB (K : PySem.W.Frag) (r : R2) (f : F2) : Prop := ∀ (G : Gm) (H : Hp) (x y : W) (v u : V) (w : W) (Q : VK), World K G H → RepV K G H x v → RepV K G H y u → f G.st x y = some w → PostV K G H w Q → r v u H Q
theorem sem_chain {ta tb tc : TE} {a b c : EM} {r r' : R2} {f g : F2} (ha : SemE K Wx ta a) (hb : SemE K Wx tb b) (hc : SemE K Wx tc c) (ho : OpS K r f) (hg : OpS K r' g) : SemE K Wx (tChain r r' ta tb tc) (eChain f g a b c) := fun G H ρ σ Q w rr h => by
  refine ha G H ρ σ _ w rr (PostR.bind h fun x st1 ls1 H1 v q1 e1 w1 rv h1 => ?_)
  refine hb (G.to ls1 st1) H1 ρ σ _ w1 (rr.mono e1) (PostR.bind h1 fun y st2 ls2 H2 u q2 e2 w2 ru h2 => ?_)
  clear q1 q2
  cases e : f st2 x y with
  | none => rw [e] at h2; exact h2.elim
  | some z =>
    refine ho (G.to ls2 st2) H2 x y v u z _ w2 (rv.mono e2) ru e fun H3 zv e3 w3 rz => ?_
    rw [e] at h2
    cases z with
    | bl b =>
      cases rz
      refine ⟨b, rfl, ?_⟩
      cases b with
      | true =>
        refine iteT (hc (G.to ls2 st2) H3 ρ σ _ w3 ((rr.mono (e1.trans e2)).mono e3) (PostR.bind (PostR.mono e3 h2) fun z st4 ls4 H4 zv q4 e4 w4 rz h4 => ?_))
        clear q4
        cases eg : g st4 y z with
        | none => rw [eg] at h4; exact h4.elim
        | some w5 => rw [eg] at h4; exact hg (G.to ls4 st4) H4 y z u zv w5 Q w4 ((ru.mono e3).mono e4) rz eg (PostV.of h4)
      | false => exact iteF (PostR.ok (G := G.to ls2 st2) w3 (PostR.mono e3 h2) (.bl false))
    | _ => exact h2.elim
theorem ce_chain {a b c : Expr} {op op' : CmpOp} {ta tb tc : TE} {ma mb mc : EM} {r r' : R2} {f g : F2} {pos : Pos} (ho : OpR X (compareOp op) r) (hf : OpS X.K r f) (ho' : OpR X (compareOp op') r') (hg : OpS X.K r' g) (ha : CE X Wx a ta ma) (hb : CE X Wx b tb mb) (hc : CE X Wx c tc mc) (hm : lastMarks [op, op'] [b, c] = false := by with_unfolding_all rfl) :
    CE X Wx (.Compare a [op, op'] [b, c] pos) (tChain r r' ta tb tc) (eChain f g ma mb mc) := ⟨pe_chain ho ho' ha.pe hb.pe hc.pe hm, sem_chain ha.sem hb.sem hc.sem hf hg⟩
theorem ct_chain {a b c : Expr} {op op' : CmpOp} {ta tb tc : TE} {ma mb mc : EM} {r r' : R2} {f g : F2} {pos : Pos} (ho : OpR X (compareOp op) r) (hf : OpS X.K r f) (ho' : OpR X (compareOp op') r') (hg : OpS X.K r' g) (ha : CE X Wx a ta ma) (hb : CE X Wx b tb mb) (hc : CE X Wx c tc mc) (hm : lastMarks [op, op'] [b, c] = false := by with_unfolding_all rfl) :
    CT X Wx (.Compare a [op, op'] [b, c] pos) (tTest (tChain r r' ta tb tc)) (tmV (eChain f g ma mb mc)) := ⟨pt_chain ho ho' ha.pe hb.pe hc.pe hm, sem_test (sem_chain ha.sem hb.sem hc.sem hf hg)⟩

/-! functions of values -/
theorem FnS.or {r r' : List V → Hp → VK → Prop} {f f' : F1} (h : FnS K r f) (h' : FnS K r' f') : FnS K (fun xs H Q => r xs H Q ∨ r' xs H Q) (fun st ws => match f st ws with | some w => some w | none => f' st ws) := fun G H ws vs w Q wo rl e q => by
  dsimp only at e
  cases e1 : f G.st ws with
  | some z => rw [e1] at e; cases e; exact .inl (h G H ws vs w Q wo rl e1 q)
  | none => rw [e1] at e; exact .inr (h' G H ws vs w Q wo rl e q)
def lenOf (st : Stt) : W → Option Nat
  | .str z => if z.length ≤ 100000 then some z.length else none
  | .dic kvs => some kvs.length
  | .loc n => match st[n]? with
    | some (some (.lst ws)) => some ws.length
    | some (some (.dic kvs)) => some kvs.length
    | _ => none
  | w => (seqOf st w).map List.length
def fLen : F1 := fun st ws => match ws with
  | [x] => (lenOf st x).map fun n => .int (n : Int)
  | _ => none
def rLen (K : PySem.W.Frag) : List V → Hp → VK → Prop := fun xs H Q => (∃ x n, xs = [x] ∧ LenV K x H n ∧ Q (.int n) H) ∨ ∃ a kvs, xs = [V.ref a] ∧ Rd H a (.dK kvs) ∧ Q (.int kvs.length) H
theorem RepK.length {kws : List (Key × W)} {kvs : List (Key × V)} (h : RepK K G H kws kvs) : kws.length = kvs.length := by
  induction kws generalizing kvs with
  | nil => cases h; rfl
  | cons a b ih => cases h with
    | cons p q => simp [ih q]
theorem call_len_any : CallR X (.builtin "len") (rLen X.K) := by
  refine call_len.or ?_
  intro pins s σ H xs us Q I r h
  obtain ⟨a, kvs, rfl, ha, q⟩ := h
  obtain ⟨u, rfl, ru⟩ := vals1 r
  cases ru
  exact d_len I ha fun t s' I' => ⟨.int kvs.length, H, I', ⟨t, rfl⟩, q⟩
theorem fs_len : FnS K (rLen K) fLen := fun G H ws vs w Q wo rl e q => by
  unfold fLen at e
  split at e
  · rename_i x
    obtain ⟨v, rfl, rx⟩ := rl.one
    have seqs : ∀ us, seqOf G.st x = some us → w = .int (us.length : Int) → rLen K [v] H Q := fun us es ew => by
      obtain ⟨a, vs, rfl, sq, rl⟩ := seq_sq wo rx es
      refine .inl ⟨_, vs.length, rfl, ?_, ?_⟩
      · rcases sq with sq | sq
        · exact .inl ⟨vs, sq, rfl⟩
        · exact .inr ⟨vs, sq, rfl⟩
      · rw [← rl.length]
        subst ew
        exact PostV.val wo q (.int _)
    cases x with
    | str z =>
      rw [lenOf] at e
      split at e
      · rename_i hz
        cases e
        cases rx.str_inv
        exact .inl ⟨_, z.length, rfl, ⟨Nat.le_trans hz (by decide), rfl⟩, PostV.val wo q (.int _)⟩
      · cases e
    | dic kvs =>
      cases e
      cases rx with
      | dic h rk => exact .inr ⟨_, _, rfl, h.1, by rw [← rk.length]; exact PostV.val wo q (.int _)⟩
    | loc n =>
      rw [lenOf] at e
      split at e
      · rename_i us h
        cases e
        exact seqs us (by unfold seqOf; dsimp only; rw [h]) rfl
      · rename_i kvs h
        cases e
        cases rx with
        | loc hl =>
          obtain ⟨ks, e1, rk⟩ := wo.at' _ _ _ hl h
          exact .inr ⟨_, _, rfl, .inl e1, by rw [← rk.length]; exact PostV.val wo q (.int _)⟩
      · cases e
    | tup us => cases e; exact seqs us rfl rfl
    | lst us => cases e; exact seqs us rfl rfl
    | scr us => cases e; exact seqs us rfl rfl
    | _ => cases e
  · cases e
end
end Sim
end
section
set_option Elab.async false
set_option linter.all false
set_option maxRecDepth 100000
set_option maxHeartbeats 1000000
open PySem PySem.Spec PyProof.Rows L2
namespace Sim
/-! sorting texts -/
def leS (a b : Str) : Bool := !decide (b.cps.toList < a.cps.toList)
def sortS (xs : List Str) : List Str := xs.mergeSort leS
theorem leS_iff {a b : Str} : leS a b = true ↔ a.cps.toList ≤ b.cps.toList := by
  unfold leS
  rw [Bool.not_eq_true', decide_eq_false_iff_not]
  exact Iff.rfl
theorem leS_trans (a b c : Str) (h : leS a b = true) (k : leS b c = true) : leS a c = true := leS_iff.mpr (List.le_trans (leS_iff.mp h) (leS_iff.mp k))
theorem leS_total (a b : Str) : (leS a b || leS b a) = true := by
  rw [Bool.or_eq_true, leS_iff, leS_iff]
  exact List.le_total _ _
theorem leS_antisymm {a b : Str} (h : leS a b = true) (k : leS b a = true) : a = b := by
  have := List.le_antisymm (leS_iff.mp h) (leS_iff.mp k)
  obtain ⟨⟨x⟩⟩ := a
  obtain ⟨⟨y⟩⟩ := b
  have e : x = y := this
  rw [e]
theorem rising_le : ∀ {xs : List Str} {x : Str}, risingS x xs = true → ∀ y ∈ xs, leS x y = true
  | y :: r, x, h, z, hz => by
    rw [risingS, Bool.and_eq_true, ltCps_eq] at h
    have h1 : leS x y = true := h.1
    rcases List.mem_cons.mp hz with e | hz
    · rw [e]; exact h1
    · exact leS_trans _ _ _ h1 (rising_le h.2 z hz)
theorem rising_pair : ∀ {xs : List Str} {x : Str}, risingS x xs = true → List.Pairwise (fun a b => leS a b = true) (x :: xs)
  | [], x, _ => .cons (fun _ h => nomatch h) .nil
  | y :: r, x, h => .cons (rising_le h) (by
    rw [risingS, Bool.and_eq_true] at h
    exact rising_pair h.2)
theorem sorted_pair {xs : List Str} (h : sortedS xs = true) : List.Pairwise (fun a b => leS a b = true) xs := by
  cases xs with
  | nil => exact .nil
  | cons x r => exact rising_pair h
theorem sortS_pair (xs : List Str) : List.Pairwise (fun a b => leS a b = true) (sortS xs) := List.pairwise_mergeSort leS_trans leS_total xs
theorem sortS_perm (xs : List Str) : (sortS xs).Perm xs := List.mergeSort_perm xs leS
theorem sorted_eq {xs ys : List Str} (hp : ys.Perm xs) (h : sortedS ys = true) : ys = sortS xs :=
  List.Perm.eq_of_pairwise (le := fun a b => leS a b = true) (fun a b _ _ x y => leS_antisymm x y) (sorted_pair h) (sortS_pair xs) (hp.trans (sortS_perm xs).symm)

def strsOf : List W → Option (List Str)
  | [] => some []
  | .str x :: ws => (strsOf ws).map (x :: ·)
  | _ => none
def intsOf : List W → Option (List Int)
  | [] => some []
  | .int x :: ws => (intsOf ws).map (x :: ·)
  | _ => none
def blsOf : List W → Option (List Bool)
  | [] => some []
  | .bl x :: ws => (blsOf ws).map (x :: ·)
  | _ => none
theorem strsOf_eq : ∀ {ws : List W} {xs : List Str}, strsOf ws = some xs → ws = xs.map .str
  | [], xs, h => by cases h; rfl
  | .str x :: ws, xs, h => by
    rw [strsOf] at h
    cases e : strsOf ws with
    | none => rw [e] at h; cases h
    | some ys => rw [e] at h; cases h; rw [strsOf_eq e]; rfl
  | .non :: _, _, h => by simp [strsOf] at h
  | .bl _ :: _, _, h => by simp [strsOf] at h
  | .int _ :: _, _, h => by simp [strsOf] at h
  | .ty _ :: _, _, h => by simp [strsOf] at h
  | .obj _ :: _, _, h => by simp [strsOf] at h
  | .tup _ :: _, _, h => by simp [strsOf] at h
  | .lst _ :: _, _, h => by simp [strsOf] at h
  | .dic _ :: _, _, h => by simp [strsOf] at h
  | .loc _ :: _, _, h => by simp [strsOf] at h
  | .prs _ :: _, _, h => by simp [strsOf] at h
  | .scr _ :: _, _, h => by simp [strsOf] at h
theorem intsOf_eq : ∀ {ws : List W} {xs : List Int}, intsOf ws = some xs → ws = xs.map .int
  | [], xs, h => by cases h; rfl
  | .int x :: ws, xs, h => by
    rw [intsOf] at h
    cases e : intsOf ws with
    | none => rw [e] at h; cases h
    | some ys => rw [e] at h; cases h; rw [intsOf_eq e]; rfl
  | .non :: _, _, h => by simp [intsOf] at h
  | .bl _ :: _, _, h => by simp [intsOf] at h
  | .str _ :: _, _, h => by simp [intsOf] at h
  | .ty _ :: _, _, h => by simp [intsOf] at h
  | .obj _ :: _, _, h => by simp [intsOf] at h
  | .tup _ :: _, _, h => by simp [intsOf] at h
  | .lst _ :: _, _, h => by simp [intsOf] at h
  | .dic _ :: _, _, h => by simp [intsOf] at h
  | .loc _ :: _, _, h => by simp [intsOf] at h
  | .prs _ :: _, _, h => by simp [intsOf] at h
  | .scr _ :: _, _, h => by simp [intsOf] at h
theorem blsOf_eq : ∀ {ws : List W} {xs : List Bool}, blsOf ws = some xs → ws = xs.map .bl
  | [], xs, h => by cases h; rfl
  | .bl x :: ws, xs, h => by
    rw [blsOf] at h
    cases e : blsOf ws with
    | none => rw [e] at h; cases h
    | some ys => rw [e] at h; cases h; rw [blsOf_eq e]; rfl
  | .non :: _, _, h => by simp [blsOf] at h
  | .int _ :: _, _, h => by simp [blsOf] at h
  | .str _ :: _, _, h => by simp [blsOf] at h
  | .ty _ :: _, _, h => by simp [blsOf] at h
  | .obj _ :: _, _, h => by simp [blsOf] at h
  | .tup _ :: _, _, h => by simp [blsOf] at h
  | .lst _ :: _, _, h => by simp [blsOf] at h
  | .dic _ :: _, _, h => by simp [blsOf] at h
  | .loc _ :: _, _, h => by simp [blsOf] at h
  | .prs _ :: _, _, h => by simp [blsOf] at h
  | .scr _ :: _, _, h => by simp [blsOf] at h
section
variable {X : Cx} {Wx : WX} {K : PySem.W.Frag} {G : Gm} {H : Hp}
theorem RepL.strs : ∀ {xs : List Str} {vs : List V}, RepL K G H (xs.map .str) vs → vs = xs.map .str
  | [], _, h => by cases h; rfl
  | x :: xs, _, h => by
    cases h with
    | cons a b => rw [a.str_inv, RepL.strs b]; rfl
theorem RepL.ints : ∀ {xs : List Int} {vs : List V}, RepL K G H (xs.map .int) vs → vs = xs.map .int
  | [], _, h => by cases h; rfl
  | x :: xs, _, h => by
    cases h with
    | cons a b => rw [a.int_inv, RepL.ints b]; rfl
theorem RepL.bls : ∀ {xs : List Bool} {vs : List V}, RepL K G H (xs.map .bl) vs → vs = xs.map .bl
  | [], _, h => by cases h; rfl
  | x :: xs, _, h => by
    cases h with
    | cons a b => rw [a.bl_inv, RepL.bls b]; rfl
theorem rep_strs : ∀ {xs : List Str}, RepL K G H (xs.map .str) (xs.map .str)
  | [] => .nil
  | x :: xs => .cons (.str x) rep_strs
theorem rep_ints : ∀ {xs : List Int}, RepL K G H (xs.map .int) (xs.map .int)
  | [] => .nil
  | x :: xs => .cons (.int x) rep_ints

/-! isinstance -/
def tyW (st : Stt) : W → Option String
  | .non => some "NoneType"
  | .bl _ => some "bool"
  | .int _ => some "int"
  | .str _ => some "str"
  | .tup _ => some "tuple"
  | .lst _ => some "list"
  | .dic _ => some "dict"
  | .loc n => match st[n]? with
    | some (some (.lst _)) => some "list"
    | some (some (.dic _)) => some "dict"
    | _ => none
  | _ => none
theorem tyW_x {w : W} {v : V} {t : String} (wo : World K G H) (r : RepV K G H w v) (e : tyW G.st w = some t) : TyX K H v (.type t) := by
  cases r with
  | non => cases e; exact .base .non
  | bl b => cases e; exact .base (.bl b)
  | int b => cases e; exact .base (.int b)
  | str b => cases e; exact .base (.str b)
  | tup h _ =>
    cases e
    rcases h with ⟨⟨o, _, q⟩, _⟩ | ⟨o, its, n, h1, h2, _⟩
    · exact .fTuple q
    · exact .kTuple h1 h2
  | lst h _ => cases e; exact .base (.lst h.1)
  | dic h _ =>
    cases e
    rcases h.1 with q | ⟨o, q⟩
    · exact .base (.dK q)
    · exact .fDict q
  | loc h =>
    unfold tyW at e
    dsimp only at e
    split at e
    · rename_i q
      cases e
      obtain ⟨vs, e1, _⟩ := wo.at' _ _ _ h q
      exact .base (.lst e1)
    · rename_i q
      cases e
      obtain ⟨vs, e1, _⟩ := wo.at' _ _ _ h q
      exact .base (.dK e1)
    · cases e
  | _ => cases e
def fIsi : F1 := fun st ws => match ws with
  | [x, .ty T] => match tyW st x with
    | some t => (kitB t T).map .bl
    | none => none
  | _ => none
theorem fs_isi : FnS K (rIsi K) fIsi := fun G H ws vs w Q wo rl e q => by
  unfold fIsi at e
  split at e
  · rename_i x T
    split at e
    · rename_i t et
      cases ek : kitB t T with
      | none => rw [ek] at e; cases e
      | some b =>
        rw [ek] at e
        cases e
        obtain ⟨v, u, rfl, rx, ru⟩ := rl.two
        cases ru
        exact ⟨v, .ty T, _, _, b, rfl, .ty T, tyW_x wo rx et, kit_ty ek, PostV.val wo q (.bl b)⟩
    · cases e
  · cases e
def kitAnyB (t : String) : List String → Option Bool
  | [] => some false
  | n :: r => match kitB t n with
    | some true => some true
    | some false => kitAnyB t r
    | none => none
theorem kitAny_of {t : String} {b : Bool} : ∀ {ns : List String}, kitAnyB t ns = some b → PySem.W.kitAny K (.type t) (ns.map .type) = some b
  | [], h => by cases h; rfl
  | n :: r, h => by
    rw [kitAnyB] at h
    split at h
    · rename_i e
      cases h
      exact kitAny_cons (kit_ty e) (fun z => nomatch z) fun _ => rfl
    · rename_i e
      exact kitAny_cons (kit_ty e) (fun _ => kitAny_of h) fun z => nomatch z
    · cases h
/-- a written tuple of built-in types -/
def tTys : List String → TA
  | [] => tNil
  | n :: r => tCons (tC (.ty n)) (tTys r)
theorem pa_ty {x : Str} {pos : Pos} {n : String} {es : List Expr} {ns : List String} (hg : Gl X x) (hm : X.mg x = none) (hv : bootBuiltins x = some (.type n)) (hr : PA X es (tTys ns)) (hn : x ≠ "__name__" := by decide) (hd : (x == ("__debug__" : Str)) = false := by decide)
    (hs : starEach (.Name x pos :: es) X.env = (false, eval (.Name x pos) X.env) :: starEach es X.env := by rfl) : PA X (.Name x pos :: es) (tTys (n :: ns)) := pa_cons (pe_bltn (v := .ty n) hg hm hv rfl hn hd) hr hs
theorem tTys_run : ∀ {ns : List String} {σ : L2.St} {H : Hp} {Q : List V → Hp → Prop}, Q (ns.map .ty) H → tTys ns σ H Q
  | [], _, _, _, h => h
  | n :: r, _, _, Q, h => tTys_run (ns := r) (Q := fun xs H2 => Q (.ty n :: xs) H2) h
def eIsiT (m : EM) (ns : List String) : EM := fun ρ st => (m ρ st).bind fun x st1 => match tyW st1 x with
  | some t => match kitAnyB t ns with
    | some b => .ok (.bl b) st1
    | none => .no
  | none => .no
theorem tys_cls : ∀ {ns : List String}, Paired ClsV (ns.map .ty) (ns.map .type)
  | [] => .nil
  | n :: r => .cons (.ty n) tys_cls
theorem ce_isiT {x : Str} {p pos tpos : Pos} {kk : Nat} {e : Expr} {es : List Expr} {te : TE} {m : EM} {ns : List String} (h : CE X Wx e te m) (ht : PA X es (tTys ns)) (hl : ns.length ≤ 100) (hg : Gl X x) (hm : X.mg x = none) (hv : bootBuiltins x = some (.builtin "isinstance")) (hn : x ≠ "__name__" := by decide) (hdb : (x == ("__debug__" : Str)) = false := by decide)
    (he : starEach (e :: [.Tuple es kk tpos]) X.env = (false, eval e X.env) :: starEach [.Tuple es kk tpos] X.env := by rfl) (he2 : starEach [.Tuple es kk tpos] X.env = (false, eval (.Tuple es kk tpos) X.env) :: starEach [] X.env := by rfl) (hpl : (backTo pos (starEach [.Tuple es kk tpos] X.env)).any (·.1) = false := by rfl) :
    CE X Wx (.Call (.Name x p) [e, .Tuple es kk tpos] [] pos) (tCB (rIsiT X.K) (tCons te (tCons (tTup (tTys ns)) tNil))) (eIsiT m ns) := by
  refine ⟨pe_callB call_isiT hg hm hv (pa_cons h.pe (pa_cons (pe_tup ht) pa_nil he2) he) hn hdb he hpl, fun G H ρ σ Q w r hp => ?_⟩
  refine h.sem G H ρ σ _ w r (PostR.bind hp fun y st1 ls1 H1 v q1 e1 w1 rv h1 => ?_)
  clear q1
  refine tTys_run ⟨by rw [List.length_map]; exact Nat.le_trans hl (by decide), fun p hp => ?_⟩
  split at h1
  · rename_i t et
    split at h1
    · rename_i b eb
      have x1 := Ext.new (o := .tup (ns.map .ty)) w1 hp
      exact ⟨v, p, _, _, _, b, rfl, upd_same, tys_cls, tyW_x (G := G.to ls1 st1) (w1.new hp) (rv.mono x1) et, kitAny_of eb, PostR.ok (G := G.to ls1 st1) (w1.new hp) (PostR.mono x1 h1) (.bl b)⟩
    · exact h1.elim
  · exact h1.elim

/-! numbers and rows of them -/
def fAbs : F1 := fun _ ws => match ws with
  | [.int i] => some (.int (if i < 0 then -i else i))
  | _ => none
theorem fs_abs : FnS K (fun xs H Q => ∃ i, xs = [.int i] ∧ Q (.int (if i < 0 then -i else i)) H) fAbs := fun G H ws vs w Q wo rl e q => by
  unfold fAbs at e
  split at e
  · rename_i i
    cases e
    obtain ⟨v, rfl, rx⟩ := rl.one
    cases rx.int_inv
    exact ⟨i, rfl, PostV.val wo q (.int _)⟩
  · cases e
def fInt : F1 := fun _ ws => match ws with
  | [.int i] => some (.int i)
  | [.bl k] => some (.int (if k then 1 else 0))
  | _ => none
theorem fs_int : FnS K (fun xs H Q => (∃ i, xs = [.int i] ∧ Q (.int i) H) ∨ ∃ k, xs = [.bl k] ∧ Q (.int (if k then 1 else 0)) H) fInt := fun G H ws vs w Q wo rl e q => by
  unfold fInt at e
  split at e
  · cases e
    obtain ⟨v, rfl, rx⟩ := rl.one
    cases rx.int_inv
    exact .inl ⟨_, rfl, PostV.val wo q (.int _)⟩
  · cases e
    obtain ⟨v, rfl, rx⟩ := rl.one
    cases rx.bl_inv
    exact .inr ⟨_, rfl, PostV.val wo q (.int _)⟩
  · cases e
def maxI : List Int → Int
  | [] => 0
  | [a] => a
  | a :: b :: r => max a (maxI (b :: r))
def minI : List Int → Int
  | [] => 0
  | [a] => a
  | a :: b :: r => min a (minI (b :: r))
theorem maxI_mem : ∀ {l : List Int}, l ≠ [] → maxI l ∈ l ∧ ∀ y ∈ l, y ≤ maxI l
  | [a], _ => by simp [maxI]
  | a :: b :: r, _ => by
    obtain ⟨h1, h2⟩ := maxI_mem (l := b :: r) (by simp)
    rw [maxI]
    refine ⟨?_, fun y hy => ?_⟩
    · by_cases h : a ≤ maxI (b :: r)
      · rw [Int.max_eq_right h]; exact List.mem_cons_of_mem _ h1
      · rw [Int.max_eq_left (by omega)]; exact List.mem_cons_self
    · rcases List.mem_cons.mp hy with e | hy
      · rw [e]; exact Int.le_max_left _ _
      · exact Int.le_trans (h2 y hy) (Int.le_max_right _ _)
theorem minI_mem : ∀ {l : List Int}, l ≠ [] → minI l ∈ l ∧ ∀ y ∈ l, minI l ≤ y
  | [a], _ => by simp [minI]
  | a :: b :: r, _ => by
    obtain ⟨h1, h2⟩ := minI_mem (l := b :: r) (by simp)
    rw [minI]
    refine ⟨?_, fun y hy => ?_⟩
    · by_cases h : minI (b :: r) ≤ a
      · rw [Int.min_eq_right h]; exact List.mem_cons_of_mem _ h1
      · rw [Int.min_eq_left (by omega)]; exact List.mem_cons_self
    · rcases List.mem_cons.mp hy with e | hy
      · rw [e]; exact Int.min_le_left _ _
      · exact Int.le_trans (Int.min_le_right _ _) (h2 y hy)
def fMax : F1 := fun st ws => match ws with
  | [.int i, .int j] => some (.int (if j > i then j else i))
  | [x] => match (lstOf st x).bind intsOf with
    | some ns => if ns ≠ [] then some (.int (maxI ns)) else none
    | none => none
  | _ => none
def fMin : F1 := fun st ws => match ws with
  | [.int i, .int j] => some (.int (if j < i then j else i))
  | [x] => match (lstOf st x).bind intsOf with
    | some ns => if ns ≠ [] then some (.int (minI ns)) else none
    | none => none
  | _ => none
def rMaxU (K : PySem.W.Frag) : List V → Hp → VK → Prop := fun xs H Q => (∃ i j, xs = [.int i, .int j] ∧ Q (.int (if j > i then j else i)) H) ∨ rMax K xs H Q
def rMinU (K : PySem.W.Frag) : List V → Hp → VK → Prop := fun xs H Q => (∃ i j, xs = [.int i, .int j] ∧ Q (.int (if j < i then j else i)) H) ∨ rMin K xs H Q
theorem cr_maxU (hc : X.calm = true) : CallR X (.builtin "max") (rMaxU X.K) := (call_max2 hc).or (cr_max hc)
theorem cr_minU (hc : X.calm = true) : CallR X (.builtin "min") (rMinU X.K) := (call_min2 hc).or (cr_min hc)
theorem lst_ints {x : W} {v : V} {ns : List Int} (wo : World K G H) (rx : RepV K G H x v) (e : (lstOf G.st x).bind intsOf = some ns) : ∃ a, v = .ref a ∧ SqL K H a (ns.map .int) := by
  cases e1 : lstOf G.st x with
  | none => rw [e1] at e; cases e
  | some us =>
    rw [e1] at e
    obtain ⟨a, vs, rfl, sq, rl⟩ := lst_sq wo rx e1
    rw [intsOf_eq e] at rl
    rw [rl.ints] at sq
    exact ⟨a, rfl, sq⟩
theorem lst_bls {x : W} {v : V} {ns : List Bool} (wo : World K G H) (rx : RepV K G H x v) (e : (lstOf G.st x).bind blsOf = some ns) : ∃ a, v = .ref a ∧ SqL K H a (ns.map .bl) := by
  cases e1 : lstOf G.st x with
  | none => rw [e1] at e; cases e
  | some us =>
    rw [e1] at e
    obtain ⟨a, vs, rfl, sq, rl⟩ := lst_sq wo rx e1
    rw [blsOf_eq e] at rl
    rw [rl.bls] at sq
    exact ⟨a, rfl, sq⟩
theorem fs_max : FnS K (rMaxU K) fMax := fun G H ws vs w Q wo rl e q => by
  unfold fMax at e
  split at e
  · cases e
    obtain ⟨v, u, rfl, rx, ry⟩ := rl.two
    cases rx.int_inv; cases ry.int_inv
    exact .inl ⟨_, _, rfl, PostV.val wo q (.int _)⟩
  · split at e
    · rename_i ns en
      split at e
      · rename_i hne
        cases e
        obtain ⟨v, rfl, rx⟩ := rl.one
        obtain ⟨a, rfl, sq⟩ := lst_ints wo rx en
        refine .inr ⟨a, ns, rfl, sq, List.length_pos_iff.mpr hne, fun m hm hle => ?_⟩
        obtain ⟨h1, h2⟩ := maxI_mem hne
        have : m = maxI ns := Int.le_antisymm (h2 m hm) (hle _ h1)
        subst this
        exact PostV.val wo q (.int _)
      · cases e
    · cases e
  · cases e
theorem fs_min : FnS K (rMinU K) fMin := fun G H ws vs w Q wo rl e q => by
  unfold fMin at e
  split at e
  · cases e
    obtain ⟨v, u, rfl, rx, ry⟩ := rl.two
    cases rx.int_inv; cases ry.int_inv
    exact .inl ⟨_, _, rfl, PostV.val wo q (.int _)⟩
  · split at e
    · rename_i ns en
      split at e
      · rename_i hne
        cases e
        obtain ⟨v, rfl, rx⟩ := rl.one
        obtain ⟨a, rfl, sq⟩ := lst_ints wo rx en
        refine .inr ⟨a, ns, rfl, sq, List.length_pos_iff.mpr hne, fun m hm hle => ?_⟩
        obtain ⟨h1, h2⟩ := minI_mem hne
        have : m = minI ns := Int.le_antisymm (hle _ h1) (h2 m hm)
        subst this
        exact PostV.val wo q (.int _)
      · cases e
    · cases e
  · cases e
def fSum : F1 := fun st ws => match ws with
  | [x] => match (lstOf st x).bind intsOf with
    | some ns => some (.int ns.sum)
    | none => none
  | _ => none
theorem fs_sum : FnS K (rSum K) fSum := fun G H ws vs w Q wo rl e q => by
  unfold fSum at e
  split at e
  · split at e
    · rename_i ns en
      cases e
      obtain ⟨v, rfl, rx⟩ := rl.one
      obtain ⟨a, rfl, sq⟩ := lst_ints wo rx en
      exact ⟨a, ns, rfl, sq, PostV.val wo q (.int _)⟩
    · cases e
  · cases e
def fAny : F1 := fun st ws => match ws with
  | [x] => match (lstOf st x).bind blsOf with
    | some bs => some (.bl (bs.any id))
    | none => none
  | _ => none
def fAll : F1 := fun st ws => match ws with
  | [x] => match (lstOf st x).bind blsOf with
    | some bs => some (.bl (bs.all id))
    | none => none
  | _ => none
theorem fs_any : FnS K (rAny K) fAny := fun G H ws vs w Q wo rl e q => by
  unfold fAny at e
  split at e
  · split at e
    · rename_i ns en
      cases e
      obtain ⟨v, rfl, rx⟩ := rl.one
      obtain ⟨a, rfl, sq⟩ := lst_bls wo rx en
      exact ⟨a, ns, rfl, sq, PostV.val wo q (.bl _)⟩
    · cases e
  · cases e
theorem fs_all : FnS K (rAll K) fAll := fun G H ws vs w Q wo rl e q => by
  unfold fAll at e
  split at e
  · split at e
    · rename_i ns en
      cases e
      obtain ⟨v, rfl, rx⟩ := rl.one
      obtain ⟨a, rfl, sq⟩ := lst_bls wo rx en
      exact ⟨a, ns, rfl, sq, PostV.val wo q (.bl _)⟩
    · cases e
  · cases e

/-! list(x), tuple(x), sorted(x) -/
def fList : FL := fun st ws => match ws with
  | [.str z] => if z.length ≤ 100000 then some (z.cps.toList.map fun c => .str ⟨#[c]⟩) else none
  | [x] => seqOf st x
  | _ => none
def rListU (K : PySem.W.Frag) : List V → Hp → VK → Prop := fun xs H Q => (∃ p ys, xs = [.ref p] ∧ (SqL K H p ys ∨ SqT K H p ys) ∧ ∀ l, H l = none → Q (.ref l) (upd H l (.lst ys))) ∨ Low.rListStr xs H Q
theorem cr_listU (hc : X.calm = true) : CallR X (.type "list") (rListU X.K) := call_list_of.or (Low.call_list_txt hc)
theorem rep_signs : ∀ {cs : List Nat}, RepL K G H (cs.map fun c => .str ⟨#[c]⟩) (cs.map fun c => .str ⟨#[c]⟩)
  | [] => .nil
  | _ :: _ => .cons (.str _) rep_signs
theorem fn_list : FnN K (rListU K) fList := fun G H ws vs us Q wo rl e q => by
  unfold fList at e
  split at e
  · split at e
    · rename_i z hz
      cases e
      obtain ⟨v, rfl, rx⟩ := rl.one
      cases rx.str_inv
      exact .inr ⟨z, rfl, Nat.le_trans hz (by decide), fun l hl => q l _ hl rep_signs⟩
    · cases e
  · obtain ⟨v, rfl, rx⟩ := rl.one
    obtain ⟨a, vs, rfl, sq, rl⟩ := seq_sq wo rx e
    exact .inl ⟨a, vs, rfl, sq, fun l hl => q l vs hl rl⟩
  · cases e
def rTupF (K : PySem.W.Frag) : List V → Hp → VK → Prop := fun xs H Q => ∃ p ys, xs = [.ref p] ∧ ((SqL K H p ys ∧ ∀ (l : Addr) (o : Obj), o.dict = none → H l = none → Q (.ref l) (upd H l (.frz o (.tup ys)))) ∨ (SqT K H p ys ∧ Q (.ref p) H))
theorem cr_tupF : CallR X (.type "tuple") (rTupF X.K) := by
  intro pins s σ H xs us Q I r h
  obtain ⟨p, ys, rfl, h⟩ := h
  obtain ⟨u, rfl, rx⟩ := vals1 r
  cases rx
  rcases h with ⟨hq, q⟩ | ⟨hq, q⟩
  · obtain ⟨its, r', pl, hz⟩ := I.list hq
    have hlen := r'.length
    refine call_tuple_list pl.isList (fun h' kp => ?_) (by simp only [List.size_toArray]; omega)
    have I1 : L2.Inv X pins σ H { s with heap := h' } := I.kept (t' := s.toks) kp
    exact tup_laid (s := s) (h' := h') (tk := s.toks) I1 r' hz q
  · obtain ⟨its, r', pl, hz⟩ := I.tuple hq
    exact call_tuple_same pl ⟨.ref p, H, I, rfl, q⟩
def fTuple : F1 := fun st ws => match ws with
  | [.tup us] => some (.tup us)
  | [x] => (lstOf st x).map .tup
  | _ => none
theorem fs_tuple : FnS K (rTupF K) fTuple := fun G H ws vs w Q wo rl e q => by
  unfold fTuple at e
  split at e
  · cases e
    obtain ⟨v, rfl, rx⟩ := rl.one
    obtain ⟨a, vs, rfl, sq, _⟩ := tup_sq rx
    exact ⟨a, vs, rfl, .inr ⟨sq, PostV.val wo q rx⟩⟩
  · rename_i x hn
    cases ex : lstOf G.st x with
    | none => rw [ex] at e; cases e
    | some us =>
      rw [ex] at e
      cases e
      obtain ⟨v, rfl, rx⟩ := rl.one
      obtain ⟨a, vs, rfl, sq, rl⟩ := lst_sq wo rx ex
      exact ⟨a, vs, rfl, .inl ⟨sq, fun l o hd hl => PostV.newT wo q rl hd hl⟩⟩
  · cases e
def fSorted : FL := fun st ws => match ws with
  | [x] => match (seqOf st x).bind strsOf with
    | some xs => if xs.length < 64 then some ((sortS xs).map .str) else none
    | none => none
  | _ => none
def rSortedU (K : PySem.W.Frag) : List V → Hp → VK → Prop := fun xs H Q => rSortedS K xs H Q ∨ Low.rSortedT K xs H Q
theorem cr_sortedU : CallR X (.builtin "sorted") (rSortedU X.K) := cr_sortedS.or Low.cr_sortedT
theorem seq_strs {x : W} {v : V} {xs : List Str} (wo : World K G H) (rx : RepV K G H x v) (e : (seqOf G.st x).bind strsOf = some xs) : ∃ a, v = .ref a ∧ (SqL K H a (xs.map .str) ∨ SqT K H a (xs.map .str)) := by
  cases e1 : seqOf G.st x with
  | none => rw [e1] at e; cases e
  | some us =>
    rw [e1] at e
    obtain ⟨a, vs, rfl, sq, rl⟩ := seq_sq wo rx e1
    rw [strsOf_eq e] at rl
    rw [rl.strs] at sq
    exact ⟨a, rfl, sq⟩
theorem fn_sorted : FnN K (rSortedU K) fSorted := fun G H ws vs us Q wo rl e q => by
  unfold fSorted at e
  split at e
  · split at e
    · rename_i xs en
      split at e
      · rename_i h64
        cases e
        obtain ⟨v, rfl, rx⟩ := rl.one
        obtain ⟨a, rfl, sq⟩ := seq_strs wo rx en
        have fin : ∀ (ys : List Str) (p : Addr), ys.Perm xs → sortedS ys = true → H p = none → Q (.ref p) (upd H p (.lst (ys.map .str))) := fun ys p hp hs hn => by
          rw [sorted_eq hp hs]
          exact q p _ hn rep_strs
        rcases sq with sq | sq
        · exact .inl ⟨a, xs, rfl, sq, h64, fin⟩
        · exact .inr ⟨a, xs, rfl, sq, h64, fin⟩
      · cases e
    · cases e
  · cases e
/-- len(set(x)) -/
def eLenSet (m : EM) : EM := fun ρ st => (m ρ st).bind fun x st1 => match (seqOf st1 x).bind strsOf with
  | some xs => if xs.length ≤ 1000 then .ok (.int ((Low.nubS xs).length : Int)) st1 else .no
  | none => .no
theorem ce_lenSet {a : Expr} {ta : TE} {m : EM} {p p2 q pos : Pos} (hc : X.calm = true) (hg : Gl X "len") (hm : X.mg "len" = none) (hg2 : Gl X "set") (hm2 : X.mg "set" = none) (ha : CE X Wx a ta m) (na : starEach [a] X.env = (false, eval a X.env) :: starEach [] X.env := by rfl) :
    CE X Wx (.Call (.Name "len" p) [.Call (.Name "set" p2) [a] [] q] [] pos) (Low.tLenSet X.K ta) (eLenSet m) := by
  refine ⟨Low.pe_lenSet hc hg hm hg2 hm2 ha.pe na, fun G H ρ σ Q w r hp => ?_⟩
  refine ha.sem G H ρ σ _ w r (PostR.bind hp fun y st1 ls1 H1 v q1 e1 w1 rv h1 => ?_)
  clear q1
  split at h1
  · rename_i xs ex
    split at h1
    · rename_i hl
      obtain ⟨a, rfl, sq⟩ := seq_strs (G := G.to ls1 st1) w1 rv ex
      exact ⟨a, xs, rfl, sq, hl, PostR.ok (G := G.to ls1 st1) w1 h1 (.int _)⟩
    · exact h1.elim
  · exact h1.elim
end
end Sim
end
section
set_option Elab.async false
set_option linter.all false
set_option maxRecDepth 100000
set_option maxHeartbeats 1000000
open PySem PySem.Spec PyProof.Rows L2
namespace Sim
section
variable {X : Cx} {Wx : WX} {K : PySem.W.Frag} {G : Gm} {H : Hp}

/-! methods of lists -/
abbrev MF := W → List W → Stt → Rs W
def MtS (K : PySem.W.Frag) (r : V → List V → Hp → VK → Prop) (mf : MF) : Prop := ∀ (G : Gm) (H : Hp) (x : W) (v : V) (ws : List W) (vs : List V) (Wy : Value → Option Addr → Hp → Prop) (Q : VK), World K G H → RepV K G H x v → RepL K G H ws vs → PostR K (RepV K) Wy G H (mf x ws G.st) Q → r v vs H Q
def eBM (m : EM) (as : AM) (mf : MF) : EM := fun ρ st => (m ρ st).bind fun x st1 => match lstX st1 x with
  | some _ => (as ρ st1).bind fun ws st2 => mf x ws st2
  | none => .no
theorem RepV.lst_ty {x : W} {v : V} {us : List W} (wo : World K G H) (r : RepV K G H x v) (e : lstX G.st x = some us) : tyV K "list" v H := by
  obtain ⟨a, vs, rfl, e1, _⟩ := lst_x wo r e
  exact .inl ⟨rfl, vs, .inl (.inl e1)⟩
theorem ce_bm {o e : Expr} {es : List Expr} {to : TE} {t : TA} {mo : EM} {as : AM} {name : Str} {apos cpos : Pos} {id : String} {r : V → List V → Hp → VK → Prop} {mf : MF} (slot : Slot "list" name id) (hty : typeOf (.builtin id) = pure (.type "method_descriptor")) (hm : MtR X id r) (hf : MtS X.K r mf) (ho : CE X Wx o to mo) (ha : CA X Wx (e :: es) t as)
    (hbase : attributeBase o name X.env (eval o X.env) = eval o X.env := by rfl)
    (hfew : ((backTo cpos (starEach (e :: es) X.env)).all (fun x => !x.1) && (backToKw cpos (keywordEach [] X.env)).all (fun x => x.1.isSome) && decide ((e :: es).length + ([] : List Keyword).length + (if ([] : List Keyword).isEmpty then 0 else 1) < 30)) = true := by rfl)
    (hline : (apos.endLine == cpos.line) = true := by rfl) (hs : starEach (e :: es) X.env = (false, eval e X.env) :: starEach es X.env := by rfl) (hplain : (backTo cpos (starEach es X.env)).any (·.1) = false := by rfl) :
    CE X Wx (.Call (.Attribute o name apos) (e :: es) [] cpos) (tBM X.K "list" r to t) (eBM mo as mf) := by
  refine ⟨pe_bm PySem.F.plainAttrs_list slot hty hm ho.pe ha.pe hbase hfew hline hs hplain, fun G H ρ σ Q w rr h => ?_⟩
  refine ho.sem G H ρ σ _ w rr (PostR.bind h fun x st1 ls1 H1 v q1 e1 w1 rv h1 => ?_)
  clear q1
  cases ex : lstX st1 x with
  | none => rw [ex] at h1; exact h1.elim
  | some us =>
    rw [ex] at h1
    refine ⟨RepV.lst_ty (G := G.to ls1 st1) w1 rv ex, ?_⟩
    refine ha.sem (G.to ls1 st1) H1 ρ σ _ w1 (rr.mono e1) (PostR.bind h1 fun ws st2 ls2 H2 vs q2 e2 w2 rvs h2 => ?_)
    exact hf (G.to ls2 st2) H2 x v ws vs _ Q w2 (rv.mono e2) rvs h2
theorem ce_bm0 {o : Expr} {to : TE} {mo : EM} {name : Str} {apos cpos : Pos} {id : String} {r : V → List V → Hp → VK → Prop} {mf : MF} (slot : Slot "list" name id) (hty : typeOf (.builtin id) = pure (.type "method_descriptor")) (hm : MtR X id r) (hf : MtS X.K r mf) (ho : CE X Wx o to mo)
    (hbase : attributeBase o name X.env (eval o X.env) = eval o X.env := by rfl) (hline : (apos.endLine == cpos.line) = true := by rfl) : CE X Wx (.Call (.Attribute o name apos) [] [] cpos) (tBM0 X.K "list" r to) (eBM mo aNil mf) := by
  refine ⟨pe_bm0 PySem.F.plainAttrs_list slot hty hm ho.pe hbase hline, fun G H ρ σ Q w rr h => ?_⟩
  refine ho.sem G H ρ σ _ w rr (PostR.bind h fun x st1 ls1 H1 v q1 e1 w1 rv h1 => ?_)
  clear q1
  cases ex : lstX st1 x with
  | none => rw [ex] at h1; exact h1.elim
  | some us =>
    rw [ex] at h1
    exact ⟨RepV.lst_ty (G := G.to ls1 st1) w1 rv ex, hf (G.to ls1 st1) H1 x v [] [] _ Q w1 rv .nil h1⟩
theorem post_put {Wy : Value → Option Addr → Hp → Prop} {n : Nat} {a : Addr} {ob ob0 : Ob} {o : HO} {Q : VK} {r : W} {v : V} (w : World K G H) (e1 : G.ls[n]? = some a) (e2 : G.st[n]? = some (some ob0)) (h : PostR K (RepV K) Wy G H (.ok r (G.st.set n (some ob))) Q)
    (ho : RepO K (G.put n ob) (upd H a o) a ob) (hr : RepV K G H r v) : Q v (upd H a o) := h G.ls _ v (Ext.put w e1 e2) (w.put e1 e2 ho) (hr.mono (Ext.put w e1 e2))
/-- what a list that is changed becomes, and what the change tells -/
def mUp (f : List W → List W → Stt → Option (W × List W)) : MF := fun x ws st => match x with
  | .loc n => match st[n]? with
    | some (some (.lst us)) => match f us ws st with
      | some (r, us') => .ok r (st.set n (some (.lst us')))
      | none => .no
    | _ => .no
  | _ => .no
theorem mt_up {r : V → List V → Hp → VK → Prop} {f : List W → List W → Stt → Option (W × List W)}
    (hf : ∀ (G : Gm) (H : Hp) (a : Addr) (us ws : List W) (zs vs : List V) (y : W) (us' : List W) (Q : VK), World K G H → H a = some (.lst zs) → RepL K G H us zs → RepL K G H ws vs → f us ws G.st = some (y, us') → (∀ (v : V) (zs' : List V), RepV K G H y v → RepL K G H us' zs' → Q v (upd H a (.lst zs'))) → r (.ref a) vs H Q) : MtS K r (mUp f) := fun G H x v ws vs Wy Q wo rx rl h => by
  unfold mUp at h
  split at h
  · rename_i n
    cases rx with
    | loc hl =>
      split at h
      · rename_i us hs
        obtain ⟨zs, hz, rz⟩ := wo.at' _ _ _ hl hs
        cases e : f us ws G.st with
        | none => rw [e] at h; exact h.elim
        | some p =>
          obtain ⟨y, us'⟩ := p
          rw [e] at h
          refine hf G H _ us ws zs vs y us' Q wo hz rz rl e fun v zs' rv rz' => post_put wo hl hs h ⟨zs', upd_same, rz'.mono (Ext.put wo hl hs)⟩ rv
      · exact h.elim
  · exact h.elim
def fAppend : List W → List W → Stt → Option (W × List W) := fun us ws _ => match ws with
  | [y] => if us.length < 100000 then some (.non, us ++ [y]) else none
  | _ => none
theorem ms_append : MtS K rAppend (mUp fAppend) := mt_up fun G H a us ws zs vs y us' Q wo hz rz rl e q => by
  unfold fAppend at e
  split at e
  · split at e
    · rename_i hl
      cases e
      obtain ⟨v, rfl, rv⟩ := rl.one
      exact ⟨a, zs, v, rfl, rfl, hz, Nat.lt_of_lt_of_le (by rw [← rz.length]; exact hl) (by decide), q _ _ .non (rz.app (.cons rv .nil))⟩
    · cases e
  · cases e
def fExtend : List W → List W → Stt → Option (W × List W) := fun us ws st => match ws with
  | [y] => match lstX st y with
    | some ys => if us.length + ys.length ≤ 100000 then some (.non, us ++ ys) else none
    | none => none
  | _ => none
theorem ms_extend : MtS K rExtend (mUp fExtend) := mt_up fun G H a us ws zs vs y us' Q wo hz rz rl e q => by
  unfold fExtend at e
  split at e
  · split at e
    · rename_i ys ey
      split at e
      · rename_i hl
        cases e
        obtain ⟨v, rfl, rv⟩ := rl.one
        obtain ⟨b, ts, rfl, hb, rt⟩ := lst_x wo rv ey
        exact ⟨a, b, zs, ts, rfl, rfl, hz, hb, Nat.le_trans (by rw [← rz.length, ← rt.length]; exact hl) (by decide), q _ _ .non (rz.app rt)⟩
      · cases e
    · cases e
  · cases e
theorem RepL.erase {ws : List W} {vs : List V} (h : RepL K G H ws vs) : ∀ n : Nat, RepL K G H (ws.eraseIdx n) (vs.eraseIdx n) := by
  intro n
  induction n generalizing ws vs with
  | zero => cases h with
    | nil => exact .nil
    | cons a b => exact b
  | succ n ih => cases h with
    | nil => exact .nil
    | cons a b => exact .cons a (ih b)
def fPopAt : List W → List W → Stt → Option (W × List W) := fun us ws _ => match ws with
  | [.int i] => if -(2 ^ 62) ≤ i ∧ i < 2 ^ 62 then match seqIndex? i us.length with
    | some k => match us[k]? with
      | some y => some (y, us.eraseIdx k)
      | none => none
    | none => none else none
  | _ => none
theorem ms_popAt : MtS K rPopAt (mUp fPopAt) := mt_up fun G H a us ws zs vs y us' Q wo hz rz rl e q => by
  unfold fPopAt at e
  split at e
  · rename_i i
    split at e
    · rename_i hi
      split at e
      · rename_i k hk
        split at e
        · rename_i y' hy
          cases e
          obtain ⟨v, rfl, rv⟩ := rl.one
          cases rv.int_inv
          obtain ⟨u, eu, ru⟩ := rz.get hy
          exact ⟨a, zs, i, k, u, rfl, rfl, hz, by omega, by omega, by rw [← rz.length]; exact hk, eu, q _ _ ru (rz.erase k)⟩
        · cases e
      · cases e
    · cases e
  · cases e
theorem RepL.dropLast {ws : List W} {vs : List V} (h : RepL K G H ws vs) : RepL K G H ws.dropLast vs.dropLast := by
  rw [List.dropLast_eq_take, List.dropLast_eq_take, h.length]
  exact h.take _
def fPop : List W → List W → Stt → Option (W × List W) := fun us ws _ => match ws with
  | [] => match us[us.length - 1]? with
    | some y => some (y, us.dropLast)
    | none => none
  | _ => none
theorem ms_pop : MtS K rPop (mUp fPop) := mt_up fun G H a us ws zs vs y us' Q wo hz rz rl e q => by
  unfold fPop at e
  split at e
  · split at e
    · rename_i y' hy
      cases e
      cases rl
      obtain ⟨u, eu, ru⟩ := rz.get hy
      exact ⟨a, zs, u, rfl, rfl, hz, by rw [← rz.length]; exact eu, q _ _ ru rz.dropLast⟩
    · cases e
  · cases e
def fInsert : List W → List W → Stt → Option (W × List W) := fun us ws _ => match ws with
  | [.int i, y] => if 0 ≤ i ∧ i < 2 ^ 62 ∧ us.length < 100000 then some (.non, us.take i.toNat ++ [y] ++ us.drop i.toNat) else none
  | _ => none
def rInsert : V → List V → Hp → VK → Prop := fun x vs H Q => ∃ (l : Addr) (xs : List V) (i : Int) (y : V), x = .ref l ∧ vs = [.int i, y] ∧ H l = some (.lst xs) ∧ xs.length < sizeLine ∧ 0 ≤ i ∧ i < 2 ^ 63 ∧ Q .non (upd H l (.lst (xs.take i.toNat ++ [y] ++ xs.drop i.toNat)))
theorem mt_insertU : MtR X "list.insert" rInsert := mt_insert
theorem ms_insert : MtS K rInsert (mUp fInsert) := mt_up fun G H a us ws zs vs y us' Q wo hz rz rl e q => by
  unfold fInsert at e
  split at e
  · split at e
    · rename_i i y hl
      cases e
      obtain ⟨v, u, rfl, rv, ru⟩ := rl.two
      cases rv.int_inv
      exact ⟨a, zs, i, u, rfl, rfl, hz, Nat.lt_of_lt_of_le (by rw [← rz.length]; exact hl.2.2) (by decide), hl.1, by omega, q _ _ .non (((rz.take _).app (.cons ru .nil)).app (rz.drop _))⟩
    · cases e
  · cases e
theorem RepL.rev {ws : List W} {vs : List V} (h : RepL K G H ws vs) : RepL K G H ws.reverse vs.reverse := by
  induction ws generalizing vs with
  | nil => cases h; exact .nil
  | cons w ws ih => cases h with
    | cons a b => rw [List.reverse_cons, List.reverse_cons]; exact (ih b).app (.cons a .nil)
def fReverse : List W → List W → Stt → Option (W × List W) := fun us ws _ => match ws with
  | [] => some (.non, us.reverse)
  | _ => none
theorem ms_reverse : MtS K rReverse (mUp fReverse) := mt_up fun G H a us ws zs vs y us' Q wo hz rz rl e q => by
  unfold fReverse at e
  split at e
  · cases e
    cases rl
    exact ⟨a, zs, rfl, rfl, hz, q _ _ .non rz.rev⟩
  · cases e
/-! xs.index(y) -/
def mIdx : MF := fun x ws st => match ws with
  | [.str z] => match (seqOf st x).bind strsOf with
    | some ys => if z ∈ ys then .ok (.int (ys.idxOf z : Nat)) st else .no
    | none => .no
  | _ => .no
def rIdxL (K : PySem.W.Frag) : V → List V → Hp → VK → Prop := fun x vs H Q => ∃ (p : Addr) (ys : List Str) (z : Str), x = .ref p ∧ vs = [.str z] ∧ SqL K H p (ys.map V.str) ∧ z ∈ ys ∧ Q (.int (ys.idxOf z : Nat)) H
theorem mt_idxL : MtR X "list.index" (rIdxL X.K) := by
  intro pins s σ H x vs v us Q I rx rvs h
  obtain ⟨p, ys, z, rfl, rfl, sq, hz, q⟩ := h
  cases rx
  obtain ⟨u, rfl, t, rfl⟩ := vals1 rvs
  obtain ⟨its, rv, pl, hsz⟩ := I.list sq
  exact SeqAt.list_index_strs pl.isList rv.strs (by simpa using hsz) hz ⟨.int (ys.idxOf z : Nat), H, I.tok _, ⟨_, rfl⟩, q⟩
theorem ms_idxL : MtS K (rIdxL K) (fun x ws st => match lstX st x with | some _ => mIdx x ws st | none => .no) := fun G H x v ws vs Wy Q wo rx rl h => by
  dsimp only at h
  cases ex : lstX G.st x with
  | none => rw [ex] at h; exact h.elim
  | some us =>
    rw [ex] at h
    replace h : PostR K (RepV K) Wy G H (mIdx x ws G.st) Q := h
    unfold mIdx at h
    split at h
    · rename_i z
      split at h
      · rename_i ys ey
        split at h
        · rename_i hz
          obtain ⟨a, zs, rfl, hz1, rz⟩ := lst_x wo rx ex
          have es : seqOf G.st x = some us := by
            cases x with
            | lst ws => exact ex
            | loc n => exact ex
            | _ => cases ex
          rw [es] at ey
          rw [strsOf_eq ey] at rz
          obtain ⟨u, rfl, ru⟩ := rl.one
          cases ru.str_inv
          rw [rz.strs] at hz1
          exact ⟨a, ys, z, rfl, rfl, .inl (.inl hz1), hz, PostR.ok wo h (.int _)⟩
        · exact h.elim
      · exact h.elim
    · exact h.elim
/-- of a tuple -/
def eIdxT (m : EM) (as : AM) : EM := fun ρ st => (m ρ st).bind fun x st1 => match x with
  | .tup us => (as ρ st1).bind fun ws st2 => mIdx (.tup us) ws st2
  | _ => .no
theorem ce_idxT {o e : Expr} {es : List Expr} {to : TE} {t : TA} {mo : EM} {as : AM} {apos cpos : Pos} (ho : CE X Wx o to mo) (ha : CA X Wx (e :: es) t as)
    (hbase : attributeBase o "index" X.env (eval o X.env) = eval o X.env := by rfl)
    (hfew : ((backTo cpos (starEach (e :: es) X.env)).all (fun x => !x.1) && (backToKw cpos (keywordEach [] X.env)).all (fun x => x.1.isSome) && decide ((e :: es).length + ([] : List Keyword).length + (if ([] : List Keyword).isEmpty then 0 else 1) < 30)) = true := by rfl)
    (hline : (apos.endLine == cpos.line) = true := by rfl) (hs : starEach (e :: es) X.env = (false, eval e X.env) :: starEach es X.env := by rfl) (hplain : (backTo cpos (starEach es X.env)).any (·.1) = false := by rfl) :
    CE X Wx (.Call (.Attribute o "index" apos) (e :: es) [] cpos) (Low.tIdxT X.K to t) (eIdxT mo as) := by
  refine ⟨Low.pe_idxT ho.pe ha.pe hbase hfew hline hs hplain, fun G H ρ σ Q w rr h => ?_⟩
  refine ho.sem G H ρ σ _ w rr (PostR.bind h fun x st1 ls1 H1 v q1 e1 w1 rv h1 => ?_)
  clear q1
  cases x with
  | tup us =>
    dsimp only at h1
    obtain ⟨a, zs, ea, tn, _⟩ := tupN rv
    refine ⟨⟨a, zs, ea, tn⟩, ?_⟩
    refine ha.sem (G.to ls1 st1) H1 ρ σ _ w1 (rr.mono e1) (PostR.bind h1 fun ws st2 ls2 H2 vs q2 e2 w2 rvs h2 => ?_)
    clear q2
    unfold mIdx at h2
    split at h2
    · rename_i z
      split at h2
      · rename_i ys ey
        split at h2
        · rename_i hz
          obtain ⟨b, ts, eb, sq, rt⟩ := tup_sq (rv.mono e2)
          have ey : strsOf us = some ys := ey
          rw [strsOf_eq ey] at rt
          obtain ⟨u, rfl, ru⟩ := rvs.one
          cases ru.str_inv
          rw [rt.strs] at sq
          exact ⟨b, ys, z, eb, rfl, sq, hz, PostR.ok (G := G.to ls2 st2) w2 h2 (.int _)⟩
        · exact h2.elim
      · exact h2.elim
    · exact h2.elim
  | _ => exact h1.elim

/-! statements that change -/
/-- o[i] = e, o a list -/
def sSetIx (e o i : EM) : SM := fun ρ st => (e ρ st).toS ρ fun x st1 => (o ρ st1).toS ρ fun l st2 => (i ρ st2).toS ρ fun k st3 => match l, k with
  | .loc n, .int j => match st3[n]? with
    | some (some (.lst us)) => match ixN us.length j with
      | some m => .nx ρ (st3.set n (some (.lst (us.set m x))))
      | none => .no
    | _ => .no
  | _, _ => .no
theorem RepL.set {ws : List W} {vs : List V} (h : RepL K G H ws vs) {w : W} {v : V} (r : RepV K G H w v) : ∀ n : Nat, RepL K G H (ws.set n w) (vs.set n v) := by
  intro n
  induction n generalizing ws vs with
  | zero => cases h with
    | nil => exact .nil
    | cons a b => exact .cons r b
  | succ n ih => cases h with
    | nil => exact .nil
    | cons a b => exact .cons a (ih b)
theorem cs_setIx {e o i : Expr} {te to ti : TE} {me mo mi : EM} {pos p2 : Pos} (he : CE X Wx e te me) (ho : CE X Wx o to mo) (hi : CE X Wx i ti mi) (hs : swapsWithSole [.Subscript o i p2] e pos.line X.env = pure false := by rfl) (hw : swappedStores [.Subscript o i p2] e X.env = pure none := by rfl)
    (h1 : (assignEach [.Subscript o i p2] X.env).map (·.2) = [assign (.Subscript o i p2) X.env] := by rfl)
    (ha : ∀ v, assign (.Subscript o i p2) X.env v = (do
      let ov ← holding [v] (eval o X.env)
      let iv ← holding [v, ov] (eval i X.env)
      standAt p2
      holding [v, ov, iv] (setItem ov iv v)
      release [v, ov, iv] []) := by intro _; rfl) : CS X Wx (.Assign [.Subscript o i p2] e pos) (tAsg te (gSub to ti rSetL)) (sSetIx me mo mi) := by
  refine ⟨ps_asg he.pe (pg_sub ho.pe hi.pe set_list ha) hs hw h1, fun G H ρ σ D w r h => ?_⟩
  refine he.sem G H ρ σ _ w r (PostS.bind h r fun x st1 ls1 H1 v q1 e1 w1 rv h1 => ?_)
  refine ho.sem (G.to ls1 st1) H1 ρ σ _ w1 (r.mono e1) (PostS.bind h1 (r.mono e1) fun l st2 ls2 H2 u q2 e2 w2 ru h2 => ?_)
  have r2 := r.mono (e1.trans e2)
  refine hi.sem (G.to ls2 st2) H2 ρ σ _ w2 r2 (PostS.bind h2 r2 fun k st3 ls3 H3 z q3 e3 w3 rz h3 => ?_)
  have r3 := r2.mono e3
  clear q1 q2 q3
  split at h3
  · rename_i n j
    split at h3
    · rename_i us hn
      split at h3
      · rename_i m hm
        cases rz.int_inv
        have ru3 := ru.mono e3
        cases ru3 with
        | loc hl =>
          obtain ⟨ts, ht, rt⟩ := w3.at' _ _ _ hl hn
          have rx := rv.mono (e2.trans e3)
          refine ⟨_, ts, j, m, rfl, rfl, ht, by rw [← rt.length]; exact hm, ?_⟩
          have xp : Ext (G.to ls3 st3) H3 ((G.to ls3 st3).put n (.lst (us.set m x))) (upd H3 _ (.lst (ts.set m v))) := Ext.put w3 hl hn
          exact h3 ls3 σ _ xp (w3.put hl hn ⟨_, upd_same, (rt.set rx m).mono xp⟩) (r3.mono xp)
      · exact h3.elim
    · exact h3.elim
  · exact h3.elim
/-- x op= e -/
def sAug (i : Nat) (e : EM) (f : F2) : SM := fun ρ st => match ρ[i]? with
  | some (some x) => (e ρ st).toS ρ fun y st1 => match f st1 x y with
    | some z => .nx (ρ.set i (some z)) st1
    | none => .no
  | _ => .no
theorem cs_aug {i : Nat} {x : Str} {e : Expr} {te : TE} {m : EM} {op : Operator} {r : R2} {f : F2} {pos pos' : Pos} (hN : X.N.Nodup) (hi : X.N[i]? = some x) (hx : Loc X.env.scope x) (he : CE X Wx e te m) (ho : OpR X (inplaceOp op) r) (hf : OpS X.K r f) (hl : X.fn x = true ∨ X.env.scope.names.lookup x = some .local := by first | exact .inl rfl | exact .inr rfl | assumption) :
    CS X Wx (.AugAssign (.Name x pos') op e pos) (tAug i te r) (sAug i m f) := by
  refine ⟨ps_aug hN hi hx he.pe (fun pins s σ H x y v u Q I rx ry h => ho pins s σ H x y v u Q I rx ry h) hl, fun G H ρ σ D w rr h => ?_⟩
  unfold sAug at h
  split at h
  · rename_i a ea
    obtain ⟨v, ev, rv⟩ := rr.2 i a ea
    refine ⟨v, ev, ?_⟩
    refine he.sem G H ρ σ _ w rr (PostS.bind h rr fun y st1 ls1 H1 u q1 e1 w1 ru h1 => ?_)
    cases e : f st1 a y with
    | none => rw [e] at h1; exact h1.elim
    | some z =>
      rw [e] at h1
      exact hf (G.to ls1 st1) H1 a y v u z _ w1 (rv.mono e1) ru e fun H2 zv x2 w2 rz => h1 ls1 _ H2 x2 w2 (((rr.mono e1).mono x2).set i rz)
  · exact h.elim

/-! while -/
def whileW : Nat → TM → SM → SM
  | 0, _, _ => fun _ _ => .no
  | n + 1, c, body => fun ρ st => (c ρ st).toS ρ fun b st1 => if b = true then (body ρ st1).loop fun ρ2 st2 => whileW n c body ρ2 st2 else .nx ρ st1
theorem sem_while {tc : TT} {tb : TS} {c : TM} {body : SM} (n : Nat) (hc : SemT K Wx tc c) (hb : SemS K Wx tb body) : SemS K Wx (tWhile tc tb) (whileW n c body) := fun G H ρ σ D w r h => by
  refine ⟨fun m σ H => ∃ (G2 : Gm) (ρ2 : Ev), World K G2 H ∧ RepE K G2 H ρ2 σ ∧ PostS K Wx D G2 H (whileW m c body ρ2 G2.st), ⟨n, G, ρ, w, r, h⟩, ?_⟩
  rintro m σ2 H2 ⟨G2, ρ2, w2, r2, h2⟩
  cases m with
  | zero => exact h2.elim
  | succ m =>
    rw [whileW] at h2
    refine hc G2 H2 ρ2 σ2 _ w2 r2 (PostS.bind h2 r2 fun b st3 ls3 H3 b' q3 e3 w3 eb h3 => ?_)
    subst eb
    cases b with
    | false =>
      rw [if_neg Bool.false_ne_true] at h3
      exact iteF (h3 ls3 σ2 H3 (Ext.refl _ _) w3 (r2.mono e3))
    | true =>
      rw [if_pos rfl] at h3
      refine iteT ⟨fun σ' H' => ∃ (G4 : Gm) (ρ4 : Ev), World K G4 H' ∧ RepE K G4 H' ρ4 σ' ∧ PostS K Wx D G4 H' (whileW m c body ρ4 G4.st), fun σ' H' hN => ⟨m, Nat.lt_succ_self m, hN⟩, ?_⟩
      refine hb (G2.to ls3 st3) H3 ρ2 σ2 _ w3 (r2.mono e3) ?_
      cases eb : body ρ2 st3 with
      | nx ρ5 st5 =>
        rw [eb] at h3
        exact fun ls5 σ5 H5 e5 w5 r5 => ⟨_, ρ5, w5, r5, PostS.mono e5 h3⟩
      | ct ρ5 st5 =>
        rw [eb] at h3
        exact fun ls5 σ5 H5 e5 w5 r5 => ⟨_, ρ5, w5, r5, PostS.mono e5 h3⟩
      | bk ρ5 st5 =>
        rw [eb] at h3
        exact fun ls5 σ5 H5 e5 w5 r5 => h3 ls5 σ5 H5 e5 w5 r5
      | rt v5 st5 =>
        rw [eb] at h3
        exact fun ls5 σ5 H5 e5 w5 r5 => h3 ls5 σ5 H5 e5 w5 r5
      | er y5 ρ5 st5 =>
        rw [eb] at h3
        exact fun ls5 σ5 H5 d e5 w5 r5 => h3 ls5 σ5 H5 d e5 w5 r5
      | no => rw [eb] at h3; exact h3.elim
theorem cs_while {c : Expr} {body : List Stmt} {tc : TT} {tb : TS} {mc : TM} {mb : SM} {pos : Pos} (n : Nat) (hp : PassesOwn (model X.prog X.w) X.A X.env X.xe) (hc : CT X Wx c tc mc) (hb : CSs X Wx body tb mb) : CS X Wx (.While c body [] pos) (tWhile tc tb) (whileW n mc mb) := ⟨ps_while hp hc.pe hb.pe, sem_while n hc.sem hb.sem⟩
end
end Sim
end
section
set_option Elab.async false
set_option linter.all false
set_option maxRecDepth 100000
set_option maxHeartbeats 1000000
open PySem PySem.Spec PyProof.Rows L2
namespace Sim
/-! a def's own places are let go at its end; what it gives back becomes still -/
mutual
/-- no place from n on -/
def okL (n : Nat) : W → Bool
  | .tup ws => okLs n ws
  | .lst ws => okLs n ws
  | .prs ws => okLs n ws
  | .scr ws => okLs n ws
  | .dic kvs => okLk n kvs
  | .loc i => decide (i < n)
  | .non => true
  | .bl _ => true
  | .int _ => true
  | .str _ => true
  | .ty _ => true
  | .obj _ => true
def okLs (n : Nat) : List W → Bool
  | [] => true
  | w :: ws => okL n w && okLs n ws
def okLk (n : Nat) : List (Key × W) → Bool
  | [] => true
  | (_, w) :: ws => okL n w && okLk n ws
end
def okO (n : Nat) : Ob → Bool
  | .lst ws => okLs n ws
  | .dic kvs => okLk n kvs
def okStt (n : Nat) (st st' : Stt) : Prop := ∀ i, i < n → st'[i]? = st[i]? ∨ ∃ ob, st'[i]? = some (some ob) ∧ okO n ob = true
mutual
def fzW (n : Nat) (st : Stt) : W → Option W
  | .tup ws => (fzWs n st ws).map .tup
  | .lst ws => (fzWs n st ws).map .lst
  | .loc i => if i < n then some (.loc i) else match st[i]? with
    | some (some (.lst us)) => if okLs n us = true then some (.lst us) else none
    | some (some (.dic us)) => if okLk n us = true then some (.dic us) else none
    | _ => none
  | .dic kvs => if okLk n kvs = true then some (.dic kvs) else none
  | .prs us => if okLs n us = true then some (.prs us) else none
  | .scr us => if okLs n us = true then some (.scr us) else none
  | .non => some .non
  | .bl b => some (.bl b)
  | .int b => some (.int b)
  | .str b => some (.str b)
  | .ty b => some (.ty b)
  | .obj b => some (.obj b)
def fzWs (n : Nat) (st : Stt) : List W → Option (List W)
  | [] => some []
  | w :: ws => match fzW n st w, fzWs n st ws with
    | some a, some b => some (a :: b)
    | _, _ => none
end
open Classical in
noncomputable def frz (m : FM) : FM := fun ws st => match m ws st with
  | .ok w st' => if okStt st.length st st' then (match fzW st.length st' w with
      | some w' => .ok w' (st'.take st.length)
      | none => .no) else .no
  | .er x st' => if okStt st.length st st' ∧ x.fs = [] then .er x (st'.take st.length) else .no
  | .no => .no
section
variable {K : PySem.W.Frag} {G G' : Gm} {H H' : Hp}
mutual
theorem RepV.okL (h : G.ls.length = n) : ∀ {w : W} {v : V}, RepV K G H w v → okL n w = true
  | _, _, .non => by rw [Sim.okL]
  | _, _, .bl b => by rw [Sim.okL]
  | _, _, .int i => by rw [Sim.okL]
  | _, _, .str s => by rw [Sim.okL]
  | _, _, .ty n => by rw [Sim.okL]
  | _, _, .obj a => by rw [Sim.okL]
  | _, _, .tup _ r => by rw [Sim.okL]; exact RepL.okL h r
  | _, _, .prs _ r => by rw [Sim.okL]; exact RepL.okL h r
  | _, _, .lst _ r => by rw [Sim.okL]; exact RepL.okL h r
  | _, _, .scr _ r => by rw [Sim.okL]; exact RepL.okL h r
  | _, _, .dic _ r => by rw [Sim.okL]; exact RepK.okL h r
  | _, _, .loc e => by rw [Sim.okL]; exact decide_eq_true (by rw [← h]; exact (List.getElem?_eq_some_iff.mp e).1)
theorem RepL.okL (h : G.ls.length = n) : ∀ {ws : List W} {vs : List V}, RepL K G H ws vs → okLs n ws = true
  | _, _, .nil => by rw [okLs]
  | _, _, .cons a r => by rw [okLs, RepV.okL h a, RepL.okL h r]; rfl
theorem RepK.okL (h : G.ls.length = n) : ∀ {ws : List (Key × W)} {vs : List (Key × V)}, RepK K G H ws vs → okLk n ws = true
  | _, _, .nil => by rw [okLk]
  | _, _, .cons a r => by rw [okLk, RepV.okL h a, RepK.okL h r]; rfl
end
/-- fewer places, the same heap -/
structure Shr (G G' : Gm) : Prop where
  ls : ∀ (i : Nat) (a : Addr), i < G.ls.length → G'.ls[i]? = some a → G.ls[i]? = some a
  al : ∀ a, G.alive a → G'.alive a
mutual
theorem RepV.shr (x : Shr G G') : ∀ {w : W} {v : V}, okL G.ls.length w = true → RepV K G' H w v → RepV K G H w v
  | _, _, _, .non => .non
  | _, _, _, .bl b => .bl b
  | _, _, _, .int i => .int i
  | _, _, _, .str s => .str s
  | _, _, _, .ty n => .ty n
  | _, _, _, .obj a => .obj a
  | _, _, o, .tup h r => .tup (h.imp_left fun z => ⟨z.1, fun y => z.2 (x.al _ y)⟩) (RepL.shr x (by rw [Sim.okL] at o; exact o) r)
  | _, _, o, .prs h r => .prs ⟨h.1, fun y => h.2 (x.al _ y)⟩ (RepL.shr x (by rw [Sim.okL] at o; exact o) r)
  | _, _, o, .lst h r => .lst ⟨h.1, fun y => h.2 (x.al _ y)⟩ (RepL.shr x (by rw [Sim.okL] at o; exact o) r)
  | _, _, o, .scr h r => .scr (h.imp_left fun z => ⟨z.1, fun y => z.2 (x.al _ y)⟩) (RepL.shr x (by rw [Sim.okL] at o; exact o) r)
  | _, _, o, .dic h r => .dic ⟨h.1, fun y => h.2 (x.al _ y)⟩ (RepK.shr x (by rw [Sim.okL] at o; exact o) r)
  | _, _, o, .loc e => .loc (x.ls _ _ (by rw [Sim.okL] at o; exact of_decide_eq_true o) e)
theorem RepL.shr (x : Shr G G') : ∀ {ws : List W} {vs : List V}, okLs G.ls.length ws = true → RepL K G' H ws vs → RepL K G H ws vs
  | _, _, _, .nil => .nil
  | _, _, o, .cons a r => by
    rw [okLs, Bool.and_eq_true] at o
    exact .cons (RepV.shr x o.1 a) (RepL.shr x o.2 r)
theorem RepK.shr (x : Shr G G') : ∀ {ws : List (Key × W)} {vs : List (Key × V)}, okLk G.ls.length ws = true → RepK K G' H ws vs → RepK K G H ws vs
  | _, _, _, .nil => .nil
  | _, _, o, .cons a r => by
    rw [okLk, Bool.and_eq_true] at o
    exact .cons (RepV.shr x o.1 a) (RepK.shr x o.2 r)
end
theorem alive_st {ls : List Addr} {st : Stt} {hid : List Addr} {a : Addr} (h : Gm.alive ⟨ls, st, hid⟩ a) : (∃ (i : Nat) (ob : Ob), ls[i]? = some a ∧ st[i]? = some (some ob)) ∨ a ∈ hid := h
/-- the world cut back -/
theorem frz_cut {ls' : List Addr} {st' : Stt} (w : World K G H) (x : Ext G H (G.to ls' st') H') (w' : World K (G.to ls' st') H') (ok : okStt G.st.length G.st st') :
    Shr (G.to G.ls (st'.take G.st.length)) (G.to ls' st') ∧ Ext G H (G.to G.ls (st'.take G.st.length)) H' ∧ World K (G.to G.ls (st'.take G.st.length)) H' := by
  have hlen := w.len
  have hle : G.ls.length ≤ ls'.length := by
    by_cases h0 : G.ls.length = 0
    · omega
    · have := x.ls (G.ls.length - 1) _ (List.getElem?_eq_getElem (by omega))
      have := (List.getElem?_eq_some_iff.mp this).1
      simp only at this
      omega
  have hst : G.st.length ≤ st'.length := by
    have : ls'.length = st'.length := w'.len
    omega
  have tk : ∀ (i : Nat) (ob : Ob), (st'.take G.st.length)[i]? = some (some ob) → i < G.st.length ∧ st'[i]? = some (some ob) := fun i ob e => by
    have hi := (List.getElem?_eq_some_iff.mp e).1
    rw [List.length_take] at hi
    rw [List.getElem?_take_of_lt (by omega)] at e
    exact ⟨by omega, e⟩
  have alv : ∀ a, (G.to G.ls (st'.take G.st.length)).alive a → (G.to ls' st').alive a := fun a z => by
    rcases z with ⟨i, ob, e1, e2⟩ | z
    · exact .inl ⟨i, ob, x.ls i a e1, (tk i ob e2).2⟩
    · exact .inr z
  have alG : ∀ a, (G.to G.ls (st'.take G.st.length)).alive a → G.alive a ∨ H a = none := fun a z => x.al a (alv a z)
  have sh : Shr (G.to G.ls (st'.take G.st.length)) (G.to ls' st') := ⟨fun i a hi e => by
    have hi : i < G.ls.length := hi
    have q := x.ls i _ (List.getElem?_eq_getElem hi)
    rw [e] at q
    rw [Option.some.inj q]
    exact List.getElem?_eq_getElem hi, alv⟩
  refine ⟨sh, ⟨fun _ _ e => e, x.keep, alG, x.non, rfl, x.hidk⟩, ⟨?_, w.nd, fun a ha => fun z => w.tr a ha (x.non a z), fun a ha => ⟨?_, (w.hd a ha).2⟩, fun i a ob e1 e2 => ?_⟩⟩
  · show G.ls.length = (st'.take G.st.length).length
    rw [List.length_take]
    omega
  · rw [x.hidk a ha]; exact (w.hd a ha).1
  · obtain ⟨hi, e3⟩ := tk i ob e2
    have ro := w'.at' i a ob (x.ls i a e1) e3
    have okob : okO G.ls.length ob = true := by
      rcases ok i hi with q | ⟨ob', q, h⟩
      · rw [e3] at q
        have ro2 := w.at' i a ob e1 q.symm
        cases ob with
        | lst us => obtain ⟨_, _, r⟩ := ro2; exact RepL.okL rfl r
        | dic us => obtain ⟨_, _, r⟩ := ro2; exact RepK.okL rfl r
      · rw [e3] at q
        cases q
        rw [hlen]; exact h
    cases ob with
    | lst us => obtain ⟨vs, e, r⟩ := ro; exact ⟨vs, e, RepL.shr sh okob r⟩
    | dic us => obtain ⟨vs, e, r⟩ := ro; exact ⟨vs, e, RepK.shr sh okob r⟩
mutual
theorem fz_rep {ls' : List Addr} {st' : Stt} (w' : World K (G.to ls' st') H') (sh : Shr G (G.to ls' st')) (hl : ∀ (i : Nat) (a : Addr), G.ls[i]? = some a → ls'[i]? = some a) : ∀ (w : W) (v : V) (w2 : W), RepV K (G.to ls' st') H' w v → fzW G.ls.length st' w = some w2 → RepV K G H' w2 v
  | .tup ws, v, w2, r, e => by
    rw [fzW] at e
    cases e1 : fzWs G.ls.length st' ws with
    | none => rw [e1] at e; cases e
    | some us =>
      rw [e1] at e
      cases e
      cases r with
      | tup h rl => exact .tup (h.imp_left fun z => ⟨z.1, fun y => z.2 (sh.al _ y)⟩) (fzs_rep w' sh hl ws _ us rl e1)
  | .lst ws, v, w2, r, e => by
    rw [fzW] at e
    cases e1 : fzWs G.ls.length st' ws with
    | none => rw [e1] at e; cases e
    | some us =>
      rw [e1] at e
      cases e
      cases r with
      | lst h rl => exact .lst ⟨h.1, fun y => h.2 (sh.al _ y)⟩ (fzs_rep w' sh hl ws _ us rl e1)
  | .loc i, v, w2, r, e => by
    rw [fzW] at e
    split at e
    · rename_i hi
      cases e
      exact RepV.shr sh (by rw [okL]; exact decide_eq_true hi) r
    · rename_i hi
      cases r with
      | loc he =>
        rename_i a
        have he : ls'[i]? = some a := he
        have nal : ¬ G.alive a := fun z => by
          rcases z with ⟨j, ob, e1, _⟩ | z
          · have e2 := hl j a e1
            obtain ⟨h1, q1⟩ := List.getElem?_eq_some_iff.mp he
            obtain ⟨h2, q2⟩ := List.getElem?_eq_some_iff.mp e2
            have : i = j := (List.getElem_inj w'.nd).mp (q1.trans q2.symm)
            exact hi (by rw [this]; exact (List.getElem?_eq_some_iff.mp e1).1)
          · exact (w'.hd a z).2 (List.mem_of_getElem? he)
        split at e
        · rename_i us hs
          split at e
          · rename_i ho
            cases e
            obtain ⟨vs, hv, rl⟩ := w'.at' i a _ he hs
            exact .lst ⟨hv, nal⟩ (RepL.shr sh ho rl)
          · cases e
        · rename_i us hs
          split at e
          · rename_i ho
            cases e
            obtain ⟨vs, hv, rl⟩ := w'.at' i a _ he hs
            exact .dic ⟨.inl hv, nal⟩ (RepK.shr sh ho rl)
          · cases e
        · cases e
  | .non, v, w2, r, e => by rw [fzW] at e; cases e; exact RepV.shr sh (by rw [okL]) r
  | .bl _, v, w2, r, e => by rw [fzW] at e; cases e; exact RepV.shr sh (by rw [okL]) r
  | .int _, v, w2, r, e => by rw [fzW] at e; cases e; exact RepV.shr sh (by rw [okL]) r
  | .str _, v, w2, r, e => by rw [fzW] at e; cases e; exact RepV.shr sh (by rw [okL]) r
  | .ty _, v, w2, r, e => by rw [fzW] at e; cases e; exact RepV.shr sh (by rw [okL]) r
  | .obj _, v, w2, r, e => by rw [fzW] at e; cases e; exact RepV.shr sh (by rw [okL]) r
  | .dic _, v, w2, r, e => by
    rw [fzW] at e
    split at e
    · rename_i h
      cases e
      exact RepV.shr sh (by rw [okL]; exact h) r
    · cases e
  | .prs _, v, w2, r, e => by
    rw [fzW] at e
    split at e
    · rename_i h
      cases e
      exact RepV.shr sh (by rw [okL]; exact h) r
    · cases e
  | .scr _, v, w2, r, e => by
    rw [fzW] at e
    split at e
    · rename_i h
      cases e
      exact RepV.shr sh (by rw [okL]; exact h) r
    · cases e
theorem fzs_rep {ls' : List Addr} {st' : Stt} (w' : World K (G.to ls' st') H') (sh : Shr G (G.to ls' st')) (hl : ∀ (i : Nat) (a : Addr), G.ls[i]? = some a → ls'[i]? = some a) : ∀ (ws : List W) (vs : List V) (us : List W), RepL K (G.to ls' st') H' ws vs → fzWs G.ls.length st' ws = some us → RepL K G H' us vs
  | [], _, _, r, e => by cases r; rw [fzWs] at e; cases e; exact .nil
  | w :: ws, _, us, r, e => by
    cases r with
    | cons a b =>
      rw [fzWs] at e
      cases e1 : fzW G.ls.length st' w with
      | none => rw [e1] at e; cases e
      | some u =>
        cases e2 : fzWs G.ls.length st' ws with
        | none => rw [e1, e2] at e; cases e
        | some us2 => rw [e1, e2] at e; cases e; exact .cons (fz_rep w' sh hl w _ u a e1) (fzs_rep w' sh hl ws _ us2 b e2)
end
/-- THE RULE: a def's promise, its own places let go -/
theorem fn_frz {P : Program} {w : PySem.World} {mg : Str → Option Value} {base : Heap} {CX : CXT} {f : Addr} {fd : FuncData} {ps : List Str} {k n : Nat} {m : FM} (F : FnOk P w K mg base CX k f fd ps (spF K n m)) : FnOk P w K mg base CX k f fd ps (spF K n (frz m)) :=
  F.imp fun vs H Q E q => by
    obtain ⟨hl, G, ws, wo, rl, hp⟩ := q
    refine ⟨hl, G, ws, wo, rl, ?_⟩
    unfold frz at hp
    cases e : m ws G.st with
    | no => rw [e] at hp; exact hp.elim
    | er x st' =>
      rw [e] at hp
      dsimp only at hp
      split at hp
      · rename_i hok
        intro ls' H' d xe w' rx
        obtain ⟨_, x2, w2⟩ := frz_cut wo xe w' hok.1
        exact hp G.ls H' d x2 w2 (.inl hok.2)
      · exact hp.elim
    | ok r st' =>
      rw [e] at hp
      dsimp only at hp
      split at hp
      · rename_i hok
        cases ef : fzW G.st.length st' r with
        | none => rw [ef] at hp; exact hp.elim
        | some r' =>
          rw [ef] at hp
          intro ls' H' v xe w' rv
          obtain ⟨sh, x2, w2⟩ := frz_cut wo xe w' hok
          refine hp G.ls H' v x2 w2 ?_
          exact fz_rep (G := G.to G.ls (st'.take G.st.length)) w' sh xe.ls r v r' rv (by rw [show (G.to G.ls (st'.take G.st.length)).ls.length = G.st.length from wo.len]; exact ef)
      · exact hp.elim
theorem frz_eq {m : FM} {ws : List W} {st st' : Stt} {w w' : W} (h : m ws st = .ok w st') (ok : okStt st.length st st') (hf : fzW st.length st' w = some w') : frz m ws st = .ok w' (st'.take st.length) := by
  unfold frz
  rw [h]
  dsimp only
  rw [if_pos ok, hf]
/-- where nothing that stood was changed -/
theorem frz_new {m : FM} {ws : List W} {st ex : Stt} {w w' : W} (h : m ws st = .ok w (st ++ ex)) (hf : fzW st.length (st ++ ex) w = some w') : frz m ws st = .ok w' st := by
  have := frz_eq h (fun i hi => .inl (List.getElem?_append_left hi)) hf
  rw [this, List.take_left]
end
end Sim
end
section
set_option Elab.async false
set_option linter.all false
set_option maxRecDepth 100000
set_option maxHeartbeats 1000000
open PySem PySem.Spec PyProof.Rows L2
namespace Low
section
variable {prog : Program} {w : PySem.World} {A : Around} {E : Value → Shared → Prop} {s : Shared}
theorem places_rev (n : Nat) : Builtin.Slice.slicePlaces ((n : Int) - 1) (-1) (-1) = n := by
  unfold Builtin.Slice.slicePlaces
  have h1 : ¬ ((-1 : Int) > 0) := by omega
  simp only [h1, if_false]
  split
  · rw [show (- -1 : Int) = 1 by decide, Int.ediv_one]; omega
  · omega
theorem applied_rev {sl : Addr} {vl vu vs : Value} {n : Nat} {Q : Int × Int × Nat → Shared → Prop} (hs : s.heap.IsSliceOf sl vl vu vs) (pl : IsPart vl none) (pu : IsPart vu none) (ps : IsPart vs (some (-1)))
    (h : Q ((n : Int) - 1, -1, n) s) : wpAny (model prog w) A (Builtin.Slice.sliceApplied (.ref sl) (pure (n : Int))) Q E s := by
  obtain ⟨os, hos, hcs, hds⟩ := id hs
  unfold Builtin.Slice.sliceApplied Builtin.Slice.sliceFields
  refine wpAny_bind (wpAny_bind (wpAny_field hos hds (x := vl) rfl (wpAny_bind (wpAny_field hos hds (x := vu) rfl (wpAny_bind (wpAny_field hos hds (x := vs) rfl (wpAny_pure ?_)))))))
  refine wpAny_bind (HT.slicePart_ ps ?_)
  show wpAny _ _ (if ((-1 : Int) == 0) = true then _ else _) _ _ s
  rw [if_neg (by decide)]
  refine wpAny_bind (HT.slicePart_ pl (wpAny_bind (HT.slicePart_ pu (wpAny_bind (wpAny_pure ?_)))))
  show wpAny _ _ (match Builtin.Slice.sliceAdjust none none (-1) (n : Int) with | (lo, hi) => pure (lo, (-1 : Int), Builtin.Slice.slicePlaces lo hi (-1))) _ _ s
  have ha : Builtin.Slice.sliceAdjust none none (-1) (n : Int) = ((n : Int) - 1, -1) := rfl
  rw [ha]
  show wpAny _ _ (pure ((n : Int) - 1, (-1 : Int), Builtin.Slice.slicePlaces ((n : Int) - 1) (-1) (-1))) _ _ s
  rw [places_rev]
  exact wpAny_pure h
theorem pick_rev (xs : Array Value) : ((List.range xs.size).filterMap fun (m : Nat) => xs[(((xs.size : Int) - 1) + (m : Int) * (-1)).toNat]?).toArray = xs.toList.reverse.toArray := by
  have e : (List.range xs.size).filterMap (fun (m : Nat) => xs[(((xs.size : Int) - 1) + (m : Int) * (-1)).toNat]?) = ((List.range xs.size).map fun k => xs.size - 1 - k).filterMap (xs[·]?) := by
    rw [List.filterMap_map]
    congr 1
    funext m
    show _ = xs[xs.size - 1 - m]?
    congr 1
    omega
  rw [e, PySem.W.krv_range, List.filterMap_reverse, PySem.W.krv_all]
theorem getItem_tuple_rev {t sl : Addr} {items : Array Value} {vl vu vs : Value} {Q : Value → Shared → Prop} (ht : IsTup s.heap t items) (hs : s.heap.IsSliceOf sl vl vu vs) (pl : IsPart vl none) (pu : IsPart vu none) (ps : IsPart vs (some (-1)))
    (h : Q (.ref s.heap.objs.size) { s with heap := s.heap.push { cls := .type "tuple", data := .seq items.toList.reverse.toArray } })
    (hsz : items.size ≤ sizeLine) : wpAny (model prog w) A (getItem (.ref t) (.ref sl)) Q E s := by
  have htake : sizeOk (.seq items.toList.reverse.toArray) := by
    show items.toList.reverse.toArray.size ≤ sizeLine
    rw [List.size_toArray, List.length_reverse, Array.length_toList]
    exact hsz
  obtain ⟨os, hos, hcs, hds⟩ := id hs
  have hTs : s.TypeIs (.ref sl) "slice" := ⟨os, hos, hcs⟩
  unfold getItem
  try with_reducible refine wpAny_holding ?_
  first | refine wpAny_bind (wpAny_pure ?_) | skip
  refine wpAny_bind (wpAny_sequenceKey ht.typeIs (by decide) ?_)
  refine wpAny_bind (wpAny_callSpecial?_slot (name := Str.ofString "__getitem__") ht.typeIs PyProof.Rows.slot_tuple_getitem
    (wpAny_call_entry PyProof.Rows.slot_tuple_getitem ht.typeIs entry_tuple_getitem ?_ (args_tuple_getitem _ _)))
  show wpAny _ _ (Builtin.Tuple.tupleItemsOf (.ref t) >>= _) _ _ s
  refine wpAny_bind (tupleItemsOf_ ht ?_)
  refine wpAny_bind (wpAny_typeOf hTs ?_)
  rw [if_pos (by decide)]
  refine wpAny_bind (applied_rev hs pl pu ps ?_)
  have hno : ¬ ((((items.size : Int) - 1) == 0 && (-1 : Int) == 1 && items.size == items.size) = true) := by
    intro q
    rw [Bool.and_eq_true, Bool.and_eq_true] at q
    exact absurd (eq_of_beq q.1.2) (by decide)
  show wpAny _ _ (if (((items.size : Int) - 1) == 0 && (-1 : Int) == 1 && items.size == items.size) = true then _ else _) _ _ s
  rw [if_neg hno, pick_rev]
  first
    | exact wpAny_bind (m := Builtin.Tuple.tupleExact _) (wpAny_newObj_type (wpAny_pure ⟨_, rfl, wpAny_pure h⟩) htake)
    | exact wpAny_bind (m := Builtin.Tuple.tupleExact _) (wpAny_newObj_type (wpAny_bind (wpAny_pure (wpAny_pure ⟨_, rfl, wpAny_pure h⟩))) htake)
    | exact wpAny_bind (wpAny_bind (m := Builtin.Tuple.tupleExact _) (wpAny_newObj_type (wpAny_pure (wpAny_pure ⟨_, rfl, wpAny_pure h⟩)) htake))
    | exact wpAny_bind (wpAny_bind (m := Builtin.Tuple.tupleExact _) (wpAny_newObj_type (wpAny_pure ⟨_, rfl, wpAny_pure h⟩) htake))
end
def tRevT (K : PySem.W.Frag) (te : TE) : TE := fun σ H Q => te σ H fun x H1 => ∃ a xs, x = .ref a ∧ SqT K H1 a xs ∧ ∀ (p : Addr) (o : Obj), o.dict = none → H1 p = none → Q (.ref p) (upd H1 p (.frz o (.tup xs.reverse)))
theorem pe_revT {X : Cx} {e : Expr} {te : TE} {k : Nat} {p1 p2 p3 pos : Pos} (he : PE X e te) : PE X (.Subscript e (.Slice none none (some (.UnaryOp .USub (.Constant (.int 1) k p1) p2)) p3) pos) (tRevT X.K te) := by
  refine ⟨fun pins s σ H Q I h => ?_⟩
  refine Subscript_ (thn (he.run pins s σ H _ I h) fun v s1 ⟨x, H1, I1, r1, q1⟩ => ?_)
  obtain ⟨a, xs, ex, hx, q⟩ := q1
  subst ex
  cases r1
  have hst : PO X (some (.UnaryOp .USub (.Constant (.int 1) k p1) p2)) (tPart (tUn (rU fun i => .int (-i)) (tC (.int 1)))) := po_some (pe_un un_neg pe_int)
  refine wpAny_Slice (thn (po_none.run pins s1 σ H1 (fun o H2 => o = none ∧ H2 = H1) I1 ⟨rfl, rfl⟩) fun vl s2 ⟨l, H2, I2, pl, el, e2⟩ => ?_)
  subst el e2
  refine thn (po_none.run pins s2 σ H2 (fun o H3 => o = none ∧ H3 = H2) I2 ⟨rfl, rfl⟩) fun vu s3 ⟨u, H3, I3, pu, eu, e3⟩ => ?_
  subst eu e3
  refine thn (hst.run pins s3 σ H3 (fun o H4 => o = some (-1) ∧ H4 = H3) I3 ⟨1, rfl, -1, rfl, rfl, rfl⟩) fun vs s4 ⟨o, H4, I4, ps, eo, e4⟩ => ?_
  subst eo e4
  have I5 : Inv X pins σ H4 { s4 with heap := s4.heap.push { cls := .type "slice", data := .fields #[vl, vu, vs] } } := I4.kept (t' := s4.toks) fun b ob q => Heap.get?_push_of_some _ q
  obtain ⟨its, r, ht, hz⟩ := I5.tuple hx
  have hlen := r.length
  show wpAny (model X.prog X.w) X.A (subscriptTail e (.Slice none none (some (.UnaryOp .USub (.Constant (.int 1) k p1) p2)) p3) (.ref a) (.ref s4.heap.objs.size)) (EP X pins σ Q) X.xe { s4 with heap := s4.heap.push { cls := .type "slice", data := .fields #[vl, vu, vs] } }
  refine tail_any (ops := [.ref a, .ref s4.heap.objs.size]) ht.typeIs (PyProof.Rows.slot_tuple_getitem.lookup) ?_ (by with_unfolding_all rfl)
  refine getItem_tuple_rev ht (Heap.IsSliceOf.new _ vl vu vs) pl pu ps ?_ (by rw [List.size_toArray]; omega)
  exact Sim.tup_laid (s := { s4 with heap := s4.heap.push { cls := .type "slice", data := .fields #[vl, vu, vs] } }) (h' := s4.heap.push { cls := .type "slice", data := .fields #[vl, vu, vs] }) (tk := s4.toks) I5 r.reverse (by rw [List.length_reverse]; exact hz) q
end Low
namespace Sim
section
variable {X : Cx} {Wx : WX}
/-- -e -/
def eNeg (m : EM) : EM := fun ρ st => (m ρ st).bind fun x st1 => match x with
  | .int i => .ok (.int (-i)) st1
  | _ => .no
theorem ce_neg {e : Expr} {te : TE} {m : EM} {pos : Pos} (h : CE X Wx e te m) : CE X Wx (.UnaryOp .USub e pos) (tUn (rU fun i => .int (-i)) te) (eNeg m) := by
  refine ⟨pe_un un_neg h.pe, fun G H ρ σ Q w r hp => ?_⟩
  refine h.sem G H ρ σ _ w r (PostR.bind hp fun x st1 ls1 H1 v q1 e1 w1 rv hp1 => ?_)
  clear q1
  split at hp1
  · cases rv.int_inv
    exact ⟨_, rfl, PostR.ok (G := G.to ls1 st1) w1 hp1 (.int _)⟩
  · exact hp1.elim
/-- t[::-1] of a tuple -/
def eRevT (m : EM) : EM := fun ρ st => (m ρ st).bind fun x st1 => match x with
  | .tup ws => .ok (.tup ws.reverse) st1
  | _ => .no
theorem ce_revT {e : Expr} {te : TE} {m : EM} {k : Nat} {p1 p2 p3 pos : Pos} (h : CE X Wx e te m) : CE X Wx (.Subscript e (.Slice none none (some (.UnaryOp .USub (.Constant (.int 1) k p1) p2)) p3) pos) (Low.tRevT X.K te) (eRevT m) := by
  refine ⟨Low.pe_revT h.pe, fun G H ρ σ Q w r hp => ?_⟩
  refine h.sem G H ρ σ _ w r (PostR.bind hp fun x st1 ls1 H1 v q1 e1 w1 rv hp1 => ?_)
  clear q1
  split at hp1
  · obtain ⟨a, vs, rfl, sq, rl⟩ := tup_sq rv
    exact ⟨a, vs, rfl, sq, fun p o hd hpn => PostV.newT (G := G.to ls1 st1) w1 (PostV.of hp1) rl.rev hd hpn⟩
  · exact hp1.elim
/-- t[::-1] of a list -/
def eRevL (m : EM) : EM := fun ρ st => (m ρ st).bind fun x st1 => match lstOf st1 x with
  | some ws => .ok (.lst ws.reverse) st1
  | none => .no
def eRevO (m : EM) : EM := fun ρ st => (m ρ st).bind fun x st1 => match lstOf st1 x with
  | some ws => .ok (.loc st1.length) (st1 ++ [some (.lst ws.reverse)])
  | none => .no
theorem ce_revL {e : Expr} {te : TE} {m : EM} {k : Nat} {p1 p2 p3 pos : Pos} (h : CE X Wx e te m) : CE X Wx (.Subscript e (.Slice none none (some (.UnaryOp .USub (.Constant (.int 1) k p1) p2)) p3) pos) (tRevL X.K te) (eRevL m) := by
  refine ⟨pe_revL h.pe, fun G H ρ σ Q w r hp => ?_⟩
  refine h.sem G H ρ σ _ w r (PostR.bind hp fun x st1 ls1 H1 v q1 e1 w1 rv hp1 => ?_)
  clear q1
  cases es : lstOf st1 x with
  | none => rw [es] at hp1; exact hp1.elim
  | some ws =>
    rw [es] at hp1
    obtain ⟨a, vs, rfl, sq, rl⟩ := lst_sq (G := G.to ls1 st1) w1 rv es
    exact ⟨a, vs, rfl, sq, fun p hpn => PostV.newL (G := G.to ls1 st1) w1 (PostV.of hp1) rl.rev hpn⟩
theorem ce_revO {e : Expr} {te : TE} {m : EM} {k : Nat} {p1 p2 p3 pos : Pos} (h : CE X Wx e te m) : CE X Wx (.Subscript e (.Slice none none (some (.UnaryOp .USub (.Constant (.int 1) k p1) p2)) p3) pos) (tRevL X.K te) (eRevO m) := by
  refine ⟨pe_revL h.pe, fun G H ρ σ Q w r hp => ?_⟩
  refine h.sem G H ρ σ _ w r (PostR.bind hp fun x st1 ls1 H1 v q1 e1 w1 rv hp1 => ?_)
  clear q1
  cases es : lstOf st1 x with
  | none => rw [es] at hp1; exact hp1.elim
  | some ws =>
    rw [es] at hp1
    obtain ⟨a, vs, rfl, sq, rl⟩ := lst_sq (G := G.to ls1 st1) w1 rv es
    exact ⟨a, vs, rfl, sq, fun p hpn => post_push w1 hpn hp1 ⟨_, upd_same, rl.rev.mono (Ext.push w1 _ hpn)⟩⟩
theorem post_bl {K : PySem.W.Frag} {st : Stt} {H : Hp} {ls : List Addr} {hid : List Addr} {Wy : Value → Option Addr → Hp → Prop} (w : World K ⟨ls, st, hid⟩ H) {r : Rs W} (h : ∃ st', r = .ok (.bl true) st') : PostR K (RepV K) Wy ⟨ls, st, hid⟩ H r (fun v _ => v = .bl true) := by
  obtain ⟨st', e⟩ := h
  rw [e]
  intro ls' H' v x w' rv
  cases rv
  rfl
/-- the end: the script is there, nothing else -/
theorem law_sp {K : PySem.W.Frag} {H : Hp} {a : Addr} {m : FM} (ns : List Int) (hO : Only H) (hS : SqL K H a (ns.map V.int)) (hm : ∃ st', m [.scr (ns.map .int)] [] = .ok (.bl true) st') :
    spF K 1 m [.ref a] H (fun v _ => v = .bl true) fun _ _ _ => False := by
  have wo : World K ⟨[], [], []⟩ H := ⟨rfl, .nil, fun a h => absurd h List.not_mem_nil, fun a h => absurd h List.not_mem_nil, fun i a ob h => by simp at h⟩
  have nal : ∀ b, ¬ Gm.alive ⟨[], [], []⟩ b := fun b z => by
    rcases z with ⟨i, ob, e, _⟩ | z
    · simp at e
    · exact absurd z List.not_mem_nil
  refine ⟨rfl, ⟨[], [], []⟩, [.scr (ns.map .int)], wo, .cons ?_ .nil, post_bl wo hm⟩
  rcases hS with h | h
  · exact .scr (.inl ⟨h, nal a⟩) rep_ints
  · exact .scr (.inr h) rep_ints
theorem blkE {X : Cx} {scope : Scope} {elt : Expr} {te : TE} {m : EM} (h : ∀ (s : Shared) (H : Hp) (C : Addr) (cl : List (Str × Addr)) (fp : List Addr), ∃ t', CE (X.blk s H scope (compEnvC scope cl C X.env) fp) W0 elt t' m ∧ t' = te) : Blk X scope fun Y => CE Y W0 elt te m := fun s H C cl fp => by
  obtain ⟨_, z, rfl⟩ := h s H C cl fp
  exact z
theorem blkT {X : Cx} {scope : Scope} {ifs : List Expr} {tt : TT} {c : TM} (h : ∀ (s : Shared) (H : Hp) (C : Addr) (cl : List (Str × Addr)) (fp : List Addr), ∃ t', CTs (X.blk s H scope (compEnvC scope cl C X.env) fp) W0 ifs t' c ∧ t' = tt) : Blk X scope fun Y => CTs Y W0 ifs tt c := fun s H C cl fp => by
  obtain ⟨_, z, rfl⟩ := h s H C cl fp
  exact z
theorem law_cx {P : Program} {w : PySem.World} {H : Hp} {s s' : Shared} {e : Value} (h : L2.CX P w [] H s (fun _ _ _ => False) e s') : False := by
  obtain ⟨_, _, _, _, _, _, _, _, _, _, _, _, e⟩ := h
  exact e
end
end Sim
end
section
set_option Elab.async false
set_option linter.all false
set_option maxRecDepth 100000
set_option maxHeartbeats 1000000
open PySem PySem.Spec PyProof.Rows L2
namespace Sim
/-! the mirrors, worked out: one equation for each -/
section
variable {ρ : Ev} {st : Stt}
@[simp] theorem ev_var (i : Nat) : eVar i ρ st = match ρ[i]? with | some (some w) => .ok w st | _ => .no := by unfold eVar; rfl
@[simp] theorem ev_c (w : W) : eC w ρ st = .ok w st := id rfl
@[simp] theorem ev_nil : aNil ρ st = .ok [] st := id rfl
@[simp] theorem ev_yes : tmYes ρ st = .ok true st := id rfl
@[simp] theorem ev_oNone : oNone ρ st = .ok none st := id rfl
/-- what an option tells -/
def optR (o : Option W) (st : Stt) : Rs W := match o with | some w => .ok w st | none => .no
@[simp] theorem optR_some (w : W) : optR (some w) st = .ok w st := id rfl
def optL (o : Option (List W)) (st : Stt) : Rs W := match o with | some w => .ok (.lst w) st | none => .no
@[simp] theorem optL_some (w : List W) : optL (some w) st = .ok (.lst w) st := id rfl
def optO (o : Option (List W)) (st : Stt) : Rs W := match o with | some us => .ok (.loc st.length) (st ++ [some (.lst us)]) | none => .no
@[simp] theorem optO_some (us : List W) : optO (some us) st = .ok (.loc st.length) (st ++ [some (.lst us)]) := id rfl
def consK2 (w : W) (r : Rs (List W)) : Rs (List W) := match r with | .ok ws s => .ok (w :: ws) s | .er x s => .er x s | .no => .no
@[simp] theorem consK2_ok (w : W) (ws : List W) (s : Stt) : consK2 w (.ok ws s) = .ok (w :: ws) s := id rfl
def consK (k : AM) (ρ : Ev) (r : Rs W) : Rs (List W) := match r with | .ok a s => consK2 a (k ρ s) | .er x s => .er x s | .no => .no
@[simp] theorem consK_ok (k : AM) (ρ : Ev) (a : W) (s : Stt) : consK k ρ (.ok a s) = consK2 a (k ρ s) := id rfl
@[simp] theorem ev_cons (m : EM) (k : AM) : aCons m k ρ st = consK k ρ (m ρ st) := by
  unfold aCons consK
  cases m ρ st with
  | ok a s => show (k ρ s).bind _ = consK2 a (k ρ s); cases k ρ s <;> rfl
  | er x s => rfl
  | no => rfl
def tupK  (r : Rs (List W)) : Rs W := match r with | .ok ws s => if ws.length ≤ 1000 then .ok (.tup ws) s else .no | .er x s => .er x s | .no => .no
@[simp] theorem tupK_ok  (ws : List W) (s : Stt) : tupK  (.ok ws s) = if ws.length ≤ 1000 then .ok (.tup ws) s else .no := id rfl
@[simp] theorem ev_tup (k : AM) : eTup k ρ st = tupK (k ρ st) := by unfold eTup tupK; cases k ρ st <;> rfl
def lstK  (r : Rs (List W)) : Rs W := match r with | .ok ws s => if ws.length ≤ 1000 then .ok (.lst ws) s else .no | .er x s => .er x s | .no => .no
@[simp] theorem lstK_ok  (ws : List W) (s : Stt) : lstK  (.ok ws s) = if ws.length ≤ 1000 then .ok (.lst ws) s else .no := id rfl
@[simp] theorem ev_lst (k : AM) : eLst k ρ st = lstK (k ρ st) := by unfold eLst lstK; cases k ρ st <;> rfl
def lstLK  (r : Rs (List W)) : Rs W := match r with | .ok ws s => if ws.length ≤ 1000 then .ok (.loc s.length) (s ++ [some (.lst ws)]) else .no | .er x s => .er x s | .no => .no
@[simp] theorem lstLK_ok  (ws : List W) (s : Stt) : lstLK  (.ok ws s) = if ws.length ≤ 1000 then .ok (.loc s.length) (s ++ [some (.lst ws)]) else .no := id rfl
@[simp] theorem ev_lstL (k : AM) : eLstL k ρ st = lstLK (k ρ st) := by unfold eLstL lstLK; cases k ρ st <;> rfl
def opK2 (f : F2) (x : W) (r : Rs W) : Rs W := match r with | .ok y s => optR (f s x y) s | .er x s => .er x s | .no => .no
@[simp] theorem opK2_ok (f : F2) (x : W) (y : W) (s : Stt) : opK2 f x (.ok y s) = optR (f s x y) s := id rfl
def opK (f : F2) (b : EM) (ρ : Ev) (r : Rs W) : Rs W := match r with | .ok a s => opK2 f a (b ρ s) | .er x s => .er x s | .no => .no
@[simp] theorem opK_ok (f : F2) (b : EM) (ρ : Ev) (a : W) (s : Stt) : opK f b ρ (.ok a s) = opK2 f a (b ρ s) := id rfl
@[simp] theorem ev_op (f : F2) (a b : EM) : eOp f a b ρ st = opK f b ρ (a ρ st) := by
  unfold eOp opK
  cases a ρ st with
  | ok x s => show (b ρ s).bind _ = opK2 f x (b ρ s); cases b ρ s <;> rfl
  | er x s => rfl
  | no => rfl
/-- a value as a test -/
def tvW (w : W) (st : Stt) : Rs Bool := tmV (eC w) [] st
@[simp] theorem tvW_bl (b : Bool) : tvW (.bl b) st = .ok b st := id rfl
def tvK  (r : Rs W) : Rs Bool := match r with | .ok a s => tvW a s | .er x s => .er x s | .no => .no
@[simp] theorem tvK_ok  (a : W) (s : Stt) : tvK  (.ok a s) = tvW a s := id rfl
@[simp] theorem ev_tv (m : EM) : tmV m ρ st = tvK (m ρ st) := by
  unfold tvK tvW tmV
  cases m ρ st with
  | ok a s => cases a <;> rfl
  | er x s => rfl
  | no => rfl
def tnotK  (r : Rs Bool) : Rs Bool := match r with | .ok b s => .ok (!b) s | .er x s => .er x s | .no => .no
@[simp] theorem tnotK_ok  (b : Bool) (s : Stt) : tnotK  (.ok b s) = .ok (!b) s := id rfl
@[simp] theorem ev_tnot (m : TM) : tmNot m ρ st = tnotK (m ρ st) := by unfold tmNot tnotK; cases m ρ st <;> rfl
def tandK (k : TM) (ρ : Ev) (r : Rs Bool) : Rs Bool := match r with | .ok b s => if b = true then k ρ s else .ok false s | .er x s => .er x s | .no => .no
@[simp] theorem tandK_ok (k : TM) (ρ : Ev) (b : Bool) (s : Stt) : tandK k ρ (.ok b s) = if b = true then k ρ s else .ok false s := id rfl
@[simp] theorem ev_tand (m k : TM) : tmAnd m k ρ st = tandK k ρ (m ρ st) := by unfold tmAnd tandK; cases m ρ st <;> rfl
def torK (k : TM) (ρ : Ev) (r : Rs Bool) : Rs Bool := match r with | .ok b s => if b = true then .ok true s else k ρ s | .er x s => .er x s | .no => .no
@[simp] theorem torK_ok (k : TM) (ρ : Ev) (b : Bool) (s : Stt) : torK k ρ (.ok b s) = if b = true then .ok true s else k ρ s := id rfl
@[simp] theorem ev_tor (m k : TM) : tmOr m k ρ st = torK k ρ (m ρ st) := by unfold tmOr torK; cases m ρ st <;> rfl
def fnK (f : F1) (r : Rs (List W)) : Rs W := match r with | .ok ws s => optR (f s ws) s | .er x s => .er x s | .no => .no
@[simp] theorem fnK_ok (f : F1) (ws : List W) (s : Stt) : fnK f (.ok ws s) = optR (f s ws) s := id rfl
@[simp] theorem ev_fn (f : F1) (k : AM) : eFn f k ρ st = fnK f (k ρ st) := by unfold eFn fnK; cases k ρ st <;> rfl
def fnVK (f : FL) (r : Rs (List W)) : Rs W := match r with | .ok ws s => optL (f s ws) s | .er x s => .er x s | .no => .no
@[simp] theorem fnVK_ok (f : FL) (ws : List W) (s : Stt) : fnVK f (.ok ws s) = optL (f s ws) s := id rfl
@[simp] theorem ev_fnV (f : FL) (k : AM) : eFnV f k ρ st = fnVK f (k ρ st) := by unfold eFnV fnVK; cases k ρ st <;> rfl
def fnOK (f : FL) (r : Rs (List W)) : Rs W := match r with | .ok ws s => optO (f s ws) s | .er x s => .er x s | .no => .no
@[simp] theorem fnOK_ok (f : FL) (ws : List W) (s : Stt) : fnOK f (.ok ws s) = optO (f s ws) s := id rfl
@[simp] theorem ev_fnO (f : FL) (k : AM) : eFnO f k ρ st = fnOK f (k ρ st) := by unfold eFnO fnOK; cases k ρ st <;> rfl
def callK (m : FM) (r : Rs (List W)) : Rs W := match r with | .ok ws s => m ws s | .er x s => .er x s | .no => .no
@[simp] theorem callK_ok (m : FM) (ws : List W) (s : Stt) : callK m (.ok ws s) = m ws s := id rfl
@[simp] theorem ev_call (m : FM) (k : AM) : eCall m k ρ st = callK m (k ρ st) := by unfold eCall callK; cases k ρ st <;> rfl
def chK3 (g : F2) (y : W) (r : Rs W) : Rs W := match r with | .ok z s => optR (g s y z) s | .er x s => .er x s | .no => .no
@[simp] theorem chK3_ok (g : F2) (y : W) (z : W) (s : Stt) : chK3 g y (.ok z s) = optR (g s y z) s := id rfl
def chW (g : F2) (y : W) (c : EM) (ρ : Ev) (s : Stt) (o : Option W) : Rs W := match o with
  | some (.bl true) => chK3 g y (c ρ s)
  | some (.bl false) => .ok (.bl false) s
  | _ => .no
@[simp] theorem chW_bl (g : F2) (y : W) (c : EM) (ρ : Ev) (s : Stt) (b : Bool) : chW g y c ρ s (some (.bl b)) = if b = true then chK3 g y (c ρ s) else .ok (.bl false) s := by cases b <;> rfl
def chK2 (f g : F2) (c : EM) (ρ : Ev) (x : W) (r : Rs W) : Rs W := match r with | .ok y s => chW g y c ρ s (f s x y) | .er x s => .er x s | .no => .no
@[simp] theorem chK2_ok (f g : F2) (c : EM) (ρ : Ev) (x : W) (y : W) (s : Stt) : chK2 f g c ρ x (.ok y s) = chW g y c ρ s (f s x y) := id rfl
def chK (f g : F2) (b c : EM) (ρ : Ev) (r : Rs W) : Rs W := match r with | .ok a s => chK2 f g c ρ a (b ρ s) | .er x s => .er x s | .no => .no
@[simp] theorem chK_ok (f g : F2) (b c : EM) (ρ : Ev) (a : W) (s : Stt) : chK f g b c ρ (.ok a s) = chK2 f g c ρ a (b ρ s) := id rfl
@[simp] theorem ev_chain (f g : F2) (a b c : EM) : eChain f g a b c ρ st = chK f g b c ρ (a ρ st) := by
  unfold eChain chK
  cases a ρ st with
  | ok x s =>
    show (b ρ s).bind _ = chK2 f g c ρ x (b ρ s)
    unfold chK2
    cases b ρ s with
    | ok y s2 =>
      show _ = chW g y c ρ s2 (f s2 x y)
      unfold chW
      dsimp only [Rs.bind]
      cases f s2 x y with
      | none => rfl
      | some w => cases w with
        | bl q => cases q with
          | true => show (c ρ s2).bind _ = chK3 g y (c ρ s2); unfold chK3; cases c ρ s2 <;> rfl
          | false => rfl
        | _ => rfl
    | er x s => rfl
    | no => rfl
  | er x s => rfl
  | no => rfl
def negW (w : W) (s : Stt) : Rs W := match w with | .int i => .ok (.int (-i)) s | _ => .no
@[simp] theorem negW_int (i : Int) : negW (.int i) st = .ok (.int (-i)) st := id rfl
def negK  (r : Rs W) : Rs W := match r with | .ok a s => negW a s | .er x s => .er x s | .no => .no
@[simp] theorem negK_ok  (a : W) (s : Stt) : negK  (.ok a s) = negW a s := id rfl
@[simp] theorem ev_neg (m : EM) : eNeg m ρ st = negK (m ρ st) := by unfold eNeg negK negW; cases m ρ st <;> rfl
def revTW (w : W) (s : Stt) : Rs W := match w with | .tup ws => .ok (.tup ws.reverse) s | _ => .no
@[simp] theorem revTW_tup (ws : List W) : revTW (.tup ws) st = .ok (.tup ws.reverse) st := id rfl
def revTK  (r : Rs W) : Rs W := match r with | .ok a s => revTW a s | .er x s => .er x s | .no => .no
@[simp] theorem revTK_ok  (a : W) (s : Stt) : revTK  (.ok a s) = revTW a s := id rfl
@[simp] theorem ev_revT (m : EM) : eRevT m ρ st = revTK (m ρ st) := by unfold eRevT revTK revTW; cases m ρ st <;> rfl
def revLK  (r : Rs W) : Rs W := match r with | .ok a s => optL ((lstOf s a).map List.reverse) s | .er x s => .er x s | .no => .no
@[simp] theorem revLK_ok  (a : W) (s : Stt) : revLK  (.ok a s) = optL ((lstOf s a).map List.reverse) s := id rfl
@[simp] theorem ev_revL (m : EM) : eRevL m ρ st = revLK (m ρ st) := by
  unfold eRevL revLK
  cases m ρ st with
  | ok a s => dsimp only [Rs.bind]; cases lstOf s a <;> rfl
  | er x s => rfl
  | no => rfl
def revOK  (r : Rs W) : Rs W := match r with | .ok a s => optO ((lstOf s a).map List.reverse) s | .er x s => .er x s | .no => .no
@[simp] theorem revOK_ok  (a : W) (s : Stt) : revOK  (.ok a s) = optO ((lstOf s a).map List.reverse) s := id rfl
@[simp] theorem ev_revO (m : EM) : eRevO m ρ st = revOK (m ρ st) := by
  unfold eRevO revOK
  cases m ρ st with
  | ok a s => dsimp only [Rs.bind]; cases lstOf s a <;> rfl
  | er x s => rfl
  | no => rfl
def someW (w : W) (s : Stt) : Rs (Option Int) := match w with | .int i => .ok (some i) s | _ => .no
@[simp] theorem someW_int (i : Int) : someW (.int i) st = .ok (some i) st := id rfl
def oSomeK  (r : Rs W) : Rs (Option Int) := match r with | .ok a s => someW a s | .er x s => .er x s | .no => .no
@[simp] theorem oSomeK_ok  (a : W) (s : Stt) : oSomeK  (.ok a s) = someW a s := id rfl
@[simp] theorem ev_oSome (m : EM) : oSome m ρ st = oSomeK (m ρ st) := by unfold oSome oSomeK someW; cases m ρ st <;> rfl
def slK3 (x : W) (l : Option Int) (r : Rs (Option Int)) : Rs W := match r with | .ok u s => optR (fSl s x l u) s | .er x s => .er x s | .no => .no
@[simp] theorem slK3_ok (x : W) (l : Option Int) (u : Option Int) (s : Stt) : slK3 x l (.ok u s) = optR (fSl s x l u) s := id rfl
def slK2 (x : W) (hi : OM) (ρ : Ev) (r : Rs (Option Int)) : Rs W := match r with | .ok l s => slK3 x l (hi ρ s) | .er x s => .er x s | .no => .no
@[simp] theorem slK2_ok (x : W) (hi : OM) (ρ : Ev) (l : Option Int) (s : Stt) : slK2 x hi ρ (.ok l s) = slK3 x l (hi ρ s) := id rfl
def slK (lo hi : OM) (ρ : Ev) (r : Rs W) : Rs W := match r with | .ok a s => slK2 a hi ρ (lo ρ s) | .er x s => .er x s | .no => .no
@[simp] theorem slK_ok (lo hi : OM) (ρ : Ev) (a : W) (s : Stt) : slK lo hi ρ (.ok a s) = slK2 a hi ρ (lo ρ s) := id rfl
@[simp] theorem ev_sl (m : EM) (lo hi : OM) : eSl m lo hi ρ st = slK lo hi ρ (m ρ st) := by
  unfold eSl slK
  cases m ρ st with
  | ok x s =>
    show (lo ρ s).bind _ = slK2 x hi ρ (lo ρ s)
    unfold slK2
    cases lo ρ s with
    | ok l s2 => show (hi ρ s2).bind _ = slK3 x l (hi ρ s2); unfold slK3; cases hi ρ s2 with
      | ok u s3 => rfl
      | er x s => rfl
      | no => rfl
    | er x s => rfl
    | no => rfl
  | er x s => rfl
  | no => rfl
def slOK3 (x : W) (l : Option Int) (r : Rs (Option Int)) : Rs W := match r with | .ok u s => optO ((lstOf s x).map fun ws => cutW ws l u) s | .er x s => .er x s | .no => .no
@[simp] theorem slOK3_ok (x : W) (l : Option Int) (u : Option Int) (s : Stt) : slOK3 x l (.ok u s) = optO ((lstOf s x).map fun ws => cutW ws l u) s := id rfl
def slOK2 (x : W) (hi : OM) (ρ : Ev) (r : Rs (Option Int)) : Rs W := match r with | .ok l s => slOK3 x l (hi ρ s) | .er x s => .er x s | .no => .no
@[simp] theorem slOK2_ok (x : W) (hi : OM) (ρ : Ev) (l : Option Int) (s : Stt) : slOK2 x hi ρ (.ok l s) = slOK3 x l (hi ρ s) := id rfl
def slOK (lo hi : OM) (ρ : Ev) (r : Rs W) : Rs W := match r with | .ok a s => slOK2 a hi ρ (lo ρ s) | .er x s => .er x s | .no => .no
@[simp] theorem slOK_ok (lo hi : OM) (ρ : Ev) (a : W) (s : Stt) : slOK lo hi ρ (.ok a s) = slOK2 a hi ρ (lo ρ s) := id rfl
@[simp] theorem ev_slO (m : EM) (lo hi : OM) : eSlO m lo hi ρ st = slOK lo hi ρ (m ρ st) := by
  unfold eSlO slOK
  cases m ρ st with
  | ok x s =>
    show (lo ρ s).bind _ = slOK2 x hi ρ (lo ρ s)
    unfold slOK2
    cases lo ρ s with
    | ok l s2 => show (hi ρ s2).bind _ = slOK3 x l (hi ρ s2); unfold slOK3; cases hi ρ s2 with
      | ok u s3 => dsimp only [Rs.bind]; cases lstOf s3 x <;> rfl
      | er x s => rfl
      | no => rfl
    | er x s => rfl
    | no => rfl
  | er x s => rfl
  | no => rfl
def bmK2 (mf : MF) (x : W) (r : Rs (List W)) : Rs W := match r with | .ok ws s => mf x ws s | .er x s => .er x s | .no => .no
@[simp] theorem bmK2_ok (mf : MF) (x : W) (ws : List W) (s : Stt) : bmK2 mf x (.ok ws s) = mf x ws s := id rfl
def bmW (mf : MF) (k : AM) (ρ : Ev) (x : W) (s : Stt) (o : Option (List W)) : Rs W := match o with | some _ => bmK2 mf x (k ρ s) | none => .no
@[simp] theorem bmW_some (mf : MF) (k : AM) (x : W) (us : List W) : bmW mf k ρ x st (some us) = bmK2 mf x (k ρ st) := id rfl
def bmK (mf : MF) (k : AM) (ρ : Ev) (r : Rs W) : Rs W := match r with | .ok a s => bmW mf k ρ a s (lstX s a) | .er x s => .er x s | .no => .no
@[simp] theorem bmK_ok (mf : MF) (k : AM) (ρ : Ev) (a : W) (s : Stt) : bmK mf k ρ (.ok a s) = bmW mf k ρ a s (lstX s a) := id rfl
@[simp] theorem ev_bm (m : EM) (k : AM) (mf : MF) : eBM m k mf ρ st = bmK mf k ρ (m ρ st) := by
  unfold eBM bmK
  cases m ρ st with
  | ok x s =>
    show (match lstX s x with | some _ => (k ρ s).bind _ | none => .no) = bmW mf k ρ x s (lstX s x)
    unfold bmW
    cases lstX s x with
    | none => rfl
    | some us => show (k ρ s).bind _ = bmK2 mf x (k ρ s); unfold bmK2; cases k ρ s <;> rfl
  | er x s => rfl
  | no => rfl
def idxW (k : AM) (ρ : Ev) (w : W) (s : Stt) : Rs W := match w with | .tup us => bmK2 mIdx (.tup us) (k ρ s) | _ => .no
@[simp] theorem idxW_tup (k : AM) (us : List W) : idxW k ρ (.tup us) st = bmK2 mIdx (.tup us) (k ρ st) := id rfl
def idxK (k : AM) (ρ : Ev) (r : Rs W) : Rs W := match r with | .ok a s => idxW k ρ a s | .er x s => .er x s | .no => .no
@[simp] theorem idxK_ok (k : AM) (ρ : Ev) (a : W) (s : Stt) : idxK k ρ (.ok a s) = idxW k ρ a s := id rfl
@[simp] theorem ev_idxT (m : EM) (k : AM) : eIdxT m k ρ st = idxK k ρ (m ρ st) := by
  unfold eIdxT idxK
  cases m ρ st with
  | ok x s =>
    cases x with
    | tup us => show (k ρ s).bind _ = bmK2 mIdx (.tup us) (k ρ s); unfold bmK2; cases k ρ s <;> rfl
    | _ => rfl
  | er x s => rfl
  | no => rfl
def lsW (s : Stt) (o : Option (List Str)) : Rs W := match o with | some xs => if xs.length ≤ 1000 then .ok (.int ((Low.nubS xs).length : Int)) s else .no | none => .no
@[simp] theorem lsW_some (xs : List Str) : lsW st (some xs) = if xs.length ≤ 1000 then .ok (.int ((Low.nubS xs).length : Int)) st else .no := id rfl
def lenSetK  (r : Rs W) : Rs W := match r with | .ok a s => lsW s ((seqOf s a).bind strsOf) | .er x s => .er x s | .no => .no
@[simp] theorem lenSetK_ok  (a : W) (s : Stt) : lenSetK  (.ok a s) = lsW s ((seqOf s a).bind strsOf) := id rfl
@[simp] theorem ev_lenSet (m : EM) : eLenSet m ρ st = lenSetK (m ρ st) := by unfold eLenSet lenSetK lsW; cases m ρ st <;> rfl
def isiTW (ns : List String) (s : Stt) (o : Option String) : Rs W := match o with | some t => optR ((kitAnyB t ns).map .bl) s | none => .no
@[simp] theorem isiTW_some (ns : List String) (t : String) : isiTW ns st (some t) = optR ((kitAnyB t ns).map .bl) st := id rfl
def isiTK (ns : List String) (r : Rs W) : Rs W := match r with | .ok a s => isiTW ns s (tyW s a) | .er x s => .er x s | .no => .no
@[simp] theorem isiTK_ok (ns : List String) (a : W) (s : Stt) : isiTK ns (.ok a s) = isiTW ns s (tyW s a) := id rfl
@[simp] theorem ev_isiT (m : EM) (ns : List String) : eIsiT m ns ρ st = isiTK ns (m ρ st) := by
  unfold eIsiT isiTK isiTW
  cases m ρ st with
  | ok a s =>
    dsimp only [Rs.bind]
    cases tyW s a with
    | none => rfl
    | some t => dsimp only; cases kitAnyB t ns <;> rfl
  | er x s => rfl
  | no => rfl
def andW (k : EM) (ρ : Ev) (w : W) (st : Stt) : Rs W := emAnd (eC w) k ρ st
@[simp] theorem andW_bl (k : EM) (b : Bool) : andW k ρ (.bl b) st = if b = true then k ρ st else .ok (.bl false) st := by cases b <;> rfl
def orW (k : EM) (ρ : Ev) (w : W) (st : Stt) : Rs W := emOr (eC w) k ρ st
@[simp] theorem orW_bl (k : EM) (b : Bool) : orW k ρ (.bl b) st = if b = true then .ok (.bl true) st else k ρ st := by cases b <;> rfl
def notW (w : W) (st : Stt) : Rs W := emNot (eC w) [] st
@[simp] theorem notW_bl (b : Bool) : notW (.bl b) st = .ok (.bl (!b)) st := id rfl
def andK (k : EM) (ρ : Ev) (r : Rs W) : Rs W := match r with | .ok a s => andW k ρ a s | .er x s => .er x s | .no => .no
@[simp] theorem andK_ok (k : EM) (ρ : Ev) (a : W) (s : Stt) : andK k ρ (.ok a s) = andW k ρ a s := id rfl
@[simp] theorem ev_emAnd (m k : EM) : emAnd m k ρ st = andK k ρ (m ρ st) := by unfold andK andW emAnd; cases m ρ st <;> rfl
def orK (k : EM) (ρ : Ev) (r : Rs W) : Rs W := match r with | .ok a s => orW k ρ a s | .er x s => .er x s | .no => .no
@[simp] theorem orK_ok (k : EM) (ρ : Ev) (a : W) (s : Stt) : orK k ρ (.ok a s) = orW k ρ a s := id rfl
@[simp] theorem ev_emOr (m k : EM) : emOr m k ρ st = orK k ρ (m ρ st) := by unfold orK orW emOr; cases m ρ st <;> rfl
def notK  (r : Rs W) : Rs W := match r with | .ok a s => notW a s | .er x s => .er x s | .no => .no
@[simp] theorem notK_ok  (a : W) (s : Stt) : notK  (.ok a s) = notW a s := id rfl
@[simp] theorem ev_emNot (m : EM) : emNot m ρ st = notK (m ρ st) := by
  unfold notK notW emNot
  cases m ρ st with
  | ok a s => cases a <;> rfl
  | er x s => rfl
  | no => rfl
def ifEK (x y : EM) (ρ : Ev) (r : Rs Bool) : Rs W := match r with | .ok b s => if b = true then x ρ s else y ρ s | .er x s => .er x s | .no => .no
@[simp] theorem ifEK_ok (x y : EM) (ρ : Ev) (b : Bool) (s : Stt) : ifEK x y ρ (.ok b s) = if b = true then x ρ s else y ρ s := id rfl
@[simp] theorem ev_emIf (c : TM) (x y : EM) : emIf c x y ρ st = ifEK x y ρ (c ρ st) := by unfold emIf ifEK; cases c ρ st <;> rfl
/-! statements -/
@[simp] theorem ev_next : sNext ρ st = .nx ρ st := id rfl
def seqK (k : SM) (r : RS) : RS := match r with | .nx ρ' st' => k ρ' st' | .rt w st' => .rt w st' | .bk ρ' st' => .bk ρ' st' | .ct ρ' st' => .ct ρ' st' | .er x ρ' st' => .er x ρ' st' | .no => .no
@[simp] theorem ev_seq (m k : SM) : sSeq m k ρ st = seqK k (m ρ st) := by unfold sSeq seqK; rfl
@[simp] theorem seqK_nx (k : SM) : seqK k (.nx ρ st) = k ρ st := id rfl
@[simp] theorem seqK_rt (k : SM) (w : W) : seqK k (.rt w st) = .rt w st := id rfl
@[simp] theorem seqK_bk (k : SM) : seqK k (.bk ρ st) = .bk ρ st := id rfl
@[simp] theorem seqK_ct (k : SM) : seqK k (.ct ρ st) = .ct ρ st := id rfl
def dropK  (ρ : Ev) (r : Rs W) : RS := match r with | .ok _a s => .nx ρ s | .er x s => .er x ρ s | .no => .no
@[simp] theorem dropK_ok  (ρ : Ev) (_a : W) (s : Stt) : dropK  ρ (.ok _a s) = .nx ρ s := id rfl
@[simp] theorem ev_drop (m : EM) : sDrop m ρ st = dropK ρ (m ρ st) := by unfold sDrop dropK; cases m ρ st <;> rfl
def retK  (ρ : Ev) (r : Rs W) : RS := match r with | .ok a s => .rt a s | .er x s => .er x ρ s | .no => .no
@[simp] theorem retK_ok  (ρ : Ev) (a : W) (s : Stt) : retK  ρ (.ok a s) = .rt a s := id rfl
@[simp] theorem ev_ret (m : EM) : sRet m ρ st = retK ρ (m ρ st) := by unfold sRet retK; cases m ρ st <;> rfl
@[simp] theorem ev_retN : sRetN ρ st = .rt .non st := id rfl
def ifK (x y : SM) (ρ : Ev) (r : Rs Bool) : RS := match r with | .ok b s => if b = true then x ρ s else y ρ s | .er x s => .er x ρ s | .no => .no
@[simp] theorem ifK_ok (x y : SM) (ρ : Ev) (b : Bool) (s : Stt) : ifK x y ρ (.ok b s) = if b = true then x ρ s else y ρ s := id rfl
@[simp] theorem ev_if (c : TM) (x y : SM) : sIf c x y ρ st = ifK x y ρ (c ρ st) := by unfold sIf ifK; cases c ρ st <;> rfl
@[simp] theorem ev_brk : sBreak ρ st = .bk ρ st := id rfl
@[simp] theorem ev_cont : sCont ρ st = .ct ρ st := id rfl
def optS (o : Option Ev) (s : Stt) : RS := match o with | some ρ' => .nx ρ' s | none => .no
@[simp] theorem optS_some (ρ' : Ev) : optS (some ρ') st = .nx ρ' st := id rfl
def asgK (g : GM) (ρ : Ev) (r : Rs W) : RS := match r with | .ok a s => optS (g s a ρ) s | .er x s => .er x ρ s | .no => .no
@[simp] theorem asgK_ok (g : GM) (ρ : Ev) (a : W) (s : Stt) : asgK g ρ (.ok a s) = optS (g s a ρ) s := id rfl
@[simp] theorem ev_asg (m : EM) (g : GM) : sAsg m g ρ st = asgK g ρ (m ρ st) := by unfold sAsg asgK optS; cases m ρ st <;> rfl
def parK2 (i j : Nat) (x : W) (ρ : Ev) (r : Rs W) : RS := match r with | .ok y s => .nx ((ρ.set i (some x)).set j (some y)) s | .er x s => .er x ρ s | .no => .no
@[simp] theorem parK2_ok (i j : Nat) (x : W) (ρ : Ev) (y : W) (s : Stt) : parK2 i j x ρ (.ok y s) = .nx ((ρ.set i (some x)).set j (some y)) s := id rfl
def parK (i j : Nat) (b : EM) (ρ : Ev) (r : Rs W) : RS := match r with | .ok a s => parK2 i j a ρ (b ρ s) | .er x s => .er x ρ s | .no => .no
@[simp] theorem parK_ok (i j : Nat) (b : EM) (ρ : Ev) (a : W) (s : Stt) : parK i j b ρ (.ok a s) = parK2 i j a ρ (b ρ s) := id rfl
@[simp] theorem ev_par (i j : Nat) (a b : EM) : sPar i j a b ρ st = parK i j b ρ (a ρ st) := by
  unfold sPar parK
  cases a ρ st with
  | ok x s => show (b ρ s).toS ρ _ = parK2 i j x ρ (b ρ s); unfold parK2; cases b ρ s <;> rfl
  | er x s => rfl
  | no => rfl
def setW (x l k : W) (ρ : Ev) (st3 : Stt) : RS := match l, k with
  | .loc n, .int j => match st3[n]? with
    | some (some (.lst us)) => match ixN us.length j with
      | some m => .nx ρ (st3.set n (some (.lst (us.set m x))))
      | none => .no
    | _ => .no
  | _, _ => .no
theorem setW_ok {x : W} {n : Nat} {j : Int} {us : List W} {m : Nat} (h : st[n]? = some (some (.lst us))) (k : ixN us.length j = some m) : setW x (.loc n) (.int j) ρ st = .nx ρ (st.set n (some (.lst (us.set m x)))) := by
  unfold setW
  dsimp only
  rw [h]
  dsimp only
  rw [k]
def setK3 (x l : W) (ρ : Ev) (r : Rs W) : RS := match r with | .ok k s => setW x l k ρ s | .er x s => .er x ρ s | .no => .no
@[simp] theorem setK3_ok (x l : W) (ρ : Ev) (k : W) (s : Stt) : setK3 x l ρ (.ok k s) = setW x l k ρ s := id rfl
def setK2 (x : W) (i : EM) (ρ : Ev) (r : Rs W) : RS := match r with | .ok l s => setK3 x l ρ (i ρ s) | .er x s => .er x ρ s | .no => .no
@[simp] theorem setK2_ok (x : W) (i : EM) (ρ : Ev) (l : W) (s : Stt) : setK2 x i ρ (.ok l s) = setK3 x l ρ (i ρ s) := id rfl
def setK (o i : EM) (ρ : Ev) (r : Rs W) : RS := match r with | .ok a s => setK2 a i ρ (o ρ s) | .er x s => .er x ρ s | .no => .no
@[simp] theorem setK_ok (o i : EM) (ρ : Ev) (a : W) (s : Stt) : setK o i ρ (.ok a s) = setK2 a i ρ (o ρ s) := id rfl
@[simp] theorem ev_setIx (e o i : EM) : sSetIx e o i ρ st = setK o i ρ (e ρ st) := by
  unfold sSetIx setK
  cases e ρ st with
  | ok x s =>
    show (o ρ s).toS ρ _ = setK2 x i ρ (o ρ s)
    unfold setK2
    cases o ρ s with
    | ok l s2 => show (i ρ s2).toS ρ _ = setK3 x l ρ (i ρ s2); unfold setK3 setW; cases i ρ s2 <;> rfl
    | er x s => rfl
    | no => rfl
  | er x s => rfl
  | no => rfl
@[simp] theorem ev_gname (i : Nat) (w : W) : gmName i st w ρ = some (ρ.set i (some w)) := id rfl
@[simp] theorem ev_gtup (n : Nat) (r : List W → Ev → Option Ev) (ws : List W) : gmTup n r st (.tup ws) ρ = if ws.length = n then r ws ρ else none := id rfl
@[simp] theorem ev_gprs (n : Nat) (r : List W → Ev → Option Ev) (ws : List W) : gmTup n r st (.prs ws) ρ = if ws.length = n then r ws ρ else none := id rfl
@[simp] theorem ev_gcons (i : Nat) (r : List W → Ev → Option Ev) (w : W) (ws : List W) : gmCons i r (w :: ws) ρ = r ws (ρ.set i (some w)) := id rfl
@[simp] theorem ev_gnil : gmNil [] ρ = some ρ := id rfl
noncomputable def forK (g : GM) (body : SM) (ρ : Ev) (r : Rs Src) : RS := match r with | .ok src s => forW src.ok g body src.items ρ s | .er x s => .er x ρ s | .no => .no
@[simp] theorem forK_ok (g : GM) (body : SM) (src : Src) : forK g body ρ (.ok src st) = forW src.ok g body src.items ρ st := id rfl
@[simp] theorem ev_for (im : IM) (g : GM) (body : SM) : sFor im g body ρ st = forK g body ρ (im ρ st) := by unfold sFor forK; cases im ρ st <;> rfl
def lcV (r : Rs (List W)) : Rs W := match r with | .ok ys s => .ok (.lst ys) s | _ => .no
@[simp] theorem lcV_ok (ys : List W) : lcV (.ok ys st) = .ok (.lst ys) st := id rfl
def lcO (r : Rs (List W)) : Rs W := match r with | .ok ys s => .ok (.loc s.length) (s ++ [some (.lst ys)]) | _ => .no
@[simp] theorem lcO_ok (ys : List W) : lcO (.ok ys st) = .ok (.loc st.length) (st ++ [some (.lst ys)]) := id rfl
noncomputable def lcK (g : GM) (c : TM) (m : EM) (vs : List Nat) (ρ : Ev) (r : Rs Src) : Rs W := match r with | .ok src s => if src.items.length ≤ 100000 then lcV (lcW src.ok g c m (wipeE ρ vs) src.items s) else .no | .er x s => .er x s | .no => .no
@[simp] theorem lcK_ok (g : GM) (c : TM) (m : EM) (vs : List Nat) (src : Src) : lcK g c m vs ρ (.ok src st) = if src.items.length ≤ 100000 then lcV (lcW src.ok g c m (wipeE ρ vs) src.items st) else .no := id rfl
@[simp] theorem ev_lc (im : IM) (g : GM) (c : TM) (m : EM) (vs : List Nat) : eLc im g c m vs ρ st = lcK g c m vs ρ (im ρ st) := by
  unfold eLc lcK lcV
  cases im ρ st with
  | ok src s =>
    dsimp only [Rs.bind]
    split
    · cases lcW src.ok g c m (wipeE ρ vs) src.items s <;> rfl
    · rfl
  | er x s => rfl
  | no => rfl
noncomputable def lcLK (g : GM) (c : TM) (m : EM) (vs : List Nat) (ρ : Ev) (r : Rs Src) : Rs W := match r with | .ok src s => if src.items.length ≤ 100000 then lcO (lcW src.ok g c m (wipeE ρ vs) src.items s) else .no | .er x s => .er x s | .no => .no
@[simp] theorem lcLK_ok (g : GM) (c : TM) (m : EM) (vs : List Nat) (src : Src) : lcLK g c m vs ρ (.ok src st) = if src.items.length ≤ 100000 then lcO (lcW src.ok g c m (wipeE ρ vs) src.items st) else .no := id rfl
@[simp] theorem ev_lcL (im : IM) (g : GM) (c : TM) (m : EM) (vs : List Nat) : eLcL im g c m vs ρ st = lcLK g c m vs ρ (im ρ st) := by
  unfold eLcL lcLK lcO
  cases im ρ st with
  | ok src s =>
    dsimp only [Rs.bind]
    split
    · cases lcW src.ok g c m (wipeE ρ vs) src.items s <;> rfl
    · rfl
  | er x s => rfl
  | no => rfl
def srcW (w : W) (s : Stt) (o : Option (List W)) : Rs Src := match o with | some ws => .ok ⟨ws, okOf w ws⟩ s | none => .no
@[simp] theorem srcW_some (w : W) (ws : List W) : srcW w st (some ws) = .ok ⟨ws, okOf w ws⟩ st := id rfl
def iseqK  (r : Rs W) : Rs Src := match r with | .ok a s => srcW a s (itemsOf s a) | .er x s => .er x s | .no => .no
@[simp] theorem iseqK_ok  (a : W) (s : Stt) : iseqK  (.ok a s) = srcW a s (itemsOf s a) := id rfl
@[simp] theorem ev_iseq (m : EM) : iSeq m ρ st = iseqK (m ρ st) := by unfold iSeq iseqK srcW; cases m ρ st <;> rfl
def rng1W (ws : List W) (st : Stt) : Rs Src := iRange1 (fun _ s => .ok ws s) [] st
def rng1K  (r : Rs (List W)) : Rs Src := match r with | .ok ws s => rng1W ws s | .er x s => .er x s | .no => .no
@[simp] theorem rng1K_ok  (ws : List W) (s : Stt) : rng1K  (.ok ws s) = rng1W ws s := id rfl
@[simp] theorem ev_rng1 (k : AM) : iRange1 k ρ st = rng1K (k ρ st) := by unfold rng1K rng1W iRange1; cases k ρ st <;> rfl
theorem rng1_ok {j : Int} (h0 : -(2 ^ 62) ≤ j) (h : j < 2 ^ 62) : rng1W [.int j] st = .ok ⟨rngW 0 j.toNat, fun _ => True⟩ st := by
  show (if -(2 ^ 62) ≤ j ∧ j < 2 ^ 62 then Rs.ok (⟨rngW 0 j.toNat, fun _ => True⟩ : Src) st else .no) = _
  rw [if_pos ⟨h0, h⟩]
theorem rng1_nat {n : Nat} (h : n ≤ 100000) : rng1W [.int (n : Int)] st = .ok ⟨rngW 0 n, fun _ => True⟩ st := by
  rw [rng1_ok (by omega) (by omega), Int.toNat_natCast]
@[simp] theorem rng_len (lo : Int) (n : Nat) : (rngW lo n).length = n := by simp [rngW]
def rng2W (ws : List W) (st : Stt) : Rs Src := iRange2 (fun _ s => .ok ws s) [] st
theorem rng2_ok {i j : Int} (h0 : -(2 ^ 62) ≤ i) (h1 : i < 2 ^ 62) (h2 : -(2 ^ 62) ≤ j) (h : j < 2 ^ 62) : rng2W [.int i, .int j] st = .ok ⟨rngW i (j - i).toNat, fun _ => True⟩ st := by
  show (if -(2 ^ 62) ≤ i ∧ i < 2 ^ 62 ∧ -(2 ^ 62) ≤ j ∧ j < 2 ^ 62 then Rs.ok (⟨rngW i (j - i).toNat, fun _ => True⟩ : Src) st else .no) = _
  rw [if_pos ⟨h0, h1, h2, h⟩]
def rng2K  (r : Rs (List W)) : Rs Src := match r with | .ok ws s => rng2W ws s | .er x s => .er x s | .no => .no
@[simp] theorem rng2K_ok  (ws : List W) (s : Stt) : rng2K  (.ok ws s) = rng2W ws s := id rfl
@[simp] theorem ev_rng2 (k : AM) : iRange2 k ρ st = rng2K (k ρ st) := by unfold rng2K rng2W iRange2; cases k ρ st <;> rfl
@[simp] theorem wipe_nil (ρ : Ev) : wipeE ρ [] = ρ := id rfl
@[simp] theorem wipe_cons (ρ : Ev) (v : Nat) (vs : List Nat) : wipeE ρ (v :: vs) = (wipeE ρ vs).set v none := id rfl
/-- a def's end -/
def funK (r : RS) : Rs W := match r with
  | .nx _ st' => .ok .non st'
  | .rt w st' => .ok w st'
  | .er x _ st' => .er x st'
  | _ => .no
@[simp] theorem funK_nx : funK (.nx ρ st) = .ok .non st := id rfl
@[simp] theorem funK_rt (w : W) : funK (.rt w st) = .ok w st := id rfl
@[simp] theorem ev_fun (n : Nat) (b : SM) (ws : List W) : mFun n b ws st = funK (b (entry n ws) st) := id rfl
/-! operations -/
@[simp] theorem f_addI (i j : Int) : fAdd st (.int i) (.int j) = some (.int (i + j)) := id rfl
@[simp] theorem f_addT (xs ys : List W) : fAdd st (.tup xs) (.tup ys) = if xs.length + ys.length ≤ 100000 then some (.tup (xs ++ ys)) else none := id rfl
@[simp] theorem f_addL (xs ys : List W) : fAdd st (.lst xs) (.lst ys) = fCatL st (.lst xs) (.lst ys) := id rfl
@[simp] theorem f_sub (i j : Int) : fSub st (.int i) (.int j) = some (.int (i - j)) := id rfl
@[simp] theorem f_lt (i j : Int) : fLt st (.int i) (.int j) = some (.bl (decide (i < j))) := id rfl
@[simp] theorem f_le (i j : Int) : fLe st (.int i) (.int j) = some (.bl (decide (i ≤ j))) := id rfl
@[simp] theorem f_gt (i j : Int) : fGt st (.int i) (.int j) = some (.bl (decide (j < i))) := id rfl
@[simp] theorem f_ge (i j : Int) : fGe st (.int i) (.int j) = some (.bl (decide (j ≤ i))) := id rfl
theorem f_mod (i j : Int) (h : 0 < j) : fMod st (.int i) (.int j) = some (.int (i % j)) := by
  show (if decide (0 < j) = true then _ else _) = _
  rw [if_pos (decide_eq_true h)]
theorem f_div (i j : Int) (h : 0 < j) (k : j < 2 ^ 62) : fDiv st (.int i) (.int j) = some (.int (i / j)) := by
  show (if decide (0 < j ∧ j < 2 ^ 62) = true then _ else _) = _
  rw [if_pos (decide_eq_true ⟨h, k⟩)]
theorem f_mul (i j : Int) (h : i.natAbs < 2 ^ 1000) (k : j.natAbs < 2 ^ 1000) : fMul st (.int i) (.int j) = some (.int (i * j)) := by
  show (if mulOk i j = true then _ else _) = _
  rw [if_pos (show mulOk i j = true from decide_eq_true ⟨h, k⟩)]
theorem f_pow (i j : Int) (h : i.natAbs < 2 ^ 1000) (k : 0 ≤ j) (l : j ≤ 1000) : fPow st (.int i) (.int j) = some (.int (i ^ j.toNat)) := by
  show (if powOk i j = true then _ else _) = _
  rw [if_pos (show powOk i j = true from decide_eq_true ⟨h, k, l⟩)]
@[simp] theorem f_isi (x : W) (T : String) : fIsi st [x, .ty T] = match tyW st x with | some t => (kitB t T).map .bl | none => none := by unfold fIsi; rfl
@[simp] theorem ty_int (i : Int) : tyW st (.int i) = some "int" := id rfl
@[simp] theorem ty_str (i : Str) : tyW st (.str i) = some "str" := id rfl
@[simp] theorem ty_tup (i : List W) : tyW st (.tup i) = some "tuple" := id rfl
@[simp] theorem ty_lst (i : List W) : tyW st (.lst i) = some "list" := id rfl
@[simp] theorem k_int : kitB "int" "int" = some true := by decide +kernel
@[simp] theorem k_intb : kitB "int" "bool" = some false := by decide +kernel
@[simp] theorem k_str : kitB "str" "str" = some true := by decide +kernel
@[simp] theorem k_tup : kitB "tuple" "tuple" = some true := by decide +kernel
@[simp] theorem k_lst : kitB "list" "list" = some true := by decide +kernel
@[simp] theorem f_len (x : W) : fLen st [x] = match lenOf st x with | some n => some (.int (n : Int)) | none => none := by
  unfold fLen
  dsimp only
  cases lenOf st x <;> rfl
@[simp] theorem len_tup (ws : List W) : lenOf st (.tup ws) = some ws.length := id rfl
@[simp] theorem len_lst (ws : List W) : lenOf st (.lst ws) = some ws.length := id rfl
@[simp] theorem len_str (z : Str) : lenOf st (.str z) = if z.length ≤ 100000 then some z.length else none := id rfl
@[simp] theorem len_loc (n : Nat) : lenOf st (.loc n) = match st[n]? with | some (some (.lst ws)) => some ws.length | some (some (.dic kvs)) => some kvs.length | _ => none := by unfold lenOf; rfl
@[simp] theorem sq_tup (ws : List W) : seqOf st (.tup ws) = some ws := id rfl
@[simp] theorem sq_lst (ws : List W) : seqOf st (.lst ws) = some ws := id rfl
@[simp] theorem sq_scr (ws : List W) : seqOf st (.scr ws) = some ws := id rfl
@[simp] theorem sq_loc (n : Nat) : seqOf st (.loc n) = match st[n]? with | some (some (.lst ws)) => some ws | _ => none := by unfold seqOf; rfl
@[simp] theorem ls_lst (ws : List W) : lstOf st (.lst ws) = some ws := id rfl
@[simp] theorem ls_scr (ws : List W) : lstOf st (.scr ws) = some ws := id rfl
@[simp] theorem ls_loc (n : Nat) : lstOf st (.loc n) = match st[n]? with | some (some (.lst ws)) => some ws | _ => none := by unfold lstOf; rfl
@[simp] theorem it_tup (ws : List W) : itemsOf st (.tup ws) = some ws := id rfl
@[simp] theorem it_lst (ws : List W) : itemsOf st (.lst ws) = some ws := id rfl
@[simp] theorem it_scr (ws : List W) : itemsOf st (.scr ws) = some ws := id rfl
@[simp] theorem it_loc (n : Nat) : itemsOf st (.loc n) = seqOf st (.loc n) := id rfl
@[simp] theorem okOf_tup (us ws : List W) : okOf (.tup us) ws = fun _ => True := id rfl
@[simp] theorem okOf_lst (us ws : List W) : okOf (.lst us) ws = fun _ => True := id rfl
@[simp] theorem okOf_scr (us ws : List W) : okOf (.scr us) ws = fun _ => True := id rfl
@[simp] theorem ix_tup' (ws : List W) (i : Int) : fIx st (.tup ws) (.int i) = atI ws i := id rfl
@[simp] theorem ix_lst' (ws : List W) (i : Int) : fIx st (.lst ws) (.int i) = atI ws i := id rfl
@[simp] theorem ix_scr' (ws : List W) (i : Int) : fIx st (.scr ws) (.int i) = atI ws i := id rfl
@[simp] theorem ix_loc' (n : Nat) (i : Int) : fIx st (.loc n) (.int i) = match seqOf st (.loc n) with | some ws => atI ws i | none => none := id rfl
theorem atI_nat {α : Type} (xs : List α) (i : Nat) : atI xs (i : Int) = xs[i]? := by
  unfold atI ixN
  rw [if_pos (by omega)]
  by_cases h : (i : Int) < xs.length
  · rw [if_pos h]; rfl
  · rw [if_neg h, List.getElem?_eq_none (by omega)]; rfl
theorem atI_pos {α : Type} (xs : List α) (i : Int) (h : 0 ≤ i) : atI xs i = xs[i.toNat]? := by
  have := atI_nat xs i.toNat
  rwa [Int.toNat_of_nonneg h] at this
@[simp] theorem atI_0 {α : Type} (xs : List α) : atI xs 0 = xs[0]? := atI_nat xs 0
@[simp] theorem atI_1 {α : Type} (xs : List α) : atI xs 1 = xs[1]? := atI_nat xs 1
@[simp] theorem atI_2 {α : Type} (xs : List α) : atI xs 2 = xs[2]? := atI_nat xs 2
@[simp] theorem f_max2 (i j : Int) : fMax st [.int i, .int j] = some (.int (max i j)) := by
  show some (W.int (if j > i then j else i)) = _
  congr 2
  split <;> omega
@[simp] theorem f_min2 (i j : Int) : fMin st [.int i, .int j] = some (.int (min i j)) := by
  show some (W.int (if j < i then j else i)) = _
  congr 2
  split <;> omega
@[simp] theorem f_abs (i : Int) : fAbs st [.int i] = some (.int (i.natAbs : Int)) := by
  show some (W.int (if i < 0 then -i else i)) = _
  congr 2
  split <;> omega
theorem blsOf_map {α : Type} (f : α → Bool) : ∀ xs : List α, blsOf (xs.map fun a => .bl (f a)) = some (xs.map f)
  | [] => rfl
  | a :: r => by rw [List.map_cons, blsOf]; rw [blsOf_map f r]; rfl
theorem strsOf_map : ∀ xs : List Str, strsOf (xs.map .str) = some xs
  | [] => rfl
  | a :: r => by rw [List.map_cons, strsOf]; rw [strsOf_map r]; rfl
theorem intsOf_map : ∀ xs : List Int, intsOf (xs.map .int) = some xs
  | [] => rfl
  | a :: r => by rw [List.map_cons, intsOf]; rw [intsOf_map r]; rfl
theorem fAll_map {α : Type} (f : α → Bool) (xs : List α) : fAll st [.lst (xs.map fun a => .bl (f a))] = some (.bl (xs.all f)) := by
  show (match (lstOf st (.lst _)).bind blsOf with | some bs => some (W.bl (bs.all id)) | none => none) = _
  rw [ls_lst]
  show (match blsOf _ with | some bs => some (W.bl (bs.all id)) | none => none) = _
  rw [blsOf_map]
  simp
theorem fAny_map {α : Type} (f : α → Bool) (xs : List α) : fAny st [.lst (xs.map fun a => .bl (f a))] = some (.bl (xs.any f)) := by
  show (match (lstOf st (.lst _)).bind blsOf with | some bs => some (W.bl (bs.any id)) | none => none) = _
  rw [ls_lst]
  show (match blsOf _ with | some bs => some (W.bl (bs.any id)) | none => none) = _
  rw [blsOf_map]
  simp
/-! comprehensions, loops -/
theorem lcW_pure {ok : Stt → Prop} {g : GM} {c : TM} {m : EM} {p : W → Bool} {f : W → W} (hk : ok st) : ∀ (ws : List W), (∀ w ∈ ws, ∃ ρ1, g st w ρ = some ρ1 ∧ c ρ1 st = .ok (p w) st ∧ (p w = true → m ρ1 st = .ok (f w) st)) →
    lcW ok g c m ρ ws st = .ok ((ws.filter p).map f) st
  | [], _ => by rw [lcW, if_pos hk]; rfl
  | w :: ws, h => by
    obtain ⟨ρ1, h1, h2, h3⟩ := h w List.mem_cons_self
    rw [lcW, if_pos hk, h1]
    dsimp only
    rw [h2]
    have ih := lcW_pure hk ws fun u hu => h u (List.mem_cons_of_mem _ hu)
    cases hp : p w with
    | true => simp [h3 hp, ih, hp]
    | false => simp [ih, hp]
theorem lcW_map {ok : Stt → Prop} {g : GM} {m : EM} {f : W → W} (hk : ok st) (ws : List W) (h : ∀ w ∈ ws, ∃ ρ1, g st w ρ = some ρ1 ∧ m ρ1 st = .ok (f w) st) : lcW ok g tmYes m ρ ws st = .ok (ws.map f) st := by
  have := lcW_pure (ok := ok) (g := g) (c := tmYes) (m := m) (p := fun _ => true) (f := f) (ρ := ρ) hk ws fun w hw => let ⟨ρ1, a, b⟩ := h w hw; ⟨ρ1, a, rfl, fun _ => b⟩
  rwa [List.filter_eq_self.mpr fun _ _ => rfl] at this
theorem lcW_true {ok : Stt → Prop} {g : GM} {m : EM} (hk : ok st) (ws : List W) (h : ∀ w ∈ ws, ∃ ρ1, g st w ρ = some ρ1 ∧ m ρ1 st = .ok (.bl true) st) : lcW ok g tmYes m ρ ws st = .ok (List.replicate ws.length (.bl true)) st := by
  rw [lcW_map (f := fun _ => .bl true) hk ws h, List.map_const']
@[simp] theorem fAll_rep (n : Nat) : fAll st [.lst (List.replicate n (.bl true))] = some (.bl true) := by
  have := fAll_map (st := st) (fun _ : Nat => true) (List.range n)
  rw [List.map_const', List.length_range] at this
  rw [this]
  simp
/-- with a store that changes: by an invariant on how many are there, and on what they are -/
theorem lcW_inv {ok : Stt → Prop} {g : GM} {m : EM} (I : List W → Stt → Prop) : ∀ (ws : List W) (acc : List W) (st : Stt), I acc st →
    (∀ (w : W) (acc : List W) (st : Stt), w ∈ ws → I acc st → ok st ∧ ∃ ρ1, g st w ρ = some ρ1 ∧ ∃ y st', m ρ1 st = .ok y st' ∧ I (acc ++ [y]) st') → (∀ acc st, I acc st → ok st) →
    ∃ ys st', lcW ok g tmYes m ρ ws st = .ok ys st' ∧ ys.length = ws.length ∧ I (acc ++ ys) st'
  | [], acc, st, hi, _, hk => ⟨[], st, by rw [lcW, if_pos (hk _ _ hi)], rfl, by rw [List.append_nil]; exact hi⟩
  | w :: ws, acc, st, hi, h, hk => by
    obtain ⟨hok, ρ1, h1, y, st1, h2, hi1⟩ := h w acc st List.mem_cons_self hi
    obtain ⟨ys, st2, h3, h4, h5⟩ := lcW_inv I ws (acc ++ [y]) st1 hi1 (fun u acc st hu => h u acc st (List.mem_cons_of_mem _ hu)) hk
    refine ⟨y :: ys, st2, ?_, by simp [h4], by simpa using h5⟩
    rw [lcW, if_pos hok, h1]
    simp [h2, h3]
theorem forW_nil {ok : Stt → Prop} {g : GM} {body : SM} (hk : ok st) : forW ok g body [] ρ st = .nx ρ st := by rw [forW, if_pos hk]
theorem forW_nx {ok : Stt → Prop} {g : GM} {body : SM} {w : W} {ws : List W} {ρ1 ρ2 : Ev} {st2 : Stt} (hk : ok st) (hg : g st w ρ = some ρ1) (hb : body ρ1 st = .nx ρ2 st2) : forW ok g body (w :: ws) ρ st = forW ok g body ws ρ2 st2 := by
  rw [forW, if_pos hk, hg]
  dsimp only
  rw [hb]
  rfl
theorem forW_ct {ok : Stt → Prop} {g : GM} {body : SM} {w : W} {ws : List W} {ρ1 ρ2 : Ev} {st2 : Stt} (hk : ok st) (hg : g st w ρ = some ρ1) (hb : body ρ1 st = .ct ρ2 st2) : forW ok g body (w :: ws) ρ st = forW ok g body ws ρ2 st2 := by
  rw [forW, if_pos hk, hg]
  dsimp only
  rw [hb]
  rfl
theorem forW_bk {ok : Stt → Prop} {g : GM} {body : SM} {w : W} {ws : List W} {ρ1 ρ2 : Ev} {st2 : Stt} (hk : ok st) (hg : g st w ρ = some ρ1) (hb : body ρ1 st = .bk ρ2 st2) : forW ok g body (w :: ws) ρ st = .nx ρ2 st2 := by
  rw [forW, if_pos hk, hg]
  dsimp only
  rw [hb]
  rfl
theorem forW_rt {ok : Stt → Prop} {g : GM} {body : SM} {w u : W} {ws : List W} {ρ1 : Ev} {st2 : Stt} (hk : ok st) (hg : g st w ρ = some ρ1) (hb : body ρ1 st = .rt u st2) : forW ok g body (w :: ws) ρ st = .rt u st2 := by
  rw [forW, if_pos hk, hg]
  dsimp only
  rw [hb]
  rfl
theorem forW_inv {ok : Stt → Prop} {g : GM} {body : SM} (I : Nat → Ev → Stt → Prop) : ∀ (ws : List W) (n : Nat) (ρ : Ev) (st : Stt), I n ρ st →
    (∀ (i : Nat) (w : W) (ρ : Ev) (st : Stt), ws[i]? = some w → I (n + i) ρ st → ok st ∧ ∃ ρ1, g st w ρ = some ρ1 ∧ ∃ ρ' st', (body ρ1 st = .nx ρ' st' ∨ body ρ1 st = .ct ρ' st') ∧ I (n + i + 1) ρ' st') → (∀ n ρ st, I n ρ st → ok st) →
    ∃ ρ' st', forW ok g body ws ρ st = .nx ρ' st' ∧ I (n + ws.length) ρ' st'
  | [], n, ρ, st, hi, _, hk => ⟨ρ, st, by rw [forW, if_pos (hk _ _ _ hi)], hi⟩
  | w :: ws, n, ρ, st, hi, h, hk => by
    obtain ⟨hok, ρ1, h1, ρ2, st1, h2, hi1⟩ := h 0 w ρ st rfl hi
    obtain ⟨ρ3, st2, h3, h4⟩ := forW_inv I ws (n + 1) ρ2 st1 hi1 (fun i u ρ st hu hi => by
      have := h (i + 1) u ρ st (by simpa using hu) (by rw [show n + (i + 1) = n + 1 + i by omega]; exact hi)
      rw [show n + (i + 1) + 1 = n + 1 + i + 1 by omega] at this
      exact this) hk
    refine ⟨ρ3, st2, ?_, by rw [show n + (w :: ws).length = n + 1 + ws.length by simp; omega]; exact h4⟩
    rw [forW, if_pos hok, h1]
    dsimp only
    rcases h2 with h2 | h2 <;> (rw [h2]; exact h3)
/-! data -/
mutual
def datW : Nat → W → Bool
  | _, .non => true
  | _, .bl _ => true
  | _, .int _ => true
  | _, .str x => PyData.strOk x
  | n, .tup ws => decide (0 < n) && datWs (n - 1) ws
  | n, .lst ws => decide (0 < n) && datWs (n - 1) ws
  | _, .dic _ => false
  | _, .ty _ => false
  | _, .obj _ => false
  | _, .loc _ => false
  | _, .prs _ => false
  | _, .scr _ => false
def datWs : Nat → List W → Bool
  | _, [] => true
  | n, w :: ws => datW n w && datWs n ws
end
theorem depthAll_nil : PyData.depthAll [] = 0 := by simp only [PyData.depthAll]
mutual
theorem dat_toD : ∀ (n : Nat) (w : W), datW n w = true → ∃ d, (∀ st, toD st w = some d) ∧ toD0 w = some d ∧ d.canLay0 = true ∧ d.depth ≤ n ∧ PyData.eqv d d = true
  | _, .non, _ => ⟨.none, fun _ => rfl, rfl, rfl, by simp only [PyData.depth]; omega, rfl⟩
  | _, .bl b, _ => ⟨.bool b, fun _ => rfl, rfl, rfl, by simp only [PyData.depth]; omega, by simp only [PyData.eqv, beq_self_eq_true]⟩
  | _, .int i, _ => ⟨.int i, fun _ => rfl, rfl, rfl, by simp only [PyData.depth]; omega, by simp only [PyData.eqv, beq_self_eq_true]⟩
  | _, .str x, h => ⟨.str x, fun _ => rfl, rfl, by simp only [PyData.canLay0]; rw [datW] at h; exact h, by simp only [PyData.depth]; omega, by simp only [PyData.eqv, beq_self_eq_true]⟩
  | n, .tup ws, h => by
    rw [datW, Bool.and_eq_true] at h
    obtain ⟨ds, h1, h2, h3, h4, h5⟩ := dats_toD (n - 1) ws h.2
    have h0 : 0 < n := of_decide_eq_true h.1
    exact ⟨.tuple ds, fun st => by rw [toD, h1 st]; rfl, by rw [toD0, h2]; rfl, by simp only [PyData.canLay0]; exact h3, by simp only [PyData.depth]; omega, by simp only [PyData.eqv]; exact h5⟩
  | n, .lst ws, h => by
    rw [datW, Bool.and_eq_true] at h
    obtain ⟨ds, h1, h2, h3, h4, h5⟩ := dats_toD (n - 1) ws h.2
    have h0 : 0 < n := of_decide_eq_true h.1
    exact ⟨.list ds, fun st => by rw [toD, h1 st]; rfl, by rw [toD0, h2]; rfl, by simp only [PyData.canLay0]; exact h3, by simp only [PyData.depth]; omega, by simp only [PyData.eqv]; exact h5⟩
theorem dats_toD : ∀ (n : Nat) (ws : List W), datWs n ws = true → ∃ ds, (∀ st, toDs st ws = some ds) ∧ toD0s ws = some ds ∧ PyData.canLayAll0 ds = true ∧ PyData.depthAll ds ≤ n ∧ PyData.eqvAll ds ds = true
  | _, [], _ => ⟨[], fun _ => by rw [toDs], by rw [toD0s], by simp only [PyData.canLayAll0], by rw [depthAll_nil]; omega, by simp only [PyData.eqvAll]⟩
  | n, w :: ws, h => by
    rw [datWs, Bool.and_eq_true] at h
    obtain ⟨d, a1, a2, a3, a4, a5⟩ := dat_toD n w h.1
    obtain ⟨ds, b1, b2, b3, b4, b5⟩ := dats_toD n ws h.2
    refine ⟨d :: ds, fun st => by rw [toDs, a1 st, b1 st], by rw [toD0s, a2, b2], by simp only [PyData.canLayAll0]; rw [a3, b3]; rfl, by simp only [PyData.depthAll]; omega, by simp only [PyData.eqvAll]; rw [a5, b5]; rfl⟩
end
theorem shaped_of {d : PyData} (h : d.canLay0 = true) (k : d.depth ≤ 64) : SeqAt.shaped d = true := by
  show (d.canLay0 && decide (d.depth ≤ 64)) = true
  rw [h, decide_eq_true k]; rfl
theorem fEq_same {w : W} (h : datW 64 w = true) : fEq st w w = some (.bl true) := by
  obtain ⟨d, h1, _, h3, h4, h5⟩ := dat_toD 64 w h
  unfold fEq
  rw [h1 st]
  dsimp only
  rw [if_pos ⟨shaped_of h3 h4, shaped_of h3 h4⟩, h5]
theorem fNe_same {w : W} (h : datW 64 w = true) : fNe st w w = some (.bl false) := by
  obtain ⟨d, h1, _, h3, h4, h5⟩ := dat_toD 64 w h
  unfold fNe
  rw [h1 st]
  dsimp only
  rw [if_pos ⟨shaped_of h3 h4, shaped_of h3 h4⟩, h5]
  rfl
@[simp] theorem fEq_int (i j : Int) : fEq st (.int i) (.int j) = some (.bl (i == j)) := by
  unfold fEq toD
  dsimp only
  rw [if_pos ⟨shaped_of rfl (by simp only [PyData.depth]; omega), shaped_of rfl (by simp only [PyData.depth]; omega)⟩]
  simp only [PyData.eqv]
@[simp] theorem fNe_int (i j : Int) : fNe st (.int i) (.int j) = some (.bl (i != j)) := by
  unfold fNe toD
  dsimp only
  rw [if_pos ⟨shaped_of rfl (by simp only [PyData.depth]; omega), shaped_of rfl (by simp only [PyData.depth]; omega)⟩]
  simp only [PyData.eqv]
  rfl
theorem fEq_str (a b : Str) (h : PyData.strOk a = true) (k : PyData.strOk b = true) : fEq st (.str a) (.str b) = some (.bl (a == b)) := by
  unfold fEq toD
  dsimp only
  rw [if_pos ⟨shaped_of (by simp only [PyData.canLay0]; exact h) (by simp only [PyData.depth]; omega), shaped_of (by simp only [PyData.canLay0]; exact k) (by simp only [PyData.depth]; omega)⟩]
  simp only [PyData.eqv]
theorem fNe_str (a b : Str) (h : PyData.strOk a = true) (k : PyData.strOk b = true) : fNe st (.str a) (.str b) = some (.bl (a != b)) := by
  unfold fNe toD
  dsimp only
  rw [if_pos ⟨shaped_of (by simp only [PyData.canLay0]; exact h) (by simp only [PyData.depth]; omega), shaped_of (by simp only [PyData.canLay0]; exact k) (by simp only [PyData.depth]; omega)⟩]
  simp only [PyData.eqv]
  rfl
/-! frozen: what has no place in it -/
mutual
def nlW : W → Bool
  | .tup ws => nlWs ws
  | .lst ws => nlWs ws
  | .prs ws => nlWs ws
  | .scr ws => nlWs ws
  | .dic kvs => nlWk kvs
  | .loc _ => false
  | .non => true
  | .bl _ => true
  | .int _ => true
  | .str _ => true
  | .ty _ => true
  | .obj _ => true
def nlWs : List W → Bool
  | [] => true
  | w :: ws => nlW w && nlWs ws
def nlWk : List (Key × W) → Bool
  | [] => true
  | (_, w) :: ws => nlW w && nlWk ws
end
mutual
theorem nl_ok (n : Nat) : ∀ w : W, nlW w = true → okL n w = true
  | .tup ws, h => by rw [nlW] at h; rw [okL]; exact nls_ok n ws h
  | .lst ws, h => by rw [nlW] at h; rw [okL]; exact nls_ok n ws h
  | .prs ws, h => by rw [nlW] at h; rw [okL]; exact nls_ok n ws h
  | .scr ws, h => by rw [nlW] at h; rw [okL]; exact nls_ok n ws h
  | .dic ws, h => by rw [nlW] at h; rw [okL]; exact nlk_ok n ws h
  | .loc _, h => by rw [nlW] at h; cases h
  | .non, _ => by rw [okL]
  | .bl _, _ => by rw [okL]
  | .int _, _ => by rw [okL]
  | .str _, _ => by rw [okL]
  | .ty _, _ => by rw [okL]
  | .obj _, _ => by rw [okL]
theorem nls_ok (n : Nat) : ∀ w : List W, nlWs w = true → okLs n w = true
  | [], _ => by rw [okLs]
  | w :: ws, h => by rw [nlWs, Bool.and_eq_true] at h; rw [okLs, nl_ok n w h.1, nls_ok n ws h.2]; rfl
theorem nlk_ok (n : Nat) : ∀ w : List (Key × W), nlWk w = true → okLk n w = true
  | [], _ => by rw [okLk]
  | (k, w) :: ws, h => by rw [nlWk, Bool.and_eq_true] at h; rw [okLk, nl_ok n w h.1, nlk_ok n ws h.2]; rfl
end
mutual
theorem nl_fz (n : Nat) (st : Stt) : ∀ w : W, nlW w = true → fzW n st w = some w
  | .tup ws, h => by rw [nlW] at h; rw [fzW, nls_fz n st ws h]; rfl
  | .lst ws, h => by rw [nlW] at h; rw [fzW, nls_fz n st ws h]; rfl
  | .prs ws, h => by rw [nlW] at h; rw [fzW, if_pos (nls_ok n ws h)]
  | .scr ws, h => by rw [nlW] at h; rw [fzW, if_pos (nls_ok n ws h)]
  | .dic ws, h => by rw [nlW] at h; rw [fzW, if_pos (nlk_ok n ws h)]
  | .loc _, h => by rw [nlW] at h; cases h
  | .non, _ => by rw [fzW]
  | .bl _, _ => by rw [fzW]
  | .int _, _ => by rw [fzW]
  | .str _, _ => by rw [fzW]
  | .ty _, _ => by rw [fzW]
  | .obj _, _ => by rw [fzW]
theorem nls_fz (n : Nat) (st : Stt) : ∀ w : List W, nlWs w = true → fzWs n st w = some w
  | [], _ => by rw [fzWs]
  | w :: ws, h => by rw [nlWs, Bool.and_eq_true] at h; rw [fzWs, nl_fz n st w h.1, nls_fz n st ws h.2]
end
mutual
theorem dat_nl : ∀ (n : Nat) (w : W), datW n w = true → nlW w = true
  | n, .tup ws, h => by rw [datW, Bool.and_eq_true] at h; rw [nlW]; exact dats_nl _ ws h.2
  | n, .lst ws, h => by rw [datW, Bool.and_eq_true] at h; rw [nlW]; exact dats_nl _ ws h.2
  | n, .prs ws, h => by rw [datW] at h; cases h
  | n, .scr ws, h => by rw [datW] at h; cases h
  | n, .dic ws, h => by rw [datW] at h; cases h
  | n, .loc _, h => by rw [datW] at h; cases h
  | n, .non, _ => by rw [nlW]
  | n, .bl _, _ => by rw [nlW]
  | n, .int _, _ => by rw [nlW]
  | n, .str _, _ => by rw [nlW]
  | n, .ty _, _ => by rw [nlW]
  | n, .obj _, _ => by rw [nlW]
theorem dats_nl : ∀ (n : Nat) (w : List W), datWs n w = true → nlWs w = true
  | n, [], _ => by rw [nlWs]
  | n, w :: ws, h => by rw [datWs, Bool.and_eq_true] at h; rw [nlWs, dat_nl n w h.1, dats_nl n ws h.2]; rfl
end
theorem nl_strs (xs : List Str) : nlWs (xs.map .str) = true := by
  induction xs with
  | nil => simp only [List.map_nil, nlWs]
  | cons a r ih => rw [List.map_cons, nlWs, ih, nlW]; rfl
theorem nl_ints (xs : List Int) : nlWs (xs.map .int) = true := by
  induction xs with
  | nil => simp only [List.map_nil, nlWs]
  | cons a r ih => rw [List.map_cons, nlWs, ih, nlW]; rfl
theorem dat_strs {n : Nat} {xs : List Str} (h : ∀ x ∈ xs, PyData.strOk x = true) : datWs n (xs.map .str) = true := by
  induction xs with
  | nil => simp only [List.map_nil, datWs]
  | cons a r ih => rw [List.map_cons, datWs, ih (fun x hx => h x (List.mem_cons_of_mem _ hx)), datW, h a List.mem_cons_self]; rfl
theorem dat_ints {n : Nat} {xs : List Int} : datWs n (xs.map .int) = true := by
  induction xs with
  | nil => simp only [List.map_nil, datWs]
  | cons a r ih => rw [List.map_cons, datWs, ih, datW]; rfl
theorem dats_all {n : Nat} {ws : List W} : datWs n ws = true ↔ ∀ w ∈ ws, datW n w = true := by
  induction ws with
  | nil => simp [datWs]
  | cons a r ih => rw [datWs, Bool.and_eq_true, ih]; simp
theorem nls_all {ws : List W} : nlWs ws = true ↔ ∀ w ∈ ws, nlW w = true := by
  induction ws with
  | nil => simp [nlWs]
  | cons a r ih => rw [nlWs, Bool.and_eq_true, ih]; simp
/-- a def that leaves the store as it stood -/
theorem frz_pure {m : FM} {ws : List W} {w : W} (h : m ws st = .ok w st) (hw : nlW w = true) : frz m ws st = .ok w st := by
  have := frz_new (m := m) (ws := ws) (st := st) (ex := []) (w := w) (w' := w) (by rw [List.append_nil]; exact h) (by rw [List.append_nil]; exact nl_fz _ _ w hw)
  exact this
end
end Sim
end
section
set_option Elab.async false
set_option linter.all false
set_option maxRecDepth 100000
set_option maxHeartbeats 1000000
open PySem PySem.Spec PyProof.Rows L2
namespace Sim
/-! draws -/
theorem small {x : Int} (h0 : 0 ≤ x) (h : x < 2 ^ 250) : x.natAbs < 2 ^ 1000 := by
  have h1 : x.natAbs < 2 ^ 250 := by
    have : (x.natAbs : Int) = x := Int.natAbs_of_nonneg h0
    have h2 : (x.natAbs : Int) < ((2 ^ 250 : Nat) : Int) := by rw [this]; exact_mod_cast h
    exact_mod_cast h2
  exact Nat.lt_trans h1 (Nat.pow_lt_pow_right (by decide) (by decide))
/-- the bag of draws: what is left, how many more draws may be made of it -/
def Sp (st : Stt) (i N : Nat) : Prop := ∃ a b c : Int, st[i]? = some (some (.lst [.int a, .int b, .int c])) ∧ 0 ≤ a ∧ 0 ≤ b ∧ b < 2 ^ 200 ∧ 0 ≤ c ∧ c + (N : Int) ≤ 2 ^ 100
theorem Sp.le {st : Stt} {i N M : Nat} (h : Sp st i N) (k : M ≤ N) : Sp st i M := by
  obtain ⟨a, b, c, h1, h2, h3, h4, h5, h6⟩ := h
  exact ⟨a, b, c, h1, h2, h3, h4, h5, by omega⟩
theorem Sp.cong {st st' : Stt} {i N M : Nat} (h : Sp st i N) (e : st'[i]? = st[i]?) (k : M ≤ N) : Sp st' i M := by
  obtain ⟨a, b, c, h1, h2, h3, h4, h5, h6⟩ := h
  exact ⟨a, b, c, e.trans h1, h2, h3, h4, h5, by omega⟩
theorem Sp.lt {st : Stt} {i N : Nat} (h : Sp st i N) : i < st.length := by
  obtain ⟨a, b, c, h1, _⟩ := h
  exact (List.getElem?_eq_some_iff.mp h1).1
structure Dr (st st' : Stt) (i N : Nat) : Prop where
  len : st'.length = st.length
  fr : ∀ j, j ≠ i → st'[j]? = st[j]?
  sp : Sp st' i N
theorem Dr.trans {st st1 st2 : Stt} {i N M : Nat} (x : Dr st st1 i N) (y : Dr st1 st2 i M) : Dr st st2 i M :=
  ⟨y.len.trans x.len, fun j h => (y.fr j h).trans (x.fr j h), y.sp⟩
theorem Dr.refl {st : Stt} {i N : Nat} (h : Sp st i N) : Dr st st i N := ⟨rfl, fun _ _ => rfl, h⟩
theorem frz_dr {m : FM} {ws : List W} {st st2 : Stt} {w w' : W} {i N : Nat} (h : m ws st = .ok w st2) (hw : fzW st.length st2 w = some w') (hf : ∀ j, j < st.length → j ≠ i → st2[j]? = st[j]?) (hs : Sp st2 i N) (hl : st.length ≤ st2.length) (hi : i < st.length) :
    ∃ st', frz m ws st = .ok w' st' ∧ Dr st st' i N := by
  refine ⟨st2.take st.length, frz_eq h (fun j hj => ?_) hw, by rw [List.length_take]; omega, fun j hj => ?_, ?_⟩
  · by_cases e : j = i
    · subst e
      obtain ⟨a, b, c, h1, _⟩ := hs
      exact .inr ⟨_, h1, by simp [okO, okLs, okL]⟩
    · exact .inl (hf j hj e)
  · by_cases hjl : j < st.length
    · rw [List.getElem?_take_of_lt hjl]; exact hf j hjl hj
    · rw [List.getElem?_eq_none (by rw [List.length_take]; omega), List.getElem?_eq_none (by omega)]
  · obtain ⟨a, b, c, h1, h2⟩ := hs
    exact ⟨a, b, c, by rw [List.getElem?_take_of_lt hi]; exact h1, h2⟩
theorem lcW_inv2 {ρ : Ev} {ok : Stt → Prop} {g : GM} {m : EM} (I : List W → Stt → Prop) (n : Nat) : ∀ (ws : List W) (acc : List W) (st : Stt), acc.length + ws.length = n → I acc st →
    (∀ (w : W) (acc : List W) (st : Stt), acc.length < n → w ∈ ws → I acc st → ∃ ρ1, g st w ρ = some ρ1 ∧ ∃ y st', m ρ1 st = .ok y st' ∧ I (acc ++ [y]) st') → (∀ acc st, I acc st → ok st) →
    ∃ ys st', lcW ok g tmYes m ρ ws st = .ok ys st' ∧ ys.length = ws.length ∧ I (acc ++ ys) st'
  | [], acc, st, _, hi, _, hk => ⟨[], st, by rw [lcW, if_pos (hk _ _ hi)], rfl, by rw [List.append_nil]; exact hi⟩
  | w :: ws, acc, st, hn, hi, h, hk => by
    obtain ⟨ρ1, h1, y, st1, h2, hi1⟩ := h w acc st (by simp at hn; omega) List.mem_cons_self hi
    obtain ⟨ys, st2, h3, h4, h5⟩ := lcW_inv2 I n ws (acc ++ [y]) st1 (by simp at hn ⊢; omega) hi1 (fun u acc st hl hu => h u acc st hl (List.mem_cons_of_mem _ hu)) hk
    refine ⟨y :: ys, st2, ?_, by simp [h4], by simpa using h5⟩
    rw [lcW, if_pos (hk _ _ hi), h1]
    simp [h2, h3]
theorem eraseIdx_perm {α : Type} {xs : List α} {k : Nat} (h : k < xs.length) : (xs[k] :: xs.eraseIdx k).Perm xs := by
  have : xs = xs.take k ++ xs[k] :: xs.drop (k + 1) := by rw [← List.drop_eq_getElem_cons h, List.take_append_drop]
  rw [List.eraseIdx_eq_take_drop_succ]
  exact List.perm_middle.symm.trans (by rw [← this])
theorem seqIx {v : Int} {n : Nat} (h0 : 0 ≤ v) (h : v < n) : seqIndex? v n = some v.toNat := by
  unfold seqIndex?
  have h1 : ¬ v < 0 := by omega
  simp [h1, h0, h]
theorem popAt_ok {us : List W} {v : Int} {st : Stt} (h0 : 0 ≤ v) (h : v < us.length) (hl : us.length ≤ 100000) : fPopAt us [.int v] st = some (us[v.toNat]'(by omega), us.eraseIdx v.toNat) := by
  unfold fPopAt
  dsimp only
  have hv : v.toNat < us.length := by omega
  rw [if_pos ⟨by omega, by omega⟩, seqIx h0 h]
  dsimp only
  rw [List.getElem?_eq_getElem hv]
end Sim
end
section
set_option Elab.async false
set_option linter.all false
set_option maxRecDepth 100000
set_option maxHeartbeats 1000000
open PySem PySem.Spec PyProof.Rows L2
namespace Sim
/-! a def that gives back a place of its own: that one is kept, as the last -/
section
variable {K : PySem.W.Frag} {G G' : Gm} {H H' : Hp}
structure ShrB (n : Nat) (G G' : Gm) : Prop where
  ls : ∀ (i : Nat) (a : Addr), i < n → G'.ls[i]? = some a → G.ls[i]? = some a
  al : ∀ a, G.alive a → G'.alive a
mutual
theorem RepV.shrB {n : Nat} (x : ShrB n G G') : ∀ {w : W} {v : V}, okL n w = true → RepV K G' H w v → RepV K G H w v
  | _, _, _, .non => .non
  | _, _, _, .bl b => .bl b
  | _, _, _, .int i => .int i
  | _, _, _, .str s => .str s
  | _, _, _, .ty n => .ty n
  | _, _, _, .obj a => .obj a
  | _, _, o, .tup h r => .tup (h.imp_left fun z => ⟨z.1, fun y => z.2 (x.al _ y)⟩) (RepL.shrB x (by rw [Sim.okL] at o; exact o) r)
  | _, _, o, .prs h r => .prs ⟨h.1, fun y => h.2 (x.al _ y)⟩ (RepL.shrB x (by rw [Sim.okL] at o; exact o) r)
  | _, _, o, .lst h r => .lst ⟨h.1, fun y => h.2 (x.al _ y)⟩ (RepL.shrB x (by rw [Sim.okL] at o; exact o) r)
  | _, _, o, .scr h r => .scr (h.imp_left fun z => ⟨z.1, fun y => z.2 (x.al _ y)⟩) (RepL.shrB x (by rw [Sim.okL] at o; exact o) r)
  | _, _, o, .dic h r => .dic ⟨h.1, fun y => h.2 (x.al _ y)⟩ (RepK.shrB x (by rw [Sim.okL] at o; exact o) r)
  | _, _, o, .loc e => .loc (x.ls _ _ (by rw [Sim.okL] at o; exact of_decide_eq_true o) e)
theorem RepL.shrB {n : Nat} (x : ShrB n G G') : ∀ {ws : List W} {vs : List V}, okLs n ws = true → RepL K G' H ws vs → RepL K G H ws vs
  | _, _, _, .nil => .nil
  | _, _, o, .cons a r => by
    rw [okLs, Bool.and_eq_true] at o
    exact .cons (RepV.shrB x o.1 a) (RepL.shrB x o.2 r)
theorem RepK.shrB {n : Nat} (x : ShrB n G G') : ∀ {ws : List (Key × W)} {vs : List (Key × V)}, okLk n ws = true → RepK K G' H ws vs → RepK K G H ws vs
  | _, _, _, .nil => .nil
  | _, _, o, .cons a r => by
    rw [okLk, Bool.and_eq_true] at o
    exact .cons (RepV.shrB x o.1 a) (RepK.shrB x o.2 r)
end
theorem RepO.shrB {n : Nat} (x : ShrB n G G') {a : Addr} {ob : Ob} (o : okO n ob = true) (h : RepO K G' H a ob) : RepO K G H a ob := by
  cases ob with
  | lst us => obtain ⟨vs, e, r⟩ := h; exact ⟨vs, e, RepL.shrB x o r⟩
  | dic us => obtain ⟨vs, e, r⟩ := h; exact ⟨vs, e, RepK.shrB x o r⟩
/-- the world cut back to what stood, and one place more -/
theorem frzL_cut {ls' : List Addr} {st' : Stt} {r : Nat} {p : Addr} {ob : Ob} (w : World K G H) (x : Ext G H (G.to ls' st') H') (w' : World K (G.to ls' st') H') (ok : okStt G.st.length G.st st') (hr : G.st.length ≤ r) (hp : ls'[r]? = some p) (hob : st'[r]? = some (some ob)) (ho : okO G.st.length ob = true) :
    Ext G H (G.to (G.ls ++ [p]) (st'.take G.st.length ++ [some ob])) H' ∧ World K (G.to (G.ls ++ [p]) (st'.take G.st.length ++ [some ob])) H' := by
  have hlen := w.len
  have hst : G.st.length ≤ st'.length := Nat.le_trans hr (Nat.le_of_lt (List.getElem?_eq_some_iff.mp hob).1)
  have htl : (st'.take G.st.length).length = G.st.length := by rw [List.length_take]; omega
  have rd : ∀ (i : Nat) (a : Addr) (ob' : Ob), (G.ls ++ [p])[i]? = some a → (st'.take G.st.length ++ [some ob])[i]? = some (some ob') →
      (i < G.st.length ∧ G.ls[i]? = some a ∧ st'[i]? = some (some ob')) ∨ (i = G.st.length ∧ a = p ∧ ob' = ob) := fun i a ob' e1 e2 => by
    by_cases hi : i < G.ls.length
    · rw [List.getElem?_append_left hi] at e1
      rw [List.getElem?_append_left (by rw [htl]; omega), List.getElem?_take_of_lt (by omega)] at e2
      exact .inl ⟨by omega, e1, e2⟩
    · rw [List.getElem?_append_right (by omega)] at e1
      rw [List.getElem?_append_right (by rw [htl]; omega), htl] at e2
      have hi2 : i - G.ls.length = 0 := by
        cases hk : i - G.ls.length with
        | zero => rfl
        | succ k => rw [hk] at e1; simp at e1
      rw [hi2] at e1
      rw [show i - G.st.length = 0 by omega] at e2
      exact .inr ⟨by omega, (Option.some.inj e1).symm, (Option.some.inj (Option.some.inj e2)).symm⟩
  have alv : ∀ a, (G.to (G.ls ++ [p]) (st'.take G.st.length ++ [some ob])).alive a → (G.to ls' st').alive a := fun a z => by
    rcases z with ⟨i, ob', e1, e2⟩ | z
    · rcases rd i a ob' e1 e2 with ⟨_, q1, q2⟩ | ⟨_, rfl, rfl⟩
      · exact .inl ⟨i, ob', x.ls i a q1, q2⟩
      · exact .inl ⟨r, _, hp, hob⟩
    · exact .inr z
  have pn : p ∉ G.ls := fun z => by
    obtain ⟨i, hi, e⟩ := List.getElem_of_mem z
    have e2 := x.ls i p (by rw [List.getElem?_eq_getElem hi, e])
    obtain ⟨h1, q1⟩ := List.getElem?_eq_some_iff.mp hp
    obtain ⟨h2, q2⟩ := List.getElem?_eq_some_iff.mp e2
    have : r = i := (List.getElem_inj w'.nd).mp (q1.trans q2.symm)
    omega
  have sh : ShrB G.st.length (G.to (G.ls ++ [p]) (st'.take G.st.length ++ [some ob])) (G.to ls' st') := ⟨fun i a hi e => by
    show (G.ls ++ [p])[i]? = some a
    rw [List.getElem?_append_left (by omega)]
    have q := x.ls i _ (List.getElem?_eq_getElem (by omega : i < G.ls.length))
    rw [e] at q
    rw [Option.some.inj q]
    exact List.getElem?_eq_getElem _, alv⟩
  refine ⟨⟨fun i a e => ?_, x.keep, fun a z => x.al a (alv a z), x.non, rfl, x.hidk⟩, ⟨?_, ?_, fun a ha => ?_, fun a ha => ⟨?_, fun z => ?_⟩, fun i a ob' e1 e2 => ?_⟩⟩
  · show (G.ls ++ [p])[i]? = some a
    rw [List.getElem?_append_left (List.getElem?_eq_some_iff.mp e).1]; exact e
  · show (G.ls ++ [p]).length = (st'.take G.st.length ++ [some ob]).length
    rw [List.length_append, List.length_append, htl, hlen]; rfl
  · show (G.ls ++ [p]).Nodup
    rw [List.nodup_append]
    exact ⟨w.nd, by simp, fun a ha b hb => by rw [List.mem_singleton.mp hb]; exact fun z => pn (z ▸ ha)⟩
  · have ha : a ∈ G.ls ++ [p] := ha
    rcases List.mem_append.mp ha with q | q
    · exact fun z => w.tr a q (x.non a z)
    · rw [List.mem_singleton.mp q]; exact w'.tr p (List.mem_of_getElem? hp)
  · rw [x.hidk a ha]; exact (w.hd a ha).1
  · have z : a ∈ G.ls ++ [p] := z
    rcases List.mem_append.mp z with q | q
    · exact (w.hd a ha).2 q
    · rw [List.mem_singleton.mp q] at ha
      exact (w'.hd p ha).2 (List.mem_of_getElem? hp)
  · rcases rd i a ob' e1 e2 with ⟨hi, q1, q2⟩ | ⟨_, rfl, rfl⟩
    · refine RepO.shrB sh ?_ (w'.at' i a ob' (x.ls i a q1) q2)
      rcases ok i hi with q | ⟨ob2, q, h⟩
      · rw [q2] at q
        have ro2 := w.at' i a ob' q1 q.symm
        cases ob' with
        | lst us => obtain ⟨_, _, rr⟩ := ro2; exact RepL.okL hlen rr
        | dic us => obtain ⟨_, _, rr⟩ := ro2; exact RepK.okL hlen rr
      · rw [q2] at q
        cases q
        exact h
    · exact RepO.shrB sh ho (w'.at' r a ob' hp hob)
end
open Classical in
noncomputable def frzL (m : FM) : FM := fun ws st => match m ws st with
  | .ok (.loc r) st' => if okStt st.length st st' ∧ st.length ≤ r then (match st'[r]? with
      | some (some ob) => if okO st.length ob = true then .ok (.loc st.length) (st'.take st.length ++ [some ob]) else .no
      | _ => .no) else .no
  | .er x st' => if okStt st.length st st' ∧ x.fs = [] then .er x (st'.take st.length) else .no
  | _ => .no
theorem fn_frzL {K : PySem.W.Frag} {P : Program} {w : PySem.World} {mg : Str → Option Value} {base : Heap} {CX : CXT} {f : Addr} {fd : FuncData} {ps : List Str} {k n : Nat} {m : FM} (F : FnOk P w K mg base CX k f fd ps (spF K n m)) : FnOk P w K mg base CX k f fd ps (spF K n (frzL m)) :=
  F.imp fun vs H Q E q => by
    obtain ⟨hl, G, ws, wo, rl, hp⟩ := q
    refine ⟨hl, G, ws, wo, rl, ?_⟩
    unfold frzL at hp
    cases e : m ws G.st with
    | no => rw [e] at hp; exact hp.elim
    | er x st' =>
      rw [e] at hp
      dsimp only at hp
      split at hp
      · rename_i hok
        intro ls' H' d xe w' rx
        obtain ⟨_, x2, w2⟩ := frz_cut wo xe w' hok.1
        exact hp G.ls H' d x2 w2 (.inl hok.2)
      · exact hp.elim
    | ok r st' =>
      rw [e] at hp
      cases r with
      | loc r =>
        dsimp only at hp
        split at hp
        · rename_i hok
          cases eo : st'[r]? with
          | none => rw [eo] at hp; exact hp.elim
          | some o =>
            cases o with
            | none => rw [eo] at hp; exact hp.elim
            | some ob =>
              rw [eo] at hp
              dsimp only at hp
              split at hp
              · rename_i ho
                intro ls' H' v xe w' rv
                cases rv with
                | loc he =>
                  obtain ⟨x2, w2⟩ := frzL_cut wo xe w' hok.1 hok.2 he eo ho
                  refine hp _ H' _ x2 w2 (.loc ?_)
                  show (G.ls ++ [_])[G.st.length]? = some _
                  rw [← wo.len]
                  exact List.getElem?_concat_length
              · exact hp.elim
        · exact hp.elim
      | _ => exact hp.elim
theorem frzL_eq {m : FM} {ws : List W} {st st' : Stt} {r : Nat} {ob : Ob} (h : m ws st = .ok (.loc r) st') (ok : okStt st.length st st') (hr : st.length ≤ r) (e : st'[r]? = some (some ob)) (ho : okO st.length ob = true) : frzL m ws st = .ok (.loc st.length) (st'.take st.length ++ [some ob]) := by
  unfold frzL
  rw [h]
  dsimp only
  rw [if_pos ⟨ok, hr⟩, e]
  dsimp only
  rw [if_pos ho]
end Sim
end
section
set_option Elab.async false
set_option linter.all false
set_option maxRecDepth 100000
set_option maxHeartbeats 1000000
open PySem PySem.Spec PyProof.Rows L2
namespace Sim
/-! dicts -/
def toKey : W → Option Key
  | .int i => some (.inl i)
  | .str x => some (.inr x)
  | _ => none
def dicX (st : Stt) : W → Option (List (Key × W))
  | .dic kvs => some kvs
  | .loc n => match st[n]? with
    | some (some (.dic kvs)) => some kvs
    | _ => none
  | _ => none
def valW (kvs : List (Key × W)) (k : Key) : Option W := (kvs.find? fun kv => decide (kv.1 = k)).map (·.2)
def putW (kvs : List (Key × W)) (k : Key) (v : W) : List (Key × W) :=
  if (kvs.any fun kv => decide (kv.1 = k)) = true then kvs.map (fun kv => if kv.1 = k then (kv.1, v) else kv) else kvs ++ [(k, v)]
def mergeW (kvs more : List (Key × W)) : List (Key × W) := more.foldl (fun acc kv => putW acc kv.1 kv.2) kvs
section
variable {X : Cx} {Wx : WX} {K : PySem.W.Frag} {G : Gm} {H : Hp}
theorem toKey_rep {w : W} {v : V} {k : Key} (r : RepV K G H w v) (e : toKey w = some k) : v = kV k := by
  cases r <;> (unfold toKey at e; cases e) <;> rfl
theorem RepK.val : ∀ {kws : List (Key × W)} {kvs : List (Key × V)} (k : Key), RepK K G H kws kvs → (valW kws k = none ∧ valV kvs k = none) ∨ ∃ w v, valW kws k = some w ∧ valV kvs k = some v ∧ RepV K G H w v
  | _, _, k, .nil => .inl ⟨rfl, rfl⟩
  | _, _, k, .cons (k := k') (w := w) (ws := ws) (v := v) (vs := vs) h r => by
    by_cases e : k' = k
    · exact .inr ⟨w, v, by simp [valW, List.find?_cons, e], by simp [valV, List.find?_cons, e], h⟩
    · have ih := RepK.val k r
      have e1 : valW ((k', w) :: ws) k = valW ws k := by simp [valW, List.find?_cons, e]
      have e2 : valV ((k', v) :: vs) k = valV vs k := by simp [valV, List.find?_cons, e]
      rw [e1, e2]; exact ih
theorem RepK.app {a b : List (Key × W)} {c d : List (Key × V)} (h : RepK K G H a c) (k : RepK K G H b d) : RepK K G H (a ++ b) (c ++ d) := by
  induction a generalizing c with
  | nil => cases h; exact k
  | cons p r ih => cases h with
    | cons x y => exact .cons x (ih y)
theorem RepK.any {kws : List (Key × W)} {kvs : List (Key × V)} (k : Key) (h : RepK K G H kws kvs) : (kws.any fun kv => decide (kv.1 = k)) = (kvs.any fun kv => decide (kv.1 = k)) := by
  induction kws generalizing kvs with
  | nil => cases h; rfl
  | cons p r ih => cases h with
    | cons x y => simp only [List.any_cons]; rw [ih y]
theorem RepK.mapPut {w : W} {v : V} (k : Key) (r : RepV K G H w v) : ∀ {kws : List (Key × W)} {kvs : List (Key × V)}, RepK K G H kws kvs → RepK K G H (kws.map fun kv => if kv.1 = k then (kv.1, w) else kv) (kvs.map fun kv => if kv.1 = k then (kv.1, v) else kv)
  | _, _, .nil => .nil
  | _, _, .cons (k := k') x y => by
    simp only [List.map_cons]
    by_cases e : k' = k
    · rw [if_pos e, if_pos e]; exact .cons r (RepK.mapPut k r y)
    · rw [if_neg e, if_neg e]; exact .cons x (RepK.mapPut k r y)
theorem RepK.put {kws : List (Key × W)} {kvs : List (Key × V)} {w : W} {v : V} (k : Key) (h : RepK K G H kws kvs) (r : RepV K G H w v) : RepK K G H (putW kws k w) (putK kvs k v) := by
  unfold putW putK
  rw [RepK.any k h]
  split
  · exact RepK.mapPut k r h
  · exact h.app (.cons r .nil)
theorem RepK.merge {more : List (Key × W)} {mv : List (Key × V)} (h : RepK K G H more mv) : ∀ {kws : List (Key × W)} {kvs : List (Key × V)}, RepK K G H kws kvs → RepK K G H (mergeW kws more) (mergeK kvs mv) := by
  induction more generalizing mv with
  | nil => cases h; exact fun q => q
  | cons p r ih => cases h with
    | cons x y => exact fun q => ih y (q.put _ x)
inductive RepP (K : PySem.W.Frag) (G : Gm) (H : Hp) : List (W × W) → List (V × V) → Prop
  | nil : RepP K G H [] []
  | cons {a b : W} {x y : V} {ps : List (W × W)} {qs : List (V × V)} : RepV K G H a x → RepV K G H b y → RepP K G H ps qs → RepP K G H ((a, b) :: ps) ((x, y) :: qs)
def prM : List (EM × EM) → Ev → Stt → Rs (List (W × W))
  | [], _, st => .ok [] st
  | (k, v) :: r, ρ, st => (k ρ st).bind fun x s1 => (v ρ s1).bind fun y s2 => (prM r ρ s2).bind fun ps s3 => .ok ((x, y) :: ps) s3
def SemP (K : PySem.W.Frag) (trs : List (TE × TE)) (ms : List (EM × EM)) : Prop := ∀ (G : Gm) (H : Hp) (ρ : Ev) (σ : L2.St) (Q : List (V × V) → Hp → Prop) (ps : List (W × W)) (st' : Stt), World K G H → RepE K G H ρ σ → prM ms ρ G.st = .ok ps st' →
  (∀ ls' H' qs, Ext G H (G.to ls' st') H' → World K (G.to ls' st') H' → RepP K (G.to ls' st') H' ps qs → Q qs H') → tPairs trs σ H Q
structure CP (X : Cx) (pos : Pos) (keys : List (Option Expr)) (values : List Expr) (trs : List (TE × TE)) (ms : List (EM × EM)) : Prop where
  pe : PPs X pos keys values trs
  sem : SemP X.K trs ms
theorem cp_nil {pos : Pos} : CP X pos [] [] [] [] := ⟨pps_nil, fun G H ρ σ Q ps st' w r e q => by cases e; exact q G.ls H [] (Ext.refl _ _) w .nil⟩
theorem Rs.bind_eq {α β : Type} {r : Rs α} {f : α → Stt → Rs β} {b : β} {st : Stt} (h : r.bind f = .ok b st) : ∃ a st1, r = .ok a st1 ∧ f a st1 = .ok b st := by
  cases r with
  | ok a st1 => exact ⟨a, st1, rfl, h⟩
  | er x st1 => cases h
  | no => cases h
theorem RepP.mono {G' : Gm} {H' : Hp} (x : Ext G H G' H') {ps : List (W × W)} {qs : List (V × V)} (h : RepP K G H ps qs) : RepP K G' H' ps qs := by
  induction h with
  | nil => exact .nil
  | cons a b _ ih => exact .cons (a.mono x) (b.mono x) ih
theorem cp_cons {pos : Pos} {k v : Expr} {ks : List (Option Expr)} {vs : List Expr} {tk tv : TE} {mk mv : EM} {trs : List (TE × TE)} {ms : List (EM × EM)} (hk : CE X W0 k tk mk) (hv : CE X W0 v tv mv) (hr : CP X pos ks vs trs ms) :
    CP X pos (some k :: ks) (v :: vs) ((tk, tv) :: trs) ((mk, mv) :: ms) := by
  refine ⟨pps_cons hk.pe hv.pe hr.pe, fun G H ρ σ Q ps st' w r e q => ?_⟩
  obtain ⟨a, s1, e1, e⟩ := Rs.bind_eq e
  obtain ⟨b, s2, e2, e⟩ := Rs.bind_eq e
  obtain ⟨rest, s3, e3, e⟩ := Rs.bind_eq e
  cases e
  refine hk.sem G H ρ σ _ w r ?_
  rw [e1]
  intro ls1 H1 x x1 w1 r1
  refine hv.sem (G.to ls1 s1) H1 ρ σ _ w1 (r.mono x1) ?_
  rw [show (G.to ls1 s1).st = s1 from rfl, e2]
  intro ls2 H2 y x2 w2 r2
  refine hr.sem (G.to ls2 s2) H2 ρ σ _ rest st' w2 (r.mono (x1.trans x2)) e3 fun ls3 H3 qs x3 w3 r3 => ?_
  exact q ls3 H3 _ ((x1.trans x2).trans x3) w3 (.cons (r1.mono (x2.trans x3)) (r2.mono x3) r3)
def keysOf : List (W × W) → Option (List (Key × W))
  | [] => some []
  | (a, b) :: r => match toKey a, keysOf r with
    | some k, some q => some ((k, b) :: q)
    | _, _ => none
theorem keysOf_rep {ps : List (W × W)} {qs : List (V × V)} (h : RepP K G H ps qs) : ∀ {kws : List (Key × W)}, keysOf ps = some kws → ∃ kvs : List (Key × V), qs = kvs.map (fun kv => (kV kv.1, kv.2)) ∧ RepK K G H kws kvs := by
  induction h with
  | nil => intro kws e; cases e; exact ⟨[], rfl, .nil⟩
  | @cons a b x y ps qs ha hb _ ih =>
    intro kws e
    rw [keysOf] at e
    cases e1 : toKey a with
    | none => rw [e1] at e; cases e
    | some k =>
      cases e2 : keysOf ps with
      | none => rw [e1, e2] at e; cases e
      | some q =>
        rw [e1, e2] at e
        cases e
        obtain ⟨kvs, rfl, rk⟩ := ih e2
        exact ⟨(k, y) :: kvs, by rw [List.map_cons, toKey_rep ha e1], .cons hb rk⟩
theorem keysOf_length {ps : List (W × W)} {kws : List (Key × W)} (e : keysOf ps = some kws) : kws.length = ps.length := by
  induction ps generalizing kws with
  | nil => cases e; rfl
  | cons p r ih =>
    obtain ⟨a, b⟩ := p
    rw [keysOf] at e
    cases e1 : toKey a with
    | none => rw [e1] at e; cases e
    | some k =>
      cases e2 : keysOf r with
      | none => rw [e1, e2] at e; cases e
      | some q => rw [e1, e2] at e; cases e; simp [ih e2]
/-- {k: v, ..} as a value -/
def eDic (ms : List (EM × EM)) : EM := fun ρ st => match prM ms ρ st with
  | .ok ps st1 => match keysOf ps with
    | some kws => if kws.length ≤ 15 then .ok (.dic (mergeW [] kws)) st1 else .no
    | none => .no
  | _ => .no
theorem sem_dic {trs : List (TE × TE)} {ms : List (EM × EM)} (h : SemP K trs ms) : SemE K Wx (tDisp trs) (eDic ms) := fun G H ρ σ Q w r hp => by
  intro p hn
  unfold eDic at hp
  cases e : prM ms ρ G.st with
  | ok ps st1 =>
    rw [e] at hp
    dsimp only at hp
    cases ek : keysOf ps with
    | none => rw [ek] at hp; exact hp.elim
    | some kws =>
      rw [ek] at hp
      dsimp only at hp
      split at hp
      · rename_i hl
        refine h (G.hide p) (upd H p (.dK [])) ρ σ _ ps st1 (w.hide hn) (r.less (less_hide w hn)) e fun ls' H' qs x w' rp => ?_
        have hp0 : H' p = some (.dK []) := (x.hidk p List.mem_cons_self).trans upd_same
        obtain ⟨kvs, rfl, rk⟩ := keysOf_rep rp ek
        have hlk : kvs.length ≤ 15 := by rw [← rk.length]; exact hl
        refine ⟨hp0, kvs, rfl, hlk, ?_⟩
        have rm : RepK K ((G.to ls' st1).hide p) H' (mergeW [] kws) (mergeK [] kvs) := RepK.merge rk .nil
        have w2 : World K ((G.to ls' st1).hide p) (upd H' p (.dK (mergeK [] kvs))) := w'.hidupd List.mem_cons_self
        have x2 : Ext G H (G.to ls' st1) (upd H' p (.dK (mergeK [] kvs))) := Ext.under (G1 := G) (H1 := H) (ls := G.ls) (st := G.st) (H := upd H p (.dK [])) w hn (Ext.new w hn) x
        refine hp ls' _ (.ref p) x2 w2.unhide (.dic ⟨.inl upd_same, hidden_nal w hn x2 w2⟩ ?_)
        exact (rm.less (less_hidupd List.mem_cons_self)).less less_unhide
      · exact hp.elim
  | er x st1 => rw [e] at hp; exact hp.elim
  | no => rw [e] at hp; exact hp.elim
theorem ce_dic {pos : Pos} {keys : List (Option Expr)} {values : List Expr} {trs : List (TE × TE)} {ms : List (EM × EM)} (h : CP X pos keys values trs ms) (hall : keys.all (·.isSome) = true := by rfl) (hl : keys.length = values.length := by rfl) (h0 : keys ≠ [] := by exact List.cons_ne_nil _ _) (h15 : keys.length ≤ 15 := by decide) :
    CE X Wx (.Dict keys values pos) (tDisp trs) (eDic ms) := ⟨pe_disp h.pe hall hl h0 h15, sem_dic h.sem⟩
theorem dic_rd {w : W} {v : V} {kws : List (Key × W)} (wo : World K G H) (r : RepV K G H w v) (e : dicX G.st w = some kws) : ∃ a kvs, v = .ref a ∧ Rd H a (.dK kvs) ∧ RepK K G H kws kvs := by
  cases r with
  | dic h rk => cases e; exact ⟨_, _, rfl, h.1, rk⟩
  | loc h =>
    unfold dicX at e
    dsimp only at e
    split at e
    · rename_i q
      cases e
      obtain ⟨kvs, e1, rk⟩ := wo.at' _ _ _ h q
      exact ⟨_, kvs, rfl, .inl e1, rk⟩
    · cases e
  | _ => cases e
/-- d.get(k, x) -/
def eDget2 (d k x : EM) : EM := fun ρ st => (d ρ st).bind fun u s1 => match dicX s1 u with
  | some _ => (k ρ s1).bind fun y s2 => (x ρ s2).bind fun z s3 => match dicX s3 u, toKey y with
    | some kvs, some q => .ok ((valW kvs q).getD z) s3
    | _, _ => .no
  | none => .no
theorem ce_dget2 {o e f : Expr} {apos cpos : Pos} {td ty tx : TE} {md mk mx : EM} (hu : X.A.units + 1 < cLine) (ho : CE X Wx o td md) (he : CE X Wx e ty mk) (hf : CE X Wx f tx mx) (m : M2 X o "get" apos e f cpos) :
    CE X Wx (.Call (.Attribute o "get" apos) [e, f] [] cpos) (tDGet2 td ty tx) (eDget2 md mk mx) := by
  refine ⟨pe_dget2 hu ho.pe he.pe hf.pe m, fun G H ρ σ Q w r hp => ?_⟩
  refine ho.sem G H ρ σ _ w r (PostR.bind hp fun u s1 ls1 H1 v q1 x1 w1 rv hp1 => ?_)
  clear q1
  cases e1 : dicX s1 u with
  | none => rw [e1] at hp1; exact hp1.elim
  | some kw1 =>
    rw [e1] at hp1
    obtain ⟨a, kvs, rfl, hrd, _⟩ := dic_rd (G := G.to ls1 s1) w1 rv e1
    refine ⟨a, rfl, .inl ⟨kvs, hrd⟩, ?_⟩
    refine he.sem (G.to ls1 s1) H1 ρ σ _ w1 (r.mono x1) (PostR.bind hp1 fun y s2 ls2 H2 vy q2 x2 w2 ry hp2 => ?_)
    clear q2
    refine hf.sem (G.to ls2 s2) H2 ρ σ _ w2 (r.mono (x1.trans x2)) (PostR.bind hp2 fun z s3 ls3 H3 vz q3 x3 w3 rz hp3 => ?_)
    clear q3
    cases e3 : dicX s3 u with
    | none => rw [e3] at hp3; exact hp3.elim
    | some kws =>
      cases e4 : toKey y with
      | none => rw [e3, e4] at hp3; exact hp3.elim
      | some k =>
        rw [e3, e4] at hp3
        obtain ⟨a', kvs', ea, hrd', rk⟩ := dic_rd (G := G.to ls3 s3) w3 (rv.mono (x2.trans x3)) e3
        cases ea
        refine ⟨valV kvs' k, .inl ⟨kvs', k, hrd', toKey_rep ry e4, rfl⟩, ?_⟩
        refine PostV.val (G := G.to ls3 s3) w3 (PostV.of hp3) ?_
        rcases RepK.val k rk with ⟨h1, h2⟩ | ⟨w', v', h1, h2, h3⟩
        · rw [h1, h2]; exact rz
        · rw [h1, h2]; exact h3
/-- d[k] -/
def eDget (d k : EM) : EM := fun ρ st => (d ρ st).bind fun u s1 => (k ρ s1).bind fun y s2 => match dicX s2 u, toKey y with
  | some kvs, some q => (match valW kvs q with | some z => .ok z s2 | none => .no)
  | _, _ => .no
theorem ce_dget {o e : Expr} {pos : Pos} {td ty : TE} {md mk : EM} (hu : X.A.units + 1 < cLine) (ho : CE X Wx o td md) (he : CE X Wx e ty mk) (hs : NoSl e) : CE X Wx (.Subscript o e pos) (tDGet td ty) (eDget md mk) := by
  refine ⟨pe_dget hu ho.pe he.pe hs, fun G H ρ σ Q w r hp => ?_⟩
  refine ho.sem G H ρ σ _ w r (PostR.bind hp fun u s1 ls1 H1 v q1 x1 w1 rv hp1 => ?_)
  clear q1
  refine he.sem (G.to ls1 s1) H1 ρ σ _ w1 (r.mono x1) (PostR.bind hp1 fun y s2 ls2 H2 vy q2 x2 w2 ry hp2 => ?_)
  clear q2
  cases e3 : dicX s2 u with
  | none => rw [e3] at hp2; exact hp2.elim
  | some kws =>
    cases e4 : toKey y with
    | none => rw [e3, e4] at hp2; exact hp2.elim
    | some k =>
      rw [e3, e4] at hp2
      dsimp only at hp2
      obtain ⟨a, kvs, rfl, hrd, rk⟩ := dic_rd (G := G.to ls2 s2) w2 (rv.mono x2) e3
      cases e5 : valW kws k with
      | none => rw [e5] at hp2; exact hp2.elim
      | some z =>
        rw [e5] at hp2
        rcases RepK.val k rk with ⟨h1, h2⟩ | ⟨w', v', h1, h2, h3⟩
        · rw [h1] at e5; cases e5
        · rw [h1] at e5
          cases e5
          exact ⟨a, v', rfl, .inl ⟨kvs, k, hrd, toKey_rep ry e4, h2.symm⟩, PostV.val (G := G.to ls2 s2) w2 (PostV.of hp2) h3⟩
end
section
variable {ρ : Ev} {st : Stt}
@[simp] theorem prM_nil : prM [] ρ st = .ok [] st := id rfl
def prK3 (x y : W) (r : Rs (List (W × W))) : Rs (List (W × W)) := match r with | .ok ps s => .ok ((x, y) :: ps) s | .er x s => .er x s | .no => .no
@[simp] theorem prK3_ok (x y : W) (ps : List (W × W)) : prK3 x y (.ok ps st) = .ok ((x, y) :: ps) st := id rfl
def prK2 (ms : List (EM × EM)) (ρ : Ev) (x : W) (r : Rs W) : Rs (List (W × W)) := match r with | .ok y s => prK3 x y (prM ms ρ s) | .er x s => .er x s | .no => .no
@[simp] theorem prK2_ok (ms : List (EM × EM)) (x y : W) : prK2 ms ρ x (.ok y st) = prK3 x y (prM ms ρ st) := id rfl
def prK (v : EM) (ms : List (EM × EM)) (ρ : Ev) (r : Rs W) : Rs (List (W × W)) := match r with | .ok x s => prK2 ms ρ x (v ρ s) | .er x s => .er x s | .no => .no
@[simp] theorem prK_ok (v : EM) (ms : List (EM × EM)) (x : W) : prK v ms ρ (.ok x st) = prK2 ms ρ x (v ρ st) := id rfl
@[simp] theorem prM_cons (k v : EM) (ms : List (EM × EM)) : prM ((k, v) :: ms) ρ st = prK v ms ρ (k ρ st) := by
  rw [prM]
  unfold prK
  cases k ρ st with
  | ok x s =>
    show (v ρ s).bind _ = prK2 ms ρ x (v ρ s)
    unfold prK2
    cases v ρ s with
    | ok y s2 => show (prM ms ρ s2).bind _ = prK3 x y (prM ms ρ s2); unfold prK3; cases prM ms ρ s2 <;> rfl
    | er x s => rfl
    | no => rfl
  | er x s => rfl
  | no => rfl
def dicK (r : Rs (List (W × W))) : Rs W := match r with
  | .ok ps st1 => match keysOf ps with
    | some kws => if kws.length ≤ 15 then .ok (.dic (mergeW [] kws)) st1 else .no
    | none => .no
  | _ => .no
@[simp] theorem dicK_ok {ps : List (W × W)} {kws : List (Key × W)} (h : keysOf ps = some kws) : dicK (.ok ps st) = if kws.length ≤ 15 then .ok (.dic (mergeW [] kws)) st else .no := by
  unfold dicK
  dsimp only
  rw [h]
@[simp] theorem ev_dic (ms : List (EM × EM)) : eDic ms ρ st = dicK (prM ms ρ st) := by unfold eDic dicK; rfl
@[simp] theorem keys_nil : keysOf [] = some [] := id rfl
@[simp] theorem keys_str (x : Str) (b : W) (r : List (W × W)) : keysOf ((.str x, b) :: r) = (keysOf r).map fun q => (.inr x, b) :: q := by
  rw [keysOf]
  show (match some (Sum.inr x), keysOf r with | some k, some q => some ((k, b) :: q) | _, _ => none) = _
  cases keysOf r <;> rfl
@[simp] theorem keys_int (x : Int) (b : W) (r : List (W × W)) : keysOf ((.int x, b) :: r) = (keysOf r).map fun q => (.inl x, b) :: q := by
  rw [keysOf]
  show (match some (Sum.inl x), keysOf r with | some k, some q => some ((k, b) :: q) | _, _ => none) = _
  cases keysOf r <;> rfl
@[simp] theorem dic_dic (kvs : List (Key × W)) : dicX st (.dic kvs) = some kvs := id rfl
def dg3 (u y z : W) (st : Stt) : Rs W := match dicX st u, toKey y with
  | some kvs, some q => .ok ((valW kvs q).getD z) st
  | _, _ => .no
theorem dg3_ok {u y z : W} {kvs : List (Key × W)} {q : Key} (h : dicX st u = some kvs) (k : toKey y = some q) : dg3 u y z st = .ok ((valW kvs q).getD z) st := by
  unfold dg3
  rw [h, k]
def dgK3 (u y : W) (r : Rs W) : Rs W := match r with | .ok z s => dg3 u y z s | .er x s => .er x s | .no => .no
@[simp] theorem dgK3_ok (u y z : W) : dgK3 u y (.ok z st) = dg3 u y z st := id rfl
def dgK2 (u : W) (x : EM) (ρ : Ev) (r : Rs W) : Rs W := match r with | .ok y s => dgK3 u y (x ρ s) | .er x s => .er x s | .no => .no
@[simp] theorem dgK2_ok (u : W) (x : EM) (y : W) : dgK2 u x ρ (.ok y st) = dgK3 u y (x ρ st) := id rfl
def dgW (k x : EM) (ρ : Ev) (u : W) (st : Stt) (o : Option (List (Key × W))) : Rs W := match o with | some _ => dgK2 u x ρ (k ρ st) | none => .no
@[simp] theorem dgW_some (k x : EM) (u : W) (kvs : List (Key × W)) : dgW k x ρ u st (some kvs) = dgK2 u x ρ (k ρ st) := id rfl
def dgK (k x : EM) (ρ : Ev) (r : Rs W) : Rs W := match r with | .ok u s => dgW k x ρ u s (dicX s u) | .er x s => .er x s | .no => .no
@[simp] theorem dgK_ok (k x : EM) (u : W) : dgK k x ρ (.ok u st) = dgW k x ρ u st (dicX st u) := id rfl
@[simp] theorem ev_dget2 (d k x : EM) : eDget2 d k x ρ st = dgK k x ρ (d ρ st) := by
  unfold eDget2 dgK
  cases d ρ st with
  | ok u s =>
    show (match dicX s u with | some _ => (k ρ s).bind _ | none => .no) = dgW k x ρ u s (dicX s u)
    unfold dgW
    cases dicX s u with
    | none => rfl
    | some kvs =>
      show (k ρ s).bind _ = dgK2 u x ρ (k ρ s)
      unfold dgK2
      cases k ρ s with
      | ok y s2 => show (x ρ s2).bind _ = dgK3 u y (x ρ s2); unfold dgK3 dg3; cases x ρ s2 <;> rfl
      | er x s => rfl
      | no => rfl
  | er x s => rfl
  | no => rfl
end
end Sim
end
section
set_option Elab.async false
set_option linter.all false
set_option maxRecDepth 100000
set_option maxHeartbeats 1000000
open PySem PySem.Spec PyProof.Rows L2
namespace Sim
section
variable {X : Cx} {Wx : WX} {K : PySem.W.Frag} {G : Gm} {H : Hp}
/-- xs + ys, a list that is changed later -/
def eCatO (a b : EM) : EM := fun ρ st => (a ρ st).bind fun x st1 => (b ρ st1).bind fun y st2 => match lstX st2 x, lstX st2 y with
  | some xs, some ys => if xs.length + ys.length ≤ 100000 then .ok (.loc st2.length) (st2 ++ [some (.lst (xs ++ ys))]) else .no
  | _, _ => .no
theorem sem_catO {ta tb : TE} {a b : EM} (ha : SemE K Wx ta a) (hb : SemE K Wx tb b) : SemE K Wx (tOp (rAdd4 K) ta tb) (eCatO a b) := fun G H ρ σ Q w r h => by
  refine ha G H ρ σ _ w r (PostR.bind h fun x st1 ls1 H1 v q1 e1 w1 rv h1' => ?_)
  clear q1
  refine hb (G.to ls1 st1) H1 ρ σ _ w1 (r.mono e1) (PostR.bind h1' fun y st2 ls2 H2 u q2 e2 w2 ru h2' => ?_)
  clear q2
  split at h2'
  · rename_i xs ys ex ey
    split at h2'
    · rename_i hl
      obtain ⟨a, vs, rfl, sq, rl⟩ := lst_x (G := G.to ls2 st2) w2 (rv.mono e2) ex
      obtain ⟨b, us, rfl, sq2, rl2⟩ := lst_x (G := G.to ls2 st2) w2 ru ey
      exact .inr (.inr (.inl ⟨a, b, vs, us, rfl, rfl, sq, sq2, Nat.le_trans (by rw [← rl.length, ← rl2.length]; exact hl) (by decide), fun p hp => post_push w2 hp h2' ⟨_, upd_same, (rl.app rl2).mono (Ext.push w2 _ hp)⟩⟩))
    · exact h2'.elim
  · exact h2'.elim
theorem ce_catO {a b : Expr} {ta tb : TE} {ma mb : EM} {pos : Pos} (ha : CE X Wx a ta ma) (hb : CE X Wx b tb mb) : CE X Wx (.BinOp a .Add b pos) (tOp (rAdd4 X.K) ta tb) (eCatO ma mb) :=
  ⟨pe_op op_add4 ha.pe hb.pe, sem_catO ha.sem hb.sem⟩
end
section
variable {ρ : Ev} {st : Stt}
def catW (x y : W) (st : Stt) : Rs W := match lstX st x, lstX st y with
  | some xs, some ys => if xs.length + ys.length ≤ 100000 then .ok (.loc st.length) (st ++ [some (.lst (xs ++ ys))]) else .no
  | _, _ => .no
def catK2 (x : W) (r : Rs W) : Rs W := match r with | .ok y s => catW x y s | .er x s => .er x s | .no => .no
@[simp] theorem catK2_ok (x y : W) : catK2 x (.ok y st) = catW x y st := id rfl
def catK (b : EM) (ρ : Ev) (r : Rs W) : Rs W := match r with | .ok x s => catK2 x (b ρ s) | .er x s => .er x s | .no => .no
@[simp] theorem catK_ok (b : EM) (x : W) : catK b ρ (.ok x st) = catK2 x (b ρ st) := id rfl
@[simp] theorem ev_catO (a b : EM) : eCatO a b ρ st = catK b ρ (a ρ st) := by
  unfold eCatO catK
  cases a ρ st with
  | ok x s => show (b ρ s).bind _ = catK2 x (b ρ s); unfold catK2 catW; cases b ρ s <;> rfl
  | er x s => rfl
  | no => rfl
theorem catW_ok {x y : W} {xs ys : List W} (h : lstX st x = some xs) (k : lstX st y = some ys) (l : xs.length + ys.length ≤ 100000) : catW x y st = .ok (.loc st.length) (st ++ [some (.lst (xs ++ ys))]) := by
  unfold catW
  rw [h, k]
  dsimp only
  rw [if_pos l]
end
end Sim
end
section
set_option Elab.async false
set_option linter.all false
set_option maxRecDepth 100000
set_option maxHeartbeats 1000000
open PySem PySem.Spec PyProof.Rows L2
namespace Sim
/-! a call whose arguments are all given by name -/
def permL {α : Type} (is : List Nat) (l : List α) : List α := is.filterMap fun i => l[i]?
theorem Vals.at' {vs : List V} {us : List Value} (h : Vals vs us) : ∀ i : Nat, (vs[i]? = none ∧ us[i]? = none) ∨ ∃ v u, vs[i]? = some v ∧ us[i]? = some u ∧ RelV v u := by
  induction h with
  | nil => intro i; exact .inl ⟨rfl, rfl⟩
  | cons a _ ih =>
    intro i
    cases i with
    | zero => exact .inr ⟨_, _, rfl, rfl, a⟩
    | succ i => simpa using ih i
theorem Vals.perm {vs : List V} {us : List Value} (h : Vals vs us) : ∀ is : List Nat, Vals (permL is vs) (permL is us)
  | [] => .nil
  | i :: is => by
    have ih := Vals.perm h is
    unfold permL at ih ⊢
    rw [List.filterMap_cons, List.filterMap_cons]
    rcases Vals.at' h i with ⟨e1, e2⟩ | ⟨v, u, e1, e2, r⟩
    · rw [e1, e2]; exact ih
    · rw [e1, e2]; exact .cons r ih
section
variable {X : Cx} {Wx : WX} {K : PySem.W.Frag} {G : Gm} {H : Hp}
theorem RepL.at' {ws : List W} {vs : List V} (h : RepL K G H ws vs) : ∀ i : Nat, (ws[i]? = none ∧ vs[i]? = none) ∨ ∃ w v, ws[i]? = some w ∧ vs[i]? = some v ∧ RepV K G H w v := by
  induction ws generalizing vs with
  | nil => cases h; intro i; exact .inl ⟨rfl, rfl⟩
  | cons w r ih => cases h with
    | cons a b =>
      intro i
      cases i with
      | zero => exact .inr ⟨_, _, rfl, rfl, a⟩
      | succ i => simpa using ih b i
theorem RepL.perm {ws : List W} {vs : List V} (h : RepL K G H ws vs) : ∀ is : List Nat, RepL K G H (permL is ws) (permL is vs)
  | [] => .nil
  | i :: is => by
    have ih := RepL.perm h is
    unfold permL at ih ⊢
    rw [List.filterMap_cons, List.filterMap_cons]
    rcases RepL.at' h i with ⟨e1, e2⟩ | ⟨v, u, e1, e2, r⟩
    · rw [e1, e2]; exact ih
    · rw [e1, e2]; exact .cons r ih
structure CK (X : Cx) (Wx : WX) (kws : List Keyword) (t : TA) (m : AM) : Prop where
  pe : PK X kws t
  sem : SemA X.K Wx t m
theorem ck_nil : CK X Wx [] tNil aNil := ⟨pk_nil, ca_nil.sem⟩
theorem sem_cons {te : TE} {t : TA} {m : EM} {ms : AM} (h1 : SemE K Wx te m) (h2 : SemA K Wx t ms) : SemA K Wx (tCons te t) (aCons m ms) := fun G H ρ σ Q w r h => by
  refine h1 G H ρ σ _ w r (PostR.bind h fun x st1 ls1 H1 v q1 e1 w1 rv hp1 => ?_)
  clear q1
  refine h2 (G.to ls1 st1) H1 ρ σ _ w1 (r.mono e1) (PostR.bind hp1 fun ws st2 ls2 H2 vs q2 e2 w2 rvs hp2 => ?_)
  exact PostR.ok (G := G.to ls2 st2) (R := RepL K) w2 hp2 (.cons (rv.mono e2) rvs)
theorem ck_cons {e : Expr} {nm : Option Str} {kpos : Pos} {kws : List Keyword} {te : TE} {t : TA} {m : EM} {ms : AM} (h1 : CE X Wx e te m) (h2 : CK X Wx kws t ms) : CK X Wx (⟨nm, e, kpos⟩ :: kws) (tCons te t) (aCons m ms) :=
  ⟨pk_cons h1.pe h2.pe, sem_cons h1.sem h2.sem⟩
def tCallP (sp : L2.Sp) (is : List Nat) (n : Nat) (E : L2.St → XK) (t : TA) : TE := fun σ H Q => t σ H fun vs H1 => vs.length = n ∧ sp (permL is vs) H1 Q (E σ)
structure KB (K : PySem.W.Frag) (fd : FuncData) (ps ks : List Str) (is : List Nat) : Prop where
  to : ∀ (s : Shared) (ws : List Value), K.In s.heap → ws.length = ks.length → BindsTo s fd ⟨[], ks.zip ws⟩ (ps.zip (permL is ws))
theorem Fun.kb {x qual : Str} {st : Stmt} {f : Addr} {fd : FuncData} {ps ks : List Str} {is : List Nat} (F : Fun K x qual st f fd)
    (h : ∀ (kV doc pm : Value) (an : Option Addr) (cdv ct : Value) (ws : List Value), ws.length = ks.length → bindArgs (PySem.W.fnOf x qual (defArgs st) (defBody st) (defScope st) .none kV doc pm an cdv ct) ⟨[], ks.zip ws⟩ = pure (ps.zip (permL is ws))) : KB K fd ps ks is := by
  obtain ⟨oc, od, kV, doc, pm, an, cdv, ct, osl, rfl, lk, hcd⟩ := F.ex
  exact ⟨fun s ws _ hl => .of_eq (h kV doc pm an cdv ct ws hl)⟩
theorem pe_callP {CX : CXT} {k n : Nat} {f : Addr} {fd : FuncData} {ps ks : List Str} {is : List Nat} {sp : L2.Sp} {E : L2.St → XK} {x : Str} {p pos : Pos} {kws : List Keyword} {tk : TA} (F : FnOk X.prog X.w X.K X.mg X.base CX k f fd ps sp) (hr : Room k X.A) (hg : Gl X x) (hm : X.mg x = some (.ref f)) (hk : PySem.W.keepIn X.K (.ref f) = true) (hb : KB X.K fd ps ks is) (hx : ∀ σ, PassesAt CX X σ (E σ))
    (hkw : PK X kws tk) (hn : n = ks.length) (hall : (backToKw pos (keywordEach kws X.env)).all (·.1.isSome) = true := by rfl) (hks : (backToKw pos (keywordEach kws X.env)).filterMap (·.1) = ks := by rfl)
    (hdb : (x == ("__debug__" : Str)) = false := by decide)
    (hpl : ((backTo pos (starEach [] X.env)).any (·.1) || (backToKw pos (keywordEach kws X.env)).any (·.1.isNone)) = false := by rfl) :
    PE X (.Call (.Name x p) [] kws pos) (tCallP sp is n E tk) := by
  refine ⟨fun pins s σ H Q I h => ?_⟩
  refine wpAny_Call_Name_kw (ld_glob I hg hm ?_ hdb)
  refine PySem.W.callWith_KW0 (h₀ := X.base) I.ok.mod.kin hk hall (thn (hkw.run pos pins s σ H _ I h) fun ws s2 ⟨zs, H2, I2, rz, l2, q2⟩ => ⟨I2.kIn, ?_⟩) hpl
  rw [hks]
  have r2 := Vals.perm rz is
  refine wpAny_call (codeAny_mono (F.run X.A X.stack s2 H2 ⟨[], ks.zip ws⟩ (permL is ws) (permL is zs) Q (E σ) hr I2.env0 (hb.to s2 ws I2.kIn (rz.length.symm.trans (l2.trans hn))) r2 q2) fun r s' hq => ?_)
  cases r with
  | error e => exact hx σ pins H2 s2 e s' I2 hq
  | ok fl =>
    cases fl with
    | ret u => exact I2.after hq
    | next => exact False.elim hq
    | brk => exact False.elim hq
    | cont => exact False.elim hq
def eCallP (is : List Nat) (m : FM) (as : AM) : EM := fun ρ st => (as ρ st).bind fun ws st1 => m (permL is ws) st1
theorem sem_callP {m : FM} {n : Nat} {is : List Nat} {ta : TA} {as : AM} (ha : SemA K Wx ta as) (hn : ALen as n) (hi : ∀ l : List V, l.length = n → (permL is l).length = n) : SemE K Wx (tCallP (spF K n m) is n (WE Wx) ta) (eCallP is m as) := fun G H ρ σ Q w r h => by
  refine ha G H ρ σ _ w r (PostR.bind h fun ws st1 ls1 H1 vs he e1 w1 rv h1 => ?_)
  have hl : vs.length = n := rv.length.symm.trans (hn _ _ _ _ he)
  exact ⟨hl, hi _ hl, G.to ls1 st1, permL is ws, w1, rv.perm is, h1⟩
theorem ce_callP {k : Nat} {f : Addr} {fd : FuncData} {ps ks : List Str} {is : List Nat} {m : FM} {x : Str} {p pos : Pos} {kws : List Keyword} {t : TA} {as : AM} {n : Nat} (F : FnOk X.prog X.w X.K X.mg X.base (L2.CX X.prog X.w) k f fd ps (spF X.K n m)) (hr : Room k X.A) (tk : Takes X Wx) (hg : Gl X x) (hm : X.mg x = some (.ref f)) (hk : PySem.W.keepIn X.K (.ref f) = true) (hb : KB X.K fd ps ks is)
    (ha : CK X Wx kws t as) (hl : ALen as n) (hi : ∀ l : List V, l.length = n → (permL is l).length = n) (hn : n = ks.length) (hall : (backToKw pos (keywordEach kws X.env)).all (·.1.isSome) = true := by rfl) (hks : (backToKw pos (keywordEach kws X.env)).filterMap (·.1) = ks := by rfl) (hdb : (x == ("__debug__" : Str)) = false := by decide)
    (hpl : ((backTo pos (starEach [] X.env)).any (·.1) || (backToKw pos (keywordEach kws X.env)).any (·.1.isNone)) = false := by rfl) :
    CE X Wx (.Call (.Name x p) [] kws pos) (tCallP (spF X.K n m) is n (WE Wx) t) (eCallP is m as) :=
  ⟨pe_callP F hr hg hm hk hb (passAt tk) ha.pe hn hall hks hdb hpl, sem_callP ha.sem hl hi⟩
end
section
variable {ρ : Ev} {st : Stt}
def callPK (is : List Nat) (m : FM) (r : Rs (List W)) : Rs W := match r with | .ok ws s => m (permL is ws) s | .er x s => .er x s | .no => .no
@[simp] theorem callPK_ok (is : List Nat) (m : FM) (ws : List W) : callPK is m (.ok ws st) = m (permL is ws) st := id rfl
@[simp] theorem ev_callP (is : List Nat) (m : FM) (as : AM) : eCallP is m as ρ st = callPK is m (as ρ st) := by unfold eCallP callPK; cases as ρ st <;> rfl
end
theorem blkG {X : Cx} {scope : Scope} {tg : Expr} {g : TG} {gm : GM} {is : List Nat} (h : ∀ (s : Shared) (H : Hp) (C : Addr) (cl : List (Str × Addr)) (fp : List Addr), ∃ g', CG (X.blk s H scope (compEnvC scope cl C X.env) fp) tg g' gm is ∧ g' = g) : Blk X scope fun Y => CG Y tg g gm is := fun s H C cl fp => by
  obtain ⟨_, z, rfl⟩ := h s H C cl fp
  exact z
end Sim
end
section
set_option Elab.async false
set_option linter.all false
set_option maxRecDepth 100000
set_option maxHeartbeats 1000000
open PySem PySem.Spec PyProof.Rows L2
namespace Sim
/-- behind draws, with a new list at the end -/
structure DrP (st st' : Stt) (i N : Nat) (ob : Ob) : Prop where
  len : st'.length = st.length + 1
  fr : ∀ j, j < st.length → j ≠ i → st'[j]? = st[j]?
  at' : st'[st.length]? = some (some ob)
  sp : Sp st' i N
theorem frzL_dr {m : FM} {ws : List W} {st st2 : Stt} {r i N : Nat} {ob : Ob} (h : m ws st = .ok (.loc r) st2) (hr : st.length ≤ r) (e : st2[r]? = some (some ob)) (ho : okO st.length ob = true) (hf : ∀ j, j < st.length → j ≠ i → st2[j]? = st[j]?) (hs : Sp st2 i N) (hi : i < st.length) :
    ∃ st', frzL m ws st = .ok (.loc st.length) st' ∧ DrP st st' i N ob := by
  have hl : st.length ≤ st2.length := Nat.le_trans hr (Nat.le_of_lt (List.getElem?_eq_some_iff.mp e).1)
  have ht : (st2.take st.length).length = st.length := by rw [List.length_take]; omega
  have hg : ∀ j, j < st.length → (st2.take st.length ++ [some ob])[j]? = st2[j]? := fun j hj => by
    rw [List.getElem?_append_left (by omega), List.getElem?_take_of_lt hj]
  refine ⟨_, frzL_eq h (fun j hj => ?_) hr e ho, by rw [List.length_append, ht]; rfl, fun j hj hji => by rw [hg j hj]; exact hf j hj hji, ?_, hs.cong (hg i hi) (Nat.le_refl _)⟩
  · by_cases q : j = i
    · subst q
      obtain ⟨a, b, c, h1, _⟩ := hs
      exact .inr ⟨_, h1, by simp [okO, okLs, okL]⟩
    · exact .inl (hf j hj q)
  · have := @List.getElem?_concat_length _ (st2.take st.length) (some ob)
    rwa [ht] at this
end Sim
end
section
set_option Elab.async false
set_option linter.all false
set_option maxRecDepth 100000
set_option maxHeartbeats 1000000
open PySem PySem.Spec PyProof.Rows L2
namespace Sim
/-! a def that calls itself: by how deep -/
theorem fn_no {K : PySem.W.Frag} {P : Program} {w : PySem.World} {mg : Str → Option Value} {base : Heap} {CX : CXT} {f : Addr} {fd : FuncData} {ps : List Str} {k n : Nat} : FnOk P w K mg base CX k f fd ps (spF K n (fun _ _ => .no)) :=
  ⟨fun _ _ _ _ h => h.2.elim fun _ h => h.elim fun _ h => h.2.2.elim, fun _ _ _ _ _ _ _ _ _ _ _ _ _ h => h.2.elim fun _ h => h.elim fun _ h => h.2.2.elim⟩
section
variable {X : Cx} {Wx : WX} {K : PySem.W.Frag} {G : Gm} {H : Hp}
/-! a, b = a list -/
def gmLst (n : Nat) (r : List W → Ev → Option Ev) : GM := fun st w ρ => match lstOf st w with
  | some ws => if ws.length = n then r ws ρ else none
  | none => none
theorem cg_lst {es : List Expr} {k : Nat} {t : TGs} {gm : List W → Ev → Option Ev} {is : List Nat} {n : Nat} {pos : Pos} (hc : X.calm = true) (h : CGs X es t gm is) (hn : (assignEach es X.env).length = n := by rfl) (hst : (assignEach es X.env).findIdx? (·.1) = none := by rfl) :
    CG X (.Tuple es k pos) (gLst X.K n t) (gmLst n gm) is := by
  refine ⟨pg_lst hc h.pe hn hst, fun G H ρ σ w v ρ' Q wo r rv e q => ?_⟩
  unfold gmLst at e
  split at e
  · rename_i ws hw
    split at e
    · rename_i hl
      obtain ⟨a, vs, rfl, sq, rl⟩ := lst_sq wo rv hw
      exact ⟨a, vs, rfl, sq, by rw [← rl.length]; exact hl, h.sem G H ρ σ _ _ ρ' Q wo r rl e q⟩
    · cases e
  · cases e
@[simp] theorem ev_glst (n : Nat) (r : List W → Ev → Option Ev) (ws : List W) (ρ : Ev) (st : Stt) : gmLst n r st (.lst ws) ρ = if ws.length = n then r ws ρ else none := id rfl
/-! xs.remove(text) -/
def eqs (k : Str) (v : Value) : Bool := match v with
  | .str n _ => n.cps.toList == k.cps.toList
  | _ => false
theorem str_eqs (a b : Str) : (a.cps.toList == b.cps.toList) = decide (a = b) := by
  by_cases h : a = b
  · subst h; simp
  · have : ¬ a.cps.toList = b.cps.toList := fun z => h (by cases a; cases b; simp at z; rw [z])
    rw [beq_eq_false_iff_ne.mpr this, decide_eq_false h]
theorem eqs_gives {k : Str} {t : Tok} : ∀ {ns : List Str} {us : List Value}, Vals (ns.map V.str) us → ∀ y ∈ us, MeetsSeq.EqGives y (.str k t) (eqs k y)
  | [], _, h => fun y hy => by cases h; cases hy
  | n :: ns, _, h => fun y hy => by
    cases h with
    | cons a b =>
      obtain ⟨t', rfl⟩ := a
      rcases List.mem_cons.mp hy with e | e
      · rw [e]; exact SeqRoads2.EqGives.str n k t' t
      · exact eqs_gives b y e
theorem eqs_at {k : Str} {ns : List Str} {us : List Value} (r : Vals (ns.map V.str) us) (i : Nat) (hi : i < us.length) : ∃ h : i < ns.length, eqs k us[i] = decide (ns[i] = k) := by
  have hl : ns.length = us.length := by rw [← r.length, List.length_map]
  have h : i < ns.length := by omega
  refine ⟨h, ?_⟩
  obtain ⟨u, hu, ru⟩ := r.get (i := i) (x := .str ns[i]) (by rw [List.getElem?_map, List.getElem?_eq_getElem h]; rfl)
  obtain ⟨t, rfl⟩ := ru
  have : us[i] = .str ns[i] t := by rw [List.getElem?_eq_getElem hi] at hu; exact Option.some.inj hu
  rw [this]
  exact str_eqs _ _
theorem eraseIdx_mapS {α β : Type} (f : α → β) : ∀ (l : List α) (j : Nat), (l.map f).eraseIdx j = (l.eraseIdx j).map f
  | [], j => by simp
  | a :: r, 0 => by simp
  | a :: r, j + 1 => by
    have ih := eraseIdx_mapS f r j
    simp [ih]
def rRemS : V → List V → Hp → VK → Prop := fun x xs H Q => ∃ (l : Addr) (ns : List Str) (k : Str), x = .ref l ∧ xs = [.str k] ∧ H l = some (.lst (ns.map V.str)) ∧ k ∈ ns ∧ Q .non (upd H l (.lst ((ns.erase k).map V.str)))
theorem mt_removeS : MtR X "list.remove" rRemS := by
  intro pins s σ H x xs v us Q I rx rxs h
  obtain ⟨l, ns, k, rfl, rfl, hH, hk, q⟩ := h
  cases rx
  obtain ⟨u, rfl, ru⟩ := rxs.one
  obtain ⟨t, rfl⟩ := ru
  obtain ⟨z, its, n, r, hl, e⟩ := I.lstM hH
  rw [List.length_map] at hl z
  have hj := List.idxOf_lt_length_of_mem hk
  have hji : ns.idxOf k < its.length := by omega
  refine call_meets PySem.F.slot_list_remove ⟨_, e, rfl⟩ PySem.F.entry_list_remove (PySem.F.args_list_remove_2 _ _)
    (MeetsSeq.list_remove l its.toArray n (.str k t) (eqs k) (fun y hy => eqs_gives r y (by simpa using hy)) (ns.idxOf k) (by rw [List.size_toArray]; exact hji) ?_ ?_ (by rw [List.size_toArray]; omega)) ⟨e, ?_⟩
  · obtain ⟨h1, h2⟩ := eqs_at (k := k) r (ns.idxOf k) hji
    show eqs k its[ns.idxOf k] = true
    rw [h2, List.getElem_idxOf, decide_eq_true rfl]
  · intro m hm hmj
    have hm' : m < its.length := by rw [List.size_toArray] at hm; exact hm
    obtain ⟨h1, h2⟩ := eqs_at (k := k) r m hm'
    show eqs k its[m] = false
    rw [h2, decide_eq_false]
    exact fun z => by
      have := List.not_of_lt_findIdx (xs := ns) (p := (· == k)) (i := m) hmj
      simp [z] at this
  · have rr := r.eraseIdx (ns.idxOf k)
    have ee : (ns.map V.str).eraseIdx (ns.idxOf k) = (ns.erase k).map V.str := by rw [List.erase_eq_eraseIdx_of_idxOf rfl, eraseIdx_mapS]
    rw [ee] at rr
    refine ⟨.non, _, I.lset (its' := its.eraseIdx (ns.idxOf k)) (t' := s.toks) hH e ?_ rr ?_, rfl, q⟩
    · show its.toArray.eraseIdxIfInBounds (ns.idxOf k) = (its.eraseIdx (ns.idxOf k)).toArray
      rw [List.eraseIdxIfInBounds_toArray]
    · rw [List.length_map]
      have := List.length_erase_le (a := k) (l := ns)
      omega
def fRemS : List W → List W → Stt → Option (W × List W) := fun us ws _ => match ws with
  | [.str k] => match strsOf us with
    | some ns => if k ∈ ns then some (.non, (ns.erase k).map .str) else none
    | none => none
  | _ => none
theorem rep_strs' : ∀ {xs : List Str}, RepL K G H (xs.map .str) (xs.map .str)
  | [] => .nil
  | _ :: _ => .cons (.str _) rep_strs'
theorem ms_removeS : MtS K rRemS (mUp fRemS) := mt_up fun G H a us ws zs vs y us' Q wo hz rz rl e q => by
  unfold fRemS at e
  split at e
  · rename_i k
    split at e
    · rename_i ns hn
      split at e
      · rename_i hk
        cases e
        obtain ⟨v, rfl, rv⟩ := rl.one
        cases rv.str_inv
        rw [strsOf_eq hn] at rz
        have := rz.strs
        subst this
        exact ⟨a, ns, k, rfl, rfl, hz, hk, q _ _ .non rep_strs'⟩
      · cases e
    · cases e
  · cases e
/-! dict(a list of pairs) -/
def prsOf : List W → Option (List (Key × W))
  | [] => some []
  | .tup [a, b] :: r => match toKey a, prsOf r with
    | some k, some q => some ((k, b) :: q)
    | _, _ => none
  | _ => none
def fDictP : F1 := fun st ws => match ws with
  | [x] => match lstOf st x with
    | some ps => match prsOf ps with
      | some kws => some (.dic (mergeW [] kws))
      | none => none
    | none => none
  | _ => none
def rDictP (K : PySem.W.Frag) : List V → Hp → VK → Prop := fun xs H Q => ∃ (a : Addr) (ps : List Addr) (kvs : List (Key × V)), xs = [.ref a] ∧ SqL K H a (ps.map V.ref) ∧ Paired (fun p kv => SqT K H p [kV kv.1, kv.2]) ps kvs ∧
    ∀ p, H p = none → Q (.ref p) (upd H p (.dK (mergeK [] kvs)))
theorem cr_dictP (hcalm : X.calm = true) : CallR X (.type "dict") (rDictP X.K) := call_dictP hcalm
theorem prs_rep : ∀ {ps : List W} {vs : List V} {kws : List (Key × W)}, RepL K G H ps vs → prsOf ps = some kws → ∃ (as : List Addr) (kvs : List (Key × V)), vs = as.map V.ref ∧ Paired (fun p kv => SqT K H p [kV kv.1, kv.2]) as kvs ∧ RepK K G H kws kvs
  | [], _, kws, h, e => by cases h; cases e; exact ⟨[], [], rfl, .nil, .nil⟩
  | w :: ps, _, kws, h, e => by
    cases h with
    | cons rw' rl =>
      unfold prsOf at e
      split at e
      · rename_i h; cases h
      · rename_i a b r hw
        cases hw
        split at e
        · rename_i k q hk hq
          cases e
          obtain ⟨as, kvs, rfl, hp, rk⟩ := prs_rep rl hq
          obtain ⟨p, xs, rfl, sq, rx⟩ := tup_sq rw'
          obtain ⟨v, u, rfl, rv, ru⟩ := rx.two
          cases toKey_rep rv hk
          exact ⟨p :: as, (k, u) :: kvs, rfl, .cons sq hp, .cons ru rk⟩
        · cases e
      · cases e
theorem fs_dictP : FnS K (rDictP K) fDictP := fun G H ws vs w Q wo rl e q => by
  unfold fDictP at e
  split at e
  · rename_i x
    split at e
    · rename_i ps hps
      split at e
      · rename_i kws hk
        cases e
        obtain ⟨v, rfl, rx⟩ := rl.one
        obtain ⟨a, vs, rfl, sq, rps⟩ := lst_sq wo rx hps
        obtain ⟨as, kvs, rfl, hp, rk⟩ := prs_rep rps hk
        refine ⟨a, as, kvs, rfl, sq, hp, fun p hn => ?_⟩
        have rm : RepK K G H (mergeW [] kws) (mergeK [] kvs) := RepK.merge rk .nil
        exact q _ _ (Ext.new wo hn) (wo.new hn) (.dic ⟨.inl upd_same, wo.nal hn⟩ (rm.mono (Ext.new wo hn)))
      · cases e
    · cases e
  · cases e
end
end Sim
end
section
set_option Elab.async false
set_option linter.all false
set_option maxRecDepth 100000
set_option maxHeartbeats 1000000
open PySem PySem.Spec PyProof.Rows L2
namespace Sim
section
variable {K : PySem.W.Frag} {st : Stt}
/-- x.index(y) of a list that is changed -/
def mIdxL : MF := fun x ws st => match lstX st x with
  | some _ => mIdx x ws st
  | none => .no
theorem ms_idxL' : MtS K (rIdxL K) mIdxL := ms_idxL
theorem idxL_ok {n : Nat} {x : Str} {xs : List Str} (h : st[n]? = some (some (.lst (xs.map .str)))) (hx : x ∈ xs) : mIdxL (.loc n) [.str x] st = .ok (.int (xs.idxOf x : Nat)) st := by
  unfold mIdxL mIdx
  simp [lstX, h, strsOf_map, hx]
theorem remS_ok {x : Str} {xs : List Str} (hx : x ∈ xs) : fRemS (xs.map .str) [.str x] st = some (.non, (xs.erase x).map .str) := by
  unfold fRemS
  simp [strsOf_map, hx]
@[simp] theorem get_t0 {α : Type} (st : List α) (x y z : α) : (st ++ [x, y, z])[st.length]? = some x := by
  rw [List.getElem?_append_right (Nat.le_refl _), Nat.sub_self]; rfl
@[simp] theorem get_t1 {α : Type} (st : List α) (x y z : α) : (st ++ [x, y, z])[st.length + 1]? = some y := by
  rw [List.getElem?_append_right (by omega), show st.length + 1 - st.length = 1 by omega]; rfl
@[simp] theorem get_t2 {α : Type} (st : List α) (x y z : α) : (st ++ [x, y, z])[st.length + 1 + 1]? = some z := by
  rw [List.getElem?_append_right (by omega), show st.length + 1 + 1 - st.length = 2 by omega]; rfl
@[simp] theorem set_t0 {α : Type} (st : List α) (x y z u : α) : (st ++ [x, y, z]).set st.length u = st ++ [u, y, z] := by
  rw [List.set_append_right _ _ (Nat.le_refl _), Nat.sub_self]; rfl
@[simp] theorem set_t1 {α : Type} (st : List α) (x y z u : α) : (st ++ [x, y, z]).set (st.length + 1) u = st ++ [x, u, z] := by
  rw [List.set_append_right _ _ (by omega), show st.length + 1 - st.length = 1 by omega]; rfl
@[simp] theorem set_t2 {α : Type} (st : List α) (x y z u : α) : (st ++ [x, y, z]).set (st.length + 1 + 1) u = st ++ [x, y, u] := by
  rw [List.set_append_right _ _ (by omega), show st.length + 1 + 1 - st.length = 2 by omega]; rfl
end
end Sim
end
section
set_option Elab.async false
set_option linter.all false
set_option maxRecDepth 100000
set_option maxHeartbeats 1000000
open PySem PySem.Spec PyProof.Rows L2
namespace Sim
section
variable {X : Cx} {K : PySem.W.Frag} {G : Gm} {H : Hp}
/-- tuple(text) -/
def rTupS : List V → Hp → VK → Prop := fun xs H Q => ∃ z : Str, xs = [.str z] ∧ z.length ≤ sizeLine ∧ ∀ (l : Addr) (o : Obj), o.dict = none → H l = none → Q (.ref l) (upd H l (.frz o (.tup (z.cps.toList.map fun c => V.str ⟨#[c]⟩))))
theorem cr_tupS (hc : X.calm = true) : CallR X (.type "tuple") rTupS := by
  intro pins s σ H xs us Q I r h
  obtain ⟨z, rfl, hz, q⟩ := h
  obtain ⟨u, rfl, t, rfl⟩ := vals1 r
  refine call_tuple_str (I.ok.hd hc) z t (fun h' tk acc kp hi => ?_) hz
  have hv := Low.signs_vals hi
  have I1 : L2.Inv X pins σ H { s with heap := h', toks := tk } := I.kept kp
  have := tup_laid (s := s) (h' := h') (tk := tk) (its := acc.toList) I1 hv (by rw [List.length_map, Array.length_toList]; exact hz) q
  simpa using this
def fTupS : F1 := fun _ ws => match ws with
  | [.str z] => if z.length ≤ 100000 then some (.tup (z.cps.toList.map fun c => .str ⟨#[c]⟩)) else none
  | _ => none
theorem fs_tupS : FnS K rTupS fTupS := fun G H ws vs w Q wo rl e q => by
  unfold fTupS at e
  split at e
  · rename_i z
    split at e
    · rename_i hz
      cases e
      obtain ⟨v, rfl, rx⟩ := rl.one
      cases rx.str_inv
      exact ⟨z, rfl, Nat.le_trans hz (by decide), fun l o hd hl => PostV.newT wo q rep_signs hd hl⟩
    · cases e
  · cases e
end
end Sim
end
section
set_option Elab.async false
set_option linter.all false
set_option maxRecDepth 100000
set_option maxHeartbeats 2000000
open PySem
/-! dict(zip(a, b)) of two tuples -/
namespace ZT
section
variable {P : Program} {W : World} {R : Around} {Ex : Value → Shared → Prop}
/-- what stands all the while: the pair of iterators, each at the item k of its tuple -/
structure Stands (h : Heap) (TI u v a b : Addr) (p q : Array Value) (k : Nat) : Prop where
  two : IsPair h TI (.ref u) (.ref v)
  itU : h.IsTupleIter u a k
  itV : h.IsTupleIter v b k
  tupA : h.IsTuple a p
  tupB : h.IsTuple b q
variable {z TI TO u v a b T : Addr} {p q : Array Value} {k : Nat} {fl : Bool} {oT : Obj}
/-- the steps of zip's next up to its first item, while a tuple is out -/
theorem ahead {C : Value → Value → Sem Fin} {s : Shared} {Q : Fin → Shared → Prop} (ap : ZipApart z TI TO u v a b) (out : IsZipHeld s.heap z TI TO T fl) (live : s.heap.get? T = some oT) (st : Stands s.heap TI u v a b p q k)
    (both : ∀ x y, p[k]? = some x → q[k]? = some y → ∀ h3, IsZipHeld h3 z TI TO T true → h3.IsTupleIter u a (k + 1) → h3.IsTupleIter v b (k + 1) → h3.objs.size = s.heap.objs.size → (∀ c o, c ≠ z → c ≠ u → c ≠ v → s.heap.get? c = some o → h3.get? c = some o) →
      Q (.done (.ret (.ref h3.objs.size))) { s with heap := h3.push { cls := .type "tuple", data := .seq #[x, y] } })
    (over : R.handled = none → (p[k]? = none ∨ q[k]? = none) → ∀ h3 e, (∀ c o, c ≠ z → c ≠ u → c ≠ v → s.heap.get? c = some o → h3.get? c = some o) → (∃ o, h3.get? e = some o ∧ o.cls = .type "StopIteration") → Ex (.ref e) { s with heap := h3 })
    (calm : R.handled = none) : wpAny (model P W) R (Builtin.«zip.__next__» ⟨[.ref z], []⟩) Q Ex s := by
  obtain ⟨s2, s3, s4, s5, s6⟩ := st
  show wpAny _ _ (field (.ref z) 2 >>= _) _ _ _
  refine wpAny_bind (wpAny_field out rfl (x := .bool false) rfl ?_)
  show wpAny _ _ (field (.ref z) 3 >>= _) _ _ _
  refine wpAny_bind (wpAny_field out rfl (x := .ref TI) rfl ?_)
  refine wpAny_bind (wpAny_seqItems s2 rfl ?_)
  show wpAny _ _ (Builtin.SmallTypes.ownedTupleIsFree (.ref z) >>= _) _ _ _
  refine wpAny_bind (wpAny_tupleHeld_zip out live fun g1 out1 k1 => ?_)
  simp only [Bool.false_eq_true, if_false]
  refine wpAny_bind ?_
  rw [← Array.forIn_toList]
  simp only [List.forIn_cons, List.forIn_nil]
  refine wpAny_bind (wpAny_bind (wpAny_holding ?_))
  show wpAny _ _ (Builtin.SmallTypes.nextOf (.ref u) >>= _) _ _ _
  have itU1 := s3.extBut k1.extBut ap.i1z
  have tupA1 := s5.extBut k1.extBut ap.l1z
  cases hx : p[k]? with
  | none =>
    refine wpAny_bind (RZ.nextOf_tuple_end (s := { s with heap := g1 }) calm itU1 tupA1 hx fun g2 e k2 he => ?_)
    exact over calm (.inl hx) g2 e (fun c o c1 c2 _ y => k2 _ _ c2 (k1.extBut _ _ c1 y)) he
  | some x =>
    refine wpAny_bind (RZ.nextOf_tuple_item (s := { s with heap := g1 }) itU1 tupA1 hx fun g2 itU2 k2 => wpAny_pure (wpAny_pure ?_))
    refine wpAny_bind (wpAny_bind (wpAny_holding ?_))
    show wpAny _ _ (Builtin.SmallTypes.nextOf (.ref v) >>= _) _ _ _
    have itV2 := (s4.extBut k1.extBut ap.i2z).extBut k2.extBut ap.i12.symm
    have tupB2 := (s6.extBut k1.extBut ap.l2z).extBut k2.extBut ap.l2i1
    cases hy : q[k]? with
    | none =>
      refine wpAny_bind (RZ.nextOf_tuple_end (s := { s with heap := g2 }) calm itV2 tupB2 hy fun g3 e k3 he => ?_)
      exact over calm (.inr hy) g3 e (fun c o c1 c2 c3 y => k3 _ _ c3 (k2.extBut _ _ c2 (k1.extBut _ _ c1 y))) he
    | some y =>
      refine wpAny_bind (RZ.nextOf_tuple_item (s := { s with heap := g2 }) itV2 tupB2 hy fun g3 itV3 k3 => wpAny_pure (wpAny_pure (wpAny_pure ?_)))
      show wpAny _ _ (newTuple [x, y] >>= _) _ _ _
      refine wpAny_bind (wpAny_newTuple (wpAny_pure ?_))
      exact both x y hx hy g3 (k3.extBut _ _ ap.i2z.symm (k2.extBut _ _ ap.i1z.symm out1)) (itU2.extBut k3.extBut ap.i12) itV3 (by rw [k3.1, k2.1, k1.1]) fun c o c1 c2 c3 y => k3.extBut _ _ c3 (k2.extBut _ _ c2 (k1.extBut _ _ c1 y))
/-- next of such a zip: the pair, or the end -/
theorem next_out {s : Shared} {Q : Option Value → Shared → Prop} (ap : ZipApart z TI TO u v a b) (out : IsZipHeld s.heap z TI TO T fl) (live : s.heap.get? T = some oT) (st : Stands s.heap TI u v a b p q k) (calm : R.handled = none)
    (both : ∀ x y, p[k]? = some x → q[k]? = some y → ∀ h4, IsZipHeld h4 z TI TO T true → h4.IsTupleIter u a (k + 1) → h4.IsTupleIter v b (k + 1) → IsPair h4 s.heap.objs.size x y → (∀ c o, c ≠ z → c ≠ u → c ≠ v → s.heap.get? c = some o → h4.get? c = some o) → Q (some (.ref s.heap.objs.size)) { s with heap := h4 })
    (over : (p[k]? = none ∨ q[k]? = none) → ∀ h4, (∀ c o, c ≠ z → c ≠ u → c ≠ v → s.heap.get? c = some o → h4.get? c = some o) → Q none { s with heap := h4 }) : wpAny (model P W) R (pyNext (.ref z)) Q Ex s := by
  have ty : s.TypeIs (.ref z) "zip" := ⟨_, out, rfl⟩
  unfold pyNext
  refine wpAny_bind (wpAny_attempt (wpAny_callSpecial?_slot (name := Str.ofString "__next__") ty F.slot_zip_next (wpAny_call_entry F.slot_zip_next ty F.entry_zip_next (ahead (C := fun _ _ => pure (.done .next)) ap out live st (fun x y hx hy h3 o3 u3 v3 sz kp => ?_) (fun _ hn h3 e kp he => ?_) calm) (F.args_zip_next_1 _))))
  · refine ⟨_, rfl, wpAny_pure ?_⟩
    have top : IsPair (h3.push { cls := .type "tuple", data := .seq #[x, y] }) h3.objs.size x y := Heap.get?_push_size _ rfl
    rw [sz] at top ⊢
    exact both x y hx hy _ (Heap.get?_push_of_some _ o3) (u3.at fun o e => Heap.get?_push_of_some _ e) (v3.at fun o e => Heap.get?_push_of_some _ e) top fun c o c1 c2 c3 e => Heap.get?_push_of_some _ (kp c o c1 c2 c3 e)
  · obtain ⟨o, ho, hc⟩ := he
    refine wpAny_bind (wpAny_isInstance (T := "StopIteration") (b := true) ⟨o, ho, hc⟩ isSubtype_stop (wpAny_pure ?_))
    exact over hn h3 kp
theorem Stands.keep {h h' : Heap} {n : Nat} (st : Stands h TI u v a b p q n) (k : ∀ c, c = TI ∨ c = u ∨ c = v ∨ c = a ∨ c = b → ∀ o, h.get? c = some o → h'.get? c = some o) : Stands h' TI u v a b p q n :=
  ⟨k TI (.inl rfl) _ st.two, st.itU.at fun o => k u (.inr (.inl rfl)) o, st.itV.at fun o => k v (.inr (.inr (.inl rfl))) o, st.tupA.at fun o => k a (.inr (.inr (.inr (.inl rfl)))) o, st.tupB.at fun o => k b (.inr (.inr (.inr (.inr rfl)))) o⟩
/-- the tuple that it gives out: its own, or one that is out; d: what is written meanwhile -/
def Gives (h : Heap) (z TI TO u v d : Addr) : Prop := (IsZip h z TI TO .none ∧ ∃ x y, IsPair h TO x y) ∨ ∃ T fl oT, IsZipHeld h z TI TO T fl ∧ h.get? T = some oT ∧ T ≠ z ∧ T ≠ u ∧ T ≠ v ∧ T ≠ d
/-- zip of two tuples as what dict() is made of -/
theorem pairArg (ap : ZipApart z TI TO u v a b) : PairArg P W "zip" z [z, TI, TO, u, v, a, b] [z, TO, u, v] (min p.size q.size) (fun i x y => p[i]? = some x ∧ q[i]? = some y)
    (fun h => IsZip h z TI TO .none ∧ (∃ x y, IsPair h TO x y) ∧ Stands h TI u v a b p q 0) where
  type := fun s g => ⟨_, g.1, rfl⟩
  notDict := by decide
  keep := fun h h' g k => ⟨k _ _ g.1, g.2.1.elim fun x e => e.elim fun y e => ⟨x, y, k _ _ e⟩, g.2.2.keep fun c _ o e => k c o e⟩
  there := fun h g c hc => by
    obtain ⟨g1, ⟨x, y, g2⟩, ⟨g3, ⟨o4, g4, _⟩, ⟨o5, g5, _⟩, ⟨o6, g6, _⟩, ⟨o7, g7, _⟩⟩⟩ := g
    simp only [List.mem_cons, List.not_mem_nil, or_false] at hc
    rcases hc with rfl | rfl | rfl | rfl | rfl | rfl | rfl
    · exact ⟨_, g1⟩
    · exact ⟨_, g3⟩
    · exact ⟨_, g2⟩
    · exact ⟨_, g4⟩
    · exact ⟨_, g5⟩
    · exact ⟨_, g6⟩
    · exact ⟨_, g7⟩
  sub := fun c hc => by
    simp only [List.mem_cons, List.not_mem_nil, or_false] at hc ⊢
    rcases hc with e | e | e | e <;> simp [e]
  noKeys := fun R s Q Ex calm g k => getAttrOr_miss_zip g.1 rfl rfl rfl zip_no_keys (by decide +kernel) calm k
  iter := fun R s d Q Ex calm g hd hf k => by
    obtain ⟨g1, g2, g3⟩ := g
    simp only [List.mem_cons, List.not_mem_nil, or_false, not_or] at hf
    obtain ⟨nz, nTI, nTO, nu, nv, na, nb⟩ := hf
    refine wpAny_pyIter_zip g1 (k z [z, TO, u, v] (fun i h => Stands h TI u v a b p q i ∧ Gives h z TI TO u v d) s.heap s.toks ?_ ⟨g3, .inl ⟨g1, g2⟩⟩ (fun _ _ e => e) fun c hc => .inl hc)
    refine ⟨fun hm => ?_, fun i h h' st kp => ?_, fun i s1 Q1 E1 hi st hds kq => ?_, fun s1 Q1 E1 st kq => ?_⟩
    · simp only [List.mem_cons, List.not_mem_nil, or_false] at hm
      rcases hm with e | e | e | e
      · exact nz e
      · exact nTO e
      · exact nu e
      · exact nv e
    · refine ⟨st.1.keep fun c hc o e => kp c o (fun w => ?_) e, ?_⟩
      · subst w
        rcases hc with e | e | e | e | e
        · exact nTI e
        · exact nu e
        · exact nv e
        · exact na e
        · exact nb e
      · rcases st.2 with ⟨m1, x, y, m2⟩ | ⟨T, fl, oT, m1, m2, m3⟩
        · exact .inl ⟨kp _ _ (Ne.symm nz) m1, x, y, kp _ _ (Ne.symm nTO) m2⟩
        · exact .inr ⟨T, fl, oT, kp _ _ (Ne.symm nz) m1, kp _ _ m3.2.2.2 m2, m3⟩
    · have ip : i < p.size := Nat.lt_of_lt_of_le hi (Nat.min_le_left _ _)
      have iq : i < q.size := Nat.lt_of_lt_of_le hi (Nat.min_le_right _ _)
      have ep := Array.getElem?_eq_getElem ip
      have eq := Array.getElem?_eq_getElem iq
      have above : ∀ {c o}, s1.heap.get? c = some o → s1.heap.objs.size ≠ c := fun e => Nat.ne_of_gt (Heap.lt_size e)
      have au : s1.heap.objs.size ≠ u := st.1.itU.elim fun _ e => above e.1
      have av : s1.heap.objs.size ≠ v := st.1.itV.elim fun _ e => above e.1
      rcases st.2 with ⟨m1, x0, y0, m2⟩ | ⟨T, fl, oT, m1, m2, m3⟩
      · refine RZ.pyNext_zipT_item ap m1 st.1.two m2 st.1.itU st.1.itV st.1.tupA st.1.tupB ep eq fun h' c1 c2 c3 c4 c5 c6 kp => ?_
        refine kq s1.heap.objs.size _ _ h' s1.toks ⟨ep, eq⟩ (.inl ⟨_, c5, rfl, _, rfl⟩) ⟨⟨kp _ _ ap.TIz ap.TITO ap.TIi1 ap.TIi2 st.1.two, c3, c4, st.1.tupA.at fun o => kp _ o ap.l1z ap.l1TO ap.l1i1 ap.l1i2, st.1.tupB.at fun o => kp _ o ap.l2z ap.l2TO ap.l2i1 ap.l2i2⟩, .inr ⟨s1.heap.objs.size, false, _, c1, c5, above m1, au, av, Nat.ne_of_gt hds⟩⟩ fun c o hc e => ?_
        simp only [List.mem_cons, List.not_mem_nil, or_false, not_or] at hc
        exact kp c o hc.1 hc.2.1 hc.2.2.1 hc.2.2.2 e
      · refine next_out ap m1 m2 st.1 calm (fun x y hx hy h' c1 c3 c4 c5 kp => ?_) fun hn => ?_
        · refine kq s1.heap.objs.size _ _ h' s1.toks ⟨hx, hy⟩ (.inl ⟨_, c5, rfl, _, rfl⟩) ⟨⟨kp _ _ ap.TIz ap.TIi1 ap.TIi2 st.1.two, c3, c4, st.1.tupA.at fun o => kp _ o ap.l1z ap.l1i1 ap.l1i2, st.1.tupB.at fun o => kp _ o ap.l2z ap.l2i1 ap.l2i2⟩, .inr ⟨T, true, oT, c1, kp _ _ m3.1 m3.2.1 m3.2.2.1 m2, m3⟩⟩ fun c o hc e => ?_
          simp only [List.mem_cons, List.not_mem_nil, or_false, not_or] at hc
          exact kp c o hc.1 hc.2.2.1 hc.2.2.2 e
        · rw [ep, eq] at hn
          rcases hn with e | e <;> cases e
    · have hn : p[min p.size q.size]? = none ∨ q[min p.size q.size]? = none := by
        rcases Nat.le_total p.size q.size with e | e
        · exact .inl (Array.getElem?_eq_none (by rw [Nat.min_eq_left e]; exact Nat.le_refl _))
        · exact .inr (Array.getElem?_eq_none (by rw [Nat.min_eq_right e]; exact Nat.le_refl _))
      rcases st.2 with ⟨m1, x0, y0, m2⟩ | ⟨T, fl, oT, m1, m2, m3⟩
      · refine RZ.pyNext_zipT_end calm ap m1 st.1.two m2 st.1.itU st.1.itV st.1.tupA st.1.tupB hn fun h' kp => kq h' s1.toks fun c o hc e => ?_
        simp only [List.mem_cons, List.not_mem_nil, or_false, not_or] at hc
        exact kp c o hc.1 hc.2.1 hc.2.2.1 hc.2.2.2 e
      · refine next_out ap m1 m2 st.1 calm (fun x y hx hy => ?_) fun _ h' kp => kq h' s1.toks fun c o hc e => ?_
        · rcases hn with e | e
          · rw [e] at hx; cases hx
          · rw [e] at hy; cases hy
        · simp only [List.mem_cons, List.not_mem_nil, or_false, not_or] at hc
          exact kp c o hc.1 hc.2.2.1 hc.2.2.2 e
end
end ZT
end
section
set_option Elab.async false
set_option linter.all false
set_option maxRecDepth 100000
set_option maxHeartbeats 2000000
open PySem PySem.Spec PyProof.Rows L2
namespace Sim
section
variable {X : Cx}
theorem kv_zip {P : Program} {w : PySem.World} : ∀ {ks : List Key} {ys : List V} {us : List Value}, Vals ys us → KV (ks.zip ys) (ks.zip us)
  | [], _, _, _ => .nil
  | _ :: _, [], _, h => by cases h; exact .nil
  | k :: ks, y :: ys, _, h => by
    cases h with
    | cons a r => exact .cons ⟨rfl, a⟩ (kv_zip (P := P) (w := w) r)
def tDZ (K : PySem.W.Frag) (ta : TA) : TE := fun σ H Q => ta σ H fun vs H1 => ∃ (a b : Addr) (ks : List Key) (ys : List V), vs = [.ref a, .ref b] ∧ SqT K H1 a (ks.map kV) ∧ SqT K H1 b ys ∧ ∀ d, H1 d = none → Q (.ref d) (upd H1 d (.dK (mergeK [] (ks.zip ys))))
theorem call_dz (hc : X.calm = true) {pins : List (Addr × Obj)} {s1 : Shared} {σ : L2.St} {H1 : Hp} {Q : VK} {a b : Addr} {ks : List Key} {ys : List V} (I1 : L2.Inv X pins σ H1 s1) (qa : SqT X.K H1 a (ks.map kV)) (qb : SqT X.K H1 b ys) (q : ∀ d, H1 d = none → Q (.ref d) (upd H1 d (.dK (mergeK [] (ks.zip ys))))) :
    wpAny (model X.prog X.w) X.A (call (.type "zip") [.ref a, .ref b]) (fun zv s2 => wpAny (model X.prog X.w) X.A (call (.type "dict") [zv]) (EP X pins σ Q) X.xe s2) X.xe s1 := by
  obtain ⟨its, rv, p1, _⟩ := I1.tuple qa
  obtain ⟨its2, rv2, p2, z2⟩ := I1.tuple qb
  obtain ⟨o1, ho1, _⟩ := id p1
  obtain ⟨o2, ho2, _⟩ := id p2
  have hh := I1.ok.hd hc
  refine RZ.call_zipT (show s1.heap.IsTuple a its.toArray from p1) (show s1.heap.IsTuple b its2.toArray from p2) fun h' hz hTI hTO h1 h2 hsz hk => ?_
  have I2 : L2.Inv X pins σ H1 { s1 with heap := h' } := I1.kept (t' := s1.toks) hk
  have ap := PySem.W.ktu_apart s1.heap.objs.size a b (Heap.lt_size ho1) (Heap.lt_size ho2)
  have l1 : ks.length = its.length := by rw [← rv.length, List.length_map]
  have l2 : ys.length = its2.length := rv2.length
  have fresh : ∀ c ∈ [s1.heap.objs.size + 4, s1.heap.objs.size + 3, s1.heap.objs.size, s1.heap.objs.size + 1], FpOk X pins H1 c := fun c hcm => by
    have hle : s1.heap.objs.size ≤ c := by
      simp only [List.mem_cons, List.not_mem_nil, or_false] at hcm
      rcases hcm with e | e | e | e <;> (rw [e]; first | exact Nat.le_add_right _ _ | exact Nat.le_refl _)
    exact I1.fpOk hle (I1.hok.fresh hle)
  have pw : PairsHave (mixKind X.prog X.w) (min its.toArray.size its2.toArray.size) (fun i x y => its.toArray[i]? = some x ∧ its2.toArray[i]? = some y) (ks.zip its2) := by
    refine ⟨by rw [List.length_zip, l1]; simp, fun i x y hxy => ?_⟩
    obtain ⟨ex, ey⟩ := hxy
    have ex' : its[i]? = some x := by simpa using ex
    have ey' : its2[i]? = some y := by simpa using ey
    have hi : i < ks.length := by rw [l1]; exact (List.getElem?_eq_some_iff.mp ex').1
    obtain ⟨u, hu, ru⟩ := rv.get (i := i) (x := kV ks[i]) (by rw [List.getElem?_map, List.getElem?_eq_getElem hi]; rfl)
    rw [ex'] at hu
    cases hu
    exact ⟨ks[i], by rw [List.getElem?_zip_eq_some]; exact ⟨List.getElem?_eq_getElem hi, ey'⟩, kV_is ru⟩
  have hlz : (ks.zip its2).length ≤ sizeLine := by rw [List.length_zip]; exact Nat.le_trans (Nat.min_le_right _ _) (by rw [← l2]; exact z2)
  have hn : min its.toArray.size its2.toArray.size ≤ sizeLine := Nat.le_trans (Nat.min_le_right _ _) (by rw [List.size_toArray, ← l2]; exact z2)
  refine PySem.call_dict_pairs (s := { s1 with heap := h' }) (knd := mixKind X.prog X.w) (kvs := ks.zip its2) (ZT.pairArg (P := X.prog) (W := X.w) (p := its.toArray) (q := its2.toArray) ap) hh
    ⟨hz, ⟨_, _, hTO⟩, ⟨hTI, h1, h2, p1.keeps hk, p2.keeps hk⟩⟩ pw hn fun h'' tk hd' kp => ?_
  have hm : (h'.objs.size == sysModules) = false := beq_eq_false_iff_ne.mpr (Nat.ne_of_gt (I2.big))
  have rel : KV (ks.zip ys) (ks.zip its2) := kv_zip (P := X.prog) (w := X.w) rv2
  have hlen : (mergeK [] (ks.zip ys)).length ≤ sizeLine := by
    refine Nat.le_trans (length_mergeK (ks.zip ys) []) ?_
    rw [List.length_nil, Nat.zero_add, rel.length]
    exact hlz
  have new : ObjOk X.prog X.w (upd H1 h'.objs.size (.dK (mergeK [] (ks.zip ys)))) h'' h'.objs.size (.dK (mergeK [] (ks.zip ys))) := ⟨hlen, hm, merged [] (ks.zip its2), KV.merge rel .nil, hd'⟩
  exact ⟨.ref h'.objs.size, upd H1 h'.objs.size (.dK (mergeK [] (ks.zip ys))), I2.turnedNew (t' := tk) (ch := [s1.heap.objs.size + 4, s1.heap.objs.size + 3, s1.heap.objs.size, s1.heap.objs.size + 1]) kp fresh (Nat.le_refl _) new, rfl, q _ (I2.hok.fresh (Nat.le_refl _))⟩
end
end Sim
end
section
set_option Elab.async false
set_option linter.all false
set_option maxRecDepth 100000
set_option maxHeartbeats 2000000
open PySem PySem.Spec PyProof.Rows L2
namespace Sim
section
variable {X : Cx} {Wx : WX}
theorem pe_dictZip (hc : X.calm = true) (gz : Gl X "zip") (mz : X.mg "zip" = none) (gd : Gl X "dict") (md : X.mg "dict" = none) {e e2 : Expr} {ta : TA} {p pz cz pos : Pos} (ha : PA X [e, e2] ta)
    (hs1 : starEach [.Call (.Name "zip" pz) [e, e2] [] cz] X.env = (false, eval (.Call (.Name "zip" pz) [e, e2] [] cz) X.env) :: starEach [] X.env := by rfl)
    (hs2 : starEach [e, e2] X.env = (false, eval e X.env) :: starEach [e2] X.env := by rfl) (hpl : (backTo cz (starEach [e2] X.env)).any (·.1) = false := by rfl) :
    PE X (.Call (.Name "dict" p) [.Call (.Name "zip" pz) [e, e2] [] cz] [] pos) (tDZ X.K ta) := by
  refine ⟨fun pins s σ H Q I hq => ?_⟩
  refine wpAny_Call_Name_kw (ld_blt I gd md PyProof.Rows.boot_dict ?_)
  refine PyProof.Rows.callWith_type1 ?_ hs1 rfl
  rw [hs1]
  show wpAny _ _ (spliced ((false, eval (.Call (.Name "zip" pz) [e, e2] [] cz) X.env) :: backTo pos (starEach [] X.env))) _ _ s
  refine Calls.spliced_cons ?_
  refine wpAny_Call_Name_kw (ld_blt I gz mz PyProof.Rows.boot_zip ?_)
  refine PyProof.Rows.callWith_type1 (thn (ha.run cz pins s σ H _ I hq) fun us s1 ⟨vs, H1, I1, r1, q1⟩ => ?_) hs2 hpl
  obtain ⟨a, b, ks, ys, rfl, qa, qb, q⟩ := q1
  cases r1 with
  | cons r rr =>
    cases rr with
    | cons r' rr =>
      cases rr
      cases r
      cases r'
      exact wpAny_mono (call_dz hc I1 qa qb q) (fun zv s2 h => Calls.spliced_nil h) (fun _ _ x => x)
def keysL : List W → Option (List Key)
  | [] => some []
  | w :: r => match toKey w, keysL r with
    | some k, some ks => some (k :: ks)
    | _, _ => none
theorem keysL_rep {K : PySem.W.Frag} {G : Gm} {H : Hp} : ∀ {ws : List W} {vs : List V} {ks : List Key}, RepL K G H ws vs → keysL ws = some ks → vs = ks.map kV
  | [], _, _, h, e => by cases h; cases e; rfl
  | w :: r, _, ks, h, e => by
    cases h with
    | cons a b =>
      rw [keysL] at e
      cases e1 : toKey w with
      | none => rw [e1] at e; cases e
      | some k =>
        cases e2 : keysL r with
        | none => rw [e1, e2] at e; cases e
        | some q =>
          rw [e1, e2] at e
          cases e
          rw [List.map_cons, toKey_rep a e1, keysL_rep b e2]
theorem zip_rep {K : PySem.W.Frag} {G : Gm} {H : Hp} : ∀ {ks : List Key} {ys : List W} {vs : List V}, RepL K G H ys vs → RepK K G H (ks.zip ys) (ks.zip vs)
  | [], _, _, _ => .nil
  | _ :: _, [], _, h => by cases h; exact .nil
  | k :: ks, y :: ys, _, h => by
    cases h with
    | cons a b => exact .cons a (zip_rep b)
/-- dict(zip(a, b)) of two tuples -/
def eDictZip (as : AM) : EM := fun ρ st => (as ρ st).bind fun ws st1 => match ws with
  | [.tup xs, .tup ys] => match keysL xs with
    | some ks => .ok (.dic (mergeW [] (ks.zip ys))) st1
    | none => .no
  | _ => .no
theorem ce_dictZip (hc : X.calm = true) (gz : Gl X "zip") (mz : X.mg "zip" = none) (gd : Gl X "dict") (md : X.mg "dict" = none) {e e2 : Expr} {ta : TA} {as : AM} {p pz cz pos : Pos} (ha : CA X Wx [e, e2] ta as)
    (hs1 : starEach [.Call (.Name "zip" pz) [e, e2] [] cz] X.env = (false, eval (.Call (.Name "zip" pz) [e, e2] [] cz) X.env) :: starEach [] X.env := by rfl)
    (hs2 : starEach [e, e2] X.env = (false, eval e X.env) :: starEach [e2] X.env := by rfl) (hpl : (backTo cz (starEach [e2] X.env)).any (·.1) = false := by rfl) :
    CE X Wx (.Call (.Name "dict" p) [.Call (.Name "zip" pz) [e, e2] [] cz] [] pos) (tDZ X.K ta) (eDictZip as) := by
  refine ⟨pe_dictZip hc gz mz gd md ha.pe hs1 hs2 hpl, fun G H ρ σ Q w r h => ?_⟩
  refine ha.sem G H ρ σ _ w r (PostR.bind h fun ws st1 ls1 H1 vs he e1 w1 rv h1 => ?_)
  clear he
  split at h1
  · rename_i xs ys
    split at h1
    · rename_i ks hk
      obtain ⟨v, u, rfl, rx, ry⟩ := rv.two
      obtain ⟨a, vs, rfl, sq, rl⟩ := tup_sq rx
      obtain ⟨b, us, rfl, sq2, rl2⟩ := tup_sq ry
      cases keysL_rep rl hk
      refine ⟨a, b, ks, us, rfl, sq, sq2, fun d hn => ?_⟩
      have rm : RepK X.K (G.to ls1 st1) H1 (mergeW [] (ks.zip ys)) (mergeK [] (ks.zip us)) := RepK.merge (zip_rep rl2) .nil
      exact PostV.of h1 _ _ (Ext.new w1 hn) (w1.new hn) (.dic ⟨.inl upd_same, w1.nal hn⟩ (rm.mono (Ext.new w1 hn)))
    · exact h1.elim
  · exact h1.elim
end
end Sim
end
section
set_option Elab.async false
set_option linter.all false
set_option maxRecDepth 100000
set_option maxHeartbeats 2000000
open PySem PySem.Spec PyProof.Rows L2
namespace Sim
section
variable {X : Cx} {Wx : WX} {K : PySem.W.Frag} {G : Gm} {H : Hp}
/-! {} that is changed later -/
def eDic0 : EM := fun _ st => .ok (.loc st.length) (st ++ [some (.dic [])])
theorem ce_dic0 {pos : Pos} : CE X Wx (.Dict [] [] pos) tDNewK eDic0 := ⟨pe_dnewK, fun G H ρ σ Q w r h p hn => post_push (ob := .dic []) w hn h ⟨[], upd_same, .nil⟩⟩
@[simp] theorem ev_dic0 (ρ : Ev) (st : Stt) : eDic0 ρ st = .ok (.loc st.length) (st ++ [some (.dic [])]) := id rfl
/-! y in d -/
def fDin (neg : Bool) : F2 := fun st y d => match dicX st d, toKey y with
  | some kvs, some k => some (.bl (if neg then !(valW kvs k).isSome else (valW kvs k).isSome))
  | _, _ => none
theorem din_of {kws : List (Key × W)} {kvs : List (Key × V)} (k : Key) (h : RepK K G H kws kvs) : (valW kws k).isSome = (valV kvs k).isSome := by
  rcases RepK.val k h with ⟨h1, h2⟩ | ⟨w, v, h1, h2, _⟩ <;> rw [h1, h2] <;> rfl
theorem sem_din {neg : Bool} {ty td : TE} {my md : EM} (hy : SemE K Wx ty my) (hd : SemE K Wx td md) : SemE K Wx (if neg then tDNotIn ty td else tDIn ty td) (eOp (fDin neg) my md) := fun G H ρ σ Q w r h => by
  have key : ∀ (R : Bool → Prop), True := fun _ => trivial
  have main : ty σ H fun y H1 => td σ H1 fun x H2 => ∃ a o, x = .ref a ∧ DGet H2 a y o ∧ Q (.bl (if neg then !o.isSome else o.isSome)) H2 := by
    refine hy G H ρ σ _ w r (PostR.bind h fun y st1 ls1 H1 vy he e1 w1 ry h1 => ?_)
    clear he
    refine hd (G.to ls1 st1) H1 ρ σ _ w1 (r.mono e1) (PostR.bind h1 fun d st2 ls2 H2 vd he2 e2 w2 rd h2 => ?_)
    clear he2
    cases q : fDin neg st2 y d with
    | none => rw [q] at h2; exact h2.elim
    | some z =>
      rw [q] at h2
      unfold fDin at q
      split at q
      · rename_i kws k hk1 hk2
        cases q
        obtain ⟨a, kvs, rfl, hrd, rk⟩ := dic_rd (G := G.to ls2 st2) w2 rd hk1
        refine ⟨a, valV kvs k, rfl, .inl ⟨kvs, k, hrd, toKey_rep (ry.mono e2) hk2, rfl⟩, ?_⟩
        rw [← din_of k rk]
        exact PostR.ok (G := G.to ls2 st2) w2 h2 (.bl _)
      · cases q
  cases neg
  · exact main
  · exact main
theorem ce_din {a b : Expr} {ta tb : TE} {ma mb : EM} {pos : Pos} (hu : X.A.units + 1 < cLine) (ha : CE X Wx a ta ma) (hb : CE X Wx b tb mb) (hm : behindInMarks .In b = false := by first | exact nobehind _ (by decide) (by decide) | rfl) :
    CE X Wx (.Compare a [.In] [b] pos) (tDIn ta tb) (eOp (fDin false) ma mb) := ⟨pe_cmp (pc_din hu ha.pe hb.pe) hm, sem_din (neg := false) ha.sem hb.sem⟩
theorem ce_dnotin {a b : Expr} {ta tb : TE} {ma mb : EM} {pos : Pos} (hu : X.A.units + 1 < cLine) (ha : CE X Wx a ta ma) (hb : CE X Wx b tb mb) (hm : behindInMarks .NotIn b = false := by first | exact nobehind _ (by decide) (by decide) | rfl) :
    CE X Wx (.Compare a [.NotIn] [b] pos) (tDNotIn ta tb) (eOp (fDin true) ma mb) := ⟨pe_cmp (pc_dnotin hu ha.pe hb.pe) hm, sem_din (neg := true) ha.sem hb.sem⟩
/-! sorted(d) of a dict with texts as keys -/
def keyS : List (Key × W) → Option (List Str)
  | [] => some []
  | (.inr x, _) :: r => (keyS r).map (x :: ·)
  | _ => none
theorem keyS_rep : ∀ {kws : List (Key × W)} {kvs : List (Key × V)} {ks : List Str}, RepK K G H kws kvs → keyS kws = some ks → kvs.map (·.1) = ks.map Sum.inr
  | [], _, _, h, e => by cases h; cases e; rfl
  | (.inl i, w) :: r, _, _, h, e => by cases e
  | (.inr x, w) :: r, _, ks, h, e => by
    cases h with
    | cons a b =>
      rw [keyS] at e
      cases q : keyS r with
      | none => rw [q] at e; cases e
      | some zs =>
        rw [q] at e
        cases e
        rw [List.map_cons, keyS_rep b q]
        rfl
def fSortedD : FL := fun st ws => match ws with
  | [x] => match (dicX st x).bind keyS with
    | some xs => if xs.length < 64 then some ((sortS xs).map .str) else none
    | none => none
  | _ => none
def rSortedD (K : PySem.W.Frag) : List V → Hp → VK → Prop := fun xs H Q => ∃ (a : Addr) (kvs : List (Key × V)) (ks : List Str), xs = [.ref a] ∧ Rd H a (.dK kvs) ∧ kvs.map (·.1) = ks.map Sum.inr ∧ ks.length < 64 ∧
  ∀ ys p, ys.Perm ks → sortedS ys = true → H p = none → Q (.ref p) (upd H p (.lst (ys.map V.str)))
theorem cr_sortedD (hc : X.calm = true) : CallR X (.builtin "sorted") (rSortedD X.K) := call_sortedD hc
theorem fn_sortedD : FnN K (rSortedD K) fSortedD := fun G H ws vs us Q wo rl e q => by
  unfold fSortedD at e
  split at e
  · rename_i x
    split at e
    · rename_i xs en
      split at e
      · rename_i h64
        cases e
        obtain ⟨v, rfl, rx⟩ := rl.one
        cases ed : dicX G.st x with
        | none => rw [ed] at en; cases en
        | some kws =>
          rw [ed] at en
          obtain ⟨a, kvs, rfl, hrd, rk⟩ := dic_rd wo rx ed
          refine ⟨a, kvs, xs, rfl, hrd, keyS_rep rk en, h64, fun ys p hp hs hn => ?_⟩
          rw [sorted_eq hp hs]
          exact q p _ hn rep_strs
      · cases e
    · cases e
  · cases e
/-! d.update(e) -/
def rUpdD : V → List V → Hp → VK → Prop := fun x xs H Q => ∃ (a b : Addr) (kvs more : List (Key × V)), x = .ref a ∧ xs = [.ref b] ∧ a ≠ b ∧ H a = some (.dK kvs) ∧ Rd H b (.dK more) ∧ kvs.length + more.length ≤ sizeLine ∧ Q .non (upd H a (.dK (mergeK kvs more)))
theorem mt_updD : MtR X "dict.update" rUpdD := by
  intro pins s σ H x xs v us Q I rx rxs h
  obtain ⟨a, b, kvs, more, rfl, rfl, hab, ha, hb, hz, q⟩ := h
  cases rx
  obtain ⟨u, rfl, ru⟩ := rxs.one
  cases ru
  obtain ⟨z, hd, vs, rel, dd⟩ := dk_of I.hok ha
  obtain ⟨z2, hd2, vs2, rel2, dd2⟩ := dk_rd I.hok hb
  have l1 : kvs.length = vs.length := rel.length
  have l2 : more.length = vs2.length := rel2.length
  refine PySem.call_meetsIn PySem.F.slot_dict_update dd.typeIs PySem.F.entry_dict_update (PySem.F.args_dict_update_2 _ _) (PySem.meets_dict_update (mixKind X.prog X.w) a b hab hd2) ⟨vs, vs2, dd, dd2, by omega, fun h' dd' _ hs => ?_⟩
  have he : ∃ q, h'.get? a = some q := let ⟨q, _, _, hq, _⟩ := dd'; ⟨q, hq⟩
  have hl : (mergeK kvs more).length ≤ sizeLine := Nat.le_trans (length_mergeK more kvs) hz
  exact ⟨.non, _, d_write (t' := s.toks) I (by rw [ha]; exact True.intro) hs he (dk_new hl hd (KV.merge rel2 rel) dd'), rfl, q⟩
def mUpdD : MF := fun x ws st => match x, ws with
  | .loc n, [.dic more] => match st[n]? with
    | some (some (.dic kvs)) => if kvs.length + more.length ≤ 100000 then .ok .non (st.set n (some (.dic (mergeW kvs more)))) else .no
    | _ => .no
  | _, _ => .no
theorem ms_updD : MtS K rUpdD mUpdD := fun G H x v ws vs Wy Q wo rx rl h => by
  unfold mUpdD at h
  split at h
  · rename_i n more
    split at h
    · rename_i kws hk
      split at h
      · rename_i hl
        cases rx with
        | loc e1 =>
          rename_i a
          obtain ⟨kvs, e2, rk⟩ := wo.at' _ _ _ e1 hk
          obtain ⟨u, rfl, ru⟩ := rl.one
          cases ru with
          | dic hf rm =>
            rename_i b mvs
            have hab : a ≠ b := fun z => hf.2 (by rw [← z]; exact .inl ⟨n, _, e1, hk⟩)
            refine ⟨a, b, kvs, mvs, rfl, rfl, hab, e2, hf.1, Nat.le_trans (by rw [← rk.length, ← rm.length]; exact hl) (by decide), ?_⟩
            have x := Ext.put (G := G) (H := H) (ob := .dic (mergeW kws more)) (o := .dK (mergeK kvs mvs)) wo e1 hk
            exact post_put wo e1 hk h ⟨_, upd_same, (RepK.merge rm rk).mono x⟩ .non
      · exact h.elim
    · exact h.elim
  · exact h.elim
/-- d.name(..), d a dict that is changed -/
def eDM (m : EM) (as : AM) (mf : MF) : EM := fun ρ st => (m ρ st).bind fun x st1 => match x with
  | .loc n => match st1[n]? with
    | some (some (.dic _)) => (as ρ st1).bind fun ws st2 => mf x ws st2
    | _ => .no
  | _ => .no
theorem ce_dm {o e : Expr} {es : List Expr} {to : TE} {t : TA} {mo : EM} {as : AM} {name : Str} {apos cpos : Pos} {id : String} {r : V → List V → Hp → VK → Prop} {mf : MF} (slot : Slot "dict" name id) (hty : typeOf (.builtin id) = pure (.type "method_descriptor")) (hm : MtR X id r) (hf : MtS X.K r mf) (ho : CE X Wx o to mo) (ha : CA X Wx (e :: es) t as)
    (hbase : attributeBase o name X.env (eval o X.env) = eval o X.env := by rfl)
    (hfew : ((backTo cpos (starEach (e :: es) X.env)).all (fun x => !x.1) && (backToKw cpos (keywordEach [] X.env)).all (fun x => x.1.isSome) && decide ((e :: es).length + ([] : List Keyword).length + (if ([] : List Keyword).isEmpty then 0 else 1) < 30)) = true := by rfl)
    (hline : (apos.endLine == cpos.line) = true := by rfl) (hs : starEach (e :: es) X.env = (false, eval e X.env) :: starEach es X.env := by rfl) (hplain : (backTo cpos (starEach es X.env)).any (·.1) = false := by rfl) :
    CE X Wx (.Call (.Attribute o name apos) (e :: es) [] cpos) (tBM X.K "dict" r to t) (eDM mo as mf) := by
  refine ⟨pe_bm PySem.F.plainAttrs_dict slot hty hm ho.pe ha.pe hbase hfew hline hs hplain, fun G H ρ σ Q w rr h => ?_⟩
  refine ho.sem G H ρ σ _ w rr (PostR.bind h fun x st1 ls1 H1 v q1 e1 w1 rv h1 => ?_)
  clear q1
  split at h1
  · rename_i n
    split at h1
    · rename_i kws hk
      cases rv with
      | loc hn =>
        rename_i a
        obtain ⟨kvs, e2, rk⟩ := w1.at' _ _ _ hn hk
        refine ⟨.inr (.inr (.inl ⟨rfl, .inl ⟨kvs, e2⟩⟩)), ?_⟩
        refine ha.sem (G.to ls1 st1) H1 ρ σ _ w1 (rr.mono e1) (PostR.bind h1 fun ws st2 ls2 H2 vs q2 e2 w2 rvs h2 => ?_)
        exact hf (G.to ls2 st2) H2 (.loc n) _ ws vs _ Q w2 (RepV.mono e2 (.loc hn)) rvs h2
    · exact h1.elim
  · exact h1.elim
end
end Sim
end
section
set_option Elab.async false
set_option linter.all false
set_option maxRecDepth 100000
set_option maxHeartbeats 2000000
open PySem PySem.Spec PyProof.Rows L2
namespace Sim
open Classical in
noncomputable def dcW (ok : Stt → Prop) (g : GM) (c : TM) (mk mv : EM) (ρ : Ev) : List W → Stt → Rs (List (Key × W))
  | [], st => if ok st then .ok [] st else .no
  | w :: ws, st => if ok st then (match g st w ρ with
      | none => .no
      | some ρ1 => (c ρ1 st).cb fun b st1 => if b = true then (mk ρ1 st1).cb fun x st2 => (mv ρ1 st2).cb fun y st3 => (match toKey x with
        | some k => (dcW ok g c mk mv ρ ws st3).cb fun ys st4 => .ok ((k, y) :: ys) st4
        | none => .no) else dcW ok g c mk mv ρ ws st1) else .no
noncomputable def eDc (im : IM) (g : GM) (c : TM) (mk mv : EM) (vs : List Nat) : EM := fun ρ st => (im ρ st).bind fun src st1 => if src.items.length ≤ 100000 then (dcW src.ok g c mk mv (wipeE ρ vs) src.items st1).cb fun ys st2 => .ok (.dic (mergeW [] ys)) st2 else .no
section
variable {K : PySem.W.Frag} {Wx : WX} {G1 : Gm} {H1 : Hp} {D : Addr}
theorem merge_snoc (aw : List (Key × W)) (k : Key) (y : W) : mergeW [] (aw ++ [(k, y)]) = putW (mergeW [] aw) k y := by
  unfold mergeW
  rw [List.foldl_append]
  rfl
theorem dc_loop {J : It} {src : Src} {g : TG} {gm : GM} {is vs : List Nat} {tt : TT} {c : TM} {tk tv : TE} {mk mv : EM} {ρ : Ev} {σ : L2.St} {Q : VK} (w1 : World K G1 H1) (re : RepE K G1 H1 ρ σ) (wk : Walks K G1 H1 src J) (hg : SemG K g gm is) (hs : ∀ i ∈ is, i ∈ vs)
    (ht : SemT K W0 tt c) (hek : SemE K W0 tk mk) (hev : SemE K W0 tv mv) (hlen : src.items.length ≤ 100000) (hD : H1 D = none)
    (fin : ∀ (ys : List (Key × W)) (st' : Stt) (ls' : List Addr) (H' : Hp) (av : List (Key × V)), dcW src.ok gm c mk mv (wipeE ρ vs) src.items G1.st = .ok ys st' → Ext G1 H1 (G1.to ls' st') H' → World K ((G1.to ls' st').hide D) H' → H' D = some (.dK av) → RepK K ((G1.to ls' st').hide D) H' (mergeW [] ys) av → Q (.ref D) H')
    (hok : ∃ ys st', dcW src.ok gm c mk mv (wipeE ρ vs) src.items G1.st = .ok ys st') :
    ∃ W : Nat → Nat → Hp → Prop, (∃ m, W 0 m (upd H1 D (.dK []))) ∧ ∀ i m H, W i m H → (J.stop i H ∧ Q (.ref D) H) ∨ (J.go i H ∧ ∃ Nx : Hp → Prop, (∀ H', Nx H' → ∃ m', m' < m ∧ W (i + 1) m' H') ∧ ∀ x H', J.yld i H x H' → g x (L2.wipe σ vs) H' fun σ2 H2 => L2.wipe σ2 vs = L2.wipe σ vs ∧ tt σ2 H2 fun b H3 =>
      if b = true then tk σ2 H3 fun y H4 => tv σ2 H4 fun z H5 => ∃ kvs k, y = kV k ∧ H5 D = some (.dK kvs) ∧ kvs.length < sizeLine ∧ Nx (upd H5 D (.dK (putK kvs k z))) else Nx H3) := by
  obtain ⟨ysF, stF, hok⟩ := hok
  let Inv : Nat → Hp → Prop := fun i H => i ≤ src.items.length ∧ ∃ (ls : List Addr) (st : Stt) (aw : List (Key × W)) (av : List (Key × V)) (ys : List (Key × W)), Ext G1 H1 (G1.to ls st) H ∧ World K ((G1.to ls st).hide D) H ∧ H D = some (.dK av) ∧ RepK K ((G1.to ls st).hide D) H (mergeW [] aw) av ∧ av.length ≤ i ∧ Less G1 H1 ((G1.to ls st).hide D) H ∧
    dcW src.ok gm c mk mv (wipeE ρ vs) (src.items.drop i) st = .ok ys stF ∧ aw ++ ys = ysF
  refine ⟨fun i m H => m = src.items.length - i ∧ Inv i H, ⟨_, rfl, Nat.zero_le _, G1.ls, G1.st, [], [], ysF, ?_, w1.hide hD, upd_same, .nil, Nat.le_refl _, less_hide w1 hD, hok, rfl⟩, ?_⟩
  · exact Ext.new w1 hD
  rintro i mm H ⟨rfl, hle, ls, st, aw, av, ys, x, w, hDv, rl, hl, le, hc, hys⟩
  by_cases hlt : i < src.items.length
  · rw [List.drop_eq_getElem_cons hlt] at hc
    rw [dcW] at hc
    split at hc
    · rename_i hokst
      obtain ⟨wg, _⟩ := wk _ H le w hokst i
      obtain ⟨hgo, hy⟩ := wg _ (List.getElem?_eq_getElem hlt)
      refine .inr ⟨hgo, Inv (i + 1), fun H' hN => ⟨_, ?_, rfl, hN⟩, fun xv H2 hx => ?_⟩
      · omega
      obtain ⟨x2, w2, rx⟩ := hy xv H2 hx
      cases eg : gm st src.items[i] (wipeE ρ vs) with
      | none => rw [eg] at hc; cases hc
      | some ρ1 =>
        rw [eg] at hc
        dsimp only at hc
        have re2 : RepE K ((G1.to ls st).hide D) H2 (wipeE ρ vs) (L2.wipe σ vs) := ((re.less le).less x2.less).wipe vs
        refine hg _ H2 _ _ _ xv ρ1 _ w2 re2 rx eg fun σ2 hl2 hj2 re3 => ⟨?_, ?_⟩
        · rw [wipe_same hl2 hj2 hs, wipe_wipe]
        obtain ⟨b, st3, hb, hc⟩ := Rs.cb_eq hc
        refine ht _ H2 ρ1 σ2 _ w2 re3 ?_
        rw [show ((G1.to ls st).hide D).st = st from rfl, hb]
        intro ls3 H3 b' x3 w3 eb
        subst eb
        have x23 := x2.trans x3
        have hD3 : H3 D = some (.dK av) := (x23.hidk D List.mem_cons_self).trans hDv
        cases b with
        | true =>
          rw [if_pos rfl] at hc ⊢
          obtain ⟨kw, st4, hm, hc⟩ := Rs.cb_eq hc
          obtain ⟨y, st5, hm5, hc⟩ := Rs.cb_eq hc
          cases ek : toKey kw with
          | none => rw [ek] at hc; cases hc
          | some k =>
            rw [ek] at hc
            obtain ⟨ys', st6, hr, hc⟩ := Rs.cb_eq hc
            refine hek (((G1.to ls st).hide D).to ls3 st3) H3 ρ1 σ2 _ w3 (re3.mono x3) ?_
            rw [show (((G1.to ls st).hide D).to ls3 st3).st = st3 from rfl, hm]
            intro ls4 H4 kv x4 w4 rk
            refine hev (((G1.to ls st).hide D).to ls4 st4) H4 ρ1 σ2 _ w4 ((re3.mono x3).mono x4) ?_
            rw [show (((G1.to ls st).hide D).to ls4 st4).st = st4 from rfl, hm5]
            intro ls5 H5 yv x5 w5 ry
            have x24 := (x23.trans x4).trans x5
            have hD5 : H5 D = some (.dK av) := (x24.hidk D List.mem_cons_self).trans hDv
            have lp := length_putK av k yv
            refine ⟨av, k, toKey_rep rk ek, hD5, Nat.lt_of_le_of_lt (Nat.le_trans hl (Nat.le_of_lt hlt)) (Nat.lt_of_le_of_lt hlen (by decide)), hlt, ls5, st5, aw ++ [(k, y)], putK av k yv, ys', Ext.under w1 hD x x24, w5.hidupd List.mem_cons_self, upd_same, ?_, by omega, ?_, ?_, ?_⟩
            · rw [merge_snoc]
              exact ((rl.mono x24).put k ry).less (less_hidupd List.mem_cons_self)
            · have l2 := less_hidupd (G := (G1.to ls5 st5).hide D) (H := H5) (o := .dK (putK av k yv)) List.mem_cons_self
              exact ⟨fun i a e => x24.ls i a (le.ls i a e), fun a u h => l2.fz a u (Fz.mono x24 (le.fz a u h)), fun a u h => l2.fx a u (Fx.mono x24 (le.fx a u h)), fun a u h => l2.fe a u (Fe.mono x24 (le.fe a u h)), fun a p u h => l2.fd a p u (Fd.mono x24 (le.fd a p u h))⟩
            · cases hc; exact hr
            · cases hc; rw [← hys]; simp
        | false =>
          rw [if_neg Bool.false_ne_true] at hc ⊢
          refine ⟨hlt, ls3, st3, aw, av, ys, ?_, w3, hD3, rl.mono x23, Nat.le_succ_of_le hl, ?_, hc, hys⟩
          · have q := Ext.under (o := .dK av) w1 hD x x23
            have : upd H3 D (.dK av) = H3 := by
              funext b
              by_cases e : b = D
              · subst e; rw [upd_same]; exact hD3.symm
              · rw [upd_ne e]
            rw [this] at q
            exact q
          · exact ⟨fun i a e => x23.ls i a (le.ls i a e), fun a u h => Fz.mono x23 (le.fz a u h), fun a u h => Fx.mono x23 (le.fx a u h), fun a u h => Fe.mono x23 (le.fe a u h), fun a p u h => Fd.mono x23 (le.fd a p u h)⟩
    · cases hc
  · have ei : i = src.items.length := by omega
    subst ei
    rw [List.drop_length, dcW] at hc
    split at hc
    · rename_i hokst
      cases hc
      refine .inl ⟨(wk _ H le w hokst _).2 (Nat.le_refl _), fin ysF _ ls H av hok x w hDv ?_⟩
      rw [← hys, List.append_nil]; exact rl
    · cases hc
theorem sem_dc {wi : TI} {g : TG} {gm : GM} {is vs : List Nat} {tt : TT} {c : TM} {tk tv : TE} {mk mv : EM} {im : IM} (hi : SemI K Wx wi im) (hg : SemG K g gm is) (hs : ∀ i ∈ is, i ∈ vs) (ht : SemT K W0 tt c) (hek : SemE K W0 tk mk) (hev : SemE K W0 tv mv) :
    SemE K Wx (tDc wi g tt tk tv vs) (eDc im gm c mk mv vs) := fun G H ρ σ Q w r h => by
  refine hi G H ρ σ _ w r (PostR.bind h fun src st1 ls1 H1 J _ e1 w1 wk h1 => ?_)
  intro D hD
  split at h1
  · rename_i hlen
    cases hr : dcW src.ok gm c mk mv (wipeE ρ vs) src.items st1 with
    | ok ys st2 =>
      rw [hr] at h1
      refine dc_loop w1 (r.mono e1) wk hg hs ht hek hev hlen hD (fun ys' st' ls' H' av hq x w' hDv rl => ?_) ⟨ys, st2, hr⟩
      rw [show (G.to ls1 st1).st = st1 from rfl, hr] at hq
      cases hq
      exact h1 ls' H' (.ref D) x w'.unhide (.dic ⟨.inl hDv, hidden_nal w1 hD x w'⟩ (rl.less less_unhide))
    | er x st2 => rw [hr] at h1; exact h1.elim
    | no => rw [hr] at h1; exact h1.elim
  · exact h1.elim
variable {X : Cx}
theorem ce_dc {kx vx tg iter : Expr} {ifs : List Expr} {scope : Scope} {own : List (Str × Nat)} {pos : Pos} {wi : TI} {g : TG} {tt : TT} {tk tv : TE} {im : IM} {gm : GM} {is : List Nat} {c : TM} {mk mv : EM} (hc : X.calm = true) (hN : X.N.Nodup) (hi : CI X Wx tg iter wi im) (ok : BlkOk X.N X.env.scope scope own)
    (hg : Blk X scope fun Y => CG Y tg g gm is) (ht : Blk X scope fun Y => CTs Y W0 ifs tt c) (hk : Blk X scope fun Y => CE Y W0 kx tk mk) (he : Blk X scope fun Y => CE Y W0 vx tv mv) (hsub : ∀ i ∈ is, i ∈ own.map (·.2) := by decide) (hs : ∀ x, foldedSetIterable iter X.env x = pure x := by intro _; rfl) :
    CE X Wx (.DictComp kx vx [⟨tg, iter, ifs, 0⟩] scope pos) (tDc wi g tt tk tv (own.map (·.2))) (eDc im gm c mk mv (own.map (·.2))) :=
  ⟨pe_dc hc hN hi.pe ok (fun s H C cl fp => (hg s H C cl fp).pe) (fun s H C cl fp => (ht s H C cl fp).pe) (fun s H C cl fp => (hk s H C cl fp).pe) (fun s H C cl fp => (he s H C cl fp).pe) hs,
    sem_dc hi.sem (hg {} (fun _ => none) 0 [] []).sem hsub (ht {} (fun _ => none) 0 [] []).sem (hk {} (fun _ => none) 0 [] []).sem (he {} (fun _ => none) 0 [] []).sem⟩
end
end Sim
end
section
set_option Elab.async false
set_option linter.all false
set_option maxRecDepth 100000
set_option maxHeartbeats 1000000
open PySem PySem.Spec PyProof.Rows L2
namespace Sim
section
variable {X : Cx} {Wx : WX} {ρ : Ev} {st : Stt}
theorem ct_din {a b : Expr} {ta tb : TE} {ma mb : EM} {pos : Pos} (hu : X.A.units + 1 < cLine) (ha : CE X Wx a ta ma) (hb : CE X Wx b tb mb) (hm : behindInMarks .In b = false := by first | exact nobehind _ (by decide) (by decide) | rfl) :
    CT X Wx (.Compare a [.In] [b] pos) (tB (tDIn ta tb)) (tmV (eOp (fDin false) ma mb)) := ⟨pt_cmp (pc_din hu ha.pe hb.pe) hm, sem_tv (sem_din (neg := false) ha.sem hb.sem)⟩
theorem ct_dnotin {a b : Expr} {ta tb : TE} {ma mb : EM} {pos : Pos} (hu : X.A.units + 1 < cLine) (ha : CE X Wx a ta ma) (hb : CE X Wx b tb mb) (hm : behindInMarks .NotIn b = false := by first | exact nobehind _ (by decide) (by decide) | rfl) :
    CT X Wx (.Compare a [.NotIn] [b] pos) (tB (tDNotIn ta tb)) (tmV (eOp (fDin true) ma mb)) := ⟨pt_cmp (pc_dnotin hu ha.pe hb.pe) hm, sem_tv (sem_din (neg := true) ha.sem hb.sem)⟩
/-! the mirrors of dicts, worked out -/
theorem dget_ok {md mk : EM} {kvs : List (Key × W)} {x : Str} {w : W} {d : W} (h1 : md ρ st = .ok d st) (hd : dicX st d = some kvs) (h2 : mk ρ st = .ok (.str x) st) (h3 : valW kvs (.inr x) = some w) : eDget md mk ρ st = .ok w st := by
  unfold eDget
  simp only [h1, Rs.bind, h2, hd, toKey, h3]
theorem dcW_map {ok : Stt → Prop} {g : GM} {mk mv : EM} {f : W → Key × W} (hk : ok st) : ∀ (ws : List W), (∀ w ∈ ws, ∃ ρ1 x, g st w ρ = some ρ1 ∧ mk ρ1 st = .ok x st ∧ toKey x = some (f w).1 ∧ mv ρ1 st = .ok (f w).2 st) → dcW ok g tmYes mk mv ρ ws st = .ok (ws.map f) st
  | [], _ => by rw [dcW, if_pos hk]; rfl
  | w :: ws, h => by
    obtain ⟨ρ1, x, h1, h2, h3, h4⟩ := h w List.mem_cons_self
    have ih := dcW_map hk ws fun u hu => h u (List.mem_cons_of_mem _ hu)
    have hy : tmYes ρ1 st = .ok true st := rfl
    rw [dcW, if_pos hk, h1]
    simp [hy, h2, h3, h4, ih]
def dcV (r : Rs (List (Key × W))) : Rs W := match r with | .ok ys s => .ok (.dic (mergeW [] ys)) s | _ => .no
@[simp] theorem dcV_ok (ys : List (Key × W)) : dcV (.ok ys st) = .ok (.dic (mergeW [] ys)) st := id rfl
noncomputable def dcK (g : GM) (c : TM) (mk mv : EM) (vs : List Nat) (ρ : Ev) (r : Rs Src) : Rs W := match r with | .ok src s => if src.items.length ≤ 100000 then dcV (dcW src.ok g c mk mv (wipeE ρ vs) src.items s) else .no | .er x s => .er x s | .no => .no
@[simp] theorem dcK_ok (g : GM) (c : TM) (mk mv : EM) (vs : List Nat) (src : Src) : dcK g c mk mv vs ρ (.ok src st) = if src.items.length ≤ 100000 then dcV (dcW src.ok g c mk mv (wipeE ρ vs) src.items st) else .no := id rfl
@[simp] theorem ev_dc (im : IM) (g : GM) (c : TM) (mk mv : EM) (vs : List Nat) : eDc im g c mk mv vs ρ st = dcK g c mk mv vs ρ (im ρ st) := by
  unfold eDc dcK dcV
  cases im ρ st with
  | ok src s =>
    dsimp only [Rs.bind]
    split
    · cases dcW src.ok g c mk mv (wipeE ρ vs) src.items s <;> rfl
    · rfl
  | er x s => rfl
  | no => rfl
/-- a loop while .., one turn -/
theorem while_stop {n : Nat} {c : TM} {body : SM} {st1 : Stt} (h : c ρ st = .ok false st1) : whileW (n + 1) c body ρ st = .nx ρ st1 := by
  rw [whileW]
  dsimp only
  rw [h]; rfl
theorem while_go {n : Nat} {c : TM} {body : SM} {st1 st2 : Stt} {ρ2 : Ev} (h : c ρ st = .ok true st1) (hb : body ρ st1 = .nx ρ2 st2) : whileW (n + 1) c body ρ st = whileW n c body ρ2 st2 := by
  rw [whileW]
  dsimp only
  rw [h]
  show (body ρ st1).loop (fun ρ2 st2 => whileW n c body ρ2 st2) = whileW n c body ρ2 st2
  rw [hb]
  rfl
end
end Sim
end
section
set_option Elab.async false
set_option linter.all false
set_option maxRecDepth 100000
set_option maxHeartbeats 1000000
open PySem PySem.Spec PyProof.Rows L2
namespace Sim
/-! a dict that nobody changes is walked: it is locked, and stays so -/
def iItemsL (td : TE) : TI := fun σ H R => td σ H fun x H1 => ∃ d kvs, x = .ref d ∧ ((∃ o, H1 d = some (.frz o (.dK kvs)) ∧ R (Iti d o kvs) H1) ∨ (H1 d = some (.dK kvs) ∧ ∀ od, R (Iti d od kvs) (upd H1 d (.frz od (.dK kvs)))))
def iValsL (td : TE) : TI := fun σ H R => td σ H fun x H1 => ∃ d kvs, x = .ref d ∧ ((∃ o, H1 d = some (.frz o (.dK kvs)) ∧ R (Itd d o kvs) H1) ∨ (H1 d = some (.dK kvs) ∧ ∀ od, R (Itd d od kvs) (upd H1 d (.frz od (.dK kvs)))))
def iKeysL (td : TE) : TI := fun σ H R => td σ H fun x H1 => ∃ d kvs, x = .ref d ∧ ((∃ o, H1 d = some (.frz o (.dK kvs)) ∧ R (Itk d o kvs) H1) ∨ (H1 d = some (.dK kvs) ∧ ∀ od, R (Itk d od kvs) (upd H1 d (.frz od (.dK kvs)))))
section
variable {X : Cx} {tg e : Expr} {td : TE} {apos cpos : Pos}
theorem locked {pins : List (Addr × Obj)} {s : Shared} {σ : L2.St} {H : Hp} {d : Addr} {kvs : List (Key × V)} {F : Obj → Hp → Prop} (I : Inv X pins σ H s) (q : (∃ o, H d = some (.frz o (.dK kvs)) ∧ F o H) ∨ (H d = some (.dK kvs) ∧ ∀ od, F od (upd H d (.frz od (.dK kvs))))) :
    ∃ o H2, Inv X pins σ H2 s ∧ H2 d = some (.frz o (.dK kvs)) ∧ F o H2 := by
  rcases q with ⟨o, e, q⟩ | ⟨e, q⟩
  · exact ⟨o, H, I, e, q⟩
  · obtain ⟨od, I2⟩ := I.lock e trivial
    exact ⟨od, _, I2, upd_same, q od⟩
theorem pi_valsL (he : PE X e td) (hbase : attributeBase e "values" X.env (eval e X.env) = eval e X.env := by rfl) (hline : (apos.endLine == cpos.line) = true := by rfl) : PI X tg (.Call (.Attribute e "values" apos) [] [] cpos) (iValsL td) := by
  refine ⟨fun pins s σ H R I h => ?_⟩
  refine wpAny_Call_method (T := "dict") (id := "dict.values") hbase rfl hline F.plainAttrs_dict F.slot_dict_values F.type_dict_values (thn (he.run pins s σ H _ I h) fun u s1 ⟨x, H0, I0, rx, d, kvs, ex, q⟩ => ?_)
  obtain ⟨o, H1, I1, hd, q⟩ := locked I0 q
  subst ex
  obtain rfl : u = Value.ref d := rx
  obtain ⟨hs, hgd, hx, es, ep, vs, hdt, hsz, kv, hm⟩ := I1.frzK hd
  have hl : kvs.length = vs.length := Paired.length kv
  refine ⟨hm.dictOf.typeIs, hm.dictOf.mapOf.noDict, ?_⟩
  have I2 : Inv X pins σ H1 { s1 with heap := s1.heap.push { cls := .type "dict_values", data := .fields #[.ref d] } } := I1.kept (t' := s1.toks) fun b ob q => Heap.get?_push_of_some _ q
  have fin : wpAny (model X.prog X.w) X.A (pyIter (.ref s1.heap.objs.size)) (PIE X pins σ tg R) X.xe { s1 with heap := s1.heap.push { cls := .type "dict_values", data := .fields #[.ref d] } } := by
    refine wpAny_pyIter_values (d := d) (knd := mixKind X.prog X.w) ⟨_, Heap.get?_push_size _ rfl, rfl, rfl⟩ (hm.push _) (pi_one (tk := s1.toks) I2 _ (turn_vals _ hdt) ⟨_, Heap.get?_push_size _ rfl, rfl, ?_⟩ q)
    rw [hl] <;> rfl
  show wpAny _ _ (callWith cpos (.builtin "dict.values") [.ref d] [] []) _ X.xe s1
  exact method_meetsIn F.slot_dict_values F.entry_dict_values rfl (PySem.evalArgs_none ⟨rfl, hm.dictOf.typeIs, F.args_dict_values_1 _, _, meets_dict_values (mixKind X.prog X.w) d hs, ⟨vs, hm.dictOf⟩, fin⟩)
theorem pi_itemsL {elts : List Expr} {kk : Nat} {tpos : Pos} (he : PE X e td) (hbase : attributeBase e "items" X.env (eval e X.env) = eval e X.env := by rfl) (hline : (apos.endLine == cpos.line) = true := by rfl) :
    PI X (.Tuple elts kk tpos) (.Call (.Attribute e "items" apos) [] [] cpos) (iItemsL td) := by
  refine ⟨fun pins s σ H R I h => ?_⟩
  refine wpAny_Call_method (T := "dict") (id := "dict.items") hbase rfl hline F.plainAttrs_dict F.slot_dict_items F.type_dict_items (thn (he.run pins s σ H _ I h) fun u s1 ⟨x, H0, I0, rx, d, kvs, ex, q⟩ => ?_)
  obtain ⟨o, H1, I1, hd, q⟩ := locked I0 q
  subst ex
  obtain rfl : u = Value.ref d := rx
  obtain ⟨hs, hgd, hx, es, ep, vs, hdt, hsz, kv, hm⟩ := I1.frzK hd
  have hl : kvs.length = vs.length := Paired.length kv
  refine ⟨hm.dictOf.typeIs, hm.dictOf.mapOf.noDict, ?_⟩
  have I2 : Inv X pins σ H1 { s1 with heap := s1.heap.push { cls := .type "dict_items", data := .fields #[.ref d] } } := I1.kept (t' := s1.toks) fun b ob q => Heap.get?_push_of_some _ q
  have fin : wpAny (model X.prog X.w) X.A (pyIter (.ref s1.heap.objs.size)) (PIE X pins σ (.Tuple elts kk tpos) R) X.xe { s1 with heap := s1.heap.push { cls := .type "dict_items", data := .fields #[.ref d] } } := by
    refine wpAny_pyIter_items (d := d) (knd := mixKind X.prog X.w) ⟨_, Heap.get?_push_size _ rfl, rfl, rfl⟩ (hm.push _) (pi_one (tk := s1.toks) I2 _ (turn_items _ hdt) ⟨.none, .none, ?_⟩ q)
    rw [hl]
    exact Heap.get?_push_size _ rfl
  show wpAny _ _ (callWith cpos (.builtin "dict.items") [.ref d] [] []) _ X.xe s1
  exact method_meetsIn F.slot_dict_items F.entry_dict_items rfl (PySem.evalArgs_none ⟨rfl, hm.dictOf.typeIs, F.args_dict_items_1 _, _, meets_dict_items (mixKind X.prog X.w) d hs, ⟨vs, hm.dictOf⟩, fin⟩)
theorem pi_keysL (he : PE X e td) : PI X tg e (iKeysL td) := by
  refine ⟨fun pins s σ H R I h => ?_⟩
  refine thn (he.run pins s σ H _ I h) fun u s1 ⟨x, H0, I0, rx, d, kvs, ex, q⟩ => ?_
  obtain ⟨o, H1, I1, hd, q⟩ := locked I0 q
  subst ex
  obtain rfl : u = Value.ref d := rx
  obtain ⟨hs, hgd, hx, es, ep, vs, hdt, hsz, kv, hm⟩ := I1.frzK hd
  refine iter_keys hs hgd hx hdt (pi_one (tk := s1.toks) I1 _ (turn_keys _ hdt) ⟨_, Heap.get?_push_size _ rfl, rfl, ?_⟩ q)
  rw [hsz] <;> rfl
end
section
variable {K : PySem.W.Frag} {G : Gm} {H : Hp} {d : Addr} {od : Obj} {kvs : List (Key × V)}
theorem Ext.lock (w : World K G H) (e : H d = some (.dK kvs)) (na : ¬ G.alive d) : Ext G H G (upd H d (.frz od (.dK kvs))) := by
  refine ⟨fun _ _ e => e, fun a u _ q => ?_, fun _ z => .inl z, fun a q => ?_, rfl, fun a ha => ?_⟩
  · by_cases h : a = d
    · subst h
      rw [e] at q
      cases q
      exact .inr ⟨kvs, od, rfl, upd_same⟩
    · exact .inl (by rw [upd_ne h]; exact q)
  · by_cases h : a = d
    · subst h; rw [upd_same] at q; cases q
    · rw [upd_ne h] at q; exact q
  · exact upd_ne fun z => na (.inr (by rw [← z]; exact ha))
theorem World.lock (w : World K G H) (e : H d = some (.dK kvs)) (na : ¬ G.alive d) : World K G (upd H d (.frz od (.dK kvs))) := by
  have nn : ∀ a, H a ≠ none → upd H d (.frz od (.dK kvs)) a ≠ none := fun a h => by
    by_cases q : a = d
    · subst q; rw [upd_same]; exact fun z => nomatch z
    · rw [upd_ne q]; exact h
  refine ⟨w.len, w.nd, fun a ha => nn a (w.tr a ha), fun a ha => ⟨nn a (w.hd a ha).1, (w.hd a ha).2⟩, fun i a ob e1 e2 => ?_⟩
  have ne : a ≠ d := fun z => na (.inl ⟨i, ob, by rw [← z]; exact e1, e2⟩)
  exact (w.at' i a ob e1 e2).mono (Ext.lock w e na) (upd_ne ne)
def kW : Key → W
  | .inl i => .int i
  | .inr s => .str s
theorem rep_kW : ∀ k : Key, RepV K G H (kW k) (kV k)
  | .inl i => .int i
  | .inr s => .str s
theorem RepK.get : ∀ {kws : List (Key × W)} {kvs : List (Key × V)}, RepK K G H kws kvs → ∀ {i : Nat} {p : Key × W}, kws[i]? = some p → ∃ v, kvs[i]? = some (p.1, v) ∧ RepV K G H p.2 v
  | _, _, .nil, i, p, h => by cases h
  | _, _, .cons (k := k) (w := w) (v := v) a b, 0, p, h => by
    have h : some (k, w) = some p := h
    cases h
    exact ⟨v, rfl, a⟩
  | _, _, .cons (k := k) (w := w) (v := v) a b, i + 1, p, h => RepK.get b h
theorem RepK.len : ∀ {kws : List (Key × W)} {kvs : List (Key × V)}, RepK K G H kws kvs → kws.length = kvs.length
  | _, _, .nil => rfl
  | _, _, .cons a b => congrArg (· + 1) (RepK.len b)
theorem walks_items {kws : List (Key × W)} (fd : Fd G H d od kvs) (rk : RepK K G H kws kvs) : Walks K G H ⟨kws.map fun kw => .prs [kW kw.1, kw.2], fun _ => True⟩ (Iti d od kvs) := fun G' H' x wo hok i => by
  have fd := x.fd _ _ _ fd
  have rk := RepK.less x rk
  refine ⟨fun u hu => ?_, fun hl => ⟨fd.1, by rw [← rk.len]; simpa using hl⟩⟩
  rw [List.getElem?_map] at hu
  cases e : kws[i]? with
  | none => rw [e] at hu; cases hu
  | some p =>
    rw [e] at hu
    cases hu
    obtain ⟨v, ev, rv⟩ := rk.get e
    refine ⟨⟨fd.1, (List.getElem?_eq_some_iff.mp ev).1⟩, fun y H2 hy => ?_⟩
    obtain ⟨T, k, v', e2, rfl, hT, rfl⟩ := hy
    rw [ev] at e2
    cases e2
    have x2 : Ext G' H' G' (upd H' T (.tup [kV p.1, v])) := Ext.new wo hT
    exact ⟨x2, World.new wo hT, .prs ⟨.inl upd_same, wo.nal hT⟩ (.cons (rep_kW _) (.cons (rv.mono x2) .nil))⟩
theorem walks_vals {kws : List (Key × W)} (fd : Fd G H d od kvs) (rk : RepK K G H kws kvs) : Walks K G H ⟨kws.map (·.2), fun _ => True⟩ (Itd d od kvs) := fun G' H' x wo hok i => by
  have fd := x.fd _ _ _ fd
  have rk := RepK.less x rk
  refine ⟨fun u hu => ?_, fun hl => ⟨fd.1, by rw [← rk.len]; simpa using hl⟩⟩
  rw [List.getElem?_map] at hu
  cases e : kws[i]? with
  | none => rw [e] at hu; cases hu
  | some p =>
    rw [e] at hu
    cases hu
    obtain ⟨v, ev, rv⟩ := rk.get e
    refine ⟨⟨fd.1, (List.getElem?_eq_some_iff.mp ev).1⟩, fun y H2 hy => ?_⟩
    obtain ⟨rfl, k, e2⟩ := hy
    rw [ev] at e2
    cases e2
    exact ⟨Ext.refl _ _, wo, rv⟩
theorem walks_keys {kws : List (Key × W)} (fd : Fd G H d od kvs) (rk : RepK K G H kws kvs) : Walks K G H ⟨kws.map fun kw => kW kw.1, fun _ => True⟩ (Itk d od kvs) := fun G' H' x wo hok i => by
  have fd := x.fd _ _ _ fd
  have rk := RepK.less x rk
  refine ⟨fun u hu => ?_, fun hl => ⟨fd.1, by rw [← rk.len]; simpa using hl⟩⟩
  rw [List.getElem?_map] at hu
  cases e : kws[i]? with
  | none => rw [e] at hu; cases hu
  | some p =>
    rw [e] at hu
    cases hu
    obtain ⟨v, ev, rv⟩ := rk.get e
    refine ⟨⟨fd.1, (List.getElem?_eq_some_iff.mp ev).1⟩, fun y H2 hy => ?_⟩
    obtain ⟨rfl, k, v', e2, rfl⟩ := hy
    rw [ev] at e2
    cases e2
    exact ⟨Ext.refl _ _, wo, rep_kW _⟩
end
def iDict (f : Key × W → W) (m : EM) : IM := fun ρ st => (m ρ st).bind fun w st1 => match w with
  | .dic kws => .ok ⟨kws.map f, fun _ => True⟩ st1
  | _ => .no
abbrev iItemsD (m : EM) : IM := iDict (fun kw => .prs [kW kw.1, kw.2]) m
abbrev iValsD (m : EM) : IM := iDict (·.2) m
abbrev iKeysD (m : EM) : IM := iDict (fun kw => kW kw.1) m
section
variable {X : Cx} {Wx : WX} {K : PySem.W.Frag} {tg e : Expr} {te : TE} {m : EM} {apos cpos : Pos}
theorem sem_dictI {f : Key × W → W} {J : Addr → Obj → List (Key × V) → It} (h : SemE K Wx te m) (wk : ∀ {G : Gm} {H : Hp} {d : Addr} {od : Obj} {kvs : List (Key × V)} {kws : List (Key × W)}, Fd G H d od kvs → RepK K G H kws kvs → Walks K G H ⟨kws.map f, fun _ => True⟩ (J d od kvs)) :
    SemI K Wx (fun σ H R => te σ H fun x H1 => ∃ d kvs, x = .ref d ∧ ((∃ o, H1 d = some (.frz o (.dK kvs)) ∧ R (J d o kvs) H1) ∨ (H1 d = some (.dK kvs) ∧ ∀ od, R (J d od kvs) (upd H1 d (.frz od (.dK kvs)))))) (iDict f m) := fun G H ρ σ R w r hp => by
  refine h G H ρ σ _ w r (PostR.bind hp fun x st1 ls1 H1 v _ e1 w1 rv h1 => ?_)
  cases x with
  | dic kws =>
    cases rv with
    | dic hz rk =>
      rename_i d kvs
      obtain ⟨rd, na⟩ := hz
      refine ⟨d, kvs, rfl, ?_⟩
      rcases rd with q | ⟨o, q⟩
      · refine .inr ⟨q, fun od => ?_⟩
        have x2 : Ext (G.to ls1 st1) H1 (G.to ls1 st1) (upd H1 d (.frz od (.dK kvs))) := Ext.lock w1 q na
        exact PostR.ok (G := G.to ls1 st1) (World.lock w1 q na) (h1.mono x2) (wk ⟨upd_same, na⟩ (rk.mono x2))
      · exact .inl ⟨o, q, PostR.ok (G := G.to ls1 st1) w1 h1 (wk ⟨q, na⟩ rk)⟩
  | _ => exact h1.elim
theorem ci_itemsD {elts : List Expr} {kk : Nat} {tpos : Pos} (h : CE X Wx e te m) (hbase : attributeBase e "items" X.env (eval e X.env) = eval e X.env := by rfl) (hline : (apos.endLine == cpos.line) = true := by rfl) :
    CI X Wx (.Tuple elts kk tpos) (.Call (.Attribute e "items" apos) [] [] cpos) (iItemsL te) (iItemsD m) := ⟨pi_itemsL h.pe hbase hline, sem_dictI (J := Iti) h.sem fun fd rk => walks_items fd rk⟩
theorem ci_valsD (h : CE X Wx e te m) (hbase : attributeBase e "values" X.env (eval e X.env) = eval e X.env := by rfl) (hline : (apos.endLine == cpos.line) = true := by rfl) :
    CI X Wx tg (.Call (.Attribute e "values" apos) [] [] cpos) (iValsL te) (iValsD m) := ⟨pi_valsL h.pe hbase hline, sem_dictI (J := Itd) h.sem fun fd rk => walks_vals fd rk⟩
theorem ci_keysD (h : CE X Wx e te m) : CI X Wx tg e (iKeysL te) (iKeysD m) := ⟨pi_keysL h.pe, sem_dictI (J := Itk) h.sem fun fd rk => walks_keys fd rk⟩
end
end Sim
end
section
set_option Elab.async false
set_option linter.all false
set_option maxRecDepth 100000
set_option maxHeartbeats 1000000
open PySem PySem.Spec PyProof.Rows L2
namespace Sim
section
variable {X : Cx} {Wx : WX} {K : PySem.W.Frag}
/-- d[k] = e, d a dict that is changed -/
def putD (x : W) (ρ : Ev) (l k : W) (s : Stt) : RS := match l, toKey k with
  | .loc n, some q => match s[n]? with
    | some (some (.dic us)) => if us.length < 100000 then .nx ρ (s.set n (some (.dic (putW us q x)))) else .no
    | _ => .no
  | _, _ => .no
def sSetD (e o i : EM) : SM := fun ρ st => (e ρ st).toS ρ fun x st1 => (o ρ st1).toS ρ fun l st2 => (i ρ st2).toS ρ fun k st3 => putD x ρ l k st3
theorem cs_setD {e o i : Expr} {te to ti : TE} {me mo mi : EM} {pos p2 : Pos} (hu : X.A.units + 1 < cLine) (he : CE X Wx e te me) (ho : CE X Wx o to mo) (hi : CE X Wx i ti mi) (hs : swapsWithSole [.Subscript o i p2] e pos.line X.env = pure false := by rfl) (hw : swappedStores [.Subscript o i p2] e X.env = pure none := by rfl)
    (h1 : (assignEach [.Subscript o i p2] X.env).map (·.2) = [assign (.Subscript o i p2) X.env] := by rfl)
    (ha : ∀ v, assign (.Subscript o i p2) X.env v = (do
      let ov ← holding [v] (eval o X.env)
      let iv ← holding [v, ov] (eval i X.env)
      standAt p2
      holding [v, ov, iv] (setItem ov iv v)
      release [v, ov, iv] []) := by intro _; rfl) : CS X Wx (.Assign [.Subscript o i p2] e pos) (tAsg te (gSub to ti rSetD)) (sSetD me mo mi) := by
  refine ⟨ps_asg he.pe (pg_sub ho.pe hi.pe (set_dict hu) ha) hs hw h1, fun G H ρ σ D w r h => ?_⟩
  refine he.sem G H ρ σ _ w r (PostS.bind h r fun x st1 ls1 H1 v q1 e1 w1 rv h1 => ?_)
  refine ho.sem (G.to ls1 st1) H1 ρ σ _ w1 (r.mono e1) (PostS.bind h1 (r.mono e1) fun l st2 ls2 H2 u q2 e2 w2 ru h2 => ?_)
  have r2 := r.mono (e1.trans e2)
  refine hi.sem (G.to ls2 st2) H2 ρ σ _ w2 r2 (PostS.bind h2 r2 fun k st3 ls3 H3 z q3 e3 w3 rz h3 => ?_)
  have r3 := r2.mono e3
  clear q1 q2 q3
  unfold putD at h3
  split at h3
  · rename_i n q hq
    split at h3
    · rename_i us hn
      split at h3
      · rename_i hl
        have ru3 := ru.mono e3
        cases ru3 with
        | loc hl2 =>
          rename_i a
          obtain ⟨ts, ht, rt⟩ := w3.at' _ _ _ hl2 hn
          have rx := rv.mono (e2.trans e3)
          have ez := toKey_rep rz hq
          subst ez
          have hsz : ts.length < sizeLine := by rw [← rt.length]; exact Nat.lt_of_lt_of_le hl (by decide)
          have xp : Ext (G.to ls3 st3) H3 ((G.to ls3 st3).put n (.dic (putW us q x))) (upd H3 a (.dK (putK ts q v))) := Ext.put w3 hl2 hn
          exact ⟨a, _, rfl, DPut.k ht hsz, h3 ls3 σ _ xp (w3.put hl2 hn ⟨_, upd_same, (rt.put q rx).mono xp⟩) (r3.mono xp)⟩
      · exact h3.elim
    · exact h3.elim
  · exact h3.elim
/-! worked out -/
variable {ρ : Ev} {st : Stt}
def sdK3 (x l : W) (ρ : Ev) (r : Rs W) : RS := match r with | .ok k s => putD x ρ l k s | .er y s => .er y ρ s | .no => .no
@[simp] theorem sdK3_ok (x l k : W) : sdK3 x l ρ (.ok k st) = putD x ρ l k st := id rfl
def sdK2 (x : W) (i : EM) (ρ : Ev) (r : Rs W) : RS := match r with | .ok l s => sdK3 x l ρ (i ρ s) | .er y s => .er y ρ s | .no => .no
@[simp] theorem sdK2_ok (x l : W) (i : EM) : sdK2 x i ρ (.ok l st) = sdK3 x l ρ (i ρ st) := id rfl
def sdK (o i : EM) (ρ : Ev) (r : Rs W) : RS := match r with | .ok x s => sdK2 x i ρ (o ρ s) | .er y s => .er y ρ s | .no => .no
@[simp] theorem sdK_ok (o i : EM) (x : W) : sdK o i ρ (.ok x st) = sdK2 x i ρ (o ρ st) := id rfl
@[simp] theorem ev_setD (e o i : EM) : sSetD e o i ρ st = sdK o i ρ (e ρ st) := by
  unfold sSetD sdK
  cases e ρ st with
  | ok x s =>
    show (o ρ s).toS ρ _ = sdK2 x i ρ (o ρ s)
    unfold sdK2
    cases o ρ s with
    | ok l s2 => show (i ρ s2).toS ρ _ = sdK3 x l ρ (i ρ s2); unfold sdK3; cases i ρ s2 <;> rfl
    | er y s => rfl
    | no => rfl
  | er y s => rfl
  | no => rfl
theorem putD_ok {x : W} {n : Nat} {k : W} {q : Key} {us : List (Key × W)} (h : st[n]? = some (some (.dic us))) (hq : toKey k = some q) (hl : us.length < 100000) : putD x ρ (.loc n) k st = .nx ρ (st.set n (some (.dic (putW us q x)))) := by
  unfold putD
  rw [hq]
  dsimp only
  rw [h]
  dsimp only
  rw [if_pos hl]
end
end Sim
end
section
set_option Elab.async false
set_option linter.all false
set_option maxRecDepth 100000
set_option maxHeartbeats 2000000
namespace Low
open PySem PySem.Spec PyProof.Rows L2
/-- the least of some texts -/
def minS : List Str → Str
  | [] => ⟨#[]⟩
  | x :: xs => xs.foldl (fun a y => if decide (y.cps.toList < a.cps.toList) = true then y else a) x
theorem minD_strs : ∀ (xs : List Str) (x : Str), PySem.W.minD (.str x) (xs.map .str) = .str (minS (x :: xs))
  | [], x => rfl
  | y :: r, x => by
    have e1 : minS (x :: y :: r) = minS ((if decide (y.cps.toList < x.cps.toList) = true then y else x) :: r) := rfl
    have e2 : PySem.W.minD (.str x) ((y :: r).map PyData.str) = PySem.W.minD (if PySem.W.dataLt (.str y) (.str x) = true then .str y else .str x) (r.map PyData.str) := rfl
    rw [e1, e2, PySem.W.dataLt_str]
    by_cases h : decide (y.cps.toList < x.cps.toList) = true
    · rw [if_pos h, if_pos h]; exact minD_strs r y
    · rw [if_neg h, if_neg h]; exact minD_strs r x
theorem reads_strs {h : Heap} : ∀ {xs : List Str} {us : List Value}, Vals (xs.map V.str) us → ReadsAll h us (xs.map PyData.str) []
  | [], _, .nil => .nil
  | y :: ys, _, .cons r t => by
    obtain ⟨k, rfl⟩ := r
    exact .cons (.str y k) (reads_strs t)
theorem alike_strs (xs : List Str) : PySem.W.AlikeAll (xs.map PyData.str) := by
  refine ⟨fun x hx y hy => ?_, fun x hx => ?_⟩
  · obtain ⟨a, _, rfl⟩ := List.mem_map.mp hx
    obtain ⟨b, _, rfl⟩ := List.mem_map.mp hy
    rw [PySem.W.alike]
  · obtain ⟨a, _, rfl⟩ := List.mem_map.mp hx
    exact fun z => by cases z
theorem depth_strs : ∀ xs : List Str, PyData.depthAll (xs.map PyData.str) = 0
  | [] => by rw [List.map_nil, PyData.depthAll]
  | x :: r => by rw [List.map_cons, PyData.depthAll, PyData.depth, depth_strs r]; rfl
section
variable {X : Cx}
/-- min(xs), a list or tuple of texts -/
def rMinS (K : PySem.W.Frag) : List V → Hp → VK → Prop := fun vs H Q => ∃ (a : Addr) (xs : List Str), vs = [V.ref a] ∧ (SqL K H a (xs.map V.str) ∨ SqT K H a (xs.map V.str)) ∧ xs ≠ [] ∧ Q (.str (minS xs)) H
theorem cr_minS (hc : X.calm = true) (hu : X.A.units + 64 < cLine) : CallR X (.builtin "min") (rMinS X.K) := by
  intro pins s σ H vs us Q I r h
  obtain ⟨a, xs, rfl, hs, hne, q⟩ := h
  rw [Vals.ref1 r]
  obtain ⟨x, xs, rfl⟩ := List.exists_cons_of_ne_nil hne
  rcases hs with hs | hs
  · obtain ⟨its, rv, hl, _⟩ := I.list hs
    refine PySem.W.min_list_data (I.ok.hd hc) hl.isList (x := .str x) (xs := xs.map .str) (as := []) (by simpa using reads_strs rv) (alike_strs (x :: xs)) (by rw [show PyData.str x :: xs.map PyData.str = (x :: xs).map .str from rfl, depth_strs]; omega) fun i v h' tk bs hv hr hk => ?_
    rw [minD_strs] at hr
    cases hr
    exact ⟨.str _, H, I.kept hk, ⟨_, rfl⟩, q⟩
  · obtain ⟨its, rv, hl, _⟩ := I.tuple hs
    refine PySem.W.min_tuple_data (I.ok.hd hc) hl (x := .str x) (xs := xs.map .str) (as := []) (by simpa using reads_strs rv) (alike_strs (x :: xs)) (by rw [show PyData.str x :: xs.map PyData.str = (x :: xs).map .str from rfl, depth_strs]; omega) fun i v h' tk bs hv hr hk => ?_
    rw [minD_strs] at hr
    cases hr
    exact ⟨.str _, H, I.kept hk, ⟨_, rfl⟩, q⟩
end
end Low
end
section
set_option Elab.async false
set_option linter.all false
set_option maxRecDepth 100000
set_option maxHeartbeats 1000000
open PySem PySem.Spec PyProof.Rows L2
namespace Sim
/-! min(x) of texts -/
def fMinT : F1 := fun st ws => match ws with
  | [x] => match (seqOf st x).bind strsOf with
    | some xs => if xs ≠ [] then some (.str (Low.minS xs)) else none
    | none => none
  | _ => none
section
variable {K : PySem.W.Frag} {st : Stt}
theorem fs_minT : FnS K (Low.rMinS K) fMinT := fun G H ws vs w Q wo rl e q => by
  unfold fMinT at e
  split at e
  · split at e
    · rename_i xs en
      split at e
      · rename_i hne
        cases e
        obtain ⟨v, rfl, rx⟩ := rl.one
        obtain ⟨a, rfl, sq⟩ := seq_strs wo rx en
        exact ⟨a, xs, rfl, sq, hne, PostV.val wo q (.str _)⟩
      · cases e
    · cases e
  · cases e
theorem fMinT_tup {xs : List Str} (h : xs ≠ []) : fMinT st [.tup (xs.map .str)] = some (.str (Low.minS xs)) := by
  unfold fMinT
  simp [seqOf, strsOf_map, h]
theorem fMinT_lst {xs : List Str} (h : xs ≠ []) : fMinT st [.lst (xs.map .str)] = some (.str (Low.minS xs)) := by
  unfold fMinT
  simp [seqOf, strsOf_map, h]
theorem fMinT_loc {n : Nat} {xs : List Str} (hn : st[n]? = some (some (.lst (xs.map .str)))) (h : xs ≠ []) : fMinT st [.loc n] = some (.str (Low.minS xs)) := by
  unfold fMinT
  simp [seqOf, hn, strsOf_map, h]
/-- the least -/
theorem minS_mem : ∀ (xs : List Str) (x : Str), Low.minS (x :: xs) ∈ x :: xs
  | [], x => by simp [Low.minS]
  | y :: r, x => by
    have e1 : Low.minS (x :: y :: r) = Low.minS ((if decide (y.cps.toList < x.cps.toList) = true then y else x) :: r) := rfl
    rw [e1]
    by_cases h : decide (y.cps.toList < x.cps.toList) = true
    · rw [if_pos h]
      exact List.mem_cons_of_mem _ (minS_mem r y)
    · rw [if_neg h]
      rcases List.mem_cons.mp (minS_mem r x) with z | z
      · rw [z]; exact List.mem_cons_self
      · exact List.mem_cons_of_mem _ (List.mem_cons_of_mem _ z)
theorem minS_le : ∀ (xs : List Str) (x : Str), ∀ y ∈ x :: xs, leS (Low.minS (x :: xs)) y = true
  | [], x, y, hy => by
    rw [List.mem_singleton.mp hy]
    exact leS_iff.mpr (List.le_refl _)
  | z :: r, x, y, hy => by
    have e : Low.minS (x :: z :: r) = Low.minS ((if decide (z.cps.toList < x.cps.toList) = true then z else x) :: r) := rfl
    rw [e]
    have ih := minS_le r (if decide (z.cps.toList < x.cps.toList) = true then z else x)
    by_cases h : decide (z.cps.toList < x.cps.toList) = true
    · rw [if_pos h] at ih ⊢
      rcases List.mem_cons.mp hy with k | k
      · rw [k]
        refine leS_trans _ _ _ (ih z List.mem_cons_self) ?_
        exact leS_iff.mpr (List.le_of_lt (of_decide_eq_true h))
      · exact ih y k
    · rw [if_neg h] at ih ⊢
      rcases List.mem_cons.mp hy with k | k
      · exact ih y (by rw [k]; exact List.mem_cons_self)
      · rcases List.mem_cons.mp k with k | k
        · rw [k]
          refine leS_trans _ _ _ (ih x List.mem_cons_self) ?_
          rw [leS_iff]
          exact List.not_lt.mp (fun q => h (decide_eq_true q))
        · exact ih y (List.mem_cons_of_mem _ k)
theorem minS_eq {xs : List Str} {m : Str} (h : m ∈ xs) (k : ∀ y ∈ xs, leS m y = true) : Low.minS xs = m := by
  obtain ⟨x, r, rfl⟩ : ∃ x r, xs = x :: r := by
    cases xs with
    | nil => exact absurd h List.not_mem_nil
    | cons x r => exact ⟨x, r, rfl⟩
  exact leS_antisymm (minS_le r x m h) (k _ (minS_mem r x))
theorem minS_perm {xs ys : List Str} (p : xs.Perm ys) : Low.minS xs = Low.minS ys := by
  cases xs with
  | nil => rw [p.nil_eq]
  | cons x r =>
    cases ys with
    | nil => cases p.symm.nil_eq
    | cons y q => exact minS_eq (p.mem_iff.mpr (minS_mem q y)) fun z hz => minS_le q y z (p.mem_iff.mp hz)
end
end Sim
end
section
set_option Elab.async false
set_option linter.all false
set_option maxRecDepth 100000
set_option maxHeartbeats 2000000
open PySem PySem.Spec PyProof.Rows L2
namespace Sim
/-! list comprehensions with two fors -/
open Classical in
noncomputable def lcW2 (ok : Stt → Prop) (g : GM) (c : TM) (im1 : IM) (g1 : GM) (c1 : TM) (m : EM) (vs1 : List Nat) (ρ : Ev) : List W → Stt → Rs (List W)
  | [], st => if ok st then .ok [] st else .no
  | w :: ws, st => if ok st then (match g st w ρ with
      | none => .no
      | some ρ1 => (c ρ1 st).cb fun b st1 => if b = true then (im1 ρ1 st1).cb fun src st2 => (lcW src.ok g1 c1 m (wipeE ρ1 vs1) src.items st2).cb fun ys st3 => (lcW2 ok g c im1 g1 c1 m vs1 ρ ws st3).cb fun zs st4 => .ok (ys ++ zs) st4
        else lcW2 ok g c im1 g1 c1 m vs1 ρ ws st1) else .no
noncomputable def eLc2 (im : IM) (g : GM) (c : TM) (im1 : IM) (g1 : GM) (c1 : TM) (m : EM) (vs vs1 : List Nat) : EM := fun ρ st => (im ρ st).bind fun src st1 => (lcW2 src.ok g c im1 g1 c1 m vs1 (wipeE ρ vs) src.items st1).cb fun ys st2 => if ys.length ≤ 100000 then .ok (.lst ys) st2 else .no
section
variable {K : PySem.W.Frag} {Wx : WX} {G1 : Gm} {H1 : Hp} {D : Addr}
theorem RepL.len {G : Gm} {H : Hp} : ∀ {ws : List W} {vs : List V}, RepL K G H ws vs → vs.length = ws.length
  | _, _, .nil => rfl
  | _, _, .cons _ r => by rw [List.length_cons, List.length_cons, r.len]
/-- the new list D, hidden, holds what is made so far -/
structure Mk1 (K : PySem.W.Frag) (G1 : Gm) (H1 : Hp) (D : Addr) (ls : List Addr) (st : Stt) (aw : List W) (av : List V) (H : Hp) : Prop where
  x : Ext G1 H1 (G1.to ls st) H
  w : World K ((G1.to ls st).hide D) H
  hD : H D = some (.lst av)
  rl : RepL K ((G1.to ls st).hide D) H aw av
  le : Less G1 H1 ((G1.to ls st).hide D) H
theorem less_tr {G G2 G3 : Gm} {H H2 H3 : Hp} (a : Less G H G2 H2) (b : Less G2 H2 G3 H3) : Less G H G3 H3 :=
  ⟨fun i p e => b.ls i p (a.ls i p e), fun p u h => b.fz p u (a.fz p u h), fun p u h => b.fx p u (a.fx p u h), fun p u h => b.fe p u (a.fe p u h), fun p o u h => b.fd p o u (a.fd p o u h)⟩
theorem Mk1.step {ls ls' : List Addr} {st st' : Stt} {aw : List W} {av : List V} {H H' : Hp} (w1 : World K G1 H1) (hn : H1 D = none) (k : Mk1 K G1 H1 D ls st aw av H) (y : Ext ((G1.to ls st).hide D) H ((G1.to ls' st').hide D) H') (w' : World K ((G1.to ls' st').hide D) H') : Mk1 K G1 H1 D ls' st' aw av H' := by
  have hD' : H' D = some (.lst av) := (y.hidk D List.mem_cons_self).trans k.hD
  refine ⟨?_, w', hD', k.rl.mono y, less_tr k.le y.less⟩
  have q := Ext.under (o := .lst av) w1 hn k.x y
  have : upd H' D (.lst av) = H' := by
    funext b
    by_cases e : b = D
    · subst e; rw [upd_same]; exact hD'.symm
    · rw [upd_ne e]
  rwa [this] at q
theorem Mk1.push {ls : List Addr} {st : Stt} {aw : List W} {av : List V} {H : Hp} {y : W} {v : V} (w1 : World K G1 H1) (hn : H1 D = none) (k : Mk1 K G1 H1 D ls st aw av H) (r : RepV K ((G1.to ls st).hide D) H y v) : Mk1 K G1 H1 D ls st (aw ++ [y]) (av ++ [v]) (upd H D (.lst (av ++ [v]))) := by
  have l2 := less_hidupd (G := (G1.to ls st).hide D) (H := H) (o := .lst (av ++ [v])) List.mem_cons_self
  exact ⟨Ext.under w1 hn k.x (Ext.refl _ _), k.w.hidupd List.mem_cons_self, upd_same, (RepL.app k.rl (.cons r .nil)).less l2, less_tr k.le l2⟩
theorem lc2_loop {J : It} {src : Src} {g g1 : TG} {gm gm1 : GM} {is vs is1 vs1 : List Nat} {tt tt1 : TT} {c c1 : TM} {wi1 : TI} {im1 : IM} {te : TE} {m : EM} {ρ : Ev} {σ : L2.St} {Q : VK} (w1 : World K G1 H1) (re : RepE K G1 H1 ρ σ) (wk : Walks K G1 H1 src J) (hg : SemG K g gm is) (hs : ∀ i ∈ is, i ∈ vs)
    (ht : SemT K W0 tt c) (hi1 : SemI K W0 wi1 im1) (hg1 : SemG K g1 gm1 is1) (hs1 : ∀ i ∈ is1, i ∈ vs1) (ht1 : SemT K W0 tt1 c1) (he : SemE K W0 te m) (hD : H1 D = none) {ysF : List W} {stF : Stt} (hok : lcW2 src.ok gm c im1 gm1 c1 m vs1 (wipeE ρ vs) src.items G1.st = .ok ysF stF) (hlen : ysF.length ≤ 100000)
    (fin : ∀ (ls' : List Addr) (H' : Hp) (av : List V), Mk1 K G1 H1 D ls' stF ysF av H' → Q (.ref D) H') :
    ∃ W : Nat → Nat → Hp → Prop, (∃ m, W 0 m (upd H1 D (.lst []))) ∧ ∀ i m H, W i m H → (J.stop i H ∧ Q (.ref D) H) ∨ (J.go i H ∧ ∃ Nx : Hp → Prop, (∀ H', Nx H' → ∃ m', m' < m ∧ W (i + 1) m' H') ∧ ∀ x H', J.yld i H x H' → g x (L2.wipe σ vs) H' fun σ2 H2 => L2.wipe σ2 vs = L2.wipe σ vs ∧ tt σ2 H2 fun b H3 =>
      if b = true then wi1 σ2 H3 fun J1 H4 => ∃ W1 : Nat → Nat → Hp → Prop, (∃ m, W1 0 m H4) ∧ ∀ j k H, W1 j k H →
        (J1.stop j H ∧ Nx H) ∨ (J1.go j H ∧ ∃ Nx1 : Hp → Prop, (∀ H', Nx1 H' → ∃ k', k' < k ∧ W1 (j + 1) k' H') ∧ ∀ x H', J1.yld j H x H' → g1 x (L2.wipe σ2 vs1) H' fun σ3 H5 => L2.wipe σ3 vs1 = L2.wipe σ2 vs1 ∧ tt1 σ3 H5 fun b H6 =>
          if b = true then te σ3 H6 fun y H7 => ∃ acc, H7 D = some (.lst acc) ∧ acc.length < sizeLine ∧ Nx1 (upd H7 D (.lst (acc ++ [y]))) else Nx1 H6)
      else Nx H3) := by
  let Iv : Nat → Hp → Prop := fun i H => i ≤ src.items.length ∧ ∃ (ls : List Addr) (st : Stt) (aw : List W) (av : List V) (ys : List W), Mk1 K G1 H1 D ls st aw av H ∧ lcW2 src.ok gm c im1 gm1 c1 m vs1 (wipeE ρ vs) (src.items.drop i) st = .ok ys stF ∧ aw ++ ys = ysF
  refine ⟨fun i m H => m = src.items.length - i ∧ Iv i H, ⟨_, rfl, Nat.zero_le _, G1.ls, G1.st, [], [], ysF, ⟨Ext.new w1 hD, w1.hide hD, upd_same, .nil, less_hide w1 hD⟩, hok, rfl⟩, ?_⟩
  rintro i mm H ⟨rfl, hle, ls, st, aw, av, ys, k, hc, hys⟩
  by_cases hlt : i < src.items.length
  · rw [List.drop_eq_getElem_cons hlt, lcW2] at hc
    split at hc
    · rename_i hokst
      obtain ⟨hgo, hy⟩ := (wk _ H k.le k.w hokst i).1 _ (List.getElem?_eq_getElem hlt)
      refine .inr ⟨hgo, Iv (i + 1), fun H' hN => ⟨_, by omega, rfl, hN⟩, fun xv H2 hx => ?_⟩
      obtain ⟨x2, w2, rx⟩ := hy xv H2 hx
      cases eg : gm st src.items[i] (wipeE ρ vs) with
      | none => rw [eg] at hc; cases hc
      | some ρ1 =>
        rw [eg] at hc
        dsimp only at hc
        have re2 : RepE K ((G1.to ls st).hide D) H2 (wipeE ρ vs) (L2.wipe σ vs) := ((re.less k.le).less x2.less).wipe vs
        refine hg _ H2 _ _ _ xv ρ1 _ w2 re2 rx eg fun σ2 hl2 hj2 re3 => ⟨by rw [wipe_same hl2 hj2 hs, wipe_wipe], ?_⟩
        obtain ⟨b, st3, hb, hc⟩ := Rs.cb_eq hc
        refine ht _ H2 ρ1 σ2 _ w2 re3 ?_
        rw [show ((G1.to ls st).hide D).st = st from rfl, hb]
        intro ls3 H3 b' x3 w3 eb
        subst eb
        have k3 : Mk1 K G1 H1 D ls3 st3 aw av H3 := k.step w1 hD (x2.trans x3) w3
        cases b with
        | false =>
          rw [if_neg Bool.false_ne_true] at hc ⊢
          exact ⟨hlt, ls3, st3, aw, av, ys, k3, hc, hys⟩
        | true =>
          rw [if_pos rfl] at hc ⊢
          obtain ⟨src1, st4, hm, hc⟩ := Rs.cb_eq hc
          obtain ⟨ys1, st5, hl5, hc⟩ := Rs.cb_eq hc
          obtain ⟨zs, st6, hr, hc⟩ := Rs.cb_eq hc
          cases hc
          refine hi1 (((G1.to ls st).hide D).to ls3 st3) H3 ρ1 σ2 _ w3 (re3.mono x3) ?_
          rw [show (((G1.to ls st).hide D).to ls3 st3).st = st3 from rfl, hm]
          intro ls4 H4 J1 x4 w4 wk1
          have k4 : Mk1 K G1 H1 D ls4 st4 aw av H4 := k3.step w1 hD x4 w4
          have re4 : RepE K ((G1.to ls4 st4).hide D) H4 ρ1 σ2 := (re3.mono x3).mono x4
          refine ⟨fun j q H => q = src1.items.length - j ∧ j ≤ src1.items.length ∧ ∃ (ls' : List Addr) (st' : Stt) (aw' : List W) (av' : List V) (ys' : List W), Mk1 K G1 H1 D ls' st' aw' av' H ∧ Less ((G1.to ls4 st4).hide D) H4 ((G1.to ls' st').hide D) H ∧ lcW src1.ok gm1 c1 m (wipeE ρ1 vs1) (src1.items.drop j) st' = .ok ys' st5 ∧ aw' ++ (ys' ++ zs) = ysF,
            ⟨_, rfl, Nat.zero_le _, ls4, st4, aw, av, ys1, k4, Ext.less (Ext.refl _ _), hl5, hys⟩, ?_⟩
          rintro j q H ⟨rfl, hjle, ls', st', aw', av', ys', k', le', hc', hys'⟩
          by_cases hjt : j < src1.items.length
          · rw [List.drop_eq_getElem_cons hjt, lcW] at hc'
            split at hc'
            · rename_i hokst'
              obtain ⟨hgo', hy'⟩ := (wk1 _ H le' k'.w hokst' j).1 _ (List.getElem?_eq_getElem hjt)
              refine .inr ⟨hgo', fun H'' => j + 1 ≤ src1.items.length ∧ ∃ (ls' : List Addr) (st' : Stt) (aw' : List W) (av' : List V) (ys' : List W), Mk1 K G1 H1 D ls' st' aw' av' H'' ∧ Less ((G1.to ls4 st4).hide D) H4 ((G1.to ls' st').hide D) H'' ∧ lcW src1.ok gm1 c1 m (wipeE ρ1 vs1) (src1.items.drop (j + 1)) st' = .ok ys' st5 ∧ aw' ++ (ys' ++ zs) = ysF,
                fun H'' hN => ⟨_, by omega, rfl, hN⟩, fun xv' H5 hx' => ?_⟩
              obtain ⟨x5, w5, rx5⟩ := hy' xv' H5 hx'
              cases eg1 : gm1 st' src1.items[j] (wipeE ρ1 vs1) with
              | none => rw [eg1] at hc'; cases hc'
              | some ρ2 =>
                rw [eg1] at hc'
                dsimp only at hc'
                have re5 : RepE K ((G1.to ls' st').hide D) H5 (wipeE ρ1 vs1) (L2.wipe σ2 vs1) := ((re4.less le').less x5.less).wipe vs1
                refine hg1 _ H5 _ _ _ xv' ρ2 _ w5 re5 rx5 eg1 fun σ3 hl3 hj3 re6 => ⟨by rw [wipe_same hl3 hj3 hs1, wipe_wipe], ?_⟩
                obtain ⟨b1, st7, hb1, hc'⟩ := Rs.cb_eq hc'
                refine ht1 _ H5 ρ2 σ3 _ w5 re6 ?_
                rw [show ((G1.to ls' st').hide D).st = st' from rfl, hb1]
                intro ls7 H7 b2 x7 w7 eb1
                subst eb1
                have k7 : Mk1 K G1 H1 D ls7 st7 aw' av' H7 := k'.step w1 hD (x5.trans x7) w7
                have le7 : Less ((G1.to ls4 st4).hide D) H4 ((G1.to ls7 st7).hide D) H7 := less_tr le' (x5.trans x7).less
                cases b1 with
                | false =>
                  rw [if_neg Bool.false_ne_true] at hc' ⊢
                  exact ⟨hjt, ls7, st7, aw', av', ys', k7, le7, hc', hys'⟩
                | true =>
                  rw [if_pos rfl] at hc' ⊢
                  obtain ⟨y, st8, hm8, hc'⟩ := Rs.cb_eq hc'
                  obtain ⟨ys2, st9, hr9, hc'⟩ := Rs.cb_eq hc'
                  cases hc'
                  refine he (((G1.to ls' st').hide D).to ls7 st7) H7 ρ2 σ3 _ w7 (re6.mono x7) ?_
                  rw [show (((G1.to ls' st').hide D).to ls7 st7).st = st7 from rfl, hm8]
                  intro ls8 H8 yv x8 w8 ry
                  have k8 : Mk1 K G1 H1 D ls8 st8 aw' av' H8 := k7.step w1 hD x8 w8
                  have lav : av'.length = aw'.length := k8.rl.len
                  have lt : av'.length < sizeLine := by
                    rw [← hys'] at hlen
                    simp only [List.length_append, List.length_cons] at hlen
                    exact Nat.lt_of_lt_of_le (by omega : av'.length < 100000) (by decide)
                  refine ⟨av', k8.hD, lt, hjt, ls8, st8, aw' ++ [y], av' ++ [yv], ys2, k8.push w1 hD ry, less_tr le7 (less_tr x8.less (less_hidupd List.mem_cons_self)), hr9, ?_⟩
                  rw [← hys']; simp
            · cases hc'
          · have ej : j = src1.items.length := by omega
            subst ej
            rw [List.drop_length, lcW] at hc'
            split at hc'
            · rename_i hokst'
              cases hc'
              exact .inl ⟨(wk1 _ H le' k'.w hokst' _).2 (Nat.le_refl _), hlt, _, _, _, _, _, k', hr, hys'⟩
            · cases hc'
    · cases hc
  · have ei : i = src.items.length := by omega
    subst ei
    rw [List.drop_length, lcW2] at hc
    split at hc
    · rename_i hokst
      cases hc
      rw [List.append_nil] at hys
      subst hys
      exact .inl ⟨(wk _ H k.le k.w hokst _).2 (Nat.le_refl _), fin ls H av k⟩
    · cases hc
theorem sem_lc2 {wi wi1 : TI} {g g1 : TG} {gm gm1 : GM} {is vs is1 vs1 : List Nat} {tt tt1 : TT} {c c1 : TM} {te : TE} {m : EM} {im im1 : IM} (hi : SemI K Wx wi im) (hg : SemG K g gm is) (hs : ∀ i ∈ is, i ∈ vs) (ht : SemT K W0 tt c) (hi1 : SemI K W0 wi1 im1) (hg1 : SemG K g1 gm1 is1) (hs1 : ∀ i ∈ is1, i ∈ vs1) (ht1 : SemT K W0 tt1 c1) (he : SemE K W0 te m) :
    SemE K Wx (tLc2 wi g tt wi1 g1 tt1 te vs vs1) (eLc2 im gm c im1 gm1 c1 m vs vs1) := fun G H ρ σ Q w r h => by
  refine hi G H ρ σ _ w r (PostR.bind h fun src st1 ls1 H1 J _ e1 w1 wk h1 => ?_)
  intro D hD
  cases hr : lcW2 src.ok gm c im1 gm1 c1 m vs1 (wipeE ρ vs) src.items st1 with
  | ok ys st2 =>
    rw [hr] at h1
    rw [Rs.cb_ok] at h1
    split at h1
    · rename_i hlen
      refine lc2_loop w1 (r.mono e1) wk hg hs ht hi1 hg1 hs1 ht1 he hD hr hlen (fun ls' H' av k => ?_)
      exact h1 ls' H' (.ref D) k.x k.w.unhide (.lst ⟨k.hD, hidden_nal w1 hD k.x k.w⟩ (k.rl.less less_unhide))
    · exact h1.elim
  | er x st2 => rw [hr] at h1; exact h1.elim
  | no => rw [hr] at h1; exact h1.elim
variable {X : Cx}
theorem ce_lc2 {elt tg iter tg1 iter1 : Expr} {ifs ifs1 : List Expr} {scope : Scope} {own : List (Str × Nat)} {vs1 : List Nat} {pos : Pos} {wi wi1 : TI} {g g1 : TG} {tt tt1 : TT} {te : TE} {im im1 : IM} {gm gm1 : GM} {is is1 : List Nat} {c c1 : TM} {m : EM} (hc : X.calm = true) (hN : X.N.Nodup) (hi : CI X Wx tg iter wi im) (ok : BlkOk X.N X.env.scope scope own)
    (hg : Blk X scope fun Y => CG Y tg g gm is) (ht : Blk X scope fun Y => CTs Y W0 ifs tt c) (hi1 : Blk X scope fun Y => CI Y W0 tg1 iter1 wi1 im1) (hg1 : Blk X scope fun Y => CG Y tg1 g1 gm1 is1) (ht1 : Blk X scope fun Y => CTs Y W0 ifs1 tt1 c1) (he : Blk X scope fun Y => CE Y W0 elt te m)
    (hsub : ∀ i ∈ is, i ∈ own.map (·.2) := by decide) (hsub1 : ∀ i ∈ is1, i ∈ vs1 := by decide) (hv : ∀ i ∈ vs1, i ∈ own.map (·.2) := by decide) (hs : ∀ x, foldedSetIterable iter X.env x = pure x := by intro _; rfl) (hs1 : ∀ env x, foldedSetIterable iter1 env x = pure x := by intro _ _; rfl) :
    CE X Wx (.ListComp elt [⟨tg, iter, ifs, 0⟩, ⟨tg1, iter1, ifs1, 0⟩] scope pos) (tLc2 wi g tt wi1 g1 tt1 te (own.map (·.2)) vs1) (eLc2 im gm c im1 gm1 c1 m (own.map (·.2)) vs1) :=
  ⟨pe_lc2 hc hN hi.pe ok hv (fun s H C cl fp => (hg s H C cl fp).pe) (fun s H C cl fp => (ht s H C cl fp).pe) (fun s H C cl fp => (hi1 s H C cl fp).pe) (fun s H C cl fp => (hg1 s H C cl fp).pe) (fun s H C cl fp => (ht1 s H C cl fp).pe) (fun s H C cl fp => (he s H C cl fp).pe) hs hs1,
    sem_lc2 hi.sem (hg {} (fun _ => none) 0 [] []).sem hsub (ht {} (fun _ => none) 0 [] []).sem (hi1 {} (fun _ => none) 0 [] []).sem (hg1 {} (fun _ => none) 0 [] []).sem hsub1 (ht1 {} (fun _ => none) 0 [] []).sem (he {} (fun _ => none) 0 [] []).sem⟩
theorem cs_setLc2 {i : Nat} {y : Str} {py : Pos} {elt tg iter tg1 iter1 : Expr} {ifs ifs1 : List Expr} {scope : Scope} {own : List (Str × Nat)} {vs1 : List Nat} {pos spos : Pos} {wi wi1 : TI} {g g1 : TG} {tt tt1 : TT} {te : TE} {im im1 : IM} {gm gm1 : GM} {is is1 : List Nat} {c c1 : TM} {m : EM} (hc : X.calm = true) (hN : X.N.Nodup) (hy : X.N[i]? = some y) (hyl : X.env.scope.names.lookup y = some .local)
    (hsw : swapsWith (.ListComp elt [⟨tg, iter, ifs, 0⟩, ⟨tg1, iter1, ifs1, 0⟩] scope pos) (some (.Name y py)) spos.line X.env = pure true) (hi : CI X Wx tg iter wi im) (ok : BlkOk X.N X.env.scope scope own)
    (hg : Blk X scope fun Y => CG Y tg g gm is) (ht : Blk X scope fun Y => CTs Y W0 ifs tt c) (hi1 : Blk X scope fun Y => CI Y W0 tg1 iter1 wi1 im1) (hg1 : Blk X scope fun Y => CG Y tg1 g1 gm1 is1) (ht1 : Blk X scope fun Y => CTs Y W0 ifs1 tt1 c1) (he : Blk X scope fun Y => CE Y W0 elt te m)
    (hsub : ∀ i ∈ is, i ∈ own.map (·.2) := by decide) (hsub1 : ∀ i ∈ is1, i ∈ vs1 := by decide) (hv : ∀ i ∈ vs1, i ∈ own.map (·.2) := by decide) (hs : ∀ x, foldedSetIterable iter X.env x = pure x := by intro _; rfl) (hs1 : ∀ env x, foldedSetIterable iter1 env x = pure x := by intro _ _; rfl) :
    CS X Wx (.Assign [.Name y py] (.ListComp elt [⟨tg, iter, ifs, 0⟩, ⟨tg1, iter1, ifs1, 0⟩] scope pos) spos) (tAsg (tLc2 wi g tt wi1 g1 tt1 te (own.map (·.2)) vs1) (gName i)) (sAsg (eLc2 im gm c im1 gm1 c1 m (own.map (·.2)) vs1) (gmName i)) :=
  ⟨ps_setLc2 hc hN hy hyl hsw hi.pe ok hv (fun s H C cl fp => (hg s H C cl fp).pe) (fun s H C cl fp => (ht s H C cl fp).pe) (fun s H C cl fp => (hi1 s H C cl fp).pe) (fun s H C cl fp => (hg1 s H C cl fp).pe) (fun s H C cl fp => (ht1 s H C cl fp).pe) (fun s H C cl fp => (he s H C cl fp).pe) hs hs1,
    sem_asg (sem_lc2 hi.sem (hg {} (fun _ => none) 0 [] []).sem hsub (ht {} (fun _ => none) 0 [] []).sem (hi1 {} (fun _ => none) 0 [] []).sem (hg1 {} (fun _ => none) 0 [] []).sem hsub1 (ht1 {} (fun _ => none) 0 [] []).sem (he {} (fun _ => none) 0 [] []).sem) (sem_gname i)⟩
end
end Sim
end
section
set_option Elab.async false
set_option linter.all false
set_option maxRecDepth 100000
set_option maxHeartbeats 4000000
namespace Low
open PySem PySem.Spec PyProof.Rows L2
/-! dict comprehensions with two fors -/
section
variable {kx vx a0 b0 a1 b1 : Expr} {f0 f1 : List Expr} {sc : Scope} {ps : Pos}
abbrev dc2 (kx vx a0 b0 a1 b1 : Expr) (f0 f1 : List Expr) (sc : Scope) (ps : Pos) : Expr := .DictComp kx vx [⟨a0, b0, f0, 0⟩, ⟨a1, b1, f1, 0⟩] sc ps
abbrev tests (fs : List Expr) (env : Env) : Sem Bool := forIn fs true fun c r => if r = true then do let ok ← isTrue c env (eval c env); pure (ForInStep.yield ok) else pure (ForInStep.yield r)
theorem turn0_eq (it acc : Value) (env : Env) : compTurn (dc2 kx vx a0 b0 a1 b1 f0 f1 sc ps) 0 it acc env = (do
    standAt b0.pos
    match ← pyNext it with
    | none => pure (.done .next)
    | some u =>
      letOwnedTupleGo a0 it u
      assign a0 env u
      let ok ← tests f0 env
      if ok then
        let y ← eval b1 env
        standAt b1.pos
        let y ← foldedSetIterable b1 env y
        let _ ← runOwn (.compStart (dc2 kx vx a0 b0 a1 b1 f0 f1 sc ps) 1 (← holding [y] (pyIter y)) acc env) env
      again (.compLoop (dc2 kx vx a0 b0 a1 b1 f0 f1 sc ps) 0 it acc env)) := by rfl
theorem turn1_eq (it : Value) (D : Addr) (env : Env) : compTurn (dc2 kx vx a0 b0 a1 b1 f0 f1 sc ps) 1 it (.ref D) env = (do
    standAt b1.pos
    match ← pyNext it with
    | none => pure (.done .next)
    | some u =>
      letOwnedTupleGo a1 it u
      assign a1 env u
      let ok ← tests f1 env
      if ok then
        (do let kv ← eval kx env
            let vv ← holding [kv] (eval vx env)
            standAt { kx.pos with endLine := vx.pos.endLine, endCol := vx.pos.endCol }
            holding [kv, vv] (dictSet D kv vv))
      again (.compLoop (dc2 kx vx a0 b0 a1 b1 f0 f1 sc ps) 1 it (.ref D) env)) := by rfl
variable {prog : Program} {w : World} {A : Around} {R : Result → Shared → Prop} {s : Shared} {it acc : Value} {D : Addr} {env : Env}
/-- what is noted where an exception leaves -/
abbrev out (prog : Program) (w : World) (A : Around) (env : Env) (R : Result → Shared → Prop) : Value → Shared → Prop := notedBy (model prog w) A env fun e s' => R (.error e) s'
theorem loop0 (hs : ∀ x, foldedSetIterable b1 env x = pure x) (J : Nat → Shared → Prop)
    (step : ∀ n s, J n s → wpAny (model prog w) A (pyNext it) (fun r s1 => match r with
      | none => R (.ok .next) s1
      | some u => wpAny (model prog w) A (letOwnedTupleGo a0 it u) (fun _ s2 => wpAny (model prog w) A (assign a0 env u) (fun _ s3 => wpAny (model prog w) A (tests f0 env) (fun ok s4 =>
          if ok = true then wpAny (model prog w) A (eval b1 env) (fun y s5 => wpAny (model prog w) A (pyIter y) (fun it1 s6 =>
            codeAny (model prog w) A (.compStart (dc2 kx vx a0 b0 a1 b1 f0 f1 sc ps) 1 it1 acc env) (fun r s' => match r with
              | .ok _ => ∃ m, m < n ∧ J m s'
              | .error _ => False) s6) (out prog w A env R) s5) (out prog w A env R) s4
          else ∃ m, m < n ∧ J m s4) (out prog w A env R) s3) (out prog w A env R) s2) (out prog w A env R) s1) (out prog w A env R) s)
    (n : Nat) (h : J n s) : codeAny (model prog w) A (.compLoop (dc2 kx vx a0 b0 a1 b1 f0 f1 sc ps) 0 it acc env) R s := by
  refine codeAny_loop rfl J (fun n s hJ => ?_) n h
  show wpAny _ A ((compTurn (dc2 kx vx a0 b0 a1 b1 f0 f1 sc ps) 0 it acc env).onRaise fun x => do noteFrame x env; theTreesLotGoes x) _ _ s
  refine wpAny_noted ?_
  rw [turn0_eq]
  refine wpAny_bind (wpAny_standAt (wpAny_bind (wpAny_mono (step n s hJ) (fun r s1 k1 => ?_) fun _ _ z => z)))
  match r, k1 with
  | none, k1 => exact wpAny_pure k1
  | some u, k1 =>
    refine wpAny_bind (wpAny_mono k1 (fun _ s2 k2 => ?_) fun _ _ z => z)
    refine wpAny_bind (wpAny_mono k2 (fun _ s3 k3 => ?_) fun _ _ z => z)
    refine wpAny_bind (wpAny_mono k3 (fun ok s4 k4 => ?_) fun _ _ z => z)
    match ok, k4 with
    | false, k4 => exact wpAny_pure ⟨rfl, k4⟩
    | true, k4 =>
      refine wpAny_bind (wpAny_mono k4 (fun y s5 k5 => ?_) fun _ _ z => z)
      refine wpAny_bind (wpAny_standAt ?_)
      refine wpAny_bind (wpAny_of_eq (hs y) ?_)
      refine wpAny_bind (wpAny_holding (wpAny_mono k5 (fun it1 s6 k6 => ?_) fun _ _ z => z))
      refine wpAny_bind (wpAny_runOwn ?_)
      rw [Around.mark_none]
      refine codeAny_mono k6 fun r s' kr => ?_
      match r, kr with
      | .ok _, kr => first
          | exact wpAny_pure ⟨rfl, kr⟩
          | exact wpAny_bind (wpAny_pure (wpAny_pure ⟨rfl, kr⟩))
      | .error _, kr => exact kr.elim
theorem loop1 (J : Nat → Shared → Prop)
    (step : ∀ n s, J n s → wpAny (model prog w) A (pyNext it) (fun r s1 => match r with
      | none => R (.ok .next) s1
      | some u => wpAny (model prog w) A (letOwnedTupleGo a1 it u) (fun _ s2 => wpAny (model prog w) A (assign a1 env u) (fun _ s3 => wpAny (model prog w) A (tests f1 env) (fun ok s4 =>
          if ok = true then wpAny (model prog w) A (eval kx env) (fun kv s5 => wpAny (model prog w) A (eval vx env) (fun vv s6 =>
            wpAny (model prog w) A (dictSet D kv vv) (fun _ s7 => ∃ m, m < n ∧ J m s7) (out prog w A env R) s6) (out prog w A env R) s5) (out prog w A env R) s4
          else ∃ m, m < n ∧ J m s4) (out prog w A env R) s3) (out prog w A env R) s2) (out prog w A env R) s1) (out prog w A env R) s)
    (n : Nat) (h : J n s) : codeAny (model prog w) A (.compLoop (dc2 kx vx a0 b0 a1 b1 f0 f1 sc ps) 1 it (.ref D) env) R s := by
  refine codeAny_loop rfl J (fun n s hJ => ?_) n h
  show wpAny _ A ((compTurn (dc2 kx vx a0 b0 a1 b1 f0 f1 sc ps) 1 it (.ref D) env).onRaise fun x => do noteFrame x env; theTreesLotGoes x) _ _ s
  refine wpAny_noted ?_
  rw [turn1_eq]
  refine wpAny_bind (wpAny_standAt (wpAny_bind (wpAny_mono (step n s hJ) (fun r s1 k1 => ?_) fun _ _ z => z)))
  match r, k1 with
  | none, k1 => exact wpAny_pure k1
  | some u, k1 =>
    refine wpAny_bind (wpAny_mono k1 (fun _ s2 k2 => ?_) fun _ _ z => z)
    refine wpAny_bind (wpAny_mono k2 (fun _ s3 k3 => ?_) fun _ _ z => z)
    refine wpAny_bind (wpAny_mono k3 (fun ok s4 k4 => ?_) fun _ _ z => z)
    match ok, k4 with
    | false, k4 => exact wpAny_pure ⟨rfl, k4⟩
    | true, k4 =>
      refine wpAny_bind (wpAny_bind (wpAny_mono k4 (fun kv s5 k5 => ?_) fun _ _ z => z))
      refine wpAny_bind (wpAny_holding (wpAny_mono k5 (fun vv s6 k6 => ?_) fun _ _ z => z))
      refine wpAny_bind (wpAny_standAt (wpAny_holding (wpAny_mono k6 (fun _ s7 k7 => ?_) fun _ _ z => z)))
      exact wpAny_pure ⟨rfl, k7⟩
/-- the inner loop's start -/
theorem start1 (h0 : codeAny (model prog w) A (.compLoop (dc2 kx vx a0 b0 a1 b1 f0 f1 sc ps) 1 it acc env) R s)
    (h : wpAny (model prog w) A (pyIter it) (fun it' s' => codeAny (model prog w) A (.compLoop (dc2 kx vx a0 b0 a1 b1 f0 f1 sc ps) 1 it' acc env) R s') (out prog w A env R) s) :
    codeAny (model prog w) A (.compStart (dc2 kx vx a0 b0 a1 b1 f0 f1 sc ps) 1 it acc env) R s := by
  refine codeAny_of_tree ?_
  show wpAny _ _ ((compStart (dc2 kx vx a0 b0 a1 b1 f0 f1 sc ps) 1 it acc env).onRaise fun x => do noteFrame x env; standAt theWindowsPlace) _ _ s
  refine wpAny_notedAt ?_
  unfold compStart
  show wpAny _ _ (ask >>= _) _ _ s
  refine wpAny_bind (wpAny_askSetting (wpAny_ite ?_))
  split
  · first
      | exact wpAny_pure ⟨rfl, h0⟩
      | exact wpAny_bind (wpAny_pure (wpAny_pure ⟨rfl, h0⟩))
  · refine wpAny_bind (wpAny_rule ?_)
    first
      | exact wpAny_bind (wpAny_standAt (wpAny_bind (wpAny_mono h (fun it' s' z => wpAny_pure ⟨rfl, z⟩) fun _ _ z => z)))
      | (show wpAny _ _ (standAt b1.pos >>= _) _ _ s
         exact wpAny_bind (wpAny_standAt (wpAny_bind (wpAny_mono h (fun it' s' z => wpAny_pure ⟨rfl, z⟩) fun _ _ z => z))))
end
section
variable {X : Cx}
def tDc2 (wi : TI) (g : TG) (tt : TT) (wi1 : TI) (g1 : TG) (tt1 : TT) (tk tv : TE) (vs vs1 : List Nat) : TE := fun σ H Q => wi σ H fun J H1 => ∀ D, H1 D = none → ∃ W : Nat → Nat → Hp → Prop, (∃ m, W 0 m (upd H1 D (.dK []))) ∧ ∀ i m H, W i m H →
  (J.stop i H ∧ Q (.ref D) H) ∨ (J.go i H ∧ ∃ Nx : Hp → Prop, (∀ H', Nx H' → ∃ m', m' < m ∧ W (i + 1) m' H') ∧ ∀ x H', J.yld i H x H' → g x (L2.wipe σ vs) H' fun σ2 H2 => L2.wipe σ2 vs = L2.wipe σ vs ∧ tt σ2 H2 fun b H3 =>
    if b = true then wi1 σ2 H3 fun J1 H4 => ∃ W1 : Nat → Nat → Hp → Prop, (∃ m, W1 0 m H4) ∧ ∀ j k H, W1 j k H →
      (J1.stop j H ∧ Nx H) ∨ (J1.go j H ∧ ∃ Nx1 : Hp → Prop, (∀ H', Nx1 H' → ∃ k', k' < k ∧ W1 (j + 1) k' H') ∧ ∀ x H', J1.yld j H x H' → g1 x (L2.wipe σ2 vs1) H' fun σ3 H5 => L2.wipe σ3 vs1 = L2.wipe σ2 vs1 ∧ tt1 σ3 H5 fun b H6 =>
        if b = true then tk σ3 H6 fun y H7 => tv σ3 H7 fun z H8 => ∃ kvs k, y = kV k ∧ H8 D = some (.dK kvs) ∧ kvs.length < sizeLine ∧ Nx1 (upd H8 D (.dK (putK kvs k z))) else Nx1 H6)
    else Nx H3)
/-- in a block, wherever it stands -/
abbrev InB (X : Cx) (sc : Scope) (P : Cx → Prop) : Prop := ∀ (s : Shared) (H : Hp) (C : Addr) (cl : List (Str × Addr)) (fp : List Addr), P (X.blk s H sc (compEnvC sc cl C X.env) fp)
theorem pe_dc2 {kx vx a0 b0 a1 b1 : Expr} {f0 f1 : List Expr} {sc : Scope} {own : List (Str × Nat)} {vs1 : List Nat} {ps : Pos} {wi wi1 : TI} {g g1 : TG} {tt tt1 : TT} {tk tv : TE} (hc : X.calm = true) (hN : X.N.Nodup) (hi : PI X a0 b0 wi) (ok : BlkOk X.N X.env.scope sc own) (hv : ∀ i ∈ vs1, i ∈ own.map (·.2))
    (hg : InB X sc fun Y => PG Y a0 g) (ht : InB X sc fun Y => PTs Y f0 tt) (hi1 : InB X sc fun Y => PI Y a1 b1 wi1) (hg1 : InB X sc fun Y => PG Y a1 g1) (ht1 : InB X sc fun Y => PTs Y f1 tt1) (hk : InB X sc fun Y => PE Y kx tk) (he : InB X sc fun Y => PE Y vx tv)
    (hs : ∀ x, foldedSetIterable b0 X.env x = pure x := by intro _; rfl) (hs1 : ∀ env x, foldedSetIterable b1 env x = pure x := by intro _ _; rfl) :
    PE X (dc2 kx vx a0 b0 a1 b1 f0 f1 sc ps) (tDc2 wi g tt wi1 g1 tt1 tk tv (own.map (·.2)) vs1) := by
  refine ⟨fun pins s σ H Q I h => ?_⟩
  rw [arm_eval_DictComp]
  have cells : ∀ y ∈ sc.names, y.2 = .free → ∃ c, X.env.cells.lookup y.1 = some c := fun y hy e => (ok.free y hy e).elim (fun k => I.ok.has _ (.inl k)) fun k => I.ok.has _ (.inr k)
  refine wpAny_comprehension_free (use := none) rfl hs (closure_ok cells) ok.kind (fun y hy e => by rw [ok.uniq y hy, e]) (thn (hi.run pins s σ H _ I h) fun xv sa hx => thn hx fun itv sb hb => ?_)
  obtain ⟨it, fp, tn, J, Hb, rfl, Ib, T, stb, fb, q⟩ := hb
  refine wpAny_newObj_type (newEnv_comp ?_)
  obtain ⟨D, hD⟩ : ∃ D, D = sb.heap.objs.size := ⟨_, rfl⟩
  rw [← hD]
  obtain ⟨W, ⟨m0, w0⟩, turn⟩ := q D (Ib.hok.fresh (Nat.le_of_eq hD.symm))
  obtain ⟨sd, hsd⟩ : ∃ sd : Shared, sd = { sb with heap := sb.heap.push { cls := .type "dict", data := .dict #[] } } := ⟨_, rfl⟩
  have hd : sd.heap = sb.heap.push { cls := .type "dict", data := .dict #[] } := by rw [hsd]
  have Id : Inv X pins σ (upd Hb D (.dK [])) sd := by
    rw [hsd, hD]
    exact Ib.laid (t' := sb.toks) (fun b o e => Heap.get?_push_of_some _ e) (Nat.le_refl _) (dk_empty sb.heap Ib.big)
  have old : ∀ b ∈ fp, b < sb.heap.objs.size := fun b hb => let ⟨_, e, _⟩ := T.obj _ _ stb b hb; Heap.lt_size e
  have fd : ∀ b ∈ fp, FpOk X pins (upd Hb D (.dK [])) b ∧ b < sd.heap.objs.size := fun b hb => by
    have lt := old b hb
    refine ⟨⟨?_, (fb b hb).2⟩, by rw [hd, Heap.size_push]; exact Nat.lt_succ_of_lt lt⟩
    rw [upd_ne (by rw [hD]; exact Nat.ne_of_lt lt)]
    exact (fb b hb).1
  have std : tn 0 sd.heap := T.keep _ _ _ stb fun b _ o e => by rw [hd]; exact Heap.get?_push_of_some _ e
  have Ie := block_start Id ok hN fd
  have pg := hg sd (upd Hb D (.dK [])) sd.heap.objs.size (cellsFrom (sd.heap.objs.size + 1) sc.names (cloFrom X.env.cells sc.names [])) fp
  have pt := ht sd (upd Hb D (.dK [])) sd.heap.objs.size (cellsFrom (sd.heap.objs.size + 1) sc.names (cloFrom X.env.cells sc.names [])) fp
  have pi1 := hi1 sd (upd Hb D (.dK [])) sd.heap.objs.size (cellsFrom (sd.heap.objs.size + 1) sc.names (cloFrom X.env.cells sc.names [])) fp
  have pg1 := hg1 sd (upd Hb D (.dK [])) sd.heap.objs.size (cellsFrom (sd.heap.objs.size + 1) sc.names (cloFrom X.env.cells sc.names [])) fp
  have pt1 := ht1 sd (upd Hb D (.dK [])) sd.heap.objs.size (cellsFrom (sd.heap.objs.size + 1) sc.names (cloFrom X.env.cells sc.names [])) fp
  have pk := hk sd (upd Hb D (.dK [])) sd.heap.objs.size (cellsFrom (sd.heap.objs.size + 1) sc.names (cloFrom X.env.cells sc.names [])) fp
  have pv := he sd (upd Hb D (.dK [])) sd.heap.objs.size (cellsFrom (sd.heap.objs.size + 1) sc.names (cloFrom X.env.cells sc.names [])) fp
  have eH : ({ sb with heap := pushCells ((sb.heap.push { cls := .type "dict", data := .dict #[] }).push { cls := .type "dict", data := .dict #[] }) sc.names } : Shared) = { sd with heap := pushCells (sd.heap.push { cls := .type "dict", data := .dict #[] }) sc.names } := by rw [hsd]
  have eC : (sb.heap.push { cls := .type "dict", data := .dict #[] }).objs.size = sd.heap.objs.size := by rw [hsd]
  show codeAny _ _ (.compStart (dc2 kx vx a0 b0 a1 b1 f0 f1 sc ps) 0 (.ref it) (.ref D) (compEnvC sc (cellsFrom ((sb.heap.push { cls := .type "dict", data := .dict #[] }).objs.size + 1) sc.names (cloFrom X.env.cells sc.names [])) (sb.heap.push { cls := .type "dict", data := .dict #[] }).objs.size X.env)) (compPost (model X.prog X.w) X.A X.xe none (EP X pins σ Q) (.ref D) (sb.heap.push { cls := .type "dict", data := .dict #[] }).objs.size) { sb with heap := pushCells ((sb.heap.push { cls := .type "dict", data := .dict #[] }).push { cls := .type "dict", data := .dict #[] }) sc.names }
  rw [eC, eH]
  have nofp : ∀ b ∈ fp, (upd Hb D (.dK [])) b = none := fun b hb => (fd b hb).1.1
  generalize hE : compEnvC sc (cellsFrom (sd.heap.objs.size + 1) sc.names (cloFrom X.env.cells sc.names [])) sd.heap.objs.size X.env = en at Ie pg pt pi1 pg1 pt1 pk pv ⊢
  have locs : en.locals = sd.heap.objs.size := by rw [← hE]; rfl
  generalize hH : upd Hb D (.dK []) = Hd at Id Ie pg pt pi1 pg1 pt1 pk pv w0 nofp fd
  generalize hse : ({ sd with heap := pushCells (sd.heap.push { cls := .type "dict", data := .dict #[] }) sc.names } : Shared) = se at Ie ⊢
  have ste : tn 0 se.heap := T.keep _ _ _ std fun b _ o e => by rw [← hse]; exact pushCells_keeps _ _ _ _ (Heap.get?_push_of_some _ e)
  -- the block's own place
  obtain ⟨Y, hY⟩ : ∃ Y, Y = X.blk sd Hd sc en fp := ⟨_, rfl⟩
  have eY : Y.prog = X.prog ∧ Y.w = X.w ∧ Y.A = X.A := by rw [hY]; exact ⟨rfl, rfl, rfl⟩
  have stay : ∀ {σ' : L2.St} {H' : Hp} {s' : Shared}, Inv (X.blk sd Hd sc en fp) [] σ' H' s' → (∀ b ∈ fp, H' b = none) → ∀ b ∈ fp, FpOk (X.blk sd Hd sc en fp) [] H' b := fun I' hn b hb =>
    ⟨hn b hb, (I'.ok.exf b hb).1, I'.ok.exfs b hb, .inl hb, fun x c e => (I'.ok.exf b hb).2 x c e, fun p hp => absurd (show p ∈ ([] : List (Addr × Obj)) ++ [] from hp) (by simp)⟩
  -- where the outer loop stands: n turns are left
  obtain ⟨Z, hZ⟩ : ∃ Z : Nat → Shared → Prop, Z = fun n s' => ∃ i H', Inv (X.blk sd Hd sc en fp) [] (L2.wipe σ (own.map (·.2))) H' s' ∧ tn i s'.heap ∧ (∀ b ∈ fp, H' b = none) ∧ W i n H' := ⟨_, rfl⟩
  have loop : codeAny (model X.prog X.w) X.A (.compLoop (dc2 kx vx a0 b0 a1 b1 f0 f1 sc ps) 0 (.ref it) (.ref D) en) (compPost (model X.prog X.w) X.A X.xe none (EP X pins σ Q) (.ref D) sd.heap.objs.size) se := by
    refine loop0 (hs1 en) Z ?_ m0 (by rw [hZ]; exact ⟨0, Hd, Ie, ste, nofp, w0⟩)
    intro n s5 hz
    rw [hZ] at hz
    obtain ⟨i, H5, I5, st5, n5, w5⟩ := hz
    rcases turn i n H5 w5 with ⟨stop, qq⟩ | ⟨go, Nx, hNx, step⟩
    · refine thnF (T.done (X.blk sd Hd sc en fp) rfl rfl rfl hc i [] s5 _ H5 (fun _ _ => False) I5 (stay I5 n5) st5 stop) fun r s6 ⟨hr, I6⟩ => ?_
      subst hr
      have I7 : Inv X pins σ H5 s6 := Id.call' (ch := fp) I6.os I6.base I6.hok I6.bare fun b hb => ⟨(fd b hb).1.2.2.2.1, (fd b hb).1.2.1, (fd b hb).1.2.2.2.2.1, (fd b hb).1.2.2.2.2.2⟩
      have nC : H5 sd.heap.objs.size = none := by
        have z : H5 en.locals = none := I6.free
        rwa [locs] at z
      obtain ⟨m, hn, _⟩ := I6.loc
      have hn : s6.heap.Ns en.locals m := hn
      rw [locs] at hn
      refine ⟨m, hn, fun h'' sb => ?_⟩
      obtain ⟨f0', f1', f2', f3', f4', f5'⟩ := Id.fpOk (Nat.le_refl _) nC
      exact ⟨.ref D, H5, I7.turned (t' := s6.toks) (fun b o hb e => (sb.2 b hb).trans e) f0' f1' f3' f4' f5', rfl, qq⟩
    · refine thnF (T.item (X.blk sd Hd sc en fp) rfl rfl rfl hc i [] s5 _ H5 (fun _ _ => False) I5 (stay I5 n5) st5 go) fun r s6 ⟨u, hr, h6⟩ => ?_
      subst hr
      refine thnF h6 fun _ s7 ⟨x, H7, I7, r7, y7, st7, n7⟩ => ?_
      have I7' := I7.pinned (stay I7 n7) (T.obj _ _ st7)
      refine thnF (pg.run _ s7 _ H7 x u _ I7' r7 (step x H7 y7)) fun _ s8 ⟨σ8, H8, I8, hw8, q8⟩ => ?_
      refine thnF (pt.run _ s8 σ8 H8 _ I8 q8) fun bb s9 ⟨H9, I9, q9⟩ => ?_
      have l8 : (L2.wipe σ (own.map (·.2))).length = σ8.length := by rw [← hw8, wipe_length]
      have k8 : ∀ (j : Nat) v, (L2.wipe σ (own.map (·.2)))[j]? = some (some v) → σ8[j]? = some (some v) ∧ j ∉ own.map (·.2) := fun j v e => by
        rw [← hw8] at e
        exact wipe_some e
      -- back at the outer loop
      have back : ∀ {σ' : L2.St} {s' : Shared} {H' : Hp}, Inv (X.blk sd Hd sc en fp) ([] ++ pinsAt fp s7.heap) σ' H' s' → (L2.wipe σ (own.map (·.2))).length = σ'.length → (∀ (j : Nat) v, (L2.wipe σ (own.map (·.2)))[j]? = some (some v) → σ'[j]? = some (some v)) → Nx H' → ∃ m, m < n ∧ Z m s' := fun {σ' s' H'} I' hl hkk nx => by
        obtain ⟨m', hm, w'⟩ := hNx H' nx
        have pin : ∀ b ∈ fp, ∀ o, s7.heap.get? b = some o → s'.heap.get? b = some o ∧ H' b = none := fun b hb o e =>
          let z := I'.pin (b, o) (List.mem_append_right _ (List.mem_append_right _ (mem_pinsAt hb e)))
          ⟨z.1, z.2.1⟩
        rw [hZ]
        refine ⟨m', hm, i + 1, H', (I'.unpinned (pins := [])).weak hl hkk, T.keep _ _ _ st7 fun b hb o e => (pin b hb o e).1, fun b hb => ?_, w'⟩
        obtain ⟨o, e, _⟩ := T.obj _ _ st7 b hb
        exact (pin b hb o e).2
      match bb, q9 with
      | false, q9 =>
        simp only [Bool.false_eq_true, if_false] at q9 ⊢
        exact back I9 l8 (fun j v e => (k8 j v e).1) q9
      | true, q9 =>
        simp only [if_true] at q9 ⊢
        refine thnF (pi1.run _ s9 σ8 H9 _ I9 q9) fun xv' s10 hx' => thnF hx' fun itv' s11 h11 => ?_
        obtain ⟨it1, fp1, tn1, J1, H11, rfl, I11, T1, st11, f11, W1, ⟨m1, w1⟩, turn1⟩ := h11
        have stay1 : ∀ {H' : Hp}, (∀ b ∈ fp1, H' b = none) → ∀ b ∈ fp1, FpOk (X.blk sd Hd sc en fp) ([] ++ pinsAt fp s7.heap) H' b := fun hn b hb => ⟨hn b hb, (f11 b hb).2⟩
        obtain ⟨Z1, hZ1⟩ : ∃ Z1 : Nat → Shared → Prop, Z1 = fun k s' => ∃ j H', Inv (X.blk sd Hd sc en fp) ([] ++ pinsAt fp s7.heap) (L2.wipe σ8 vs1) H' s' ∧ tn1 j s'.heap ∧ (∀ b ∈ fp1, H' b = none) ∧ W1 j k H' := ⟨_, rfl⟩
        have inner : codeAny (model X.prog X.w) X.A (.compLoop (dc2 kx vx a0 b0 a1 b1 f0 f1 sc ps) 1 (.ref it1) (.ref D) en)
            (fun r s' => match r with
              | .ok _ => ∃ m, m < n ∧ Z m s'
              | .error _ => False) s11 := by
          refine loop1 Z1 ?_ m1 (by rw [hZ1]; exact ⟨0, H11, I11.weak (wipe_length _ _) (fun j v e => (wipe_some e).1), st11, fun b hb => (f11 b hb).1, w1⟩)
          intro k s12 hz1
          rw [hZ1] at hz1
          obtain ⟨j, H12, I12, st12, n12, w12⟩ := hz1
          rcases turn1 j k H12 w12 with ⟨stop1, nx1⟩ | ⟨go1, Nx1, hNx1, step1⟩
          · refine thnF (T1.done (X.blk sd Hd sc en fp) rfl rfl rfl hc j _ s12 (L2.wipe σ8 vs1) H12 (fun _ _ => False) I12 (stay1 n12) st12 stop1) fun r s13 ⟨hr, I13⟩ => ?_
            subst hr
            refine back I13 (l8.trans (wipe_length σ8 vs1).symm) (fun j v e => ?_) nx1
            rw [wipe_out fun z => (k8 j v e).2 (hv j z)]
            exact (k8 j v e).1
          · refine thnF (T1.item (X.blk sd Hd sc en fp) rfl rfl rfl hc j _ s12 (L2.wipe σ8 vs1) H12 (fun _ _ => False) I12 (stay1 n12) st12 go1) fun r s13 ⟨u1, hr, h13⟩ => ?_
            subst hr
            refine thnF h13 fun _ s14 ⟨x1, H14, I14, r14, y14, st14, n14⟩ => ?_
            have I14' := I14.pinned (stay1 n14) (T1.obj _ _ st14)
            refine thnF (pg1.run _ s14 (L2.wipe σ8 vs1) H14 x1 u1 _ I14' r14 (step1 x1 H14 y14)) fun _ s15 ⟨σ15, H15, I15, hw15, q15⟩ => ?_
            refine thnF (pt1.run _ s15 σ15 H15 _ I15 q15) fun b2 s16 ⟨H16, I16, q16⟩ => ?_
            have back1 : ∀ {s' : Shared} {H' : Hp}, Inv (X.blk sd Hd sc en fp) (([] ++ pinsAt fp s7.heap) ++ pinsAt fp1 s14.heap) σ15 H' s' → Nx1 H' → ∃ m, m < k ∧ Z1 m s' := fun {s' H'} I' nx => by
              obtain ⟨m', hm, w'⟩ := hNx1 H' nx
              have pin : ∀ b ∈ fp1, ∀ o, s14.heap.get? b = some o → s'.heap.get? b = some o ∧ H' b = none := fun b hb o e =>
                let z := I'.pin (b, o) (List.mem_append_right _ (List.mem_append_right _ (mem_pinsAt hb e)))
                ⟨z.1, z.2.1⟩
              rw [hZ1]
              refine ⟨m', hm, j + 1, H', I'.unpinned.weak (by rw [← hw15, wipe_length]) (fun j v e => by rw [← hw15] at e; exact (wipe_some e).1), T1.keep _ _ _ st14 fun b hb o e => (pin b hb o e).1, fun b hb => ?_, w'⟩
              obtain ⟨o, e, _⟩ := T1.obj _ _ st14 b hb
              exact (pin b hb o e).2
            match b2, q16 with
            | false, q16 =>
              simp only [Bool.false_eq_true, if_false] at q16 ⊢
              exact back1 I16 q16
            | true, q16 =>
              simp only [if_true] at q16 ⊢
              refine thnF (pk.run _ s16 σ15 H16 _ I16 q16) fun z1 s17 ⟨yk, H17, I17, r17, q17⟩ => ?_
              refine thnF (pv.run _ s17 σ15 H17 _ I17 q17) fun z2 s18 ⟨yv, H18, I18, r18, kvs, kk, ek, hD18, hz18, nx⟩ => ?_
              subst ek
              exact d_dictSet (X := X.blk sd Hd sc en fp) I18 hD18 hz18 r17 r18 fun s19 I19 => back1 I19 nx
        exact start1 inner (T1.self X.A 0 _ _ _ st11 inner)
  exact codeAny_compStart_dict loop (T.self X.A 0 _ _ _ ste loop)
end
end Low
end
section
set_option Elab.async false
set_option linter.all false
set_option maxRecDepth 100000
set_option maxHeartbeats 2000000
open PySem PySem.Spec PyProof.Rows L2
namespace Sim
/-! dict comprehensions with two fors; reversed -/
open Classical in
noncomputable def dcW2 (ok : Stt → Prop) (g : GM) (c : TM) (im1 : IM) (g1 : GM) (c1 : TM) (mk mv : EM) (vs1 : List Nat) (ρ : Ev) : List W → Stt → Rs (List (Key × W))
  | [], st => if ok st then .ok [] st else .no
  | w :: ws, st => if ok st then (match g st w ρ with
      | none => .no
      | some ρ1 => (c ρ1 st).cb fun b st1 => if b = true then (im1 ρ1 st1).cb fun src st2 => (dcW src.ok g1 c1 mk mv (wipeE ρ1 vs1) src.items st2).cb fun ys st3 => (dcW2 ok g c im1 g1 c1 mk mv vs1 ρ ws st3).cb fun zs st4 => .ok (ys ++ zs) st4
        else dcW2 ok g c im1 g1 c1 mk mv vs1 ρ ws st1) else .no
noncomputable def eDc2 (im : IM) (g : GM) (c : TM) (im1 : IM) (g1 : GM) (c1 : TM) (mk mv : EM) (vs vs1 : List Nat) : EM := fun ρ st => (im ρ st).bind fun src st1 => (dcW2 src.ok g c im1 g1 c1 mk mv vs1 (wipeE ρ vs) src.items st1).cb fun ys st2 => if ys.length ≤ 100000 then .ok (.dic (mergeW [] ys)) st2 else .no
section
variable {K : PySem.W.Frag} {Wx : WX} {G1 : Gm} {H1 : Hp} {D : Addr}
/-- the new dict D, hidden, holds what is made so far -/
structure Mk2 (K : PySem.W.Frag) (G1 : Gm) (H1 : Hp) (D : Addr) (ls : List Addr) (st : Stt) (aw : List (Key × W)) (av : List (Key × V)) (H : Hp) : Prop where
  x : Ext G1 H1 (G1.to ls st) H
  w : World K ((G1.to ls st).hide D) H
  hD : H D = some (.dK av)
  rl : RepK K ((G1.to ls st).hide D) H (mergeW [] aw) av
  len : av.length ≤ aw.length
  le : Less G1 H1 ((G1.to ls st).hide D) H
theorem Mk2.step {ls ls' : List Addr} {st st' : Stt} {aw : List (Key × W)} {av : List (Key × V)} {H H' : Hp} (w1 : World K G1 H1) (hn : H1 D = none) (k : Mk2 K G1 H1 D ls st aw av H) (y : Ext ((G1.to ls st).hide D) H ((G1.to ls' st').hide D) H') (w' : World K ((G1.to ls' st').hide D) H') : Mk2 K G1 H1 D ls' st' aw av H' := by
  have hD' : H' D = some (.dK av) := (y.hidk D List.mem_cons_self).trans k.hD
  refine ⟨?_, w', hD', k.rl.mono y, k.len, less_tr k.le y.less⟩
  have q := Ext.under (o := .dK av) w1 hn k.x y
  have : upd H' D (.dK av) = H' := by
    funext b
    by_cases e : b = D
    · subst e; rw [upd_same]; exact hD'.symm
    · rw [upd_ne e]
  rwa [this] at q
theorem Mk2.push {ls : List Addr} {st : Stt} {aw : List (Key × W)} {av : List (Key × V)} {H : Hp} {kk : Key} {y : W} {v : V} (w1 : World K G1 H1) (hn : H1 D = none) (k : Mk2 K G1 H1 D ls st aw av H) (r : RepV K ((G1.to ls st).hide D) H y v) : Mk2 K G1 H1 D ls st (aw ++ [(kk, y)]) (putK av kk v) (upd H D (.dK (putK av kk v))) := by
  have l2 := less_hidupd (G := (G1.to ls st).hide D) (H := H) (o := .dK (putK av kk v)) List.mem_cons_self
  have lp := length_putK av kk v
  refine ⟨Ext.under w1 hn k.x (Ext.refl _ _), k.w.hidupd List.mem_cons_self, upd_same, ?_, ?_, less_tr k.le l2⟩
  · rw [merge_snoc]
    exact (k.rl.put kk r).less l2
  · have := k.len
    rw [List.length_append, List.length_singleton]
    omega
theorem dc2_loop {J : It} {src : Src} {g g1 : TG} {gm gm1 : GM} {is vs is1 vs1 : List Nat} {tt tt1 : TT} {c c1 : TM} {wi1 : TI} {im1 : IM} {tk tv : TE} {mk mv : EM} {ρ : Ev} {σ : L2.St} {Q : VK} (w1 : World K G1 H1) (re : RepE K G1 H1 ρ σ) (wk : Walks K G1 H1 src J) (hg : SemG K g gm is) (hs : ∀ i ∈ is, i ∈ vs)
    (ht : SemT K W0 tt c) (hi1 : SemI K W0 wi1 im1) (hg1 : SemG K g1 gm1 is1) (hs1 : ∀ i ∈ is1, i ∈ vs1) (ht1 : SemT K W0 tt1 c1) (hek : SemE K W0 tk mk) (hev : SemE K W0 tv mv) (hD : H1 D = none) {ysF : List (Key × W)} {stF : Stt} (hok : dcW2 src.ok gm c im1 gm1 c1 mk mv vs1 (wipeE ρ vs) src.items G1.st = .ok ysF stF) (hlen : ysF.length ≤ 100000)
    (fin : ∀ (ls' : List Addr) (H' : Hp) (av : List (Key × V)), Mk2 K G1 H1 D ls' stF ysF av H' → Q (.ref D) H') :
    ∃ W : Nat → Nat → Hp → Prop, (∃ m, W 0 m (upd H1 D (.dK []))) ∧ ∀ i m H, W i m H → (J.stop i H ∧ Q (.ref D) H) ∨ (J.go i H ∧ ∃ Nx : Hp → Prop, (∀ H', Nx H' → ∃ m', m' < m ∧ W (i + 1) m' H') ∧ ∀ x H', J.yld i H x H' → g x (L2.wipe σ vs) H' fun σ2 H2 => L2.wipe σ2 vs = L2.wipe σ vs ∧ tt σ2 H2 fun b H3 =>
      if b = true then wi1 σ2 H3 fun J1 H4 => ∃ W1 : Nat → Nat → Hp → Prop, (∃ m, W1 0 m H4) ∧ ∀ j k H, W1 j k H →
        (J1.stop j H ∧ Nx H) ∨ (J1.go j H ∧ ∃ Nx1 : Hp → Prop, (∀ H', Nx1 H' → ∃ k', k' < k ∧ W1 (j + 1) k' H') ∧ ∀ x H', J1.yld j H x H' → g1 x (L2.wipe σ2 vs1) H' fun σ3 H5 => L2.wipe σ3 vs1 = L2.wipe σ2 vs1 ∧ tt1 σ3 H5 fun b H6 =>
          if b = true then tk σ3 H6 fun y H7 => tv σ3 H7 fun z H8 => ∃ kvs k, y = kV k ∧ H8 D = some (.dK kvs) ∧ kvs.length < sizeLine ∧ Nx1 (upd H8 D (.dK (putK kvs k z))) else Nx1 H6)
      else Nx H3) := by
  let Iv : Nat → Hp → Prop := fun i H => i ≤ src.items.length ∧ ∃ (ls : List Addr) (st : Stt) (aw : List (Key × W)) (av : List (Key × V)) (ys : List (Key × W)), Mk2 K G1 H1 D ls st aw av H ∧ dcW2 src.ok gm c im1 gm1 c1 mk mv vs1 (wipeE ρ vs) (src.items.drop i) st = .ok ys stF ∧ aw ++ ys = ysF
  refine ⟨fun i m H => m = src.items.length - i ∧ Iv i H, ⟨_, rfl, Nat.zero_le _, G1.ls, G1.st, [], [], ysF, ⟨Ext.new w1 hD, w1.hide hD, upd_same, .nil, Nat.le_refl _, less_hide w1 hD⟩, hok, rfl⟩, ?_⟩
  rintro i mm H ⟨rfl, hle, ls, st, aw, av, ys, k, hc, hys⟩
  by_cases hlt : i < src.items.length
  · rw [List.drop_eq_getElem_cons hlt, dcW2] at hc
    split at hc
    · rename_i hokst
      obtain ⟨hgo, hy⟩ := (wk _ H k.le k.w hokst i).1 _ (List.getElem?_eq_getElem hlt)
      refine .inr ⟨hgo, Iv (i + 1), fun H' hN => ⟨_, by omega, rfl, hN⟩, fun xv H2 hx => ?_⟩
      obtain ⟨x2, w2, rx⟩ := hy xv H2 hx
      cases eg : gm st src.items[i] (wipeE ρ vs) with
      | none => rw [eg] at hc; cases hc
      | some ρ1 =>
        rw [eg] at hc
        dsimp only at hc
        have re2 : RepE K ((G1.to ls st).hide D) H2 (wipeE ρ vs) (L2.wipe σ vs) := ((re.less k.le).less x2.less).wipe vs
        refine hg _ H2 _ _ _ xv ρ1 _ w2 re2 rx eg fun σ2 hl2 hj2 re3 => ⟨by rw [wipe_same hl2 hj2 hs, wipe_wipe], ?_⟩
        obtain ⟨b, st3, hb, hc⟩ := Rs.cb_eq hc
        refine ht _ H2 ρ1 σ2 _ w2 re3 ?_
        rw [show ((G1.to ls st).hide D).st = st from rfl, hb]
        intro ls3 H3 b' x3 w3 eb
        subst eb
        have k3 : Mk2 K G1 H1 D ls3 st3 aw av H3 := k.step w1 hD (x2.trans x3) w3
        cases b with
        | false =>
          rw [if_neg Bool.false_ne_true] at hc ⊢
          exact ⟨hlt, ls3, st3, aw, av, ys, k3, hc, hys⟩
        | true =>
          rw [if_pos rfl] at hc ⊢
          obtain ⟨src1, st4, hm, hc⟩ := Rs.cb_eq hc
          obtain ⟨ys1, st5, hl5, hc⟩ := Rs.cb_eq hc
          obtain ⟨zs, st6, hr, hc⟩ := Rs.cb_eq hc
          cases hc
          refine hi1 (((G1.to ls st).hide D).to ls3 st3) H3 ρ1 σ2 _ w3 (re3.mono x3) ?_
          rw [show (((G1.to ls st).hide D).to ls3 st3).st = st3 from rfl, hm]
          intro ls4 H4 J1 x4 w4 wk1
          have k4 : Mk2 K G1 H1 D ls4 st4 aw av H4 := k3.step w1 hD x4 w4
          have re4 : RepE K ((G1.to ls4 st4).hide D) H4 ρ1 σ2 := (re3.mono x3).mono x4
          refine ⟨fun j q H => q = src1.items.length - j ∧ j ≤ src1.items.length ∧ ∃ (ls' : List Addr) (st' : Stt) (aw' : List (Key × W)) (av' : List (Key × V)) (ys' : List (Key × W)), Mk2 K G1 H1 D ls' st' aw' av' H ∧ Less ((G1.to ls4 st4).hide D) H4 ((G1.to ls' st').hide D) H ∧ dcW src1.ok gm1 c1 mk mv (wipeE ρ1 vs1) (src1.items.drop j) st' = .ok ys' st5 ∧ aw' ++ (ys' ++ zs) = ysF,
            ⟨_, rfl, Nat.zero_le _, ls4, st4, aw, av, ys1, k4, Ext.less (Ext.refl _ _), hl5, hys⟩, ?_⟩
          rintro j q H ⟨rfl, hjle, ls', st', aw', av', ys', k', le', hc', hys'⟩
          by_cases hjt : j < src1.items.length
          · rw [List.drop_eq_getElem_cons hjt, dcW] at hc'
            split at hc'
            · rename_i hokst'
              obtain ⟨hgo', hy'⟩ := (wk1 _ H le' k'.w hokst' j).1 _ (List.getElem?_eq_getElem hjt)
              refine .inr ⟨hgo', fun H'' => j + 1 ≤ src1.items.length ∧ ∃ (ls' : List Addr) (st' : Stt) (aw' : List (Key × W)) (av' : List (Key × V)) (ys' : List (Key × W)), Mk2 K G1 H1 D ls' st' aw' av' H'' ∧ Less ((G1.to ls4 st4).hide D) H4 ((G1.to ls' st').hide D) H'' ∧ dcW src1.ok gm1 c1 mk mv (wipeE ρ1 vs1) (src1.items.drop (j + 1)) st' = .ok ys' st5 ∧ aw' ++ (ys' ++ zs) = ysF,
                fun H'' hN => ⟨_, by omega, rfl, hN⟩, fun xv' H5 hx' => ?_⟩
              obtain ⟨x5, w5, rx5⟩ := hy' xv' H5 hx'
              cases eg1 : gm1 st' src1.items[j] (wipeE ρ1 vs1) with
              | none => rw [eg1] at hc'; cases hc'
              | some ρ2 =>
                rw [eg1] at hc'
                dsimp only at hc'
                have re5 : RepE K ((G1.to ls' st').hide D) H5 (wipeE ρ1 vs1) (L2.wipe σ2 vs1) := ((re4.less le').less x5.less).wipe vs1
                refine hg1 _ H5 _ _ _ xv' ρ2 _ w5 re5 rx5 eg1 fun σ3 hl3 hj3 re6 => ⟨by rw [wipe_same hl3 hj3 hs1, wipe_wipe], ?_⟩
                obtain ⟨b1, st7, hb1, hc'⟩ := Rs.cb_eq hc'
                refine ht1 _ H5 ρ2 σ3 _ w5 re6 ?_
                rw [show ((G1.to ls' st').hide D).st = st' from rfl, hb1]
                intro ls7 H7 b2 x7 w7 eb1
                subst eb1
                have k7 : Mk2 K G1 H1 D ls7 st7 aw' av' H7 := k'.step w1 hD (x5.trans x7) w7
                have le7 : Less ((G1.to ls4 st4).hide D) H4 ((G1.to ls7 st7).hide D) H7 := less_tr le' (x5.trans x7).less
                cases b1 with
                | false =>
                  rw [if_neg Bool.false_ne_true] at hc' ⊢
                  exact ⟨hjt, ls7, st7, aw', av', ys', k7, le7, hc', hys'⟩
                | true =>
                  rw [if_pos rfl] at hc' ⊢
                  obtain ⟨kw, st8, hm8, hc'⟩ := Rs.cb_eq hc'
                  obtain ⟨y, st9, hm9, hc'⟩ := Rs.cb_eq hc'
                  cases ek : toKey kw with
                  | none => rw [ek] at hc'; cases hc'
                  | some kk =>
                    rw [ek] at hc'
                    obtain ⟨ys2, st10, hr9, hc'⟩ := Rs.cb_eq hc'
                    cases hc'
                    refine hek (((G1.to ls' st').hide D).to ls7 st7) H7 ρ2 σ3 _ w7 (re6.mono x7) ?_
                    rw [show (((G1.to ls' st').hide D).to ls7 st7).st = st7 from rfl, hm8]
                    intro ls8 H8 kv x8 w8 rk
                    have k8 : Mk2 K G1 H1 D ls8 st8 aw' av' H8 := k7.step w1 hD x8 w8
                    refine hev (((G1.to ls' st').hide D).to ls8 st8) H8 ρ2 σ3 _ w8 ((re6.mono x7).mono x8) ?_
                    rw [show (((G1.to ls' st').hide D).to ls8 st8).st = st8 from rfl, hm9]
                    intro ls9 H9 yv x9 w9 ry
                    have k9 : Mk2 K G1 H1 D ls9 st9 aw' av' H9 := k8.step w1 hD x9 w9
                    have lav := k9.len
                    have lt : av'.length < sizeLine := by
                      rw [← hys'] at hlen
                      simp only [List.length_append, List.length_cons] at hlen
                      exact Nat.lt_of_lt_of_le (by omega : av'.length < 100000) (by decide)
                    refine ⟨av', kk, toKey_rep rk ek, k9.hD, lt, hjt, ls9, st9, aw' ++ [(kk, y)], putK av' kk yv, ys2, k9.push w1 hD ry, less_tr le7 (less_tr (x8.trans x9).less (less_hidupd List.mem_cons_self)), hr9, ?_⟩
                    rw [← hys']; simp
            · cases hc'
          · have ej : j = src1.items.length := by omega
            subst ej
            rw [List.drop_length, dcW] at hc'
            split at hc'
            · rename_i hokst'
              cases hc'
              exact .inl ⟨(wk1 _ H le' k'.w hokst' _).2 (Nat.le_refl _), hlt, _, _, _, _, _, k', hr, hys'⟩
            · cases hc'
    · cases hc
  · have ei : i = src.items.length := by omega
    subst ei
    rw [List.drop_length, dcW2] at hc
    split at hc
    · rename_i hokst
      cases hc
      rw [List.append_nil] at hys
      subst hys
      exact .inl ⟨(wk _ H k.le k.w hokst _).2 (Nat.le_refl _), fin ls H av k⟩
    · cases hc
theorem sem_dc2 {wi wi1 : TI} {g g1 : TG} {gm gm1 : GM} {is vs is1 vs1 : List Nat} {tt tt1 : TT} {c c1 : TM} {tk tv : TE} {mk mv : EM} {im im1 : IM} (hi : SemI K Wx wi im) (hg : SemG K g gm is) (hs : ∀ i ∈ is, i ∈ vs) (ht : SemT K W0 tt c) (hi1 : SemI K W0 wi1 im1) (hg1 : SemG K g1 gm1 is1) (hs1 : ∀ i ∈ is1, i ∈ vs1) (ht1 : SemT K W0 tt1 c1) (hek : SemE K W0 tk mk) (hev : SemE K W0 tv mv) :
    SemE K Wx (Low.tDc2 wi g tt wi1 g1 tt1 tk tv vs vs1) (eDc2 im gm c im1 gm1 c1 mk mv vs vs1) := fun G H ρ σ Q w r h => by
  refine hi G H ρ σ _ w r (PostR.bind h fun src st1 ls1 H1 J _ e1 w1 wk h1 => ?_)
  intro D hD
  cases hr : dcW2 src.ok gm c im1 gm1 c1 mk mv vs1 (wipeE ρ vs) src.items st1 with
  | ok ys st2 =>
    rw [hr] at h1
    rw [Rs.cb_ok] at h1
    split at h1
    · rename_i hlen
      refine dc2_loop w1 (r.mono e1) wk hg hs ht hi1 hg1 hs1 ht1 hek hev hD hr hlen (fun ls' H' av k => ?_)
      exact h1 ls' H' (.ref D) k.x k.w.unhide (.dic ⟨.inl k.hD, hidden_nal w1 hD k.x k.w⟩ (k.rl.less less_unhide))
    · exact h1.elim
  | er x st2 => rw [hr] at h1; exact h1.elim
  | no => rw [hr] at h1; exact h1.elim
variable {X : Cx}
theorem ce_dc2 {kx vx tg iter tg1 iter1 : Expr} {ifs ifs1 : List Expr} {scope : Scope} {own : List (Str × Nat)} {vs1 : List Nat} {pos : Pos} {wi wi1 : TI} {g g1 : TG} {tt tt1 : TT} {tk tv : TE} {im im1 : IM} {gm gm1 : GM} {is is1 : List Nat} {c c1 : TM} {mk mv : EM} (hc : X.calm = true) (hN : X.N.Nodup) (hi : CI X Wx tg iter wi im) (ok : BlkOk X.N X.env.scope scope own)
    (hg : Blk X scope fun Y => CG Y tg g gm is) (ht : Blk X scope fun Y => CTs Y W0 ifs tt c) (hi1 : Blk X scope fun Y => CI Y W0 tg1 iter1 wi1 im1) (hg1 : Blk X scope fun Y => CG Y tg1 g1 gm1 is1) (ht1 : Blk X scope fun Y => CTs Y W0 ifs1 tt1 c1) (hk : Blk X scope fun Y => CE Y W0 kx tk mk) (he : Blk X scope fun Y => CE Y W0 vx tv mv)
    (hsub : ∀ i ∈ is, i ∈ own.map (·.2) := by decide) (hsub1 : ∀ i ∈ is1, i ∈ vs1 := by decide) (hv : ∀ i ∈ vs1, i ∈ own.map (·.2) := by decide) (hs : ∀ x, foldedSetIterable iter X.env x = pure x := by intro _; rfl) (hs1 : ∀ env x, foldedSetIterable iter1 env x = pure x := by intro _ _; rfl) :
    CE X Wx (.DictComp kx vx [⟨tg, iter, ifs, 0⟩, ⟨tg1, iter1, ifs1, 0⟩] scope pos) (Low.tDc2 wi g tt wi1 g1 tt1 tk tv (own.map (·.2)) vs1) (eDc2 im gm c im1 gm1 c1 mk mv (own.map (·.2)) vs1) :=
  ⟨Low.pe_dc2 hc hN hi.pe ok hv (fun s H C cl fp => (hg s H C cl fp).pe) (fun s H C cl fp => (ht s H C cl fp).pe) (fun s H C cl fp => (hi1 s H C cl fp).pe) (fun s H C cl fp => (hg1 s H C cl fp).pe) (fun s H C cl fp => (ht1 s H C cl fp).pe) (fun s H C cl fp => (hk s H C cl fp).pe) (fun s H C cl fp => (he s H C cl fp).pe) hs hs1,
    sem_dc2 hi.sem (hg {} (fun _ => none) 0 [] []).sem hsub (ht {} (fun _ => none) 0 [] []).sem (hi1 {} (fun _ => none) 0 [] []).sem (hg1 {} (fun _ => none) 0 [] []).sem hsub1 (ht1 {} (fun _ => none) 0 [] []).sem (hk {} (fun _ => none) 0 [] []).sem (he {} (fun _ => none) 0 [] []).sem⟩
/-! reversed(x) -/
def iRevT (m : EM) : IM := fun ρ st => (m ρ st).bind fun x st1 => match x with
  | .tup ws => .ok ⟨ws.reverse, fun _ => True⟩ st1
  | .lst ws => .ok ⟨ws.reverse, fun _ => True⟩ st1
  | _ => .no
theorem rev_get {α : Type} {l : List α} {i : Nat} {w : α} (h : l.reverse[i]? = some w) : i < l.length ∧ l[l.length - 1 - i]? = some w := by
  have hi := (List.getElem?_eq_some_iff.mp h).1
  rw [List.length_reverse] at hi
  rw [List.getElem?_reverse hi] at h
  exact ⟨hi, h⟩
theorem ci_rev {tg e : Expr} {te : TE} {m : EM} {p pos : Pos} (hg : Gl X "reversed") (hm : X.mg "reversed" = none) (h : CE X Wx e te m) (hs : starEach [e] X.env = (false, eval e X.env) :: starEach [] X.env := by rfl) : CI X Wx tg (.Call (.Name "reversed" p) [e] [] pos) (RT.iRevA X.K te) (iRevT m) := by
  refine ⟨RT.pi_revA hg hm h.pe hs, fun G H ρ σ R w r hp => ?_⟩
  refine h.sem G H ρ σ _ w r (PostR.bind hp fun x st1 ls1 H1 v he e1 w1 rv h1 => ?_)
  cases x with
  | tup ws =>
    obtain ⟨a, vs, rfl, sq, rl⟩ := tup_sq rv
    refine ⟨a, vs, rfl, .inr ⟨sq, PostR.ok (G := G.to ls1 st1) w1 h1 fun G H x wo hok i => ?_⟩⟩
    obtain ⟨a', vs', ea, sq', rl'⟩ := tup_sq (rv.less x)
    cases ea
    have l1 : vs.length = ws.length := rl.length.symm
    refine ⟨fun w hw => ?_, fun hl => ?_⟩
    · obtain ⟨hi, hg⟩ := rev_get hw
      obtain ⟨u, hu, ru⟩ := rl'.get hg
      rw [← l1] at hu
      refine ⟨⟨by omega, vs', u, sq', hu⟩, fun y H' hy => ?_⟩
      obtain ⟨rfl, hy⟩ := hy
      have := hy vs' sq'
      rw [hu] at this
      cases this
      exact ⟨Ext.refl _ _, wo, ru⟩
    · have hl : ws.length ≤ i := by simpa using hl
      show vs.length ≤ i
      omega
  | lst ws =>
    obtain ⟨a, vs, rfl, sq, rl⟩ := lst_sq w1 rv rfl
    refine ⟨a, vs, rfl, .inl ⟨sq, PostR.ok (G := G.to ls1 st1) w1 h1 fun G H x wo hok i => ?_⟩⟩
    obtain ⟨a', vs', ea, sq', rl'⟩ := lst_sq wo (rv.less x) (ws := ws) rfl
    cases ea
    have l1 : vs.length = ws.length := rl.length.symm
    refine ⟨fun w hw => ?_, fun hl => ?_⟩
    · obtain ⟨hi, hg⟩ := rev_get hw
      obtain ⟨u, hu, ru⟩ := rl'.get hg
      rw [← l1] at hu
      refine ⟨⟨by omega, vs', u, sq', hu⟩, fun y H' hy => ?_⟩
      obtain ⟨rfl, hy⟩ := hy
      have := hy vs' sq'
      rw [hu] at this
      cases this
      exact ⟨Ext.refl _ _, wo, ru⟩
    · have hl : ws.length ≤ i := by simpa using hl
      show vs.length ≤ i
      omega
  | _ => exact h1.elim
end
end Sim
end
section
set_option Elab.async false
set_option linter.all false
set_option maxRecDepth 100000
set_option maxHeartbeats 1000000
open PySem PySem.Spec PyProof.Rows L2
namespace Sim
theorem blkI {X : Cx} {scope : Scope} {tg iter : Expr} {wi : TI} {im : IM} (h : ∀ (s : Shared) (H : Hp) (C : Addr) (cl : List (Str × Addr)) (fp : List Addr), ∃ wi', CI (X.blk s H scope (compEnvC scope cl C X.env) fp) W0 tg iter wi' im ∧ wi' = wi) : Blk X scope fun Y => CI Y W0 tg iter wi im := fun s H C cl fp => by
  obtain ⟨_, z, rfl⟩ := h s H C cl fp
  exact z
section
variable {ρ : Ev} {st : Stt}
def lc2V (r : Rs (List W)) : Rs W := match r with | .ok ys s => if ys.length ≤ 100000 then .ok (.lst ys) s else .no | _ => .no
@[simp] theorem lc2V_ok (ys : List W) : lc2V (.ok ys st) = if ys.length ≤ 100000 then .ok (.lst ys) st else .no := id rfl
noncomputable def lc2K (g : GM) (c : TM) (im1 : IM) (g1 : GM) (c1 : TM) (m : EM) (vs vs1 : List Nat) (ρ : Ev) (r : Rs Src) : Rs W := match r with | .ok src s => lc2V (lcW2 src.ok g c im1 g1 c1 m vs1 (wipeE ρ vs) src.items s) | .er x s => .er x s | .no => .no
@[simp] theorem lc2K_ok (g : GM) (c : TM) (im1 : IM) (g1 : GM) (c1 : TM) (m : EM) (vs vs1 : List Nat) (src : Src) : lc2K g c im1 g1 c1 m vs vs1 ρ (.ok src st) = lc2V (lcW2 src.ok g c im1 g1 c1 m vs1 (wipeE ρ vs) src.items st) := id rfl
@[simp] theorem ev_lc2 (im : IM) (g : GM) (c : TM) (im1 : IM) (g1 : GM) (c1 : TM) (m : EM) (vs vs1 : List Nat) : eLc2 im g c im1 g1 c1 m vs vs1 ρ st = lc2K g c im1 g1 c1 m vs vs1 ρ (im ρ st) := by
  unfold eLc2 lc2K
  cases im ρ st with
  | ok src s => dsimp only [Rs.bind]; unfold lc2V; cases lcW2 src.ok g c im1 g1 c1 m vs1 (wipeE ρ vs) src.items s <;> rfl
  | er x s => rfl
  | no => rfl
def dc2V (r : Rs (List (Key × W))) : Rs W := match r with | .ok ys s => if ys.length ≤ 100000 then .ok (.dic (mergeW [] ys)) s else .no | _ => .no
@[simp] theorem dc2V_ok (ys : List (Key × W)) : dc2V (.ok ys st) = if ys.length ≤ 100000 then .ok (.dic (mergeW [] ys)) st else .no := id rfl
noncomputable def dc2K (g : GM) (c : TM) (im1 : IM) (g1 : GM) (c1 : TM) (mk mv : EM) (vs vs1 : List Nat) (ρ : Ev) (r : Rs Src) : Rs W := match r with | .ok src s => dc2V (dcW2 src.ok g c im1 g1 c1 mk mv vs1 (wipeE ρ vs) src.items s) | .er x s => .er x s | .no => .no
@[simp] theorem dc2K_ok (g : GM) (c : TM) (im1 : IM) (g1 : GM) (c1 : TM) (mk mv : EM) (vs vs1 : List Nat) (src : Src) : dc2K g c im1 g1 c1 mk mv vs vs1 ρ (.ok src st) = dc2V (dcW2 src.ok g c im1 g1 c1 mk mv vs1 (wipeE ρ vs) src.items st) := id rfl
@[simp] theorem ev_dc2 (im : IM) (g : GM) (c : TM) (im1 : IM) (g1 : GM) (c1 : TM) (mk mv : EM) (vs vs1 : List Nat) : eDc2 im g c im1 g1 c1 mk mv vs vs1 ρ st = dc2K g c im1 g1 c1 mk mv vs vs1 ρ (im ρ st) := by
  unfold eDc2 dc2K
  cases im ρ st with
  | ok src s => dsimp only [Rs.bind]; unfold dc2V; cases dcW2 src.ok g c im1 g1 c1 mk mv vs1 (wipeE ρ vs) src.items s <;> rfl
  | er x s => rfl
  | no => rfl
theorem lcW2_pure {ok : Stt → Prop} {g g1 : GM} {c c1 : TM} {im1 : IM} {m : EM} {vs1 : List Nat} {p : W → Bool} {f : W → List W} (hk : ok st) : ∀ (ws : List W), (∀ w ∈ ws, ∃ ρ1, g st w ρ = some ρ1 ∧ c ρ1 st = .ok (p w) st ∧ (p w = true → ∃ src, im1 ρ1 st = .ok src st ∧ lcW src.ok g1 c1 m (wipeE ρ1 vs1) src.items st = .ok (f w) st)) →
    lcW2 ok g c im1 g1 c1 m vs1 ρ ws st = .ok ((ws.filter p).flatMap f) st
  | [], _ => by rw [lcW2, if_pos hk]; rfl
  | w :: ws, h => by
    obtain ⟨ρ1, h1, h2, h3⟩ := h w List.mem_cons_self
    rw [lcW2, if_pos hk, h1]
    dsimp only
    rw [h2]
    have ih := lcW2_pure hk ws fun u hu => h u (List.mem_cons_of_mem _ hu)
    cases hp : p w with
    | true =>
      obtain ⟨src, h4, h5⟩ := h3 hp
      simp [h4, h5, ih, hp]
    | false => simp [ih, hp]
theorem lcW2_map {ok : Stt → Prop} {g g1 : GM} {c1 : TM} {im1 : IM} {m : EM} {vs1 : List Nat} {f : W → List W} (hk : ok st) (ws : List W) (h : ∀ w ∈ ws, ∃ ρ1, g st w ρ = some ρ1 ∧ ∃ src, im1 ρ1 st = .ok src st ∧ lcW src.ok g1 c1 m (wipeE ρ1 vs1) src.items st = .ok (f w) st) :
    lcW2 ok g tmYes im1 g1 c1 m vs1 ρ ws st = .ok (ws.flatMap f) st := by
  have := lcW2_pure (ok := ok) (g := g) (g1 := g1) (c := tmYes) (c1 := c1) (im1 := im1) (m := m) (vs1 := vs1) (p := fun _ => true) (f := f) (ρ := ρ) hk ws fun w hw => let ⟨ρ1, a, b⟩ := h w hw; ⟨ρ1, a, rfl, fun _ => b⟩
  rwa [List.filter_eq_self.mpr fun _ _ => rfl] at this
theorem dcW2_map {ok : Stt → Prop} {g g1 : GM} {c1 : TM} {im1 : IM} {mk mv : EM} {vs1 : List Nat} {f : W → List (Key × W)} (hk : ok st) : ∀ (ws : List W), (∀ w ∈ ws, ∃ ρ1, g st w ρ = some ρ1 ∧ ∃ src, im1 ρ1 st = .ok src st ∧ dcW src.ok g1 c1 mk mv (wipeE ρ1 vs1) src.items st = .ok (f w) st) →
    dcW2 ok g tmYes im1 g1 c1 mk mv vs1 ρ ws st = .ok (ws.flatMap f) st
  | [], _ => by rw [dcW2, if_pos hk]; rfl
  | w :: ws, h => by
    obtain ⟨ρ1, h1, src, h4, h5⟩ := h w List.mem_cons_self
    rw [dcW2, if_pos hk, h1]
    dsimp only
    have ih := dcW2_map hk ws fun u hu => h u (List.mem_cons_of_mem _ hu)
    simp [h4, h5, ih]
def revI (w : W) (s : Stt) : Rs Src := match w with
  | .tup ws => .ok ⟨ws.reverse, fun _ => True⟩ s
  | .lst ws => .ok ⟨ws.reverse, fun _ => True⟩ s
  | _ => .no
@[simp] theorem revI_tup (ws : List W) : revI (.tup ws) st = .ok ⟨ws.reverse, fun _ => True⟩ st := id rfl
@[simp] theorem revI_lst (ws : List W) : revI (.lst ws) st = .ok ⟨ws.reverse, fun _ => True⟩ st := id rfl
def revIK (r : Rs W) : Rs Src := match r with | .ok a s => revI a s | .er x s => .er x s | .no => .no
@[simp] theorem revIK_ok (a : W) : revIK (.ok a st) = revI a st := id rfl
@[simp] theorem ev_irev (m : EM) : iRevT m ρ st = revIK (m ρ st) := by
  unfold iRevT revIK revI
  cases m ρ st with
  | ok a s => cases a <;> rfl
  | er x s => rfl
  | no => rfl
end
end Sim
end
section
set_option Elab.async false
set_option linter.all false
set_option maxRecDepth 100000
set_option maxHeartbeats 2000000
namespace Low
open PySem PySem.Spec PyProof.Rows L2
/-! sorted(xs), a list of tuples of texts -/
def encR (z : Addr × List Str) : PyData := .tuple (z.2.map .str)
def leR (r q : List Str) : Bool := PySem.W.dataLe false (fun r : List Str => PyData.tuple (r.map .str)) r q
theorem alike_rows : ∀ r q : List Str, PySem.W.alikeAll (r.map .str) (q.map .str) = true
  | [], _ => by rw [List.map_nil, PySem.W.alikeAll]
  | _ :: _, [] => by rw [List.map_nil, List.map_cons, PySem.W.alikeAll]
  | x :: r, y :: q => by rw [List.map_cons, List.map_cons, PySem.W.alikeAll, alike_rows r q, PySem.W.alike]; rfl
section
variable {X : Cx}
def rSortedR (K : PySem.W.Frag) : List V → Hp → VK → Prop := fun vs H Q => ∃ (a : Addr) (zs : List (Addr × List Str)), vs = [V.ref a] ∧ SqL K H a (zs.map fun z => V.ref z.1) ∧ (∀ z ∈ zs, SqT K H z.1 (z.2.map V.str) ∧ z.2 ≠ []) ∧ zs.length ≤ 1000 ∧
  ∀ (p : Addr), H p = none → Q (.ref p) (upd H p (.lst ((zs.mergeSort (PySem.W.dataLe false encR)).map fun z => V.ref z.1)))
theorem each_of : ∀ {zs : List (Addr × List Str)} {us : List Value}, Vals (zs.map fun z => V.ref z.1) us → PySem.W.EachIs (fun v z => v = Value.ref z.1) us zs
  | [], _, .nil => .nil
  | z :: zs, _, .cons r t => .cons r (each_of t)
theorem vals_of : ∀ {zs : List (Addr × List Str)} {us : List Value}, PySem.W.EachIs (fun v z => v = Value.ref z.1) us zs → Vals (zs.map fun z => V.ref z.1) us
  | [], _, .nil => .nil
  | z :: zs, _, .cons r t => .cons r (vals_of t)
theorem cr_sortedR (hu : X.A.units + 64 < cLine) : CallR X (.builtin "sorted") (rSortedR X.K) := by
  intro pins s σ H vs us Q I r h
  obtain ⟨a, zs, rfl, hs, ht, hlen, q⟩ := h
  obtain ⟨its, rv, hl, _⟩ := I.list hs
  rw [Vals.ref1 r]
  have e := each_of rv
  have rd : ∀ z ∈ zs, ∃ as, Reads s.heap (Value.ref z.1) (encR z) as := fun z hz => by
    obtain ⟨tv, rt, ⟨o, ho, hc, n, hd⟩, _⟩ := I.tuple (ht z hz).1
    exact ⟨[], .tuple ho hc hd (by simpa using reads_strs rt)⟩
  have er : PySem.W.EachIs (fun v z => ∃ as, Reads s.heap v (encR z) as) its zs := by
    have key : ∀ {ws : List (Addr × List Str)} {us : List Value}, (∀ z ∈ ws, ∃ as, Reads s.heap (Value.ref z.1) (encR z) as) → PySem.W.EachIs (fun v z => v = Value.ref z.1) us ws → PySem.W.EachIs (fun v z => ∃ as, Reads s.heap v (encR z) as) us ws := by
      intro ws us h1 h2
      induction h2 with
      | nil => exact .nil
      | cons r t ih => exact .cons (by rw [r]; exact h1 _ List.mem_cons_self) (ih fun z hz => h1 z (List.mem_cons_of_mem _ hz))
    exact key rd e
  have hal : PySem.W.AllAlike (zs.map encR) := PySem.W.AllAlike.of fun b b' => by unfold encR; rw [PySem.W.alike]; exact alike_rows _ _
  have hk : PySem.W.Sortable (zs.map encR) := .inl fun d hd => by
    obtain ⟨z, hz, rfl⟩ := List.mem_map.mp hd
    obtain ⟨x, r, hx⟩ := List.exists_cons_of_ne_nil (ht z hz).2
    exact ⟨.str x, r.map .str, by unfold encR; rw [hx]; rfl⟩
  have ls : zs.length ≤ sizeLine := by rw [sizeLine_eq]; omega
  refine PySem.W.sorted_data (R := fun v z => v = Value.ref z.1) hl.isList e er hal hk ls (fun b hb => ?_) fun out h1 h2 => ?_
  · unfold encR
    rw [PyData.depth, depth_strs]
    omega
  obtain ⟨ep, he'⟩ := PyProof.Rows.sortedAll_at s.heap its (List.toArray out)
  have l2 : ((zs.mergeSort (PySem.W.dataLe false encR)).map fun z => V.ref z.1).length ≤ sizeLine := by rw [List.length_map, List.length_mergeSort]; exact ls
  exact ⟨.ref _, upd H (s.heap.objs.size + 1) (.lst ((zs.mergeSort (PySem.W.dataLe false encR)).map fun z => V.ref z.1)), I.laid (t' := s.toks) (fun _ _ => PyProof.Rows.sortedAll_old) (Nat.le_succ _) ⟨l2, out, ep, vals_of h2, he'⟩, rfl, q _ (I.hok.fresh (Nat.le_succ _))⟩
end
end Low
end
section
set_option Elab.async false
set_option linter.all false
set_option maxRecDepth 100000
set_option maxHeartbeats 1000000
open PySem PySem.Spec PyProof.Rows L2
namespace Sim
/-! sorted(x) of tuples of texts -/
def rowsOf : List W → Option (List (List Str))
  | [] => some []
  | .tup us :: ws => match strsOf us, rowsOf ws with
    | some r, some rs => some (r :: rs)
    | _, _ => none
  | _ => none
def fSortedR : FL := fun st ws => match ws with
  | [x] => match (lstOf st x).bind rowsOf with
    | some rs => if rs.length ≤ 1000 ∧ (∀ r ∈ rs, r ≠ []) then some ((rs.mergeSort Low.leR).map fun r => .tup (r.map .str)) else none
    | none => none
  | _ => none
section
variable {K : PySem.W.Frag} {G : Gm} {H : Hp} {st : Stt}
theorem rowsOf_rep : ∀ {ws : List W} {vs : List V} {rs : List (List Str)}, RepL K G H ws vs → rowsOf ws = some rs → ∃ zs : List (Addr × List Str), vs = zs.map (fun z => V.ref z.1) ∧ zs.map (·.2) = rs ∧ ∀ z ∈ zs, RepV K G H (.tup (z.2.map .str)) (.ref z.1)
  | [], _, rs, h, e => by
    cases h; cases e
    exact ⟨[], rfl, rfl, fun z hz => absurd hz List.not_mem_nil⟩
  | w :: ws, _, rs, h, e => by
    cases h with
    | cons hv hr =>
      cases w with
      | tup us =>
        rw [rowsOf] at e
        cases e1 : strsOf us with
        | none => rw [e1] at e; cases e
        | some r =>
          cases e2 : rowsOf ws with
          | none => rw [e1, e2] at e; cases e
          | some q =>
            rw [e1, e2] at e
            cases e
            obtain ⟨zs, rfl, h2, h3⟩ := rowsOf_rep hr e2
            rw [strsOf_eq e1] at hv
            obtain ⟨a, vs, rfl, _, _⟩ := tup_sq hv
            refine ⟨(a, r) :: zs, rfl, by rw [List.map_cons, h2], fun z hz => ?_⟩
            rcases List.mem_cons.mp hz with rfl | hz
            · exact hv
            · exact h3 z hz
      | _ => simp [rowsOf] at e
theorem fn_sortedR : FnN K (Low.rSortedR K) fSortedR := fun G H ws vs us Q wo rl e q => by
  unfold fSortedR at e
  split at e
  · split at e
    · rename_i rs en
      split at e
      · rename_i hc
        cases e
        obtain ⟨v, rfl, rx⟩ := rl.one
        cases e1 : lstOf G.st _ with
        | none => rw [e1] at en; cases en
        | some ws' =>
          rw [e1] at en
          obtain ⟨a, vs', rfl, sq, rl'⟩ := lst_sq wo rx e1
          obtain ⟨zs, rfl, h2, h3⟩ := rowsOf_rep rl' en
          subst h2
          refine ⟨a, zs, rfl, sq, fun z hz => ?_, by have := hc.1; rwa [List.length_map] at this, fun p hn => ?_⟩
          · obtain ⟨b, us', e2, s2, r2⟩ := tup_sq (h3 z hz)
            cases e2
            rw [r2.strs] at s2
            exact ⟨s2, hc.2 _ (List.mem_map.mpr ⟨z, hz, rfl⟩)⟩
          · refine q p _ hn ?_
            have em : (zs.map (·.2)).mergeSort Low.leR = (zs.mergeSort (PySem.W.dataLe false Low.encR)).map (·.2) := (List.map_mergeSort (f := fun z : Addr × List Str => z.2) (r := PySem.W.dataLe false Low.encR) (s := Low.leR) (fun a _ b _ => rfl)).symm
            rw [em, List.map_map]
            have key : ∀ (l : List (Addr × List Str)), (∀ z ∈ l, RepV K G H (.tup (z.2.map .str)) (.ref z.1)) → RepL K G H (l.map ((fun r : List Str => W.tup (r.map .str)) ∘ (·.2))) (l.map fun z => V.ref z.1) := by
              intro l
              induction l with
              | nil => exact fun _ => .nil
              | cons z l ih => exact fun h => .cons (h z List.mem_cons_self) (ih fun y hy => h y (List.mem_cons_of_mem _ hy))
            exact key _ fun z hz => h3 z ((List.mergeSort_perm zs _).mem_iff.mp hz)
      · cases e
    · cases e
  · cases e
theorem rowsOf_map : ∀ rs : List (List Str), rowsOf (rs.map fun r => .tup (r.map .str)) = some rs
  | [] => rfl
  | r :: rs => by rw [List.map_cons, rowsOf, strsOf_map, rowsOf_map rs]
/-- rows by their first letters -/
theorem leR_heads {x y : Str} {r q : List Str} (h : x ≠ y) (hl : leS x y = true) : Low.leR (x :: r) (y :: q) = true := by
  show (!PySem.W.dataLt (.tuple ((y :: q).map .str)) (.tuple ((x :: r).map .str))) = true
  rw [PySem.W.dataLt_tuple, List.map_cons, List.map_cons, PySem.W.dataLt_cons (by rw [PySem.W.alike])]
  have e : PyData.eqv (.str y) (.str x) = false := by
    simp only [PyData.eqv]
    simp
    exact fun z => h z.symm
  rw [if_neg (by rw [e]; exact Bool.false_ne_true), PySem.W.dataLt_str]
  exact hl
theorem sortedR_same {rs : List (List Str)} (h : rs.Pairwise fun r q => Low.leR r q = true) (h1 : rs.length ≤ 1000) (h2 : ∀ r ∈ rs, r ≠ []) {x : W} (hx : lstOf st x = some (rs.map fun r => .tup (r.map .str))) : fSortedR st [x] = some (rs.map fun r => .tup (r.map .str)) := by
  unfold fSortedR
  dsimp only
  rw [hx]
  dsimp only [Option.bind]
  rw [rowsOf_map]
  dsimp only
  rw [if_pos ⟨h1, h2⟩, List.mergeSort_of_pairwise h]
end
end Sim
end
section
set_option Elab.async false
set_option linter.all false
set_option maxRecDepth 100000
set_option maxHeartbeats 2000000
open PySem PySem.Spec PyProof.Rows L2
namespace Sim
section
variable {X : Cx} {Wx : WX}
def tDZL (K : PySem.W.Frag) (ta : TA) : TE := fun σ H Q => ta σ H fun vs H1 => ∃ (a b : Addr) (ks : List Key) (ys : List V), vs = [.ref a, .ref b] ∧ SqL K H1 a (ks.map kV) ∧ SqL K H1 b ys ∧ ∀ d, H1 d = none → Q (.ref d) (upd H1 d (.dK (mergeK [] (ks.zip ys))))
theorem call_dzL (hc : X.calm = true) {pins : List (Addr × Obj)} {s1 : Shared} {σ : L2.St} {H1 : Hp} {Q : VK} {a b : Addr} {ks : List Key} {ys : List V} (I1 : L2.Inv X pins σ H1 s1) (qa : SqL X.K H1 a (ks.map kV)) (qb : SqL X.K H1 b ys) (q : ∀ d, H1 d = none → Q (.ref d) (upd H1 d (.dK (mergeK [] (ks.zip ys))))) :
    wpAny (model X.prog X.w) X.A (call (.type "zip") [.ref a, .ref b]) (fun zv s2 => wpAny (model X.prog X.w) X.A (call (.type "dict") [zv]) (EP X pins σ Q) X.xe s2) X.xe s1 := by
  obtain ⟨its, rv, p1, _⟩ := I1.list qa
  obtain ⟨its2, rv2, p2, z2⟩ := I1.list qb
  obtain ⟨o1, ho1, _⟩ := p1.isList
  obtain ⟨o2, ho2, _⟩ := p2.isList
  have hh := I1.ok.hd hc
  refine PySem.call_zip_2 p1.isList p2.isList fun h' hz hTI hTO h1 h2 hsz hk => ?_
  have I2 : L2.Inv X pins σ H1 { s1 with heap := h' } := I1.kept (t' := s1.toks) hk
  have ap := PySem.W.ktu_apart s1.heap.objs.size a b (Heap.lt_size ho1) (Heap.lt_size ho2)
  have l1 : ks.length = its.length := by rw [← rv.length, List.length_map]
  have l2 : ys.length = its2.length := rv2.length
  have fresh : ∀ c ∈ [s1.heap.objs.size + 4, s1.heap.objs.size + 3, s1.heap.objs.size, s1.heap.objs.size + 1], FpOk X pins H1 c := fun c hcm => by
    have hle : s1.heap.objs.size ≤ c := by
      simp only [List.mem_cons, List.not_mem_nil, or_false] at hcm
      rcases hcm with e | e | e | e <;> (rw [e]; first | exact Nat.le_add_right _ _ | exact Nat.le_refl _)
    exact I1.fpOk hle (I1.hok.fresh hle)
  have pw : PairsHave (mixKind X.prog X.w) (min its.toArray.size its2.toArray.size) (fun i x y => its.toArray[i]? = some x ∧ its2.toArray[i]? = some y) (ks.zip its2) := by
    refine ⟨by rw [List.length_zip, l1]; simp, fun i x y hxy => ?_⟩
    obtain ⟨ex, ey⟩ := hxy
    have ex' : its[i]? = some x := by simpa using ex
    have ey' : its2[i]? = some y := by simpa using ey
    have hi : i < ks.length := by rw [l1]; exact (List.getElem?_eq_some_iff.mp ex').1
    obtain ⟨u, hu, ru⟩ := rv.get (i := i) (x := kV ks[i]) (by rw [List.getElem?_map, List.getElem?_eq_getElem hi]; rfl)
    rw [ex'] at hu
    cases hu
    exact ⟨ks[i], by rw [List.getElem?_zip_eq_some]; exact ⟨List.getElem?_eq_getElem hi, ey'⟩, kV_is ru⟩
  have hlz : (ks.zip its2).length ≤ sizeLine := by rw [List.length_zip]; exact Nat.le_trans (Nat.min_le_right _ _) (by rw [← l2]; exact z2)
  have hn : min its.toArray.size its2.toArray.size ≤ sizeLine := Nat.le_trans (Nat.min_le_right _ _) (by rw [List.size_toArray, ← l2]; exact z2)
  refine PySem.call_dict_pairs (s := { s1 with heap := h' }) (knd := mixKind X.prog X.w) (kvs := ks.zip its2) (PairArg.zip (prog := X.prog) (w := X.w) _ _ _ _ _ _ _ ap its.toArray its2.toArray) hh
    ⟨hz, hTI, ⟨_, _, hTO⟩, h1, h2, p1.isList.at fun o e => hk _ o e, p2.isList.at fun o e => hk _ o e⟩ pw hn fun h'' tk hd' kp => ?_
  have hm : (h'.objs.size == sysModules) = false := beq_eq_false_iff_ne.mpr (Nat.ne_of_gt (I2.big))
  have rel : KV (ks.zip ys) (ks.zip its2) := kv_zip (P := X.prog) (w := X.w) rv2
  have hlen : (mergeK [] (ks.zip ys)).length ≤ sizeLine := by
    refine Nat.le_trans (length_mergeK (ks.zip ys) []) ?_
    rw [List.length_nil, Nat.zero_add, rel.length]
    exact hlz
  have new : ObjOk X.prog X.w (upd H1 h'.objs.size (.dK (mergeK [] (ks.zip ys)))) h'' h'.objs.size (.dK (mergeK [] (ks.zip ys))) := ⟨hlen, hm, merged [] (ks.zip its2), KV.merge rel .nil, hd'⟩
  exact ⟨.ref h'.objs.size, upd H1 h'.objs.size (.dK (mergeK [] (ks.zip ys))), I2.turnedNew (t' := tk) (ch := [s1.heap.objs.size + 4, s1.heap.objs.size + 3, s1.heap.objs.size, s1.heap.objs.size + 1]) kp fresh (Nat.le_refl _) new, rfl, q _ (I2.hok.fresh (Nat.le_refl _))⟩
theorem pe_dictZipL (hc : X.calm = true) (gz : Gl X "zip") (mz : X.mg "zip" = none) (gd : Gl X "dict") (md : X.mg "dict" = none) {e e2 : Expr} {ta : TA} {p pz cz pos : Pos} (ha : PA X [e, e2] ta)
    (hs1 : starEach [.Call (.Name "zip" pz) [e, e2] [] cz] X.env = (false, eval (.Call (.Name "zip" pz) [e, e2] [] cz) X.env) :: starEach [] X.env := by rfl)
    (hs2 : starEach [e, e2] X.env = (false, eval e X.env) :: starEach [e2] X.env := by rfl) (hpl : (backTo cz (starEach [e2] X.env)).any (·.1) = false := by rfl) :
    PE X (.Call (.Name "dict" p) [.Call (.Name "zip" pz) [e, e2] [] cz] [] pos) (tDZL X.K ta) := by
  refine ⟨fun pins s σ H Q I hq => ?_⟩
  refine wpAny_Call_Name_kw (ld_blt I gd md PyProof.Rows.boot_dict ?_)
  refine PyProof.Rows.callWith_type1 ?_ hs1 rfl
  rw [hs1]
  show wpAny _ _ (spliced ((false, eval (.Call (.Name "zip" pz) [e, e2] [] cz) X.env) :: backTo pos (starEach [] X.env))) _ _ s
  refine Calls.spliced_cons ?_
  refine wpAny_Call_Name_kw (ld_blt I gz mz PyProof.Rows.boot_zip ?_)
  refine PyProof.Rows.callWith_type1 (thn (ha.run cz pins s σ H _ I hq) fun us s1 ⟨vs, H1, I1, r1, q1⟩ => ?_) hs2 hpl
  obtain ⟨a, b, ks, ys, rfl, qa, qb, q⟩ := q1
  cases r1 with
  | cons r rr =>
    cases rr with
    | cons r' rr =>
      cases rr
      cases r
      cases r'
      exact wpAny_mono (call_dzL hc I1 qa qb q) (fun zv s2 h => Calls.spliced_nil h) (fun _ _ x => x)
/-- dict(zip(a, b)) of two lists -/
def eDictZipL (as : AM) : EM := fun ρ st => (as ρ st).bind fun ws st1 => match ws with
  | [x, y] => match (lstOf st1 x).bind keysL, lstOf st1 y with
    | some ks, some ys => .ok (.dic (mergeW [] (ks.zip ys))) st1
    | _, _ => .no
  | _ => .no
theorem ce_dictZipL (hc : X.calm = true) (gz : Gl X "zip") (mz : X.mg "zip" = none) (gd : Gl X "dict") (md : X.mg "dict" = none) {e e2 : Expr} {ta : TA} {as : AM} {p pz cz pos : Pos} (ha : CA X Wx [e, e2] ta as)
    (hs1 : starEach [.Call (.Name "zip" pz) [e, e2] [] cz] X.env = (false, eval (.Call (.Name "zip" pz) [e, e2] [] cz) X.env) :: starEach [] X.env := by rfl)
    (hs2 : starEach [e, e2] X.env = (false, eval e X.env) :: starEach [e2] X.env := by rfl) (hpl : (backTo cz (starEach [e2] X.env)).any (·.1) = false := by rfl) :
    CE X Wx (.Call (.Name "dict" p) [.Call (.Name "zip" pz) [e, e2] [] cz] [] pos) (tDZL X.K ta) (eDictZipL as) := by
  refine ⟨pe_dictZipL hc gz mz gd md ha.pe hs1 hs2 hpl, fun G H ρ σ Q w r h => ?_⟩
  refine ha.sem G H ρ σ _ w r (PostR.bind h fun ws st1 ls1 H1 vs he e1 w1 rv h1 => ?_)
  clear he
  split at h1
  · rename_i x y
    split at h1
    · rename_i ks ys hk hy
      cases hx : lstOf st1 x with
      | none => rw [hx] at hk; cases hk
      | some xs =>
      rw [hx] at hk
      obtain ⟨v, u, rfl, rx, ry⟩ := rv.two
      obtain ⟨a, vs, rfl, sq, rl⟩ := lst_sq w1 rx hx
      obtain ⟨b, us, rfl, sq2, rl2⟩ := lst_sq w1 ry hy
      cases keysL_rep rl hk
      refine ⟨a, b, ks, us, rfl, sq, sq2, fun d hn => ?_⟩
      have rm : RepK X.K (G.to ls1 st1) H1 (mergeW [] (ks.zip ys)) (mergeK [] (ks.zip us)) := RepK.merge (zip_rep rl2) .nil
      exact PostV.of h1 _ _ (Ext.new w1 hn) (w1.new hn) (.dic ⟨.inl upd_same, w1.nal hn⟩ (rm.mono (Ext.new w1 hn)))
    · exact h1.elim
  · exact h1.elim
end
end Sim
end
section
set_option Elab.async false
set_option linter.all false
set_option maxRecDepth 100000
set_option maxHeartbeats 2000000
namespace Low
open PySem PySem.Spec PyProof.Rows L2
/-! sorted(d.items()), texts to texts; max(d.values()) -/
def encP (z : Addr × Str × Str) : PyData := .tuple [.str z.2.1, .str z.2.2]
def leP (e f : Str × Str) : Bool := PySem.W.dataLe false (fun e : Str × Str => PyData.tuple [.str e.1, .str e.2]) e f
section
variable {X : Cx}
/-- objects that stand already, taken up as tuples -/
theorem take_frz {pins : List (Addr × Obj)} {σ : L2.St} {H0 : Hp} {s : Shared} {h' : Heap} {tk : Nat} {T : Addr → List V} (I0 : Inv X pins σ H0 s) : ∀ (L : List Addr) (H1 : Hp), Inv X pins σ H1 { s with heap := h', toks := tk } → L.Nodup →
    (∀ a ∈ L, s.heap.objs.size ≤ a ∧ H1 a = none ∧ ∃ o : Obj, o.dict = none ∧ ∀ H2, ObjOk X.prog X.w H2 h' a (.frz o (.tup (T a)))) →
    ∃ H2, Inv X pins σ H2 { s with heap := h', toks := tk } ∧ (∀ b o, H1 b = some o → H2 b = some o) ∧ ∀ a ∈ L, ∃ o : Obj, o.dict = none ∧ H2 a = some (.frz o (.tup (T a)))
  | [], H1, I1, _, _ => ⟨H1, I1, fun _ _ e => e, fun _ h => nomatch h⟩
  | a :: L, H1, I1, nd, hyp => by
    obtain ⟨q1, q2, o, q3, q4⟩ := hyp a List.mem_cons_self
    obtain ⟨n1, n2⟩ := List.nodup_cons.mp nd
    have I2 : Inv X pins σ (upd H1 a (.frz o (.tup (T a)))) { s with heap := h', toks := tk } := I1.take (h' := h') (t' := tk) (fun _ _ _ e => e) (I0.fpOk q1 q2) (q4 _)
    obtain ⟨H2, I3, g, all⟩ := take_frz I0 L _ I2 n2 fun c hc => by
      obtain ⟨c1, c2, c3⟩ := hyp c (List.mem_cons_of_mem _ hc)
      exact ⟨c1, by rw [upd_ne fun z => n1 (by rw [← z]; exact hc)]; exact c2, c3⟩
    refine ⟨H2, I3, fun b u e => g b u (by rw [upd_ne (ne_of_none e q2)]; exact e), fun c hc => ?_⟩
    rcases List.mem_cons.mp hc with rfl | hc
    · exact ⟨o, q3, g _ _ upd_same⟩
    · exact all c hc
def tSortIt (td : TE) : TE := fun σ H Q => td σ H fun x H1 => ∃ (a : Addr) (ss : List (Str × Str)), x = .ref a ∧ Rd H1 a (.dK (ss.map fun e => (Sum.inr e.1, V.str e.2))) ∧ ss.length ≤ 1000 ∧
  ∀ (H' : Hp) (l : Addr) (zs : List (Addr × Str × Str)), (∀ b o, H1 b = some o → H' b = some o) → zs.map (·.2) = ss.mergeSort leP → H1 l = none → H' l = some (.lst (zs.map fun z => V.ref z.1)) →
    (∀ z ∈ zs, H1 z.1 = none ∧ ∃ o : Obj, o.dict = none ∧ H' z.1 = some (.frz o (.tup [.str z.2.1, .str z.2.2]))) → Q (.ref l) H'
theorem str_key {x : Str} {v : Value} (h : (mixKind X.prog X.w).is (.inr x) v = true) : ∃ t, v = Value.str x t := by
  rcases keyIs_shape (show keyIs (Sum.inr x) v = true from h) with ⟨i, t, e, _⟩ | ⟨y, t, e, rfl⟩
  · cases e
  · cases e; exact ⟨t, rfl⟩
theorem pe_sortIt {o : Expr} {td : TE} {p apos mpos pos : Pos} (hc : X.calm = true) (hu : X.A.units + 64 < cLine) (hg : Gl X "sorted") (hm : X.mg "sorted" = none) (hd : PE X o td) (hbase : attributeBase o "items" X.env (eval o X.env) = eval o X.env := by rfl) (hline : (apos.endLine == mpos.line) = true := by rfl)
    (hse : starEach [Expr.Call (.Attribute o "items" apos) [] [] mpos] X.env = [(false, eval (Expr.Call (.Attribute o "items" apos) [] [] mpos) X.env)] := by rfl) :
    PE X (.Call (.Name "sorted" p) [.Call (.Attribute o "items" apos) [] [] mpos] [] pos) (tSortIt td) := by
  refine ⟨fun pins s σ H Q I h => ?_⟩
  refine wpAny_Call_Name_kw (ld_blt I hg hm (u := .builtin "sorted") (by first | rfl | decide +kernel) ?_ (by first | decide +kernel | decide) (by first | decide +kernel | decide))
  rw [hse]
  refine PySem.callWith_builtin1 (wpAny_Call_method0_late hbase hline (thn (hd.run pins s σ H _ I h) fun v s1 ⟨x, H1, I1, r1, a, ss, ex, ha, hlen, q⟩ => ?_))
  subst ex
  obtain rfl : v = Value.ref a := r1
  obtain ⟨_, hsys, vs, rel, dof⟩ := dk_rd I1.hok ha
  obtain ⟨ob, es, ep, ho, hx, hdat, hko, hpr, hnd⟩ := dof
  refine ⟨"dict", "dict.items", F.plainAttrs_dict, F.slot_dict_items, F.type_dict_items, ⟨ob, ho, hx.1⟩, fun b e => ?_, Calls.callWith_builtin rfl (PySem.evalArgs_none ?_)⟩
  · cases e
    exact ⟨ob, ho, hx.2.1⟩
  refine DT.callItems (es := es) (ep := ep) hsys ⟨ob, ho, hx, hdat⟩ ?_
  obtain ⟨s2, hs2⟩ : ∃ s2 : Shared, s2 = { s1 with heap := s1.heap.push { cls := .type "dict_items", data := .fields #[.ref a] } } := ⟨_, rfl⟩
  rw [← hs2]
  have k12 : ∀ b o, s1.heap.get? b = some o → s2.heap.get? b = some o := fun b o e => by rw [hs2]; exact Heap.get?_push_of_some _ e
  have I2 : Inv X pins σ H1 s2 := by rw [hs2]; exact I1.kept (t' := s1.toks) fun b o e => Heap.get?_push_of_some _ e
  have view : s2.heap.IsItemsView s1.heap.objs.size a := by rw [hs2]; exact ⟨_, Heap.get?_push_size _ rfl, rfl, rfl⟩
  have lv : ss.length = vs.length := by have := KV.length rel; rwa [List.length_map] at this
  have le : es.size = vs.length := by have := Pairs.length hpr; rwa [Array.length_toList] at this
  have hh : X.A.handled = none := I.ok.hd hc
  refine DT.sortedI (es := es) (ep := ep) hh view ⟨ob, k12 _ _ ho, hx, hdat⟩ (by rw [sizeLine_eq]; omega) fun h' tk as hk hlt hl hG => ?_
  have lak : as.length = ss.length := by omega
  have nd : as.Nodup := List.Pairwise.imp (fun h => Nat.ne_of_lt h) hG.rise
  have pr : ∀ (j : Nat) (b : Addr), as[j]? = some b → ∃ e : Str × Str, ss[j]? = some e ∧ ∃ t t', h'.get? b = some { cls := .type "tuple", data := .seq #[Value.str e.1 t, Value.str e.2 t'] } := by
    intro j b hj
    obtain ⟨en, he, hg'⟩ := hG.pairs j b hj
    have hjv : j < vs.length := by have := (List.getElem?_eq_some_iff.mp hj).1; omega
    obtain ⟨kv, hkv⟩ : ∃ kv, vs[j]? = some kv := ⟨_, List.getElem?_eq_getElem hjv⟩
    obtain ⟨k, u⟩ := kv
    obtain ⟨xv, h1, h2⟩ := KV.at' rel hkv
    rw [List.getElem?_map] at h1
    cases hs : ss[j]? with
    | none => rw [hs] at h1; cases h1
    | some e =>
      rw [hs] at h1
      cases h1
      have g := Pairs.get? hpr (i := j) (e := en) (k := Sum.inr e.1) (v := u) (by rw [Array.getElem?_toList]; exact he) hkv
      obtain ⟨t, ht⟩ := str_key g.1
      obtain ⟨t', ht'⟩ := h2
      exact ⟨e, rfl, t, t', by rw [hg', ht, g.2, ht']⟩
  have hob : (h'.push { cls := .type "list", data := .seq (as.map Value.ref).toArray }).get? h'.objs.size = some (seqObj "list" (as.map Value.ref).toArray 0) := Heap.get?_push_size _ rfl
  obtain ⟨h2, hh2⟩ : ∃ h2, h2 = h'.push { cls := .type "list", data := .seq (as.map Value.ref).toArray } := ⟨_, rfl⟩
  rw [← hh2] at hob ⊢
  have ka : ∀ b o, h'.get? b = some o → h2.get? b = some o := fun b o e => by rw [hh2]; exact Heap.get?_push_of_some _ e
  have ne0 : ∀ b o, h'.get? b = some o → b ≠ h'.objs.size := fun b o e => Nat.ne_of_lt (Heap.lt_size e)
  obtain ⟨bs, hbs⟩ : ∃ bs, bs = as.zip ss := ⟨_, rfl⟩
  have b1 : bs.map (·.1) = as := by rw [hbs]; exact List.map_fst_zip (by omega)
  have b2 : bs.map (·.2) = ss := by rw [hbs]; exact List.map_snd_zip (by omega)
  have lb : bs.length = ss.length := by rw [← b2, List.length_map]
  have at_ : ∀ z ∈ bs, ∃ t t', h'.get? z.1 = some { cls := .type "tuple", data := .seq #[Value.str z.2.1 t, Value.str z.2.2 t'] } := fun z hz => by
    rw [hbs] at hz
    obtain ⟨j, hj⟩ := List.mem_iff_getElem?.mp hz
    obtain ⟨j1, j2⟩ := List.getElem?_zip_eq_some.mp hj
    obtain ⟨e, he, t, t', hg'⟩ := pr j z.1 j1
    rw [j2] at he
    cases he
    exact ⟨t, t', hg'⟩
  have ea : PySem.W.EachIs (fun v (z : Addr × Str × Str) => v = Value.ref z.1) (as.map Value.ref) bs := by
    rw [← b1, List.map_map]
    have key : ∀ l : List (Addr × Str × Str), PySem.W.EachIs (fun v (z : Addr × Str × Str) => v = Value.ref z.1) (l.map (Value.ref ∘ fun x => x.1)) l := by
      intro l
      induction l with
      | nil => exact .nil
      | cons z l ih => exact .cons rfl ih
    exact key bs
  have er : PySem.W.EachIs (fun v z => ∃ as', Reads h2 v (encP z) as' ∧ h'.objs.size ∉ as') (as.map Value.ref) bs := by
    have key : ∀ {ws : List (Addr × Str × Str)} {us : List Value}, (∀ z ∈ ws, ∃ as', Reads h2 (Value.ref z.1) (encP z) as' ∧ h'.objs.size ∉ as') → PySem.W.EachIs (fun v z => v = Value.ref z.1) us ws → PySem.W.EachIs (fun v z => ∃ as', Reads h2 v (encP z) as' ∧ h'.objs.size ∉ as') us ws := by
      intro ws us h1 h2
      induction h2 with
      | nil => exact .nil
      | cons r t ih => exact .cons (by rw [r]; exact h1 _ List.mem_cons_self) (ih fun z hz => h1 z (List.mem_cons_of_mem _ hz))
    refine key (fun z hz => ?_) ea
    obtain ⟨t, t', hg'⟩ := at_ z hz
    refine ⟨[], ?_, List.not_mem_nil⟩
    exact .tuple (ka _ _ hg') rfl rfl (.cons (.str _ _) (.cons (.str _ _) .nil))
  have hal : PySem.W.AllAlike (bs.map encP) := PySem.W.AllAlike.of fun b b' => by unfold encP; rw [PySem.W.alike, PySem.W.alikeAll, PySem.W.alikeAll, PySem.W.alikeAll, PySem.W.alike, PySem.W.alike]; rfl
  have hkk : PySem.W.Sortable (bs.map encP) := PySem.W.Sortable.tuples fun b => ⟨_, _, rfl⟩
  have ls : bs.length ≤ sizeLine := by rw [sizeLine_eq]; omega
  refine PySem.W.list_sort_data (s := { s2 with heap := h2, toks := tk }) (A := X.A.in1) (R := fun v z => v = Value.ref z.1) hob ea er hal hkk ls (fun b hb => ?_) fun out o1 o2 => ?_
  · unfold encP
    rw [PyData.depth, PyData.depthAll, PyData.depthAll, PyData.depthAll, PyData.depth, PyData.depth]
    show X.A.units + 1 + 1 + _ < cLine
    simp
    omega
  show EP X pins σ Q (.ref h'.objs.size) { s2 with heap := sortedHeap h2 h'.objs.size (as.map Value.ref) (List.toArray out), toks := tk }
  obtain ⟨zs, hzs⟩ : ∃ zs, zs = bs.mergeSort (PySem.W.dataLe false encP) := ⟨_, rfl⟩
  rw [← hzs] at o2
  have zp : zs.Perm bs := by rw [hzs]; exact List.mergeSort_perm _ _
  have kF : ∀ b o, b ≠ h'.objs.size → h2.get? b = some o → (sortedHeap h2 h'.objs.size (as.map Value.ref) (List.toArray out)).get? b = some o := fun b o hb e => (PyProof.Rows.sortedHeap_old hb (Heap.lt_size e)).trans e
  have kS : ∀ b o, s2.heap.get? b = some o → (sortedHeap h2 h'.objs.size (as.map Value.ref) (List.toArray out)).get? b = some o := fun b o e => kF b o (ne0 _ _ (hk b o e)) (ka b o (hk b o e))
  obtain ⟨eF, heF⟩ := PyProof.Rows.sortedHeap_at (vs := as.map Value.ref) (out := List.toArray out) hob
  have I3 : Inv X pins σ H1 { s2 with heap := sortedHeap h2 h'.objs.size (as.map Value.ref) (List.toArray out), toks := tk } := I2.kept (t' := tk) kS
  have hn0 : H1 h'.objs.size = none := I2.hok.fresh (Nat.le_of_lt hlt)
  have hlz : (zs.map fun z => V.ref z.1).length ≤ sizeLine := by rw [List.length_map, zp.length_eq]; exact ls
  have rv : Vals (zs.map fun z => V.ref z.1) out := by
    have key : ∀ {ws : List (Addr × Str × Str)} {us : List Value}, PySem.W.EachIs (fun v z => v = Value.ref z.1) us ws → Vals (ws.map fun z => V.ref z.1) us := by
      intro ws us h
      induction h with
      | nil => exact .nil
      | cons r t ih => exact .cons r ih
    exact key o2
  have I4 : Inv X pins σ (upd H1 h'.objs.size (.lst (zs.map fun z => V.ref z.1))) { s2 with heap := sortedHeap h2 h'.objs.size (as.map Value.ref) (List.toArray out), toks := tk } :=
    I3.take (h' := sortedHeap h2 h'.objs.size (as.map Value.ref) (List.toArray out)) (t' := tk) (fun b o _ e => e) (I2.fpOk (Nat.le_of_lt hlt) hn0) ⟨hlz, out, eF, rv, heF⟩
  -- the pairs
  obtain ⟨T, hT⟩ : ∃ T : Addr → List V, ∀ z ∈ bs, T z.1 = [.str z.2.1, .str z.2.2] := by
    refine ⟨fun b => match bs.find? (fun z => z.1 == b) with | some z => [.str z.2.1, .str z.2.2] | none => [], fun z hz => ?_⟩
    have nb : (bs.map (·.1)).Nodup := by rw [b1]; exact nd
    have key : ∀ l : List (Addr × Str × Str), (l.map (·.1)).Nodup → z ∈ l → l.find? (fun y => y.1 == z.1) = some z := by
      intro l
      induction l with
      | nil => exact fun _ h => absurd h List.not_mem_nil
      | cons y l ih =>
        intro hn hz
        rw [List.map_cons, List.nodup_cons] at hn
        rw [List.find?_cons]
        by_cases e : y.1 = z.1
        · have : (y.1 == z.1) = true := by simp [e]
          rw [this]
          rcases List.mem_cons.mp hz with rfl | hz
          · rfl
          · exact absurd (List.mem_map.mpr ⟨z, hz, e.symm⟩) hn.1
        · have : (y.1 == z.1) = false := by simp [e]
          rw [this]
          exact ih hn.2 ((List.mem_cons.mp hz).resolve_left fun q => e (by rw [q]))
    have := key bs nb hz
    dsimp only
    rw [this]
  obtain ⟨H2, I5, g, all⟩ := take_frz (T := T) I2 (zs.map (·.1)) _ I4 ((zp.map (·.1)).nodup_iff.mpr (by rw [b1]; exact nd)) fun b hb => by
    obtain ⟨z, hz, rfl⟩ := List.mem_map.mp hb
    have hzb := zp.mem_iff.mp hz
    obtain ⟨t, t', hg'⟩ := at_ z hzb
    have hbl : s2.heap.objs.size ≤ z.1 := Nat.le_of_lt (hG.above z.1 (by rw [← b1]; exact List.mem_map.mpr ⟨z, hzb, rfl⟩))
    refine ⟨hbl, ?_, { cls := .type "tuple", data := .seq #[Value.str z.2.1 t, Value.str z.2.2 t'] }, rfl, fun H3 => ?_⟩
    · rw [upd_ne (ne0 _ _ hg')]
      exact I2.hok.fresh hbl
    · have e := kF _ _ (ne0 _ _ hg') (ka _ _ hg')
      rw [hT z hzb]
      exact ⟨e, (by rw [sizeLine_eq]; show 2 ≤ 16777216; omega), [Value.str z.2.1 t, Value.str z.2.2 t'], .cons ⟨t, rfl⟩ (.cons ⟨t', rfl⟩ .nil), ⟨_, e, rfl, 0, rfl⟩⟩
  refine ⟨.ref h'.objs.size, H2, I5, rfl, q H2 h'.objs.size zs (fun b o e => g b o (by rw [upd_ne (ne_of_none e hn0)]; exact e)) ?_ hn0 (g _ _ upd_same) fun z hz => ?_⟩
  · rw [← b2, hzs]
    exact List.map_mergeSort (f := fun z : Addr × Str × Str => z.2) (r := PySem.W.dataLe false encP) (s := leP) (fun a _ b _ => rfl)
  · have hzb := zp.mem_iff.mp hz
    obtain ⟨o, h1, h2'⟩ := all z.1 (List.mem_map.mpr ⟨z, hz, rfl⟩)
    rw [hT z hzb] at h2'
    have hbl : s2.heap.objs.size ≤ z.1 := Nat.le_of_lt (hG.above z.1 (by rw [← b1]; exact List.mem_map.mpr ⟨z, hzb, rfl⟩))
    exact ⟨I2.hok.fresh hbl, o, h1, h2'⟩
def tMaxVals (td : TE) : TE := fun σ H Q => td σ H fun x H1 => ∃ (a : Addr) (kvs : List (Key × V)) (is : List Int), x = V.ref a ∧ Rd H1 a (.dK kvs) ∧ kvs.map (·.2) = is.map V.int ∧ is ≠ [] ∧ ∀ m, m ∈ is → (∀ j ∈ is, j ≤ m) → Q (.int m) H1
theorem pe_maxVals {o : Expr} {td : TE} {p apos mpos pos : Pos} (hc : X.calm = true) (hg : Gl X "max") (hm : X.mg "max" = none) (hd : PE X o td) (hbase : attributeBase o "values" X.env (eval o X.env) = eval o X.env := by rfl) (hline : (apos.endLine == mpos.line) = true := by rfl)
    (hse : starEach [Expr.Call (.Attribute o "values" apos) [] [] mpos] X.env = [(false, eval (Expr.Call (.Attribute o "values" apos) [] [] mpos) X.env)] := by rfl) :
    PE X (.Call (.Name "max" p) [.Call (.Attribute o "values" apos) [] [] mpos] [] pos) (tMaxVals td) := by
  refine ⟨fun pins s σ H Q I h => ?_⟩
  refine wpAny_Call_Name_kw (ld_blt I hg hm (u := .builtin "max") (by first | rfl | decide +kernel) ?_ (by first | decide +kernel | decide) (by first | decide +kernel | decide))
  rw [hse]
  refine PySem.callWith_builtin1 (wpAny_Call_method0_late hbase hline (thn (hd.run pins s σ H _ I h) fun v s1 ⟨x, H1, I1, r1, a, kvs, is, ex, ha, hv, hne, q⟩ => ?_))
  subst ex
  obtain rfl : v = Value.ref a := r1
  obtain ⟨_, hsys, vs, rel, dof⟩ := dk_rd I1.hok ha
  obtain ⟨ep, dat⟩ := dof.dictAt
  obtain ⟨ob, es, ho, hx, _⟩ := id dat
  refine ⟨"dict", "dict.values", F.plainAttrs_dict, F.slot_dict_values, F.type_dict_values, ⟨ob, ho, hx.1⟩, fun b e => ?_, Calls.callWith_builtin rfl (PySem.evalArgs_none ?_)⟩
  · cases e
    exact ⟨ob, ho, hx.2.1⟩
  refine call_meetsIn F.slot_dict_values ⟨ob, ho, hx.1⟩ F.entry_dict_values (F.args_dict_values_1 _) (meets_dict_values (mixKind X.prog X.w) a hsys) ⟨⟨vs, dof⟩, ?_⟩
  obtain ⟨h1, hh1⟩ : ∃ h1, h1 = s1.heap.push { cls := .type "dict_values", data := .fields #[.ref a] } := ⟨_, rfl⟩
  rw [← hh1]
  have k1 : ∀ b u, s1.heap.get? b = some u → h1.get? b = some u := fun b u e => by rw [hh1]; exact Heap.get?_push_of_some _ e
  have dat1 : h1.DictAt (mixKind X.prog X.w) a vs ep := dat.keep k1
  have lv : vs.length = is.length := by
    have e1 := congrArg List.length hv
    rw [List.length_map, List.length_map] at e1
    rw [← e1]
    exact (KV.length rel).symm
  have lpos : 0 < vs.length := by rw [lv]; exact List.length_pos_iff.mpr hne
  have val : ∀ (i : Nat) (v : Value), (∃ k, vs[i]? = some (k, v)) → ∃ t, v = Value.int (is.getD i 0) t := fun i v ⟨k, hk⟩ => by
    obtain ⟨x, g1, g2⟩ := KV.at' rel hk
    have e1 : (kvs.map (·.2))[i]? = some x := by rw [List.getElem?_map, g1]; rfl
    rw [hv, List.getElem?_map] at e1
    obtain ⟨j, hj, rfl⟩ := Option.map_eq_some_iff.mp e1
    obtain ⟨t, e3⟩ := g2
    exact ⟨t, by rw [e3, List.getD_eq_getElem?_getD, hj]; rfl⟩
  have sz1 : h1.objs.size = s1.heap.objs.size + 1 := by rw [hh1]; exact Heap.size_push _ _
  have gv : h1.get? s1.heap.objs.size = some { cls := .type "dict_values", data := .fields #[.ref a] } := by rw [hh1]; exact Heap.get?_push_size _ rfl
  refine call_max_walk (wpAny_pyIter_values (v := s1.heap.objs.size) (d := a) ⟨_, gv, rfl, rfl⟩ dat1 ?_)
  have hlt : a < s1.heap.objs.size := Heap.lt_size ho
  refine ⟨_, _, _, _, _, _, _, rfl, Walks.dictValues (knd := mixKind X.prog X.w) (A := X.A.in1) (I.ok.hd hc) h1.objs.size a (by rw [sz1]; exact Nat.ne_of_lt (Nat.lt_succ_of_lt hlt)) vs ep,
    ⟨⟨_, Heap.get?_push_size _ rfl, rfl, rfl⟩, dat1.keep fun b u e => Heap.get?_push_of_some _ e⟩, fun b hb => ?_, lpos, CmpOf.ints_gt (fun i => is.getD i 0) val, fun v h' tk hP hk => ?_⟩
  · show b < (h1.push _).objs.size
    rw [Heap.size_push]
    rcases List.mem_cons.mp hb with e | hb
    · rw [e]; exact Nat.lt_succ_self _
    · rw [List.mem_singleton.mp hb]
      exact Nat.lt_succ_of_lt (by rw [sz1]; exact Nat.lt_succ_of_lt hlt)
  · obtain ⟨t, rfl⟩ := val _ v hP
    obtain ⟨b1, b2⟩ := argBest_gt (fun i => is.getD i 0) (vs.length - 1)
    refine ⟨.int _, H1, I1.kept (t' := tk) fun b u e => hk b u (fun hmem => ?_) (Heap.get?_push_of_some _ (k1 b u e)), ⟨t, rfl⟩, q _ ?_ fun j hj => ?_⟩
    · have e1 := List.mem_singleton.mp hmem
      have e2 := Heap.lt_size e
      rw [e1, sz1] at e2
      exact absurd e2 (Nat.not_lt.mpr (Nat.le_succ _))
    · have hb : argBest (fun i j => decide (is.getD i 0 > is.getD j 0)) (vs.length - 1) < is.length := by omega
      rw [List.getD_eq_getElem?_getD, List.getElem?_eq_getElem hb]
      exact List.getElem_mem hb
    · obtain ⟨i, hi, rfl⟩ := List.mem_iff_getElem.mp hj
      have e2 : is.getD i 0 = is[i] := by rw [List.getD_eq_getElem?_getD, List.getElem?_eq_getElem hi]; rfl
      rw [← e2]
      exact b2 i (by omega)
end
end Low
end
section
set_option Elab.async false
set_option linter.all false
set_option maxRecDepth 100000
set_option maxHeartbeats 2000000
open PySem PySem.Spec PyProof.Rows L2
namespace Sim
/-! sorted(d.items()); max(d.values()) -/
section
variable {K : PySem.W.Frag} {G : Gm} {H H' : Hp}
/-- more objects than were -/
theorem Ext.grow (w : World K G H) (g : ∀ b o, H b = some o → H' b = some o) : Ext G H G H' := by
  refine ⟨fun _ _ e => e, fun a o _ e => .inl (g a o e), fun _ z => .inl z, fun a e => ?_, rfl, fun a ha => ?_⟩
  · cases q : H a with
    | none => rfl
    | some o => rw [g a o q] at e; cases e
  · cases q : H a with
    | none => exact absurd q (w.hd a ha).1
    | some o => exact g a o q
theorem World.grow (w : World K G H) (g : ∀ b o, H b = some o → H' b = some o) : World K G H' := by
  have up : ∀ a, H a ≠ none → H' a = H a := fun a ha => by
    cases q : H a with
    | none => exact absurd q ha
    | some o => exact g a o q
  refine ⟨w.len, w.nd, fun a ha => by rw [up a (w.tr a ha)]; exact w.tr a ha, fun a ha => ⟨by rw [up a (w.hd a ha).1]; exact (w.hd a ha).1, (w.hd a ha).2⟩, fun i a ob e1 e2 => ?_⟩
  exact (w.at' i a ob e1 e2).mono (Ext.grow w g) (up a (w.tr a (List.mem_of_getElem? e1)))
def ssOf : List (Key × W) → Option (List (Str × Str))
  | [] => some []
  | (.inr x, .str y) :: r => (ssOf r).map ((x, y) :: ·)
  | _ => none
theorem ssOf_eq : ∀ {kws : List (Key × W)} {ss : List (Str × Str)}, ssOf kws = some ss → kws = ss.map fun e => (Sum.inr e.1, W.str e.2)
  | [], _, e => by cases e; rfl
  | (k, w) :: r, ss, e => by
    cases k with
    | inl i => cases w <;> simp [ssOf] at e
    | inr x =>
      cases w with
      | str y =>
        rw [ssOf] at e
        cases q : ssOf r with
        | none => rw [q] at e; cases e
        | some t => rw [q] at e; cases e; rw [List.map_cons, ← ssOf_eq q]
      | _ => simp [ssOf] at e
theorem RepK.ss : ∀ {ss : List (Str × Str)} {kvs : List (Key × V)}, RepK K G H (ss.map fun e => (Sum.inr e.1, W.str e.2)) kvs → kvs = ss.map fun e => (Sum.inr e.1, V.str e.2)
  | [], _, h => by cases h; rfl
  | e :: ss, _, h => by
    cases h with
    | cons a b => rw [a.str_inv, RepK.ss b]; rfl
def ivOf : List (Key × W) → Option (List Int)
  | [] => some []
  | (_, .int i) :: r => (ivOf r).map (i :: ·)
  | _ => none
theorem RepK.iv : ∀ {kws : List (Key × W)} {kvs : List (Key × V)} {is : List Int}, RepK K G H kws kvs → ivOf kws = some is → kvs.map (·.2) = is.map V.int
  | [], _, is, h, e => by cases h; cases e; rfl
  | (k, w) :: r, _, is, h, e => by
    cases h with
    | cons a b =>
      cases w with
      | int i =>
        rw [ivOf] at e
        cases q : ivOf r with
        | none => rw [q] at e; cases e
        | some t => rw [q] at e; cases e; rw [List.map_cons, List.map_cons, a.int_inv, RepK.iv b q]
      | _ => simp [ivOf] at e
def eSortIt (m : EM) : EM := fun ρ st => (m ρ st).bind fun x st1 => match (dicX st1 x).bind ssOf with
  | some ss => if ss.length ≤ 1000 then .ok (.lst ((ss.mergeSort Low.leP).map fun e => .tup [.str e.1, .str e.2])) st1 else .no
  | none => .no
def eMaxVals (m : EM) : EM := fun ρ st => (m ρ st).bind fun x st1 => match (dicX st1 x).bind ivOf with
  | some is => if is ≠ [] then .ok (.int (maxI is)) st1 else .no
  | none => .no
variable {X : Cx} {Wx : WX}
theorem ce_sortIt {o : Expr} {te : TE} {m : EM} {p apos mpos pos : Pos} (hc : X.calm = true) (hu : X.A.units + 64 < cLine) (hg : Gl X "sorted") (hm : X.mg "sorted" = none) (h : CE X Wx o te m) (hbase : attributeBase o "items" X.env (eval o X.env) = eval o X.env := by rfl) (hline : (apos.endLine == mpos.line) = true := by rfl)
    (hse : starEach [Expr.Call (.Attribute o "items" apos) [] [] mpos] X.env = [(false, eval (Expr.Call (.Attribute o "items" apos) [] [] mpos) X.env)] := by rfl) :
    CE X Wx (.Call (.Name "sorted" p) [.Call (.Attribute o "items" apos) [] [] mpos] [] pos) (Low.tSortIt te) (eSortIt m) := by
  refine ⟨Low.pe_sortIt hc hu hg hm h.pe hbase hline hse, fun G H ρ σ Q w r hp => ?_⟩
  refine h.sem G H ρ σ _ w r (PostR.bind hp fun x st1 ls1 H1 v he e1 w1 rv h1 => ?_)
  clear he
  split at h1
  · rename_i ss hs
    split at h1
    · rename_i hl
      cases hd : dicX st1 x with
      | none => rw [hd] at hs; cases hs
      | some kws =>
        rw [hd] at hs
        obtain ⟨a, kvs, rfl, rd, rk⟩ := dic_rd (G := G.to ls1 st1) w1 rv hd
        rw [ssOf_eq hs] at rk
        have ek := rk.ss
        subst ek
        refine ⟨a, ss, rfl, rd, hl, fun H' l zs g hz hn hl' hall => ?_⟩
        have key : ∀ L : List (Addr × Str × Str), (∀ z ∈ L, z ∈ zs) → RepL X.K (G.to ls1 st1) H' ((L.map (·.2)).map fun e : Str × Str => W.tup [.str e.1, .str e.2]) (L.map fun z => V.ref z.1) := by
          intro L
          induction L with
          | nil => exact fun _ => .nil
          | cons z L ih =>
            intro hL
            obtain ⟨q1, o, q2, q3⟩ := hall z (hL z List.mem_cons_self)
            exact .cons (.tup (.inl ⟨⟨o, q2, q3⟩, w1.nal q1⟩) (.cons (.str _) (.cons (.str _) .nil))) (ih fun y hy => hL y (List.mem_cons_of_mem _ hy))
        have rl := key zs fun z hz => hz
        rw [hz] at rl
        exact h1 ls1 H' (.ref l) (Ext.grow w1 g) (w1.grow g) (.lst ⟨hl', w1.nal hn⟩ rl)
    · exact h1.elim
  · exact h1.elim
theorem ce_maxVals {o : Expr} {te : TE} {m : EM} {p apos mpos pos : Pos} (hc : X.calm = true) (hg : Gl X "max") (hm : X.mg "max" = none) (h : CE X Wx o te m) (hbase : attributeBase o "values" X.env (eval o X.env) = eval o X.env := by rfl) (hline : (apos.endLine == mpos.line) = true := by rfl)
    (hse : starEach [Expr.Call (.Attribute o "values" apos) [] [] mpos] X.env = [(false, eval (Expr.Call (.Attribute o "values" apos) [] [] mpos) X.env)] := by rfl) :
    CE X Wx (.Call (.Name "max" p) [.Call (.Attribute o "values" apos) [] [] mpos] [] pos) (Low.tMaxVals te) (eMaxVals m) := by
  refine ⟨Low.pe_maxVals hc hg hm h.pe hbase hline hse, fun G H ρ σ Q w r hp => ?_⟩
  refine h.sem G H ρ σ _ w r (PostR.bind hp fun x st1 ls1 H1 v he e1 w1 rv h1 => ?_)
  clear he
  split at h1
  · rename_i is hs
    split at h1
    · rename_i hne
      cases hd : dicX st1 x with
      | none => rw [hd] at hs; cases hs
      | some kws =>
        rw [hd] at hs
        obtain ⟨a, kvs, rfl, rd, rk⟩ := dic_rd (G := G.to ls1 st1) w1 rv hd
        refine ⟨a, kvs, is, rfl, rd, rk.iv hs, hne, fun m hm hle => ?_⟩
        obtain ⟨q1, q2⟩ := maxI_mem hne
        have : m = maxI is := Int.le_antisymm (q2 m hm) (hle _ q1)
        subst this
        exact PostR.ok (G := G.to ls1 st1) w1 h1 (.int _)
    · exact h1.elim
  · exact h1.elim
/-! worked out -/
variable {ρ : Ev} {st : Stt}
def siW (s : Stt) (o : Option (List (Str × Str))) : Rs W := match o with | some ss => if ss.length ≤ 1000 then .ok (.lst ((ss.mergeSort Low.leP).map fun e => .tup [.str e.1, .str e.2])) s else .no | none => .no
@[simp] theorem siW_some (ss : List (Str × Str)) : siW st (some ss) = if ss.length ≤ 1000 then .ok (.lst ((ss.mergeSort Low.leP).map fun e => .tup [.str e.1, .str e.2])) st else .no := id rfl
def siK (r : Rs W) : Rs W := match r with | .ok a s => siW s ((dicX s a).bind ssOf) | .er x s => .er x s | .no => .no
@[simp] theorem siK_ok (a : W) : siK (.ok a st) = siW st ((dicX st a).bind ssOf) := id rfl
@[simp] theorem ev_sortIt (m : EM) : eSortIt m ρ st = siK (m ρ st) := by unfold eSortIt siK siW; cases m ρ st <;> rfl
def mvW (s : Stt) (o : Option (List Int)) : Rs W := match o with | some is => if is ≠ [] then .ok (.int (maxI is)) s else .no | none => .no
@[simp] theorem mvW_some (is : List Int) : mvW st (some is) = if is ≠ [] then .ok (.int (maxI is)) st else .no := id rfl
def mvK (r : Rs W) : Rs W := match r with | .ok a s => mvW s ((dicX s a).bind ivOf) | .er x s => .er x s | .no => .no
@[simp] theorem mvK_ok (a : W) : mvK (.ok a st) = mvW st ((dicX st a).bind ivOf) := id rfl
@[simp] theorem ev_maxVals (m : EM) : eMaxVals m ρ st = mvK (m ρ st) := by unfold eMaxVals mvK mvW; cases m ρ st <;> rfl
theorem ssOf_map (ss : List (Str × Str)) : ssOf (ss.map fun e => (Sum.inr e.1, W.str e.2)) = some ss := by
  induction ss with
  | nil => rfl
  | cons e r ih => rw [List.map_cons, ssOf, ih]; rfl
/-- pairs by their first texts -/
theorem leP_heads {e f : Str × Str} (h : e.1 ≠ f.1) (hl : leS e.1 f.1 = true) : Low.leP e f = true := by
  show (!PySem.W.dataLt (.tuple [.str f.1, .str f.2]) (.tuple [.str e.1, .str e.2])) = true
  rw [PySem.W.dataLt_tuple, PySem.W.dataLt_cons (by rw [PySem.W.alike])]
  have q : PyData.eqv (.str f.1) (.str e.1) = false := by
    simp only [PyData.eqv]
    simp
    exact fun z => h z.symm
  rw [if_neg (by rw [q]; exact Bool.false_ne_true), PySem.W.dataLt_str]
  exact hl
end
end Sim
end
section
set_option Elab.async false
set_option linter.all false
set_option maxRecDepth 100000
set_option maxHeartbeats 2000000
namespace Low
open PySem PySem.Spec PyProof.Rows L2
/-! enumerate over a tuple -/
theorem meets_enumT (l : Addr) (items : Array Value) :
    Meets (Builtin.«enumerate.__new__» ⟨[.type "enumerate", .ref l], []⟩) (fun _ R s => s.heap.IsTuple l items ∧
      R (.ok (.ret (.ref (s.heap.push { cls := .type "tuple_iterator", data := .fields #[.ref l, .int 0 0] }).objs.size)))
        { s with heap := (s.heap.push { cls := .type "tuple_iterator", data := .fields #[.ref l, .int 0 0] }).push { cls := .type "enumerate", data := .fields #[.none, .bool false, .ref s.heap.objs.size, rawInt 0, .none, .none] } }) :=
  .of_wp fun prog w A R s h => by
    obtain ⟨hp, g, d, tk, os⟩ := s; obtain ⟨h1, h⟩ := h
    have hsub := sub_enumerate
    have q1 : ∀ {A' : Around} {E : Value → Shared → Prop} {Q : Value → Shared → Prop}, Q (.ref hp.objs.size) ⟨hp.push { cls := .type "tuple_iterator", data := .fields #[.ref l, .int 0 0] }, g, d, tk, os⟩ → wpAny (model prog w) A' (pyIter (.ref l)) Q E ⟨hp, g, d, tk, os⟩ :=
      fun q => wpAny_pyIter_tuple (s := ⟨hp, g, d, tk, os⟩) h1 q
    wp_walk using q1
    refine wpAny_stack_any fun st => wpAny_pure ?_
    split
    · rename_i c _ _ _ _ _
      cases (c == Value.type "enumerate")
      · wp_walk using q1
        exact ⟨_, rfl, h⟩
      · wp_walk using q1
        exact ⟨_, rfl, h⟩
    · wp_walk using q1
      exact ⟨_, rfl, h⟩
section
variable {prog : Program} {w : World} {A : Around} {E : Value → Shared → Prop} {s : Shared}
theorem call_enumT {l : Addr} {items : Array Value} {Q : Value → Shared → Prop} (hL : s.heap.IsTuple l items)
    (h : ∀ h', IsEnum h' (s.heap.objs.size + 1) s.heap.objs.size 0 .none → h'.IsTupleIter s.heap.objs.size l 0 → h'.objs.size = s.heap.objs.size + 2 →
      (∀ b o, s.heap.get? b = some o → h'.get? b = some o) → Q (.ref (s.heap.objs.size + 1)) { s with heap := h' }) :
    wpAny (model prog w) A (call (.type "enumerate") [.ref l]) Q E s := by
  refine callType_new F.called_enumerate (by decide) (F.typeCall_enumerate_1 _) (F.newCall_enumerate_1 _) (fun obj => F.args_object_init_2 obj _) F.entry_enumerate_new
    (meets_enumT l items) ⟨hL, ?_⟩
  have hz : (s.heap.push { cls := .type "tuple_iterator", data := .fields #[.ref l, .int 0 0] }).objs.size = s.heap.objs.size + 1 := Heap.size_push ..
  show _ ∧ _
  rw [hz]
  have he : IsEnum ((s.heap.push { cls := .type "tuple_iterator", data := .fields #[.ref l, .int 0 0] }).push
      { cls := .type "enumerate", data := .fields #[.none, .bool false, .ref s.heap.objs.size, rawInt 0, .none, .none] }) (s.heap.objs.size + 1) s.heap.objs.size 0 .none := by
    have := Heap.get?_push_size (s.heap.push { cls := .type "tuple_iterator", data := .fields #[.ref l, .int 0 0] })
      (o := { cls := .type "enumerate", data := .fields #[.none, .bool false, .ref s.heap.objs.size, rawInt 0, .none, .none] }) rfl
    rw [hz] at this; exact this
  refine ⟨⟨_, he, rfl⟩, h _ he ⟨_, Heap.get?_push_of_some _ (Heap.get?_push_size _ rfl), rfl, rfl⟩ (by rw [Heap.size_push, hz]) fun b o x => Heap.get?_push_of_some _ (Heap.get?_push_of_some _ x)⟩
theorem next_enumT_end {e it t : Addr} {items : Array Value} {i : Nat} {k : Int} {old : Value} {Q : Option Value → Shared → Prop} (hh : A.handled = none)
    (he : IsEnum s.heap e it k old) (hit : s.heap.IsTupleIter it t i) (ht : s.heap.IsTuple t items) (hx : items[i]? = none)
    (hQ : ∀ h', Heap.ExtBut it s.heap h' → Q none { s with heap := h' }) : wpAny (model prog w) A (pyNext (.ref e)) Q E s := by
  have hT : s.TypeIs (.ref e) "enumerate" := ⟨_, he, rfl⟩
  unfold pyNext
  refine wpAny_bind (wpAny_attempt (wpAny_callSpecial?_slot (name := Str.ofString "__next__") hT F.slot_enumerate_next
    (wpAny_call_entry F.slot_enumerate_next hT F.entry_enumerate_next ?_ (F.args_enumerate_next_1 _))))
  show wpAny _ _ (field (.ref e) 2 >>= _) _ _ _
  refine wpAny_bind (wpAny_field he rfl (x := .ref it) rfl ?_)
  refine wpAny_bind (wpAny_nextOf_tuple_end (by first | rw [show A.in1.handled = none from hh] | exact hh) hit ht hx fun h' x he' hx' => ?_)
  obtain ⟨o, ho, hc⟩ := hx'
  refine wpAny_bind (wpAny_isInstance (T := "StopIteration") (b := true) ⟨o, ho, hc⟩ isSubtype_stop ?_)
  exact wpAny_pure (hQ _ he')
end
/-- the tuple at a, each item in a new pair -/
def IteT (K : PySem.W.Frag) (a : Addr) : It :=
  ⟨fun i H => ∃ (xs : List V) (x : V), SqT K H a xs ∧ xs[i]? = some x, fun i H v H' => ∃ T x, v = .ref T ∧ H T = none ∧ H' = upd H T (.tup [.int (i : Nat), x]) ∧ ∀ xs, SqT K H a xs → xs[i]? = some x, fun i H => ∃ xs : List V, SqT K H a xs ∧ xs.length ≤ i⟩
theorem turn_enumT {P : Program} {w : World} {K : PySem.W.Frag} {elts : List Expr} {kk : Nat} {tpos : Pos} (a e it : Addr) :
    Turn P w K (.Tuple elts kk tpos) (IteT K a) [e, it] e (fun i h => (∃ old, IsEnum h e it ((i : Nat) : Int) old) ∧ h.IsTupleIter it a i ∧ e ≠ it) where
  mem := by simp
  obj := fun i h st b hb => by
    obtain ⟨⟨old, he⟩, ⟨o, ho, hc, hd⟩, _⟩ := st
    have e' : b = e ∨ b = it := by simpa using hb
    rcases e' with z | z
    · rw [z]; exact ⟨_, he, fun v q => nomatch q⟩
    · rw [z]; exact ⟨o, ho, fun v q => by rw [hd] at q; cases q⟩
  keep := fun i h h' st k => let ⟨⟨old, he⟩, hi, hne⟩ := st; ⟨⟨old, k e (by simp) _ he⟩, hi.at fun o q => k it (by simp) o q, hne⟩
  item := by
    intro X hP hw hK hc i pins s σ H E I hf st hg
    subst hP hw hK
    obtain ⟨⟨old, he⟩, hit, hne⟩ := st
    obtain ⟨xs, x, hq, hx⟩ := hg
    obtain ⟨its, rv, p, hz⟩ := I.tuple hq
    obtain ⟨u, hu, ru⟩ := rv.get hx
    have pt : s.heap.IsTuple a its.toArray := p
    have hel : e < s.heap.objs.size := Heap.lt_size he
    have hil : it < s.heap.objs.size := by obtain ⟨_, q, _⟩ := hit; exact Heap.lt_size q
    have hai : a ≠ it := fun z => by
      obtain ⟨o, ho, hc, _⟩ := hit
      obtain ⟨o', ho', hc', _⟩ := pt
      rw [z, ho] at ho'; cases ho'
      rw [hc] at hc'; injection hc' with q; exact absurd q (by decide)
    have hea : e ≠ a := fun z => by
      obtain ⟨o', ho', hc', _⟩ := pt
      rw [← z] at ho'
      have he' := he
      unfold IsEnum at he'
      rw [he'] at ho'; cases ho'
      injection hc' with q; exact absurd q (by decide)
    have hil2 : i < its.toArray.size := by
      rw [List.size_toArray]
      exact (List.getElem?_eq_some_iff.mp hu).1
    refine wpAny_pyNext_enum_itemD (Draws.tuple (A := X.A.in1) (I.ok.hd hc) it a hai its.toArray) he ⟨hit, pt⟩ hil2 hne (by simp; exact ⟨hne, hea⟩) fun x' h' tk hP ho hit' hT hsz hk => ?_
    have hxu : x' = u := by
      have hP : its.toArray[i]? = some x' := hP
      rw [List.getElem?_toArray, hu] at hP
      exact (Option.some.inj hP).symm
    subst hxu
    refine ⟨_, rfl, wpAny_letOwnedTupleGo_enum (s := { s with heap := h', toks := tk + 1 }) ho fun h'' he' sb => ?_⟩
    have hT2 : h''.get? s.heap.objs.size = some { cls := .type "tuple", data := .seq #[.int i tk, x'] } := (sb.2 _ (Nat.ne_of_gt hel)).trans hT
    have new : ObjOk X.prog X.w (upd H s.heap.objs.size (.tup [.int (i : Nat), x])) h'' s.heap.objs.size (.tup [.int (i : Nat), x]) :=
      ⟨by show 2 ≤ sizeLine; decide, [.int i tk, x'], .cons ⟨_, rfl⟩ (.cons ru .nil), ⟨_, hT2, rfl, _, rfl⟩⟩
    have I1 : Inv X pins σ (upd H s.heap.objs.size (.tup [.int (i : Nat), x])) { s with heap := h'', toks := tk + 1 } :=
      I.turnedNew (ch := [e, it]) (fun b ob hb q => (sb.2 b (fun z => hb (by simp [z]))).trans (hk b ob (fun z => hb (by simp [z])) (fun z => hb (by simp [z])) q)) hf (Nat.le_refl _) new
    refine ⟨.ref s.heap.objs.size, _, I1, rfl, ⟨_, x, rfl, I.hok.fresh (Nat.le_refl _), rfl, fun ys hy => by rw [I.tuple_inj hy hq]; exact hx⟩, ⟨⟨x', ?_⟩, hit'.1.at fun o q => (sb.2 it (Ne.symm hne)).trans q, hne⟩, fun b hb => ?_⟩
    · have e1 : ((i + 1 : Nat) : Int) = (i : Int) + 1 := by omega
      rw [e1]; exact he'
    · have hb' : b < s.heap.objs.size := by
        have e' : b = e ∨ b = it := by simpa using hb
        rcases e' with z | z
        · rw [z]; exact hel
        · rw [z]; exact hil
      rw [upd_ne (Nat.ne_of_lt hb')]
      exact (hf b hb).1
  done := by
    intro X hP hw hK hc i pins s σ H E I hf st hg
    subst hP hw hK
    obtain ⟨⟨old, he⟩, hit, hne⟩ := st
    obtain ⟨xs, hq, hx⟩ := hg
    obtain ⟨its, rv, p, hz⟩ := I.tuple hq
    obtain ⟨f0, f1, f2, f3, f4, f5⟩ := hf it (by simp)
    have hl := rv.length
    have pt : s.heap.IsTuple a its.toArray := p
    exact next_enumT_end (I.ok.hd hc) he hit pt (by simp; omega) fun h' eb => ⟨rfl, I.turned (t' := s.toks) (fun b o hb q => eb b o hb q) f0 f1 f3 f4 f5⟩
  self := fun A i s Q E st h => let ⟨⟨_, he⟩, _⟩ := st; wpAny_pyIter_enum he h
def iEnumT (K : PySem.W.Frag) (ta : TA) : TI := fun σ H R => ta σ H fun vs H1 => ∃ a xs, vs = [.ref a] ∧ SqT K H1 a xs ∧ R (IteT K a) H1
theorem pi_enumT {X : Cx} {e : Expr} {ta : TA} {p pos tpos : Pos} {elts : List Expr} {kk : Nat} (hg : Gl X "enumerate") (hm : X.mg "enumerate" = none) (ha : PA X [e] ta) (hs : starEach [e] X.env = [(false, eval e X.env)] := by rfl) :
    PI X (.Tuple elts kk tpos) (.Call (.Name "enumerate" p) [e] [] pos) (iEnumT X.K ta) := by
  refine ⟨fun pins s σ H R I h => ?_⟩
  refine Call_ (ld_blt I hg hm boot_enumerate (PyProof.Rows.callWith_type1 (thn (ha.run pos pins s σ H _ I h) fun us s1 ⟨vs, H1, I1, r1, q1⟩ => ?_) hs rfl))
  obtain ⟨a, xs, ex, hq, q⟩ := q1
  subst ex
  cases r1 with
  | cons r rr =>
    cases rr
    cases r
    obtain ⟨its, rv, p', hz⟩ := I1.tuple hq
    refine call_enumT (show s1.heap.IsTuple a its.toArray from p') fun h' he hit hsz hk => wpAny_pyIter_enum he ?_
    have I2 : Inv X pins σ H1 { s1 with heap := h' } := I1.kept (t' := s1.toks) hk
    refine ⟨s1.heap.objs.size + 1, [s1.heap.objs.size + 1, s1.heap.objs.size], _, _, H1, rfl, I2, turn_enumT a (s1.heap.objs.size + 1) s1.heap.objs.size, ⟨⟨.none, he⟩, hit, Nat.succ_ne_self _⟩, fun b hb => ?_, q⟩
    have e' : b = s1.heap.objs.size + 1 ∨ b = s1.heap.objs.size := by simpa using hb
    have hle : s1.heap.objs.size ≤ b := by
      rcases e' with z | z
      · rw [z]; exact Nat.le_add_right _ _
      · rw [z]; exact Nat.le_refl _
    exact I1.fpOk hle (I1.hok.fresh hle)
end Low
end
section
set_option Elab.async false
set_option linter.all false
set_option maxRecDepth 100000
set_option maxHeartbeats 2000000
open PySem PySem.Spec PyProof.Rows L2
namespace Sim
section
variable {X : Cx} {Wx : WX} {ρ : Ev} {st : Stt}
/-- enumerate over a tuple -/
def iEnumT (ms : AM) : IM := fun ρ st => (ms ρ st).bind fun ws st1 => match ws with
  | [.tup xs] => .ok ⟨xs.zipIdx.map fun p => .prs [.int (p.2 : Int), p.1], fun _ => True⟩ st1
  | _ => .no
theorem ci_enumT {e : Expr} {ta : TA} {ms : AM} {p pos tpos : Pos} {elts : List Expr} {kk : Nat} (hg : Gl X "enumerate") (hm : X.mg "enumerate" = none) (ha : CA X Wx [e] ta ms) (hs : starEach [e] X.env = [(false, eval e X.env)] := by rfl) :
    CI X Wx (.Tuple elts kk tpos) (.Call (.Name "enumerate" p) [e] [] pos) (Low.iEnumT X.K ta) (iEnumT ms) := by
  refine ⟨Low.pi_enumT hg hm ha.pe hs, fun G H ρ σ R w r hp => ?_⟩
  refine ha.sem G H ρ σ _ w r (PostR.bind hp fun ws st1 ls1 H1 vs he e1 w1 rv h1 => ?_)
  clear he
  split at h1
  · rename_i xs
    obtain ⟨v, rfl, rx⟩ := rv.one
    obtain ⟨a, vs, rfl, sq, _⟩ := tup_sq rx
    refine ⟨a, vs, rfl, sq, PostR.ok (G := G.to ls1 st1) w1 h1 fun G H z wo hok i => ?_⟩
    obtain ⟨a', vs', ea, sq', rl⟩ := tup_sq (rx.less z)
    cases ea
    refine ⟨fun w hw => ?_, fun hl => ⟨vs', sq', by rw [← rl.length]; simpa using hl⟩⟩
    rw [List.getElem?_map, List.getElem?_zipIdx] at hw
    cases eq : xs[i]? with
    | none => rw [eq] at hw; cases hw
    | some q =>
      rw [eq] at hw
      simp only [Option.map_some, Option.some.injEq, Nat.zero_add] at hw
      subst hw
      obtain ⟨v, ev, rv⟩ := rl.get eq
      refine ⟨⟨vs', v, sq', ev⟩, fun y H' hy => ?_⟩
      obtain ⟨T, x1, rfl, nT, rfl, f1⟩ := hy
      have : v = x1 := Option.some.inj (ev.symm.trans (f1 _ sq'))
      subst v
      have x' := Ext.new (o := .tup [.int (i : Int), x1]) wo nT
      exact ⟨x', wo.new nT, .prs ⟨.inl upd_same, wo.nal nT⟩ (.cons (.int _) (.cons (rv.mono x') .nil))⟩
  · exact h1.elim
def enT (ws : List W) (st : Stt) : Rs Src := match ws with
  | [.tup xs] => .ok ⟨xs.zipIdx.map fun p => .prs [.int (p.2 : Int), p.1], fun _ => True⟩ st
  | _ => .no
@[simp] theorem enT_tup (xs : List W) : enT [.tup xs] st = .ok ⟨xs.zipIdx.map fun p => .prs [.int (p.2 : Int), p.1], fun _ => True⟩ st := id rfl
def enTK (r : Rs (List W)) : Rs Src := match r with | .ok ws s => enT ws s | .er x s => .er x s | .no => .no
@[simp] theorem enTK_ok (ws : List W) : enTK (.ok ws st) = enT ws st := id rfl
@[simp] theorem ev_ienumT (ms : AM) : iEnumT ms ρ st = enTK (ms ρ st) := by
  unfold iEnumT enTK enT
  cases ms ρ st <;> rfl
end
end Sim
end
section
set_option Elab.async false
set_option linter.all false
set_option maxRecDepth 100000
set_option maxHeartbeats 2000000
open PySem PySem.Spec PyProof.Rows L2
namespace Low
/-! t[:0:-1] of a tuple -/
section
variable {prog : Program} {w : PySem.World} {A : Around} {E : Value → Shared → Prop} {s : Shared}
theorem places_rev0 (n : Nat) : Builtin.Slice.slicePlaces ((n : Int) - 1) (if n = 0 then -1 else 0) (-1) = n - 1 := by
  unfold Builtin.Slice.slicePlaces
  have h1 : ¬ ((-1 : Int) > 0) := by omega
  simp only [h1, if_false]
  by_cases hn : n = 0
  · subst hn; rfl
  · rw [if_neg hn]
    split
    · rw [show (- -1 : Int) = 1 by decide, Int.ediv_one]; omega
    · omega
theorem applied_rev0 {sl : Addr} {vl vu vs : Value} {n : Nat} {Q : Int × Int × Nat → Shared → Prop} (hs : s.heap.IsSliceOf sl vl vu vs) (pl : IsPart vl none) (pu : IsPart vu (some 0)) (ps : IsPart vs (some (-1)))
    (h : Q ((n : Int) - 1, -1, n - 1) s) : wpAny (model prog w) A (Builtin.Slice.sliceApplied (.ref sl) (pure (n : Int))) Q E s := by
  obtain ⟨os, hos, hcs, hds⟩ := id hs
  unfold Builtin.Slice.sliceApplied Builtin.Slice.sliceFields
  refine wpAny_bind (wpAny_bind (wpAny_field hos hds (x := vl) rfl (wpAny_bind (wpAny_field hos hds (x := vu) rfl (wpAny_bind (wpAny_field hos hds (x := vs) rfl (wpAny_pure ?_)))))))
  refine wpAny_bind (HT.slicePart_ ps ?_)
  show wpAny _ _ (if ((-1 : Int) == 0) = true then _ else _) _ _ s
  rw [if_neg (by decide)]
  refine wpAny_bind (HT.slicePart_ pl (wpAny_bind (HT.slicePart_ pu (wpAny_bind (wpAny_pure ?_)))))
  show wpAny _ _ (match Builtin.Slice.sliceAdjust none (some 0) (-1) (n : Int) with | (lo, hi) => pure (lo, (-1 : Int), Builtin.Slice.slicePlaces lo hi (-1))) _ _ s
  have ha : Builtin.Slice.sliceAdjust none (some 0) (-1) (n : Int) = ((n : Int) - 1, if n = 0 then -1 else 0) := by
    cases n with
    | zero => rfl
    | succ k =>
      rw [if_neg (by omega)]
      unfold Builtin.Slice.sliceAdjust
      simp
      try omega
  rw [ha]
  show wpAny _ _ (pure ((n : Int) - 1, (-1 : Int), Builtin.Slice.slicePlaces ((n : Int) - 1) (if n = 0 then -1 else 0) (-1))) _ _ s
  rw [places_rev0]
  exact wpAny_pure h
theorem pick_rev0 (xs : Array Value) : ((List.range (xs.size - 1)).filterMap fun (m : Nat) => xs[(((xs.size : Int) - 1) + (m : Int) * (-1)).toNat]?).toArray = (xs.toList.drop 1).reverse.toArray := by
  have h := pick_rev xs
  have h := congrArg Array.toList h
  simp only [] at h
  by_cases h0 : xs.size = 0
  · have : xs.toList = [] := List.eq_nil_of_length_eq_zero (by simpa using h0)
    rw [this, h0]; rfl
  · obtain ⟨n, hn⟩ : ∃ n, xs.size = n + 1 := ⟨xs.size - 1, by omega⟩
    obtain ⟨a, l, hl⟩ : ∃ a l, xs.toList = a :: l := by
      cases hx : xs.toList with
      | nil =>
        have h9 : xs.toList.length = 0 := by rw [hx]; rfl
        rw [Array.length_toList] at h9; omega
      | cons a l => exact ⟨a, l, rfl⟩
    have ln : l.length = n := by
      have h9 : xs.toList.length = l.length + 1 := by rw [hl]; rfl
      rw [Array.length_toList] at h9; omega
    have key : (List.range n).filterMap (fun (m : Nat) => xs[(((xs.size : Int) - 1) + (m : Int) * (-1)).toNat]?) = l.reverse := by
      rw [hn, List.range_succ, List.filterMap_append, ← hn, hl] at h
      have e0 : [n].filterMap (fun (m : Nat) => xs[(((xs.size : Int) - 1) + (m : Int) * (-1)).toNat]?) = [a] := by
        have : (((xs.size : Int) - 1) + (n : Int) * (-1)).toNat = 0 := by
          have e : (((n + 1 : Nat) : Int) - 1) + (n : Int) * (-1) = 0 := by omega
          rw [hn, e]; rfl
        have g : xs[0]? = some a := by rw [← Array.getElem?_toList, hl]; rfl
        simp only [List.filterMap_cons, List.filterMap_nil, this, g]
      rw [e0, List.reverse_cons] at h
      exact (List.append_inj' h rfl).1
    rw [show xs.size - 1 = n by omega, key, hl]
    rfl
theorem getItem_tuple_rev0 {t sl : Addr} {items : Array Value} {vl vu vs : Value} {Q : Value → Shared → Prop} (ht : IsTup s.heap t items) (hs : s.heap.IsSliceOf sl vl vu vs) (pl : IsPart vl none) (pu : IsPart vu (some 0)) (ps : IsPart vs (some (-1)))
    (h : Q (.ref s.heap.objs.size) { s with heap := s.heap.push { cls := .type "tuple", data := .seq (items.toList.drop 1).reverse.toArray } })
    (hsz : items.size ≤ sizeLine) : wpAny (model prog w) A (getItem (.ref t) (.ref sl)) Q E s := by
  have htake : sizeOk (.seq (items.toList.drop 1).reverse.toArray) := by
    show (items.toList.drop 1).reverse.toArray.size ≤ sizeLine
    rw [List.size_toArray, List.length_reverse, List.length_drop, Array.length_toList]
    omega
  obtain ⟨os, hos, hcs, hds⟩ := id hs
  have hTs : s.TypeIs (.ref sl) "slice" := ⟨os, hos, hcs⟩
  unfold getItem
  try with_reducible refine wpAny_holding ?_
  first | refine wpAny_bind (wpAny_pure ?_) | skip
  refine wpAny_bind (wpAny_sequenceKey ht.typeIs (by decide) ?_)
  refine wpAny_bind (wpAny_callSpecial?_slot (name := Str.ofString "__getitem__") ht.typeIs PyProof.Rows.slot_tuple_getitem
    (wpAny_call_entry PyProof.Rows.slot_tuple_getitem ht.typeIs entry_tuple_getitem ?_ (args_tuple_getitem _ _)))
  show wpAny _ _ (Builtin.Tuple.tupleItemsOf (.ref t) >>= _) _ _ s
  refine wpAny_bind (tupleItemsOf_ ht ?_)
  refine wpAny_bind (wpAny_typeOf hTs ?_)
  rw [if_pos (by decide)]
  refine wpAny_bind (applied_rev0 hs pl pu ps ?_)
  have hno : ¬ ((((items.size : Int) - 1) == 0 && (-1 : Int) == 1 && (items.size - 1) == items.size) = true) := by
    intro q
    rw [Bool.and_eq_true, Bool.and_eq_true] at q
    exact absurd (eq_of_beq q.1.2) (by decide)
  show wpAny _ _ (if (((items.size : Int) - 1) == 0 && (-1 : Int) == 1 && (items.size - 1) == items.size) = true then _ else _) _ _ s
  rw [if_neg hno, pick_rev0]
  first
    | exact wpAny_bind (m := Builtin.Tuple.tupleExact _) (wpAny_newObj_type (wpAny_pure ⟨_, rfl, wpAny_pure h⟩) htake)
    | exact wpAny_bind (m := Builtin.Tuple.tupleExact _) (wpAny_newObj_type (wpAny_bind (wpAny_pure (wpAny_pure ⟨_, rfl, wpAny_pure h⟩))) htake)
    | exact wpAny_bind (wpAny_bind (m := Builtin.Tuple.tupleExact _) (wpAny_newObj_type (wpAny_pure (wpAny_pure ⟨_, rfl, wpAny_pure h⟩)) htake))
    | exact wpAny_bind (wpAny_bind (m := Builtin.Tuple.tupleExact _) (wpAny_newObj_type (wpAny_pure ⟨_, rfl, wpAny_pure h⟩) htake))
end
def tRevT0 (K : PySem.W.Frag) (te : TE) : TE := fun σ H Q => te σ H fun x H1 => ∃ a xs, x = .ref a ∧ SqT K H1 a xs ∧ ∀ (p : Addr) (o : Obj), o.dict = none → H1 p = none → Q (.ref p) (upd H1 p (.frz o (.tup (xs.drop 1).reverse)))
theorem Vals.drop1 {xs : List V} {its : List Value} (r : Vals xs its) : Vals (xs.drop 1) (its.drop 1) := by
  cases r with
  | nil => exact .nil
  | cons a b => exact b
theorem pe_revT0 {X : Cx} {e : Expr} {te : TE} {k k0 : Nat} {p0 p1 p2 p3 pos : Pos} (he : PE X e te) : PE X (.Subscript e (.Slice none (some (.Constant (.int 0) k0 p0)) (some (.UnaryOp .USub (.Constant (.int 1) k p1) p2)) p3) pos) (tRevT0 X.K te) := by
  refine ⟨fun pins s σ H Q I h => ?_⟩
  refine Subscript_ (thn (he.run pins s σ H _ I h) fun v s1 ⟨x, H1, I1, r1, q1⟩ => ?_)
  obtain ⟨a, xs, ex, hx, q⟩ := q1
  subst ex
  cases r1
  have hst : PO X (some (.UnaryOp .USub (.Constant (.int 1) k p1) p2)) (tPart (tUn (rU fun i => .int (-i)) (tC (.int 1)))) := po_some (pe_un un_neg pe_int)
  have hup : PO X (some (.Constant (.int 0) k0 p0)) (tPart (tC (.int 0))) := po_some pe_int
  refine wpAny_Slice (thn (po_none.run pins s1 σ H1 (fun o H2 => o = none ∧ H2 = H1) I1 ⟨rfl, rfl⟩) fun vl s2 ⟨l, H2, I2, pl, el, e2⟩ => ?_)
  subst el e2
  refine thn (hup.run pins s2 σ H2 (fun o H3 => o = some 0 ∧ H3 = H2) I2 ⟨0, rfl, rfl, rfl⟩) fun vu s3 ⟨u, H3, I3, pu, eu, e3⟩ => ?_
  subst eu e3
  refine thn (hst.run pins s3 σ H3 (fun o H4 => o = some (-1) ∧ H4 = H3) I3 ⟨1, rfl, -1, rfl, rfl, rfl⟩) fun vs s4 ⟨o, H4, I4, ps, eo, e4⟩ => ?_
  subst eo e4
  have I5 : Inv X pins σ H4 { s4 with heap := s4.heap.push { cls := .type "slice", data := .fields #[vl, vu, vs] } } := I4.kept (t' := s4.toks) fun b ob q => Heap.get?_push_of_some _ q
  obtain ⟨its, r, ht, hz⟩ := I5.tuple hx
  have hlen := r.length
  show wpAny (model X.prog X.w) X.A (subscriptTail e (.Slice none (some (.Constant (.int 0) k0 p0)) (some (.UnaryOp .USub (.Constant (.int 1) k p1) p2)) p3) (.ref a) (.ref s4.heap.objs.size)) (EP X pins σ Q) X.xe { s4 with heap := s4.heap.push { cls := .type "slice", data := .fields #[vl, vu, vs] } }
  refine tail_any (ops := [.ref a, .ref s4.heap.objs.size]) ht.typeIs (PyProof.Rows.slot_tuple_getitem.lookup) ?_ (by with_unfolding_all rfl)
  refine getItem_tuple_rev0 ht (Heap.IsSliceOf.new _ vl vu vs) pl pu ps ?_ (by rw [List.size_toArray]; omega)
  exact Sim.tup_laid (s := { s4 with heap := s4.heap.push { cls := .type "slice", data := .fields #[vl, vu, vs] } }) (h' := s4.heap.push { cls := .type "slice", data := .fields #[vl, vu, vs] }) (tk := s4.toks) I5 (Vals.drop1 r).reverse (by rw [List.length_reverse, List.length_drop]; omega) q
end Low
end
section
set_option Elab.async false
set_option linter.all false
set_option maxRecDepth 100000
set_option maxHeartbeats 2000000
open PySem PySem.Spec PyProof.Rows L2
namespace Sim
section
variable {X : Cx} {Wx : WX} {ρ : Ev} {st : Stt}
theorem RepL.drop1 {K : PySem.W.Frag} {G : Gm} {H : Hp} {ws : List W} {vs : List V} (r : RepL K G H ws vs) : RepL K G H (ws.drop 1) (vs.drop 1) := by
  cases r with
  | nil => exact .nil
  | cons a b => exact b
/-- t[:0:-1] of a tuple -/
def eRevT0 (m : EM) : EM := fun ρ st => (m ρ st).bind fun x st1 => match x with
  | .tup ws => .ok (.tup (ws.drop 1).reverse) st1
  | _ => .no
theorem ce_revT0 {e : Expr} {te : TE} {m : EM} {k k0 : Nat} {p0 p1 p2 p3 pos : Pos} (h : CE X Wx e te m) : CE X Wx (.Subscript e (.Slice none (some (.Constant (.int 0) k0 p0)) (some (.UnaryOp .USub (.Constant (.int 1) k p1) p2)) p3) pos) (Low.tRevT0 X.K te) (eRevT0 m) := by
  refine ⟨Low.pe_revT0 h.pe, fun G H ρ σ Q w r hp => ?_⟩
  refine h.sem G H ρ σ _ w r (PostR.bind hp fun x st1 ls1 H1 v q1 e1 w1 rv hp1 => ?_)
  clear q1
  split at hp1
  · obtain ⟨a, vs, rfl, sq, rl⟩ := tup_sq rv
    exact ⟨a, vs, rfl, sq, fun p o hd hpn => PostV.newT (G := G.to ls1 st1) w1 (PostV.of hp1) (RepL.drop1 rl).rev hd hpn⟩
  · exact hp1.elim
def revT0W (w : W) (s : Stt) : Rs W := match w with | .tup ws => .ok (.tup (ws.drop 1).reverse) s | _ => .no
@[simp] theorem revT0W_tup (ws : List W) : revT0W (.tup ws) st = .ok (.tup (ws.drop 1).reverse) st := id rfl
def revT0K (r : Rs W) : Rs W := match r with | .ok a s => revT0W a s | .er x s => .er x s | .no => .no
@[simp] theorem revT0K_ok (a : W) (s : Stt) : revT0K (.ok a s) = revT0W a s := id rfl
@[simp] theorem ev_revT0 (m : EM) : eRevT0 m ρ st = revT0K (m ρ st) := by unfold eRevT0 revT0K revT0W; cases m ρ st <;> rfl
end
end Sim
end
section
set_option Elab.async false
set_option linter.all false
set_option maxRecDepth 100000
set_option maxHeartbeats 2000000
open PySem PySem.Spec PyProof.Rows L2
namespace Sim
/-- ints, the least first -/
def sortI (is : List Int) : List Int := is.mergeSort fun a b => decide (a ≤ b)
theorem sortI_perm (is : List Int) : (sortI is).Perm is := List.mergeSort_perm _ _
theorem sortI_pair (is : List Int) : (sortI is).Pairwise (· ≤ ·) := by
  have := List.pairwise_mergeSort (le := fun a b : Int => decide (a ≤ b)) (fun a b c h k => by simp at *; omega) (fun a b => by simp; omega) is
  exact this.imp fun h => of_decide_eq_true h
theorem sortI_eq {is js : List Int} (p : js.Perm is) (h : js.Pairwise (· ≤ ·)) : js = sortI is :=
  List.Perm.eq_of_pairwise (le := (· ≤ ·)) (fun a b _ _ x y => by omega) h (sortI_pair is) (p.trans (sortI_perm is).symm)
/-- sorted(xs), ints -/
def fSortedI : FL := fun st ws => match ws with
  | [x] => match (lstOf st x).bind intsOf with
    | some is => some ((sortI is).map .int)
    | none => none
  | _ => none
section
variable {K : PySem.W.Frag} {G : Gm} {H : Hp} {st : Stt}
theorem rep_ints' : ∀ is : List Int, RepL K G H (is.map W.int) (is.map V.int)
  | [] => .nil
  | i :: is => .cons (.int i) (rep_ints' is)
theorem fn_sortedI : FnN K (rSortedI K) fSortedI := fun G H ws vs us Q wo rl e q => by
  unfold fSortedI at e
  split at e
  · rename_i x
    split at e
    · rename_i is en
      cases e
      obtain ⟨v, rfl, rx⟩ := rl.one
      obtain ⟨a, rfl, sq⟩ := lst_ints wo rx en
      refine ⟨a, is, rfl, sq, fun js p hp hs hn => ?_⟩
      rw [sortI_eq hp hs]
      exact q p _ hn (rep_ints' _)
    · cases e
  · cases e
theorem sortI_two (i j : Int) : sortI [i, j] = [min i j, max i j] := by
  refine (sortI_eq ?_ ?_).symm
  · by_cases h : i ≤ j
    · rw [Int.min_eq_left h, Int.max_eq_right h]
    · rw [Int.min_eq_right (by omega), Int.max_eq_left (by omega)]
      exact List.Perm.swap _ _ _
  · simp
    omega
end
end Sim
end
section
set_option Elab.async false
set_option linter.all false
set_option maxRecDepth 100000
set_option maxHeartbeats 2000000
open PySem PySem.Spec PyProof.Rows L2
namespace Low
/-! sum(lists, []) -/
theorem args_sum2 (a b : Value) : argsOk "sum" ⟨[a, b], []⟩ := by unfold argsOk; kernel_rfl
theorem sub_list_str : isSubtype (.type "list") (.type "str") = pure false := by rw [isSubtype_type]; kernel_rfl
theorem sub_list_bytes : isSubtype (.type "list") (.type "bytes") = pure false := by rw [isSubtype_type]; kernel_rfl
theorem sub_list_bytearray : isSubtype (.type "list") (.type "bytearray") = pure false := by rw [isSubtype_type]; kernel_rfl
section
variable {prog : Program} {w : PySem.World} {A : Around} {E : Value → Shared → Prop} {s : Shared}
theorem cat_lists {l b : Addr} {vs ws : List Value} {Q : Value → Shared → Prop} (hl : s.heap.IsList l vs.toArray) (hb : s.heap.IsList b ws.toArray)
    (h : Q (.ref s.heap.objs.size) { s with heap := s.heap.push { cls := .type "list", data := .seq (vs ++ ws).toArray } })
    (hsz : vs.length + ws.length ≤ sizeLine) : wpAny (model prog w) A (binaryOp .Add (.ref l) (.ref b)) Q E s := by
  obtain ⟨⟨cls, dd, data, sl⟩, ho, hc, n, hd⟩ := id hl
  obtain ⟨⟨cls2, dd2, data2, sl2⟩, ho2, hc2, n2, hd2⟩ := id hb
  simp only at hc hd hc2 hd2
  subst hc hd hc2 hd2
  have e : vs.toArray ++ ws.toArray = (vs ++ ws).toArray := by simp
  refine concat_meets ⟨_, ho, rfl⟩ ⟨_, ho2, rfl⟩ noFill_list_add seq_list_add PySem.F.slot_list_add PySem.F.entry_list_add (PySem.F.args_list_add_2 _ _) (list_addW l b vs.toArray ws.toArray n n2 dd dd2 sl sl2 (by simpa using hsz)) ⟨ho, ho2, ?_⟩
  rw [e]
  exact h
end
section
variable {prog : Program} {w : PySem.World} {A : Around} {R : Result → Shared → Prop} {s0 : Shared} {h0 : Heap} {l e S I : Addr} {refs : List Addr} {vss : List (List Value)}
/-- what the walk has made so far -/
def Part (h0 : Heap) (e : Addr) (vss : List (List Value)) (i : Nat) (T : Addr) (h : Heap) : Prop :=
  (i = 0 ∧ T = e) ∨ (h0.objs.size ≤ T ∧ h.get? T = some { cls := .type "list", data := .seq (vss.take i).flatten.toArray })
theorem flat_take : ∀ (vss : List (List Value)) (i : Nat), (vss.take i).flatten.length ≤ vss.flatten.length
  | [], i => by simp
  | v :: vss, 0 => by simp
  | v :: vss, i + 1 => by
    rw [List.take_succ_cons, List.flatten_cons, List.flatten_cons, List.length_append, List.length_append]
    have := flat_take vss i
    omega
theorem sumL_loop (hh : A.handled = none) (hl : h0.IsList l (refs.map Value.ref).toArray) (he : h0.IsList e #[]) (hv : ∀ (i : Nat) (a : Addr), refs[i]? = some a → ∃ vs : List Value, vss[i]? = some vs ∧ h0.IsList a vs.toArray) (hlen : vss.length = refs.length) (hz : vss.flatten.length ≤ sizeLine)
    (hI : h0.objs.size ≤ I) (hS : h0.objs.size ≤ S) (hSI : S ≠ I) :
    ∀ (k i : Nat) (h : Heap) (tk : Nat) (T : Addr) (c : Nat), refs.length - i = k → i ≤ refs.length → (∀ b o, h0.get? b = some o → h.get? b = some o) → h.IsListIter I l i → h.get? S = some { cls := .type "list", data := .seq #[.ref T] c } → Part h0 e vss i T h → T ≠ S → T ≠ I →
    (∀ h' tk' T', (∀ b o, h0.get? b = some o → h'.get? b = some o) → Part h0 e vss refs.length T' h' → R (.ok (.ret (.ref T'))) { s0 with heap := h', toks := tk' }) →
    codeAny (model prog w) A (.builtin "sum.loop" ⟨[.ref I, .ref S, rawInt 2, rawInt 0], []⟩) R { s0 with heap := h, toks := tk } := by
  intro k
  induction k with
  | zero =>
    intro i h tk T c hk hi keep hit hSS part tS tI hR
    have hin : i = refs.length := by omega
    subst hin
    refine codeAny_builtin F.entry_sum_loop ?_
    rw [Around.under_plainId F.plain_sum_loop _]
    show wpAny _ A.in1 (seqItems? (.ref S) >>= _) _ _ _
    refine wpAny_bind (wpAny_seqItems hSS rfl ?_)
    show wpAny _ A.in1 (tryCatch (pyNext (.ref I)) _ >>= _) _ _ _
    have hl' : h.IsList l (refs.map Value.ref).toArray := by obtain ⟨o, ho, r⟩ := hl; exact ⟨o, keep _ _ ho, r⟩
    refine wpAny_bind (wpAny_tryCatch (wpAny_pyNext_list_end (s := { s0 with heap := h, toks := tk }) (by first | rw [show A.in1.handled = none from hh] | exact hh) hit hl' (by simp) fun h' hx => ?_))
    refine wpAny_pure (hR h' tk T (fun b o e => ?_) ?_)
    · have hb : b < h0.objs.size := Heap.lt_size e
      exact hx b o (Nat.ne_of_lt (Nat.lt_of_lt_of_le hb hI)) (keep b o e)
    · rcases part with p | ⟨p1, p2⟩
      · exact .inl p
      · exact .inr ⟨p1, hx T _ tI p2⟩
  | succ k ih =>
    intro i h tk T c hk hi keep hit hSS part tS tI hR
    have hlt : i < refs.length := by omega
    obtain ⟨vs, hvs, hb0⟩ := hv i refs[i] (List.getElem?_eq_getElem hlt)
    refine codeAny_builtin F.entry_sum_loop ?_
    rw [Around.under_plainId F.plain_sum_loop _]
    show wpAny _ A.in1 (seqItems? (.ref S) >>= _) _ _ _
    refine wpAny_bind (wpAny_seqItems hSS rfl ?_)
    show wpAny _ A.in1 (tryCatch (pyNext (.ref I)) _ >>= _) _ _ _
    have hl' : h.IsList l (refs.map Value.ref).toArray := by obtain ⟨o, ho, r⟩ := hl; exact ⟨o, keep _ _ ho, r⟩
    refine wpAny_bind (wpAny_tryCatch (wpAny_pyNext_list_item (s := { s0 with heap := h, toks := tk }) (x := .ref refs[i]) hit hl' (by simp [hlt]) fun h1 hit1 sb1 => ?_))
    have k1 : ∀ b o, h0.get? b = some o → h1.get? b = some o := fun b o e => by
      have hb : b < h0.objs.size := Heap.lt_size e
      exact sb1.extBut b o (Nat.ne_of_lt (Nat.lt_of_lt_of_le hb hI)) (keep b o e)
    have hS1 : h1.get? S = some { cls := .type "list", data := .seq #[.ref T] c } := sb1.extBut S _ hSI hSS
    have hT1 : h1.IsList T ((vss.take i).flatten).toArray := by
      rcases part with ⟨p1, p2⟩ | ⟨p1, p2⟩
      · subst p1 p2
        obtain ⟨o, ho, r⟩ := he
        exact ⟨o, k1 _ _ ho, r⟩
      · exact ⟨_, sb1.extBut T _ tI p2, rfl, _, rfl⟩
    have hb1 : h1.IsList refs[i] vs.toArray := by obtain ⟨o, ho, r⟩ := hb0; exact ⟨o, k1 _ _ ho, r⟩
    have e1 : (vss.take (i + 1)).flatten = (vss.take i).flatten ++ vs := by
      rw [List.take_succ, hvs, List.flatten_append]; simp
    show wpAny _ A.in1 ((holding [Value.ref refs[i]] (binaryOp .Add (.ref T) (.ref refs[i]))).attempt >>= _) _ _ _
    have hsz : (vss.take i).flatten.length + vs.length ≤ sizeLine := by
      have := flat_take vss (i + 1)
      rw [e1, List.length_append] at this
      omega
    refine wpAny_bind (wpAny_attempt (wpAny_holding (cat_lists (s := { s0 with heap := h1, toks := tk }) hT1 hb1 ?_ hsz)))
    obtain ⟨N, hN⟩ : ∃ N, N = h1.objs.size := ⟨_, rfl⟩
    obtain ⟨h2, hh2⟩ : ∃ h2, h2 = h1.push { cls := .type "list", data := .seq ((vss.take i).flatten ++ vs).toArray } := ⟨_, rfl⟩
    have lS : S < h1.objs.size := Heap.lt_size hS1
    have lI : I < h1.objs.size := by obtain ⟨o, ho, _⟩ := hit1; exact Heap.lt_size ho
    have l0 : h0.objs.size ≤ h1.objs.size := Nat.le_of_lt (Nat.lt_of_le_of_lt hS lS)
    have hN2 : h2.get? h1.objs.size = some { cls := .type "list", data := .seq ((vss.take i).flatten ++ vs).toArray } := by rw [hh2]; exact Heap.get?_push_size _ rfl
    have k2 : ∀ b o, h1.get? b = some o → h2.get? b = some o := fun b o e => by rw [hh2]; exact Heap.get?_push_of_some _ e
    show wpAny _ A.in1 (updateSeq S (fun _ => #[Value.ref h1.objs.size]) >>= _) _ _ { s0 with heap := h1.push { cls := .type "list", data := .seq ((vss.take i).flatten ++ vs).toArray }, toks := tk }
    rw [← hh2]
    have hS2 := k2 S _ hS1
    refine wpAny_bind (wpAny_updateSeq (s := { s0 with heap := h2, toks := tk }) hS2 rfl ?_)
    have hS3 := Heap.get?_update_self (Obj.mapSeq fun _ => #[Value.ref h1.objs.size]) hS2 rfl
    refine wpAny_bind (wpAny_letGo ?_)
    refine wpAny_bind (wpAny_updateSeq hS3 rfl (wpAny_pure ⟨plainId_quiet F.plain_sum_loop _, ?_⟩))
    have hS4 := Heap.get?_update_self (Obj.mapSeq fun _ => #[Value.ref h1.objs.size]) hS3 rfl
    have oth : ∀ b o, b ≠ S → h2.get? b = some o → ((h2.update S (Obj.mapSeq fun _ => #[Value.ref h1.objs.size])).update S (Obj.mapSeq fun _ => #[Value.ref h1.objs.size])).get? b = some o := fun b o hb e =>
      (Heap.get?_update_other _ _ (Ne.symm hb)).trans ((Heap.get?_update_other _ _ (Ne.symm hb)).trans e)
    refine ih (i + 1) _ tk h1.objs.size _ (by omega) (by omega) (fun b o e => oth b o (fun z => ?_) (k2 b o (k1 b o e))) ?_ hS4 (.inr ⟨l0, ?_⟩) (Nat.ne_of_gt lS) (Nat.ne_of_gt lI) hR
    · have hb : b < h0.objs.size := Heap.lt_size e
      exact Nat.ne_of_lt (Nat.lt_of_lt_of_le hb hS) z
    · obtain ⟨o, ho, r⟩ := hit1
      exact ⟨o, oth I o (Ne.symm hSI) (k2 I o ho), r⟩
    · rw [e1]
      exact oth _ _ (Nat.ne_of_gt lS) hN2
end
section
variable {prog : Program} {w : PySem.World} {A : Around} {E : Value → Shared → Prop} {s : Shared} {l e : Addr} {refs : List Addr} {vss : List (List Value)}
theorem call_sumL {Q : Value → Shared → Prop} (hh : A.handled = none) (hl : s.heap.IsList l (refs.map Value.ref).toArray) (he : s.heap.IsList e #[]) (hv : ∀ (i : Nat) (a : Addr), refs[i]? = some a → ∃ vs : List Value, vss[i]? = some vs ∧ s.heap.IsList a vs.toArray) (hlen : vss.length = refs.length) (hz : vss.flatten.length ≤ sizeLine)
    (h : ∀ h' tk T, (∀ b o, s.heap.get? b = some o → h'.get? b = some o) → Part s.heap e vss refs.length T h' → Q (.ref T) { s with heap := h', toks := tk }) :
    wpAny (model prog w) A (call (.builtin "sum") [.ref l, .ref e]) Q E s := by
  refine call_function_tree F.kind_sum F.plain_sum F.entry_sum (args_sum2 _ _) ?_
  unfold Builtin.«sum»
  simp only [List.length_cons, List.length_nil]
  rw [if_neg (by decide)]
  refine wpAny_bind (wpAny_of_eq (show Builtin.Builtins.bindParams "sum" ["start"] 0 ⟨[.ref e], []⟩ = pure [some (.ref e)] from rfl) ?_)
  refine wpAny_bind (wpAny_pyIter_list hl ?_)
  refine wpAny_bind (wpAny_pure ?_)
  obtain ⟨h1, hh1⟩ : ∃ h1, h1 = s.heap.push { cls := .type "list_iterator", data := .fields #[.ref l, .int 0 0] } := ⟨_, rfl⟩
  have k1 : ∀ b o, s.heap.get? b = some o → h1.get? b = some o := fun b o e => by rw [hh1]; exact Heap.get?_push_of_some _ e
  have hty : Shared.TypeIs { s with heap := h1 } (.ref e) "list" := by obtain ⟨o, ho, hc, _⟩ := he; exact ⟨o, k1 _ _ ho, hc⟩
  rw [← hh1]
  simp only [List.forIn_cons, List.forIn_nil]
  refine wpAny_bind (wpAny_bind (wpAny_bind (wpAny_isInstance (T := "list") (b := false) hty sub_list_str ?_)))
  simp only [Bool.false_eq_true, if_false]
  refine wpAny_pure (wpAny_bind (wpAny_bind (wpAny_isInstance (T := "list") (b := false) hty sub_list_bytes ?_)))
  simp only [Bool.false_eq_true, if_false]
  refine wpAny_pure (wpAny_bind (wpAny_bind (wpAny_isInstance (T := "list") (b := false) hty sub_list_bytearray ?_)))
  simp only [Bool.false_eq_true, if_false]
  refine wpAny_pure (wpAny_pure ?_)
  refine wpAny_bind (wpAny_newObj_type ?_)
  have z1 : h1.objs.size = s.heap.objs.size + 1 := by rw [hh1]; exact Heap.size_push ..
  have hit : h1.IsListIter s.heap.objs.size l 0 := by rw [hh1]; exact ⟨_, Heap.get?_push_size _ rfl, rfl, rfl⟩
  have le : e < s.heap.objs.size := by obtain ⟨o, ho, _⟩ := he; exact Heap.lt_size ho
  refine wpAny_pure ⟨plainId_quiet F.plain_sum_loop _, ?_⟩
  refine sumL_loop (s0 := s) (h0 := s.heap) (l := l) (e := e) (refs := refs) (vss := vss) hh hl he hv hlen hz (I := s.heap.objs.size) (S := h1.objs.size) (Nat.le_refl _) (by rw [z1]; exact Nat.le_succ _) (by rw [z1]; exact Nat.succ_ne_self _) refs.length 0 _ _ e 0 (by omega) (Nat.zero_le _) (fun b o q => Heap.get?_push_of_some _ (k1 b o q)) ?_ (Heap.get?_push_size _ rfl) (.inl ⟨rfl, rfl⟩) (by rw [z1]; exact Nat.ne_of_lt (Nat.lt_succ_of_lt le)) (Nat.ne_of_lt le) h
  obtain ⟨o, ho, r⟩ := hit
  exact ⟨o, Heap.get?_push_of_some _ ho, r⟩
end
section
variable {X : Cx}
def rSumL (K : PySem.W.Frag) : List V → Hp → VK → Prop := fun vs H Q => ∃ (a e : Addr) (bs : List Addr) (yss : List (List V)), vs = [V.ref a, V.ref e] ∧ SqL K H a (bs.map V.ref) ∧ SqL K H e [] ∧ (∀ (i : Nat) (b : Addr), bs[i]? = some b → ∃ ys : List V, yss[i]? = some ys ∧ SqL K H b ys) ∧ yss.length = bs.length ∧ yss.flatten.length ≤ sizeLine ∧
  (bs = [] → Q (.ref e) H) ∧ ∀ p, H p = none → Q (.ref p) (upd H p (.lst yss.flatten))
theorem Vals.refs : ∀ {bs : List Addr} {us : List Value}, Vals (bs.map V.ref) us → us = bs.map Value.ref
  | [], _, h => by cases h; rfl
  | b :: bs, _, h => by
    cases h with
    | cons r t =>
      cases r
      rw [Vals.refs t]; rfl
theorem vals_flat : ∀ {yss : List (List V)} {vss : List (List Value)}, yss.length = vss.length → (∀ (i : Nat) (ys : List V) (vs : List Value), yss[i]? = some ys → vss[i]? = some vs → Vals ys vs) → Vals yss.flatten vss.flatten
  | [], [], _, _ => .nil
  | ys :: yss, vs :: vss, hl, h => by
    rw [List.flatten_cons, List.flatten_cons]
    exact (h 0 ys vs rfl rfl).append (vals_flat (by simpa using hl) fun i a b e f => h (i + 1) a b (by simpa using e) (by simpa using f))
theorem cr_sumL (hc : X.calm = true) : CallR X (.builtin "sum") (rSumL X.K) := by
  intro pins s σ H vs us Q I r h
  obtain ⟨a, e, bs, yss, rfl, hs, he, hb, hlen, hz, q1, q2⟩ := h
  obtain ⟨its, rv, hl, _⟩ := I.list hs
  obtain ⟨its2, rv2, hl2, _⟩ := I.list he
  cases rv2
  have hus : us = [Value.ref a, Value.ref e] := by
    cases r with
    | cons r t =>
      cases t with
      | cons r2 t2 =>
        cases t2
        cases r
        cases r2
        rfl
  subst hus
  rw [Vals.refs rv] at hl
  have all : ∀ (k : Nat), k ≤ bs.length → ∃ vss : List (List Value), vss.length = k ∧ ∀ (i : Nat) (b : Addr), i < k → bs[i]? = some b → ∃ (ys : List V) (vs : List Value), yss[i]? = some ys ∧ vss[i]? = some vs ∧ Vals ys vs ∧ s.heap.IsList b vs.toArray := by
    intro k
    induction k with
    | zero => exact fun _ => ⟨[], rfl, fun i b h => absurd h (Nat.not_lt_zero _)⟩
    | succ k ih =>
      intro hk
      obtain ⟨vss, l1, l2⟩ := ih (by omega)
      obtain ⟨ys, y1, y2⟩ := hb k bs[k] (List.getElem?_eq_getElem (by omega))
      obtain ⟨its, v1, v2, _⟩ := I.list y2
      refine ⟨vss ++ [its], by simp [l1], fun i b hi hbi => ?_⟩
      by_cases e : i < k
      · obtain ⟨ys', vs', a1, a2, a3, a4⟩ := l2 i b e hbi
        exact ⟨ys', vs', a1, by rw [List.getElem?_append_left (by omega)]; exact a2, a3, a4⟩
      · have : i = k := by omega
        subst this
        rw [List.getElem?_eq_getElem (by omega)] at hbi
        cases hbi
        exact ⟨ys, its, y1, by rw [List.getElem?_append_right (by omega), l1, Nat.sub_self]; rfl, v1, v2.isList⟩
  obtain ⟨vss, l1, l2⟩ := all bs.length (Nat.le_refl _)
  have vf : Vals yss.flatten vss.flatten := vals_flat (by omega) fun i ys vs e f => by
    have hi : i < bs.length := by have := (List.getElem?_eq_some_iff.mp f).1; omega
    obtain ⟨ys', vs', a1, a2, a3, _⟩ := l2 i bs[i] hi (List.getElem?_eq_getElem hi)
    rw [e] at a1; rw [f] at a2
    cases a1; cases a2
    exact a3
  refine call_sumL (vss := vss) (I.ok.hd hc) hl.isList hl2.isList (fun i a ha => ?_) l1 (by rw [← vf.length]; exact hz) fun h' tk T keep part => ?_
  · have hi : i < bs.length := (List.getElem?_eq_some_iff.mp ha).1
    obtain ⟨ys', vs', a1, a2, a3, a4⟩ := l2 i a hi ha
    exact ⟨vs', a2, a4⟩
  · rcases part with ⟨p1, p2⟩ | ⟨p1, p2⟩
    · subst p2
      exact ⟨.ref T, H, I.kept keep, rfl, q1 (List.eq_nil_of_length_eq_zero p1)⟩
    · rw [List.take_of_length_le (by omega)] at p2
      exact ⟨.ref T, _, I.laid (a := T) (o := .lst yss.flatten) (t' := tk) keep p1 ⟨hz, vss.flatten, 0, vf, p2⟩, rfl, q2 T (I.hok.fresh p1)⟩
end
end Low
end
section
set_option Elab.async false
set_option linter.all false
set_option maxRecDepth 100000
set_option maxHeartbeats 2000000
open PySem PySem.Spec PyProof.Rows L2
namespace Sim
section
variable {K : PySem.W.Frag} {G : Gm} {H : Hp} {st : Stt}
/-- the items of lists -/
def lstsOf (st : Stt) : List W → Option (List (List W))
  | [] => some []
  | w :: ws => match lstOf st w, lstsOf st ws with
    | some xs, some r => some (xs :: r)
    | _, _ => none
/-- sum(lists, []) -/
def fSumL : F1 := fun st ws => match ws with
  | [x, .lst []] => match (lstOf st x).bind (lstsOf st) with
    | some yss => if yss.flatten.length ≤ 100000 then some (.lst yss.flatten) else none
    | none => none
  | _ => none
theorem RepL.app' : ∀ {ws us : List W} {vs zs : List V}, RepL K G H ws vs → RepL K G H us zs → RepL K G H (ws ++ us) (vs ++ zs) := fun a b => a.app b
theorem lstsOf_rep (wo : World K G H) : ∀ {ws : List W} {vs : List V} {yss : List (List W)}, RepL K G H ws vs → lstsOf G.st ws = some yss → ∃ (bs : List Addr) (zss : List (List V)), vs = bs.map V.ref ∧ zss.length = bs.length ∧ (∀ (i : Nat) (b : Addr), bs[i]? = some b → ∃ zs : List V, zss[i]? = some zs ∧ SqL K H b zs) ∧ RepL K G H yss.flatten zss.flatten
  | [], _, yss, h, e => by
    cases h
    unfold lstsOf at e
    cases e
    exact ⟨[], [], rfl, rfl, fun i b h => by simp at h, .nil⟩
  | w :: ws, _, yss, h, e => by
    cases h with
    | cons r rl =>
      unfold lstsOf at e
      split at e
      · rename_i xs rr ex er
        cases e
        obtain ⟨b, zs, rfl, sq, r2⟩ := lst_sq wo r ex
        obtain ⟨bs, zss, rfl, hl, hb, rf⟩ := lstsOf_rep wo rl er
        refine ⟨b :: bs, zs :: zss, rfl, by simp [hl], fun i c hc => ?_, ?_⟩
        · cases i with
          | zero => cases hc; exact ⟨zs, rfl, sq⟩
          | succ j => exact hb j c (by simpa using hc)
        · rw [List.flatten_cons, List.flatten_cons]
          exact r2.app rf
      · cases e
theorem fs_sumL : FnS K (Low.rSumL K) fSumL := fun G H ws vs w Q wo rl e q => by
  unfold fSumL at e
  split at e
  · rename_i x
    split at e
    · rename_i yss ex
      split at e
      · rename_i hl
        cases e
        obtain ⟨v, u, rfl, rx, ry⟩ := rl.two
        cases e1 : lstOf G.st x with
        | none => rw [e1] at ex; cases ex
        | some us =>
          rw [e1] at ex
          obtain ⟨a, zs, rfl, sq, r1⟩ := lst_sq wo rx e1
          obtain ⟨bs, zss, rfl, hln, hb, rf⟩ := lstsOf_rep wo r1 ex
          obtain ⟨a2, zs2, rfl, sq2, r2⟩ := lst_sq (ws := []) wo ry rfl
          cases r2
          refine ⟨a, a2, bs, zss, rfl, sq, sq2, hb, hln, Nat.le_trans (by rw [rf.len]; exact hl) (by decide), fun hbs => ?_, fun p hp => PostV.newL wo q rf hp⟩
          have hz : zss = [] := List.eq_nil_of_length_eq_zero (by rw [hln, hbs]; rfl)
          subst hz
          have hy : yss.flatten = [] := by
            cases hf : yss.flatten with
            | nil => rfl
            | cons a b => rw [hf] at rf; cases rf
          rw [hy] at q
          exact PostV.val wo q ry
      · cases e
    · cases e
  · cases e
theorem lstsOf_lst : ∀ (xs : List (List W)), lstsOf st (xs.map .lst) = some xs
  | [] => rfl
  | x :: xs => by
    rw [List.map_cons]
    unfold lstsOf
    rw [lstsOf_lst xs]
    rfl
theorem sumL_ok {xs : List (List W)} (h : xs.flatten.length ≤ 100000) : fSumL st [.lst (xs.map .lst), .lst []] = some (.lst xs.flatten) := by
  show (match lstsOf st (xs.map .lst) with | some yss => if yss.flatten.length ≤ 100000 then some (W.lst yss.flatten) else none | none => none) = _
  rw [lstsOf_lst]
  dsimp only
  rw [if_pos h]
end
end Sim
end
section
set_option Elab.async false
set_option linter.all false
set_option maxRecDepth 100000
set_option maxHeartbeats 2000000
open PySem PySem.Spec PyProof.Rows L2
namespace Low
/-! repr(nested data) -/
section
variable {K : PySem.W.Frag} {H : Hp}
mutual
theorem dp_noDict : ∀ (d : PyData) (v : V), Dp K H v d → d.hasDict = false
  | .none, _, h => by cases h; simp [PyData.hasDict]
  | .bool b, _, h => by cases h; simp [PyData.hasDict]
  | .int i, _, h => by cases h; simp [PyData.hasDict]
  | .str x, _, h => by cases h; simp [PyData.hasDict]
  | .list ds, _, h => by
    cases h with
    | lst hs ha => simp only [PyData.hasDict]; exact dp_noDictAll ds _ ha
  | .tuple ds, _, h => by
    cases h with
    | tup hs ha => simp only [PyData.hasDict]; exact dp_noDictAll ds _ ha
  | .dict _, _, h => by cases h
theorem dp_noDictAll : ∀ (ds : List PyData) (vs : List V), DpAll K H vs ds → PyData.hasDictAll ds = false
  | [], _, h => by simp [PyData.hasDictAll]
  | d :: ds, _, h => by
    cases h with
    | cons h1 h2 => simp [PyData.hasDictAll, dp_noDict d _ h1, dp_noDictAll ds _ h2]
end
end
section
variable {X : Cx}
def rReprD (K : PySem.W.Frag) : List V → Hp → VK → Prop := fun vs H Q => ∃ (a : Addr) (d : PyData), vs = [V.ref a] ∧ Dp K H (.ref a) d ∧ d.showable = true ∧ d.depth ≤ 64 ∧ d.shown.length ≤ sizeLine ∧ Q (.str d.shown) H
theorem cr_reprD (hg : X.A.guards = some []) (hu : X.A.units + 100 < cLine) : CallR X (.builtin "repr") (rReprD X.K) := by
  intro pins s σ H vs us Q I r h
  obtain ⟨a, d, rfl, hd, hs, hdp, hz, q⟩ := h
  have hus : us = [Value.ref a] := by
    cases r with
    | cons r t =>
      cases t
      cases r
      rfl
  subst hus
  obtain ⟨as, r1⟩ := Dp.reads I d _ _ hd rfl
  refine repr_of_reads' r1 hs (fun z => by rw [dp_noDict d _ hd] at z; cases z) hg (by omega) (fun b o e => e) (fun h' u tk hk => ?_) hz
  exact ⟨.str d.shown, H, I.kept hk, ⟨u, rfl⟩, q⟩
end
end Low
end
section
set_option Elab.async false
set_option linter.all false
set_option maxRecDepth 100000
set_option maxHeartbeats 1000000
open PySem PySem.Spec PyProof.Rows L2
namespace Sim
/-! defs that ask for repr: their promise where no repr is under way -/
structure FnG (P : Program) (w : PySem.World) (K : PySem.W.Frag) (mg : Str → Option Value) (base : Heap) (C : CXT) (k : Nat) (f : Addr) (fd : FuncData) (ps : List Str) (sp : L2.Sp) : Prop where
  len : ∀ vs H Q E, sp vs H Q E → vs.length = ps.length
  go : ∀ (A : Around) (outer : List Env) (s : Shared) (H : Hp) (args : Args) (us : List Value) (vs : List V) (Q : VK) (E : XK), A.guards = some [] → Room k A → Env0 P w K mg base A outer s H → BindsTo s fd args (ps.zip us) → Vals vs us → sp vs H Q E →
    codeAny (model P w) A (.call (.ref f) args) (CR C outer P w H s Q E) s
section
variable {P : Program} {w : PySem.World} {K : PySem.W.Frag} {mg : Str → Option Value} {base : Heap} {C : CXT} {k j : Nat} {f : Addr} {fd : FuncData} {ps : List Str} {sp sp' : L2.Sp}
theorem FnG.of (F : FnOk P w K mg base C k f fd ps sp) : FnG P w K mg base C k f fd ps sp := ⟨F.len, fun A outer s H args us vs Q E _ => F.run A outer s H args us vs Q E⟩
theorem FnG.weak (F : FnG P w K mg base C k f fd ps sp) (h : ∀ vs H Q E, sp' vs H Q E → sp vs H Q E) : FnG P w K mg base C k f fd ps sp' :=
  ⟨fun vs H Q E q => F.len vs H Q E (h _ _ _ _ q), fun A outer s H args us vs Q E hg hr e b r q => F.go A outer s H args us vs Q E hg hr e b r (h _ _ _ _ q)⟩
/-- a def by its body, which knows that no repr is under way -/
theorem fnG_body {x qual : Str} {st : Stmt} {N : List Str} (F : Fun K x qual st f fd) (S : FnScope N ps (defScope st)) (len : ∀ vs H Q E, sp vs H Q E → vs.length = ps.length)
    (hb : ∀ (cdv : Value) (A : Around) (outer : List Env) (s : Shared) (H : Hp) (vs : List V) (Q : VK) (E : XK), A.guards = some [] → Room k (A.deeper (envOfC qual (defScope st) s.heap.objs.size f cdv)) → sp vs H Q E →
      ∃ t, PSs (cxOf C P w K mg base N qual (defScope st) f cdv A outer s H E) (defBody st) t ∧ t { nx := fun _ H' => Q .non H', rt := Q } (start N vs) H) : FnG P w K mg base C (k + 1) f fd ps sp := by
  obtain ⟨oc, od, kV, doc, pm, an, cdv, ct, osl, rfl, lk, hcd⟩ := F.ex
  refine ⟨len, fun A outer s H args us vs Q E hg hr e0 hbind r hq => ?_⟩
  have inK : K.In s.heap := e0.mod.kin.keeps fun b o e => (e0.bs b o e).1
  have noL : s.heap.NoLimit := e0.mod.nolimit.keeps fun b o e => (e0.bs b o e).1
  have kinds : ∀ y ∈ ps.zip us, (defScope st).names.lookup y.1 = some .local ∨ ((defScope st).names.lookup y.1 = some .cell ∧ ((cellsFrom (s.heap.objs.size + 1) (defScope st).names []).lookup y.1).isSome = true) := fun y hy => by
    have hy1 : y.1 ∈ ps := (List.of_mem_zip (show (y.1, y.2) ∈ ps.zip us from hy)).1
    rcases S.par y.1 hy1 with q | q
    · exact .inl q
    · exact .inr ⟨q, PySem.W.cellsFrom_some _ _ _ (.inl q)⟩
  refine codeAny_call_function hr.depth (inK _ _ lk) rfl S.co S.gen rfl (PySem.W.codeRec_of inK hcd) (hbind _ _ _ _ ?_)
  refine wpAny_newFunctionEnv_cells S.kind kinds fun env he s1 x => ?_
  subst he
  refine ⟨noL.keeps x.toInCall.keep, codeAny_func ?_⟩
  obtain ⟨t, ht, hn⟩ := hb cdv A outer s H vs Q E hg (hr.deeper _) hq
  have I := inv_start (E := E) (CX := C) S hr.hd e0 (len _ _ _ _ hq) r x
  refine wpAny_mono (ht.run [] s1 (start N vs) H _ I hn) (fun fl s' hs => ?_) fun e s' hs => hs
  cases fl with
  | next =>
    obtain ⟨σ', H', J, q⟩ := hs
    exact ⟨V.non, H', J.os, J.bare, J.base, J.hok, rfl, q⟩
  | ret u =>
    obtain ⟨v, σ', H', J, rv, q⟩ := hs
    exact ⟨v, H', J.os, J.bare, J.base, J.hok, rv, q⟩
  | brk =>
    obtain ⟨_, _, _, q⟩ := hs
    exact q.elim
  | cont =>
    obtain ⟨_, _, _, q⟩ := hs
    exact q.elim
theorem fnG_ok {x qual : Str} {st : Stmt} {N : List Str} {n : Nat} {b : SM} (F : Fun K x qual st f fd) (S : FnScope N ps (defScope st)) (hn : ps.length = n)
    (hbody : ∀ (cdv : Value) (A : Around) (outer : List Env) (s : Shared) (H : Hp) (E : XK), A.guards = some [] → Room k (A.deeper (envOfC qual (defScope st) s.heap.objs.size f cdv)) →
      ∃ t, CSs (cxOf (L2.CX P w) P w K mg base N qual (defScope st) f cdv A outer s H E) (fun c d _ H => E c d H) (defBody st) t b) : FnG P w K mg base (L2.CX P w) (k + 1) f fd ps (spF K n (mFun N.length b)) := by
  refine fnG_body F S (fun vs H Q E h => h.1.trans hn.symm) fun cdv A outer s H vs Q E hg hr h => ?_
  obtain ⟨t, ht⟩ := hbody cdv A outer s H E hg hr
  obtain ⟨hl, G, ws, wo, rl, hp⟩ := h
  refine ⟨t, ht.pe, ht.sem G H _ _ _ wo rl.ev ?_⟩
  unfold mFun at hp
  cases e : b (entry N.length ws) G.st with
  | nx ρ st' => rw [e] at hp; exact fun ls' σ' H' x w r => hp ls' H' .non x w .non
  | rt u st' => rw [e] at hp; exact fun ls' v H' x w r => hp ls' H' v x w r
  | bk ρ st' => rw [e] at hp; exact hp.elim
  | ct ρ st' => rw [e] at hp; exact hp.elim
  | er y ρ st' => rw [e] at hp; exact fun ls' σ' H' d x w r q => hp ls' H' d x w q
  | no => rw [e] at hp; exact hp.elim
end
end Sim
end
section
set_option Elab.async false
set_option linter.all false
set_option maxRecDepth 100000
set_option maxHeartbeats 1000000
open PySem PySem.Spec PyProof.Rows L2
namespace Sim
section
variable {X : Cx} {Wx : WX} {C : CXT} {k n : Nat} {f : Addr} {fd : FuncData} {ps ks : List Str} {is : List Nat} {sp : L2.Sp} {E : L2.St → XK} {x : Str} {p pos : Pos} {e : Expr} {es : List Expr} {kws : List Keyword} {t : TA} {ds : List Value} {dvs : List V}
/-- such a def called from such a def -/
theorem endG {pins : List (Addr × Obj)} {σ : L2.St} {H : Hp} {s : Shared} {Q : VK} {a : Args} {us : List Value} {vs : List V} (F : FnG X.prog X.w X.K X.mg X.base C k f fd ps sp) (hg : X.A.guards = some []) (hr : Room k X.A) (hx : PassesAt C X σ (E σ))
    (I : Inv X pins σ H s) (b : BindsTo s fd a (ps.zip us)) (r : Vals vs us) (h : sp vs H Q (E σ)) : codeAny (model X.prog X.w) X.A (.call (.ref f) a) (fun r s' => match r with | .ok (.ret u) => EP X pins σ Q u s' | .ok _ => False | .error e => X.xe e s') s :=
  codeAny_mono (F.go X.A X.stack s H a us vs Q (E σ) hg hr I.env0 b r h) fun r s' hq => by
    cases r with
    | error e => exact hx pins H s e s' I hq
    | ok fl =>
      cases fl with
      | ret u => exact I.after hq
      | next => exact hq.elim
      | brk => exact hq.elim
      | cont => exact hq.elim
theorem pe_callG (F : FnG X.prog X.w X.K X.mg X.base C k f fd ps sp) (hgs : X.A.guards = some []) (hr : Room k X.A) (hg : Gl X x) (hm : X.mg x = some (.ref f)) (hk : PySem.W.keepIn X.K (.ref f) = true) (hb : Binds X.K fd ps ds) (hd : Vals dvs ds) (hx : ∀ σ, PassesAt C X σ (E σ))
    (ha : PA X (e :: es) t) (hdb : (x == ("__debug__" : Str)) = false := by decide) (he : starEach (e :: es) X.env = (false, eval e X.env) :: starEach es X.env := by rfl) (hpl : (backTo pos (starEach es X.env)).any (·.1) = false := by rfl) :
    PE X (.Call (.Name x p) (e :: es) [] pos) (tCallSD sp dvs E t) := by
  refine ⟨fun pins s σ H Q I h => ?_⟩
  refine wpAny_Call_Name_kw (ld_glob I hg hm ?_ hdb)
  refine PySem.W.callWith_K (h₀ := X.base) I.ok.mod.kin hk (thn (ha.run pos pins s σ H _ I h) fun us s1 ⟨vs, H1, I1, r, q⟩ => ⟨I1.kIn, ?_⟩) he hpl
  have r2 : Vals (vs ++ dvs) (us ++ ds) := r.append hd
  have hl : (us ++ ds).length = ps.length := by rw [← r2.length]; exact F.len _ _ _ _ q
  refine wpAny_call (codeAny_mono (endG F hgs hr (hx σ) I1 (hb s1 us I1.kIn hl) r2 q) fun r s' hq => ?_)
  cases r with
  | error e => exact hq
  | ok fl => cases fl <;> exact hq
theorem pe_callGP {tk : TA} (F : FnG X.prog X.w X.K X.mg X.base C k f fd ps sp) (hgs : X.A.guards = some []) (hr : Room k X.A) (hg : Gl X x) (hm : X.mg x = some (.ref f)) (hk : PySem.W.keepIn X.K (.ref f) = true) (hb : KB X.K fd ps ks is) (hx : ∀ σ, PassesAt C X σ (E σ))
    (hkw : PK X kws tk) (hn : n = ks.length) (hall : (backToKw pos (keywordEach kws X.env)).all (·.1.isSome) = true := by rfl) (hks : (backToKw pos (keywordEach kws X.env)).filterMap (·.1) = ks := by rfl)
    (hdb : (x == ("__debug__" : Str)) = false := by decide)
    (hpl : ((backTo pos (starEach [] X.env)).any (·.1) || (backToKw pos (keywordEach kws X.env)).any (·.1.isNone)) = false := by rfl) :
    PE X (.Call (.Name x p) [] kws pos) (tCallP sp is n E tk) := by
  refine ⟨fun pins s σ H Q I h => ?_⟩
  refine wpAny_Call_Name_kw (ld_glob I hg hm ?_ hdb)
  refine PySem.W.callWith_KW0 (h₀ := X.base) I.ok.mod.kin hk hall (thn (hkw.run pos pins s σ H _ I h) fun ws s2 ⟨zs, H2, I2, rz, l2, q2⟩ => ⟨I2.kIn, ?_⟩) hpl
  rw [hks]
  refine wpAny_call (codeAny_mono (endG F hgs hr (hx σ) I2 (hb.to s2 ws I2.kIn (rz.length.symm.trans (l2.trans hn))) (Vals.perm rz is) q2) fun r s' hq => ?_)
  cases r with
  | error e => exact hq
  | ok fl => cases fl <;> exact hq
end
section
variable {X : Cx} {Wx : WX} {k n : Nat} {f : Addr} {fd : FuncData} {ps ks : List Str} {is : List Nat} {m : FM} {x : Str} {p pos : Pos} {e : Expr} {es : List Expr} {kws : List Keyword} {t : TA} {as : AM}
theorem ceG_call (F : FnG X.prog X.w X.K X.mg X.base (L2.CX X.prog X.w) k f fd ps (spF X.K n m)) (hgs : X.A.guards = some []) (hr : Room k X.A) (tk : Takes X Wx) (hg : Gl X x) (hm : X.mg x = some (.ref f)) (hk : PySem.W.keepIn X.K (.ref f) = true) (hb : Binds X.K fd ps [])
    (ha : CA X Wx (e :: es) t as) (hl : ALen as n) (hdb : (x == ("__debug__" : Str)) = false := by decide) (he : starEach (e :: es) X.env = (false, eval e X.env) :: starEach es X.env := by rfl) (hpl : (backTo pos (starEach es X.env)).any (·.1) = false := by rfl) :
    CE X Wx (.Call (.Name x p) (e :: es) [] pos) (tCallSD (spF X.K n m) [] (WE Wx) t) (eCall m as) := by
  refine ⟨pe_callG F hgs hr hg hm hk hb .nil (passAt tk) ha.pe hdb he hpl, ?_⟩
  have := sem_call (m := m) (n := n) (dvs := []) (dws := []) ha.sem (fun _ _ => .nil) (fun ρ st ws st' e => by simpa using hl ρ st ws st' e)
  simpa only [List.append_nil] using this
theorem ceG_callP (F : FnG X.prog X.w X.K X.mg X.base (L2.CX X.prog X.w) k f fd ps (spF X.K n m)) (hgs : X.A.guards = some []) (hr : Room k X.A) (tk : Takes X Wx) (hg : Gl X x) (hm : X.mg x = some (.ref f)) (hk : PySem.W.keepIn X.K (.ref f) = true) (hb : KB X.K fd ps ks is)
    (ha : CK X Wx kws t as) (hl : ALen as n) (hi : ∀ l : List V, l.length = n → (permL is l).length = n) (hn : n = ks.length) (hall : (backToKw pos (keywordEach kws X.env)).all (·.1.isSome) = true := by rfl) (hks : (backToKw pos (keywordEach kws X.env)).filterMap (·.1) = ks := by rfl) (hdb : (x == ("__debug__" : Str)) = false := by decide)
    (hpl : ((backTo pos (starEach [] X.env)).any (·.1) || (backToKw pos (keywordEach kws X.env)).any (·.1.isNone)) = false := by rfl) :
    CE X Wx (.Call (.Name x p) [] kws pos) (tCallP (spF X.K n m) is n (WE Wx) t) (eCallP is m as) :=
  ⟨pe_callGP F hgs hr hg hm hk hb (passAt tk) ha.pe hn hall hks hdb hpl, sem_callP ha.sem hl hi⟩
end
/-- a def's own places let go -/
theorem fnG_frz {K : PySem.W.Frag} {P : Program} {w : PySem.World} {mg : Str → Option Value} {base : Heap} {C : CXT} {f : Addr} {fd : FuncData} {ps : List Str} {k n : Nat} {m : FM} (F : FnG P w K mg base C k f fd ps (spF K n m)) : FnG P w K mg base C k f fd ps (spF K n (frz m)) :=
  F.weak fun vs H Q E q => by
    obtain ⟨hl, G, ws, wo, rl, hp⟩ := q
    refine ⟨hl, G, ws, wo, rl, ?_⟩
    unfold frz at hp
    cases e : m ws G.st with
    | no => rw [e] at hp; exact hp.elim
    | er x st' =>
      rw [e] at hp
      dsimp only at hp
      split at hp
      · rename_i hok
        intro ls' H' d xe w' rx
        obtain ⟨_, x2, w2⟩ := frz_cut wo xe w' hok.1
        exact hp G.ls H' d x2 w2 (.inl hok.2)
      · exact hp.elim
    | ok r st' =>
      rw [e] at hp
      dsimp only at hp
      split at hp
      · rename_i hok
        cases ef : fzW G.st.length st' r with
        | none => rw [ef] at hp; exact hp.elim
        | some r' =>
          rw [ef] at hp
          intro ls' H' v xe w' rv
          obtain ⟨sh, x2, w2⟩ := frz_cut wo xe w' hok
          refine hp G.ls H' v x2 w2 ?_
          exact fz_rep (G := G.to G.ls (st'.take G.st.length)) w' sh xe.ls r v r' rv (by rw [show (G.to G.ls (st'.take G.st.length)).ls.length = G.st.length from wo.len]; exact ef)
      · exact hp.elim
theorem reprs_of {k : Nat} {A : Around} (r : Room k A) : A.units + 100 < cLine := by have := r.un; omega
/-! repr(a tuple or a list) -/
def isDisp : PyData → Bool
  | .list _ => true
  | .tuple _ => true
  | _ => false
def fRepr : F1 := fun st ws => match ws with
  | [w] => match toD st w with
    | some d => if isDisp d = true ∧ d.showable = true ∧ d.depth ≤ 64 ∧ d.shown.length ≤ 1000000 then some (.str d.shown) else none
    | none => none
  | _ => none
section
variable {K : PySem.W.Frag}
theorem fs_repr : FnS K (Low.rReprD K) fRepr := fun G H ws vs w Q wo rl e q => by
  unfold fRepr at e
  split at e
  · rename_i u
    split at e
    · rename_i d ed
      split at e
      · rename_i hd
        cases e
        obtain ⟨v, rfl, rv⟩ := rl.one
        have dp := toD_dp wo u v d rv ed
        obtain ⟨h1, h2, h3, h4⟩ := hd
        cases dp with
        | lst hs ha => exact ⟨_, _, rfl, .lst hs ha, h2, h3, Nat.le_trans h4 (by decide), PostV.val wo q (.str _)⟩
        | tup hs ha => exact ⟨_, _, rfl, .tup hs ha, h2, h3, Nat.le_trans h4 (by decide), PostV.val wo q (.str _)⟩
        | non => cases h1
        | bl b => cases h1
        | int i => cases h1
        | str z => cases h1
      · cases e
    · cases e
  · cases e
end
end Sim
end
section
set_option Elab.async false
set_option linter.all false
set_option maxRecDepth 100000
set_option maxHeartbeats 1000000
open PySem PySem.Spec PyProof.Rows L2
namespace Sim
/-! the end of a law whose own def asks for repr: the outermost caller has no repr under way -/
section
variable {P : Program} {w : PySem.World} {K : PySem.W.Frag} {mg mb : Str → Option Value} {C : CXT} {k : Nat} {fa a : Addr} {fd : FuncData} {x : Str} {sp : L2.Sp} {s₁ : Shared} {vs : List Value} {ns : List Int}
theorem lawG_at {H : Hp} (KX : K.In s₁.heap) (hns : s₁.heap.Ns mainGlobals mg) (hb : s₁.heap.Ns builtinsNs mb) (hbb : ∀ x : Str, x ≠ "__name__" → mb x = bootBuiltins x) (hlim : s₁.heap.NoLimit) (hg : s₁.gens = #[])
    (ha : s₁.heap.get? a = some { cls := .type "list", data := .seq vs.toArray }) (hr : Room k callerA)
    (F : ∀ base : Heap, K.In base → base.Ns mainGlobals mg → FnG P w K mg base C k fa fd [x] sp) (hbind : ∀ (s : Shared) (u : Value), BindsTo s fd ⟨[u], []⟩ [(x, u)])
    (hsp : sp [.ref a] H (fun v _ => v = .bl true) fun _ _ _ => False) (hCX : ∀ e s', C [] H s₁ (fun _ _ _ => False) e s' → False)
    (hO : Only H) (hok : HOk P w H s₁.heap) (hA : ∀ b, H b ≠ none → b = a) (hK : H a ≠ none → K.lookup a = none) :
    codeAny (model P w) callerA (.call (.ref fa) ⟨[.ref a], []⟩) (fun r s' => r = .ok (.ret (.bool true)) ∧ OldK s₁.heap s'.heap ∧ s'.os = s₁.os ∧ AllBare s'.gens) s₁ := by
  have only : ∀ {b : Addr}, (b ≠ a) → H b = none := fun {b} hb => Classical.byContradiction fun z => hb (hA b z)
  have notA : ∀ {b : Addr} {o : Obj} {es : Array DictEntry} {ep : Nat}, s₁.heap.get? b = some o → o.data = .dict es ep → b ≠ a := fun {b o es ep} e d z => by
    subst z
    rw [ha] at e
    cases e
    cases (show Data.seq vs.toArray _ = Data.dict es ep from d)
  have names : ∀ {b : Addr} {m : Str → Option Value}, s₁.heap.Ns b m → (hidT s₁.heap H).Ns b m := fun {b m} ⟨o, es, ep, e, d, r⟩ => ⟨o, es, ep, hidT_get e (only (notA e d)), d, r⟩
  have inH : K.In (hidT s₁.heap H) := fun b o e => hidT_get (KX b o e) (Classical.byContradiction fun z => by
    have hb := hA b z
    subst hb
    rw [hK z] at e
    cases e)
  have M : Mod K mg (hidT s₁.heap H) := ⟨inH, names hns, ⟨mb, names hb, hbb⟩, let ⟨mc, h1, h2⟩ := hlim; ⟨mc, names h1, h2⟩⟩
  have e0 : Env0 P w K mg (hidT s₁.heap H) callerA [] s₁ H := ⟨rfl, M, fun b o e => of_hidT e, Nat.le_of_eq (hidT_size _ _), trivial, fun b z => absurd (show b ∈ ([] : List Addr) from z) List.not_mem_nil, hok, .of_eq hg⟩
  refine codeAny_mono ((F _ inH (names hns)).go callerA [] s₁ H ⟨[.ref a], []⟩ [.ref a] [.ref a] _ _ rfl hr e0 (hbind s₁ (.ref a)) (.cons rfl .nil) hsp) fun r s' h => ?_
  cases r with
  | error e => exact (hCX e s' h).elim
  | ok fl =>
    cases fl with
    | next => exact h.elim
    | brk => exact h.elim
    | cont => exact h.elim
    | ret u =>
      obtain ⟨v, H', os, bare, un, hok', rv, q⟩ := h
      obtain rfl : v = .bl true := q
      obtain rfl : u = Value.bool true := rv
      refine ⟨rfl, OldK.of_keep fun b o e => ?_, os, bare⟩
      cases q : H b with
      | none => exact un.keep b o e q (fun z => absurd (show b ∈ ([] : List Addr) from z) List.not_mem_nil) List.not_mem_nil
      | some u =>
        rcases hO b with z | ⟨ob, xs, z⟩
        · rw [q] at z
          cases z
        · obtain ⟨e1, _⟩ := hok b _ z
          obtain ⟨e2, _⟩ := hok' b _ (un.frzs b ob _ z)
          rw [e] at e1
          cases e1
          exact e2
theorem lawG (KX : K.In s₁.heap) (hns : s₁.heap.Ns mainGlobals mg) (hb : s₁.heap.Ns builtinsNs mb) (hbb : ∀ x : Str, x ≠ "__name__" → mb x = bootBuiltins x) (hlim : s₁.heap.NoLimit) (hg : s₁.gens = #[])
    (ha : s₁.heap.get? a = some { cls := .type "list", data := .seq vs.toArray }) (hi : IntsAre vs ns) (hl : ns.length ≤ sizeLine) (hr : Room k callerA)
    (F : ∀ base : Heap, K.In base → base.Ns mainGlobals mg → FnG P w K mg base C k fa fd [x] sp) (hbind : ∀ (s : Shared) (u : Value), BindsTo s fd ⟨[u], []⟩ [(x, u)])
    (hsp : ∀ H : Hp, Only H → SqL K H a (ns.map V.int) → sp [.ref a] H (fun v _ => v = .bl true) fun _ _ _ => False) (hCX : ∀ H e s', C [] H s₁ (fun _ _ _ => False) e s' → False) :
    codeAny (model P w) callerA (.call (.ref fa) ⟨[.ref a], []⟩) (fun r s' => r = .ok (.ret (.bool true)) ∧ OldK s₁.heap s'.heap ∧ s'.os = s₁.os ∧ AllBare s'.gens) s₁ := by
  have rv := vals_ints hi
  by_cases hk : K.lookup a = none
  · have at1 : (fun b => if b = a then some (HO.frz { cls := .type "list", data := .seq vs.toArray } (.lst (ns.map V.int))) else none) a = some (HO.frz { cls := .type "list", data := .seq vs.toArray } (.lst (ns.map V.int))) := if_pos rfl
    have ot : ∀ b, b ≠ a → (fun b => if b = a then some (HO.frz { cls := .type "list", data := .seq vs.toArray } (.lst (ns.map V.int))) else none) b = none := fun b h => if_neg h
    generalize (fun b => if b = a then some (HO.frz { cls := .type "list", data := .seq vs.toArray } (.lst (ns.map V.int))) else none) = H at at1 ot
    have hO : Only H := fun b => by
      by_cases h : b = a
      · subst h; exact .inr ⟨_, _, at1⟩
      · exact .inl (ot b h)
    refine lawG_at KX hns hb hbb hlim hg ha hr F hbind (hsp H hO (.inl (.inr ⟨_, at1⟩))) (fun e s' => hCX H e s') hO (fun b u z => ?_) (fun b z => Classical.byContradiction fun h => z (ot b h)) fun _ => hk
    by_cases h : b = a
    · subst h
      rw [at1] at z
      cases z
      exact ⟨ha, by rw [List.length_map]; exact hl, vs, _, rv, ha⟩
    · rw [ot b h] at z
      cases z
  · cases e : K.lookup a with
    | none => exact absurd e hk
    | some o =>
      have eo := KX a o e
      rw [ha] at eo
      cases eo
      have nO : Only (fun _ => none) := fun _ => .inl rfl
      refine lawG_at (H := fun _ => none) KX hns hb hbb hlim hg ha hr F hbind (hsp _ nO (.inr ⟨_, vs.toArray, _, e, rfl, rfl, rfl, by rw [List.size_toArray, hi.length]; exact hl, by simpa using rv⟩)) (fun e s' => hCX _ e s') nO (fun b u z => by cases z) (fun b z => absurd rfl z) fun z => absurd rfl z
end
theorem walk_ofG {l : PySem.W.OpenLaw} {n k : Nat} {q : Program} {loose : List Str} {XP : (Str → Option Value) → Heap → Prop} {YP : PySem.World → Heap → Prop} {d : DefRec} {K : Params → PySem.W.Frag} {C : PySem.World → CXT} {sp : PySem.World → L2.Sp} {x : Str}
    (hn : l.most = some n) (hn2 : n ≤ sizeLine) (hdf : d.params.defaults = []) (hr : Room k callerA) (hY : ∀ (w : PySem.World) (h : Heap), YP w h → (K w.params).In h)
    (F : ∀ (w : PySem.World) (mg : Str → Option Value) (fa : Addr) (h : Heap), (K w.params).In h → h.Ns mainGlobals mg → mg d.name = some (.ref fa) →
      ∃ fd : FuncData, (∀ (s : Shared) (u : Value), BindsTo s fd ⟨[u], []⟩ [(x, u)]) ∧ ∀ base : Heap, (K w.params).In base → base.Ns mainGlobals mg → FnG l.prog w (K w.params) mg base (C w) k fa fd [x] (sp w))
    (hsp : ∀ (w : PySem.World) (H : Hp) (a : Addr) (ns : List Int), ns.length ≤ n → Only H → SqL (K w.params) H a (ns.map V.int) → sp w [.ref a] H (fun v _ => v = .bl true) fun _ _ _ => False)
    (hCX : ∀ (w : PySem.World) (H : Hp) (s : Shared) (e : Value) (s' : Shared), C w [] H s (fun _ _ _ => False) e s' → False) :
    PySem.W.WalkO q loose XP YP l.row.toRowW d [] (fun f vs => PySem.call f vs) := by
  refine Att.attach_call hn hdf fun w s₀ s₁ mg mb fa o pm cd doc a vs ns G Y ho hd hcd hmg hobj hints hlen hg => ?_
  obtain ⟨fd, hb, hF⟩ := F w mg fa _ (hY w _ Y) G.T.g hmg
  exact lawG (hY w _ Y) G.T.g G.T.b G.T.builtins G.T.nolimit hg hobj hints (Nat.le_trans hlen hn2) hr hF hb (fun H hO hS => hsp w H a ns hlen hO hS) fun H e s' => hCX w H s₁ e s'
end Sim
end
section
set_option Elab.async false
set_option linter.all false
set_option maxRecDepth 100000
set_option maxHeartbeats 1000000
open PySem PySem.Spec PyProof.Rows L2
namespace Sim
/-! how long a repr is, at most -/
theorem piled_le {B : Nat} : ∀ {ts : List Str}, (∀ t ∈ ts, t.length ≤ B) → piled ts ≤ ts.length * (B + 2)
  | [], _ => by rw [piled_nil]; exact Nat.zero_le _
  | t :: ts, h => by
    have h1 := h t List.mem_cons_self
    have h2 := piled_le (ts := ts) fun u hu => h u (List.mem_cons_of_mem _ hu)
    rw [piled_cons, List.length_cons, Nat.succ_mul]
    omega
theorem tupleText_le {B : Nat} {ts : List Str} (h : ∀ t ∈ ts, t.length ≤ B) : (tupleText ts).length ≤ ts.length * (B + 2) + 4 := by
  have hp := piled_le h
  unfold tupleText
  rw [strLen_append, strLen_append]
  have e1 : (("(" : String) : Str).length = 1 := rfl
  have e2 : ((if ts.length == 1 then ",)" else ")" : String) : Str).length ≤ 2 := by split <;> decide
  rw [e1]
  by_cases hn : ts = []
  · subst hn
    have : (Str.join ", " []).length = 0 := rfl
    omega
  · have := join_length_add ts hn
    omega
theorem textFrom_le {B : Nat} : ∀ {ts : List Str} {k : Nat} {acc : Str}, (∀ t ∈ ts, t.length ≤ B) → (textFrom k acc ts).length ≤ acc.length + ts.length * (B + 2)
  | [], k, acc, _ => by show acc.length ≤ _; omega
  | t :: ts, k, acc, h => by
    have h1 := h t List.mem_cons_self
    have h2 := textFrom_le (ts := ts) (k := k + 1) (acc := acc ++ (if k > 0 then ", " else "" : String) ++ t) fun u hu => h u (List.mem_cons_of_mem _ hu)
    have e : (acc ++ (if k > 0 then ", " else "" : String) ++ t).length ≤ acc.length + 2 + t.length := by
      rw [strLen_append, strLen_append]
      split
      · exact Nat.le_refl _
      · have : (("" : String) : Str).length = 0 := rfl
        omega
    show (textFrom (k + 1) (acc ++ (if k > 0 then ", " else "" : String) ++ t) ts).length ≤ _
    rw [List.length_cons, Nat.succ_mul]
    omega
theorem listText_le {B : Nat} {ts : List Str} (h : ∀ t ∈ ts, t.length ≤ B) : (listText ts).length ≤ ts.length * (B + 2) + 4 := by
  unfold listText
  rw [strLen_append]
  have := textFrom_le (k := 0) (acc := "[") h
  have e1 : (("[" : String) : Str).length = 1 := rfl
  have e2 : (("]" : String) : Str).length = 1 := rfl
  omega
theorem shownAll_mem {B : Nat} : ∀ {ds : List PyData}, (∀ d ∈ ds, d.shown.length ≤ B) → ∀ t ∈ PyData.shownAll ds, t.length ≤ B
  | [], _, t, ht => by simp [PyData.shownAll] at ht
  | d :: ds, h, t, ht => by
    simp only [PyData.shownAll] at ht
    rcases List.mem_cons.mp ht with e | e
    · rw [e]; exact h d List.mem_cons_self
    · exact shownAll_mem (fun c hc => h c (List.mem_cons_of_mem _ hc)) t e
theorem shownAll_length : ∀ (ds : List PyData), (PyData.shownAll ds).length = ds.length
  | [] => by simp [PyData.shownAll]
  | d :: ds => by simp [PyData.shownAll, shownAll_length ds]
theorem shown_tup_le {B : Nat} {ds : List PyData} (h : ∀ d ∈ ds, d.shown.length ≤ B) : (PyData.tuple ds).shown.length ≤ ds.length * (B + 2) + 4 := by
  have := tupleText_le (shownAll_mem h)
  rw [shownAll_length] at this
  simpa only [PyData.shown] using this
theorem shown_list_le {B : Nat} {ds : List PyData} (h : ∀ d ∈ ds, d.shown.length ≤ B) : (PyData.list ds).shown.length ≤ ds.length * (B + 2) + 4 := by
  have := listText_le (shownAll_mem h)
  rw [shownAll_length] at this
  simpa only [PyData.shown] using this
theorem so1 : PyData.strOk ((", " : String) : Str) = true := by decide +kernel
theorem so2 : PyData.strOk (("" : String) : Str) = true := by decide +kernel
theorem so3 : PyData.strOk (("(" : String) : Str) = true := by decide +kernel
theorem so4 : PyData.strOk ((")" : String) : Str) = true := by decide +kernel
theorem so5 : PyData.strOk ((",)" : String) : Str) = true := by decide +kernel
theorem so6 : PyData.strOk (("[" : String) : Str) = true := by decide +kernel
theorem so7 : PyData.strOk (("]" : String) : Str) = true := by decide +kernel
theorem ok_app (x y : Str) : PyData.strOk (x ++ y) = (PyData.strOk x && PyData.strOk y) := by
  unfold PyData.strOk
  show (x.cps ++ y.cps).all _ = _
  rw [Array.all_append]
theorem ok_join : ∀ {ts : List Str}, (∀ t ∈ ts, PyData.strOk t = true) → PyData.strOk (Str.join ", " ts) = true
  | [], _ => so2
  | [x], h => h x List.mem_cons_self
  | x :: y :: r, h => by
    show PyData.strOk (x ++ ", " ++ Str.join ", " (y :: r)) = true
    rw [ok_app, ok_app, h x List.mem_cons_self, ok_join (ts := y :: r) fun t ht => h t (List.mem_cons_of_mem _ ht), so1]
    rfl
theorem ok_from : ∀ {ts : List Str} {k : Nat} {acc : Str}, PyData.strOk acc = true → (∀ t ∈ ts, PyData.strOk t = true) → PyData.strOk (textFrom k acc ts) = true
  | [], k, acc, ha, _ => ha
  | t :: ts, k, acc, ha, h => by
    refine ok_from (k := k + 1) (acc := acc ++ (if k > 0 then ", " else "" : String) ++ t) ?_ fun u hu => h u (List.mem_cons_of_mem _ hu)
    rw [ok_app, ok_app, ha, h t List.mem_cons_self]
    split
    · rw [so1]; rfl
    · rw [so2]; rfl
theorem shownAll_ok : ∀ {ds : List PyData}, (∀ d ∈ ds, PyData.strOk d.shown = true) → ∀ t ∈ PyData.shownAll ds, PyData.strOk t = true
  | [], _, t, ht => by simp [PyData.shownAll] at ht
  | d :: ds, h, t, ht => by
    simp only [PyData.shownAll] at ht
    rcases List.mem_cons.mp ht with e | e
    · rw [e]; exact h d List.mem_cons_self
    · exact shownAll_ok (fun c hc => h c (List.mem_cons_of_mem _ hc)) t e
theorem shown_tup_ok {ds : List PyData} (h : ∀ d ∈ ds, PyData.strOk d.shown = true) : PyData.strOk (PyData.tuple ds).shown = true := by
  simp only [PyData.shown]
  unfold tupleText
  rw [ok_app, ok_app, ok_join (shownAll_ok h), so3]
  split
  · rw [so5]; rfl
  · rw [so4]; rfl
theorem shown_list_ok {ds : List PyData} (h : ∀ d ∈ ds, PyData.strOk d.shown = true) : PyData.strOk (PyData.list ds).shown = true := by
  simp only [PyData.shown]
  unfold listText
  rw [ok_app, ok_from (k := 0) (acc := "[") so6 (shownAll_ok h), so7]
  rfl
theorem f_repr {st : Stt} {w : W} {d : PyData} (h : toD st w = some d) (h1 : isDisp d = true) (h2 : d.showable = true) (h3 : d.depth ≤ 64) (h4 : d.shown.length ≤ 1000000) : fRepr st [w] = some (.str d.shown) := by
  show (match toD st w with | some d => if isDisp d = true ∧ d.showable = true ∧ d.depth ≤ 64 ∧ d.shown.length ≤ 1000000 then some (W.str d.shown) else none | none => none) = _
  rw [h]
  dsimp only
  rw [if_pos ⟨h1, h2, h3, h4⟩]
end Sim
end
section
set_option Elab.async false
set_option linter.all false
set_option maxRecDepth 100000
set_option maxHeartbeats 4000000
open PySem PySem.Spec PyProof.Rows L2
namespace Lw
open Sim
abbrev pW : Program := PySem.Challenge.pw_twonames_k01_told_and_written
def topS (i : Nat) : Stmt := pW.main.body.getD i (.Pass ⟨0, 0, 0, 0⟩)
abbrev s_is_amount : Stmt := topS 10
abbrev nm_is_amount : List Str := ["thing"]
theorem sc_is_amount : FnScope nm_is_amount ["thing"] (defScope s_is_amount) := ⟨rfl, rfl, rfl, by decide +kernel, rfl, by decide +kernel, by decide +kernel⟩
abbrev s_is_letter : Stmt := topS 11
abbrev nm_is_letter : List Str := ["thing"]
theorem sc_is_letter : FnScope nm_is_letter ["thing"] (defScope s_is_letter) := ⟨rfl, rfl, rfl, by decide +kernel, rfl, by decide +kernel, by decide +kernel⟩
abbrev s_is_row : Stmt := topS 12
abbrev nm_is_row : List Str := ["thing", "one"]
theorem sc_is_row : FnScope nm_is_row ["thing"] (defScope s_is_row) := ⟨rfl, rfl, rfl, by decide +kernel, rfl, by decide +kernel, by decide +kernel⟩
abbrev s_is_pair : Stmt := topS 13
abbrev nm_is_pair : List Str := ["thing", "row"]
theorem sc_is_pair : FnScope nm_is_pair ["thing"] (defScope s_is_pair) := ⟨rfl, rfl, rfl, by decide +kernel, rfl, by decide +kernel, by decide +kernel⟩
abbrev s_is_place : Stmt := topS 14
abbrev nm_is_place : List Str := ["thing", "many"]
theorem sc_is_place : FnScope nm_is_place ["thing", "many"] (defScope s_is_place) := ⟨rfl, rfl, rfl, by decide +kernel, rfl, by decide +kernel, by decide +kernel⟩
abbrev s_is_event_of : Stmt := topS 15
abbrev nm_is_event_of : List Str := ["letters", "many", "thing", "one"]
theorem sc_is_event_of : FnScope nm_is_event_of ["letters", "many", "thing"] (defScope s_is_event_of) := ⟨rfl, rfl, rfl, by decide +kernel, rfl, by decide +kernel, by decide +kernel⟩
abbrev s_need_pair : Stmt := topS 16
abbrev nm_need_pair : List Str := ["pair"]
theorem sc_need_pair : FnScope nm_need_pair ["pair"] (defScope s_need_pair) := ⟨rfl, rfl, rfl, by decide +kernel, rfl, by decide +kernel, by decide +kernel⟩
abbrev s_are_events : Stmt := topS 17
abbrev nm_are_events : List Str := ["pair", "thing", "one"]
theorem sc_are_events : FnScope nm_are_events ["pair", "thing"] (defScope s_are_events) := ⟨rfl, rfl, rfl, by decide +kernel, rfl, by decide +kernel, by decide +kernel⟩
abbrev s_need_events : Stmt := topS 18
abbrev nm_need_events : List Str := ["pair", "events"]
theorem sc_need_events : FnScope nm_need_events ["pair", "events"] (defScope s_need_events) := ⟨rfl, rfl, rfl, by decide +kernel, rfl, by decide +kernel, by decide +kernel⟩
abbrev s_to_front : Stmt := topS 19
abbrev nm_to_front : List Str := ["row", "place"]
theorem sc_to_front : FnScope nm_to_front ["row", "place"] (defScope s_to_front) := ⟨rfl, rfl, rfl, by decide +kernel, rfl, by decide +kernel, by decide +kernel⟩
abbrev s_done : Stmt := topS 20
abbrev nm_done : List Str := ["told", "heard", "event", "kind", "place", "written"]
theorem sc_done : FnScope nm_done ["told", "heard", "event"] (defScope s_done) := ⟨rfl, rfl, rfl, by decide +kernel, rfl, by decide +kernel, by decide +kernel⟩
abbrev s_gone : Stmt := topS 21
abbrev nm_gone : List Str := ["pair", "events", "told", "heard", "said", "written", "event", "more"]
theorem sc_gone : FnScope nm_gone ["pair", "events"] (defScope s_gone) := ⟨rfl, rfl, rfl, by decide +kernel, rfl, by decide +kernel, by decide +kernel⟩
abbrev s_go : Stmt := topS 22
abbrev nm_go : List Str := ["pair", "events"]
theorem sc_go : FnScope nm_go ["pair", "events"] (defScope s_go) := ⟨rfl, rfl, rfl, by decide +kernel, rfl, by decide +kernel, by decide +kernel⟩
abbrev s__law_spool : Stmt := topS 24
abbrev nm__law_spool : List Str := ["script", "k", "cell"]
theorem sc__law_spool : FnScope nm__law_spool ["script", "k"] (defScope s__law_spool) := ⟨rfl, rfl, rfl, by decide +kernel, rfl, by decide +kernel, by decide +kernel⟩
abbrev s__law_wind : Stmt := topS 25
abbrev nm__law_wind : List Str := ["spool", "wide", "found", "mixed"]
theorem sc__law_wind : FnScope nm__law_wind ["spool", "wide"] (defScope s__law_wind) := ⟨rfl, rfl, rfl, by decide +kernel, rfl, by decide +kernel, by decide +kernel⟩
abbrev s__law_mixed : Stmt := topS 26
abbrev nm__law_mixed : List Str := ["spool", "things", "spare", "k"]
theorem sc__law_mixed : FnScope nm__law_mixed ["spool", "things"] (defScope s__law_mixed) := ⟨rfl, rfl, rfl, by decide +kernel, rfl, by decide +kernel, by decide +kernel⟩
abbrev s__law_letters : Stmt := topS 27
abbrev nm__law_letters : List Str := ["spool", "most", "signs", "size"]
theorem sc__law_letters : FnScope nm__law_letters ["spool", "most"] (defScope s__law_letters) := ⟨rfl, rfl, rfl, by decide +kernel, rfl, by decide +kernel, by decide +kernel⟩
abbrev s__law_two : Stmt := topS 28
abbrev nm__law_two : List Str := ["spool", "most", "one", "way", "other", "turn"]
theorem sc__law_two : FnScope nm__law_two ["spool", "most"] (defScope s__law_two) := ⟨rfl, rfl, rfl, by decide +kernel, rfl, by decide +kernel, by decide +kernel⟩
abbrev s__law_event : Stmt := topS 29
abbrev nm__law_event : List Str := ["spool", "row", "kinds", "size", "kind", "place"]
theorem sc__law_event : FnScope nm__law_event ["spool", "row", "kinds"] (defScope s__law_event) := ⟨rfl, rfl, rfl, by decide +kernel, rfl, by decide +kernel, by decide +kernel⟩
abbrev s__law_events : Stmt := topS 30
abbrev nm__law_events : List Str := ["spool", "row", "most", "kinds", "k"]
theorem sc__law_events : FnScope nm__law_events ["spool", "row", "most", "kinds"] (defScope s__law_events) := ⟨rfl, rfl, rfl, by decide +kernel, rfl, by decide +kernel, by decide +kernel⟩
abbrev s__law_front : Stmt := topS 31
abbrev nm__law_front : List Str := ["line", "at"]
theorem sc__law_front : FnScope nm__law_front ["line", "at"] (defScope s__law_front) := ⟨rfl, rfl, rfl, by decide +kernel, rfl, by decide +kernel, by decide +kernel⟩
abbrev s__law_led : Stmt := topS 32
abbrev nm__law_led : List Str := ["both", "happened", "tells", "hears", "spoken", "read", "event", "at", "there", "turn"]
theorem sc__law_led : FnScope nm__law_led ["both", "happened"] (defScope s__law_led) := ⟨rfl, rfl, rfl, by decide +kernel, rfl, by decide +kernel, by decide +kernel⟩
abbrev s_law : Stmt := topS 33
abbrev nm_law : List Str := ["script", "kinds", "k", "spool", "turn", "both", "happened", "text", "due", "again", "told"]
theorem sc_law : FnScope nm_law ["script"] (defScope s_law) := ⟨rfl, rfl, rfl, by decide +kernel, rfl, by decide +kernel, by decide +kernel⟩
structure Txt (K : PySem.W.Frag) (mg : Str → Option Value) where
  f_is_amount : Addr
  d_is_amount : FuncData
  F_is_amount : Fun K "is_amount" "is_amount" s_is_amount f_is_amount d_is_amount
  b_is_amount : Binds K d_is_amount ["thing"] []
  g_is_amount : mg "is_amount" = some (.ref f_is_amount)
  f_is_letter : Addr
  d_is_letter : FuncData
  F_is_letter : Fun K "is_letter" "is_letter" s_is_letter f_is_letter d_is_letter
  b_is_letter : Binds K d_is_letter ["thing"] []
  g_is_letter : mg "is_letter" = some (.ref f_is_letter)
  f_is_row : Addr
  d_is_row : FuncData
  F_is_row : Fun K "is_row" "is_row" s_is_row f_is_row d_is_row
  b_is_row : Binds K d_is_row ["thing"] []
  g_is_row : mg "is_row" = some (.ref f_is_row)
  f_is_pair : Addr
  d_is_pair : FuncData
  F_is_pair : Fun K "is_pair" "is_pair" s_is_pair f_is_pair d_is_pair
  b_is_pair : Binds K d_is_pair ["thing"] []
  g_is_pair : mg "is_pair" = some (.ref f_is_pair)
  f_is_place : Addr
  d_is_place : FuncData
  F_is_place : Fun K "is_place" "is_place" s_is_place f_is_place d_is_place
  b_is_place : Binds K d_is_place ["thing", "many"] []
  g_is_place : mg "is_place" = some (.ref f_is_place)
  f_is_event_of : Addr
  d_is_event_of : FuncData
  F_is_event_of : Fun K "is_event_of" "is_event_of" s_is_event_of f_is_event_of d_is_event_of
  b_is_event_of : Binds K d_is_event_of ["letters", "many", "thing"] []
  g_is_event_of : mg "is_event_of" = some (.ref f_is_event_of)
  f_need_pair : Addr
  d_need_pair : FuncData
  F_need_pair : Fun K "need_pair" "need_pair" s_need_pair f_need_pair d_need_pair
  b_need_pair : Binds K d_need_pair ["pair"] []
  g_need_pair : mg "need_pair" = some (.ref f_need_pair)
  f_are_events : Addr
  d_are_events : FuncData
  F_are_events : Fun K "are_events" "are_events" s_are_events f_are_events d_are_events
  b_are_events : Binds K d_are_events ["pair", "thing"] []
  g_are_events : mg "are_events" = some (.ref f_are_events)
  f_need_events : Addr
  d_need_events : FuncData
  F_need_events : Fun K "need_events" "need_events" s_need_events f_need_events d_need_events
  b_need_events : Binds K d_need_events ["pair", "events"] []
  g_need_events : mg "need_events" = some (.ref f_need_events)
  f_to_front : Addr
  d_to_front : FuncData
  F_to_front : Fun K "to_front" "to_front" s_to_front f_to_front d_to_front
  b_to_front : Binds K d_to_front ["row", "place"] []
  g_to_front : mg "to_front" = some (.ref f_to_front)
  f_done : Addr
  d_done : FuncData
  F_done : Fun K "done" "done" s_done f_done d_done
  b_done : Binds K d_done ["told", "heard", "event"] []
  g_done : mg "done" = some (.ref f_done)
  f_gone : Addr
  d_gone : FuncData
  F_gone : Fun K "gone" "gone" s_gone f_gone d_gone
  b_gone : Binds K d_gone ["pair", "events"] []
  g_gone : mg "gone" = some (.ref f_gone)
  f_go : Addr
  d_go : FuncData
  F_go : Fun K "go" "go" s_go f_go d_go
  b_go : Binds K d_go ["pair", "events"] []
  g_go : mg "go" = some (.ref f_go)
  f__law_spool : Addr
  d__law_spool : FuncData
  F__law_spool : Fun K "_law_spool" "_law_spool" s__law_spool f__law_spool d__law_spool
  b__law_spool : Binds K d__law_spool ["script", "k"] []
  g__law_spool : mg "_law_spool" = some (.ref f__law_spool)
  f__law_wind : Addr
  d__law_wind : FuncData
  F__law_wind : Fun K "_law_wind" "_law_wind" s__law_wind f__law_wind d__law_wind
  b__law_wind : Binds K d__law_wind ["spool", "wide"] []
  g__law_wind : mg "_law_wind" = some (.ref f__law_wind)
  f__law_mixed : Addr
  d__law_mixed : FuncData
  F__law_mixed : Fun K "_law_mixed" "_law_mixed" s__law_mixed f__law_mixed d__law_mixed
  b__law_mixed : Binds K d__law_mixed ["spool", "things"] []
  g__law_mixed : mg "_law_mixed" = some (.ref f__law_mixed)
  f__law_letters : Addr
  d__law_letters : FuncData
  F__law_letters : Fun K "_law_letters" "_law_letters" s__law_letters f__law_letters d__law_letters
  b__law_letters : Binds K d__law_letters ["spool", "most"] []
  g__law_letters : mg "_law_letters" = some (.ref f__law_letters)
  f__law_two : Addr
  d__law_two : FuncData
  F__law_two : Fun K "_law_two" "_law_two" s__law_two f__law_two d__law_two
  b__law_two : Binds K d__law_two ["spool", "most"] []
  g__law_two : mg "_law_two" = some (.ref f__law_two)
  f__law_event : Addr
  d__law_event : FuncData
  F__law_event : Fun K "_law_event" "_law_event" s__law_event f__law_event d__law_event
  b__law_event : Binds K d__law_event ["spool", "row", "kinds"] []
  g__law_event : mg "_law_event" = some (.ref f__law_event)
  f__law_events : Addr
  d__law_events : FuncData
  F__law_events : Fun K "_law_events" "_law_events" s__law_events f__law_events d__law_events
  b__law_events : Binds K d__law_events ["spool", "row", "most", "kinds"] []
  g__law_events : mg "_law_events" = some (.ref f__law_events)
  f__law_front : Addr
  d__law_front : FuncData
  F__law_front : Fun K "_law_front" "_law_front" s__law_front f__law_front d__law_front
  b__law_front : Binds K d__law_front ["line", "at"] []
  g__law_front : mg "_law_front" = some (.ref f__law_front)
  f__law_led : Addr
  d__law_led : FuncData
  F__law_led : Fun K "_law_led" "_law_led" s__law_led f__law_led d__law_led
  b__law_led : Binds K d__law_led ["both", "happened"] []
  g__law_led : mg "_law_led" = some (.ref f__law_led)
  f_law : Addr
  d_law : FuncData
  F_law : Fun K "law" "law" s_law f_law d_law
  b_law : Binds K d_law ["script"] []
  g_law : mg "law" = some (.ref f_law)
  t_LETTERS : Tok
  g_LETTERS : mg "LETTERS" = some (.str "abcdefghijklmnopqrstuvwxyz" t_LETTERS)
  t_MOST_LETTERS : Tok
  g_MOST_LETTERS : mg "MOST_LETTERS" = some (.int 16 t_MOST_LETTERS)
  a_PLACED : Addr
  g_PLACED : mg "PLACED" = some (.ref a_PLACED)
  r_PLACED : ∀ G H, RepV K G H (.tup [(.str "place"), (.str "lost"), (.str "twice")]) (.ref a_PLACED)
  t_NAME : Tok
  g_NAME : mg "NAME" = some (.str "name" t_NAME)
  t_AS : Tok
  g_AS : mg "AS" = some (.str "as" t_AS)
  z_abs : mg "abs" = none
  z_all : mg "all" = none
  z_bool : mg "bool" = none
  z_int : mg "int" = none
  z_isinstance : mg "isinstance" = none
  z_len : mg "len" = none
  z_list : mg "list" = none
  z_max : mg "max" = none
  z_min : mg "min" = none
  z_range : mg "range" = none
  z_repr : mg "repr" = none
  z_set : mg "set" = none
  z_sorted : mg "sorted" = none
  z_str : mg "str" = none
  z_tuple : mg "tuple" = none
section
variable {P : Program} {w : PySem.World} {K : PySem.W.Frag} {mg : Str → Option Value} {base : Heap}
noncomputable def r_is_amount : FM := mFun 1
    (sRet (emAnd (eFn fIsi (aCons (eVar 0) (aCons (eC (.ty "int")) aNil))) (emAnd (emNot (eFn fIsi (aCons (eVar 0) (aCons (eC (.ty "bool")) aNil)))) (eOp fGe (eVar 0) (eC (.int 0))))))
noncomputable def m_is_amount : FM := frz r_is_amount
theorem ok_is_amount (T : Txt K mg) : FnOk P w K mg base (L2.CX P w) 1 T.f_is_amount T.d_is_amount ["thing"] (spF K 1 m_is_amount) :=
  fn_frz (m := r_is_amount) (fn_ok T.F_is_amount sc_is_amount rfl (fun cdv A outer s H E hr => ⟨_, (css_one (cs_ret (ce_and (ce_fnB call_isi fs_isi (by rfl) T.z_isinstance (by decide +kernel) (ca_cons (ce_var 0) (ca_cons (ce_ty (by rfl) T.z_int (by decide +kernel)) ca_nil))) (ce_and (ce_not (ce_fnB call_isi fs_isi (by rfl) T.z_isinstance (by decide +kernel) (ca_cons (ce_var 0) (ca_cons (ce_ty (by rfl) T.z_bool (by decide +kernel)) ca_nil)))) (ce_one (ce_cmp op_ge os_ge (ce_var 0) ce_int))))))⟩))
noncomputable def r_is_letter : FM := mFun 1
    (sRet (emAnd (eFn fIsi (aCons (eVar 0) (aCons (eC (.ty "str")) aNil))) (emAnd (eOp fEq (eFn fLen (aCons (eVar 0) aNil)) (eC (.int 1))) (eOp (fIn false) (eVar 0) (eC (.str "abcdefghijklmnopqrstuvwxyz"))))))
noncomputable def m_is_letter : FM := frz r_is_letter
theorem ok_is_letter (T : Txt K mg) : FnOk P w K mg base (L2.CX P w) 1 T.f_is_letter T.d_is_letter ["thing"] (spF K 1 m_is_letter) :=
  fn_frz (m := r_is_letter) (fn_ok T.F_is_letter sc_is_letter rfl (fun cdv A outer s H E hr => ⟨_, (css_one (cs_ret (ce_and (ce_fnB call_isi fs_isi (by rfl) T.z_isinstance (by decide +kernel) (ca_cons (ce_var 0) (ca_cons (ce_ty (by rfl) T.z_str (by decide +kernel)) ca_nil))) (ce_and (ce_cmp (op_eqD hr.units) os_eq (ce_fnB call_len_any fs_len (by rfl) T.z_len (by decide +kernel) (ca_cons (ce_var 0) ca_nil)) ce_int) (ce_one (ce_cmp op_inU (os_in false) (ce_var 0) (ce_glob (v := (.str "abcdefghijklmnopqrstuvwxyz")) (.str "abcdefghijklmnopqrstuvwxyz") (by rfl) T.g_LETTERS ⟨_, rfl⟩ (fun _ _ => .str _))))))))⟩))
noncomputable def r_to_front : FM := mFun 2
    (sRet (eOp fAdd (eOp fAdd (eTup (aCons (eOp fIx (eVar 0) (eVar 1)) aNil)) (eSl (eVar 0) oNone (oSome (eVar 1)))) (eSl (eVar 0) (oSome (eOp fAdd (eVar 1) (eC (.int 1)))) oNone)))
noncomputable def m_to_front : FM := frz r_to_front
theorem ok_to_front (T : Txt K mg) : FnOk P w K mg base (L2.CX P w) 1 T.f_to_front T.d_to_front ["row", "place"] (spF K 2 m_to_front) :=
  fn_frz (m := r_to_front) (fn_ok T.F_to_front sc_to_front rfl (fun cdv A outer s H E hr => ⟨_, (css_one (cs_ret (ce_op op_add4 os_add (ce_op op_add4 os_add (ce_tup (ca_cons (ce_ix (ce_var 0) (ce_var 1) (fun _ _ => rfl)) ca_nil)) (ce_sl (ce_var 0) co_none (co_some (ce_var 1)))) (ce_sl (ce_var 0) (co_some (ce_op op_add4 os_add (ce_var 1) ce_int)) co_none))))⟩))
noncomputable def m__law_spool : FM := mFun 3
    (sSeq (sAsg (eC (.int 0)) (gmName 2))
    (sSeq (sIf (tmV (eOp fLt (eVar 1) (eFn fLen (aCons (eVar 0) aNil)))) (sAsg (eOp fIx (eVar 0) (eVar 1)) (gmName 2)) sNext)
    (sRet (eLstL (aCons (eFn fMax (aCons (eC (.int 0)) (aCons (eOp fSub (eFn fAbs (aCons (eVar 2) aNil)) (eOp fPow (eC (.int 10)) (eC (.int 18)))) aNil))) (aCons (eOp fAdd (eOp fMod (eVar 2) (eOp fAdd (eOp fPow (eC (.int 10)) (eC (.int 37))) (eC (.int 43)))) (eOp fMul (eC (.int 15401)) (eVar 1))) (aCons (eC (.int 0)) aNil)))))))
theorem ok__law_spool (T : Txt K mg) : FnOk P w K mg base (L2.CX P w) 1 T.f__law_spool T.d__law_spool ["script", "k"] (spF K 2 m__law_spool) :=
  fn_ok T.F__law_spool sc__law_spool rfl (fun cdv A outer s H E hr => ⟨_, (css_cons (cs_set (i := 2) sc__law_spool.nd rfl (.inl rfl) ce_int)
    (css_cons (cs_if (ct_cmp op_lt os_lt (ce_var 1) (ce_fnB call_len_any fs_len (by rfl) T.z_len (by decide +kernel) (ca_cons (ce_var 0) ca_nil))) (css_one (cs_set (i := 2) sc__law_spool.nd rfl (.inl rfl) (ce_ix (ce_var 0) (ce_var 1) (fun _ _ => rfl)))) css_nil)
    (css_one (cs_ret (ce_lstL (ca_cons (ce_fnB (cr_maxU rfl) fs_max (by rfl) T.z_max (by decide +kernel) (ca_cons ce_int (ca_cons (ce_op op_sub os_sub (ce_fnB call_abs fs_abs (by rfl) T.z_abs (by decide +kernel) (ca_cons (ce_var 2) ca_nil)) (ce_op Low.op_powW os_pow ce_int ce_int)) ca_nil))) (ca_cons (ce_op op_add4 os_add (ce_op op_mod os_mod (ce_var 2) (ce_op op_add4 os_add (ce_op Low.op_powW os_pow ce_int ce_int) ce_int)) (ce_op op_mul2 os_mul ce_int (ce_var 1))) (ca_cons ce_int ca_nil))))))))⟩)
noncomputable def r__law_wind : FM := mFun 4
    (sSeq (sIf (tmV (eOp fGt (eOp fIx (eVar 0) (eC (.int 0))) (eC (.int 0)))) (sSeq (sAsg (eOp fMod (eOp fIx (eVar 0) (eC (.int 0))) (eVar 1)) (gmName 2))
    (sSeq (sSetIx (eOp fDiv (eOp fIx (eVar 0) (eC (.int 0))) (eVar 1)) (eVar 0) (eC (.int 0)))
    (sRet (eVar 2)))) sNext)
    (sSeq (sSetIx (eOp fAdd (eOp fIx (eVar 0) (eC (.int 2))) (eC (.int 1))) (eVar 0) (eC (.int 2)))
    (sSeq (sAsg (eOp fMod (eOp fPow (eOp fAdd (eOp fIx (eVar 0) (eC (.int 1))) (eOp fMul (eC (.int 67867967)) (eOp fIx (eVar 0) (eC (.int 2))))) (eC (.int 3))) (eOp fAdd (eOp fPow (eC (.int 10)) (eC (.int 38))) (eC (.int 133)))) (gmName 3))
    (sSeq (sAsg (eOp fMod (eOp fPow (eOp fAdd (eVar 3) (eOp fMul (eC (.int 179424673)) (eOp fIx (eVar 0) (eC (.int 2))))) (eC (.int 3))) (eOp fAdd (eOp fPow (eC (.int 10)) (eC (.int 35))) (eC (.int 69)))) (gmName 3))
    (sRet (eOp fMod (eOp fDiv (eVar 3) (eC (.int 131071))) (eVar 1)))))))
noncomputable def m__law_wind : FM := frz r__law_wind
theorem ok__law_wind (T : Txt K mg) : FnOk P w K mg base (L2.CX P w) 1 T.f__law_wind T.d__law_wind ["spool", "wide"] (spF K 2 m__law_wind) :=
  fn_frz (m := r__law_wind) (fn_ok T.F__law_wind sc__law_wind rfl (fun cdv A outer s H E hr => ⟨_, (css_cons (cs_if (ct_cmp op_gt os_gt (ce_ix (ce_var 0) ce_int (fun _ _ => rfl)) ce_int) (css_cons (cs_set (i := 2) sc__law_wind.nd rfl (.inl rfl) (ce_op op_mod os_mod (ce_ix (ce_var 0) ce_int (fun _ _ => rfl)) (ce_var 1)))
    (css_cons (cs_setIx (ce_op op_fdivW os_div (ce_ix (ce_var 0) ce_int (fun _ _ => rfl)) (ce_var 1)) (ce_var 0) ce_int)
    (css_one (cs_ret (ce_var 2))))) css_nil)
    (css_cons (cs_setIx (ce_op op_add4 os_add (ce_ix (ce_var 0) ce_int (fun _ _ => rfl)) ce_int) (ce_var 0) ce_int)
    (css_cons (cs_set (i := 3) sc__law_wind.nd rfl (.inl rfl) (ce_op op_mod os_mod (ce_op Low.op_powW os_pow (ce_op op_add4 os_add (ce_ix (ce_var 0) ce_int (fun _ _ => rfl)) (ce_op op_mul2 os_mul ce_int (ce_ix (ce_var 0) ce_int (fun _ _ => rfl)))) ce_int) (ce_op op_add4 os_add (ce_op Low.op_powW os_pow ce_int ce_int) ce_int)))
    (css_cons (cs_set (i := 3) sc__law_wind.nd rfl (.inl rfl) (ce_op op_mod os_mod (ce_op Low.op_powW os_pow (ce_op op_add4 os_add (ce_var 3) (ce_op op_mul2 os_mul ce_int (ce_ix (ce_var 0) ce_int (fun _ _ => rfl)))) ce_int) (ce_op op_add4 os_add (ce_op Low.op_powW os_pow ce_int ce_int) ce_int)))
    (css_one (cs_ret (ce_op op_mod os_mod (ce_op op_fdivW os_div (ce_var 3) ce_int) (ce_var 1))))))))⟩))
noncomputable def r__law_front : FM := mFun 2
    (sSeq (sDrop (eBM (eVar 0) (aCons (eC (.int 0)) (aCons (eBM (eVar 0) (aCons (eVar 1) aNil) (mUp fPopAt)) aNil)) (mUp fInsert)))
    (sRet (eOp fIx (eVar 0) (eC (.int 0)))))
noncomputable def m__law_front : FM := frz r__law_front
theorem ok__law_front (T : Txt K mg) : FnOk P w K mg base (L2.CX P w) 1 T.f__law_front T.d__law_front ["line", "at"] (spF K 2 m__law_front) :=
  fn_frz (m := r__law_front) (fn_ok T.F__law_front sc__law_front rfl (fun cdv A outer s H E hr => ⟨_, (css_cons (cs_expr (ce_bm PySem.F.slot_list_insert PySem.F.type_list_insert mt_insertU ms_insert (ce_var 0) (ca_cons ce_int (ca_cons (ce_bm PySem.F.slot_list_pop PySem.F.type_list_pop mt_popAt ms_popAt (ce_var 0) (ca_cons (ce_var 1) ca_nil)) ca_nil))))
    (css_one (cs_ret (ce_ix (ce_var 0) ce_int (fun _ _ => rfl)))))⟩))
noncomputable def r_is_row : FM := mFun 2
    (sSeq (sIf (tmOr (tmNot (tmV (eFn fIsi (aCons (eVar 0) (aCons (eC (.ty "tuple")) aNil))))) (tmNot (tmV (eChain fLe fLe (eC (.int 1)) (eFn fLen (aCons (eVar 0) aNil)) (eC (.int 16)))))) (sRet (eC (.bl false))) sNext)
    (sRet (emAnd (eFn fAll (aCons (eLc (iSeq (eVar 0)) (gmName 1) tmYes (eCall m_is_letter (aCons (eVar 1) aNil)) [1]) aNil)) (eOp fEq (eLenSet (eVar 0)) (eFn fLen (aCons (eVar 0) aNil))))))
noncomputable def m_is_row : FM := frz r_is_row
theorem ok_is_row (T : Txt K mg) : FnOk P w K mg base (L2.CX P w) 2 T.f_is_row T.d_is_row ["thing"] (spF K 1 m_is_row) :=
  fn_frz (m := r_is_row) (fn_ok T.F_is_row sc_is_row rfl (fun cdv A outer s H E hr => ⟨_, (css_cons (cs_if (CW.ct (cw_or (ct_not (ct_val (ce_fnB call_isi fs_isi (by rfl) T.z_isinstance (by decide +kernel) (ca_cons (ce_var 0) (ca_cons (ce_ty (by rfl) T.z_tuple (by decide +kernel)) ca_nil))))) (cw_or1 (ct_not (ct_chain op_le os_le op_le os_le ce_int (ce_fnB call_len_any fs_len (by rfl) T.z_len (by decide +kernel) (ca_cons (ce_var 0) ca_nil)) (ce_glob (v := (.int 16)) (.int 16) (by rfl) T.g_MOST_LETTERS ⟨_, rfl⟩ (fun _ _ => .int _))))))) (css_one (cs_ret ce_bl)) css_nil)
    (css_one (cs_ret (ce_and (ce_fnB (cr_all rfl) fs_all (by rfl) T.z_all (by decide +kernel) (ca_cons (ce_lc (own := [("one", 1)]) rfl sc_is_row.nd (ci_seq (ce_var 0)) (blkOk_by (own := [("one", 1)]) (N := nm_is_row) (sc := defScope s_is_row) (by decide +kernel)) (fun _ _ _ _ _ => (cg_name (i := 1) sc_is_row.nd rfl (.inl rfl))) (fun _ _ _ _ _ => cts_nil) (blkE fun _ _ _ _ _ => ⟨_, (ce_call (n := 1) (ok_is_letter T) hr takes0 (by rfl) T.g_is_letter T.F_is_letter.kp T.b_is_letter (ca_cons (ce_var 1) ca_nil) (alen_cons alen_nil)), by first | (dsimp only [L2.Cx.blk]; done) | rfl | (dsimp only [L2.Cx.blk]; rfl)⟩)) ca_nil)) (ce_one (ce_cmp (op_eqD hr.units) os_eq (ce_lenSet rfl (by rfl) T.z_len (by rfl) T.z_set (ce_var 0)) (ce_fnB call_len_any fs_len (by rfl) T.z_len (by decide +kernel) (ca_cons (ce_var 0) ca_nil))))))))⟩))
noncomputable def r_is_place : FM := mFun 2
    (sRet (emAnd (eCall m_is_amount (aCons (eVar 0) aNil)) (eOp fLt (eVar 0) (eVar 1))))
noncomputable def m_is_place : FM := frz r_is_place
theorem ok_is_place (T : Txt K mg) : FnOk P w K mg base (L2.CX P w) 2 T.f_is_place T.d_is_place ["thing", "many"] (spF K 2 m_is_place) :=
  fn_frz (m := r_is_place) (fn_ok T.F_is_place sc_is_place rfl (fun cdv A outer s H E hr => ⟨_, (css_one (cs_ret (ce_and (ce_call (n := 1) (ok_is_amount T) hr (takes_of rfl rfl rfl rfl) (by rfl) T.g_is_amount T.F_is_amount.kp T.b_is_amount (ca_cons (ce_var 0) ca_nil) (alen_cons alen_nil)) (ce_one (ce_cmp op_lt os_lt (ce_var 0) (ce_var 1))))))⟩))
noncomputable def r_done : FM := mFun 6
    (sSeq (sPar 3 4 (eOp fIx (eVar 2) (eC (.int 0))) (eOp fIx (eVar 2) (eC (.int 1))))
    (sSeq (sIf (tmV (eOp fEq (eVar 3) (eC (.str "name")))) (sRet (eTup (aCons (eCall m_to_front (aCons (eVar 0) (aCons (eIdxT (eVar 0) (aCons (eVar 4) aNil)) aNil))) (aCons (eCall m_to_front (aCons (eVar 1) (aCons (eIdxT (eVar 1) (aCons (eVar 4) aNil)) aNil))) (aCons (eLst (aCons (eVar 4) aNil)) aNil))))) sNext)
    (sSeq (sAsg (eCall m_to_front (aCons (eVar 0) (aCons (eVar 4) aNil))) (gmName 0))
    (sSeq (sIf (tmV (eOp fEq (eVar 3) (eC (.str "lost")))) (sRet (eTup (aCons (eVar 0) (aCons (eVar 1) (aCons (eLst aNil) aNil))))) sNext)
    (sSeq (sIf (tmV (eOp fEq (eVar 3) (eC (.str "as")))) (sAsg (eOp fIx (eVar 2) (eC (.int 2))) (gmName 4)) sNext)
    (sSeq (sAsg (eLstL (aCons (eOp fIx (eVar 1) (eVar 4)) aNil)) (gmName 5))
    (sSeq (sAsg (eCall m_to_front (aCons (eVar 1) (aCons (eVar 4) aNil))) (gmName 1))
    (sSeq (sIf (tmV (eOp fEq (eVar 3) (eC (.str "twice")))) (sSeq (sDrop (eBM (eVar 5) (aCons (eOp fIx (eVar 1) (eVar 4)) aNil) (mUp fAppend)))
    (sAsg (eCall m_to_front (aCons (eVar 1) (aCons (eVar 4) aNil))) (gmName 1))) sNext)
    (sRet (eTup (aCons (eVar 0) (aCons (eVar 1) (aCons (eVar 5) aNil)))))))))))))
noncomputable def m_done : FM := frz r_done
theorem ok_done (T : Txt K mg) : FnOk P w K mg base (L2.CX P w) 2 T.f_done T.d_done ["told", "heard", "event"] (spF K 3 m_done) :=
  fn_frz (m := r_done) (fn_ok T.F_done sc_done rfl (fun cdv A outer s H E hr => ⟨_, (css_cons (cs_par (i := 3) (j := 4) rfl sc_done.nd rfl rfl (by decide) rfl rfl (ce_ix (ce_var 2) ce_int (fun _ _ => rfl)) (ce_ix (ce_var 2) ce_int (fun _ _ => rfl)) (by rfl))
    (css_cons (cs_if (ct_cmp (op_eqD hr.units) os_eq (ce_var 3) (ce_glob (v := (.str "name")) (.str "name") (by rfl) T.g_NAME ⟨_, rfl⟩ (fun _ _ => .str _))) (css_one (cs_ret (ce_tup (ca_cons (ce_call (n := 2) (ok_to_front T) hr (takes_of rfl rfl rfl rfl) (by rfl) T.g_to_front T.F_to_front.kp T.b_to_front (ca_cons (ce_var 0) (ca_cons (ce_idxT (ce_var 0) (ca_cons (ce_var 4) ca_nil)) ca_nil)) (alen_cons (alen_cons alen_nil))) (ca_cons (ce_call (n := 2) (ok_to_front T) hr (takes_of rfl rfl rfl rfl) (by rfl) T.g_to_front T.F_to_front.kp T.b_to_front (ca_cons (ce_var 1) (ca_cons (ce_idxT (ce_var 1) (ca_cons (ce_var 4) ca_nil)) ca_nil)) (alen_cons (alen_cons alen_nil))) (ca_cons (ce_lst (ca_cons (ce_var 4) ca_nil)) ca_nil)))))) css_nil)
    (css_cons (cs_set (i := 0) sc_done.nd rfl (.inl rfl) (ce_call (n := 2) (ok_to_front T) hr (takes_of rfl rfl rfl rfl) (by rfl) T.g_to_front T.F_to_front.kp T.b_to_front (ca_cons (ce_var 0) (ca_cons (ce_var 4) ca_nil)) (alen_cons (alen_cons alen_nil))))
    (css_cons (cs_if (ct_cmp (op_eqD hr.units) os_eq (ce_var 3) ce_str) (css_one (cs_ret (ce_tup (ca_cons (ce_var 0) (ca_cons (ce_var 1) (ca_cons (ce_lst ca_nil) ca_nil)))))) css_nil)
    (css_cons (cs_if (ct_cmp (op_eqD hr.units) os_eq (ce_var 3) (ce_glob (v := (.str "as")) (.str "as") (by rfl) T.g_AS ⟨_, rfl⟩ (fun _ _ => .str _))) (css_one (cs_set (i := 4) sc_done.nd rfl (.inl rfl) (ce_ix (ce_var 2) ce_int (fun _ _ => rfl)))) css_nil)
    (css_cons (cs_set (i := 5) sc_done.nd rfl (.inl rfl) (ce_lstL (ca_cons (ce_ix (ce_var 1) (ce_var 4) (fun _ _ => rfl)) ca_nil)))
    (css_cons (cs_set (i := 1) sc_done.nd rfl (.inl rfl) (ce_call (n := 2) (ok_to_front T) hr (takes_of rfl rfl rfl rfl) (by rfl) T.g_to_front T.F_to_front.kp T.b_to_front (ca_cons (ce_var 1) (ca_cons (ce_var 4) ca_nil)) (alen_cons (alen_cons alen_nil))))
    (css_cons (cs_if (ct_cmp (op_eqD hr.units) os_eq (ce_var 3) ce_str) (css_cons (cs_expr (ce_bm PySem.F.slot_list_append PySem.F.type_list_append mt_append ms_append (ce_var 5) (ca_cons (ce_ix (ce_var 1) (ce_var 4) (fun _ _ => rfl)) ca_nil)))
    (css_one (cs_set (i := 1) sc_done.nd rfl (.inl rfl) (ce_call (n := 2) (ok_to_front T) hr (takes_of rfl rfl rfl rfl) (by rfl) T.g_to_front T.F_to_front.kp T.b_to_front (ca_cons (ce_var 1) (ca_cons (ce_var 4) ca_nil)) (alen_cons (alen_cons alen_nil)))))) css_nil)
    (css_one (cs_ret (ce_tup (ca_cons (ce_var 0) (ca_cons (ce_var 1) (ca_cons (ce_var 5) ca_nil))))))))))))))⟩))
noncomputable def r__law_mixed : FM := mFun 4
    (sSeq (sAsg (eFnO fList (aCons (eVar 1) aNil)) (gmName 2))
    (sRet (eFn fTuple (aCons (eLc (iRange1 (aCons (eFn fLen (aCons (eVar 1) aNil)) aNil)) (gmName 3) tmYes (eBM (eVar 2) (aCons (eCall m__law_wind (aCons (eVar 0) (aCons (eFn fLen (aCons (eVar 2) aNil)) aNil))) aNil) (mUp fPopAt)) [3]) aNil))))
noncomputable def m__law_mixed : FM := frz r__law_mixed
theorem ok__law_mixed (T : Txt K mg) : FnOk P w K mg base (L2.CX P w) 2 T.f__law_mixed T.d__law_mixed ["spool", "things"] (spF K 2 m__law_mixed) :=
  fn_frz (m := r__law_mixed) (fn_ok T.F__law_mixed sc__law_mixed rfl (fun cdv A outer s H E hr => ⟨_, (css_cons (cs_set (i := 2) sc__law_mixed.nd rfl (.inr rfl) (ce_fnTO (cr_listU rfl) fn_list (by rfl) T.z_list (by decide +kernel) (ca_cons (ce_var 1) ca_nil)))
    (css_one (cs_ret (ce_fnT cr_tupF fs_tuple (by rfl) T.z_tuple (by decide +kernel) (ca_cons (ce_lc (own := [("k", 3)]) rfl sc__law_mixed.nd (ci_range1 (by rfl) T.z_range (ca_cons (ce_fnB call_len_any fs_len (by rfl) T.z_len (by decide +kernel) (ca_cons (ce_var 1) ca_nil)) ca_nil)) (blkOk_by (own := [("k", 3)]) (N := nm__law_mixed) (sc := defScope s__law_mixed) (by decide +kernel)) (fun _ _ _ _ _ => (cg_name (i := 3) sc__law_mixed.nd rfl (.inl rfl))) (fun _ _ _ _ _ => cts_nil) (blkE fun _ _ _ _ _ => ⟨_, (ce_bm PySem.F.slot_list_pop PySem.F.type_list_pop mt_popAt ms_popAt (ce_var 2) (ca_cons (ce_call (n := 2) (ok__law_wind T) hr takes0 (by rfl) T.g__law_wind T.F__law_wind.kp T.b__law_wind (ca_cons (ce_var 0) (ca_cons (ce_fnB call_len_any fs_len (by rfl) T.z_len (by decide +kernel) (ca_cons (ce_var 2) ca_nil)) ca_nil)) (alen_cons (alen_cons alen_nil))) ca_nil)), by first | (dsimp only [L2.Cx.blk]; done) | rfl | (dsimp only [L2.Cx.blk]; rfl)⟩)) ca_nil)))))⟩))
noncomputable def r__law_event : FM := mFun 6
    (sSeq (sAsg (eFn fLen (aCons (eVar 1) aNil)) (gmName 3))
    (sSeq (sAsg (eOp fIx (eVar 2) (eCall m__law_wind (aCons (eVar 0) (aCons (eFn fLen (aCons (eVar 2) aNil)) aNil)))) (gmName 4))
    (sSeq (sAsg (eOp fIx (eLst (aCons (eCall m__law_wind (aCons (eVar 0) (aCons (eVar 3) aNil))) (aCons (eFn fMin (aCons (eOp fSub (eVar 3) (eC (.int 1))) (aCons (eCall m__law_wind (aCons (eVar 0) (aCons (eC (.int 3)) aNil))) aNil))) (aCons (eOp fSub (eVar 3) (eC (.int 1))) aNil)))) (eCall m__law_wind (aCons (eVar 0) (aCons (eC (.int 3)) aNil)))) (gmName 5))
    (sSeq (sIf (tmV (eOp fEq (eVar 4) (eC (.str "name")))) (sRet (eTup (aCons (eVar 4) (aCons (eOp fIx (eVar 1) (eVar 5)) aNil)))) sNext)
    (sSeq (sIf (tmV (eOp fNe (eVar 4) (eC (.str "as")))) (sRet (eTup (aCons (eVar 4) (aCons (eVar 5) aNil)))) sNext)
    (sSeq (sIf (tmV (eOp fEq (eVar 3) (eC (.int 1)))) (sRet (eTup (aCons (eC (.str "place")) (aCons (eC (.int 0)) aNil)))) sNext)
    (sRet (eTup (aCons (eVar 4) (aCons (eVar 5) (aCons (eOp fMod (eOp fAdd (eOp fAdd (eVar 5) (eC (.int 1))) (eCall m__law_wind (aCons (eVar 0) (aCons (eOp fSub (eVar 3) (eC (.int 1))) aNil)))) (eVar 3)) aNil)))))))))))
noncomputable def m__law_event : FM := frz r__law_event
theorem ok__law_event (T : Txt K mg) : FnOk P w K mg base (L2.CX P w) 2 T.f__law_event T.d__law_event ["spool", "row", "kinds"] (spF K 3 m__law_event) :=
  fn_frz (m := r__law_event) (fn_ok T.F__law_event sc__law_event rfl (fun cdv A outer s H E hr => ⟨_, (css_cons (cs_set (i := 3) sc__law_event.nd rfl (.inl rfl) (ce_fnB call_len_any fs_len (by rfl) T.z_len (by decide +kernel) (ca_cons (ce_var 1) ca_nil)))
    (css_cons (cs_set (i := 4) sc__law_event.nd rfl (.inl rfl) (ce_ix (ce_var 2) (ce_call (n := 2) (ok__law_wind T) hr (takes_of rfl rfl rfl rfl) (by rfl) T.g__law_wind T.F__law_wind.kp T.b__law_wind (ca_cons (ce_var 0) (ca_cons (ce_fnB call_len_any fs_len (by rfl) T.z_len (by decide +kernel) (ca_cons (ce_var 2) ca_nil)) ca_nil)) (alen_cons (alen_cons alen_nil))) (fun _ _ => rfl)))
    (css_cons (cs_set (i := 5) sc__law_event.nd rfl (.inl rfl) (ce_ix (ce_lst (ca_cons (ce_call (n := 2) (ok__law_wind T) hr (takes_of rfl rfl rfl rfl) (by rfl) T.g__law_wind T.F__law_wind.kp T.b__law_wind (ca_cons (ce_var 0) (ca_cons (ce_var 3) ca_nil)) (alen_cons (alen_cons alen_nil))) (ca_cons (ce_fnB (cr_minU rfl) fs_min (by rfl) T.z_min (by decide +kernel) (ca_cons (ce_op op_sub os_sub (ce_var 3) ce_int) (ca_cons (ce_call (n := 2) (ok__law_wind T) hr (takes_of rfl rfl rfl rfl) (by rfl) T.g__law_wind T.F__law_wind.kp T.b__law_wind (ca_cons (ce_var 0) (ca_cons ce_int ca_nil)) (alen_cons (alen_cons alen_nil))) ca_nil))) (ca_cons (ce_op op_sub os_sub (ce_var 3) ce_int) ca_nil)))) (ce_call (n := 2) (ok__law_wind T) hr (takes_of rfl rfl rfl rfl) (by rfl) T.g__law_wind T.F__law_wind.kp T.b__law_wind (ca_cons (ce_var 0) (ca_cons ce_int ca_nil)) (alen_cons (alen_cons alen_nil))) (fun _ _ => rfl)))
    (css_cons (cs_if (ct_cmp (op_eqD hr.units) os_eq (ce_var 4) ce_str) (css_one (cs_ret (ce_tup (ca_cons (ce_var 4) (ca_cons (ce_ix (ce_var 1) (ce_var 5) (fun _ _ => rfl)) ca_nil))))) css_nil)
    (css_cons (cs_if (ct_cmp (op_neD hr.units) os_ne (ce_var 4) ce_str) (css_one (cs_ret (ce_tup (ca_cons (ce_var 4) (ca_cons (ce_var 5) ca_nil))))) css_nil)
    (css_cons (cs_if (ct_cmp (op_eqD hr.units) os_eq (ce_var 3) ce_int) (css_one (cs_ret (ce_tup (ca_cons ce_str (ca_cons ce_int ca_nil))))) css_nil)
    (css_one (cs_ret (ce_tup (ca_cons (ce_var 4) (ca_cons (ce_var 5) (ca_cons (ce_op op_mod os_mod (ce_op op_add4 os_add (ce_op op_add4 os_add (ce_var 5) ce_int) (ce_call (n := 2) (ok__law_wind T) hr (takes_of rfl rfl rfl rfl) (by rfl) T.g__law_wind T.F__law_wind.kp T.b__law_wind (ca_cons (ce_var 0) (ca_cons (ce_op op_sub os_sub (ce_var 3) ce_int) ca_nil)) (alen_cons (alen_cons alen_nil)))) (ce_var 3)) ca_nil))))))))))))⟩))
noncomputable def r__law_led : FM := mFun 10
    (sSeq (sPar 2 3 (eFnO fList (aCons (eOp fIx (eVar 0) (eC (.int 0))) aNil)) (eFnO fList (aCons (eOp fIx (eVar 0) (eC (.int 1))) aNil)))
    (sSeq (sPar 4 5 (eLstL aNil) (eLstL aNil))
    (sSeq (sFor (iSeq (eVar 1)) (gmName 6) (sSeq (sPar 7 8 (eOp fIx (eVar 6) (eC (.int 1))) (eOp fIx (eVar 6) (eNeg (eC (.int 1)))))
    (sSeq (sIf (tmV (eOp fEq (eOp fIx (eVar 6) (eC (.int 0))) (eC (.str "name")))) (sPar 7 8 (eBM (eVar 2) (aCons (eOp fIx (eVar 6) (eC (.int 1))) aNil) mIdxL) (eBM (eVar 3) (aCons (eOp fIx (eVar 6) (eC (.int 1))) aNil) mIdxL)) sNext)
    (sSeq (sDrop (eBM (eVar 4) (aCons (eCall m__law_front (aCons (eVar 2) (aCons (eVar 7) aNil))) aNil) (mUp fAppend)))
    (sFor (iRange1 (aCons (eDget2 (eDic (((eC (.str "lost")), (eC (.int 0))) :: (((eC (.str "twice")), (eC (.int 2))) :: []))) (eOp fIx (eVar 6) (eC (.int 0))) (eC (.int 1))) aNil)) (gmName 9) (sDrop (eBM (eVar 5) (aCons (eCall m__law_front (aCons (eVar 3) (aCons (eVar 8) aNil))) aNil) (mUp fAppend))))))))
    (sRet (eTup (aCons (eTup (aCons (eFn fTuple (aCons (eVar 2) aNil)) (aCons (eFn fTuple (aCons (eVar 3) aNil)) aNil))) (aCons (eVar 4) (aCons (eVar 5) aNil))))))))
noncomputable def m__law_led : FM := frz r__law_led
theorem ok__law_led (T : Txt K mg) : FnOk P w K mg base (L2.CX P w) 2 T.f__law_led T.d__law_led ["both", "happened"] (spF K 2 m__law_led) :=
  fn_frz (m := r__law_led) (fn_ok T.F__law_led sc__law_led rfl (fun cdv A outer s H E hr => ⟨_, (css_cons (cs_par (i := 2) (j := 3) rfl sc__law_led.nd rfl rfl (by decide) rfl rfl (ce_fnTO (cr_listU rfl) fn_list (by rfl) T.z_list (by decide +kernel) (ca_cons (ce_ix (ce_var 0) ce_int (fun _ _ => rfl)) ca_nil)) (ce_fnTO (cr_listU rfl) fn_list (by rfl) T.z_list (by decide +kernel) (ca_cons (ce_ix (ce_var 0) ce_int (fun _ _ => rfl)) ca_nil)) (by rfl))
    (css_cons (cs_par (i := 4) (j := 5) rfl sc__law_led.nd rfl rfl (by decide) rfl rfl (ce_lstL ca_nil) (ce_lstL ca_nil) (by rfl))
    (css_cons (cs_for (passes_of rfl) rfl (ci_seq (ce_var 1)) (cg_name (i := 6) sc__law_led.nd rfl (.inl rfl)) (css_cons (cs_par (i := 7) (j := 8) rfl sc__law_led.nd rfl rfl (by decide) rfl rfl (ce_ix (ce_var 6) ce_int (fun _ _ => rfl)) (ce_ix (ce_var 6) (ce_neg ce_int) (fun _ _ => rfl)) (by rfl))
    (css_cons (cs_if (ct_cmp (op_eqD hr.units) os_eq (ce_ix (ce_var 6) ce_int (fun _ _ => rfl)) ce_str) (css_one (cs_par (i := 7) (j := 8) rfl sc__law_led.nd rfl rfl (by decide) rfl rfl (ce_bm PySem.F.slot_list_index PySem.F.type_list_index mt_idxL ms_idxL' (ce_var 2) (ca_cons (ce_ix (ce_var 6) ce_int (fun _ _ => rfl)) ca_nil)) (ce_bm PySem.F.slot_list_index PySem.F.type_list_index mt_idxL ms_idxL' (ce_var 3) (ca_cons (ce_ix (ce_var 6) ce_int (fun _ _ => rfl)) ca_nil)) (by rfl))) css_nil)
    (css_cons (cs_expr (ce_bm PySem.F.slot_list_append PySem.F.type_list_append mt_append ms_append (ce_var 4) (ca_cons (ce_call (n := 2) (ok__law_front T) hr (takes_of rfl rfl rfl rfl) (by rfl) T.g__law_front T.F__law_front.kp T.b__law_front (ca_cons (ce_var 2) (ca_cons (ce_var 7) ca_nil)) (alen_cons (alen_cons alen_nil))) ca_nil)))
    (css_one (cs_for (passes_of rfl) rfl (ci_range1 (by rfl) T.z_range (ca_cons (ce_dget2 (L2.hu_of hr) (ce_dic (cp_cons ce_str ce_int (cp_cons ce_str ce_int cp_nil))) (ce_ix (ce_var 6) ce_int (fun _ _ => rfl)) ce_int ⟨rfl, rfl, rfl, rfl⟩) ca_nil)) (cg_name (i := 9) sc__law_led.nd rfl (.inl rfl)) (css_one (cs_expr (ce_bm PySem.F.slot_list_append PySem.F.type_list_append mt_append ms_append (ce_var 5) (ca_cons (ce_call (n := 2) (ok__law_front T) hr (takes_of rfl rfl rfl rfl) (by rfl) T.g__law_front T.F__law_front.kp T.b__law_front (ca_cons (ce_var 3) (ca_cons (ce_var 8) ca_nil)) (alen_cons (alen_cons alen_nil))) ca_nil))))))))))
    (css_one (cs_ret (ce_tup (ca_cons (ce_tup (ca_cons (ce_fnT cr_tupF fs_tuple (by rfl) T.z_tuple (by decide +kernel) (ca_cons (ce_var 2) ca_nil)) (ca_cons (ce_fnT cr_tupF fs_tuple (by rfl) T.z_tuple (by decide +kernel) (ca_cons (ce_var 3) ca_nil)) ca_nil))) (ca_cons (ce_var 4) (ca_cons (ce_var 5) ca_nil)))))))))⟩))
noncomputable def r_is_pair : FM := mFun 2
    (sSeq (sIf (tmOr (tmNot (tmV (eFn fIsi (aCons (eVar 0) (aCons (eC (.ty "tuple")) aNil))))) (tmOr (tmV (eOp fNe (eFn fLen (aCons (eVar 0) aNil)) (eC (.int 2)))) (tmNot (tmV (eFn fAll (aCons (eLc (iSeq (eVar 0)) (gmName 1) tmYes (eCall m_is_row (aCons (eVar 1) aNil)) [1]) aNil)))))) (sRet (eC (.bl false))) sNext)
    (sRet (eOp fEq (eFnV fSorted (aCons (eOp fIx (eVar 0) (eC (.int 0))) aNil)) (eFnV fSorted (aCons (eOp fIx (eVar 0) (eC (.int 1))) aNil)))))
noncomputable def m_is_pair : FM := frz r_is_pair
theorem ok_is_pair (T : Txt K mg) : FnOk P w K mg base (L2.CX P w) 3 T.f_is_pair T.d_is_pair ["thing"] (spF K 1 m_is_pair) :=
  fn_frz (m := r_is_pair) (fn_ok T.F_is_pair sc_is_pair rfl (fun cdv A outer s H E hr => ⟨_, (css_cons (cs_if (CW.ct (cw_or (ct_not (ct_val (ce_fnB call_isi fs_isi (by rfl) T.z_isinstance (by decide +kernel) (ca_cons (ce_var 0) (ca_cons (ce_ty (by rfl) T.z_tuple (by decide +kernel)) ca_nil))))) (cw_or (ct_cmp (op_neD hr.units) os_ne (ce_fnB call_len_any fs_len (by rfl) T.z_len (by decide +kernel) (ca_cons (ce_var 0) ca_nil)) ce_int) (cw_or1 (ct_not (ct_val (ce_fnB (cr_all rfl) fs_all (by rfl) T.z_all (by decide +kernel) (ca_cons (ce_lc (own := [("row", 1)]) rfl sc_is_pair.nd (ci_seq (ce_var 0)) (blkOk_by (own := [("row", 1)]) (N := nm_is_pair) (sc := defScope s_is_pair) (by decide +kernel)) (fun _ _ _ _ _ => (cg_name (i := 1) sc_is_pair.nd rfl (.inl rfl))) (fun _ _ _ _ _ => cts_nil) (blkE fun _ _ _ _ _ => ⟨_, (ce_call (n := 1) (ok_is_row T) hr takes0 (by rfl) T.g_is_row T.F_is_row.kp T.b_is_row (ca_cons (ce_var 1) ca_nil) (alen_cons alen_nil)), by first | (dsimp only [L2.Cx.blk]; done) | rfl | (dsimp only [L2.Cx.blk]; rfl)⟩)) ca_nil)))))))) (css_one (cs_ret ce_bl)) css_nil)
    (css_one (cs_ret (ce_cmp (op_eqD hr.units) os_eq (ce_fnBV cr_sortedU fn_sorted (by rfl) T.z_sorted (by decide +kernel) (ca_cons (ce_ix (ce_var 0) ce_int (fun _ _ => rfl)) ca_nil)) (ce_fnBV cr_sortedU fn_sorted (by rfl) T.z_sorted (by decide +kernel) (ca_cons (ce_ix (ce_var 0) ce_int (fun _ _ => rfl)) ca_nil))))))⟩))
noncomputable def r_is_event_of : FM := mFun 4
    (sSeq (sIf (tmOr (tmNot (tmV (eFn fIsi (aCons (eVar 2) (aCons (eC (.ty "tuple")) aNil))))) (tmOr (tmV (eOp (fIn true) (eFn fLen (aCons (eVar 2) aNil)) (eTup (aCons (eC (.int 2)) (aCons (eC (.int 3)) aNil))))) (tmNot (tmV (eFn fIsi (aCons (eOp fIx (eVar 2) (eC (.int 0))) (aCons (eC (.ty "str")) aNil))))))) (sRet (eC (.bl false))) sNext)
    (sSeq (sIf (tmV (eOp fEq (eOp fIx (eVar 2) (eC (.int 0))) (eC (.str "as")))) (sRet (emAnd (eOp fEq (eFn fLen (aCons (eVar 2) aNil)) (eC (.int 3))) (emAnd (eFn fAll (aCons (eLc (iSeq (eSl (eVar 2) (oSome (eC (.int 1))) oNone)) (gmName 3) tmYes (eCall m_is_place (aCons (eVar 3) (aCons (eVar 1) aNil))) [3]) aNil)) (eOp fNe (eOp fIx (eVar 2) (eC (.int 1))) (eOp fIx (eVar 2) (eC (.int 2))))))) sNext)
    (sSeq (sIf (tmV (eOp fEq (eFn fLen (aCons (eVar 2) aNil)) (eC (.int 3)))) (sRet (eC (.bl false))) sNext)
    (sSeq (sIf (tmV (eOp fEq (eOp fIx (eVar 2) (eC (.int 0))) (eC (.str "name")))) (sRet (emAnd (eCall m_is_letter (aCons (eOp fIx (eVar 2) (eC (.int 1))) aNil)) (eOp (fIn false) (eOp fIx (eVar 2) (eC (.int 1))) (eVar 0)))) sNext)
    (sRet (emAnd (eOp (fIn false) (eOp fIx (eVar 2) (eC (.int 0))) (eC (.tup [(.str "place"), (.str "lost"), (.str "twice")]))) (eCall m_is_place (aCons (eOp fIx (eVar 2) (eC (.int 1))) (aCons (eVar 1) aNil)))))))))
noncomputable def m_is_event_of : FM := frz r_is_event_of
theorem ok_is_event_of (T : Txt K mg) : FnOk P w K mg base (L2.CX P w) 3 T.f_is_event_of T.d_is_event_of ["letters", "many", "thing"] (spF K 3 m_is_event_of) :=
  fn_frz (m := r_is_event_of) (fn_ok T.F_is_event_of sc_is_event_of rfl (fun cdv A outer s H E hr => ⟨_, (css_cons (cs_if (CW.ct (cw_or (ct_not (ct_val (ce_fnB call_isi fs_isi (by rfl) T.z_isinstance (by decide +kernel) (ca_cons (ce_var 2) (ca_cons (ce_ty (by rfl) T.z_tuple (by decide +kernel)) ca_nil))))) (cw_or (ct_cmp op_notInU (os_in true) (ce_fnB call_len_any fs_len (by rfl) T.z_len (by decide +kernel) (ca_cons (ce_var 2) ca_nil)) (ce_tup (ca_cons ce_int (ca_cons ce_int ca_nil)))) (cw_or1 (ct_not (ct_val (ce_fnB call_isi fs_isi (by rfl) T.z_isinstance (by decide +kernel) (ca_cons (ce_ix (ce_var 2) ce_int (fun _ _ => rfl)) (ca_cons (ce_ty (by rfl) T.z_str (by decide +kernel)) ca_nil))))))))) (css_one (cs_ret ce_bl)) css_nil)
    (css_cons (cs_if (ct_cmp (op_eqD hr.units) os_eq (ce_ix (ce_var 2) ce_int (fun _ _ => rfl)) (ce_glob (v := (.str "as")) (.str "as") (by rfl) T.g_AS ⟨_, rfl⟩ (fun _ _ => .str _))) (css_one (cs_ret (ce_and (ce_cmp (op_eqD hr.units) os_eq (ce_fnB call_len_any fs_len (by rfl) T.z_len (by decide +kernel) (ca_cons (ce_var 2) ca_nil)) ce_int) (ce_and (ce_fnB (cr_all rfl) fs_all (by rfl) T.z_all (by decide +kernel) (ca_cons (ce_lc (own := [("one", 3)]) rfl sc_is_event_of.nd (ci_seq (ce_sl (ce_var 2) (co_some ce_int) co_none)) (blkOk_by (own := [("one", 3)]) (N := nm_is_event_of) (sc := defScope s_is_event_of) (by decide +kernel)) (fun _ _ _ _ _ => (cg_name (i := 3) sc_is_event_of.nd rfl (.inl rfl))) (fun _ _ _ _ _ => cts_nil) (blkE fun _ _ _ _ _ => ⟨_, (ce_call (n := 2) (ok_is_place T) hr takes0 (by rfl) T.g_is_place T.F_is_place.kp T.b_is_place (ca_cons (ce_var 3) (ca_cons (ce_var 1) ca_nil)) (alen_cons (alen_cons alen_nil))), by first | (dsimp only [L2.Cx.blk]; done) | rfl | (dsimp only [L2.Cx.blk]; rfl)⟩)) ca_nil)) (ce_one (ce_cmp (op_neD hr.units) os_ne (ce_ix (ce_var 2) ce_int (fun _ _ => rfl)) (ce_ix (ce_var 2) ce_int (fun _ _ => rfl)))))))) css_nil)
    (css_cons (cs_if (ct_cmp (op_eqD hr.units) os_eq (ce_fnB call_len_any fs_len (by rfl) T.z_len (by decide +kernel) (ca_cons (ce_var 2) ca_nil)) ce_int) (css_one (cs_ret ce_bl)) css_nil)
    (css_cons (cs_if (ct_cmp (op_eqD hr.units) os_eq (ce_ix (ce_var 2) ce_int (fun _ _ => rfl)) (ce_glob (v := (.str "name")) (.str "name") (by rfl) T.g_NAME ⟨_, rfl⟩ (fun _ _ => .str _))) (css_one (cs_ret (ce_and (ce_call (n := 1) (ok_is_letter T) (hr.mono (by decide)) (takes_of rfl rfl rfl rfl) (by rfl) T.g_is_letter T.F_is_letter.kp T.b_is_letter (ca_cons (ce_ix (ce_var 2) ce_int (fun _ _ => rfl)) ca_nil) (alen_cons alen_nil)) (ce_one (ce_cmp op_inU (os_in false) (ce_ix (ce_var 2) ce_int (fun _ _ => rfl)) (ce_var 0)))))) css_nil)
    (css_one (cs_ret (ce_and (ce_cmp op_inU (os_in false) (ce_ix (ce_var 2) ce_int (fun _ _ => rfl)) (ce_glob (v := (.ref T.a_PLACED)) (.tup [(.str "place"), (.str "lost"), (.str "twice")]) (by rfl) T.g_PLACED rfl T.r_PLACED)) (ce_one (ce_call (n := 2) (ok_is_place T) hr (takes_of rfl rfl rfl rfl) (by rfl) T.g_is_place T.F_is_place.kp T.b_is_place (ca_cons (ce_ix (ce_var 2) ce_int (fun _ _ => rfl)) (ca_cons (ce_var 1) ca_nil)) (alen_cons (alen_cons alen_nil)))))))))))⟩))
noncomputable def m_gone : FM := mFun 8
    (sSeq (sAsg (eVar 0) (gmTup 2 (gmCons 2 (gmCons 3 gmNil))))
    (sSeq (sPar 4 5 (eLstL aNil) (eLstL aNil))
    (sSeq (sFor (iSeq (eVar 1)) (gmName 6) (sSeq (sAsg (eCall m_done (aCons (eVar 2) (aCons (eVar 3) (aCons (eVar 6) aNil)))) (gmTup 3 (gmCons 2 (gmCons 3 (gmCons 7 gmNil)))))
    (sSeq (sDrop (eBM (eVar 4) (aCons (eOp fIx (eVar 2) (eC (.int 0))) aNil) (mUp fAppend)))
    (sDrop (eBM (eVar 5) (aCons (eVar 7) aNil) (mUp fExtend))))))
    (sRet (eTup (aCons (eTup (aCons (eVar 2) (aCons (eVar 3) aNil))) (aCons (eVar 4) (aCons (eVar 5) aNil))))))))
theorem ok_gone (T : Txt K mg) : FnOk P w K mg base (L2.CX P w) 3 T.f_gone T.d_gone ["pair", "events"] (spF K 2 m_gone) :=
  fn_ok T.F_gone sc_gone rfl (fun cdv A outer s H E hr => ⟨_, (css_cons (cs_asg (ce_var 0) (cg_tup rfl (cgs_name (i := 2) sc_gone.nd rfl (.inl rfl) (cgs_name (i := 3) sc_gone.nd rfl (.inl rfl) cgs_nil))))
    (css_cons (cs_par (i := 4) (j := 5) rfl sc_gone.nd rfl rfl (by decide) rfl rfl (ce_lstL ca_nil) (ce_lstL ca_nil) (by rfl))
    (css_cons (cs_for (passes_of rfl) rfl (ci_seq (ce_var 1)) (cg_name (i := 6) sc_gone.nd rfl (.inl rfl)) (css_cons (cs_asg (ce_call (n := 3) (ok_done T) hr (takes_of rfl rfl rfl rfl) (by rfl) T.g_done T.F_done.kp T.b_done (ca_cons (ce_var 2) (ca_cons (ce_var 3) (ca_cons (ce_var 6) ca_nil))) (alen_cons (alen_cons (alen_cons alen_nil)))) (cg_tup rfl (cgs_name (i := 2) sc_gone.nd rfl (.inl rfl) (cgs_name (i := 3) sc_gone.nd rfl (.inl rfl) (cgs_name (i := 7) sc_gone.nd rfl (.inl rfl) cgs_nil)))))
    (css_cons (cs_expr (ce_bm PySem.F.slot_list_append PySem.F.type_list_append mt_append ms_append (ce_var 4) (ca_cons (ce_ix (ce_var 2) ce_int (fun _ _ => rfl)) ca_nil)))
    (css_one (cs_expr (ce_bm PySem.F.slot_list_extend PySem.F.type_list_extend mt_extend ms_extend (ce_var 5) (ca_cons (ce_var 7) ca_nil)))))))
    (css_one (cs_ret (ce_tup (ca_cons (ce_tup (ca_cons (ce_var 2) (ca_cons (ce_var 3) ca_nil))) (ca_cons (ce_var 4) (ca_cons (ce_var 5) ca_nil)))))))))⟩)
noncomputable def r__law_letters : FM := mFun 4
    (sSeq (sAsg (eC (.str "abcdefghijklmnopqrstuvwxyz")) (gmName 2))
    (sSeq (sAsg (eOp fAdd (eC (.int 1)) (eCall m__law_wind (aCons (eVar 0) (aCons (eVar 1) aNil)))) (gmName 3))
    (sRet (emIf (tmV (eOp fEq (eCall m__law_wind (aCons (eVar 0) (aCons (eC (.int 2)) aNil))) (eC (.int 0)))) (eFnV fList (aCons (eSl (eVar 2) oNone (oSome (eVar 3))) aNil)) (eFnV fList (aCons (eSl (eCall m__law_mixed (aCons (eVar 0) (aCons (eVar 2) aNil))) oNone (oSome (eVar 3))) aNil))))))
noncomputable def m__law_letters : FM := frz r__law_letters
theorem ok__law_letters (T : Txt K mg) : FnOk P w K mg base (L2.CX P w) 3 T.f__law_letters T.d__law_letters ["spool", "most"] (spF K 2 m__law_letters) :=
  fn_frz (m := r__law_letters) (fn_ok T.F__law_letters sc__law_letters rfl (fun cdv A outer s H E hr => ⟨_, (css_cons (cs_set (i := 2) sc__law_letters.nd rfl (.inl rfl) ce_str)
    (css_cons (cs_set (i := 3) sc__law_letters.nd rfl (.inl rfl) (ce_op op_add4 os_add ce_int (ce_call (n := 2) (ok__law_wind T) (hr.mono (by decide)) (takes_of rfl rfl rfl rfl) (by rfl) T.g__law_wind T.F__law_wind.kp T.b__law_wind (ca_cons (ce_var 0) (ca_cons (ce_var 1) ca_nil)) (alen_cons (alen_cons alen_nil)))))
    (css_one (cs_ret (ce_if (ct_cmp (op_eqD hr.units) os_eq (ce_call (n := 2) (ok__law_wind T) (hr.mono (by decide)) (takes_of rfl rfl rfl rfl) (by rfl) T.g__law_wind T.F__law_wind.kp T.b__law_wind (ca_cons (ce_var 0) (ca_cons ce_int ca_nil)) (alen_cons (alen_cons alen_nil))) ce_int) (ce_fnTV (cr_listU rfl) fn_list (by rfl) T.z_list (by decide +kernel) (ca_cons (ce_sl (ce_var 2) co_none (co_some (ce_var 3))) ca_nil)) (ce_fnTV (cr_listU rfl) fn_list (by rfl) T.z_list (by decide +kernel) (ca_cons (ce_sl (ce_call (n := 2) (ok__law_mixed T) hr (takes_of rfl rfl rfl rfl) (by rfl) T.g__law_mixed T.F__law_mixed.kp T.b__law_mixed (ca_cons (ce_var 0) (ca_cons (ce_var 2) ca_nil)) (alen_cons (alen_cons alen_nil))) co_none (co_some (ce_var 3))) ca_nil)))))))⟩))
noncomputable def r__law_events : FM := mFun 5
    (sRet (eLc (iRange1 (aCons (eCall m__law_wind (aCons (eVar 0) (aCons (eOp fAdd (eVar 2) (eC (.int 1))) aNil))) aNil)) (gmName 4) tmYes (eCall m__law_event (aCons (eVar 0) (aCons (eVar 1) (aCons (eVar 3) aNil)))) [4]))
noncomputable def m__law_events : FM := frz r__law_events
theorem ok__law_events (T : Txt K mg) : FnOk P w K mg base (L2.CX P w) 3 T.f__law_events T.d__law_events ["spool", "row", "most", "kinds"] (spF K 4 m__law_events) :=
  fn_frz (m := r__law_events) (fn_ok T.F__law_events sc__law_events rfl (fun cdv A outer s H E hr => ⟨_, (css_one (cs_ret (ce_lc (own := [("k", 4)]) rfl sc__law_events.nd (ci_range1 (by rfl) T.z_range (ca_cons (ce_call (n := 2) (ok__law_wind T) (hr.mono (by decide)) (takes_of rfl rfl rfl rfl) (by rfl) T.g__law_wind T.F__law_wind.kp T.b__law_wind (ca_cons (ce_var 0) (ca_cons (ce_op op_add4 os_add (ce_var 2) ce_int) ca_nil)) (alen_cons (alen_cons alen_nil))) ca_nil)) (blkOk_by (own := [("k", 4)]) (N := nm__law_events) (sc := defScope s__law_events) (by decide +kernel)) (fun _ _ _ _ _ => (cg_name (i := 4) sc__law_events.nd rfl (.inl rfl))) (fun _ _ _ _ _ => cts_nil) (blkE fun _ _ _ _ _ => ⟨_, (ce_call (n := 3) (ok__law_event T) hr takes0 (by rfl) T.g__law_event T.F__law_event.kp T.b__law_event (ca_cons (ce_var 0) (ca_cons (ce_var 1) (ca_cons (ce_var 3) ca_nil))) (alen_cons (alen_cons (alen_cons alen_nil)))), by first | (dsimp only [L2.Cx.blk]; done) | rfl | (dsimp only [L2.Cx.blk]; rfl)⟩))))⟩))
noncomputable def r_need_pair : FM := mFun 1
    (sIf (tmNot (tmV (eCall m_is_pair (aCons (eVar 0) aNil)))) sNo sNext)
noncomputable def m_need_pair : FM := frz r_need_pair
theorem ok_need_pair (T : Txt K mg) : FnOk P w K mg base (L2.CX P w) 4 T.f_need_pair T.d_need_pair ["pair"] (spF K 1 m_need_pair) :=
  fn_frz (m := r_need_pair) (fn_ok T.F_need_pair sc_need_pair rfl (fun cdv A outer s H E hr => ⟨_, (css_one (cs_if (ct_not (ct_val (ce_call (n := 1) (ok_is_pair T) hr (takes_of rfl rfl rfl rfl) (by rfl) T.g_is_pair T.F_is_pair.kp T.b_is_pair (ca_cons (ce_var 0) ca_nil) (alen_cons alen_nil)))) (css_one cs_never) css_nil))⟩))
noncomputable def r_are_events : FM := mFun 3
    (sRet (emAnd (eFn fIsi (aCons (eVar 1) (aCons (eC (.ty "list")) aNil))) (eFn fAll (aCons (eLc (iSeq (eVar 1)) (gmName 2) tmYes (eCall m_is_event_of (aCons (eOp fIx (eVar 0) (eC (.int 0))) (aCons (eFn fLen (aCons (eOp fIx (eVar 0) (eC (.int 0))) aNil)) (aCons (eVar 2) aNil)))) [2]) aNil))))
noncomputable def m_are_events : FM := frz r_are_events
theorem ok_are_events (T : Txt K mg) : FnOk P w K mg base (L2.CX P w) 4 T.f_are_events T.d_are_events ["pair", "thing"] (spF K 2 m_are_events) :=
  fn_frz (m := r_are_events) (fn_ok T.F_are_events sc_are_events rfl (fun cdv A outer s H E hr => ⟨_, (css_one (cs_ret (ce_and (ce_fnB call_isi fs_isi (by rfl) T.z_isinstance (by decide +kernel) (ca_cons (ce_var 1) (ca_cons (ce_ty (by rfl) T.z_list (by decide +kernel)) ca_nil))) (ce_one (ce_fnB (cr_all rfl) fs_all (by rfl) T.z_all (by decide +kernel) (ca_cons (ce_lc (own := [("one", 2)]) rfl sc_are_events.nd (ci_seq (ce_var 1)) (blkOk_by (own := [("one", 2)]) (N := nm_are_events) (sc := defScope s_are_events) (by decide +kernel)) (fun _ _ _ _ _ => (cg_name (i := 2) sc_are_events.nd rfl (.inl rfl))) (fun _ _ _ _ _ => cts_nil) (blkE fun _ _ _ _ _ => ⟨_, (ce_call (n := 3) (ok_is_event_of T) hr takes0 (by rfl) T.g_is_event_of T.F_is_event_of.kp T.b_is_event_of (ca_cons (ce_ix (ce_var 0) ce_int (fun _ _ => rfl)) (ca_cons (ce_fnB call_len_any fs_len (by rfl) T.z_len (by decide +kernel) (ca_cons (ce_ix (ce_var 0) ce_int (fun _ _ => rfl)) ca_nil)) (ca_cons (ce_var 2) ca_nil))) (alen_cons (alen_cons (alen_cons alen_nil)))), by first | (dsimp only [L2.Cx.blk]; done) | rfl | (dsimp only [L2.Cx.blk]; rfl)⟩)) ca_nil))))))⟩))
noncomputable def r__law_two : FM := mFun 6
    (sSeq (sAsg (eCall m__law_mixed (aCons (eVar 0) (aCons (eCall m__law_letters (aCons (eVar 0) (aCons (eVar 1) aNil))) aNil))) (gmName 2))
    (sSeq (sAsg (eCall m__law_wind (aCons (eVar 0) (aCons (eC (.int 3)) aNil))) (gmName 3))
    (sSeq (sIf (tmV (eOp fEq (eVar 3) (eC (.int 0)))) (sRet (eTup (aCons (eVar 2) (aCons (eCall m__law_mixed (aCons (eVar 0) (aCons (eVar 2) aNil))) aNil)))) sNext)
    (sSeq (sAsg (eFnO fList (aCons (eVar 2) aNil)) (gmName 4))
    (sSeq (sFor (iRange1 (aCons (eOp fMul (eVar 3) (eCall m__law_wind (aCons (eVar 0) (aCons (eC (.int 3)) aNil)))) aNil)) (gmName 5) (sDrop (eBM (eVar 4) (aCons (eC (.int 0)) (aCons (eBM (eVar 4) (aCons (eCall m__law_wind (aCons (eVar 0) (aCons (eFn fLen (aCons (eVar 4) aNil)) aNil))) aNil) (mUp fPopAt)) aNil)) (mUp fInsert))))
    (sRet (eTup (aCons (eVar 2) (aCons (eFn fTuple (aCons (eVar 4) aNil)) aNil)))))))))
noncomputable def m__law_two : FM := frz r__law_two
theorem ok__law_two (T : Txt K mg) : FnOk P w K mg base (L2.CX P w) 4 T.f__law_two T.d__law_two ["spool", "most"] (spF K 2 m__law_two) :=
  fn_frz (m := r__law_two) (fn_ok T.F__law_two sc__law_two rfl (fun cdv A outer s H E hr => ⟨_, (css_cons (cs_set (i := 2) sc__law_two.nd rfl (.inl rfl) (ce_call (n := 2) (ok__law_mixed T) (hr.mono (by decide)) (takes_of rfl rfl rfl rfl) (by rfl) T.g__law_mixed T.F__law_mixed.kp T.b__law_mixed (ca_cons (ce_var 0) (ca_cons (ce_call (n := 2) (ok__law_letters T) hr (takes_of rfl rfl rfl rfl) (by rfl) T.g__law_letters T.F__law_letters.kp T.b__law_letters (ca_cons (ce_var 0) (ca_cons (ce_var 1) ca_nil)) (alen_cons (alen_cons alen_nil))) ca_nil)) (alen_cons (alen_cons alen_nil))))
    (css_cons (cs_set (i := 3) sc__law_two.nd rfl (.inl rfl) (ce_call (n := 2) (ok__law_wind T) (hr.mono (by decide)) (takes_of rfl rfl rfl rfl) (by rfl) T.g__law_wind T.F__law_wind.kp T.b__law_wind (ca_cons (ce_var 0) (ca_cons ce_int ca_nil)) (alen_cons (alen_cons alen_nil))))
    (css_cons (cs_if (ct_cmp (op_eqD hr.units) os_eq (ce_var 3) ce_int) (css_one (cs_ret (ce_tup (ca_cons (ce_var 2) (ca_cons (ce_call (n := 2) (ok__law_mixed T) (hr.mono (by decide)) (takes_of rfl rfl rfl rfl) (by rfl) T.g__law_mixed T.F__law_mixed.kp T.b__law_mixed (ca_cons (ce_var 0) (ca_cons (ce_var 2) ca_nil)) (alen_cons (alen_cons alen_nil))) ca_nil))))) css_nil)
    (css_cons (cs_set (i := 4) sc__law_two.nd rfl (.inl rfl) (ce_fnTO (cr_listU rfl) fn_list (by rfl) T.z_list (by decide +kernel) (ca_cons (ce_var 2) ca_nil)))
    (css_cons (cs_for (passes_of rfl) rfl (ci_range1 (by rfl) T.z_range (ca_cons (ce_op op_mul2 os_mul (ce_var 3) (ce_call (n := 2) (ok__law_wind T) (hr.mono (by decide)) (takes_of rfl rfl rfl rfl) (by rfl) T.g__law_wind T.F__law_wind.kp T.b__law_wind (ca_cons (ce_var 0) (ca_cons ce_int ca_nil)) (alen_cons (alen_cons alen_nil)))) ca_nil)) (cg_name (i := 5) sc__law_two.nd rfl (.inl rfl)) (css_one (cs_expr (ce_bm PySem.F.slot_list_insert PySem.F.type_list_insert mt_insertU ms_insert (ce_var 4) (ca_cons ce_int (ca_cons (ce_bm PySem.F.slot_list_pop PySem.F.type_list_pop mt_popAt ms_popAt (ce_var 4) (ca_cons (ce_call (n := 2) (ok__law_wind T) (hr.mono (by decide)) (takes_of rfl rfl rfl rfl) (by rfl) T.g__law_wind T.F__law_wind.kp T.b__law_wind (ca_cons (ce_var 0) (ca_cons (ce_fnB call_len_any fs_len (by rfl) T.z_len (by decide +kernel) (ca_cons (ce_var 4) ca_nil)) ca_nil)) (alen_cons (alen_cons alen_nil))) ca_nil)) ca_nil))))))
    (css_one (cs_ret (ce_tup (ca_cons (ce_var 2) (ca_cons (ce_fnT cr_tupF fs_tuple (by rfl) T.z_tuple (by decide +kernel) (ca_cons (ce_var 4) ca_nil)) ca_nil))))))))))⟩))
noncomputable def r_need_events : FM := mFun 2
    (sIf (tmNot (tmV (eCall m_are_events (aCons (eVar 0) (aCons (eVar 1) aNil))))) sNo sNext)
noncomputable def m_need_events : FM := frz r_need_events
theorem ok_need_events (T : Txt K mg) : FnOk P w K mg base (L2.CX P w) 5 T.f_need_events T.d_need_events ["pair", "events"] (spF K 2 m_need_events) :=
  fn_frz (m := r_need_events) (fn_ok T.F_need_events sc_need_events rfl (fun cdv A outer s H E hr => ⟨_, (css_one (cs_if (ct_not (ct_val (ce_call (n := 2) (ok_are_events T) hr (takes_of rfl rfl rfl rfl) (by rfl) T.g_are_events T.F_are_events.kp T.b_are_events (ca_cons (ce_var 0) (ca_cons (ce_var 1) ca_nil)) (alen_cons (alen_cons alen_nil))))) (css_one cs_never) css_nil))⟩))
noncomputable def m_go : FM := mFun 2
    (sSeq (sDrop (eCall m_need_pair (aCons (eVar 0) aNil)))
    (sSeq (sDrop (eCall m_need_events (aCons (eVar 0) (aCons (eVar 1) aNil))))
    (sRet (eCall m_gone (aCons (eVar 0) (aCons (eVar 1) aNil))))))
theorem ok_go (T : Txt K mg) : FnOk P w K mg base (L2.CX P w) 6 T.f_go T.d_go ["pair", "events"] (spF K 2 m_go) :=
  fn_ok T.F_go sc_go rfl (fun cdv A outer s H E hr => ⟨_, (css_cons (cs_expr (ce_call (n := 1) (ok_need_pair T) (hr.mono (by decide)) (takes_of rfl rfl rfl rfl) (by rfl) T.g_need_pair T.F_need_pair.kp T.b_need_pair (ca_cons (ce_var 0) ca_nil) (alen_cons alen_nil)))
    (css_cons (cs_expr (ce_call (n := 2) (ok_need_events T) hr (takes_of rfl rfl rfl rfl) (by rfl) T.g_need_events T.F_need_events.kp T.b_need_events (ca_cons (ce_var 0) (ca_cons (ce_var 1) ca_nil)) (alen_cons (alen_cons alen_nil))))
    (css_one (cs_ret (ce_call (n := 2) (ok_gone T) (hr.mono (by decide)) (takes_of rfl rfl rfl rfl) (by rfl) T.g_gone T.F_gone.kp T.b_gone (ca_cons (ce_var 0) (ca_cons (ce_var 1) ca_nil)) (alen_cons (alen_cons alen_nil)))))))⟩)
noncomputable def r_law : FM := mFun 11
    (sSeq (sAsg (eLst (aCons (eC (.str "place")) (aCons (eC (.str "name")) (aCons (eC (.str "lost")) (aCons (eC (.str "twice")) (aCons (eC (.str "as")) aNil)))))) (gmName 1))
    (sSeq (sFor (iRange1 (aCons (eFn fMax (aCons (eC (.int 1)) (aCons (eFn fMin (aCons (eC (.int 5)) (aCons (eFn fLen (aCons (eVar 0) aNil)) aNil))) aNil))) aNil)) (gmName 2) (sSeq (sAsg (eCall m__law_spool (aCons (eVar 0) (aCons (eVar 2) aNil))) (gmName 3))
    (sFor (iRange1 (aCons (eC (.int 4)) aNil)) (gmName 4) (sSeq (sAsg (eCall m__law_two (aCons (eVar 3) (aCons (eOp fIx (eLst (aCons (eC (.int 4)) (aCons (eC (.int 16)) aNil))) (eCall m__law_wind (aCons (eVar 3) (aCons (eC (.int 2)) aNil)))) aNil))) (gmName 5))
    (sSeq (sAsg (eCall m__law_events (aCons (eVar 3) (aCons (eOp fIx (eVar 5) (eC (.int 0))) (aCons (eOp fIx (eLst (aCons (eC (.int 12)) (aCons (eC (.int 200)) aNil))) (eOp fDiv (eCall m__law_wind (aCons (eVar 3) (aCons (eC (.int 4)) aNil))) (eC (.int 3)))) (aCons (eVar 1) aNil))))) (gmName 6))
    (sSeq (sAsg (eFn fRepr (aCons (eLst (aCons (eVar 5) (aCons (eVar 6) aNil))) aNil)) (gmName 7))
    (sSeq (sAsg (eCall m__law_led (aCons (eVar 5) (aCons (eVar 6) aNil))) (gmName 8))
    (sSeq (sFor (iRange1 (aCons (eC (.int 2)) aNil)) (gmName 9) (sSeq (sAsg (eCall m_go (aCons (eVar 5) (aCons (eVar 6) aNil))) (gmName 10))
    (sSeq (sIf (tmOr (tmV (eOp fNe (eFn fRepr (aCons (eVar 10) aNil)) (eFn fRepr (aCons (eVar 8) aNil)))) (tmV (eOp fNe (eFn fRepr (aCons (eLst (aCons (eVar 5) (aCons (eVar 6) aNil))) aNil)) (eVar 7)))) (sRet (eC (.bl false))) sNext)
    (sSeq (sDrop (eBM (eOp fIx (eVar 10) (eC (.int 1))) (aCons (eC (.str "a")) aNil) (mUp fAppend)))
    (sSeq (sIf (tmV (eOp fNe (eOp fIx (eVar 10) (eC (.int 2))) (eOp fIx (eVar 8) (eC (.int 2))))) (sRet (eC (.bl false))) sNext)
    (sSeq (sDrop (eBM (eOp fIx (eVar 10) (eC (.int 2))) aNil (mUp fReverse)))
    (sDrop (eBM (eOp fIx (eVar 10) (eC (.int 2))) (aCons (eC .non) aNil) (mUp fAppend)))))))))
    (sIf (tmOr (tmV (eOp fNe (eCallP [1, 0] m_go (aCons (eVar 6) (aCons (eVar 5) aNil))) (eVar 8))) (tmV (eOp fNe (eFn fRepr (aCons (eCall m_go (aCons (eVar 5) (aCons (eLst aNil) aNil))) aNil)) (eFn fRepr (aCons (eTup (aCons (eVar 5) (aCons (eLst aNil) (aCons (eLst aNil) aNil)))) aNil))))) (sRet (eC (.bl false))) sNext)))))))))
    (sRet (eC (.bl true)))))
noncomputable def m_law : FM := frz r_law
theorem ok_law (T : Txt K mg) : FnG P w K mg base (L2.CX P w) 7 T.f_law T.d_law ["script"] (spF K 1 m_law) :=
  fnG_frz (m := r_law) (fnG_ok T.F_law sc_law rfl (fun cdv A outer s H E hgs hr => ⟨_, (css_cons (cs_set (i := 1) sc_law.nd rfl (.inl rfl) (ce_lst (ca_cons ce_str (ca_cons ce_str (ca_cons ce_str (ca_cons ce_str (ca_cons ce_str ca_nil)))))))
    (css_cons (cs_for (passes_of rfl) rfl (ci_range1 (by rfl) T.z_range (ca_cons (ce_fnB (cr_maxU rfl) fs_max (by rfl) T.z_max (by decide +kernel) (ca_cons ce_int (ca_cons (ce_fnB (cr_minU rfl) fs_min (by rfl) T.z_min (by decide +kernel) (ca_cons ce_int (ca_cons (ce_fnB call_len_any fs_len (by rfl) T.z_len (by decide +kernel) (ca_cons (ce_var 0) ca_nil)) ca_nil))) ca_nil))) ca_nil)) (cg_name (i := 2) sc_law.nd rfl (.inl rfl)) (css_cons (cs_set (i := 3) sc_law.nd rfl (.inl rfl) (ce_call (n := 2) (ok__law_spool T) (hr.mono (by decide)) (takes_of rfl rfl rfl rfl) (by rfl) T.g__law_spool T.F__law_spool.kp T.b__law_spool (ca_cons (ce_var 0) (ca_cons (ce_var 2) ca_nil)) (alen_cons (alen_cons alen_nil))))
    (css_one (cs_for (passes_of rfl) rfl (ci_range1 (by rfl) T.z_range (ca_cons ce_int ca_nil)) (cg_name (i := 4) sc_law.nd rfl (.inl rfl)) (css_cons (cs_set (i := 5) sc_law.nd rfl (.inl rfl) (ce_call (n := 2) (ok__law_two T) (hr.mono (by decide)) (takes_of rfl rfl rfl rfl) (by rfl) T.g__law_two T.F__law_two.kp T.b__law_two (ca_cons (ce_var 3) (ca_cons (ce_ix (ce_lst (ca_cons ce_int (ca_cons ce_int ca_nil))) (ce_call (n := 2) (ok__law_wind T) (hr.mono (by decide)) (takes_of rfl rfl rfl rfl) (by rfl) T.g__law_wind T.F__law_wind.kp T.b__law_wind (ca_cons (ce_var 3) (ca_cons ce_int ca_nil)) (alen_cons (alen_cons alen_nil))) (fun _ _ => rfl)) ca_nil)) (alen_cons (alen_cons alen_nil))))
    (css_cons (cs_set (i := 6) sc_law.nd rfl (.inl rfl) (ce_call (n := 4) (ok__law_events T) (hr.mono (by decide)) (takes_of rfl rfl rfl rfl) (by rfl) T.g__law_events T.F__law_events.kp T.b__law_events (ca_cons (ce_var 3) (ca_cons (ce_ix (ce_var 5) ce_int (fun _ _ => rfl)) (ca_cons (ce_ix (ce_lst (ca_cons ce_int (ca_cons ce_int ca_nil))) (ce_op op_fdivW os_div (ce_call (n := 2) (ok__law_wind T) (hr.mono (by decide)) (takes_of rfl rfl rfl rfl) (by rfl) T.g__law_wind T.F__law_wind.kp T.b__law_wind (ca_cons (ce_var 3) (ca_cons ce_int ca_nil)) (alen_cons (alen_cons alen_nil))) ce_int) (fun _ _ => rfl)) (ca_cons (ce_var 1) ca_nil)))) (alen_cons (alen_cons (alen_cons (alen_cons alen_nil))))))
    (css_cons (cs_set (i := 7) sc_law.nd rfl (.inl rfl) (ce_fnB (Low.cr_reprD hgs (reprs_of hr)) fs_repr (by rfl) T.z_repr (by decide +kernel) (ca_cons (ce_lst (ca_cons (ce_var 5) (ca_cons (ce_var 6) ca_nil))) ca_nil)))
    (css_cons (cs_set (i := 8) sc_law.nd rfl (.inl rfl) (ce_call (n := 2) (ok__law_led T) (hr.mono (by decide)) (takes_of rfl rfl rfl rfl) (by rfl) T.g__law_led T.F__law_led.kp T.b__law_led (ca_cons (ce_var 5) (ca_cons (ce_var 6) ca_nil)) (alen_cons (alen_cons alen_nil))))
    (css_cons (cs_for (passes_of rfl) rfl (ci_range1 (by rfl) T.z_range (ca_cons ce_int ca_nil)) (cg_name (i := 9) sc_law.nd rfl (.inl rfl)) (css_cons (cs_set (i := 10) sc_law.nd rfl (.inl rfl) (ce_call (n := 2) (ok_go T) hr (takes_of rfl rfl rfl rfl) (by rfl) T.g_go T.F_go.kp T.b_go (ca_cons (ce_var 5) (ca_cons (ce_var 6) ca_nil)) (alen_cons (alen_cons alen_nil))))
    (css_cons (cs_if (CW.ct (cw_or (ct_cmp (op_neD hr.units) os_ne (ce_fnB (Low.cr_reprD hgs (reprs_of hr)) fs_repr (by rfl) T.z_repr (by decide +kernel) (ca_cons (ce_var 10) ca_nil)) (ce_fnB (Low.cr_reprD hgs (reprs_of hr)) fs_repr (by rfl) T.z_repr (by decide +kernel) (ca_cons (ce_var 8) ca_nil))) (cw_or1 (ct_cmp (op_neD hr.units) os_ne (ce_fnB (Low.cr_reprD hgs (reprs_of hr)) fs_repr (by rfl) T.z_repr (by decide +kernel) (ca_cons (ce_lst (ca_cons (ce_var 5) (ca_cons (ce_var 6) ca_nil))) ca_nil)) (ce_var 7))))) (css_one (cs_ret ce_bl)) css_nil)
    (css_cons (cs_expr (ce_bm PySem.F.slot_list_append PySem.F.type_list_append mt_append ms_append (ce_ix (ce_var 10) ce_int (fun _ _ => rfl)) (ca_cons ce_str ca_nil)))
    (css_cons (cs_if (ct_cmp (op_neD hr.units) os_ne (ce_ix (ce_var 10) ce_int (fun _ _ => rfl)) (ce_ix (ce_var 8) ce_int (fun _ _ => rfl))) (css_one (cs_ret ce_bl)) css_nil)
    (css_cons (cs_expr (ce_bm0 PySem.F.slot_list_reverse PySem.F.type_list_reverse mt_reverse ms_reverse (ce_ix (ce_var 10) ce_int (fun _ _ => rfl))))
    (css_one (cs_expr (ce_bm PySem.F.slot_list_append PySem.F.type_list_append mt_append ms_append (ce_ix (ce_var 10) ce_int (fun _ _ => rfl)) (ca_cons ce_non ca_nil))))))))))
    (css_one (cs_if (CW.ct (cw_or (ct_cmp (op_neD hr.units) os_ne (ce_callP (n := 2) (ok_go T) hr (takes_of rfl rfl rfl rfl) (by rfl) T.g_go T.F_go.kp (Sim.Fun.kb T.F_go (ps := ["pair", "events"]) (ks := ["events", "pair"]) (is := [1, 0]) (fun _ _ _ _ _ _ us hl => match us, hl with | [_, _], _ => rfl)) (ck_cons (ce_var 6) (ck_cons (ce_var 5) ck_nil)) (alen_cons (alen_cons alen_nil)) (fun l h => match l, h with | [_, _], _ => rfl) rfl) (ce_var 8)) (cw_or1 (ct_cmp (op_neD hr.units) os_ne (ce_fnB (Low.cr_reprD hgs (reprs_of hr)) fs_repr (by rfl) T.z_repr (by decide +kernel) (ca_cons (ce_call (n := 2) (ok_go T) hr (takes_of rfl rfl rfl rfl) (by rfl) T.g_go T.F_go.kp T.b_go (ca_cons (ce_var 5) (ca_cons (ce_lst ca_nil) ca_nil)) (alen_cons (alen_cons alen_nil))) ca_nil)) (ce_fnB (Low.cr_reprD hgs (reprs_of hr)) fs_repr (by rfl) T.z_repr (by decide +kernel) (ca_cons (ce_tup (ca_cons (ce_var 5) (ca_cons (ce_lst ca_nil) (ca_cons (ce_lst ca_nil) ca_nil)))) ca_nil)))))) (css_one (cs_ret ce_bl)) css_nil)))))))))))
    (css_one (cs_ret ce_bl))))⟩))
end
end Lw
end
section
set_option Elab.async false
set_option linter.all false
set_option maxRecDepth 100000
set_option maxHeartbeats 1000000
open PySem PySem.Spec PyProof.Rows L2
namespace Lw
open Sim
def Ltr (x : Str) : Prop := ∃ c : Nat, x = ⟨#[c]⟩ ∧ 97 ≤ c ∧ c ≤ 122
structure Row (xs : List Str) : Prop where
  pos : 1 ≤ xs.length
  few : xs.length ≤ 16
  ltr : ∀ x ∈ xs, Ltr x
  nd : xs.Nodup
theorem Ltr.ok {x : Str} (h : Ltr x) : PyData.strOk x = true := by
  obtain ⟨c, rfl, h1, h2⟩ := h
  have : ∀ c : Nat, c < 123 → PyData.strOk ⟨#[c]⟩ = true := by decide +kernel
  exact this c (by omega)
theorem abc_eq : (Str.ofString "abcdefghijklmnopqrstuvwxyz").cps.toList = (List.range 26).map (97 + ·) := by decide +kernel
theorem is_letter_ok {x : Str} {st : Stt} (h : Ltr x) : m_is_letter [.str x] st = .ok (.bl true) st := by
  obtain ⟨c, rfl, h1, h2⟩ := h
  refine frz_pure ?_ rfl
  have hl : Str.length ⟨#[c]⟩ = 1 := rfl
  have hin : fIn false st (.str ⟨#[c]⟩) (.str (Str.ofString "abcdefghijklmnopqrstuvwxyz")) = some (.bl true) := by
    show some (W.bl (decide (c ∈ (Str.ofString "abcdefghijklmnopqrstuvwxyz").cps.toList))) = _
    rw [abc_eq, decide_eq_true]
    simp
    exact ⟨c - 97, by omega, by omega⟩
  simp [r_is_letter, entry, hl, hin]
theorem is_row_ok {xs : List Str} {st : Stt} (h : Row xs) : m_is_row [.tup (xs.map .str)] st = .ok (.bl true) st := by
  refine frz_pure ?_ rfl
  have h1 : (1 : Int) ≤ (xs.length : Int) := by have := h.pos; omega
  have h2 : (xs.length : Int) ≤ 16 := by have := h.few; omega
  have h3 : xs.length ≤ 1000 := by omega
  have h4 : xs.length ≤ 100000 := by omega
  have hc : ∀ ρ : Ev, 2 = ρ.length → lcW (fun _ => True) (gmName 1) tmYes (eCall m_is_letter (aCons (eVar 1) aNil)) ρ (xs.map .str) st = .ok (List.replicate xs.length (.bl true)) st := fun ρ hρ => by
    rw [show xs.length = (xs.map W.str).length by simp]
    refine lcW_true trivial _ fun w hw => ?_
    obtain ⟨x, hx, rfl⟩ := List.mem_map.mp hw
    refine ⟨_, rfl, ?_⟩
    simp [is_letter_ok (h.ltr x hx), ← hρ]
  have hn : Low.nubS xs = xs := Low.nubS_of_nodup h.nd
  simp [r_is_row, entry, hc, strsOf_map, hn, h1, h2, h3, h4]

/-! pairs -/
theorem sortS_congr {xs ys : List Str} (h : ys.Perm xs) : sortS ys = sortS xs :=
  List.Perm.eq_of_pairwise (le := fun a b => leS a b = true) (fun a b _ _ x y => leS_antisymm x y) (sortS_pair ys) (sortS_pair xs) ((sortS_perm ys).trans (h.trans (sortS_perm xs).symm))
theorem Row.perm {xs ys : List Str} (h : Row xs) (p : ys.Perm xs) : Row ys := ⟨by rw [p.length_eq]; exact h.pos, by rw [p.length_eq]; exact h.few, fun x hx => h.ltr x (p.mem_iff.mp hx), p.nodup_iff.mpr h.nd⟩
structure Both (t h : List Str) : Prop where
  row : Row t
  perm : h.Perm t
theorem Both.rowH {t h : List Str} (b : Both t h) : Row h := b.row.perm b.perm
abbrev wS (xs : List Str) : W := .tup (xs.map .str)
abbrev wL (xs : List Str) : W := .lst (xs.map .str)
theorem dat_row {n : Nat} {xs : List Str} (h : ∀ x ∈ xs, Ltr x) : datWs n (xs.map .str) = true := dat_strs fun x hx => (h x hx).ok
theorem datS {n : Nat} {xs : List Str} (h : ∀ x ∈ xs, Ltr x) : datW (n + 1) (wS xs) = true := by
  rw [datW, Nat.add_sub_cancel, dat_row h]; simp
theorem datL {n : Nat} {xs : List Str} (h : ∀ x ∈ xs, Ltr x) : datW (n + 1) (wL xs) = true := by
  rw [datW, Nat.add_sub_cancel, dat_row h]; simp
theorem is_pair_ok {t h : List Str} {st : Stt} (b : Both t h) : m_is_pair [.tup [wS t, wS h]] st = .ok (.bl true) st := by
  refine frz_pure ?_ rfl
  have hc : ∀ ρ : Ev, 2 = ρ.length → lcW (fun _ => True) (gmName 1) tmYes (eCall m_is_row (aCons (eVar 1) aNil)) ρ [wS t, wS h] st = .ok (List.replicate 2 (.bl true)) st := fun ρ hρ => by
    refine lcW_true trivial _ fun w hw => ?_
    simp only [List.mem_cons, List.not_mem_nil, or_false] at hw
    refine ⟨_, rfl, ?_⟩
    rcases hw with rfl | rfl
    · simp [is_row_ok b.row, ← hρ]
    · simp [is_row_ok b.rowH, ← hρ]
  have h3 : t.length < 64 := by have := b.row.few; omega
  have h4 : h.length < 64 := by have := b.rowH.few; omega
  have hs : fEq st (wL (sortS h)) (wL (sortS t)) = some (.bl true) := by
    rw [sortS_congr b.perm]
    exact fEq_same (datL (n := 63) fun x hx => b.row.ltr x ((sortS_perm t).mem_iff.mp hx))
  have hs' : fEq st (wL (sortS t)) (wL (sortS t)) = some (.bl true) := by
    exact fEq_same (datL (n := 63) fun x hx => b.row.ltr x ((sortS_perm t).mem_iff.mp hx))
  have e := sortS_congr b.perm
  have ha : fAll st [W.lst [W.bl true, W.bl true]] = some (.bl true) := fAll_rep 2
  simp [r_is_pair, ha, entry, hc, fSorted, strsOf_map, h3, h4, hs', e]
section
variable {st : Stt}
theorem flat_strs : ∀ xs : List Str, flatWs (xs.map .str) = some (xs.map V.str)
  | [] => rfl
  | a :: r => by rw [List.map_cons, flatWs, flatW, flat_strs r]; rfl
theorem inV_strs (x : Str) : ∀ xs : List Str, inV (.str x) (xs.map V.str) = decide (x ∈ xs)
  | [] => rfl
  | a :: r => by
    have ih := inV_strs x r
    unfold inV at ih ⊢
    rw [List.map_cons, List.any_cons, ih]
    show ((a == x) || decide (x ∈ r)) = _
    by_cases h : a = x
    · subst h; simp
    · have : ¬ x = a := fun z => h z.symm
      simp [h, this]
theorem in_row (x : Str) (xs : List Str) : fIn false st (.str x) (wS xs) = some (.bl (decide (x ∈ xs))) := by
  unfold fIn
  simp [flat_strs, flatW, inV_strs]
theorem in_list (x : Str) (xs : List Str) : fIn false st (.str x) (wL xs) = some (.bl (decide (x ∈ xs))) := by
  unfold fIn
  simp [flat_strs, flatW, inV_strs]
theorem notin_list (x : Str) (xs : List Str) : fIn true st (.str x) (wL xs) = some (.bl (!decide (x ∈ xs))) := by
  unfold fIn
  simp [flat_strs, flatW, inV_strs]
theorem sIx_n (n d : Nat) (k : Nat) : HT.sIx n d (some (k : Int)) = min k n := HT.sIx_nat n d k
theorem cut_take (ws : List W) (p : Nat) : cutW ws none (some (p : Int)) = ws.take p := by
  unfold cutW
  rw [HT.sIx_none, sIx_n, List.drop_zero, Nat.sub_zero]
  by_cases h : p ≤ ws.length
  · rw [Nat.min_eq_left h]
  · rw [Nat.min_eq_right (by omega), List.take_length, List.take_of_length_le (by omega)]
theorem cut_drop (ws : List W) (p : Nat) : cutW ws (some (p : Int)) none = ws.drop p := by
  unfold cutW
  rw [HT.sIx_none, sIx_n]
  by_cases h : p ≤ ws.length
  · rw [Nat.min_eq_left h, List.take_of_length_le (by simp)]
  · rw [Nat.min_eq_right (by omega), List.drop_length, List.drop_eq_nil_of_le (by omega)]; simp
theorem cut_drop1 (ws : List W) (p : Nat) : cutW ws (some ((p : Int) + 1)) none = ws.drop (p + 1) := cut_drop ws (p + 1)
def front {α : Type} (xs : List α) (p : Nat) : List α := match xs[p]? with
  | some x => x :: (xs.take p ++ xs.drop (p + 1))
  | none => xs
theorem front_map {α β : Type} (f : α → β) (xs : List α) (p : Nat) : front (xs.map f) p = (front xs p).map f := by
  unfold front
  rw [List.getElem?_map]
  cases xs[p]? <;> simp
theorem front_perm {α : Type} (xs : List α) (p : Nat) : (front xs p).Perm xs := by
  unfold front
  cases h : xs[p]? with
  | none => exact .refl _
  | some x =>
    obtain ⟨hp, e⟩ := List.getElem?_eq_some_iff.mp h
    have : xs = xs.take p ++ x :: xs.drop (p + 1) := by
      rw [← e, ← List.drop_eq_getElem_cons hp, List.take_append_drop]
    exact (List.perm_middle.symm).trans (by rw [← this])
theorem front_length {α : Type} (xs : List α) (p : Nat) : (front xs p).length = xs.length := (front_perm xs p).length_eq
theorem front_mem {xs : List Str} {p : Nat} {x : Str} : x ∈ front xs p ↔ x ∈ xs := (front_perm xs p).mem_iff
theorem Both.len {t h : List Str} (b : Both t h) : h.length = t.length := b.perm.length_eq
@[simp] theorem set_push {α : Type} (st : List α) (x y : α) : (st ++ [x]).set st.length y = st ++ [y] := by
  rw [List.set_append_right _ _ (Nat.le_refl _), Nat.sub_self]; rfl
@[simp] theorem fz_tup' (n : Nat) (ws : List W) : fzW n st (.tup ws) = (fzWs n st ws).map .tup := by rw [fzW]
@[simp] theorem fzs_nil (n : Nat) : fzWs n st [] = some [] := by rw [fzWs]
@[simp] theorem fzs_cons (n : Nat) (w : W) (ws : List W) : fzWs n st (w :: ws) = match fzW n st w, fzWs n st ws with | some a, some b => some (a :: b) | _, _ => none := by
  rw [fzWs]
  all_goals (cases fzW n st w <;> cases fzWs n st ws <;> rfl)
@[simp] theorem fzs_strs (n : Nat) (xs : List Str) : fzWs n st (xs.map .str) = some (xs.map .str) := nls_fz n st _ (nl_strs xs)
theorem fz_wS (n : Nat) (xs : List Str) : fzW n st (wS xs) = some (wS xs) := nl_fz n st _ (by rw [nlW]; exact nl_strs xs)
theorem fz_wL (n : Nat) (xs : List Str) : fzW n st (wL xs) = some (wL xs) := nl_fz n st _ (by rw [nlW]; exact nl_strs xs)
theorem fz_loc0 (us : List W) (h : nlWs us = true) : fzW st.length (st ++ [some (.lst us)]) (.loc st.length) = some (.lst us) := by
  rw [fzW, if_neg (Nat.lt_irrefl _), List.getElem?_concat_length]
  dsimp only
  rw [if_pos (nls_ok _ _ h)]
theorem idxT_ok (x : Str) (xs : List Str) (h : x ∈ xs) : mIdx (wS xs) [.str x] st = .ok (.int (xs.idxOf x : Nat)) st := by
  unfold mIdx
  simp [strsOf_map, h]
theorem get_map {xs : List Str} {p : Nat} (h : p < xs.length) : (xs.map W.str)[p]? = some (.str xs[p]) := by
  rw [List.getElem?_map, List.getElem?_eq_getElem h]; rfl
@[simp] theorem get_p0 {α : Type} (st : List α) (x y : α) : (st ++ [x, y])[st.length]? = some x := by
  rw [List.getElem?_append_right (Nat.le_refl _), Nat.sub_self]; rfl
@[simp] theorem get_p1 {α : Type} (st : List α) (x y : α) : (st ++ [x, y])[st.length + 1]? = some y := by
  rw [List.getElem?_append_right (by omega), show st.length + 1 - st.length = 1 by omega]; rfl
@[simp] theorem set_p0 {α : Type} (st : List α) (x y z : α) : (st ++ [x, y]).set st.length z = st ++ [z, y] := by
  rw [List.set_append_right _ _ (Nat.le_refl _), Nat.sub_self]; rfl
@[simp] theorem set_p1 {α : Type} (st : List α) (x y z : α) : (st ++ [x, y]).set (st.length + 1) z = st ++ [x, z] := by
  rw [List.set_append_right _ _ (by omega), show st.length + 1 - st.length = 1 by omega]; rfl
theorem row_head {t : List Str} (h : 1 ≤ t.length) : ∃ a r, t = a :: r := by
  cases t with
  | nil => simp at h
  | cons a r => exact ⟨a, r, rfl⟩
theorem need_pair_ok {t h : List Str} (b : Both t h) : m_need_pair [.tup [wS t, wS h]] st = .ok .non st := by
  refine frz_pure ?_ rfl
  simp [r_need_pair, entry, is_pair_ok b]
theorem front_idx {x : Str} : ∀ {t : List Str}, x ∈ t → front t (t.idxOf x) = x :: t.erase x := fun {t} h => by
  unfold front
  have hl := List.idxOf_lt_length_of_mem h
  rw [List.getElem?_eq_getElem hl, List.getElem_idxOf hl]
  dsimp only
  rw [List.erase_eq_eraseIdx_of_idxOf rfl, List.eraseIdx_eq_take_drop_succ]
end
end Lw
end
section
set_option Elab.async false
set_option linter.all false
set_option maxRecDepth 100000
set_option maxHeartbeats 1000000
open PySem PySem.Spec PyProof.Rows L2
namespace Lw
open Sim
theorem is_amount_ok {i : Int} {st : Stt} : m_is_amount [.int i] st = .ok (.bl (decide (0 ≤ i))) st := by
  refine frz_pure ?_ rfl
  simp [r_is_amount, entry]
theorem is_place_ok {i n : Int} {st : Stt} : m_is_place [.int i, .int n] st = .ok (.bl (decide (0 ≤ i ∧ i < n))) st := by
  refine frz_pure ?_ rfl
  simp [r_is_place, entry, is_amount_ok]
  by_cases h : 0 ≤ i <;> simp [h]
/-! events -/
inductive Evt where
  | pl (p : Nat) | lo (p : Nat) | tw (p : Nat) | as (p q : Nat) | nm (x : Str)
def Evt.w : Evt → W
  | .pl p => .tup [.str "place", .int (p : Int)]
  | .lo p => .tup [.str "lost", .int (p : Int)]
  | .tw p => .tup [.str "twice", .int (p : Int)]
  | .as p q => .tup [.str "as", .int (p : Int), .int (q : Int)]
  | .nm x => .tup [.str "name", .str x]
def Evt.ok (xs : List Str) : Evt → Prop
  | .pl p => p < xs.length
  | .lo p => p < xs.length
  | .tw p => p < xs.length
  | .as p q => p < xs.length ∧ q < xs.length ∧ p ≠ q
  | .nm x => x ∈ xs
section
variable {st : Stt}
@[simp] theorem kd1 : fEq st (.str "place") (.str "as") = some (.bl false) := by rw [fEq_str _ _ (by decide +kernel) (by decide +kernel)]; rfl
@[simp] theorem kd2 : fEq st (.str "lost") (.str "as") = some (.bl false) := by rw [fEq_str _ _ (by decide +kernel) (by decide +kernel)]; rfl
@[simp] theorem kd3 : fEq st (.str "twice") (.str "as") = some (.bl false) := by rw [fEq_str _ _ (by decide +kernel) (by decide +kernel)]; rfl
@[simp] theorem kd4 : fEq st (.str "as") (.str "as") = some (.bl true) := by rw [fEq_str _ _ (by decide +kernel) (by decide +kernel)]; rfl
@[simp] theorem kd5 : fEq st (.str "name") (.str "as") = some (.bl false) := by rw [fEq_str _ _ (by decide +kernel) (by decide +kernel)]; rfl
@[simp] theorem kd6 : fEq st (.str "place") (.str "name") = some (.bl false) := by rw [fEq_str _ _ (by decide +kernel) (by decide +kernel)]; rfl
@[simp] theorem kd7 : fEq st (.str "lost") (.str "name") = some (.bl false) := by rw [fEq_str _ _ (by decide +kernel) (by decide +kernel)]; rfl
@[simp] theorem kd8 : fEq st (.str "twice") (.str "name") = some (.bl false) := by rw [fEq_str _ _ (by decide +kernel) (by decide +kernel)]; rfl
@[simp] theorem kd9 : fEq st (.str "as") (.str "name") = some (.bl false) := by rw [fEq_str _ _ (by decide +kernel) (by decide +kernel)]; rfl
@[simp] theorem kd10 : fEq st (.str "name") (.str "name") = some (.bl true) := by rw [fEq_str _ _ (by decide +kernel) (by decide +kernel)]; rfl
@[simp] theorem kd11 : fEq st (.str "place") (.str "lost") = some (.bl false) := by rw [fEq_str _ _ (by decide +kernel) (by decide +kernel)]; rfl
@[simp] theorem kd12 : fEq st (.str "lost") (.str "lost") = some (.bl true) := by rw [fEq_str _ _ (by decide +kernel) (by decide +kernel)]; rfl
@[simp] theorem kd13 : fEq st (.str "twice") (.str "lost") = some (.bl false) := by rw [fEq_str _ _ (by decide +kernel) (by decide +kernel)]; rfl
@[simp] theorem kd14 : fEq st (.str "as") (.str "lost") = some (.bl false) := by rw [fEq_str _ _ (by decide +kernel) (by decide +kernel)]; rfl
@[simp] theorem kd15 : fEq st (.str "place") (.str "twice") = some (.bl false) := by rw [fEq_str _ _ (by decide +kernel) (by decide +kernel)]; rfl
@[simp] theorem kd16 : fEq st (.str "twice") (.str "twice") = some (.bl true) := by rw [fEq_str _ _ (by decide +kernel) (by decide +kernel)]; rfl
@[simp] theorem kd17 : fEq st (.str "as") (.str "twice") = some (.bl false) := by rw [fEq_str _ _ (by decide +kernel) (by decide +kernel)]; rfl
@[simp] theorem in23a : fIn true st (.int 2) (.tup [.int 2, .int 3]) = some (.bl false) := rfl
@[simp] theorem in23b : fIn true st (.int 3) (.tup [.int 2, .int 3]) = some (.bl false) := rfl
@[simp] theorem inpl : fIn false st (.str "place") (.tup [.str "place", .str "lost", .str "twice"]) = some (.bl true) := rfl
@[simp] theorem inlo : fIn false st (.str "lost") (.tup [.str "place", .str "lost", .str "twice"]) = some (.bl true) := rfl
@[simp] theorem intw : fIn false st (.str "twice") (.tup [.str "place", .str "lost", .str "twice"]) = some (.bl true) := rfl
theorem to_frontW_ok {ws : List W} {p : Nat} (h : p < ws.length) (hl : ws.length ≤ 1000) (hn : nlWs ws = true) : m_to_front [.tup ws, .int (p : Int)] st = .ok (.tup (front ws p)) st := by
  refine frz_pure ?_ (by rw [nlW, nls_all]; exact fun w hw => nls_all.mp hn w ((front_perm ws p).mem_iff.mp hw))
  have h1 : ws[p]? = some ws[p] := List.getElem?_eq_getElem h
  have hs1 : fSl st (.tup ws) none (some (p : Int)) = some (.tup (ws.take p)) := by
    show some (W.tup (cutW ws none (some (p : Int)))) = _
    rw [cut_take]
  have hs2 : fSl st (.tup ws) (some ((p : Int) + 1)) none = some (.tup (ws.drop (p + 1))) := by
    show some (W.tup (cutW ws (some ((p : Int) + 1)) none)) = _
    rw [cut_drop1]
  have l1 : 1 + min p ws.length ≤ 100000 := by omega
  have l2 : 1 + min p ws.length + (ws.length - (p + 1)) ≤ 100000 := by omega
  have l3 : 1 + (p + (ws.length - (p + 1))) ≤ 100000 := by omega
  have l4 : 1 + p ≤ 100000 := by omega
  have l6 : p + 1 + (ws.length - (p + 1)) ≤ 100000 := by omega
  have l5 : min p ws.length = p := by omega
  simp [r_to_front, entry, Sim.atI_nat, h1, hs1, hs2, front, l5, l3, l4, l6]
theorem to_front_ok {xs : List Str} {p : Nat} (h : p < xs.length) (hl : xs.length ≤ 1000) : m_to_front [wS xs, .int (p : Int)] st = .ok (wS (front xs p)) st := by
  have := to_frontW_ok (st := st) (ws := xs.map .str) (p := p) (by simpa using h) (by simpa using hl) (nl_strs xs)
  rw [this, front_map]

def doneE (t h : List Str) : Evt → List Str × List Str × List Str
  | .nm x => (front t (t.idxOf x), front h (h.idxOf x), [x])
  | .lo p => (front t p, h, [])
  | .pl p => (front t p, front h p, (h[p]?).toList)
  | .tw p => (front t p, front (front h p) p, (h[p]?).toList ++ ((front h p)[p]?).toList)
  | .as p q => (front t p, front h q, (h[q]?).toList)
theorem done_ok {t h : List Str} {e : Evt} (b : Both t h) (he : e.ok t) : m_done [wS t, wS h, e.w] st = .ok (.tup [wS (doneE t h e).1, wS (doneE t h e).2.1, wL (doneE t h e).2.2]) st := by
  have hl := b.len
  have ht : t.length ≤ 1000 := by have := b.row.few; omega
  have hh : h.length ≤ 1000 := by omega
  cases e with
  | nm x =>
    refine frz_pure ?_ (by simp [nlW, nlWs, nl_strs])
    have hx : x ∈ t := he
    have hx' : x ∈ h := b.perm.mem_iff.mpr hx
    have i1 := List.idxOf_lt_length_of_mem hx
    have i2 := List.idxOf_lt_length_of_mem hx'
    simp [r_done, entry, Evt.w, idxT_ok x t hx, idxT_ok x h hx', to_front_ok i1 ht, to_front_ok i2 hh, doneE]
  | lo p =>
    refine frz_pure ?_ (by simp [nlW, nlWs, nl_strs, doneE])
    have hp : p < t.length := he
    simp [r_done, entry, Evt.w, to_front_ok hp ht, doneE]
  | pl p =>
    have hp : p < t.length := he
    have hp' : p < h.length := by omega
    refine frz_new (ex := [some (.lst [.str h[p]])]) (w := .tup [wS (front t p), wS (front h p), .loc st.length]) ?_ (by simp [fz_wS, fz_loc0, nlWs, nlW, doneE, hp'])
    simp [r_done, entry, Evt.w, to_front_ok hp ht, to_front_ok hp' hh, Sim.atI_nat, hp']
  | tw p =>
    have hp : p < t.length := he
    have hp' : p < h.length := by omega
    have hp2 : p < (front h p).length := by rw [front_length]; exact hp'
    refine frz_new (ex := [some (.lst [.str h[p], .str (front h p)[p]])]) (w := .tup [wS (front t p), wS (front (front h p) p), .loc st.length]) ?_ (by simp [fz_wS, fz_loc0, nlWs, nlW, doneE, hp', hp2])
    have l2 : (front h p).length ≤ 1000 := by rw [front_length]; exact hh
    simp [r_done, entry, Evt.w, to_front_ok hp ht, to_front_ok hp' hh, Sim.atI_nat, hp', to_front_ok hp2 l2, hp2, lstX, mUp, fAppend]
  | as p q =>
    obtain ⟨hp, hq, hpq⟩ : p < t.length ∧ q < t.length ∧ p ≠ q := he
    have hq' : q < h.length := by omega
    refine frz_new (ex := [some (.lst [.str h[q]])]) (w := .tup [wS (front t p), wS (front h q), .loc st.length]) ?_ (by simp [fz_wS, fz_loc0, nlWs, nlW, doneE, hq'])
    simp [r_done, entry, Evt.w, to_front_ok hp ht, to_front_ok hq' hh, Sim.atI_nat, hq']

theorem Evt.ok_perm {xs ys : List Str} (p : ys.Perm xs) {e : Evt} (h : e.ok xs) : e.ok ys := by
  cases e with
  | nm x => exact p.mem_iff.mpr h
  | _ => simpa [Evt.ok, p.length_eq] using h
theorem done_perm (t h : List Str) (e : Evt) : (doneE t h e).1.Perm t ∧ (doneE t h e).2.1.Perm h := by
  cases e with
  | nm x => exact ⟨front_perm _ _, front_perm _ _⟩
  | lo p => exact ⟨front_perm _ _, .refl _⟩
  | pl p => exact ⟨front_perm _ _, front_perm _ _⟩
  | tw p => exact ⟨front_perm _ _, (front_perm _ _).trans (front_perm _ _)⟩
  | as p q => exact ⟨front_perm _ _, front_perm _ _⟩
theorem done_both {t h : List Str} (b : Both t h) (e : Evt) : Both (doneE t h e).1 (doneE t h e).2.1 :=
  ⟨b.row.perm (done_perm t h e).1, ((done_perm t h e).2.trans b.perm).trans (done_perm t h e).1.symm⟩
theorem done_more (t h : List Str) (e : Evt) : (doneE t h e).2.2.length ≤ 2 := by
  have tl : ∀ o : Option Str, o.toList.length ≤ 1 := fun o => by cases o <;> simp
  cases e with
  | nm x => simp [doneE]
  | lo p => simp [doneE]
  | pl p => have := tl h[p]?; simp only [doneE]; omega
  | tw p => have := tl h[p]?; have := tl (front h p)[p]?; simp only [doneE, List.length_append]; omega
  | as p q => have := tl h[q]?; simp only [doneE]; omega
def goneE : List Str → List Str → List Evt → List Str × List Str × List Str × List Str
  | t, h, [] => (t, h, [], [])
  | t, h, e :: r => ((goneE (doneE t h e).1 (doneE t h e).2.1 r).1, (goneE (doneE t h e).1 (doneE t h e).2.1 r).2.1,
    (doneE t h e).1.head?.toList ++ (goneE (doneE t h e).1 (doneE t h e).2.1 r).2.2.1, (doneE t h e).2.2 ++ (goneE (doneE t h e).1 (doneE t h e).2.1 r).2.2.2)
theorem gone_both {es : List Evt} : ∀ {t h : List Str}, Both t h → Both (goneE t h es).1 (goneE t h es).2.1 := by
  induction es with
  | nil => exact fun b => b
  | cons e r ih => exact fun b => ih (done_both b e)
theorem gone_perm {es : List Evt} : ∀ {t h : List Str}, (goneE t h es).1.Perm t ∧ (goneE t h es).2.1.Perm h := by
  induction es with
  | nil => exact ⟨.refl _, .refl _⟩
  | cons e r ih => exact fun {t h} => ⟨(ih (t := (doneE t h e).1) (h := (doneE t h e).2.1)).1.trans (done_perm t h e).1, (ih (t := (doneE t h e).1) (h := (doneE t h e).2.1)).2.trans (done_perm t h e).2⟩
/-- what events are handed in as -/
structure Evs (st : Stt) (x : W) (ws : List W) : Prop where
  it : itemsOf st x = some ws
  ok : ∀ ex : Stt, okOf x ws (st ++ ex)
  ty : tyW st x = some "list"
theorem Evs.lst {ws : List W} : Evs st (.lst ws) ws := ⟨rfl, fun _ => trivial, rfl⟩
theorem gone_loop {okx : Stt → Prop} {p x : Option W} (hok : ∀ ex : Stt, okx (st ++ ex)) : ∀ (es : List Evt) (t h said wr : List Str) (a m : Option W), Both t h → (∀ e ∈ es, e.ok t) → said.length + es.length ≤ 10000 → wr.length + 2 * es.length ≤ 10000 →
    ∃ a' m', forW okx (gmName 6) (sSeq (sAsg (eCall m_done (aCons (eVar 2) (aCons (eVar 3) (aCons (eVar 6) aNil)))) (gmTup 3 (gmCons 2 (gmCons 3 (gmCons 7 gmNil)))))
    (sSeq (sDrop (eBM (eVar 4) (aCons (eOp fIx (eVar 2) (eC (.int 0))) aNil) (mUp fAppend)))
    (sDrop (eBM (eVar 5) (aCons (eVar 7) aNil) (mUp fExtend))))) (es.map Evt.w) [p, x, some (wS t), some (wS h), some (.loc st.length), some (.loc (st.length + 1)), a, m] (st ++ [some (.lst (said.map .str)), some (.lst (wr.map .str))]) =
    .nx [p, x, some (wS (goneE t h es).1), some (wS (goneE t h es).2.1), some (.loc st.length), some (.loc (st.length + 1)), a', m'] (st ++ [some (.lst ((said ++ (goneE t h es).2.2.1).map .str)), some (.lst ((wr ++ (goneE t h es).2.2.2).map .str))])
  | [], t, h, said, wr, a, m, _, _, _, _ => ⟨a, m, by rw [List.map_nil, forW_nil (hok _)]; simp [goneE]⟩
  | e :: r, t, h, said, wr, a, m, b, he, l1, l2 => by
    have b2 := done_both b e
    have hd := done_ok (st := st ++ [some (.lst (said.map .str)), some (.lst (wr.map .str))]) b (he e List.mem_cons_self)
    have hm := done_more t h e
    obtain ⟨c, rr, hc⟩ := row_head b2.row.pos
    have l3 : said.length < 100000 := by simp at l1; omega
    have l4 : wr.length + (doneE t h e).2.2.length ≤ 100000 := by simp at l2; omega
    obtain ⟨a2, m2, ih⟩ := gone_loop (p := p) (x := x) hok r (doneE t h e).1 (doneE t h e).2.1 (said ++ [c]) (wr ++ (doneE t h e).2.2) (some e.w) (some (wL (doneE t h e).2.2)) b2
      (fun u hu => Evt.ok_perm (done_perm t h e).1 (he u (List.mem_cons_of_mem _ hu))) (by simp at l1 ⊢; omega) (by simp at l2 ⊢; omega)
    refine ⟨a2, m2, ?_⟩
    have hx : ∀ s : Stt, fIx s (wS (doneE t h e).1) (.int 0) = some (.str c) := fun s => by rw [hc]; simp
    rw [List.map_cons, forW_nx (ρ2 := [p, x, some (wS (doneE t h e).1), some (wS (doneE t h e).2.1), some (.loc st.length), some (.loc (st.length + 1)), some e.w, some (wL (doneE t h e).2.2)]) (st2 := st ++ [some (.lst ((said ++ [c]).map .str)), some (.lst ((wr ++ (doneE t h e).2.2).map .str))]) (hok _) rfl (by simp [hd, hx, lstX, mUp, fAppend, fExtend, l3, l4]), ih]
    simp [goneE, hc]
theorem is_event_ok {t : List Str} {e : Evt} (r : Row t) (he : e.ok t) : m_is_event_of [wS t, .int (t.length : Int), e.w] st = .ok (.bl true) st := by
  refine frz_pure ?_ rfl
  cases e with
  | nm x =>
    have hx : x ∈ t := he
    simp [r_is_event_of, entry, Evt.w, is_letter_ok (r.ltr x hx), in_row, hx]
  | lo p => have hp : p < t.length := he; simp [r_is_event_of, entry, Evt.w, is_place_ok, hp]
  | pl p => have hp : p < t.length := he; simp [r_is_event_of, entry, Evt.w, is_place_ok, hp]
  | tw p => have hp : p < t.length := he; simp [r_is_event_of, entry, Evt.w, is_place_ok, hp]
  | as p q =>
    obtain ⟨hp, hq, hpq⟩ : p < t.length ∧ q < t.length ∧ p ≠ q := he
    have hs : fSl st (.tup [.str "as", .int (p : Int), .int (q : Int)]) (some 1) none = some (.tup [.int (p : Int), .int (q : Int)]) := by
      show some (W.tup (cutW _ (some ((1 : Nat) : Int)) none)) = _
      rw [cut_drop]; rfl
    have hc : ∀ ρ : Ev, 4 = ρ.length → ρ[1]? = some (some (.int (t.length : Int))) → lcW (fun _ => True) (gmName 3) tmYes (eCall m_is_place (aCons (eVar 3) (aCons (eVar 1) aNil))) ρ [.int (p : Int), .int (q : Int)] st = .ok (List.replicate 2 (.bl true)) st := fun ρ hρ h1 => by
      refine lcW_true trivial _ fun w hw => ?_
      simp only [List.mem_cons, List.not_mem_nil, or_false] at hw
      refine ⟨_, rfl, ?_⟩
      have h3 : (ρ.set 3 (some w))[3]? = some (some w) := List.getElem?_set_self (by omega)
      have h4 : (ρ.set 3 (some w))[1]? = some (some (.int (t.length : Int))) := by rw [List.getElem?_set_ne (by decide)]; exact h1
      rcases hw with rfl | rfl
      · simp [h3, h1, is_place_ok, hp]
      · simp [h3, h1, is_place_ok, hq]
    have ha : fAll st [W.lst [W.bl true, W.bl true]] = some (.bl true) := fAll_rep 2
    have hne : ((p : Int) != (q : Int)) = true := by simp; omega
    simp [r_is_event_of, entry, Evt.w, hs, hc, ha, hne]
theorem are_events_ok {t h : List Str} {es : List Evt} {x : W} (b : Both t h) (hx : Evs st x (es.map Evt.w)) (he : ∀ e ∈ es, e.ok t) (hl : es.length ≤ 1000) : m_are_events [.tup [wS t, wS h], x] st = .ok (.bl true) st := by
  refine frz_pure ?_ rfl
  have hok : okOf x (es.map Evt.w) st := by simpa using hx.ok []
  have hc : ∀ ρ : Ev, 3 = ρ.length → ρ[0]? = some (some (.tup [wS t, wS h])) → lcW (okOf x (es.map Evt.w)) (gmName 2) tmYes (eCall m_is_event_of (aCons (eOp fIx (eVar 0) (eC (.int 0))) (aCons (eFn fLen (aCons (eOp fIx (eVar 0) (eC (.int 0))) aNil)) (aCons (eVar 2) aNil)))) ρ (es.map Evt.w) st = .ok (List.replicate es.length (.bl true)) st := fun ρ hρ h0 => by
    rw [show es.length = (es.map Evt.w).length by simp]
    refine lcW_true hok _ fun w hw => ?_
    obtain ⟨e, hm, rfl⟩ := List.mem_map.mp hw
    refine ⟨_, rfl, ?_⟩
    have h3 : (ρ.set 2 (some e.w))[2]? = some (some e.w) := List.getElem?_set_self (by omega)
    have h4 : (ρ.set 2 (some e.w))[0]? = some (some (.tup [wS t, wS h])) := by rw [List.getElem?_set_ne (by decide)]; exact h0
    simp [h3, h4, is_event_ok b.row (he e hm)]
  have l2 : es.length ≤ 100000 := by omega
  simp [r_are_events, entry, hx.ty, hx.it, hc, l2]
theorem need_events_ok {t h : List Str} {es : List Evt} {x : W} (b : Both t h) (hx : Evs st x (es.map Evt.w)) (he : ∀ e ∈ es, e.ok t) (hl : es.length ≤ 1000) : m_need_events [.tup [wS t, wS h], x] st = .ok .non st := by
  refine frz_pure ?_ rfl
  simp [r_need_events, entry, are_events_ok b hx he hl]
/-- what go tells -/
def goW (t h : List Str) (es : List Evt) : W := .tup [.tup [wS (goneE t h es).1, wS (goneE t h es).2.1], wL (goneE t h es).2.2.1, wL (goneE t h es).2.2.2]
end
end Lw
end
section
set_option Elab.async false
set_option linter.all false
set_option maxRecDepth 100000
set_option maxHeartbeats 1000000
open PySem PySem.Spec PyProof.Rows L2
namespace Lw
open Sim
/-! repr of nested data: how deep, how long, of sound signs -/
structure Rp (n L : Nat) (d : PyData) : Prop where
  sh : d.showable = true
  dp : d.depth ≤ n
  ln : d.shown.length ≤ L
  ok : PyData.strOk d.shown = true
section
variable {n L n' L' B N : Nat} {d : PyData} {ds : List PyData} {st : Stt}
theorem Rp.mono (r : Rp n L d) (h1 : n ≤ n') (h2 : L ≤ L') : Rp n' L' d := ⟨r.sh, Nat.le_trans r.dp h1, Nat.le_trans r.ln h2, r.ok⟩
theorem sh_all : ∀ {ds : List PyData}, (∀ d ∈ ds, d.showable = true) → PyData.showableAll ds = true
  | [], _ => by simp only [PyData.showableAll]
  | d :: ds, h => by simp only [PyData.showableAll, h d List.mem_cons_self, sh_all fun c hc => h c (List.mem_cons_of_mem _ hc), Bool.and_self]
theorem dp_all : ∀ {ds : List PyData}, (∀ d ∈ ds, d.depth ≤ n) → PyData.depthAll ds ≤ n
  | [], _ => by rw [depthAll_nil]; omega
  | d :: ds, h => by
    have h1 := h d List.mem_cons_self
    have h2 := dp_all fun c hc => h c (List.mem_cons_of_mem _ hc)
    simp only [PyData.depthAll]
    omega
theorem Rp.tup (h : ∀ d ∈ ds, Rp n B d) (hN : ds.length ≤ N) : Rp (n + 1) (N * (B + 2) + 4) (.tuple ds) := by
  refine ⟨by simp only [PyData.showable]; exact sh_all fun d hd => (h d hd).sh, ?_, ?_, shown_tup_ok fun d hd => (h d hd).ok⟩
  · have := dp_all (n := n) fun d hd => (h d hd).dp
    simp only [PyData.depth]
    omega
  · have h1 := shown_tup_le (B := B) fun d hd => (h d hd).ln
    have h2 : ds.length * (B + 2) ≤ N * (B + 2) := Nat.mul_le_mul_right _ hN
    omega
theorem Rp.lst (h : ∀ d ∈ ds, Rp n B d) (hN : ds.length ≤ N) : Rp (n + 1) (N * (B + 2) + 4) (.list ds) := by
  refine ⟨by simp only [PyData.showable]; exact sh_all fun d hd => (h d hd).sh, ?_, ?_, shown_list_ok fun d hd => (h d hd).ok⟩
  · have := dp_all (n := n) fun d hd => (h d hd).dp
    simp only [PyData.depth]
    omega
  · have h1 := shown_list_le (B := B) fun d hd => (h d hd).ln
    have h2 : ds.length * (B + 2) ≤ N * (B + 2) := Nat.mul_le_mul_right _ hN
    omega
theorem Rp.str {x : Str} (h1 : (reprText x).length ≤ L) (h2 : PyData.strOk (reprText x) = true) : Rp 0 L (.str x) :=
  ⟨by simp only [PyData.showable], by simp only [PyData.depth]; omega, by simpa only [PyData.shown] using h1, by simpa only [PyData.shown] using h2⟩
theorem Rp.ltr {x : Str} (h : Ltr x) : Rp 0 10 (.str x) := by
  obtain ⟨c, rfl, h1, h2⟩ := h
  have key : ∀ k : Nat, k < 26 → (reprText ⟨#[97 + k]⟩).length ≤ 10 ∧ PyData.strOk (reprText ⟨#[97 + k]⟩) = true := by decide +kernel
  have := key (c - 97) (by omega)
  rw [show 97 + (c - 97) = c by omega] at this
  exact Rp.str this.1 this.2
theorem Rp.strs {xs : List Str} (h : ∀ x ∈ xs, Ltr x) : ∀ d ∈ xs.map PyData.str, Rp 0 10 d := fun d hd => by
  obtain ⟨x, hx, rfl⟩ := List.mem_map.mp hd
  exact Rp.ltr (h x hx)
theorem Rp.nat {k : Nat} (h : k < 256) : Rp 0 10 (.int (k : Int)) := by
  have key : ∀ k : Nat, k < 256 → (PyData.int (k : Int)).showable = true ∧ (PyData.int (k : Int)).shown.length ≤ 10 ∧ PyData.strOk (PyData.int (k : Int)).shown = true := by decide +kernel
  obtain ⟨a, b, c⟩ := key k h
  exact ⟨a, by simp only [PyData.depth]; omega, b, c⟩
theorem Rp.none : Rp 0 10 .none := ⟨by decide +kernel, by decide +kernel, by decide +kernel, by decide +kernel⟩
theorem Rp.bool {b : Bool} : Rp 0 10 (.bool b) := by cases b <;> exact ⟨by decide +kernel, by decide +kernel, by decide +kernel, by decide +kernel⟩
theorem Rp.row {xs : List Str} (h : Row xs) : Rp 1 200 (.tuple (xs.map .str)) :=
  (Rp.tup (Rp.strs h.ltr) (by rw [List.length_map]; exact h.few)).mono (by omega) (by omega)
theorem Rp.fn {w : W} (r : Rp n L d) (h : toD st w = some d) (hd : isDisp d = true) (hn : n ≤ 64) (hL : L ≤ 1000000) : fRepr st [w] = some (.str d.shown) :=
  f_repr h hd r.sh (Nat.le_trans r.dp hn) (Nat.le_trans r.ln hL)
theorem Rp.ne (r : Rp n L d) : fNe st (.str d.shown) (.str d.shown) = some (.bl false) := fNe_same (by rw [datW]; exact r.ok)
theorem Rp.eq (r : Rp n L d) : fEq st (.str d.shown) (.str d.shown) = some (.bl true) := fEq_same (by rw [datW]; exact r.ok)
/-! the data behind values -/
theorem toDs_str {st : Stt} : ∀ xs : List Str, toDs st (xs.map .str) = some (xs.map PyData.str)
  | [] => by rw [List.map_nil, toDs]; rfl
  | a :: r => by rw [List.map_cons, toDs, toD, toDs_str r]; rfl
theorem toD0s_str : ∀ xs : List Str, toD0s (xs.map .str) = some (xs.map PyData.str)
  | [] => by rw [List.map_nil, toD0s]; rfl
  | a :: r => by rw [List.map_cons, toD0s, toD0, toD0s_str r]; rfl
theorem toD_wS (xs : List Str) : toD st (wS xs) = some (.tuple (xs.map .str)) := by rw [toD, toDs_str]; rfl
theorem toD_wL (xs : List Str) : toD st (wL xs) = some (.list (xs.map .str)) := by rw [toD, toDs_str]; rfl
theorem toD_locS {k : Nat} {xs : List Str} (h : st[k]? = some (some (.lst (xs.map .str)))) : toD st (.loc k) = some (.list (xs.map .str)) := by
  rw [toD, h]; dsimp only; rw [toD0s_str]; rfl
theorem toDs_nil : toDs st [] = some [] := by rw [toDs]
theorem toDs_cons {w : W} {ws : List W} {d : PyData} {ds : List PyData} (h1 : toD st w = some d) (h2 : toDs st ws = some ds) : toDs st (w :: ws) = some (d :: ds) := by rw [toDs, h1, h2]
theorem toD_tup {ws : List W} {ds : List PyData} (h : toDs st ws = some ds) : toD st (.tup ws) = some (.tuple ds) := by rw [toD, h]; rfl
theorem toD_lst {ws : List W} {ds : List PyData} (h : toDs st ws = some ds) : toD st (.lst ws) = some (.list ds) := by rw [toD, h]; rfl
theorem toDs_map {α : Type} (f : α → W) (g : α → PyData) : ∀ {as : List α}, (∀ a ∈ as, toD st (f a) = some (g a)) → toDs st (as.map f) = some (as.map g)
  | [], _ => toDs_nil
  | a :: r, h => toDs_cons (h a List.mem_cons_self) (toDs_map f g fun b hb => h b (List.mem_cons_of_mem _ hb))
/-- == of what has the same data -/
theorem fEq_dat {x y : W} {d : PyData} (h1 : toD st x = some d) (h2 : toD st y = some d) (h3 : d.canLay0 = true) (h4 : d.depth ≤ 64) (h5 : PyData.eqv d d = true) : fEq st x y = some (.bl true) := by
  unfold fEq
  rw [h1, h2]
  dsimp only
  rw [if_pos ⟨shaped_of h3 h4, shaped_of h3 h4⟩, h5]
theorem fNe_dat {x y : W} {d : PyData} (h1 : toD st x = some d) (h2 : toD st y = some d) (h3 : d.canLay0 = true) (h4 : d.depth ≤ 64) (h5 : PyData.eqv d d = true) : fNe st x y = some (.bl false) := by
  unfold fNe
  rw [h1, h2]
  dsimp only
  rw [if_pos ⟨shaped_of h3 h4, shaped_of h3 h4⟩, h5]
  rfl
theorem fNe_as {x y : W} (h : datW 64 y = true) (e : toD st x = toD st y) : fNe st x y = some (.bl false) := by
  obtain ⟨d, h1, _, h3, h4, h5⟩ := dat_toD 64 y h
  exact fNe_dat (e.trans (h1 st)) (h1 st) h3 h4 h5
theorem fEq_as {x y : W} (h : datW 64 y = true) (e : toD st x = toD st y) : fEq st x y = some (.bl true) := by
  obtain ⟨d, h1, _, h3, h4, h5⟩ := dat_toD 64 y h
  exact fEq_dat (e.trans (h1 st)) (h1 st) h3 h4 h5
end
end Lw
end
section
set_option Elab.async false
set_option linter.all false
set_option maxRecDepth 100000
set_option maxHeartbeats 1000000
open PySem PySem.Spec PyProof.Rows L2
namespace Lw
open Sim
/-! rows: plain laws -/
section
variable {α : Type}
def itF (p : Nat) : Nat → List α → List α
  | 0, xs => xs
  | k + 1, xs => itF p k (front xs p)
theorem itF_add (p : Nat) : ∀ (a b : Nat) (xs : List α), itF p (a + b) xs = itF p b (itF p a xs)
  | 0, b, xs => by rw [Nat.zero_add]; rfl
  | a + 1, b, xs => by rw [show a + 1 + b = (a + b) + 1 by omega]; exact itF_add p a b (front xs p)
theorem itF_length (p : Nat) : ∀ (k : Nat) (xs : List α), (itF p k xs).length = xs.length
  | 0, xs => rfl
  | k + 1, xs => (itF_length p k (front xs p)).trans (front_length xs p)
theorem front_mid (l : List α) (a : α) (zs : List α) : front (l ++ a :: zs) l.length = a :: (l ++ zs) := by
  unfold front
  rw [List.getElem?_append_right (Nat.le_refl _), Nat.sub_self]
  simp
theorem itF_turn (p : Nat) (zs : List α) : ∀ (k : Nat) (l1 l2 : List α), l2.length = k → l1.length + k = p + 1 → itF p k (l1 ++ l2 ++ zs) = l2 ++ l1 ++ zs
  | 0, l1, l2, h, _ => by
    have : l2 = [] := List.eq_nil_of_length_eq_zero h
    subst this
    simp [itF]
  | k + 1, l1, l2, h, hp => by
    obtain ⟨m, a, rfl⟩ : ∃ m a, l2 = m ++ [a] := by
      have hne : l2 ≠ [] := by intro z; rw [z] at h; simp at h
      exact ⟨l2.dropLast, l2.getLast hne, (List.dropLast_concat_getLast hne).symm⟩
    have hm : m.length = k := by simpa using h
    have hl : (l1 ++ m).length = p := by simp; omega
    rw [itF]
    have e : front (l1 ++ (m ++ [a]) ++ zs) p = (a :: l1) ++ m ++ zs := by
      have := front_mid (l1 ++ m) a zs
      rw [hl] at this
      simpa [List.append_assoc] using this
    rw [e, itF_turn p zs k (a :: l1) m hm (by simp; omega)]
    simp
theorem itF_all {p : Nat} {xs : List α} (h : p < xs.length) : itF p (p + 1) xs = xs := by
  have := itF_turn p (xs.drop (p + 1)) (p + 1) [] (xs.take (p + 1)) (by rw [List.length_take]; omega) (by simp)
  simpa using this
theorem itF_all2 {p : Nat} {xs : List α} (h : p < xs.length) : itF p (2 * (p + 1)) xs = xs := by
  rw [show 2 * (p + 1) = (p + 1) + (p + 1) by omega, itF_add, itF_all h, itF_all h]
end
theorem gone_pl (p : Nat) : ∀ (k : Nat) (t h : List Str), (goneE t h (List.replicate k (.pl p))).1 = itF p k t ∧ (goneE t h (List.replicate k (.pl p))).2.1 = itF p k h
  | 0, t, h => ⟨rfl, rfl⟩
  | k + 1, t, h => gone_pl p k (front t p) (front h p)
theorem gone_lo (p : Nat) : ∀ (k : Nat) (t h : List Str), (goneE t h (List.replicate k (.lo p))).1 = itF p k t ∧ (goneE t h (List.replicate k (.lo p))).2.1 = h
  | 0, t, h => ⟨rfl, rfl⟩
  | k + 1, t, h => gone_lo p k (front t p) h
theorem gone_tw (p : Nat) : ∀ (k : Nat) (t h : List Str), (goneE t h (List.replicate k (.tw p))).1 = itF p k t ∧ (goneE t h (List.replicate k (.tw p))).2.1 = itF p (2 * k) h
  | 0, t, h => ⟨rfl, rfl⟩
  | k + 1, t, h => by
    have := gone_tw p k (front t p) (front (front h p) p)
    exact ⟨this.1, by rw [show 2 * (k + 1) = 2 * k + 1 + 1 by omega]; exact this.2⟩
theorem gone_app : ∀ (es fs : List Evt) (t h : List Str), goneE t h (es ++ fs) =
    ((goneE (goneE t h es).1 (goneE t h es).2.1 fs).1, (goneE (goneE t h es).1 (goneE t h es).2.1 fs).2.1, (goneE t h es).2.2.1 ++ (goneE (goneE t h es).1 (goneE t h es).2.1 fs).2.2.1, (goneE t h es).2.2.2 ++ (goneE (goneE t h es).1 (goneE t h es).2.1 fs).2.2.2)
  | [], fs, t, h => by simp [goneE]
  | e :: es, fs, t, h => by
    rw [List.cons_append]
    simp only [goneE]
    rw [gone_app es fs]
    simp [List.append_assoc]
theorem gone_nm : ∀ (ns t h : List Str), (∀ x ∈ ns, x ∈ t) → h.Perm t → (goneE t h (ns.map .nm)).2.2.1 = ns ∧ (goneE t h (ns.map .nm)).2.2.2 = ns
  | [], t, h, _, _ => ⟨rfl, rfl⟩
  | x :: r, t, h, hx, p => by
    have h1 := hx x List.mem_cons_self
    have h2 := p.mem_iff.mpr h1
    have ih := gone_nm r (front t (t.idxOf x)) (front h (h.idxOf x)) (fun y hy => front_mem.mpr (hx y (List.mem_cons_of_mem _ hy))) ((front_perm _ _).trans (p.trans (front_perm _ _).symm))
    rw [List.map_cons]
    simp only [goneE, doneE]
    rw [ih.1, ih.2, front_idx h1]
    exact ⟨rfl, rfl⟩
theorem named_rows : ∀ (ns t h : List Str), (∀ x ∈ ns, x ∈ t) → ns.Nodup → h.Perm t → t.Nodup →
    (goneE t h (ns.map .nm)).1 = ns.reverse ++ t.filter (fun x => !decide (x ∈ ns)) ∧ (goneE t h (ns.map .nm)).2.1 = ns.reverse ++ h.filter (fun x => !decide (x ∈ ns))
  | [], t, h, _, _, _, _ => by constructor <;> (rw [List.filter_eq_self.mpr (fun _ _ => by simp)]; rfl)
  | x :: r, t, h, hx, hn, p, ht => by
    have h1 := hx x List.mem_cons_self
    have h2 := p.mem_iff.mpr h1
    have hh : h.Nodup := p.nodup_iff.mpr ht
    have hxr : x ∉ r := (List.nodup_cons.mp hn).1
    have ih := named_rows r (front t (t.idxOf x)) (front h (h.idxOf x)) (fun y hy => front_mem.mpr (hx y (List.mem_cons_of_mem _ hy))) (List.nodup_cons.mp hn).2 ((front_perm _ _).trans (p.trans (front_perm _ _).symm)) ((front_perm _ _).nodup_iff.mpr ht)
    have key : ∀ s : List Str, s.Nodup → x ∈ s → r.reverse ++ (front s (s.idxOf x)).filter (fun y => !decide (y ∈ r)) = (x :: r).reverse ++ s.filter (fun y => !decide (y ∈ x :: r)) := fun s hs hm => by
      rw [front_idx hm, List.filter_cons, if_pos (by simp [hxr]), hs.erase_eq_filter, List.filter_filter]
      simp only [List.reverse_cons, List.append_assoc, List.singleton_append, List.cons_append, List.nil_append]
      congr 2
      apply List.filter_congr
      intro y _
      by_cases hy : y = x <;> by_cases hr : y ∈ r <;> simp [hy, hr, hxr]
    rw [List.map_cons]
    simp only [goneE, doneE]
    rw [ih.1, ih.2, key t ht h1, key h hh h2]
    exact ⟨rfl, rfl⟩
theorem named_all {ns t h : List Str} (p : ns.Perm t) (q : h.Perm t) (ht : t.Nodup) : (goneE t h (ns.map .nm)).1 = ns.reverse ∧ (goneE t h (ns.map .nm)).2.1 = ns.reverse := by
  have := named_rows ns t h (fun x hx => p.mem_iff.mp hx) (p.nodup_iff.mpr ht) q ht
  rw [this.1, this.2]
  constructor
  · rw [List.filter_eq_nil_iff.mpr fun x hx => by simp [p.mem_iff.mpr hx], List.append_nil]
  · rw [List.filter_eq_nil_iff.mpr fun x hx => by simp [p.mem_iff.mpr (q.mem_iff.mp hx)], List.append_nil]
/-- what is heard right -/
def Evt.right : Evt → Prop
  | .pl _ => True
  | .nm _ => True
  | _ => False
theorem gone_alike : ∀ (es : List Evt) (t : List Str), 1 ≤ t.length → (∀ e ∈ es, e.ok t ∧ e.right) → (goneE t t es).1 = (goneE t t es).2.1 ∧ (goneE t t es).2.2.1 = (goneE t t es).2.2.2
  | [], t, _, _ => ⟨rfl, rfl⟩
  | e :: r, t, hl, h => by
    obtain ⟨ho, hr⟩ := h e List.mem_cons_self
    have e1 : (doneE t t e).1 = (doneE t t e).2.1 := by cases e <;> first | rfl | exact hr.elim
    have e2 : (doneE t t e).1.head?.toList = (doneE t t e).2.2 := by
      cases e with
      | pl p =>
        have hp : p < t.length := ho
        simp [doneE, front, List.getElem?_eq_getElem hp]
      | nm x =>
        have hx : x ∈ t := ho
        simp [doneE, front_idx hx]
      | lo p => exact hr.elim
      | tw p => exact hr.elim
      | as p q => exact hr.elim
    have ih := gone_alike r (doneE t t e).1 (by rw [(done_perm t t e).1.length_eq]; exact hl) fun u hu => ⟨Evt.ok_perm (done_perm t t e).1 (h u (List.mem_cons_of_mem _ hu)).1, (h u (List.mem_cons_of_mem _ hu)).2⟩
    simp only [goneE]
    rw [← e1, e2, ih.1, ih.2]
    exact ⟨rfl, rfl⟩
theorem said_mem : ∀ (es : List Evt) (t h : List Str), ∀ x ∈ (goneE t h es).2.2.1, x ∈ t
  | [], t, h, x, hx => absurd hx List.not_mem_nil
  | e :: r, t, h, x, hx => by
    simp only [goneE] at hx
    rcases List.mem_append.mp hx with z | z
    · have : x ∈ (doneE t h e).1 := by
        rw [Option.mem_toList] at z
        exact List.mem_of_head? z
      exact (done_perm t h e).1.mem_iff.mp this
    · exact (done_perm t h e).1.mem_iff.mp (said_mem r _ _ x z)
theorem said_len : ∀ (es : List Evt) (t h : List Str), (goneE t h es).2.2.1.length ≤ es.length
  | [], t, h => Nat.le_refl _
  | e :: r, t, h => by
    simp only [goneE, List.length_append, List.length_cons]
    have := said_len r (doneE t h e).1 (doneE t h e).2.1
    have : (doneE t h e).1.head?.toList.length ≤ 1 := by cases (doneE t h e).1.head? <;> simp
    omega
end Lw
end
section
set_option Elab.async false
set_option linter.all false
set_option maxRecDepth 100000
set_option maxHeartbeats 1000000
open PySem PySem.Spec PyProof.Rows L2
namespace Lw
open Sim
/-! events: their data, their texts; what is told and written are letters -/
def Evt.d : Evt → PyData
  | .pl p => .tuple [.str "place", .int (p : Int)]
  | .lo p => .tuple [.str "lost", .int (p : Int)]
  | .tw p => .tuple [.str "twice", .int (p : Int)]
  | .as p q => .tuple [.str "as", .int (p : Int), .int (q : Int)]
  | .nm x => .tuple [.str "name", .str x]
theorem toD_evt {st : Stt} (e : Evt) : toD st e.w = some e.d := by
  cases e <;> (simp only [Evt.w, Evt.d, toD, toDs]; rfl)
theorem toDs_evts {st : Stt} (es : List Evt) : toDs st (es.map Evt.w) = some (es.map Evt.d) := toDs_map Evt.w Evt.d fun e _ => toD_evt e
theorem Rp.kinds {x : Str} (h : x ∈ ([("place" : Str), "lost", "twice", "as", "name"] : List Str)) : Rp 0 10 (.str x) := by
  have key : ∀ x ∈ ([("place" : Str), "lost", "twice", "as", "name"] : List Str), (reprText x).length ≤ 10 ∧ PyData.strOk (reprText x) = true := by decide +kernel
  exact Rp.str (key x h).1 (key x h).2
theorem Rp.evt {t : List Str} {e : Evt} (r : Row t) (he : e.ok t) : Rp 1 60 e.d := by
  have few := r.few
  have two : ∀ {a b : PyData}, Rp 0 10 a → Rp 0 10 b → Rp 1 60 (.tuple [a, b]) := fun {a b} h1 h2 =>
    (Rp.tup (N := 3) (B := 10) (n := 0) (fun d hd => by
      simp only [List.mem_cons, List.not_mem_nil, or_false] at hd
      rcases hd with rfl | rfl
      · exact h1
      · exact h2) (by simp)).mono (by omega) (by omega)
  cases e with
  | pl p => have hp : p < t.length := he; exact two (Rp.kinds (by simp)) (Rp.nat (by omega))
  | lo p => have hp : p < t.length := he; exact two (Rp.kinds (by simp)) (Rp.nat (by omega))
  | tw p => have hp : p < t.length := he; exact two (Rp.kinds (by simp)) (Rp.nat (by omega))
  | nm x => exact two (Rp.kinds (by simp)) (Rp.ltr (r.ltr x he))
  | as p q =>
    obtain ⟨hp, hq, _⟩ : p < t.length ∧ q < t.length ∧ p ≠ q := he
    refine (Rp.tup (N := 3) (B := 10) (n := 0) (fun d hd => ?_) (by simp)).mono (by omega) (by omega)
    simp only [List.mem_cons, List.not_mem_nil, or_false] at hd
    rcases hd with rfl | rfl | rfl
    · exact Rp.kinds (by simp)
    · exact Rp.nat (by omega)
    · exact Rp.nat (by omega)
theorem Rp.evts {t : List Str} {es : List Evt} (r : Row t) (he : ∀ e ∈ es, e.ok t) {N : Nat} (hN : es.length ≤ N) : Rp 2 (N * 62 + 4) (.list (es.map Evt.d)) :=
  Rp.lst (fun d hd => by
    obtain ⟨e, hm, rfl⟩ := List.mem_map.mp hd
    exact Rp.evt r (he e hm)) (by rw [List.length_map]; exact hN)
def pairD (t h : List Str) : PyData := .tuple [.tuple (t.map .str), .tuple (h.map .str)]
theorem toD_pair {st : Stt} (t h : List Str) : toD st (.tup [wS t, wS h]) = some (pairD t h) := toD_tup (toDs_cons (toD_wS t) (toDs_cons (toD_wS h) toDs_nil))
theorem Rp.pair {t h : List Str} (b : Row t) (c : Row h) : Rp 2 500 (pairD t h) :=
  (Rp.tup (N := 2) (B := 200) (n := 1) (fun d hd => by
    simp only [List.mem_cons, List.not_mem_nil, or_false] at hd
    rcases hd with rfl | rfl
    · exact Rp.row b
    · exact Rp.row c) (by simp)).mono (by omega) (by omega)
theorem done_read {t h : List Str} {e : Evt} (b : Both t h) (he : e.ok t) : ∀ x ∈ (doneE t h e).2.2, x ∈ t := fun x hx => by
  have opt : ∀ {q : Nat} {ys : List Str}, (∀ y ∈ ys, y ∈ t) → x ∈ (ys[q]?).toList → x ∈ t := fun {q ys} hy hx => by
    rw [Option.mem_toList] at hx
    exact hy x (List.mem_of_getElem? hx)
  have hh : ∀ y ∈ h, y ∈ t := fun y hy => b.perm.mem_iff.mp hy
  have hf : ∀ (q : Nat), ∀ y ∈ front h q, y ∈ t := fun q y hy => hh y (front_mem.mp hy)
  cases e with
  | nm y => simp only [doneE, List.mem_singleton] at hx; rw [hx]; exact he
  | pl p => exact opt hh hx
  | lo p => simp [doneE] at hx
  | tw p =>
    simp only [doneE, List.mem_append] at hx
    rcases hx with hx | hx
    · exact opt hh hx
    · exact opt (hf p) hx
  | as p q => exact opt hh hx
theorem gone_read : ∀ {es : List Evt} {t h : List Str}, Both t h → (∀ e ∈ es, e.ok t) → ∀ x ∈ (goneE t h es).2.2.2, x ∈ t
  | [], t, h, _, _, x, hx => by simp [goneE] at hx
  | e :: r, t, h, b, he, x, hx => by
    simp only [goneE, List.mem_append] at hx
    rcases hx with hx | hx
    · exact done_read b (he e List.mem_cons_self) x hx
    · have := gone_read (es := r) (done_both b e) (fun u hu => Evt.ok_perm (done_perm t h e).1 (he u (List.mem_cons_of_mem _ hu))) x hx
      exact (done_perm t h e).1.mem_iff.mp this
theorem read_len : ∀ (es : List Evt) (t h : List Str), (goneE t h es).2.2.2.length ≤ 2 * es.length
  | [], t, h => by simp [goneE]
  | e :: r, t, h => by
    have := read_len r (doneE t h e).1 (doneE t h e).2.1
    have := done_more t h e
    simp only [goneE, List.length_append, List.length_cons]
    omega
/-- what go tells, as data -/
def goD (t h : List Str) (es : List Evt) : PyData := .tuple [pairD (goneE t h es).1 (goneE t h es).2.1, .list ((goneE t h es).2.2.1.map .str), .list ((goneE t h es).2.2.2.map .str)]
theorem toD_goW {st : Stt} (t h : List Str) (es : List Evt) : toD st (goW t h es) = some (goD t h es) := toD_tup (toDs_cons (toD_pair _ _) (toDs_cons (toD_wL _) (toDs_cons (toD_wL _) toDs_nil)))
theorem Rp.go {t h : List Str} {es : List Evt} (b : Both t h) (he : ∀ e ∈ es, e.ok t) (hl : es.length ≤ 400) : Rp 3 60000 (goD t h es) := by
  have b2 := gone_both (es := es) b
  have m1 := said_mem es t h
  have m2 := gone_read b he
  have l1 := said_len es t h
  have l2 := read_len es t h
  refine (Rp.tup (N := 3) (B := 12000) (n := 2) (fun d hd => ?_) (by simp)).mono (by omega) (by omega)
  simp only [List.mem_cons, List.not_mem_nil, or_false] at hd
  rcases hd with rfl | rfl | rfl
  · exact (Rp.pair b2.row b2.rowH).mono (by omega) (by omega)
  · exact (Rp.lst (N := 800) (Rp.strs fun x hx => b.row.ltr x (m1 x hx)) (by rw [List.length_map]; omega)).mono (by omega) (by omega)
  · exact (Rp.lst (N := 800) (Rp.strs fun x hx => b.row.ltr x (m2 x hx)) (by rw [List.length_map]; omega)).mono (by omega) (by omega)
theorem dat_go {t h : List Str} {es : List Evt} (b : Both t h) (he : ∀ e ∈ es, e.ok t) : datW 64 (goW t h es) = true := by
  have b2 := gone_both (es := es) b
  have m1 := said_mem es t h
  have m2 := gone_read b he
  unfold goW
  rw [datW, datWs, datWs, datWs, datWs, datW, datWs, datWs, datWs, datS (n := 61) b2.row.ltr, datS (n := 61) b2.rowH.ltr, datL (n := 62) fun x hx => b.row.ltr x (m1 x hx), datL (n := 62) fun x hx => b.row.ltr x (m2 x hx)]
  rfl
end Lw
end
section
set_option Elab.async false
set_option linter.all false
set_option maxRecDepth 100000
set_option maxHeartbeats 1000000
open PySem PySem.Spec PyProof.Rows L2
namespace Lw
open Sim
/-! go and gone whose told lists stay to be changed -/
section
variable {st : Stt}
/-- what go tells, its lists new places -/
def goR (n : Nat) (t h : List Str) (es : List Evt) : W := .tup [.tup [wS (goneE t h es).1, wS (goneE t h es).2.1], .loc n, .loc (n + 1)]
/-- the store with these lists -/
def goS (st : Stt) (t h : List Str) (es : List Evt) : Stt := st ++ [some (.lst ((goneE t h es).2.2.1.map .str)), some (.lst ((goneE t h es).2.2.2.map .str))]
theorem goneR_ok {t h : List Str} {es : List Evt} {x : W} (b : Both t h) (hx : Evs st x (es.map Evt.w)) (he : ∀ e ∈ es, e.ok t) (hl : es.length ≤ 1000) :
    m_gone [.tup [wS t, wS h], x] st = .ok (goR st.length t h es) (goS st t h es) := by
  obtain ⟨a, m, hg⟩ := gone_loop (st := st) (p := some (.tup [wS t, wS h])) (x := some x) hx.ok es t h [] [] none none b he (by simp; omega) (by simp; omega)
  have hit : itemsOf (st ++ [some (.lst []), some (.lst [])]) x = some (es.map Evt.w) := by
    have h1 := hx.it
    have h2 := hx.ok [some (.lst []), some (.lst [])]
    cases x with
    | loc n => simp [okOf] at h2; simp [h2]
    | lst ws => exact h1
    | scr ws => exact h1
    | tup ws => exact h1
    | str z => exact h1
    | _ => cases h1
  simp only [List.map_nil, List.nil_append] at hg
  simp [m_gone, entry, hit, hg, goR, goS]
theorem goR_ok {t h : List Str} {es : List Evt} {x : W} (b : Both t h) (hx : Evs st x (es.map Evt.w)) (he : ∀ e ∈ es, e.ok t) (hl : es.length ≤ 1000) : m_go [.tup [wS t, wS h], x] st = .ok (goR st.length t h es) (goS st t h es) := by
  simp [m_go, entry, need_pair_ok b, need_events_ok b hx he hl, goneR_ok b hx he hl]
end
end Lw
end
section
set_option Elab.async false
set_option linter.all false
set_option maxRecDepth 100000
set_option maxHeartbeats 1000000
open PySem PySem.Spec PyProof.Rows L2
namespace Lw
open Sim
theorem okO_spool (n : Nat) (a b c : Int) : okO n (.lst [.int a, .int b, .int c]) = true := by simp [okO, okLs, okL]
theorem wind_ok {st : Stt} {i N : Nat} {n : Int} (hn : 0 < n) (hn2 : n < 2 ^ 62) (h : Sp st i (N + 1)) : ∃ v st', m__law_wind [.loc i, .int n] st = .ok (.int v) st' ∧ 0 ≤ v ∧ v < n ∧ Dr st st' i N := by
  have hi := h.lt
  obtain ⟨a, b, c, hs, ha, hb, hb2, hc, hcN⟩ := h
  have key : ∃ (v : Int) (ob : List W), r__law_wind [.loc i, .int n] st = .ok (.int v) (st.set i (some (.lst ob))) ∧ 0 ≤ v ∧ v < n ∧ Sp (st.set i (some (.lst ob))) i N := by
    by_cases h0 : 0 < a
    · refine ⟨a % n, [.int (a / n), .int b, .int c], ?_, Int.emod_nonneg _ (by omega), Int.emod_lt_of_pos _ hn, a / n, b, c, List.getElem?_set_self hi, Int.ediv_nonneg ha (by omega), hb, hb2, hc, by omega⟩
      have e1 := f_mod (st := st) a n hn
      have e2 := f_div (st := st) a n hn hn2
      simp [r__law_wind, entry, hs, h0, e1, e2, setW, ixN]
    · have hc1 : 0 ≤ c + 1 := by omega
      have q1 : (67867967 : Int).natAbs < 2 ^ 1000 := small (by decide) (by decide)
      have q2 : (179424673 : Int).natAbs < 2 ^ 1000 := small (by decide) (by decide)
      have q3 : (c + 1).natAbs < 2 ^ 1000 := small (by omega) (by omega)
      have q4 : (b + 67867967 * (c + 1)).natAbs < 2 ^ 1000 := small (by omega) (by omega)
      have q10 : (10 : Int).natAbs < 2 ^ 1000 := small (by decide) (by decide)
      generalize hm1 : (b + 67867967 * (c + 1)) ^ 3 % ((10 : Int) ^ 38 + 133) = x1
      have x1a : 0 ≤ x1 := by rw [← hm1]; exact Int.emod_nonneg _ (by decide)
      have x1b : x1 < 10 ^ 38 + 133 := by rw [← hm1]; exact Int.emod_lt_of_pos _ (by decide)
      have q5 : (x1 + 179424673 * (c + 1)).natAbs < 2 ^ 1000 := small (by omega) (by omega)
      generalize hm2 : (x1 + 179424673 * (c + 1)) ^ 3 % ((10 : Int) ^ 35 + 69) = x2
      refine ⟨x2 / 131071 % n, [.int a, .int b, .int (c + 1)], ?_, Int.emod_nonneg _ (by omega), Int.emod_lt_of_pos _ hn, a, b, c + 1, List.getElem?_set_self hi, ha, hb, hb2, by omega, by omega⟩
      have p38 := fun s => f_pow (st := s) 10 38 q10 (by decide) (by decide)
      have p35 := fun s => f_pow (st := s) 10 35 q10 (by decide) (by decide)
      have m1 := fun s => f_mul (st := s) 67867967 (c + 1) q1 q3
      have m2 := fun s => f_mul (st := s) 179424673 (c + 1) q2 q3
      have w1 := fun s => f_pow (st := s) (b + 67867967 * (c + 1)) 3 q4 (by decide) (by decide)
      have w2 := fun s => f_pow (st := s) (x1 + 179424673 * (c + 1)) 3 q5 (by decide) (by decide)
      have d1 := fun s x => f_mod (st := s) x (10 ^ 38 + 133) (by decide)
      have d2 := fun s x => f_mod (st := s) x (10 ^ 35 + 69) (by decide)
      have d3 := fun s => f_mod (st := s) (x2 / 131071) n hn
      have d4 := fun s => f_div (st := s) x2 131071 (by decide) (by decide)
      have hg : (st.set i (some (.lst [.int a, .int b, .int (c + 1)])))[i]? = some (some (.lst [.int a, .int b, .int (c + 1)])) := List.getElem?_set_self hi
      have k38 : (38 : Int).toNat = 38 := rfl
      have k35 : (35 : Int).toNat = 35 := rfl
      have k3 : (3 : Int).toNat = 3 := rfl
      rw [k38] at p38
      rw [k35] at p35
      rw [k3] at w1 w2
      simp [r__law_wind, entry, hs, h0, setW, ixN, hg, m1, m2, w1, p38, p35, d1, d2, hm1, w2, hm2, d3, d4, -Int.reducePow, -Int.reduceAdd]
  obtain ⟨v, ob, h1, h2, h3, h4⟩ := key
  obtain ⟨st', h5, h6⟩ := frz_dr (st := st) h1 (w' := .int v) (by rw [fzW]) (fun j _ hj => List.getElem?_set_ne (fun z => hj z.symm)) h4 (by simp) hi
  exact ⟨v, st', h5, h2, h3, h6⟩

theorem abc_len : (Str.ofString "abcdefghijklmnopqrstuvwxyz").length = 26 := by decide +kernel
abbrev abcS : List Str := (List.range 26).map fun k => ⟨#[97 + k]⟩
theorem list_abc {st : Stt} : fList st [.str (Str.ofString "abcdefghijklmnopqrstuvwxyz")] = some (abcS.map .str) := by
  show (if (Str.ofString "abcdefghijklmnopqrstuvwxyz").length ≤ 100000 then some ((Str.ofString "abcdefghijklmnopqrstuvwxyz").cps.toList.map fun c => W.str ⟨#[c]⟩) else none) = _
  rw [if_pos (by rw [abc_len]; decide), abc_eq, List.map_map, List.map_map]
  rfl
theorem list_cut {st : Stt} {n : Nat} (h : n ≤ 26) : fList st [.str (cutS (Str.ofString "abcdefghijklmnopqrstuvwxyz") none (some (n : Int)))] = some ((abcS.take n).map .str) := by
  have hc : (cutS (Str.ofString "abcdefghijklmnopqrstuvwxyz") none (some (n : Int))).cps.toList = ((List.range 26).map (97 + ·)).take n := by
    unfold cutS
    rw [HT.sIx_none, sIx_n, List.drop_zero, Nat.sub_zero, abc_len, Nat.min_eq_left h, abc_eq]
  have hl : (cutS (Str.ofString "abcdefghijklmnopqrstuvwxyz") none (some (n : Int))).length ≤ 100000 := by
    have : (cutS (Str.ofString "abcdefghijklmnopqrstuvwxyz") none (some (n : Int))).length = (cutS (Str.ofString "abcdefghijklmnopqrstuvwxyz") none (some (n : Int))).cps.toList.length := by
      rw [Array.length_toList]; rfl
    rw [this, hc]
    simp
    omega
  show (if _ ≤ 100000 then some (_ : List W) else none) = _
  rw [if_pos hl, hc, List.map_take, List.map_take, List.map_map, List.map_map]
  rfl
theorem abc_ltr : ∀ x ∈ abcS, Ltr x := fun x hx => by
  obtain ⟨k, hk, rfl⟩ := List.mem_map.mp hx
  exact ⟨97 + k, rfl, by omega, by have := List.mem_range.mp hk; omega⟩
theorem abc_nd : abcS.Nodup := by decide +kernel
/-- what is drawn from: a list, a row, the letters -/
structure Ths (st : Stt) (x : W) (ws : List W) : Prop where
  it : fList st [x] = some ws
  ln : lenOf st x = some ws.length
  lw : ∀ ex : Stt, lenOf (st ++ ex) x = some ws.length
theorem Ths.tup {st : Stt} {ws : List W} : Ths st (.tup ws) ws := ⟨rfl, rfl, fun _ => rfl⟩
theorem Ths.lst {st : Stt} {ws : List W} : Ths st (.lst ws) ws := ⟨rfl, rfl, fun _ => rfl⟩
theorem Ths.abc {st : Stt} : Ths st (.str (Str.ofString "abcdefghijklmnopqrstuvwxyz")) (abcS.map .str) := ⟨list_abc, by rw [Sim.len_str, abc_len]; rfl, fun _ => by rw [Sim.len_str, abc_len]; rfl⟩
theorem mixed_ok {st : Stt} {i N : Nat} {x : W} {ws : List W} (hx : Ths st x ws) (hl : ws.length ≤ 1000) (hnl : nlWs ws = true) (h : Sp st i (N + ws.length)) :
    ∃ ys st', m__law_mixed [.loc i, x] st = .ok (.tup ys) st' ∧ ys.Perm ws ∧ Dr st st' i N := by
  have hi := h.lt
  let I : List W → Stt → Prop := fun acc s => s.length = st.length + 1 ∧ (∀ j, j < st.length → j ≠ i → s[j]? = st[j]?) ∧ ∃ rest, s[st.length]? = some (some (.lst rest)) ∧ (acc ++ rest).Perm ws ∧ Sp s i (N + rest.length)
  have hI0 : I [] (st ++ [some (.lst ws)]) := by
    refine ⟨by simp, fun j hj _ => List.getElem?_append_left hj, ws, List.getElem?_concat_length, .refl _, ?_⟩
    exact h.cong (List.getElem?_append_left hi) (by omega)
  obtain ⟨ys, st2, e1, e2, l2, f2, rest, r2, p2, s2⟩ := lcW_inv2 (ρ := [some (.loc i), some x, some (.loc st.length), none]) (ok := fun _ => True) (g := gmName 3) (m := eBM (eVar 2) (aCons (eCall m__law_wind (aCons (eVar 0) (aCons (eFn fLen (aCons (eVar 2) aNil)) aNil))) aNil) (mUp fPopAt))
    I ws.length (rngW 0 ws.length) [] (st ++ [some (.lst ws)]) (by simp [rngW]) hI0 (fun w acc s hacc _ hI => by
      obtain ⟨ls, fr, rest, hr, pr, sp⟩ := hI
      have pl := pr.length_eq
      rw [List.length_append] at pl
      have hr0 : 0 < rest.length := by omega
      have hrl : rest.length ≤ 1000 := by omega
      obtain ⟨v, s', w1, w2, w3, w4⟩ := wind_ok (st := s) (i := i) (N := N + (rest.length - 1)) (n := (rest.length : Int)) (by omega) (by omega) (by rw [show N + (rest.length - 1) + 1 = N + rest.length by omega]; exact sp)
      have hne : st.length ≠ i := by omega
      have hr' : s'[st.length]? = some (some (.lst rest)) := by rw [w4.fr _ hne]; exact hr
      have hvl : v.toNat < rest.length := by omega
      have hp := popAt_ok (us := rest) (v := v) (st := s') w2 w3 (by omega)
      refine ⟨_, rfl, rest[v.toNat], s'.set st.length (some (.lst (rest.eraseIdx v.toNat))), ?_, ?_⟩
      · simp [hr, w1, lstX, mUp, hr', hp]
      · refine ⟨by rw [List.length_set, w4.len]; exact ls, fun j hj hji => ?_, rest.eraseIdx v.toNat, List.getElem?_set_self (by rw [w4.len, ls]; omega), ?_, ?_⟩
        · rw [List.getElem?_set_ne (by omega), w4.fr j hji]; exact fr j hj hji
        · rw [List.append_assoc]
          exact ((eraseIdx_perm hvl).append_left acc).trans pr
        · rw [List.length_eraseIdx_of_lt hvl]
          exact w4.sp.cong (List.getElem?_set_ne (by omega)) (by omega)) (fun _ _ _ => trivial)
  rw [List.nil_append] at p2
  have hyl : ys.length = ws.length := by rw [e2]; simp [rngW]
  have hrn : rest = [] := by
    have := p2.length_eq
    rw [List.length_append] at this
    exact List.eq_nil_of_length_eq_zero (by omega)
  subst hrn
  rw [List.append_nil] at p2
  have hraw : r__law_mixed [.loc i, x] st = .ok (.tup ys) st2 := by
    have g1 : ∀ s, rng1W [.int (ws.length : Int)] s = .ok ⟨rngW 0 ws.length, fun _ => True⟩ s := fun s => rng1_nat (by omega)
    have g2 : ws.length ≤ 100000 := by omega
    have hw := hx.lw [some (.lst ws)]
    simp [r__law_mixed, entry, hx.it, hw, g1, g2, e1, fTuple]
  obtain ⟨st', h5, h6⟩ := frz_dr (st := st) hraw (w' := .tup ys) (nl_fz _ _ _ (by rw [nlW, nls_all]; exact fun w hw => nls_all.mp hnl w (p2.mem_iff.mp hw))) f2 (N := N) s2 (by omega) hi
  exact ⟨ys, st', h5, p2, h6⟩
theorem perm_strs {ys : List W} {xs : List Str} (h : ys.Perm (xs.map .str)) : ∃ zs : List Str, ys = zs.map .str ∧ zs.Perm xs := by
  have : ∀ w ∈ ys, ∃ z : Str, w = .str z := fun w hw => by
    obtain ⟨z, _, e⟩ := List.mem_map.mp (h.mem_iff.mp hw)
    exact ⟨z, e.symm⟩
  obtain ⟨zs, rfl⟩ : ∃ zs : List Str, ys = zs.map .str := by
    clear h
    induction ys with
    | nil => exact ⟨[], rfl⟩
    | cons w r ih =>
      obtain ⟨z, rfl⟩ := this w List.mem_cons_self
      obtain ⟨zs, rfl⟩ := ih fun u hu => this u (List.mem_cons_of_mem _ hu)
      exact ⟨z :: zs, rfl⟩
  refine ⟨zs, rfl, ?_⟩
  have g := h.filterMap (fun w : W => match w with | .str z => some z | _ => none)
  simpa [List.filterMap_map, Function.comp_def] using g
theorem mixedS_ok {st : Stt} {i N : Nat} {x : W} {xs : List Str} (hx : Ths st x (xs.map .str)) (hl : xs.length ≤ 1000) (h : Sp st i (N + xs.length)) :
    ∃ ys st', m__law_mixed [.loc i, x] st = .ok (wS ys) st' ∧ ys.Perm xs ∧ Dr st st' i N := by
  obtain ⟨ys, st', h1, h2, h3⟩ := mixed_ok (N := N) hx (by simpa using hl) (nl_strs xs) (by simpa using h)
  obtain ⟨zs, rfl, h4⟩ := perm_strs h2
  exact ⟨zs, st', h1, h4, h3⟩

theorem sub_of_abc {xs : List Str} (n : Nat) (h : xs.Perm abcS) (h1 : 1 ≤ n) (h2 : n ≤ 16) : Row (xs.take n) ∧ (xs.take n).length = n := by
  have hl : xs.length = 26 := by rw [h.length_eq]; rfl
  have hn : (xs.take n).length = n := by rw [List.length_take]; omega
  exact ⟨⟨by omega, by omega, fun x hx => abc_ltr x (h.mem_iff.mp (List.mem_of_mem_take hx)), (h.nodup_iff.mpr abc_nd).sublist (List.take_sublist _ _)⟩, hn⟩
theorem letters_ok {st : Stt} {i N : Nat} {most : Nat} (h1 : 1 ≤ most) (h2 : most ≤ 16) (h : Sp st i (N + 28)) :
    ∃ xs st', m__law_letters [.loc i, .int (most : Int)] st = .ok (wL xs) st' ∧ Row xs ∧ xs.length ≤ most ∧ Dr st st' i N := by
  have hi := h.lt
  obtain ⟨v, st1, a1, a2, a3, a4⟩ := wind_ok (N := N + 27) (n := (most : Int)) (by omega) (by omega) (h.le (by omega))
  obtain ⟨u, st2, b1, b2, b3, b4⟩ := wind_ok (N := N + 26) (n := (2 : Int)) (by omega) (by omega) (a4.sp.le (by omega))
  obtain ⟨m, rfl⟩ : ∃ m : Nat, v = m := ⟨v.toNat, by omega⟩
  have hm : 1 + m ≤ 16 := by omega
  have he : (1 + (m : Int)) = ((1 + m : Nat) : Int) := by omega
  have key : ∃ xs st3, r__law_letters [.loc i, .int (most : Int)] st = .ok (wL xs) st3 ∧ Row xs ∧ xs.length ≤ most ∧ Dr st st3 i N := by
    have ab := a4.trans b4
    by_cases hu : u = 0
    · obtain ⟨q1, q2⟩ := sub_of_abc (1 + m) (.refl abcS) (by omega) hm
      refine ⟨abcS.take (1 + m), st2, ?_, q1, by omega, ⟨ab.len, ab.fr, ab.sp.le (by omega)⟩⟩
      obtain ⟨z, hz, hc⟩ : ∃ z, (∀ s : Stt, fSl s (.str (Str.ofString "abcdefghijklmnopqrstuvwxyz")) none (some (1 + (m : Int))) = some (.str z)) ∧ ∀ s, fList s [.str z] = some ((abcS.take (1 + m)).map .str) := by
        refine ⟨_, fun s => ?_, fun s => list_cut (st := s) (n := 1 + m) (by omega)⟩
        rw [he]
        unfold fSl
        dsimp only
        rw [if_pos (by rw [abc_len]; decide)]
      simp [r__law_letters, entry, a1, b1, hu, hz, hc]
    · obtain ⟨ys, st3, c1, c2, c3⟩ := mixedS_ok (st := st2) (N := N) (x := .str (Str.ofString "abcdefghijklmnopqrstuvwxyz")) (xs := abcS) Ths.abc (by decide) (b4.sp.le (by show N + 26 ≤ N + 26; omega))
      obtain ⟨q1, q2⟩ := sub_of_abc (1 + m) c2 (by omega) hm
      refine ⟨ys.take (1 + m), st3, ?_, q1, by omega, ab.trans c3⟩
      have hz : ∀ s : Stt, fSl s (wS ys) none (some (1 + (m : Int))) = some (wS (ys.take (1 + m))) := fun s => by
        show some (W.tup (cutW _ none (some (1 + (m : Int))))) = _
        rw [he, cut_take, ← List.map_take]
      have hf : ∀ s, fList s [wS (ys.take (1 + m))] = some ((ys.take (1 + m)).map .str) := fun s => rfl
      simp [r__law_letters, entry, a1, b1, hu, hz, hf, c1]
  obtain ⟨xs, st3, k1, k2, k3, k4⟩ := key
  obtain ⟨st', h5, h6⟩ := frz_dr (st := st) k1 (w' := wL xs) (fz_wL _ _) (fun j _ hj => k4.fr j hj) k4.sp (by rw [k4.len]; omega) hi
  exact ⟨xs, st', h5, k2, k3, h6⟩
theorem insert_ok {us : List W} {y : W} {st : Stt} (hl : us.length < 100000) : fInsert us [.int 0, y] st = some (.non, y :: us) := by
  unfold fInsert
  dsimp only
  rw [if_pos ⟨by decide, by decide, hl⟩]
  rfl
theorem two_loop {st : Stt} {i N : Nat} {ρ1 ρ2 ρ3 ρ5 : Option W} {n : Nat} (hi : i < st.length) : ∀ (ws : List W) (ks : List W) (s : Stt) (ρ5 : Option W), ws.length = n → 0 < n → n ≤ 1000 → s.length = st.length + 1 → (∀ j, j < st.length → j ≠ i → s[j]? = st[j]?) → s[st.length]? = some (some (.lst ws)) → Sp s i (N + ks.length) →
    ∃ (ws' : List W) (s' : Stt) (ρ5' : Option W), forW (fun _ => True) (gmName 5) (sDrop (eBM (eVar 4) (aCons (eC (.int 0)) (aCons (eBM (eVar 4) (aCons (eCall m__law_wind (aCons (eVar 0) (aCons (eFn fLen (aCons (eVar 4) aNil)) aNil))) aNil) (mUp fPopAt)) aNil)) (mUp fInsert))) ks [some (.loc i), ρ1, ρ2, ρ3, some (.loc st.length), ρ5] s = .nx [some (.loc i), ρ1, ρ2, ρ3, some (.loc st.length), ρ5'] s' ∧
      ws'.Perm ws ∧ s'.length = st.length + 1 ∧ (∀ j, j < st.length → j ≠ i → s'[j]? = st[j]?) ∧ s'[st.length]? = some (some (.lst ws')) ∧ Sp s' i N := by
  intro ws ks
  induction ks generalizing ws with
  | nil => exact fun s ρ5 hn h0 hl ls fr hg sp => ⟨ws, s, ρ5, forW_nil trivial, .refl _, ls, fr, hg, sp⟩
  | cons k ks ih =>
    intro s ρ5 hn h0 hl ls fr hg sp
    obtain ⟨v, s1, w1, w2, w3, w4⟩ := wind_ok (st := s) (i := i) (N := N + ks.length) (n := (n : Int)) (by omega) (by omega) (sp.le (by simp; omega))
    have hne : st.length ≠ i := by omega
    have hg1 : s1[st.length]? = some (some (.lst ws)) := by rw [w4.fr _ hne]; exact hg
    have hvl : v.toNat < ws.length := by omega
    have hp := popAt_ok (us := ws) (v := v) (st := s1) w2 (by omega) (by omega)
    have hls : st.length < s1.length := by rw [w4.len]; omega
    have hg2 : (s1.set st.length (some (.lst (ws.eraseIdx v.toNat))))[st.length]? = some (some (.lst (ws.eraseIdx v.toNat))) := List.getElem?_set_self hls
    have hin := insert_ok (us := ws.eraseIdx v.toNat) (y := ws[v.toNat]) (st := s1.set st.length (some (.lst (ws.eraseIdx v.toNat)))) (by rw [List.length_eraseIdx_of_lt hvl]; omega)
    have hpm := eraseIdx_perm hvl
    obtain ⟨ws', s', ρ5', e1, e2, e3, e4, e5, e6⟩ := ih (ws[v.toNat] :: ws.eraseIdx v.toNat) (s1.set st.length (some (.lst (ws[v.toNat] :: ws.eraseIdx v.toNat)))) (some k) (by rw [hpm.length_eq]; exact hn) h0 hl (by rw [List.length_set, w4.len]; exact ls)
      (fun j hj hji => by rw [List.getElem?_set_ne (by omega), w4.fr j hji]; exact fr j hj hji) (List.getElem?_set_self hls) (w4.sp.cong (List.getElem?_set_ne (by omega)) (by omega))
    refine ⟨ws', s', ρ5', ?_, e2.trans hpm, e3, e4, e5, e6⟩
    rw [forW_nx trivial rfl (by simp [lstX, hg, hn, w1, mUp, hg1, hp, hg2, hin, List.set_set]; exact ⟨rfl, rfl⟩)]
    exact e1
theorem two_ok {st : Stt} {i N : Nat} {most : Nat} (h1 : 1 ≤ most) (h2 : most ≤ 16) (h : Sp st i (N + 80)) :
    ∃ t u st', m__law_two [.loc i, .int (most : Int)] st = .ok (.tup [wS t, wS u]) st' ∧ Both t u ∧ Dr st st' i N := by
  have hi := h.lt
  obtain ⟨xs, st1, a1, a2, a3, a4⟩ := letters_ok (N := N + 52) h1 h2 (h.le (by omega))
  have hx16 : xs.length ≤ 16 := a2.few
  obtain ⟨t, st2, b1, b2, b3⟩ := mixedS_ok (st := st1) (N := N + 36) (x := wL xs) (xs := xs) Ths.lst (by omega) (a4.sp.le (by omega))
  have rt : Row t := a2.perm b2
  have t16 := rt.few
  have t1 := rt.pos
  obtain ⟨v, st3, c1, c2, c3, c4⟩ := wind_ok (N := N + 35) (n := (3 : Int)) (by omega) (by omega) (b3.sp.le (by omega))
  have abc := (a4.trans b3).trans c4
  have key : ∃ t u w st4, r__law_two [.loc i, .int (most : Int)] st = .ok w st4 ∧ fzW st.length st4 w = some (.tup [wS t, wS u]) ∧ Both t u ∧ st.length ≤ st4.length ∧ (∀ j, j < st.length → j ≠ i → st4[j]? = st[j]?) ∧ Sp st4 i N := by
    by_cases hv : v = 0
    · obtain ⟨u, st4, d1, d2, d3⟩ := mixedS_ok (st := st3) (N := N + 19) (x := wS t) (xs := t) Ths.tup (by omega) (c4.sp.le (by omega))
      have all := abc.trans d3
      refine ⟨t, u, .tup [wS t, wS u], st4, ?_, nl_fz _ _ _ (by simp [nlW, nlWs, nl_strs]), ⟨rt, d2⟩, by rw [all.len]; omega, fun j _ hj => all.fr j hj, all.sp.le (by omega)⟩
      simp [r__law_two, entry, a1, b1, c1, hv, d1]
    · obtain ⟨u, st4, d1, d2, d3, d4⟩ := wind_ok (N := N + 34) (n := (3 : Int)) (st := st3 ++ [some (.lst (t.map .str))]) (i := i) (by omega) (by omega) (c4.sp.cong (List.getElem?_append_left (by rw [abc.len]; exact hi)) (by omega))
      have hvu : (v * u).toNat ≤ 4 := by
        have q1 : v ≤ 2 := by omega
        have q2 : u ≤ 2 := by omega
        have := Int.mul_le_mul q1 q2 d2 (by decide)
        omega
      have h0 : 0 ≤ v * u := Int.mul_nonneg c2 d2
      have hlen : st.length = st3.length := abc.len.symm
      obtain ⟨ws', s', ρ5', e1, e2, e3, e4, e5, e6⟩ := two_loop (st := st3) (N := N) (i := i) (n := t.length) (ρ1 := some (.int (most : Int))) (ρ2 := some (wS t)) (ρ3 := some (.int v)) (ρ5 := none) (by rw [abc.len]; exact hi) (t.map .str) (rngW 0 (v * u).toNat) st4 none (by simp) (by omega) (by omega)
        (by rw [d4.len]; simp) (fun j hj hji => by rw [d4.fr j hji, List.getElem?_append_left hj]) (by rw [d4.fr _ (by rw [abc.len]; omega)]; exact List.getElem?_concat_length) (d4.sp.le (by simp; omega))
      obtain ⟨zs, rfl, hz⟩ := perm_strs e2
      refine ⟨t, zs, .tup [wS t, wS zs], s', ?_, nl_fz _ _ _ (by simp [nlW, nlWs, nl_strs]), ⟨rt, hz⟩, by omega, fun j hj hji => by rw [e4 j (by omega) hji]; exact abc.fr j hji, e6⟩
      have hv' : (v == 0) = false := by simp [hv]
      have m1 := fun s => f_mul (st := s) v u (small c2 (by omega)) (small d2 (by omega))
      have r1 := fun s => rng1_ok (st := s) (j := v * u) (by omega) (by omega)
      have f1 : ∀ s, fList s [wS t] = some (t.map .str) := fun s => rfl
      simp [r__law_two, entry, a1, b1, c1, hv, f1, d1, m1, r1, e1, fTuple, e5]
  obtain ⟨t, u, w, st4, k1, k2, k3, k4, k5, k6⟩ := key
  obtain ⟨st', h5, h6⟩ := frz_dr (st := st) k1 k2 k5 k6 k4 hi
  exact ⟨t, u, st', h5, k3, h6⟩
end Lw
end
section
set_option Elab.async false
set_option linter.all false
set_option maxRecDepth 100000
set_option maxHeartbeats 1000000
open PySem PySem.Spec PyProof.Rows L2
namespace Lw
open Sim
section
variable {st : Stt}
@[simp] theorem kn1 : fNe st (.str "place") (.str "as") = some (.bl true) := by rw [fNe_str _ _ (by decide +kernel) (by decide +kernel)]; rfl
@[simp] theorem kn2 : fNe st (.str "lost") (.str "as") = some (.bl true) := by rw [fNe_str _ _ (by decide +kernel) (by decide +kernel)]; rfl
@[simp] theorem kn3 : fNe st (.str "twice") (.str "as") = some (.bl true) := by rw [fNe_str _ _ (by decide +kernel) (by decide +kernel)]; rfl
@[simp] theorem kn4 : fNe st (.str "as") (.str "as") = some (.bl false) := by rw [fNe_str _ _ (by decide +kernel) (by decide +kernel)]; rfl
end
def Evt.kind : Evt → Str
  | .pl _ => "place"
  | .lo _ => "lost"
  | .tw _ => "twice"
  | .as _ _ => "as"
  | .nm _ => "name"
def kinds5 : List Str := ["place", "lost", "twice", "as", "name"]
theorem event_ok {st : Stt} {i N : Nat} {row ks : List Str} (r : Row row) (hk : ∀ k ∈ ks, k ∈ kinds5) (hk1 : 1 ≤ ks.length) (hk2 : ks.length ≤ 100) (h : Sp st i (N + 5)) :
    ∃ e st', m__law_event [.loc i, wS row, wL ks] st = .ok (Evt.w e) st' ∧ e.ok row ∧ (e.kind ∈ ks ∨ (e = .pl 0 ∧ (Str.ofString "as") ∈ ks)) ∧ Dr st st' i N := by
  have hi := h.lt
  have n1 := r.pos
  have n2 := r.few
  obtain ⟨v, st1, a1, a2, a3, a4⟩ := wind_ok (N := N + 4) (n := (ks.length : Int)) (by omega) (by omega) (h.le (by omega))
  obtain ⟨u1, st2, b1, b2, b3, b4⟩ := wind_ok (N := N + 3) (n := (row.length : Int)) (by omega) (by omega) (a4.sp.le (by omega))
  obtain ⟨u2, st3, c1, c2, c3, c4⟩ := wind_ok (N := N + 2) (n := (3 : Int)) (by omega) (by omega) (b4.sp.le (by omega))
  obtain ⟨u3, st4, d1, d2, d3, d4⟩ := wind_ok (N := N + 1) (n := (3 : Int)) (by omega) (by omega) (c4.sp.le (by omega))
  have fr := ((a4.trans b4).trans c4).trans d4
  obtain ⟨k, hkk, hkm⟩ : ∃ k, (∀ s, fIx s (wL ks) (.int v) = some (.str k)) ∧ k ∈ ks := by
    have hv : v.toNat < ks.length := by omega
    refine ⟨ks[v.toNat], fun s => ?_, List.getElem_mem hv⟩
    show atI (ks.map W.str) v = _
    rw [atI_pos _ _ a2, get_map hv]
  obtain ⟨p, hp, hpl⟩ : ∃ p : Nat, (∀ s, fIx s (.lst [.int u1, .int (min ((row.length : Int) - 1) u2), .int ((row.length : Int) - 1)]) (.int u3) = some (.int (p : Int))) ∧ p < row.length := by
    have : u3 = 0 ∨ u3 = 1 ∨ u3 = 2 := by omega
    rcases this with rfl | rfl | rfl
    · exact ⟨u1.toNat, fun s => by simp; omega, by omega⟩
    · exact ⟨(min ((row.length : Int) - 1) u2).toNat, fun s => by simp; omega, by omega⟩
    · exact ⟨row.length - 1, fun s => by simp; omega, by omega⟩
  have hgp : ∀ s, fIx s (wS row) (.int (p : Int)) = some (.str row[p]) := fun s => by
    show atI (row.map W.str) (p : Int) = _
    rw [Sim.atI_nat, get_map hpl]
  have key : ∃ e st5, r__law_event [.loc i, wS row, wL ks] st = .ok (Evt.w e) st5 ∧ e.ok row ∧ (e.kind ∈ ks ∨ (e = .pl 0 ∧ (Str.ofString "as") ∈ ks)) ∧ Dr st st5 i N := by
    have h5 := hk k hkm
    simp only [kinds5, List.mem_cons, List.not_mem_nil, or_false] at h5
    have frN : Dr st st4 i N := ⟨fr.len, fr.fr, fr.sp.le (by omega)⟩
    rcases h5 with rfl | rfl | rfl | rfl | rfl
    · exact ⟨.pl p, st4, by simp [r__law_event, entry, a1, b1, c1, d1, hkk, hp, Evt.w], hpl, .inl hkm, frN⟩
    · exact ⟨.lo p, st4, by simp [r__law_event, entry, a1, b1, c1, d1, hkk, hp, Evt.w], hpl, .inl hkm, frN⟩
    · exact ⟨.tw p, st4, by simp [r__law_event, entry, a1, b1, c1, d1, hkk, hp, Evt.w], hpl, .inl hkm, frN⟩
    · by_cases h1 : row.length = 1
      · have h1' : ((row.length : Int) == 1) = true := by simp; omega
        exact ⟨.pl 0, st4, by simp [r__law_event, entry, a1, b1, c1, d1, hkk, hp, Evt.w, h1'], by show 0 < _; omega, .inr ⟨rfl, hkm⟩, frN⟩
      · obtain ⟨u4, st5, e1, e2, e3, e4⟩ := wind_ok (N := N) (n := (row.length : Int) - 1) (by omega) (by omega) (fr.sp.le (by omega))
        have hq0 : 0 ≤ ((p : Int) + 1 + u4) % (row.length : Int) := Int.emod_nonneg _ (by omega)
        have hq1 : ((p : Int) + 1 + u4) % (row.length : Int) < row.length := Int.emod_lt_of_pos _ (by omega)
        have hqn : ((p : Int) + 1 + u4) % (row.length : Int) ≠ p := by
          by_cases hlt : (p : Int) + 1 + u4 < row.length
          · rw [Int.emod_eq_of_lt (by omega) hlt]; omega
          · have : ((p : Int) + 1 + u4) % (row.length : Int) = (p : Int) + 1 + u4 - row.length := by
              rw [← Int.sub_emod_right, Int.emod_eq_of_lt (by omega) (by omega)]
            omega
        obtain ⟨q, hq⟩ : ∃ q : Nat, ((p : Int) + 1 + u4) % (row.length : Int) = (q : Int) := ⟨(((p : Int) + 1 + u4) % (row.length : Int)).toNat, by omega⟩
        have hm := fun s x => f_mod (st := s) x (row.length : Int) (by omega)
        refine ⟨.as p q, st5, ?_, ⟨hpl, by omega, by omega⟩, .inl hkm, fr.trans e4⟩
        have h1' : ((row.length : Int) == 1) = false := by simp; omega
        simp [r__law_event, entry, a1, b1, c1, d1, hkk, hp, h1', e1, hm, hq, Evt.w]
    · exact ⟨.nm row[p], st4, by simp [r__law_event, entry, a1, b1, c1, d1, hkk, hp, hgp, Evt.w], List.getElem_mem hpl, .inl hkm, frN⟩
  obtain ⟨e, st5, k1, k2, k3, k4⟩ := key
  obtain ⟨st', h5, h6⟩ := frz_dr (st := st) k1 (w' := e.w) (nl_fz _ _ _ (by cases e <;> simp [Evt.w, nlW, nlWs])) (fun j _ hj => k4.fr j hj) k4.sp (by rw [k4.len]; omega) hi
  exact ⟨e, st', h5, k2, k3, h6⟩
theorem evs_of {ys : List W} {P : Evt → Prop} (h : ∀ y ∈ ys, ∃ e : Evt, y = e.w ∧ P e) : ∃ es : List Evt, ys = es.map Evt.w ∧ ∀ e ∈ es, P e := by
  induction ys with
  | nil => exact ⟨[], rfl, fun e he => absurd he List.not_mem_nil⟩
  | cons y r ih =>
    obtain ⟨e, rfl, he⟩ := h y List.mem_cons_self
    obtain ⟨es, rfl, hes⟩ := ih fun u hu => h u (List.mem_cons_of_mem _ hu)
    exact ⟨e :: es, rfl, fun u hu => (List.mem_cons.mp hu).elim (fun z => z ▸ he) (hes u)⟩
theorem events_ok {st : Stt} {i N : Nat} {most : Nat} {row ks : List Str} (r : Row row) (hk : ∀ k ∈ ks, k ∈ kinds5) (hk1 : 1 ≤ ks.length) (hk2 : ks.length ≤ 100) (hm : most ≤ 1000) (h : Sp st i (N + 5 * most + 1)) :
    ∃ (es : List Evt) (st' : Stt), m__law_events [.loc i, wS row, .int (most : Int), wL ks] st = .ok (.lst (es.map Evt.w)) st' ∧ es.length ≤ most ∧ (∀ e ∈ es, e.ok row ∧ (e.kind ∈ ks ∨ (e = .pl 0 ∧ (Str.ofString "as") ∈ ks))) ∧ Dr st st' i N := by
  have hi := h.lt
  obtain ⟨v, st1, a1, a2, a3, a4⟩ := wind_ok (N := N + 5 * most) (n := (most : Int) + 1) (by omega) (by omega) (h.le (by omega))
  let P : Evt → Prop := fun e => e.ok row ∧ (e.kind ∈ ks ∨ (e = .pl 0 ∧ (Str.ofString "as") ∈ ks))
  let I : List W → Stt → Prop := fun acc s => (∀ y ∈ acc, ∃ e : Evt, y = e.w ∧ P e) ∧ Dr st s i (N + 5 * (v.toNat - acc.length))
  obtain ⟨ys, st2, e1, e2, e3, e4⟩ := lcW_inv2 (ρ := [some (.loc i), some (wS row), some (.int (most : Int)), some (wL ks), none]) (ok := fun _ => True) (g := gmName 4) (m := eCall m__law_event (aCons (eVar 0) (aCons (eVar 1) (aCons (eVar 3) aNil)))) I v.toNat (rngW 0 v.toNat) [] st1 (by simp [rngW])
    ⟨fun y hy => absurd hy List.not_mem_nil, a4.len, a4.fr, a4.sp.le (by simp; omega)⟩ (fun w acc s hacc _ hI => by
      obtain ⟨q1, q2⟩ := hI
      obtain ⟨e, s', k1, k2, k3, k4⟩ := event_ok (N := N + 5 * (v.toNat - (acc.length + 1))) r hk hk1 hk2 (q2.sp.le (by omega))
      refine ⟨_, rfl, e.w, s', by simp [k1], fun y hy => ?_, ?_⟩
      · rcases List.mem_append.mp hy with z | z
        · exact q1 y z
        · exact ⟨e, List.mem_singleton.mp z, k2, k3⟩
      · rw [List.length_append, List.length_singleton]
        exact q2.trans k4) (fun _ _ _ => trivial)
  rw [List.nil_append] at e3 e4
  obtain ⟨es, rfl, hes⟩ := evs_of e3
  have hel : es.length = v.toNat := by simpa [rngW] using e2
  have hraw : r__law_events [.loc i, wS row, .int (most : Int), wL ks] st = .ok (.lst (es.map Evt.w)) st2 := by
    have r1 := fun s => rng1_ok (st := s) (j := v) (by omega) (by omega)
    have l1 : v.toNat ≤ 100000 := by omega
    simp [r__law_events, entry, a1, r1, l1, e1]
  obtain ⟨st', h5, h6⟩ := frz_dr (st := st) hraw (w' := .lst (es.map Evt.w)) (nl_fz _ _ _ (by
    rw [nlW, nls_all]
    intro w hw
    obtain ⟨e, _, rfl⟩ := List.mem_map.mp hw
    cases e <;> simp [Evt.w, nlW, nlWs])) (fun j _ hj => e4.fr j hj) (N := N) (e4.sp.le (by omega)) (by rw [e4.len]; omega) hi
  exact ⟨es, st', h5, by omega, hes, h6⟩
end Lw
end
section
set_option Elab.async false
set_option linter.all false
set_option maxRecDepth 100000
set_option maxHeartbeats 2000000
open PySem PySem.Spec PyProof.Rows L2
namespace Lw
open Sim
/-! _law_front and _law_led of k01 -/
theorem front_erase {α : Type} {xs : List α} {p : Nat} (h : p < xs.length) : front xs p = xs[p] :: xs.eraseIdx p := by
  unfold front
  rw [List.getElem?_eq_getElem h, List.eraseIdx_eq_take_drop_succ]
theorem pop_at {s : Stt} {A p : Nat} {us : List W} (hA : s[A]? = some (some (.lst us))) (hp : p < us.length) (hl : us.length ≤ 1000) : mUp fPopAt (.loc A) [.int (p : Int)] s = .ok us[p] (s.set A (some (.lst (us.eraseIdx p)))) := by
  obtain ⟨v, hv⟩ : ∃ v : Int, v = (p : Int) := ⟨_, rfl⟩
  rw [← hv]
  have h1 := popAt_ok (us := us) (v := v) (st := s) (by omega) (by omega) (by omega)
  have e : v.toNat = p := by omega
  simp only [e] at h1
  unfold mUp
  dsimp only
  rw [hA]
  dsimp only
  rw [h1]
theorem app_okL {s : Stt} {A : Nat} {ws : List W} {w : W} (h : s[A]? = some (some (.lst ws))) (hl : ws.length < 100000) : mUp fAppend (.loc A) [w] s = .ok .non (s.set A (some (.lst (ws ++ [w])))) := by
  simp [mUp, fAppend, lstX, h, hl]
theorem lfrontL_ok {s : Stt} {A p : Nat} {xs : List Str} (hA : s[A]? = some (some (.lst (xs.map .str)))) (hp : p < xs.length) (hl : xs.length ≤ 1000) : m__law_front [.loc A, .int (p : Int)] s = .ok (.str xs[p]) (s.set A (some (.lst ((front xs p).map .str)))) := by
  have hlt : A < s.length := (List.getElem?_eq_some_iff.mp hA).1
  have lx : lstX s (.loc A) = some (xs.map .str) := by simp [lstX, hA]
  have pp := pop_at hA (p := p) (by simpa using hp) (by simpa using hl)
  have e0 : (xs.map W.str)[p]'(by simpa using hp) = .str xs[p] := by rw [List.getElem_map]
  rw [e0] at pp
  have e1 : (front xs p).map W.str = .str xs[p] :: (xs.map W.str).eraseIdx p := by
    rw [front_erase hp, List.map_cons, List.eraseIdx_eq_take_drop_succ, List.eraseIdx_eq_take_drop_succ, List.map_append, List.map_take, List.map_drop]
  have hB : (s.set A (some (Ob.lst ((xs.map W.str).eraseIdx p))))[A]? = some (some (.lst ((xs.map W.str).eraseIdx p))) := List.getElem?_set_self hlt
  have ins : mUp fInsert (.loc A) [.int 0, .str xs[p]] (s.set A (some (.lst ((xs.map W.str).eraseIdx p)))) = .ok .non (s.set A (some (.lst ((front xs p).map .str)))) := by
    have hln : ((xs.map W.str).eraseIdx p).length < 100000 := by rw [List.length_eraseIdx]; simp; split <;> omega
    have := insert_ok (st := s.set A (some (.lst ((xs.map W.str).eraseIdx p)))) (y := .str xs[p]) hln
    unfold mUp
    dsimp only
    rw [hB]
    dsimp only
    rw [this]
    dsimp only
    rw [List.set_set, e1]
  have ix : fIx (s.set A (some (.lst ((front xs p).map .str)))) (.loc A) (.int 0) = some (.str xs[p]) := by
    rw [ix_loc', sq_loc, List.getElem?_set_self hlt, e1]
    dsimp only
    simp
  have lB : lstX (s.set A (some (.lst ((xs.map W.str).eraseIdx p)))) (.loc A) = some ((xs.map W.str).eraseIdx p) := by simp only [lstX, hB]
  have raw : r__law_front [.loc A, .int (p : Int)] s = .ok (.str xs[p]) (s.set A (some (.lst ((front xs p).map .str)))) := by
    unfold r__law_front
    simp only [ev_fun, entry, List.length_cons, List.length_nil, List.map_cons, List.map_nil, List.replicate, List.cons_append, List.nil_append, ev_seq, ev_drop, ev_bm, ev_var, List.getElem?_cons_zero, List.getElem?_cons_succ, bmK_ok, lx, lB, bmW_some, ev_cons, ev_c, consK_ok, ev_nil, consK2_ok, bmK2_ok, pp, ins, dropK_ok, seqK_nx, ev_ret, ev_op, opK_ok, opK2_ok, ix, optR_some, retK_ok, funK_rt]
  have := frz_eq (w' := .str xs[p]) raw (fun j hj => ?_) (by rw [fzW])
  · show frz r__law_front _ _ = _
    rw [this, List.take_of_length_le (by rw [List.length_set]; exact Nat.le_refl _)]
  · by_cases e : j = A
    · subst e
      exact .inr ⟨_, List.getElem?_set_self hlt, by unfold okO; exact nls_ok _ _ (nl_strs _)⟩
    · exact .inl (List.getElem?_set_ne (fun z => e z.symm))
/-- four lists behind a store -/
def st4 (st : Stt) (a b c d : List Str) : Stt := st ++ [some (.lst (a.map .str)), some (.lst (b.map .str)), some (.lst (c.map .str)), some (.lst (d.map .str))]
section
variable {st : Stt} {a b c d x : List Str}
theorem st4_len : (st4 st a b c d).length = st.length + 4 := by simp [st4]
theorem st4_0 : (st4 st a b c d)[st.length]? = some (some (.lst (a.map .str))) := by simp [st4]
theorem st4_1 : (st4 st a b c d)[st.length + 1]? = some (some (.lst (b.map .str))) := by simp [st4]
theorem st4_2 : (st4 st a b c d)[st.length + 2]? = some (some (.lst (c.map .str))) := by simp [st4]
theorem st4_3 : (st4 st a b c d)[st.length + 3]? = some (some (.lst (d.map .str))) := by simp [st4]
theorem st4_s0 : (st4 st a b c d).set st.length (some (.lst (x.map .str))) = st4 st x b c d := by simp [st4]
theorem st4_s1 : (st4 st a b c d).set (st.length + 1) (some (.lst (x.map .str))) = st4 st a x c d := by simp [st4]
theorem st4_s2 : (st4 st a b c d).set (st.length + 2) (some (.lst (x.map .str))) = st4 st a b x d := by simp [st4]
theorem st4_s3 : (st4 st a b c d).set (st.length + 3) (some (.lst (x.map .str))) = st4 st a b c x := by simp [st4]
end
/-- a place read so often -/
def readE (h : List Str) (q : Nat) : Nat → List Str × List Str
  | 0 => (h, [])
  | k + 1 => ((readE (front h q) q k).1, (h[q]?).toList ++ (readE (front h q) q k).2)
noncomputable abbrev ldT : SM := sDrop (eBM (eVar 5) (aCons (eCall m__law_front (aCons (eVar 3) (aCons (eVar 8) aNil))) aNil) (mUp fAppend))
section
variable {st : Stt}
theorem ld_turns {q : Nat} {a c : List Str} {x0 x1 x2 x4 x6 x7 : Option W} : ∀ (ks : List W) (h wr : List Str) (x9 : Option W), q < h.length → h.length ≤ 1000 → wr.length + ks.length ≤ 5000 → ∃ x9', forW (fun _ => True) (gmName 9) ldT ks [x0, x1, x2, some (.loc (st.length + 1)), x4, some (.loc (st.length + 3)), x6, x7, some (.int (q : Int)), x9] (st4 st a h c wr) =
    .nx [x0, x1, x2, some (.loc (st.length + 1)), x4, some (.loc (st.length + 3)), x6, x7, some (.int (q : Int)), x9'] (st4 st a (readE h q ks.length).1 c (wr ++ (readE h q ks.length).2))
  | [], h, wr, x9, _, _, _ => ⟨x9, by rw [forW_nil trivial]; simp [readE]⟩
  | k :: ks, h, wr, x9, hq, hl, hw => by
    have hf := lfrontL_ok (s := st4 st a h c wr) (A := st.length + 1) st4_1 hq hl
    rw [st4_s1] at hf
    have lx : lstX (st4 st a h c wr) (.loc (st.length + 3)) = some (wr.map .str) := by simp only [lstX, st4_3]
    have ap : mUp fAppend (.loc (st.length + 3)) [.str h[q]] (st4 st a (front h q) c wr) = .ok .non (st4 st a (front h q) c (wr ++ [h[q]])) := by
      have h1 : wr.length < 100000 := by simp at hw; omega
      have := app_okL (s := st4 st a (front h q) c wr) (A := st.length + 3) (w := .str h[q]) st4_3 (by simpa using h1)
      rw [this, show wr.map W.str ++ [W.str h[q]] = (wr ++ [h[q]]).map .str by simp, st4_s3]
    have hlen : (front h q).length = h.length := (front_perm h q).length_eq
    obtain ⟨x9', ih⟩ := ld_turns (q := q) (a := a) (c := c) (x0 := x0) (x1 := x1) (x2 := x2) (x4 := x4) (x6 := x6) (x7 := x7) ks (front h q) (wr ++ [h[q]]) (some k) (by omega) (by omega) (by simp at hw ⊢; omega)
    refine ⟨x9', ?_⟩
    rw [forW_nx (ρ2 := [x0, x1, x2, some (.loc (st.length + 1)), x4, some (.loc (st.length + 3)), x6, x7, some (.int (q : Int)), some k]) (st2 := st4 st a (front h q) c (wr ++ [h[q]])) trivial rfl ?_, ih]
    · simp only [List.length_cons, readE, List.getElem?_eq_getElem hq, Option.toList_some, List.append_assoc]
    · simp only [ldT, List.set_cons_succ, List.set_cons_zero, ev_drop, ev_bm, ev_var, List.getElem?_cons_zero, List.getElem?_cons_succ, bmK_ok, lx, bmW_some, ev_cons, ev_call, consK_ok, ev_nil, consK2_ok, callK_ok, hf, bmK2_ok, ap, dropK_ok]
noncomputable abbrev ldR : SM := (sSeq (sDrop (eBM (eVar 4) (aCons (eCall m__law_front (aCons (eVar 2) (aCons (eVar 7) aNil))) aNil) (mUp fAppend)))
    (sFor (iRange1 (aCons (eDget2 (eDic (((eC (.str "lost")), (eC (.int 0))) :: (((eC (.str "twice")), (eC (.int 2))) :: []))) (eOp fIx (eVar 6) (eC (.int 0))) (eC (.int 1))) aNil)) (gmName 9) ldT))
noncomputable abbrev ldB : SM := (sSeq (sPar 7 8 (eOp fIx (eVar 6) (eC (.int 1))) (eOp fIx (eVar 6) (eNeg (eC (.int 1)))))
    (sSeq (sIf (tmV (eOp fEq (eOp fIx (eVar 6) (eC (.int 0))) (eC (.str "name")))) (sPar 7 8 (eBM (eVar 2) (aCons (eOp fIx (eVar 6) (eC (.int 1))) aNil) mIdxL) (eBM (eVar 3) (aCons (eOp fIx (eVar 6) (eC (.int 1))) aNil) mIdxL)) sNext) ldR))
/-- how often a kind is read -/
def oftenE : Evt → Nat
  | .lo _ => 0
  | .tw _ => 2
  | _ => 1
theorem often_ok {s : Stt} {e : Evt} {ρ : Ev} (h6 : ρ[6]? = some (some e.w)) : eDget2 (eDic (((eC (.str "lost")), (eC (.int 0))) :: (((eC (.str "twice")), (eC (.int 2))) :: []))) (eOp fIx (eVar 6) (eC (.int 0))) (eC (.int 1)) ρ s = .ok (.int (oftenE e : Nat)) s := by
  cases e <;> simp [h6, Evt.w, oftenE] <;> rfl
theorem ldR_ok {t h said wr : List Str} {p q : Nat} {e : Evt} {x0 x1 x9 : Option W} (hp : p < t.length) (hq : q < h.length) (ht : t.length ≤ 1000) (hh : h.length ≤ 1000) (h1 : said.length ≤ 5000) (h2 : wr.length + 2 ≤ 5000) : ∃ x9', ldR [x0, x1, some (.loc st.length), some (.loc (st.length + 1)), some (.loc (st.length + 2)), some (.loc (st.length + 3)), some e.w, some (.int (p : Int)), some (.int (q : Int)), x9] (st4 st t h said wr) =
    .nx [x0, x1, some (.loc st.length), some (.loc (st.length + 1)), some (.loc (st.length + 2)), some (.loc (st.length + 3)), some e.w, some (.int (p : Int)), some (.int (q : Int)), x9'] (st4 st (front t p) (readE h q (oftenE e)).1 (said ++ [t[p]]) (wr ++ (readE h q (oftenE e)).2)) := by
  have hf := lfrontL_ok (s := st4 st t h said wr) (A := st.length) st4_0 hp ht
  rw [st4_s0] at hf
  have lx : lstX (st4 st t h said wr) (.loc (st.length + 2)) = some (said.map .str) := by simp only [lstX, st4_2]
  have ap : mUp fAppend (.loc (st.length + 2)) [.str t[p]] (st4 st (front t p) h said wr) = .ok .non (st4 st (front t p) h (said ++ [t[p]]) wr) := by
    have := app_okL (s := st4 st (front t p) h said wr) (A := st.length + 2) (w := .str t[p]) st4_2 (by simp; omega)
    rw [this, show said.map W.str ++ [W.str t[p]] = (said ++ [t[p]]).map .str by simp, st4_s2]
  have o2 : oftenE e ≤ 2 := by cases e <;> simp [oftenE]
  have hr : rng1W [.int (oftenE e : Nat)] (st4 st (front t p) h (said ++ [t[p]]) wr) = .ok ⟨rngW 0 (oftenE e), fun _ => True⟩ (st4 st (front t p) h (said ++ [t[p]]) wr) := rng1_nat (by omega)
  have hw : (rngW 0 (oftenE e)).length = oftenE e := by simp
  obtain ⟨x9', e9⟩ := ld_turns (st := st) (q := q) (a := front t p) (c := said ++ [t[p]]) (x0 := x0) (x1 := x1) (x2 := some (.loc st.length)) (x4 := some (.loc (st.length + 2))) (x6 := some e.w) (x7 := some (.int (p : Int))) (rngW 0 (oftenE e)) h wr x9 hq hh (by omega)
  rw [hw] at e9
  refine ⟨x9', ?_⟩
  unfold ldR
  rw [ev_seq]
  simp only [ev_drop, ev_bm, ev_var, List.getElem?_cons_zero, List.getElem?_cons_succ, bmK_ok, lx, bmW_some, ev_cons, ev_call, consK_ok, ev_nil, consK2_ok, callK_ok, hf, bmK2_ok, ap, dropK_ok, seqK_nx]
  rw [ev_for, ev_rng1, ev_cons, often_ok (e := e) rfl]
  simp only [consK_ok, ev_nil, consK2_ok, rng1K_ok, hr, forK_ok]
  exact e9
end
end Lw
end
section
set_option Elab.async false
set_option linter.all false
set_option maxRecDepth 100000
set_option maxHeartbeats 4000000
open PySem PySem.Spec PyProof.Rows L2
namespace Lw
open Sim
section
variable {st : Stt}
theorem front_head {xs : List Str} {p : Nat} (h : p < xs.length) : (front xs p).head? = some xs[p] := by
  rw [front_erase h]; rfl
theorem read_done {t h : List Str} {e : Evt} (b : Both t h) (he : e.ok t) : ∃ p q : Nat, ∃ _ : p < t.length, ∃ _ : q < h.length, front t p = (doneE t h e).1 ∧ readE h q (oftenE e) = (doneE t h e).2 ∧
    (match e with | .nm x => p = t.idxOf x ∧ q = h.idxOf x | .as p' q' => p = p' ∧ q = q' | .pl p' => p = p' ∧ q = p' | .lo p' => p = p' ∧ q = p' | .tw p' => p = p' ∧ q = p') := by
  have hl := b.len
  cases e with
  | nm x =>
    have hx : x ∈ t := he
    have hx' : x ∈ h := b.perm.mem_iff.mpr hx
    have i1 := List.idxOf_lt_length_of_mem hx
    have i2 := List.idxOf_lt_length_of_mem hx'
    refine ⟨_, _, i1, i2, rfl, ?_, rfl, rfl⟩
    have e1 : h[h.idxOf x]? = some x := by rw [List.getElem?_eq_getElem i2, List.getElem_idxOf i2]
    simp [readE, oftenE, doneE, e1]
  | pl p =>
    have hp : p < t.length := he
    exact ⟨p, p, hp, by omega, rfl, by simp [readE, oftenE, doneE], rfl, rfl⟩
  | lo p =>
    have hp : p < t.length := he
    exact ⟨p, p, hp, by omega, rfl, by simp [readE, oftenE, doneE], rfl, rfl⟩
  | tw p =>
    have hp : p < t.length := he
    exact ⟨p, p, hp, by omega, rfl, by simp [readE, oftenE, doneE], rfl, rfl⟩
  | as p q =>
    obtain ⟨hp, hq, _⟩ : p < t.length ∧ q < t.length ∧ p ≠ q := he
    exact ⟨p, q, hp, by omega, rfl, by simp [readE, oftenE, doneE], rfl, rfl⟩
theorem ldB_ok {t h said wr : List Str} {e : Evt} {x0 x1 x7 x8 x9 : Option W} (b : Both t h) (he : e.ok t) (h1 : said.length ≤ 4000) (h2 : wr.length ≤ 4000) : ∃ x7' x8' x9', ldB [x0, x1, some (.loc st.length), some (.loc (st.length + 1)), some (.loc (st.length + 2)), some (.loc (st.length + 3)), some e.w, x7, x8, x9] (st4 st t h said wr) =
    .nx [x0, x1, some (.loc st.length), some (.loc (st.length + 1)), some (.loc (st.length + 2)), some (.loc (st.length + 3)), some e.w, x7', x8', x9'] (st4 st (doneE t h e).1 (doneE t h e).2.1 (said ++ (doneE t h e).1.head?.toList) (wr ++ (doneE t h e).2.2)) := by
  obtain ⟨p, q, hp, hq, e1, e2, e3⟩ := read_done b he
  have few := b.row.few
  have hl := b.len
  have R := fun x9 : Option W => ldR_ok (st := st) (t := t) (h := h) (said := said) (wr := wr) (p := p) (q := q) (e := e) (x0 := x0) (x1 := x1) (x9 := x9) hp hq (by omega) (by omega) (by omega) (by omega)
  obtain ⟨x9', r⟩ := R x9
  have hd : (doneE t h e).1.head?.toList = [t[p]] := by rw [← e1, front_head hp]; rfl
  rw [e1, e2] at r
  refine ⟨some (.int (p : Int)), some (.int (q : Int)), x9', ?_⟩
  rw [hd]
  unfold ldB
  rw [ev_seq]
  cases e with
  | nm x =>
    obtain ⟨rfl, rfl⟩ := e3
    have hx : x ∈ t := he
    have hx' : x ∈ h := b.perm.mem_iff.mpr hx
    have i1 := idxL_ok (st := st4 st t h said wr) (n := st.length) st4_0 hx
    have i2 := idxL_ok (st := st4 st t h said wr) (n := st.length + 1) st4_1 hx'
    have l1 : lstX (st4 st t h said wr) (.loc st.length) = some (t.map .str) := by simp only [lstX, st4_0]
    have l2 : lstX (st4 st t h said wr) (.loc (st.length + 1)) = some (h.map .str) := by simp only [lstX, st4_1]
    have a1 : fIx (st4 st t h said wr) (Evt.nm x).w (.int 1) = some (.str x) := rfl
    have a2 : fIx (st4 st t h said wr) (Evt.nm x).w (.int (-1)) = some (.str x) := rfl
    have a0 : fIx (st4 st t h said wr) (Evt.nm x).w (.int 0) = some (.str "name") := rfl
    simp only [ev_var, ev_c, ev_nil, ev_yes, ev_oNone, optR_some, optL_some, optO_some, consK2_ok, consK_ok, ev_cons, tupK_ok, ev_tup, lstK_ok, ev_lst, lstLK_ok, ev_lstL, opK2_ok, opK_ok, ev_op, tvW_bl, tvK_ok, ev_tv, tnotK_ok, ev_tnot, tandK_ok, ev_tand, torK_ok, ev_tor, fnK_ok, ev_fn, fnVK_ok, ev_fnV, fnOK_ok, ev_fnO, callK_ok, ev_call, chK3_ok, chW_bl, chK2_ok, chK_ok, ev_chain, negW_int, negK_ok, ev_neg, revTW_tup, revTK_ok, ev_revT, revLK_ok, ev_revL, revOK_ok, ev_revO, someW_int, oSomeK_ok, ev_oSome, slK3_ok, slK2_ok, slK_ok, ev_sl, slOK3_ok, slOK2_ok, slOK_ok, ev_slO, bmK2_ok, bmW_some, bmK_ok, ev_bm, idxW_tup, idxK_ok, ev_idxT, lsW_some, lenSetK_ok, ev_lenSet, isiTW_some, isiTK_ok, ev_isiT, andW_bl, orW_bl, notW_bl, andK_ok, ev_emAnd, orK_ok, ev_emOr, notK_ok, ev_emNot, ifEK_ok, ev_emIf, ev_next, seqK_nx, seqK_rt, dropK_ok, ev_drop, retK_ok, ev_ret, ev_retN, ifK_ok, ev_if, ev_brk, ev_cont, optS_some, asgK_ok, ev_asg, parK2_ok, parK_ok, ev_par, setK3_ok, setK2_ok, setK_ok, ev_setIx, ev_gname, ev_gtup, ev_gcons, ev_gnil, forK_ok, ev_for, lcV_ok, lcO_ok, lcK_ok, ev_lc, lcLK_ok, ev_lcL, srcW_some, iseqK_ok, ev_iseq, rng1K_ok, ev_rng1, rng2K_ok, ev_rng2, funK_nx, funK_rt, ev_fun, ev_callP, callPK_ok, List.getElem?_cons_zero, List.getElem?_cons_succ, List.set_cons_succ, List.set_cons_zero, Bool.not_true, Bool.not_false, if_true, if_false, Bool.false_eq_true, List.length_cons, List.length_nil, Nat.reduceAdd, Nat.reduceLeDiff, a1, a2]
    rw [ev_seq]
    simp only [ev_var, ev_c, ev_nil, ev_yes, ev_oNone, optR_some, optL_some, optO_some, consK2_ok, consK_ok, ev_cons, tupK_ok, ev_tup, lstK_ok, ev_lst, lstLK_ok, ev_lstL, opK2_ok, opK_ok, ev_op, tvW_bl, tvK_ok, ev_tv, tnotK_ok, ev_tnot, tandK_ok, ev_tand, torK_ok, ev_tor, fnK_ok, ev_fn, fnVK_ok, ev_fnV, fnOK_ok, ev_fnO, callK_ok, ev_call, chK3_ok, chW_bl, chK2_ok, chK_ok, ev_chain, negW_int, negK_ok, ev_neg, revTW_tup, revTK_ok, ev_revT, revLK_ok, ev_revL, revOK_ok, ev_revO, someW_int, oSomeK_ok, ev_oSome, slK3_ok, slK2_ok, slK_ok, ev_sl, slOK3_ok, slOK2_ok, slOK_ok, ev_slO, bmK2_ok, bmW_some, bmK_ok, ev_bm, idxW_tup, idxK_ok, ev_idxT, lsW_some, lenSetK_ok, ev_lenSet, isiTW_some, isiTK_ok, ev_isiT, andW_bl, orW_bl, notW_bl, andK_ok, ev_emAnd, orK_ok, ev_emOr, notK_ok, ev_emNot, ifEK_ok, ev_emIf, ev_next, seqK_nx, seqK_rt, dropK_ok, ev_drop, retK_ok, ev_ret, ev_retN, ifK_ok, ev_if, ev_brk, ev_cont, optS_some, asgK_ok, ev_asg, parK2_ok, parK_ok, ev_par, setK3_ok, setK2_ok, setK_ok, ev_setIx, ev_gname, ev_gtup, ev_gcons, ev_gnil, forK_ok, ev_for, lcV_ok, lcO_ok, lcK_ok, ev_lc, lcLK_ok, ev_lcL, srcW_some, iseqK_ok, ev_iseq, rng1K_ok, ev_rng1, rng2K_ok, ev_rng2, funK_nx, funK_rt, ev_fun, ev_callP, callPK_ok, List.getElem?_cons_zero, List.getElem?_cons_succ, List.set_cons_succ, List.set_cons_zero, Bool.not_true, Bool.not_false, if_true, if_false, Bool.false_eq_true, List.length_cons, List.length_nil, Nat.reduceAdd, Nat.reduceLeDiff, a0, kd10, a1, l1, l2, i1, i2]
    exact r
  | pl p' =>
    obtain ⟨rfl, rfl⟩ := e3
    have a1 : fIx (st4 st t h said wr) (Evt.pl q).w (.int 1) = some (.int (q : Int)) := rfl
    have a2 : fIx (st4 st t h said wr) (Evt.pl q).w (.int (-1)) = some (.int (q : Int)) := rfl
    have a0 : fIx (st4 st t h said wr) (Evt.pl q).w (.int 0) = some (.str "place") := rfl
    simp only [ev_var, ev_c, ev_nil, ev_yes, ev_oNone, optR_some, optL_some, optO_some, consK2_ok, consK_ok, ev_cons, tupK_ok, ev_tup, lstK_ok, ev_lst, lstLK_ok, ev_lstL, opK2_ok, opK_ok, ev_op, tvW_bl, tvK_ok, ev_tv, tnotK_ok, ev_tnot, tandK_ok, ev_tand, torK_ok, ev_tor, fnK_ok, ev_fn, fnVK_ok, ev_fnV, fnOK_ok, ev_fnO, callK_ok, ev_call, chK3_ok, chW_bl, chK2_ok, chK_ok, ev_chain, negW_int, negK_ok, ev_neg, revTW_tup, revTK_ok, ev_revT, revLK_ok, ev_revL, revOK_ok, ev_revO, someW_int, oSomeK_ok, ev_oSome, slK3_ok, slK2_ok, slK_ok, ev_sl, slOK3_ok, slOK2_ok, slOK_ok, ev_slO, bmK2_ok, bmW_some, bmK_ok, ev_bm, idxW_tup, idxK_ok, ev_idxT, lsW_some, lenSetK_ok, ev_lenSet, isiTW_some, isiTK_ok, ev_isiT, andW_bl, orW_bl, notW_bl, andK_ok, ev_emAnd, orK_ok, ev_emOr, notK_ok, ev_emNot, ifEK_ok, ev_emIf, ev_next, seqK_nx, seqK_rt, dropK_ok, ev_drop, retK_ok, ev_ret, ev_retN, ifK_ok, ev_if, ev_brk, ev_cont, optS_some, asgK_ok, ev_asg, parK2_ok, parK_ok, ev_par, setK3_ok, setK2_ok, setK_ok, ev_setIx, ev_gname, ev_gtup, ev_gcons, ev_gnil, forK_ok, ev_for, lcV_ok, lcO_ok, lcK_ok, ev_lc, lcLK_ok, ev_lcL, srcW_some, iseqK_ok, ev_iseq, rng1K_ok, ev_rng1, rng2K_ok, ev_rng2, funK_nx, funK_rt, ev_fun, ev_callP, callPK_ok, List.getElem?_cons_zero, List.getElem?_cons_succ, List.set_cons_succ, List.set_cons_zero, Bool.not_true, Bool.not_false, if_true, if_false, Bool.false_eq_true, List.length_cons, List.length_nil, Nat.reduceAdd, Nat.reduceLeDiff, a1, a2]
    rw [ev_seq]
    simp only [ev_var, ev_c, ev_nil, ev_yes, ev_oNone, optR_some, optL_some, optO_some, consK2_ok, consK_ok, ev_cons, tupK_ok, ev_tup, lstK_ok, ev_lst, lstLK_ok, ev_lstL, opK2_ok, opK_ok, ev_op, tvW_bl, tvK_ok, ev_tv, tnotK_ok, ev_tnot, tandK_ok, ev_tand, torK_ok, ev_tor, fnK_ok, ev_fn, fnVK_ok, ev_fnV, fnOK_ok, ev_fnO, callK_ok, ev_call, chK3_ok, chW_bl, chK2_ok, chK_ok, ev_chain, negW_int, negK_ok, ev_neg, revTW_tup, revTK_ok, ev_revT, revLK_ok, ev_revL, revOK_ok, ev_revO, someW_int, oSomeK_ok, ev_oSome, slK3_ok, slK2_ok, slK_ok, ev_sl, slOK3_ok, slOK2_ok, slOK_ok, ev_slO, bmK2_ok, bmW_some, bmK_ok, ev_bm, idxW_tup, idxK_ok, ev_idxT, lsW_some, lenSetK_ok, ev_lenSet, isiTW_some, isiTK_ok, ev_isiT, andW_bl, orW_bl, notW_bl, andK_ok, ev_emAnd, orK_ok, ev_emOr, notK_ok, ev_emNot, ifEK_ok, ev_emIf, ev_next, seqK_nx, seqK_rt, dropK_ok, ev_drop, retK_ok, ev_ret, ev_retN, ifK_ok, ev_if, ev_brk, ev_cont, optS_some, asgK_ok, ev_asg, parK2_ok, parK_ok, ev_par, setK3_ok, setK2_ok, setK_ok, ev_setIx, ev_gname, ev_gtup, ev_gcons, ev_gnil, forK_ok, ev_for, lcV_ok, lcO_ok, lcK_ok, ev_lc, lcLK_ok, ev_lcL, srcW_some, iseqK_ok, ev_iseq, rng1K_ok, ev_rng1, rng2K_ok, ev_rng2, funK_nx, funK_rt, ev_fun, ev_callP, callPK_ok, List.getElem?_cons_zero, List.getElem?_cons_succ, List.set_cons_succ, List.set_cons_zero, Bool.not_true, Bool.not_false, if_true, if_false, Bool.false_eq_true, List.length_cons, List.length_nil, Nat.reduceAdd, Nat.reduceLeDiff, a0, kd6]
    exact r
  | lo p' =>
    obtain ⟨rfl, rfl⟩ := e3
    have a1 : fIx (st4 st t h said wr) (Evt.lo q).w (.int 1) = some (.int (q : Int)) := rfl
    have a2 : fIx (st4 st t h said wr) (Evt.lo q).w (.int (-1)) = some (.int (q : Int)) := rfl
    have a0 : fIx (st4 st t h said wr) (Evt.lo q).w (.int 0) = some (.str "lost") := rfl
    simp only [ev_var, ev_c, ev_nil, ev_yes, ev_oNone, optR_some, optL_some, optO_some, consK2_ok, consK_ok, ev_cons, tupK_ok, ev_tup, lstK_ok, ev_lst, lstLK_ok, ev_lstL, opK2_ok, opK_ok, ev_op, tvW_bl, tvK_ok, ev_tv, tnotK_ok, ev_tnot, tandK_ok, ev_tand, torK_ok, ev_tor, fnK_ok, ev_fn, fnVK_ok, ev_fnV, fnOK_ok, ev_fnO, callK_ok, ev_call, chK3_ok, chW_bl, chK2_ok, chK_ok, ev_chain, negW_int, negK_ok, ev_neg, revTW_tup, revTK_ok, ev_revT, revLK_ok, ev_revL, revOK_ok, ev_revO, someW_int, oSomeK_ok, ev_oSome, slK3_ok, slK2_ok, slK_ok, ev_sl, slOK3_ok, slOK2_ok, slOK_ok, ev_slO, bmK2_ok, bmW_some, bmK_ok, ev_bm, idxW_tup, idxK_ok, ev_idxT, lsW_some, lenSetK_ok, ev_lenSet, isiTW_some, isiTK_ok, ev_isiT, andW_bl, orW_bl, notW_bl, andK_ok, ev_emAnd, orK_ok, ev_emOr, notK_ok, ev_emNot, ifEK_ok, ev_emIf, ev_next, seqK_nx, seqK_rt, dropK_ok, ev_drop, retK_ok, ev_ret, ev_retN, ifK_ok, ev_if, ev_brk, ev_cont, optS_some, asgK_ok, ev_asg, parK2_ok, parK_ok, ev_par, setK3_ok, setK2_ok, setK_ok, ev_setIx, ev_gname, ev_gtup, ev_gcons, ev_gnil, forK_ok, ev_for, lcV_ok, lcO_ok, lcK_ok, ev_lc, lcLK_ok, ev_lcL, srcW_some, iseqK_ok, ev_iseq, rng1K_ok, ev_rng1, rng2K_ok, ev_rng2, funK_nx, funK_rt, ev_fun, ev_callP, callPK_ok, List.getElem?_cons_zero, List.getElem?_cons_succ, List.set_cons_succ, List.set_cons_zero, Bool.not_true, Bool.not_false, if_true, if_false, Bool.false_eq_true, List.length_cons, List.length_nil, Nat.reduceAdd, Nat.reduceLeDiff, a1, a2]
    rw [ev_seq]
    simp only [ev_var, ev_c, ev_nil, ev_yes, ev_oNone, optR_some, optL_some, optO_some, consK2_ok, consK_ok, ev_cons, tupK_ok, ev_tup, lstK_ok, ev_lst, lstLK_ok, ev_lstL, opK2_ok, opK_ok, ev_op, tvW_bl, tvK_ok, ev_tv, tnotK_ok, ev_tnot, tandK_ok, ev_tand, torK_ok, ev_tor, fnK_ok, ev_fn, fnVK_ok, ev_fnV, fnOK_ok, ev_fnO, callK_ok, ev_call, chK3_ok, chW_bl, chK2_ok, chK_ok, ev_chain, negW_int, negK_ok, ev_neg, revTW_tup, revTK_ok, ev_revT, revLK_ok, ev_revL, revOK_ok, ev_revO, someW_int, oSomeK_ok, ev_oSome, slK3_ok, slK2_ok, slK_ok, ev_sl, slOK3_ok, slOK2_ok, slOK_ok, ev_slO, bmK2_ok, bmW_some, bmK_ok, ev_bm, idxW_tup, idxK_ok, ev_idxT, lsW_some, lenSetK_ok, ev_lenSet, isiTW_some, isiTK_ok, ev_isiT, andW_bl, orW_bl, notW_bl, andK_ok, ev_emAnd, orK_ok, ev_emOr, notK_ok, ev_emNot, ifEK_ok, ev_emIf, ev_next, seqK_nx, seqK_rt, dropK_ok, ev_drop, retK_ok, ev_ret, ev_retN, ifK_ok, ev_if, ev_brk, ev_cont, optS_some, asgK_ok, ev_asg, parK2_ok, parK_ok, ev_par, setK3_ok, setK2_ok, setK_ok, ev_setIx, ev_gname, ev_gtup, ev_gcons, ev_gnil, forK_ok, ev_for, lcV_ok, lcO_ok, lcK_ok, ev_lc, lcLK_ok, ev_lcL, srcW_some, iseqK_ok, ev_iseq, rng1K_ok, ev_rng1, rng2K_ok, ev_rng2, funK_nx, funK_rt, ev_fun, ev_callP, callPK_ok, List.getElem?_cons_zero, List.getElem?_cons_succ, List.set_cons_succ, List.set_cons_zero, Bool.not_true, Bool.not_false, if_true, if_false, Bool.false_eq_true, List.length_cons, List.length_nil, Nat.reduceAdd, Nat.reduceLeDiff, a0, kd7]
    exact r
  | tw p' =>
    obtain ⟨rfl, rfl⟩ := e3
    have a1 : fIx (st4 st t h said wr) (Evt.tw q).w (.int 1) = some (.int (q : Int)) := rfl
    have a2 : fIx (st4 st t h said wr) (Evt.tw q).w (.int (-1)) = some (.int (q : Int)) := rfl
    have a0 : fIx (st4 st t h said wr) (Evt.tw q).w (.int 0) = some (.str "twice") := rfl
    simp only [ev_var, ev_c, ev_nil, ev_yes, ev_oNone, optR_some, optL_some, optO_some, consK2_ok, consK_ok, ev_cons, tupK_ok, ev_tup, lstK_ok, ev_lst, lstLK_ok, ev_lstL, opK2_ok, opK_ok, ev_op, tvW_bl, tvK_ok, ev_tv, tnotK_ok, ev_tnot, tandK_ok, ev_tand, torK_ok, ev_tor, fnK_ok, ev_fn, fnVK_ok, ev_fnV, fnOK_ok, ev_fnO, callK_ok, ev_call, chK3_ok, chW_bl, chK2_ok, chK_ok, ev_chain, negW_int, negK_ok, ev_neg, revTW_tup, revTK_ok, ev_revT, revLK_ok, ev_revL, revOK_ok, ev_revO, someW_int, oSomeK_ok, ev_oSome, slK3_ok, slK2_ok, slK_ok, ev_sl, slOK3_ok, slOK2_ok, slOK_ok, ev_slO, bmK2_ok, bmW_some, bmK_ok, ev_bm, idxW_tup, idxK_ok, ev_idxT, lsW_some, lenSetK_ok, ev_lenSet, isiTW_some, isiTK_ok, ev_isiT, andW_bl, orW_bl, notW_bl, andK_ok, ev_emAnd, orK_ok, ev_emOr, notK_ok, ev_emNot, ifEK_ok, ev_emIf, ev_next, seqK_nx, seqK_rt, dropK_ok, ev_drop, retK_ok, ev_ret, ev_retN, ifK_ok, ev_if, ev_brk, ev_cont, optS_some, asgK_ok, ev_asg, parK2_ok, parK_ok, ev_par, setK3_ok, setK2_ok, setK_ok, ev_setIx, ev_gname, ev_gtup, ev_gcons, ev_gnil, forK_ok, ev_for, lcV_ok, lcO_ok, lcK_ok, ev_lc, lcLK_ok, ev_lcL, srcW_some, iseqK_ok, ev_iseq, rng1K_ok, ev_rng1, rng2K_ok, ev_rng2, funK_nx, funK_rt, ev_fun, ev_callP, callPK_ok, List.getElem?_cons_zero, List.getElem?_cons_succ, List.set_cons_succ, List.set_cons_zero, Bool.not_true, Bool.not_false, if_true, if_false, Bool.false_eq_true, List.length_cons, List.length_nil, Nat.reduceAdd, Nat.reduceLeDiff, a1, a2]
    rw [ev_seq]
    simp only [ev_var, ev_c, ev_nil, ev_yes, ev_oNone, optR_some, optL_some, optO_some, consK2_ok, consK_ok, ev_cons, tupK_ok, ev_tup, lstK_ok, ev_lst, lstLK_ok, ev_lstL, opK2_ok, opK_ok, ev_op, tvW_bl, tvK_ok, ev_tv, tnotK_ok, ev_tnot, tandK_ok, ev_tand, torK_ok, ev_tor, fnK_ok, ev_fn, fnVK_ok, ev_fnV, fnOK_ok, ev_fnO, callK_ok, ev_call, chK3_ok, chW_bl, chK2_ok, chK_ok, ev_chain, negW_int, negK_ok, ev_neg, revTW_tup, revTK_ok, ev_revT, revLK_ok, ev_revL, revOK_ok, ev_revO, someW_int, oSomeK_ok, ev_oSome, slK3_ok, slK2_ok, slK_ok, ev_sl, slOK3_ok, slOK2_ok, slOK_ok, ev_slO, bmK2_ok, bmW_some, bmK_ok, ev_bm, idxW_tup, idxK_ok, ev_idxT, lsW_some, lenSetK_ok, ev_lenSet, isiTW_some, isiTK_ok, ev_isiT, andW_bl, orW_bl, notW_bl, andK_ok, ev_emAnd, orK_ok, ev_emOr, notK_ok, ev_emNot, ifEK_ok, ev_emIf, ev_next, seqK_nx, seqK_rt, dropK_ok, ev_drop, retK_ok, ev_ret, ev_retN, ifK_ok, ev_if, ev_brk, ev_cont, optS_some, asgK_ok, ev_asg, parK2_ok, parK_ok, ev_par, setK3_ok, setK2_ok, setK_ok, ev_setIx, ev_gname, ev_gtup, ev_gcons, ev_gnil, forK_ok, ev_for, lcV_ok, lcO_ok, lcK_ok, ev_lc, lcLK_ok, ev_lcL, srcW_some, iseqK_ok, ev_iseq, rng1K_ok, ev_rng1, rng2K_ok, ev_rng2, funK_nx, funK_rt, ev_fun, ev_callP, callPK_ok, List.getElem?_cons_zero, List.getElem?_cons_succ, List.set_cons_succ, List.set_cons_zero, Bool.not_true, Bool.not_false, if_true, if_false, Bool.false_eq_true, List.length_cons, List.length_nil, Nat.reduceAdd, Nat.reduceLeDiff, a0, kd8]
    exact r
  | as p' q' =>
    obtain ⟨rfl, rfl⟩ := e3
    have a1 : fIx (st4 st t h said wr) (Evt.as p q).w (.int 1) = some (.int (p : Int)) := rfl
    have a2 : fIx (st4 st t h said wr) (Evt.as p q).w (.int (-1)) = some (.int (q : Int)) := rfl
    have a0 : fIx (st4 st t h said wr) (Evt.as p q).w (.int 0) = some (.str "as") := rfl
    simp only [ev_var, ev_c, ev_nil, ev_yes, ev_oNone, optR_some, optL_some, optO_some, consK2_ok, consK_ok, ev_cons, tupK_ok, ev_tup, lstK_ok, ev_lst, lstLK_ok, ev_lstL, opK2_ok, opK_ok, ev_op, tvW_bl, tvK_ok, ev_tv, tnotK_ok, ev_tnot, tandK_ok, ev_tand, torK_ok, ev_tor, fnK_ok, ev_fn, fnVK_ok, ev_fnV, fnOK_ok, ev_fnO, callK_ok, ev_call, chK3_ok, chW_bl, chK2_ok, chK_ok, ev_chain, negW_int, negK_ok, ev_neg, revTW_tup, revTK_ok, ev_revT, revLK_ok, ev_revL, revOK_ok, ev_revO, someW_int, oSomeK_ok, ev_oSome, slK3_ok, slK2_ok, slK_ok, ev_sl, slOK3_ok, slOK2_ok, slOK_ok, ev_slO, bmK2_ok, bmW_some, bmK_ok, ev_bm, idxW_tup, idxK_ok, ev_idxT, lsW_some, lenSetK_ok, ev_lenSet, isiTW_some, isiTK_ok, ev_isiT, andW_bl, orW_bl, notW_bl, andK_ok, ev_emAnd, orK_ok, ev_emOr, notK_ok, ev_emNot, ifEK_ok, ev_emIf, ev_next, seqK_nx, seqK_rt, dropK_ok, ev_drop, retK_ok, ev_ret, ev_retN, ifK_ok, ev_if, ev_brk, ev_cont, optS_some, asgK_ok, ev_asg, parK2_ok, parK_ok, ev_par, setK3_ok, setK2_ok, setK_ok, ev_setIx, ev_gname, ev_gtup, ev_gcons, ev_gnil, forK_ok, ev_for, lcV_ok, lcO_ok, lcK_ok, ev_lc, lcLK_ok, ev_lcL, srcW_some, iseqK_ok, ev_iseq, rng1K_ok, ev_rng1, rng2K_ok, ev_rng2, funK_nx, funK_rt, ev_fun, ev_callP, callPK_ok, List.getElem?_cons_zero, List.getElem?_cons_succ, List.set_cons_succ, List.set_cons_zero, Bool.not_true, Bool.not_false, if_true, if_false, Bool.false_eq_true, List.length_cons, List.length_nil, Nat.reduceAdd, Nat.reduceLeDiff, a1, a2]
    rw [ev_seq]
    simp only [ev_var, ev_c, ev_nil, ev_yes, ev_oNone, optR_some, optL_some, optO_some, consK2_ok, consK_ok, ev_cons, tupK_ok, ev_tup, lstK_ok, ev_lst, lstLK_ok, ev_lstL, opK2_ok, opK_ok, ev_op, tvW_bl, tvK_ok, ev_tv, tnotK_ok, ev_tnot, tandK_ok, ev_tand, torK_ok, ev_tor, fnK_ok, ev_fn, fnVK_ok, ev_fnV, fnOK_ok, ev_fnO, callK_ok, ev_call, chK3_ok, chW_bl, chK2_ok, chK_ok, ev_chain, negW_int, negK_ok, ev_neg, revTW_tup, revTK_ok, ev_revT, revLK_ok, ev_revL, revOK_ok, ev_revO, someW_int, oSomeK_ok, ev_oSome, slK3_ok, slK2_ok, slK_ok, ev_sl, slOK3_ok, slOK2_ok, slOK_ok, ev_slO, bmK2_ok, bmW_some, bmK_ok, ev_bm, idxW_tup, idxK_ok, ev_idxT, lsW_some, lenSetK_ok, ev_lenSet, isiTW_some, isiTK_ok, ev_isiT, andW_bl, orW_bl, notW_bl, andK_ok, ev_emAnd, orK_ok, ev_emOr, notK_ok, ev_emNot, ifEK_ok, ev_emIf, ev_next, seqK_nx, seqK_rt, dropK_ok, ev_drop, retK_ok, ev_ret, ev_retN, ifK_ok, ev_if, ev_brk, ev_cont, optS_some, asgK_ok, ev_asg, parK2_ok, parK_ok, ev_par, setK3_ok, setK2_ok, setK_ok, ev_setIx, ev_gname, ev_gtup, ev_gcons, ev_gnil, forK_ok, ev_for, lcV_ok, lcO_ok, lcK_ok, ev_lc, lcLK_ok, ev_lcL, srcW_some, iseqK_ok, ev_iseq, rng1K_ok, ev_rng1, rng2K_ok, ev_rng2, funK_nx, funK_rt, ev_fun, ev_callP, callPK_ok, List.getElem?_cons_zero, List.getElem?_cons_succ, List.set_cons_succ, List.set_cons_zero, Bool.not_true, Bool.not_false, if_true, if_false, Bool.false_eq_true, List.length_cons, List.length_nil, Nat.reduceAdd, Nat.reduceLeDiff, a0, kd9]
    exact r
theorem done_said {t h : List Str} {e : Evt} (b : Both t h) : (doneE t h e).1.head?.toList.length ≤ 1 := by
  cases (doneE t h e).1.head? <;> simp
theorem led_loop {okx : Stt → Prop} {x0 x1 : Option W} (hok : ∀ ex : Stt, okx (st ++ ex)) : ∀ (es : List Evt) (t h said wr : List Str) (x6 x7 x8 x9 : Option W), Both t h → (∀ e ∈ es, e.ok t) → said.length + es.length ≤ 4000 → wr.length + 2 * es.length ≤ 4000 →
    ∃ x6' x7' x8' x9', forW okx (gmName 6) ldB (es.map Evt.w) [x0, x1, some (.loc st.length), some (.loc (st.length + 1)), some (.loc (st.length + 2)), some (.loc (st.length + 3)), x6, x7, x8, x9] (st4 st t h said wr) =
    .nx [x0, x1, some (.loc st.length), some (.loc (st.length + 1)), some (.loc (st.length + 2)), some (.loc (st.length + 3)), x6', x7', x8', x9'] (st4 st (goneE t h es).1 (goneE t h es).2.1 (said ++ (goneE t h es).2.2.1) (wr ++ (goneE t h es).2.2.2))
  | [], t, h, said, wr, x6, x7, x8, x9, _, _, _, _ => ⟨x6, x7, x8, x9, by rw [List.map_nil, forW_nil (by unfold st4; exact hok _)]; simp [goneE]⟩
  | e :: r, t, h, said, wr, x6, x7, x8, x9, b, he, l1, l2 => by
    have b2 := done_both b e
    have hm := done_more t h e
    have hs := done_said (e := e) b
    simp only [List.length_cons] at l1 l2
    obtain ⟨y7, y8, y9, hB⟩ := ldB_ok (st := st) (said := said) (wr := wr) (x0 := x0) (x1 := x1) (x7 := x7) (x8 := x8) (x9 := x9) b (he e List.mem_cons_self) (by omega) (by omega)
    obtain ⟨z6, z7, z8, z9, ih⟩ := led_loop (x0 := x0) (x1 := x1) hok r (doneE t h e).1 (doneE t h e).2.1 (said ++ (doneE t h e).1.head?.toList) (wr ++ (doneE t h e).2.2) (some e.w) y7 y8 y9 b2
      (fun u hu => Evt.ok_perm (done_perm t h e).1 (he u (List.mem_cons_of_mem _ hu))) (by simp only [List.length_append]; omega) (by simp only [List.length_append]; omega)
    refine ⟨z6, z7, z8, z9, ?_⟩
    rw [List.map_cons, forW_nx (by unfold st4; exact hok _) rfl hB, ih]
    simp only [goneE, List.append_assoc]
/-- the law's own rows -/
theorem led_ok {t h : List Str} {es : List Evt} {x : W} (b : Both t h) (hx : Evs st x (es.map Evt.w)) (he : ∀ e ∈ es, e.ok t) (hl : es.length ≤ 1000) : m__law_led [.tup [wS t, wS h], x] st = .ok (goW t h es) st := by
  obtain ⟨z6, z7, z8, z9, hg⟩ := led_loop (st := st) (x0 := some (.tup [wS t, wS h])) (x1 := some x) hx.ok es t h [] [] none none none none b he (by simp; omega) (by simp; omega)
  simp only [List.nil_append] at hg
  obtain ⟨G, hG⟩ : ∃ G, G = goneE t h es := ⟨_, rfl⟩
  rw [← hG] at hg
  have f1 : ∀ s : Stt, fIx s (.tup [wS t, wS h]) (.int 0) = some (wS t) := fun s => rfl
  have f2 : ∀ s : Stt, fIx s (.tup [wS t, wS h]) (.int 1) = some (wS h) := fun s => rfl
  have g1 : ∀ s : Stt, ∀ xs : List Str, xs.length ≤ 16 → fList s [wS xs] = some (xs.map .str) := fun s xs _ => rfl
  have hit : itemsOf (st4 st t h [] []) x = some (es.map Evt.w) := by
    have h1 := hx.it
    have h2 := hx.ok [some (.lst (t.map .str)), some (.lst (h.map .str)), some (.lst []), some (.lst [])]
    unfold st4
    cases x with
    | loc n => simp [okOf] at h2; simp [h2]
    | lst ws => exact h1
    | scr ws => exact h1
    | tup ws => exact h1
    | str z => exact h1
    | _ => cases h1
  have q1 : st ++ [some (Ob.lst (t.map .str))] ++ [some (Ob.lst (h.map .str))] ++ [some (Ob.lst [])] ++ [some (Ob.lst [])] = st4 st t h [] [] := by simp [st4]
  have L1 : (st ++ [some (Ob.lst (t.map .str))]).length = st.length + 1 := by simp
  have L2 : (st ++ [some (Ob.lst (t.map .str))] ++ [some (Ob.lst (h.map .str))]).length = st.length + 2 := by simp
  have L3 : (st ++ [some (Ob.lst (t.map .str))] ++ [some (Ob.lst (h.map .str))] ++ [some (Ob.lst [])]).length = st.length + 3 := by simp
  have few := b.row.few
  have hlb := b.len
  have gp := gone_perm (t := t) (h := h) (es := es)
  rw [← hG] at gp
  have gl1 := gp.1.length_eq
  have gl2 := gp.2.length_eq
  have k1 : fTuple (st4 st G.1 G.2.1 G.2.2.1 G.2.2.2) [.loc st.length] = some (wS G.1) := by
    have : G.1.length ≤ 100000 := by omega
    simp [fTuple, st4_0, this]
  have k2 : fTuple (st4 st G.1 G.2.1 G.2.2.1 G.2.2.2) [.loc (st.length + 1)] = some (wS G.2.1) := by
    have : G.2.1.length ≤ 100000 := by omega
    simp [fTuple, st4_1, this]
  refine frz_new (ex := [some (.lst (G.1.map .str)), some (.lst (G.2.1.map .str)), some (.lst (G.2.2.1.map .str)), some (.lst (G.2.2.2.map .str))]) (w := .tup [.tup [wS G.1, wS G.2.1], .loc (st.length + 2), .loc (st.length + 3)]) ?_ ?_
  · show r__law_led _ _ = .ok _ (st4 st G.1 G.2.1 G.2.2.1 G.2.2.2)
    unfold r__law_led
    rw [ev_fun]
    rw [show entry 10 [W.tup [wS t, wS h], x] = [some (.tup [wS t, wS h]), some x, none, none, none, none, none, none, none, none] from rfl]
    rw [ev_seq]
    simp only [ev_var, ev_c, ev_nil, ev_yes, ev_oNone, optR_some, optL_some, optO_some, consK2_ok, consK_ok, ev_cons, tupK_ok, ev_tup, lstK_ok, ev_lst, lstLK_ok, ev_lstL, opK2_ok, opK_ok, ev_op, tvW_bl, tvK_ok, ev_tv, tnotK_ok, ev_tnot, tandK_ok, ev_tand, torK_ok, ev_tor, fnK_ok, ev_fn, fnVK_ok, ev_fnV, fnOK_ok, ev_fnO, callK_ok, ev_call, chK3_ok, chW_bl, chK2_ok, chK_ok, ev_chain, negW_int, negK_ok, ev_neg, revTW_tup, revTK_ok, ev_revT, revLK_ok, ev_revL, revOK_ok, ev_revO, someW_int, oSomeK_ok, ev_oSome, slK3_ok, slK2_ok, slK_ok, ev_sl, slOK3_ok, slOK2_ok, slOK_ok, ev_slO, bmK2_ok, bmW_some, bmK_ok, ev_bm, idxW_tup, idxK_ok, ev_idxT, lsW_some, lenSetK_ok, ev_lenSet, isiTW_some, isiTK_ok, ev_isiT, andW_bl, orW_bl, notW_bl, andK_ok, ev_emAnd, orK_ok, ev_emOr, notK_ok, ev_emNot, ifEK_ok, ev_emIf, ev_next, seqK_nx, seqK_rt, dropK_ok, ev_drop, retK_ok, ev_ret, ev_retN, ifK_ok, ev_if, ev_brk, ev_cont, optS_some, asgK_ok, ev_asg, parK2_ok, parK_ok, ev_par, setK3_ok, setK2_ok, setK_ok, ev_setIx, ev_gname, ev_gtup, ev_gcons, ev_gnil, forK_ok, ev_for, lcV_ok, lcO_ok, lcK_ok, ev_lc, lcLK_ok, ev_lcL, srcW_some, iseqK_ok, ev_iseq, rng1K_ok, ev_rng1, rng2K_ok, ev_rng2, funK_nx, funK_rt, ev_fun, ev_callP, callPK_ok, List.getElem?_cons_zero, List.getElem?_cons_succ, List.set_cons_succ, List.set_cons_zero, Bool.not_true, Bool.not_false, if_true, if_false, Bool.false_eq_true, List.length_cons, List.length_nil, Nat.reduceAdd, Nat.reduceLeDiff, f1, f2, g1 _ t few, g1 _ h (by omega), L1]
    rw [ev_seq]
    simp only [ev_var, ev_c, ev_nil, ev_yes, ev_oNone, optR_some, optL_some, optO_some, consK2_ok, consK_ok, ev_cons, tupK_ok, ev_tup, lstK_ok, ev_lst, lstLK_ok, ev_lstL, opK2_ok, opK_ok, ev_op, tvW_bl, tvK_ok, ev_tv, tnotK_ok, ev_tnot, tandK_ok, ev_tand, torK_ok, ev_tor, fnK_ok, ev_fn, fnVK_ok, ev_fnV, fnOK_ok, ev_fnO, callK_ok, ev_call, chK3_ok, chW_bl, chK2_ok, chK_ok, ev_chain, negW_int, negK_ok, ev_neg, revTW_tup, revTK_ok, ev_revT, revLK_ok, ev_revL, revOK_ok, ev_revO, someW_int, oSomeK_ok, ev_oSome, slK3_ok, slK2_ok, slK_ok, ev_sl, slOK3_ok, slOK2_ok, slOK_ok, ev_slO, bmK2_ok, bmW_some, bmK_ok, ev_bm, idxW_tup, idxK_ok, ev_idxT, lsW_some, lenSetK_ok, ev_lenSet, isiTW_some, isiTK_ok, ev_isiT, andW_bl, orW_bl, notW_bl, andK_ok, ev_emAnd, orK_ok, ev_emOr, notK_ok, ev_emNot, ifEK_ok, ev_emIf, ev_next, seqK_nx, seqK_rt, dropK_ok, ev_drop, retK_ok, ev_ret, ev_retN, ifK_ok, ev_if, ev_brk, ev_cont, optS_some, asgK_ok, ev_asg, parK2_ok, parK_ok, ev_par, setK3_ok, setK2_ok, setK_ok, ev_setIx, ev_gname, ev_gtup, ev_gcons, ev_gnil, forK_ok, ev_for, lcV_ok, lcO_ok, lcK_ok, ev_lc, lcLK_ok, ev_lcL, srcW_some, iseqK_ok, ev_iseq, rng1K_ok, ev_rng1, rng2K_ok, ev_rng2, funK_nx, funK_rt, ev_fun, ev_callP, callPK_ok, List.getElem?_cons_zero, List.getElem?_cons_succ, List.set_cons_succ, List.set_cons_zero, Bool.not_true, Bool.not_false, if_true, if_false, Bool.false_eq_true, List.length_cons, List.length_nil, Nat.reduceAdd, Nat.reduceLeDiff, L2, L3, q1]
    rw [ev_seq]
    simp only [ev_var, ev_c, ev_nil, ev_yes, ev_oNone, optR_some, optL_some, optO_some, consK2_ok, consK_ok, ev_cons, tupK_ok, ev_tup, lstK_ok, ev_lst, lstLK_ok, ev_lstL, opK2_ok, opK_ok, ev_op, tvW_bl, tvK_ok, ev_tv, tnotK_ok, ev_tnot, tandK_ok, ev_tand, torK_ok, ev_tor, fnK_ok, ev_fn, fnVK_ok, ev_fnV, fnOK_ok, ev_fnO, callK_ok, ev_call, chK3_ok, chW_bl, chK2_ok, chK_ok, ev_chain, negW_int, negK_ok, ev_neg, revTW_tup, revTK_ok, ev_revT, revLK_ok, ev_revL, revOK_ok, ev_revO, someW_int, oSomeK_ok, ev_oSome, slK3_ok, slK2_ok, slK_ok, ev_sl, slOK3_ok, slOK2_ok, slOK_ok, ev_slO, bmK2_ok, bmW_some, bmK_ok, ev_bm, idxW_tup, idxK_ok, ev_idxT, lsW_some, lenSetK_ok, ev_lenSet, isiTW_some, isiTK_ok, ev_isiT, andW_bl, orW_bl, notW_bl, andK_ok, ev_emAnd, orK_ok, ev_emOr, notK_ok, ev_emNot, ifEK_ok, ev_emIf, ev_next, seqK_nx, seqK_rt, dropK_ok, ev_drop, retK_ok, ev_ret, ev_retN, ifK_ok, ev_if, ev_brk, ev_cont, optS_some, asgK_ok, ev_asg, parK2_ok, parK_ok, ev_par, setK3_ok, setK2_ok, setK_ok, ev_setIx, ev_gname, ev_gtup, ev_gcons, ev_gnil, forK_ok, ev_for, lcV_ok, lcO_ok, lcK_ok, ev_lc, lcLK_ok, ev_lcL, srcW_some, iseqK_ok, ev_iseq, rng1K_ok, ev_rng1, rng2K_ok, ev_rng2, funK_nx, funK_rt, ev_fun, ev_callP, callPK_ok, List.getElem?_cons_zero, List.getElem?_cons_succ, List.set_cons_succ, List.set_cons_zero, Bool.not_true, Bool.not_false, if_true, if_false, Bool.false_eq_true, List.length_cons, List.length_nil, Nat.reduceAdd, Nat.reduceLeDiff, hit]
    rw [show forW (okOf x (es.map Evt.w)) (gmName 6) _ (es.map Evt.w) _ _ = _ from hg]
    simp only [ev_var, ev_c, ev_nil, ev_yes, ev_oNone, optR_some, optL_some, optO_some, consK2_ok, consK_ok, ev_cons, tupK_ok, ev_tup, lstK_ok, ev_lst, lstLK_ok, ev_lstL, opK2_ok, opK_ok, ev_op, tvW_bl, tvK_ok, ev_tv, tnotK_ok, ev_tnot, tandK_ok, ev_tand, torK_ok, ev_tor, fnK_ok, ev_fn, fnVK_ok, ev_fnV, fnOK_ok, ev_fnO, callK_ok, ev_call, chK3_ok, chW_bl, chK2_ok, chK_ok, ev_chain, negW_int, negK_ok, ev_neg, revTW_tup, revTK_ok, ev_revT, revLK_ok, ev_revL, revOK_ok, ev_revO, someW_int, oSomeK_ok, ev_oSome, slK3_ok, slK2_ok, slK_ok, ev_sl, slOK3_ok, slOK2_ok, slOK_ok, ev_slO, bmK2_ok, bmW_some, bmK_ok, ev_bm, idxW_tup, idxK_ok, ev_idxT, lsW_some, lenSetK_ok, ev_lenSet, isiTW_some, isiTK_ok, ev_isiT, andW_bl, orW_bl, notW_bl, andK_ok, ev_emAnd, orK_ok, ev_emOr, notK_ok, ev_emNot, ifEK_ok, ev_emIf, ev_next, seqK_nx, seqK_rt, dropK_ok, ev_drop, retK_ok, ev_ret, ev_retN, ifK_ok, ev_if, ev_brk, ev_cont, optS_some, asgK_ok, ev_asg, parK2_ok, parK_ok, ev_par, setK3_ok, setK2_ok, setK_ok, ev_setIx, ev_gname, ev_gtup, ev_gcons, ev_gnil, forK_ok, ev_for, lcV_ok, lcO_ok, lcK_ok, ev_lc, lcLK_ok, ev_lcL, srcW_some, iseqK_ok, ev_iseq, rng1K_ok, ev_rng1, rng2K_ok, ev_rng2, funK_nx, funK_rt, ev_fun, ev_callP, callPK_ok, List.getElem?_cons_zero, List.getElem?_cons_succ, List.set_cons_succ, List.set_cons_zero, Bool.not_true, Bool.not_false, if_true, if_false, Bool.false_eq_true, List.length_cons, List.length_nil, Nat.reduceAdd, Nat.reduceLeDiff, k1, k2]
  · have f3 : fzW st.length (st4 st G.1 G.2.1 G.2.2.1 G.2.2.2) (.loc (st.length + 2)) = some (wL G.2.2.1) := by
      rw [fzW, if_neg (by omega), st4_2]
      dsimp only
      rw [if_pos (nls_ok _ _ (nl_strs _))]
    have f4 : fzW st.length (st4 st G.1 G.2.1 G.2.2.1 G.2.2.2) (.loc (st.length + 3)) = some (wL G.2.2.2) := by
      rw [fzW, if_neg (by omega), st4_3]
      dsimp only
      rw [if_pos (nls_ok _ _ (nl_strs _))]
    show fzW st.length (st4 st G.1 G.2.1 G.2.2.1 G.2.2.2) _ = _
    unfold goW
    rw [← hG]
    simp [f3, f4]
end
end Lw
end
section
set_option Elab.async false
set_option linter.all false
set_option maxRecDepth 100000
set_option maxHeartbeats 1000000
open PySem PySem.Spec PyProof.Rows L2
namespace Lw
open Sim
theorem spool_ok {st : Stt} {ns : List Int} {k : Nat} (hk : k ≤ 100) : ∃ st', m__law_spool [.scr (ns.map .int), .int (k : Int)] st = .ok (.loc st.length) st' ∧ Sp st' st.length 1000000 := by
  have q10 : (10 : Int).natAbs < 2 ^ 1000 := small (by decide) (by decide)
  have p18 := fun s => f_pow (st := s) 10 18 q10 (by decide) (by decide)
  have p37 := fun s => f_pow (st := s) 10 37 q10 (by decide) (by decide)
  have m1 := fun s => f_mul (st := s) 15401 (k : Int) (small (by decide) (by decide)) (small (by omega) (by omega))
  have k18 : (18 : Int).toNat = 18 := rfl
  have k37 : (37 : Int).toNat = 37 := rfl
  rw [k18] at p18
  rw [k37] at p37
  have d1 := fun s x => f_mod (st := s) x (10 ^ 37 + 43) (by decide)
  have fin : ∀ cell : Int, Sp (st ++ [some (.lst [.int (max 0 ((cell.natAbs : Int) - 10 ^ 18)), .int (cell % (10 ^ 37 + 43) + 15401 * (k : Int)), .int 0])]) st.length 1000000 := fun cell => by
    have e1 : 0 ≤ cell % ((10 : Int) ^ 37 + 43) := Int.emod_nonneg _ (by decide)
    have e2 : cell % ((10 : Int) ^ 37 + 43) < 10 ^ 37 + 43 := Int.emod_lt_of_pos _ (by decide)
    exact ⟨_, _, _, List.getElem?_concat_length, by omega, by omega, by omega, by omega, by omega⟩
  by_cases h : k < ns.length
  · refine ⟨_, ?_, fin ns[k]⟩
    have hx : fIx st (.scr (ns.map .int)) (.int (k : Int)) = some (.int ns[k]) := by
      show atI (ns.map W.int) (k : Int) = _
      rw [Sim.atI_nat, List.getElem?_map, List.getElem?_eq_getElem h]; rfl
    simp [m__law_spool, entry, hx, h, lenOf, p18, p37, m1, d1, -Int.reducePow, -Int.reduceAdd]
  · refine ⟨_, ?_, fin 0⟩
    simp [m__law_spool, entry, h, lenOf, p18, p37, m1, d1, -Int.reducePow, -Int.reduceAdd]
end Lw
end
section
set_option Elab.async false
set_option linter.all false
set_option maxRecDepth 100000
set_option maxHeartbeats 1000000
open PySem PySem.Spec PyProof.Rows L2
namespace Lw
open Sim
/-! the law's own loop over the first cells -/
theorem cells_gen {lawB : SM} {scr : W} {n : Nat} (hb : ∀ (k : Nat), k ≤ 60 → ∀ (st : Stt) (tl : Ev), tl.length = n → ∃ (tl' : Ev) (st' : Stt), tl'.length = n ∧ lawB (some scr :: some (.int (k : Int)) :: tl) st = .nx (some scr :: some (.int (k : Int)) :: tl') st') :
    ∀ (ks : List Nat) (st : Stt) (a1 : Option W) (tl : Ev), tl.length = n → (∀ k ∈ ks, k ≤ 60) → ∃ ρ' st', forW (fun _ => True) (gmName 1) lawB (ks.map fun (k : Nat) => W.int (k : Int)) (some scr :: a1 :: tl) st = .nx ρ' st'
  | [], st, a1, tl, _, _ => ⟨_, st, forW_nil trivial⟩
  | k :: ks, st, a1, tl, hl, hk => by
    obtain ⟨tl', st1, l1, e1⟩ := hb k (hk k List.mem_cons_self) st tl hl
    obtain ⟨ρ', st', ih⟩ := cells_gen hb ks st1 (some (.int (k : Int))) tl' l1 fun j hj => hk j (List.mem_cons_of_mem _ hj)
    exact ⟨ρ', st', by rw [List.map_cons, forW_nx trivial rfl e1]; exact ih⟩
theorem law_gen {lawB : SM} {c : Int} {n : Nat} (c1 : 1 ≤ c) (c2 : c ≤ 60) {ns : List Int} (h : ns.length ≤ 63)
    (hb : ∀ (k : Nat), k ≤ 60 → ∀ (st : Stt) (tl : Ev), tl.length = n → ∃ (tl' : Ev) (st' : Stt), tl'.length = n ∧ lawB (some (.scr (ns.map .int)) :: some (.int (k : Int)) :: tl) st = .nx (some (.scr (ns.map .int)) :: some (.int (k : Int)) :: tl') st') :
    ∃ st', frz (mFun (n + 2) (sSeq (sFor (iRange1 (aCons (eFn fMax (aCons (eC (.int 1)) (aCons (eFn fMin (aCons (eC (.int c)) (aCons (eFn fLen (aCons (eVar 0) aNil)) aNil))) aNil))) aNil)) (gmName 1) lawB) (sRet (eC (.bl true))))) [.scr (ns.map .int)] [] = .ok (.bl true) st' := by
  obtain ⟨m, hm, hm4⟩ : ∃ m : Nat, (max 1 (min c (ns.length : Int))) = (m : Int) ∧ m ≤ 60 := ⟨(max 1 (min c (ns.length : Int))).toNat, by omega, by omega⟩
  obtain ⟨ρ', st', e⟩ := cells_gen hb (List.range m) [] none (List.replicate n none) (by simp) fun k hk => by have := List.mem_range.mp hk; omega
  have hr : rng1W [.int (m : Int)] [] = .ok ⟨rngW 0 m, fun _ => True⟩ [] := rng1_nat (by omega)
  have hw : (rngW 0 m) = (List.range m).map fun (k : Nat) => W.int (k : Int) := by
    unfold rngW
    apply List.map_congr_left
    intro k _
    rw [Int.zero_add]
  rw [← hw] at e
  refine ⟨_, frz_eq (w := .bl true) (st' := st') (w' := .bl true) ?_ (fun i hi => absurd hi (Nat.not_lt_zero i)) (by rw [fzW])⟩
  have hl : ∀ s, lenOf s (.scr (ns.map .int)) = some ns.length := fun s => by simp [lenOf]
  have en : entry (n + 2) [.scr (ns.map .int)] = some (.scr (ns.map .int)) :: none :: List.replicate n none := by
    unfold entry
    simp only [List.map_cons, List.map_nil, List.length_cons, List.length_nil, List.singleton_append]
    rw [show n + 2 - (0 + 1) = n + 1 by omega, List.replicate_succ]
  rw [ev_fun, en, ev_seq]
  simp only [ev_for, ev_rng1, ev_cons, ev_fn, ev_c, consK_ok, ev_var, List.getElem?_cons_zero, ev_nil, consK2_ok, fnK_ok, f_len, hl, optR_some, f_min2, f_max2, hm, rng1K_ok, hr, forK_ok, e, seqK_nx, ev_ret, retK_ok, funK_rt]
end Lw
end
section
set_option Elab.async false
set_option linter.all false
set_option maxRecDepth 100000
set_option maxHeartbeats 1000000
open PySem PySem.Spec PyProof.Rows L2
namespace Lw
open Sim
/-! loops behind some names that stand: the law's own loop over the cells, turns that draw -/
theorem set_pre {pre : Ev} {p : Nat} (hp : pre.length = p) (a x : Option W) (tl : Ev) : (pre ++ a :: tl).set p x = pre ++ x :: tl := by
  subst hp
  rw [List.set_append_right _ _ (Nat.le_refl _), Nat.sub_self]; rfl
theorem cells_pre {lawB : SM} {pre : Ev} {p n : Nat} (hp : pre.length = p) (hb : ∀ (k : Nat), k ≤ 60 → ∀ (st : Stt) (tl : Ev), tl.length = n → ∃ (tl' : Ev) (st' : Stt), tl'.length = n ∧ lawB (pre ++ some (.int (k : Int)) :: tl) st = .nx (pre ++ some (.int (k : Int)) :: tl') st') :
    ∀ (ks : List Nat) (st : Stt) (a : Option W) (tl : Ev), tl.length = n → (∀ k ∈ ks, k ≤ 60) → ∃ ρ' st', forW (fun _ => True) (gmName p) lawB (ks.map fun (k : Nat) => W.int (k : Int)) (pre ++ a :: tl) st = .nx ρ' st'
  | [], st, a, tl, _, _ => ⟨_, st, forW_nil trivial⟩
  | k :: ks, st, a, tl, hl, hk => by
    obtain ⟨tl', st1, l1, e1⟩ := hb k (hk k List.mem_cons_self) st tl hl
    obtain ⟨ρ', st', ih⟩ := cells_pre hp hb ks st1 (some (.int (k : Int))) tl' l1 fun j hj => hk j (List.mem_cons_of_mem _ hj)
    refine ⟨ρ', st', ?_⟩
    rw [List.map_cons, forW_nx (ρ1 := pre ++ some (.int (k : Int)) :: tl) trivial (by rw [ev_gname, set_pre hp]) e1]
    exact ih
theorem for_pre {lawB : SM} {pre : Ev} {p n : Nat} {c : Int} {ns : List Int} (hp : pre.length = p) (c1 : 1 ≤ c) (c2 : c ≤ 60) (h0 : pre[0]? = some (some (.scr (ns.map .int))))
    (hb : ∀ (k : Nat), k ≤ 60 → ∀ (st : Stt) (tl : Ev), tl.length = n → ∃ (tl' : Ev) (st' : Stt), tl'.length = n ∧ lawB (pre ++ some (.int (k : Int)) :: tl) st = .nx (pre ++ some (.int (k : Int)) :: tl') st') (st : Stt) (a : Option W) (tl : Ev) (hl : tl.length = n) :
    ∃ ρ' st', sFor (iRange1 (aCons (eFn fMax (aCons (eC (.int 1)) (aCons (eFn fMin (aCons (eC (.int c)) (aCons (eFn fLen (aCons (eVar 0) aNil)) aNil))) aNil))) aNil)) (gmName p) lawB (pre ++ a :: tl) st = .nx ρ' st' := by
  obtain ⟨m, hm, hm4⟩ : ∃ m : Nat, (max 1 (min c (ns.length : Int))) = (m : Int) ∧ m ≤ 60 := ⟨(max 1 (min c (ns.length : Int))).toNat, by omega, by omega⟩
  obtain ⟨ρ', st', e⟩ := cells_pre hp hb (List.range m) st a tl hl fun k hk => by have := List.mem_range.mp hk; omega
  have hr : rng1W [.int (m : Int)] st = .ok ⟨rngW 0 m, fun _ => True⟩ st := rng1_nat (by omega)
  have hw : (rngW 0 m) = (List.range m).map fun (k : Nat) => W.int (k : Int) := by
    unfold rngW
    apply List.map_congr_left
    intro k _
    rw [Int.zero_add]
  rw [← hw] at e
  have hl : ∀ s, lenOf s (.scr (ns.map .int)) = some ns.length := fun s => by simp [lenOf]
  have hg : (pre ++ a :: tl)[0]? = some (some (.scr (ns.map .int))) := by
    rw [List.getElem?_append_left (List.getElem?_eq_some_iff.mp h0).1]; exact h0
  refine ⟨ρ', st', ?_⟩
  simp only [ev_for, ev_rng1, ev_cons, ev_fn, ev_c, consK_ok, ev_var, hg, ev_nil, consK2_ok, fnK_ok, f_len, hl, optR_some, f_min2, f_max2, hm, rng1K_ok, hr, forK_ok, e]
theorem frz_true {m : FM} {scr : W} {st' : Stt} (h : m [scr] [] = .ok (.bl true) st') : ∃ st', frz m [scr] [] = .ok (.bl true) st' :=
  ⟨_, frz_eq (w := .bl true) (st' := st') (w' := .bl true) h (fun i hi => absurd hi (Nat.not_lt_zero i)) (by rw [fzW])⟩
/-- turns that draw from one spool -/
theorem turns_gen {turnB : SM} {pre : Ev} {p n i M : Nat} (hp : pre.length = p) (hb : ∀ (N : Nat) (k : W) (st : Stt) (tl : Ev), tl.length = n → Sp st i (N + M) → ∃ (tl' : Ev) (st' : Stt), tl'.length = n ∧ turnB (pre ++ some k :: tl) st = .nx (pre ++ some k :: tl') st' ∧ Sp st' i N) {N : Nat} :
    ∀ (ks : List W) (st : Stt) (a : Option W) (tl : Ev), tl.length = n → Sp st i (N + M * ks.length) → ∃ (a' : Option W) (tl' : Ev) (st' : Stt), tl'.length = n ∧ forW (fun _ => True) (gmName p) turnB ks (pre ++ a :: tl) st = .nx (pre ++ a' :: tl') st' ∧ Sp st' i N
  | [], st, a, tl, hl, sp => ⟨a, tl, st, hl, forW_nil trivial, sp.le (by simp)⟩
  | k :: ks, st, a, tl, hl, sp => by
    obtain ⟨tl1, st1, l1, e1, s1⟩ := hb (N + M * ks.length) k st tl hl (sp.le (by simp [Nat.mul_succ]; omega))
    obtain ⟨a', tl', st', l2, e2, s2⟩ := turns_gen hp hb ks st1 (some k) tl1 l1 s1
    refine ⟨a', tl', st', l2, ?_, s2⟩
    rw [forW_nx (ρ1 := pre ++ some k :: tl) trivial (by rw [ev_gname, set_pre hp]) e1]
    exact e2
/-- turns without draws -/
theorem turns_any {turnB : SM} {pre : Ev} {p n : Nat} {I : Stt → Prop} (hp : pre.length = p) (hb : ∀ (k : W) (st : Stt) (tl : Ev), tl.length = n → I st → ∃ (tl' : Ev) (st' : Stt), tl'.length = n ∧ turnB (pre ++ some k :: tl) st = .nx (pre ++ some k :: tl') st' ∧ I st') :
    ∀ (ks : List W) (st : Stt) (a : Option W) (tl : Ev), tl.length = n → I st → ∃ (a' : Option W) (tl' : Ev) (st' : Stt), tl'.length = n ∧ forW (fun _ => True) (gmName p) turnB ks (pre ++ a :: tl) st = .nx (pre ++ a' :: tl') st' ∧ I st'
  | [], st, a, tl, hl, sp => ⟨a, tl, st, hl, forW_nil trivial, sp⟩
  | k :: ks, st, a, tl, hl, sp => by
    obtain ⟨tl1, st1, l1, e1, s1⟩ := hb k st tl hl sp
    obtain ⟨a', tl', st', l2, e2, s2⟩ := turns_any hp hb ks st1 (some k) tl1 l1 s1
    refine ⟨a', tl', st', l2, ?_, s2⟩
    rw [forW_nx (ρ1 := pre ++ some k :: tl) trivial (by rw [ev_gname, set_pre hp]) e1]
    exact e2
end Lw
end
section
set_option Elab.async false
set_option linter.all false
set_option maxRecDepth 100000
set_option maxHeartbeats 4000000
open PySem PySem.Spec PyProof.Rows L2
namespace Lw
open Sim
section
variable {st : Stt}
theorem sp_app {s ex : Stt} {i N : Nat} (h : Sp s i N) : Sp (s ++ ex) i N := h.cong (List.getElem?_append_left h.lt) (Nat.le_refl _)
def kinds1 : List Str := ["place", "name", "lost", "twice", "as"]
noncomputable abbrev againB : SM := (sSeq (sAsg (eCall m_go (aCons (eVar 5) (aCons (eVar 6) aNil))) (gmName 10))
    (sSeq (sIf (tmOr (tmV (eOp fNe (eFn fRepr (aCons (eVar 10) aNil)) (eFn fRepr (aCons (eVar 8) aNil)))) (tmV (eOp fNe (eFn fRepr (aCons (eLst (aCons (eVar 5) (aCons (eVar 6) aNil))) aNil)) (eVar 7)))) (sRet (eC (.bl false))) sNext)
    (sSeq (sDrop (eBM (eOp fIx (eVar 10) (eC (.int 1))) (aCons (eC (.str "a")) aNil) (mUp fAppend)))
    (sSeq (sIf (tmV (eOp fNe (eOp fIx (eVar 10) (eC (.int 2))) (eOp fIx (eVar 8) (eC (.int 2))))) (sRet (eC (.bl false))) sNext)
    (sSeq (sDrop (eBM (eOp fIx (eVar 10) (eC (.int 2))) aNil (mUp fReverse)))
    (sDrop (eBM (eOp fIx (eVar 10) (eC (.int 2))) (aCons (eC .non) aNil) (mUp fAppend))))))))
def bothD (t h : List Str) (es : List Evt) : PyData := .list [pairD t h, .list (es.map Evt.d)]
theorem toD_both (t h : List Str) (es : List Evt) : toD st (.lst [.tup [wS t, wS h], .lst (es.map Evt.w)]) = some (bothD t h es) := toD_lst (toDs_cons (toD_pair t h) (toDs_cons (toD_lst (toDs_evts es)) toDs_nil))
theorem Rp.both {t h : List Str} {es : List Evt} (b : Both t h) (he : ∀ e ∈ es, e.ok t) (hl : es.length ≤ 400) : Rp 3 60000 (bothD t h es) := by
  refine (Rp.lst (N := 2) (B := 25000) (n := 2) (fun d hd => ?_) (by simp)).mono (by omega) (by omega)
  simp only [List.mem_cons, List.not_mem_nil, or_false] at hd
  rcases hd with rfl | rfl
  · exact (Rp.pair b.row b.rowH).mono (by omega) (by omega)
  · exact (Rp.evts b.row he hl).mono (by omega) (by omega)
theorem toD_goR {s : Stt} (t h : List Str) (es : List Evt) : toD (goS s t h es) (goR s.length t h es) = some (goD t h es) := by
  unfold goS goR goD
  exact toD_tup (toDs_cons (toD_pair _ _) (toDs_cons (toD_locS (by simp)) (toDs_cons (toD_locS (by simp)) toDs_nil)))
theorem again_ok {t h : List Str} {es : List Evt} {i N : Nat} {x0 x1 x2 x3 x4 k x10 : Option W} (b : Both t h) (he : ∀ e ∈ es, e.ok t) (hl : es.length ≤ 400) (sp : Sp st i N) : ∃ (x : Option W) (st' : Stt),
    againB [x0, x1, x2, x3, x4, some (.tup [wS t, wS h]), some (.lst (es.map Evt.w)), some (.str (bothD t h es).shown), some (goW t h es), k, x10] st = .nx [x0, x1, x2, x3, x4, some (.tup [wS t, wS h]), some (.lst (es.map Evt.w)), some (.str (bothD t h es).shown), some (goW t h es), k, x] st' ∧ Sp st' i N := by
  have g := goR_ok (st := st) (x := .lst (es.map Evt.w)) b Evs.lst he (by omega)
  have rg := Rp.go b he hl
  have rb := Rp.both b he hl
  have p1 := rg.fn (toD_goR (s := st) t h es) rfl (by omega) (by omega)
  have p2 : ∀ s : Stt, fRepr s [goW t h es] = some (.str (goD t h es).shown) := fun s => rg.fn (toD_goW t h es) rfl (by omega) (by omega)
  have p3 : ∀ s : Stt, fRepr s [.lst [.tup [wS t, wS h], .lst (es.map Evt.w)]] = some (.str (bothD t h es).shown) := fun s => rb.fn (toD_both t h es) rfl (by omega) (by omega)
  have n1 : ∀ s : Stt, fNe s (.str (goD t h es).shown) (.str (goD t h es).shown) = some (.bl false) := fun s => rg.ne
  have n2 : ∀ s : Stt, fNe s (.str (bothD t h es).shown) (.str (bothD t h es).shown) = some (.bl false) := fun s => rb.ne
  have l1 := said_len es t h
  have l2 := read_len es t h
  have m2 := gone_read b he
  obtain ⟨A, hA⟩ : ∃ A, A = (goneE t h es).2.2.1.map W.str := ⟨_, rfl⟩
  obtain ⟨B, hB⟩ : ∃ B, B = (goneE t h es).2.2.2.map W.str := ⟨_, rfl⟩
  have lA : A.length < 100000 := by rw [hA, List.length_map]; omega
  have lB : B.length < 100000 := by rw [hB, List.length_map]; omega
  have q0 : goS st t h es = st ++ [some (.lst A), some (.lst B)] := by rw [hA, hB]; rfl
  have i1 : ∀ s : Stt, fIx s (goR st.length t h es) (.int 1) = some (.loc st.length) := fun s => rfl
  have i2 : ∀ s : Stt, fIx s (goR st.length t h es) (.int 2) = some (.loc (st.length + 1)) := fun s => rfl
  have i3 : ∀ s : Stt, fIx s (goW t h es) (.int 2) = some (.lst B) := fun s => by rw [hB]; rfl
  rw [q0] at g p1
  have x1' : ∀ u v : List W, lstX (st ++ [some (.lst u), some (.lst v)]) (.loc st.length) = some u := fun u v => by simp [lstX]
  have x2' : ∀ u v : List W, lstX (st ++ [some (.lst u), some (.lst v)]) (.loc (st.length + 1)) = some v := fun u v => by simp [lstX]
  have a1 : mUp fAppend (.loc st.length) [.str "a"] (st ++ [some (.lst A), some (.lst B)]) = .ok .non (st ++ [some (.lst (A ++ [.str "a"])), some (.lst B)]) := by simp [mUp, fAppend, lA]
  have a2 : mUp fReverse (.loc (st.length + 1)) [] (st ++ [some (.lst (A ++ [.str "a"])), some (.lst B)]) = .ok .non (st ++ [some (.lst (A ++ [.str "a"])), some (.lst B.reverse)]) := by simp [mUp, fReverse]
  have a3 : mUp fAppend (.loc (st.length + 1)) [.non] (st ++ [some (.lst (A ++ [.str "a"])), some (.lst B.reverse)]) = .ok .non (st ++ [some (.lst (A ++ [.str "a"])), some (.lst (B.reverse ++ [.non]))]) := by simp [mUp, fAppend, lB]
  have n3 : fNe (st ++ [some (.lst (A ++ [.str "a"])), some (.lst B)]) (.loc (st.length + 1)) (.lst B) = some (.bl false) := by
    refine fNe_as (by rw [hB]; exact datL (n := 63) fun x hx => b.row.ltr x (m2 x hx)) ?_
    rw [hB, toD_locS (xs := (goneE t h es).2.2.2) (by simp), toD_wL]
  refine ⟨some (goR st.length t h es), _, ?_, sp_app (ex := [some (.lst (A ++ [.str "a"])), some (.lst (B.reverse ++ [.non]))]) sp⟩
  unfold againB
  rw [ev_seq]; simp only [ev_var, ev_c, ev_nil, ev_yes, ev_oNone, optR_some, optL_some, optO_some, consK2_ok, consK_ok, ev_cons, tupK_ok, ev_tup, lstK_ok, ev_lst, lstLK_ok, ev_lstL, opK2_ok, opK_ok, ev_op, tvW_bl, tvK_ok, ev_tv, tnotK_ok, ev_tnot, tandK_ok, ev_tand, torK_ok, ev_tor, fnK_ok, ev_fn, fnVK_ok, ev_fnV, fnOK_ok, ev_fnO, callK_ok, ev_call, chK3_ok, chW_bl, chK2_ok, chK_ok, ev_chain, negW_int, negK_ok, ev_neg, revTW_tup, revTK_ok, ev_revT, revLK_ok, ev_revL, revOK_ok, ev_revO, someW_int, oSomeK_ok, ev_oSome, slK3_ok, slK2_ok, slK_ok, ev_sl, slOK3_ok, slOK2_ok, slOK_ok, ev_slO, bmK2_ok, bmW_some, bmK_ok, ev_bm, idxW_tup, idxK_ok, ev_idxT, lsW_some, lenSetK_ok, ev_lenSet, isiTW_some, isiTK_ok, ev_isiT, andW_bl, orW_bl, notW_bl, andK_ok, ev_emAnd, orK_ok, ev_emOr, notK_ok, ev_emNot, ifEK_ok, ev_emIf, ev_next, seqK_nx, seqK_rt, dropK_ok, ev_drop, retK_ok, ev_ret, ev_retN, ifK_ok, ev_if, ev_brk, ev_cont, optS_some, asgK_ok, ev_asg, parK2_ok, parK_ok, ev_par, setK3_ok, setK2_ok, setK_ok, ev_setIx, ev_gname, ev_gtup, ev_gcons, ev_gnil, forK_ok, ev_for, lcV_ok, lcO_ok, lcK_ok, ev_lc, lcLK_ok, ev_lcL, srcW_some, iseqK_ok, ev_iseq, rng1K_ok, ev_rng1, rng2K_ok, ev_rng2, funK_nx, funK_rt, ev_fun, ev_callP, callPK_ok, List.getElem?_cons_zero, List.getElem?_cons_succ, List.set_cons_succ, List.set_cons_zero, Bool.not_true, Bool.not_false, if_true, if_false, Bool.false_eq_true, List.length_cons, List.length_nil, Nat.reduceAdd, Nat.reduceLeDiff, g]
  rw [ev_seq]; simp only [ev_var, ev_c, ev_nil, ev_yes, ev_oNone, optR_some, optL_some, optO_some, consK2_ok, consK_ok, ev_cons, tupK_ok, ev_tup, lstK_ok, ev_lst, lstLK_ok, ev_lstL, opK2_ok, opK_ok, ev_op, tvW_bl, tvK_ok, ev_tv, tnotK_ok, ev_tnot, tandK_ok, ev_tand, torK_ok, ev_tor, fnK_ok, ev_fn, fnVK_ok, ev_fnV, fnOK_ok, ev_fnO, callK_ok, ev_call, chK3_ok, chW_bl, chK2_ok, chK_ok, ev_chain, negW_int, negK_ok, ev_neg, revTW_tup, revTK_ok, ev_revT, revLK_ok, ev_revL, revOK_ok, ev_revO, someW_int, oSomeK_ok, ev_oSome, slK3_ok, slK2_ok, slK_ok, ev_sl, slOK3_ok, slOK2_ok, slOK_ok, ev_slO, bmK2_ok, bmW_some, bmK_ok, ev_bm, idxW_tup, idxK_ok, ev_idxT, lsW_some, lenSetK_ok, ev_lenSet, isiTW_some, isiTK_ok, ev_isiT, andW_bl, orW_bl, notW_bl, andK_ok, ev_emAnd, orK_ok, ev_emOr, notK_ok, ev_emNot, ifEK_ok, ev_emIf, ev_next, seqK_nx, seqK_rt, dropK_ok, ev_drop, retK_ok, ev_ret, ev_retN, ifK_ok, ev_if, ev_brk, ev_cont, optS_some, asgK_ok, ev_asg, parK2_ok, parK_ok, ev_par, setK3_ok, setK2_ok, setK_ok, ev_setIx, ev_gname, ev_gtup, ev_gcons, ev_gnil, forK_ok, ev_for, lcV_ok, lcO_ok, lcK_ok, ev_lc, lcLK_ok, ev_lcL, srcW_some, iseqK_ok, ev_iseq, rng1K_ok, ev_rng1, rng2K_ok, ev_rng2, funK_nx, funK_rt, ev_fun, ev_callP, callPK_ok, List.getElem?_cons_zero, List.getElem?_cons_succ, List.set_cons_succ, List.set_cons_zero, Bool.not_true, Bool.not_false, if_true, if_false, Bool.false_eq_true, List.length_cons, List.length_nil, Nat.reduceAdd, Nat.reduceLeDiff, p1, p2, n1, p3, n2]
  rw [ev_seq]; simp only [ev_var, ev_c, ev_nil, ev_yes, ev_oNone, optR_some, optL_some, optO_some, consK2_ok, consK_ok, ev_cons, tupK_ok, ev_tup, lstK_ok, ev_lst, lstLK_ok, ev_lstL, opK2_ok, opK_ok, ev_op, tvW_bl, tvK_ok, ev_tv, tnotK_ok, ev_tnot, tandK_ok, ev_tand, torK_ok, ev_tor, fnK_ok, ev_fn, fnVK_ok, ev_fnV, fnOK_ok, ev_fnO, callK_ok, ev_call, chK3_ok, chW_bl, chK2_ok, chK_ok, ev_chain, negW_int, negK_ok, ev_neg, revTW_tup, revTK_ok, ev_revT, revLK_ok, ev_revL, revOK_ok, ev_revO, someW_int, oSomeK_ok, ev_oSome, slK3_ok, slK2_ok, slK_ok, ev_sl, slOK3_ok, slOK2_ok, slOK_ok, ev_slO, bmK2_ok, bmW_some, bmK_ok, ev_bm, idxW_tup, idxK_ok, ev_idxT, lsW_some, lenSetK_ok, ev_lenSet, isiTW_some, isiTK_ok, ev_isiT, andW_bl, orW_bl, notW_bl, andK_ok, ev_emAnd, orK_ok, ev_emOr, notK_ok, ev_emNot, ifEK_ok, ev_emIf, ev_next, seqK_nx, seqK_rt, dropK_ok, ev_drop, retK_ok, ev_ret, ev_retN, ifK_ok, ev_if, ev_brk, ev_cont, optS_some, asgK_ok, ev_asg, parK2_ok, parK_ok, ev_par, setK3_ok, setK2_ok, setK_ok, ev_setIx, ev_gname, ev_gtup, ev_gcons, ev_gnil, forK_ok, ev_for, lcV_ok, lcO_ok, lcK_ok, ev_lc, lcLK_ok, ev_lcL, srcW_some, iseqK_ok, ev_iseq, rng1K_ok, ev_rng1, rng2K_ok, ev_rng2, funK_nx, funK_rt, ev_fun, ev_callP, callPK_ok, List.getElem?_cons_zero, List.getElem?_cons_succ, List.set_cons_succ, List.set_cons_zero, Bool.not_true, Bool.not_false, if_true, if_false, Bool.false_eq_true, List.length_cons, List.length_nil, Nat.reduceAdd, Nat.reduceLeDiff, i1, x1', a1]
  rw [ev_seq]; simp only [ev_var, ev_c, ev_nil, ev_yes, ev_oNone, optR_some, optL_some, optO_some, consK2_ok, consK_ok, ev_cons, tupK_ok, ev_tup, lstK_ok, ev_lst, lstLK_ok, ev_lstL, opK2_ok, opK_ok, ev_op, tvW_bl, tvK_ok, ev_tv, tnotK_ok, ev_tnot, tandK_ok, ev_tand, torK_ok, ev_tor, fnK_ok, ev_fn, fnVK_ok, ev_fnV, fnOK_ok, ev_fnO, callK_ok, ev_call, chK3_ok, chW_bl, chK2_ok, chK_ok, ev_chain, negW_int, negK_ok, ev_neg, revTW_tup, revTK_ok, ev_revT, revLK_ok, ev_revL, revOK_ok, ev_revO, someW_int, oSomeK_ok, ev_oSome, slK3_ok, slK2_ok, slK_ok, ev_sl, slOK3_ok, slOK2_ok, slOK_ok, ev_slO, bmK2_ok, bmW_some, bmK_ok, ev_bm, idxW_tup, idxK_ok, ev_idxT, lsW_some, lenSetK_ok, ev_lenSet, isiTW_some, isiTK_ok, ev_isiT, andW_bl, orW_bl, notW_bl, andK_ok, ev_emAnd, orK_ok, ev_emOr, notK_ok, ev_emNot, ifEK_ok, ev_emIf, ev_next, seqK_nx, seqK_rt, dropK_ok, ev_drop, retK_ok, ev_ret, ev_retN, ifK_ok, ev_if, ev_brk, ev_cont, optS_some, asgK_ok, ev_asg, parK2_ok, parK_ok, ev_par, setK3_ok, setK2_ok, setK_ok, ev_setIx, ev_gname, ev_gtup, ev_gcons, ev_gnil, forK_ok, ev_for, lcV_ok, lcO_ok, lcK_ok, ev_lc, lcLK_ok, ev_lcL, srcW_some, iseqK_ok, ev_iseq, rng1K_ok, ev_rng1, rng2K_ok, ev_rng2, funK_nx, funK_rt, ev_fun, ev_callP, callPK_ok, List.getElem?_cons_zero, List.getElem?_cons_succ, List.set_cons_succ, List.set_cons_zero, Bool.not_true, Bool.not_false, if_true, if_false, Bool.false_eq_true, List.length_cons, List.length_nil, Nat.reduceAdd, Nat.reduceLeDiff, i2, i3, n3]
  rw [ev_seq]; simp only [ev_var, ev_c, ev_nil, ev_yes, ev_oNone, optR_some, optL_some, optO_some, consK2_ok, consK_ok, ev_cons, tupK_ok, ev_tup, lstK_ok, ev_lst, lstLK_ok, ev_lstL, opK2_ok, opK_ok, ev_op, tvW_bl, tvK_ok, ev_tv, tnotK_ok, ev_tnot, tandK_ok, ev_tand, torK_ok, ev_tor, fnK_ok, ev_fn, fnVK_ok, ev_fnV, fnOK_ok, ev_fnO, callK_ok, ev_call, chK3_ok, chW_bl, chK2_ok, chK_ok, ev_chain, negW_int, negK_ok, ev_neg, revTW_tup, revTK_ok, ev_revT, revLK_ok, ev_revL, revOK_ok, ev_revO, someW_int, oSomeK_ok, ev_oSome, slK3_ok, slK2_ok, slK_ok, ev_sl, slOK3_ok, slOK2_ok, slOK_ok, ev_slO, bmK2_ok, bmW_some, bmK_ok, ev_bm, idxW_tup, idxK_ok, ev_idxT, lsW_some, lenSetK_ok, ev_lenSet, isiTW_some, isiTK_ok, ev_isiT, andW_bl, orW_bl, notW_bl, andK_ok, ev_emAnd, orK_ok, ev_emOr, notK_ok, ev_emNot, ifEK_ok, ev_emIf, ev_next, seqK_nx, seqK_rt, dropK_ok, ev_drop, retK_ok, ev_ret, ev_retN, ifK_ok, ev_if, ev_brk, ev_cont, optS_some, asgK_ok, ev_asg, parK2_ok, parK_ok, ev_par, setK3_ok, setK2_ok, setK_ok, ev_setIx, ev_gname, ev_gtup, ev_gcons, ev_gnil, forK_ok, ev_for, lcV_ok, lcO_ok, lcK_ok, ev_lc, lcLK_ok, ev_lcL, srcW_some, iseqK_ok, ev_iseq, rng1K_ok, ev_rng1, rng2K_ok, ev_rng2, funK_nx, funK_rt, ev_fun, ev_callP, callPK_ok, List.getElem?_cons_zero, List.getElem?_cons_succ, List.set_cons_succ, List.set_cons_zero, Bool.not_true, Bool.not_false, if_true, if_false, Bool.false_eq_true, List.length_cons, List.length_nil, Nat.reduceAdd, Nat.reduceLeDiff, i2, x2', a2]
  simp only [ev_var, ev_c, ev_nil, ev_yes, ev_oNone, optR_some, optL_some, optO_some, consK2_ok, consK_ok, ev_cons, tupK_ok, ev_tup, lstK_ok, ev_lst, lstLK_ok, ev_lstL, opK2_ok, opK_ok, ev_op, tvW_bl, tvK_ok, ev_tv, tnotK_ok, ev_tnot, tandK_ok, ev_tand, torK_ok, ev_tor, fnK_ok, ev_fn, fnVK_ok, ev_fnV, fnOK_ok, ev_fnO, callK_ok, ev_call, chK3_ok, chW_bl, chK2_ok, chK_ok, ev_chain, negW_int, negK_ok, ev_neg, revTW_tup, revTK_ok, ev_revT, revLK_ok, ev_revL, revOK_ok, ev_revO, someW_int, oSomeK_ok, ev_oSome, slK3_ok, slK2_ok, slK_ok, ev_sl, slOK3_ok, slOK2_ok, slOK_ok, ev_slO, bmK2_ok, bmW_some, bmK_ok, ev_bm, idxW_tup, idxK_ok, ev_idxT, lsW_some, lenSetK_ok, ev_lenSet, isiTW_some, isiTK_ok, ev_isiT, andW_bl, orW_bl, notW_bl, andK_ok, ev_emAnd, orK_ok, ev_emOr, notK_ok, ev_emNot, ifEK_ok, ev_emIf, ev_next, seqK_nx, seqK_rt, dropK_ok, ev_drop, retK_ok, ev_ret, ev_retN, ifK_ok, ev_if, ev_brk, ev_cont, optS_some, asgK_ok, ev_asg, parK2_ok, parK_ok, ev_par, setK3_ok, setK2_ok, setK_ok, ev_setIx, ev_gname, ev_gtup, ev_gcons, ev_gnil, forK_ok, ev_for, lcV_ok, lcO_ok, lcK_ok, ev_lc, lcLK_ok, ev_lcL, srcW_some, iseqK_ok, ev_iseq, rng1K_ok, ev_rng1, rng2K_ok, ev_rng2, funK_nx, funK_rt, ev_fun, ev_callP, callPK_ok, List.getElem?_cons_zero, List.getElem?_cons_succ, List.set_cons_succ, List.set_cons_zero, Bool.not_true, Bool.not_false, if_true, if_false, Bool.false_eq_true, List.length_cons, List.length_nil, Nat.reduceAdd, Nat.reduceLeDiff, i2, x2', a3]
noncomputable abbrev turnB : SM := (sSeq (sAsg (eCall m__law_two (aCons (eVar 3) (aCons (eOp fIx (eLst (aCons (eC (.int 4)) (aCons (eC (.int 16)) aNil))) (eCall m__law_wind (aCons (eVar 3) (aCons (eC (.int 2)) aNil)))) aNil))) (gmName 5))
    (sSeq (sAsg (eCall m__law_events (aCons (eVar 3) (aCons (eOp fIx (eVar 5) (eC (.int 0))) (aCons (eOp fIx (eLst (aCons (eC (.int 12)) (aCons (eC (.int 200)) aNil))) (eOp fDiv (eCall m__law_wind (aCons (eVar 3) (aCons (eC (.int 4)) aNil))) (eC (.int 3)))) (aCons (eVar 1) aNil))))) (gmName 6))
    (sSeq (sAsg (eFn fRepr (aCons (eLst (aCons (eVar 5) (aCons (eVar 6) aNil))) aNil)) (gmName 7))
    (sSeq (sAsg (eCall m__law_led (aCons (eVar 5) (aCons (eVar 6) aNil))) (gmName 8))
    (sSeq (sFor (iRange1 (aCons (eC (.int 2)) aNil)) (gmName 9) againB)
    (sIf (tmOr (tmV (eOp fNe (eCallP [1, 0] m_go (aCons (eVar 6) (aCons (eVar 5) aNil))) (eVar 8))) (tmV (eOp fNe (eFn fRepr (aCons (eCall m_go (aCons (eVar 5) (aCons (eLst aNil) aNil))) aNil)) (eFn fRepr (aCons (eTup (aCons (eVar 5) (aCons (eLst aNil) (aCons (eLst aNil) aNil)))) aNil))))) (sRet (eC (.bl false))) sNext))))))
theorem turn_ok {i N : Nat} {x0 x2 x4 : Option W} {tl : Ev} (hl : tl.length = 6) (sp : Sp st i (N + 1100)) : ∃ (tl' : Ev) (st' : Stt), tl'.length = 6 ∧
    turnB ([x0, some (wL kinds1), x2, some (.loc i)] ++ x4 :: tl) st = .nx ([x0, some (wL kinds1), x2, some (.loc i)] ++ x4 :: tl') st' ∧ Sp st' i N := by
  match tl, hl with
  | [a5, a6, a7, a8, a9, a10], _ =>
  obtain ⟨v, st1, w1, w2, w3, w4⟩ := wind_ok (N := N + 1099) (n := (2 : Int)) (by omega) (by omega) (sp.le (by omega))
  obtain ⟨most, hm, hm1, hm2⟩ : ∃ most : Nat, (∀ s : Stt, fIx s (.lst [.int 4, .int 16]) (.int v) = some (.int (most : Int))) ∧ 1 ≤ most ∧ most ≤ 16 := by
    have : v = 0 ∨ v = 1 := by omega
    rcases this with rfl | rfl
    · exact ⟨4, fun s => rfl, by omega, by omega⟩
    · exact ⟨16, fun s => rfl, by omega, by omega⟩
  obtain ⟨t, h, st2, e1, b, d2⟩ := two_ok (N := N + 1019) hm1 hm2 (w4.sp.le (by omega))
  obtain ⟨u, st3, u1, u2, u3, u4⟩ := wind_ok (N := N + 1018) (n := (4 : Int)) (by omega) (by omega) (d2.sp.le (by omega))
  obtain ⟨lim, hlm, hlm2⟩ : ∃ lim : Nat, (∀ s : Stt, fIx s (.lst [.int 12, .int 200]) (.int (u / 3)) = some (.int (lim : Int))) ∧ lim ≤ 200 := by
    have : u / 3 = 0 ∨ u / 3 = 1 := by omega
    rcases this with e | e
    · rw [e]; exact ⟨12, fun s => rfl, by omega⟩
    · rw [e]; exact ⟨200, fun s => rfl, by omega⟩
  obtain ⟨es, st4, e3, hl, hes, d4⟩ := events_ok (N := N) (most := lim) (ks := kinds1) b.row (fun k hk => by simp only [kinds1, kinds5, List.mem_cons, List.not_mem_nil, or_false] at hk ⊢; rcases hk with h | h | h | h | h <;> simp [h]) (by decide) (by decide) (by omega) (u4.sp.le (by omega))
  have he : ∀ e ∈ es, e.ok t := fun e hm => (hes e hm).1
  have dv : ∀ s : Stt, fDiv s (.int u) (.int 3) = some (.int (u / 3)) := fun s => f_div u 3 (by decide) (by decide)
  have rb := Rp.both b he (by omega)
  have p3 : ∀ s : Stt, fRepr s [.lst [.tup [wS t, wS h], .lst (es.map Evt.w)]] = some (.str (bothD t h es).shown) := fun s => rb.fn (toD_both t h es) rfl (by omega) (by omega)
  have ld := led_ok (st := st4) (x := .lst (es.map Evt.w)) b Evs.lst he (by omega)
  have r2 : rng1W [.int 2] st4 = .ok ⟨rngW 0 2, fun _ => True⟩ st4 := rng1_nat (st := st4) (n := 2) (by decide)
  obtain ⟨y9, y10, st5, l5, e5, s5⟩ := turns_any (turnB := againB) (I := fun s => Sp s i N) (p := 9) (n := 1) (pre := [x0, some (wL kinds1), x2, some (.loc i), x4, some (.tup [wS t, wS h]), some (.lst (es.map Evt.w)), some (.str (bothD t h es).shown), some (goW t h es)]) rfl (fun k s tl hl sp => by
    match tl, hl with
    | [x10], _ =>
    obtain ⟨x, st', e, q⟩ := again_ok (x0 := x0) (x1 := some (wL kinds1)) (x2 := x2) (x3 := some (.loc i)) (x4 := x4) (k := some k) (x10 := x10) b he (by omega) sp
    exact ⟨[x], st', rfl, e, q⟩) (rngW 0 2) st4 a9 [a10] rfl d4.sp
  have g6 := goR_ok (st := st5) (x := .lst (es.map Evt.w)) b Evs.lst he (by omega)
  have n6 : fNe (goS st5 t h es) (goR st5.length t h es) (goW t h es) = some (.bl false) := fNe_as (dat_go b he) ((toD_goR t h es).trans (toD_goW t h es).symm)
  have g7 := goR_ok (st := goS st5 t h es) (x := .lst []) (es := []) b Evs.lst (fun _ hm => absurd hm List.not_mem_nil) (by simp)
  obtain ⟨s7, hs7⟩ : ∃ s7, s7 = goS (goS st5 t h es) t h [] := ⟨_, rfl⟩
  have rg0 := Rp.go (es := []) b (fun _ hm => absurd hm List.not_mem_nil) (by simp)
  have p7 := rg0.fn (toD_goR (s := goS st5 t h es) t h []) rfl (by omega) (by omega)
  have p8 : ∀ s : Stt, fRepr s [.tup [.tup [wS t, wS h], .lst [], .lst []]] = some (.str (goD t h []).shown) := fun s => rg0.fn (toD_goW t h []) rfl (by omega) (by omega)
  have n8 : ∀ s : Stt, fNe s (.str (goD t h []).shown) (.str (goD t h []).shown) = some (.bl false) := fun s => rg0.ne
  rw [← hs7] at g7 p7
  have pm : permL [1, 0] [W.lst (es.map Evt.w), .tup [wS t, wS h]] = [.tup [wS t, wS h], .lst (es.map Evt.w)] := rfl
  have f0 : ∀ s : Stt, fIx s (.tup [wS t, wS h]) (.int 0) = some (wS t) := fun s => rfl
  refine ⟨[some (.tup [wS t, wS h]), some (.lst (es.map Evt.w)), some (.str (bothD t h es).shown), some (goW t h es), y9] ++ y10, s7, by simp [l5], ?_, ?_⟩
  · unfold turnB
    rw [List.cons_append, List.cons_append, List.cons_append, List.cons_append, List.nil_append]
    rw [ev_seq]; simp only [ev_var, ev_c, ev_nil, ev_yes, ev_oNone, optR_some, optL_some, optO_some, consK2_ok, consK_ok, ev_cons, tupK_ok, ev_tup, lstK_ok, ev_lst, lstLK_ok, ev_lstL, opK2_ok, opK_ok, ev_op, tvW_bl, tvK_ok, ev_tv, tnotK_ok, ev_tnot, tandK_ok, ev_tand, torK_ok, ev_tor, fnK_ok, ev_fn, fnVK_ok, ev_fnV, fnOK_ok, ev_fnO, callK_ok, ev_call, chK3_ok, chW_bl, chK2_ok, chK_ok, ev_chain, negW_int, negK_ok, ev_neg, revTW_tup, revTK_ok, ev_revT, revLK_ok, ev_revL, revOK_ok, ev_revO, someW_int, oSomeK_ok, ev_oSome, slK3_ok, slK2_ok, slK_ok, ev_sl, slOK3_ok, slOK2_ok, slOK_ok, ev_slO, bmK2_ok, bmW_some, bmK_ok, ev_bm, idxW_tup, idxK_ok, ev_idxT, lsW_some, lenSetK_ok, ev_lenSet, isiTW_some, isiTK_ok, ev_isiT, andW_bl, orW_bl, notW_bl, andK_ok, ev_emAnd, orK_ok, ev_emOr, notK_ok, ev_emNot, ifEK_ok, ev_emIf, ev_next, seqK_nx, seqK_rt, dropK_ok, ev_drop, retK_ok, ev_ret, ev_retN, ifK_ok, ev_if, ev_brk, ev_cont, optS_some, asgK_ok, ev_asg, parK2_ok, parK_ok, ev_par, setK3_ok, setK2_ok, setK_ok, ev_setIx, ev_gname, ev_gtup, ev_gcons, ev_gnil, forK_ok, ev_for, lcV_ok, lcO_ok, lcK_ok, ev_lc, lcLK_ok, ev_lcL, srcW_some, iseqK_ok, ev_iseq, rng1K_ok, ev_rng1, rng2K_ok, ev_rng2, funK_nx, funK_rt, ev_fun, ev_callP, callPK_ok, List.getElem?_cons_zero, List.getElem?_cons_succ, List.set_cons_succ, List.set_cons_zero, Bool.not_true, Bool.not_false, if_true, if_false, Bool.false_eq_true, List.length_cons, List.length_nil, Nat.reduceAdd, Nat.reduceLeDiff, w1, hm, e1]
    rw [ev_seq]; simp only [ev_var, ev_c, ev_nil, ev_yes, ev_oNone, optR_some, optL_some, optO_some, consK2_ok, consK_ok, ev_cons, tupK_ok, ev_tup, lstK_ok, ev_lst, lstLK_ok, ev_lstL, opK2_ok, opK_ok, ev_op, tvW_bl, tvK_ok, ev_tv, tnotK_ok, ev_tnot, tandK_ok, ev_tand, torK_ok, ev_tor, fnK_ok, ev_fn, fnVK_ok, ev_fnV, fnOK_ok, ev_fnO, callK_ok, ev_call, chK3_ok, chW_bl, chK2_ok, chK_ok, ev_chain, negW_int, negK_ok, ev_neg, revTW_tup, revTK_ok, ev_revT, revLK_ok, ev_revL, revOK_ok, ev_revO, someW_int, oSomeK_ok, ev_oSome, slK3_ok, slK2_ok, slK_ok, ev_sl, slOK3_ok, slOK2_ok, slOK_ok, ev_slO, bmK2_ok, bmW_some, bmK_ok, ev_bm, idxW_tup, idxK_ok, ev_idxT, lsW_some, lenSetK_ok, ev_lenSet, isiTW_some, isiTK_ok, ev_isiT, andW_bl, orW_bl, notW_bl, andK_ok, ev_emAnd, orK_ok, ev_emOr, notK_ok, ev_emNot, ifEK_ok, ev_emIf, ev_next, seqK_nx, seqK_rt, dropK_ok, ev_drop, retK_ok, ev_ret, ev_retN, ifK_ok, ev_if, ev_brk, ev_cont, optS_some, asgK_ok, ev_asg, parK2_ok, parK_ok, ev_par, setK3_ok, setK2_ok, setK_ok, ev_setIx, ev_gname, ev_gtup, ev_gcons, ev_gnil, forK_ok, ev_for, lcV_ok, lcO_ok, lcK_ok, ev_lc, lcLK_ok, ev_lcL, srcW_some, iseqK_ok, ev_iseq, rng1K_ok, ev_rng1, rng2K_ok, ev_rng2, funK_nx, funK_rt, ev_fun, ev_callP, callPK_ok, List.getElem?_cons_zero, List.getElem?_cons_succ, List.set_cons_succ, List.set_cons_zero, Bool.not_true, Bool.not_false, if_true, if_false, Bool.false_eq_true, List.length_cons, List.length_nil, Nat.reduceAdd, Nat.reduceLeDiff, f0, u1, dv, hlm, e3]
    rw [ev_seq]; simp only [ev_var, ev_c, ev_nil, ev_yes, ev_oNone, optR_some, optL_some, optO_some, consK2_ok, consK_ok, ev_cons, tupK_ok, ev_tup, lstK_ok, ev_lst, lstLK_ok, ev_lstL, opK2_ok, opK_ok, ev_op, tvW_bl, tvK_ok, ev_tv, tnotK_ok, ev_tnot, tandK_ok, ev_tand, torK_ok, ev_tor, fnK_ok, ev_fn, fnVK_ok, ev_fnV, fnOK_ok, ev_fnO, callK_ok, ev_call, chK3_ok, chW_bl, chK2_ok, chK_ok, ev_chain, negW_int, negK_ok, ev_neg, revTW_tup, revTK_ok, ev_revT, revLK_ok, ev_revL, revOK_ok, ev_revO, someW_int, oSomeK_ok, ev_oSome, slK3_ok, slK2_ok, slK_ok, ev_sl, slOK3_ok, slOK2_ok, slOK_ok, ev_slO, bmK2_ok, bmW_some, bmK_ok, ev_bm, idxW_tup, idxK_ok, ev_idxT, lsW_some, lenSetK_ok, ev_lenSet, isiTW_some, isiTK_ok, ev_isiT, andW_bl, orW_bl, notW_bl, andK_ok, ev_emAnd, orK_ok, ev_emOr, notK_ok, ev_emNot, ifEK_ok, ev_emIf, ev_next, seqK_nx, seqK_rt, dropK_ok, ev_drop, retK_ok, ev_ret, ev_retN, ifK_ok, ev_if, ev_brk, ev_cont, optS_some, asgK_ok, ev_asg, parK2_ok, parK_ok, ev_par, setK3_ok, setK2_ok, setK_ok, ev_setIx, ev_gname, ev_gtup, ev_gcons, ev_gnil, forK_ok, ev_for, lcV_ok, lcO_ok, lcK_ok, ev_lc, lcLK_ok, ev_lcL, srcW_some, iseqK_ok, ev_iseq, rng1K_ok, ev_rng1, rng2K_ok, ev_rng2, funK_nx, funK_rt, ev_fun, ev_callP, callPK_ok, List.getElem?_cons_zero, List.getElem?_cons_succ, List.set_cons_succ, List.set_cons_zero, Bool.not_true, Bool.not_false, if_true, if_false, Bool.false_eq_true, List.length_cons, List.length_nil, Nat.reduceAdd, Nat.reduceLeDiff, p3]
    rw [ev_seq]; simp only [ev_var, ev_c, ev_nil, ev_yes, ev_oNone, optR_some, optL_some, optO_some, consK2_ok, consK_ok, ev_cons, tupK_ok, ev_tup, lstK_ok, ev_lst, lstLK_ok, ev_lstL, opK2_ok, opK_ok, ev_op, tvW_bl, tvK_ok, ev_tv, tnotK_ok, ev_tnot, tandK_ok, ev_tand, torK_ok, ev_tor, fnK_ok, ev_fn, fnVK_ok, ev_fnV, fnOK_ok, ev_fnO, callK_ok, ev_call, chK3_ok, chW_bl, chK2_ok, chK_ok, ev_chain, negW_int, negK_ok, ev_neg, revTW_tup, revTK_ok, ev_revT, revLK_ok, ev_revL, revOK_ok, ev_revO, someW_int, oSomeK_ok, ev_oSome, slK3_ok, slK2_ok, slK_ok, ev_sl, slOK3_ok, slOK2_ok, slOK_ok, ev_slO, bmK2_ok, bmW_some, bmK_ok, ev_bm, idxW_tup, idxK_ok, ev_idxT, lsW_some, lenSetK_ok, ev_lenSet, isiTW_some, isiTK_ok, ev_isiT, andW_bl, orW_bl, notW_bl, andK_ok, ev_emAnd, orK_ok, ev_emOr, notK_ok, ev_emNot, ifEK_ok, ev_emIf, ev_next, seqK_nx, seqK_rt, dropK_ok, ev_drop, retK_ok, ev_ret, ev_retN, ifK_ok, ev_if, ev_brk, ev_cont, optS_some, asgK_ok, ev_asg, parK2_ok, parK_ok, ev_par, setK3_ok, setK2_ok, setK_ok, ev_setIx, ev_gname, ev_gtup, ev_gcons, ev_gnil, forK_ok, ev_for, lcV_ok, lcO_ok, lcK_ok, ev_lc, lcLK_ok, ev_lcL, srcW_some, iseqK_ok, ev_iseq, rng1K_ok, ev_rng1, rng2K_ok, ev_rng2, funK_nx, funK_rt, ev_fun, ev_callP, callPK_ok, List.getElem?_cons_zero, List.getElem?_cons_succ, List.set_cons_succ, List.set_cons_zero, Bool.not_true, Bool.not_false, if_true, if_false, Bool.false_eq_true, List.length_cons, List.length_nil, Nat.reduceAdd, Nat.reduceLeDiff, ld]
    rw [ev_seq]
    simp only [ev_var, ev_c, ev_nil, ev_yes, ev_oNone, optR_some, optL_some, optO_some, consK2_ok, consK_ok, ev_cons, tupK_ok, ev_tup, lstK_ok, ev_lst, lstLK_ok, ev_lstL, opK2_ok, opK_ok, ev_op, tvW_bl, tvK_ok, ev_tv, tnotK_ok, ev_tnot, tandK_ok, ev_tand, torK_ok, ev_tor, fnK_ok, ev_fn, fnVK_ok, ev_fnV, fnOK_ok, ev_fnO, callK_ok, ev_call, chK3_ok, chW_bl, chK2_ok, chK_ok, ev_chain, negW_int, negK_ok, ev_neg, revTW_tup, revTK_ok, ev_revT, revLK_ok, ev_revL, revOK_ok, ev_revO, someW_int, oSomeK_ok, ev_oSome, slK3_ok, slK2_ok, slK_ok, ev_sl, slOK3_ok, slOK2_ok, slOK_ok, ev_slO, bmK2_ok, bmW_some, bmK_ok, ev_bm, idxW_tup, idxK_ok, ev_idxT, lsW_some, lenSetK_ok, ev_lenSet, isiTW_some, isiTK_ok, ev_isiT, andW_bl, orW_bl, notW_bl, andK_ok, ev_emAnd, orK_ok, ev_emOr, notK_ok, ev_emNot, ifEK_ok, ev_emIf, ev_next, seqK_nx, seqK_rt, dropK_ok, ev_drop, retK_ok, ev_ret, ev_retN, ifK_ok, ev_if, ev_brk, ev_cont, optS_some, asgK_ok, ev_asg, parK2_ok, parK_ok, ev_par, setK3_ok, setK2_ok, setK_ok, ev_setIx, ev_gname, ev_gtup, ev_gcons, ev_gnil, forK_ok, ev_for, lcV_ok, lcO_ok, lcK_ok, ev_lc, lcLK_ok, ev_lcL, srcW_some, iseqK_ok, ev_iseq, rng1K_ok, ev_rng1, rng2K_ok, ev_rng2, funK_nx, funK_rt, ev_fun, ev_callP, callPK_ok, List.getElem?_cons_zero, List.getElem?_cons_succ, List.set_cons_succ, List.set_cons_zero, Bool.not_true, Bool.not_false, if_true, if_false, Bool.false_eq_true, List.length_cons, List.length_nil, Nat.reduceAdd, Nat.reduceLeDiff, r2]
    simp only [List.cons_append, List.nil_append] at e5
    rw [e5]
    match y10, l5 with
    | [z10], _ =>
    simp only [ev_var, ev_c, ev_nil, ev_yes, ev_oNone, optR_some, optL_some, optO_some, consK2_ok, consK_ok, ev_cons, tupK_ok, ev_tup, lstK_ok, ev_lst, lstLK_ok, ev_lstL, opK2_ok, opK_ok, ev_op, tvW_bl, tvK_ok, ev_tv, tnotK_ok, ev_tnot, tandK_ok, ev_tand, torK_ok, ev_tor, fnK_ok, ev_fn, fnVK_ok, ev_fnV, fnOK_ok, ev_fnO, callK_ok, ev_call, chK3_ok, chW_bl, chK2_ok, chK_ok, ev_chain, negW_int, negK_ok, ev_neg, revTW_tup, revTK_ok, ev_revT, revLK_ok, ev_revL, revOK_ok, ev_revO, someW_int, oSomeK_ok, ev_oSome, slK3_ok, slK2_ok, slK_ok, ev_sl, slOK3_ok, slOK2_ok, slOK_ok, ev_slO, bmK2_ok, bmW_some, bmK_ok, ev_bm, idxW_tup, idxK_ok, ev_idxT, lsW_some, lenSetK_ok, ev_lenSet, isiTW_some, isiTK_ok, ev_isiT, andW_bl, orW_bl, notW_bl, andK_ok, ev_emAnd, orK_ok, ev_emOr, notK_ok, ev_emNot, ifEK_ok, ev_emIf, ev_next, seqK_nx, seqK_rt, dropK_ok, ev_drop, retK_ok, ev_ret, ev_retN, ifK_ok, ev_if, ev_brk, ev_cont, optS_some, asgK_ok, ev_asg, parK2_ok, parK_ok, ev_par, setK3_ok, setK2_ok, setK_ok, ev_setIx, ev_gname, ev_gtup, ev_gcons, ev_gnil, forK_ok, ev_for, lcV_ok, lcO_ok, lcK_ok, ev_lc, lcLK_ok, ev_lcL, srcW_some, iseqK_ok, ev_iseq, rng1K_ok, ev_rng1, rng2K_ok, ev_rng2, funK_nx, funK_rt, ev_fun, ev_callP, callPK_ok, List.getElem?_cons_zero, List.getElem?_cons_succ, List.set_cons_succ, List.set_cons_zero, Bool.not_true, Bool.not_false, if_true, if_false, Bool.false_eq_true, List.length_cons, List.length_nil, Nat.reduceAdd, Nat.reduceLeDiff, pm, g6, n6, g7, p7, p8, n8, List.cons_append, List.nil_append]
  · rw [hs7]; exact sp_app (sp_app s5)
theorem law_all (ns : List Int) (h : ns.length ≤ 63) : ∃ st', m_law [.scr (ns.map .int)] [] = .ok (.bl true) st' := by
  have hb : ∀ (k : Nat), k ≤ 60 → ∀ (st : Stt) (tl : Ev), tl.length = 8 → ∃ (tl' : Ev) (st' : Stt), tl'.length = 8 ∧ (sSeq (sAsg (eCall m__law_spool (aCons (eVar 0) (aCons (eVar 2) aNil))) (gmName 3))
    (sFor (iRange1 (aCons (eC (.int 4)) aNil)) (gmName 4) turnB)) ([some (.scr (ns.map .int)), some (wL kinds1)] ++ some (.int (k : Int)) :: tl) st = .nx ([some (.scr (ns.map .int)), some (wL kinds1)] ++ some (.int (k : Int)) :: tl') st' := fun k hk st tl hl => by
    match tl, hl with
    | [a3, a4, a5, a6, a7, a8, a9, a10], _ =>
    obtain ⟨st1, e1, sp⟩ := spool_ok (st := st) (ns := ns) (k := k) (by omega)
    obtain ⟨b4, tl', st', l4, e4, s4⟩ := turns_gen (turnB := turnB) (p := 4) (n := 6) (i := st.length) (M := 1100) (N := 0) (pre := [some (.scr (ns.map .int)), some (wL kinds1), some (.int (k : Int)), some (.loc st.length)]) rfl (fun N k' s tl hl sp => turn_ok hl sp) (rngW 0 4) st1 a4 [a5, a6, a7, a8, a9, a10] rfl (sp.le (by simp [rngW]))
    have r4 : rng1W [.int 4] st1 = .ok ⟨rngW 0 4, fun _ => True⟩ st1 := rng1_nat (st := st1) (n := 4) (by decide)
    refine ⟨some (.loc st.length) :: b4 :: tl', st', by simp [l4], ?_⟩
    rw [List.cons_append, List.cons_append, List.nil_append]
    rw [ev_seq]; simp only [ev_var, ev_c, ev_nil, ev_yes, ev_oNone, optR_some, optL_some, optO_some, consK2_ok, consK_ok, ev_cons, tupK_ok, ev_tup, lstK_ok, ev_lst, lstLK_ok, ev_lstL, opK2_ok, opK_ok, ev_op, tvW_bl, tvK_ok, ev_tv, tnotK_ok, ev_tnot, tandK_ok, ev_tand, torK_ok, ev_tor, fnK_ok, ev_fn, fnVK_ok, ev_fnV, fnOK_ok, ev_fnO, callK_ok, ev_call, chK3_ok, chW_bl, chK2_ok, chK_ok, ev_chain, negW_int, negK_ok, ev_neg, revTW_tup, revTK_ok, ev_revT, revLK_ok, ev_revL, revOK_ok, ev_revO, someW_int, oSomeK_ok, ev_oSome, slK3_ok, slK2_ok, slK_ok, ev_sl, slOK3_ok, slOK2_ok, slOK_ok, ev_slO, bmK2_ok, bmW_some, bmK_ok, ev_bm, idxW_tup, idxK_ok, ev_idxT, lsW_some, lenSetK_ok, ev_lenSet, isiTW_some, isiTK_ok, ev_isiT, andW_bl, orW_bl, notW_bl, andK_ok, ev_emAnd, orK_ok, ev_emOr, notK_ok, ev_emNot, ifEK_ok, ev_emIf, ev_next, seqK_nx, seqK_rt, dropK_ok, ev_drop, retK_ok, ev_ret, ev_retN, ifK_ok, ev_if, ev_brk, ev_cont, optS_some, asgK_ok, ev_asg, parK2_ok, parK_ok, ev_par, setK3_ok, setK2_ok, setK_ok, ev_setIx, ev_gname, ev_gtup, ev_gcons, ev_gnil, forK_ok, ev_for, lcV_ok, lcO_ok, lcK_ok, ev_lc, lcLK_ok, ev_lcL, srcW_some, iseqK_ok, ev_iseq, rng1K_ok, ev_rng1, rng2K_ok, ev_rng2, funK_nx, funK_rt, ev_fun, ev_callP, callPK_ok, List.getElem?_cons_zero, List.getElem?_cons_succ, List.set_cons_succ, List.set_cons_zero, Bool.not_true, Bool.not_false, if_true, if_false, Bool.false_eq_true, List.length_cons, List.length_nil, Nat.reduceAdd, Nat.reduceLeDiff, e1]
    simp only [ev_var, ev_c, ev_nil, ev_yes, ev_oNone, optR_some, optL_some, optO_some, consK2_ok, consK_ok, ev_cons, tupK_ok, ev_tup, lstK_ok, ev_lst, lstLK_ok, ev_lstL, opK2_ok, opK_ok, ev_op, tvW_bl, tvK_ok, ev_tv, tnotK_ok, ev_tnot, tandK_ok, ev_tand, torK_ok, ev_tor, fnK_ok, ev_fn, fnVK_ok, ev_fnV, fnOK_ok, ev_fnO, callK_ok, ev_call, chK3_ok, chW_bl, chK2_ok, chK_ok, ev_chain, negW_int, negK_ok, ev_neg, revTW_tup, revTK_ok, ev_revT, revLK_ok, ev_revL, revOK_ok, ev_revO, someW_int, oSomeK_ok, ev_oSome, slK3_ok, slK2_ok, slK_ok, ev_sl, slOK3_ok, slOK2_ok, slOK_ok, ev_slO, bmK2_ok, bmW_some, bmK_ok, ev_bm, idxW_tup, idxK_ok, ev_idxT, lsW_some, lenSetK_ok, ev_lenSet, isiTW_some, isiTK_ok, ev_isiT, andW_bl, orW_bl, notW_bl, andK_ok, ev_emAnd, orK_ok, ev_emOr, notK_ok, ev_emNot, ifEK_ok, ev_emIf, ev_next, seqK_nx, seqK_rt, dropK_ok, ev_drop, retK_ok, ev_ret, ev_retN, ifK_ok, ev_if, ev_brk, ev_cont, optS_some, asgK_ok, ev_asg, parK2_ok, parK_ok, ev_par, setK3_ok, setK2_ok, setK_ok, ev_setIx, ev_gname, ev_gtup, ev_gcons, ev_gnil, forK_ok, ev_for, lcV_ok, lcO_ok, lcK_ok, ev_lc, lcLK_ok, ev_lcL, srcW_some, iseqK_ok, ev_iseq, rng1K_ok, ev_rng1, rng2K_ok, ev_rng2, funK_nx, funK_rt, ev_fun, ev_callP, callPK_ok, List.getElem?_cons_zero, List.getElem?_cons_succ, List.set_cons_succ, List.set_cons_zero, Bool.not_true, Bool.not_false, if_true, if_false, Bool.false_eq_true, List.length_cons, List.length_nil, Nat.reduceAdd, Nat.reduceLeDiff, r4]
    exact e4
  obtain ⟨ρ', st', e⟩ := for_pre (p := 2) (n := 8) (c := 5) (ns := ns) (pre := [some (.scr (ns.map .int)), some (wL kinds1)]) rfl (by decide) (by decide) rfl hb [] none [none, none, none, none, none, none, none, none] rfl
  refine frz_true (st' := st') ?_
  unfold r_law
  rw [ev_fun]
  rw [show entry 11 [W.scr (ns.map .int)] = [some (.scr (ns.map .int)), none, none, none, none, none, none, none, none, none, none] from rfl]
  rw [ev_seq]
  simp only [ev_var, ev_c, ev_nil, ev_yes, ev_oNone, optR_some, optL_some, optO_some, consK2_ok, consK_ok, ev_cons, tupK_ok, ev_tup, lstK_ok, ev_lst, lstLK_ok, ev_lstL, opK2_ok, opK_ok, ev_op, tvW_bl, tvK_ok, ev_tv, tnotK_ok, ev_tnot, tandK_ok, ev_tand, torK_ok, ev_tor, fnK_ok, ev_fn, fnVK_ok, ev_fnV, fnOK_ok, ev_fnO, callK_ok, ev_call, chK3_ok, chW_bl, chK2_ok, chK_ok, ev_chain, negW_int, negK_ok, ev_neg, revTW_tup, revTK_ok, ev_revT, revLK_ok, ev_revL, revOK_ok, ev_revO, someW_int, oSomeK_ok, ev_oSome, slK3_ok, slK2_ok, slK_ok, ev_sl, slOK3_ok, slOK2_ok, slOK_ok, ev_slO, bmK2_ok, bmW_some, bmK_ok, ev_bm, idxW_tup, idxK_ok, ev_idxT, lsW_some, lenSetK_ok, ev_lenSet, isiTW_some, isiTK_ok, ev_isiT, andW_bl, orW_bl, notW_bl, andK_ok, ev_emAnd, orK_ok, ev_emOr, notK_ok, ev_emNot, ifEK_ok, ev_emIf, ev_next, seqK_nx, seqK_rt, dropK_ok, ev_drop, retK_ok, ev_ret, ev_retN, ifK_ok, ev_if, ev_brk, ev_cont, optS_some, asgK_ok, ev_asg, parK2_ok, parK_ok, ev_par, setK3_ok, setK2_ok, setK_ok, ev_setIx, ev_gname, ev_gtup, ev_gcons, ev_gnil, forK_ok, ev_for, lcV_ok, lcO_ok, lcK_ok, ev_lc, lcLK_ok, ev_lcL, srcW_some, iseqK_ok, ev_iseq, rng1K_ok, ev_rng1, rng2K_ok, ev_rng2, funK_nx, funK_rt, ev_fun, ev_callP, callPK_ok, List.getElem?_cons_zero, List.getElem?_cons_succ, List.set_cons_succ, List.set_cons_zero, Bool.not_true, Bool.not_false, if_true, if_false, Bool.false_eq_true, List.length_cons, List.length_nil, Nat.reduceAdd, Nat.reduceLeDiff]
  rw [ev_seq]
  refine Eq.trans (congrArg (fun z => funK (seqK (sRet (eC (.bl true))) z)) e) ?_
  simp only [ev_var, ev_c, ev_nil, ev_yes, ev_oNone, optR_some, optL_some, optO_some, consK2_ok, consK_ok, ev_cons, tupK_ok, ev_tup, lstK_ok, ev_lst, lstLK_ok, ev_lstL, opK2_ok, opK_ok, ev_op, tvW_bl, tvK_ok, ev_tv, tnotK_ok, ev_tnot, tandK_ok, ev_tand, torK_ok, ev_tor, fnK_ok, ev_fn, fnVK_ok, ev_fnV, fnOK_ok, ev_fnO, callK_ok, ev_call, chK3_ok, chW_bl, chK2_ok, chK_ok, ev_chain, negW_int, negK_ok, ev_neg, revTW_tup, revTK_ok, ev_revT, revLK_ok, ev_revL, revOK_ok, ev_revO, someW_int, oSomeK_ok, ev_oSome, slK3_ok, slK2_ok, slK_ok, ev_sl, slOK3_ok, slOK2_ok, slOK_ok, ev_slO, bmK2_ok, bmW_some, bmK_ok, ev_bm, idxW_tup, idxK_ok, ev_idxT, lsW_some, lenSetK_ok, ev_lenSet, isiTW_some, isiTK_ok, ev_isiT, andW_bl, orW_bl, notW_bl, andK_ok, ev_emAnd, orK_ok, ev_emOr, notK_ok, ev_emNot, ifEK_ok, ev_emIf, ev_next, seqK_nx, seqK_rt, dropK_ok, ev_drop, retK_ok, ev_ret, ev_retN, ifK_ok, ev_if, ev_brk, ev_cont, optS_some, asgK_ok, ev_asg, parK2_ok, parK_ok, ev_par, setK3_ok, setK2_ok, setK_ok, ev_setIx, ev_gname, ev_gtup, ev_gcons, ev_gnil, forK_ok, ev_for, lcV_ok, lcO_ok, lcK_ok, ev_lc, lcLK_ok, ev_lcL, srcW_some, iseqK_ok, ev_iseq, rng1K_ok, ev_rng1, rng2K_ok, ev_rng2, funK_nx, funK_rt, ev_fun, ev_callP, callPK_ok, List.getElem?_cons_zero, List.getElem?_cons_succ, List.set_cons_succ, List.set_cons_zero, Bool.not_true, Bool.not_false, if_true, if_false, Bool.false_eq_true, List.length_cons, List.length_nil, Nat.reduceAdd, Nat.reduceLeDiff]
end
end Lw
end
section
set_option Elab.async false
set_option linter.all false
set_option maxRecDepth 100000
set_option maxHeartbeats 4000000
open PySem PySem.Spec PyProof.Rows L2
namespace Lw
open Sim
theorem all_mk {w : PySem.World} {K : PySem.W.Frag} {h : Heap} {mg : Str → Option Value} {fa : Addr} (X : K.In h) (G : h.Ns mainGlobals mg) (hfa : mg "law" = some (.ref fa))
    {f_is_amount : Addr} {od_is_amount an_is_amount : Option Addr} {sl_is_amount : Array (Option Value)} {oc_is_amount kV_is_amount dc_is_amount pm_is_amount cd_is_amount ct_is_amount : Value}
    (a_is_amount : PySem.W.nsIn K mainGlobals "is_amount" = some (some (.ref f_is_amount))) (l_is_amount : K.lookup f_is_amount = some ⟨oc_is_amount, od_is_amount, .func (PySem.W.fnOf "is_amount" "is_amount" (defArgs s_is_amount) (defBody s_is_amount) (defScope s_is_amount) .none kV_is_amount dc_is_amount pm_is_amount an_is_amount cd_is_amount ct_is_amount), sl_is_amount⟩) (c_is_amount : PySem.W.codeIn K cd_is_amount "is_amount" = true) (k_is_amount : PySem.W.keepIn K (.ref f_is_amount) = true)
    {f_is_letter : Addr} {od_is_letter an_is_letter : Option Addr} {sl_is_letter : Array (Option Value)} {oc_is_letter kV_is_letter dc_is_letter pm_is_letter cd_is_letter ct_is_letter : Value}
    (a_is_letter : PySem.W.nsIn K mainGlobals "is_letter" = some (some (.ref f_is_letter))) (l_is_letter : K.lookup f_is_letter = some ⟨oc_is_letter, od_is_letter, .func (PySem.W.fnOf "is_letter" "is_letter" (defArgs s_is_letter) (defBody s_is_letter) (defScope s_is_letter) .none kV_is_letter dc_is_letter pm_is_letter an_is_letter cd_is_letter ct_is_letter), sl_is_letter⟩) (c_is_letter : PySem.W.codeIn K cd_is_letter "is_letter" = true) (k_is_letter : PySem.W.keepIn K (.ref f_is_letter) = true)
    {f_is_row : Addr} {od_is_row an_is_row : Option Addr} {sl_is_row : Array (Option Value)} {oc_is_row kV_is_row dc_is_row pm_is_row cd_is_row ct_is_row : Value}
    (a_is_row : PySem.W.nsIn K mainGlobals "is_row" = some (some (.ref f_is_row))) (l_is_row : K.lookup f_is_row = some ⟨oc_is_row, od_is_row, .func (PySem.W.fnOf "is_row" "is_row" (defArgs s_is_row) (defBody s_is_row) (defScope s_is_row) .none kV_is_row dc_is_row pm_is_row an_is_row cd_is_row ct_is_row), sl_is_row⟩) (c_is_row : PySem.W.codeIn K cd_is_row "is_row" = true) (k_is_row : PySem.W.keepIn K (.ref f_is_row) = true)
    {f_is_pair : Addr} {od_is_pair an_is_pair : Option Addr} {sl_is_pair : Array (Option Value)} {oc_is_pair kV_is_pair dc_is_pair pm_is_pair cd_is_pair ct_is_pair : Value}
    (a_is_pair : PySem.W.nsIn K mainGlobals "is_pair" = some (some (.ref f_is_pair))) (l_is_pair : K.lookup f_is_pair = some ⟨oc_is_pair, od_is_pair, .func (PySem.W.fnOf "is_pair" "is_pair" (defArgs s_is_pair) (defBody s_is_pair) (defScope s_is_pair) .none kV_is_pair dc_is_pair pm_is_pair an_is_pair cd_is_pair ct_is_pair), sl_is_pair⟩) (c_is_pair : PySem.W.codeIn K cd_is_pair "is_pair" = true) (k_is_pair : PySem.W.keepIn K (.ref f_is_pair) = true)
    {f_is_place : Addr} {od_is_place an_is_place : Option Addr} {sl_is_place : Array (Option Value)} {oc_is_place kV_is_place dc_is_place pm_is_place cd_is_place ct_is_place : Value}
    (a_is_place : PySem.W.nsIn K mainGlobals "is_place" = some (some (.ref f_is_place))) (l_is_place : K.lookup f_is_place = some ⟨oc_is_place, od_is_place, .func (PySem.W.fnOf "is_place" "is_place" (defArgs s_is_place) (defBody s_is_place) (defScope s_is_place) .none kV_is_place dc_is_place pm_is_place an_is_place cd_is_place ct_is_place), sl_is_place⟩) (c_is_place : PySem.W.codeIn K cd_is_place "is_place" = true) (k_is_place : PySem.W.keepIn K (.ref f_is_place) = true)
    {f_is_event_of : Addr} {od_is_event_of an_is_event_of : Option Addr} {sl_is_event_of : Array (Option Value)} {oc_is_event_of kV_is_event_of dc_is_event_of pm_is_event_of cd_is_event_of ct_is_event_of : Value}
    (a_is_event_of : PySem.W.nsIn K mainGlobals "is_event_of" = some (some (.ref f_is_event_of))) (l_is_event_of : K.lookup f_is_event_of = some ⟨oc_is_event_of, od_is_event_of, .func (PySem.W.fnOf "is_event_of" "is_event_of" (defArgs s_is_event_of) (defBody s_is_event_of) (defScope s_is_event_of) .none kV_is_event_of dc_is_event_of pm_is_event_of an_is_event_of cd_is_event_of ct_is_event_of), sl_is_event_of⟩) (c_is_event_of : PySem.W.codeIn K cd_is_event_of "is_event_of" = true) (k_is_event_of : PySem.W.keepIn K (.ref f_is_event_of) = true)
    {f_need_pair : Addr} {od_need_pair an_need_pair : Option Addr} {sl_need_pair : Array (Option Value)} {oc_need_pair kV_need_pair dc_need_pair pm_need_pair cd_need_pair ct_need_pair : Value}
    (a_need_pair : PySem.W.nsIn K mainGlobals "need_pair" = some (some (.ref f_need_pair))) (l_need_pair : K.lookup f_need_pair = some ⟨oc_need_pair, od_need_pair, .func (PySem.W.fnOf "need_pair" "need_pair" (defArgs s_need_pair) (defBody s_need_pair) (defScope s_need_pair) .none kV_need_pair dc_need_pair pm_need_pair an_need_pair cd_need_pair ct_need_pair), sl_need_pair⟩) (c_need_pair : PySem.W.codeIn K cd_need_pair "need_pair" = true) (k_need_pair : PySem.W.keepIn K (.ref f_need_pair) = true)
    {f_are_events : Addr} {od_are_events an_are_events : Option Addr} {sl_are_events : Array (Option Value)} {oc_are_events kV_are_events dc_are_events pm_are_events cd_are_events ct_are_events : Value}
    (a_are_events : PySem.W.nsIn K mainGlobals "are_events" = some (some (.ref f_are_events))) (l_are_events : K.lookup f_are_events = some ⟨oc_are_events, od_are_events, .func (PySem.W.fnOf "are_events" "are_events" (defArgs s_are_events) (defBody s_are_events) (defScope s_are_events) .none kV_are_events dc_are_events pm_are_events an_are_events cd_are_events ct_are_events), sl_are_events⟩) (c_are_events : PySem.W.codeIn K cd_are_events "are_events" = true) (k_are_events : PySem.W.keepIn K (.ref f_are_events) = true)
    {f_need_events : Addr} {od_need_events an_need_events : Option Addr} {sl_need_events : Array (Option Value)} {oc_need_events kV_need_events dc_need_events pm_need_events cd_need_events ct_need_events : Value}
    (a_need_events : PySem.W.nsIn K mainGlobals "need_events" = some (some (.ref f_need_events))) (l_need_events : K.lookup f_need_events = some ⟨oc_need_events, od_need_events, .func (PySem.W.fnOf "need_events" "need_events" (defArgs s_need_events) (defBody s_need_events) (defScope s_need_events) .none kV_need_events dc_need_events pm_need_events an_need_events cd_need_events ct_need_events), sl_need_events⟩) (c_need_events : PySem.W.codeIn K cd_need_events "need_events" = true) (k_need_events : PySem.W.keepIn K (.ref f_need_events) = true)
    {f_to_front : Addr} {od_to_front an_to_front : Option Addr} {sl_to_front : Array (Option Value)} {oc_to_front kV_to_front dc_to_front pm_to_front cd_to_front ct_to_front : Value}
    (a_to_front : PySem.W.nsIn K mainGlobals "to_front" = some (some (.ref f_to_front))) (l_to_front : K.lookup f_to_front = some ⟨oc_to_front, od_to_front, .func (PySem.W.fnOf "to_front" "to_front" (defArgs s_to_front) (defBody s_to_front) (defScope s_to_front) .none kV_to_front dc_to_front pm_to_front an_to_front cd_to_front ct_to_front), sl_to_front⟩) (c_to_front : PySem.W.codeIn K cd_to_front "to_front" = true) (k_to_front : PySem.W.keepIn K (.ref f_to_front) = true)
    {f_done : Addr} {od_done an_done : Option Addr} {sl_done : Array (Option Value)} {oc_done kV_done dc_done pm_done cd_done ct_done : Value}
    (a_done : PySem.W.nsIn K mainGlobals "done" = some (some (.ref f_done))) (l_done : K.lookup f_done = some ⟨oc_done, od_done, .func (PySem.W.fnOf "done" "done" (defArgs s_done) (defBody s_done) (defScope s_done) .none kV_done dc_done pm_done an_done cd_done ct_done), sl_done⟩) (c_done : PySem.W.codeIn K cd_done "done" = true) (k_done : PySem.W.keepIn K (.ref f_done) = true)
    {f_gone : Addr} {od_gone an_gone : Option Addr} {sl_gone : Array (Option Value)} {oc_gone kV_gone dc_gone pm_gone cd_gone ct_gone : Value}
    (a_gone : PySem.W.nsIn K mainGlobals "gone" = some (some (.ref f_gone))) (l_gone : K.lookup f_gone = some ⟨oc_gone, od_gone, .func (PySem.W.fnOf "gone" "gone" (defArgs s_gone) (defBody s_gone) (defScope s_gone) .none kV_gone dc_gone pm_gone an_gone cd_gone ct_gone), sl_gone⟩) (c_gone : PySem.W.codeIn K cd_gone "gone" = true) (k_gone : PySem.W.keepIn K (.ref f_gone) = true)
    {f_go : Addr} {od_go an_go : Option Addr} {sl_go : Array (Option Value)} {oc_go kV_go dc_go pm_go cd_go ct_go : Value}
    (a_go : PySem.W.nsIn K mainGlobals "go" = some (some (.ref f_go))) (l_go : K.lookup f_go = some ⟨oc_go, od_go, .func (PySem.W.fnOf "go" "go" (defArgs s_go) (defBody s_go) (defScope s_go) .none kV_go dc_go pm_go an_go cd_go ct_go), sl_go⟩) (c_go : PySem.W.codeIn K cd_go "go" = true) (k_go : PySem.W.keepIn K (.ref f_go) = true)
    {f__law_spool : Addr} {od__law_spool an__law_spool : Option Addr} {sl__law_spool : Array (Option Value)} {oc__law_spool kV__law_spool dc__law_spool pm__law_spool cd__law_spool ct__law_spool : Value}
    (a__law_spool : PySem.W.nsIn K mainGlobals "_law_spool" = some (some (.ref f__law_spool))) (l__law_spool : K.lookup f__law_spool = some ⟨oc__law_spool, od__law_spool, .func (PySem.W.fnOf "_law_spool" "_law_spool" (defArgs s__law_spool) (defBody s__law_spool) (defScope s__law_spool) .none kV__law_spool dc__law_spool pm__law_spool an__law_spool cd__law_spool ct__law_spool), sl__law_spool⟩) (c__law_spool : PySem.W.codeIn K cd__law_spool "_law_spool" = true) (k__law_spool : PySem.W.keepIn K (.ref f__law_spool) = true)
    {f__law_wind : Addr} {od__law_wind an__law_wind : Option Addr} {sl__law_wind : Array (Option Value)} {oc__law_wind kV__law_wind dc__law_wind pm__law_wind cd__law_wind ct__law_wind : Value}
    (a__law_wind : PySem.W.nsIn K mainGlobals "_law_wind" = some (some (.ref f__law_wind))) (l__law_wind : K.lookup f__law_wind = some ⟨oc__law_wind, od__law_wind, .func (PySem.W.fnOf "_law_wind" "_law_wind" (defArgs s__law_wind) (defBody s__law_wind) (defScope s__law_wind) .none kV__law_wind dc__law_wind pm__law_wind an__law_wind cd__law_wind ct__law_wind), sl__law_wind⟩) (c__law_wind : PySem.W.codeIn K cd__law_wind "_law_wind" = true) (k__law_wind : PySem.W.keepIn K (.ref f__law_wind) = true)
    {f__law_mixed : Addr} {od__law_mixed an__law_mixed : Option Addr} {sl__law_mixed : Array (Option Value)} {oc__law_mixed kV__law_mixed dc__law_mixed pm__law_mixed cd__law_mixed ct__law_mixed : Value}
    (a__law_mixed : PySem.W.nsIn K mainGlobals "_law_mixed" = some (some (.ref f__law_mixed))) (l__law_mixed : K.lookup f__law_mixed = some ⟨oc__law_mixed, od__law_mixed, .func (PySem.W.fnOf "_law_mixed" "_law_mixed" (defArgs s__law_mixed) (defBody s__law_mixed) (defScope s__law_mixed) .none kV__law_mixed dc__law_mixed pm__law_mixed an__law_mixed cd__law_mixed ct__law_mixed), sl__law_mixed⟩) (c__law_mixed : PySem.W.codeIn K cd__law_mixed "_law_mixed" = true) (k__law_mixed : PySem.W.keepIn K (.ref f__law_mixed) = true)
    {f__law_letters : Addr} {od__law_letters an__law_letters : Option Addr} {sl__law_letters : Array (Option Value)} {oc__law_letters kV__law_letters dc__law_letters pm__law_letters cd__law_letters ct__law_letters : Value}
    (a__law_letters : PySem.W.nsIn K mainGlobals "_law_letters" = some (some (.ref f__law_letters))) (l__law_letters : K.lookup f__law_letters = some ⟨oc__law_letters, od__law_letters, .func (PySem.W.fnOf "_law_letters" "_law_letters" (defArgs s__law_letters) (defBody s__law_letters) (defScope s__law_letters) .none kV__law_letters dc__law_letters pm__law_letters an__law_letters cd__law_letters ct__law_letters), sl__law_letters⟩) (c__law_letters : PySem.W.codeIn K cd__law_letters "_law_letters" = true) (k__law_letters : PySem.W.keepIn K (.ref f__law_letters) = true)
    {f__law_two : Addr} {od__law_two an__law_two : Option Addr} {sl__law_two : Array (Option Value)} {oc__law_two kV__law_two dc__law_two pm__law_two cd__law_two ct__law_two : Value}
    (a__law_two : PySem.W.nsIn K mainGlobals "_law_two" = some (some (.ref f__law_two))) (l__law_two : K.lookup f__law_two = some ⟨oc__law_two, od__law_two, .func (PySem.W.fnOf "_law_two" "_law_two" (defArgs s__law_two) (defBody s__law_two) (defScope s__law_two) .none kV__law_two dc__law_two pm__law_two an__law_two cd__law_two ct__law_two), sl__law_two⟩) (c__law_two : PySem.W.codeIn K cd__law_two "_law_two" = true) (k__law_two : PySem.W.keepIn K (.ref f__law_two) = true)
    {f__law_event : Addr} {od__law_event an__law_event : Option Addr} {sl__law_event : Array (Option Value)} {oc__law_event kV__law_event dc__law_event pm__law_event cd__law_event ct__law_event : Value}
    (a__law_event : PySem.W.nsIn K mainGlobals "_law_event" = some (some (.ref f__law_event))) (l__law_event : K.lookup f__law_event = some ⟨oc__law_event, od__law_event, .func (PySem.W.fnOf "_law_event" "_law_event" (defArgs s__law_event) (defBody s__law_event) (defScope s__law_event) .none kV__law_event dc__law_event pm__law_event an__law_event cd__law_event ct__law_event), sl__law_event⟩) (c__law_event : PySem.W.codeIn K cd__law_event "_law_event" = true) (k__law_event : PySem.W.keepIn K (.ref f__law_event) = true)
    {f__law_events : Addr} {od__law_events an__law_events : Option Addr} {sl__law_events : Array (Option Value)} {oc__law_events kV__law_events dc__law_events pm__law_events cd__law_events ct__law_events : Value}
    (a__law_events : PySem.W.nsIn K mainGlobals "_law_events" = some (some (.ref f__law_events))) (l__law_events : K.lookup f__law_events = some ⟨oc__law_events, od__law_events, .func (PySem.W.fnOf "_law_events" "_law_events" (defArgs s__law_events) (defBody s__law_events) (defScope s__law_events) .none kV__law_events dc__law_events pm__law_events an__law_events cd__law_events ct__law_events), sl__law_events⟩) (c__law_events : PySem.W.codeIn K cd__law_events "_law_events" = true) (k__law_events : PySem.W.keepIn K (.ref f__law_events) = true)
    {f__law_front : Addr} {od__law_front an__law_front : Option Addr} {sl__law_front : Array (Option Value)} {oc__law_front kV__law_front dc__law_front pm__law_front cd__law_front ct__law_front : Value}
    (a__law_front : PySem.W.nsIn K mainGlobals "_law_front" = some (some (.ref f__law_front))) (l__law_front : K.lookup f__law_front = some ⟨oc__law_front, od__law_front, .func (PySem.W.fnOf "_law_front" "_law_front" (defArgs s__law_front) (defBody s__law_front) (defScope s__law_front) .none kV__law_front dc__law_front pm__law_front an__law_front cd__law_front ct__law_front), sl__law_front⟩) (c__law_front : PySem.W.codeIn K cd__law_front "_law_front" = true) (k__law_front : PySem.W.keepIn K (.ref f__law_front) = true)
    {f__law_led : Addr} {od__law_led an__law_led : Option Addr} {sl__law_led : Array (Option Value)} {oc__law_led kV__law_led dc__law_led pm__law_led cd__law_led ct__law_led : Value}
    (a__law_led : PySem.W.nsIn K mainGlobals "_law_led" = some (some (.ref f__law_led))) (l__law_led : K.lookup f__law_led = some ⟨oc__law_led, od__law_led, .func (PySem.W.fnOf "_law_led" "_law_led" (defArgs s__law_led) (defBody s__law_led) (defScope s__law_led) .none kV__law_led dc__law_led pm__law_led an__law_led cd__law_led ct__law_led), sl__law_led⟩) (c__law_led : PySem.W.codeIn K cd__law_led "_law_led" = true) (k__law_led : PySem.W.keepIn K (.ref f__law_led) = true)
    {f_law : Addr} {od_law an_law : Option Addr} {sl_law : Array (Option Value)} {oc_law kV_law dc_law pm_law cd_law ct_law : Value}
    (a_law : PySem.W.nsIn K mainGlobals "law" = some (some (.ref f_law))) (l_law : K.lookup f_law = some ⟨oc_law, od_law, .func (PySem.W.fnOf "law" "law" (defArgs s_law) (defBody s_law) (defScope s_law) .none kV_law dc_law pm_law an_law cd_law ct_law), sl_law⟩) (c_law : PySem.W.codeIn K cd_law "law" = true) (k_law : PySem.W.keepIn K (.ref f_law) = true)
    {t_LETTERS : Tok} (a_LETTERS : PySem.W.nsIn K mainGlobals "LETTERS" = some (some (.str "abcdefghijklmnopqrstuvwxyz" t_LETTERS)))
    {t_MOST_LETTERS : Tok} (a_MOST_LETTERS : PySem.W.nsIn K mainGlobals "MOST_LETTERS" = some (some (.int 16 t_MOST_LETTERS)))
    {p_PLACED : Addr} {t0_PLACED t1_PLACED t2_PLACED : Tok} {n_PLACED : Nat} {sl_PLACED : Array (Option Value)} (a_PLACED : PySem.W.nsIn K mainGlobals "PLACED" = some (some (.ref p_PLACED))) (l_PLACED : K.lookup p_PLACED = some ⟨.type "tuple", none, .seq #[.str "place" t0_PLACED, .str "lost" t1_PLACED, .str "twice" t2_PLACED] n_PLACED, sl_PLACED⟩)
    {t_NAME : Tok} (a_NAME : PySem.W.nsIn K mainGlobals "NAME" = some (some (.str "name" t_NAME)))
    {t_AS : Tok} (a_AS : PySem.W.nsIn K mainGlobals "AS" = some (some (.str "as" t_AS)))
    (z_abs : PySem.W.nsIn K mainGlobals "abs" = some none)
    (z_all : PySem.W.nsIn K mainGlobals "all" = some none)
    (z_bool : PySem.W.nsIn K mainGlobals "bool" = some none)
    (z_int : PySem.W.nsIn K mainGlobals "int" = some none)
    (z_isinstance : PySem.W.nsIn K mainGlobals "isinstance" = some none)
    (z_len : PySem.W.nsIn K mainGlobals "len" = some none)
    (z_list : PySem.W.nsIn K mainGlobals "list" = some none)
    (z_max : PySem.W.nsIn K mainGlobals "max" = some none)
    (z_min : PySem.W.nsIn K mainGlobals "min" = some none)
    (z_range : PySem.W.nsIn K mainGlobals "range" = some none)
    (z_repr : PySem.W.nsIn K mainGlobals "repr" = some none)
    (z_set : PySem.W.nsIn K mainGlobals "set" = some none)
    (z_sorted : PySem.W.nsIn K mainGlobals "sorted" = some none)
    (z_str : PySem.W.nsIn K mainGlobals "str" = some none)
    (z_tuple : PySem.W.nsIn K mainGlobals "tuple" = some none) :
    ∃ fd : FuncData, (∀ (s : Shared) (v : Value), BindsTo s fd ⟨[v], []⟩ [("script", v)]) ∧ ∀ base : Heap, K.In base → base.Ns mainGlobals mg → FnG PySem.Challenge.rw_twonames_k01_told_and_written.prog w K mg base (L2.CX PySem.Challenge.rw_twonames_k01_told_and_written.prog w) 7 fa fd ["script"] (spF K 1 m_law) := by
  have e := hfa.symm.trans (PySem.W.mg_of X G a_law)
  cases e
  let T : Txt K mg := ⟨f_is_amount, _, fun_mk (st := s_is_amount) l_is_amount c_is_amount k_is_amount, (fun_mk (st := s_is_amount) l_is_amount c_is_amount k_is_amount).binds (ps := ["thing"]) (fun _ _ _ _ _ _ us hl => match us, hl with | [_], _ => rfl), PySem.W.mg_of X G a_is_amount,
    f_is_letter, _, fun_mk (st := s_is_letter) l_is_letter c_is_letter k_is_letter, (fun_mk (st := s_is_letter) l_is_letter c_is_letter k_is_letter).binds (ps := ["thing"]) (fun _ _ _ _ _ _ us hl => match us, hl with | [_], _ => rfl), PySem.W.mg_of X G a_is_letter,
    f_is_row, _, fun_mk (st := s_is_row) l_is_row c_is_row k_is_row, (fun_mk (st := s_is_row) l_is_row c_is_row k_is_row).binds (ps := ["thing"]) (fun _ _ _ _ _ _ us hl => match us, hl with | [_], _ => rfl), PySem.W.mg_of X G a_is_row,
    f_is_pair, _, fun_mk (st := s_is_pair) l_is_pair c_is_pair k_is_pair, (fun_mk (st := s_is_pair) l_is_pair c_is_pair k_is_pair).binds (ps := ["thing"]) (fun _ _ _ _ _ _ us hl => match us, hl with | [_], _ => rfl), PySem.W.mg_of X G a_is_pair,
    f_is_place, _, fun_mk (st := s_is_place) l_is_place c_is_place k_is_place, (fun_mk (st := s_is_place) l_is_place c_is_place k_is_place).binds (ps := ["thing", "many"]) (fun _ _ _ _ _ _ us hl => match us, hl with | [_, _], _ => rfl), PySem.W.mg_of X G a_is_place,
    f_is_event_of, _, fun_mk (st := s_is_event_of) l_is_event_of c_is_event_of k_is_event_of, (fun_mk (st := s_is_event_of) l_is_event_of c_is_event_of k_is_event_of).binds (ps := ["letters", "many", "thing"]) (fun _ _ _ _ _ _ us hl => match us, hl with | [_, _, _], _ => rfl), PySem.W.mg_of X G a_is_event_of,
    f_need_pair, _, fun_mk (st := s_need_pair) l_need_pair c_need_pair k_need_pair, (fun_mk (st := s_need_pair) l_need_pair c_need_pair k_need_pair).binds (ps := ["pair"]) (fun _ _ _ _ _ _ us hl => match us, hl with | [_], _ => rfl), PySem.W.mg_of X G a_need_pair,
    f_are_events, _, fun_mk (st := s_are_events) l_are_events c_are_events k_are_events, (fun_mk (st := s_are_events) l_are_events c_are_events k_are_events).binds (ps := ["pair", "thing"]) (fun _ _ _ _ _ _ us hl => match us, hl with | [_, _], _ => rfl), PySem.W.mg_of X G a_are_events,
    f_need_events, _, fun_mk (st := s_need_events) l_need_events c_need_events k_need_events, (fun_mk (st := s_need_events) l_need_events c_need_events k_need_events).binds (ps := ["pair", "events"]) (fun _ _ _ _ _ _ us hl => match us, hl with | [_, _], _ => rfl), PySem.W.mg_of X G a_need_events,
    f_to_front, _, fun_mk (st := s_to_front) l_to_front c_to_front k_to_front, (fun_mk (st := s_to_front) l_to_front c_to_front k_to_front).binds (ps := ["row", "place"]) (fun _ _ _ _ _ _ us hl => match us, hl with | [_, _], _ => rfl), PySem.W.mg_of X G a_to_front,
    f_done, _, fun_mk (st := s_done) l_done c_done k_done, (fun_mk (st := s_done) l_done c_done k_done).binds (ps := ["told", "heard", "event"]) (fun _ _ _ _ _ _ us hl => match us, hl with | [_, _, _], _ => rfl), PySem.W.mg_of X G a_done,
    f_gone, _, fun_mk (st := s_gone) l_gone c_gone k_gone, (fun_mk (st := s_gone) l_gone c_gone k_gone).binds (ps := ["pair", "events"]) (fun _ _ _ _ _ _ us hl => match us, hl with | [_, _], _ => rfl), PySem.W.mg_of X G a_gone,
    f_go, _, fun_mk (st := s_go) l_go c_go k_go, (fun_mk (st := s_go) l_go c_go k_go).binds (ps := ["pair", "events"]) (fun _ _ _ _ _ _ us hl => match us, hl with | [_, _], _ => rfl), PySem.W.mg_of X G a_go,
    f__law_spool, _, fun_mk (st := s__law_spool) l__law_spool c__law_spool k__law_spool, (fun_mk (st := s__law_spool) l__law_spool c__law_spool k__law_spool).binds (ps := ["script", "k"]) (fun _ _ _ _ _ _ us hl => match us, hl with | [_, _], _ => rfl), PySem.W.mg_of X G a__law_spool,
    f__law_wind, _, fun_mk (st := s__law_wind) l__law_wind c__law_wind k__law_wind, (fun_mk (st := s__law_wind) l__law_wind c__law_wind k__law_wind).binds (ps := ["spool", "wide"]) (fun _ _ _ _ _ _ us hl => match us, hl with | [_, _], _ => rfl), PySem.W.mg_of X G a__law_wind,
    f__law_mixed, _, fun_mk (st := s__law_mixed) l__law_mixed c__law_mixed k__law_mixed, (fun_mk (st := s__law_mixed) l__law_mixed c__law_mixed k__law_mixed).binds (ps := ["spool", "things"]) (fun _ _ _ _ _ _ us hl => match us, hl with | [_, _], _ => rfl), PySem.W.mg_of X G a__law_mixed,
    f__law_letters, _, fun_mk (st := s__law_letters) l__law_letters c__law_letters k__law_letters, (fun_mk (st := s__law_letters) l__law_letters c__law_letters k__law_letters).binds (ps := ["spool", "most"]) (fun _ _ _ _ _ _ us hl => match us, hl with | [_, _], _ => rfl), PySem.W.mg_of X G a__law_letters,
    f__law_two, _, fun_mk (st := s__law_two) l__law_two c__law_two k__law_two, (fun_mk (st := s__law_two) l__law_two c__law_two k__law_two).binds (ps := ["spool", "most"]) (fun _ _ _ _ _ _ us hl => match us, hl with | [_, _], _ => rfl), PySem.W.mg_of X G a__law_two,
    f__law_event, _, fun_mk (st := s__law_event) l__law_event c__law_event k__law_event, (fun_mk (st := s__law_event) l__law_event c__law_event k__law_event).binds (ps := ["spool", "row", "kinds"]) (fun _ _ _ _ _ _ us hl => match us, hl with | [_, _, _], _ => rfl), PySem.W.mg_of X G a__law_event,
    f__law_events, _, fun_mk (st := s__law_events) l__law_events c__law_events k__law_events, (fun_mk (st := s__law_events) l__law_events c__law_events k__law_events).binds (ps := ["spool", "row", "most", "kinds"]) (fun _ _ _ _ _ _ us hl => match us, hl with | [_, _, _, _], _ => rfl), PySem.W.mg_of X G a__law_events,
    f__law_front, _, fun_mk (st := s__law_front) l__law_front c__law_front k__law_front, (fun_mk (st := s__law_front) l__law_front c__law_front k__law_front).binds (ps := ["line", "at"]) (fun _ _ _ _ _ _ us hl => match us, hl with | [_, _], _ => rfl), PySem.W.mg_of X G a__law_front,
    f__law_led, _, fun_mk (st := s__law_led) l__law_led c__law_led k__law_led, (fun_mk (st := s__law_led) l__law_led c__law_led k__law_led).binds (ps := ["both", "happened"]) (fun _ _ _ _ _ _ us hl => match us, hl with | [_, _], _ => rfl), PySem.W.mg_of X G a__law_led,
    fa, _, fun_mk (st := s_law) l_law c_law k_law, (fun_mk (st := s_law) l_law c_law k_law).binds (ps := ["script"]) (fun _ _ _ _ _ _ us hl => match us, hl with | [_], _ => rfl), PySem.W.mg_of X G a_law,
    t_LETTERS, PySem.W.mg_of X G a_LETTERS,
    t_MOST_LETTERS, PySem.W.mg_of X G a_MOST_LETTERS,
    p_PLACED, PySem.W.mg_of X G a_PLACED, (fun _ _ => .tup (.inr ⟨_, _, _, l_PLACED, rfl, rfl, rfl, (show (3 : Nat) ≤ sizeLine by decide), (.cons (show RelV (.str "place") (.str "place" t0_PLACED) from ⟨_, rfl⟩) (.cons (show RelV (.str "lost") (.str "lost" t1_PLACED) from ⟨_, rfl⟩) (.cons (show RelV (.str "twice") (.str "twice" t2_PLACED) from ⟨_, rfl⟩) .nil)))⟩) (.cons (.str _) (.cons (.str _) (.cons (.str _) .nil)))),
    t_NAME, PySem.W.mg_of X G a_NAME,
    t_AS, PySem.W.mg_of X G a_AS,
    PySem.W.mg_none_of X G z_abs,
    PySem.W.mg_none_of X G z_all,
    PySem.W.mg_none_of X G z_bool,
    PySem.W.mg_none_of X G z_int,
    PySem.W.mg_none_of X G z_isinstance,
    PySem.W.mg_none_of X G z_len,
    PySem.W.mg_none_of X G z_list,
    PySem.W.mg_none_of X G z_max,
    PySem.W.mg_none_of X G z_min,
    PySem.W.mg_none_of X G z_range,
    PySem.W.mg_none_of X G z_repr,
    PySem.W.mg_none_of X G z_set,
    PySem.W.mg_none_of X G z_sorted,
    PySem.W.mg_none_of X G z_str,
    PySem.W.mg_none_of X G z_tuple⟩
  exact ⟨T.d_law, fun s v => .of_eq rfl, fun base _ _ => ok_law T⟩
end Lw
open PySem PySem.W PyProof.Rows
set_option maxHeartbeats 0 in
theorem PySem.Challenge.cw_twonames_k01_told_and_written_holds : PySem.Challenge.rw_twonames_k01_told_and_written.Holds := by
  w_on; o_law; k_head; (case hw => w_witness2)
  k_fill
  refine Sim.walk_ofG (l := PySem.Challenge.rw_twonames_k01_told_and_written) (n := 63) (k := 7) (x := "script") (C := fun w => L2.CX PySem.Challenge.rw_twonames_k01_told_and_written.prog w) (sp := fun w => Sim.spF _ 1 Lw.m_law) rfl (by decide) rfl ⟨rfl, by decide, by decide⟩ (fun w h Y => PySem.W.kIn_of Y) ?F (fun w H a ns hl ho hS => Sim.law_sp ns ho hS (Lw.law_all ns hl)) (fun w H s e s2 h => Sim.law_cx h)
  case F =>
    intro w mg fa h KX G hmg
    refine' Lw.all_mk KX G hmg ?a_is_amount ?l_is_amount ?c_is_amount ?k_is_amount ?a_is_letter ?l_is_letter ?c_is_letter ?k_is_letter ?a_is_row ?l_is_row ?c_is_row ?k_is_row ?a_is_pair ?l_is_pair ?c_is_pair ?k_is_pair ?a_is_place ?l_is_place ?c_is_place ?k_is_place ?a_is_event_of ?l_is_event_of ?c_is_event_of ?k_is_event_of ?a_need_pair ?l_need_pair ?c_need_pair ?k_need_pair ?a_are_events ?l_are_events ?c_are_events ?k_are_events ?a_need_events ?l_need_events ?c_need_events ?k_need_events ?a_to_front ?l_to_front ?c_to_front ?k_to_front ?a_done ?l_done ?c_done ?k_done ?a_gone ?l_gone ?c_gone ?k_gone ?a_go ?l_go ?c_go ?k_go ?a__law_spool ?l__law_spool ?c__law_spool ?k__law_spool ?a__law_wind ?l__law_wind ?c__law_wind ?k__law_wind ?a__law_mixed ?l__law_mixed ?c__law_mixed ?k__law_mixed ?a__law_letters ?l__law_letters ?c__law_letters ?k__law_letters ?a__law_two ?l__law_two ?c__law_two ?k__law_two ?a__law_event ?l__law_event ?c__law_event ?k__law_event ?a__law_events ?l__law_events ?c__law_events ?k__law_events ?a__law_front ?l__law_front ?c__law_front ?k__law_front ?a__law_led ?l__law_led ?c__law_led ?k__law_led ?a_law ?l_law ?c_law ?k_law ?a_LETTERS ?a_MOST_LETTERS ?a_PLACED ?l_PLACED ?a_NAME ?a_AS ?z_abs ?z_all ?z_bool ?z_int ?z_isinstance ?z_len ?z_list ?z_max ?z_min ?z_range ?z_repr ?z_set ?z_sorted ?z_str ?z_tuple
    (case a_is_amount => k_is); (case l_is_amount => k_is); (case c_is_amount => k_is); (case k_is_amount => k_is); (case a_is_letter => k_is); (case l_is_letter => k_is); (case c_is_letter => k_is); (case k_is_letter => k_is); (case a_is_row => k_is); (case l_is_row => k_is); (case c_is_row => k_is); (case k_is_row => k_is); (case a_is_pair => k_is); (case l_is_pair => k_is); (case c_is_pair => k_is); (case k_is_pair => k_is); (case a_is_place => k_is); (case l_is_place => k_is); (case c_is_place => k_is); (case k_is_place => k_is); (case a_is_event_of => k_is); (case l_is_event_of => k_is); (case c_is_event_of => k_is); (case k_is_event_of => k_is); (case a_need_pair => k_is); (case l_need_pair => k_is); (case c_need_pair => k_is); (case k_need_pair => k_is); (case a_are_events => k_is); (case l_are_events => k_is); (case c_are_events => k_is); (case k_are_events => k_is); (case a_need_events => k_is); (case l_need_events => k_is); (case c_need_events => k_is); (case k_need_events => k_is); (case a_to_front => k_is); (case l_to_front => k_is); (case c_to_front => k_is); (case k_to_front => k_is); (case a_done => k_is); (case l_done => k_is); (case c_done => k_is); (case k_done => k_is); (case a_gone => k_is); (case l_gone => k_is); (case c_gone => k_is); (case k_gone => k_is); (case a_go => k_is); (case l_go => k_is); (case c_go => k_is); (case k_go => k_is); (case a__law_spool => k_is); (case l__law_spool => k_is); (case c__law_spool => k_is); (case k__law_spool => k_is); (case a__law_wind => k_is); (case l__law_wind => k_is); (case c__law_wind => k_is); (case k__law_wind => k_is); (case a__law_mixed => k_is); (case l__law_mixed => k_is); (case c__law_mixed => k_is); (case k__law_mixed => k_is); (case a__law_letters => k_is); (case l__law_letters => k_is); (case c__law_letters => k_is); (case k__law_letters => k_is); (case a__law_two => k_is); (case l__law_two => k_is); (case c__law_two => k_is); (case k__law_two => k_is); (case a__law_event => k_is); (case l__law_event => k_is); (case c__law_event => k_is); (case k__law_event => k_is); (case a__law_events => k_is); (case l__law_events => k_is); (case c__law_events => k_is); (case k__law_events => k_is); (case a__law_front => k_is); (case l__law_front => k_is); (case c__law_front => k_is); (case k__law_front => k_is); (case a__law_led => k_is); (case l__law_led => k_is); (case c__law_led => k_is); (case k__law_led => k_is); (case a_law => k_is); (case l_law => k_is); (case c_law => k_is); (case k_law => k_is); (case a_LETTERS => k_is); (case a_MOST_LETTERS => k_is); (case a_PLACED => k_is); (case l_PLACED => k_is); (case a_NAME => k_is); (case a_AS => k_is); (case z_abs => k_is); (case z_all => k_is); (case z_bool => k_is); (case z_int => k_is); (case z_isinstance => k_is); (case z_len => k_is); (case z_list => k_is); (case z_max => k_is); (case z_min => k_is); (case z_range => k_is); (case z_repr => k_is); (case z_set => k_is); (case z_sorted => k_is); (case z_str => k_is); (case z_tuple => k_is)
end
