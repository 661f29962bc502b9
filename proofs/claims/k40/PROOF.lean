import PyProof.Rows.All
import Wide.All
import HandS.ForMost
import HandS.ForExc
import HandS.Wide
import HandS.CallSlots
import HandS.TupAny
import HandS.Conv
import HandS.IsInst
import HandS.Iter
import HandS.Zip
import HandS.Rev
import HandS.RevRange
import HandS.ExcOwn
import HandS.WordsExc
import HandS.Defaults
import PyProof.CollectStr
import KE.KDictList
import HandS.Strs
import KE.KIndexOf
import HandS.Text
import HandS.More
import HandS.WordsDict
import HandS.Style
import HandS.Ends
import KE.KRevSl
import HandS.TryOnly
import HandS.Dict
import HandS.SetFor
import PyProof.TupleOfStr
import OpenK.AllK
import PySem.Challenge.RW_twonames_k40_whole_heard_by_places
section
set_option Elab.async false
set_option linter.all false
set_option maxRecDepth 100000
set_option maxHeartbeats 1000000
open PySem PySem.Spec PyProof.Rows L2
namespace Sim

/-! values of the mirror -/
inductive W where
  | non | bl (b : Bool) | int (i : Int) | str (x : Str) | ty (n : String) | obj (a : Addr)
  | tup (ws : List W) | lst (ws : List W) | dic (kvs : List (Key × W)) | loc (n : Nat) | prs (ws : List W) | scr (ws : List W)
instance : Inhabited W := ⟨.non⟩
/-- what stands at a tracked place -/
inductive Ob where
  | lst (ws : List W) | dic (kvs : List (Key × W))
abbrev Stt := List (Option Ob)
abbrev Ev := List (Option W)
structure Gm where
  ls : List Addr
  st : Stt
  hid : List Addr
abbrev Gm.to (G : Gm) (ls : List Addr) (st : Stt) : Gm := ⟨ls, st, G.hid⟩
def Gm.alive (G : Gm) (a : Addr) : Prop := (∃ (i : Nat) (ob : Ob), G.ls[i]? = some a ∧ G.st[i]? = some (some ob)) ∨ a ∈ G.hid

/-- a written list -/
def KL (K : PySem.W.Frag) (a : Addr) (xs : List V) : Prop :=
  ∃ (o : Obj) (its : Array Value) (n : Nat), K.lookup a = some o ∧ o.cls = .type "list" ∧ o.dict = none ∧ o.data = .seq its n ∧ its.size ≤ sizeLine ∧ Vals xs its.toList
def KT (K : PySem.W.Frag) (a : Addr) (xs : List V) : Prop :=
  ∃ (o : Obj) (its : Array Value) (n : Nat), K.lookup a = some o ∧ o.cls = .type "tuple" ∧ o.dict = none ∧ o.data = .seq its n ∧ its.size ≤ sizeLine ∧ Vals xs its.toList
/-- a tuple whose object is known -/
def Fx (G : Gm) (H : Hp) (a : Addr) (xs : List V) : Prop := (∃ o : Obj, o.dict = none ∧ H a = some (.frz o (.tup xs))) ∧ ¬ G.alive a
/-- read at a place that nobody changes -/
def Fe (G : Gm) (H : Hp) (a : Addr) (u : HO) : Prop := H a = some u ∧ ¬ G.alive a
def Fz (G : Gm) (H : Hp) (a : Addr) (u : HO) : Prop := Rd H a u ∧ ¬ G.alive a

mutual
inductive RepV (K : PySem.W.Frag) (G : Gm) (H : Hp) : W → V → Prop
  | non : RepV K G H .non .non
  | bl (b : Bool) : RepV K G H (.bl b) (.bl b)
  | int (i : Int) : RepV K G H (.int i) (.int i)
  | str (x : Str) : RepV K G H (.str x) (.str x)
  | ty (n : String) : RepV K G H (.ty n) (.ty n)
  | obj (a : Addr) : RepV K G H (.obj a) (.ref a)
  | tup {a : Addr} {ws : List W} {vs : List V} : (Fx G H a vs ∨ KT K a vs) → RepL K G H ws vs → RepV K G H (.tup ws) (.ref a)
  | prs {a : Addr} {ws : List W} {vs : List V} : Fz G H a (.tup vs) → RepL K G H ws vs → RepV K G H (.prs ws) (.ref a)
  | lst {a : Addr} {ws : List W} {vs : List V} : Fe G H a (.lst vs) → RepL K G H ws vs → RepV K G H (.lst ws) (.ref a)
  | scr {a : Addr} {ws : List W} {vs : List V} : (Fz G H a (.lst vs) ∨ KL K a vs) → RepL K G H ws vs → RepV K G H (.scr ws) (.ref a)
  | dic {a : Addr} {kws : List (Key × W)} {kvs : List (Key × V)} : Fz G H a (.dK kvs) → RepK K G H kws kvs → RepV K G H (.dic kws) (.ref a)
  | loc {n : Nat} {a : Addr} : G.ls[n]? = some a → RepV K G H (.loc n) (.ref a)
inductive RepL (K : PySem.W.Frag) (G : Gm) (H : Hp) : List W → List V → Prop
  | nil : RepL K G H [] []
  | cons {w : W} {ws : List W} {v : V} {vs : List V} : RepV K G H w v → RepL K G H ws vs → RepL K G H (w :: ws) (v :: vs)
inductive RepK (K : PySem.W.Frag) (G : Gm) (H : Hp) : List (Key × W) → List (Key × V) → Prop
  | nil : RepK K G H [] []
  | cons {k : Key} {w : W} {ws : List (Key × W)} {v : V} {vs : List (Key × V)} : RepV K G H w v → RepK K G H ws vs → RepK K G H ((k, w) :: ws) ((k, v) :: vs)
end

structure Ext (G : Gm) (H : Hp) (G' : Gm) (H' : Hp) : Prop where
  ls : ∀ (i : Nat) (a : Addr), G.ls[i]? = some a → G'.ls[i]? = some a
  keep : ∀ (a : Addr) (o : HO), ¬ G.alive a → H a = some o → H' a = some o
  al : ∀ a : Addr, G'.alive a → G.alive a ∨ H a = none
  non : ∀ a : Addr, H' a = none → H a = none
  hid : G'.hid = G.hid
  hidk : ∀ a ∈ G.hid, H' a = H a

theorem Ext.refl (G : Gm) (H : Hp) : Ext G H G H := ⟨fun _ _ e => e, fun _ _ _ e => e, fun _ e => .inl e, fun _ e => e, rfl, fun _ _ => rfl⟩
theorem Ext.trans {G G1 G2 : Gm} {H H1 H2 : Hp} (x : Ext G H G1 H1) (y : Ext G1 H1 G2 H2) : Ext G H G2 H2 where
  ls := fun i a e => y.ls i a (x.ls i a e)
  keep := fun a o na e => y.keep a o (fun z => (x.al a z).elim na fun q => by rw [q] at e; cases e) (x.keep a o na e)
  al := fun a z => (y.al a z).elim (fun q => x.al a q) fun q => .inr (x.non a q)
  non := fun a e => x.non a (y.non a e)
  hid := y.hid.trans x.hid
  hidk := fun a h => (y.hidk a (by rw [x.hid]; exact h)).trans (x.hidk a h)

theorem Fz.mono {G G' : Gm} {H H' : Hp} {a : Addr} {u : HO} (x : Ext G H G' H') (h : Fz G H a u) : Fz G' H' a u := by
  obtain ⟨r, na⟩ := h
  refine ⟨?_, fun z => (x.al a z).elim na fun q => ?_⟩
  · rcases r with r | ⟨o, r⟩
    · exact .inl (x.keep a _ na r)
    · exact .inr ⟨o, x.keep a _ na r⟩
  · rcases r with r | ⟨o, r⟩ <;> (rw [q] at r; cases r)

theorem Fe.mono {G G' : Gm} {H H' : Hp} {a : Addr} {u : HO} (x : Ext G H G' H') (h : Fe G H a u) : Fe G' H' a u := by
  obtain ⟨r, na⟩ := h
  refine ⟨x.keep a _ na r, fun z => (x.al a z).elim na fun q => ?_⟩
  rw [q] at r; cases r
theorem Fx.mono {G G' : Gm} {H H' : Hp} {a : Addr} {u : List V} (x : Ext G H G' H') (h : Fx G H a u) : Fx G' H' a u := by
  obtain ⟨⟨o, d, r⟩, na⟩ := h
  refine ⟨⟨o, d, x.keep a _ na r⟩, fun z => (x.al a z).elim na fun q => ?_⟩
  rw [q] at r; cases r
section
variable {K : PySem.W.Frag} {G G' : Gm} {H H' : Hp}
/-- what a reading leans on: the places' addresses, what stands still -/
structure Less (G : Gm) (H : Hp) (G' : Gm) (H' : Hp) : Prop where
  ls : ∀ (i : Nat) (a : Addr), G.ls[i]? = some a → G'.ls[i]? = some a
  fz : ∀ (a : Addr) (u : HO), Fz G H a u → Fz G' H' a u
  fx : ∀ (a : Addr) (u : List V), Fx G H a u → Fx G' H' a u
  fe : ∀ (a : Addr) (u : List V), Fe G H a (.lst u) → Fe G' H' a (.lst u)
mutual
theorem RepV.less (x : Less G H G' H') : ∀ {w : W} {v : V}, RepV K G H w v → RepV K G' H' w v
  | _, _, .non => .non
  | _, _, .bl b => .bl b
  | _, _, .int i => .int i
  | _, _, .str s => .str s
  | _, _, .ty n => .ty n
  | _, _, .obj a => .obj a
  | _, _, .tup h r => .tup (h.imp_left (x.fx _ _)) (RepL.less x r)
  | _, _, .prs h r => .prs (x.fz _ _ h) (RepL.less x r)
  | _, _, .lst h r => .lst (x.fe _ _ h) (RepL.less x r)
  | _, _, .scr h r => .scr (h.imp_left (x.fz _ _)) (RepL.less x r)
  | _, _, .dic h r => .dic (x.fz _ _ h) (RepK.less x r)
  | _, _, .loc e => .loc (x.ls _ _ e)
theorem RepL.less (x : Less G H G' H') : ∀ {ws : List W} {vs : List V}, RepL K G H ws vs → RepL K G' H' ws vs
  | _, _, .nil => .nil
  | _, _, .cons h r => .cons (RepV.less x h) (RepL.less x r)
theorem RepK.less (x : Less G H G' H') : ∀ {ws : List (Key × W)} {vs : List (Key × V)}, RepK K G H ws vs → RepK K G' H' ws vs
  | _, _, .nil => .nil
  | _, _, .cons h r => .cons (RepV.less x h) (RepK.less x r)
end
theorem Ext.less (x : Ext G H G' H') : Less G H G' H' := ⟨x.ls, fun _ _ h => Fz.mono x h, fun _ _ h => Fx.mono x h, fun _ _ h => Fe.mono x h⟩
theorem RepV.mono (x : Ext G H G' H') {w : W} {v : V} (r : RepV K G H w v) : RepV K G' H' w v := r.less x.less
theorem RepL.mono (x : Ext G H G' H') {w : List W} {v : List V} (r : RepL K G H w v) : RepL K G' H' w v := r.less x.less
theorem RepK.mono (x : Ext G H G' H') {w : List (Key × W)} {v : List (Key × V)} (r : RepK K G H w v) : RepK K G' H' w v := r.less x.less
end

def RepO (K : PySem.W.Frag) (G : Gm) (H : Hp) (a : Addr) : Ob → Prop
  | .lst ws => ∃ vs, H a = some (.lst vs) ∧ RepL K G H ws vs
  | .dic kws => ∃ kvs, H a = some (.dK kvs) ∧ RepK K G H kws kvs

structure World (K : PySem.W.Frag) (G : Gm) (H : Hp) : Prop where
  len : G.ls.length = G.st.length
  nd : G.ls.Nodup
  tr : ∀ a ∈ G.ls, H a ≠ none
  hd : ∀ a ∈ G.hid, H a ≠ none ∧ a ∉ G.ls
  at' : ∀ (i : Nat) (a : Addr) (ob : Ob), G.ls[i]? = some a → G.st[i]? = some (some ob) → RepO K G H a ob

def RepE (K : PySem.W.Frag) (G : Gm) (H : Hp) (ρ : Ev) (σ : L2.St) : Prop :=
  ρ.length = σ.length ∧ ∀ (i : Nat) (w : W), ρ[i]? = some (some w) → ∃ v, σ[i]? = some (some v) ∧ RepV K G H w v
theorem RepE.mono {K : PySem.W.Frag} {G G' : Gm} {H H' : Hp} {ρ : Ev} {σ : L2.St} (x : Ext G H G' H') (h : RepE K G H ρ σ) : RepE K G' H' ρ σ :=
  ⟨h.1, fun i w e => let ⟨v, a, b⟩ := h.2 i w e; ⟨v, a, b.mono x⟩⟩
theorem RepE.set {K : PySem.W.Frag} {G : Gm} {H : Hp} {ρ : Ev} {σ : L2.St} {w : W} {v : V} (i : Nat) (h : RepE K G H ρ σ) (r : RepV K G H w v) : RepE K G H (ρ.set i (some w)) (σ.set i (some v)) := by
  refine ⟨by simp [h.1], fun j u e => ?_⟩
  by_cases hj : i = j
  · subst hj
    by_cases hl : i < ρ.length
    · rw [List.getElem?_set_self hl] at e
      cases e
      exact ⟨v, List.getElem?_set_self (by rw [← h.1]; exact hl), r⟩
    · rw [List.getElem?_eq_none (by simpa using hl)] at e
      cases e
  · rw [List.getElem?_set_ne hj] at e ⊢
    exact h.2 j u e

/-! heap steps -/
section
variable {K : PySem.W.Frag} {G : Gm} {H : Hp} {p : Addr} {o : HO}
theorem RepO.less {G' : Gm} {H' : Hp} (x : Less G H G' H') {a : Addr} {ob : Ob} (na : H' a = H a) (h : RepO K G H a ob) : RepO K G' H' a ob := by
  cases ob with
  | lst ws => obtain ⟨vs, e, r⟩ := h; exact ⟨vs, na.trans e, r.less x⟩
  | dic ws => obtain ⟨vs, e, r⟩ := h; exact ⟨vs, na.trans e, r.less x⟩
theorem RepO.mono {G' : Gm} {H' : Hp} (x : Ext G H G' H') {a : Addr} {ob : Ob} (na : H' a = H a) (h : RepO K G H a ob) : RepO K G' H' a ob := by
  cases ob with
  | lst ws => obtain ⟨vs, e, r⟩ := h; exact ⟨vs, na.trans e, r.mono x⟩
  | dic ws => obtain ⟨vs, e, r⟩ := h; exact ⟨vs, na.trans e, r.mono x⟩
theorem Ext.new (w : World K G H) (h : H p = none) : Ext G H G (upd H p o) := by
  refine ⟨fun _ _ e => e, fun a u _ e => ?_, fun _ z => .inl z, fun a e => ?_, rfl, fun a ha => ?_⟩
  · rw [upd_ne (ne_of_none e h)]; exact e
  · by_cases ha : a = p
    · subst ha; exact h
    · rw [upd_ne ha] at e; exact e
  · exact upd_ne fun z => (w.hd a ha).1 (by rw [z]; exact h)
theorem World.new (w : World K G H) (h : H p = none) : World K G (upd H p o) := by
  have ne : ∀ a ∈ G.ls, a ≠ p := fun a ha e => w.tr a ha (by rw [e]; exact h)
  refine ⟨w.len, w.nd, fun a ha => by rw [upd_ne (ne a ha)]; exact w.tr a ha, fun a ha => ⟨by rw [upd_ne fun z => (w.hd a ha).1 (by rw [z]; exact h)]; exact (w.hd a ha).1, (w.hd a ha).2⟩, fun i a ob e1 e2 => ?_⟩
  exact (w.at' i a ob e1 e2).mono (Ext.new w h) (upd_ne (ne a (List.mem_of_getElem? e1)))
/-- a new place that is tracked -/
def Gm.push (G : Gm) (p : Addr) (ob : Ob) : Gm := ⟨G.ls ++ [p], G.st ++ [some ob], G.hid⟩
theorem World.nal (w : World K G H) (h : H p = none) : ¬ G.alive p := fun z => z.elim (fun ⟨_, _, e, _⟩ => w.tr p (List.mem_of_getElem? e) h) fun z => (w.hd p z).1 h
theorem Ext.push (w : World K G H) (ob : Ob) (h : H p = none) : Ext G H (G.push p ob) (upd H p o) := by
  have x : Ext G H G (upd H p o) := Ext.new w h
  refine ⟨fun i a e => ?_, x.keep, fun a z => ?_, x.non, rfl, x.hidk⟩
  · show (G.ls ++ [p])[i]? = some a
    rw [List.getElem?_append_left (List.getElem?_eq_some_iff.mp e).1]; exact e
  · obtain ⟨i, ob', e1, e2⟩ | z := z
    rotate_left
    · exact .inl (.inr z)
    have e1 : (G.ls ++ [p])[i]? = some a := e1
    have e2 : (G.st ++ [some ob])[i]? = some (some ob') := e2
    by_cases hi : i < G.ls.length
    · rw [List.getElem?_append_left hi] at e1
      rw [List.getElem?_append_left (by rw [← w.len]; exact hi)] at e2
      exact .inl (.inl ⟨i, ob', e1, e2⟩)
    · rw [List.getElem?_append_right (by omega)] at e1
      have : a = p := by
        cases hk : i - G.ls.length with
        | zero => rw [hk] at e1; exact (Option.some.inj e1).symm
        | succ k => rw [hk] at e1; simp at e1
      exact .inr (by rw [this]; exact h)
theorem World.push (w : World K G H) (ob : Ob) (h : H p = none) (ho : RepO K (G.push p ob) (upd H p o) p ob) : World K (G.push p ob) (upd H p o) := by
  have ne : ∀ a ∈ G.ls, a ≠ p := fun a ha e => w.tr a ha (by rw [e]; exact h)
  refine ⟨?_, ?_, fun a ha => ?_, fun a ha => ?_, fun i a ob' e1 e2 => ?_⟩
  · show (G.ls ++ [p]).length = (G.st ++ [some ob]).length
    simp [w.len]
  · show (G.ls ++ [p]).Nodup
    rw [List.nodup_append]
    exact ⟨w.nd, by simp, fun a ha b hb => by rw [List.mem_singleton.mp hb]; exact ne a ha⟩
  · have ha : a ∈ G.ls ++ [p] := ha
    rcases List.mem_append.mp ha with q | q
    · rw [upd_ne (ne a q)]; exact w.tr a q
    · rw [List.mem_singleton.mp q, upd_same]; exact fun z => nomatch z
  · have np : a ≠ p := fun z => (w.hd a ha).1 (by rw [z]; exact h)
    refine ⟨by rw [upd_ne np]; exact (w.hd a ha).1, fun z => ?_⟩
    rcases List.mem_append.mp z with q | q
    · exact (w.hd a ha).2 q
    · exact np (List.mem_singleton.mp q)
  · have e1 : (G.ls ++ [p])[i]? = some a := e1
    have e2 : (G.st ++ [some ob])[i]? = some (some ob') := e2
    by_cases hi : i < G.ls.length
    · rw [List.getElem?_append_left hi] at e1
      rw [List.getElem?_append_left (by rw [← w.len]; exact hi)] at e2
      exact (w.at' i a ob' e1 e2).mono (Ext.push w ob h) (upd_ne (ne a (List.mem_of_getElem? e1)))
    · rw [List.getElem?_append_right (by omega)] at e1
      rw [List.getElem?_append_right (by rw [← w.len]; omega), ← w.len] at e2
      cases hk : i - G.ls.length with
      | zero =>
        rw [hk] at e1 e2
        have : p = a := Option.some.inj e1
        have q : ob = ob' := Option.some.inj (Option.some.inj e2)
        subst this q
        exact ho
      | succ k => rw [hk] at e1; simp at e1
/-- a tracked place is written -/
def Gm.put (G : Gm) (n : Nat) (ob : Ob) : Gm := ⟨G.ls, G.st.set n (some ob), G.hid⟩
theorem Gm.put_alive {n : Nat} {ob ob0 : Ob} {a b : Addr} (e1 : G.ls[n]? = some a) (e2 : G.st[n]? = some (some ob0)) (h : (G.put n ob).alive b) : G.alive b := by
  rcases h with ⟨i, ob', x1, x2⟩ | h
  · have x1 : G.ls[i]? = some b := x1
    have x2 : (G.st.set n (some ob))[i]? = some (some ob') := x2
    by_cases hi : n = i
    · subst hi; exact .inl ⟨n, ob0, x1, e2⟩
    · rw [List.getElem?_set_ne hi] at x2; exact .inl ⟨i, ob', x1, x2⟩
  · exact .inr h
theorem Ext.put {n : Nat} {ob ob0 : Ob} {a : Addr} (w : World K G H) (e1 : G.ls[n]? = some a) (e2 : G.st[n]? = some (some ob0)) : Ext G H (G.put n ob) (upd H a o) := by
  refine ⟨fun _ _ e => e, fun b u na e => ?_, fun b z => .inl (Gm.put_alive e1 e2 z), fun b e => ?_, rfl, fun b hb => ?_⟩
  · rw [upd_ne (fun z => na (by rw [z]; exact .inl ⟨n, ob0, e1, e2⟩))]; exact e
  · by_cases hb : b = a
    · subst hb; rw [upd_same] at e; cases e
    · rw [upd_ne hb] at e; exact e
  · exact upd_ne fun z => (w.hd b hb).2 (by rw [z]; exact List.mem_of_getElem? e1)
theorem World.put {n : Nat} {ob ob0 : Ob} {a : Addr} (w : World K G H) (e1 : G.ls[n]? = some a) (e2 : G.st[n]? = some (some ob0)) (ho : RepO K (G.put n ob) (upd H a o) a ob) : World K (G.put n ob) (upd H a o) := by
  refine ⟨?_, w.nd, fun b hb => ?_, fun b hb => ⟨by rw [upd_ne fun z => (w.hd b hb).2 (by rw [z]; exact List.mem_of_getElem? e1)]; exact (w.hd b hb).1, (w.hd b hb).2⟩, fun i b ob' x1 x2 => ?_⟩
  · show G.ls.length = (G.st.set n (some ob)).length
    simp [w.len]
  · by_cases hq : b = a
    · subst hq; rw [upd_same]; exact fun z => nomatch z
    · rw [upd_ne hq]; exact w.tr b hb
  · have x1 : G.ls[i]? = some b := x1
    have x2 : (G.st.set n (some ob))[i]? = some (some ob') := x2
    by_cases hi : n = i
    · subst hi
      rw [e1] at x1
      have hl : n < G.st.length := (List.getElem?_eq_some_iff.mp e2).1
      rw [List.getElem?_set_self hl] at x2
      cases x1; cases x2
      exact ho
    · rw [List.getElem?_set_ne hi] at x2
      have nb : b ≠ a := by
        intro z
        subst z
        obtain ⟨h1, q1⟩ := List.getElem?_eq_some_iff.mp e1
        obtain ⟨h2, q2⟩ := List.getElem?_eq_some_iff.mp x1
        exact hi ((List.getElem_inj w.nd).mp (q1.trans q2.symm))
      exact (w.at' i b ob' x1 x2).mono (Ext.put w e1 e2) (upd_ne nb)
end
end Sim
end
section
set_option Elab.async false
set_option linter.all false
set_option maxRecDepth 100000
set_option maxHeartbeats 1000000
open PySem PySem.Spec PyProof.Rows L2
namespace Sim

structure Exn where
  cls : Value
  fs : List (Str × W)
inductive Rs (α : Type) where
  | ok (a : α) (st : Stt) | er (x : Exn) (st : Stt) | no
def Rs.bind {α β : Type} (r : Rs α) (f : α → Stt → Rs β) : Rs β := match r with
  | .ok a st => f a st
  | .er x st => .er x st
  | .no => .no
@[simp] theorem Rs.bind_ok {α β : Type} (a : α) (st : Stt) (f : α → Stt → Rs β) : (Rs.ok a st).bind f = f a st := rfl
@[simp] theorem Rs.bind_er {α β : Type} (x : Exn) (st : Stt) (f : α → Stt → Rs β) : (Rs.er x st).bind f = .er x st := rfl
@[simp] theorem Rs.bind_no {α β : Type} (f : α → Stt → Rs β) : (Rs.no : Rs α).bind f = .no := rfl
abbrev EM := Ev → Stt → Rs W
abbrev TM := Ev → Stt → Rs Bool
abbrev AM := Ev → Stt → Rs (List W)
abbrev FM := List W → Stt → Rs W

def RepX (K : PySem.W.Frag) (G : Gm) (H : Hp) (x : Exn) (d : Option Addr) : Prop :=
  x.fs = [] ∨ ∃ (a : Addr) (vs : List (Str × V)), d = some a ∧ H a = some (.xd vs) ∧ x.fs.map (·.1) = vs.map (·.1) ∧ RepL K G H (x.fs.map (·.2)) (vs.map (·.2))

def PostR {α β : Type} (K : PySem.W.Frag) (R : Gm → Hp → α → β → Prop) (Wx : Value → Option Addr → Hp → Prop) (G : Gm) (H : Hp) (r : Rs α) (Q : β → Hp → Prop) : Prop :=
  match r with
  | .ok a st' => ∀ (ls' : List Addr) (H' : Hp) (b : β), Ext G H (G.to ls' st') H' → World K (G.to ls' st') H' → R (G.to ls' st') H' a b → Q b H'
  | .er x st' => ∀ (ls' : List Addr) (H' : Hp) (d : Option Addr), Ext G H (G.to ls' st') H' → World K (G.to ls' st') H' → RepX K (G.to ls' st') H' x d → Wx x.cls d H'
  | .no => False

section
variable {K : PySem.W.Frag} {α β γ δ : Type} {R : Gm → Hp → α → β → Prop} {R2 : Gm → Hp → γ → δ → Prop} {Wx : Value → Option Addr → Hp → Prop} {G G' : Gm} {H H' : Hp}
theorem PostR.mono {r : Rs α} {Q : β → Hp → Prop} (x : Ext G H G' H') (h : PostR K R Wx G H r Q) : PostR K R Wx G' H' r Q := by
  have hid := x.hid
  obtain ⟨l', s', h'⟩ := G'
  simp only at hid
  subst hid
  cases r with
  | ok a st => exact fun ls H1 b e w q => h ls H1 b (x.trans e) w q
  | er y st => exact fun ls H1 b e w q => h ls H1 b (x.trans e) w q
  | no => exact h
theorem PostR.bind {r : Rs α} {f : α → Stt → Rs γ} {Q : δ → Hp → Prop} {Q1 : β → Hp → Prop} (h : PostR K R2 Wx G H (r.bind f) Q)
    (k : ∀ a st' ls' H' b, r = .ok a st' → Ext G H (G.to ls' st') H' → World K (G.to ls' st') H' → R (G.to ls' st') H' a b → PostR K R2 Wx (G.to ls' st') H' (f a st') Q → Q1 b H') : PostR K R Wx G H r Q1 := by
  cases r with
  | ok a st => exact fun ls H1 b e w q => k a st ls H1 b rfl e w q (PostR.mono e h)
  | er y st => exact h
  | no => exact h
theorem PostR.ok {a : α} {b : β} {Q : β → Hp → Prop} (w : World K G H) (h : PostR K R Wx G H (.ok a G.st) Q) (r : R G H a b) : Q b H := h G.ls H b (Ext.refl _ _) w r
end

def SemE (K : PySem.W.Frag) (Wx : WX) (te : TE) (m : EM) : Prop := ∀ (G : Gm) (H : Hp) (ρ : Ev) (σ : L2.St) (Q : VK), World K G H → RepE K G H ρ σ → PostR K (RepV K) (fun c d H' => Wx c d σ H') G H (m ρ G.st) Q → te σ H Q
def SemT (K : PySem.W.Frag) (Wx : WX) (te : TT) (m : TM) : Prop := ∀ (G : Gm) (H : Hp) (ρ : Ev) (σ : L2.St) (Q : Bool → Hp → Prop), World K G H → RepE K G H ρ σ → PostR K (fun _ _ a b => a = b) (fun c d H' => Wx c d σ H') G H (m ρ G.st) Q → te σ H Q
def SemA (K : PySem.W.Frag) (Wx : WX) (te : TA) (m : AM) : Prop := ∀ (G : Gm) (H : Hp) (ρ : Ev) (σ : L2.St) (Q : List V → Hp → Prop), World K G H → RepE K G H ρ σ → PostR K (RepL K) (fun c d H' => Wx c d σ H') G H (m ρ G.st) Q → te σ H Q

structure CE (X : Cx) (Wx : WX) (e : Expr) (t : TE) (m : EM) : Prop where
  pe : PE X e t
  sem : SemE X.K Wx t m
structure CT (X : Cx) (Wx : WX) (e : Expr) (t : TT) (m : TM) : Prop where
  pe : PT X e t
  sem : SemT X.K Wx t m
structure CA (X : Cx) (Wx : WX) (es : List Expr) (t : TA) (m : AM) : Prop where
  pe : PA X es t
  sem : SemA X.K Wx t m

/-! expressions -/
def eVar (i : Nat) : EM := fun ρ st => match ρ[i]? with
  | some (some w) => .ok w st
  | _ => .no
def eC (w : W) : EM := fun _ st => .ok w st
def aNil : AM := fun _ st => .ok [] st
def aCons (m : EM) (r : AM) : AM := fun ρ st => (m ρ st).bind fun w st1 => (r ρ st1).bind fun ws st2 => .ok (w :: ws) st2
/-! a tuple whose object is known -/
section
variable {X : Cx}
theorem tup_laid {pins : List (Addr × Obj)} {σ : L2.St} {H : Hp} {s : Shared} {Q : VK} {its : List Value} {xs : List V} {h' : Heap} {tk : Nat} (I : L2.Inv X pins σ H { s with heap := h', toks := tk }) (rv : Vals xs its) (hz : xs.length ≤ sizeLine)
    (q : ∀ (p : Addr) (o : Obj), o.dict = none → H p = none → Q (.ref p) (upd H p (.frz o (.tup xs)))) : EP X pins σ Q (.ref h'.objs.size) { s with heap := h'.push { cls := .type "tuple", data := .seq its.toArray }, toks := tk } := by
  have e : (h'.push { cls := .type "tuple", data := .seq its.toArray }).get? h'.objs.size = some { cls := .type "tuple", data := .seq its.toArray } := Heap.get?_push_size _ rfl
  refine ⟨.ref h'.objs.size, upd H h'.objs.size (.frz { cls := .type "tuple", data := .seq its.toArray } (.tup xs)), I.laid (t' := tk) (fun b u q => Heap.get?_push_of_some _ q) (Nat.le_refl _) ⟨e, hz, its, rv, ⟨_, e, rfl, _, rfl⟩⟩, rfl, q _ _ rfl (I.hok.fresh (Nat.le_refl _))⟩
def tTupF (t : TA) : TE := fun σ H Q => t σ H fun xs H1 => xs.length ≤ sizeLine ∧ ∀ (p : Addr) (o : Obj), o.dict = none → H1 p = none → Q (.ref p) (upd H1 p (.frz o (.tup xs)))
theorem pe_tupF {es : List Expr} {t : TA} {x1 : Nat} {pos : Pos} (h : PA X es t) : PE X (.Tuple es x1 pos) (tTupF t) := by
  refine ⟨fun pins s σ H Q I hq => ?_⟩
  refine wpAny_Tuple_spliced (thn (h.run pos pins s σ H _ I hq) fun us s1 ⟨xs, H1, I1, r, z, q⟩ => ⟨by rw [← r.length]; exact z, ?_⟩)
  exact tup_laid (s := s1) (h' := s1.heap) (tk := s1.toks) I1 r z q
end
def eTup (r : AM) : EM := fun ρ st => (r ρ st).bind fun ws st1 => if ws.length ≤ 1000 then .ok (.tup ws) st1 else .no
def eLst (r : AM) : EM := fun ρ st => (r ρ st).bind fun ws st1 => if ws.length ≤ 1000 then .ok (.lst ws) st1 else .no
def eLstL (r : AM) : EM := fun ρ st => (r ρ st).bind fun ws st1 => if ws.length ≤ 1000 then .ok (.loc st1.length) (st1 ++ [some (.lst ws)]) else .no

section
variable {X : Cx} {Wx : WX} {K : PySem.W.Frag} {G : Gm} {H : Hp}
theorem RepL.length {K : PySem.W.Frag} {G : Gm} {H : Hp} : ∀ {ws : List W} {vs : List V}, RepL K G H ws vs → ws.length = vs.length
  | _, _, .nil => rfl
  | _, _, .cons _ r => by simp [RepL.length r]
theorem sz1000 {n : Nat} (h : n ≤ 1000) : n ≤ sizeLine := Nat.le_trans h (by decide)
theorem ce_var (i : Nat) {x : Str} {pos : Pos} (hN : X.N[i]? = some x := by rfl) (hv : Vis X.env.scope x := by first | exact Or.inl rfl | exact Or.inr (Or.inl rfl) | exact Or.inr (Or.inr rfl)) (hd : (x == ("__debug__" : Str)) = false := by decide)
    (hcd : (x == ("__classdict__" : Str)) = false := by decide) : CE X Wx (.Name x pos) (tVar i) (eVar i) := by
  refine ⟨pv i hN hv hd hcd, fun G H ρ σ Q w r h => ?_⟩
  unfold eVar at h
  cases e : ρ[i]? with
  | none => rw [e] at h; exact h.elim
  | some o =>
    cases o with
    | none => rw [e] at h; exact h.elim
    | some a =>
      rw [e] at h
      obtain ⟨v, e2, rv⟩ := r.2 i a e
      exact ⟨v, e2, PostR.ok w h rv⟩
theorem sem_c {w : W} {v : V} (hr : ∀ G H, RepV K G H w v) : SemE K Wx (tC v) (eC w) := fun G H ρ σ Q wo r h => PostR.ok (a := w) wo h (hr G H)
theorem ce_int {i : Int} {j pos} : CE X Wx (.Constant (.int i) j pos) (tC (.int i)) (eC (.int i)) := ⟨pe_int, sem_c fun _ _ => .int i⟩
theorem ce_bl {b : Bool} {j pos} : CE X Wx (.Constant (.bool b) j pos) (tC (.bl b)) (eC (.bl b)) := ⟨pe_bl, sem_c fun _ _ => .bl b⟩
theorem ce_non {j pos} : CE X Wx (.Constant .none j pos) (tC .non) (eC .non) := ⟨pe_non, sem_c fun _ _ => .non⟩
theorem ce_str {x : Str} {j pos} : CE X Wx (.Constant (.str x) j pos) (tC (.str x)) (eC (.str x)) := ⟨pe_str, sem_c fun _ _ => .str x⟩
/-- a constant of the module -/
theorem ce_glob {x : Str} {pos : Pos} {u : Value} {v : V} (w : W) (hg : Gl X x) (hm : X.mg x = some u) (r : RelV v u) (hr : ∀ G H, RepV X.K G H w v) (hd : (x == ("__debug__" : Str)) = false := by decide) : CE X Wx (.Name x pos) (tC v) (eC w) :=
  ⟨pe_glob hg hm r hd, sem_c hr⟩
theorem ca_nil : CA X Wx [] tNil aNil := ⟨pa_nil, fun G H ρ σ Q w r h => PostR.ok (b := []) w h .nil⟩
theorem ca_cons {e : Expr} {es : List Expr} {te : TE} {t : TA} {m : EM} {ms : AM} (h1 : CE X Wx e te m) (h2 : CA X Wx es t ms) (hs : starEach (e :: es) X.env = (false, eval e X.env) :: starEach es X.env := by rfl) : CA X Wx (e :: es) (tCons te t) (aCons m ms) := by
  refine ⟨pa_cons h1.pe h2.pe hs, fun G H ρ σ Q w r h => ?_⟩
  refine h1.sem G H ρ σ _ w r (PostR.bind h fun a st1 ls1 H1 v _ e1 w1 rv h1' => ?_)
  refine h2.sem (G.to ls1 st1) H1 ρ σ _ w1 (r.mono e1) (PostR.bind h1' fun as st2 ls2 H2 vs _ e2 w2 rvs h2' => ?_)
  exact PostR.ok (G := (G.to ls2 st2)) w2 h2' (.cons (rv.mono e2) rvs)
theorem ce_tup {es : List Expr} {t : TA} {m : AM} {x1 pos} (h1 : CA X Wx es t m) : CE X Wx (.Tuple es x1 pos) (tTupF t) (eTup m) := by
  refine ⟨pe_tupF h1.pe, fun G H ρ σ Q w r h => ?_⟩
  refine h1.sem G H ρ σ _ w r (PostR.bind h fun ws st1 ls1 H1 vs _ e1 w1 rvs h1' => ?_)
  skip
  split at h1'
  · rename_i hl
    refine ⟨sz1000 (by rw [← rvs.length]; exact hl), fun p o hd hp => ?_⟩
    exact h1' ls1 _ _ (Ext.new w1 hp) (w1.new hp) (.tup (.inl ⟨⟨o, hd, upd_same⟩, w1.nal hp⟩) (rvs.mono (Ext.new w1 hp)))
  · exact h1'.elim
theorem ce_lst {es : List Expr} {t : TA} {m : AM} {pos} (h1 : CA X Wx es t m) : CE X Wx (.List es pos) (tLst t) (eLst m) := by
  refine ⟨pe_lst h1.pe, fun G H ρ σ Q w r h => ?_⟩
  refine h1.sem G H ρ σ _ w r (PostR.bind h fun ws st1 ls1 H1 vs _ e1 w1 rvs h1' => ?_)
  skip
  split at h1'
  · rename_i hl
    refine ⟨sz1000 (by rw [← rvs.length]; exact hl), fun p hp => ?_⟩
    exact h1' ls1 _ _ (Ext.new w1 hp) (w1.new hp) (.lst ⟨upd_same, w1.nal hp⟩ (rvs.mono (Ext.new w1 hp)))
  · exact h1'.elim
/-- a new list that is tracked -/
theorem post_push {Wy : Value → Option Addr → Hp → Prop} {ls : List Addr} {st : Stt} {H : Hp} {ob : Ob} {Q : VK} {p : Addr} {o : HO} (w : World K (G.to ls st) H) (hp : H p = none) (h : PostR K (RepV K) Wy (G.to ls st) H (.ok (.loc st.length) (st ++ [some ob])) Q)
    (ho : RepO K (Gm.push (G.to ls st) p ob) (upd H p o) p ob) : Q (.ref p) (upd H p o) := by
  refine h (ls ++ [p]) _ _ (Ext.push w ob hp) (w.push ob hp ho) (.loc ?_)
  show (ls ++ [p])[st.length]? = some p
  have e : st.length = ls.length := w.len.symm
  rw [e]; simp
theorem ce_lstL {es : List Expr} {t : TA} {m : AM} {pos} (h1 : CA X Wx es t m) : CE X Wx (.List es pos) (tLst t) (eLstL m) := by
  refine ⟨pe_lst h1.pe, fun G H ρ σ Q w r h => ?_⟩
  refine h1.sem G H ρ σ _ w r (PostR.bind h fun ws st1 ls1 H1 vs _ e1 w1 rvs h1' => ?_)
  skip
  split at h1'
  · rename_i hl
    refine ⟨sz1000 (by rw [← rvs.length]; exact hl), fun p hp => ?_⟩
    exact post_push w1 hp h1' ⟨vs, upd_same, rvs.mono (Ext.push w1 _ hp)⟩
  · exact h1'.elim

/-! operators on values: f gives the value; it may be a new object that nobody changes -/
def PostV (K : PySem.W.Frag) (G : Gm) (H : Hp) (w : W) (Q : VK) : Prop := ∀ (H' : Hp) (v : V), Ext G H G H' → World K G H' → RepV K G H' w v → Q v H'
theorem PostV.of {Wy : Value → Option Addr → Hp → Prop} {ls : List Addr} {st : Stt} {w : W} {Q : VK} (h : PostR K (RepV K) Wy (G.to ls st) H (.ok w st) Q) : PostV K (G.to ls st) H w Q := fun H' v e wo r => h ls H' v e wo r
theorem PostV.val {w : W} {v : V} {Q : VK} (wo : World K G H) (h : PostV K G H w Q) (r : RepV K G H w v) : Q v H := h H v (Ext.refl _ _) wo r
theorem PostV.newT {ws : List W} {vs : List V} {Q : VK} {p : Addr} {o : Obj} (wo : World K G H) (h : PostV K G H (.tup ws) Q) (r : RepL K G H ws vs) (hd : o.dict = none) (hp : H p = none) : Q (.ref p) (upd H p (.frz o (.tup vs))) :=
  h _ _ (Ext.new wo hp) (wo.new hp) (.tup (.inl ⟨⟨o, hd, upd_same⟩, wo.nal hp⟩) (r.mono (Ext.new wo hp)))
theorem PostV.newL {ws : List W} {vs : List V} {Q : VK} {p : Addr} (wo : World K G H) (h : PostV K G H (.lst ws) Q) (r : RepL K G H ws vs) (hp : H p = none) : Q (.ref p) (upd H p (.lst vs)) :=
  h _ _ (Ext.new wo hp) (wo.new hp) (.lst ⟨upd_same, wo.nal hp⟩ (r.mono (Ext.new wo hp)))

abbrev F2 := Stt → W → W → Option W
def OpS (K : PySem.W.Frag) (r : R2) (f : F2) : Prop := ∀ (G : Gm) (H : Hp) (x y : W) (v u : V) (w : W) (Q : VK), World K G H → RepV K G H x v → RepV K G H y u → f G.st x y = some w → PostV K G H w Q → r v u H Q
def eOp (f : F2) (a b : EM) : EM := fun ρ st => (a ρ st).bind fun x st1 => (b ρ st1).bind fun y st2 => match f st2 x y with
  | some w => .ok w st2
  | none => .no
theorem sem_op {ta tb : TE} {a b : EM} {r : R2} {f : F2} (ha : SemE K Wx ta a) (hb : SemE K Wx tb b) (ho : OpS K r f) : SemE K Wx (tOp r ta tb) (eOp f a b) := fun G H ρ σ Q w r h => by
  refine ha G H ρ σ _ w r (PostR.bind h fun x st1 ls1 H1 v _ e1 w1 rv h1' => ?_)
  refine hb (G.to ls1 st1) H1 ρ σ _ w1 (r.mono e1) (PostR.bind h1' fun y st2 ls2 H2 u _ e2 w2 ru h2' => ?_)
  skip
  cases e : f st2 x y with
  | none => rw [e] at h2'; exact h2'.elim
  | some z =>
    rw [e] at h2'
    exact ho (G.to ls2 st2) H2 x y v u z Q w2 (rv.mono e2) ru e (PostV.of h2')
theorem ce_op {a b : Expr} {op : Operator} {ta tb : TE} {ma mb : EM} {r : R2} {f : F2} {pos : Pos} (ho : OpR X (binaryOp op) r) (hf : OpS X.K r f) (ha : CE X Wx a ta ma) (hb : CE X Wx b tb mb) : CE X Wx (.BinOp a op b pos) (tOp r ta tb) (eOp f ma mb) :=
  ⟨pe_op ho ha.pe hb.pe, sem_op ha.sem hb.sem hf⟩
theorem ce_cmp {a b : Expr} {op : CmpOp} {ta tb : TE} {ma mb : EM} {r : R2} {f : F2} {pos : Pos} (ho : OpR X (compareOp op) r) (hf : OpS X.K r f) (ha : CE X Wx a ta ma) (hb : CE X Wx b tb mb) (hm : behindInMarks op b = false := by first | exact nobehind _ (by decide) (by decide) | rfl) :
    CE X Wx (.Compare a [op] [b] pos) (tOp r ta tb) (eOp f ma mb) := ⟨pe_cmpR ho ha.pe hb.pe hm, sem_op ha.sem hb.sem hf⟩

/-! tests -/
def tmV (m : EM) : TM := fun ρ st => (m ρ st).bind fun w st1 => match w with
  | .bl b => .ok b st1
  | _ => .no
def tmNot (m : TM) : TM := fun ρ st => (m ρ st).bind fun b st1 => .ok (!b) st1
def tmAnd (m k : TM) : TM := fun ρ st => (m ρ st).bind fun b st1 => if b = true then k ρ st1 else .ok false st1
def tmOr (m k : TM) : TM := fun ρ st => (m ρ st).bind fun b st1 => if b = true then .ok true st1 else k ρ st1
theorem sem_tv {t : TE} {m : EM} (h : SemE K Wx t m) : SemT K Wx (tB t) (tmV m) := fun G H ρ σ Q w r hp => by
  refine h G H ρ σ _ w r (PostR.bind hp fun x st1 ls1 H1 v _ e1 w1 rv h1 => ?_)
  cases rv with
  | bl b => exact ⟨b, rfl, PostR.ok (G := (G.to ls1 st1)) w1 h1 rfl⟩
  | non => exact h1.elim
  | int _ => exact h1.elim
  | str _ => exact h1.elim
  | ty _ => exact h1.elim
  | obj _ => exact h1.elim
  | tup _ _ => exact h1.elim
  | prs _ _ => exact h1.elim
  | scr _ _ => exact h1.elim
  | lst _ _ => exact h1.elim
  | dic _ _ => exact h1.elim
  | loc _ => exact h1.elim
theorem ct_val {e : Expr} {t : TE} {m : EM} (h : CE X Wx e t m) (he : ∀ whole, isTrue e X.env whole = (do let v ← whole; standAt e.pos; holding [v] (truthy v)) := by intro _; rfl) : CT X Wx e (tB t) (tmV m) := ⟨pt_val h.pe he, sem_tv h.sem⟩
theorem sem_test {t : TE} {m : EM} (h : SemE K Wx t m) : SemT K Wx (tTest t) (tmV m) := sem_tv h
theorem ct_cmp {a b : Expr} {op : CmpOp} {ta tb : TE} {ma mb : EM} {r : R2} {f : F2} {pos : Pos} (ho : OpR X (compareOp op) r) (hf : OpS X.K r f) (ha : CE X Wx a ta ma) (hb : CE X Wx b tb mb) (hm : behindInMarks op b = false := by first | exact nobehind _ (by decide) (by decide) | rfl) :
    CT X Wx (.Compare a [op] [b] pos) (tTest (tOp r ta tb)) (tmV (eOp f ma mb)) := ⟨pt_cmpR ho ha.pe hb.pe hm, sem_test (sem_op ha.sem hb.sem hf)⟩
theorem ct_not {a : Expr} {t : TT} {m : TM} {pos : Pos} (h : CT X Wx a t m) : CT X Wx (.UnaryOp .Not a pos) (tNot t) (tmNot m) := by
  refine ⟨pt_not h.pe, fun G H ρ σ Q w r hp => ?_⟩
  refine h.sem G H ρ σ _ w r (PostR.bind hp fun x st1 ls1 H1 v _ e1 w1 rv h1 => ?_)
  exact PostR.ok (G := (G.to ls1 st1)) w1 h1 (by rw [rv])
structure CW (X : Cx) (Wx : WX) (e : Expr) (t : TT) (m : TM) : Prop where
  pe : PW X e t
  sem : SemT X.K Wx t m
theorem CW.ct {e : Expr} {t : TT} {m : TM} (h : CW X Wx e t m) : CT X Wx e t m := ⟨h.pe.pt, h.sem⟩
theorem cw_and1 {a : Expr} {t : TT} {m : TM} {pos : Pos} (h : CT X Wx a t m) : CW X Wx (.BoolOp .And [a] pos) t m := ⟨pw_and1 h.pe, h.sem⟩
theorem cw_or1 {a : Expr} {t : TT} {m : TM} {pos : Pos} (h : CT X Wx a t m) : CW X Wx (.BoolOp .Or [a] pos) t m := ⟨pw_or1 h.pe, h.sem⟩
theorem cw_and {a b : Expr} {rest : List Expr} {t u : TT} {m k : TM} {pos : Pos} (h1 : CT X Wx a t m) (h2 : CW X Wx (.BoolOp .And (b :: rest) pos) u k) : CW X Wx (.BoolOp .And (a :: b :: rest) pos) (tAnd t u) (tmAnd m k) := by
  refine ⟨pw_and h1.pe h2.pe, fun G H ρ σ Q w r hp => ?_⟩
  refine h1.sem G H ρ σ _ w r (PostR.bind hp fun x st1 ls1 H1 v _ e1 w1 rv h1' => ?_)
  subst rv
  cases x with
  | true => exact h2.sem (G.to ls1 st1) H1 ρ σ Q w1 (r.mono e1) h1'
  | false => exact PostR.ok (G := (G.to ls1 st1)) w1 h1' rfl
theorem cw_or {a b : Expr} {rest : List Expr} {t u : TT} {m k : TM} {pos : Pos} (h1 : CT X Wx a t m) (h2 : CW X Wx (.BoolOp .Or (b :: rest) pos) u k) : CW X Wx (.BoolOp .Or (a :: b :: rest) pos) (tOr t u) (tmOr m k) := by
  refine ⟨pw_or h1.pe h2.pe, fun G H ρ σ Q w r hp => ?_⟩
  refine h1.sem G H ρ σ _ w r (PostR.bind hp fun x st1 ls1 H1 v _ e1 w1 rv h1' => ?_)
  subst rv
  cases x with
  | false => exact h2.sem (G.to ls1 st1) H1 ρ σ Q w1 (r.mono e1) h1'
  | true => exact PostR.ok (G := (G.to ls1 st1)) w1 h1' rfl
/-! and, or, not as values -/
def emAnd (m k : EM) : EM := fun ρ st => (m ρ st).bind fun w st1 => match w with
  | .bl true => k ρ st1
  | .bl false => .ok (.bl false) st1
  | _ => .no
def emOr (m k : EM) : EM := fun ρ st => (m ρ st).bind fun w st1 => match w with
  | .bl true => .ok (.bl true) st1
  | .bl false => k ρ st1
  | _ => .no
def emNot (m : EM) : EM := fun ρ st => (m ρ st).bind fun w st1 => match w with
  | .bl b => .ok (.bl (!b)) st1
  | _ => .no
theorem ce_one {a : Expr} {op} {t : TE} {m : EM} {pos : Pos} (h : CE X Wx a t m) : CE X Wx (.BoolOp op [a] pos) t m := ⟨pe_one h.pe, h.sem⟩
theorem ce_and {a b : Expr} {rest : List Expr} {t u : TE} {m k : EM} {pos : Pos} (h1 : CE X Wx a t m) (h2 : CE X Wx (.BoolOp .And (b :: rest) pos) u k) : CE X Wx (.BoolOp .And (a :: b :: rest) pos) (tAndV t u) (emAnd m k) := by
  refine ⟨pe_and h1.pe h2.pe, fun G H ρ σ Q w r hp => ?_⟩
  refine h1.sem G H ρ σ _ w r (PostR.bind hp fun x st1 ls1 H1 v _ e1 w1 rv h1' => ?_)
  cases rv with
  | bl b =>
    refine ⟨b, rfl, ?_⟩
    cases b with
    | true => exact iteT (h2.sem (G.to ls1 st1) H1 ρ σ Q w1 (r.mono e1) h1')
    | false => exact iteF (PostR.ok (G := (G.to ls1 st1)) w1 h1' (.bl false))
  | non => exact h1'.elim
  | int _ => exact h1'.elim
  | str _ => exact h1'.elim
  | ty _ => exact h1'.elim
  | obj _ => exact h1'.elim
  | tup _ _ => exact h1'.elim
  | prs _ _ => exact h1'.elim
  | scr _ _ => exact h1'.elim
  | lst _ _ => exact h1'.elim
  | dic _ _ => exact h1'.elim
  | loc _ => exact h1'.elim
theorem ce_or {a b : Expr} {rest : List Expr} {t u : TE} {m k : EM} {pos : Pos} (h1 : CE X Wx a t m) (h2 : CE X Wx (.BoolOp .Or (b :: rest) pos) u k) : CE X Wx (.BoolOp .Or (a :: b :: rest) pos) (tOrV t u) (emOr m k) := by
  refine ⟨pe_or h1.pe h2.pe, fun G H ρ σ Q w r hp => ?_⟩
  refine h1.sem G H ρ σ _ w r (PostR.bind hp fun x st1 ls1 H1 v _ e1 w1 rv h1' => ?_)
  cases rv with
  | bl b =>
    refine ⟨b, rfl, ?_⟩
    cases b with
    | false => exact iteF (h2.sem (G.to ls1 st1) H1 ρ σ Q w1 (r.mono e1) h1')
    | true => exact iteT (PostR.ok (G := (G.to ls1 st1)) w1 h1' (.bl true))
  | non => exact h1'.elim
  | int _ => exact h1'.elim
  | str _ => exact h1'.elim
  | ty _ => exact h1'.elim
  | obj _ => exact h1'.elim
  | tup _ _ => exact h1'.elim
  | prs _ _ => exact h1'.elim
  | scr _ _ => exact h1'.elim
  | lst _ _ => exact h1'.elim
  | dic _ _ => exact h1'.elim
  | loc _ => exact h1'.elim
theorem ce_not {a : Expr} {t : TE} {m : EM} {pos : Pos} (h1 : CE X Wx a t m) : CE X Wx (.UnaryOp .Not a pos) (tNotV t) (emNot m) := by
  refine ⟨pe_not h1.pe, fun G H ρ σ Q w r hp => ?_⟩
  refine h1.sem G H ρ σ _ w r (PostR.bind hp fun x st1 ls1 H1 v _ e1 w1 rv h1' => ?_)
  cases rv with
  | bl b => exact ⟨b, rfl, PostR.ok (G := (G.to ls1 st1)) w1 h1' (.bl (!b))⟩
  | non => exact h1'.elim
  | int _ => exact h1'.elim
  | str _ => exact h1'.elim
  | ty _ => exact h1'.elim
  | obj _ => exact h1'.elim
  | tup _ _ => exact h1'.elim
  | prs _ _ => exact h1'.elim
  | scr _ _ => exact h1'.elim
  | lst _ _ => exact h1'.elim
  | dic _ _ => exact h1'.elim
  | loc _ => exact h1'.elim
def emIf (c : TM) (a b : EM) : EM := fun ρ st => (c ρ st).bind fun k st1 => if k = true then a ρ st1 else b ρ st1
theorem ce_if {c a b : Expr} {t : TT} {ta tb : TE} {m : TM} {ma mb : EM} {pos : Pos} (h : CT X Wx c t m) (h1 : CE X Wx a ta ma) (h2 : CE X Wx b tb mb) : CE X Wx (.IfExp c a b pos) (tIf t ta tb) (emIf m ma mb) := by
  refine ⟨pe_ifExp h.pe h1.pe h2.pe, fun G H ρ σ Q w r hp => ?_⟩
  refine h.sem G H ρ σ _ w r (PostR.bind hp fun x st1 ls1 H1 v _ e1 w1 rv h1' => ?_)
  subst rv
  cases x with
  | true => exact iteT (h1.sem (G.to ls1 st1) H1 ρ σ Q w1 (r.mono e1) h1')
  | false => exact iteF (h2.sem (G.to ls1 st1) H1 ρ σ Q w1 (r.mono e1) h1')
end
end Sim
end
section
set_option Elab.async false
set_option linter.all false
set_option maxRecDepth 100000
set_option maxHeartbeats 1000000
open PySem PySem.Spec PyProof.Rows L2
namespace Sim

/-! statements -/
inductive RS where
  | nx (ρ : Ev) (st : Stt) | rt (w : W) (st : Stt) | bk (ρ : Ev) (st : Stt) | ct (ρ : Ev) (st : Stt) | er (x : Exn) (ρ : Ev) (st : Stt) | no
abbrev SM := Ev → Stt → RS
def Rs.toS {α : Type} (r : Rs α) (ρ : Ev) (f : α → Stt → RS) : RS := match r with
  | .ok a st => f a st
  | .er x st => .er x ρ st
  | .no => .no
@[simp] theorem Rs.toS_ok {α : Type} (a : α) (st : Stt) (ρ : Ev) (f : α → Stt → RS) : (Rs.ok a st).toS ρ f = f a st := rfl
@[simp] theorem Rs.toS_er {α : Type} (x : Exn) (st : Stt) (ρ : Ev) (f : α → Stt → RS) : (Rs.er x st : Rs α).toS ρ f = .er x ρ st := rfl
@[simp] theorem Rs.toS_no {α : Type} (ρ : Ev) (f : α → Stt → RS) : (Rs.no : Rs α).toS ρ f = .no := rfl

def PostS (K : PySem.W.Frag) (Wx : WX) (D : Ends) (G : Gm) (H : Hp) (r : RS) : Prop := match r with
  | .nx ρ' st' => ∀ (ls' : List Addr) (σ' : L2.St) (H' : Hp), Ext G H (G.to ls' st') H' → World K (G.to ls' st') H' → RepE K (G.to ls' st') H' ρ' σ' → D.nx σ' H'
  | .rt w st' => ∀ (ls' : List Addr) (v : V) (H' : Hp), Ext G H (G.to ls' st') H' → World K (G.to ls' st') H' → RepV K (G.to ls' st') H' w v → D.rt v H'
  | .bk ρ' st' => ∀ (ls' : List Addr) (σ' : L2.St) (H' : Hp), Ext G H (G.to ls' st') H' → World K (G.to ls' st') H' → RepE K (G.to ls' st') H' ρ' σ' → D.bk σ' H'
  | .ct ρ' st' => ∀ (ls' : List Addr) (σ' : L2.St) (H' : Hp), Ext G H (G.to ls' st') H' → World K (G.to ls' st') H' → RepE K (G.to ls' st') H' ρ' σ' → D.ct σ' H'
  | .er x ρ' st' => ∀ (ls' : List Addr) (σ' : L2.St) (H' : Hp) (d : Option Addr), Ext G H (G.to ls' st') H' → World K (G.to ls' st') H' → RepE K (G.to ls' st') H' ρ' σ' → RepX K (G.to ls' st') H' x d → Wx x.cls d σ' H'
  | .no => False

section
variable {K : PySem.W.Frag} {Wx : WX} {D : Ends} {G G' : Gm} {H H' : Hp} {α β : Type} {R : Gm → Hp → α → β → Prop} {σ : L2.St} {ρ : Ev}
theorem PostS.mono {r : RS} (x : Ext G H G' H') (h : PostS K Wx D G H r) : PostS K Wx D G' H' r := by
  have hid := x.hid
  obtain ⟨l', s', h'⟩ := G'
  simp only at hid
  subst hid
  cases r with
  | nx ρ st => exact fun ls σ H1 e w q => h ls σ H1 (x.trans e) w q
  | rt v st => exact fun ls σ H1 e w q => h ls σ H1 (x.trans e) w q
  | bk ρ st => exact fun ls σ H1 e w q => h ls σ H1 (x.trans e) w q
  | ct ρ st => exact fun ls σ H1 e w q => h ls σ H1 (x.trans e) w q
  | er y ρ st => exact fun ls σ H1 d e w q => h ls σ H1 d (x.trans e) w q
  | no => exact h
theorem PostS.bind {r : Rs α} {f : α → Stt → RS} {Q1 : β → Hp → Prop} (h : PostS K Wx D G H (r.toS ρ f)) (re : RepE K G H ρ σ)
    (k : ∀ a st' ls' H' b, r = .ok a st' → Ext G H (G.to ls' st') H' → World K (G.to ls' st') H' → R (G.to ls' st') H' a b → PostS K Wx D (G.to ls' st') H' (f a st') → Q1 b H') : PostR K R (fun c d H' => Wx c d σ H') G H r Q1 := by
  cases r with
  | ok a st => exact fun ls H1 b e w q => k a st ls H1 b rfl e w q (PostS.mono e h)
  | er y st => exact fun ls H1 d e w q => h ls σ H1 d e w (re.mono e) q
  | no => exact h
end

def SemS (K : PySem.W.Frag) (Wx : WX) (ts : TS) (m : SM) : Prop := ∀ (G : Gm) (H : Hp) (ρ : Ev) (σ : L2.St) (D : Ends), World K G H → RepE K G H ρ σ → PostS K Wx D G H (m ρ G.st) → ts D σ H
structure CS (X : Cx) (Wx : WX) (s : Stmt) (t : TS) (m : SM) : Prop where
  pe : PS X s t
  sem : SemS X.K Wx t m
structure CSs (X : Cx) (Wx : WX) (s : List Stmt) (t : TS) (m : SM) : Prop where
  pe : PSs X s t
  sem : SemS X.K Wx t m

def sNext : SM := fun ρ st => .nx ρ st
def sSeq (m k : SM) : SM := fun ρ st => match m ρ st with
  | .nx ρ' st' => k ρ' st'
  | .rt w st' => .rt w st'
  | .bk ρ' st' => .bk ρ' st'
  | .ct ρ' st' => .ct ρ' st'
  | .er x ρ' st' => .er x ρ' st'
  | .no => .no
def sDrop (m : EM) : SM := fun ρ st => (m ρ st).toS ρ fun _ st1 => .nx ρ st1
def sRet (m : EM) : SM := fun ρ st => (m ρ st).toS ρ fun w st1 => .rt w st1
def sRetN : SM := fun _ st => .rt .non st
def sIf (c : TM) (a b : SM) : SM := fun ρ st => (c ρ st).toS ρ fun k st1 => if k = true then a ρ st1 else b ρ st1
def sBreak : SM := fun ρ st => .bk ρ st
def sCont : SM := fun ρ st => .ct ρ st
abbrev GM := Stt → W → Ev → Option Ev
def SemG (K : PySem.W.Frag) (g : TG) (gm : GM) (is : List Nat) : Prop := ∀ (G : Gm) (H : Hp) (ρ : Ev) (σ : L2.St) (w : W) (v : V) (ρ' : Ev) (Q : L2.St → Hp → Prop), World K G H → RepE K G H ρ σ → RepV K G H w v → gm G.st w ρ = some ρ' →
  (∀ σ', σ'.length = σ.length → (∀ j, j ∉ is → σ'[j]? = σ[j]?) → RepE K G H ρ' σ' → Q σ' H) → g v σ H Q
def SemGs (K : PySem.W.Frag) (g : TGs) (gm : List W → Ev → Option Ev) (is : List Nat) : Prop := ∀ (G : Gm) (H : Hp) (ρ : Ev) (σ : L2.St) (ws : List W) (vs : List V) (ρ' : Ev) (Q : L2.St → Hp → Prop), World K G H → RepE K G H ρ σ → RepL K G H ws vs → gm ws ρ = some ρ' →
  (∀ σ', σ'.length = σ.length → (∀ j, j ∉ is → σ'[j]? = σ[j]?) → RepE K G H ρ' σ' → Q σ' H) → g vs σ H Q
structure CG (X : Cx) (e : Expr) (g : TG) (gm : GM) (is : List Nat) : Prop where
  pe : PG X e g
  sem : SemG X.K g gm is
structure CGs (X : Cx) (e : List Expr) (g : TGs) (gm : List W → Ev → Option Ev) (is : List Nat) : Prop where
  pe : PGs X e g
  sem : SemGs X.K g gm is
def gmName (i : Nat) : GM := fun _ w ρ => some (ρ.set i (some w))
def gmNil : List W → Ev → Option Ev := fun ws ρ => match ws with
  | [] => some ρ
  | _ :: _ => none
/-- names alone in a tuple -/
def gmCons (i : Nat) (r : List W → Ev → Option Ev) : List W → Ev → Option Ev := fun ws ρ => match ws with
  | w :: ws => r ws (ρ.set i (some w))
  | [] => none
def gmTup (n : Nat) (r : List W → Ev → Option Ev) : GM := fun _ w ρ => match w with
  | .tup ws => if ws.length = n then r ws ρ else none
  | .prs ws => if ws.length = n then r ws ρ else none
  | _ => none
/-- any target in a tuple -/
def gmConsG (g : GM) (r : List W → Ev → Option Ev) : List W → Ev → Option Ev := fun ws ρ => match ws with
  | w :: ws => (g [] w ρ).bind (r ws)
  | [] => none
def sAsg (m : EM) (g : GM) : SM := fun ρ st => (m ρ st).toS ρ fun w st1 => match g st1 w ρ with
  | some ρ' => .nx ρ' st1
  | none => .no

section
variable {X : Cx} {Wx : WX} {K : PySem.W.Frag}
theorem css_nil : CSs X Wx [] tNext sNext := ⟨pss_nil, fun G H ρ σ D w r h => h G.ls σ H (Ext.refl _ _) w r⟩
theorem sem_seq {t u : TS} {m k : SM} (h1 : SemS K Wx t m) (h2 : SemS K Wx u k) : SemS K Wx (tSeq t u) (sSeq m k) := fun G H ρ σ D w r h => by
  refine h1 G H ρ σ { D with nx := u D } w r ?_
  unfold sSeq at h
  cases e : m ρ G.st with
  | nx ρ' st' =>
    rw [e] at h
    exact fun ls' σ' H' x w' r' => h2 (G.to ls' st') H' ρ' σ' D w' r' (PostS.mono x h)
  | rt v st' => rw [e] at h; exact h
  | bk ρ' st' => rw [e] at h; exact h
  | ct ρ' st' => rw [e] at h; exact h
  | er y ρ' st' => rw [e] at h; exact h
  | no => rw [e] at h; exact h
theorem css_cons {s : Stmt} {rest : List Stmt} {t u : TS} {m k : SM} (h1 : CS X Wx s t m) (h2 : CSs X Wx rest u k) : CSs X Wx (s :: rest) (tSeq t u) (sSeq m k) := ⟨pss_cons h1.pe h2.pe, sem_seq h1.sem h2.sem⟩
theorem css_one {s : Stmt} {t : TS} {m : SM} (h1 : CS X Wx s t m) : CSs X Wx [s] t m := ⟨pss_one h1.pe, h1.sem⟩
theorem cs_pass {pos : Pos} : CS X Wx (.Pass pos) tNext sNext := ⟨ps_pass, css_nil.sem⟩
theorem cs_break {pos : Pos} : CS X Wx (.Break pos) tBreak sBreak := ⟨ps_break, fun G H ρ σ D w r h => h G.ls σ H (Ext.refl _ _) w r⟩
theorem cs_cont {pos : Pos} : CS X Wx (.Continue pos) tCont sCont := ⟨ps_continue, fun G H ρ σ D w r h => h G.ls σ H (Ext.refl _ _) w r⟩
theorem cs_expr {e : Expr} {te : TE} {m : EM} {pos : Pos} (he : CE X Wx e te m) (hs : swapsWith e none pos.line X.env = pure false := by rfl) : CS X Wx (.Expr e pos) (tDrop te) (sDrop m) := by
  refine ⟨ps_expr he.pe hs, fun G H ρ σ D w r h => ?_⟩
  exact he.sem G H ρ σ _ w r (PostS.bind h r fun a st1 ls1 H1 v _ e1 w1 _ h1 => h1 ls1 σ H1 (Ext.refl _ _) w1 (r.mono e1))
theorem cs_ret {e : Expr} {te : TE} {m : EM} {pos : Pos} (he : CE X Wx e te m) : CS X Wx (.Return (some e) pos) (tRet te) (sRet m) := by
  refine ⟨ps_ret he.pe, fun G H ρ σ D w r h => ?_⟩
  exact he.sem G H ρ σ _ w r (PostS.bind h r fun a st1 ls1 H1 v _ e1 w1 rv h1 => h1 ls1 v H1 (Ext.refl _ _) w1 rv)
theorem cs_retN {pos : Pos} : CS X Wx (.Return none pos) tRetN sRetN := ⟨ps_retN, fun G H ρ σ D w r h => h G.ls .non H (Ext.refl _ _) w .non⟩
theorem cs_if {c : Expr} {a b : List Stmt} {tc : TT} {t u : TS} {mc : TM} {m k : SM} {pos : Pos} (hc : CT X Wx c tc mc) (ha : CSs X Wx a t m) (hb : CSs X Wx b u k) : CS X Wx (.If c a b pos) (tIfS tc t u) (sIf mc m k) := by
  refine ⟨ps_if hc.pe ha.pe hb.pe, fun G H ρ σ D w r h => ?_⟩
  refine hc.sem G H ρ σ _ w r (PostS.bind h r fun x st1 ls1 H1 v _ e1 w1 rv h1 => ?_)
  subst rv
  cases x with
  | true => exact iteT (ha.sem (G.to ls1 st1) H1 ρ σ D w1 (r.mono e1) h1)
  | false => exact iteF (hb.sem (G.to ls1 st1) H1 ρ σ D w1 (r.mono e1) h1)
theorem sem_gname (i : Nat) : SemG K (gName i) (gmName i) [i] := fun G H ρ σ w v ρ' Q wo r rv e q => by
  cases e
  refine q _ (by simp) (fun j hj => ?_) (r.set i rv)
  rw [List.getElem?_set_ne (fun z => hj (by rw [z]; exact List.mem_singleton_self _))]
theorem cg_name {i : Nat} {x : Str} {pos : Pos} (hN : X.N.Nodup) (hi : X.N[i]? = some x) (hx : Loc X.env.scope x) (hf : X.fn x = true ∨ X.env.scope.names.lookup x = some .local := by first | exact .inl rfl | exact .inr rfl | assumption) : CG X (.Name x pos) (gName i) (gmName i) [i] := ⟨pg_name hN hi hx hf, sem_gname i⟩
theorem cgs_nil : CGs X [] gNil gmNil [] := ⟨pgs_nil, fun G H ρ σ ws vs ρ' Q wo r rv e q => by
  cases rv with
  | nil => cases e; exact ⟨rfl, q σ rfl (fun _ _ => rfl) r⟩
  | cons _ _ => cases e⟩
theorem cgs_name {i : Nat} {x : Str} {pos : Pos} {es : List Expr} {u : TGs} {gm : List W → Ev → Option Ev} {is : List Nat} (hN : X.N.Nodup) (hi : X.N[i]? = some x) (hx : Loc X.env.scope x) (h2 : CGs X es u gm is) (hf : X.fn x = true ∨ X.env.scope.names.lookup x = some .local := by first | exact .inl rfl | exact .inr rfl | assumption)
    (hs : (assignEach (.Name x pos :: es) X.env).map (·.2) = assign (.Name x pos) X.env :: (assignEach es X.env).map (·.2) := by rfl) : CGs X (.Name x pos :: es) (gCons (gName i) u) (gmCons i gm) (i :: is) := by
  refine ⟨pgs_cons (pg_name hN hi hx hf) h2.pe hs, fun G H ρ σ ws vs ρ' Q wo r rv e q => ?_⟩
  cases rv with
  | nil => cases e
  | cons a b =>
    refine ⟨_, _, rfl, ?_⟩
    refine h2.sem G H _ _ _ _ ρ' Q wo (r.set i a) b e fun σ' hl hj r' => ?_
    refine q σ' (by rw [hl]; simp) (fun j hjn => ?_) r'
    rw [hj j (fun z => hjn (List.mem_cons_of_mem _ z)), List.getElem?_set_ne (fun z => hjn (by rw [z]; exact List.mem_cons_self))]
theorem cg_tup {es : List Expr} {k : Nat} {t : TGs} {gm : List W → Ev → Option Ev} {is : List Nat} {n : Nat} {pos : Pos} (hc : X.calm = true) (h : CGs X es t gm is) (hn : (assignEach es X.env).length = n := by rfl) (hst : (assignEach es X.env).findIdx? (·.1) = none := by rfl) :
    CG X (.Tuple es k pos) (gTup X.K n t) (gmTup n gm) is := by
  refine ⟨pg_tup hc h.pe hn hst, fun G H ρ σ w v ρ' Q wo r rv e q => ?_⟩
  cases rv with
  | tup hq rl =>
    unfold gmTup at e
    dsimp only at e
    split at e
    · rename_i hl
      refine ⟨_, _, rfl, ?_, by rw [← rl.length]; exact hl, h.sem G H ρ σ _ _ ρ' Q wo r rl e q⟩
      rcases hq with ⟨⟨o, _, hq⟩, _⟩ | ⟨o, its, n, h1, h2, _, h3⟩
      · exact .inl (.inr ⟨o, hq⟩)
      · exact .inr ⟨o, its, n, h1, h2, h3⟩
    · cases e
  | prs hq rl =>
    unfold gmTup at e
    dsimp only at e
    split at e
    · rename_i hl
      exact ⟨_, _, rfl, .inl hq.1, by rw [← rl.length]; exact hl, h.sem G H ρ σ _ _ ρ' Q wo r rl e q⟩
    · cases e
  | _ => cases e
theorem sem_asg {te : TE} {g : TG} {m : EM} {gm : GM} {is : List Nat} (he : SemE K Wx te m) (hg : SemG K g gm is) : SemS K Wx (tAsg te g) (sAsg m gm) := fun G H ρ σ D w r h => by
  refine he G H ρ σ _ w r (PostS.bind h r fun x st1 ls1 H1 v _ e1 w1 rv h1 => ?_)
  cases e : gm st1 x ρ with
  | none => rw [e] at h1; exact h1.elim
  | some ρ' =>
    rw [e] at h1
    exact hg (G.to ls1 st1) H1 ρ σ x v ρ' _ w1 (r.mono e1) rv e fun σ' _ _ r' => h1 ls1 σ' H1 (Ext.refl _ _) w1 r'
theorem cs_set {i : Nat} {x : Str} {e : Expr} {te : TE} {m : EM} {pos pos' : Pos} (hN : X.N.Nodup) (hi : X.N[i]? = some x) (hx : Loc X.env.scope x) (he : CE X Wx e te m) (hs : swapsWith e (some (.Name x pos')) pos.line X.env = pure false := by rfl)
    (hf : X.fn x = true ∨ X.env.scope.names.lookup x = some .local := by first | exact .inl rfl | exact .inr rfl | assumption) : CS X Wx (.Assign [.Name x pos'] e pos) (tAsg te (gName i)) (sAsg m (gmName i)) :=
  ⟨ps_set hN hi hx he.pe hs hf, sem_asg he.sem (sem_gname i)⟩
theorem cs_asg {tg e : Expr} {te : TE} {g : TG} {m : EM} {gm : GM} {is : List Nat} {pos : Pos} (he : CE X Wx e te m) (hg : CG X tg g gm is) (hs : swapsWithSole [tg] e pos.line X.env = pure false := by rfl) (hw : swappedStores [tg] e X.env = pure none := by rfl)
    (h1 : (assignEach [tg] X.env).map (·.2) = [assign tg X.env] := by rfl) : CS X Wx (.Assign [tg] e pos) (tAsg te g) (sAsg m gm) := ⟨ps_asg he.pe hg.pe hs hw h1, sem_asg he.sem hg.sem⟩
def sPar (i j : Nat) (a b : EM) : SM := fun ρ st => (a ρ st).toS ρ fun x st1 => (b ρ st1).toS ρ fun y st2 => .nx ((ρ.set i (some x)).set j (some y)) st2
theorem cs_par {i j : Nat} {x y : Str} {a b : Expr} {ta tb : TE} {ma mb : EM} {px py pt : Pos} {kt k2 pt2} {pos : Pos} (hc : X.calm = true) (hN : X.N.Nodup) (hi : X.N[i]? = some x) (hj : X.N[j]? = some y) (hij : i ≠ j)
    (hx : X.env.scope.names.lookup x = some .local) (hy : X.env.scope.names.lookup y = some .local) (ha : CE X Wx a ta ma) (hb : CE X Wx b tb mb)
    (hw : swappedStores [.Tuple [.Name x px, .Name y py] kt pt] (.Tuple [a, b] k2 pt2) X.env = pure (some [x, y]))
    (hs1 : starEach [b] X.env = (false, eval b X.env) :: starEach [] X.env := by rfl) (hs2 : starEach [a, b] X.env = (false, eval a X.env) :: starEach [b] X.env := by rfl)
    (hs : swapsWithSole [.Tuple [.Name x px, .Name y py] kt pt] (.Tuple [a, b] k2 pt2) pos.line X.env = pure false := by rfl) :
    CS X Wx (.Assign [.Tuple [.Name x px, .Name y py] kt pt] (.Tuple [a, b] k2 pt2) pos) (tPar i j (tCons ta (tCons tb tNil))) (sPar i j ma mb) := by
  refine ⟨ps_par hc hN hi hj hij hx hy (pa_cons ha.pe (pa_cons hb.pe pa_nil hs1) hs2) hw hs, fun G H ρ σ D w r h => ?_⟩
  refine ha.sem G H ρ σ _ w r (PostS.bind h r fun u st1 ls1 H1 v _ e1 w1 rv h1 => ?_)
  refine hb.sem (G.to ls1 st1) H1 ρ σ _ w1 (r.mono e1) (PostS.bind h1 (r.mono e1) fun u2 st2 ls2 H2 v2 _ e2 w2 rv2 h2 => ?_)
  exact ⟨v, v2, rfl, h2 ls2 _ H2 (Ext.refl _ _) w2 (((r.mono (e1.trans e2)).set i (rv.mono e2)).set j rv2)⟩

/-! loops -/
structure Src where
  items : List W
  ok : Stt → Prop
abbrev IM := Ev → Stt → Rs Src
def Walks (K : PySem.W.Frag) (G0 : Gm) (H0 : Hp) (src : Src) (J : It) : Prop := ∀ (G : Gm) (H : Hp), Less G0 H0 G H → World K G H → src.ok G.st → ∀ i : Nat,
  (∀ w, src.items[i]? = some w → J.go i H ∧ ∀ x H', J.yld i H x H' → Ext G H G H' ∧ World K G H' ∧ RepV K G H' w x) ∧ (src.items.length ≤ i → J.stop i H)
def SemI (K : PySem.W.Frag) (Wx : WX) (wi : TI) (im : IM) : Prop := ∀ (G : Gm) (H : Hp) (ρ : Ev) (σ : L2.St) (R : It → Hp → Prop), World K G H → RepE K G H ρ σ → PostR K (Walks K) (fun c d H' => Wx c d σ H') G H (im ρ G.st) R → wi σ H R
structure CI (X : Cx) (Wx : WX) (tg : Expr) (e : Expr) (wi : TI) (im : IM) : Prop where
  pe : PI X tg e wi
  sem : SemI X.K Wx wi im

def RS.loop (r : RS) (k : Ev → Stt → RS) : RS := match r with
  | .nx ρ st => k ρ st
  | .ct ρ st => k ρ st
  | .bk ρ st => .nx ρ st
  | .rt v st => .rt v st
  | .er x ρ st => .er x ρ st
  | .no => .no
open Classical in
noncomputable def forW (ok : Stt → Prop) (g : GM) (body : SM) : List W → Ev → Stt → RS
  | [], ρ, st => if ok st then .nx ρ st else .no
  | w :: ws, ρ, st => if ok st then (match g st w ρ with
      | none => .no
      | some ρ1 => (body ρ1 st).loop fun ρ2 st2 => forW ok g body ws ρ2 st2) else .no
noncomputable def sFor (im : IM) (g : GM) (body : SM) : SM := fun ρ st => (im ρ st).toS ρ fun src st1 => forW src.ok g body src.items ρ st1

theorem sem_for {wi : TI} {g : TG} {tb : TS} {im : IM} {gm : GM} {is : List Nat} {body : SM} (hi : SemI K Wx wi im) (hg : SemG K g gm is) (hb : SemS K Wx tb body) : SemS K Wx (tFor wi g tb) (sFor im gm body) := fun G H ρ σ D w r h => by
  refine hi G H ρ σ _ w r (PostS.bind h r fun src st1 ls1 H1 J _ e1 w1 wk h1 => ?_)
  refine ⟨fun i m σ H => m = src.items.length - i ∧ i ≤ src.items.length ∧ ∃ (G2 : Gm) (ρ2 : Ev), Ext (G.to ls1 st1) H1 G2 H ∧ World K G2 H ∧ RepE K G2 H ρ2 σ ∧ PostS K Wx D G2 H (forW src.ok gm body (src.items.drop i) ρ2 G2.st),
    ⟨_, rfl, Nat.zero_le _, (G.to ls1 st1), ρ, Ext.refl _ _, w1, r.mono e1, h1⟩, ?_⟩
  rintro i m σ2 H2 ⟨rfl, hle, G2, ρ2, e2, w2, r2, h2⟩
  by_cases hlt : i < src.items.length
  · rw [List.drop_eq_getElem_cons hlt] at h2
    rw [forW] at h2
    split at h2
    · rename_i hok
      obtain ⟨wg, ws⟩ := wk G2 H2 e2.less w2 hok i
      obtain ⟨hgo, hy⟩ := wg _ (List.getElem?_eq_getElem hlt)
      refine .inr ⟨hgo, fun σ' H' => i + 1 ≤ src.items.length ∧ ∃ (G3 : Gm) (ρ3 : Ev), Ext (G.to ls1 st1) H1 G3 H' ∧ World K G3 H' ∧ RepE K G3 H' ρ3 σ' ∧ PostS K Wx D G3 H' (forW src.ok gm body (src.items.drop (i + 1)) ρ3 G3.st), fun σ' H' hN => ⟨src.items.length - (i + 1), by omega, rfl, hN⟩, fun x H3 hx => ?_⟩
      obtain ⟨e3, w3, rx⟩ := hy x H3 hx
      cases eg : gm G2.st src.items[i] ρ2 with
      | none => rw [eg] at h2; exact h2.elim
      | some ρ3 =>
        rw [eg] at h2
        dsimp only at h2
        refine hg G2 H3 ρ2 σ2 _ x ρ3 _ w3 (r2.mono e3) rx eg fun σ4 _ _ r4 => ?_
        refine hb G2 H3 ρ3 σ4 _ w3 r4 ?_
        have e23 := e2.trans e3
        cases eb : body ρ3 G2.st with
        | nx ρ5 st5 =>
          rw [eb] at h2
          exact fun ls5 σ5 H5 e5 w5 r5 => ⟨hlt, (G2.to ls5 st5), ρ5, e23.trans e5, w5, r5, PostS.mono (e3.trans e5) h2⟩
        | ct ρ5 st5 =>
          rw [eb] at h2
          exact fun ls5 σ5 H5 e5 w5 r5 => ⟨hlt, (G2.to ls5 st5), ρ5, e23.trans e5, w5, r5, PostS.mono (e3.trans e5) h2⟩
        | bk ρ5 st5 =>
          rw [eb] at h2
          exact fun ls5 σ5 H5 e5 w5 r5 => h2 ls5 σ5 H5 (e3.trans e5) w5 r5
        | rt v5 st5 =>
          rw [eb] at h2
          exact fun ls5 σ5 H5 e5 w5 r5 => h2 ls5 σ5 H5 (e3.trans e5) w5 r5
        | er y5 ρ5 st5 =>
          rw [eb] at h2
          exact fun ls5 σ5 H5 d e5 w5 r5 => h2 ls5 σ5 H5 d (e3.trans e5) w5 r5
        | no => rw [eb] at h2; exact h2.elim
    · exact h2.elim
  · have ei : i = src.items.length := by omega
    subst ei
    rw [List.drop_length] at h2
    rw [forW] at h2
    split at h2
    · rename_i hok
      exact .inl ⟨(wk G2 H2 e2.less w2 hok _).2 (Nat.le_refl _), h2 G2.ls σ2 H2 (Ext.refl _ _) w2 r2⟩
    · exact h2.elim
theorem cs_for {tg iter : Expr} {body : List Stmt} {wi : TI} {g : TG} {tb : TS} {im : IM} {gm : GM} {is : List Nat} {mb : SM} {pos : Pos} (hp : PassesOwn (model X.prog X.w) X.A X.env X.xe) (hc : X.calm = true) (hi : CI X Wx tg iter wi im) (hg : CG X tg g gm is) (hb : CSs X Wx body tb mb)
    (hs : ∀ x, foldedSetIterable iter X.env x = pure x := by intro _; rfl) : CS X Wx (.For tg iter body [] pos) (tFor wi g tb) (sFor im gm mb) := ⟨ps_for hp hc hi.pe hg.pe hb.pe hs, sem_for hi.sem hg.sem hb.sem⟩

/-! what is walked -/
def seqOf (st : Stt) : W → Option (List W)
  | .lst ws => some ws
  | .scr ws => some ws
  | .tup ws => some ws
  | .loc n => match st[n]? with
    | some (some (.lst ws)) => some ws
    | _ => none
  | _ => none
def okOf : W → List W → Stt → Prop
  | .loc n, ws, st => st[n]? = some (some (.lst ws))
  | _, _, _ => True
def lstOf (st : Stt) : W → Option (List W)
  | .lst ws => some ws
  | .scr ws => some ws
  | .loc n => match st[n]? with
    | some (some (.lst ws)) => some ws
    | _ => none
  | _ => none
theorem Fz.rd {G : Gm} {H : Hp} {a : Addr} {u : HO} (h : Fz G H a u) : Rd H a u := h.1
theorem lst_sq {G : Gm} {H : Hp} {w : W} {v : V} {ws : List W} (wo : World K G H) (r : RepV K G H w v) (e : lstOf G.st w = some ws) : ∃ a vs, v = .ref a ∧ SqL K H a vs ∧ RepL K G H ws vs := by
  cases r with
  | lst h rl => cases e; exact ⟨_, _, rfl, .inl (.inl h.1), rl⟩
  | scr h rl => cases e; exact ⟨_, _, rfl, h.imp_left Fz.rd, rl⟩
  | loc h =>
    unfold lstOf at e
    dsimp only at e
    split at e
    · rename_i q
      cases e
      obtain ⟨vs, e1, rl⟩ := wo.at' _ _ _ h q
      exact ⟨_, vs, rfl, .inl (.inl e1), rl⟩
    · cases e
  | _ => cases e
theorem tup_sq {G : Gm} {H : Hp} {v : V} {ws : List W} (r : RepV K G H (.tup ws) v) : ∃ a vs, v = .ref a ∧ SqT K H a vs ∧ RepL K G H ws vs := by
  cases r with
  | tup h rl =>
    refine ⟨_, _, rfl, ?_, rl⟩
    rcases h with ⟨⟨o, _, hq⟩, _⟩ | ⟨o, its, n, h1, h2, _, h3⟩
    · exact .inl (.inr ⟨o, hq⟩)
    · exact .inr ⟨o, its, n, h1, h2, h3⟩
theorem seq_sq {G : Gm} {H : Hp} {w : W} {v : V} {ws : List W} (wo : World K G H) (r : RepV K G H w v) (e : seqOf G.st w = some ws) : ∃ a vs, v = .ref a ∧ (SqL K H a vs ∨ SqT K H a vs) ∧ RepL K G H ws vs := by
  cases w with
  | tup us => cases e; obtain ⟨a, vs, e1, h, rl⟩ := tup_sq r; exact ⟨a, vs, e1, .inr h, rl⟩
  | lst us => obtain ⟨a, vs, e1, h, rl⟩ := lst_sq wo r e; exact ⟨a, vs, e1, .inl h, rl⟩
  | scr us => obtain ⟨a, vs, e1, h, rl⟩ := lst_sq wo r e; exact ⟨a, vs, e1, .inl h, rl⟩
  | loc n => obtain ⟨a, vs, e1, h, rl⟩ := lst_sq wo r e; exact ⟨a, vs, e1, .inl h, rl⟩
  | _ => cases e
theorem RepL.get {G : Gm} {H : Hp} : ∀ {ws : List W} {vs : List V} {i : Nat} {w : W}, RepL K G H ws vs → ws[i]? = some w → ∃ v, vs[i]? = some v ∧ RepV K G H w v
  | _, _, _, _, .nil, e => by simp at e
  | _, _, 0, _, .cons h _, e => by simp at e; subst e; exact ⟨_, rfl, h⟩
  | _, _, i + 1, w, .cons _ r, e => by
    obtain ⟨v, a, b⟩ := RepL.get (i := i) (w := w) r (by simpa using e)
    exact ⟨v, by simpa using a, b⟩
end
end Sim
end
section
set_option Elab.async false
set_option linter.all false
set_option maxRecDepth 100000
set_option maxHeartbeats 1000000
open PySem PySem.Spec PyProof.Rows L2
namespace Sim
section
variable {X : Cx} {Wx : WX} {K : PySem.W.Frag} {tg : Expr}

/-! a list, a tuple, a text, by values -/
def iAny (K : PySem.W.Frag) (te : TE) : TI := fun σ H R => te σ H fun x H1 =>
  (∃ a, x = .ref a ∧ (∃ xs, SqL K H1 a xs) ∧ R (Itl K a) H1) ∨ (∃ a, x = .ref a ∧ (∃ xs, SqT K H1 a xs) ∧ R (Itt K a) H1) ∨ ∃ z, x = .str z ∧ R (Its z) H1
theorem pi_any {l : Expr} {tl : TE} (hl : PE X l tl) : PI X tg l (iAny X.K tl) := by
  refine ⟨fun pins s σ H R I h => ?_⟩
  refine thn (hl.run pins s σ H _ I h) fun v s1 ⟨x, H1, I1, r1, q1⟩ => ?_
  rcases q1 with ⟨a, rfl, ⟨xs, hq⟩, q⟩ | ⟨a, rfl, ⟨xs, hq⟩, q⟩ | ⟨z, rfl, q⟩
  · cases r1
    obtain ⟨its, rv, p, hz⟩ := I1.list hq
    refine wpAny_pyIter_list p.isList ⟨_, [s1.heap.objs.size], _, _, H1, rfl, I1.kept (t' := s1.toks) fun b o e => Heap.get?_push_of_some _ e, turn_list a _, ⟨_, Heap.get?_push_size _ rfl, rfl, rfl⟩, fun b hb => ?_, q⟩
    rw [List.mem_singleton.mp hb]
    exact I1.fpOk (Nat.le_refl _) (I1.hok.fresh (Nat.le_refl _))
  · cases r1
    obtain ⟨its, rv, p, hz⟩ := I1.tuple hq
    refine wpAny_pyIter_tuple (show s1.heap.IsTuple a its.toArray from p) ⟨_, [s1.heap.objs.size], _, _, H1, rfl, I1.kept (t' := s1.toks) fun b o e => Heap.get?_push_of_some _ e, turn_tuple a _, ⟨_, Heap.get?_push_size _ rfl, rfl, rfl⟩, fun b hb => ?_, q⟩
    rw [List.mem_singleton.mp hb]
    exact I1.fpOk (Nat.le_refl _) (I1.hok.fresh (Nat.le_refl _))
  · obtain ⟨t, rfl⟩ := r1
    cases ha : z.cps.all (· < 128)
    · exact wpAny_pyIter_wide ha (pi_one (tk := s1.toks) I1 _ (turn_str _ z t _ (.inr rfl)) ⟨_, Heap.get?_push_size _ rfl, rfl, rfl⟩ q)
    · exact wpAny_pyIter_ascii ha (pi_one (tk := s1.toks) I1 _ (turn_str _ z t _ (.inl rfl)) ⟨_, Heap.get?_push_size _ rfl, rfl, rfl⟩ q)
/-- what a walk goes through -/
def itemsOf (st : Stt) : W → Option (List W)
  | .str z => some (z.cps.toList.map fun c => .str ⟨#[c]⟩)
  | w => seqOf st w
def iSeq (m : EM) : IM := fun ρ st => (m ρ st).bind fun w st1 => match itemsOf st1 w with
  | some ws => .ok ⟨ws, okOf w ws⟩ st1
  | none => .no
theorem lstOf_ok {st0 st : Stt} {w : W} {ws : List W} (e : lstOf st0 w = some ws) (h : okOf w ws st) : lstOf st w = some ws := by
  cases w with
  | lst us => exact e
  | scr us => exact e
  | loc n =>
    unfold okOf at h
    unfold lstOf
    dsimp only at h ⊢
    rw [h]
  | _ => cases e
theorem walks_list {G0 : Gm} {H0 : Hp} {w : W} {a : Addr} {ws : List W} (r : RepV K G0 H0 w (.ref a)) (e : lstOf G0.st w = some ws) : Walks K G0 H0 ⟨ws, okOf w ws⟩ (Itl K a) := fun G H x wo hok i => by
  obtain ⟨a', vs, ea, sq, rl⟩ := lst_sq wo (r.less x) (lstOf_ok e hok)
  cases ea
  refine ⟨fun u hu => ?_, fun hl => ⟨vs, sq, by rw [← rl.length]; exact hl⟩⟩
  obtain ⟨v, ev, rv⟩ := rl.get hu
  refine ⟨⟨vs, v, sq, ev⟩, fun y H' hy => ?_⟩
  obtain ⟨rfl, hy⟩ := hy
  have : v = y := Option.some.inj (ev.symm.trans (hy vs sq))
  subst this
  exact ⟨Ext.refl _ _, wo, rv⟩
theorem walks_tup {G0 : Gm} {H0 : Hp} {a : Addr} {ws : List W} (r : RepV K G0 H0 (.tup ws) (.ref a)) : Walks K G0 H0 ⟨ws, fun _ => True⟩ (Itt K a) := fun G H x wo hok i => by
  obtain ⟨a', vs, ea, sq, rl⟩ := tup_sq (r.less x)
  cases ea
  refine ⟨fun u hu => ?_, fun hl => ⟨vs, sq, by rw [← rl.length]; exact hl⟩⟩
  obtain ⟨v, ev, rv⟩ := rl.get hu
  refine ⟨⟨vs, v, sq, ev⟩, fun y H' hy => ?_⟩
  obtain ⟨rfl, hy⟩ := hy
  have : v = y := Option.some.inj (ev.symm.trans (hy vs sq))
  subst this
  exact ⟨Ext.refl _ _, wo, rv⟩
theorem walks_str {G0 : Gm} {H0 : Hp} {z : Str} : Walks K G0 H0 ⟨z.cps.toList.map fun c => .str ⟨#[c]⟩, fun _ => True⟩ (Its z) := fun G H x wo hok i => by
  refine ⟨fun u hu => ?_, fun hl => ?_⟩
  · dsimp only at hu
    rw [List.getElem?_map] at hu
    cases e : z.cps.toList[i]? with
    | none => rw [e] at hu; cases hu
    | some c =>
      rw [e] at hu
      cases hu
      have hi := (List.getElem?_eq_some_iff.mp e).1
      refine ⟨show i < z.cps.size by simpa using hi, fun y H' hy => ?_⟩
      obtain ⟨rfl, d, hd, rfl⟩ := hy
      rw [Array.getElem?_toList] at e
      rw [e] at hd
      cases hd
      exact ⟨Ext.refl _ _, wo, .str _⟩
  · show z.cps.size ≤ i
    simpa using hl
theorem sem_seq_i {te : TE} {m : EM} (h : SemE K Wx te m) : SemI K Wx (iAny K te) (iSeq m) := fun G H ρ σ R w r hp => by
  refine h G H ρ σ _ w r (PostR.bind hp fun x st1 ls1 H1 v _ e1 w1 rv h1 => ?_)
  cases e : itemsOf st1 x with
  | none => rw [e] at h1; exact h1.elim
  | some ws =>
    rw [e] at h1
    dsimp only at h1
    cases x with
    | tup us =>
      cases e
      obtain ⟨a, vs, rfl, sq, _⟩ := tup_sq rv
      exact .inr (.inl ⟨a, rfl, ⟨vs, sq⟩, PostR.ok (G := G.to ls1 st1) w1 h1 (walks_tup rv)⟩)
    | scr us =>
      obtain ⟨a, vs, rfl, sq, _⟩ := lst_sq (G := G.to ls1 st1) w1 rv e
      exact .inl ⟨a, rfl, ⟨vs, sq⟩, PostR.ok (G := G.to ls1 st1) w1 h1 (walks_list rv e)⟩
    | lst us =>
      obtain ⟨a, vs, rfl, sq, _⟩ := lst_sq (G := G.to ls1 st1) w1 rv e
      exact .inl ⟨a, rfl, ⟨vs, sq⟩, PostR.ok (G := G.to ls1 st1) w1 h1 (walks_list rv e)⟩
    | loc n =>
      obtain ⟨a, vs, rfl, sq, _⟩ := lst_sq (G := G.to ls1 st1) w1 rv e
      exact .inl ⟨a, rfl, ⟨vs, sq⟩, PostR.ok (G := G.to ls1 st1) w1 h1 (walks_list rv e)⟩
    | str z =>
      cases e
      cases rv
      exact .inr (.inr ⟨z, rfl, PostR.ok (G := G.to ls1 st1) w1 h1 walks_str⟩)
    | _ => cases e
theorem ci_seq {e : Expr} {te : TE} {m : EM} (h : CE X Wx e te m) : CI X Wx tg e (iAny X.K te) (iSeq m) := ⟨pi_any h.pe, sem_seq_i h.sem⟩

/-! ranges -/
def rngW (lo : Int) (n : Nat) : List W := (List.range n).map fun (i : Nat) => .int (lo + (i : Int))
def iRange1 (ms : AM) : IM := fun ρ st => (ms ρ st).bind fun ws st1 => match ws with
  | [.int j] => if -(2 ^ 62) ≤ j ∧ j < 2 ^ 62 then .ok ⟨rngW 0 j.toNat, fun _ => True⟩ st1 else .no
  | _ => .no
def iRange2 (ms : AM) : IM := fun ρ st => (ms ρ st).bind fun ws st1 => match ws with
  | [.int i, .int j] => if -(2 ^ 62) ≤ i ∧ i < 2 ^ 62 ∧ -(2 ^ 62) ≤ j ∧ j < 2 ^ 62 then .ok ⟨rngW i (j - i).toNat, fun _ => True⟩ st1 else .no
  | _ => .no
theorem walks_rng {G0 : Gm} {H0 : Hp} {lo : Int} {n : Nat} : Walks K G0 H0 ⟨rngW lo n, fun _ => True⟩ (Itr lo n) := fun G H x wo hok i => by
  refine ⟨fun u hu => ?_, fun hl => show n ≤ i by simpa [rngW] using hl⟩
  have hi : i < n := by simpa [rngW] using (List.getElem?_eq_some_iff.mp hu).1
  refine ⟨hi, fun y H' hy => ?_⟩
  obtain ⟨rfl, rfl⟩ := hy
  simp only [rngW, List.getElem?_map, List.getElem?_range hi, Option.map_some, Option.some.injEq] at hu
  subst hu
  exact ⟨Ext.refl _ _, wo, .int _⟩
theorem RepL.one {G : Gm} {H : Hp} {w : W} {vs : List V} (h : RepL K G H [w] vs) : ∃ v, vs = [v] ∧ RepV K G H w v := by
  cases h with
  | cons a b => cases b; exact ⟨_, rfl, a⟩
theorem RepL.two {G : Gm} {H : Hp} {w w2 : W} {vs : List V} (h : RepL K G H [w, w2] vs) : ∃ v v2, vs = [v, v2] ∧ RepV K G H w v ∧ RepV K G H w2 v2 := by
  cases h with
  | cons a b =>
    obtain ⟨v2, rfl, c⟩ := b.one
    exact ⟨_, _, rfl, a, c⟩
theorem RepL.three {G : Gm} {H : Hp} {w w2 w3 : W} {vs : List V} (h : RepL K G H [w, w2, w3] vs) : ∃ v v2 v3, vs = [v, v2, v3] ∧ RepV K G H w v ∧ RepV K G H w2 v2 ∧ RepV K G H w3 v3 := by
  cases h with
  | cons a b =>
    obtain ⟨v2, v3, rfl, c, d⟩ := b.two
    exact ⟨_, _, _, rfl, a, c, d⟩
theorem RepV.int_inv {G : Gm} {H : Hp} {i : Int} {v : V} (h : RepV K G H (.int i) v) : v = .int i := by cases h; rfl
theorem RepV.str_inv {G : Gm} {H : Hp} {i : Str} {v : V} (h : RepV K G H (.str i) v) : v = .str i := by cases h; rfl
theorem RepV.bl_inv {G : Gm} {H : Hp} {i : Bool} {v : V} (h : RepV K G H (.bl i) v) : v = .bl i := by cases h; rfl
theorem ci_range1 {a : Expr} {ta : TA} {ms : AM} {p pos : Pos} (hg : Gl X "range") (hm : X.mg "range" = none) (ha : CA X Wx [a] ta ms) (hs : starEach [a] X.env = [(false, eval a X.env)] := by rfl) : CI X Wx tg (.Call (.Name "range" p) [a] [] pos) (iRng1 ta) (iRange1 ms) := by
  refine ⟨pi_range1 hg hm ha.pe hs, fun G H ρ σ R w r hp => ?_⟩
  refine ha.sem G H ρ σ _ w r (PostR.bind hp fun ws st1 ls1 H1 vs he e1 w1 rv h1 => ?_)
  clear he
  split at h1
  · split at h1
    · rename_i j hj
      obtain ⟨v, rfl, r1⟩ := rv.one
      cases r1.int_inv
      exact ⟨j, rfl, hj.1, hj.2, PostR.ok (G := G.to ls1 st1) w1 h1 walks_rng⟩
    · exact h1.elim
  · exact h1.elim
theorem ci_range2 {a b : Expr} {ta : TA} {ms : AM} {p pos : Pos} (hg : Gl X "range") (hm : X.mg "range" = none) (ha : CA X Wx [a, b] ta ms) (hs : starEach [a, b] X.env = [(false, eval a X.env), (false, eval b X.env)] := by rfl) (hs2 : starEach [b] X.env = [(false, eval b X.env)] := by rfl) :
    CI X Wx tg (.Call (.Name "range" p) [a, b] [] pos) (iRng2 ta) (iRange2 ms) := by
  refine ⟨pi_range2 hg hm ha.pe hs hs2, fun G H ρ σ R w r hp => ?_⟩
  refine ha.sem G H ρ σ _ w r (PostR.bind hp fun ws st1 ls1 H1 vs he e1 w1 rv h1 => ?_)
  clear he
  split at h1
  · split at h1
    · rename_i i j hj
      obtain ⟨v, u, rfl, r1, ru⟩ := rv.two
      cases r1.int_inv
      cases ru.int_inv
      exact ⟨i, j, rfl, hj, PostR.ok (G := G.to ls1 st1) w1 h1 walks_rng⟩
    · exact h1.elim
  · exact h1.elim
def iRange3 (ms : AM) : IM := fun ρ st => (ms ρ st).bind fun ws st1 => match ws with
  | [.int i, .int j, .int c] => if -(2 ^ 62) ≤ i ∧ i < 2 ^ 62 ∧ -(2 ^ 62) ≤ j ∧ j < 2 ^ 62 ∧ c = -1 then .ok ⟨(List.range (i - j).toNat).map fun (k : Nat) => .int (i + (k : Int) * -1), fun _ => True⟩ st1 else .no
  | _ => .no
theorem ci_range3 {a b c : Expr} {ta : TA} {ms : AM} {p pos : Pos} (hg : Gl X "range") (hm : X.mg "range" = none) (ha : CA X Wx [a, b, c] ta ms)
    (hs : starEach [a, b, c] X.env = (false, eval a X.env) :: starEach [b, c] X.env := by rfl) (hpl : (backTo pos (starEach [b, c] X.env)).any (·.1) = false := by rfl) : CI X Wx tg (.Call (.Name "range" p) [a, b, c] [] pos) (iRng3 ta) (iRange3 ms) := by
  refine ⟨pi_range3 hg hm ha.pe hs hpl, fun G H ρ σ R w r hp => ?_⟩
  refine ha.sem G H ρ σ _ w r (PostR.bind hp fun ws st1 ls1 H1 vs he e1 w1 rv h1 => ?_)
  clear he
  split at h1
  · split at h1
    · rename_i i j c hj
      obtain ⟨v, u, z, rfl, r1, ru, rz⟩ := rv.three
      cases r1.int_inv
      cases ru.int_inv
      cases rz.int_inv
      obtain ⟨a1, a2, a3, a4, rfl⟩ := hj
      refine ⟨i, j, -1, (i - j).toNat, rfl, RgC.neg a1 a2 a3 a4, PostR.ok (G := G.to ls1 st1) w1 h1 fun G H x wo hok k => ?_⟩
      refine ⟨fun u hu => ?_, fun hl => show (i - j).toNat ≤ k by simpa using hl⟩
      have hi : k < (i - j).toNat := by simpa using (List.getElem?_eq_some_iff.mp hu).1
      refine ⟨hi, fun y H' hy => ?_⟩
      obtain ⟨rfl, rfl⟩ := hy
      simp only [List.getElem?_map, List.getElem?_range hi, Option.map_some, Option.some.injEq] at hu
      subst hu
      exact ⟨Ext.refl _ _, wo, .int _⟩
    · exact h1.elim
  · exact h1.elim

/-! zip and enumerate -/
def iZipW (ms : AM) : IM := fun ρ st => (ms ρ st).bind fun ws st1 => match ws with
  | [.tup xs, .tup ys] => .ok ⟨(xs.zip ys).map fun p => .prs [p.1, p.2], fun _ => True⟩ st1
  | [x, y] => match lstOf st1 x, lstOf st1 y with
    | some xs, some ys => .ok ⟨(xs.zip ys).map fun p => .prs [p.1, p.2], fun st => okOf x xs st ∧ okOf y ys st⟩ st1
    | _, _ => .no
  | _ => .no
theorem get_zip {xs ys : List W} {i : Nat} {u : W} (h : ((xs.zip ys).map fun p => W.prs [p.1, p.2])[i]? = some u) : ∃ a b, xs[i]? = some a ∧ ys[i]? = some b ∧ u = .prs [a, b] := by
  rw [List.getElem?_map] at h
  cases e : (xs.zip ys)[i]? with
  | none => rw [e] at h; cases h
  | some p =>
    rw [e] at h
    cases h
    have := List.getElem?_zip_eq_some.mp e
    exact ⟨p.1, p.2, this.1, this.2, rfl⟩
theorem ci_zip {e e2 : Expr} {ta : TA} {ms : AM} {p pos tpos : Pos} {elts : List Expr} {kk : Nat} (hg : Gl X "zip") (hm : X.mg "zip" = none) (ha : CA X Wx [e, e2] ta ms)
    (hs : starEach [e, e2] X.env = (false, eval e X.env) :: starEach [e2] X.env := by rfl) (hpl : (backTo pos (starEach [e2] X.env)).any (·.1) = false := by rfl) : CI X Wx (.Tuple elts kk tpos) (.Call (.Name "zip" p) [e, e2] [] pos) (RZ.iZipA X.K ta) (iZipW ms) := by
  refine ⟨RZ.pi_zipA hg hm ha.pe hs hpl, fun G H ρ σ R w r hp => ?_⟩
  refine ha.sem G H ρ σ _ w r (PostR.bind hp fun ws st1 ls1 H1 vs he e1 w1 rv h1 => ?_)
  clear he
  split at h1
  · rename_i xs ys
    obtain ⟨v, u, rfl, rx, ry⟩ := rv.two
    obtain ⟨a, vs, rfl, sq, _⟩ := tup_sq rx
    obtain ⟨b, us, rfl, sq2, _⟩ := tup_sq ry
    refine ⟨a, b, vs, us, rfl, .inr ⟨sq, sq2, PostR.ok (G := G.to ls1 st1) w1 h1 fun G H x wo hok i => ?_⟩⟩
    obtain ⟨a', vs', ea, sq', rl⟩ := tup_sq (rx.less x)
    obtain ⟨b', us', eb, sq2', rl2⟩ := tup_sq (ry.less x)
    cases ea; cases eb
    refine ⟨fun w hw => ?_, fun hl => ⟨vs', us', sq', sq2', ?_⟩⟩
    · obtain ⟨p, q, hp, hq, rfl⟩ := get_zip hw
      obtain ⟨v, ev, rv⟩ := rl.get hp
      obtain ⟨u, eu, ru⟩ := rl2.get hq
      refine ⟨⟨vs', us', v, u, sq', sq2', ev, eu⟩, fun y H' hy => ?_⟩
      obtain ⟨T, x1, x2, rfl, nT, rfl, f1, f2⟩ := hy
      have : v = x1 := Option.some.inj (ev.symm.trans (f1 _ sq'))
      have : u = x2 := Option.some.inj (eu.symm.trans (f2 _ sq2'))
      subst v u
      have x' := Ext.new (o := .tup [x1, x2]) wo nT
      exact ⟨x', wo.new nT, .prs ⟨.inl upd_same, wo.nal nT⟩ (.cons (rv.mono x') (.cons (ru.mono x') .nil))⟩
    · have : min xs.length ys.length ≤ i := by simpa using hl
      rw [← rl.length, ← rl2.length]
      omega
  · rename_i x y hnt
    split at h1
    · rename_i xs ys ex ey
      obtain ⟨v, u, rfl, rx, ry⟩ := rv.two
      obtain ⟨a, vs, rfl, sq, _⟩ := lst_sq (G := G.to ls1 st1) w1 rx ex
      obtain ⟨b, us, rfl, sq2, _⟩ := lst_sq (G := G.to ls1 st1) w1 ry ey
      refine ⟨a, b, vs, us, rfl, .inl ⟨sq, sq2, PostR.ok (G := G.to ls1 st1) w1 h1 fun G H z wo hok i => ?_⟩⟩
      obtain ⟨a', vs', ea, sq', rl⟩ := lst_sq wo (rx.less z) (lstOf_ok ex hok.1)
      obtain ⟨b', us', eb, sq2', rl2⟩ := lst_sq wo (ry.less z) (lstOf_ok ey hok.2)
      cases ea; cases eb
      refine ⟨fun w hw => ?_, fun hl => ⟨vs', us', sq', sq2', ?_⟩⟩
      · obtain ⟨p, q, hp, hq, rfl⟩ := get_zip hw
        obtain ⟨v, ev, rv⟩ := rl.get hp
        obtain ⟨u, eu, ru⟩ := rl2.get hq
        refine ⟨⟨vs', us', v, u, sq', sq2', ev, eu⟩, fun y H' hy => ?_⟩
        obtain ⟨T, x1, x2, rfl, nT, rfl, f1, f2⟩ := hy
        have : v = x1 := Option.some.inj (ev.symm.trans (f1 _ sq'))
        have : u = x2 := Option.some.inj (eu.symm.trans (f2 _ sq2'))
        subst v u
        have x' := Ext.new (o := .tup [x1, x2]) wo nT
        exact ⟨x', wo.new nT, .prs ⟨.inl upd_same, wo.nal nT⟩ (.cons (rv.mono x') (.cons (ru.mono x') .nil))⟩
      · have : min xs.length ys.length ≤ i := by simpa using hl
        rw [← rl.length, ← rl2.length]
        omega
    · exact h1.elim
  · exact h1.elim
def iEnumW (ms : AM) : IM := fun ρ st => (ms ρ st).bind fun ws st1 => match ws with
  | [x] => match lstOf st1 x with
    | some xs => .ok ⟨xs.zipIdx.map fun p => .prs [.int (p.2 : Int), p.1], okOf x xs⟩ st1
    | _ => .no
  | _ => .no
theorem ci_enum {e : Expr} {ta : TA} {ms : AM} {p pos tpos : Pos} {elts : List Expr} {kk : Nat} (hg : Gl X "enumerate") (hm : X.mg "enumerate" = none) (ha : CA X Wx [e] ta ms) (hs : starEach [e] X.env = [(false, eval e X.env)] := by rfl) :
    CI X Wx (.Tuple elts kk tpos) (.Call (.Name "enumerate" p) [e] [] pos) (iEnum X.K ta) (iEnumW ms) := by
  refine ⟨pi_enum hg hm ha.pe hs, fun G H ρ σ R w r hp => ?_⟩
  refine ha.sem G H ρ σ _ w r (PostR.bind hp fun ws st1 ls1 H1 vs he e1 w1 rv h1 => ?_)
  clear he
  split at h1
  · rename_i x
    split at h1
    · rename_i xs ex
      obtain ⟨v, rfl, rx⟩ := rv.one
      obtain ⟨a, vs, rfl, sq, _⟩ := lst_sq (G := G.to ls1 st1) w1 rx ex
      refine ⟨a, vs, rfl, sq, PostR.ok (G := G.to ls1 st1) w1 h1 fun G H z wo hok i => ?_⟩
      obtain ⟨a', vs', ea, sq', rl⟩ := lst_sq wo (rx.less z) (lstOf_ok ex hok)
      cases ea
      refine ⟨fun w hw => ?_, fun hl => ⟨vs', sq', by rw [← rl.length]; simpa using hl⟩⟩
      rw [List.getElem?_map, List.getElem?_zipIdx] at hw
      cases eq : xs[i]? with
      | none => rw [eq] at hw; cases hw
      | some q =>
        rw [eq] at hw
        simp only [Option.map_some, Option.some.injEq, Nat.zero_add] at hw
        subst hw
        obtain ⟨v, ev, rv⟩ := rl.get eq
        refine ⟨⟨vs', v, sq', ev⟩, fun y H' hy => ?_⟩
        obtain ⟨T, x1, rfl, nT, rfl, f1⟩ := hy
        have : v = x1 := Option.some.inj (ev.symm.trans (f1 _ sq'))
        subst v
        have x' := Ext.new (o := .tup [.int (i : Int), x1]) wo nT
        exact ⟨x', wo.new nT, .prs ⟨.inl upd_same, wo.nal nT⟩ (.cons (.int _) (.cons (rv.mono x') .nil))⟩
    · exact h1.elim
  · exact h1.elim
end
end Sim
end
section
set_option Elab.async false
set_option linter.all false
set_option maxRecDepth 100000
set_option maxHeartbeats 1000000
open PySem PySem.Spec PyProof.Rows L2
namespace Sim

/-! comprehensions -/
abbrev Gm.hide (G : Gm) (D : Addr) : Gm := ⟨G.ls, G.st, D :: G.hid⟩
def W0 : WX := fun _ _ _ _ => False
def Rs.cb {α β : Type} (r : Rs α) (f : α → Stt → Rs β) : Rs β := match r with
  | .ok a st => f a st
  | _ => .no
@[simp] theorem Rs.cb_ok {α β : Type} (a : α) (st : Stt) (f : α → Stt → Rs β) : (Rs.ok a st).cb f = f a st := rfl
@[simp] theorem Rs.cb_no {α β : Type} (f : α → Stt → Rs β) : (Rs.no : Rs α).cb f = .no := rfl
theorem Rs.cb_eq {α β : Type} {r : Rs α} {f : α → Stt → Rs β} {b : β} {st : Stt} (h : r.cb f = .ok b st) : ∃ a st1, r = .ok a st1 ∧ f a st1 = .ok b st := by
  cases r with
  | ok a st1 => exact ⟨a, st1, rfl, h⟩
  | er x st1 => cases h
  | no => cases h
def wipeE (ρ : Ev) : List Nat → Ev
  | [] => ρ
  | v :: vs => (wipeE ρ vs).set v none
open Classical in
noncomputable def lcW (ok : Stt → Prop) (g : GM) (c : TM) (m : EM) (ρ : Ev) : List W → Stt → Rs (List W)
  | [], st => if ok st then .ok [] st else .no
  | w :: ws, st => if ok st then (match g st w ρ with
      | none => .no
      | some ρ1 => (c ρ1 st).cb fun b st1 => if b = true then (m ρ1 st1).cb fun y st2 => (lcW ok g c m ρ ws st2).cb fun ys st3 => .ok (y :: ys) st3 else lcW ok g c m ρ ws st1) else .no
noncomputable def eLc (im : IM) (g : GM) (c : TM) (m : EM) (vs : List Nat) : EM := fun ρ st => (im ρ st).bind fun src st1 => if src.items.length ≤ 100000 then (lcW src.ok g c m (wipeE ρ vs) src.items st1).cb fun ys st2 => .ok (.lst ys) st2 else .no
noncomputable def eLcL (im : IM) (g : GM) (c : TM) (m : EM) (vs : List Nat) : EM := fun ρ st => (im ρ st).bind fun src st1 => if src.items.length ≤ 100000 then (lcW src.ok g c m (wipeE ρ vs) src.items st1).cb fun ys st2 => .ok (.loc st2.length) (st2 ++ [some (.lst ys)]) else .no
def tmYes : TM := fun _ st => .ok true st

theorem wipe_get (σ : L2.St) : ∀ (vs : List Nat) (i : Nat), i ∉ vs → (wipe σ vs)[i]? = σ[i]?
  | [], i, _ => rfl
  | v :: vs, i, h => by
    unfold wipe
    rw [List.getElem?_set_ne (fun z => h (by rw [z]; exact List.mem_cons_self)), wipe_get σ vs i fun z => h (List.mem_cons_of_mem _ z)]
theorem wipe_in (σ : L2.St) : ∀ (vs : List Nat) (i : Nat), i ∈ vs → i < σ.length → (wipe σ vs)[i]? = some none
  | v :: vs, i, h, hl => by
    unfold wipe
    by_cases e : v = i
    · subst e; exact List.getElem?_set_self (by rw [wipe_length]; exact hl)
    · rw [List.getElem?_set_ne e]
      exact wipe_in σ vs i ((List.mem_cons.mp h).resolve_left fun z => e z.symm) hl
theorem wipe_same {σ σ2 : L2.St} {vs is : List Nat} (hl : σ2.length = σ.length) (h : ∀ j, j ∉ is → σ2[j]? = σ[j]?) (hs : ∀ i ∈ is, i ∈ vs) : wipe σ2 vs = wipe σ vs := by
  refine List.ext_getElem? fun i => ?_
  by_cases hi : i ∈ vs
  · by_cases hn : i < σ.length
    · rw [wipe_in σ vs i hi hn, wipe_in σ2 vs i hi (by rw [hl]; exact hn)]
    · rw [List.getElem?_eq_none (by rw [wipe_length, hl]; omega), List.getElem?_eq_none (by rw [wipe_length]; omega)]
  · rw [wipe_get _ _ _ hi, wipe_get _ _ _ hi, h i fun z => hi (hs i z)]
theorem wipe_wipe (σ : L2.St) (vs : List Nat) : wipe (wipe σ vs) vs = wipe σ vs := by
  refine List.ext_getElem? fun i => ?_
  by_cases hi : i ∈ vs
  · by_cases hn : i < σ.length
    · rw [wipe_in σ vs i hi hn, wipe_in _ vs i hi (by rw [wipe_length]; exact hn)]
    · rw [List.getElem?_eq_none (by rw [wipe_length, wipe_length]; omega), List.getElem?_eq_none (by rw [wipe_length]; omega)]
  · rw [wipe_get _ _ _ hi]
theorem RepE.less {K : PySem.W.Frag} {G G' : Gm} {H H' : Hp} {ρ : Ev} {σ : L2.St} (x : Less G H G' H') (h : RepE K G H ρ σ) : RepE K G' H' ρ σ :=
  ⟨h.1, fun i w e => let ⟨v, a, b⟩ := h.2 i w e; ⟨v, a, b.less x⟩⟩
theorem wipeE_get : ∀ {ρ : Ev} {vs : List Nat} {i : Nat} {w : W}, (wipeE ρ vs)[i]? = some (some w) → ρ[i]? = some (some w) ∧ i ∉ vs
  | _, [], _, _, h => ⟨h, by simp⟩
  | ρ, v :: vs, i, w, h => by
    unfold wipeE at h
    by_cases e : v = i
    · subst e
      by_cases hv : v < (wipeE ρ vs).length
      · rw [List.getElem?_set_self hv] at h; cases h
      · rw [List.getElem?_eq_none (by simpa using hv)] at h; cases h
    · rw [List.getElem?_set_ne e] at h
      obtain ⟨a, b⟩ := wipeE_get h
      exact ⟨a, fun z => (List.mem_cons.mp z).elim (fun q => e q.symm) b⟩
theorem wipeE_length (ρ : Ev) : ∀ vs : List Nat, (wipeE ρ vs).length = ρ.length
  | [] => rfl
  | v :: vs => by unfold wipeE; rw [List.length_set, wipeE_length ρ vs]
theorem RepE.wipe {K : PySem.W.Frag} {G : Gm} {H : Hp} {ρ : Ev} {σ : L2.St} (h : RepE K G H ρ σ) (vs : List Nat) : RepE K G H (wipeE ρ vs) (L2.wipe σ vs) := by
  refine ⟨by rw [wipeE_length, wipe_length]; exact h.1, fun i w e => ?_⟩
  obtain ⟨a, b⟩ := wipeE_get e
  rw [wipe_get _ _ _ b]
  exact h.2 i w a

section
variable {K : PySem.W.Frag} {G : Gm} {H : Hp} {D : Addr}
theorem RepL.app {ws us : List W} {vs ts : List V} (h : RepL K G H ws vs) (k : RepL K G H us ts) : RepL K G H (ws ++ us) (vs ++ ts) := by
  induction ws generalizing vs with
  | nil => cases h; exact k
  | cons w ws ih => cases h with
    | cons a b => exact .cons a (ih b)
theorem less_hide {o : HO} (w : World K G H) (hD : H D = none) : Less G H (G.hide D) (upd H D o) := by
  refine ⟨fun _ _ e => e, fun a u h => ?_, fun a u h => ?_, fun a u h => ?_⟩
  rotate_right
  · have x := Fe.mono (Ext.new (o := o) w hD) h
    refine ⟨x.1, fun z => ?_⟩
    rcases z with z | z
    · exact x.2 (.inl z)
    · rcases List.mem_cons.mp z with q | q
      · subst q
        have r := h.1
        rw [hD] at r; cases r
      · exact x.2 (.inr q)
  · have x := Fz.mono (Ext.new (o := o) w hD) h
    refine ⟨x.1, fun z => ?_⟩
    rcases z with z | z
    · exact x.2 (.inl z)
    · rcases List.mem_cons.mp z with q | q
      · subst q
        rcases h.1 with r | ⟨_, r⟩ <;> (rw [hD] at r; cases r)
      · exact x.2 (.inr q)
  · have x := Fx.mono (Ext.new (o := o) w hD) h
    refine ⟨x.1, fun z => ?_⟩
    rcases z with z | z
    · exact x.2 (.inl z)
    · rcases List.mem_cons.mp z with q | q
      · subst q
        obtain ⟨_, _, r⟩ := h.1
        rw [hD] at r; cases r
      · exact x.2 (.inr q)
theorem less_unhide : Less (G.hide D) H G H := ⟨fun _ _ e => e, fun a u h => ⟨h.1, fun z => h.2 (z.elim .inl fun q => .inr (List.mem_cons_of_mem _ q))⟩, fun a u h => ⟨h.1, fun z => h.2 (z.elim .inl fun q => .inr (List.mem_cons_of_mem _ q))⟩, fun a u h => ⟨h.1, fun z => h.2 (z.elim .inl fun q => .inr (List.mem_cons_of_mem _ q))⟩⟩
theorem World.hide {o : HO} (w : World K G H) (hD : H D = none) : World K (G.hide D) (upd H D o) := by
  have w' := w.new (o := o) hD
  have nl : D ∉ G.ls := fun z => w.tr D z hD
  refine ⟨w.len, w.nd, w'.tr, fun a ha => ?_, fun i a ob e1 e2 => ?_⟩
  · rcases List.mem_cons.mp ha with q | q
    · subst q; exact ⟨by rw [upd_same]; exact (fun z => nomatch z), nl⟩
    · exact w'.hd a q
  · have : a ≠ D := fun z => nl (by rw [← z]; exact List.mem_of_getElem? e1)
    exact (w.at' i a ob e1 e2).less (less_hide w hD) (upd_ne this)
theorem World.unhide (w : World K (G.hide D) H) : World K G H :=
  ⟨w.len, w.nd, w.tr, fun a ha => w.hd a (List.mem_cons_of_mem _ ha), fun i a ob e1 e2 => (w.at' i a ob e1 e2).less less_unhide rfl⟩
theorem less_hidupd {o : HO} (hD : D ∈ G.hid) : Less G H G (upd H D o) := by
  refine ⟨fun _ _ e => e, fun a u h => ⟨?_, h.2⟩, fun a u h => ⟨?_, h.2⟩, fun a u h => ⟨by rw [upd_ne (fun z => h.2 (.inr (by rw [z]; exact hD)))]; exact h.1, h.2⟩⟩
  · have : a ≠ D := fun z => h.2 (.inr (by rw [z]; exact hD))
    rcases h.1 with r | ⟨p, r⟩
    · exact .inl (by rw [upd_ne this]; exact r)
    · exact .inr ⟨p, by rw [upd_ne this]; exact r⟩
  · have : a ≠ D := fun z => h.2 (.inr (by rw [z]; exact hD))
    obtain ⟨p, d, r⟩ := h.1
    exact ⟨p, d, by rw [upd_ne this]; exact r⟩
theorem World.hidupd {o : HO} (w : World K G H) (hD : D ∈ G.hid) : World K G (upd H D o) := by
  have nl := (w.hd D hD).2
  refine ⟨w.len, w.nd, fun a ha => ?_, fun a ha => ⟨?_, (w.hd a ha).2⟩, fun i a ob e1 e2 => ?_⟩
  · rw [upd_ne (fun z => nl (by rw [← z]; exact ha))]; exact w.tr a ha
  · by_cases q : a = D
    · subst q; rw [upd_same]; exact fun z => nomatch z
    · rw [upd_ne q]; exact (w.hd a ha).1
  · have : a ≠ D := fun z => nl (by rw [← z]; exact List.mem_of_getElem? e1)
    exact (w.at' i a ob e1 e2).less (less_hidupd hD) (upd_ne this)
/-- a step with D hidden, then D written: from outside -/
theorem Ext.under {G1 : Gm} {H1 H' : Hp} {ls st ls' st'} {o : HO} (w1 : World K G1 H1) (hD : H1 D = none) (x : Ext G1 H1 (G1.to ls st) H) (y : Ext ((G1.to ls st).hide D) H ((G1.to ls' st').hide D) H') : Ext G1 H1 (G1.to ls' st') (upd H' D o) := by
  have hal : ∀ a, ((G1.to ls st).hide D).alive a → a = D ∨ (G1.to ls st).alive a := fun a z => by
    rcases z with z | z
    · exact .inr (.inl z)
    · exact (List.mem_cons.mp z).imp_right .inr
  refine ⟨fun i a e => y.ls i a (x.ls i a e), fun a u na e => ?_, fun a z => ?_, fun a e => ?_, rfl, fun a ha => ?_⟩
  · have nD : a ≠ D := ne_of_none e hD
    rw [upd_ne nD]
    refine y.keep a u (fun z => ?_) (x.keep a u na e)
    rcases hal a z with q | q
    · exact nD q
    · rcases x.al a q with q | q
      · exact na q
      · rw [q] at e; cases e
  · have z' : ((G1.to ls' st').hide D).alive a := z.imp_right (List.mem_cons_of_mem _)
    rcases y.al a z' with q | q
    · rcases hal a q with q | q
      · exact .inr (by rw [q]; exact hD)
      · exact x.al a q
    · exact .inr (x.non a q)
  · by_cases q : a = D
    · rw [q]; exact hD
    · rw [upd_ne q] at e; exact x.non a (y.non a e)
  · have nD : a ≠ D := fun z => (w1.hd a ha).1 (by rw [z]; exact hD)
    rw [upd_ne nD, y.hidk a (List.mem_cons_of_mem _ ha), x.hidk a ha]

section
variable {Wx : WX} {G1 : Gm} {H1 : Hp}
/-- the loop of a list comprehension -/
theorem lc_loop {J : It} {src : Src} {g : TG} {gm : GM} {is vs : List Nat} {tt : TT} {c : TM} {te : TE} {m : EM} {ρ : Ev} {σ : L2.St} {Q : VK} (w1 : World K G1 H1) (re : RepE K G1 H1 ρ σ) (wk : Walks K G1 H1 src J) (hg : SemG K g gm is) (hs : ∀ i ∈ is, i ∈ vs)
    (ht : SemT K W0 tt c) (he : SemE K W0 te m) (hlen : src.items.length ≤ 100000) (hD : H1 D = none)
    (fin : ∀ (ys : List W) (st' : Stt) (ls' : List Addr) (H' : Hp) (av : List V), lcW src.ok gm c m (wipeE ρ vs) src.items G1.st = .ok ys st' → Ext G1 H1 (G1.to ls' st') H' → World K ((G1.to ls' st').hide D) H' → H' D = some (.lst av) → RepL K ((G1.to ls' st').hide D) H' ys av → Q (.ref D) H')
    (hok : ∃ ys st', lcW src.ok gm c m (wipeE ρ vs) src.items G1.st = .ok ys st') :
    ∃ W : Nat → Nat → Hp → Prop, (∃ m, W 0 m (upd H1 D (.lst []))) ∧ ∀ i m H, W i m H → (J.stop i H ∧ Q (.ref D) H) ∨ (J.go i H ∧ ∃ Nx : Hp → Prop, (∀ H', Nx H' → ∃ m', m' < m ∧ W (i + 1) m' H') ∧ ∀ x H', J.yld i H x H' → g x (L2.wipe σ vs) H' fun σ2 H2 => L2.wipe σ2 vs = L2.wipe σ vs ∧ tt σ2 H2 fun b H3 =>
      if b = true then te σ2 H3 fun y H4 => ∃ acc, H4 D = some (.lst acc) ∧ acc.length < sizeLine ∧ Nx (upd H4 D (.lst (acc ++ [y]))) else Nx H3) := by
  obtain ⟨ysF, stF, hok⟩ := hok
  let Inv : Nat → Hp → Prop := fun i H => i ≤ src.items.length ∧ ∃ (ls : List Addr) (st : Stt) (aw : List W) (av : List V) (ys : List W), Ext G1 H1 (G1.to ls st) H ∧ World K ((G1.to ls st).hide D) H ∧ H D = some (.lst av) ∧ RepL K ((G1.to ls st).hide D) H aw av ∧ av.length ≤ i ∧ Less G1 H1 ((G1.to ls st).hide D) H ∧
    lcW src.ok gm c m (wipeE ρ vs) (src.items.drop i) st = .ok ys stF ∧ aw ++ ys = ysF
  refine ⟨fun i m H => m = src.items.length - i ∧ Inv i H, ⟨_, rfl, Nat.zero_le _, G1.ls, G1.st, [], [], ysF, ?_, w1.hide hD, upd_same, .nil, Nat.le_refl _, less_hide w1 hD, hok, rfl⟩, ?_⟩
  · exact Ext.new w1 hD
  rintro i mm H ⟨rfl, hle, ls, st, aw, av, ys, x, w, hDv, rl, hl, le, hc, hys⟩
  by_cases hlt : i < src.items.length
  · rw [List.drop_eq_getElem_cons hlt] at hc
    rw [lcW] at hc
    split at hc
    · rename_i hokst
      obtain ⟨wg, _⟩ := wk _ H le w hokst i
      obtain ⟨hgo, hy⟩ := wg _ (List.getElem?_eq_getElem hlt)
      refine .inr ⟨hgo, Inv (i + 1), fun H' hN => ⟨_, ?_, rfl, hN⟩, fun xv H2 hx => ?_⟩
      · omega
      obtain ⟨x2, w2, rx⟩ := hy xv H2 hx
      cases eg : gm st src.items[i] (wipeE ρ vs) with
      | none => rw [eg] at hc; cases hc
      | some ρ1 =>
        rw [eg] at hc
        dsimp only at hc
        have re2 : RepE K ((G1.to ls st).hide D) H2 (wipeE ρ vs) (L2.wipe σ vs) := ((re.less le).less x2.less).wipe vs
        refine hg _ H2 _ _ _ xv ρ1 _ w2 re2 rx eg fun σ2 hl2 hj2 re3 => ⟨?_, ?_⟩
        · rw [wipe_same hl2 hj2 hs, wipe_wipe]
        obtain ⟨b, st3, hb, hc⟩ := Rs.cb_eq hc
        refine ht _ H2 ρ1 σ2 _ w2 re3 ?_
        rw [show ((G1.to ls st).hide D).st = st from rfl, hb]
        intro ls3 H3 b' x3 w3 eb
        subst eb
        have x23 := x2.trans x3
        have hD3 : H3 D = some (.lst av) := (x23.hidk D List.mem_cons_self).trans hDv
        cases b with
        | true =>
          rw [if_pos rfl] at hc ⊢
          obtain ⟨y, st4, hm, hc⟩ := Rs.cb_eq hc
          obtain ⟨ys', st5, hr, hc⟩ := Rs.cb_eq hc
          refine he (((G1.to ls st).hide D).to ls3 st3) H3 ρ1 σ2 _ w3 (re3.mono x3) ?_
          rw [show (((G1.to ls st).hide D).to ls3 st3).st = st3 from rfl, hm]
          intro ls4 H4 yv x4 w4 ry
          have x24 := x23.trans x4
          have hD4 : H4 D = some (.lst av) := (x24.hidk D List.mem_cons_self).trans hDv
          refine ⟨av, hD4, Nat.lt_of_le_of_lt (Nat.le_trans hl (Nat.le_of_lt hlt)) (Nat.lt_of_le_of_lt hlen (by decide)), hlt, ls4, st4, aw ++ [y], av ++ [yv], ys', Ext.under w1 hD x x24, w4.hidupd List.mem_cons_self, upd_same, ?_, ?_, ?_, ?_, ?_⟩
          · exact (RepL.app (rl.mono x24) (.cons ry .nil)).less (less_hidupd List.mem_cons_self)
          · simp; omega
          · have l2 := less_hidupd (G := (G1.to ls4 st4).hide D) (H := H4) (o := .lst (av ++ [yv])) List.mem_cons_self
            exact ⟨fun i a e => x24.ls i a (le.ls i a e), fun a u h => l2.fz a u (Fz.mono x24 (le.fz a u h)), fun a u h => l2.fx a u (Fx.mono x24 (le.fx a u h)), fun a u h => l2.fe a u (Fe.mono x24 (le.fe a u h))⟩
          · cases hc; exact hr
          · cases hc; rw [← hys]; simp
        | false =>
          rw [if_neg Bool.false_ne_true] at hc ⊢
          refine ⟨hlt, ls3, st3, aw, av, ys, ?_, w3, hD3, rl.mono x23, Nat.le_succ_of_le hl, ?_, hc, hys⟩
          · have q := Ext.under (o := .lst av) w1 hD x x23
            have : upd H3 D (.lst av) = H3 := by
              funext b
              by_cases e : b = D
              · subst e; rw [upd_same]; exact hD3.symm
              · rw [upd_ne e]
            rw [this] at q
            exact q
          · exact ⟨fun i a e => x23.ls i a (le.ls i a e), fun a u h => Fz.mono x23 (le.fz a u h), fun a u h => Fx.mono x23 (le.fx a u h), fun a u h => Fe.mono x23 (le.fe a u h)⟩
    · cases hc
  · have ei : i = src.items.length := by omega
    subst ei
    rw [List.drop_length, lcW] at hc
    split at hc
    · rename_i hokst
      cases hc
      refine .inl ⟨(wk _ H le w hokst _).2 (Nat.le_refl _), fin ysF _ ls H av hok x w hDv ?_⟩
      rw [← hys, List.append_nil]; exact rl
    · cases hc
end
end
end Sim
end
section
set_option Elab.async false
set_option linter.all false
set_option maxRecDepth 100000
set_option maxHeartbeats 1000000
open PySem PySem.Spec PyProof.Rows L2
namespace Sim
structure CTs (X : Cx) (Wx : WX) (ifs : List Expr) (t : TT) (m : TM) : Prop where
  pe : PTs X ifs t
  sem : SemT X.K Wx t m
section
variable {X : Cx} {Wx : WX} {K : PySem.W.Frag}
theorem cts_nil : CTs X Wx [] tYes tmYes := ⟨pts_nil, fun G H ρ σ Q w r h => PostR.ok w h rfl⟩
theorem cts_one {c : Expr} {t : TT} {m : TM} (h : CT X Wx c t m) : CTs X Wx [c] t m := ⟨pts_one h.pe, h.sem⟩
theorem RepL.unhide {G : Gm} {H : Hp} {D : Addr} {ws : List W} {vs : List V} (h : RepL K (G.hide D) H ws vs) : RepL K G H ws vs := h.less less_unhide
theorem hidden_nal {G : Gm} {H H1 : Hp} {G1 : Gm} {D : Addr} (w1 : World K G1 H1) (hD : H1 D = none) (x : Ext G1 H1 G H) (w : World K (G.hide D) H) : ¬ G.alive D := fun z => by
  have hn : H D ≠ none := (w.hd D List.mem_cons_self).1
  rcases x.al D z with q | q
  · exact w1.nal hD q
  · rcases z with ⟨i, ob, e1, _⟩ | z
    · exact (w.hd D List.mem_cons_self).2 (List.mem_of_getElem? e1)
    · rw [x.hid] at z
      exact (w1.hd D z).1 hD
theorem sem_lc {wi : TI} {g : TG} {gm : GM} {is vs : List Nat} {tt : TT} {c : TM} {te : TE} {m : EM} {im : IM} (hi : SemI K Wx wi im) (hg : SemG K g gm is) (hs : ∀ i ∈ is, i ∈ vs) (ht : SemT K W0 tt c) (he : SemE K W0 te m) :
    SemE K Wx (tLc wi g tt te vs) (eLc im gm c m vs) := fun G H ρ σ Q w r h => by
  refine hi G H ρ σ _ w r (PostR.bind h fun src st1 ls1 H1 J _ e1 w1 wk h1 => ?_)
  intro D hD
  split at h1
  · rename_i hlen
    cases hr : lcW src.ok gm c m (wipeE ρ vs) src.items st1 with
    | ok ys st2 =>
      rw [hr] at h1
      refine lc_loop w1 (r.mono e1) wk hg hs ht he hlen hD (fun ys' st' ls' H' av hq x w' hDv rl => ?_) ⟨ys, st2, hr⟩
      rw [show (G.to ls1 st1).st = st1 from rfl, hr] at hq
      cases hq
      exact h1 ls' H' (.ref D) x w'.unhide (.lst ⟨hDv, hidden_nal w1 hD x w'⟩ rl.unhide)
    | er x st2 => rw [hr] at h1; exact h1.elim
    | no => rw [hr] at h1; exact h1.elim
  · exact h1.elim
/-- the hidden list becomes a tracked one -/
theorem unhide_push {G1 G : Gm} {H1 H : Hp} {D : Addr} {aw : List W} {av : List V} (w1 : World K G1 H1) (hD : H1 D = none) (x : Ext G1 H1 G H) (w : World K (G.hide D) H) (hDv : H D = some (.lst av)) (rl : RepL K (G.hide D) H aw av) :
    Ext G1 H1 ⟨G.ls ++ [D], G.st ++ [some (.lst aw)], G.hid⟩ H ∧ World K ⟨G.ls ++ [D], G.st ++ [some (.lst aw)], G.hid⟩ H := by
  have nl : D ∉ G.ls := (w.hd D List.mem_cons_self).2
  have nh : D ∉ G.hid := fun z => by
    rw [x.hid] at z
    exact (w1.hd D z).1 hD
  have hal : ∀ a, Gm.alive ⟨G.ls ++ [D], G.st ++ [some (.lst aw)], G.hid⟩ a → a = D ∨ G.alive a := fun a z => by
    rcases z with ⟨i, ob, e1, e2⟩ | z
    · have e1 : (G.ls ++ [D])[i]? = some a := e1
      have e2 : (G.st ++ [some (.lst aw)])[i]? = some (some ob) := e2
      have hln : G.ls.length = G.st.length := w.len
      by_cases hi : i < G.ls.length
      · rw [List.getElem?_append_left hi] at e1
        rw [List.getElem?_append_left (by omega)] at e2
        exact .inr (.inl ⟨i, ob, e1, e2⟩)
      · rw [List.getElem?_append_right (by omega)] at e1
        cases hk : i - G.ls.length with
        | zero => rw [hk] at e1; exact .inl (Option.some.inj e1).symm
        | succ k => rw [hk] at e1; simp at e1
    · exact .inr (.inr z)
  have lss : Less (G.hide D) H ⟨G.ls ++ [D], G.st ++ [some (.lst aw)], G.hid⟩ H := by
    refine ⟨fun i a e => ?_, fun a u h => ⟨h.1, fun z => ?_⟩, fun a u h => ⟨h.1, fun z => ?_⟩, fun a u h => ⟨h.1, fun z => ?_⟩⟩
    · show (G.ls ++ [D])[i]? = some a
      have e : G.ls[i]? = some a := e
      rw [List.getElem?_append_left (List.getElem?_eq_some_iff.mp e).1]; exact e
    · rcases hal a z with q | q
      · exact h.2 (.inr (by rw [q]; exact List.mem_cons_self))
      · exact h.2 (q.imp_right (List.mem_cons_of_mem _))
    · rcases hal a z with q | q
      · exact h.2 (.inr (by rw [q]; exact List.mem_cons_self))
      · exact h.2 (q.imp_right (List.mem_cons_of_mem _))
    · rcases hal a z with q | q
      · exact h.2 (.inr (by rw [q]; exact List.mem_cons_self))
      · exact h.2 (q.imp_right (List.mem_cons_of_mem _))
  refine ⟨⟨fun i a e => lss.ls i a (x.ls i a e), x.keep, fun a z => ?_, x.non, x.hid, x.hidk⟩, ⟨?_, ?_, fun a ha => ?_, fun a ha => ⟨(w.hd a (List.mem_cons_of_mem _ ha)).1, fun z => ?_⟩, fun i a ob e1 e2 => ?_⟩⟩
  · rcases hal a z with q | q
    · exact .inr (by rw [q]; exact hD)
    · exact x.al a q
  · have hln : G.ls.length = G.st.length := w.len
    simp [hln]
  · show (G.ls ++ [D]).Nodup
    rw [List.nodup_append]
    exact ⟨w.nd, by simp, fun a ha b hb => by rw [List.mem_singleton.mp hb]; exact fun z => nl (by rw [← z]; exact ha)⟩
  · have ha : a ∈ G.ls ++ [D] := ha
    rcases List.mem_append.mp ha with q | q
    · exact w.tr a q
    · rw [List.mem_singleton.mp q, hDv]; exact (fun z => nomatch z)
  · have z : a ∈ G.ls ++ [D] := z
    rcases List.mem_append.mp z with q | q
    · exact (w.hd a (List.mem_cons_of_mem _ ha)).2 q
    · exact nh (by rw [← List.mem_singleton.mp q]; exact ha)
  · have e1 : (G.ls ++ [D])[i]? = some a := e1
    have e2 : (G.st ++ [some (.lst aw)])[i]? = some (some ob) := e2
    have hln : G.ls.length = G.st.length := w.len
    by_cases hi : i < G.ls.length
    · rw [List.getElem?_append_left hi] at e1
      rw [List.getElem?_append_left (by omega)] at e2
      exact (w.at' i a ob e1 e2).less lss rfl
    · rw [List.getElem?_append_right (by omega)] at e1
      rw [List.getElem?_append_right (by omega), ← hln] at e2
      cases hk : i - G.ls.length with
      | zero =>
        rw [hk] at e1 e2
        have q1 : D = a := Option.some.inj e1
        have q2 : Ob.lst aw = ob := Option.some.inj (Option.some.inj e2)
        subst q1 q2
        exact ⟨av, hDv, rl.less lss⟩
      | succ k => rw [hk] at e1; simp at e1
theorem sem_lcL {wi : TI} {g : TG} {gm : GM} {is vs : List Nat} {tt : TT} {c : TM} {te : TE} {m : EM} {im : IM} (hi : SemI K Wx wi im) (hg : SemG K g gm is) (hs : ∀ i ∈ is, i ∈ vs) (ht : SemT K W0 tt c) (he : SemE K W0 te m) :
    SemE K Wx (tLc wi g tt te vs) (eLcL im gm c m vs) := fun G H ρ σ Q w r h => by
  refine hi G H ρ σ _ w r (PostR.bind h fun src st1 ls1 H1 J _ e1 w1 wk h1 => ?_)
  intro D hD
  split at h1
  · rename_i hlen
    cases hr : lcW src.ok gm c m (wipeE ρ vs) src.items st1 with
    | ok ys st2 =>
      rw [hr] at h1
      refine lc_loop w1 (r.mono e1) wk hg hs ht he hlen hD (fun ys' st' ls' H' av hq x w' hDv rl => ?_) ⟨ys, st2, hr⟩
      rw [show (G.to ls1 st1).st = st1 from rfl, hr] at hq
      cases hq
      obtain ⟨x2, w2⟩ := unhide_push w1 hD x w' hDv rl
      refine h1 (ls' ++ [D]) H' (.ref D) x2 w2 (.loc ?_)
      show (ls' ++ [D])[st2.length]? = some D
      rw [show st2.length = ls'.length from w'.len.symm]
      simp
    | er x st2 => rw [hr] at h1; exact h1.elim
    | no => rw [hr] at h1; exact h1.elim
  · exact h1.elim
abbrev Blk (X : Cx) (scope : Scope) (P : Cx → Prop) : Prop := ∀ (s : Shared) (H : Hp) (C : Addr) (cl : List (Str × Addr)) (fp : List Addr), P (X.blk s H scope (compEnvC scope cl C X.env) fp)
theorem ce_lc {elt tg iter : Expr} {ifs : List Expr} {scope : Scope} {own : List (Str × Nat)} {pos : Pos} {wi : TI} {g : TG} {tt : TT} {te : TE} {im : IM} {gm : GM} {is : List Nat} {c : TM} {m : EM} (hc : X.calm = true) (hN : X.N.Nodup) (hi : CI X Wx tg iter wi im) (ok : BlkOk X.N X.env.scope scope own)
    (hg : Blk X scope fun Y => CG Y tg g gm is) (ht : Blk X scope fun Y => CTs Y W0 ifs tt c) (he : Blk X scope fun Y => CE Y W0 elt te m) (hsub : ∀ i ∈ is, i ∈ own.map (·.2) := by decide) (hs : ∀ x, foldedSetIterable iter X.env x = pure x := by intro _; rfl) :
    CE X Wx (.ListComp elt [⟨tg, iter, ifs, 0⟩] scope pos) (tLc wi g tt te (own.map (·.2))) (eLc im gm c m (own.map (·.2))) :=
  ⟨pe_lc hc hN hi.pe ok (fun s H C cl fp => (hg s H C cl fp).pe) (fun s H C cl fp => (ht s H C cl fp).pe) (fun s H C cl fp => (he s H C cl fp).pe) hs, sem_lc hi.sem (hg {} (fun _ => none) 0 [] []).sem hsub (ht {} (fun _ => none) 0 [] []).sem (he {} (fun _ => none) 0 [] []).sem⟩
theorem ce_lcL {elt tg iter : Expr} {ifs : List Expr} {scope : Scope} {own : List (Str × Nat)} {pos : Pos} {wi : TI} {g : TG} {tt : TT} {te : TE} {im : IM} {gm : GM} {is : List Nat} {c : TM} {m : EM} (hc : X.calm = true) (hN : X.N.Nodup) (hi : CI X Wx tg iter wi im) (ok : BlkOk X.N X.env.scope scope own)
    (hg : Blk X scope fun Y => CG Y tg g gm is) (ht : Blk X scope fun Y => CTs Y W0 ifs tt c) (he : Blk X scope fun Y => CE Y W0 elt te m) (hsub : ∀ i ∈ is, i ∈ own.map (·.2) := by decide) (hs : ∀ x, foldedSetIterable iter X.env x = pure x := by intro _; rfl) :
    CE X Wx (.ListComp elt [⟨tg, iter, ifs, 0⟩] scope pos) (tLc wi g tt te (own.map (·.2))) (eLcL im gm c m (own.map (·.2))) :=
  ⟨pe_lc hc hN hi.pe ok (fun s H C cl fp => (hg s H C cl fp).pe) (fun s H C cl fp => (ht s H C cl fp).pe) (fun s H C cl fp => (he s H C cl fp).pe) hs, sem_lcL hi.sem (hg {} (fun _ => none) 0 [] []).sem hsub (ht {} (fun _ => none) 0 [] []).sem (he {} (fun _ => none) 0 [] []).sem⟩
theorem cs_setLc {i : Nat} {y : Str} {py : Pos} {elt tg iter : Expr} {ifs : List Expr} {scope : Scope} {own : List (Str × Nat)} {pos spos : Pos} {wi : TI} {g : TG} {tt : TT} {te : TE} {im : IM} {gm : GM} {is : List Nat} {c : TM} {m : EM} (hc : X.calm = true) (hN : X.N.Nodup) (hy : X.N[i]? = some y) (hyl : X.env.scope.names.lookup y = some .local)
    (hsw : swapsWith (.ListComp elt [⟨tg, iter, ifs, 0⟩] scope pos) (some (.Name y py)) spos.line X.env = pure true) (hi : CI X Wx tg iter wi im) (ok : BlkOk X.N X.env.scope scope own)
    (hg : Blk X scope fun Y => CG Y tg g gm is) (ht : Blk X scope fun Y => CTs Y W0 ifs tt c) (he : Blk X scope fun Y => CE Y W0 elt te m) (hsub : ∀ i ∈ is, i ∈ own.map (·.2) := by decide) (hs : ∀ x, foldedSetIterable iter X.env x = pure x := by intro _; rfl) :
    CS X Wx (.Assign [.Name y py] (.ListComp elt [⟨tg, iter, ifs, 0⟩] scope pos) spos) (tAsg (tLc wi g tt te (own.map (·.2))) (gName i)) (sAsg (eLc im gm c m (own.map (·.2))) (gmName i)) :=
  ⟨ps_setLc hc hN hy hyl hsw hi.pe ok (fun s H C cl fp => (hg s H C cl fp).pe) (fun s H C cl fp => (ht s H C cl fp).pe) (fun s H C cl fp => (he s H C cl fp).pe) hs, sem_asg (sem_lc hi.sem (hg {} (fun _ => none) 0 [] []).sem hsub (ht {} (fun _ => none) 0 [] []).sem (he {} (fun _ => none) 0 [] []).sem) (sem_gname i)⟩
theorem cs_setLcL {i : Nat} {y : Str} {py : Pos} {elt tg iter : Expr} {ifs : List Expr} {scope : Scope} {own : List (Str × Nat)} {pos spos : Pos} {wi : TI} {g : TG} {tt : TT} {te : TE} {im : IM} {gm : GM} {is : List Nat} {c : TM} {m : EM} (hc : X.calm = true) (hN : X.N.Nodup) (hy : X.N[i]? = some y) (hyl : X.env.scope.names.lookup y = some .local)
    (hsw : swapsWith (.ListComp elt [⟨tg, iter, ifs, 0⟩] scope pos) (some (.Name y py)) spos.line X.env = pure true) (hi : CI X Wx tg iter wi im) (ok : BlkOk X.N X.env.scope scope own)
    (hg : Blk X scope fun Y => CG Y tg g gm is) (ht : Blk X scope fun Y => CTs Y W0 ifs tt c) (he : Blk X scope fun Y => CE Y W0 elt te m) (hsub : ∀ i ∈ is, i ∈ own.map (·.2) := by decide) (hs : ∀ x, foldedSetIterable iter X.env x = pure x := by intro _; rfl) :
    CS X Wx (.Assign [.Name y py] (.ListComp elt [⟨tg, iter, ifs, 0⟩] scope pos) spos) (tAsg (tLc wi g tt te (own.map (·.2))) (gName i)) (sAsg (eLcL im gm c m (own.map (·.2))) (gmName i)) :=
  ⟨ps_setLc hc hN hy hyl hsw hi.pe ok (fun s H C cl fp => (hg s H C cl fp).pe) (fun s H C cl fp => (ht s H C cl fp).pe) (fun s H C cl fp => (he s H C cl fp).pe) hs, sem_asg (sem_lcL hi.sem (hg {} (fun _ => none) 0 [] []).sem hsub (ht {} (fun _ => none) 0 [] []).sem (he {} (fun _ => none) 0 [] []).sem) (sem_gname i)⟩

/-! defs -/
def spF (K : PySem.W.Frag) (n : Nat) (m : FM) : Sp := fun vs H Q E => vs.length = n ∧ ∃ (G : Gm) (ws : List W), World K G H ∧ RepL K G H ws vs ∧ PostR K (RepV K) E G H (m ws G.st) Q
def eCall (m : FM) (as : AM) : EM := fun ρ st => (as ρ st).bind fun ws st1 => m ws st1
theorem sem_call {m : FM} {n : Nat} {ta : TA} {as : AM} {dvs : List V} {dws : List W} (ha : SemA K Wx ta as) (hd : ∀ G H, RepL K G H dws dvs) (hn : ∀ ρ st ws st', as ρ st = .ok ws st' → ws.length + dws.length = n) : SemE K Wx (tCallSD (spF K n m) dvs (WE Wx) ta) (eCall (fun ws => m (ws ++ dws)) as) := fun G H ρ σ Q w r h => by
  refine ha G H ρ σ _ w r (PostR.bind h fun ws st1 ls1 H1 vs he e1 w1 rv h1 => ?_)
  refine ⟨?_, G.to ls1 st1, ws ++ dws, w1, RepL.app rv (hd _ _), h1⟩
  rw [List.length_append, ← rv.length, ← (hd G H).length]
  exact hn _ _ _ _ he
/-- how many arguments -/
def ALen (as : AM) (n : Nat) : Prop := ∀ ρ st ws st', as ρ st = .ok ws st' → ws.length = n
theorem alen_nil : ALen aNil 0 := fun ρ st ws st' h => by cases h; rfl
theorem alen_cons {m : EM} {r : AM} {n : Nat} (h : ALen r n) : ALen (aCons m r) (n + 1) := fun ρ st ws st' e => by
  unfold aCons at e
  cases e1 : m ρ st with
  | ok w st1 =>
    rw [e1] at e
    dsimp only [Rs.bind] at e
    cases e2 : r ρ st1 with
    | ok us st2 =>
      rw [e2] at e
      cases e
      simp [h _ _ _ _ e2]
    | er x s => rw [e2] at e; cases e
    | no => rw [e2] at e; cases e
  | er x s => rw [e1] at e; cases e
  | no => rw [e1] at e; cases e
/-- f(e, ..), all arguments written by place -/
theorem ce_call {k : Nat} {f : Addr} {fd : FuncData} {ps : List Str} {m : FM} {x : Str} {p pos : Pos} {e : Expr} {es : List Expr} {t : TA} {as : AM} {n : Nat} (F : FnOk X.prog X.w X.K X.mg X.base (L2.CX X.prog X.w) k f fd ps (spF X.K n m)) (hr : Room k X.A) (tk : Takes X Wx) (hg : Gl X x) (hm : X.mg x = some (.ref f)) (hk : PySem.W.keepIn X.K (.ref f) = true) (hb : Binds X.K fd ps [])
    (ha : CA X Wx (e :: es) t as) (hl : ALen as n) (hdb : (x == ("__debug__" : Str)) = false := by decide) (he : starEach (e :: es) X.env = (false, eval e X.env) :: starEach es X.env := by rfl) (hpl : (backTo pos (starEach es X.env)).any (·.1) = false := by rfl) :
    CE X Wx (.Call (.Name x p) (e :: es) [] pos) (tCallSD (spF X.K n m) [] (WE Wx) t) (eCall m as) := by
  refine ⟨pe_callSD F hr hg hm hk hb .nil (passAt tk) ha.pe hdb he hpl, ?_⟩
  have := sem_call (m := m) (n := n) (dvs := []) (dws := []) ha.sem (fun _ _ => .nil) (fun ρ st ws st' e => by simpa using hl ρ st ws st' e)
  simpa only [List.append_nil] using this

def entry (n : Nat) (ws : List W) : Ev := ws.map some ++ List.replicate (n - ws.length) none
def mFun (n : Nat) (b : SM) : FM := fun ws st => match b (entry n ws) st with
  | .nx _ st' => .ok .non st'
  | .rt w st' => .ok w st'
  | .er x _ st' => .er x st'
  | _ => .no
theorem RepL.ev {G : Gm} {H : Hp} {ws : List W} {vs : List V} (h : RepL K G H ws vs) {N : List Str} : RepE K G H (entry N.length ws) (L2.start N vs) := by
  refine ⟨by unfold entry L2.start; simp [h.length], fun i w e => ?_⟩
  unfold entry at e
  have hi : i < ws.length := by
    by_cases hi : i < ws.length
    · exact hi
    · rw [List.getElem?_append_right (by simpa using hi), List.getElem?_replicate] at e
      split at e <;> cases e
  rw [List.getElem?_append_left (by simpa using hi), List.getElem?_map] at e
  cases e2 : ws[i]? with
  | none => rw [e2] at e; cases e
  | some u =>
    rw [e2] at e
    cases e
    obtain ⟨v, ev, rv⟩ := h.get e2
    refine ⟨v, ?_, rv⟩
    unfold L2.start
    rw [List.getElem?_append_left (by simpa using (List.getElem?_eq_some_iff.mp ev).1), List.getElem?_map, ev]
    rfl
theorem fn_ok {P : Program} {w : PySem.World} {mg : Str → Option Value} {base : Heap} {x qual : Str} {st : Stmt} {f : Addr} {fd : FuncData} {N ps : List Str} {k n : Nat} {b : SM} (F : Fun K x qual st f fd) (S : FnScope N ps (defScope st)) (hn : ps.length = n)
    (hbody : ∀ (cdv : Value) (A : Around) (outer : List Env) (s : Shared) (H : Hp) (E : XK), Room k (A.deeper (envOfC qual (defScope st) s.heap.objs.size f cdv)) →
      ∃ t, CSs (cxOf (L2.CX P w) P w K mg base N qual (defScope st) f cdv A outer s H E) (fun c d _ H => E c d H) (defBody st) t b) : FnOk P w K mg base (L2.CX P w) (k + 1) f fd ps (spF K n (mFun N.length b)) := by
  refine F.okX S (fun vs H Q E h => h.1.trans hn.symm) fun cdv A outer s H vs Q E hr h => ?_
  obtain ⟨t, ht⟩ := hbody cdv A outer s H E hr
  obtain ⟨hl, G, ws, wo, rl, hp⟩ := h
  refine ⟨t, ht.pe, ht.sem G H _ _ _ wo rl.ev ?_⟩
  unfold mFun at hp
  cases e : b (entry N.length ws) G.st with
  | nx ρ st' => rw [e] at hp; exact fun ls' σ' H' x w r => hp ls' H' .non x w .non
  | rt u st' => rw [e] at hp; exact fun ls' v H' x w r => hp ls' H' v x w r
  | bk ρ st' => rw [e] at hp; exact hp.elim
  | ct ρ st' => rw [e] at hp; exact hp.elim
  | er y ρ st' => rw [e] at hp; exact fun ls' σ' H' d x w r q => hp ls' H' d x w q
  | no => rw [e] at hp; exact hp.elim
/-- a better promise: m' says no more than m -/
theorem fn_imp {P : Program} {w : PySem.World} {mg : Str → Option Value} {base : Heap} {CX : CXT} {f : Addr} {fd : FuncData} {ps : List Str} {k n : Nat} {m m' : FM} (F : FnOk P w K mg base CX k f fd ps (spF K n m)) (h : ∀ ws st, ws.length = n → m' ws st = .no ∨ m' ws st = m ws st) : FnOk P w K mg base CX k f fd ps (spF K n m') :=
  F.imp fun vs H Q E q => by
    obtain ⟨hl, G, ws, wo, rl, hp⟩ := q
    refine ⟨hl, G, ws, wo, rl, ?_⟩
    rcases h ws G.st (rl.length.trans hl) with e | e
    · rw [e] at hp; exact hp.elim
    · rw [← e]; exact hp
/-- code that is never reached -/
def sNo : SM := fun _ _ => .no
theorem cs_never {s : Stmt} : CS X Wx s tNever sNo := ⟨ps_never, fun G H ρ σ D w r h => h.elim⟩
end
end Sim
end
section
set_option Elab.async false
set_option linter.all false
set_option maxRecDepth 100000
set_option maxHeartbeats 2000000
namespace Low
open PySem PySem.W PyProof.Rows PySem.Spec
section
variable {prog : Program} {w : World} {A : Around} {E : Value → Shared → Prop} {s : Shared}
/-- S grows by the signs of a text -/
theorem ext_str {R : Result → Shared → Prop} {x : Str} {t : Tok} {S : Addr} {res : Value} {c₀ : Nat} (hh : A.handled = none) (hn : x.cps.size ≤ sizeLine) (hS : s.heap.get? S = some { cls := .type "list", data := .seq #[] c₀ })
    (hR : ∀ h' tk acc c', (∀ b o, b ≠ S → s.heap.get? b = some o → h'.get? b = some o) → h'.get? S = some { cls := .type "list", dict := none, data := .seq acc c', slots := #[] } → ItemsOf (SignAt x) acc x.cps.size → R (.ok (.ret res)) { s with heap := h', toks := tk }) :
    wpAny (model prog w) A.in1 (Builtin.List.listExtendWith (.ref S) (.str x t) res)
      (fun fin s' => match fin with
        | .done f => R (.ok f) s'
        | .again c' => c'.quiet = true ∧ codeAny (model prog w) A c' R s') (fun e s' => R (.error e) s') s := by
  unfold Builtin.List.listExtendWith
  refine wpAny_bind (wpAny_typeOf (T := "str") (v := .str x t) rfl ?_)
  have a1 : Builtin.List.listSameRef (.ref S) (.str x t) = false := rfl
  have a2 : (Value.type "str" == Value.type "list") = false := by decide
  have a3 : (Value.type "str" == Value.type "tuple") = false := by decide
  simp only [a1, a2, a3, Bool.or_false, Bool.false_eq_true, if_false]
  refine wpAny_bind (wpAny_pyIter_str fun o St W hst => wpAny_bind (wpAny_holding ?_))
  unfold Builtin.List.listLengthHint
  refine wpAny_bind (wpAny_specialOf (T := "str") (v := .str x t) rfl PySem.F.str_len ?_)
  wp_delta
  refine wpAny_bind (wpAny_isInstance (T := "str") (v := .str x t) (b := true) rfl (by rw [isSubtype_type]; kernel_rfl) ?_)
  show wpAny _ A.in1 (typeOf (Value.str x t) >>= _) _ _ _
  refine wpAny_bind (wpAny_typeOf (T := "str") (v := .str x t) rfl (wpAny_pure ?_))
  rw [if_neg (by decide)]
  have hlt : S < s.heap.objs.size := Heap.lt_size hS
  have hSf : S ∉ [s.heap.objs.size] := fun z => absurd hlt (by rw [List.mem_singleton.mp z]; exact Nat.lt_irrefl _)
  have hS2 := Heap.get?_push_of_some o hS
  refine wpAny_pure ⟨plainId_quiet PySem.F.plain_extend_loop _, codeAny_extend_loopS (W A.in1 hh).toS hn _ hSf _ x.cps.size 0 _ _ _ rfl (Nat.zero_le _) hst hS2 (ItemsOf.nil _) fun s' acc c' hm hS' hacc => ?_⟩
  rw [Moved.eq_with hm]
  refine hR s'.heap s'.toks acc c' (fun b ob hb e => hm.heap b ob (fun z => ?_) (Heap.get?_push_of_some _ e)) hS' hacc
  rcases List.mem_cons.mp z with z | z
  · exact hb z
  · exact absurd (Heap.lt_size e) (by rw [List.mem_singleton.mp z]; exact Nat.lt_irrefl _)
theorem init_str {R : Result → Shared → Prop} {x : Str} {t : Tok} {S : Addr} (hh : A.handled = none) (hn : x.cps.size ≤ sizeLine) (hS : s.heap.get? S = some { cls := .type "list", data := .seq #[] })
    (hR : ∀ h' tk acc c', (∀ b o, b ≠ S → s.heap.get? b = some o → h'.get? b = some o) → h'.get? S = some { cls := .type "list", dict := none, data := .seq acc c', slots := #[] } → ItemsOf (SignAt x) acc x.cps.size → R (.ok (.ret .none)) { s with heap := h', toks := tk }) :
    wpAny (model prog w) A.in1 (Builtin.«list.__init__» ⟨[.ref S, .str x t], []⟩)
      (fun fin s' => match fin with
        | .done f => R (.ok f) s'
        | .again c' => c'.quiet = true ∧ codeAny (model prog w) A c' R s') (fun e s' => R (.error e) s') s := by
  show wpAny _ _ (Builtin.List.listItems (.ref S) >>= fun old => Builtin.List.listUpdate (.ref S) (fun _ => #[]) >>= fun _ => letGo old.toList.reverse >>= fun _ => Builtin.List.listExtendWith (.ref S) (.str x t) .none) _ _ s
  refine wpAny_bind ?_
  unfold Builtin.List.listItems
  refine wpAny_bind (wpAny_seqItems hS rfl (wpAny_pure ?_))
  show wpAny _ _ (updateSeq S (fun _ => #[]) >>= fun _ => letGo (#[] : Array Value).toList.reverse >>= fun _ => Builtin.List.listExtendWith (.ref S) (.str x t) .none) _ _ s
  refine wpAny_bind (wpAny_updateSeq hS rfl (wpAny_bind (wpAny_letGo ?_)))
  have hS2 := Heap.get?_update_self (Obj.mapSeq (fun _ => (#[] : Array Value))) hS rfl
  refine ext_str hh hn hS2 fun h' tk acc c' hk hS' hacc => hR h' tk acc c' (fun b o hb e => hk b o hb ?_) hS' hacc
  exact (Heap.get?_update_other _ _ (Ne.symm hb)).trans e
theorem list_str {x : Str} {t : Tok} {Q : Value → Shared → Prop} (hh : A.handled = none) (hn : x.cps.size ≤ sizeLine)
    (hQ : ∀ h' tk acc c', (∀ b o, s.heap.get? b = some o → h'.get? b = some o) → h'.get? s.heap.objs.size = some { cls := .type "list", dict := none, data := .seq acc c', slots := #[] } → ItemsOf (SignAt x) acc x.cps.size → Q (.ref s.heap.objs.size) { s with heap := h', toks := tk }) :
    wpAny (model prog w) A (call (.type "list") [.str x t]) Q E s := by
  refine callType_codes (Q₁ := fun obj s₁ => obj = .ref s.heap.objs.size ∧ s₁ = { s with heap := s.heap.push { cls := .type "list", data := .seq #[] } }) PySem.F.called_list (PySem.F.typeCall_list_1 _) PySem.F.entry_list_init
    (code_list_new _ ⟨rfl, rfl⟩) fun obj s₁ h₁ => ?_
  obtain ⟨rfl, rfl⟩ := h₁
  have hS : (s.heap.push { cls := .type "list", data := .seq #[] }).get? s.heap.objs.size = some { cls := .type "list", data := .seq #[] } := Heap.get?_push_size _ rfl
  refine ⟨⟨_, hS, rfl⟩, PySem.F.args_list_init_2 _ _, init_str (A := A.in1) hh hn hS fun h' tk acc c' hk hS' hacc => ⟨rfl, ?_⟩⟩
  exact hQ h' tk acc c' (fun b o e => hk b o (Nat.ne_of_lt (Heap.lt_size e)) (Heap.get?_push_of_some _ e)) hS' hacc
end
end Low
end
section
set_option Elab.async false
set_option linter.all false
set_option maxRecDepth 100000
set_option maxHeartbeats 4000000
namespace Low
open PySem PySem.Spec PyProof.Rows
def addS (l : List Str) (x : Str) : List Str := if x ∈ l then l else l ++ [x]
/-- the unlike ones, in the order in which they come -/
def nubS (xs : List Str) : List Str := xs.foldl addS []
theorem mem_addS {l : List Str} {x k : Str} : k ∈ addS l x ↔ k ∈ l ∨ k = x := by
  unfold addS
  split
  · rename_i h
    exact ⟨.inl, fun z => z.elim id fun e => by rw [e]; exact h⟩
  · simp
theorem mem_fold (xs : List Str) : ∀ (l : List Str) (k : Str), k ∈ xs.foldl addS l ↔ k ∈ l ∨ k ∈ xs := by
  induction xs with
  | nil => intro l k; simp
  | cons x r ih => intro l k; rw [List.foldl_cons, ih, mem_addS, List.mem_cons, or_assoc]
theorem mem_nubS {xs : List Str} {k : Str} : k ∈ nubS xs ↔ k ∈ xs := by simp [nubS, mem_fold]
theorem nubS_snoc (xs : List Str) (x : Str) : nubS (xs ++ [x]) = addS (nubS xs) x := by simp [nubS, List.foldl_append]
theorem len_fold (xs : List Str) : ∀ l : List Str, (xs.foldl addS l).length ≤ l.length + xs.length := by
  induction xs with
  | nil => intro l; simp
  | cons x r ih =>
    intro l
    have := ih (addS l x)
    have h2 : (addS l x).length ≤ l.length + 1 := by unfold addS; split <;> simp
    rw [List.foldl_cons, List.length_cons]
    omega
theorem nubS_le (xs : List Str) : (nubS xs).length ≤ xs.length := by simpa [nubS] using len_fold xs []
theorem nub_nodup (xs : List Str) : ∀ l : List Str, (l ++ xs).Nodup → xs.foldl addS l = l ++ xs := by
  induction xs with
  | nil => intro l _; simp
  | cons x r ih =>
    intro l h
    have hx : x ∉ l := fun z => by
      rw [List.nodup_append] at h
      exact h.2.2 x z x List.mem_cons_self rfl
    have e : addS l x = l ++ [x] := by unfold addS; rw [if_neg hx]
    rw [List.foldl_cons, e, ih (l ++ [x]) (by simpa using h)]
    simp
theorem nubS_of_nodup {xs : List Str} (h : xs.Nodup) : nubS xs = xs := by simpa [nubS] using nub_nodup xs [] (by simpa using h)
theorem nodup_fold (xs : List Str) : ∀ l : List Str, l.Nodup → (xs.foldl addS l).Nodup := by
  induction xs with
  | nil => intro l h; exact h
  | cons x r ih =>
    intro l h
    refine ih _ ?_
    unfold addS
    split
    · exact h
    · rename_i hx
      rw [List.nodup_append]
      exact ⟨h, by simp, fun a ha b hb e => hx (by rw [← List.mem_singleton.mp hb, ← e]; exact ha)⟩
theorem nubS_nodup (xs : List Str) : (nubS xs).Nodup := nodup_fold xs [] .nil
theorem nodup_of_len {xs : List Str} (h : (nubS xs).length = xs.length) : xs.Nodup := by
  have h1 : ∀ (ys l : List Str), (ys.foldl addS l).length = l.length + ys.length → ys.foldl addS l = l ++ ys := by
    intro ys
    induction ys with
    | nil => intro l _; simp
    | cons y r ih =>
      intro l e
      rw [List.foldl_cons] at e ⊢
      have b := len_fold r (addS l y)
      by_cases hy : y ∈ l
      · have e2 : addS l y = l := by unfold addS; rw [if_pos hy]
        rw [e2] at e b
        rw [List.length_cons] at e
        omega
      · have e2 : addS l y = l ++ [y] := by unfold addS; rw [if_neg hy]
        rw [e2] at e ⊢
        rw [ih (l ++ [y]) (by rw [e]; simp; omega)]
        simp
  have := h1 xs [] (by simpa [nubS] using h)
  have q : nubS xs = xs := by simpa [nubS] using this
  rw [← q]; exact nubS_nodup xs
section
variable {prog : Program} {w : World} {A : Around} {R : Result → Shared → Prop} {I : Addr} {fp wr : List Addr} {G : Array GenState → Array GenState → Prop} {n : Nat} {P : Nat → Value → Prop} {St : Nat → Shared → Prop}
/-- a set takes texts, whatever stands in it -/
theorem loop_strs (W : WalksS prog w A.in1 I fp wr G n P St) (S : Addr) (hSf : S ∉ fp) (xs : List Str) (hsz : xs.length = n) (hn1 : n + 1 < scanBound) (hval : ∀ i v, P i v → ∃ t, v = .str (xs.getD i Str.empty) t) :
    ∀ (k i : Nat) (s : Shared), n - i = k → i ≤ n → St i s → s.heap.SetOf (PySem.strKind prog w) S (fun k' => (xs.take i).any (· == k')) (nubS (xs.take i)).length →
      (∀ s', Moved (S :: wr) G s s' → s'.heap.SetOf (PySem.strKind prog w) S (fun k' => xs.any (· == k')) (nubS xs).length → R (.ok (.ret .none)) s') →
      codeAny (model prog w) A (.builtin "set.update.loop" ⟨[.ref S, .ref I], []⟩) R s := by
  have hSw : S ∉ wr := fun h => hSf (W.sub _ h)
  have hsub : ∀ b ∈ wr, b ∈ S :: wr := fun b hb => List.mem_cons_of_mem _ hb
  intro k
  induction k with
  | zero =>
    intro i s hk hi hst hS hR
    have hin : i = xs.length := by omega
    refine codeAny_builtin PyProof.Rows.F.entry_set_update_loop ?_
    rw [Around.under_plainId PyProof.Rows.F.plain_set_update_loop _]
    show wpAny _ A.in1 (pyNext (.ref I) >>= _) _ _ s
    refine wpAny_bind (W.done s _ _ (by rw [← hsz, ← hin]; exact hst) fun s' hm => wpAny_pure (hR s' (hm.mono hsub) ?_))
    rw [hin, List.take_length] at hS
    obtain ⟨o, es, ep, t, ho, rest⟩ := hS
    exact ⟨o, es, ep, t, hm.heap S _ hSw ho, rest⟩
  | succ k ih =>
    intro i s hk hi hst hS hR
    have hlt : i < n := by omega
    have hlx : i < xs.length := by omega
    refine codeAny_builtin PyProof.Rows.F.entry_set_update_loop ?_
    rw [Around.under_plainId PyProof.Rows.F.plain_set_update_loop _]
    show wpAny _ A.in1 (pyNext (.ref I) >>= _) _ _ s
    refine wpAny_bind (W.item i s _ _ hlt hst fun v s' hP hst' hm => ?_)
    obtain ⟨t, rfl⟩ := hval i v hP
    have hS' : s'.heap.SetOf (PySem.strKind prog w) S (fun k' => (xs.take i).any (· == k')) (nubS (xs.take i)).length := by
      obtain ⟨o, es, ep, tb, ho, rest⟩ := hS
      exact ⟨o, es, ep, tb, hm.heap S _ hSw ho, rest⟩
    show wpAny _ A.in1 (holding [Value.str (xs.getD i Str.empty) t] (setAdd S (.str (xs.getD i Str.empty) t)) >>= _) _ _ s'
    refine wpAny_bind (wpAny_holding ?_)
    unfold setAdd
    refine wpAny_holding (wpAny_bind ((PySem.strKind prog w).pyHash (k := xs.getD i Str.empty) (strKind_is _ _ _ _) ?_))
    have hle := nubS_le (xs.take i)
    rw [List.length_take] at hle
    refine wpAny_setAddHashed_of (knd := PySem.strKind prog w) (s := { s' with toks := s'.toks + 1 }) (strKind_is _ _ _ _) rfl hS' (by omega) fun h' hsb hS2 => ?_
    have ex : xs.getD i Str.empty = xs[i] := by simp [hlx]
    have et : xs.take (i + 1) = xs.take i ++ [xs[i]] := by rw [List.take_add_one, List.getElem?_eq_getElem hlx]; rfl
    have hSi : h'.SetOf (PySem.strKind prog w) S (fun k' => (xs.take (i + 1)).any (· == k')) (nubS (xs.take (i + 1))).length := by
      rw [ex] at hS2
      refine SetOf_congr hS2 (fun k' => ?_) ?_
      · rw [et, List.any_append]
        by_cases e : k' = xs[i]
        · subst e; simp
        · have hb : (xs[i] == k') = false := beq_eq_false_iff_ne.mpr fun z => e z.symm
          simp [hb, e]
      · rw [et, nubS_snoc]
        unfold addS
        by_cases hm : xs[i] ∈ xs.take i
        · rw [if_pos (mem_nubS.mpr hm)]
          have : (xs.take i).any (· == xs[i]) = true := List.any_eq_true.mpr ⟨_, hm, by simp⟩
          simp [this]
        · rw [if_neg (fun z => hm (mem_nubS.mp z))]
          have : (xs.take i).any (· == xs[i]) = false := by
            rw [List.any_eq_false]
            intro y hy
            exact fun z => hm (by rw [← eq_of_beq z]; exact hy)
          simp [this]
    refine wpAny_pure ⟨plainId_quiet PyProof.Rows.F.plain_set_update_loop _, ih (i + 1) _ (by omega) hlt (W.frame _ s' _ _ hst' (Nat.le_succ _) fun b hb o e => ?_) hSi fun s'' hm'' hS'' => ?_⟩
    · rw [hsb.2 b (fun h : b = S => hSf (by rw [← h]; exact hb))]; exact e
    · refine hR s'' (Moved.trans W.gtrans ((hm.mono hsub).then_heap (Nat.le_succ _) fun b o hb e => ?_) hm'') hS''
      rw [hsb.2 b (fun h : b = S => hb (by rw [h]; exact List.mem_cons_self))]; exact e
end
section
variable {prog : Program} {w : World} {A : Around} {E : Value → Shared → Prop} {s : Shared}

theorem set_tuple {l : Addr} {items : Array Value} {xs : List Str} {Q : Value → Shared → Prop} (hh : A.handled = none) (hl : s.heap.IsTuple l items) (hi : StrsAre items.toList xs) (hn1 : xs.length + 1 < scanBound)
    (h : ∀ (h' : Heap) (tk : Nat), h'.SetOf (PySem.strKind prog w) s.heap.objs.size (fun k' => xs.any (· == k')) (nubS xs).length → (∀ b o, b < s.heap.objs.size → s.heap.get? b = some o → h'.get? b = some o) → Q (.ref s.heap.objs.size) { s with heap := h', toks := tk }) :
    wpAny (model prog w) A (call (.type "set") [.ref l]) Q E s := by
  obtain ⟨c, tl, hmro⟩ := PySem.F.called_set.mro
  have hmade := PySem.F.called_set.made
  have hsub := PySem.F.called_set.sub
  refine wpAny_call (codeAny_of_tree ?_)
  show wpAny _ _ (callAny (.type "set") _) _ _ _
  refine wpAny_pure ⟨Code.quiet_builtin _ (by decide +kernel), codeAny_builtin PySem.F.entry_type_call ?_⟩
  rw [Around.under_plain (weight_type_call_type "set" [.ref l] []) rfl]
  have h1 := PySem.F.called_set.notType
  have h2 := PySem.F.called_set.canCreate
  have hct := PySem.F.typeCall_set_1 (.ref l)
  repeat (any_goals (first | assumption | wp_step))
  refine codeAny_mono (code_set_new_1 (.ref l) (E := E) (Q₁ := fun obj s₁ => ∃ led : Bool, obj = .ref s.heap.objs.size ∧ s₁ = { s with heap := s.heap.push { cls := .type "set", dict := none, data := .set #[] 0 (.fresh 0 0 led) } }) fun led => ⟨led, rfl, rfl⟩) fun r s₁ hr => ?_
  cases r with
  | error e => exact hr
  | ok fl =>
    cases fl with
    | ret obj =>
      obtain ⟨led, rfl, rfl⟩ := hr
      let oS : Obj := { cls := .type "set", dict := none, data := .set #[] 0 (.fresh 0 0 led) }
      have hS : (s.heap.push oS).get? s.heap.objs.size = some oS := Heap.get?_push_size _ rfl
      have hT : Shared.TypeIs { s with heap := s.heap.push oS } (.ref s.heap.objs.size) "set" := ⟨_, hS, rfl⟩
      have hli := PySem.F.called_set.init.lookup
      have hbi := PySem.F.called_set.init.bind (.ref s.heap.objs.size)
      repeat (any_goals (first | assumption | wp_step))
      refine codeAny_mono (codeAny_call_builtin (R := wants (fun r s₂ => r = .none ∧ ∃ h' tk, s₂ = { s with heap := h', toks := tk } ∧ h'.SetOf (PySem.strKind prog w) s.heap.objs.size (fun k' => xs.any (· == k')) (nubS xs).length ∧
          (∀ b o, b < s.heap.objs.size → s.heap.get? b = some o → h'.get? b = some o)) E) PySem.F.called_set.init.plain PySem.F.entry_set_init (check_set_init_1 hT ?_)) fun r₂ s₂ hr₂ => ?_
      · obtain ⟨⟨ocls, odict, odata, oslots⟩, hol, hcl, nl, hdl⟩ := hl
        simp only at hcl hdl
        subst hcl hdl
        have hol' : (s.heap.push oS).get? l = some { cls := .type "tuple", dict := odict, data := .seq items nl, slots := oslots } := Heap.get?_push_of_some _ hol
        have hsls := PySem.F.sub_tuple_set
        have hslf := PySem.F.sub_tuple_frozenset
        have hne : (Value.type "tuple" == Value.type "dict") = false := by decide
        have hl1 : (s.heap.push oS).IsTuple l items := ⟨_, hol', rfl, nl, rfl⟩
        unfold Builtin.«set.__init__» noKeywords Builtin.Frozenset.updateFrom
        generalize hPI : pyIter = PI
        wp_walk
        subst hPI
        refine wpAny_pyIter_tuple hl1 (wpAny_bind (wpAny_runValue ?_))
        have hlS : l < s.heap.objs.size := Heap.lt_size hol
        have hh3 : A.in1.in1.in1.handled = none := by simp [hh]
        have hps : (s.heap.push oS).objs.size = s.heap.objs.size + 1 := Heap.size_push _ _
        have hneI : l ≠ (s.heap.push oS).objs.size := by rw [hps]; exact Nat.ne_of_lt (Nat.lt_succ_of_lt hlS)
        have hSf : s.heap.objs.size ∉ [(s.heap.push oS).objs.size, l] := by
          rw [hps]
          simp only [List.mem_cons, List.mem_singleton, List.not_mem_nil, or_false, not_or]
          exact ⟨Nat.ne_of_lt (Nat.lt_succ_self _), Nat.ne_of_gt hlS⟩
        have hsz : xs.length = items.size := by rw [← StrsAre.len_eq hi, Array.length_toList]
        have hval : ∀ (i : Nat) (v : Value), items[i]? = some v → ∃ t, v = .str (xs.getD i Str.empty) t := fun i v hv => SS.strs_at hi i v (by rw [Array.getElem?_toList]; exact hv)
        refine loop_strs ((Walks.tuple hh3 _ l hneI items).toS) s.heap.objs.size hSf xs hsz (by rw [← hsz]; exact hn1) hval (items.size - 0) 0 _ (by omega) (Nat.zero_le _) ⟨⟨_, Heap.get?_push_size _ rfl, rfl, rfl⟩, (hl1.push _)⟩ ?hS0 ?hR
        case hS0 =>
          have hget : ((s.heap.push oS).push { cls := .type "tuple_iterator", data := .fields #[.ref l, .int 0 0] }).get? s.heap.objs.size = some oS := Heap.get?_push_of_some _ hS
          exact PyProof.Rows.SetOf_congr ((PyProof.Rows.setObjOf_fresh (knd := PySem.strKind prog w) led).setOf hget (by unfold scanBound; omega)) (fun _ => rfl) rfl
        case hR =>
          intro s' hm hS'
          obtain ⟨h', g', d', tk', os'⟩ := s'
          have eg : g' = s.gens := hm.gens
          have ed : d' = s.drawn := hm.drawn
          have eo : os' = s.os := hm.os
          subst eg ed eo
          show wpAny _ _ _ _ _ _
          refine wpAny_pure ?_
          show wpAny _ _ (ret Value.none) _ _ _
          refine wpAny_pure ⟨rfl, h', tk', rfl, hS', fun b o hb e => ?_⟩
          have hb1 : b ≠ s.heap.objs.size := Nat.ne_of_lt hb
          have hb2 : b ≠ (s.heap.push oS).objs.size := by rw [hps]; exact Nat.ne_of_lt (Nat.lt_succ_of_lt hb)
          exact hm.heap b o (by simp only [List.mem_cons, List.mem_singleton, List.not_mem_nil, or_false, not_or]; exact ⟨hb1, hb2⟩) (Heap.get?_push_of_some _ (Heap.get?_push_of_some _ e))
      · cases r₂ with
        | error e => exact hr₂
        | ok fl₂ =>
          cases fl₂ with
          | ret r =>
            obtain ⟨rfl, h', tk, rfl, hS', hk'⟩ := hr₂
            repeat (any_goals (first | assumption | wp_step))
            exact h _ _ hS' hk'
          | _ => exact hr₂.elim
    | _ => exact hr.elim

theorem set_list {l : Addr} {items : Array Value} {xs : List Str} {Q : Value → Shared → Prop} (hh : A.handled = none) (hl : s.heap.IsList l items) (hi : StrsAre items.toList xs) (hn1 : xs.length + 1 < scanBound)
    (h : ∀ (h' : Heap) (tk : Nat), h'.SetOf (PySem.strKind prog w) s.heap.objs.size (fun k' => xs.any (· == k')) (nubS xs).length → (∀ b o, b < s.heap.objs.size → s.heap.get? b = some o → h'.get? b = some o) → Q (.ref s.heap.objs.size) { s with heap := h', toks := tk }) :
    wpAny (model prog w) A (call (.type "set") [.ref l]) Q E s := by
  obtain ⟨c, tl, hmro⟩ := PySem.F.called_set.mro
  have hmade := PySem.F.called_set.made
  have hsub := PySem.F.called_set.sub
  refine wpAny_call (codeAny_of_tree ?_)
  show wpAny _ _ (callAny (.type "set") _) _ _ _
  refine wpAny_pure ⟨Code.quiet_builtin _ (by decide +kernel), codeAny_builtin PySem.F.entry_type_call ?_⟩
  rw [Around.under_plain (weight_type_call_type "set" [.ref l] []) rfl]
  have h1 := PySem.F.called_set.notType
  have h2 := PySem.F.called_set.canCreate
  have hct := PySem.F.typeCall_set_1 (.ref l)
  repeat (any_goals (first | assumption | wp_step))
  refine codeAny_mono (code_set_new_1 (.ref l) (E := E) (Q₁ := fun obj s₁ => ∃ led : Bool, obj = .ref s.heap.objs.size ∧ s₁ = { s with heap := s.heap.push { cls := .type "set", dict := none, data := .set #[] 0 (.fresh 0 0 led) } }) fun led => ⟨led, rfl, rfl⟩) fun r s₁ hr => ?_
  cases r with
  | error e => exact hr
  | ok fl =>
    cases fl with
    | ret obj =>
      obtain ⟨led, rfl, rfl⟩ := hr
      let oS : Obj := { cls := .type "set", dict := none, data := .set #[] 0 (.fresh 0 0 led) }
      have hS : (s.heap.push oS).get? s.heap.objs.size = some oS := Heap.get?_push_size _ rfl
      have hT : Shared.TypeIs { s with heap := s.heap.push oS } (.ref s.heap.objs.size) "set" := ⟨_, hS, rfl⟩
      have hli := PySem.F.called_set.init.lookup
      have hbi := PySem.F.called_set.init.bind (.ref s.heap.objs.size)
      repeat (any_goals (first | assumption | wp_step))
      refine codeAny_mono (codeAny_call_builtin (R := wants (fun r s₂ => r = .none ∧ ∃ h' tk, s₂ = { s with heap := h', toks := tk } ∧ h'.SetOf (PySem.strKind prog w) s.heap.objs.size (fun k' => xs.any (· == k')) (nubS xs).length ∧
          (∀ b o, b < s.heap.objs.size → s.heap.get? b = some o → h'.get? b = some o)) E) PySem.F.called_set.init.plain PySem.F.entry_set_init (check_set_init_1 hT ?_)) fun r₂ s₂ hr₂ => ?_
      · obtain ⟨⟨ocls, odict, odata, oslots⟩, hol, hcl, nl, hdl⟩ := hl
        simp only at hcl hdl
        subst hcl hdl
        have hol' : (s.heap.push oS).get? l = some { cls := .type "list", dict := odict, data := .seq items nl, slots := oslots } := Heap.get?_push_of_some _ hol
        have hsls := PySem.F.sub_list_set
        have hslf := PySem.F.sub_list_frozenset
        have hne : (Value.type "list" == Value.type "dict") = false := by decide
        have hl1 : (s.heap.push oS).IsList l items := ⟨_, hol', rfl, nl, rfl⟩
        unfold Builtin.«set.__init__» noKeywords Builtin.Frozenset.updateFrom
        generalize hPI : pyIter = PI
        wp_walk
        subst hPI
        refine wpAny_pyIter_list hl1 (wpAny_bind (wpAny_runValue ?_))
        have hlS : l < s.heap.objs.size := Heap.lt_size hol
        have hh3 : A.in1.in1.in1.handled = none := by simp [hh]
        have hps : (s.heap.push oS).objs.size = s.heap.objs.size + 1 := Heap.size_push _ _
        have hneI : l ≠ (s.heap.push oS).objs.size := by rw [hps]; exact Nat.ne_of_lt (Nat.lt_succ_of_lt hlS)
        have hSf : s.heap.objs.size ∉ [(s.heap.push oS).objs.size, l] := by
          rw [hps]
          simp only [List.mem_cons, List.mem_singleton, List.not_mem_nil, or_false, not_or]
          exact ⟨Nat.ne_of_lt (Nat.lt_succ_self _), Nat.ne_of_gt hlS⟩
        have hsz : xs.length = items.size := by rw [← StrsAre.len_eq hi, Array.length_toList]
        have hval : ∀ (i : Nat) (v : Value), items[i]? = some v → ∃ t, v = .str (xs.getD i Str.empty) t := fun i v hv => SS.strs_at hi i v (by rw [Array.getElem?_toList]; exact hv)
        refine loop_strs ((Walks.list hh3 _ l hneI items).toS) s.heap.objs.size hSf xs hsz (by rw [← hsz]; exact hn1) hval (items.size - 0) 0 _ (by omega) (Nat.zero_le _) ⟨⟨_, Heap.get?_push_size _ rfl, rfl, rfl⟩, (hl1.push _)⟩ ?hS0 ?hR
        case hS0 =>
          have hget : ((s.heap.push oS).push { cls := .type "list_iterator", data := .fields #[.ref l, .int 0 0] }).get? s.heap.objs.size = some oS := Heap.get?_push_of_some _ hS
          exact PyProof.Rows.SetOf_congr ((PyProof.Rows.setObjOf_fresh (knd := PySem.strKind prog w) led).setOf hget (by unfold scanBound; omega)) (fun _ => rfl) rfl
        case hR =>
          intro s' hm hS'
          obtain ⟨h', g', d', tk', os'⟩ := s'
          have eg : g' = s.gens := hm.gens
          have ed : d' = s.drawn := hm.drawn
          have eo : os' = s.os := hm.os
          subst eg ed eo
          show wpAny _ _ _ _ _ _
          refine wpAny_pure ?_
          show wpAny _ _ (ret Value.none) _ _ _
          refine wpAny_pure ⟨rfl, h', tk', rfl, hS', fun b o hb e => ?_⟩
          have hb1 : b ≠ s.heap.objs.size := Nat.ne_of_lt hb
          have hb2 : b ≠ (s.heap.push oS).objs.size := by rw [hps]; exact Nat.ne_of_lt (Nat.lt_succ_of_lt hb)
          exact hm.heap b o (by simp only [List.mem_cons, List.mem_singleton, List.not_mem_nil, or_false, not_or]; exact ⟨hb1, hb2⟩) (Heap.get?_push_of_some _ (Heap.get?_push_of_some _ e))
      · cases r₂ with
        | error e => exact hr₂
        | ok fl₂ =>
          cases fl₂ with
          | ret r =>
            obtain ⟨rfl, h', tk, rfl, hS', hk'⟩ := hr₂
            repeat (any_goals (first | assumption | wp_step))
            exact h _ _ hS' hk'
          | _ => exact hr₂.elim
    | _ => exact hr.elim
end
end Low
end
section
set_option Elab.async false
set_option linter.all false
set_option maxRecDepth 100000
set_option maxHeartbeats 2000000
namespace Low
open PySem PySem.Spec PyProof.Rows L2
section
variable {X : Cx}
/-- a power -/
def CPw (i j : Int) : Prop := 0 ≤ j ∧ (Builtin.Int.intBits i : Int) * j ≤ 2 ^ 27
theorem op_powW : OpR X (binaryOp .Pow) (rI CPw fun i j => .int (i ^ j.toNat)) := opI fun _ _ _ _ _ _ _ hc q => pow_int hc.1 hc.2 q
/-- list(text) -/
def rListStr : List V → Hp → VK → Prop := fun xs H Q => ∃ z : Str, xs = [.str z] ∧ z.length ≤ sizeLine ∧ ∀ l, H l = none → Q (.ref l) (upd H l (.lst (z.cps.toList.map fun c => .str ⟨#[c]⟩)))
theorem signs_vals {z : Str} {acc : Array Value} (h : ItemsOf (SignAt z) acc z.cps.size) : Vals (z.cps.toList.map fun c => V.str ⟨#[c]⟩) acc.toList := by
  have key : ∀ (cs : List Nat) (us : List Value), us.length = cs.length → (∀ (j : Nat) (v : Value), us[j]? = some v → ∃ c u, cs[j]? = some c ∧ v = Value.str ⟨#[c]⟩ u) → Vals (cs.map fun c => V.str ⟨#[c]⟩) us := by
    intro cs
    induction cs with
    | nil => intro us hl _; cases us with
      | nil => exact .nil
      | cons _ _ => simp at hl
    | cons c r ih => intro us hl hv; cases us with
      | nil => simp at hl
      | cons u us =>
        obtain ⟨d, t, e1, e2⟩ := hv 0 u rfl
        cases e1
        exact .cons ⟨t, e2⟩ (ih us (by simpa using hl) fun j v e => by simpa using hv (j + 1) v (by simpa using e))
  refine key _ _ (by simp [h.1]) fun j v e => ?_
  obtain ⟨c, u, e1, e2⟩ := h.2 j v (by rw [← Array.getElem?_toList]; exact e)
  exact ⟨c, u, by rw [Array.getElem?_toList]; exact e1, e2⟩
theorem call_list_txt (hc : X.calm = true) : CallR X (.type "list") rListStr := by
  intro pins s σ H xs us Q I r h
  obtain ⟨z, rfl, hz, q⟩ := h
  obtain ⟨u, rfl, t, rfl⟩ := vals1 r
  refine list_str (I.ok.hd hc) hz fun h' tk acc c' kp e hi => ?_
  have hv := signs_vals hi
  exact ⟨.ref s.heap.objs.size, _, I.laid (t' := tk) kp (Nat.le_refl _) (show ObjOk X.prog X.w _ h' _ (.lst _) from ⟨by rw [List.length_map, Array.length_toList]; exact hz, acc.toList, c', hv, by simpa using e⟩), rfl, q _ (I.hok.fresh (Nat.le_refl _))⟩
/-- sorted(t), t a tuple of texts -/
def rSortedT (K : PySem.W.Frag) : List V → Hp → VK → Prop := fun vs H Q => ∃ (a : Addr) (xs : List Str), vs = [V.ref a] ∧ SqT K H a (xs.map V.str) ∧ xs.length < 64 ∧
  ∀ (ys : List Str) (p : Addr), ys.Perm xs → sortedS ys = true → H p = none → Q (.ref p) (upd H p (.lst (ys.map V.str)))
theorem cr_sortedT : CallR X (.builtin "sorted") (rSortedT X.K) := by
  intro pins s σ H vs us Q I r h
  obtain ⟨a, xs, rfl, hs, h64, q⟩ := h
  obtain ⟨its, rv, ⟨ot, hot, hct, nt, hdt⟩, hz⟩ := I.tuple hs
  rw [Vals.ref1 r]
  have hS := rv.strs
  have hl : its.length = xs.length := by
    have z := rv.length
    rw [List.length_map] at z
    exact z.symm
  refine Calls.call_function_entry kind_sorted plain_sorted entry_sorted (args_sorted1 _) ?_
  unfold Builtin.«sorted»
  refine wpAny_bind (m := checkCount "sorted" 1 1 _) (wpAny_pure ?_)
  refine wpAny_bind (wpAny_collect_seq a (.inr rfl) hot hct hdt (fun h' kp => ?_) (by rw [List.size_toArray, hl, sizeLine_eq]; omega))
  have I1 : L2.Inv X pins σ H { s with heap := h' } := I.kept (t' := s.toks) kp
  refine wpAny_bind (wpAny_newList ?_ (by simp only [hl, sizeLine_eq]; omega))
  have hoL : (h'.push (seqObj "list" its.toArray 0)).get? h'.objs.size = some (seqObj "list" its.toArray 0) := Heap.get?_push_size _ rfl
  show wpAny _ _ _ _ _ { s with heap := h'.push (seqObj "list" its.toArray 0) }
  refine wpAny_bind (wpAny_holding (wpAny_call_entry slot_list_sort ⟨_, hoL, rfl⟩ entry_list_sort
    (list_sort_treeK strKind_oneLt (s := { s with heap := h'.push (seqObj "list" its.toArray 0) }) hoL hS.keysOf (fun v₁ v₂ rest e => keyKind_strs (by rw [← e]; exact hS)) (by rw [hl]; exact h64) fun st' hp hs => ⟨_, rfl, ?_⟩) (args_list_sort _)))
  obtain ⟨ys, g1, g2, g3⟩ := sorted_out_str hS hp hs
  obtain ⟨e', he'⟩ := sortedHeap_at (vs := its) (out := (arrOf st').map (·.2)) hoL
  have hlen : (ys.map V.str).length ≤ sizeLine := by
    rw [List.length_map, g2.length_eq, sizeLine_eq]
    omega
  refine wpAny_pure ⟨_, rfl, .ref h'.objs.size, upd H h'.objs.size (.lst (ys.map V.str)), I1.laid (t' := s.toks) (fun b u e => ?_) (Nat.le_refl _)
    (show ObjOk X.prog X.w _ _ _ (.lst (ys.map V.str)) from ⟨hlen, ((arrOf st').map (·.2)).toList, e', vals_of_strs g1, by rw [Array.toArray_toList]; exact he'⟩), rfl, q ys _ g2 g3 (I1.hok.fresh (Nat.le_refl _))⟩
  have hb : b < h'.objs.size := Heap.lt_size e
  rw [sortedHeap_old (Nat.ne_of_lt hb) (by rw [size_push']; exact Nat.lt_succ_of_lt hb)]
  exact Heap.get?_push_of_some _ e
/-- len(set(xs)), xs a list or tuple of texts -/
def tLenSet (K : PySem.W.Frag) (ta : TE) : TE := fun σ H Q => ta σ H fun x H1 => ∃ (l : Addr) (xs : List Str), x = .ref l ∧ (SqL K H1 l (xs.map V.str) ∨ SqT K H1 l (xs.map V.str)) ∧ xs.length ≤ 1000 ∧ Q (.int ((nubS xs).length : Int)) H1
theorem pe_lenSet {a : Expr} {ta : TE} {p p2 q pos : Pos} (hc : X.calm = true) (hg : Gl X "len") (hm : X.mg "len" = none) (hg2 : Gl X "set") (hm2 : X.mg "set" = none) (ha : PE X a ta)
    (na : starEach [a] X.env = (false, eval a X.env) :: starEach [] X.env := by rfl) : PE X (.Call (.Name "len" p) [.Call (.Name "set" p2) [a] [] q] [] pos) (tLenSet X.K ta) := by
  refine ⟨fun pins s σ H Q I h => ?_⟩
  refine Call_ (ld_blt I hg hm boot_len (PyProof.Rows.callWith_builtin1 (PyProof.Rows.args_cons ?_ rfl) rfl rfl))
  refine Call_ (ld_blt I hg2 hm2 boot_set (PyProof.Rows.callWith_type1 (PyProof.Rows.args_cons (thn (ha.run pins s σ H _ I h) fun v s1 ⟨x, H1, I1, r1, q1⟩ => PyProof.Rows.args_nil ?_) na) na rfl))
  obtain ⟨l, xs, rfl, hq, h1, q1⟩ := q1
  cases r1
  have hnb := nubS_le xs
  have hsb : xs.length + 1 < scanBound := by unfold scanBound; omega
  have fin : ∀ (h' : Heap) (tk : Nat), h'.SetOf (PySem.strKind X.prog X.w) s1.heap.objs.size (fun k' => xs.any (· == k')) (nubS xs).length → (∀ b o, b < s1.heap.objs.size → s1.heap.get? b = some o → h'.get? b = some o) →
      wpAny (model X.prog X.w) X.A (spliced (backTo pos (starEach [] X.env))) (fun vs s₂ => wpAny (model X.prog X.w) X.A (call (.builtin "len") (Value.ref s1.heap.objs.size :: vs)) (EP X pins σ Q) X.xe s₂) X.xe { s1 with heap := h', toks := tk } := fun h' tk hS hk => by
    refine PyProof.Rows.args_nil ?_
    obtain ⟨o, es, ep, t, ho, hex, hd, _, _, _, hf, hn⟩ := hS
    have I2 : L2.Inv X pins σ H1 { s1 with heap := h', toks := tk } := I1.kept fun b o e => hk b o (Heap.lt_size e) e
    refine call_len_set ho hex hd hf (by rw [hn]; omega) ⟨.int ((nubS xs).length : Int), H1, I2.tok _, ⟨_, by rw [hn]⟩, q1⟩
  rcases hq with hq | hq
  · obtain ⟨its, r, pl, hz⟩ := I1.list hq
    exact set_list (I1.ok.hd hc) pl.isList (by simpa using L2.strsAre_of r) hsb fun h' tk hS hk => fin h' tk hS hk
  · obtain ⟨its, r, pl, hz⟩ := I1.tuple hq
    exact set_tuple (I1.ok.hd hc) pl (by simpa using L2.strsAre_of r) hsb fun h' tk hS hk => fin h' tk hS hk
/-- a tuple that is known to have no dict of its own -/
def TupN (K : PySem.W.Frag) (H : Hp) (a : Addr) (xs : List V) : Prop := (∃ o : Obj, o.dict = none ∧ H a = some (.frz o (.tup xs))) ∨
  ∃ (o : Obj) (its : Array Value) (n : Nat), K.lookup a = some o ∧ o.cls = .type "tuple" ∧ o.dict = none ∧ o.data = .seq its n ∧ its.size ≤ sizeLine ∧ Vals xs its.toList
/-- xs.index(y), texts -/
def rIdx (K : PySem.W.Frag) : V → List V → Hp → VK → Prop := fun x vs H Q => ∃ (p : Addr) (ys : List Str) (z : Str), x = .ref p ∧ vs = [.str z] ∧ SqT K H p (ys.map V.str) ∧ z ∈ ys ∧ Q (.int (ys.idxOf z : Nat)) H
def tIdxT (K : PySem.W.Frag) (to : TE) (t : TA) : TE := fun σ H Q => to σ H fun x H1 => (∃ a xs, x = .ref a ∧ TupN K H1 a xs) ∧ t σ H1 fun vs H2 => rIdx K x vs H2 Q
theorem pe_idxT {o e : Expr} {es : List Expr} {to : TE} {t : TA} {apos cpos : Pos} (ho : PE X o to) (ha : PA X (e :: es) t)
    (hbase : attributeBase o "index" X.env (eval o X.env) = eval o X.env := by rfl)
    (hfew : ((backTo cpos (starEach (e :: es) X.env)).all (fun x => !x.1) && (backToKw cpos (keywordEach [] X.env)).all (fun x => x.1.isSome) && decide ((e :: es).length + ([] : List Keyword).length + (if ([] : List Keyword).isEmpty then 0 else 1) < 30)) = true := by rfl)
    (hline : (apos.endLine == cpos.line) = true := by rfl) (hs : starEach (e :: es) X.env = (false, eval e X.env) :: starEach es X.env := by rfl) (hplain : (backTo cpos (starEach es X.env)).any (·.1) = false := by rfl) :
    PE X (.Call (.Attribute o "index" apos) (e :: es) [] cpos) (tIdxT X.K to t) := by
  refine ⟨fun pins s σ H Q I h => ?_⟩
  refine wpAny_Call_method_late hbase hfew hline rfl (thn (ho.run pins s σ H _ I h) fun v s1 ⟨x, H1, I1, r1, ty, q1⟩ => ?_)
  obtain ⟨a, xs, rfl, ty⟩ := ty
  cases r1
  have h1 : s1.TypeIs (.ref a) "tuple" ∧ ∃ ob, s1.heap.get? a = some ob ∧ ob.dict = none := by
    rcases ty with ⟨ob, hd, e⟩ | ⟨ob, its, n, hk, hc, hd, _⟩
    · obtain ⟨e1, _, its, _, o2, e2, hc, _⟩ := (show ObjOk X.prog X.w H1 s1.heap a (.frz ob (.tup xs)) from I1.hok a _ e)
      rw [e1] at e2
      cases e2
      exact ⟨⟨_, e1, hc⟩, _, e1, hd⟩
    · have e1 := I1.kIn a ob hk
      exact ⟨⟨_, e1, hc⟩, _, e1, hd⟩
  refine ⟨"tuple", _, PySem.F.plainAttrs_tuple, PySem.F.slot_tuple_index, PySem.F.type_tuple_index, h1.1, fun b eb => by cases eb; exact h1.2, ?_⟩
  have hA := ha.run cpos pins s1 σ H1 _ I1 q1
  rw [hs] at hA ⊢
  refine Calls.callWith_builtin (by show (false || (backTo cpos (starEach es X.env)).any (·.1)) = false; rw [hplain]; rfl) (Calls.evalArgs_plain ?_)
  refine thn hA fun us s2 ⟨vs, H2, I2, r2, q2⟩ => ?_
  obtain ⟨p, ys, z, e1, rfl, hq, hz, q⟩ := q2
  cases e1
  obtain ⟨u, rfl, t, rfl⟩ := vals1 r2
  obtain ⟨its, rv, tp, _⟩ := I2.tuple hq
  exact SeqAt.tuple_index_strs tp rv.strs hz ⟨.int (ys.idxOf z : Nat), H2, I2.tok _, ⟨_, rfl⟩, q⟩
end
end Low
end
section
set_option Elab.async false
set_option linter.all false
set_option maxRecDepth 100000
set_option maxHeartbeats 1000000
open PySem PySem.Spec PyProof.Rows L2
namespace Sim

abbrev F1 := Stt → List W → Option W
def FnS (K : PySem.W.Frag) (r : List V → Hp → VK → Prop) (f : F1) : Prop := ∀ (G : Gm) (H : Hp) (ws : List W) (vs : List V) (w : W) (Q : VK), World K G H → RepL K G H ws vs → f G.st ws = some w → PostV K G H w Q → r vs H Q
def eFn (f : F1) (as : AM) : EM := fun ρ st => (as ρ st).bind fun ws st1 => match f st1 ws with
  | some w => .ok w st1
  | none => .no
/-- what gives a new list: its items -/
abbrev FL := Stt → List W → Option (List W)
def FnN (K : PySem.W.Frag) (r : List V → Hp → VK → Prop) (f : FL) : Prop := ∀ (G : Gm) (H : Hp) (ws : List W) (vs : List V) (us : List W) (Q : VK), World K G H → RepL K G H ws vs → f G.st ws = some us →
  (∀ (p : Addr) (zs : List V), H p = none → RepL K G H us zs → Q (.ref p) (upd H p (.lst zs))) → r vs H Q
def eFnV (f : FL) (as : AM) : EM := fun ρ st => (as ρ st).bind fun ws st1 => match f st1 ws with
  | some us => .ok (.lst us) st1
  | none => .no
def eFnO (f : FL) (as : AM) : EM := fun ρ st => (as ρ st).bind fun ws st1 => match f st1 ws with
  | some us => .ok (.loc st1.length) (st1 ++ [some (.lst us)])
  | none => .no
section
variable {X : Cx} {Wx : WX} {K : PySem.W.Frag} {G : Gm} {H : Hp}
theorem sem_fn {ta : TA} {as : AM} {r : List V → Hp → VK → Prop} {f : F1} (ha : SemA K Wx ta as) (hf : FnS K r f) : SemE K Wx (tCB r ta) (eFn f as) := fun G H ρ σ Q w rr h => by
  refine ha G H ρ σ _ w rr (PostR.bind h fun ws st1 ls1 H1 vs he e1 w1 rv h1 => ?_)
  cases e : f st1 ws with
  | none => rw [e] at h1; exact h1.elim
  | some z => rw [e] at h1; exact hf (G.to ls1 st1) H1 ws vs z Q w1 rv e (PostV.of h1)
theorem sem_fnV {ta : TA} {as : AM} {r : List V → Hp → VK → Prop} {f : FL} (ha : SemA K Wx ta as) (hf : FnN K r f) : SemE K Wx (tCB r ta) (eFnV f as) := fun G H ρ σ Q w rr h => by
  refine ha G H ρ σ _ w rr (PostR.bind h fun ws st1 ls1 H1 vs he e1 w1 rv h1 => ?_)
  cases e : f st1 ws with
  | none => rw [e] at h1; exact h1.elim
  | some us => rw [e] at h1; exact hf (G.to ls1 st1) H1 ws vs us Q w1 rv e fun p zs hp rl => PostV.newL w1 (PostV.of h1) rl hp
theorem sem_fnO {ta : TA} {as : AM} {r : List V → Hp → VK → Prop} {f : FL} (ha : SemA K Wx ta as) (hf : FnN K r f) : SemE K Wx (tCB r ta) (eFnO f as) := fun G H ρ σ Q w rr h => by
  refine ha G H ρ σ _ w rr (PostR.bind h fun ws st1 ls1 H1 vs he e1 w1 rv h1 => ?_)
  cases e : f st1 ws with
  | none => rw [e] at h1; exact h1.elim
  | some us => rw [e] at h1; exact hf (G.to ls1 st1) H1 ws vs us Q w1 rv e fun p zs hp rl => post_push w1 hp h1 ⟨zs, upd_same, rl.mono (Ext.push w1 _ hp)⟩
section
variable {x : Str} {p pos : Pos} {e : Expr} {es : List Expr} {t : TA} {as : AM} {id T : String} {r : List V → Hp → VK → Prop} {f : F1} {g : FL}
theorem ce_fnB (hc : CallR X (.builtin id) r) (hf : FnS X.K r f) (hg : Gl X x) (hm : X.mg x = none) (hv : bootBuiltins x = some (.builtin id)) (ha : CA X Wx (e :: es) t as) (hn : x ≠ "__name__" := by decide) (hdb : (x == ("__debug__" : Str)) = false := by decide)
    (he : starEach (e :: es) X.env = (false, eval e X.env) :: starEach es X.env := by rfl) (hpl : (backTo pos (starEach es X.env)).any (·.1) = false := by rfl) : CE X Wx (.Call (.Name x p) (e :: es) [] pos) (tCB r t) (eFn f as) := ⟨pe_callB hc hg hm hv ha.pe hn hdb he hpl, sem_fn ha.sem hf⟩
theorem ce_fnT (hc : CallR X (.type T) r) (hf : FnS X.K r f) (hg : Gl X x) (hm : X.mg x = none) (hv : bootBuiltins x = some (.type T)) (ha : CA X Wx (e :: es) t as) (hn : x ≠ "__name__" := by decide) (hdb : (x == ("__debug__" : Str)) = false := by decide)
    (he : starEach (e :: es) X.env = (false, eval e X.env) :: starEach es X.env := by rfl) (hpl : (backTo pos (starEach es X.env)).any (·.1) = false := by rfl) : CE X Wx (.Call (.Name x p) (e :: es) [] pos) (tCB r t) (eFn f as) := ⟨pe_callTy hc hg hm hv ha.pe hn hdb he hpl, sem_fn ha.sem hf⟩
theorem ce_fnBV (hc : CallR X (.builtin id) r) (hf : FnN X.K r g) (hg : Gl X x) (hm : X.mg x = none) (hv : bootBuiltins x = some (.builtin id)) (ha : CA X Wx (e :: es) t as) (hn : x ≠ "__name__" := by decide) (hdb : (x == ("__debug__" : Str)) = false := by decide)
    (he : starEach (e :: es) X.env = (false, eval e X.env) :: starEach es X.env := by rfl) (hpl : (backTo pos (starEach es X.env)).any (·.1) = false := by rfl) : CE X Wx (.Call (.Name x p) (e :: es) [] pos) (tCB r t) (eFnV g as) := ⟨pe_callB hc hg hm hv ha.pe hn hdb he hpl, sem_fnV ha.sem hf⟩
theorem ce_fnBO (hc : CallR X (.builtin id) r) (hf : FnN X.K r g) (hg : Gl X x) (hm : X.mg x = none) (hv : bootBuiltins x = some (.builtin id)) (ha : CA X Wx (e :: es) t as) (hn : x ≠ "__name__" := by decide) (hdb : (x == ("__debug__" : Str)) = false := by decide)
    (he : starEach (e :: es) X.env = (false, eval e X.env) :: starEach es X.env := by rfl) (hpl : (backTo pos (starEach es X.env)).any (·.1) = false := by rfl) : CE X Wx (.Call (.Name x p) (e :: es) [] pos) (tCB r t) (eFnO g as) := ⟨pe_callB hc hg hm hv ha.pe hn hdb he hpl, sem_fnO ha.sem hf⟩
theorem ce_fnTV (hc : CallR X (.type T) r) (hf : FnN X.K r g) (hg : Gl X x) (hm : X.mg x = none) (hv : bootBuiltins x = some (.type T)) (ha : CA X Wx (e :: es) t as) (hn : x ≠ "__name__" := by decide) (hdb : (x == ("__debug__" : Str)) = false := by decide)
    (he : starEach (e :: es) X.env = (false, eval e X.env) :: starEach es X.env := by rfl) (hpl : (backTo pos (starEach es X.env)).any (·.1) = false := by rfl) : CE X Wx (.Call (.Name x p) (e :: es) [] pos) (tCB r t) (eFnV g as) := ⟨pe_callTy hc hg hm hv ha.pe hn hdb he hpl, sem_fnV ha.sem hf⟩
theorem ce_fnTO (hc : CallR X (.type T) r) (hf : FnN X.K r g) (hg : Gl X x) (hm : X.mg x = none) (hv : bootBuiltins x = some (.type T)) (ha : CA X Wx (e :: es) t as) (hn : x ≠ "__name__" := by decide) (hdb : (x == ("__debug__" : Str)) = false := by decide)
    (he : starEach (e :: es) X.env = (false, eval e X.env) :: starEach es X.env := by rfl) (hpl : (backTo pos (starEach es X.env)).any (·.1) = false := by rfl) : CE X Wx (.Call (.Name x p) (e :: es) [] pos) (tCB r t) (eFnO g as) := ⟨pe_callTy hc hg hm hv ha.pe hn hdb he hpl, sem_fnO ha.sem hf⟩
end
/-- a built-in type's name -/
theorem ce_ty {x : Str} {pos : Pos} {n : String} (hg : Gl X x) (hm : X.mg x = none) (hv : bootBuiltins x = some (.type n)) (hn : x ≠ "__name__" := by decide) (hd : (x == ("__debug__" : Str)) = false := by decide) : CE X Wx (.Name x pos) (tC (.ty n)) (eC (.ty n)) :=
  ⟨pe_bltn (v := .ty n) hg hm hv rfl hn hd, sem_c fun _ _ => .ty n⟩

/-! ints -/
def fI (g : Int → Int → W) : F2 := fun _ x y => match x, y with
  | .int i, .int j => some (g i j)
  | _, _ => none
def fIc (c : Int → Int → Bool) (g : Int → Int → W) : F2 := fun _ x y => match x, y with
  | .int i, .int j => if c i j = true then some (g i j) else none
  | _, _ => none
theorem fI_some {g : Int → Int → W} {st : Stt} {x y w : W} (h : fI g st x y = some w) : ∃ i j, x = .int i ∧ y = .int j ∧ w = g i j := by
  unfold fI at h
  split at h
  · cases h; exact ⟨_, _, rfl, rfl, rfl⟩
  · cases h
theorem fIc_some {c : Int → Int → Bool} {g : Int → Int → W} {st : Stt} {x y w : W} (h : fIc c g st x y = some w) : ∃ i j, x = .int i ∧ y = .int j ∧ c i j = true ∧ w = g i j := by
  unfold fIc at h
  split at h
  · split at h
    · cases h; exact ⟨_, _, rfl, rfl, by assumption, rfl⟩
    · cases h
  · cases h
theorem os_int {g : Int → Int → V} {g' : Int → Int → W} (hr : ∀ (G : Gm) (H : Hp) i j, RepV K G H (g' i j) (g i j)) : OpS K (rI0 g) (fI g') := fun G H x y v u w Q wo rx ry e q => by
  obtain ⟨i, j, rfl, rfl, rfl⟩ := fI_some e
  cases rx.int_inv; cases ry.int_inv
  exact ⟨i, j, rfl, rfl, PostV.val wo q (hr G H i j)⟩
theorem os_intC {C : Int → Int → Prop} {c : Int → Int → Bool} {g : Int → Int → V} {g' : Int → Int → W} (hc : ∀ i j, c i j = true → C i j) (hr : ∀ (G : Gm) (H : Hp) i j, RepV K G H (g' i j) (g i j)) : OpS K (rI C g) (fIc c g') := fun G H x y v u w Q wo rx ry e q => by
  obtain ⟨i, j, rfl, rfl, h, rfl⟩ := fIc_some e
  cases rx.int_inv; cases ry.int_inv
  exact ⟨i, j, rfl, rfl, hc i j h, PostV.val wo q (hr G H i j)⟩
theorem OpS.or {r r' : R2} {f f' : F2} (h : OpS K r f) (h' : OpS K r' f') : OpS K (fun x y H Q => r x y H Q ∨ r' x y H Q) (fun st x y => match f st x y with | some w => some w | none => f' st x y) := fun G H x y v u w Q wo rx ry e q => by
  dsimp only at e
  cases e1 : f G.st x y with
  | some z => rw [e1] at e; cases e; exact .inl (h G H x y v u w Q wo rx ry e1 q)
  | none => rw [e1] at e; exact .inr (h' G H x y v u w Q wo rx ry e q)
def fSub : F2 := fI fun i j => .int (i - j)
def fLt : F2 := fI fun i j => .bl (decide (i < j))
def fLe : F2 := fI fun i j => .bl (decide (i ≤ j))
def fGt : F2 := fI fun i j => .bl (decide (j < i))
def fGe : F2 := fI fun i j => .bl (decide (j ≤ i))
theorem os_sub : OpS K (rI0 fun i j => .int (i - j)) fSub := os_int fun _ _ _ _ => .int _
theorem os_lt : OpS K (rI0 fun i j => .bl (decide (i < j))) fLt := os_int fun _ _ _ _ => .bl _
theorem os_le : OpS K (rI0 fun i j => .bl (decide (i ≤ j))) fLe := os_int fun _ _ _ _ => .bl _
theorem os_gt : OpS K (rI0 fun i j => .bl (decide (j < i))) fGt := os_int fun _ _ _ _ => .bl _
theorem os_ge : OpS K (rI0 fun i j => .bl (decide (j ≤ i))) fGe := os_int fun _ _ _ _ => .bl _
def fMod : F2 := fIc (fun _ j => decide (0 < j)) fun i j => .int (i % j)
theorem os_mod : OpS K (rI (fun _ j => 0 < j) fun i j => .int (i % j)) fMod := os_intC (fun _ _ h => of_decide_eq_true h) fun _ _ _ _ => .int _
def fDiv : F2 := fIc (fun _ j => decide (0 < j ∧ j < 2 ^ 62)) fun i j => .int (i / j)
theorem os_div : OpS K (rI CDivW fun i j => .int (i / j)) fDiv := os_intC (fun i j h => by
  obtain ⟨h1, h2⟩ := of_decide_eq_true h
  exact wide_div (b := 62) h1 (by omega) (by decide) (by decide)) fun _ _ _ _ => .int _
/-- as many bits as a product may have -/
def mulOk (i j : Int) : Bool := decide ((i.natAbs < 2 ^ 1000 ∧ j.natAbs < 2 ^ 1000))
theorem mulOk_c {i j : Int} (h : mulOk i j = true) : CMulW i j := by
  obtain ⟨h1, h2⟩ := of_decide_eq_true h
  exact wide_mul h1 h2 (by decide) (by decide) (by decide)
def fMulI : F2 := fIc mulOk fun i j => .int (i * j)
theorem os_mulI : OpS K (rI CMulW fun i j => .int (i * j)) fMulI := os_intC (fun _ _ h => mulOk_c h) fun _ _ _ _ => .int _
def powOk (i j : Int) : Bool := decide (i.natAbs < 2 ^ 1000 ∧ 0 ≤ j ∧ j ≤ 1000)
theorem bits_1000 {i : Int} (h : i.natAbs < 2 ^ 1000) : Builtin.Int.intBits i ≤ 1000 := by
  have := PySem.Flt.log2_lt_of (by decide : 0 < 1000) h
  unfold Builtin.Int.intBits
  split <;> omega
def fPow : F2 := fIc powOk fun i j => .int (i ^ j.toNat)
theorem os_pow : OpS K (rI Low.CPw fun i j => .int (i ^ j.toNat)) fPow := os_intC (fun i j h => by
  obtain ⟨h1, h2, h3⟩ := of_decide_eq_true h
  refine ⟨h2, ?_⟩
  have hb : (Builtin.Int.intBits i : Int) ≤ 1000 := by exact_mod_cast bits_1000 h1
  have h0 : (0 : Int) ≤ (Builtin.Int.intBits i : Int) := Int.natCast_nonneg _
  have := Int.mul_le_mul hb h3 h2 (by decide)
  omega) fun _ _ _ _ => .int _

/-! new tuples -/
theorem tupN {K : PySem.W.Frag} {G : Gm} {H : Hp} {v : V} {ws : List W} (r : RepV K G H (.tup ws) v) : ∃ a vs, v = .ref a ∧ Low.TupN K H a vs ∧ RepL K G H ws vs := by
  cases r with
  | tup h rl =>
    refine ⟨_, _, rfl, ?_, rl⟩
    rcases h with ⟨⟨o, hd, hq⟩, _⟩ | h
    · exact .inl ⟨o, hd, hq⟩
    · exact .inr h
def rCatF (K : PySem.W.Frag) : R2 := fun x y H Q => ∃ a b xs ys, x = .ref a ∧ y = .ref b ∧ SqT K H a xs ∧ SqT K H b ys ∧ xs.length + ys.length ≤ sizeLine ∧
  (xs = [] → Q (.ref b) H) ∧ (xs ≠ [] → ys = [] → Q (.ref a) H) ∧ (xs ≠ [] → ys ≠ [] → ∀ (p : Addr) (o : Obj), o.dict = none → H p = none → Q (.ref p) (upd H p (.frz o (.tup (xs ++ ys)))))
theorem op_catF : OpR X (binaryOp .Add) (rCatF X.K) := by
  intro pins s σ H x y v u Q I rx ry h
  obtain ⟨a, b, xs, ys, rfl, rfl, ha, hb, hz, q0, q1, q2⟩ := h
  cases rx
  cases ry
  obtain ⟨its, r1, p1, _⟩ := I.tuple ha
  obtain ⟨its2, r2, p2, _⟩ := I.tuple hb
  by_cases hx : xs = []
  · subst hx
    cases r1
    exact cat_tup0 p1 p2 ⟨.ref b, H, I, rfl, q0 rfl⟩
  · refine HT.cat_tup p1 p2 (fun z => hx (r1.nil_iff.mp z)) (fun z => ⟨.ref a, H, I, rfl, q1 hx (r2.nil_iff.mp z)⟩) (fun z => ?_) (by rw [← r1.length, ← r2.length]; exact hz)
    exact tup_laid (s := s) (h' := s.heap) (tk := s.toks) I (r1.append r2) (by rw [List.length_append]; exact hz) (q2 hx fun w => z (r2.nil_iff.mpr w))
def fCatT : F2 := fun _ x y => match x, y with
  | .tup xs, .tup ys => if xs.length + ys.length ≤ 100000 then some (.tup (xs ++ ys)) else none
  | _, _ => none
theorem RepL.nil_iff {ws : List W} {vs : List V} (h : RepL K G H ws vs) : vs = [] ↔ ws = [] := by cases h <;> simp
theorem os_catT : OpS K (rCatF K) fCatT := fun G H x y v u w Q wo rx ry e q => by
  unfold fCatT at e
  split at e
  · split at e
    · rename_i xs ys hl
      cases e
      obtain ⟨a, vs, rfl, sq, rl⟩ := tup_sq rx
      obtain ⟨b, us, rfl, sq2, rl2⟩ := tup_sq ry
      refine ⟨a, b, vs, us, rfl, rfl, sq, sq2, Nat.le_trans (by rw [← rl.length, ← rl2.length]; exact hl) (by decide), fun z => ?_, fun z1 z => ?_, fun z1 z2 p o hd hp => PostV.newT wo q (rl.app rl2) hd hp⟩
      · have : xs = [] := rl.nil_iff.mp z
        subst this
        exact PostV.val wo q ry
      · have : ys = [] := rl2.nil_iff.mp z
        subst this
        rw [List.append_nil] at q
        exact PostV.val wo q rx
    · cases e
  · cases e
def lstX (st : Stt) : W → Option (List W)
  | .lst ws => some ws
  | .loc n => match st[n]? with
    | some (some (.lst ws)) => some ws
    | _ => none
  | _ => none
theorem lst_x {G : Gm} {H : Hp} {w : W} {v : V} {ws : List W} (wo : World K G H) (r : RepV K G H w v) (e : lstX G.st w = some ws) : ∃ a vs, v = .ref a ∧ H a = some (.lst vs) ∧ RepL K G H ws vs := by
  cases r with
  | lst h rl => cases e; exact ⟨_, _, rfl, h.1, rl⟩
  | loc h =>
    unfold lstX at e
    dsimp only at e
    split at e
    · rename_i q
      cases e
      obtain ⟨vs, e1, rl⟩ := wo.at' _ _ _ h q
      exact ⟨_, vs, rfl, e1, rl⟩
    · cases e
  | _ => cases e
def fCatL : F2 := fun st x y => match lstX st x, lstX st y with
  | some xs, some ys => if xs.length + ys.length ≤ 100000 then some (.lst (xs ++ ys)) else none
  | _, _ => none
theorem os_catL : OpS K rCat fCatL := fun G H x y v u w Q wo rx ry e q => by
  unfold fCatL at e
  split at e
  · split at e
    · rename_i xs ys ex ey hl
      cases e
      obtain ⟨a, vs, rfl, sq, rl⟩ := lst_x wo rx ex
      obtain ⟨b, us, rfl, sq2, rl2⟩ := lst_x wo ry ey
      exact ⟨a, b, vs, us, rfl, rfl, sq, sq2, Nat.le_trans (by rw [← rl.length, ← rl2.length]; exact hl) (by decide), fun p hp => PostV.newL wo q (rl.app rl2) hp⟩
    · cases e
  · cases e
def fAddI : F2 := fI fun i j => .int (i + j)
theorem os_addI : OpS K (rI0 fun i j => .int (i + j)) fAddI := os_int fun _ _ _ _ => .int _
def fAddS : F2 := fun _ x y => match x, y with
  | .str a, .str b => if a.length + b.length ≤ 100000 then some (.str (a ++ b)) else none
  | _, _ => none
theorem os_addS : OpS K (fun x y H Q => ∃ i j, x = .str i ∧ y = .str j ∧ i.length + j.length ≤ sizeLine ∧ Q (.str (i ++ j)) H) fAddS := fun G H x y v u w Q wo rx ry e q => by
  unfold fAddS at e
  split at e
  · split at e
    · rename_i a b hl
      cases e
      cases rx.str_inv; cases ry.str_inv
      exact ⟨a, b, rfl, rfl, Nat.le_trans hl (by decide), PostV.val wo q (.str _)⟩
    · cases e
  · cases e
/-- x + y: ints, tuples, lists, texts -/
def fAdd : F2 := fun st x y => match x, y with
  | .int i, .int j => some (.int (i + j))
  | .tup xs, .tup ys => if xs.length + ys.length ≤ 100000 then some (.tup (xs ++ ys)) else none
  | .str a, .str b => if a.length + b.length ≤ 100000 then some (.str (a ++ b)) else none
  | x, y => fCatL st x y
def rAdd4 (K : PySem.W.Frag) : R2 := fun x y H Q => rI0 (fun i j => .int (i + j)) x y H Q ∨ (rCatF K x y H Q ∨ (rCat x y H Q ∨ ∃ i j, x = .str i ∧ y = .str j ∧ i.length + j.length ≤ sizeLine ∧ Q (.str (i ++ j)) H))
theorem op_add4 : OpR X (binaryOp .Add) (rAdd4 X.K) := op_add.or (op_catF.or (op_cat.or op_add_str))
theorem os_add : OpS K (rAdd4 K) fAdd := fun G H x y v u w Q wo rx ry e q => by
  unfold fAdd at e
  split at e
  · exact .inl (os_addI G H _ _ v u w Q wo rx ry e q)
  · exact .inr (.inl (os_catT G H _ _ v u w Q wo rx ry e q))
  · exact .inr (.inr (.inr (os_addS G H _ _ v u w Q wo rx ry e q)))
  · exact .inr (.inr (.inl (os_catL G H _ _ v u w Q wo rx ry e q)))
/-- x * y: ints; a list so often -/
def fMul : F2 := fun st x y => match x, y with
  | .int i, .int j => if mulOk i j = true then some (.int (i * j)) else none
  | x, .int k => match lstX st x with
    | some xs => if -(2 ^ 62) ≤ k ∧ k < 2 ^ 62 ∧ xs.length * k.toNat ≤ 100000 then some (.lst (List.replicate k.toNat xs).flatten) else none
    | none => none
  | _, _ => none
theorem RepL.rep {ws : List W} {vs : List V} (h : RepL K G H ws vs) : ∀ n : Nat, RepL K G H (List.replicate n ws).flatten (List.replicate n vs).flatten
  | 0 => .nil
  | n + 1 => by
    rw [List.replicate_succ, List.replicate_succ, List.flatten_cons, List.flatten_cons]
    exact h.app (RepL.rep h n)
theorem op_mul2 : OpR X (binaryOp .Mult) (fun x y H Q => rI CMulW (fun i j => .int (i * j)) x y H Q ∨ rRep x y H Q) := op_mulW.or op_rep
theorem os_mul : OpS K (fun x y H Q => rI CMulW (fun i j => .int (i * j)) x y H Q ∨ rRep x y H Q) fMul := fun G H x y v u w Q wo rx ry e q => by
  unfold fMul at e
  split at e
  · rename_i i j
    exact .inl (os_mulI G H _ _ v u w Q wo rx ry (by unfold fMulI fIc; exact e) q)
  · rename_i x k _
    split at e
    · rename_i xs ex
      split at e
      · rename_i hl
        cases e
        obtain ⟨a, vs, rfl, sq, rl⟩ := lst_x wo rx ex
        cases ry.int_inv
        refine .inr ⟨a, k, vs, rfl, rfl, sq, by omega, by omega, Nat.le_trans (by rw [← rl.length]; exact hl.2.2) (by decide), fun p hp => PostV.newL wo q (rl.rep _) hp⟩
      · cases e
    · cases e
  · cases e
end
end Sim
end
section
set_option Elab.async false
set_option linter.all false
set_option maxRecDepth 100000
set_option maxHeartbeats 1000000
open PySem PySem.Spec PyProof.Rows L2
namespace Sim

/-! values as data, for == -/
mutual
def toD0 : W → Option PyData
  | .non => some .none
  | .bl b => some (.bool b)
  | .int i => some (.int i)
  | .str x => some (.str x)
  | .tup ws => (toD0s ws).map .tuple
  | .lst ws => (toD0s ws).map .list
  | _ => none
def toD0s : List W → Option (List PyData)
  | [] => some []
  | w :: ws => match toD0 w, toD0s ws with
    | some d, some ds => some (d :: ds)
    | _, _ => none
end
mutual
def toD (st : Stt) : W → Option PyData
  | .non => some .none
  | .bl b => some (.bool b)
  | .int i => some (.int i)
  | .str x => some (.str x)
  | .tup ws => (toDs st ws).map .tuple
  | .lst ws => (toDs st ws).map .list
  | .scr ws => (toDs st ws).map .list
  | .loc n => match st[n]? with
    | some (some (.lst ws)) => (toD0s ws).map .list
    | _ => none
  | _ => none
def toDs (st : Stt) : List W → Option (List PyData)
  | [] => some []
  | w :: ws => match toD st w, toDs st ws with
    | some d, some ds => some (d :: ds)
    | _, _ => none
end
section
variable {K : PySem.W.Frag} {G : Gm} {H : Hp}
mutual
theorem toD0_dp : ∀ (w : W) (v : V) (d : PyData), RepV K G H w v → toD0 w = some d → Dp K H v d
  | .non, _, _, r, e => by cases r; rw [toD0] at e; cases e; exact .non
  | .bl b, _, _, r, e => by cases r; rw [toD0] at e; cases e; exact .bl b
  | .int b, _, _, r, e => by cases r; rw [toD0] at e; cases e; exact .int b
  | .str b, _, _, r, e => by cases r; rw [toD0] at e; cases e; exact .str b
  | .tup ws, _, d, r, e => by
    obtain ⟨a, vs, rfl, sq, rl⟩ := tup_sq r
    rw [toD0] at e
    cases e1 : toD0s ws with
    | none => rw [e1] at e; cases e
    | some ds => rw [e1] at e; cases e; exact .tup sq (toD0s_dp ws vs ds rl e1)
  | .lst ws, _, d, r, e => by
    cases r with
    | lst h rl =>
      rw [toD0] at e
      cases e1 : toD0s ws with
      | none => rw [e1] at e; cases e
      | some ds => rw [e1] at e; cases e; exact .lst (.inl (.inl h.1)) (toD0s_dp ws _ ds rl e1)
  | .scr _, _, _, _, e => by rw [toD0] at e <;> first | cases e | (intros; exact nofun)
  | .loc _, _, _, _, e => by rw [toD0] at e <;> first | cases e | (intros; exact nofun)
  | .dic _, _, _, _, e => by rw [toD0] at e <;> first | cases e | (intros; exact nofun)
  | .prs _, _, _, _, e => by rw [toD0] at e <;> first | cases e | (intros; exact nofun)
  | .ty _, _, _, _, e => by rw [toD0] at e <;> first | cases e | (intros; exact nofun)
  | .obj _, _, _, _, e => by rw [toD0] at e <;> first | cases e | (intros; exact nofun)
theorem toD0s_dp : ∀ (ws : List W) (vs : List V) (ds : List PyData), RepL K G H ws vs → toD0s ws = some ds → DpAll K H vs ds
  | [], _, _, r, e => by cases r; rw [toD0s] at e; cases e; exact .nil
  | w :: ws, _, ds, r, e => by
    cases r with
    | cons a b =>
      rw [toD0s] at e
      cases e1 : toD0 w with
      | none => rw [e1] at e; cases e
      | some d =>
        cases e2 : toD0s ws with
        | none => rw [e1, e2] at e; cases e
        | some ds2 => rw [e1, e2] at e; cases e; exact .cons (toD0_dp w _ d a e1) (toD0s_dp ws _ ds2 b e2)
end
mutual
theorem toD_dp (wo : World K G H) : ∀ (w : W) (v : V) (d : PyData), RepV K G H w v → toD G.st w = some d → Dp K H v d
  | .non, _, _, r, e => by cases r; rw [toD] at e; cases e; exact .non
  | .bl b, _, _, r, e => by cases r; rw [toD] at e; cases e; exact .bl b
  | .int b, _, _, r, e => by cases r; rw [toD] at e; cases e; exact .int b
  | .str b, _, _, r, e => by cases r; rw [toD] at e; cases e; exact .str b
  | .tup ws, _, d, r, e => by
    obtain ⟨a, vs, rfl, sq, rl⟩ := tup_sq r
    rw [toD] at e
    cases e1 : toDs G.st ws with
    | none => rw [e1] at e; cases e
    | some ds => rw [e1] at e; cases e; exact .tup sq (toDs_dp wo ws vs ds rl e1)
  | .lst ws, _, d, r, e => by
    cases r with
    | lst h rl =>
      rw [toD] at e
      cases e1 : toDs G.st ws with
      | none => rw [e1] at e; cases e
      | some ds => rw [e1] at e; cases e; exact .lst (.inl (.inl h.1)) (toDs_dp wo ws _ ds rl e1)
  | .scr ws, _, d, r, e => by
    cases r with
    | scr h rl =>
      rw [toD] at e
      cases e1 : toDs G.st ws with
      | none => rw [e1] at e; cases e
      | some ds => rw [e1] at e; cases e; exact .lst (h.imp_left Fz.rd) (toDs_dp wo ws _ ds rl e1)
  | .loc n, _, d, r, e => by
    cases r with
    | loc h =>
      rw [toD] at e
      split at e
      · rename_i ws q
        obtain ⟨vs, hv, rl⟩ := wo.at' _ _ _ h q
        cases e1 : toD0s ws with
        | none => rw [e1] at e; cases e
        | some ds => rw [e1] at e; cases e; exact .lst (.inl (.inl hv)) (toD0s_dp ws _ ds rl e1)
      · cases e
  | .dic _, _, _, _, e => by rw [toD] at e <;> first | cases e | (intros; exact nofun)
  | .prs _, _, _, _, e => by rw [toD] at e <;> first | cases e | (intros; exact nofun)
  | .ty _, _, _, _, e => by rw [toD] at e <;> first | cases e | (intros; exact nofun)
  | .obj _, _, _, _, e => by rw [toD] at e <;> first | cases e | (intros; exact nofun)
theorem toDs_dp (wo : World K G H) : ∀ (ws : List W) (vs : List V) (ds : List PyData), RepL K G H ws vs → toDs G.st ws = some ds → DpAll K H vs ds
  | [], _, _, r, e => by cases r; rw [toDs] at e; cases e; exact .nil
  | w :: ws, _, ds, r, e => by
    cases r with
    | cons a b =>
      rw [toDs] at e
      cases e1 : toD G.st w with
      | none => rw [e1] at e; cases e
      | some d =>
        cases e2 : toDs G.st ws with
        | none => rw [e1, e2] at e; cases e
        | some ds2 => rw [e1, e2] at e; cases e; exact .cons (toD_dp wo w _ d a e1) (toDs_dp wo ws _ ds2 b e2)
end
end
def fEq : F2 := fun st x y => match toD st x, toD st y with
  | some d, some e => if SeqAt.shaped d = true ∧ SeqAt.shaped e = true then some (.bl (PyData.eqv d e)) else none
  | _, _ => none
def fNe : F2 := fun st x y => match toD st x, toD st y with
  | some d, some e => if SeqAt.shaped d = true ∧ SeqAt.shaped e = true then some (.bl (!PyData.eqv d e)) else none
  | _, _ => none
section
variable {X : Cx} {Wx : WX} {K : PySem.W.Frag} {G : Gm} {H : Hp}
theorem os_eq : OpS K (rEqD K) fEq := fun G H x y v u w Q wo rx ry e q => by
  unfold fEq at e
  split at e
  · split at e
    · rename_i d d2 e1 e2 hs
      cases e
      exact ⟨d, d2, toD_dp wo x v d rx e1, toD_dp wo y u d2 ry e2, hs.1, hs.2, PostV.val wo q (.bl _)⟩
    · cases e
  · cases e
theorem os_ne : OpS K (rNeD K) fNe := fun G H x y v u w Q wo rx ry e q => by
  unfold fNe at e
  split at e
  · split at e
    · rename_i d d2 e1 e2 hs
      cases e
      exact ⟨d, d2, toD_dp wo x v d rx e1, toD_dp wo y u d2 ry e2, hs.1, hs.2, PostV.val wo q (.bl _)⟩
    · cases e
  · cases e
/-! is None -/
def fIsN : F2 := fun _ x y => match y with
  | .non => match x with
    | .non => some (.bl true)
    | _ => some (.bl false)
  | _ => none
def fNotN : F2 := fun _ x y => match y with
  | .non => match x with
    | .non => some (.bl false)
    | _ => some (.bl true)
  | _ => none
theorem isN_dec {w : W} {v : V} (r : RepV K G H w v) : (match w with | .non => true | _ => false) = decide (v = V.non) := by
  cases r <;> first | rfl | (symm; exact decide_eq_false (fun z => nomatch z))
theorem os_isN : OpS K (fun x y H Q => y = .non ∧ Q (.bl (decide (x = .non))) H) fIsN := fun G H x y v u w Q wo rx ry e q => by
  unfold fIsN at e
  split at e
  · cases ry
    refine ⟨rfl, ?_⟩
    rw [← isN_dec rx]
    cases x <;> (cases e; exact PostV.val wo q (.bl _))
  · cases e
theorem os_notN : OpS K (fun x y H Q => y = .non ∧ Q (.bl (!decide (x = .non))) H) fNotN := fun G H x y v u w Q wo rx ry e q => by
  unfold fNotN at e
  split at e
  · cases ry
    refine ⟨rfl, ?_⟩
    rw [← isN_dec rx]
    cases x <;> (cases e; exact PostV.val wo q (.bl _))
  · cases e
/-! x in xs -/
def flatW : W → Option V
  | .non => some .non
  | .bl b => some (.bl b)
  | .int i => some (.int i)
  | .str x => some (.str x)
  | _ => none
def flatWs : List W → Option (List V)
  | [] => some []
  | w :: ws => match flatW w, flatWs ws with
    | some v, some vs => some (v :: vs)
    | _, _ => none
theorem flatW_rep {w : W} {v v' : V} (r : RepV K G H w v) (e : flatW w = some v') : v = v' ∧ flatV v = true := by
  cases r <;> first | (cases e; exact ⟨rfl, rfl⟩) | cases e
theorem flatWs_rep : ∀ {ws : List W} {vs vs' : List V}, RepL K G H ws vs → flatWs ws = some vs' → vs = vs' ∧ vs.all flatV = true
  | _, _, _, .nil, e => by cases e; exact ⟨rfl, rfl⟩
  | _, _, vs', .cons (w := w) (ws := ws) a b, e => by
    rw [flatWs] at e
    cases e1 : flatW w with
    | none => rw [e1] at e; cases e
    | some v =>
      cases e2 : flatWs ws with
      | none => rw [e1, e2] at e; cases e
      | some us =>
        rw [e1, e2] at e
        cases e
        obtain ⟨p1, p2⟩ := flatW_rep a e1
        obtain ⟨q1, q2⟩ := flatWs_rep b e2
        subst p1 q1
        exact ⟨rfl, by simp [p2, q2]⟩
/-- a text of one sign -/
def signOf (a : Str) : Option Nat := match a.cps.toList with
  | [c] => some c
  | _ => none
theorem signOf_some {a : Str} {c : Nat} (h : signOf a = some c) : a = ⟨#[c]⟩ := by
  obtain ⟨cs⟩ := a
  unfold signOf at h
  split at h
  · rename_i d e
    cases h
    have : cs = [c].toArray := by rw [← e]
    rw [this]
  · cases h
def fIn (neg : Bool) : F2 := fun st x y => match x, y with
  | .str a, .str z => (signOf a).map fun c => (.bl (if neg then !decide (c ∈ z.cps.toList) else decide (c ∈ z.cps.toList)))
  | x, y => match seqOf st y with
    | some ws => match flatW x, flatWs ws with
      | some v, some vs => some (.bl (if neg then !inV v vs else inV v vs))
      | _, _ => none
    | none => none
def rInU (K : PySem.W.Frag) (neg : Bool) : R2 := fun x y H Q => rIn K neg x y H Q ∨ ∃ (c : Nat) (z : Str), x = .str ⟨#[c]⟩ ∧ y = .str z ∧ Q (.bl (if neg then !decide (c ∈ z.cps.toList) else decide (c ∈ z.cps.toList))) H
theorem op_inU : OpR X (compareOp .In) (rInU X.K false) := op_in_seq.or op_in_sign
theorem op_notInU : OpR X (compareOp .NotIn) (rInU X.K true) := op_notIn_seq.or op_notIn_sign
theorem os_in (neg : Bool) : OpS K (rInU K neg) (fIn neg) := fun G H x y v u w Q wo rx ry e q => by
  unfold fIn at e
  split at e
  · rename_i a z
    cases ec : signOf a with
    | none => rw [ec] at e; cases e
    | some c =>
      rw [ec] at e
      cases e
      cases rx.str_inv; cases ry.str_inv
      exact .inr ⟨c, z, by rw [signOf_some ec], rfl, PostV.val wo q (.bl _)⟩
  · split at e
    · rename_i ws es
      split at e
      · rename_i v1 vs1 e1 e2
        cases e
        obtain ⟨a, vs, rfl, sq, rl⟩ := seq_sq wo ry es
        obtain ⟨rfl, f1⟩ := flatW_rep rx e1
        obtain ⟨rfl, f2⟩ := flatWs_rep rl e2
        exact .inl ⟨a, vs, rfl, sq, f1, f2, PostV.val wo q (.bl _)⟩
      · cases e
    · cases e
/-! xs[i] -/
def fIx : F2 := fun st x y => match x, y with
  | .str z, .int i => if z.length ≤ 100000 then (atI z.cps.toList i).map fun c => .str ⟨#[c]⟩ else none
  | x, .int i => match seqOf st x with
    | some ws => atI ws i
    | none => none
  | _, _ => none
def rIxU (K : PySem.W.Frag) : R2 := fun x y H Q => rIxL K x y H Q ∨ (rIxT K x y H Q ∨ rIxS x y H Q)
theorem ix_u : IxR X (rIxU X.K) := ix_list.or (ix_tup.or ix_str)
theorem atI_rep {ws : List W} {vs : List V} {i : Int} {w : W} (r : RepL K G H ws vs) (e : atI ws i = some w) : ∃ v, atI vs i = some v ∧ RepV K G H w v := by
  unfold atI at e ⊢
  rw [← r.length]
  cases h : ixN ws.length i with
  | none => rw [h] at e; cases e
  | some j => rw [h] at e; exact r.get e
theorem os_ix : OpS K (rIxU K) fIx := fun G H x y v u w Q wo rx ry e q => by
  unfold fIx at e
  split at e
  · split at e
    · rename_i z i hz
      cases e1 : atI z.cps.toList i with
      | none => rw [e1] at e; cases e
      | some c =>
        rw [e1] at e
        cases e
        cases rx.str_inv; cases ry.int_inv
        exact .inr (.inr ⟨z, i, c, rfl, rfl, Nat.le_trans hz (by decide), e1, PostV.val wo q (.str _)⟩)
    · cases e
  · split at e
    · rename_i ws es
      obtain ⟨a, vs, rfl, sq, rl⟩ := seq_sq wo rx es
      cases ry.int_inv
      obtain ⟨v, ev, rv⟩ := atI_rep rl e
      rcases sq with sq | sq
      · exact .inl ⟨a, vs, _, v, rfl, rfl, sq, ev, PostV.val wo q rv⟩
      · exact .inr (.inl ⟨a, vs, _, v, rfl, rfl, sq, ev, PostV.val wo q rv⟩)
    · cases e
  · cases e
theorem ce_ix {a b : Expr} {ta tb : TE} {ma mb : EM} {pos : Pos} (ha : CE X Wx a ta ma) (hb : CE X Wx b tb mb) (hs : PlainIx b) : CE X Wx (.Subscript a b pos) (tOp (rIxU X.K) ta tb) (eOp fIx ma mb) := ⟨pe_ix ix_u ha.pe hb.pe hs, sem_op ha.sem hb.sem os_ix⟩

/-! slices -/
abbrev OM := Ev → Stt → Rs (Option Int)
def SemO (K : PySem.W.Frag) (Wx : WX) (te : TO) (m : OM) : Prop := ∀ (G : Gm) (H : Hp) (ρ : Ev) (σ : L2.St) (Q : Option Int → Hp → Prop), World K G H → RepE K G H ρ σ → PostR K (fun _ _ a b => a = b) (fun c d H' => Wx c d σ H') G H (m ρ G.st) Q → te σ H Q
structure CO (X : Cx) (Wx : WX) (e : Option Expr) (t : TO) (m : OM) : Prop where
  pe : PO X e t
  sem : SemO X.K Wx t m
def oNone : OM := fun _ st => .ok none st
def oSome (m : EM) : OM := fun ρ st => (m ρ st).bind fun w st1 => match w with
  | .int i => .ok (some i) st1
  | _ => .no
theorem co_none : CO X Wx none tNoPart oNone := ⟨po_none, fun G H ρ σ Q w r h => PostR.ok (a := none) w h rfl⟩
theorem co_some {e : Expr} {te : TE} {m : EM} (h : CE X Wx e te m) : CO X Wx (some e) (tPart te) (oSome m) := by
  refine ⟨po_some h.pe, fun G H ρ σ Q w r hp => ?_⟩
  refine h.sem G H ρ σ _ w r (PostR.bind hp fun x st1 ls1 H1 v he e1 w1 rv h1 => ?_)
  clear he
  split at h1
  · cases rv.int_inv
    exact ⟨_, rfl, PostR.ok (G := G.to ls1 st1) w1 h1 rfl⟩
  · exact h1.elim
def rSlF (K : PySem.W.Frag) : V → Option Int → Option Int → Hp → VK → Prop := fun x lo hi H Q => ∃ a xs, x = .ref a ∧ SqT K H a xs ∧
  (HT.sIx xs.length 0 lo = 0 ∧ HT.sIx xs.length xs.length hi = xs.length → Q (.ref a) H) ∧ (¬ (HT.sIx xs.length 0 lo = 0 ∧ HT.sIx xs.length xs.length hi = xs.length) → ∀ (p : Addr) (o : Obj), o.dict = none → H p = none → Q (.ref p) (upd H p (.frz o (.tup (cutV xs lo hi)))))
theorem sl_tupF : SlR X (rSlF X.K) := by
  intro pins s σ H x v vl vu lo hi sl Q I rx hs pl pu h
  obtain ⟨a, xs, rfl, hx, q1, q2⟩ := h
  by_cases hw : HT.sIx xs.length 0 lo = 0 ∧ HT.sIx xs.length xs.length hi = xs.length
  · exact sl_tupA pins s σ H _ v vl vu lo hi sl Q I rx hs pl pu ⟨a, xs, rfl, hx, q1, fun z => absurd hw z⟩
  · cases rx
    obtain ⟨its, r, ht, hz⟩ := I.tuple hx
    have hlen : its.toArray.size = xs.length := by rw [List.size_toArray]; exact r.length.symm
    refine ⟨"tuple", _, PyProof.Rows.slot_tuple_getitem.lookup, ht.typeIs, ?_⟩
    refine HT.getItem_tuple_cut ht hs pl pu (by rw [hlen]; exact hw) ?_ (by rw [hlen]; exact hz)
    rw [hlen]
    exact tup_laid (s := s) (h' := s.heap) (tk := s.toks) I ((r.drop (HT.sIx xs.length 0 lo)).take (HT.sIx xs.length xs.length hi - HT.sIx xs.length 0 lo)) (Nat.le_trans (cutV_length xs lo hi) hz) (q2 hw)
/-- xs[lo:hi], the items -/
def cutW (xs : List W) (lo hi : Option Int) : List W := (xs.drop (HT.sIx xs.length 0 lo)).take (HT.sIx xs.length xs.length hi - HT.sIx xs.length 0 lo)
theorem RepL.drop {ws : List W} {vs : List V} (h : RepL K G H ws vs) : ∀ n : Nat, RepL K G H (ws.drop n) (vs.drop n) := by
  intro n
  induction n generalizing ws vs with
  | zero => exact h
  | succ n ih => cases h with
    | nil => exact .nil
    | cons a b => exact ih b
theorem RepL.take {ws : List W} {vs : List V} (h : RepL K G H ws vs) : ∀ n : Nat, RepL K G H (ws.take n) (vs.take n) := by
  intro n
  induction n generalizing ws vs with
  | zero => exact .nil
  | succ n ih => cases h with
    | nil => exact .nil
    | cons a b => exact .cons a (ih b)
theorem RepL.cut {ws : List W} {vs : List V} (h : RepL K G H ws vs) (lo hi : Option Int) : RepL K G H (cutW ws lo hi) (cutV vs lo hi) := by
  unfold cutW cutV
  rw [h.length]
  exact (h.drop _).take _
/-- the whole of it -/
theorem cut_all {xs : List W} {lo hi : Option Int} (h : HT.sIx xs.length 0 lo = 0 ∧ HT.sIx xs.length xs.length hi = xs.length) : cutW xs lo hi = xs := by
  unfold cutW
  rw [h.1, h.2]
  simp
def rSlS : V → Option Int → Option Int → Hp → VK → Prop := fun x lo hi H Q => ∃ z, x = .str z ∧ z.length ≤ sizeLine ∧ Q (.str (cutS z lo hi)) H
abbrev FS := Stt → W → Option Int → Option Int → Option W
def fSl : FS := fun st x lo hi => match x with
  | .tup ws => some (.tup (cutW ws lo hi))
  | .str z => if z.length ≤ 100000 then some (.str (cutS z lo hi)) else none
  | x => match lstOf st x with
    | some ws => some (.lst (cutW ws lo hi))
    | none => none
def eSl (m : EM) (lo hi : OM) : EM := fun ρ st => (m ρ st).bind fun x st1 => (lo ρ st1).bind fun l st2 => (hi ρ st2).bind fun u st3 => match fSl st3 x l u with
  | some w => .ok w st3
  | none => .no
/-- a list's slice that is tracked -/
def eSlO (m : EM) (lo hi : OM) : EM := fun ρ st => (m ρ st).bind fun x st1 => (lo ρ st1).bind fun l st2 => (hi ρ st2).bind fun u st3 => match lstOf st3 x with
  | some ws => .ok (.loc st3.length) (st3 ++ [some (.lst (cutW ws l u))])
  | none => .no
def rSlU (K : PySem.W.Frag) : V → Option Int → Option Int → Hp → VK → Prop := fun x lo hi H Q => rSlF K x lo hi H Q ∨ (rSlL K x lo hi H Q ∨ rSlS x lo hi H Q)
theorem sl_u : SlR X (rSlU X.K) := sl_tupF.or (sl_list.or sl_str)
theorem sem_sl {te : TE} {tl th : TO} {m : EM} {ml mh : OM} (h : SemE K Wx te m) (h1 : SemO K Wx tl ml) (h2 : SemO K Wx th mh) : SemE K Wx (tSl (rSlU K) te tl th) (eSl m ml mh) := fun G H ρ σ Q w r hp => by
  refine h G H ρ σ _ w r (PostR.bind hp fun x st1 ls1 H1 v q1 e1 w1 rv hp1 => ?_)
  clear q1
  refine h1 (G.to ls1 st1) H1 ρ σ _ w1 (r.mono e1) (PostR.bind hp1 fun l st2 ls2 H2 l' q2 e2 w2 rl hp2 => ?_)
  clear q2
  refine h2 (G.to ls2 st2) H2 ρ σ _ w2 (r.mono (e1.trans e2)) (PostR.bind hp2 fun u st3 ls3 H3 u' q3 e3 w3 ru hp3 => ?_)
  clear q3
  subst rl ru
  have rv3 := rv.mono (e2.trans e3)
  cases e : fSl st3 x l u with
  | none => rw [e] at hp3; exact hp3.elim
  | some z =>
    rw [e] at hp3
    have q := PostV.of hp3
    unfold fSl at e
    split at e
    · rename_i ws
      cases e
      obtain ⟨a, vs, rfl, sq, rl⟩ := tup_sq rv3
      refine .inl ⟨a, vs, rfl, sq, fun hw => ?_, fun hw p o hd hpn => PostV.newT (G := G.to ls3 st3) w3 q (rl.cut l u) hd hpn⟩
      rw [← rl.length] at hw
      rw [cut_all hw] at q
      exact PostV.val (G := G.to ls3 st3) w3 q rv3
    · split at e
      · rename_i z hz
        cases e
        cases rv3.str_inv
        exact .inr (.inr ⟨z, rfl, Nat.le_trans hz (by decide), PostV.val (G := G.to ls3 st3) w3 q (.str _)⟩)
      · cases e
    · split at e
      · rename_i ws es
        cases e
        obtain ⟨a, vs, rfl, sq, rl⟩ := lst_sq (G := G.to ls3 st3) w3 rv3 es
        exact .inr (.inl ⟨a, vs, rfl, sq, fun p hpn => PostV.newL (G := G.to ls3 st3) w3 q (rl.cut l u) hpn⟩)
      · cases e
theorem sem_slO {te : TE} {tl th : TO} {m : EM} {ml mh : OM} (h : SemE K Wx te m) (h1 : SemO K Wx tl ml) (h2 : SemO K Wx th mh) : SemE K Wx (tSl (rSlU K) te tl th) (eSlO m ml mh) := fun G H ρ σ Q w r hp => by
  refine h G H ρ σ _ w r (PostR.bind hp fun x st1 ls1 H1 v q1 e1 w1 rv hp1 => ?_)
  clear q1
  refine h1 (G.to ls1 st1) H1 ρ σ _ w1 (r.mono e1) (PostR.bind hp1 fun l st2 ls2 H2 l' q2 e2 w2 rl hp2 => ?_)
  clear q2
  refine h2 (G.to ls2 st2) H2 ρ σ _ w2 (r.mono (e1.trans e2)) (PostR.bind hp2 fun u st3 ls3 H3 u' q3 e3 w3 ru hp3 => ?_)
  clear q3
  subst rl ru
  have rv3 := rv.mono (e2.trans e3)
  cases es : lstOf st3 x with
  | none => rw [es] at hp3; exact hp3.elim
  | some ws =>
    rw [es] at hp3
    obtain ⟨a, vs, rfl, sq, rl⟩ := lst_sq (G := G.to ls3 st3) w3 rv3 es
    exact .inr (.inl ⟨a, vs, rfl, sq, fun p hpn => post_push w3 hpn hp3 ⟨_, upd_same, (rl.cut l u).mono (Ext.push w3 _ hpn)⟩⟩)
theorem ce_sl {e : Expr} {lo hi : Option Expr} {te : TE} {tl th : TO} {m : EM} {ml mh : OM} {p2 pos : Pos} (h : CE X Wx e te m) (h1 : CO X Wx lo tl ml) (h2 : CO X Wx hi th mh) : CE X Wx (.Subscript e (.Slice lo hi none p2) pos) (tSl (rSlU X.K) te tl th) (eSl m ml mh) := ⟨pe_slice sl_u h.pe h1.pe h2.pe, sem_sl h.sem h1.sem h2.sem⟩
theorem ce_slO {e : Expr} {lo hi : Option Expr} {te : TE} {tl th : TO} {m : EM} {ml mh : OM} {p2 pos : Pos} (h : CE X Wx e te m) (h1 : CO X Wx lo tl ml) (h2 : CO X Wx hi th mh) : CE X Wx (.Subscript e (.Slice lo hi none p2) pos) (tSl (rSlU X.K) te tl th) (eSlO m ml mh) := ⟨pe_slice sl_u h.pe h1.pe h2.pe, sem_slO h.sem h1.sem h2.sem⟩
end
end Sim
end
section
set_option Elab.async false
set_option linter.all false
set_option maxRecDepth 100000
set_option maxHeartbeats 1000000
open PySem PySem.Spec PyProof.Rows L2
namespace Sim
section
variable {X : Cx} {Wx : WX} {K : PySem.W.Frag} {G : Gm} {H : Hp}

/-! chains of two comparisons -/
def eChain (f g : F2) (a b c : EM) : EM := fun ρ st => (a ρ st).bind fun x st1 => (b ρ st1).bind fun y st2 => match f st2 x y with
  | some (.bl true) => (c ρ st2).bind fun z st3 => match g st3 y z with
    | some w => .ok w st3
    | none => .no
  | some (.bl false) => .ok (.bl false) st2
  | _ => .no
def OpB (K : PySem.W.Frag) (r : R2) (f : F2) : Prop := ∀ (G : Gm) (H : Hp) (x y : W) (v u : V) (w : W) (Q : VK), World K G H → RepV K G H x v → RepV K G H y u → f G.st x y = some w → PostV K G H w Q → r v u H Q
theorem sem_chain {ta tb tc : TE} {a b c : EM} {r r' : R2} {f g : F2} (ha : SemE K Wx ta a) (hb : SemE K Wx tb b) (hc : SemE K Wx tc c) (ho : OpS K r f) (hg : OpS K r' g) : SemE K Wx (tChain r r' ta tb tc) (eChain f g a b c) := fun G H ρ σ Q w rr h => by
  refine ha G H ρ σ _ w rr (PostR.bind h fun x st1 ls1 H1 v q1 e1 w1 rv h1 => ?_)
  refine hb (G.to ls1 st1) H1 ρ σ _ w1 (rr.mono e1) (PostR.bind h1 fun y st2 ls2 H2 u q2 e2 w2 ru h2 => ?_)
  clear q1 q2
  cases e : f st2 x y with
  | none => rw [e] at h2; exact h2.elim
  | some z =>
    refine ho (G.to ls2 st2) H2 x y v u z _ w2 (rv.mono e2) ru e fun H3 zv e3 w3 rz => ?_
    rw [e] at h2
    cases z with
    | bl b =>
      cases rz
      refine ⟨b, rfl, ?_⟩
      cases b with
      | true =>
        refine iteT (hc (G.to ls2 st2) H3 ρ σ _ w3 ((rr.mono (e1.trans e2)).mono e3) (PostR.bind (PostR.mono e3 h2) fun z st4 ls4 H4 zv q4 e4 w4 rz h4 => ?_))
        clear q4
        cases eg : g st4 y z with
        | none => rw [eg] at h4; exact h4.elim
        | some w5 => rw [eg] at h4; exact hg (G.to ls4 st4) H4 y z u zv w5 Q w4 ((ru.mono e3).mono e4) rz eg (PostV.of h4)
      | false => exact iteF (PostR.ok (G := G.to ls2 st2) w3 (PostR.mono e3 h2) (.bl false))
    | _ => exact h2.elim
theorem ce_chain {a b c : Expr} {op op' : CmpOp} {ta tb tc : TE} {ma mb mc : EM} {r r' : R2} {f g : F2} {pos : Pos} (ho : OpR X (compareOp op) r) (hf : OpS X.K r f) (ho' : OpR X (compareOp op') r') (hg : OpS X.K r' g) (ha : CE X Wx a ta ma) (hb : CE X Wx b tb mb) (hc : CE X Wx c tc mc) (hm : lastMarks [op, op'] [b, c] = false := by with_unfolding_all rfl) :
    CE X Wx (.Compare a [op, op'] [b, c] pos) (tChain r r' ta tb tc) (eChain f g ma mb mc) := ⟨pe_chain ho ho' ha.pe hb.pe hc.pe hm, sem_chain ha.sem hb.sem hc.sem hf hg⟩
theorem ct_chain {a b c : Expr} {op op' : CmpOp} {ta tb tc : TE} {ma mb mc : EM} {r r' : R2} {f g : F2} {pos : Pos} (ho : OpR X (compareOp op) r) (hf : OpS X.K r f) (ho' : OpR X (compareOp op') r') (hg : OpS X.K r' g) (ha : CE X Wx a ta ma) (hb : CE X Wx b tb mb) (hc : CE X Wx c tc mc) (hm : lastMarks [op, op'] [b, c] = false := by with_unfolding_all rfl) :
    CT X Wx (.Compare a [op, op'] [b, c] pos) (tTest (tChain r r' ta tb tc)) (tmV (eChain f g ma mb mc)) := ⟨pt_chain ho ho' ha.pe hb.pe hc.pe hm, sem_test (sem_chain ha.sem hb.sem hc.sem hf hg)⟩

/-! functions of values -/
theorem FnS.or {r r' : List V → Hp → VK → Prop} {f f' : F1} (h : FnS K r f) (h' : FnS K r' f') : FnS K (fun xs H Q => r xs H Q ∨ r' xs H Q) (fun st ws => match f st ws with | some w => some w | none => f' st ws) := fun G H ws vs w Q wo rl e q => by
  dsimp only at e
  cases e1 : f G.st ws with
  | some z => rw [e1] at e; cases e; exact .inl (h G H ws vs w Q wo rl e1 q)
  | none => rw [e1] at e; exact .inr (h' G H ws vs w Q wo rl e q)
def lenOf (st : Stt) : W → Option Nat
  | .str z => if z.length ≤ 100000 then some z.length else none
  | .dic kvs => some kvs.length
  | .loc n => match st[n]? with
    | some (some (.lst ws)) => some ws.length
    | some (some (.dic kvs)) => some kvs.length
    | _ => none
  | w => (seqOf st w).map List.length
def fLen : F1 := fun st ws => match ws with
  | [x] => (lenOf st x).map fun n => .int (n : Int)
  | _ => none
def rLen (K : PySem.W.Frag) : List V → Hp → VK → Prop := fun xs H Q => (∃ x n, xs = [x] ∧ LenV K x H n ∧ Q (.int n) H) ∨ ∃ a kvs, xs = [V.ref a] ∧ Rd H a (.dK kvs) ∧ Q (.int kvs.length) H
theorem RepK.length {kws : List (Key × W)} {kvs : List (Key × V)} (h : RepK K G H kws kvs) : kws.length = kvs.length := by
  induction kws generalizing kvs with
  | nil => cases h; rfl
  | cons a b ih => cases h with
    | cons p q => simp [ih q]
theorem call_len_any : CallR X (.builtin "len") (rLen X.K) := by
  refine call_len.or ?_
  intro pins s σ H xs us Q I r h
  obtain ⟨a, kvs, rfl, ha, q⟩ := h
  obtain ⟨u, rfl, ru⟩ := vals1 r
  cases ru
  exact d_len I ha fun t s' I' => ⟨.int kvs.length, H, I', ⟨t, rfl⟩, q⟩
theorem fs_len : FnS K (rLen K) fLen := fun G H ws vs w Q wo rl e q => by
  unfold fLen at e
  split at e
  · rename_i x
    obtain ⟨v, rfl, rx⟩ := rl.one
    have seqs : ∀ us, seqOf G.st x = some us → w = .int (us.length : Int) → rLen K [v] H Q := fun us es ew => by
      obtain ⟨a, vs, rfl, sq, rl⟩ := seq_sq wo rx es
      refine .inl ⟨_, vs.length, rfl, ?_, ?_⟩
      · rcases sq with sq | sq
        · exact .inl ⟨vs, sq, rfl⟩
        · exact .inr ⟨vs, sq, rfl⟩
      · rw [← rl.length]
        subst ew
        exact PostV.val wo q (.int _)
    cases x with
    | str z =>
      rw [lenOf] at e
      split at e
      · rename_i hz
        cases e
        cases rx.str_inv
        exact .inl ⟨_, z.length, rfl, ⟨Nat.le_trans hz (by decide), rfl⟩, PostV.val wo q (.int _)⟩
      · cases e
    | dic kvs =>
      cases e
      cases rx with
      | dic h rk => exact .inr ⟨_, _, rfl, h.1, by rw [← rk.length]; exact PostV.val wo q (.int _)⟩
    | loc n =>
      rw [lenOf] at e
      split at e
      · rename_i us h
        cases e
        exact seqs us (by unfold seqOf; dsimp only; rw [h]) rfl
      · rename_i kvs h
        cases e
        cases rx with
        | loc hl =>
          obtain ⟨ks, e1, rk⟩ := wo.at' _ _ _ hl h
          exact .inr ⟨_, _, rfl, .inl e1, by rw [← rk.length]; exact PostV.val wo q (.int _)⟩
      · cases e
    | tup us => cases e; exact seqs us rfl rfl
    | lst us => cases e; exact seqs us rfl rfl
    | scr us => cases e; exact seqs us rfl rfl
    | _ => cases e
  · cases e
end
end Sim
end
section
set_option Elab.async false
set_option linter.all false
set_option maxRecDepth 100000
set_option maxHeartbeats 1000000
open PySem PySem.Spec PyProof.Rows L2
namespace Sim
/-! sorting texts -/
def leS (a b : Str) : Bool := !decide (b.cps.toList < a.cps.toList)
def sortS (xs : List Str) : List Str := xs.mergeSort leS
theorem leS_iff {a b : Str} : leS a b = true ↔ a.cps.toList ≤ b.cps.toList := by
  unfold leS
  rw [Bool.not_eq_true', decide_eq_false_iff_not]
  exact Iff.rfl
theorem leS_trans (a b c : Str) (h : leS a b = true) (k : leS b c = true) : leS a c = true := leS_iff.mpr (List.le_trans (leS_iff.mp h) (leS_iff.mp k))
theorem leS_total (a b : Str) : (leS a b || leS b a) = true := by
  rw [Bool.or_eq_true, leS_iff, leS_iff]
  exact List.le_total _ _
theorem leS_antisymm {a b : Str} (h : leS a b = true) (k : leS b a = true) : a = b := by
  have := List.le_antisymm (leS_iff.mp h) (leS_iff.mp k)
  obtain ⟨⟨x⟩⟩ := a
  obtain ⟨⟨y⟩⟩ := b
  have e : x = y := this
  rw [e]
theorem rising_le : ∀ {xs : List Str} {x : Str}, risingS x xs = true → ∀ y ∈ xs, leS x y = true
  | y :: r, x, h, z, hz => by
    rw [risingS, Bool.and_eq_true, ltCps_eq] at h
    have h1 : leS x y = true := h.1
    rcases List.mem_cons.mp hz with e | hz
    · rw [e]; exact h1
    · exact leS_trans _ _ _ h1 (rising_le h.2 z hz)
theorem rising_pair : ∀ {xs : List Str} {x : Str}, risingS x xs = true → List.Pairwise (fun a b => leS a b = true) (x :: xs)
  | [], x, _ => .cons (fun _ h => nomatch h) .nil
  | y :: r, x, h => .cons (rising_le h) (by
    rw [risingS, Bool.and_eq_true] at h
    exact rising_pair h.2)
theorem sorted_pair {xs : List Str} (h : sortedS xs = true) : List.Pairwise (fun a b => leS a b = true) xs := by
  cases xs with
  | nil => exact .nil
  | cons x r => exact rising_pair h
theorem sortS_pair (xs : List Str) : List.Pairwise (fun a b => leS a b = true) (sortS xs) := List.pairwise_mergeSort leS_trans leS_total xs
theorem sortS_perm (xs : List Str) : (sortS xs).Perm xs := List.mergeSort_perm xs leS
theorem sorted_eq {xs ys : List Str} (hp : ys.Perm xs) (h : sortedS ys = true) : ys = sortS xs :=
  List.Perm.eq_of_pairwise (le := fun a b => leS a b = true) (fun a b _ _ x y => leS_antisymm x y) (sorted_pair h) (sortS_pair xs) (hp.trans (sortS_perm xs).symm)

def strsOf : List W → Option (List Str)
  | [] => some []
  | .str x :: ws => (strsOf ws).map (x :: ·)
  | _ => none
def intsOf : List W → Option (List Int)
  | [] => some []
  | .int x :: ws => (intsOf ws).map (x :: ·)
  | _ => none
def blsOf : List W → Option (List Bool)
  | [] => some []
  | .bl x :: ws => (blsOf ws).map (x :: ·)
  | _ => none
theorem strsOf_eq : ∀ {ws : List W} {xs : List Str}, strsOf ws = some xs → ws = xs.map .str
  | [], xs, h => by cases h; rfl
  | .str x :: ws, xs, h => by
    rw [strsOf] at h
    cases e : strsOf ws with
    | none => rw [e] at h; cases h
    | some ys => rw [e] at h; cases h; rw [strsOf_eq e]; rfl
  | .non :: _, _, h => by simp [strsOf] at h
  | .bl _ :: _, _, h => by simp [strsOf] at h
  | .int _ :: _, _, h => by simp [strsOf] at h
  | .ty _ :: _, _, h => by simp [strsOf] at h
  | .obj _ :: _, _, h => by simp [strsOf] at h
  | .tup _ :: _, _, h => by simp [strsOf] at h
  | .lst _ :: _, _, h => by simp [strsOf] at h
  | .dic _ :: _, _, h => by simp [strsOf] at h
  | .loc _ :: _, _, h => by simp [strsOf] at h
  | .prs _ :: _, _, h => by simp [strsOf] at h
  | .scr _ :: _, _, h => by simp [strsOf] at h
theorem intsOf_eq : ∀ {ws : List W} {xs : List Int}, intsOf ws = some xs → ws = xs.map .int
  | [], xs, h => by cases h; rfl
  | .int x :: ws, xs, h => by
    rw [intsOf] at h
    cases e : intsOf ws with
    | none => rw [e] at h; cases h
    | some ys => rw [e] at h; cases h; rw [intsOf_eq e]; rfl
  | .non :: _, _, h => by simp [intsOf] at h
  | .bl _ :: _, _, h => by simp [intsOf] at h
  | .str _ :: _, _, h => by simp [intsOf] at h
  | .ty _ :: _, _, h => by simp [intsOf] at h
  | .obj _ :: _, _, h => by simp [intsOf] at h
  | .tup _ :: _, _, h => by simp [intsOf] at h
  | .lst _ :: _, _, h => by simp [intsOf] at h
  | .dic _ :: _, _, h => by simp [intsOf] at h
  | .loc _ :: _, _, h => by simp [intsOf] at h
  | .prs _ :: _, _, h => by simp [intsOf] at h
  | .scr _ :: _, _, h => by simp [intsOf] at h
theorem blsOf_eq : ∀ {ws : List W} {xs : List Bool}, blsOf ws = some xs → ws = xs.map .bl
  | [], xs, h => by cases h; rfl
  | .bl x :: ws, xs, h => by
    rw [blsOf] at h
    cases e : blsOf ws with
    | none => rw [e] at h; cases h
    | some ys => rw [e] at h; cases h; rw [blsOf_eq e]; rfl
  | .non :: _, _, h => by simp [blsOf] at h
  | .int _ :: _, _, h => by simp [blsOf] at h
  | .str _ :: _, _, h => by simp [blsOf] at h
  | .ty _ :: _, _, h => by simp [blsOf] at h
  | .obj _ :: _, _, h => by simp [blsOf] at h
  | .tup _ :: _, _, h => by simp [blsOf] at h
  | .lst _ :: _, _, h => by simp [blsOf] at h
  | .dic _ :: _, _, h => by simp [blsOf] at h
  | .loc _ :: _, _, h => by simp [blsOf] at h
  | .prs _ :: _, _, h => by simp [blsOf] at h
  | .scr _ :: _, _, h => by simp [blsOf] at h
section
variable {X : Cx} {Wx : WX} {K : PySem.W.Frag} {G : Gm} {H : Hp}
theorem RepL.strs : ∀ {xs : List Str} {vs : List V}, RepL K G H (xs.map .str) vs → vs = xs.map .str
  | [], _, h => by cases h; rfl
  | x :: xs, _, h => by
    cases h with
    | cons a b => rw [a.str_inv, RepL.strs b]; rfl
theorem RepL.ints : ∀ {xs : List Int} {vs : List V}, RepL K G H (xs.map .int) vs → vs = xs.map .int
  | [], _, h => by cases h; rfl
  | x :: xs, _, h => by
    cases h with
    | cons a b => rw [a.int_inv, RepL.ints b]; rfl
theorem RepL.bls : ∀ {xs : List Bool} {vs : List V}, RepL K G H (xs.map .bl) vs → vs = xs.map .bl
  | [], _, h => by cases h; rfl
  | x :: xs, _, h => by
    cases h with
    | cons a b => rw [a.bl_inv, RepL.bls b]; rfl
theorem rep_strs : ∀ {xs : List Str}, RepL K G H (xs.map .str) (xs.map .str)
  | [] => .nil
  | x :: xs => .cons (.str x) rep_strs
theorem rep_ints : ∀ {xs : List Int}, RepL K G H (xs.map .int) (xs.map .int)
  | [] => .nil
  | x :: xs => .cons (.int x) rep_ints

/-! isinstance -/
def tyW (st : Stt) : W → Option String
  | .non => some "NoneType"
  | .bl _ => some "bool"
  | .int _ => some "int"
  | .str _ => some "str"
  | .tup _ => some "tuple"
  | .lst _ => some "list"
  | .dic _ => some "dict"
  | .loc n => match st[n]? with
    | some (some (.lst _)) => some "list"
    | some (some (.dic _)) => some "dict"
    | _ => none
  | _ => none
theorem tyW_x {w : W} {v : V} {t : String} (wo : World K G H) (r : RepV K G H w v) (e : tyW G.st w = some t) : TyX K H v (.type t) := by
  cases r with
  | non => cases e; exact .base .non
  | bl b => cases e; exact .base (.bl b)
  | int b => cases e; exact .base (.int b)
  | str b => cases e; exact .base (.str b)
  | tup h _ =>
    cases e
    rcases h with ⟨⟨o, _, q⟩, _⟩ | ⟨o, its, n, h1, h2, _⟩
    · exact .fTuple q
    · exact .kTuple h1 h2
  | lst h _ => cases e; exact .base (.lst h.1)
  | dic h _ =>
    cases e
    rcases h.1 with q | ⟨o, q⟩
    · exact .base (.dK q)
    · exact .fDict q
  | loc h =>
    unfold tyW at e
    dsimp only at e
    split at e
    · rename_i q
      cases e
      obtain ⟨vs, e1, _⟩ := wo.at' _ _ _ h q
      exact .base (.lst e1)
    · rename_i q
      cases e
      obtain ⟨vs, e1, _⟩ := wo.at' _ _ _ h q
      exact .base (.dK e1)
    · cases e
  | _ => cases e
def fIsi : F1 := fun st ws => match ws with
  | [x, .ty T] => match tyW st x with
    | some t => (kitB t T).map .bl
    | none => none
  | _ => none
theorem fs_isi : FnS K (rIsi K) fIsi := fun G H ws vs w Q wo rl e q => by
  unfold fIsi at e
  split at e
  · rename_i x T
    split at e
    · rename_i t et
      cases ek : kitB t T with
      | none => rw [ek] at e; cases e
      | some b =>
        rw [ek] at e
        cases e
        obtain ⟨v, u, rfl, rx, ru⟩ := rl.two
        cases ru
        exact ⟨v, .ty T, _, _, b, rfl, .ty T, tyW_x wo rx et, kit_ty ek, PostV.val wo q (.bl b)⟩
    · cases e
  · cases e
def kitAnyB (t : String) : List String → Option Bool
  | [] => some false
  | n :: r => match kitB t n with
    | some true => some true
    | some false => kitAnyB t r
    | none => none
theorem kitAny_of {t : String} {b : Bool} : ∀ {ns : List String}, kitAnyB t ns = some b → PySem.W.kitAny K (.type t) (ns.map .type) = some b
  | [], h => by cases h; rfl
  | n :: r, h => by
    rw [kitAnyB] at h
    split at h
    · rename_i e
      cases h
      exact kitAny_cons (kit_ty e) (fun z => nomatch z) fun _ => rfl
    · rename_i e
      exact kitAny_cons (kit_ty e) (fun _ => kitAny_of h) fun z => nomatch z
    · cases h
/-- a written tuple of built-in types -/
def tTys : List String → TA
  | [] => tNil
  | n :: r => tCons (tC (.ty n)) (tTys r)
theorem pa_ty {x : Str} {pos : Pos} {n : String} {es : List Expr} {ns : List String} (hg : Gl X x) (hm : X.mg x = none) (hv : bootBuiltins x = some (.type n)) (hr : PA X es (tTys ns)) (hn : x ≠ "__name__" := by decide) (hd : (x == ("__debug__" : Str)) = false := by decide)
    (hs : starEach (.Name x pos :: es) X.env = (false, eval (.Name x pos) X.env) :: starEach es X.env := by rfl) : PA X (.Name x pos :: es) (tTys (n :: ns)) := pa_cons (pe_bltn (v := .ty n) hg hm hv rfl hn hd) hr hs
theorem tTys_run : ∀ {ns : List String} {σ : L2.St} {H : Hp} {Q : List V → Hp → Prop}, Q (ns.map .ty) H → tTys ns σ H Q
  | [], _, _, _, h => h
  | n :: r, _, _, Q, h => tTys_run (ns := r) (Q := fun xs H2 => Q (.ty n :: xs) H2) h
def eIsiT (m : EM) (ns : List String) : EM := fun ρ st => (m ρ st).bind fun x st1 => match tyW st1 x with
  | some t => match kitAnyB t ns with
    | some b => .ok (.bl b) st1
    | none => .no
  | none => .no
theorem tys_cls : ∀ {ns : List String}, Paired ClsV (ns.map .ty) (ns.map .type)
  | [] => .nil
  | n :: r => .cons (.ty n) tys_cls
theorem ce_isiT {x : Str} {p pos tpos : Pos} {kk : Nat} {e : Expr} {es : List Expr} {te : TE} {m : EM} {ns : List String} (h : CE X Wx e te m) (ht : PA X es (tTys ns)) (hl : ns.length ≤ 100) (hg : Gl X x) (hm : X.mg x = none) (hv : bootBuiltins x = some (.builtin "isinstance")) (hn : x ≠ "__name__" := by decide) (hdb : (x == ("__debug__" : Str)) = false := by decide)
    (he : starEach (e :: [.Tuple es kk tpos]) X.env = (false, eval e X.env) :: starEach [.Tuple es kk tpos] X.env := by rfl) (he2 : starEach [.Tuple es kk tpos] X.env = (false, eval (.Tuple es kk tpos) X.env) :: starEach [] X.env := by rfl) (hpl : (backTo pos (starEach [.Tuple es kk tpos] X.env)).any (·.1) = false := by rfl) :
    CE X Wx (.Call (.Name x p) [e, .Tuple es kk tpos] [] pos) (tCB (rIsiT X.K) (tCons te (tCons (tTup (tTys ns)) tNil))) (eIsiT m ns) := by
  refine ⟨pe_callB call_isiT hg hm hv (pa_cons h.pe (pa_cons (pe_tup ht) pa_nil he2) he) hn hdb he hpl, fun G H ρ σ Q w r hp => ?_⟩
  refine h.sem G H ρ σ _ w r (PostR.bind hp fun y st1 ls1 H1 v q1 e1 w1 rv h1 => ?_)
  clear q1
  refine tTys_run ⟨by rw [List.length_map]; exact Nat.le_trans hl (by decide), fun p hp => ?_⟩
  split at h1
  · rename_i t et
    split at h1
    · rename_i b eb
      have x1 := Ext.new (o := .tup (ns.map .ty)) w1 hp
      exact ⟨v, p, _, _, _, b, rfl, upd_same, tys_cls, tyW_x (G := G.to ls1 st1) (w1.new hp) (rv.mono x1) et, kitAny_of eb, PostR.ok (G := G.to ls1 st1) (w1.new hp) (PostR.mono x1 h1) (.bl b)⟩
    · exact h1.elim
  · exact h1.elim

/-! numbers and rows of them -/
def fAbs : F1 := fun _ ws => match ws with
  | [.int i] => some (.int (if i < 0 then -i else i))
  | _ => none
theorem fs_abs : FnS K (fun xs H Q => ∃ i, xs = [.int i] ∧ Q (.int (if i < 0 then -i else i)) H) fAbs := fun G H ws vs w Q wo rl e q => by
  unfold fAbs at e
  split at e
  · rename_i i
    cases e
    obtain ⟨v, rfl, rx⟩ := rl.one
    cases rx.int_inv
    exact ⟨i, rfl, PostV.val wo q (.int _)⟩
  · cases e
def fInt : F1 := fun _ ws => match ws with
  | [.int i] => some (.int i)
  | [.bl k] => some (.int (if k then 1 else 0))
  | _ => none
theorem fs_int : FnS K (fun xs H Q => (∃ i, xs = [.int i] ∧ Q (.int i) H) ∨ ∃ k, xs = [.bl k] ∧ Q (.int (if k then 1 else 0)) H) fInt := fun G H ws vs w Q wo rl e q => by
  unfold fInt at e
  split at e
  · cases e
    obtain ⟨v, rfl, rx⟩ := rl.one
    cases rx.int_inv
    exact .inl ⟨_, rfl, PostV.val wo q (.int _)⟩
  · cases e
    obtain ⟨v, rfl, rx⟩ := rl.one
    cases rx.bl_inv
    exact .inr ⟨_, rfl, PostV.val wo q (.int _)⟩
  · cases e
def maxI : List Int → Int
  | [] => 0
  | [a] => a
  | a :: b :: r => max a (maxI (b :: r))
def minI : List Int → Int
  | [] => 0
  | [a] => a
  | a :: b :: r => min a (minI (b :: r))
theorem maxI_mem : ∀ {l : List Int}, l ≠ [] → maxI l ∈ l ∧ ∀ y ∈ l, y ≤ maxI l
  | [a], _ => by simp [maxI]
  | a :: b :: r, _ => by
    obtain ⟨h1, h2⟩ := maxI_mem (l := b :: r) (by simp)
    rw [maxI]
    refine ⟨?_, fun y hy => ?_⟩
    · by_cases h : a ≤ maxI (b :: r)
      · rw [Int.max_eq_right h]; exact List.mem_cons_of_mem _ h1
      · rw [Int.max_eq_left (by omega)]; exact List.mem_cons_self
    · rcases List.mem_cons.mp hy with e | hy
      · rw [e]; exact Int.le_max_left _ _
      · exact Int.le_trans (h2 y hy) (Int.le_max_right _ _)
theorem minI_mem : ∀ {l : List Int}, l ≠ [] → minI l ∈ l ∧ ∀ y ∈ l, minI l ≤ y
  | [a], _ => by simp [minI]
  | a :: b :: r, _ => by
    obtain ⟨h1, h2⟩ := minI_mem (l := b :: r) (by simp)
    rw [minI]
    refine ⟨?_, fun y hy => ?_⟩
    · by_cases h : minI (b :: r) ≤ a
      · rw [Int.min_eq_right h]; exact List.mem_cons_of_mem _ h1
      · rw [Int.min_eq_left (by omega)]; exact List.mem_cons_self
    · rcases List.mem_cons.mp hy with e | hy
      · rw [e]; exact Int.min_le_left _ _
      · exact Int.le_trans (Int.min_le_right _ _) (h2 y hy)
def fMax : F1 := fun st ws => match ws with
  | [.int i, .int j] => some (.int (if j > i then j else i))
  | [x] => match (lstOf st x).bind intsOf with
    | some ns => if ns ≠ [] then some (.int (maxI ns)) else none
    | none => none
  | _ => none
def fMin : F1 := fun st ws => match ws with
  | [.int i, .int j] => some (.int (if j < i then j else i))
  | [x] => match (lstOf st x).bind intsOf with
    | some ns => if ns ≠ [] then some (.int (minI ns)) else none
    | none => none
  | _ => none
def rMaxU (K : PySem.W.Frag) : List V → Hp → VK → Prop := fun xs H Q => (∃ i j, xs = [.int i, .int j] ∧ Q (.int (if j > i then j else i)) H) ∨ rMax K xs H Q
def rMinU (K : PySem.W.Frag) : List V → Hp → VK → Prop := fun xs H Q => (∃ i j, xs = [.int i, .int j] ∧ Q (.int (if j < i then j else i)) H) ∨ rMin K xs H Q
theorem cr_maxU (hc : X.calm = true) : CallR X (.builtin "max") (rMaxU X.K) := (call_max2 hc).or (cr_max hc)
theorem cr_minU (hc : X.calm = true) : CallR X (.builtin "min") (rMinU X.K) := (call_min2 hc).or (cr_min hc)
theorem lst_ints {x : W} {v : V} {ns : List Int} (wo : World K G H) (rx : RepV K G H x v) (e : (lstOf G.st x).bind intsOf = some ns) : ∃ a, v = .ref a ∧ SqL K H a (ns.map .int) := by
  cases e1 : lstOf G.st x with
  | none => rw [e1] at e; cases e
  | some us =>
    rw [e1] at e
    obtain ⟨a, vs, rfl, sq, rl⟩ := lst_sq wo rx e1
    rw [intsOf_eq e] at rl
    rw [rl.ints] at sq
    exact ⟨a, rfl, sq⟩
theorem lst_bls {x : W} {v : V} {ns : List Bool} (wo : World K G H) (rx : RepV K G H x v) (e : (lstOf G.st x).bind blsOf = some ns) : ∃ a, v = .ref a ∧ SqL K H a (ns.map .bl) := by
  cases e1 : lstOf G.st x with
  | none => rw [e1] at e; cases e
  | some us =>
    rw [e1] at e
    obtain ⟨a, vs, rfl, sq, rl⟩ := lst_sq wo rx e1
    rw [blsOf_eq e] at rl
    rw [rl.bls] at sq
    exact ⟨a, rfl, sq⟩
theorem fs_max : FnS K (rMaxU K) fMax := fun G H ws vs w Q wo rl e q => by
  unfold fMax at e
  split at e
  · cases e
    obtain ⟨v, u, rfl, rx, ry⟩ := rl.two
    cases rx.int_inv; cases ry.int_inv
    exact .inl ⟨_, _, rfl, PostV.val wo q (.int _)⟩
  · split at e
    · rename_i ns en
      split at e
      · rename_i hne
        cases e
        obtain ⟨v, rfl, rx⟩ := rl.one
        obtain ⟨a, rfl, sq⟩ := lst_ints wo rx en
        refine .inr ⟨a, ns, rfl, sq, List.length_pos_iff.mpr hne, fun m hm hle => ?_⟩
        obtain ⟨h1, h2⟩ := maxI_mem hne
        have : m = maxI ns := Int.le_antisymm (h2 m hm) (hle _ h1)
        subst this
        exact PostV.val wo q (.int _)
      · cases e
    · cases e
  · cases e
theorem fs_min : FnS K (rMinU K) fMin := fun G H ws vs w Q wo rl e q => by
  unfold fMin at e
  split at e
  · cases e
    obtain ⟨v, u, rfl, rx, ry⟩ := rl.two
    cases rx.int_inv; cases ry.int_inv
    exact .inl ⟨_, _, rfl, PostV.val wo q (.int _)⟩
  · split at e
    · rename_i ns en
      split at e
      · rename_i hne
        cases e
        obtain ⟨v, rfl, rx⟩ := rl.one
        obtain ⟨a, rfl, sq⟩ := lst_ints wo rx en
        refine .inr ⟨a, ns, rfl, sq, List.length_pos_iff.mpr hne, fun m hm hle => ?_⟩
        obtain ⟨h1, h2⟩ := minI_mem hne
        have : m = minI ns := Int.le_antisymm (hle _ h1) (h2 m hm)
        subst this
        exact PostV.val wo q (.int _)
      · cases e
    · cases e
  · cases e
def fSum : F1 := fun st ws => match ws with
  | [x] => match (lstOf st x).bind intsOf with
    | some ns => some (.int ns.sum)
    | none => none
  | _ => none
theorem fs_sum : FnS K (rSum K) fSum := fun G H ws vs w Q wo rl e q => by
  unfold fSum at e
  split at e
  · split at e
    · rename_i ns en
      cases e
      obtain ⟨v, rfl, rx⟩ := rl.one
      obtain ⟨a, rfl, sq⟩ := lst_ints wo rx en
      exact ⟨a, ns, rfl, sq, PostV.val wo q (.int _)⟩
    · cases e
  · cases e
def fAny : F1 := fun st ws => match ws with
  | [x] => match (lstOf st x).bind blsOf with
    | some bs => some (.bl (bs.any id))
    | none => none
  | _ => none
def fAll : F1 := fun st ws => match ws with
  | [x] => match (lstOf st x).bind blsOf with
    | some bs => some (.bl (bs.all id))
    | none => none
  | _ => none
theorem fs_any : FnS K (rAny K) fAny := fun G H ws vs w Q wo rl e q => by
  unfold fAny at e
  split at e
  · split at e
    · rename_i ns en
      cases e
      obtain ⟨v, rfl, rx⟩ := rl.one
      obtain ⟨a, rfl, sq⟩ := lst_bls wo rx en
      exact ⟨a, ns, rfl, sq, PostV.val wo q (.bl _)⟩
    · cases e
  · cases e
theorem fs_all : FnS K (rAll K) fAll := fun G H ws vs w Q wo rl e q => by
  unfold fAll at e
  split at e
  · split at e
    · rename_i ns en
      cases e
      obtain ⟨v, rfl, rx⟩ := rl.one
      obtain ⟨a, rfl, sq⟩ := lst_bls wo rx en
      exact ⟨a, ns, rfl, sq, PostV.val wo q (.bl _)⟩
    · cases e
  · cases e

/-! list(x), tuple(x), sorted(x) -/
def fList : FL := fun st ws => match ws with
  | [.str z] => if z.length ≤ 100000 then some (z.cps.toList.map fun c => .str ⟨#[c]⟩) else none
  | [x] => seqOf st x
  | _ => none
def rListU (K : PySem.W.Frag) : List V → Hp → VK → Prop := fun xs H Q => (∃ p ys, xs = [.ref p] ∧ (SqL K H p ys ∨ SqT K H p ys) ∧ ∀ l, H l = none → Q (.ref l) (upd H l (.lst ys))) ∨ Low.rListStr xs H Q
theorem cr_listU (hc : X.calm = true) : CallR X (.type "list") (rListU X.K) := call_list_of.or (Low.call_list_txt hc)
theorem rep_signs : ∀ {cs : List Nat}, RepL K G H (cs.map fun c => .str ⟨#[c]⟩) (cs.map fun c => .str ⟨#[c]⟩)
  | [] => .nil
  | _ :: _ => .cons (.str _) rep_signs
theorem fn_list : FnN K (rListU K) fList := fun G H ws vs us Q wo rl e q => by
  unfold fList at e
  split at e
  · split at e
    · rename_i z hz
      cases e
      obtain ⟨v, rfl, rx⟩ := rl.one
      cases rx.str_inv
      exact .inr ⟨z, rfl, Nat.le_trans hz (by decide), fun l hl => q l _ hl rep_signs⟩
    · cases e
  · obtain ⟨v, rfl, rx⟩ := rl.one
    obtain ⟨a, vs, rfl, sq, rl⟩ := seq_sq wo rx e
    exact .inl ⟨a, vs, rfl, sq, fun l hl => q l vs hl rl⟩
  · cases e
def rTupF (K : PySem.W.Frag) : List V → Hp → VK → Prop := fun xs H Q => ∃ p ys, xs = [.ref p] ∧ ((SqL K H p ys ∧ ∀ (l : Addr) (o : Obj), o.dict = none → H l = none → Q (.ref l) (upd H l (.frz o (.tup ys)))) ∨ (SqT K H p ys ∧ Q (.ref p) H))
theorem cr_tupF : CallR X (.type "tuple") (rTupF X.K) := by
  intro pins s σ H xs us Q I r h
  obtain ⟨p, ys, rfl, h⟩ := h
  obtain ⟨u, rfl, rx⟩ := vals1 r
  cases rx
  rcases h with ⟨hq, q⟩ | ⟨hq, q⟩
  · obtain ⟨its, r', pl, hz⟩ := I.list hq
    have hlen := r'.length
    refine call_tuple_list pl.isList (fun h' kp => ?_) (by simp only [List.size_toArray]; omega)
    have I1 : L2.Inv X pins σ H { s with heap := h' } := I.kept (t' := s.toks) kp
    exact tup_laid (s := s) (h' := h') (tk := s.toks) I1 r' hz q
  · obtain ⟨its, r', pl, hz⟩ := I.tuple hq
    exact call_tuple_same pl ⟨.ref p, H, I, rfl, q⟩
def fTuple : F1 := fun st ws => match ws with
  | [.tup us] => some (.tup us)
  | [x] => (lstOf st x).map .tup
  | _ => none
theorem fs_tuple : FnS K (rTupF K) fTuple := fun G H ws vs w Q wo rl e q => by
  unfold fTuple at e
  split at e
  · cases e
    obtain ⟨v, rfl, rx⟩ := rl.one
    obtain ⟨a, vs, rfl, sq, _⟩ := tup_sq rx
    exact ⟨a, vs, rfl, .inr ⟨sq, PostV.val wo q rx⟩⟩
  · rename_i x hn
    cases ex : lstOf G.st x with
    | none => rw [ex] at e; cases e
    | some us =>
      rw [ex] at e
      cases e
      obtain ⟨v, rfl, rx⟩ := rl.one
      obtain ⟨a, vs, rfl, sq, rl⟩ := lst_sq wo rx ex
      exact ⟨a, vs, rfl, .inl ⟨sq, fun l o hd hl => PostV.newT wo q rl hd hl⟩⟩
  · cases e
def fSorted : FL := fun st ws => match ws with
  | [x] => match (seqOf st x).bind strsOf with
    | some xs => if xs.length < 64 then some ((sortS xs).map .str) else none
    | none => none
  | _ => none
def rSortedU (K : PySem.W.Frag) : List V → Hp → VK → Prop := fun xs H Q => rSortedS K xs H Q ∨ Low.rSortedT K xs H Q
theorem cr_sortedU : CallR X (.builtin "sorted") (rSortedU X.K) := cr_sortedS.or Low.cr_sortedT
theorem seq_strs {x : W} {v : V} {xs : List Str} (wo : World K G H) (rx : RepV K G H x v) (e : (seqOf G.st x).bind strsOf = some xs) : ∃ a, v = .ref a ∧ (SqL K H a (xs.map .str) ∨ SqT K H a (xs.map .str)) := by
  cases e1 : seqOf G.st x with
  | none => rw [e1] at e; cases e
  | some us =>
    rw [e1] at e
    obtain ⟨a, vs, rfl, sq, rl⟩ := seq_sq wo rx e1
    rw [strsOf_eq e] at rl
    rw [rl.strs] at sq
    exact ⟨a, rfl, sq⟩
theorem fn_sorted : FnN K (rSortedU K) fSorted := fun G H ws vs us Q wo rl e q => by
  unfold fSorted at e
  split at e
  · split at e
    · rename_i xs en
      split at e
      · rename_i h64
        cases e
        obtain ⟨v, rfl, rx⟩ := rl.one
        obtain ⟨a, rfl, sq⟩ := seq_strs wo rx en
        have fin : ∀ (ys : List Str) (p : Addr), ys.Perm xs → sortedS ys = true → H p = none → Q (.ref p) (upd H p (.lst (ys.map .str))) := fun ys p hp hs hn => by
          rw [sorted_eq hp hs]
          exact q p _ hn rep_strs
        rcases sq with sq | sq
        · exact .inl ⟨a, xs, rfl, sq, h64, fin⟩
        · exact .inr ⟨a, xs, rfl, sq, h64, fin⟩
      · cases e
    · cases e
  · cases e
/-- len(set(x)) -/
def eLenSet (m : EM) : EM := fun ρ st => (m ρ st).bind fun x st1 => match (seqOf st1 x).bind strsOf with
  | some xs => if xs.length ≤ 1000 then .ok (.int ((Low.nubS xs).length : Int)) st1 else .no
  | none => .no
theorem ce_lenSet {a : Expr} {ta : TE} {m : EM} {p p2 q pos : Pos} (hc : X.calm = true) (hg : Gl X "len") (hm : X.mg "len" = none) (hg2 : Gl X "set") (hm2 : X.mg "set" = none) (ha : CE X Wx a ta m) (na : starEach [a] X.env = (false, eval a X.env) :: starEach [] X.env := by rfl) :
    CE X Wx (.Call (.Name "len" p) [.Call (.Name "set" p2) [a] [] q] [] pos) (Low.tLenSet X.K ta) (eLenSet m) := by
  refine ⟨Low.pe_lenSet hc hg hm hg2 hm2 ha.pe na, fun G H ρ σ Q w r hp => ?_⟩
  refine ha.sem G H ρ σ _ w r (PostR.bind hp fun y st1 ls1 H1 v q1 e1 w1 rv h1 => ?_)
  clear q1
  split at h1
  · rename_i xs ex
    split at h1
    · rename_i hl
      obtain ⟨a, rfl, sq⟩ := seq_strs (G := G.to ls1 st1) w1 rv ex
      exact ⟨a, xs, rfl, sq, hl, PostR.ok (G := G.to ls1 st1) w1 h1 (.int _)⟩
    · exact h1.elim
  · exact h1.elim
end
end Sim
end
section
set_option Elab.async false
set_option linter.all false
set_option maxRecDepth 100000
set_option maxHeartbeats 1000000
open PySem PySem.Spec PyProof.Rows L2
namespace Sim
section
variable {X : Cx} {Wx : WX} {K : PySem.W.Frag} {G : Gm} {H : Hp}

/-! methods of lists -/
abbrev MF := W → List W → Stt → Rs W
def MtS (K : PySem.W.Frag) (r : V → List V → Hp → VK → Prop) (mf : MF) : Prop := ∀ (G : Gm) (H : Hp) (x : W) (v : V) (ws : List W) (vs : List V) (Wy : Value → Option Addr → Hp → Prop) (Q : VK), World K G H → RepV K G H x v → RepL K G H ws vs → PostR K (RepV K) Wy G H (mf x ws G.st) Q → r v vs H Q
def eBM (m : EM) (as : AM) (mf : MF) : EM := fun ρ st => (m ρ st).bind fun x st1 => match lstX st1 x with
  | some _ => (as ρ st1).bind fun ws st2 => mf x ws st2
  | none => .no
theorem RepV.lst_ty {x : W} {v : V} {us : List W} (wo : World K G H) (r : RepV K G H x v) (e : lstX G.st x = some us) : tyV K "list" v H := by
  obtain ⟨a, vs, rfl, e1, _⟩ := lst_x wo r e
  exact .inl ⟨rfl, vs, .inl (.inl e1)⟩
theorem ce_bm {o e : Expr} {es : List Expr} {to : TE} {t : TA} {mo : EM} {as : AM} {name : Str} {apos cpos : Pos} {id : String} {r : V → List V → Hp → VK → Prop} {mf : MF} (slot : Slot "list" name id) (hty : typeOf (.builtin id) = pure (.type "method_descriptor")) (hm : MtR X id r) (hf : MtS X.K r mf) (ho : CE X Wx o to mo) (ha : CA X Wx (e :: es) t as)
    (hbase : attributeBase o name X.env (eval o X.env) = eval o X.env := by rfl)
    (hfew : ((backTo cpos (starEach (e :: es) X.env)).all (fun x => !x.1) && (backToKw cpos (keywordEach [] X.env)).all (fun x => x.1.isSome) && decide ((e :: es).length + ([] : List Keyword).length + (if ([] : List Keyword).isEmpty then 0 else 1) < 30)) = true := by rfl)
    (hline : (apos.endLine == cpos.line) = true := by rfl) (hs : starEach (e :: es) X.env = (false, eval e X.env) :: starEach es X.env := by rfl) (hplain : (backTo cpos (starEach es X.env)).any (·.1) = false := by rfl) :
    CE X Wx (.Call (.Attribute o name apos) (e :: es) [] cpos) (tBM X.K "list" r to t) (eBM mo as mf) := by
  refine ⟨pe_bm PySem.F.plainAttrs_list slot hty hm ho.pe ha.pe hbase hfew hline hs hplain, fun G H ρ σ Q w rr h => ?_⟩
  refine ho.sem G H ρ σ _ w rr (PostR.bind h fun x st1 ls1 H1 v q1 e1 w1 rv h1 => ?_)
  clear q1
  cases ex : lstX st1 x with
  | none => rw [ex] at h1; exact h1.elim
  | some us =>
    rw [ex] at h1
    refine ⟨RepV.lst_ty (G := G.to ls1 st1) w1 rv ex, ?_⟩
    refine ha.sem (G.to ls1 st1) H1 ρ σ _ w1 (rr.mono e1) (PostR.bind h1 fun ws st2 ls2 H2 vs q2 e2 w2 rvs h2 => ?_)
    exact hf (G.to ls2 st2) H2 x v ws vs _ Q w2 (rv.mono e2) rvs h2
theorem ce_bm0 {o : Expr} {to : TE} {mo : EM} {name : Str} {apos cpos : Pos} {id : String} {r : V → List V → Hp → VK → Prop} {mf : MF} (slot : Slot "list" name id) (hty : typeOf (.builtin id) = pure (.type "method_descriptor")) (hm : MtR X id r) (hf : MtS X.K r mf) (ho : CE X Wx o to mo)
    (hbase : attributeBase o name X.env (eval o X.env) = eval o X.env := by rfl) (hline : (apos.endLine == cpos.line) = true := by rfl) : CE X Wx (.Call (.Attribute o name apos) [] [] cpos) (tBM0 X.K "list" r to) (eBM mo aNil mf) := by
  refine ⟨pe_bm0 PySem.F.plainAttrs_list slot hty hm ho.pe hbase hline, fun G H ρ σ Q w rr h => ?_⟩
  refine ho.sem G H ρ σ _ w rr (PostR.bind h fun x st1 ls1 H1 v q1 e1 w1 rv h1 => ?_)
  clear q1
  cases ex : lstX st1 x with
  | none => rw [ex] at h1; exact h1.elim
  | some us =>
    rw [ex] at h1
    exact ⟨RepV.lst_ty (G := G.to ls1 st1) w1 rv ex, hf (G.to ls1 st1) H1 x v [] [] _ Q w1 rv .nil h1⟩
theorem post_put {Wy : Value → Option Addr → Hp → Prop} {n : Nat} {a : Addr} {ob ob0 : Ob} {o : HO} {Q : VK} {r : W} {v : V} (w : World K G H) (e1 : G.ls[n]? = some a) (e2 : G.st[n]? = some (some ob0)) (h : PostR K (RepV K) Wy G H (.ok r (G.st.set n (some ob))) Q)
    (ho : RepO K (G.put n ob) (upd H a o) a ob) (hr : RepV K G H r v) : Q v (upd H a o) := h G.ls _ v (Ext.put w e1 e2) (w.put e1 e2 ho) (hr.mono (Ext.put w e1 e2))
/-- what a list that is changed becomes, and what the change tells -/
def mUp (f : List W → List W → Stt → Option (W × List W)) : MF := fun x ws st => match x with
  | .loc n => match st[n]? with
    | some (some (.lst us)) => match f us ws st with
      | some (r, us') => .ok r (st.set n (some (.lst us')))
      | none => .no
    | _ => .no
  | _ => .no
theorem mt_up {r : V → List V → Hp → VK → Prop} {f : List W → List W → Stt → Option (W × List W)}
    (hf : ∀ (G : Gm) (H : Hp) (a : Addr) (us ws : List W) (zs vs : List V) (y : W) (us' : List W) (Q : VK), World K G H → H a = some (.lst zs) → RepL K G H us zs → RepL K G H ws vs → f us ws G.st = some (y, us') → (∀ (v : V) (zs' : List V), RepV K G H y v → RepL K G H us' zs' → Q v (upd H a (.lst zs'))) → r (.ref a) vs H Q) : MtS K r (mUp f) := fun G H x v ws vs Wy Q wo rx rl h => by
  unfold mUp at h
  split at h
  · rename_i n
    cases rx with
    | loc hl =>
      split at h
      · rename_i us hs
        obtain ⟨zs, hz, rz⟩ := wo.at' _ _ _ hl hs
        cases e : f us ws G.st with
        | none => rw [e] at h; exact h.elim
        | some p =>
          obtain ⟨y, us'⟩ := p
          rw [e] at h
          refine hf G H _ us ws zs vs y us' Q wo hz rz rl e fun v zs' rv rz' => post_put wo hl hs h ⟨zs', upd_same, rz'.mono (Ext.put wo hl hs)⟩ rv
      · exact h.elim
  · exact h.elim
def fAppend : List W → List W → Stt → Option (W × List W) := fun us ws _ => match ws with
  | [y] => if us.length < 100000 then some (.non, us ++ [y]) else none
  | _ => none
theorem ms_append : MtS K rAppend (mUp fAppend) := mt_up fun G H a us ws zs vs y us' Q wo hz rz rl e q => by
  unfold fAppend at e
  split at e
  · split at e
    · rename_i hl
      cases e
      obtain ⟨v, rfl, rv⟩ := rl.one
      exact ⟨a, zs, v, rfl, rfl, hz, Nat.lt_of_lt_of_le (by rw [← rz.length]; exact hl) (by decide), q _ _ .non (rz.app (.cons rv .nil))⟩
    · cases e
  · cases e
def fExtend : List W → List W → Stt → Option (W × List W) := fun us ws st => match ws with
  | [y] => match lstX st y with
    | some ys => if us.length + ys.length ≤ 100000 then some (.non, us ++ ys) else none
    | none => none
  | _ => none
theorem ms_extend : MtS K rExtend (mUp fExtend) := mt_up fun G H a us ws zs vs y us' Q wo hz rz rl e q => by
  unfold fExtend at e
  split at e
  · split at e
    · rename_i ys ey
      split at e
      · rename_i hl
        cases e
        obtain ⟨v, rfl, rv⟩ := rl.one
        obtain ⟨b, ts, rfl, hb, rt⟩ := lst_x wo rv ey
        exact ⟨a, b, zs, ts, rfl, rfl, hz, hb, Nat.le_trans (by rw [← rz.length, ← rt.length]; exact hl) (by decide), q _ _ .non (rz.app rt)⟩
      · cases e
    · cases e
  · cases e
theorem RepL.erase {ws : List W} {vs : List V} (h : RepL K G H ws vs) : ∀ n : Nat, RepL K G H (ws.eraseIdx n) (vs.eraseIdx n) := by
  intro n
  induction n generalizing ws vs with
  | zero => cases h with
    | nil => exact .nil
    | cons a b => exact b
  | succ n ih => cases h with
    | nil => exact .nil
    | cons a b => exact .cons a (ih b)
def fPopAt : List W → List W → Stt → Option (W × List W) := fun us ws _ => match ws with
  | [.int i] => if -(2 ^ 62) ≤ i ∧ i < 2 ^ 62 then match seqIndex? i us.length with
    | some k => match us[k]? with
      | some y => some (y, us.eraseIdx k)
      | none => none
    | none => none else none
  | _ => none
theorem ms_popAt : MtS K rPopAt (mUp fPopAt) := mt_up fun G H a us ws zs vs y us' Q wo hz rz rl e q => by
  unfold fPopAt at e
  split at e
  · rename_i i
    split at e
    · rename_i hi
      split at e
      · rename_i k hk
        split at e
        · rename_i y' hy
          cases e
          obtain ⟨v, rfl, rv⟩ := rl.one
          cases rv.int_inv
          obtain ⟨u, eu, ru⟩ := rz.get hy
          exact ⟨a, zs, i, k, u, rfl, rfl, hz, by omega, by omega, by rw [← rz.length]; exact hk, eu, q _ _ ru (rz.erase k)⟩
        · cases e
      · cases e
    · cases e
  · cases e
theorem RepL.dropLast {ws : List W} {vs : List V} (h : RepL K G H ws vs) : RepL K G H ws.dropLast vs.dropLast := by
  rw [List.dropLast_eq_take, List.dropLast_eq_take, h.length]
  exact h.take _
def fPop : List W → List W → Stt → Option (W × List W) := fun us ws _ => match ws with
  | [] => match us[us.length - 1]? with
    | some y => some (y, us.dropLast)
    | none => none
  | _ => none
theorem ms_pop : MtS K rPop (mUp fPop) := mt_up fun G H a us ws zs vs y us' Q wo hz rz rl e q => by
  unfold fPop at e
  split at e
  · split at e
    · rename_i y' hy
      cases e
      cases rl
      obtain ⟨u, eu, ru⟩ := rz.get hy
      exact ⟨a, zs, u, rfl, rfl, hz, by rw [← rz.length]; exact eu, q _ _ ru rz.dropLast⟩
    · cases e
  · cases e
def fInsert : List W → List W → Stt → Option (W × List W) := fun us ws _ => match ws with
  | [.int i, y] => if 0 ≤ i ∧ i < 2 ^ 62 ∧ us.length < 100000 then some (.non, us.take i.toNat ++ [y] ++ us.drop i.toNat) else none
  | _ => none
def rInsert : V → List V → Hp → VK → Prop := fun x vs H Q => ∃ (l : Addr) (xs : List V) (i : Int) (y : V), x = .ref l ∧ vs = [.int i, y] ∧ H l = some (.lst xs) ∧ xs.length < sizeLine ∧ 0 ≤ i ∧ i < 2 ^ 63 ∧ Q .non (upd H l (.lst (xs.take i.toNat ++ [y] ++ xs.drop i.toNat)))
theorem mt_insertU : MtR X "list.insert" rInsert := mt_insert
theorem ms_insert : MtS K rInsert (mUp fInsert) := mt_up fun G H a us ws zs vs y us' Q wo hz rz rl e q => by
  unfold fInsert at e
  split at e
  · split at e
    · rename_i i y hl
      cases e
      obtain ⟨v, u, rfl, rv, ru⟩ := rl.two
      cases rv.int_inv
      exact ⟨a, zs, i, u, rfl, rfl, hz, Nat.lt_of_lt_of_le (by rw [← rz.length]; exact hl.2.2) (by decide), hl.1, by omega, q _ _ .non (((rz.take _).app (.cons ru .nil)).app (rz.drop _))⟩
    · cases e
  · cases e
theorem RepL.rev {ws : List W} {vs : List V} (h : RepL K G H ws vs) : RepL K G H ws.reverse vs.reverse := by
  induction ws generalizing vs with
  | nil => cases h; exact .nil
  | cons w ws ih => cases h with
    | cons a b => rw [List.reverse_cons, List.reverse_cons]; exact (ih b).app (.cons a .nil)
def fReverse : List W → List W → Stt → Option (W × List W) := fun us ws _ => match ws with
  | [] => some (.non, us.reverse)
  | _ => none
theorem ms_reverse : MtS K rReverse (mUp fReverse) := mt_up fun G H a us ws zs vs y us' Q wo hz rz rl e q => by
  unfold fReverse at e
  split at e
  · cases e
    cases rl
    exact ⟨a, zs, rfl, rfl, hz, q _ _ .non rz.rev⟩
  · cases e
/-! xs.index(y) -/
def mIdx : MF := fun x ws st => match ws with
  | [.str z] => match (seqOf st x).bind strsOf with
    | some ys => if z ∈ ys then .ok (.int (ys.idxOf z : Nat)) st else .no
    | none => .no
  | _ => .no
def rIdxL (K : PySem.W.Frag) : V → List V → Hp → VK → Prop := fun x vs H Q => ∃ (p : Addr) (ys : List Str) (z : Str), x = .ref p ∧ vs = [.str z] ∧ SqL K H p (ys.map V.str) ∧ z ∈ ys ∧ Q (.int (ys.idxOf z : Nat)) H
theorem mt_idxL : MtR X "list.index" (rIdxL X.K) := by
  intro pins s σ H x vs v us Q I rx rvs h
  obtain ⟨p, ys, z, rfl, rfl, sq, hz, q⟩ := h
  cases rx
  obtain ⟨u, rfl, t, rfl⟩ := vals1 rvs
  obtain ⟨its, rv, pl, hsz⟩ := I.list sq
  exact SeqAt.list_index_strs pl.isList rv.strs (by simpa using hsz) hz ⟨.int (ys.idxOf z : Nat), H, I.tok _, ⟨_, rfl⟩, q⟩
theorem ms_idxL : MtS K (rIdxL K) (fun x ws st => match lstX st x with | some _ => mIdx x ws st | none => .no) := fun G H x v ws vs Wy Q wo rx rl h => by
  dsimp only at h
  cases ex : lstX G.st x with
  | none => rw [ex] at h; exact h.elim
  | some us =>
    rw [ex] at h
    replace h : PostR K (RepV K) Wy G H (mIdx x ws G.st) Q := h
    unfold mIdx at h
    split at h
    · rename_i z
      split at h
      · rename_i ys ey
        split at h
        · rename_i hz
          obtain ⟨a, zs, rfl, hz1, rz⟩ := lst_x wo rx ex
          have es : seqOf G.st x = some us := by
            cases x with
            | lst ws => exact ex
            | loc n => exact ex
            | _ => cases ex
          rw [es] at ey
          rw [strsOf_eq ey] at rz
          obtain ⟨u, rfl, ru⟩ := rl.one
          cases ru.str_inv
          rw [rz.strs] at hz1
          exact ⟨a, ys, z, rfl, rfl, .inl (.inl hz1), hz, PostR.ok wo h (.int _)⟩
        · exact h.elim
      · exact h.elim
    · exact h.elim
/-- of a tuple -/
def eIdxT (m : EM) (as : AM) : EM := fun ρ st => (m ρ st).bind fun x st1 => match x with
  | .tup us => (as ρ st1).bind fun ws st2 => mIdx (.tup us) ws st2
  | _ => .no
theorem ce_idxT {o e : Expr} {es : List Expr} {to : TE} {t : TA} {mo : EM} {as : AM} {apos cpos : Pos} (ho : CE X Wx o to mo) (ha : CA X Wx (e :: es) t as)
    (hbase : attributeBase o "index" X.env (eval o X.env) = eval o X.env := by rfl)
    (hfew : ((backTo cpos (starEach (e :: es) X.env)).all (fun x => !x.1) && (backToKw cpos (keywordEach [] X.env)).all (fun x => x.1.isSome) && decide ((e :: es).length + ([] : List Keyword).length + (if ([] : List Keyword).isEmpty then 0 else 1) < 30)) = true := by rfl)
    (hline : (apos.endLine == cpos.line) = true := by rfl) (hs : starEach (e :: es) X.env = (false, eval e X.env) :: starEach es X.env := by rfl) (hplain : (backTo cpos (starEach es X.env)).any (·.1) = false := by rfl) :
    CE X Wx (.Call (.Attribute o "index" apos) (e :: es) [] cpos) (Low.tIdxT X.K to t) (eIdxT mo as) := by
  refine ⟨Low.pe_idxT ho.pe ha.pe hbase hfew hline hs hplain, fun G H ρ σ Q w rr h => ?_⟩
  refine ho.sem G H ρ σ _ w rr (PostR.bind h fun x st1 ls1 H1 v q1 e1 w1 rv h1 => ?_)
  clear q1
  cases x with
  | tup us =>
    dsimp only at h1
    obtain ⟨a, zs, ea, tn, _⟩ := tupN rv
    refine ⟨⟨a, zs, ea, tn⟩, ?_⟩
    refine ha.sem (G.to ls1 st1) H1 ρ σ _ w1 (rr.mono e1) (PostR.bind h1 fun ws st2 ls2 H2 vs q2 e2 w2 rvs h2 => ?_)
    clear q2
    unfold mIdx at h2
    split at h2
    · rename_i z
      split at h2
      · rename_i ys ey
        split at h2
        · rename_i hz
          obtain ⟨b, ts, eb, sq, rt⟩ := tup_sq (rv.mono e2)
          have ey : strsOf us = some ys := ey
          rw [strsOf_eq ey] at rt
          obtain ⟨u, rfl, ru⟩ := rvs.one
          cases ru.str_inv
          rw [rt.strs] at sq
          exact ⟨b, ys, z, eb, rfl, sq, hz, PostR.ok (G := G.to ls2 st2) w2 h2 (.int _)⟩
        · exact h2.elim
      · exact h2.elim
    · exact h2.elim
  | _ => exact h1.elim

/-! statements that change -/
/-- o[i] = e, o a list -/
def sSetIx (e o i : EM) : SM := fun ρ st => (e ρ st).toS ρ fun x st1 => (o ρ st1).toS ρ fun l st2 => (i ρ st2).toS ρ fun k st3 => match l, k with
  | .loc n, .int j => match st3[n]? with
    | some (some (.lst us)) => match ixN us.length j with
      | some m => .nx ρ (st3.set n (some (.lst (us.set m x))))
      | none => .no
    | _ => .no
  | _, _ => .no
theorem RepL.set {ws : List W} {vs : List V} (h : RepL K G H ws vs) {w : W} {v : V} (r : RepV K G H w v) : ∀ n : Nat, RepL K G H (ws.set n w) (vs.set n v) := by
  intro n
  induction n generalizing ws vs with
  | zero => cases h with
    | nil => exact .nil
    | cons a b => exact .cons r b
  | succ n ih => cases h with
    | nil => exact .nil
    | cons a b => exact .cons a (ih b)
theorem cs_setIx {e o i : Expr} {te to ti : TE} {me mo mi : EM} {pos p2 : Pos} (he : CE X Wx e te me) (ho : CE X Wx o to mo) (hi : CE X Wx i ti mi) (hs : swapsWithSole [.Subscript o i p2] e pos.line X.env = pure false := by rfl) (hw : swappedStores [.Subscript o i p2] e X.env = pure none := by rfl)
    (h1 : (assignEach [.Subscript o i p2] X.env).map (·.2) = [assign (.Subscript o i p2) X.env] := by rfl)
    (ha : ∀ v, assign (.Subscript o i p2) X.env v = (do
      let ov ← holding [v] (eval o X.env)
      let iv ← holding [v, ov] (eval i X.env)
      standAt p2
      holding [v, ov, iv] (setItem ov iv v)
      release [v, ov, iv] []) := by intro _; rfl) : CS X Wx (.Assign [.Subscript o i p2] e pos) (tAsg te (gSub to ti rSetL)) (sSetIx me mo mi) := by
  refine ⟨ps_asg he.pe (pg_sub ho.pe hi.pe set_list ha) hs hw h1, fun G H ρ σ D w r h => ?_⟩
  refine he.sem G H ρ σ _ w r (PostS.bind h r fun x st1 ls1 H1 v q1 e1 w1 rv h1 => ?_)
  refine ho.sem (G.to ls1 st1) H1 ρ σ _ w1 (r.mono e1) (PostS.bind h1 (r.mono e1) fun l st2 ls2 H2 u q2 e2 w2 ru h2 => ?_)
  have r2 := r.mono (e1.trans e2)
  refine hi.sem (G.to ls2 st2) H2 ρ σ _ w2 r2 (PostS.bind h2 r2 fun k st3 ls3 H3 z q3 e3 w3 rz h3 => ?_)
  have r3 := r2.mono e3
  clear q1 q2 q3
  split at h3
  · rename_i n j
    split at h3
    · rename_i us hn
      split at h3
      · rename_i m hm
        cases rz.int_inv
        have ru3 := ru.mono e3
        cases ru3 with
        | loc hl =>
          obtain ⟨ts, ht, rt⟩ := w3.at' _ _ _ hl hn
          have rx := rv.mono (e2.trans e3)
          refine ⟨_, ts, j, m, rfl, rfl, ht, by rw [← rt.length]; exact hm, ?_⟩
          have xp : Ext (G.to ls3 st3) H3 ((G.to ls3 st3).put n (.lst (us.set m x))) (upd H3 _ (.lst (ts.set m v))) := Ext.put w3 hl hn
          exact h3 ls3 σ _ xp (w3.put hl hn ⟨_, upd_same, (rt.set rx m).mono xp⟩) (r3.mono xp)
      · exact h3.elim
    · exact h3.elim
  · exact h3.elim
/-- x op= e -/
def sAug (i : Nat) (e : EM) (f : F2) : SM := fun ρ st => match ρ[i]? with
  | some (some x) => (e ρ st).toS ρ fun y st1 => match f st1 x y with
    | some z => .nx (ρ.set i (some z)) st1
    | none => .no
  | _ => .no
theorem cs_aug {i : Nat} {x : Str} {e : Expr} {te : TE} {m : EM} {op : Operator} {r : R2} {f : F2} {pos pos' : Pos} (hN : X.N.Nodup) (hi : X.N[i]? = some x) (hx : Loc X.env.scope x) (he : CE X Wx e te m) (ho : OpR X (inplaceOp op) r) (hf : OpS X.K r f) (hl : X.fn x = true ∨ X.env.scope.names.lookup x = some .local := by first | exact .inl rfl | exact .inr rfl | assumption) :
    CS X Wx (.AugAssign (.Name x pos') op e pos) (tAug i te r) (sAug i m f) := by
  refine ⟨ps_aug hN hi hx he.pe (fun pins s σ H x y v u Q I rx ry h => ho pins s σ H x y v u Q I rx ry h) hl, fun G H ρ σ D w rr h => ?_⟩
  unfold sAug at h
  split at h
  · rename_i a ea
    obtain ⟨v, ev, rv⟩ := rr.2 i a ea
    refine ⟨v, ev, ?_⟩
    refine he.sem G H ρ σ _ w rr (PostS.bind h rr fun y st1 ls1 H1 u q1 e1 w1 ru h1 => ?_)
    cases e : f st1 a y with
    | none => rw [e] at h1; exact h1.elim
    | some z =>
      rw [e] at h1
      exact hf (G.to ls1 st1) H1 a y v u z _ w1 (rv.mono e1) ru e fun H2 zv x2 w2 rz => h1 ls1 _ H2 x2 w2 (((rr.mono e1).mono x2).set i rz)
  · exact h.elim

/-! while -/
def whileW : Nat → TM → SM → SM
  | 0, _, _ => fun _ _ => .no
  | n + 1, c, body => fun ρ st => (c ρ st).toS ρ fun b st1 => if b = true then (body ρ st1).loop fun ρ2 st2 => whileW n c body ρ2 st2 else .nx ρ st1
theorem sem_while {tc : TT} {tb : TS} {c : TM} {body : SM} (n : Nat) (hc : SemT K Wx tc c) (hb : SemS K Wx tb body) : SemS K Wx (tWhile tc tb) (whileW n c body) := fun G H ρ σ D w r h => by
  refine ⟨fun m σ H => ∃ (G2 : Gm) (ρ2 : Ev), World K G2 H ∧ RepE K G2 H ρ2 σ ∧ PostS K Wx D G2 H (whileW m c body ρ2 G2.st), ⟨n, G, ρ, w, r, h⟩, ?_⟩
  rintro m σ2 H2 ⟨G2, ρ2, w2, r2, h2⟩
  cases m with
  | zero => exact h2.elim
  | succ m =>
    rw [whileW] at h2
    refine hc G2 H2 ρ2 σ2 _ w2 r2 (PostS.bind h2 r2 fun b st3 ls3 H3 b' q3 e3 w3 eb h3 => ?_)
    subst eb
    cases b with
    | false =>
      rw [if_neg Bool.false_ne_true] at h3
      exact iteF (h3 ls3 σ2 H3 (Ext.refl _ _) w3 (r2.mono e3))
    | true =>
      rw [if_pos rfl] at h3
      refine iteT ⟨fun σ' H' => ∃ (G4 : Gm) (ρ4 : Ev), World K G4 H' ∧ RepE K G4 H' ρ4 σ' ∧ PostS K Wx D G4 H' (whileW m c body ρ4 G4.st), fun σ' H' hN => ⟨m, Nat.lt_succ_self m, hN⟩, ?_⟩
      refine hb (G2.to ls3 st3) H3 ρ2 σ2 _ w3 (r2.mono e3) ?_
      cases eb : body ρ2 st3 with
      | nx ρ5 st5 =>
        rw [eb] at h3
        exact fun ls5 σ5 H5 e5 w5 r5 => ⟨_, ρ5, w5, r5, PostS.mono e5 h3⟩
      | ct ρ5 st5 =>
        rw [eb] at h3
        exact fun ls5 σ5 H5 e5 w5 r5 => ⟨_, ρ5, w5, r5, PostS.mono e5 h3⟩
      | bk ρ5 st5 =>
        rw [eb] at h3
        exact fun ls5 σ5 H5 e5 w5 r5 => h3 ls5 σ5 H5 e5 w5 r5
      | rt v5 st5 =>
        rw [eb] at h3
        exact fun ls5 σ5 H5 e5 w5 r5 => h3 ls5 σ5 H5 e5 w5 r5
      | er y5 ρ5 st5 =>
        rw [eb] at h3
        exact fun ls5 σ5 H5 d e5 w5 r5 => h3 ls5 σ5 H5 d e5 w5 r5
      | no => rw [eb] at h3; exact h3.elim
theorem cs_while {c : Expr} {body : List Stmt} {tc : TT} {tb : TS} {mc : TM} {mb : SM} {pos : Pos} (n : Nat) (hp : PassesOwn (model X.prog X.w) X.A X.env X.xe) (hc : CT X Wx c tc mc) (hb : CSs X Wx body tb mb) : CS X Wx (.While c body [] pos) (tWhile tc tb) (whileW n mc mb) := ⟨ps_while hp hc.pe hb.pe, sem_while n hc.sem hb.sem⟩
end
end Sim
end
section
set_option Elab.async false
set_option linter.all false
set_option maxRecDepth 100000
set_option maxHeartbeats 1000000
open PySem PySem.Spec PyProof.Rows L2
namespace Sim
/-! a def's own places are let go at its end; what it gives back becomes still -/
mutual
/-- no place from n on -/
def okL (n : Nat) : W → Bool
  | .tup ws => okLs n ws
  | .lst ws => okLs n ws
  | .prs ws => okLs n ws
  | .scr ws => okLs n ws
  | .dic kvs => okLk n kvs
  | .loc i => decide (i < n)
  | .non => true
  | .bl _ => true
  | .int _ => true
  | .str _ => true
  | .ty _ => true
  | .obj _ => true
def okLs (n : Nat) : List W → Bool
  | [] => true
  | w :: ws => okL n w && okLs n ws
def okLk (n : Nat) : List (Key × W) → Bool
  | [] => true
  | (_, w) :: ws => okL n w && okLk n ws
end
def okO (n : Nat) : Ob → Bool
  | .lst ws => okLs n ws
  | .dic kvs => okLk n kvs
def okStt (n : Nat) (st st' : Stt) : Prop := ∀ i, i < n → st'[i]? = st[i]? ∨ ∃ ob, st'[i]? = some (some ob) ∧ okO n ob = true
mutual
def fzW (n : Nat) (st : Stt) : W → Option W
  | .tup ws => (fzWs n st ws).map .tup
  | .lst ws => (fzWs n st ws).map .lst
  | .loc i => if i < n then some (.loc i) else match st[i]? with
    | some (some (.lst us)) => if okLs n us = true then some (.lst us) else none
    | some (some (.dic us)) => if okLk n us = true then some (.dic us) else none
    | _ => none
  | .dic kvs => if okLk n kvs = true then some (.dic kvs) else none
  | .prs us => if okLs n us = true then some (.prs us) else none
  | .scr us => if okLs n us = true then some (.scr us) else none
  | .non => some .non
  | .bl b => some (.bl b)
  | .int b => some (.int b)
  | .str b => some (.str b)
  | .ty b => some (.ty b)
  | .obj b => some (.obj b)
def fzWs (n : Nat) (st : Stt) : List W → Option (List W)
  | [] => some []
  | w :: ws => match fzW n st w, fzWs n st ws with
    | some a, some b => some (a :: b)
    | _, _ => none
end
open Classical in
noncomputable def frz (m : FM) : FM := fun ws st => match m ws st with
  | .ok w st' => if okStt st.length st st' then (match fzW st.length st' w with
      | some w' => .ok w' (st'.take st.length)
      | none => .no) else .no
  | .er x st' => if okStt st.length st st' ∧ x.fs = [] then .er x (st'.take st.length) else .no
  | .no => .no
section
variable {K : PySem.W.Frag} {G G' : Gm} {H H' : Hp}
mutual
theorem RepV.okL (h : G.ls.length = n) : ∀ {w : W} {v : V}, RepV K G H w v → okL n w = true
  | _, _, .non => by rw [Sim.okL]
  | _, _, .bl b => by rw [Sim.okL]
  | _, _, .int i => by rw [Sim.okL]
  | _, _, .str s => by rw [Sim.okL]
  | _, _, .ty n => by rw [Sim.okL]
  | _, _, .obj a => by rw [Sim.okL]
  | _, _, .tup _ r => by rw [Sim.okL]; exact RepL.okL h r
  | _, _, .prs _ r => by rw [Sim.okL]; exact RepL.okL h r
  | _, _, .lst _ r => by rw [Sim.okL]; exact RepL.okL h r
  | _, _, .scr _ r => by rw [Sim.okL]; exact RepL.okL h r
  | _, _, .dic _ r => by rw [Sim.okL]; exact RepK.okL h r
  | _, _, .loc e => by rw [Sim.okL]; exact decide_eq_true (by rw [← h]; exact (List.getElem?_eq_some_iff.mp e).1)
theorem RepL.okL (h : G.ls.length = n) : ∀ {ws : List W} {vs : List V}, RepL K G H ws vs → okLs n ws = true
  | _, _, .nil => by rw [okLs]
  | _, _, .cons a r => by rw [okLs, RepV.okL h a, RepL.okL h r]; rfl
theorem RepK.okL (h : G.ls.length = n) : ∀ {ws : List (Key × W)} {vs : List (Key × V)}, RepK K G H ws vs → okLk n ws = true
  | _, _, .nil => by rw [okLk]
  | _, _, .cons a r => by rw [okLk, RepV.okL h a, RepK.okL h r]; rfl
end
/-- fewer places, the same heap -/
structure Shr (G G' : Gm) : Prop where
  ls : ∀ (i : Nat) (a : Addr), i < G.ls.length → G'.ls[i]? = some a → G.ls[i]? = some a
  al : ∀ a, G.alive a → G'.alive a
mutual
theorem RepV.shr (x : Shr G G') : ∀ {w : W} {v : V}, okL G.ls.length w = true → RepV K G' H w v → RepV K G H w v
  | _, _, _, .non => .non
  | _, _, _, .bl b => .bl b
  | _, _, _, .int i => .int i
  | _, _, _, .str s => .str s
  | _, _, _, .ty n => .ty n
  | _, _, _, .obj a => .obj a
  | _, _, o, .tup h r => .tup (h.imp_left fun z => ⟨z.1, fun y => z.2 (x.al _ y)⟩) (RepL.shr x (by rw [Sim.okL] at o; exact o) r)
  | _, _, o, .prs h r => .prs ⟨h.1, fun y => h.2 (x.al _ y)⟩ (RepL.shr x (by rw [Sim.okL] at o; exact o) r)
  | _, _, o, .lst h r => .lst ⟨h.1, fun y => h.2 (x.al _ y)⟩ (RepL.shr x (by rw [Sim.okL] at o; exact o) r)
  | _, _, o, .scr h r => .scr (h.imp_left fun z => ⟨z.1, fun y => z.2 (x.al _ y)⟩) (RepL.shr x (by rw [Sim.okL] at o; exact o) r)
  | _, _, o, .dic h r => .dic ⟨h.1, fun y => h.2 (x.al _ y)⟩ (RepK.shr x (by rw [Sim.okL] at o; exact o) r)
  | _, _, o, .loc e => .loc (x.ls _ _ (by rw [Sim.okL] at o; exact of_decide_eq_true o) e)
theorem RepL.shr (x : Shr G G') : ∀ {ws : List W} {vs : List V}, okLs G.ls.length ws = true → RepL K G' H ws vs → RepL K G H ws vs
  | _, _, _, .nil => .nil
  | _, _, o, .cons a r => by
    rw [okLs, Bool.and_eq_true] at o
    exact .cons (RepV.shr x o.1 a) (RepL.shr x o.2 r)
theorem RepK.shr (x : Shr G G') : ∀ {ws : List (Key × W)} {vs : List (Key × V)}, okLk G.ls.length ws = true → RepK K G' H ws vs → RepK K G H ws vs
  | _, _, _, .nil => .nil
  | _, _, o, .cons a r => by
    rw [okLk, Bool.and_eq_true] at o
    exact .cons (RepV.shr x o.1 a) (RepK.shr x o.2 r)
end
theorem alive_st {ls : List Addr} {st : Stt} {hid : List Addr} {a : Addr} (h : Gm.alive ⟨ls, st, hid⟩ a) : (∃ (i : Nat) (ob : Ob), ls[i]? = some a ∧ st[i]? = some (some ob)) ∨ a ∈ hid := h
/-- the world cut back -/
theorem frz_cut {ls' : List Addr} {st' : Stt} (w : World K G H) (x : Ext G H (G.to ls' st') H') (w' : World K (G.to ls' st') H') (ok : okStt G.st.length G.st st') :
    Shr (G.to G.ls (st'.take G.st.length)) (G.to ls' st') ∧ Ext G H (G.to G.ls (st'.take G.st.length)) H' ∧ World K (G.to G.ls (st'.take G.st.length)) H' := by
  have hlen := w.len
  have hle : G.ls.length ≤ ls'.length := by
    by_cases h0 : G.ls.length = 0
    · omega
    · have := x.ls (G.ls.length - 1) _ (List.getElem?_eq_getElem (by omega))
      have := (List.getElem?_eq_some_iff.mp this).1
      simp only at this
      omega
  have hst : G.st.length ≤ st'.length := by
    have : ls'.length = st'.length := w'.len
    omega
  have tk : ∀ (i : Nat) (ob : Ob), (st'.take G.st.length)[i]? = some (some ob) → i < G.st.length ∧ st'[i]? = some (some ob) := fun i ob e => by
    have hi := (List.getElem?_eq_some_iff.mp e).1
    rw [List.length_take] at hi
    rw [List.getElem?_take_of_lt (by omega)] at e
    exact ⟨by omega, e⟩
  have alv : ∀ a, (G.to G.ls (st'.take G.st.length)).alive a → (G.to ls' st').alive a := fun a z => by
    rcases z with ⟨i, ob, e1, e2⟩ | z
    · exact .inl ⟨i, ob, x.ls i a e1, (tk i ob e2).2⟩
    · exact .inr z
  have alG : ∀ a, (G.to G.ls (st'.take G.st.length)).alive a → G.alive a ∨ H a = none := fun a z => x.al a (alv a z)
  have sh : Shr (G.to G.ls (st'.take G.st.length)) (G.to ls' st') := ⟨fun i a hi e => by
    have hi : i < G.ls.length := hi
    have q := x.ls i _ (List.getElem?_eq_getElem hi)
    rw [e] at q
    rw [Option.some.inj q]
    exact List.getElem?_eq_getElem hi, alv⟩
  refine ⟨sh, ⟨fun _ _ e => e, x.keep, alG, x.non, rfl, x.hidk⟩, ⟨?_, w.nd, fun a ha => fun z => w.tr a ha (x.non a z), fun a ha => ⟨?_, (w.hd a ha).2⟩, fun i a ob e1 e2 => ?_⟩⟩
  · show G.ls.length = (st'.take G.st.length).length
    rw [List.length_take]
    omega
  · rw [x.hidk a ha]; exact (w.hd a ha).1
  · obtain ⟨hi, e3⟩ := tk i ob e2
    have ro := w'.at' i a ob (x.ls i a e1) e3
    have okob : okO G.ls.length ob = true := by
      rcases ok i hi with q | ⟨ob', q, h⟩
      · rw [e3] at q
        have ro2 := w.at' i a ob e1 q.symm
        cases ob with
        | lst us => obtain ⟨_, _, r⟩ := ro2; exact RepL.okL rfl r
        | dic us => obtain ⟨_, _, r⟩ := ro2; exact RepK.okL rfl r
      · rw [e3] at q
        cases q
        rw [hlen]; exact h
    cases ob with
    | lst us => obtain ⟨vs, e, r⟩ := ro; exact ⟨vs, e, RepL.shr sh okob r⟩
    | dic us => obtain ⟨vs, e, r⟩ := ro; exact ⟨vs, e, RepK.shr sh okob r⟩
mutual
theorem fz_rep {ls' : List Addr} {st' : Stt} (w' : World K (G.to ls' st') H') (sh : Shr G (G.to ls' st')) (hl : ∀ (i : Nat) (a : Addr), G.ls[i]? = some a → ls'[i]? = some a) : ∀ (w : W) (v : V) (w2 : W), RepV K (G.to ls' st') H' w v → fzW G.ls.length st' w = some w2 → RepV K G H' w2 v
  | .tup ws, v, w2, r, e => by
    rw [fzW] at e
    cases e1 : fzWs G.ls.length st' ws with
    | none => rw [e1] at e; cases e
    | some us =>
      rw [e1] at e
      cases e
      cases r with
      | tup h rl => exact .tup (h.imp_left fun z => ⟨z.1, fun y => z.2 (sh.al _ y)⟩) (fzs_rep w' sh hl ws _ us rl e1)
  | .lst ws, v, w2, r, e => by
    rw [fzW] at e
    cases e1 : fzWs G.ls.length st' ws with
    | none => rw [e1] at e; cases e
    | some us =>
      rw [e1] at e
      cases e
      cases r with
      | lst h rl => exact .lst ⟨h.1, fun y => h.2 (sh.al _ y)⟩ (fzs_rep w' sh hl ws _ us rl e1)
  | .loc i, v, w2, r, e => by
    rw [fzW] at e
    split at e
    · rename_i hi
      cases e
      exact RepV.shr sh (by rw [okL]; exact decide_eq_true hi) r
    · rename_i hi
      cases r with
      | loc he =>
        rename_i a
        have he : ls'[i]? = some a := he
        have nal : ¬ G.alive a := fun z => by
          rcases z with ⟨j, ob, e1, _⟩ | z
          · have e2 := hl j a e1
            obtain ⟨h1, q1⟩ := List.getElem?_eq_some_iff.mp he
            obtain ⟨h2, q2⟩ := List.getElem?_eq_some_iff.mp e2
            have : i = j := (List.getElem_inj w'.nd).mp (q1.trans q2.symm)
            exact hi (by rw [this]; exact (List.getElem?_eq_some_iff.mp e1).1)
          · exact (w'.hd a z).2 (List.mem_of_getElem? he)
        split at e
        · rename_i us hs
          split at e
          · rename_i ho
            cases e
            obtain ⟨vs, hv, rl⟩ := w'.at' i a _ he hs
            exact .lst ⟨hv, nal⟩ (RepL.shr sh ho rl)
          · cases e
        · rename_i us hs
          split at e
          · rename_i ho
            cases e
            obtain ⟨vs, hv, rl⟩ := w'.at' i a _ he hs
            exact .dic ⟨.inl hv, nal⟩ (RepK.shr sh ho rl)
          · cases e
        · cases e
  | .non, v, w2, r, e => by rw [fzW] at e; cases e; exact RepV.shr sh (by rw [okL]) r
  | .bl _, v, w2, r, e => by rw [fzW] at e; cases e; exact RepV.shr sh (by rw [okL]) r
  | .int _, v, w2, r, e => by rw [fzW] at e; cases e; exact RepV.shr sh (by rw [okL]) r
  | .str _, v, w2, r, e => by rw [fzW] at e; cases e; exact RepV.shr sh (by rw [okL]) r
  | .ty _, v, w2, r, e => by rw [fzW] at e; cases e; exact RepV.shr sh (by rw [okL]) r
  | .obj _, v, w2, r, e => by rw [fzW] at e; cases e; exact RepV.shr sh (by rw [okL]) r
  | .dic _, v, w2, r, e => by
    rw [fzW] at e
    split at e
    · rename_i h
      cases e
      exact RepV.shr sh (by rw [okL]; exact h) r
    · cases e
  | .prs _, v, w2, r, e => by
    rw [fzW] at e
    split at e
    · rename_i h
      cases e
      exact RepV.shr sh (by rw [okL]; exact h) r
    · cases e
  | .scr _, v, w2, r, e => by
    rw [fzW] at e
    split at e
    · rename_i h
      cases e
      exact RepV.shr sh (by rw [okL]; exact h) r
    · cases e
theorem fzs_rep {ls' : List Addr} {st' : Stt} (w' : World K (G.to ls' st') H') (sh : Shr G (G.to ls' st')) (hl : ∀ (i : Nat) (a : Addr), G.ls[i]? = some a → ls'[i]? = some a) : ∀ (ws : List W) (vs : List V) (us : List W), RepL K (G.to ls' st') H' ws vs → fzWs G.ls.length st' ws = some us → RepL K G H' us vs
  | [], _, _, r, e => by cases r; rw [fzWs] at e; cases e; exact .nil
  | w :: ws, _, us, r, e => by
    cases r with
    | cons a b =>
      rw [fzWs] at e
      cases e1 : fzW G.ls.length st' w with
      | none => rw [e1] at e; cases e
      | some u =>
        cases e2 : fzWs G.ls.length st' ws with
        | none => rw [e1, e2] at e; cases e
        | some us2 => rw [e1, e2] at e; cases e; exact .cons (fz_rep w' sh hl w _ u a e1) (fzs_rep w' sh hl ws _ us2 b e2)
end
/-- THE RULE: a def's promise, its own places let go -/
theorem fn_frz {P : Program} {w : PySem.World} {mg : Str → Option Value} {base : Heap} {CX : CXT} {f : Addr} {fd : FuncData} {ps : List Str} {k n : Nat} {m : FM} (F : FnOk P w K mg base CX k f fd ps (spF K n m)) : FnOk P w K mg base CX k f fd ps (spF K n (frz m)) :=
  F.imp fun vs H Q E q => by
    obtain ⟨hl, G, ws, wo, rl, hp⟩ := q
    refine ⟨hl, G, ws, wo, rl, ?_⟩
    unfold frz at hp
    cases e : m ws G.st with
    | no => rw [e] at hp; exact hp.elim
    | er x st' =>
      rw [e] at hp
      dsimp only at hp
      split at hp
      · rename_i hok
        intro ls' H' d xe w' rx
        obtain ⟨_, x2, w2⟩ := frz_cut wo xe w' hok.1
        exact hp G.ls H' d x2 w2 (.inl hok.2)
      · exact hp.elim
    | ok r st' =>
      rw [e] at hp
      dsimp only at hp
      split at hp
      · rename_i hok
        cases ef : fzW G.st.length st' r with
        | none => rw [ef] at hp; exact hp.elim
        | some r' =>
          rw [ef] at hp
          intro ls' H' v xe w' rv
          obtain ⟨sh, x2, w2⟩ := frz_cut wo xe w' hok
          refine hp G.ls H' v x2 w2 ?_
          exact fz_rep (G := G.to G.ls (st'.take G.st.length)) w' sh xe.ls r v r' rv (by rw [show (G.to G.ls (st'.take G.st.length)).ls.length = G.st.length from wo.len]; exact ef)
      · exact hp.elim
theorem frz_eq {m : FM} {ws : List W} {st st' : Stt} {w w' : W} (h : m ws st = .ok w st') (ok : okStt st.length st st') (hf : fzW st.length st' w = some w') : frz m ws st = .ok w' (st'.take st.length) := by
  unfold frz
  rw [h]
  dsimp only
  rw [if_pos ok, hf]
/-- where nothing that stood was changed -/
theorem frz_new {m : FM} {ws : List W} {st ex : Stt} {w w' : W} (h : m ws st = .ok w (st ++ ex)) (hf : fzW st.length (st ++ ex) w = some w') : frz m ws st = .ok w' st := by
  have := frz_eq h (fun i hi => .inl (List.getElem?_append_left hi)) hf
  rw [this, List.take_left]
end
end Sim
end
section
set_option Elab.async false
set_option linter.all false
set_option maxRecDepth 100000
set_option maxHeartbeats 1000000
open PySem PySem.Spec PyProof.Rows L2
namespace Low
section
variable {prog : Program} {w : PySem.World} {A : Around} {E : Value → Shared → Prop} {s : Shared}
theorem places_rev (n : Nat) : Builtin.Slice.slicePlaces ((n : Int) - 1) (-1) (-1) = n := by
  unfold Builtin.Slice.slicePlaces
  have h1 : ¬ ((-1 : Int) > 0) := by omega
  simp only [h1, if_false]
  split
  · rw [show (- -1 : Int) = 1 by decide, Int.ediv_one]; omega
  · omega
theorem applied_rev {sl : Addr} {vl vu vs : Value} {n : Nat} {Q : Int × Int × Nat → Shared → Prop} (hs : s.heap.IsSliceOf sl vl vu vs) (pl : IsPart vl none) (pu : IsPart vu none) (ps : IsPart vs (some (-1)))
    (h : Q ((n : Int) - 1, -1, n) s) : wpAny (model prog w) A (Builtin.Slice.sliceApplied (.ref sl) (pure (n : Int))) Q E s := by
  obtain ⟨os, hos, hcs, hds⟩ := id hs
  unfold Builtin.Slice.sliceApplied Builtin.Slice.sliceFields
  refine wpAny_bind (wpAny_bind (wpAny_field hos hds (x := vl) rfl (wpAny_bind (wpAny_field hos hds (x := vu) rfl (wpAny_bind (wpAny_field hos hds (x := vs) rfl (wpAny_pure ?_)))))))
  refine wpAny_bind (HT.slicePart_ ps ?_)
  show wpAny _ _ (if ((-1 : Int) == 0) = true then _ else _) _ _ s
  rw [if_neg (by decide)]
  refine wpAny_bind (HT.slicePart_ pl (wpAny_bind (HT.slicePart_ pu (wpAny_bind (wpAny_pure ?_)))))
  show wpAny _ _ (match Builtin.Slice.sliceAdjust none none (-1) (n : Int) with | (lo, hi) => pure (lo, (-1 : Int), Builtin.Slice.slicePlaces lo hi (-1))) _ _ s
  have ha : Builtin.Slice.sliceAdjust none none (-1) (n : Int) = ((n : Int) - 1, -1) := rfl
  rw [ha]
  show wpAny _ _ (pure ((n : Int) - 1, (-1 : Int), Builtin.Slice.slicePlaces ((n : Int) - 1) (-1) (-1))) _ _ s
  rw [places_rev]
  exact wpAny_pure h
theorem pick_rev (xs : Array Value) : ((List.range xs.size).filterMap fun (m : Nat) => xs[(((xs.size : Int) - 1) + (m : Int) * (-1)).toNat]?).toArray = xs.toList.reverse.toArray := by
  have e : (List.range xs.size).filterMap (fun (m : Nat) => xs[(((xs.size : Int) - 1) + (m : Int) * (-1)).toNat]?) = ((List.range xs.size).map fun k => xs.size - 1 - k).filterMap (xs[·]?) := by
    rw [List.filterMap_map]
    congr 1
    funext m
    show _ = xs[xs.size - 1 - m]?
    congr 1
    omega
  rw [e, PySem.W.krv_range, List.filterMap_reverse, PySem.W.krv_all]
theorem getItem_tuple_rev {t sl : Addr} {items : Array Value} {vl vu vs : Value} {Q : Value → Shared → Prop} (ht : IsTup s.heap t items) (hs : s.heap.IsSliceOf sl vl vu vs) (pl : IsPart vl none) (pu : IsPart vu none) (ps : IsPart vs (some (-1)))
    (h : Q (.ref s.heap.objs.size) { s with heap := s.heap.push { cls := .type "tuple", data := .seq items.toList.reverse.toArray } })
    (hsz : items.size ≤ sizeLine) : wpAny (model prog w) A (getItem (.ref t) (.ref sl)) Q E s := by
  have htake : sizeOk (.seq items.toList.reverse.toArray) := by
    show items.toList.reverse.toArray.size ≤ sizeLine
    rw [List.size_toArray, List.length_reverse, Array.length_toList]
    exact hsz
  obtain ⟨os, hos, hcs, hds⟩ := id hs
  have hTs : s.TypeIs (.ref sl) "slice" := ⟨os, hos, hcs⟩
  unfold getItem
  try with_reducible refine wpAny_holding ?_
  first | refine wpAny_bind (wpAny_pure ?_) | skip
  refine wpAny_bind (wpAny_sequenceKey ht.typeIs (by decide) ?_)
  refine wpAny_bind (wpAny_callSpecial?_slot (name := Str.ofString "__getitem__") ht.typeIs PyProof.Rows.slot_tuple_getitem
    (wpAny_call_entry PyProof.Rows.slot_tuple_getitem ht.typeIs entry_tuple_getitem ?_ (args_tuple_getitem _ _)))
  show wpAny _ _ (Builtin.Tuple.tupleItemsOf (.ref t) >>= _) _ _ s
  refine wpAny_bind (tupleItemsOf_ ht ?_)
  refine wpAny_bind (wpAny_typeOf hTs ?_)
  rw [if_pos (by decide)]
  refine wpAny_bind (applied_rev hs pl pu ps ?_)
  have hno : ¬ ((((items.size : Int) - 1) == 0 && (-1 : Int) == 1 && items.size == items.size) = true) := by
    intro q
    rw [Bool.and_eq_true, Bool.and_eq_true] at q
    exact absurd (eq_of_beq q.1.2) (by decide)
  show wpAny _ _ (if (((items.size : Int) - 1) == 0 && (-1 : Int) == 1 && items.size == items.size) = true then _ else _) _ _ s
  rw [if_neg hno, pick_rev]
  first
    | exact wpAny_bind (m := Builtin.Tuple.tupleExact _) (wpAny_newObj_type (wpAny_pure ⟨_, rfl, wpAny_pure h⟩) htake)
    | exact wpAny_bind (m := Builtin.Tuple.tupleExact _) (wpAny_newObj_type (wpAny_bind (wpAny_pure (wpAny_pure ⟨_, rfl, wpAny_pure h⟩))) htake)
    | exact wpAny_bind (wpAny_bind (m := Builtin.Tuple.tupleExact _) (wpAny_newObj_type (wpAny_pure (wpAny_pure ⟨_, rfl, wpAny_pure h⟩)) htake))
    | exact wpAny_bind (wpAny_bind (m := Builtin.Tuple.tupleExact _) (wpAny_newObj_type (wpAny_pure ⟨_, rfl, wpAny_pure h⟩) htake))
end
def tRevT (K : PySem.W.Frag) (te : TE) : TE := fun σ H Q => te σ H fun x H1 => ∃ a xs, x = .ref a ∧ SqT K H1 a xs ∧ ∀ (p : Addr) (o : Obj), o.dict = none → H1 p = none → Q (.ref p) (upd H1 p (.frz o (.tup xs.reverse)))
theorem pe_revT {X : Cx} {e : Expr} {te : TE} {k : Nat} {p1 p2 p3 pos : Pos} (he : PE X e te) : PE X (.Subscript e (.Slice none none (some (.UnaryOp .USub (.Constant (.int 1) k p1) p2)) p3) pos) (tRevT X.K te) := by
  refine ⟨fun pins s σ H Q I h => ?_⟩
  refine Subscript_ (thn (he.run pins s σ H _ I h) fun v s1 ⟨x, H1, I1, r1, q1⟩ => ?_)
  obtain ⟨a, xs, ex, hx, q⟩ := q1
  subst ex
  cases r1
  have hst : PO X (some (.UnaryOp .USub (.Constant (.int 1) k p1) p2)) (tPart (tUn (rU fun i => .int (-i)) (tC (.int 1)))) := po_some (pe_un un_neg pe_int)
  refine wpAny_Slice (thn (po_none.run pins s1 σ H1 (fun o H2 => o = none ∧ H2 = H1) I1 ⟨rfl, rfl⟩) fun vl s2 ⟨l, H2, I2, pl, el, e2⟩ => ?_)
  subst el e2
  refine thn (po_none.run pins s2 σ H2 (fun o H3 => o = none ∧ H3 = H2) I2 ⟨rfl, rfl⟩) fun vu s3 ⟨u, H3, I3, pu, eu, e3⟩ => ?_
  subst eu e3
  refine thn (hst.run pins s3 σ H3 (fun o H4 => o = some (-1) ∧ H4 = H3) I3 ⟨1, rfl, -1, rfl, rfl, rfl⟩) fun vs s4 ⟨o, H4, I4, ps, eo, e4⟩ => ?_
  subst eo e4
  have I5 : Inv X pins σ H4 { s4 with heap := s4.heap.push { cls := .type "slice", data := .fields #[vl, vu, vs] } } := I4.kept (t' := s4.toks) fun b ob q => Heap.get?_push_of_some _ q
  obtain ⟨its, r, ht, hz⟩ := I5.tuple hx
  have hlen := r.length
  show wpAny (model X.prog X.w) X.A (subscriptTail e (.Slice none none (some (.UnaryOp .USub (.Constant (.int 1) k p1) p2)) p3) (.ref a) (.ref s4.heap.objs.size)) (EP X pins σ Q) X.xe { s4 with heap := s4.heap.push { cls := .type "slice", data := .fields #[vl, vu, vs] } }
  refine tail_any (ops := [.ref a, .ref s4.heap.objs.size]) ht.typeIs (PyProof.Rows.slot_tuple_getitem.lookup) ?_ (by with_unfolding_all rfl)
  refine getItem_tuple_rev ht (Heap.IsSliceOf.new _ vl vu vs) pl pu ps ?_ (by rw [List.size_toArray]; omega)
  exact Sim.tup_laid (s := { s4 with heap := s4.heap.push { cls := .type "slice", data := .fields #[vl, vu, vs] } }) (h' := s4.heap.push { cls := .type "slice", data := .fields #[vl, vu, vs] }) (tk := s4.toks) I5 r.reverse (by rw [List.length_reverse]; exact hz) q
end Low
namespace Sim
section
variable {X : Cx} {Wx : WX}
/-- -e -/
def eNeg (m : EM) : EM := fun ρ st => (m ρ st).bind fun x st1 => match x with
  | .int i => .ok (.int (-i)) st1
  | _ => .no
theorem ce_neg {e : Expr} {te : TE} {m : EM} {pos : Pos} (h : CE X Wx e te m) : CE X Wx (.UnaryOp .USub e pos) (tUn (rU fun i => .int (-i)) te) (eNeg m) := by
  refine ⟨pe_un un_neg h.pe, fun G H ρ σ Q w r hp => ?_⟩
  refine h.sem G H ρ σ _ w r (PostR.bind hp fun x st1 ls1 H1 v q1 e1 w1 rv hp1 => ?_)
  clear q1
  split at hp1
  · cases rv.int_inv
    exact ⟨_, rfl, PostR.ok (G := G.to ls1 st1) w1 hp1 (.int _)⟩
  · exact hp1.elim
/-- t[::-1] of a tuple -/
def eRevT (m : EM) : EM := fun ρ st => (m ρ st).bind fun x st1 => match x with
  | .tup ws => .ok (.tup ws.reverse) st1
  | _ => .no
theorem ce_revT {e : Expr} {te : TE} {m : EM} {k : Nat} {p1 p2 p3 pos : Pos} (h : CE X Wx e te m) : CE X Wx (.Subscript e (.Slice none none (some (.UnaryOp .USub (.Constant (.int 1) k p1) p2)) p3) pos) (Low.tRevT X.K te) (eRevT m) := by
  refine ⟨Low.pe_revT h.pe, fun G H ρ σ Q w r hp => ?_⟩
  refine h.sem G H ρ σ _ w r (PostR.bind hp fun x st1 ls1 H1 v q1 e1 w1 rv hp1 => ?_)
  clear q1
  split at hp1
  · obtain ⟨a, vs, rfl, sq, rl⟩ := tup_sq rv
    exact ⟨a, vs, rfl, sq, fun p o hd hpn => PostV.newT (G := G.to ls1 st1) w1 (PostV.of hp1) rl.rev hd hpn⟩
  · exact hp1.elim
/-- t[::-1] of a list -/
def eRevL (m : EM) : EM := fun ρ st => (m ρ st).bind fun x st1 => match lstOf st1 x with
  | some ws => .ok (.lst ws.reverse) st1
  | none => .no
def eRevO (m : EM) : EM := fun ρ st => (m ρ st).bind fun x st1 => match lstOf st1 x with
  | some ws => .ok (.loc st1.length) (st1 ++ [some (.lst ws.reverse)])
  | none => .no
theorem ce_revL {e : Expr} {te : TE} {m : EM} {k : Nat} {p1 p2 p3 pos : Pos} (h : CE X Wx e te m) : CE X Wx (.Subscript e (.Slice none none (some (.UnaryOp .USub (.Constant (.int 1) k p1) p2)) p3) pos) (tRevL X.K te) (eRevL m) := by
  refine ⟨pe_revL h.pe, fun G H ρ σ Q w r hp => ?_⟩
  refine h.sem G H ρ σ _ w r (PostR.bind hp fun x st1 ls1 H1 v q1 e1 w1 rv hp1 => ?_)
  clear q1
  cases es : lstOf st1 x with
  | none => rw [es] at hp1; exact hp1.elim
  | some ws =>
    rw [es] at hp1
    obtain ⟨a, vs, rfl, sq, rl⟩ := lst_sq (G := G.to ls1 st1) w1 rv es
    exact ⟨a, vs, rfl, sq, fun p hpn => PostV.newL (G := G.to ls1 st1) w1 (PostV.of hp1) rl.rev hpn⟩
theorem ce_revO {e : Expr} {te : TE} {m : EM} {k : Nat} {p1 p2 p3 pos : Pos} (h : CE X Wx e te m) : CE X Wx (.Subscript e (.Slice none none (some (.UnaryOp .USub (.Constant (.int 1) k p1) p2)) p3) pos) (tRevL X.K te) (eRevO m) := by
  refine ⟨pe_revL h.pe, fun G H ρ σ Q w r hp => ?_⟩
  refine h.sem G H ρ σ _ w r (PostR.bind hp fun x st1 ls1 H1 v q1 e1 w1 rv hp1 => ?_)
  clear q1
  cases es : lstOf st1 x with
  | none => rw [es] at hp1; exact hp1.elim
  | some ws =>
    rw [es] at hp1
    obtain ⟨a, vs, rfl, sq, rl⟩ := lst_sq (G := G.to ls1 st1) w1 rv es
    exact ⟨a, vs, rfl, sq, fun p hpn => post_push w1 hpn hp1 ⟨_, upd_same, rl.rev.mono (Ext.push w1 _ hpn)⟩⟩
theorem post_bl {K : PySem.W.Frag} {st : Stt} {H : Hp} {ls : List Addr} {hid : List Addr} {Wy : Value → Option Addr → Hp → Prop} (w : World K ⟨ls, st, hid⟩ H) {r : Rs W} (h : ∃ st', r = .ok (.bl true) st') : PostR K (RepV K) Wy ⟨ls, st, hid⟩ H r (fun v _ => v = .bl true) := by
  obtain ⟨st', e⟩ := h
  rw [e]
  intro ls' H' v x w' rv
  cases rv
  rfl
/-- the end: the script is there, nothing else -/
theorem law_sp {K : PySem.W.Frag} {H : Hp} {a : Addr} {m : FM} (ns : List Int) (hO : Only H) (hS : SqL K H a (ns.map V.int)) (hm : ∃ st', m [.scr (ns.map .int)] [] = .ok (.bl true) st') :
    spF K 1 m [.ref a] H (fun v _ => v = .bl true) fun _ _ _ => False := by
  have wo : World K ⟨[], [], []⟩ H := ⟨rfl, .nil, fun a h => absurd h List.not_mem_nil, fun a h => absurd h List.not_mem_nil, fun i a ob h => by simp at h⟩
  have nal : ∀ b, ¬ Gm.alive ⟨[], [], []⟩ b := fun b z => by
    rcases z with ⟨i, ob, e, _⟩ | z
    · simp at e
    · exact absurd z List.not_mem_nil
  refine ⟨rfl, ⟨[], [], []⟩, [.scr (ns.map .int)], wo, .cons ?_ .nil, post_bl wo hm⟩
  rcases hS with h | h
  · exact .scr (.inl ⟨h, nal a⟩) rep_ints
  · exact .scr (.inr h) rep_ints
theorem blkE {X : Cx} {scope : Scope} {elt : Expr} {te : TE} {m : EM} (h : ∀ (s : Shared) (H : Hp) (C : Addr) (cl : List (Str × Addr)) (fp : List Addr), ∃ t', CE (X.blk s H scope (compEnvC scope cl C X.env) fp) W0 elt t' m ∧ t' = te) : Blk X scope fun Y => CE Y W0 elt te m := fun s H C cl fp => by
  obtain ⟨_, z, rfl⟩ := h s H C cl fp
  exact z
theorem blkT {X : Cx} {scope : Scope} {ifs : List Expr} {tt : TT} {c : TM} (h : ∀ (s : Shared) (H : Hp) (C : Addr) (cl : List (Str × Addr)) (fp : List Addr), ∃ t', CTs (X.blk s H scope (compEnvC scope cl C X.env) fp) W0 ifs t' c ∧ t' = tt) : Blk X scope fun Y => CTs Y W0 ifs tt c := fun s H C cl fp => by
  obtain ⟨_, z, rfl⟩ := h s H C cl fp
  exact z
theorem law_cx {P : Program} {w : PySem.World} {H : Hp} {s s' : Shared} {e : Value} (h : L2.CX P w [] H s (fun _ _ _ => False) e s') : False := by
  obtain ⟨_, _, _, _, _, _, _, _, _, _, _, _, e⟩ := h
  exact e
end
end Sim
end
section
set_option Elab.async false
set_option linter.all false
set_option maxRecDepth 100000
set_option maxHeartbeats 1000000
open PySem PySem.Spec PyProof.Rows L2
namespace Sim
/-! the mirrors, worked out: one equation for each -/
section
variable {ρ : Ev} {st : Stt}
@[simp] theorem ev_var (i : Nat) : eVar i ρ st = match ρ[i]? with | some (some w) => .ok w st | _ => .no := by unfold eVar; rfl
@[simp] theorem ev_c (w : W) : eC w ρ st = .ok w st := id rfl
@[simp] theorem ev_nil : aNil ρ st = .ok [] st := id rfl
@[simp] theorem ev_yes : tmYes ρ st = .ok true st := id rfl
@[simp] theorem ev_oNone : oNone ρ st = .ok none st := id rfl
/-- what an option tells -/
def optR (o : Option W) (st : Stt) : Rs W := match o with | some w => .ok w st | none => .no
@[simp] theorem optR_some (w : W) : optR (some w) st = .ok w st := id rfl
def optL (o : Option (List W)) (st : Stt) : Rs W := match o with | some w => .ok (.lst w) st | none => .no
@[simp] theorem optL_some (w : List W) : optL (some w) st = .ok (.lst w) st := id rfl
def optO (o : Option (List W)) (st : Stt) : Rs W := match o with | some us => .ok (.loc st.length) (st ++ [some (.lst us)]) | none => .no
@[simp] theorem optO_some (us : List W) : optO (some us) st = .ok (.loc st.length) (st ++ [some (.lst us)]) := id rfl
def consK2 (w : W) (r : Rs (List W)) : Rs (List W) := match r with | .ok ws s => .ok (w :: ws) s | .er x s => .er x s | .no => .no
@[simp] theorem consK2_ok (w : W) (ws : List W) (s : Stt) : consK2 w (.ok ws s) = .ok (w :: ws) s := id rfl
def consK (k : AM) (ρ : Ev) (r : Rs W) : Rs (List W) := match r with | .ok a s => consK2 a (k ρ s) | .er x s => .er x s | .no => .no
@[simp] theorem consK_ok (k : AM) (ρ : Ev) (a : W) (s : Stt) : consK k ρ (.ok a s) = consK2 a (k ρ s) := id rfl
@[simp] theorem ev_cons (m : EM) (k : AM) : aCons m k ρ st = consK k ρ (m ρ st) := by
  unfold aCons consK
  cases m ρ st with
  | ok a s => show (k ρ s).bind _ = consK2 a (k ρ s); cases k ρ s <;> rfl
  | er x s => rfl
  | no => rfl
def tupK  (r : Rs (List W)) : Rs W := match r with | .ok ws s => if ws.length ≤ 1000 then .ok (.tup ws) s else .no | .er x s => .er x s | .no => .no
@[simp] theorem tupK_ok  (ws : List W) (s : Stt) : tupK  (.ok ws s) = if ws.length ≤ 1000 then .ok (.tup ws) s else .no := id rfl
@[simp] theorem ev_tup (k : AM) : eTup k ρ st = tupK (k ρ st) := by unfold eTup tupK; cases k ρ st <;> rfl
def lstK  (r : Rs (List W)) : Rs W := match r with | .ok ws s => if ws.length ≤ 1000 then .ok (.lst ws) s else .no | .er x s => .er x s | .no => .no
@[simp] theorem lstK_ok  (ws : List W) (s : Stt) : lstK  (.ok ws s) = if ws.length ≤ 1000 then .ok (.lst ws) s else .no := id rfl
@[simp] theorem ev_lst (k : AM) : eLst k ρ st = lstK (k ρ st) := by unfold eLst lstK; cases k ρ st <;> rfl
def lstLK  (r : Rs (List W)) : Rs W := match r with | .ok ws s => if ws.length ≤ 1000 then .ok (.loc s.length) (s ++ [some (.lst ws)]) else .no | .er x s => .er x s | .no => .no
@[simp] theorem lstLK_ok  (ws : List W) (s : Stt) : lstLK  (.ok ws s) = if ws.length ≤ 1000 then .ok (.loc s.length) (s ++ [some (.lst ws)]) else .no := id rfl
@[simp] theorem ev_lstL (k : AM) : eLstL k ρ st = lstLK (k ρ st) := by unfold eLstL lstLK; cases k ρ st <;> rfl
def opK2 (f : F2) (x : W) (r : Rs W) : Rs W := match r with | .ok y s => optR (f s x y) s | .er x s => .er x s | .no => .no
@[simp] theorem opK2_ok (f : F2) (x : W) (y : W) (s : Stt) : opK2 f x (.ok y s) = optR (f s x y) s := id rfl
def opK (f : F2) (b : EM) (ρ : Ev) (r : Rs W) : Rs W := match r with | .ok a s => opK2 f a (b ρ s) | .er x s => .er x s | .no => .no
@[simp] theorem opK_ok (f : F2) (b : EM) (ρ : Ev) (a : W) (s : Stt) : opK f b ρ (.ok a s) = opK2 f a (b ρ s) := id rfl
@[simp] theorem ev_op (f : F2) (a b : EM) : eOp f a b ρ st = opK f b ρ (a ρ st) := by
  unfold eOp opK
  cases a ρ st with
  | ok x s => show (b ρ s).bind _ = opK2 f x (b ρ s); cases b ρ s <;> rfl
  | er x s => rfl
  | no => rfl
/-- a value as a test -/
def tvW (w : W) (st : Stt) : Rs Bool := tmV (eC w) [] st
@[simp] theorem tvW_bl (b : Bool) : tvW (.bl b) st = .ok b st := id rfl
def tvK  (r : Rs W) : Rs Bool := match r with | .ok a s => tvW a s | .er x s => .er x s | .no => .no
@[simp] theorem tvK_ok  (a : W) (s : Stt) : tvK  (.ok a s) = tvW a s := id rfl
@[simp] theorem ev_tv (m : EM) : tmV m ρ st = tvK (m ρ st) := by
  unfold tvK tvW tmV
  cases m ρ st with
  | ok a s => cases a <;> rfl
  | er x s => rfl
  | no => rfl
def tnotK  (r : Rs Bool) : Rs Bool := match r with | .ok b s => .ok (!b) s | .er x s => .er x s | .no => .no
@[simp] theorem tnotK_ok  (b : Bool) (s : Stt) : tnotK  (.ok b s) = .ok (!b) s := id rfl
@[simp] theorem ev_tnot (m : TM) : tmNot m ρ st = tnotK (m ρ st) := by unfold tmNot tnotK; cases m ρ st <;> rfl
def tandK (k : TM) (ρ : Ev) (r : Rs Bool) : Rs Bool := match r with | .ok b s => if b = true then k ρ s else .ok false s | .er x s => .er x s | .no => .no
@[simp] theorem tandK_ok (k : TM) (ρ : Ev) (b : Bool) (s : Stt) : tandK k ρ (.ok b s) = if b = true then k ρ s else .ok false s := id rfl
@[simp] theorem ev_tand (m k : TM) : tmAnd m k ρ st = tandK k ρ (m ρ st) := by unfold tmAnd tandK; cases m ρ st <;> rfl
def torK (k : TM) (ρ : Ev) (r : Rs Bool) : Rs Bool := match r with | .ok b s => if b = true then .ok true s else k ρ s | .er x s => .er x s | .no => .no
@[simp] theorem torK_ok (k : TM) (ρ : Ev) (b : Bool) (s : Stt) : torK k ρ (.ok b s) = if b = true then .ok true s else k ρ s := id rfl
@[simp] theorem ev_tor (m k : TM) : tmOr m k ρ st = torK k ρ (m ρ st) := by unfold tmOr torK; cases m ρ st <;> rfl
def fnK (f : F1) (r : Rs (List W)) : Rs W := match r with | .ok ws s => optR (f s ws) s | .er x s => .er x s | .no => .no
@[simp] theorem fnK_ok (f : F1) (ws : List W) (s : Stt) : fnK f (.ok ws s) = optR (f s ws) s := id rfl
@[simp] theorem ev_fn (f : F1) (k : AM) : eFn f k ρ st = fnK f (k ρ st) := by unfold eFn fnK; cases k ρ st <;> rfl
def fnVK (f : FL) (r : Rs (List W)) : Rs W := match r with | .ok ws s => optL (f s ws) s | .er x s => .er x s | .no => .no
@[simp] theorem fnVK_ok (f : FL) (ws : List W) (s : Stt) : fnVK f (.ok ws s) = optL (f s ws) s := id rfl
@[simp] theorem ev_fnV (f : FL) (k : AM) : eFnV f k ρ st = fnVK f (k ρ st) := by unfold eFnV fnVK; cases k ρ st <;> rfl
def fnOK (f : FL) (r : Rs (List W)) : Rs W := match r with | .ok ws s => optO (f s ws) s | .er x s => .er x s | .no => .no
@[simp] theorem fnOK_ok (f : FL) (ws : List W) (s : Stt) : fnOK f (.ok ws s) = optO (f s ws) s := id rfl
@[simp] theorem ev_fnO (f : FL) (k : AM) : eFnO f k ρ st = fnOK f (k ρ st) := by unfold eFnO fnOK; cases k ρ st <;> rfl
def callK (m : FM) (r : Rs (List W)) : Rs W := match r with | .ok ws s => m ws s | .er x s => .er x s | .no => .no
@[simp] theorem callK_ok (m : FM) (ws : List W) (s : Stt) : callK m (.ok ws s) = m ws s := id rfl
@[simp] theorem ev_call (m : FM) (k : AM) : eCall m k ρ st = callK m (k ρ st) := by unfold eCall callK; cases k ρ st <;> rfl
def chK3 (g : F2) (y : W) (r : Rs W) : Rs W := match r with | .ok z s => optR (g s y z) s | .er x s => .er x s | .no => .no
@[simp] theorem chK3_ok (g : F2) (y : W) (z : W) (s : Stt) : chK3 g y (.ok z s) = optR (g s y z) s := id rfl
def chW (g : F2) (y : W) (c : EM) (ρ : Ev) (s : Stt) (o : Option W) : Rs W := match o with
  | some (.bl true) => chK3 g y (c ρ s)
  | some (.bl false) => .ok (.bl false) s
  | _ => .no
@[simp] theorem chW_bl (g : F2) (y : W) (c : EM) (ρ : Ev) (s : Stt) (b : Bool) : chW g y c ρ s (some (.bl b)) = if b = true then chK3 g y (c ρ s) else .ok (.bl false) s := by cases b <;> rfl
def chK2 (f g : F2) (c : EM) (ρ : Ev) (x : W) (r : Rs W) : Rs W := match r with | .ok y s => chW g y c ρ s (f s x y) | .er x s => .er x s | .no => .no
@[simp] theorem chK2_ok (f g : F2) (c : EM) (ρ : Ev) (x : W) (y : W) (s : Stt) : chK2 f g c ρ x (.ok y s) = chW g y c ρ s (f s x y) := id rfl
def chK (f g : F2) (b c : EM) (ρ : Ev) (r : Rs W) : Rs W := match r with | .ok a s => chK2 f g c ρ a (b ρ s) | .er x s => .er x s | .no => .no
@[simp] theorem chK_ok (f g : F2) (b c : EM) (ρ : Ev) (a : W) (s : Stt) : chK f g b c ρ (.ok a s) = chK2 f g c ρ a (b ρ s) := id rfl
@[simp] theorem ev_chain (f g : F2) (a b c : EM) : eChain f g a b c ρ st = chK f g b c ρ (a ρ st) := by
  unfold eChain chK
  cases a ρ st with
  | ok x s =>
    show (b ρ s).bind _ = chK2 f g c ρ x (b ρ s)
    unfold chK2
    cases b ρ s with
    | ok y s2 =>
      show _ = chW g y c ρ s2 (f s2 x y)
      unfold chW
      dsimp only [Rs.bind]
      cases f s2 x y with
      | none => rfl
      | some w => cases w with
        | bl q => cases q with
          | true => show (c ρ s2).bind _ = chK3 g y (c ρ s2); unfold chK3; cases c ρ s2 <;> rfl
          | false => rfl
        | _ => rfl
    | er x s => rfl
    | no => rfl
  | er x s => rfl
  | no => rfl
def negW (w : W) (s : Stt) : Rs W := match w with | .int i => .ok (.int (-i)) s | _ => .no
@[simp] theorem negW_int (i : Int) : negW (.int i) st = .ok (.int (-i)) st := id rfl
def negK  (r : Rs W) : Rs W := match r with | .ok a s => negW a s | .er x s => .er x s | .no => .no
@[simp] theorem negK_ok  (a : W) (s : Stt) : negK  (.ok a s) = negW a s := id rfl
@[simp] theorem ev_neg (m : EM) : eNeg m ρ st = negK (m ρ st) := by unfold eNeg negK negW; cases m ρ st <;> rfl
def revTW (w : W) (s : Stt) : Rs W := match w with | .tup ws => .ok (.tup ws.reverse) s | _ => .no
@[simp] theorem revTW_tup (ws : List W) : revTW (.tup ws) st = .ok (.tup ws.reverse) st := id rfl
def revTK  (r : Rs W) : Rs W := match r with | .ok a s => revTW a s | .er x s => .er x s | .no => .no
@[simp] theorem revTK_ok  (a : W) (s : Stt) : revTK  (.ok a s) = revTW a s := id rfl
@[simp] theorem ev_revT (m : EM) : eRevT m ρ st = revTK (m ρ st) := by unfold eRevT revTK revTW; cases m ρ st <;> rfl
def revLK  (r : Rs W) : Rs W := match r with | .ok a s => optL ((lstOf s a).map List.reverse) s | .er x s => .er x s | .no => .no
@[simp] theorem revLK_ok  (a : W) (s : Stt) : revLK  (.ok a s) = optL ((lstOf s a).map List.reverse) s := id rfl
@[simp] theorem ev_revL (m : EM) : eRevL m ρ st = revLK (m ρ st) := by
  unfold eRevL revLK
  cases m ρ st with
  | ok a s => dsimp only [Rs.bind]; cases lstOf s a <;> rfl
  | er x s => rfl
  | no => rfl
def revOK  (r : Rs W) : Rs W := match r with | .ok a s => optO ((lstOf s a).map List.reverse) s | .er x s => .er x s | .no => .no
@[simp] theorem revOK_ok  (a : W) (s : Stt) : revOK  (.ok a s) = optO ((lstOf s a).map List.reverse) s := id rfl
@[simp] theorem ev_revO (m : EM) : eRevO m ρ st = revOK (m ρ st) := by
  unfold eRevO revOK
  cases m ρ st with
  | ok a s => dsimp only [Rs.bind]; cases lstOf s a <;> rfl
  | er x s => rfl
  | no => rfl
def someW (w : W) (s : Stt) : Rs (Option Int) := match w with | .int i => .ok (some i) s | _ => .no
@[simp] theorem someW_int (i : Int) : someW (.int i) st = .ok (some i) st := id rfl
def oSomeK  (r : Rs W) : Rs (Option Int) := match r with | .ok a s => someW a s | .er x s => .er x s | .no => .no
@[simp] theorem oSomeK_ok  (a : W) (s : Stt) : oSomeK  (.ok a s) = someW a s := id rfl
@[simp] theorem ev_oSome (m : EM) : oSome m ρ st = oSomeK (m ρ st) := by unfold oSome oSomeK someW; cases m ρ st <;> rfl
def slK3 (x : W) (l : Option Int) (r : Rs (Option Int)) : Rs W := match r with | .ok u s => optR (fSl s x l u) s | .er x s => .er x s | .no => .no
@[simp] theorem slK3_ok (x : W) (l : Option Int) (u : Option Int) (s : Stt) : slK3 x l (.ok u s) = optR (fSl s x l u) s := id rfl
def slK2 (x : W) (hi : OM) (ρ : Ev) (r : Rs (Option Int)) : Rs W := match r with | .ok l s => slK3 x l (hi ρ s) | .er x s => .er x s | .no => .no
@[simp] theorem slK2_ok (x : W) (hi : OM) (ρ : Ev) (l : Option Int) (s : Stt) : slK2 x hi ρ (.ok l s) = slK3 x l (hi ρ s) := id rfl
def slK (lo hi : OM) (ρ : Ev) (r : Rs W) : Rs W := match r with | .ok a s => slK2 a hi ρ (lo ρ s) | .er x s => .er x s | .no => .no
@[simp] theorem slK_ok (lo hi : OM) (ρ : Ev) (a : W) (s : Stt) : slK lo hi ρ (.ok a s) = slK2 a hi ρ (lo ρ s) := id rfl
@[simp] theorem ev_sl (m : EM) (lo hi : OM) : eSl m lo hi ρ st = slK lo hi ρ (m ρ st) := by
  unfold eSl slK
  cases m ρ st with
  | ok x s =>
    show (lo ρ s).bind _ = slK2 x hi ρ (lo ρ s)
    unfold slK2
    cases lo ρ s with
    | ok l s2 => show (hi ρ s2).bind _ = slK3 x l (hi ρ s2); unfold slK3; cases hi ρ s2 with
      | ok u s3 => rfl
      | er x s => rfl
      | no => rfl
    | er x s => rfl
    | no => rfl
  | er x s => rfl
  | no => rfl
def slOK3 (x : W) (l : Option Int) (r : Rs (Option Int)) : Rs W := match r with | .ok u s => optO ((lstOf s x).map fun ws => cutW ws l u) s | .er x s => .er x s | .no => .no
@[simp] theorem slOK3_ok (x : W) (l : Option Int) (u : Option Int) (s : Stt) : slOK3 x l (.ok u s) = optO ((lstOf s x).map fun ws => cutW ws l u) s := id rfl
def slOK2 (x : W) (hi : OM) (ρ : Ev) (r : Rs (Option Int)) : Rs W := match r with | .ok l s => slOK3 x l (hi ρ s) | .er x s => .er x s | .no => .no
@[simp] theorem slOK2_ok (x : W) (hi : OM) (ρ : Ev) (l : Option Int) (s : Stt) : slOK2 x hi ρ (.ok l s) = slOK3 x l (hi ρ s) := id rfl
def slOK (lo hi : OM) (ρ : Ev) (r : Rs W) : Rs W := match r with | .ok a s => slOK2 a hi ρ (lo ρ s) | .er x s => .er x s | .no => .no
@[simp] theorem slOK_ok (lo hi : OM) (ρ : Ev) (a : W) (s : Stt) : slOK lo hi ρ (.ok a s) = slOK2 a hi ρ (lo ρ s) := id rfl
@[simp] theorem ev_slO (m : EM) (lo hi : OM) : eSlO m lo hi ρ st = slOK lo hi ρ (m ρ st) := by
  unfold eSlO slOK
  cases m ρ st with
  | ok x s =>
    show (lo ρ s).bind _ = slOK2 x hi ρ (lo ρ s)
    unfold slOK2
    cases lo ρ s with
    | ok l s2 => show (hi ρ s2).bind _ = slOK3 x l (hi ρ s2); unfold slOK3; cases hi ρ s2 with
      | ok u s3 => dsimp only [Rs.bind]; cases lstOf s3 x <;> rfl
      | er x s => rfl
      | no => rfl
    | er x s => rfl
    | no => rfl
  | er x s => rfl
  | no => rfl
def bmK2 (mf : MF) (x : W) (r : Rs (List W)) : Rs W := match r with | .ok ws s => mf x ws s | .er x s => .er x s | .no => .no
@[simp] theorem bmK2_ok (mf : MF) (x : W) (ws : List W) (s : Stt) : bmK2 mf x (.ok ws s) = mf x ws s := id rfl
def bmW (mf : MF) (k : AM) (ρ : Ev) (x : W) (s : Stt) (o : Option (List W)) : Rs W := match o with | some _ => bmK2 mf x (k ρ s) | none => .no
@[simp] theorem bmW_some (mf : MF) (k : AM) (x : W) (us : List W) : bmW mf k ρ x st (some us) = bmK2 mf x (k ρ st) := id rfl
def bmK (mf : MF) (k : AM) (ρ : Ev) (r : Rs W) : Rs W := match r with | .ok a s => bmW mf k ρ a s (lstX s a) | .er x s => .er x s | .no => .no
@[simp] theorem bmK_ok (mf : MF) (k : AM) (ρ : Ev) (a : W) (s : Stt) : bmK mf k ρ (.ok a s) = bmW mf k ρ a s (lstX s a) := id rfl
@[simp] theorem ev_bm (m : EM) (k : AM) (mf : MF) : eBM m k mf ρ st = bmK mf k ρ (m ρ st) := by
  unfold eBM bmK
  cases m ρ st with
  | ok x s =>
    show (match lstX s x with | some _ => (k ρ s).bind _ | none => .no) = bmW mf k ρ x s (lstX s x)
    unfold bmW
    cases lstX s x with
    | none => rfl
    | some us => show (k ρ s).bind _ = bmK2 mf x (k ρ s); unfold bmK2; cases k ρ s <;> rfl
  | er x s => rfl
  | no => rfl
def idxW (k : AM) (ρ : Ev) (w : W) (s : Stt) : Rs W := match w with | .tup us => bmK2 mIdx (.tup us) (k ρ s) | _ => .no
@[simp] theorem idxW_tup (k : AM) (us : List W) : idxW k ρ (.tup us) st = bmK2 mIdx (.tup us) (k ρ st) := id rfl
def idxK (k : AM) (ρ : Ev) (r : Rs W) : Rs W := match r with | .ok a s => idxW k ρ a s | .er x s => .er x s | .no => .no
@[simp] theorem idxK_ok (k : AM) (ρ : Ev) (a : W) (s : Stt) : idxK k ρ (.ok a s) = idxW k ρ a s := id rfl
@[simp] theorem ev_idxT (m : EM) (k : AM) : eIdxT m k ρ st = idxK k ρ (m ρ st) := by
  unfold eIdxT idxK
  cases m ρ st with
  | ok x s =>
    cases x with
    | tup us => show (k ρ s).bind _ = bmK2 mIdx (.tup us) (k ρ s); unfold bmK2; cases k ρ s <;> rfl
    | _ => rfl
  | er x s => rfl
  | no => rfl
def lsW (s : Stt) (o : Option (List Str)) : Rs W := match o with | some xs => if xs.length ≤ 1000 then .ok (.int ((Low.nubS xs).length : Int)) s else .no | none => .no
@[simp] theorem lsW_some (xs : List Str) : lsW st (some xs) = if xs.length ≤ 1000 then .ok (.int ((Low.nubS xs).length : Int)) st else .no := id rfl
def lenSetK  (r : Rs W) : Rs W := match r with | .ok a s => lsW s ((seqOf s a).bind strsOf) | .er x s => .er x s | .no => .no
@[simp] theorem lenSetK_ok  (a : W) (s : Stt) : lenSetK  (.ok a s) = lsW s ((seqOf s a).bind strsOf) := id rfl
@[simp] theorem ev_lenSet (m : EM) : eLenSet m ρ st = lenSetK (m ρ st) := by unfold eLenSet lenSetK lsW; cases m ρ st <;> rfl
def isiTW (ns : List String) (s : Stt) (o : Option String) : Rs W := match o with | some t => optR ((kitAnyB t ns).map .bl) s | none => .no
@[simp] theorem isiTW_some (ns : List String) (t : String) : isiTW ns st (some t) = optR ((kitAnyB t ns).map .bl) st := id rfl
def isiTK (ns : List String) (r : Rs W) : Rs W := match r with | .ok a s => isiTW ns s (tyW s a) | .er x s => .er x s | .no => .no
@[simp] theorem isiTK_ok (ns : List String) (a : W) (s : Stt) : isiTK ns (.ok a s) = isiTW ns s (tyW s a) := id rfl
@[simp] theorem ev_isiT (m : EM) (ns : List String) : eIsiT m ns ρ st = isiTK ns (m ρ st) := by
  unfold eIsiT isiTK isiTW
  cases m ρ st with
  | ok a s =>
    dsimp only [Rs.bind]
    cases tyW s a with
    | none => rfl
    | some t => dsimp only; cases kitAnyB t ns <;> rfl
  | er x s => rfl
  | no => rfl
def andW (k : EM) (ρ : Ev) (w : W) (st : Stt) : Rs W := emAnd (eC w) k ρ st
@[simp] theorem andW_bl (k : EM) (b : Bool) : andW k ρ (.bl b) st = if b = true then k ρ st else .ok (.bl false) st := by cases b <;> rfl
def orW (k : EM) (ρ : Ev) (w : W) (st : Stt) : Rs W := emOr (eC w) k ρ st
@[simp] theorem orW_bl (k : EM) (b : Bool) : orW k ρ (.bl b) st = if b = true then .ok (.bl true) st else k ρ st := by cases b <;> rfl
def notW (w : W) (st : Stt) : Rs W := emNot (eC w) [] st
@[simp] theorem notW_bl (b : Bool) : notW (.bl b) st = .ok (.bl (!b)) st := id rfl
def andK (k : EM) (ρ : Ev) (r : Rs W) : Rs W := match r with | .ok a s => andW k ρ a s | .er x s => .er x s | .no => .no
@[simp] theorem andK_ok (k : EM) (ρ : Ev) (a : W) (s : Stt) : andK k ρ (.ok a s) = andW k ρ a s := id rfl
@[simp] theorem ev_emAnd (m k : EM) : emAnd m k ρ st = andK k ρ (m ρ st) := by unfold andK andW emAnd; cases m ρ st <;> rfl
def orK (k : EM) (ρ : Ev) (r : Rs W) : Rs W := match r with | .ok a s => orW k ρ a s | .er x s => .er x s | .no => .no
@[simp] theorem orK_ok (k : EM) (ρ : Ev) (a : W) (s : Stt) : orK k ρ (.ok a s) = orW k ρ a s := id rfl
@[simp] theorem ev_emOr (m k : EM) : emOr m k ρ st = orK k ρ (m ρ st) := by unfold orK orW emOr; cases m ρ st <;> rfl
def notK  (r : Rs W) : Rs W := match r with | .ok a s => notW a s | .er x s => .er x s | .no => .no
@[simp] theorem notK_ok  (a : W) (s : Stt) : notK  (.ok a s) = notW a s := id rfl
@[simp] theorem ev_emNot (m : EM) : emNot m ρ st = notK (m ρ st) := by
  unfold notK notW emNot
  cases m ρ st with
  | ok a s => cases a <;> rfl
  | er x s => rfl
  | no => rfl
def ifEK (x y : EM) (ρ : Ev) (r : Rs Bool) : Rs W := match r with | .ok b s => if b = true then x ρ s else y ρ s | .er x s => .er x s | .no => .no
@[simp] theorem ifEK_ok (x y : EM) (ρ : Ev) (b : Bool) (s : Stt) : ifEK x y ρ (.ok b s) = if b = true then x ρ s else y ρ s := id rfl
@[simp] theorem ev_emIf (c : TM) (x y : EM) : emIf c x y ρ st = ifEK x y ρ (c ρ st) := by unfold emIf ifEK; cases c ρ st <;> rfl
/-! statements -/
@[simp] theorem ev_next : sNext ρ st = .nx ρ st := id rfl
def seqK (k : SM) (r : RS) : RS := match r with | .nx ρ' st' => k ρ' st' | .rt w st' => .rt w st' | .bk ρ' st' => .bk ρ' st' | .ct ρ' st' => .ct ρ' st' | .er x ρ' st' => .er x ρ' st' | .no => .no
@[simp] theorem ev_seq (m k : SM) : sSeq m k ρ st = seqK k (m ρ st) := by unfold sSeq seqK; rfl
@[simp] theorem seqK_nx (k : SM) : seqK k (.nx ρ st) = k ρ st := id rfl
@[simp] theorem seqK_rt (k : SM) (w : W) : seqK k (.rt w st) = .rt w st := id rfl
@[simp] theorem seqK_bk (k : SM) : seqK k (.bk ρ st) = .bk ρ st := id rfl
@[simp] theorem seqK_ct (k : SM) : seqK k (.ct ρ st) = .ct ρ st := id rfl
def dropK  (ρ : Ev) (r : Rs W) : RS := match r with | .ok _a s => .nx ρ s | .er x s => .er x ρ s | .no => .no
@[simp] theorem dropK_ok  (ρ : Ev) (_a : W) (s : Stt) : dropK  ρ (.ok _a s) = .nx ρ s := id rfl
@[simp] theorem ev_drop (m : EM) : sDrop m ρ st = dropK ρ (m ρ st) := by unfold sDrop dropK; cases m ρ st <;> rfl
def retK  (ρ : Ev) (r : Rs W) : RS := match r with | .ok a s => .rt a s | .er x s => .er x ρ s | .no => .no
@[simp] theorem retK_ok  (ρ : Ev) (a : W) (s : Stt) : retK  ρ (.ok a s) = .rt a s := id rfl
@[simp] theorem ev_ret (m : EM) : sRet m ρ st = retK ρ (m ρ st) := by unfold sRet retK; cases m ρ st <;> rfl
@[simp] theorem ev_retN : sRetN ρ st = .rt .non st := id rfl
def ifK (x y : SM) (ρ : Ev) (r : Rs Bool) : RS := match r with | .ok b s => if b = true then x ρ s else y ρ s | .er x s => .er x ρ s | .no => .no
@[simp] theorem ifK_ok (x y : SM) (ρ : Ev) (b : Bool) (s : Stt) : ifK x y ρ (.ok b s) = if b = true then x ρ s else y ρ s := id rfl
@[simp] theorem ev_if (c : TM) (x y : SM) : sIf c x y ρ st = ifK x y ρ (c ρ st) := by unfold sIf ifK; cases c ρ st <;> rfl
@[simp] theorem ev_brk : sBreak ρ st = .bk ρ st := id rfl
@[simp] theorem ev_cont : sCont ρ st = .ct ρ st := id rfl
def optS (o : Option Ev) (s : Stt) : RS := match o with | some ρ' => .nx ρ' s | none => .no
@[simp] theorem optS_some (ρ' : Ev) : optS (some ρ') st = .nx ρ' st := id rfl
def asgK (g : GM) (ρ : Ev) (r : Rs W) : RS := match r with | .ok a s => optS (g s a ρ) s | .er x s => .er x ρ s | .no => .no
@[simp] theorem asgK_ok (g : GM) (ρ : Ev) (a : W) (s : Stt) : asgK g ρ (.ok a s) = optS (g s a ρ) s := id rfl
@[simp] theorem ev_asg (m : EM) (g : GM) : sAsg m g ρ st = asgK g ρ (m ρ st) := by unfold sAsg asgK optS; cases m ρ st <;> rfl
def parK2 (i j : Nat) (x : W) (ρ : Ev) (r : Rs W) : RS := match r with | .ok y s => .nx ((ρ.set i (some x)).set j (some y)) s | .er x s => .er x ρ s | .no => .no
@[simp] theorem parK2_ok (i j : Nat) (x : W) (ρ : Ev) (y : W) (s : Stt) : parK2 i j x ρ (.ok y s) = .nx ((ρ.set i (some x)).set j (some y)) s := id rfl
def parK (i j : Nat) (b : EM) (ρ : Ev) (r : Rs W) : RS := match r with | .ok a s => parK2 i j a ρ (b ρ s) | .er x s => .er x ρ s | .no => .no
@[simp] theorem parK_ok (i j : Nat) (b : EM) (ρ : Ev) (a : W) (s : Stt) : parK i j b ρ (.ok a s) = parK2 i j a ρ (b ρ s) := id rfl
@[simp] theorem ev_par (i j : Nat) (a b : EM) : sPar i j a b ρ st = parK i j b ρ (a ρ st) := by
  unfold sPar parK
  cases a ρ st with
  | ok x s => show (b ρ s).toS ρ _ = parK2 i j x ρ (b ρ s); unfold parK2; cases b ρ s <;> rfl
  | er x s => rfl
  | no => rfl
def setW (x l k : W) (ρ : Ev) (st3 : Stt) : RS := match l, k with
  | .loc n, .int j => match st3[n]? with
    | some (some (.lst us)) => match ixN us.length j with
      | some m => .nx ρ (st3.set n (some (.lst (us.set m x))))
      | none => .no
    | _ => .no
  | _, _ => .no
theorem setW_ok {x : W} {n : Nat} {j : Int} {us : List W} {m : Nat} (h : st[n]? = some (some (.lst us))) (k : ixN us.length j = some m) : setW x (.loc n) (.int j) ρ st = .nx ρ (st.set n (some (.lst (us.set m x)))) := by
  unfold setW
  dsimp only
  rw [h]
  dsimp only
  rw [k]
def setK3 (x l : W) (ρ : Ev) (r : Rs W) : RS := match r with | .ok k s => setW x l k ρ s | .er x s => .er x ρ s | .no => .no
@[simp] theorem setK3_ok (x l : W) (ρ : Ev) (k : W) (s : Stt) : setK3 x l ρ (.ok k s) = setW x l k ρ s := id rfl
def setK2 (x : W) (i : EM) (ρ : Ev) (r : Rs W) : RS := match r with | .ok l s => setK3 x l ρ (i ρ s) | .er x s => .er x ρ s | .no => .no
@[simp] theorem setK2_ok (x : W) (i : EM) (ρ : Ev) (l : W) (s : Stt) : setK2 x i ρ (.ok l s) = setK3 x l ρ (i ρ s) := id rfl
def setK (o i : EM) (ρ : Ev) (r : Rs W) : RS := match r with | .ok a s => setK2 a i ρ (o ρ s) | .er x s => .er x ρ s | .no => .no
@[simp] theorem setK_ok (o i : EM) (ρ : Ev) (a : W) (s : Stt) : setK o i ρ (.ok a s) = setK2 a i ρ (o ρ s) := id rfl
@[simp] theorem ev_setIx (e o i : EM) : sSetIx e o i ρ st = setK o i ρ (e ρ st) := by
  unfold sSetIx setK
  cases e ρ st with
  | ok x s =>
    show (o ρ s).toS ρ _ = setK2 x i ρ (o ρ s)
    unfold setK2
    cases o ρ s with
    | ok l s2 => show (i ρ s2).toS ρ _ = setK3 x l ρ (i ρ s2); unfold setK3 setW; cases i ρ s2 <;> rfl
    | er x s => rfl
    | no => rfl
  | er x s => rfl
  | no => rfl
@[simp] theorem ev_gname (i : Nat) (w : W) : gmName i st w ρ = some (ρ.set i (some w)) := id rfl
@[simp] theorem ev_gtup (n : Nat) (r : List W → Ev → Option Ev) (ws : List W) : gmTup n r st (.tup ws) ρ = if ws.length = n then r ws ρ else none := id rfl
@[simp] theorem ev_gprs (n : Nat) (r : List W → Ev → Option Ev) (ws : List W) : gmTup n r st (.prs ws) ρ = if ws.length = n then r ws ρ else none := id rfl
@[simp] theorem ev_gcons (i : Nat) (r : List W → Ev → Option Ev) (w : W) (ws : List W) : gmCons i r (w :: ws) ρ = r ws (ρ.set i (some w)) := id rfl
@[simp] theorem ev_gnil : gmNil [] ρ = some ρ := id rfl
noncomputable def forK (g : GM) (body : SM) (ρ : Ev) (r : Rs Src) : RS := match r with | .ok src s => forW src.ok g body src.items ρ s | .er x s => .er x ρ s | .no => .no
@[simp] theorem forK_ok (g : GM) (body : SM) (src : Src) : forK g body ρ (.ok src st) = forW src.ok g body src.items ρ st := id rfl
@[simp] theorem ev_for (im : IM) (g : GM) (body : SM) : sFor im g body ρ st = forK g body ρ (im ρ st) := by unfold sFor forK; cases im ρ st <;> rfl
def lcV (r : Rs (List W)) : Rs W := match r with | .ok ys s => .ok (.lst ys) s | _ => .no
@[simp] theorem lcV_ok (ys : List W) : lcV (.ok ys st) = .ok (.lst ys) st := id rfl
def lcO (r : Rs (List W)) : Rs W := match r with | .ok ys s => .ok (.loc s.length) (s ++ [some (.lst ys)]) | _ => .no
@[simp] theorem lcO_ok (ys : List W) : lcO (.ok ys st) = .ok (.loc st.length) (st ++ [some (.lst ys)]) := id rfl
noncomputable def lcK (g : GM) (c : TM) (m : EM) (vs : List Nat) (ρ : Ev) (r : Rs Src) : Rs W := match r with | .ok src s => if src.items.length ≤ 100000 then lcV (lcW src.ok g c m (wipeE ρ vs) src.items s) else .no | .er x s => .er x s | .no => .no
@[simp] theorem lcK_ok (g : GM) (c : TM) (m : EM) (vs : List Nat) (src : Src) : lcK g c m vs ρ (.ok src st) = if src.items.length ≤ 100000 then lcV (lcW src.ok g c m (wipeE ρ vs) src.items st) else .no := id rfl
@[simp] theorem ev_lc (im : IM) (g : GM) (c : TM) (m : EM) (vs : List Nat) : eLc im g c m vs ρ st = lcK g c m vs ρ (im ρ st) := by
  unfold eLc lcK lcV
  cases im ρ st with
  | ok src s =>
    dsimp only [Rs.bind]
    split
    · cases lcW src.ok g c m (wipeE ρ vs) src.items s <;> rfl
    · rfl
  | er x s => rfl
  | no => rfl
noncomputable def lcLK (g : GM) (c : TM) (m : EM) (vs : List Nat) (ρ : Ev) (r : Rs Src) : Rs W := match r with | .ok src s => if src.items.length ≤ 100000 then lcO (lcW src.ok g c m (wipeE ρ vs) src.items s) else .no | .er x s => .er x s | .no => .no
@[simp] theorem lcLK_ok (g : GM) (c : TM) (m : EM) (vs : List Nat) (src : Src) : lcLK g c m vs ρ (.ok src st) = if src.items.length ≤ 100000 then lcO (lcW src.ok g c m (wipeE ρ vs) src.items st) else .no := id rfl
@[simp] theorem ev_lcL (im : IM) (g : GM) (c : TM) (m : EM) (vs : List Nat) : eLcL im g c m vs ρ st = lcLK g c m vs ρ (im ρ st) := by
  unfold eLcL lcLK lcO
  cases im ρ st with
  | ok src s =>
    dsimp only [Rs.bind]
    split
    · cases lcW src.ok g c m (wipeE ρ vs) src.items s <;> rfl
    · rfl
  | er x s => rfl
  | no => rfl
def srcW (w : W) (s : Stt) (o : Option (List W)) : Rs Src := match o with | some ws => .ok ⟨ws, okOf w ws⟩ s | none => .no
@[simp] theorem srcW_some (w : W) (ws : List W) : srcW w st (some ws) = .ok ⟨ws, okOf w ws⟩ st := id rfl
def iseqK  (r : Rs W) : Rs Src := match r with | .ok a s => srcW a s (itemsOf s a) | .er x s => .er x s | .no => .no
@[simp] theorem iseqK_ok  (a : W) (s : Stt) : iseqK  (.ok a s) = srcW a s (itemsOf s a) := id rfl
@[simp] theorem ev_iseq (m : EM) : iSeq m ρ st = iseqK (m ρ st) := by unfold iSeq iseqK srcW; cases m ρ st <;> rfl
def rng1W (ws : List W) (st : Stt) : Rs Src := iRange1 (fun _ s => .ok ws s) [] st
def rng1K  (r : Rs (List W)) : Rs Src := match r with | .ok ws s => rng1W ws s | .er x s => .er x s | .no => .no
@[simp] theorem rng1K_ok  (ws : List W) (s : Stt) : rng1K  (.ok ws s) = rng1W ws s := id rfl
@[simp] theorem ev_rng1 (k : AM) : iRange1 k ρ st = rng1K (k ρ st) := by unfold rng1K rng1W iRange1; cases k ρ st <;> rfl
theorem rng1_ok {j : Int} (h0 : -(2 ^ 62) ≤ j) (h : j < 2 ^ 62) : rng1W [.int j] st = .ok ⟨rngW 0 j.toNat, fun _ => True⟩ st := by
  show (if -(2 ^ 62) ≤ j ∧ j < 2 ^ 62 then Rs.ok (⟨rngW 0 j.toNat, fun _ => True⟩ : Src) st else .no) = _
  rw [if_pos ⟨h0, h⟩]
theorem rng1_nat {n : Nat} (h : n ≤ 100000) : rng1W [.int (n : Int)] st = .ok ⟨rngW 0 n, fun _ => True⟩ st := by
  rw [rng1_ok (by omega) (by omega), Int.toNat_natCast]
@[simp] theorem rng_len (lo : Int) (n : Nat) : (rngW lo n).length = n := by simp [rngW]
def rng2W (ws : List W) (st : Stt) : Rs Src := iRange2 (fun _ s => .ok ws s) [] st
theorem rng2_ok {i j : Int} (h0 : -(2 ^ 62) ≤ i) (h1 : i < 2 ^ 62) (h2 : -(2 ^ 62) ≤ j) (h : j < 2 ^ 62) : rng2W [.int i, .int j] st = .ok ⟨rngW i (j - i).toNat, fun _ => True⟩ st := by
  show (if -(2 ^ 62) ≤ i ∧ i < 2 ^ 62 ∧ -(2 ^ 62) ≤ j ∧ j < 2 ^ 62 then Rs.ok (⟨rngW i (j - i).toNat, fun _ => True⟩ : Src) st else .no) = _
  rw [if_pos ⟨h0, h1, h2, h⟩]
def rng2K  (r : Rs (List W)) : Rs Src := match r with | .ok ws s => rng2W ws s | .er x s => .er x s | .no => .no
@[simp] theorem rng2K_ok  (ws : List W) (s : Stt) : rng2K  (.ok ws s) = rng2W ws s := id rfl
@[simp] theorem ev_rng2 (k : AM) : iRange2 k ρ st = rng2K (k ρ st) := by unfold rng2K rng2W iRange2; cases k ρ st <;> rfl
@[simp] theorem wipe_nil (ρ : Ev) : wipeE ρ [] = ρ := id rfl
@[simp] theorem wipe_cons (ρ : Ev) (v : Nat) (vs : List Nat) : wipeE ρ (v :: vs) = (wipeE ρ vs).set v none := id rfl
/-- a def's end -/
def funK (r : RS) : Rs W := match r with
  | .nx _ st' => .ok .non st'
  | .rt w st' => .ok w st'
  | .er x _ st' => .er x st'
  | _ => .no
@[simp] theorem funK_nx : funK (.nx ρ st) = .ok .non st := id rfl
@[simp] theorem funK_rt (w : W) : funK (.rt w st) = .ok w st := id rfl
@[simp] theorem ev_fun (n : Nat) (b : SM) (ws : List W) : mFun n b ws st = funK (b (entry n ws) st) := id rfl
/-! operations -/
@[simp] theorem f_addI (i j : Int) : fAdd st (.int i) (.int j) = some (.int (i + j)) := id rfl
@[simp] theorem f_addT (xs ys : List W) : fAdd st (.tup xs) (.tup ys) = if xs.length + ys.length ≤ 100000 then some (.tup (xs ++ ys)) else none := id rfl
@[simp] theorem f_addL (xs ys : List W) : fAdd st (.lst xs) (.lst ys) = fCatL st (.lst xs) (.lst ys) := id rfl
@[simp] theorem f_sub (i j : Int) : fSub st (.int i) (.int j) = some (.int (i - j)) := id rfl
@[simp] theorem f_lt (i j : Int) : fLt st (.int i) (.int j) = some (.bl (decide (i < j))) := id rfl
@[simp] theorem f_le (i j : Int) : fLe st (.int i) (.int j) = some (.bl (decide (i ≤ j))) := id rfl
@[simp] theorem f_gt (i j : Int) : fGt st (.int i) (.int j) = some (.bl (decide (j < i))) := id rfl
@[simp] theorem f_ge (i j : Int) : fGe st (.int i) (.int j) = some (.bl (decide (j ≤ i))) := id rfl
theorem f_mod (i j : Int) (h : 0 < j) : fMod st (.int i) (.int j) = some (.int (i % j)) := by
  show (if decide (0 < j) = true then _ else _) = _
  rw [if_pos (decide_eq_true h)]
theorem f_div (i j : Int) (h : 0 < j) (k : j < 2 ^ 62) : fDiv st (.int i) (.int j) = some (.int (i / j)) := by
  show (if decide (0 < j ∧ j < 2 ^ 62) = true then _ else _) = _
  rw [if_pos (decide_eq_true ⟨h, k⟩)]
theorem f_mul (i j : Int) (h : i.natAbs < 2 ^ 1000) (k : j.natAbs < 2 ^ 1000) : fMul st (.int i) (.int j) = some (.int (i * j)) := by
  show (if mulOk i j = true then _ else _) = _
  rw [if_pos (show mulOk i j = true from decide_eq_true ⟨h, k⟩)]
theorem f_pow (i j : Int) (h : i.natAbs < 2 ^ 1000) (k : 0 ≤ j) (l : j ≤ 1000) : fPow st (.int i) (.int j) = some (.int (i ^ j.toNat)) := by
  show (if powOk i j = true then _ else _) = _
  rw [if_pos (show powOk i j = true from decide_eq_true ⟨h, k, l⟩)]
@[simp] theorem f_isi (x : W) (T : String) : fIsi st [x, .ty T] = match tyW st x with | some t => (kitB t T).map .bl | none => none := by unfold fIsi; rfl
@[simp] theorem ty_int (i : Int) : tyW st (.int i) = some "int" := id rfl
@[simp] theorem ty_str (i : Str) : tyW st (.str i) = some "str" := id rfl
@[simp] theorem ty_tup (i : List W) : tyW st (.tup i) = some "tuple" := id rfl
@[simp] theorem ty_lst (i : List W) : tyW st (.lst i) = some "list" := id rfl
@[simp] theorem k_int : kitB "int" "int" = some true := by decide +kernel
@[simp] theorem k_intb : kitB "int" "bool" = some false := by decide +kernel
@[simp] theorem k_str : kitB "str" "str" = some true := by decide +kernel
@[simp] theorem k_tup : kitB "tuple" "tuple" = some true := by decide +kernel
@[simp] theorem k_lst : kitB "list" "list" = some true := by decide +kernel
@[simp] theorem f_len (x : W) : fLen st [x] = match lenOf st x with | some n => some (.int (n : Int)) | none => none := by
  unfold fLen
  dsimp only
  cases lenOf st x <;> rfl
@[simp] theorem len_tup (ws : List W) : lenOf st (.tup ws) = some ws.length := id rfl
@[simp] theorem len_lst (ws : List W) : lenOf st (.lst ws) = some ws.length := id rfl
@[simp] theorem len_str (z : Str) : lenOf st (.str z) = if z.length ≤ 100000 then some z.length else none := id rfl
@[simp] theorem len_loc (n : Nat) : lenOf st (.loc n) = match st[n]? with | some (some (.lst ws)) => some ws.length | some (some (.dic kvs)) => some kvs.length | _ => none := by unfold lenOf; rfl
@[simp] theorem sq_tup (ws : List W) : seqOf st (.tup ws) = some ws := id rfl
@[simp] theorem sq_lst (ws : List W) : seqOf st (.lst ws) = some ws := id rfl
@[simp] theorem sq_scr (ws : List W) : seqOf st (.scr ws) = some ws := id rfl
@[simp] theorem sq_loc (n : Nat) : seqOf st (.loc n) = match st[n]? with | some (some (.lst ws)) => some ws | _ => none := by unfold seqOf; rfl
@[simp] theorem ls_lst (ws : List W) : lstOf st (.lst ws) = some ws := id rfl
@[simp] theorem ls_scr (ws : List W) : lstOf st (.scr ws) = some ws := id rfl
@[simp] theorem ls_loc (n : Nat) : lstOf st (.loc n) = match st[n]? with | some (some (.lst ws)) => some ws | _ => none := by unfold lstOf; rfl
@[simp] theorem it_tup (ws : List W) : itemsOf st (.tup ws) = some ws := id rfl
@[simp] theorem it_lst (ws : List W) : itemsOf st (.lst ws) = some ws := id rfl
@[simp] theorem it_scr (ws : List W) : itemsOf st (.scr ws) = some ws := id rfl
@[simp] theorem it_loc (n : Nat) : itemsOf st (.loc n) = seqOf st (.loc n) := id rfl
@[simp] theorem okOf_tup (us ws : List W) : okOf (.tup us) ws = fun _ => True := id rfl
@[simp] theorem okOf_lst (us ws : List W) : okOf (.lst us) ws = fun _ => True := id rfl
@[simp] theorem okOf_scr (us ws : List W) : okOf (.scr us) ws = fun _ => True := id rfl
@[simp] theorem ix_tup' (ws : List W) (i : Int) : fIx st (.tup ws) (.int i) = atI ws i := id rfl
@[simp] theorem ix_lst' (ws : List W) (i : Int) : fIx st (.lst ws) (.int i) = atI ws i := id rfl
@[simp] theorem ix_scr' (ws : List W) (i : Int) : fIx st (.scr ws) (.int i) = atI ws i := id rfl
@[simp] theorem ix_loc' (n : Nat) (i : Int) : fIx st (.loc n) (.int i) = match seqOf st (.loc n) with | some ws => atI ws i | none => none := id rfl
theorem atI_nat {α : Type} (xs : List α) (i : Nat) : atI xs (i : Int) = xs[i]? := by
  unfold atI ixN
  rw [if_pos (by omega)]
  by_cases h : (i : Int) < xs.length
  · rw [if_pos h]; rfl
  · rw [if_neg h, List.getElem?_eq_none (by omega)]; rfl
theorem atI_pos {α : Type} (xs : List α) (i : Int) (h : 0 ≤ i) : atI xs i = xs[i.toNat]? := by
  have := atI_nat xs i.toNat
  rwa [Int.toNat_of_nonneg h] at this
@[simp] theorem atI_0 {α : Type} (xs : List α) : atI xs 0 = xs[0]? := atI_nat xs 0
@[simp] theorem atI_1 {α : Type} (xs : List α) : atI xs 1 = xs[1]? := atI_nat xs 1
@[simp] theorem atI_2 {α : Type} (xs : List α) : atI xs 2 = xs[2]? := atI_nat xs 2
@[simp] theorem f_max2 (i j : Int) : fMax st [.int i, .int j] = some (.int (max i j)) := by
  show some (W.int (if j > i then j else i)) = _
  congr 2
  split <;> omega
@[simp] theorem f_min2 (i j : Int) : fMin st [.int i, .int j] = some (.int (min i j)) := by
  show some (W.int (if j < i then j else i)) = _
  congr 2
  split <;> omega
@[simp] theorem f_abs (i : Int) : fAbs st [.int i] = some (.int (i.natAbs : Int)) := by
  show some (W.int (if i < 0 then -i else i)) = _
  congr 2
  split <;> omega
theorem blsOf_map {α : Type} (f : α → Bool) : ∀ xs : List α, blsOf (xs.map fun a => .bl (f a)) = some (xs.map f)
  | [] => rfl
  | a :: r => by rw [List.map_cons, blsOf]; rw [blsOf_map f r]; rfl
theorem strsOf_map : ∀ xs : List Str, strsOf (xs.map .str) = some xs
  | [] => rfl
  | a :: r => by rw [List.map_cons, strsOf]; rw [strsOf_map r]; rfl
theorem intsOf_map : ∀ xs : List Int, intsOf (xs.map .int) = some xs
  | [] => rfl
  | a :: r => by rw [List.map_cons, intsOf]; rw [intsOf_map r]; rfl
theorem fAll_map {α : Type} (f : α → Bool) (xs : List α) : fAll st [.lst (xs.map fun a => .bl (f a))] = some (.bl (xs.all f)) := by
  show (match (lstOf st (.lst _)).bind blsOf with | some bs => some (W.bl (bs.all id)) | none => none) = _
  rw [ls_lst]
  show (match blsOf _ with | some bs => some (W.bl (bs.all id)) | none => none) = _
  rw [blsOf_map]
  simp
theorem fAny_map {α : Type} (f : α → Bool) (xs : List α) : fAny st [.lst (xs.map fun a => .bl (f a))] = some (.bl (xs.any f)) := by
  show (match (lstOf st (.lst _)).bind blsOf with | some bs => some (W.bl (bs.any id)) | none => none) = _
  rw [ls_lst]
  show (match blsOf _ with | some bs => some (W.bl (bs.any id)) | none => none) = _
  rw [blsOf_map]
  simp
/-! comprehensions, loops -/
theorem lcW_pure {ok : Stt → Prop} {g : GM} {c : TM} {m : EM} {p : W → Bool} {f : W → W} (hk : ok st) : ∀ (ws : List W), (∀ w ∈ ws, ∃ ρ1, g st w ρ = some ρ1 ∧ c ρ1 st = .ok (p w) st ∧ (p w = true → m ρ1 st = .ok (f w) st)) →
    lcW ok g c m ρ ws st = .ok ((ws.filter p).map f) st
  | [], _ => by rw [lcW, if_pos hk]; rfl
  | w :: ws, h => by
    obtain ⟨ρ1, h1, h2, h3⟩ := h w List.mem_cons_self
    rw [lcW, if_pos hk, h1]
    dsimp only
    rw [h2]
    have ih := lcW_pure hk ws fun u hu => h u (List.mem_cons_of_mem _ hu)
    cases hp : p w with
    | true => simp [h3 hp, ih, hp]
    | false => simp [ih, hp]
theorem lcW_map {ok : Stt → Prop} {g : GM} {m : EM} {f : W → W} (hk : ok st) (ws : List W) (h : ∀ w ∈ ws, ∃ ρ1, g st w ρ = some ρ1 ∧ m ρ1 st = .ok (f w) st) : lcW ok g tmYes m ρ ws st = .ok (ws.map f) st := by
  have := lcW_pure (ok := ok) (g := g) (c := tmYes) (m := m) (p := fun _ => true) (f := f) (ρ := ρ) hk ws fun w hw => let ⟨ρ1, a, b⟩ := h w hw; ⟨ρ1, a, rfl, fun _ => b⟩
  rwa [List.filter_eq_self.mpr fun _ _ => rfl] at this
theorem lcW_true {ok : Stt → Prop} {g : GM} {m : EM} (hk : ok st) (ws : List W) (h : ∀ w ∈ ws, ∃ ρ1, g st w ρ = some ρ1 ∧ m ρ1 st = .ok (.bl true) st) : lcW ok g tmYes m ρ ws st = .ok (List.replicate ws.length (.bl true)) st := by
  rw [lcW_map (f := fun _ => .bl true) hk ws h, List.map_const']
@[simp] theorem fAll_rep (n : Nat) : fAll st [.lst (List.replicate n (.bl true))] = some (.bl true) := by
  have := fAll_map (st := st) (fun _ : Nat => true) (List.range n)
  rw [List.map_const', List.length_range] at this
  rw [this]
  simp
/-- with a store that changes: by an invariant on how many are there, and on what they are -/
theorem lcW_inv {ok : Stt → Prop} {g : GM} {m : EM} (I : List W → Stt → Prop) : ∀ (ws : List W) (acc : List W) (st : Stt), I acc st →
    (∀ (w : W) (acc : List W) (st : Stt), w ∈ ws → I acc st → ok st ∧ ∃ ρ1, g st w ρ = some ρ1 ∧ ∃ y st', m ρ1 st = .ok y st' ∧ I (acc ++ [y]) st') → (∀ acc st, I acc st → ok st) →
    ∃ ys st', lcW ok g tmYes m ρ ws st = .ok ys st' ∧ ys.length = ws.length ∧ I (acc ++ ys) st'
  | [], acc, st, hi, _, hk => ⟨[], st, by rw [lcW, if_pos (hk _ _ hi)], rfl, by rw [List.append_nil]; exact hi⟩
  | w :: ws, acc, st, hi, h, hk => by
    obtain ⟨hok, ρ1, h1, y, st1, h2, hi1⟩ := h w acc st List.mem_cons_self hi
    obtain ⟨ys, st2, h3, h4, h5⟩ := lcW_inv I ws (acc ++ [y]) st1 hi1 (fun u acc st hu => h u acc st (List.mem_cons_of_mem _ hu)) hk
    refine ⟨y :: ys, st2, ?_, by simp [h4], by simpa using h5⟩
    rw [lcW, if_pos hok, h1]
    simp [h2, h3]
theorem forW_nil {ok : Stt → Prop} {g : GM} {body : SM} (hk : ok st) : forW ok g body [] ρ st = .nx ρ st := by rw [forW, if_pos hk]
theorem forW_nx {ok : Stt → Prop} {g : GM} {body : SM} {w : W} {ws : List W} {ρ1 ρ2 : Ev} {st2 : Stt} (hk : ok st) (hg : g st w ρ = some ρ1) (hb : body ρ1 st = .nx ρ2 st2) : forW ok g body (w :: ws) ρ st = forW ok g body ws ρ2 st2 := by
  rw [forW, if_pos hk, hg]
  dsimp only
  rw [hb]
  rfl
theorem forW_ct {ok : Stt → Prop} {g : GM} {body : SM} {w : W} {ws : List W} {ρ1 ρ2 : Ev} {st2 : Stt} (hk : ok st) (hg : g st w ρ = some ρ1) (hb : body ρ1 st = .ct ρ2 st2) : forW ok g body (w :: ws) ρ st = forW ok g body ws ρ2 st2 := by
  rw [forW, if_pos hk, hg]
  dsimp only
  rw [hb]
  rfl
theorem forW_bk {ok : Stt → Prop} {g : GM} {body : SM} {w : W} {ws : List W} {ρ1 ρ2 : Ev} {st2 : Stt} (hk : ok st) (hg : g st w ρ = some ρ1) (hb : body ρ1 st = .bk ρ2 st2) : forW ok g body (w :: ws) ρ st = .nx ρ2 st2 := by
  rw [forW, if_pos hk, hg]
  dsimp only
  rw [hb]
  rfl
theorem forW_rt {ok : Stt → Prop} {g : GM} {body : SM} {w u : W} {ws : List W} {ρ1 : Ev} {st2 : Stt} (hk : ok st) (hg : g st w ρ = some ρ1) (hb : body ρ1 st = .rt u st2) : forW ok g body (w :: ws) ρ st = .rt u st2 := by
  rw [forW, if_pos hk, hg]
  dsimp only
  rw [hb]
  rfl
theorem forW_inv {ok : Stt → Prop} {g : GM} {body : SM} (I : Nat → Ev → Stt → Prop) : ∀ (ws : List W) (n : Nat) (ρ : Ev) (st : Stt), I n ρ st →
    (∀ (i : Nat) (w : W) (ρ : Ev) (st : Stt), ws[i]? = some w → I (n + i) ρ st → ok st ∧ ∃ ρ1, g st w ρ = some ρ1 ∧ ∃ ρ' st', (body ρ1 st = .nx ρ' st' ∨ body ρ1 st = .ct ρ' st') ∧ I (n + i + 1) ρ' st') → (∀ n ρ st, I n ρ st → ok st) →
    ∃ ρ' st', forW ok g body ws ρ st = .nx ρ' st' ∧ I (n + ws.length) ρ' st'
  | [], n, ρ, st, hi, _, hk => ⟨ρ, st, by rw [forW, if_pos (hk _ _ _ hi)], hi⟩
  | w :: ws, n, ρ, st, hi, h, hk => by
    obtain ⟨hok, ρ1, h1, ρ2, st1, h2, hi1⟩ := h 0 w ρ st rfl hi
    obtain ⟨ρ3, st2, h3, h4⟩ := forW_inv I ws (n + 1) ρ2 st1 hi1 (fun i u ρ st hu hi => by
      have := h (i + 1) u ρ st (by simpa using hu) (by rw [show n + (i + 1) = n + 1 + i by omega]; exact hi)
      rw [show n + (i + 1) + 1 = n + 1 + i + 1 by omega] at this
      exact this) hk
    refine ⟨ρ3, st2, ?_, by rw [show n + (w :: ws).length = n + 1 + ws.length by simp; omega]; exact h4⟩
    rw [forW, if_pos hok, h1]
    dsimp only
    rcases h2 with h2 | h2 <;> (rw [h2]; exact h3)
/-! data -/
mutual
def datW : Nat → W → Bool
  | _, .non => true
  | _, .bl _ => true
  | _, .int _ => true
  | _, .str x => PyData.strOk x
  | n, .tup ws => decide (0 < n) && datWs (n - 1) ws
  | n, .lst ws => decide (0 < n) && datWs (n - 1) ws
  | _, .dic _ => false
  | _, .ty _ => false
  | _, .obj _ => false
  | _, .loc _ => false
  | _, .prs _ => false
  | _, .scr _ => false
def datWs : Nat → List W → Bool
  | _, [] => true
  | n, w :: ws => datW n w && datWs n ws
end
theorem depthAll_nil : PyData.depthAll [] = 0 := by simp only [PyData.depthAll]
mutual
theorem dat_toD : ∀ (n : Nat) (w : W), datW n w = true → ∃ d, (∀ st, toD st w = some d) ∧ toD0 w = some d ∧ d.canLay0 = true ∧ d.depth ≤ n ∧ PyData.eqv d d = true
  | _, .non, _ => ⟨.none, fun _ => rfl, rfl, rfl, by simp only [PyData.depth]; omega, rfl⟩
  | _, .bl b, _ => ⟨.bool b, fun _ => rfl, rfl, rfl, by simp only [PyData.depth]; omega, by simp only [PyData.eqv, beq_self_eq_true]⟩
  | _, .int i, _ => ⟨.int i, fun _ => rfl, rfl, rfl, by simp only [PyData.depth]; omega, by simp only [PyData.eqv, beq_self_eq_true]⟩
  | _, .str x, h => ⟨.str x, fun _ => rfl, rfl, by simp only [PyData.canLay0]; rw [datW] at h; exact h, by simp only [PyData.depth]; omega, by simp only [PyData.eqv, beq_self_eq_true]⟩
  | n, .tup ws, h => by
    rw [datW, Bool.and_eq_true] at h
    obtain ⟨ds, h1, h2, h3, h4, h5⟩ := dats_toD (n - 1) ws h.2
    have h0 : 0 < n := of_decide_eq_true h.1
    exact ⟨.tuple ds, fun st => by rw [toD, h1 st]; rfl, by rw [toD0, h2]; rfl, by simp only [PyData.canLay0]; exact h3, by simp only [PyData.depth]; omega, by simp only [PyData.eqv]; exact h5⟩
  | n, .lst ws, h => by
    rw [datW, Bool.and_eq_true] at h
    obtain ⟨ds, h1, h2, h3, h4, h5⟩ := dats_toD (n - 1) ws h.2
    have h0 : 0 < n := of_decide_eq_true h.1
    exact ⟨.list ds, fun st => by rw [toD, h1 st]; rfl, by rw [toD0, h2]; rfl, by simp only [PyData.canLay0]; exact h3, by simp only [PyData.depth]; omega, by simp only [PyData.eqv]; exact h5⟩
theorem dats_toD : ∀ (n : Nat) (ws : List W), datWs n ws = true → ∃ ds, (∀ st, toDs st ws = some ds) ∧ toD0s ws = some ds ∧ PyData.canLayAll0 ds = true ∧ PyData.depthAll ds ≤ n ∧ PyData.eqvAll ds ds = true
  | _, [], _ => ⟨[], fun _ => by rw [toDs], by rw [toD0s], by simp only [PyData.canLayAll0], by rw [depthAll_nil]; omega, by simp only [PyData.eqvAll]⟩
  | n, w :: ws, h => by
    rw [datWs, Bool.and_eq_true] at h
    obtain ⟨d, a1, a2, a3, a4, a5⟩ := dat_toD n w h.1
    obtain ⟨ds, b1, b2, b3, b4, b5⟩ := dats_toD n ws h.2
    refine ⟨d :: ds, fun st => by rw [toDs, a1 st, b1 st], by rw [toD0s, a2, b2], by simp only [PyData.canLayAll0]; rw [a3, b3]; rfl, by simp only [PyData.depthAll]; omega, by simp only [PyData.eqvAll]; rw [a5, b5]; rfl⟩
end
theorem shaped_of {d : PyData} (h : d.canLay0 = true) (k : d.depth ≤ 64) : SeqAt.shaped d = true := by
  show (d.canLay0 && decide (d.depth ≤ 64)) = true
  rw [h, decide_eq_true k]; rfl
theorem fEq_same {w : W} (h : datW 64 w = true) : fEq st w w = some (.bl true) := by
  obtain ⟨d, h1, _, h3, h4, h5⟩ := dat_toD 64 w h
  unfold fEq
  rw [h1 st]
  dsimp only
  rw [if_pos ⟨shaped_of h3 h4, shaped_of h3 h4⟩, h5]
theorem fNe_same {w : W} (h : datW 64 w = true) : fNe st w w = some (.bl false) := by
  obtain ⟨d, h1, _, h3, h4, h5⟩ := dat_toD 64 w h
  unfold fNe
  rw [h1 st]
  dsimp only
  rw [if_pos ⟨shaped_of h3 h4, shaped_of h3 h4⟩, h5]
  rfl
@[simp] theorem fEq_int (i j : Int) : fEq st (.int i) (.int j) = some (.bl (i == j)) := by
  unfold fEq toD
  dsimp only
  rw [if_pos ⟨shaped_of rfl (by simp only [PyData.depth]; omega), shaped_of rfl (by simp only [PyData.depth]; omega)⟩]
  simp only [PyData.eqv]
@[simp] theorem fNe_int (i j : Int) : fNe st (.int i) (.int j) = some (.bl (i != j)) := by
  unfold fNe toD
  dsimp only
  rw [if_pos ⟨shaped_of rfl (by simp only [PyData.depth]; omega), shaped_of rfl (by simp only [PyData.depth]; omega)⟩]
  simp only [PyData.eqv]
  rfl
theorem fEq_str (a b : Str) (h : PyData.strOk a = true) (k : PyData.strOk b = true) : fEq st (.str a) (.str b) = some (.bl (a == b)) := by
  unfold fEq toD
  dsimp only
  rw [if_pos ⟨shaped_of (by simp only [PyData.canLay0]; exact h) (by simp only [PyData.depth]; omega), shaped_of (by simp only [PyData.canLay0]; exact k) (by simp only [PyData.depth]; omega)⟩]
  simp only [PyData.eqv]
theorem fNe_str (a b : Str) (h : PyData.strOk a = true) (k : PyData.strOk b = true) : fNe st (.str a) (.str b) = some (.bl (a != b)) := by
  unfold fNe toD
  dsimp only
  rw [if_pos ⟨shaped_of (by simp only [PyData.canLay0]; exact h) (by simp only [PyData.depth]; omega), shaped_of (by simp only [PyData.canLay0]; exact k) (by simp only [PyData.depth]; omega)⟩]
  simp only [PyData.eqv]
  rfl
/-! frozen: what has no place in it -/
mutual
def nlW : W → Bool
  | .tup ws => nlWs ws
  | .lst ws => nlWs ws
  | .prs ws => nlWs ws
  | .scr ws => nlWs ws
  | .dic kvs => nlWk kvs
  | .loc _ => false
  | .non => true
  | .bl _ => true
  | .int _ => true
  | .str _ => true
  | .ty _ => true
  | .obj _ => true
def nlWs : List W → Bool
  | [] => true
  | w :: ws => nlW w && nlWs ws
def nlWk : List (Key × W) → Bool
  | [] => true
  | (_, w) :: ws => nlW w && nlWk ws
end
mutual
theorem nl_ok (n : Nat) : ∀ w : W, nlW w = true → okL n w = true
  | .tup ws, h => by rw [nlW] at h; rw [okL]; exact nls_ok n ws h
  | .lst ws, h => by rw [nlW] at h; rw [okL]; exact nls_ok n ws h
  | .prs ws, h => by rw [nlW] at h; rw [okL]; exact nls_ok n ws h
  | .scr ws, h => by rw [nlW] at h; rw [okL]; exact nls_ok n ws h
  | .dic ws, h => by rw [nlW] at h; rw [okL]; exact nlk_ok n ws h
  | .loc _, h => by rw [nlW] at h; cases h
  | .non, _ => by rw [okL]
  | .bl _, _ => by rw [okL]
  | .int _, _ => by rw [okL]
  | .str _, _ => by rw [okL]
  | .ty _, _ => by rw [okL]
  | .obj _, _ => by rw [okL]
theorem nls_ok (n : Nat) : ∀ w : List W, nlWs w = true → okLs n w = true
  | [], _ => by rw [okLs]
  | w :: ws, h => by rw [nlWs, Bool.and_eq_true] at h; rw [okLs, nl_ok n w h.1, nls_ok n ws h.2]; rfl
theorem nlk_ok (n : Nat) : ∀ w : List (Key × W), nlWk w = true → okLk n w = true
  | [], _ => by rw [okLk]
  | (k, w) :: ws, h => by rw [nlWk, Bool.and_eq_true] at h; rw [okLk, nl_ok n w h.1, nlk_ok n ws h.2]; rfl
end
mutual
theorem nl_fz (n : Nat) (st : Stt) : ∀ w : W, nlW w = true → fzW n st w = some w
  | .tup ws, h => by rw [nlW] at h; rw [fzW, nls_fz n st ws h]; rfl
  | .lst ws, h => by rw [nlW] at h; rw [fzW, nls_fz n st ws h]; rfl
  | .prs ws, h => by rw [nlW] at h; rw [fzW, if_pos (nls_ok n ws h)]
  | .scr ws, h => by rw [nlW] at h; rw [fzW, if_pos (nls_ok n ws h)]
  | .dic ws, h => by rw [nlW] at h; rw [fzW, if_pos (nlk_ok n ws h)]
  | .loc _, h => by rw [nlW] at h; cases h
  | .non, _ => by rw [fzW]
  | .bl _, _ => by rw [fzW]
  | .int _, _ => by rw [fzW]
  | .str _, _ => by rw [fzW]
  | .ty _, _ => by rw [fzW]
  | .obj _, _ => by rw [fzW]
theorem nls_fz (n : Nat) (st : Stt) : ∀ w : List W, nlWs w = true → fzWs n st w = some w
  | [], _ => by rw [fzWs]
  | w :: ws, h => by rw [nlWs, Bool.and_eq_true] at h; rw [fzWs, nl_fz n st w h.1, nls_fz n st ws h.2]
end
mutual
theorem dat_nl : ∀ (n : Nat) (w : W), datW n w = true → nlW w = true
  | n, .tup ws, h => by rw [datW, Bool.and_eq_true] at h; rw [nlW]; exact dats_nl _ ws h.2
  | n, .lst ws, h => by rw [datW, Bool.and_eq_true] at h; rw [nlW]; exact dats_nl _ ws h.2
  | n, .prs ws, h => by rw [datW] at h; cases h
  | n, .scr ws, h => by rw [datW] at h; cases h
  | n, .dic ws, h => by rw [datW] at h; cases h
  | n, .loc _, h => by rw [datW] at h; cases h
  | n, .non, _ => by rw [nlW]
  | n, .bl _, _ => by rw [nlW]
  | n, .int _, _ => by rw [nlW]
  | n, .str _, _ => by rw [nlW]
  | n, .ty _, _ => by rw [nlW]
  | n, .obj _, _ => by rw [nlW]
theorem dats_nl : ∀ (n : Nat) (w : List W), datWs n w = true → nlWs w = true
  | n, [], _ => by rw [nlWs]
  | n, w :: ws, h => by rw [datWs, Bool.and_eq_true] at h; rw [nlWs, dat_nl n w h.1, dats_nl n ws h.2]; rfl
end
theorem nl_strs (xs : List Str) : nlWs (xs.map .str) = true := by
  induction xs with
  | nil => simp only [List.map_nil, nlWs]
  | cons a r ih => rw [List.map_cons, nlWs, ih, nlW]; rfl
theorem nl_ints (xs : List Int) : nlWs (xs.map .int) = true := by
  induction xs with
  | nil => simp only [List.map_nil, nlWs]
  | cons a r ih => rw [List.map_cons, nlWs, ih, nlW]; rfl
theorem dat_strs {n : Nat} {xs : List Str} (h : ∀ x ∈ xs, PyData.strOk x = true) : datWs n (xs.map .str) = true := by
  induction xs with
  | nil => simp only [List.map_nil, datWs]
  | cons a r ih => rw [List.map_cons, datWs, ih (fun x hx => h x (List.mem_cons_of_mem _ hx)), datW, h a List.mem_cons_self]; rfl
theorem dat_ints {n : Nat} {xs : List Int} : datWs n (xs.map .int) = true := by
  induction xs with
  | nil => simp only [List.map_nil, datWs]
  | cons a r ih => rw [List.map_cons, datWs, ih, datW]; rfl
theorem dats_all {n : Nat} {ws : List W} : datWs n ws = true ↔ ∀ w ∈ ws, datW n w = true := by
  induction ws with
  | nil => simp [datWs]
  | cons a r ih => rw [datWs, Bool.and_eq_true, ih]; simp
theorem nls_all {ws : List W} : nlWs ws = true ↔ ∀ w ∈ ws, nlW w = true := by
  induction ws with
  | nil => simp [nlWs]
  | cons a r ih => rw [nlWs, Bool.and_eq_true, ih]; simp
/-- a def that leaves the store as it stood -/
theorem frz_pure {m : FM} {ws : List W} {w : W} (h : m ws st = .ok w st) (hw : nlW w = true) : frz m ws st = .ok w st := by
  have := frz_new (m := m) (ws := ws) (st := st) (ex := []) (w := w) (w' := w) (by rw [List.append_nil]; exact h) (by rw [List.append_nil]; exact nl_fz _ _ w hw)
  exact this
end
end Sim
end
section
set_option Elab.async false
set_option linter.all false
set_option maxRecDepth 100000
set_option maxHeartbeats 1000000
open PySem PySem.Spec PyProof.Rows L2
namespace Sim
/-! draws -/
theorem small {x : Int} (h0 : 0 ≤ x) (h : x < 2 ^ 250) : x.natAbs < 2 ^ 1000 := by
  have h1 : x.natAbs < 2 ^ 250 := by
    have : (x.natAbs : Int) = x := Int.natAbs_of_nonneg h0
    have h2 : (x.natAbs : Int) < ((2 ^ 250 : Nat) : Int) := by rw [this]; exact_mod_cast h
    exact_mod_cast h2
  exact Nat.lt_trans h1 (Nat.pow_lt_pow_right (by decide) (by decide))
/-- the bag of draws: what is left, how many more draws may be made of it -/
def Sp (st : Stt) (i N : Nat) : Prop := ∃ a b c : Int, st[i]? = some (some (.lst [.int a, .int b, .int c])) ∧ 0 ≤ a ∧ 0 ≤ b ∧ b < 2 ^ 200 ∧ 0 ≤ c ∧ c + (N : Int) ≤ 2 ^ 100
theorem Sp.le {st : Stt} {i N M : Nat} (h : Sp st i N) (k : M ≤ N) : Sp st i M := by
  obtain ⟨a, b, c, h1, h2, h3, h4, h5, h6⟩ := h
  exact ⟨a, b, c, h1, h2, h3, h4, h5, by omega⟩
theorem Sp.cong {st st' : Stt} {i N M : Nat} (h : Sp st i N) (e : st'[i]? = st[i]?) (k : M ≤ N) : Sp st' i M := by
  obtain ⟨a, b, c, h1, h2, h3, h4, h5, h6⟩ := h
  exact ⟨a, b, c, e.trans h1, h2, h3, h4, h5, by omega⟩
theorem Sp.lt {st : Stt} {i N : Nat} (h : Sp st i N) : i < st.length := by
  obtain ⟨a, b, c, h1, _⟩ := h
  exact (List.getElem?_eq_some_iff.mp h1).1
structure Dr (st st' : Stt) (i N : Nat) : Prop where
  len : st'.length = st.length
  fr : ∀ j, j ≠ i → st'[j]? = st[j]?
  sp : Sp st' i N
theorem Dr.trans {st st1 st2 : Stt} {i N M : Nat} (x : Dr st st1 i N) (y : Dr st1 st2 i M) : Dr st st2 i M :=
  ⟨y.len.trans x.len, fun j h => (y.fr j h).trans (x.fr j h), y.sp⟩
theorem Dr.refl {st : Stt} {i N : Nat} (h : Sp st i N) : Dr st st i N := ⟨rfl, fun _ _ => rfl, h⟩
theorem frz_dr {m : FM} {ws : List W} {st st2 : Stt} {w w' : W} {i N : Nat} (h : m ws st = .ok w st2) (hw : fzW st.length st2 w = some w') (hf : ∀ j, j < st.length → j ≠ i → st2[j]? = st[j]?) (hs : Sp st2 i N) (hl : st.length ≤ st2.length) (hi : i < st.length) :
    ∃ st', frz m ws st = .ok w' st' ∧ Dr st st' i N := by
  refine ⟨st2.take st.length, frz_eq h (fun j hj => ?_) hw, by rw [List.length_take]; omega, fun j hj => ?_, ?_⟩
  · by_cases e : j = i
    · subst e
      obtain ⟨a, b, c, h1, _⟩ := hs
      exact .inr ⟨_, h1, by simp [okO, okLs, okL]⟩
    · exact .inl (hf j hj e)
  · by_cases hjl : j < st.length
    · rw [List.getElem?_take_of_lt hjl]; exact hf j hjl hj
    · rw [List.getElem?_eq_none (by rw [List.length_take]; omega), List.getElem?_eq_none (by omega)]
  · obtain ⟨a, b, c, h1, h2⟩ := hs
    exact ⟨a, b, c, by rw [List.getElem?_take_of_lt hi]; exact h1, h2⟩
theorem lcW_inv2 {ρ : Ev} {ok : Stt → Prop} {g : GM} {m : EM} (I : List W → Stt → Prop) (n : Nat) : ∀ (ws : List W) (acc : List W) (st : Stt), acc.length + ws.length = n → I acc st →
    (∀ (w : W) (acc : List W) (st : Stt), acc.length < n → w ∈ ws → I acc st → ∃ ρ1, g st w ρ = some ρ1 ∧ ∃ y st', m ρ1 st = .ok y st' ∧ I (acc ++ [y]) st') → (∀ acc st, I acc st → ok st) →
    ∃ ys st', lcW ok g tmYes m ρ ws st = .ok ys st' ∧ ys.length = ws.length ∧ I (acc ++ ys) st'
  | [], acc, st, _, hi, _, hk => ⟨[], st, by rw [lcW, if_pos (hk _ _ hi)], rfl, by rw [List.append_nil]; exact hi⟩
  | w :: ws, acc, st, hn, hi, h, hk => by
    obtain ⟨ρ1, h1, y, st1, h2, hi1⟩ := h w acc st (by simp at hn; omega) List.mem_cons_self hi
    obtain ⟨ys, st2, h3, h4, h5⟩ := lcW_inv2 I n ws (acc ++ [y]) st1 (by simp at hn ⊢; omega) hi1 (fun u acc st hl hu => h u acc st hl (List.mem_cons_of_mem _ hu)) hk
    refine ⟨y :: ys, st2, ?_, by simp [h4], by simpa using h5⟩
    rw [lcW, if_pos (hk _ _ hi), h1]
    simp [h2, h3]
theorem eraseIdx_perm {α : Type} {xs : List α} {k : Nat} (h : k < xs.length) : (xs[k] :: xs.eraseIdx k).Perm xs := by
  have : xs = xs.take k ++ xs[k] :: xs.drop (k + 1) := by rw [← List.drop_eq_getElem_cons h, List.take_append_drop]
  rw [List.eraseIdx_eq_take_drop_succ]
  exact List.perm_middle.symm.trans (by rw [← this])
theorem seqIx {v : Int} {n : Nat} (h0 : 0 ≤ v) (h : v < n) : seqIndex? v n = some v.toNat := by
  unfold seqIndex?
  have h1 : ¬ v < 0 := by omega
  simp [h1, h0, h]
theorem popAt_ok {us : List W} {v : Int} {st : Stt} (h0 : 0 ≤ v) (h : v < us.length) (hl : us.length ≤ 100000) : fPopAt us [.int v] st = some (us[v.toNat]'(by omega), us.eraseIdx v.toNat) := by
  unfold fPopAt
  dsimp only
  have hv : v.toNat < us.length := by omega
  rw [if_pos ⟨by omega, by omega⟩, seqIx h0 h]
  dsimp only
  rw [List.getElem?_eq_getElem hv]
end Sim
end
section
set_option Elab.async false
set_option linter.all false
set_option maxRecDepth 100000
set_option maxHeartbeats 1000000
open PySem PySem.Spec PyProof.Rows L2
namespace Sim
/-! a def that gives back a place of its own: that one is kept, as the last -/
section
variable {K : PySem.W.Frag} {G G' : Gm} {H H' : Hp}
structure ShrB (n : Nat) (G G' : Gm) : Prop where
  ls : ∀ (i : Nat) (a : Addr), i < n → G'.ls[i]? = some a → G.ls[i]? = some a
  al : ∀ a, G.alive a → G'.alive a
mutual
theorem RepV.shrB {n : Nat} (x : ShrB n G G') : ∀ {w : W} {v : V}, okL n w = true → RepV K G' H w v → RepV K G H w v
  | _, _, _, .non => .non
  | _, _, _, .bl b => .bl b
  | _, _, _, .int i => .int i
  | _, _, _, .str s => .str s
  | _, _, _, .ty n => .ty n
  | _, _, _, .obj a => .obj a
  | _, _, o, .tup h r => .tup (h.imp_left fun z => ⟨z.1, fun y => z.2 (x.al _ y)⟩) (RepL.shrB x (by rw [Sim.okL] at o; exact o) r)
  | _, _, o, .prs h r => .prs ⟨h.1, fun y => h.2 (x.al _ y)⟩ (RepL.shrB x (by rw [Sim.okL] at o; exact o) r)
  | _, _, o, .lst h r => .lst ⟨h.1, fun y => h.2 (x.al _ y)⟩ (RepL.shrB x (by rw [Sim.okL] at o; exact o) r)
  | _, _, o, .scr h r => .scr (h.imp_left fun z => ⟨z.1, fun y => z.2 (x.al _ y)⟩) (RepL.shrB x (by rw [Sim.okL] at o; exact o) r)
  | _, _, o, .dic h r => .dic ⟨h.1, fun y => h.2 (x.al _ y)⟩ (RepK.shrB x (by rw [Sim.okL] at o; exact o) r)
  | _, _, o, .loc e => .loc (x.ls _ _ (by rw [Sim.okL] at o; exact of_decide_eq_true o) e)
theorem RepL.shrB {n : Nat} (x : ShrB n G G') : ∀ {ws : List W} {vs : List V}, okLs n ws = true → RepL K G' H ws vs → RepL K G H ws vs
  | _, _, _, .nil => .nil
  | _, _, o, .cons a r => by
    rw [okLs, Bool.and_eq_true] at o
    exact .cons (RepV.shrB x o.1 a) (RepL.shrB x o.2 r)
theorem RepK.shrB {n : Nat} (x : ShrB n G G') : ∀ {ws : List (Key × W)} {vs : List (Key × V)}, okLk n ws = true → RepK K G' H ws vs → RepK K G H ws vs
  | _, _, _, .nil => .nil
  | _, _, o, .cons a r => by
    rw [okLk, Bool.and_eq_true] at o
    exact .cons (RepV.shrB x o.1 a) (RepK.shrB x o.2 r)
end
theorem RepO.shrB {n : Nat} (x : ShrB n G G') {a : Addr} {ob : Ob} (o : okO n ob = true) (h : RepO K G' H a ob) : RepO K G H a ob := by
  cases ob with
  | lst us => obtain ⟨vs, e, r⟩ := h; exact ⟨vs, e, RepL.shrB x o r⟩
  | dic us => obtain ⟨vs, e, r⟩ := h; exact ⟨vs, e, RepK.shrB x o r⟩
/-- the world cut back to what stood, and one place more -/
theorem frzL_cut {ls' : List Addr} {st' : Stt} {r : Nat} {p : Addr} {ob : Ob} (w : World K G H) (x : Ext G H (G.to ls' st') H') (w' : World K (G.to ls' st') H') (ok : okStt G.st.length G.st st') (hr : G.st.length ≤ r) (hp : ls'[r]? = some p) (hob : st'[r]? = some (some ob)) (ho : okO G.st.length ob = true) :
    Ext G H (G.to (G.ls ++ [p]) (st'.take G.st.length ++ [some ob])) H' ∧ World K (G.to (G.ls ++ [p]) (st'.take G.st.length ++ [some ob])) H' := by
  have hlen := w.len
  have hst : G.st.length ≤ st'.length := Nat.le_trans hr (Nat.le_of_lt (List.getElem?_eq_some_iff.mp hob).1)
  have htl : (st'.take G.st.length).length = G.st.length := by rw [List.length_take]; omega
  have rd : ∀ (i : Nat) (a : Addr) (ob' : Ob), (G.ls ++ [p])[i]? = some a → (st'.take G.st.length ++ [some ob])[i]? = some (some ob') →
      (i < G.st.length ∧ G.ls[i]? = some a ∧ st'[i]? = some (some ob')) ∨ (i = G.st.length ∧ a = p ∧ ob' = ob) := fun i a ob' e1 e2 => by
    by_cases hi : i < G.ls.length
    · rw [List.getElem?_append_left hi] at e1
      rw [List.getElem?_append_left (by rw [htl]; omega), List.getElem?_take_of_lt (by omega)] at e2
      exact .inl ⟨by omega, e1, e2⟩
    · rw [List.getElem?_append_right (by omega)] at e1
      rw [List.getElem?_append_right (by rw [htl]; omega), htl] at e2
      have hi2 : i - G.ls.length = 0 := by
        cases hk : i - G.ls.length with
        | zero => rfl
        | succ k => rw [hk] at e1; simp at e1
      rw [hi2] at e1
      rw [show i - G.st.length = 0 by omega] at e2
      exact .inr ⟨by omega, (Option.some.inj e1).symm, (Option.some.inj (Option.some.inj e2)).symm⟩
  have alv : ∀ a, (G.to (G.ls ++ [p]) (st'.take G.st.length ++ [some ob])).alive a → (G.to ls' st').alive a := fun a z => by
    rcases z with ⟨i, ob', e1, e2⟩ | z
    · rcases rd i a ob' e1 e2 with ⟨_, q1, q2⟩ | ⟨_, rfl, rfl⟩
      · exact .inl ⟨i, ob', x.ls i a q1, q2⟩
      · exact .inl ⟨r, _, hp, hob⟩
    · exact .inr z
  have pn : p ∉ G.ls := fun z => by
    obtain ⟨i, hi, e⟩ := List.getElem_of_mem z
    have e2 := x.ls i p (by rw [List.getElem?_eq_getElem hi, e])
    obtain ⟨h1, q1⟩ := List.getElem?_eq_some_iff.mp hp
    obtain ⟨h2, q2⟩ := List.getElem?_eq_some_iff.mp e2
    have : r = i := (List.getElem_inj w'.nd).mp (q1.trans q2.symm)
    omega
  have sh : ShrB G.st.length (G.to (G.ls ++ [p]) (st'.take G.st.length ++ [some ob])) (G.to ls' st') := ⟨fun i a hi e => by
    show (G.ls ++ [p])[i]? = some a
    rw [List.getElem?_append_left (by omega)]
    have q := x.ls i _ (List.getElem?_eq_getElem (by omega : i < G.ls.length))
    rw [e] at q
    rw [Option.some.inj q]
    exact List.getElem?_eq_getElem _, alv⟩
  refine ⟨⟨fun i a e => ?_, x.keep, fun a z => x.al a (alv a z), x.non, rfl, x.hidk⟩, ⟨?_, ?_, fun a ha => ?_, fun a ha => ⟨?_, fun z => ?_⟩, fun i a ob' e1 e2 => ?_⟩⟩
  · show (G.ls ++ [p])[i]? = some a
    rw [List.getElem?_append_left (List.getElem?_eq_some_iff.mp e).1]; exact e
  · show (G.ls ++ [p]).length = (st'.take G.st.length ++ [some ob]).length
    rw [List.length_append, List.length_append, htl, hlen]; rfl
  · show (G.ls ++ [p]).Nodup
    rw [List.nodup_append]
    exact ⟨w.nd, by simp, fun a ha b hb => by rw [List.mem_singleton.mp hb]; exact fun z => pn (z ▸ ha)⟩
  · have ha : a ∈ G.ls ++ [p] := ha
    rcases List.mem_append.mp ha with q | q
    · exact fun z => w.tr a q (x.non a z)
    · rw [List.mem_singleton.mp q]; exact w'.tr p (List.mem_of_getElem? hp)
  · rw [x.hidk a ha]; exact (w.hd a ha).1
  · have z : a ∈ G.ls ++ [p] := z
    rcases List.mem_append.mp z with q | q
    · exact (w.hd a ha).2 q
    · rw [List.mem_singleton.mp q] at ha
      exact (w'.hd p ha).2 (List.mem_of_getElem? hp)
  · rcases rd i a ob' e1 e2 with ⟨hi, q1, q2⟩ | ⟨_, rfl, rfl⟩
    · refine RepO.shrB sh ?_ (w'.at' i a ob' (x.ls i a q1) q2)
      rcases ok i hi with q | ⟨ob2, q, h⟩
      · rw [q2] at q
        have ro2 := w.at' i a ob' q1 q.symm
        cases ob' with
        | lst us => obtain ⟨_, _, rr⟩ := ro2; exact RepL.okL hlen rr
        | dic us => obtain ⟨_, _, rr⟩ := ro2; exact RepK.okL hlen rr
      · rw [q2] at q
        cases q
        exact h
    · exact RepO.shrB sh ho (w'.at' r a ob' hp hob)
end
open Classical in
noncomputable def frzL (m : FM) : FM := fun ws st => match m ws st with
  | .ok (.loc r) st' => if okStt st.length st st' ∧ st.length ≤ r then (match st'[r]? with
      | some (some ob) => if okO st.length ob = true then .ok (.loc st.length) (st'.take st.length ++ [some ob]) else .no
      | _ => .no) else .no
  | .er x st' => if okStt st.length st st' ∧ x.fs = [] then .er x (st'.take st.length) else .no
  | _ => .no
theorem fn_frzL {K : PySem.W.Frag} {P : Program} {w : PySem.World} {mg : Str → Option Value} {base : Heap} {CX : CXT} {f : Addr} {fd : FuncData} {ps : List Str} {k n : Nat} {m : FM} (F : FnOk P w K mg base CX k f fd ps (spF K n m)) : FnOk P w K mg base CX k f fd ps (spF K n (frzL m)) :=
  F.imp fun vs H Q E q => by
    obtain ⟨hl, G, ws, wo, rl, hp⟩ := q
    refine ⟨hl, G, ws, wo, rl, ?_⟩
    unfold frzL at hp
    cases e : m ws G.st with
    | no => rw [e] at hp; exact hp.elim
    | er x st' =>
      rw [e] at hp
      dsimp only at hp
      split at hp
      · rename_i hok
        intro ls' H' d xe w' rx
        obtain ⟨_, x2, w2⟩ := frz_cut wo xe w' hok.1
        exact hp G.ls H' d x2 w2 (.inl hok.2)
      · exact hp.elim
    | ok r st' =>
      rw [e] at hp
      cases r with
      | loc r =>
        dsimp only at hp
        split at hp
        · rename_i hok
          cases eo : st'[r]? with
          | none => rw [eo] at hp; exact hp.elim
          | some o =>
            cases o with
            | none => rw [eo] at hp; exact hp.elim
            | some ob =>
              rw [eo] at hp
              dsimp only at hp
              split at hp
              · rename_i ho
                intro ls' H' v xe w' rv
                cases rv with
                | loc he =>
                  obtain ⟨x2, w2⟩ := frzL_cut wo xe w' hok.1 hok.2 he eo ho
                  refine hp _ H' _ x2 w2 (.loc ?_)
                  show (G.ls ++ [_])[G.st.length]? = some _
                  rw [← wo.len]
                  exact List.getElem?_concat_length
              · exact hp.elim
        · exact hp.elim
      | _ => exact hp.elim
theorem frzL_eq {m : FM} {ws : List W} {st st' : Stt} {r : Nat} {ob : Ob} (h : m ws st = .ok (.loc r) st') (ok : okStt st.length st st') (hr : st.length ≤ r) (e : st'[r]? = some (some ob)) (ho : okO st.length ob = true) : frzL m ws st = .ok (.loc st.length) (st'.take st.length ++ [some ob]) := by
  unfold frzL
  rw [h]
  dsimp only
  rw [if_pos ⟨ok, hr⟩, e]
  dsimp only
  rw [if_pos ho]
end Sim
end
section
set_option Elab.async false
set_option linter.all false
set_option maxRecDepth 100000
set_option maxHeartbeats 1000000
open PySem PySem.Spec PyProof.Rows L2
namespace Sim
/-! dicts -/
def toKey : W → Option Key
  | .int i => some (.inl i)
  | .str x => some (.inr x)
  | _ => none
def dicX (st : Stt) : W → Option (List (Key × W))
  | .dic kvs => some kvs
  | .loc n => match st[n]? with
    | some (some (.dic kvs)) => some kvs
    | _ => none
  | _ => none
def valW (kvs : List (Key × W)) (k : Key) : Option W := (kvs.find? fun kv => decide (kv.1 = k)).map (·.2)
def putW (kvs : List (Key × W)) (k : Key) (v : W) : List (Key × W) :=
  if (kvs.any fun kv => decide (kv.1 = k)) = true then kvs.map (fun kv => if kv.1 = k then (kv.1, v) else kv) else kvs ++ [(k, v)]
def mergeW (kvs more : List (Key × W)) : List (Key × W) := more.foldl (fun acc kv => putW acc kv.1 kv.2) kvs
section
variable {X : Cx} {Wx : WX} {K : PySem.W.Frag} {G : Gm} {H : Hp}
theorem toKey_rep {w : W} {v : V} {k : Key} (r : RepV K G H w v) (e : toKey w = some k) : v = kV k := by
  cases r <;> (unfold toKey at e; cases e) <;> rfl
theorem RepK.val : ∀ {kws : List (Key × W)} {kvs : List (Key × V)} (k : Key), RepK K G H kws kvs → (valW kws k = none ∧ valV kvs k = none) ∨ ∃ w v, valW kws k = some w ∧ valV kvs k = some v ∧ RepV K G H w v
  | _, _, k, .nil => .inl ⟨rfl, rfl⟩
  | _, _, k, .cons (k := k') (w := w) (ws := ws) (v := v) (vs := vs) h r => by
    by_cases e : k' = k
    · exact .inr ⟨w, v, by simp [valW, List.find?_cons, e], by simp [valV, List.find?_cons, e], h⟩
    · have ih := RepK.val k r
      have e1 : valW ((k', w) :: ws) k = valW ws k := by simp [valW, List.find?_cons, e]
      have e2 : valV ((k', v) :: vs) k = valV vs k := by simp [valV, List.find?_cons, e]
      rw [e1, e2]; exact ih
theorem RepK.app {a b : List (Key × W)} {c d : List (Key × V)} (h : RepK K G H a c) (k : RepK K G H b d) : RepK K G H (a ++ b) (c ++ d) := by
  induction a generalizing c with
  | nil => cases h; exact k
  | cons p r ih => cases h with
    | cons x y => exact .cons x (ih y)
theorem RepK.any {kws : List (Key × W)} {kvs : List (Key × V)} (k : Key) (h : RepK K G H kws kvs) : (kws.any fun kv => decide (kv.1 = k)) = (kvs.any fun kv => decide (kv.1 = k)) := by
  induction kws generalizing kvs with
  | nil => cases h; rfl
  | cons p r ih => cases h with
    | cons x y => simp only [List.any_cons]; rw [ih y]
theorem RepK.mapPut {w : W} {v : V} (k : Key) (r : RepV K G H w v) : ∀ {kws : List (Key × W)} {kvs : List (Key × V)}, RepK K G H kws kvs → RepK K G H (kws.map fun kv => if kv.1 = k then (kv.1, w) else kv) (kvs.map fun kv => if kv.1 = k then (kv.1, v) else kv)
  | _, _, .nil => .nil
  | _, _, .cons (k := k') x y => by
    simp only [List.map_cons]
    by_cases e : k' = k
    · rw [if_pos e, if_pos e]; exact .cons r (RepK.mapPut k r y)
    · rw [if_neg e, if_neg e]; exact .cons x (RepK.mapPut k r y)
theorem RepK.put {kws : List (Key × W)} {kvs : List (Key × V)} {w : W} {v : V} (k : Key) (h : RepK K G H kws kvs) (r : RepV K G H w v) : RepK K G H (putW kws k w) (putK kvs k v) := by
  unfold putW putK
  rw [RepK.any k h]
  split
  · exact RepK.mapPut k r h
  · exact h.app (.cons r .nil)
theorem RepK.merge {more : List (Key × W)} {mv : List (Key × V)} (h : RepK K G H more mv) : ∀ {kws : List (Key × W)} {kvs : List (Key × V)}, RepK K G H kws kvs → RepK K G H (mergeW kws more) (mergeK kvs mv) := by
  induction more generalizing mv with
  | nil => cases h; exact fun q => q
  | cons p r ih => cases h with
    | cons x y => exact fun q => ih y (q.put _ x)
inductive RepP (K : PySem.W.Frag) (G : Gm) (H : Hp) : List (W × W) → List (V × V) → Prop
  | nil : RepP K G H [] []
  | cons {a b : W} {x y : V} {ps : List (W × W)} {qs : List (V × V)} : RepV K G H a x → RepV K G H b y → RepP K G H ps qs → RepP K G H ((a, b) :: ps) ((x, y) :: qs)
def prM : List (EM × EM) → Ev → Stt → Rs (List (W × W))
  | [], _, st => .ok [] st
  | (k, v) :: r, ρ, st => (k ρ st).bind fun x s1 => (v ρ s1).bind fun y s2 => (prM r ρ s2).bind fun ps s3 => .ok ((x, y) :: ps) s3
def SemP (K : PySem.W.Frag) (trs : List (TE × TE)) (ms : List (EM × EM)) : Prop := ∀ (G : Gm) (H : Hp) (ρ : Ev) (σ : L2.St) (Q : List (V × V) → Hp → Prop) (ps : List (W × W)) (st' : Stt), World K G H → RepE K G H ρ σ → prM ms ρ G.st = .ok ps st' →
  (∀ ls' H' qs, Ext G H (G.to ls' st') H' → World K (G.to ls' st') H' → RepP K (G.to ls' st') H' ps qs → Q qs H') → tPairs trs σ H Q
structure CP (X : Cx) (pos : Pos) (keys : List (Option Expr)) (values : List Expr) (trs : List (TE × TE)) (ms : List (EM × EM)) : Prop where
  pe : PPs X pos keys values trs
  sem : SemP X.K trs ms
theorem cp_nil {pos : Pos} : CP X pos [] [] [] [] := ⟨pps_nil, fun G H ρ σ Q ps st' w r e q => by cases e; exact q G.ls H [] (Ext.refl _ _) w .nil⟩
theorem Rs.bind_eq {α β : Type} {r : Rs α} {f : α → Stt → Rs β} {b : β} {st : Stt} (h : r.bind f = .ok b st) : ∃ a st1, r = .ok a st1 ∧ f a st1 = .ok b st := by
  cases r with
  | ok a st1 => exact ⟨a, st1, rfl, h⟩
  | er x st1 => cases h
  | no => cases h
theorem RepP.mono {G' : Gm} {H' : Hp} (x : Ext G H G' H') {ps : List (W × W)} {qs : List (V × V)} (h : RepP K G H ps qs) : RepP K G' H' ps qs := by
  induction h with
  | nil => exact .nil
  | cons a b _ ih => exact .cons (a.mono x) (b.mono x) ih
theorem cp_cons {pos : Pos} {k v : Expr} {ks : List (Option Expr)} {vs : List Expr} {tk tv : TE} {mk mv : EM} {trs : List (TE × TE)} {ms : List (EM × EM)} (hk : CE X W0 k tk mk) (hv : CE X W0 v tv mv) (hr : CP X pos ks vs trs ms) :
    CP X pos (some k :: ks) (v :: vs) ((tk, tv) :: trs) ((mk, mv) :: ms) := by
  refine ⟨pps_cons hk.pe hv.pe hr.pe, fun G H ρ σ Q ps st' w r e q => ?_⟩
  obtain ⟨a, s1, e1, e⟩ := Rs.bind_eq e
  obtain ⟨b, s2, e2, e⟩ := Rs.bind_eq e
  obtain ⟨rest, s3, e3, e⟩ := Rs.bind_eq e
  cases e
  refine hk.sem G H ρ σ _ w r ?_
  rw [e1]
  intro ls1 H1 x x1 w1 r1
  refine hv.sem (G.to ls1 s1) H1 ρ σ _ w1 (r.mono x1) ?_
  rw [show (G.to ls1 s1).st = s1 from rfl, e2]
  intro ls2 H2 y x2 w2 r2
  refine hr.sem (G.to ls2 s2) H2 ρ σ _ rest st' w2 (r.mono (x1.trans x2)) e3 fun ls3 H3 qs x3 w3 r3 => ?_
  exact q ls3 H3 _ ((x1.trans x2).trans x3) w3 (.cons (r1.mono (x2.trans x3)) (r2.mono x3) r3)
def keysOf : List (W × W) → Option (List (Key × W))
  | [] => some []
  | (a, b) :: r => match toKey a, keysOf r with
    | some k, some q => some ((k, b) :: q)
    | _, _ => none
theorem keysOf_rep {ps : List (W × W)} {qs : List (V × V)} (h : RepP K G H ps qs) : ∀ {kws : List (Key × W)}, keysOf ps = some kws → ∃ kvs : List (Key × V), qs = kvs.map (fun kv => (kV kv.1, kv.2)) ∧ RepK K G H kws kvs := by
  induction h with
  | nil => intro kws e; cases e; exact ⟨[], rfl, .nil⟩
  | @cons a b x y ps qs ha hb _ ih =>
    intro kws e
    rw [keysOf] at e
    cases e1 : toKey a with
    | none => rw [e1] at e; cases e
    | some k =>
      cases e2 : keysOf ps with
      | none => rw [e1, e2] at e; cases e
      | some q =>
        rw [e1, e2] at e
        cases e
        obtain ⟨kvs, rfl, rk⟩ := ih e2
        exact ⟨(k, y) :: kvs, by rw [List.map_cons, toKey_rep ha e1], .cons hb rk⟩
theorem keysOf_length {ps : List (W × W)} {kws : List (Key × W)} (e : keysOf ps = some kws) : kws.length = ps.length := by
  induction ps generalizing kws with
  | nil => cases e; rfl
  | cons p r ih =>
    obtain ⟨a, b⟩ := p
    rw [keysOf] at e
    cases e1 : toKey a with
    | none => rw [e1] at e; cases e
    | some k =>
      cases e2 : keysOf r with
      | none => rw [e1, e2] at e; cases e
      | some q => rw [e1, e2] at e; cases e; simp [ih e2]
/-- {k: v, ..} as a value -/
def eDic (ms : List (EM × EM)) : EM := fun ρ st => match prM ms ρ st with
  | .ok ps st1 => match keysOf ps with
    | some kws => if kws.length ≤ 15 then .ok (.dic (mergeW [] kws)) st1 else .no
    | none => .no
  | _ => .no
theorem sem_dic {trs : List (TE × TE)} {ms : List (EM × EM)} (h : SemP K trs ms) : SemE K Wx (tDisp trs) (eDic ms) := fun G H ρ σ Q w r hp => by
  intro p hn
  unfold eDic at hp
  cases e : prM ms ρ G.st with
  | ok ps st1 =>
    rw [e] at hp
    dsimp only at hp
    cases ek : keysOf ps with
    | none => rw [ek] at hp; exact hp.elim
    | some kws =>
      rw [ek] at hp
      dsimp only at hp
      split at hp
      · rename_i hl
        refine h (G.hide p) (upd H p (.dK [])) ρ σ _ ps st1 (w.hide hn) (r.less (less_hide w hn)) e fun ls' H' qs x w' rp => ?_
        have hp0 : H' p = some (.dK []) := (x.hidk p List.mem_cons_self).trans upd_same
        obtain ⟨kvs, rfl, rk⟩ := keysOf_rep rp ek
        have hlk : kvs.length ≤ 15 := by rw [← rk.length]; exact hl
        refine ⟨hp0, kvs, rfl, hlk, ?_⟩
        have rm : RepK K ((G.to ls' st1).hide p) H' (mergeW [] kws) (mergeK [] kvs) := RepK.merge rk .nil
        have w2 : World K ((G.to ls' st1).hide p) (upd H' p (.dK (mergeK [] kvs))) := w'.hidupd List.mem_cons_self
        have x2 : Ext G H (G.to ls' st1) (upd H' p (.dK (mergeK [] kvs))) := Ext.under (G1 := G) (H1 := H) (ls := G.ls) (st := G.st) (H := upd H p (.dK [])) w hn (Ext.new w hn) x
        refine hp ls' _ (.ref p) x2 w2.unhide (.dic ⟨.inl upd_same, hidden_nal w hn x2 w2⟩ ?_)
        exact (rm.less (less_hidupd List.mem_cons_self)).less less_unhide
      · exact hp.elim
  | er x st1 => rw [e] at hp; exact hp.elim
  | no => rw [e] at hp; exact hp.elim
theorem ce_dic {pos : Pos} {keys : List (Option Expr)} {values : List Expr} {trs : List (TE × TE)} {ms : List (EM × EM)} (h : CP X pos keys values trs ms) (hall : keys.all (·.isSome) = true := by rfl) (hl : keys.length = values.length := by rfl) (h0 : keys ≠ [] := by exact List.cons_ne_nil _ _) (h15 : keys.length ≤ 15 := by decide) :
    CE X Wx (.Dict keys values pos) (tDisp trs) (eDic ms) := ⟨pe_disp h.pe hall hl h0 h15, sem_dic h.sem⟩
theorem dic_rd {w : W} {v : V} {kws : List (Key × W)} (wo : World K G H) (r : RepV K G H w v) (e : dicX G.st w = some kws) : ∃ a kvs, v = .ref a ∧ Rd H a (.dK kvs) ∧ RepK K G H kws kvs := by
  cases r with
  | dic h rk => cases e; exact ⟨_, _, rfl, h.1, rk⟩
  | loc h =>
    unfold dicX at e
    dsimp only at e
    split at e
    · rename_i q
      cases e
      obtain ⟨kvs, e1, rk⟩ := wo.at' _ _ _ h q
      exact ⟨_, kvs, rfl, .inl e1, rk⟩
    · cases e
  | _ => cases e
/-- d.get(k, x) -/
def eDget2 (d k x : EM) : EM := fun ρ st => (d ρ st).bind fun u s1 => match dicX s1 u with
  | some _ => (k ρ s1).bind fun y s2 => (x ρ s2).bind fun z s3 => match dicX s3 u, toKey y with
    | some kvs, some q => .ok ((valW kvs q).getD z) s3
    | _, _ => .no
  | none => .no
theorem ce_dget2 {o e f : Expr} {apos cpos : Pos} {td ty tx : TE} {md mk mx : EM} (hu : X.A.units + 1 < cLine) (ho : CE X Wx o td md) (he : CE X Wx e ty mk) (hf : CE X Wx f tx mx) (m : M2 X o "get" apos e f cpos) :
    CE X Wx (.Call (.Attribute o "get" apos) [e, f] [] cpos) (tDGet2 td ty tx) (eDget2 md mk mx) := by
  refine ⟨pe_dget2 hu ho.pe he.pe hf.pe m, fun G H ρ σ Q w r hp => ?_⟩
  refine ho.sem G H ρ σ _ w r (PostR.bind hp fun u s1 ls1 H1 v q1 x1 w1 rv hp1 => ?_)
  clear q1
  cases e1 : dicX s1 u with
  | none => rw [e1] at hp1; exact hp1.elim
  | some kw1 =>
    rw [e1] at hp1
    obtain ⟨a, kvs, rfl, hrd, _⟩ := dic_rd (G := G.to ls1 s1) w1 rv e1
    refine ⟨a, rfl, .inl ⟨kvs, hrd⟩, ?_⟩
    refine he.sem (G.to ls1 s1) H1 ρ σ _ w1 (r.mono x1) (PostR.bind hp1 fun y s2 ls2 H2 vy q2 x2 w2 ry hp2 => ?_)
    clear q2
    refine hf.sem (G.to ls2 s2) H2 ρ σ _ w2 (r.mono (x1.trans x2)) (PostR.bind hp2 fun z s3 ls3 H3 vz q3 x3 w3 rz hp3 => ?_)
    clear q3
    cases e3 : dicX s3 u with
    | none => rw [e3] at hp3; exact hp3.elim
    | some kws =>
      cases e4 : toKey y with
      | none => rw [e3, e4] at hp3; exact hp3.elim
      | some k =>
        rw [e3, e4] at hp3
        obtain ⟨a', kvs', ea, hrd', rk⟩ := dic_rd (G := G.to ls3 s3) w3 (rv.mono (x2.trans x3)) e3
        cases ea
        refine ⟨valV kvs' k, .inl ⟨kvs', k, hrd', toKey_rep ry e4, rfl⟩, ?_⟩
        refine PostV.val (G := G.to ls3 s3) w3 (PostV.of hp3) ?_
        rcases RepK.val k rk with ⟨h1, h2⟩ | ⟨w', v', h1, h2, h3⟩
        · rw [h1, h2]; exact rz
        · rw [h1, h2]; exact h3
/-- d[k] -/
def eDget (d k : EM) : EM := fun ρ st => (d ρ st).bind fun u s1 => (k ρ s1).bind fun y s2 => match dicX s2 u, toKey y with
  | some kvs, some q => (match valW kvs q with | some z => .ok z s2 | none => .no)
  | _, _ => .no
theorem ce_dget {o e : Expr} {pos : Pos} {td ty : TE} {md mk : EM} (hu : X.A.units + 1 < cLine) (ho : CE X Wx o td md) (he : CE X Wx e ty mk) (hs : NoSl e) : CE X Wx (.Subscript o e pos) (tDGet td ty) (eDget md mk) := by
  refine ⟨pe_dget hu ho.pe he.pe hs, fun G H ρ σ Q w r hp => ?_⟩
  refine ho.sem G H ρ σ _ w r (PostR.bind hp fun u s1 ls1 H1 v q1 x1 w1 rv hp1 => ?_)
  clear q1
  refine he.sem (G.to ls1 s1) H1 ρ σ _ w1 (r.mono x1) (PostR.bind hp1 fun y s2 ls2 H2 vy q2 x2 w2 ry hp2 => ?_)
  clear q2
  cases e3 : dicX s2 u with
  | none => rw [e3] at hp2; exact hp2.elim
  | some kws =>
    cases e4 : toKey y with
    | none => rw [e3, e4] at hp2; exact hp2.elim
    | some k =>
      rw [e3, e4] at hp2
      dsimp only at hp2
      obtain ⟨a, kvs, rfl, hrd, rk⟩ := dic_rd (G := G.to ls2 s2) w2 (rv.mono x2) e3
      cases e5 : valW kws k with
      | none => rw [e5] at hp2; exact hp2.elim
      | some z =>
        rw [e5] at hp2
        rcases RepK.val k rk with ⟨h1, h2⟩ | ⟨w', v', h1, h2, h3⟩
        · rw [h1] at e5; cases e5
        · rw [h1] at e5
          cases e5
          exact ⟨a, v', rfl, .inl ⟨kvs, k, hrd, toKey_rep ry e4, h2.symm⟩, PostV.val (G := G.to ls2 s2) w2 (PostV.of hp2) h3⟩
end
section
variable {ρ : Ev} {st : Stt}
@[simp] theorem prM_nil : prM [] ρ st = .ok [] st := id rfl
def prK3 (x y : W) (r : Rs (List (W × W))) : Rs (List (W × W)) := match r with | .ok ps s => .ok ((x, y) :: ps) s | .er x s => .er x s | .no => .no
@[simp] theorem prK3_ok (x y : W) (ps : List (W × W)) : prK3 x y (.ok ps st) = .ok ((x, y) :: ps) st := id rfl
def prK2 (ms : List (EM × EM)) (ρ : Ev) (x : W) (r : Rs W) : Rs (List (W × W)) := match r with | .ok y s => prK3 x y (prM ms ρ s) | .er x s => .er x s | .no => .no
@[simp] theorem prK2_ok (ms : List (EM × EM)) (x y : W) : prK2 ms ρ x (.ok y st) = prK3 x y (prM ms ρ st) := id rfl
def prK (v : EM) (ms : List (EM × EM)) (ρ : Ev) (r : Rs W) : Rs (List (W × W)) := match r with | .ok x s => prK2 ms ρ x (v ρ s) | .er x s => .er x s | .no => .no
@[simp] theorem prK_ok (v : EM) (ms : List (EM × EM)) (x : W) : prK v ms ρ (.ok x st) = prK2 ms ρ x (v ρ st) := id rfl
@[simp] theorem prM_cons (k v : EM) (ms : List (EM × EM)) : prM ((k, v) :: ms) ρ st = prK v ms ρ (k ρ st) := by
  rw [prM]
  unfold prK
  cases k ρ st with
  | ok x s =>
    show (v ρ s).bind _ = prK2 ms ρ x (v ρ s)
    unfold prK2
    cases v ρ s with
    | ok y s2 => show (prM ms ρ s2).bind _ = prK3 x y (prM ms ρ s2); unfold prK3; cases prM ms ρ s2 <;> rfl
    | er x s => rfl
    | no => rfl
  | er x s => rfl
  | no => rfl
def dicK (r : Rs (List (W × W))) : Rs W := match r with
  | .ok ps st1 => match keysOf ps with
    | some kws => if kws.length ≤ 15 then .ok (.dic (mergeW [] kws)) st1 else .no
    | none => .no
  | _ => .no
@[simp] theorem dicK_ok {ps : List (W × W)} {kws : List (Key × W)} (h : keysOf ps = some kws) : dicK (.ok ps st) = if kws.length ≤ 15 then .ok (.dic (mergeW [] kws)) st else .no := by
  unfold dicK
  dsimp only
  rw [h]
@[simp] theorem ev_dic (ms : List (EM × EM)) : eDic ms ρ st = dicK (prM ms ρ st) := by unfold eDic dicK; rfl
@[simp] theorem keys_nil : keysOf [] = some [] := id rfl
@[simp] theorem keys_str (x : Str) (b : W) (r : List (W × W)) : keysOf ((.str x, b) :: r) = (keysOf r).map fun q => (.inr x, b) :: q := by
  rw [keysOf]
  show (match some (Sum.inr x), keysOf r with | some k, some q => some ((k, b) :: q) | _, _ => none) = _
  cases keysOf r <;> rfl
@[simp] theorem keys_int (x : Int) (b : W) (r : List (W × W)) : keysOf ((.int x, b) :: r) = (keysOf r).map fun q => (.inl x, b) :: q := by
  rw [keysOf]
  show (match some (Sum.inl x), keysOf r with | some k, some q => some ((k, b) :: q) | _, _ => none) = _
  cases keysOf r <;> rfl
@[simp] theorem dic_dic (kvs : List (Key × W)) : dicX st (.dic kvs) = some kvs := id rfl
def dg3 (u y z : W) (st : Stt) : Rs W := match dicX st u, toKey y with
  | some kvs, some q => .ok ((valW kvs q).getD z) st
  | _, _ => .no
theorem dg3_ok {u y z : W} {kvs : List (Key × W)} {q : Key} (h : dicX st u = some kvs) (k : toKey y = some q) : dg3 u y z st = .ok ((valW kvs q).getD z) st := by
  unfold dg3
  rw [h, k]
def dgK3 (u y : W) (r : Rs W) : Rs W := match r with | .ok z s => dg3 u y z s | .er x s => .er x s | .no => .no
@[simp] theorem dgK3_ok (u y z : W) : dgK3 u y (.ok z st) = dg3 u y z st := id rfl
def dgK2 (u : W) (x : EM) (ρ : Ev) (r : Rs W) : Rs W := match r with | .ok y s => dgK3 u y (x ρ s) | .er x s => .er x s | .no => .no
@[simp] theorem dgK2_ok (u : W) (x : EM) (y : W) : dgK2 u x ρ (.ok y st) = dgK3 u y (x ρ st) := id rfl
def dgW (k x : EM) (ρ : Ev) (u : W) (st : Stt) (o : Option (List (Key × W))) : Rs W := match o with | some _ => dgK2 u x ρ (k ρ st) | none => .no
@[simp] theorem dgW_some (k x : EM) (u : W) (kvs : List (Key × W)) : dgW k x ρ u st (some kvs) = dgK2 u x ρ (k ρ st) := id rfl
def dgK (k x : EM) (ρ : Ev) (r : Rs W) : Rs W := match r with | .ok u s => dgW k x ρ u s (dicX s u) | .er x s => .er x s | .no => .no
@[simp] theorem dgK_ok (k x : EM) (u : W) : dgK k x ρ (.ok u st) = dgW k x ρ u st (dicX st u) := id rfl
@[simp] theorem ev_dget2 (d k x : EM) : eDget2 d k x ρ st = dgK k x ρ (d ρ st) := by
  unfold eDget2 dgK
  cases d ρ st with
  | ok u s =>
    show (match dicX s u with | some _ => (k ρ s).bind _ | none => .no) = dgW k x ρ u s (dicX s u)
    unfold dgW
    cases dicX s u with
    | none => rfl
    | some kvs =>
      show (k ρ s).bind _ = dgK2 u x ρ (k ρ s)
      unfold dgK2
      cases k ρ s with
      | ok y s2 => show (x ρ s2).bind _ = dgK3 u y (x ρ s2); unfold dgK3 dg3; cases x ρ s2 <;> rfl
      | er x s => rfl
      | no => rfl
  | er x s => rfl
  | no => rfl
end
end Sim
end
section
set_option Elab.async false
set_option linter.all false
set_option maxRecDepth 100000
set_option maxHeartbeats 1000000
open PySem PySem.Spec PyProof.Rows L2
namespace Sim
section
variable {X : Cx} {Wx : WX} {K : PySem.W.Frag} {G : Gm} {H : Hp}
/-- xs + ys, a list that is changed later -/
def eCatO (a b : EM) : EM := fun ρ st => (a ρ st).bind fun x st1 => (b ρ st1).bind fun y st2 => match lstX st2 x, lstX st2 y with
  | some xs, some ys => if xs.length + ys.length ≤ 100000 then .ok (.loc st2.length) (st2 ++ [some (.lst (xs ++ ys))]) else .no
  | _, _ => .no
theorem sem_catO {ta tb : TE} {a b : EM} (ha : SemE K Wx ta a) (hb : SemE K Wx tb b) : SemE K Wx (tOp (rAdd4 K) ta tb) (eCatO a b) := fun G H ρ σ Q w r h => by
  refine ha G H ρ σ _ w r (PostR.bind h fun x st1 ls1 H1 v q1 e1 w1 rv h1' => ?_)
  clear q1
  refine hb (G.to ls1 st1) H1 ρ σ _ w1 (r.mono e1) (PostR.bind h1' fun y st2 ls2 H2 u q2 e2 w2 ru h2' => ?_)
  clear q2
  split at h2'
  · rename_i xs ys ex ey
    split at h2'
    · rename_i hl
      obtain ⟨a, vs, rfl, sq, rl⟩ := lst_x (G := G.to ls2 st2) w2 (rv.mono e2) ex
      obtain ⟨b, us, rfl, sq2, rl2⟩ := lst_x (G := G.to ls2 st2) w2 ru ey
      exact .inr (.inr (.inl ⟨a, b, vs, us, rfl, rfl, sq, sq2, Nat.le_trans (by rw [← rl.length, ← rl2.length]; exact hl) (by decide), fun p hp => post_push w2 hp h2' ⟨_, upd_same, (rl.app rl2).mono (Ext.push w2 _ hp)⟩⟩))
    · exact h2'.elim
  · exact h2'.elim
theorem ce_catO {a b : Expr} {ta tb : TE} {ma mb : EM} {pos : Pos} (ha : CE X Wx a ta ma) (hb : CE X Wx b tb mb) : CE X Wx (.BinOp a .Add b pos) (tOp (rAdd4 X.K) ta tb) (eCatO ma mb) :=
  ⟨pe_op op_add4 ha.pe hb.pe, sem_catO ha.sem hb.sem⟩
end
section
variable {ρ : Ev} {st : Stt}
def catW (x y : W) (st : Stt) : Rs W := match lstX st x, lstX st y with
  | some xs, some ys => if xs.length + ys.length ≤ 100000 then .ok (.loc st.length) (st ++ [some (.lst (xs ++ ys))]) else .no
  | _, _ => .no
def catK2 (x : W) (r : Rs W) : Rs W := match r with | .ok y s => catW x y s | .er x s => .er x s | .no => .no
@[simp] theorem catK2_ok (x y : W) : catK2 x (.ok y st) = catW x y st := id rfl
def catK (b : EM) (ρ : Ev) (r : Rs W) : Rs W := match r with | .ok x s => catK2 x (b ρ s) | .er x s => .er x s | .no => .no
@[simp] theorem catK_ok (b : EM) (x : W) : catK b ρ (.ok x st) = catK2 x (b ρ st) := id rfl
@[simp] theorem ev_catO (a b : EM) : eCatO a b ρ st = catK b ρ (a ρ st) := by
  unfold eCatO catK
  cases a ρ st with
  | ok x s => show (b ρ s).bind _ = catK2 x (b ρ s); unfold catK2 catW; cases b ρ s <;> rfl
  | er x s => rfl
  | no => rfl
theorem catW_ok {x y : W} {xs ys : List W} (h : lstX st x = some xs) (k : lstX st y = some ys) (l : xs.length + ys.length ≤ 100000) : catW x y st = .ok (.loc st.length) (st ++ [some (.lst (xs ++ ys))]) := by
  unfold catW
  rw [h, k]
  dsimp only
  rw [if_pos l]
end
end Sim
end
section
set_option Elab.async false
set_option linter.all false
set_option maxRecDepth 100000
set_option maxHeartbeats 1000000
open PySem PySem.Spec PyProof.Rows L2
namespace Sim
/-! a call whose arguments are all given by name -/
def permL {α : Type} (is : List Nat) (l : List α) : List α := is.filterMap fun i => l[i]?
theorem Vals.at' {vs : List V} {us : List Value} (h : Vals vs us) : ∀ i : Nat, (vs[i]? = none ∧ us[i]? = none) ∨ ∃ v u, vs[i]? = some v ∧ us[i]? = some u ∧ RelV v u := by
  induction h with
  | nil => intro i; exact .inl ⟨rfl, rfl⟩
  | cons a _ ih =>
    intro i
    cases i with
    | zero => exact .inr ⟨_, _, rfl, rfl, a⟩
    | succ i => simpa using ih i
theorem Vals.perm {vs : List V} {us : List Value} (h : Vals vs us) : ∀ is : List Nat, Vals (permL is vs) (permL is us)
  | [] => .nil
  | i :: is => by
    have ih := Vals.perm h is
    unfold permL at ih ⊢
    rw [List.filterMap_cons, List.filterMap_cons]
    rcases Vals.at' h i with ⟨e1, e2⟩ | ⟨v, u, e1, e2, r⟩
    · rw [e1, e2]; exact ih
    · rw [e1, e2]; exact .cons r ih
section
variable {X : Cx} {Wx : WX} {K : PySem.W.Frag} {G : Gm} {H : Hp}
theorem RepL.at' {ws : List W} {vs : List V} (h : RepL K G H ws vs) : ∀ i : Nat, (ws[i]? = none ∧ vs[i]? = none) ∨ ∃ w v, ws[i]? = some w ∧ vs[i]? = some v ∧ RepV K G H w v := by
  induction ws generalizing vs with
  | nil => cases h; intro i; exact .inl ⟨rfl, rfl⟩
  | cons w r ih => cases h with
    | cons a b =>
      intro i
      cases i with
      | zero => exact .inr ⟨_, _, rfl, rfl, a⟩
      | succ i => simpa using ih b i
theorem RepL.perm {ws : List W} {vs : List V} (h : RepL K G H ws vs) : ∀ is : List Nat, RepL K G H (permL is ws) (permL is vs)
  | [] => .nil
  | i :: is => by
    have ih := RepL.perm h is
    unfold permL at ih ⊢
    rw [List.filterMap_cons, List.filterMap_cons]
    rcases RepL.at' h i with ⟨e1, e2⟩ | ⟨v, u, e1, e2, r⟩
    · rw [e1, e2]; exact ih
    · rw [e1, e2]; exact .cons r ih
structure CK (X : Cx) (Wx : WX) (kws : List Keyword) (t : TA) (m : AM) : Prop where
  pe : PK X kws t
  sem : SemA X.K Wx t m
theorem ck_nil : CK X Wx [] tNil aNil := ⟨pk_nil, ca_nil.sem⟩
theorem sem_cons {te : TE} {t : TA} {m : EM} {ms : AM} (h1 : SemE K Wx te m) (h2 : SemA K Wx t ms) : SemA K Wx (tCons te t) (aCons m ms) := fun G H ρ σ Q w r h => by
  refine h1 G H ρ σ _ w r (PostR.bind h fun x st1 ls1 H1 v q1 e1 w1 rv hp1 => ?_)
  clear q1
  refine h2 (G.to ls1 st1) H1 ρ σ _ w1 (r.mono e1) (PostR.bind hp1 fun ws st2 ls2 H2 vs q2 e2 w2 rvs hp2 => ?_)
  exact PostR.ok (G := G.to ls2 st2) (R := RepL K) w2 hp2 (.cons (rv.mono e2) rvs)
theorem ck_cons {e : Expr} {nm : Option Str} {kpos : Pos} {kws : List Keyword} {te : TE} {t : TA} {m : EM} {ms : AM} (h1 : CE X Wx e te m) (h2 : CK X Wx kws t ms) : CK X Wx (⟨nm, e, kpos⟩ :: kws) (tCons te t) (aCons m ms) :=
  ⟨pk_cons h1.pe h2.pe, sem_cons h1.sem h2.sem⟩
def tCallP (sp : L2.Sp) (is : List Nat) (n : Nat) (E : L2.St → XK) (t : TA) : TE := fun σ H Q => t σ H fun vs H1 => vs.length = n ∧ sp (permL is vs) H1 Q (E σ)
structure KB (K : PySem.W.Frag) (fd : FuncData) (ps ks : List Str) (is : List Nat) : Prop where
  to : ∀ (s : Shared) (ws : List Value), K.In s.heap → ws.length = ks.length → BindsTo s fd ⟨[], ks.zip ws⟩ (ps.zip (permL is ws))
theorem Fun.kb {x qual : Str} {st : Stmt} {f : Addr} {fd : FuncData} {ps ks : List Str} {is : List Nat} (F : Fun K x qual st f fd)
    (h : ∀ (kV doc pm : Value) (an : Option Addr) (cdv ct : Value) (ws : List Value), ws.length = ks.length → bindArgs (PySem.W.fnOf x qual (defArgs st) (defBody st) (defScope st) .none kV doc pm an cdv ct) ⟨[], ks.zip ws⟩ = pure (ps.zip (permL is ws))) : KB K fd ps ks is := by
  obtain ⟨oc, od, kV, doc, pm, an, cdv, ct, osl, rfl, lk, hcd⟩ := F.ex
  exact ⟨fun s ws _ hl => .of_eq (h kV doc pm an cdv ct ws hl)⟩
theorem pe_callP {CX : CXT} {k n : Nat} {f : Addr} {fd : FuncData} {ps ks : List Str} {is : List Nat} {sp : L2.Sp} {E : L2.St → XK} {x : Str} {p pos : Pos} {kws : List Keyword} {tk : TA} (F : FnOk X.prog X.w X.K X.mg X.base CX k f fd ps sp) (hr : Room k X.A) (hg : Gl X x) (hm : X.mg x = some (.ref f)) (hk : PySem.W.keepIn X.K (.ref f) = true) (hb : KB X.K fd ps ks is) (hx : ∀ σ, PassesAt CX X σ (E σ))
    (hkw : PK X kws tk) (hn : n = ks.length) (hall : (backToKw pos (keywordEach kws X.env)).all (·.1.isSome) = true := by rfl) (hks : (backToKw pos (keywordEach kws X.env)).filterMap (·.1) = ks := by rfl)
    (hdb : (x == ("__debug__" : Str)) = false := by decide)
    (hpl : ((backTo pos (starEach [] X.env)).any (·.1) || (backToKw pos (keywordEach kws X.env)).any (·.1.isNone)) = false := by rfl) :
    PE X (.Call (.Name x p) [] kws pos) (tCallP sp is n E tk) := by
  refine ⟨fun pins s σ H Q I h => ?_⟩
  refine wpAny_Call_Name_kw (ld_glob I hg hm ?_ hdb)
  refine PySem.W.callWith_KW0 (h₀ := X.base) I.ok.mod.kin hk hall (thn (hkw.run pos pins s σ H _ I h) fun ws s2 ⟨zs, H2, I2, rz, l2, q2⟩ => ⟨I2.kIn, ?_⟩) hpl
  rw [hks]
  have r2 := Vals.perm rz is
  refine wpAny_call (codeAny_mono (F.run X.A X.stack s2 H2 ⟨[], ks.zip ws⟩ (permL is ws) (permL is zs) Q (E σ) hr I2.env0 (hb.to s2 ws I2.kIn (rz.length.symm.trans (l2.trans hn))) r2 q2) fun r s' hq => ?_)
  cases r with
  | error e => exact hx σ pins H2 s2 e s' I2 hq
  | ok fl =>
    cases fl with
    | ret u => exact I2.after hq
    | next => exact False.elim hq
    | brk => exact False.elim hq
    | cont => exact False.elim hq
def eCallP (is : List Nat) (m : FM) (as : AM) : EM := fun ρ st => (as ρ st).bind fun ws st1 => m (permL is ws) st1
theorem sem_callP {m : FM} {n : Nat} {is : List Nat} {ta : TA} {as : AM} (ha : SemA K Wx ta as) (hn : ALen as n) (hi : ∀ l : List V, l.length = n → (permL is l).length = n) : SemE K Wx (tCallP (spF K n m) is n (WE Wx) ta) (eCallP is m as) := fun G H ρ σ Q w r h => by
  refine ha G H ρ σ _ w r (PostR.bind h fun ws st1 ls1 H1 vs he e1 w1 rv h1 => ?_)
  have hl : vs.length = n := rv.length.symm.trans (hn _ _ _ _ he)
  exact ⟨hl, hi _ hl, G.to ls1 st1, permL is ws, w1, rv.perm is, h1⟩
theorem ce_callP {k : Nat} {f : Addr} {fd : FuncData} {ps ks : List Str} {is : List Nat} {m : FM} {x : Str} {p pos : Pos} {kws : List Keyword} {t : TA} {as : AM} {n : Nat} (F : FnOk X.prog X.w X.K X.mg X.base (L2.CX X.prog X.w) k f fd ps (spF X.K n m)) (hr : Room k X.A) (tk : Takes X Wx) (hg : Gl X x) (hm : X.mg x = some (.ref f)) (hk : PySem.W.keepIn X.K (.ref f) = true) (hb : KB X.K fd ps ks is)
    (ha : CK X Wx kws t as) (hl : ALen as n) (hi : ∀ l : List V, l.length = n → (permL is l).length = n) (hn : n = ks.length) (hall : (backToKw pos (keywordEach kws X.env)).all (·.1.isSome) = true := by rfl) (hks : (backToKw pos (keywordEach kws X.env)).filterMap (·.1) = ks := by rfl) (hdb : (x == ("__debug__" : Str)) = false := by decide)
    (hpl : ((backTo pos (starEach [] X.env)).any (·.1) || (backToKw pos (keywordEach kws X.env)).any (·.1.isNone)) = false := by rfl) :
    CE X Wx (.Call (.Name x p) [] kws pos) (tCallP (spF X.K n m) is n (WE Wx) t) (eCallP is m as) :=
  ⟨pe_callP F hr hg hm hk hb (passAt tk) ha.pe hn hall hks hdb hpl, sem_callP ha.sem hl hi⟩
end
section
variable {ρ : Ev} {st : Stt}
def callPK (is : List Nat) (m : FM) (r : Rs (List W)) : Rs W := match r with | .ok ws s => m (permL is ws) s | .er x s => .er x s | .no => .no
@[simp] theorem callPK_ok (is : List Nat) (m : FM) (ws : List W) : callPK is m (.ok ws st) = m (permL is ws) st := id rfl
@[simp] theorem ev_callP (is : List Nat) (m : FM) (as : AM) : eCallP is m as ρ st = callPK is m (as ρ st) := by unfold eCallP callPK; cases as ρ st <;> rfl
end
theorem blkG {X : Cx} {scope : Scope} {tg : Expr} {g : TG} {gm : GM} {is : List Nat} (h : ∀ (s : Shared) (H : Hp) (C : Addr) (cl : List (Str × Addr)) (fp : List Addr), ∃ g', CG (X.blk s H scope (compEnvC scope cl C X.env) fp) tg g' gm is ∧ g' = g) : Blk X scope fun Y => CG Y tg g gm is := fun s H C cl fp => by
  obtain ⟨_, z, rfl⟩ := h s H C cl fp
  exact z
end Sim
end
section
set_option Elab.async false
set_option linter.all false
set_option maxRecDepth 100000
set_option maxHeartbeats 1000000
open PySem PySem.Spec PyProof.Rows L2
namespace Sim
/-- behind draws, with a new list at the end -/
structure DrP (st st' : Stt) (i N : Nat) (ob : Ob) : Prop where
  len : st'.length = st.length + 1
  fr : ∀ j, j < st.length → j ≠ i → st'[j]? = st[j]?
  at' : st'[st.length]? = some (some ob)
  sp : Sp st' i N
theorem frzL_dr {m : FM} {ws : List W} {st st2 : Stt} {r i N : Nat} {ob : Ob} (h : m ws st = .ok (.loc r) st2) (hr : st.length ≤ r) (e : st2[r]? = some (some ob)) (ho : okO st.length ob = true) (hf : ∀ j, j < st.length → j ≠ i → st2[j]? = st[j]?) (hs : Sp st2 i N) (hi : i < st.length) :
    ∃ st', frzL m ws st = .ok (.loc st.length) st' ∧ DrP st st' i N ob := by
  have hl : st.length ≤ st2.length := Nat.le_trans hr (Nat.le_of_lt (List.getElem?_eq_some_iff.mp e).1)
  have ht : (st2.take st.length).length = st.length := by rw [List.length_take]; omega
  have hg : ∀ j, j < st.length → (st2.take st.length ++ [some ob])[j]? = st2[j]? := fun j hj => by
    rw [List.getElem?_append_left (by omega), List.getElem?_take_of_lt hj]
  refine ⟨_, frzL_eq h (fun j hj => ?_) hr e ho, by rw [List.length_append, ht]; rfl, fun j hj hji => by rw [hg j hj]; exact hf j hj hji, ?_, hs.cong (hg i hi) (Nat.le_refl _)⟩
  · by_cases q : j = i
    · subst q
      obtain ⟨a, b, c, h1, _⟩ := hs
      exact .inr ⟨_, h1, by simp [okO, okLs, okL]⟩
    · exact .inl (hf j hj q)
  · have := @List.getElem?_concat_length _ (st2.take st.length) (some ob)
    rwa [ht] at this
end Sim
end
section
set_option Elab.async false
set_option linter.all false
set_option maxRecDepth 100000
set_option maxHeartbeats 1000000
open PySem PySem.Spec PyProof.Rows L2
namespace Sim
/-! a def that calls itself: by how deep -/
theorem fn_no {K : PySem.W.Frag} {P : Program} {w : PySem.World} {mg : Str → Option Value} {base : Heap} {CX : CXT} {f : Addr} {fd : FuncData} {ps : List Str} {k n : Nat} : FnOk P w K mg base CX k f fd ps (spF K n (fun _ _ => .no)) :=
  ⟨fun _ _ _ _ h => h.2.elim fun _ h => h.elim fun _ h => h.2.2.elim, fun _ _ _ _ _ _ _ _ _ _ _ _ _ h => h.2.elim fun _ h => h.elim fun _ h => h.2.2.elim⟩
section
variable {X : Cx} {Wx : WX} {K : PySem.W.Frag} {G : Gm} {H : Hp}
/-! a, b = a list -/
def gmLst (n : Nat) (r : List W → Ev → Option Ev) : GM := fun st w ρ => match lstOf st w with
  | some ws => if ws.length = n then r ws ρ else none
  | none => none
theorem cg_lst {es : List Expr} {k : Nat} {t : TGs} {gm : List W → Ev → Option Ev} {is : List Nat} {n : Nat} {pos : Pos} (hc : X.calm = true) (h : CGs X es t gm is) (hn : (assignEach es X.env).length = n := by rfl) (hst : (assignEach es X.env).findIdx? (·.1) = none := by rfl) :
    CG X (.Tuple es k pos) (gLst X.K n t) (gmLst n gm) is := by
  refine ⟨pg_lst hc h.pe hn hst, fun G H ρ σ w v ρ' Q wo r rv e q => ?_⟩
  unfold gmLst at e
  split at e
  · rename_i ws hw
    split at e
    · rename_i hl
      obtain ⟨a, vs, rfl, sq, rl⟩ := lst_sq wo rv hw
      exact ⟨a, vs, rfl, sq, by rw [← rl.length]; exact hl, h.sem G H ρ σ _ _ ρ' Q wo r rl e q⟩
    · cases e
  · cases e
@[simp] theorem ev_glst (n : Nat) (r : List W → Ev → Option Ev) (ws : List W) (ρ : Ev) (st : Stt) : gmLst n r st (.lst ws) ρ = if ws.length = n then r ws ρ else none := id rfl
/-! xs.remove(text) -/
def eqs (k : Str) (v : Value) : Bool := match v with
  | .str n _ => n.cps.toList == k.cps.toList
  | _ => false
theorem str_eqs (a b : Str) : (a.cps.toList == b.cps.toList) = decide (a = b) := by
  by_cases h : a = b
  · subst h; simp
  · have : ¬ a.cps.toList = b.cps.toList := fun z => h (by cases a; cases b; simp at z; rw [z])
    rw [beq_eq_false_iff_ne.mpr this, decide_eq_false h]
theorem eqs_gives {k : Str} {t : Tok} : ∀ {ns : List Str} {us : List Value}, Vals (ns.map V.str) us → ∀ y ∈ us, MeetsSeq.EqGives y (.str k t) (eqs k y)
  | [], _, h => fun y hy => by cases h; cases hy
  | n :: ns, _, h => fun y hy => by
    cases h with
    | cons a b =>
      obtain ⟨t', rfl⟩ := a
      rcases List.mem_cons.mp hy with e | e
      · rw [e]; exact SeqRoads2.EqGives.str n k t' t
      · exact eqs_gives b y e
theorem eqs_at {k : Str} {ns : List Str} {us : List Value} (r : Vals (ns.map V.str) us) (i : Nat) (hi : i < us.length) : ∃ h : i < ns.length, eqs k us[i] = decide (ns[i] = k) := by
  have hl : ns.length = us.length := by rw [← r.length, List.length_map]
  have h : i < ns.length := by omega
  refine ⟨h, ?_⟩
  obtain ⟨u, hu, ru⟩ := r.get (i := i) (x := .str ns[i]) (by rw [List.getElem?_map, List.getElem?_eq_getElem h]; rfl)
  obtain ⟨t, rfl⟩ := ru
  have : us[i] = .str ns[i] t := by rw [List.getElem?_eq_getElem hi] at hu; exact Option.some.inj hu
  rw [this]
  exact str_eqs _ _
theorem eraseIdx_mapS {α β : Type} (f : α → β) : ∀ (l : List α) (j : Nat), (l.map f).eraseIdx j = (l.eraseIdx j).map f
  | [], j => by simp
  | a :: r, 0 => by simp
  | a :: r, j + 1 => by
    have ih := eraseIdx_mapS f r j
    simp [ih]
def rRemS : V → List V → Hp → VK → Prop := fun x xs H Q => ∃ (l : Addr) (ns : List Str) (k : Str), x = .ref l ∧ xs = [.str k] ∧ H l = some (.lst (ns.map V.str)) ∧ k ∈ ns ∧ Q .non (upd H l (.lst ((ns.erase k).map V.str)))
theorem mt_removeS : MtR X "list.remove" rRemS := by
  intro pins s σ H x xs v us Q I rx rxs h
  obtain ⟨l, ns, k, rfl, rfl, hH, hk, q⟩ := h
  cases rx
  obtain ⟨u, rfl, ru⟩ := rxs.one
  obtain ⟨t, rfl⟩ := ru
  obtain ⟨z, its, n, r, hl, e⟩ := I.lstM hH
  rw [List.length_map] at hl z
  have hj := List.idxOf_lt_length_of_mem hk
  have hji : ns.idxOf k < its.length := by omega
  refine call_meets PySem.F.slot_list_remove ⟨_, e, rfl⟩ PySem.F.entry_list_remove (PySem.F.args_list_remove_2 _ _)
    (MeetsSeq.list_remove l its.toArray n (.str k t) (eqs k) (fun y hy => eqs_gives r y (by simpa using hy)) (ns.idxOf k) (by rw [List.size_toArray]; exact hji) ?_ ?_ (by rw [List.size_toArray]; omega)) ⟨e, ?_⟩
  · obtain ⟨h1, h2⟩ := eqs_at (k := k) r (ns.idxOf k) hji
    show eqs k its[ns.idxOf k] = true
    rw [h2, List.getElem_idxOf, decide_eq_true rfl]
  · intro m hm hmj
    have hm' : m < its.length := by rw [List.size_toArray] at hm; exact hm
    obtain ⟨h1, h2⟩ := eqs_at (k := k) r m hm'
    show eqs k its[m] = false
    rw [h2, decide_eq_false]
    exact fun z => by
      have := List.not_of_lt_findIdx (xs := ns) (p := (· == k)) (i := m) hmj
      simp [z] at this
  · have rr := r.eraseIdx (ns.idxOf k)
    have ee : (ns.map V.str).eraseIdx (ns.idxOf k) = (ns.erase k).map V.str := by rw [List.erase_eq_eraseIdx_of_idxOf rfl, eraseIdx_mapS]
    rw [ee] at rr
    refine ⟨.non, _, I.lset (its' := its.eraseIdx (ns.idxOf k)) (t' := s.toks) hH e ?_ rr ?_, rfl, q⟩
    · show its.toArray.eraseIdxIfInBounds (ns.idxOf k) = (its.eraseIdx (ns.idxOf k)).toArray
      rw [List.eraseIdxIfInBounds_toArray]
    · rw [List.length_map]
      have := List.length_erase_le (a := k) (l := ns)
      omega
def fRemS : List W → List W → Stt → Option (W × List W) := fun us ws _ => match ws with
  | [.str k] => match strsOf us with
    | some ns => if k ∈ ns then some (.non, (ns.erase k).map .str) else none
    | none => none
  | _ => none
theorem rep_strs' : ∀ {xs : List Str}, RepL K G H (xs.map .str) (xs.map .str)
  | [] => .nil
  | _ :: _ => .cons (.str _) rep_strs'
theorem ms_removeS : MtS K rRemS (mUp fRemS) := mt_up fun G H a us ws zs vs y us' Q wo hz rz rl e q => by
  unfold fRemS at e
  split at e
  · rename_i k
    split at e
    · rename_i ns hn
      split at e
      · rename_i hk
        cases e
        obtain ⟨v, rfl, rv⟩ := rl.one
        cases rv.str_inv
        rw [strsOf_eq hn] at rz
        have := rz.strs
        subst this
        exact ⟨a, ns, k, rfl, rfl, hz, hk, q _ _ .non rep_strs'⟩
      · cases e
    · cases e
  · cases e
/-! dict(a list of pairs) -/
def prsOf : List W → Option (List (Key × W))
  | [] => some []
  | .tup [a, b] :: r => match toKey a, prsOf r with
    | some k, some q => some ((k, b) :: q)
    | _, _ => none
  | _ => none
def fDictP : F1 := fun st ws => match ws with
  | [x] => match lstOf st x with
    | some ps => match prsOf ps with
      | some kws => some (.dic (mergeW [] kws))
      | none => none
    | none => none
  | _ => none
def rDictP (K : PySem.W.Frag) : List V → Hp → VK → Prop := fun xs H Q => ∃ (a : Addr) (ps : List Addr) (kvs : List (Key × V)), xs = [.ref a] ∧ SqL K H a (ps.map V.ref) ∧ Paired (fun p kv => SqT K H p [kV kv.1, kv.2]) ps kvs ∧
    ∀ p, H p = none → Q (.ref p) (upd H p (.dK (mergeK [] kvs)))
theorem cr_dictP (hcalm : X.calm = true) : CallR X (.type "dict") (rDictP X.K) := call_dictP hcalm
theorem prs_rep : ∀ {ps : List W} {vs : List V} {kws : List (Key × W)}, RepL K G H ps vs → prsOf ps = some kws → ∃ (as : List Addr) (kvs : List (Key × V)), vs = as.map V.ref ∧ Paired (fun p kv => SqT K H p [kV kv.1, kv.2]) as kvs ∧ RepK K G H kws kvs
  | [], _, kws, h, e => by cases h; cases e; exact ⟨[], [], rfl, .nil, .nil⟩
  | w :: ps, _, kws, h, e => by
    cases h with
    | cons rw' rl =>
      unfold prsOf at e
      split at e
      · rename_i h; cases h
      · rename_i a b r hw
        cases hw
        split at e
        · rename_i k q hk hq
          cases e
          obtain ⟨as, kvs, rfl, hp, rk⟩ := prs_rep rl hq
          obtain ⟨p, xs, rfl, sq, rx⟩ := tup_sq rw'
          obtain ⟨v, u, rfl, rv, ru⟩ := rx.two
          cases toKey_rep rv hk
          exact ⟨p :: as, (k, u) :: kvs, rfl, .cons sq hp, .cons ru rk⟩
        · cases e
      · cases e
theorem fs_dictP : FnS K (rDictP K) fDictP := fun G H ws vs w Q wo rl e q => by
  unfold fDictP at e
  split at e
  · rename_i x
    split at e
    · rename_i ps hps
      split at e
      · rename_i kws hk
        cases e
        obtain ⟨v, rfl, rx⟩ := rl.one
        obtain ⟨a, vs, rfl, sq, rps⟩ := lst_sq wo rx hps
        obtain ⟨as, kvs, rfl, hp, rk⟩ := prs_rep rps hk
        refine ⟨a, as, kvs, rfl, sq, hp, fun p hn => ?_⟩
        have rm : RepK K G H (mergeW [] kws) (mergeK [] kvs) := RepK.merge rk .nil
        exact q _ _ (Ext.new wo hn) (wo.new hn) (.dic ⟨.inl upd_same, wo.nal hn⟩ (rm.mono (Ext.new wo hn)))
      · cases e
    · cases e
  · cases e
end
end Sim
end
section
set_option Elab.async false
set_option linter.all false
set_option maxRecDepth 100000
set_option maxHeartbeats 1000000
open PySem PySem.Spec PyProof.Rows L2
namespace Sim
section
variable {K : PySem.W.Frag} {st : Stt}
/-- x.index(y) of a list that is changed -/
def mIdxL : MF := fun x ws st => match lstX st x with
  | some _ => mIdx x ws st
  | none => .no
theorem ms_idxL' : MtS K (rIdxL K) mIdxL := ms_idxL
theorem idxL_ok {n : Nat} {x : Str} {xs : List Str} (h : st[n]? = some (some (.lst (xs.map .str)))) (hx : x ∈ xs) : mIdxL (.loc n) [.str x] st = .ok (.int (xs.idxOf x : Nat)) st := by
  unfold mIdxL mIdx
  simp [lstX, h, strsOf_map, hx]
theorem remS_ok {x : Str} {xs : List Str} (hx : x ∈ xs) : fRemS (xs.map .str) [.str x] st = some (.non, (xs.erase x).map .str) := by
  unfold fRemS
  simp [strsOf_map, hx]
@[simp] theorem get_t0 {α : Type} (st : List α) (x y z : α) : (st ++ [x, y, z])[st.length]? = some x := by
  rw [List.getElem?_append_right (Nat.le_refl _), Nat.sub_self]; rfl
@[simp] theorem get_t1 {α : Type} (st : List α) (x y z : α) : (st ++ [x, y, z])[st.length + 1]? = some y := by
  rw [List.getElem?_append_right (by omega), show st.length + 1 - st.length = 1 by omega]; rfl
@[simp] theorem get_t2 {α : Type} (st : List α) (x y z : α) : (st ++ [x, y, z])[st.length + 1 + 1]? = some z := by
  rw [List.getElem?_append_right (by omega), show st.length + 1 + 1 - st.length = 2 by omega]; rfl
@[simp] theorem set_t0 {α : Type} (st : List α) (x y z u : α) : (st ++ [x, y, z]).set st.length u = st ++ [u, y, z] := by
  rw [List.set_append_right _ _ (Nat.le_refl _), Nat.sub_self]; rfl
@[simp] theorem set_t1 {α : Type} (st : List α) (x y z u : α) : (st ++ [x, y, z]).set (st.length + 1) u = st ++ [x, u, z] := by
  rw [List.set_append_right _ _ (by omega), show st.length + 1 - st.length = 1 by omega]; rfl
@[simp] theorem set_t2 {α : Type} (st : List α) (x y z u : α) : (st ++ [x, y, z]).set (st.length + 1 + 1) u = st ++ [x, y, u] := by
  rw [List.set_append_right _ _ (by omega), show st.length + 1 + 1 - st.length = 2 by omega]; rfl
end
end Sim
end
section
set_option Elab.async false
set_option linter.all false
set_option maxRecDepth 100000
set_option maxHeartbeats 1000000
open PySem PySem.Spec PyProof.Rows L2
namespace Sim
section
variable {X : Cx} {K : PySem.W.Frag} {G : Gm} {H : Hp}
/-- tuple(text) -/
def rTupS : List V → Hp → VK → Prop := fun xs H Q => ∃ z : Str, xs = [.str z] ∧ z.length ≤ sizeLine ∧ ∀ (l : Addr) (o : Obj), o.dict = none → H l = none → Q (.ref l) (upd H l (.frz o (.tup (z.cps.toList.map fun c => V.str ⟨#[c]⟩))))
theorem cr_tupS (hc : X.calm = true) : CallR X (.type "tuple") rTupS := by
  intro pins s σ H xs us Q I r h
  obtain ⟨z, rfl, hz, q⟩ := h
  obtain ⟨u, rfl, t, rfl⟩ := vals1 r
  refine call_tuple_str (I.ok.hd hc) z t (fun h' tk acc kp hi => ?_) hz
  have hv := Low.signs_vals hi
  have I1 : L2.Inv X pins σ H { s with heap := h', toks := tk } := I.kept kp
  have := tup_laid (s := s) (h' := h') (tk := tk) (its := acc.toList) I1 hv (by rw [List.length_map, Array.length_toList]; exact hz) q
  simpa using this
def fTupS : F1 := fun _ ws => match ws with
  | [.str z] => if z.length ≤ 100000 then some (.tup (z.cps.toList.map fun c => .str ⟨#[c]⟩)) else none
  | _ => none
theorem fs_tupS : FnS K rTupS fTupS := fun G H ws vs w Q wo rl e q => by
  unfold fTupS at e
  split at e
  · rename_i z
    split at e
    · rename_i hz
      cases e
      obtain ⟨v, rfl, rx⟩ := rl.one
      cases rx.str_inv
      exact ⟨z, rfl, Nat.le_trans hz (by decide), fun l o hd hl => PostV.newT wo q rep_signs hd hl⟩
    · cases e
  · cases e
end
end Sim
end
section
set_option Elab.async false
set_option linter.all false
set_option maxRecDepth 100000
set_option maxHeartbeats 4000000
open PySem PySem.Spec PyProof.Rows L2
namespace Lw
open Sim
abbrev pW : Program := PySem.Challenge.pw_twonames_k40_whole_heard_by_places
def topS (i : Nat) : Stmt := pW.main.body.getD i (.Pass ⟨0, 0, 0, 0⟩)
abbrev s_is_amount : Stmt := topS 13
abbrev nm_is_amount : List Str := ["thing"]
theorem sc_is_amount : FnScope nm_is_amount ["thing"] (defScope s_is_amount) := ⟨rfl, rfl, rfl, by decide +kernel, rfl, by decide +kernel, by decide +kernel⟩
abbrev s_is_letter : Stmt := topS 14
abbrev nm_is_letter : List Str := ["thing"]
theorem sc_is_letter : FnScope nm_is_letter ["thing"] (defScope s_is_letter) := ⟨rfl, rfl, rfl, by decide +kernel, rfl, by decide +kernel, by decide +kernel⟩
abbrev s_is_row : Stmt := topS 15
abbrev nm_is_row : List Str := ["thing", "one"]
theorem sc_is_row : FnScope nm_is_row ["thing"] (defScope s_is_row) := ⟨rfl, rfl, rfl, by decide +kernel, rfl, by decide +kernel, by decide +kernel⟩
abbrev s_is_pair : Stmt := topS 16
abbrev nm_is_pair : List Str := ["thing", "row"]
theorem sc_is_pair : FnScope nm_is_pair ["thing"] (defScope s_is_pair) := ⟨rfl, rfl, rfl, by decide +kernel, rfl, by decide +kernel, by decide +kernel⟩
abbrev s_is_place : Stmt := topS 17
abbrev nm_is_place : List Str := ["thing", "many"]
theorem sc_is_place : FnScope nm_is_place ["thing", "many"] (defScope s_is_place) := ⟨rfl, rfl, rfl, by decide +kernel, rfl, by decide +kernel, by decide +kernel⟩
abbrev s_is_event_of : Stmt := topS 18
abbrev nm_is_event_of : List Str := ["letters", "many", "thing", "one"]
theorem sc_is_event_of : FnScope nm_is_event_of ["letters", "many", "thing"] (defScope s_is_event_of) := ⟨rfl, rfl, rfl, by decide +kernel, rfl, by decide +kernel, by decide +kernel⟩
abbrev s_need_row : Stmt := topS 19
abbrev nm_need_row : List Str := ["row"]
theorem sc_need_row : FnScope nm_need_row ["row"] (defScope s_need_row) := ⟨rfl, rfl, rfl, by decide +kernel, rfl, by decide +kernel, by decide +kernel⟩
abbrev s_need_pair : Stmt := topS 20
abbrev nm_need_pair : List Str := ["pair"]
theorem sc_need_pair : FnScope nm_need_pair ["pair"] (defScope s_need_pair) := ⟨rfl, rfl, rfl, by decide +kernel, rfl, by decide +kernel, by decide +kernel⟩
abbrev s_are_events : Stmt := topS 21
abbrev nm_are_events : List Str := ["pair", "thing", "one"]
theorem sc_are_events : FnScope nm_are_events ["pair", "thing"] (defScope s_are_events) := ⟨rfl, rfl, rfl, by decide +kernel, rfl, by decide +kernel, by decide +kernel⟩
abbrev s_need_events : Stmt := topS 22
abbrev nm_need_events : List Str := ["pair", "events"]
theorem sc_need_events : FnScope nm_need_events ["pair", "events"] (defScope s_need_events) := ⟨rfl, rfl, rfl, by decide +kernel, rfl, by decide +kernel, by decide +kernel⟩
abbrev s_need_letters : Stmt := topS 23
abbrev nm_need_letters : List Str := ["row", "letters", "one"]
theorem sc_need_letters : FnScope nm_need_letters ["row", "letters"] (defScope s_need_letters) := ⟨rfl, rfl, rfl, by decide +kernel, rfl, by decide +kernel, by decide +kernel⟩
abbrev s_to_front : Stmt := topS 24
abbrev nm_to_front : List Str := ["row", "place"]
theorem sc_to_front : FnScope nm_to_front ["row", "place"] (defScope s_to_front) := ⟨rfl, rfl, rfl, by decide +kernel, rfl, by decide +kernel, by decide +kernel⟩
abbrev s_done : Stmt := topS 25
abbrev nm_done : List Str := ["told", "heard", "event", "kind", "place", "written"]
theorem sc_done : FnScope nm_done ["told", "heard", "event"] (defScope s_done) := ⟨rfl, rfl, rfl, by decide +kernel, rfl, by decide +kernel, by decide +kernel⟩
abbrev s_gone : Stmt := topS 26
abbrev nm_gone : List Str := ["pair", "events", "told", "heard", "said", "written", "event", "more"]
theorem sc_gone : FnScope nm_gone ["pair", "events"] (defScope s_gone) := ⟨rfl, rfl, rfl, by decide +kernel, rfl, by decide +kernel, by decide +kernel⟩
abbrev s_go : Stmt := topS 27
abbrev nm_go : List Str := ["pair", "events"]
theorem sc_go : FnScope nm_go ["pair", "events"] (defScope s_go) := ⟨rfl, rfl, rfl, by decide +kernel, rfl, by decide +kernel, by decide +kernel⟩
abbrev s_rows_by : Stmt := topS 29
abbrev nm_rows_by : List Str := ["row", "letters", "found", "letter"]
theorem sc_rows_by : FnScope nm_rows_by ["row", "letters"] (defScope s_rows_by) := ⟨rfl, rfl, rfl, by decide +kernel, rfl, by decide +kernel, by decide +kernel⟩
abbrev s_places_of : Stmt := topS 30
abbrev nm_places_of : List Str := ["row", "said", "ahead", "letter"]
theorem sc_places_of : FnScope nm_places_of ["row", "said"] (defScope s_places_of) := ⟨rfl, rfl, rfl, by decide +kernel, rfl, by decide +kernel, by decide +kernel⟩
abbrev s_said_of : Stmt := topS 31
abbrev nm_said_of : List Str := ["row", "places", "place", "found"]
theorem sc_said_of : FnScope nm_said_of ["row", "places"] (defScope s_said_of) := ⟨rfl, rfl, rfl, by decide +kernel, rfl, by decide +kernel, by decide +kernel⟩
abbrev s__law_cell_at : Stmt := topS 33
abbrev nm__law_cell_at : List Str := ["script", "k"]
theorem sc__law_cell_at : FnScope nm__law_cell_at ["script", "k"] (defScope s__law_cell_at) := ⟨rfl, rfl, rfl, by decide +kernel, rfl, by decide +kernel, by decide +kernel⟩
abbrev s__law_bag : Stmt := topS 34
abbrev nm__law_bag : List Str := ["cell"]
theorem sc__law_bag : FnScope nm__law_bag ["cell"] (defScope s__law_bag) := ⟨rfl, rfl, rfl, by decide +kernel, rfl, by decide +kernel, by decide +kernel⟩
abbrev s__law_draw : Stmt := topS 35
abbrev nm__law_draw : List Str := ["bag", "sides", "digit"]
theorem sc__law_draw : FnScope nm__law_draw ["bag", "sides"] (defScope s__law_draw) := ⟨rfl, rfl, rfl, by decide +kernel, rfl, by decide +kernel, by decide +kernel⟩
abbrev s__law_line : Stmt := topS 36
abbrev nm__law_line : List Str := ["bag", "upto", "size", "stock", "k"]
theorem sc__law_line : FnScope nm__law_line ["bag", "upto"] (defScope s__law_line) := ⟨rfl, rfl, rfl, by decide +kernel, rfl, by decide +kernel, by decide +kernel⟩
abbrev s__law_mixed : Stmt := topS 37
abbrev nm__law_mixed : List Str := ["bag", "line", "stock", "k"]
theorem sc__law_mixed : FnScope nm__law_mixed ["bag", "line"] (defScope s__law_mixed) := ⟨rfl, rfl, rfl, by decide +kernel, rfl, by decide +kernel, by decide +kernel⟩
abbrev s__law_front : Stmt := topS 38
abbrev nm__law_front : List Str := ["line", "spot"]
theorem sc__law_front : FnScope nm__law_front ["line", "spot"] (defScope s__law_front) := ⟨rfl, rfl, rfl, by decide +kernel, rfl, by decide +kernel, by decide +kernel⟩
abbrev s__law_alike : Stmt := topS 39
abbrev nm__law_alike : List Str := ["found", "due", "k"]
theorem sc__law_alike : FnScope nm__law_alike ["found", "due"] (defScope s__law_alike) := ⟨rfl, rfl, rfl, by decide +kernel, rfl, by decide +kernel, by decide +kernel⟩
abbrev s__law_places : Stmt := topS 40
abbrev nm__law_places : List Str := ["line", "said_now", "found", "one", "spot"]
theorem sc__law_places : FnScope nm__law_places ["line", "said_now"] (defScope s__law_places) := ⟨rfl, rfl, rfl, by decide +kernel, rfl, by decide +kernel, by decide +kernel⟩
abbrev s__law_right : Stmt := topS 41
abbrev nm__law_right : List Str := ["bag", "line", "other", "wide", "most", "said_now", "due", "found", "exchanged", "turned", "met_by", "later", "told_letters", "notes", "ahead_ones", "doubled", "spots", "k", "one", "spot"]
theorem sc__law_right : FnScope nm__law_right ["bag"] (defScope s__law_right) := ⟨rfl, rfl, rfl, by decide +kernel, rfl, by decide +kernel, by decide +kernel⟩
abbrev s_law : Stmt := topS 42
abbrev nm_law : List Str := ["script", "k"]
theorem sc_law : FnScope nm_law ["script"] (defScope s_law) := ⟨rfl, rfl, rfl, by decide +kernel, rfl, by decide +kernel, by decide +kernel⟩
structure Txt (K : PySem.W.Frag) (mg : Str → Option Value) where
  f_is_amount : Addr
  d_is_amount : FuncData
  F_is_amount : Fun K "is_amount" "is_amount" s_is_amount f_is_amount d_is_amount
  b_is_amount : Binds K d_is_amount ["thing"] []
  g_is_amount : mg "is_amount" = some (.ref f_is_amount)
  f_is_letter : Addr
  d_is_letter : FuncData
  F_is_letter : Fun K "is_letter" "is_letter" s_is_letter f_is_letter d_is_letter
  b_is_letter : Binds K d_is_letter ["thing"] []
  g_is_letter : mg "is_letter" = some (.ref f_is_letter)
  f_is_row : Addr
  d_is_row : FuncData
  F_is_row : Fun K "is_row" "is_row" s_is_row f_is_row d_is_row
  b_is_row : Binds K d_is_row ["thing"] []
  g_is_row : mg "is_row" = some (.ref f_is_row)
  f_is_pair : Addr
  d_is_pair : FuncData
  F_is_pair : Fun K "is_pair" "is_pair" s_is_pair f_is_pair d_is_pair
  b_is_pair : Binds K d_is_pair ["thing"] []
  g_is_pair : mg "is_pair" = some (.ref f_is_pair)
  f_is_place : Addr
  d_is_place : FuncData
  F_is_place : Fun K "is_place" "is_place" s_is_place f_is_place d_is_place
  b_is_place : Binds K d_is_place ["thing", "many"] []
  g_is_place : mg "is_place" = some (.ref f_is_place)
  f_is_event_of : Addr
  d_is_event_of : FuncData
  F_is_event_of : Fun K "is_event_of" "is_event_of" s_is_event_of f_is_event_of d_is_event_of
  b_is_event_of : Binds K d_is_event_of ["letters", "many", "thing"] []
  g_is_event_of : mg "is_event_of" = some (.ref f_is_event_of)
  f_need_row : Addr
  d_need_row : FuncData
  F_need_row : Fun K "need_row" "need_row" s_need_row f_need_row d_need_row
  b_need_row : Binds K d_need_row ["row"] []
  g_need_row : mg "need_row" = some (.ref f_need_row)
  f_need_pair : Addr
  d_need_pair : FuncData
  F_need_pair : Fun K "need_pair" "need_pair" s_need_pair f_need_pair d_need_pair
  b_need_pair : Binds K d_need_pair ["pair"] []
  g_need_pair : mg "need_pair" = some (.ref f_need_pair)
  f_are_events : Addr
  d_are_events : FuncData
  F_are_events : Fun K "are_events" "are_events" s_are_events f_are_events d_are_events
  b_are_events : Binds K d_are_events ["pair", "thing"] []
  g_are_events : mg "are_events" = some (.ref f_are_events)
  f_need_events : Addr
  d_need_events : FuncData
  F_need_events : Fun K "need_events" "need_events" s_need_events f_need_events d_need_events
  b_need_events : Binds K d_need_events ["pair", "events"] []
  g_need_events : mg "need_events" = some (.ref f_need_events)
  f_need_letters : Addr
  d_need_letters : FuncData
  F_need_letters : Fun K "need_letters" "need_letters" s_need_letters f_need_letters d_need_letters
  b_need_letters : Binds K d_need_letters ["row", "letters"] []
  g_need_letters : mg "need_letters" = some (.ref f_need_letters)
  f_to_front : Addr
  d_to_front : FuncData
  F_to_front : Fun K "to_front" "to_front" s_to_front f_to_front d_to_front
  b_to_front : Binds K d_to_front ["row", "place"] []
  g_to_front : mg "to_front" = some (.ref f_to_front)
  f_done : Addr
  d_done : FuncData
  F_done : Fun K "done" "done" s_done f_done d_done
  b_done : Binds K d_done ["told", "heard", "event"] []
  g_done : mg "done" = some (.ref f_done)
  f_gone : Addr
  d_gone : FuncData
  F_gone : Fun K "gone" "gone" s_gone f_gone d_gone
  b_gone : Binds K d_gone ["pair", "events"] []
  g_gone : mg "gone" = some (.ref f_gone)
  f_go : Addr
  d_go : FuncData
  F_go : Fun K "go" "go" s_go f_go d_go
  b_go : Binds K d_go ["pair", "events"] []
  g_go : mg "go" = some (.ref f_go)
  f_rows_by : Addr
  d_rows_by : FuncData
  F_rows_by : Fun K "rows_by" "rows_by" s_rows_by f_rows_by d_rows_by
  b_rows_by : Binds K d_rows_by ["row", "letters"] []
  g_rows_by : mg "rows_by" = some (.ref f_rows_by)
  f_places_of : Addr
  d_places_of : FuncData
  F_places_of : Fun K "places_of" "places_of" s_places_of f_places_of d_places_of
  b_places_of : Binds K d_places_of ["row", "said"] []
  g_places_of : mg "places_of" = some (.ref f_places_of)
  f_said_of : Addr
  d_said_of : FuncData
  F_said_of : Fun K "said_of" "said_of" s_said_of f_said_of d_said_of
  b_said_of : Binds K d_said_of ["row", "places"] []
  g_said_of : mg "said_of" = some (.ref f_said_of)
  f__law_cell_at : Addr
  d__law_cell_at : FuncData
  F__law_cell_at : Fun K "_law_cell_at" "_law_cell_at" s__law_cell_at f__law_cell_at d__law_cell_at
  b__law_cell_at : Binds K d__law_cell_at ["script", "k"] []
  g__law_cell_at : mg "_law_cell_at" = some (.ref f__law_cell_at)
  f__law_bag : Addr
  d__law_bag : FuncData
  F__law_bag : Fun K "_law_bag" "_law_bag" s__law_bag f__law_bag d__law_bag
  b__law_bag : Binds K d__law_bag ["cell"] []
  g__law_bag : mg "_law_bag" = some (.ref f__law_bag)
  f__law_draw : Addr
  d__law_draw : FuncData
  F__law_draw : Fun K "_law_draw" "_law_draw" s__law_draw f__law_draw d__law_draw
  b__law_draw : Binds K d__law_draw ["bag", "sides"] []
  g__law_draw : mg "_law_draw" = some (.ref f__law_draw)
  f__law_line : Addr
  d__law_line : FuncData
  F__law_line : Fun K "_law_line" "_law_line" s__law_line f__law_line d__law_line
  b__law_line : Binds K d__law_line ["bag", "upto"] []
  g__law_line : mg "_law_line" = some (.ref f__law_line)
  f__law_mixed : Addr
  d__law_mixed : FuncData
  F__law_mixed : Fun K "_law_mixed" "_law_mixed" s__law_mixed f__law_mixed d__law_mixed
  b__law_mixed : Binds K d__law_mixed ["bag", "line"] []
  g__law_mixed : mg "_law_mixed" = some (.ref f__law_mixed)
  f__law_front : Addr
  d__law_front : FuncData
  F__law_front : Fun K "_law_front" "_law_front" s__law_front f__law_front d__law_front
  b__law_front : Binds K d__law_front ["line", "spot"] []
  g__law_front : mg "_law_front" = some (.ref f__law_front)
  f__law_alike : Addr
  d__law_alike : FuncData
  F__law_alike : Fun K "_law_alike" "_law_alike" s__law_alike f__law_alike d__law_alike
  b__law_alike : Binds K d__law_alike ["found", "due"] []
  g__law_alike : mg "_law_alike" = some (.ref f__law_alike)
  f__law_places : Addr
  d__law_places : FuncData
  F__law_places : Fun K "_law_places" "_law_places" s__law_places f__law_places d__law_places
  b__law_places : Binds K d__law_places ["line", "said_now"] []
  g__law_places : mg "_law_places" = some (.ref f__law_places)
  f__law_right : Addr
  d__law_right : FuncData
  F__law_right : Fun K "_law_right" "_law_right" s__law_right f__law_right d__law_right
  b__law_right : Binds K d__law_right ["bag"] []
  g__law_right : mg "_law_right" = some (.ref f__law_right)
  f_law : Addr
  d_law : FuncData
  F_law : Fun K "law" "law" s_law f_law d_law
  b_law : Binds K d_law ["script"] []
  g_law : mg "law" = some (.ref f_law)
  t_LETTERS : Tok
  g_LETTERS : mg "LETTERS" = some (.str "abcdefghijklmnopqrstuvwxyz" t_LETTERS)
  t_MOST_LETTERS : Tok
  g_MOST_LETTERS : mg "MOST_LETTERS" = some (.int 16 t_MOST_LETTERS)
  a_PLACED : Addr
  g_PLACED : mg "PLACED" = some (.ref a_PLACED)
  r_PLACED : ∀ G H, RepV K G H (.tup [(.str "place"), (.str "lost"), (.str "twice")]) (.ref a_PLACED)
  t_NAME : Tok
  g_NAME : mg "NAME" = some (.str "name" t_NAME)
  t_AS : Tok
  g_AS : mg "AS" = some (.str "as" t_AS)
  z_all : mg "all" = none
  z_bool : mg "bool" = none
  z_dict : mg "dict" = none
  z_int : mg "int" = none
  z_isinstance : mg "isinstance" = none
  z_len : mg "len" = none
  z_list : mg "list" = none
  z_max : mg "max" = none
  z_min : mg "min" = none
  z_range : mg "range" = none
  z_set : mg "set" = none
  z_sorted : mg "sorted" = none
  z_str : mg "str" = none
  z_tuple : mg "tuple" = none
  z_zip : mg "zip" = none
section
variable {P : Program} {w : PySem.World} {K : PySem.W.Frag} {mg : Str → Option Value} {base : Heap}
noncomputable def r_is_amount : FM := mFun 1
    (sRet (emAnd (eFn fIsi (aCons (eVar 0) (aCons (eC (.ty "int")) aNil))) (emAnd (emNot (eFn fIsi (aCons (eVar 0) (aCons (eC (.ty "bool")) aNil)))) (eOp fGe (eVar 0) (eC (.int 0))))))
noncomputable def m_is_amount : FM := frz r_is_amount
theorem ok_is_amount (T : Txt K mg) : FnOk P w K mg base (L2.CX P w) 1 T.f_is_amount T.d_is_amount ["thing"] (spF K 1 m_is_amount) :=
  fn_frz (m := r_is_amount) (fn_ok T.F_is_amount sc_is_amount rfl (fun cdv A outer s H E hr => ⟨_, (css_one (cs_ret (ce_and (ce_fnB call_isi fs_isi (by rfl) T.z_isinstance (by decide +kernel) (ca_cons (ce_var 0) (ca_cons (ce_ty (by rfl) T.z_int (by decide +kernel)) ca_nil))) (ce_and (ce_not (ce_fnB call_isi fs_isi (by rfl) T.z_isinstance (by decide +kernel) (ca_cons (ce_var 0) (ca_cons (ce_ty (by rfl) T.z_bool (by decide +kernel)) ca_nil)))) (ce_one (ce_cmp op_ge os_ge (ce_var 0) ce_int))))))⟩))
noncomputable def r_is_letter : FM := mFun 1
    (sRet (emAnd (eFn fIsi (aCons (eVar 0) (aCons (eC (.ty "str")) aNil))) (emAnd (eOp fEq (eFn fLen (aCons (eVar 0) aNil)) (eC (.int 1))) (eOp (fIn false) (eVar 0) (eC (.str "abcdefghijklmnopqrstuvwxyz"))))))
noncomputable def m_is_letter : FM := frz r_is_letter
theorem ok_is_letter (T : Txt K mg) : FnOk P w K mg base (L2.CX P w) 1 T.f_is_letter T.d_is_letter ["thing"] (spF K 1 m_is_letter) :=
  fn_frz (m := r_is_letter) (fn_ok T.F_is_letter sc_is_letter rfl (fun cdv A outer s H E hr => ⟨_, (css_one (cs_ret (ce_and (ce_fnB call_isi fs_isi (by rfl) T.z_isinstance (by decide +kernel) (ca_cons (ce_var 0) (ca_cons (ce_ty (by rfl) T.z_str (by decide +kernel)) ca_nil))) (ce_and (ce_cmp (op_eqD hr.units) os_eq (ce_fnB call_len_any fs_len (by rfl) T.z_len (by decide +kernel) (ca_cons (ce_var 0) ca_nil)) ce_int) (ce_one (ce_cmp op_inU (os_in false) (ce_var 0) (ce_glob (v := (.str "abcdefghijklmnopqrstuvwxyz")) (.str "abcdefghijklmnopqrstuvwxyz") (by rfl) T.g_LETTERS ⟨_, rfl⟩ (fun _ _ => .str _))))))))⟩))
noncomputable def r_to_front : FM := mFun 2
    (sRet (eOp fAdd (eOp fAdd (eTup (aCons (eOp fIx (eVar 0) (eVar 1)) aNil)) (eSl (eVar 0) oNone (oSome (eVar 1)))) (eSl (eVar 0) (oSome (eOp fAdd (eVar 1) (eC (.int 1)))) oNone)))
noncomputable def m_to_front : FM := frz r_to_front
theorem ok_to_front (T : Txt K mg) : FnOk P w K mg base (L2.CX P w) 1 T.f_to_front T.d_to_front ["row", "place"] (spF K 2 m_to_front) :=
  fn_frz (m := r_to_front) (fn_ok T.F_to_front sc_to_front rfl (fun cdv A outer s H E hr => ⟨_, (css_one (cs_ret (ce_op op_add4 os_add (ce_op op_add4 os_add (ce_tup (ca_cons (ce_ix (ce_var 0) (ce_var 1) (fun _ _ => rfl)) ca_nil)) (ce_sl (ce_var 0) co_none (co_some (ce_var 1)))) (ce_sl (ce_var 0) (co_some (ce_op op_add4 os_add (ce_var 1) ce_int)) co_none))))⟩))
noncomputable def r__law_cell_at : FM := mFun 2
    (sSeq (sIf (tmV (eOp fLt (eVar 1) (eFn fLen (aCons (eVar 0) aNil)))) (sRet (eOp fIx (eVar 0) (eVar 1))) sNext)
    (sRet (eC (.int 0))))
noncomputable def m__law_cell_at : FM := frz r__law_cell_at
theorem ok__law_cell_at (T : Txt K mg) : FnOk P w K mg base (L2.CX P w) 1 T.f__law_cell_at T.d__law_cell_at ["script", "k"] (spF K 2 m__law_cell_at) :=
  fn_frz (m := r__law_cell_at) (fn_ok T.F__law_cell_at sc__law_cell_at rfl (fun cdv A outer s H E hr => ⟨_, (css_cons (cs_if (ct_cmp op_lt os_lt (ce_var 1) (ce_fnB call_len_any fs_len (by rfl) T.z_len (by decide +kernel) (ca_cons (ce_var 0) ca_nil))) (css_one (cs_ret (ce_ix (ce_var 0) (ce_var 1) (fun _ _ => rfl)))) css_nil)
    (css_one (cs_ret ce_int)))⟩))
noncomputable def r__law_bag : FM := mFun 1
    (sRet (eLstL (aCons (eFn fMax (aCons (eC (.int 1)) (aCons (eOp fSub (eVar 0) (eOp fPow (eC (.int 10)) (eC (.int 18)))) aNil))) (aCons (eOp fMod (eVar 0) (eOp fAdd (eOp fPow (eC (.int 10)) (eC (.int 40))) (eC (.int 121)))) (aCons (eC (.int 0)) aNil)))))
noncomputable def m__law_bag : FM := frzL r__law_bag
theorem ok__law_bag (T : Txt K mg) : FnOk P w K mg base (L2.CX P w) 1 T.f__law_bag T.d__law_bag ["cell"] (spF K 1 m__law_bag) :=
  fn_frzL (m := r__law_bag) (fn_ok T.F__law_bag sc__law_bag rfl (fun cdv A outer s H E hr => ⟨_, (css_one (cs_ret (ce_lstL (ca_cons (ce_fnB (cr_maxU rfl) fs_max (by rfl) T.z_max (by decide +kernel) (ca_cons ce_int (ca_cons (ce_op op_sub os_sub (ce_var 0) (ce_op Low.op_powW os_pow ce_int ce_int)) ca_nil))) (ca_cons (ce_op op_mod os_mod (ce_var 0) (ce_op op_add4 os_add (ce_op Low.op_powW os_pow ce_int ce_int) ce_int)) (ca_cons ce_int ca_nil))))))⟩))
noncomputable def r__law_draw : FM := mFun 3
    (sSeq (sIf (tmV (eOp fGt (eOp fIx (eVar 0) (eC (.int 0))) (eC (.int 1)))) (sSeq (sAsg (eOp fMod (eOp fIx (eVar 0) (eC (.int 0))) (eVar 1)) (gmName 2))
    (sSeq (sSetIx (eOp fDiv (eOp fIx (eVar 0) (eC (.int 0))) (eVar 1)) (eVar 0) (eC (.int 0)))
    (sRet (eVar 2)))) sNext)
    (sSeq (sSetIx (eOp fAdd (eOp fIx (eVar 0) (eC (.int 2))) (eC (.int 1))) (eVar 0) (eC (.int 2)))
    (sSeq (sAsg (eOp fMod (eOp fPow (eOp fAdd (eOp fIx (eVar 0) (eC (.int 1))) (eOp fMul (eOp fIx (eVar 0) (eC (.int 2))) (eC (.int 982451653)))) (eC (.int 5))) (eOp fAdd (eOp fPow (eC (.int 10)) (eC (.int 39))) (eC (.int 3)))) (gmName 2))
    (sSeq (sAsg (eOp fMod (eOp fPow (eOp fAdd (eVar 2) (eOp fMul (eOp fIx (eVar 0) (eC (.int 2))) (eC (.int 15485863)))) (eC (.int 3))) (eOp fAdd (eOp fPow (eC (.int 10)) (eC (.int 36))) (eC (.int 67)))) (gmName 2))
    (sRet (eOp fMod (eOp fDiv (eVar 2) (eC (.int 1024))) (eVar 1)))))))
noncomputable def m__law_draw : FM := frz r__law_draw
theorem ok__law_draw (T : Txt K mg) : FnOk P w K mg base (L2.CX P w) 1 T.f__law_draw T.d__law_draw ["bag", "sides"] (spF K 2 m__law_draw) :=
  fn_frz (m := r__law_draw) (fn_ok T.F__law_draw sc__law_draw rfl (fun cdv A outer s H E hr => ⟨_, (css_cons (cs_if (ct_cmp op_gt os_gt (ce_ix (ce_var 0) ce_int (fun _ _ => rfl)) ce_int) (css_cons (cs_set (i := 2) sc__law_draw.nd rfl (.inl rfl) (ce_op op_mod os_mod (ce_ix (ce_var 0) ce_int (fun _ _ => rfl)) (ce_var 1)))
    (css_cons (cs_setIx (ce_op op_fdivW os_div (ce_ix (ce_var 0) ce_int (fun _ _ => rfl)) (ce_var 1)) (ce_var 0) ce_int)
    (css_one (cs_ret (ce_var 2))))) css_nil)
    (css_cons (cs_setIx (ce_op op_add4 os_add (ce_ix (ce_var 0) ce_int (fun _ _ => rfl)) ce_int) (ce_var 0) ce_int)
    (css_cons (cs_set (i := 2) sc__law_draw.nd rfl (.inl rfl) (ce_op op_mod os_mod (ce_op Low.op_powW os_pow (ce_op op_add4 os_add (ce_ix (ce_var 0) ce_int (fun _ _ => rfl)) (ce_op op_mul2 os_mul (ce_ix (ce_var 0) ce_int (fun _ _ => rfl)) ce_int)) ce_int) (ce_op op_add4 os_add (ce_op Low.op_powW os_pow ce_int ce_int) ce_int)))
    (css_cons (cs_set (i := 2) sc__law_draw.nd rfl (.inl rfl) (ce_op op_mod os_mod (ce_op Low.op_powW os_pow (ce_op op_add4 os_add (ce_var 2) (ce_op op_mul2 os_mul (ce_ix (ce_var 0) ce_int (fun _ _ => rfl)) ce_int)) ce_int) (ce_op op_add4 os_add (ce_op Low.op_powW os_pow ce_int ce_int) ce_int)))
    (css_one (cs_ret (ce_op op_mod os_mod (ce_op op_fdivW os_div (ce_var 2) ce_int) (ce_var 1))))))))⟩))
noncomputable def r__law_front : FM := mFun 2
    (sRet (eOp fAdd (eOp fAdd (eTup (aCons (eOp fIx (eVar 0) (eVar 1)) aNil)) (eSl (eVar 0) oNone (oSome (eVar 1)))) (eSl (eVar 0) (oSome (eOp fAdd (eVar 1) (eC (.int 1)))) oNone)))
noncomputable def m__law_front : FM := frz r__law_front
theorem ok__law_front (T : Txt K mg) : FnOk P w K mg base (L2.CX P w) 1 T.f__law_front T.d__law_front ["line", "spot"] (spF K 2 m__law_front) :=
  fn_frz (m := r__law_front) (fn_ok T.F__law_front sc__law_front rfl (fun cdv A outer s H E hr => ⟨_, (css_one (cs_ret (ce_op op_add4 os_add (ce_op op_add4 os_add (ce_tup (ca_cons (ce_ix (ce_var 0) (ce_var 1) (fun _ _ => rfl)) ca_nil)) (ce_sl (ce_var 0) co_none (co_some (ce_var 1)))) (ce_sl (ce_var 0) (co_some (ce_op op_add4 os_add (ce_var 1) ce_int)) co_none))))⟩))
noncomputable def r_is_row : FM := mFun 2
    (sSeq (sIf (tmOr (tmNot (tmV (eFn fIsi (aCons (eVar 0) (aCons (eC (.ty "tuple")) aNil))))) (tmNot (tmV (eChain fLe fLe (eC (.int 1)) (eFn fLen (aCons (eVar 0) aNil)) (eC (.int 16)))))) (sRet (eC (.bl false))) sNext)
    (sRet (emAnd (eFn fAll (aCons (eLc (iSeq (eVar 0)) (gmName 1) tmYes (eCall m_is_letter (aCons (eVar 1) aNil)) [1]) aNil)) (eOp fEq (eLenSet (eVar 0)) (eFn fLen (aCons (eVar 0) aNil))))))
noncomputable def m_is_row : FM := frz r_is_row
theorem ok_is_row (T : Txt K mg) : FnOk P w K mg base (L2.CX P w) 2 T.f_is_row T.d_is_row ["thing"] (spF K 1 m_is_row) :=
  fn_frz (m := r_is_row) (fn_ok T.F_is_row sc_is_row rfl (fun cdv A outer s H E hr => ⟨_, (css_cons (cs_if (CW.ct (cw_or (ct_not (ct_val (ce_fnB call_isi fs_isi (by rfl) T.z_isinstance (by decide +kernel) (ca_cons (ce_var 0) (ca_cons (ce_ty (by rfl) T.z_tuple (by decide +kernel)) ca_nil))))) (cw_or1 (ct_not (ct_chain op_le os_le op_le os_le ce_int (ce_fnB call_len_any fs_len (by rfl) T.z_len (by decide +kernel) (ca_cons (ce_var 0) ca_nil)) (ce_glob (v := (.int 16)) (.int 16) (by rfl) T.g_MOST_LETTERS ⟨_, rfl⟩ (fun _ _ => .int _))))))) (css_one (cs_ret ce_bl)) css_nil)
    (css_one (cs_ret (ce_and (ce_fnB (cr_all rfl) fs_all (by rfl) T.z_all (by decide +kernel) (ca_cons (ce_lc (own := [("one", 1)]) rfl sc_is_row.nd (ci_seq (ce_var 0)) (blkOk_by (own := [("one", 1)]) (N := nm_is_row) (sc := defScope s_is_row) (by decide +kernel)) (fun _ _ _ _ _ => (cg_name (i := 1) sc_is_row.nd rfl (.inl rfl))) (fun _ _ _ _ _ => cts_nil) (blkE fun _ _ _ _ _ => ⟨_, (ce_call (n := 1) (ok_is_letter T) hr takes0 (by rfl) T.g_is_letter T.F_is_letter.kp T.b_is_letter (ca_cons (ce_var 1) ca_nil) (alen_cons alen_nil)), by first | (dsimp only [L2.Cx.blk]; done) | rfl | (dsimp only [L2.Cx.blk]; rfl)⟩)) ca_nil)) (ce_one (ce_cmp (op_eqD hr.units) os_eq (ce_lenSet rfl (by rfl) T.z_len (by rfl) T.z_set (ce_var 0)) (ce_fnB call_len_any fs_len (by rfl) T.z_len (by decide +kernel) (ca_cons (ce_var 0) ca_nil))))))))⟩))
noncomputable def r_is_place : FM := mFun 2
    (sRet (emAnd (eCall m_is_amount (aCons (eVar 0) aNil)) (eOp fLt (eVar 0) (eVar 1))))
noncomputable def m_is_place : FM := frz r_is_place
theorem ok_is_place (T : Txt K mg) : FnOk P w K mg base (L2.CX P w) 2 T.f_is_place T.d_is_place ["thing", "many"] (spF K 2 m_is_place) :=
  fn_frz (m := r_is_place) (fn_ok T.F_is_place sc_is_place rfl (fun cdv A outer s H E hr => ⟨_, (css_one (cs_ret (ce_and (ce_call (n := 1) (ok_is_amount T) hr (takes_of rfl rfl rfl rfl) (by rfl) T.g_is_amount T.F_is_amount.kp T.b_is_amount (ca_cons (ce_var 0) ca_nil) (alen_cons alen_nil)) (ce_one (ce_cmp op_lt os_lt (ce_var 0) (ce_var 1))))))⟩))
noncomputable def r_need_letters : FM := mFun 3
    (sIf (tmOr (tmNot (tmV (eFn fIsi (aCons (eVar 1) (aCons (eC (.ty "list")) aNil))))) (tmNot (tmV (eFn fAll (aCons (eLc (iSeq (eVar 1)) (gmName 2) tmYes (emAnd (eCall m_is_letter (aCons (eVar 2) aNil)) (eOp (fIn false) (eVar 2) (eVar 0))) [2]) aNil))))) sNo sNext)
noncomputable def m_need_letters : FM := frz r_need_letters
theorem ok_need_letters (T : Txt K mg) : FnOk P w K mg base (L2.CX P w) 2 T.f_need_letters T.d_need_letters ["row", "letters"] (spF K 2 m_need_letters) :=
  fn_frz (m := r_need_letters) (fn_ok T.F_need_letters sc_need_letters rfl (fun cdv A outer s H E hr => ⟨_, (css_one (cs_if (CW.ct (cw_or (ct_not (ct_val (ce_fnB call_isi fs_isi (by rfl) T.z_isinstance (by decide +kernel) (ca_cons (ce_var 1) (ca_cons (ce_ty (by rfl) T.z_list (by decide +kernel)) ca_nil))))) (cw_or1 (ct_not (ct_val (ce_fnB (cr_all rfl) fs_all (by rfl) T.z_all (by decide +kernel) (ca_cons (ce_lc (own := [("one", 2)]) rfl sc_need_letters.nd (ci_seq (ce_var 1)) (blkOk_by (own := [("one", 2)]) (N := nm_need_letters) (sc := defScope s_need_letters) (by decide +kernel)) (fun _ _ _ _ _ => (cg_name (i := 2) sc_need_letters.nd rfl (.inl rfl))) (fun _ _ _ _ _ => cts_nil) (blkE fun _ _ _ _ _ => ⟨_, (ce_and (ce_call (n := 1) (ok_is_letter T) hr takes0 (by rfl) T.g_is_letter T.F_is_letter.kp T.b_is_letter (ca_cons (ce_var 2) ca_nil) (alen_cons alen_nil)) (ce_one (ce_cmp op_inU (os_in false) (ce_var 2) (ce_var 0)))), by first | (dsimp only [L2.Cx.blk]; done) | rfl | (dsimp only [L2.Cx.blk]; rfl)⟩)) ca_nil))))))) (css_one cs_never) css_nil))⟩))
noncomputable def r_done : FM := mFun 6
    (sSeq (sPar 3 4 (eOp fIx (eVar 2) (eC (.int 0))) (eOp fIx (eVar 2) (eC (.int 1))))
    (sSeq (sIf (tmV (eOp fEq (eVar 3) (eC (.str "name")))) (sRet (eTup (aCons (eCall m_to_front (aCons (eVar 0) (aCons (eIdxT (eVar 0) (aCons (eVar 4) aNil)) aNil))) (aCons (eCall m_to_front (aCons (eVar 1) (aCons (eIdxT (eVar 1) (aCons (eVar 4) aNil)) aNil))) (aCons (eLst (aCons (eVar 4) aNil)) aNil))))) sNext)
    (sSeq (sAsg (eCall m_to_front (aCons (eVar 0) (aCons (eVar 4) aNil))) (gmName 0))
    (sSeq (sIf (tmV (eOp fEq (eVar 3) (eC (.str "lost")))) (sRet (eTup (aCons (eVar 0) (aCons (eVar 1) (aCons (eLst aNil) aNil))))) sNext)
    (sSeq (sIf (tmV (eOp fEq (eVar 3) (eC (.str "as")))) (sAsg (eOp fIx (eVar 2) (eC (.int 2))) (gmName 4)) sNext)
    (sSeq (sAsg (eLstL (aCons (eOp fIx (eVar 1) (eVar 4)) aNil)) (gmName 5))
    (sSeq (sAsg (eCall m_to_front (aCons (eVar 1) (aCons (eVar 4) aNil))) (gmName 1))
    (sSeq (sIf (tmV (eOp fEq (eVar 3) (eC (.str "twice")))) (sSeq (sDrop (eBM (eVar 5) (aCons (eOp fIx (eVar 1) (eVar 4)) aNil) (mUp fAppend)))
    (sAsg (eCall m_to_front (aCons (eVar 1) (aCons (eVar 4) aNil))) (gmName 1))) sNext)
    (sRet (eTup (aCons (eVar 0) (aCons (eVar 1) (aCons (eVar 5) aNil)))))))))))))
noncomputable def m_done : FM := frz r_done
theorem ok_done (T : Txt K mg) : FnOk P w K mg base (L2.CX P w) 2 T.f_done T.d_done ["told", "heard", "event"] (spF K 3 m_done) :=
  fn_frz (m := r_done) (fn_ok T.F_done sc_done rfl (fun cdv A outer s H E hr => ⟨_, (css_cons (cs_par (i := 3) (j := 4) rfl sc_done.nd rfl rfl (by decide) rfl rfl (ce_ix (ce_var 2) ce_int (fun _ _ => rfl)) (ce_ix (ce_var 2) ce_int (fun _ _ => rfl)) (by rfl))
    (css_cons (cs_if (ct_cmp (op_eqD hr.units) os_eq (ce_var 3) (ce_glob (v := (.str "name")) (.str "name") (by rfl) T.g_NAME ⟨_, rfl⟩ (fun _ _ => .str _))) (css_one (cs_ret (ce_tup (ca_cons (ce_call (n := 2) (ok_to_front T) hr (takes_of rfl rfl rfl rfl) (by rfl) T.g_to_front T.F_to_front.kp T.b_to_front (ca_cons (ce_var 0) (ca_cons (ce_idxT (ce_var 0) (ca_cons (ce_var 4) ca_nil)) ca_nil)) (alen_cons (alen_cons alen_nil))) (ca_cons (ce_call (n := 2) (ok_to_front T) hr (takes_of rfl rfl rfl rfl) (by rfl) T.g_to_front T.F_to_front.kp T.b_to_front (ca_cons (ce_var 1) (ca_cons (ce_idxT (ce_var 1) (ca_cons (ce_var 4) ca_nil)) ca_nil)) (alen_cons (alen_cons alen_nil))) (ca_cons (ce_lst (ca_cons (ce_var 4) ca_nil)) ca_nil)))))) css_nil)
    (css_cons (cs_set (i := 0) sc_done.nd rfl (.inl rfl) (ce_call (n := 2) (ok_to_front T) hr (takes_of rfl rfl rfl rfl) (by rfl) T.g_to_front T.F_to_front.kp T.b_to_front (ca_cons (ce_var 0) (ca_cons (ce_var 4) ca_nil)) (alen_cons (alen_cons alen_nil))))
    (css_cons (cs_if (ct_cmp (op_eqD hr.units) os_eq (ce_var 3) ce_str) (css_one (cs_ret (ce_tup (ca_cons (ce_var 0) (ca_cons (ce_var 1) (ca_cons (ce_lst ca_nil) ca_nil)))))) css_nil)
    (css_cons (cs_if (ct_cmp (op_eqD hr.units) os_eq (ce_var 3) (ce_glob (v := (.str "as")) (.str "as") (by rfl) T.g_AS ⟨_, rfl⟩ (fun _ _ => .str _))) (css_one (cs_set (i := 4) sc_done.nd rfl (.inl rfl) (ce_ix (ce_var 2) ce_int (fun _ _ => rfl)))) css_nil)
    (css_cons (cs_set (i := 5) sc_done.nd rfl (.inl rfl) (ce_lstL (ca_cons (ce_ix (ce_var 1) (ce_var 4) (fun _ _ => rfl)) ca_nil)))
    (css_cons (cs_set (i := 1) sc_done.nd rfl (.inl rfl) (ce_call (n := 2) (ok_to_front T) hr (takes_of rfl rfl rfl rfl) (by rfl) T.g_to_front T.F_to_front.kp T.b_to_front (ca_cons (ce_var 1) (ca_cons (ce_var 4) ca_nil)) (alen_cons (alen_cons alen_nil))))
    (css_cons (cs_if (ct_cmp (op_eqD hr.units) os_eq (ce_var 3) ce_str) (css_cons (cs_expr (ce_bm PySem.F.slot_list_append PySem.F.type_list_append mt_append ms_append (ce_var 5) (ca_cons (ce_ix (ce_var 1) (ce_var 4) (fun _ _ => rfl)) ca_nil)))
    (css_one (cs_set (i := 1) sc_done.nd rfl (.inl rfl) (ce_call (n := 2) (ok_to_front T) hr (takes_of rfl rfl rfl rfl) (by rfl) T.g_to_front T.F_to_front.kp T.b_to_front (ca_cons (ce_var 1) (ca_cons (ce_var 4) ca_nil)) (alen_cons (alen_cons alen_nil)))))) css_nil)
    (css_one (cs_ret (ce_tup (ca_cons (ce_var 0) (ca_cons (ce_var 1) (ca_cons (ce_var 5) ca_nil))))))))))))))⟩))
noncomputable def r_rows_by : FM := mFun 4
    (sSeq (sAsg (eLstL (aCons (eVar 0) aNil)) (gmName 2))
    (sSeq (sFor (iSeq (eVar 1)) (gmName 3) (sDrop (eBM (eVar 2) (aCons (eCall m_to_front (aCons (eOp fIx (eVar 2) (eNeg (eC (.int 1)))) (aCons (eIdxT (eOp fIx (eVar 2) (eNeg (eC (.int 1)))) (aCons (eVar 3) aNil)) aNil))) aNil) (mUp fAppend))))
    (sRet (eVar 2))))
noncomputable def m_rows_by : FM := frz r_rows_by
theorem ok_rows_by (T : Txt K mg) : FnOk P w K mg base (L2.CX P w) 2 T.f_rows_by T.d_rows_by ["row", "letters"] (spF K 2 m_rows_by) :=
  fn_frz (m := r_rows_by) (fn_ok T.F_rows_by sc_rows_by rfl (fun cdv A outer s H E hr => ⟨_, (css_cons (cs_set (i := 2) sc_rows_by.nd rfl (.inl rfl) (ce_lstL (ca_cons (ce_var 0) ca_nil)))
    (css_cons (cs_for (passes_of rfl) rfl (ci_seq (ce_var 1)) (cg_name (i := 3) sc_rows_by.nd rfl (.inl rfl)) (css_one (cs_expr (ce_bm PySem.F.slot_list_append PySem.F.type_list_append mt_append ms_append (ce_var 2) (ca_cons (ce_call (n := 2) (ok_to_front T) hr (takes_of rfl rfl rfl rfl) (by rfl) T.g_to_front T.F_to_front.kp T.b_to_front (ca_cons (ce_ix (ce_var 2) (ce_neg ce_int) (fun _ _ => rfl)) (ca_cons (ce_idxT (ce_ix (ce_var 2) (ce_neg ce_int) (fun _ _ => rfl)) (ca_cons (ce_var 3) ca_nil)) ca_nil)) (alen_cons (alen_cons alen_nil))) ca_nil)))))
    (css_one (cs_ret (ce_var 2)))))⟩))
noncomputable def r__law_line : FM := mFun 5
    (sSeq (sAsg (eOp fAdd (eC (.int 1)) (eCall m__law_draw (aCons (eVar 0) (aCons (eVar 1) aNil)))) (gmName 2))
    (sSeq (sAsg (eSlO (eFnV fList (aCons (eC (.str "abcdefghijklmnopqrstuvwxyz")) aNil)) (oSome (eCall m__law_draw (aCons (eVar 0) (aCons (eC (.int 11)) aNil)))) oNone) (gmName 3))
    (sSeq (sAsg (emIf (tmV (eOp fEq (eCall m__law_draw (aCons (eVar 0) (aCons (eC (.int 2)) aNil))) (eC (.int 0)))) (eSlO (eVar 3) oNone (oSome (eVar 2))) (eVar 3)) (gmName 3))
    (sRet (eFn fTuple (aCons (eLc (iRange1 (aCons (eVar 2) aNil)) (gmName 4) tmYes (eBM (eVar 3) (aCons (eCall m__law_draw (aCons (eVar 0) (aCons (eFn fLen (aCons (eVar 3) aNil)) aNil))) aNil) (mUp fPopAt)) [4]) aNil))))))
noncomputable def m__law_line : FM := frz r__law_line
theorem ok__law_line (T : Txt K mg) : FnOk P w K mg base (L2.CX P w) 2 T.f__law_line T.d__law_line ["bag", "upto"] (spF K 2 m__law_line) :=
  fn_frz (m := r__law_line) (fn_ok T.F__law_line sc__law_line rfl (fun cdv A outer s H E hr => ⟨_, (css_cons (cs_set (i := 2) sc__law_line.nd rfl (.inl rfl) (ce_op op_add4 os_add ce_int (ce_call (n := 2) (ok__law_draw T) hr (takes_of rfl rfl rfl rfl) (by rfl) T.g__law_draw T.F__law_draw.kp T.b__law_draw (ca_cons (ce_var 0) (ca_cons (ce_var 1) ca_nil)) (alen_cons (alen_cons alen_nil)))))
    (css_cons (cs_set (i := 3) sc__law_line.nd rfl (.inr rfl) (ce_slO (ce_fnTV (cr_listU rfl) fn_list (by rfl) T.z_list (by decide +kernel) (ca_cons ce_str ca_nil)) (co_some (ce_call (n := 2) (ok__law_draw T) hr (takes_of rfl rfl rfl rfl) (by rfl) T.g__law_draw T.F__law_draw.kp T.b__law_draw (ca_cons (ce_var 0) (ca_cons ce_int ca_nil)) (alen_cons (alen_cons alen_nil)))) co_none))
    (css_cons (cs_set (i := 3) sc__law_line.nd rfl (.inr rfl) (ce_if (ct_cmp (op_eqD hr.units) os_eq (ce_call (n := 2) (ok__law_draw T) hr (takes_of rfl rfl rfl rfl) (by rfl) T.g__law_draw T.F__law_draw.kp T.b__law_draw (ca_cons (ce_var 0) (ca_cons ce_int ca_nil)) (alen_cons (alen_cons alen_nil))) ce_int) (ce_slO (ce_var 3) co_none (co_some (ce_var 2))) (ce_var 3)))
    (css_one (cs_ret (ce_fnT cr_tupF fs_tuple (by rfl) T.z_tuple (by decide +kernel) (ca_cons (ce_lc (own := [("k", 4)]) rfl sc__law_line.nd (ci_range1 (by rfl) T.z_range (ca_cons (ce_var 2) ca_nil)) (blkOk_by (own := [("k", 4)]) (N := nm__law_line) (sc := defScope s__law_line) (by decide +kernel)) (fun _ _ _ _ _ => (cg_name (i := 4) sc__law_line.nd rfl (.inl rfl))) (fun _ _ _ _ _ => cts_nil) (blkE fun _ _ _ _ _ => ⟨_, (ce_bm PySem.F.slot_list_pop PySem.F.type_list_pop mt_popAt ms_popAt (ce_var 3) (ca_cons (ce_call (n := 2) (ok__law_draw T) hr takes0 (by rfl) T.g__law_draw T.F__law_draw.kp T.b__law_draw (ca_cons (ce_var 0) (ca_cons (ce_fnB call_len_any fs_len (by rfl) T.z_len (by decide +kernel) (ca_cons (ce_var 3) ca_nil)) ca_nil)) (alen_cons (alen_cons alen_nil))) ca_nil)), by first | (dsimp only [L2.Cx.blk]; done) | rfl | (dsimp only [L2.Cx.blk]; rfl)⟩)) ca_nil)))))))⟩))
noncomputable def r__law_mixed : FM := mFun 4
    (sSeq (sAsg (eFnO fList (aCons (eVar 1) aNil)) (gmName 2))
    (sRet (eFn fTuple (aCons (eLc (iSeq (eVar 1)) (gmName 3) tmYes (eBM (eVar 2) (aCons (eCall m__law_draw (aCons (eVar 0) (aCons (eFn fLen (aCons (eVar 2) aNil)) aNil))) aNil) (mUp fPopAt)) [3]) aNil))))
noncomputable def m__law_mixed : FM := frz r__law_mixed
theorem ok__law_mixed (T : Txt K mg) : FnOk P w K mg base (L2.CX P w) 2 T.f__law_mixed T.d__law_mixed ["bag", "line"] (spF K 2 m__law_mixed) :=
  fn_frz (m := r__law_mixed) (fn_ok T.F__law_mixed sc__law_mixed rfl (fun cdv A outer s H E hr => ⟨_, (css_cons (cs_set (i := 2) sc__law_mixed.nd rfl (.inr rfl) (ce_fnTO (cr_listU rfl) fn_list (by rfl) T.z_list (by decide +kernel) (ca_cons (ce_var 1) ca_nil)))
    (css_one (cs_ret (ce_fnT cr_tupF fs_tuple (by rfl) T.z_tuple (by decide +kernel) (ca_cons (ce_lc (own := [("k", 3)]) rfl sc__law_mixed.nd (ci_seq (ce_var 1)) (blkOk_by (own := [("k", 3)]) (N := nm__law_mixed) (sc := defScope s__law_mixed) (by decide +kernel)) (fun _ _ _ _ _ => (cg_name (i := 3) sc__law_mixed.nd rfl (.inl rfl))) (fun _ _ _ _ _ => cts_nil) (blkE fun _ _ _ _ _ => ⟨_, (ce_bm PySem.F.slot_list_pop PySem.F.type_list_pop mt_popAt ms_popAt (ce_var 2) (ca_cons (ce_call (n := 2) (ok__law_draw T) hr takes0 (by rfl) T.g__law_draw T.F__law_draw.kp T.b__law_draw (ca_cons (ce_var 0) (ca_cons (ce_fnB call_len_any fs_len (by rfl) T.z_len (by decide +kernel) (ca_cons (ce_var 2) ca_nil)) ca_nil)) (alen_cons (alen_cons alen_nil))) ca_nil)), by first | (dsimp only [L2.Cx.blk]; done) | rfl | (dsimp only [L2.Cx.blk]; rfl)⟩)) ca_nil)))))⟩))
noncomputable def r__law_places : FM := mFun 5
    (sSeq (sAsg (eLstL aNil) (gmName 2))
    (sSeq (sFor (iSeq (eVar 1)) (gmName 3) (sSeq (sAsg (eIdxT (eVar 0) (aCons (eVar 3) aNil)) (gmName 4))
    (sSeq (sDrop (eBM (eVar 2) (aCons (eVar 4) aNil) (mUp fAppend)))
    (sAsg (eCall m__law_front (aCons (eVar 0) (aCons (eVar 4) aNil))) (gmName 0)))))
    (sRet (eVar 2))))
noncomputable def m__law_places : FM := frz r__law_places
theorem ok__law_places (T : Txt K mg) : FnOk P w K mg base (L2.CX P w) 2 T.f__law_places T.d__law_places ["line", "said_now"] (spF K 2 m__law_places) :=
  fn_frz (m := r__law_places) (fn_ok T.F__law_places sc__law_places rfl (fun cdv A outer s H E hr => ⟨_, (css_cons (cs_set (i := 2) sc__law_places.nd rfl (.inl rfl) (ce_lstL ca_nil))
    (css_cons (cs_for (passes_of rfl) rfl (ci_seq (ce_var 1)) (cg_name (i := 3) sc__law_places.nd rfl (.inl rfl)) (css_cons (cs_set (i := 4) sc__law_places.nd rfl (.inl rfl) (ce_idxT (ce_var 0) (ca_cons (ce_var 3) ca_nil)))
    (css_cons (cs_expr (ce_bm PySem.F.slot_list_append PySem.F.type_list_append mt_append ms_append (ce_var 2) (ca_cons (ce_var 4) ca_nil)))
    (css_one (cs_set (i := 0) sc__law_places.nd rfl (.inl rfl) (ce_call (n := 2) (ok__law_front T) hr (takes_of rfl rfl rfl rfl) (by rfl) T.g__law_front T.F__law_front.kp T.b__law_front (ca_cons (ce_var 0) (ca_cons (ce_var 4) ca_nil)) (alen_cons (alen_cons alen_nil))))))))
    (css_one (cs_ret (ce_var 2)))))⟩))
noncomputable def r_is_pair : FM := mFun 2
    (sSeq (sIf (tmOr (tmNot (tmV (eFn fIsi (aCons (eVar 0) (aCons (eC (.ty "tuple")) aNil))))) (tmOr (tmV (eOp fNe (eFn fLen (aCons (eVar 0) aNil)) (eC (.int 2)))) (tmNot (tmV (eFn fAll (aCons (eLc (iSeq (eVar 0)) (gmName 1) tmYes (eCall m_is_row (aCons (eVar 1) aNil)) [1]) aNil)))))) (sRet (eC (.bl false))) sNext)
    (sRet (eOp fEq (eFnV fSorted (aCons (eOp fIx (eVar 0) (eC (.int 0))) aNil)) (eFnV fSorted (aCons (eOp fIx (eVar 0) (eC (.int 1))) aNil)))))
noncomputable def m_is_pair : FM := frz r_is_pair
theorem ok_is_pair (T : Txt K mg) : FnOk P w K mg base (L2.CX P w) 3 T.f_is_pair T.d_is_pair ["thing"] (spF K 1 m_is_pair) :=
  fn_frz (m := r_is_pair) (fn_ok T.F_is_pair sc_is_pair rfl (fun cdv A outer s H E hr => ⟨_, (css_cons (cs_if (CW.ct (cw_or (ct_not (ct_val (ce_fnB call_isi fs_isi (by rfl) T.z_isinstance (by decide +kernel) (ca_cons (ce_var 0) (ca_cons (ce_ty (by rfl) T.z_tuple (by decide +kernel)) ca_nil))))) (cw_or (ct_cmp (op_neD hr.units) os_ne (ce_fnB call_len_any fs_len (by rfl) T.z_len (by decide +kernel) (ca_cons (ce_var 0) ca_nil)) ce_int) (cw_or1 (ct_not (ct_val (ce_fnB (cr_all rfl) fs_all (by rfl) T.z_all (by decide +kernel) (ca_cons (ce_lc (own := [("row", 1)]) rfl sc_is_pair.nd (ci_seq (ce_var 0)) (blkOk_by (own := [("row", 1)]) (N := nm_is_pair) (sc := defScope s_is_pair) (by decide +kernel)) (fun _ _ _ _ _ => (cg_name (i := 1) sc_is_pair.nd rfl (.inl rfl))) (fun _ _ _ _ _ => cts_nil) (blkE fun _ _ _ _ _ => ⟨_, (ce_call (n := 1) (ok_is_row T) hr takes0 (by rfl) T.g_is_row T.F_is_row.kp T.b_is_row (ca_cons (ce_var 1) ca_nil) (alen_cons alen_nil)), by first | (dsimp only [L2.Cx.blk]; done) | rfl | (dsimp only [L2.Cx.blk]; rfl)⟩)) ca_nil)))))))) (css_one (cs_ret ce_bl)) css_nil)
    (css_one (cs_ret (ce_cmp (op_eqD hr.units) os_eq (ce_fnBV cr_sortedU fn_sorted (by rfl) T.z_sorted (by decide +kernel) (ca_cons (ce_ix (ce_var 0) ce_int (fun _ _ => rfl)) ca_nil)) (ce_fnBV cr_sortedU fn_sorted (by rfl) T.z_sorted (by decide +kernel) (ca_cons (ce_ix (ce_var 0) ce_int (fun _ _ => rfl)) ca_nil))))))⟩))
noncomputable def r_is_event_of : FM := mFun 4
    (sSeq (sIf (tmOr (tmNot (tmV (eFn fIsi (aCons (eVar 2) (aCons (eC (.ty "tuple")) aNil))))) (tmOr (tmV (eOp (fIn true) (eFn fLen (aCons (eVar 2) aNil)) (eTup (aCons (eC (.int 2)) (aCons (eC (.int 3)) aNil))))) (tmNot (tmV (eFn fIsi (aCons (eOp fIx (eVar 2) (eC (.int 0))) (aCons (eC (.ty "str")) aNil))))))) (sRet (eC (.bl false))) sNext)
    (sSeq (sIf (tmV (eOp fEq (eOp fIx (eVar 2) (eC (.int 0))) (eC (.str "as")))) (sRet (emAnd (eOp fEq (eFn fLen (aCons (eVar 2) aNil)) (eC (.int 3))) (emAnd (eFn fAll (aCons (eLc (iSeq (eSl (eVar 2) (oSome (eC (.int 1))) oNone)) (gmName 3) tmYes (eCall m_is_place (aCons (eVar 3) (aCons (eVar 1) aNil))) [3]) aNil)) (eOp fNe (eOp fIx (eVar 2) (eC (.int 1))) (eOp fIx (eVar 2) (eC (.int 2))))))) sNext)
    (sSeq (sIf (tmV (eOp fEq (eFn fLen (aCons (eVar 2) aNil)) (eC (.int 3)))) (sRet (eC (.bl false))) sNext)
    (sSeq (sIf (tmV (eOp fEq (eOp fIx (eVar 2) (eC (.int 0))) (eC (.str "name")))) (sRet (emAnd (eCall m_is_letter (aCons (eOp fIx (eVar 2) (eC (.int 1))) aNil)) (eOp (fIn false) (eOp fIx (eVar 2) (eC (.int 1))) (eVar 0)))) sNext)
    (sRet (emAnd (eOp (fIn false) (eOp fIx (eVar 2) (eC (.int 0))) (eC (.tup [(.str "place"), (.str "lost"), (.str "twice")]))) (eCall m_is_place (aCons (eOp fIx (eVar 2) (eC (.int 1))) (aCons (eVar 1) aNil)))))))))
noncomputable def m_is_event_of : FM := frz r_is_event_of
theorem ok_is_event_of (T : Txt K mg) : FnOk P w K mg base (L2.CX P w) 3 T.f_is_event_of T.d_is_event_of ["letters", "many", "thing"] (spF K 3 m_is_event_of) :=
  fn_frz (m := r_is_event_of) (fn_ok T.F_is_event_of sc_is_event_of rfl (fun cdv A outer s H E hr => ⟨_, (css_cons (cs_if (CW.ct (cw_or (ct_not (ct_val (ce_fnB call_isi fs_isi (by rfl) T.z_isinstance (by decide +kernel) (ca_cons (ce_var 2) (ca_cons (ce_ty (by rfl) T.z_tuple (by decide +kernel)) ca_nil))))) (cw_or (ct_cmp op_notInU (os_in true) (ce_fnB call_len_any fs_len (by rfl) T.z_len (by decide +kernel) (ca_cons (ce_var 2) ca_nil)) (ce_tup (ca_cons ce_int (ca_cons ce_int ca_nil)))) (cw_or1 (ct_not (ct_val (ce_fnB call_isi fs_isi (by rfl) T.z_isinstance (by decide +kernel) (ca_cons (ce_ix (ce_var 2) ce_int (fun _ _ => rfl)) (ca_cons (ce_ty (by rfl) T.z_str (by decide +kernel)) ca_nil))))))))) (css_one (cs_ret ce_bl)) css_nil)
    (css_cons (cs_if (ct_cmp (op_eqD hr.units) os_eq (ce_ix (ce_var 2) ce_int (fun _ _ => rfl)) (ce_glob (v := (.str "as")) (.str "as") (by rfl) T.g_AS ⟨_, rfl⟩ (fun _ _ => .str _))) (css_one (cs_ret (ce_and (ce_cmp (op_eqD hr.units) os_eq (ce_fnB call_len_any fs_len (by rfl) T.z_len (by decide +kernel) (ca_cons (ce_var 2) ca_nil)) ce_int) (ce_and (ce_fnB (cr_all rfl) fs_all (by rfl) T.z_all (by decide +kernel) (ca_cons (ce_lc (own := [("one", 3)]) rfl sc_is_event_of.nd (ci_seq (ce_sl (ce_var 2) (co_some ce_int) co_none)) (blkOk_by (own := [("one", 3)]) (N := nm_is_event_of) (sc := defScope s_is_event_of) (by decide +kernel)) (fun _ _ _ _ _ => (cg_name (i := 3) sc_is_event_of.nd rfl (.inl rfl))) (fun _ _ _ _ _ => cts_nil) (blkE fun _ _ _ _ _ => ⟨_, (ce_call (n := 2) (ok_is_place T) hr takes0 (by rfl) T.g_is_place T.F_is_place.kp T.b_is_place (ca_cons (ce_var 3) (ca_cons (ce_var 1) ca_nil)) (alen_cons (alen_cons alen_nil))), by first | (dsimp only [L2.Cx.blk]; done) | rfl | (dsimp only [L2.Cx.blk]; rfl)⟩)) ca_nil)) (ce_one (ce_cmp (op_neD hr.units) os_ne (ce_ix (ce_var 2) ce_int (fun _ _ => rfl)) (ce_ix (ce_var 2) ce_int (fun _ _ => rfl)))))))) css_nil)
    (css_cons (cs_if (ct_cmp (op_eqD hr.units) os_eq (ce_fnB call_len_any fs_len (by rfl) T.z_len (by decide +kernel) (ca_cons (ce_var 2) ca_nil)) ce_int) (css_one (cs_ret ce_bl)) css_nil)
    (css_cons (cs_if (ct_cmp (op_eqD hr.units) os_eq (ce_ix (ce_var 2) ce_int (fun _ _ => rfl)) (ce_glob (v := (.str "name")) (.str "name") (by rfl) T.g_NAME ⟨_, rfl⟩ (fun _ _ => .str _))) (css_one (cs_ret (ce_and (ce_call (n := 1) (ok_is_letter T) (hr.mono (by decide)) (takes_of rfl rfl rfl rfl) (by rfl) T.g_is_letter T.F_is_letter.kp T.b_is_letter (ca_cons (ce_ix (ce_var 2) ce_int (fun _ _ => rfl)) ca_nil) (alen_cons alen_nil)) (ce_one (ce_cmp op_inU (os_in false) (ce_ix (ce_var 2) ce_int (fun _ _ => rfl)) (ce_var 0)))))) css_nil)
    (css_one (cs_ret (ce_and (ce_cmp op_inU (os_in false) (ce_ix (ce_var 2) ce_int (fun _ _ => rfl)) (ce_glob (v := (.ref T.a_PLACED)) (.tup [(.str "place"), (.str "lost"), (.str "twice")]) (by rfl) T.g_PLACED rfl T.r_PLACED)) (ce_one (ce_call (n := 2) (ok_is_place T) hr (takes_of rfl rfl rfl rfl) (by rfl) T.g_is_place T.F_is_place.kp T.b_is_place (ca_cons (ce_ix (ce_var 2) ce_int (fun _ _ => rfl)) (ca_cons (ce_var 1) ca_nil)) (alen_cons (alen_cons alen_nil)))))))))))⟩))
noncomputable def r_need_row : FM := mFun 1
    (sIf (tmNot (tmV (eCall m_is_row (aCons (eVar 0) aNil)))) sNo sNext)
noncomputable def m_need_row : FM := frz r_need_row
theorem ok_need_row (T : Txt K mg) : FnOk P w K mg base (L2.CX P w) 3 T.f_need_row T.d_need_row ["row"] (spF K 1 m_need_row) :=
  fn_frz (m := r_need_row) (fn_ok T.F_need_row sc_need_row rfl (fun cdv A outer s H E hr => ⟨_, (css_one (cs_if (ct_not (ct_val (ce_call (n := 1) (ok_is_row T) hr (takes_of rfl rfl rfl rfl) (by rfl) T.g_is_row T.F_is_row.kp T.b_is_row (ca_cons (ce_var 0) ca_nil) (alen_cons alen_nil)))) (css_one cs_never) css_nil))⟩))
noncomputable def r_gone : FM := mFun 8
    (sSeq (sAsg (eVar 0) (gmTup 2 (gmCons 2 (gmCons 3 gmNil))))
    (sSeq (sPar 4 5 (eLstL aNil) (eLstL aNil))
    (sSeq (sFor (iSeq (eVar 1)) (gmName 6) (sSeq (sAsg (eCall m_done (aCons (eVar 2) (aCons (eVar 3) (aCons (eVar 6) aNil)))) (gmTup 3 (gmCons 2 (gmCons 3 (gmCons 7 gmNil)))))
    (sSeq (sDrop (eBM (eVar 4) (aCons (eOp fIx (eVar 2) (eC (.int 0))) aNil) (mUp fAppend)))
    (sDrop (eBM (eVar 5) (aCons (eVar 7) aNil) (mUp fExtend))))))
    (sRet (eTup (aCons (eTup (aCons (eVar 2) (aCons (eVar 3) aNil))) (aCons (eVar 4) (aCons (eVar 5) aNil))))))))
noncomputable def m_gone : FM := frz r_gone
theorem ok_gone (T : Txt K mg) : FnOk P w K mg base (L2.CX P w) 3 T.f_gone T.d_gone ["pair", "events"] (spF K 2 m_gone) :=
  fn_frz (m := r_gone) (fn_ok T.F_gone sc_gone rfl (fun cdv A outer s H E hr => ⟨_, (css_cons (cs_asg (ce_var 0) (cg_tup rfl (cgs_name (i := 2) sc_gone.nd rfl (.inl rfl) (cgs_name (i := 3) sc_gone.nd rfl (.inl rfl) cgs_nil))))
    (css_cons (cs_par (i := 4) (j := 5) rfl sc_gone.nd rfl rfl (by decide) rfl rfl (ce_lstL ca_nil) (ce_lstL ca_nil) (by rfl))
    (css_cons (cs_for (passes_of rfl) rfl (ci_seq (ce_var 1)) (cg_name (i := 6) sc_gone.nd rfl (.inl rfl)) (css_cons (cs_asg (ce_call (n := 3) (ok_done T) hr (takes_of rfl rfl rfl rfl) (by rfl) T.g_done T.F_done.kp T.b_done (ca_cons (ce_var 2) (ca_cons (ce_var 3) (ca_cons (ce_var 6) ca_nil))) (alen_cons (alen_cons (alen_cons alen_nil)))) (cg_tup rfl (cgs_name (i := 2) sc_gone.nd rfl (.inl rfl) (cgs_name (i := 3) sc_gone.nd rfl (.inl rfl) (cgs_name (i := 7) sc_gone.nd rfl (.inl rfl) cgs_nil)))))
    (css_cons (cs_expr (ce_bm PySem.F.slot_list_append PySem.F.type_list_append mt_append ms_append (ce_var 4) (ca_cons (ce_ix (ce_var 2) ce_int (fun _ _ => rfl)) ca_nil)))
    (css_one (cs_expr (ce_bm PySem.F.slot_list_extend PySem.F.type_list_extend mt_extend ms_extend (ce_var 5) (ca_cons (ce_var 7) ca_nil)))))))
    (css_one (cs_ret (ce_tup (ca_cons (ce_tup (ca_cons (ce_var 2) (ca_cons (ce_var 3) ca_nil))) (ca_cons (ce_var 4) (ca_cons (ce_var 5) ca_nil)))))))))⟩))
noncomputable def r_need_pair : FM := mFun 1
    (sIf (tmNot (tmV (eCall m_is_pair (aCons (eVar 0) aNil)))) sNo sNext)
noncomputable def m_need_pair : FM := frz r_need_pair
theorem ok_need_pair (T : Txt K mg) : FnOk P w K mg base (L2.CX P w) 4 T.f_need_pair T.d_need_pair ["pair"] (spF K 1 m_need_pair) :=
  fn_frz (m := r_need_pair) (fn_ok T.F_need_pair sc_need_pair rfl (fun cdv A outer s H E hr => ⟨_, (css_one (cs_if (ct_not (ct_val (ce_call (n := 1) (ok_is_pair T) hr (takes_of rfl rfl rfl rfl) (by rfl) T.g_is_pair T.F_is_pair.kp T.b_is_pair (ca_cons (ce_var 0) ca_nil) (alen_cons alen_nil)))) (css_one cs_never) css_nil))⟩))
noncomputable def r_are_events : FM := mFun 3
    (sRet (emAnd (eFn fIsi (aCons (eVar 1) (aCons (eC (.ty "list")) aNil))) (eFn fAll (aCons (eLc (iSeq (eVar 1)) (gmName 2) tmYes (eCall m_is_event_of (aCons (eOp fIx (eVar 0) (eC (.int 0))) (aCons (eFn fLen (aCons (eOp fIx (eVar 0) (eC (.int 0))) aNil)) (aCons (eVar 2) aNil)))) [2]) aNil))))
noncomputable def m_are_events : FM := frz r_are_events
theorem ok_are_events (T : Txt K mg) : FnOk P w K mg base (L2.CX P w) 4 T.f_are_events T.d_are_events ["pair", "thing"] (spF K 2 m_are_events) :=
  fn_frz (m := r_are_events) (fn_ok T.F_are_events sc_are_events rfl (fun cdv A outer s H E hr => ⟨_, (css_one (cs_ret (ce_and (ce_fnB call_isi fs_isi (by rfl) T.z_isinstance (by decide +kernel) (ca_cons (ce_var 1) (ca_cons (ce_ty (by rfl) T.z_list (by decide +kernel)) ca_nil))) (ce_one (ce_fnB (cr_all rfl) fs_all (by rfl) T.z_all (by decide +kernel) (ca_cons (ce_lc (own := [("one", 2)]) rfl sc_are_events.nd (ci_seq (ce_var 1)) (blkOk_by (own := [("one", 2)]) (N := nm_are_events) (sc := defScope s_are_events) (by decide +kernel)) (fun _ _ _ _ _ => (cg_name (i := 2) sc_are_events.nd rfl (.inl rfl))) (fun _ _ _ _ _ => cts_nil) (blkE fun _ _ _ _ _ => ⟨_, (ce_call (n := 3) (ok_is_event_of T) hr takes0 (by rfl) T.g_is_event_of T.F_is_event_of.kp T.b_is_event_of (ca_cons (ce_ix (ce_var 0) ce_int (fun _ _ => rfl)) (ca_cons (ce_fnB call_len_any fs_len (by rfl) T.z_len (by decide +kernel) (ca_cons (ce_ix (ce_var 0) ce_int (fun _ _ => rfl)) ca_nil)) (ca_cons (ce_var 2) ca_nil))) (alen_cons (alen_cons (alen_cons alen_nil)))), by first | (dsimp only [L2.Cx.blk]; done) | rfl | (dsimp only [L2.Cx.blk]; rfl)⟩)) ca_nil))))))⟩))
noncomputable def r_places_of : FM := mFun 4
    (sSeq (sDrop (eCall m_need_row (aCons (eVar 0) aNil)))
    (sSeq (sDrop (eCall m_need_letters (aCons (eVar 0) (aCons (eVar 1) aNil))))
    (sRet (eLc (iZipW (aCons (eCall m_rows_by (aCons (eVar 0) (aCons (eVar 1) aNil))) (aCons (eVar 1) aNil))) (gmTup 2 (gmCons 2 (gmCons 3 gmNil))) tmYes (eIdxT (eVar 2) (aCons (eVar 3) aNil)) [2, 3]))))
noncomputable def m_places_of : FM := frz r_places_of
theorem ok_places_of (T : Txt K mg) : FnOk P w K mg base (L2.CX P w) 4 T.f_places_of T.d_places_of ["row", "said"] (spF K 2 m_places_of) :=
  fn_frz (m := r_places_of) (fn_ok T.F_places_of sc_places_of rfl (fun cdv A outer s H E hr => ⟨_, (css_cons (cs_expr (ce_call (n := 1) (ok_need_row T) hr (takes_of rfl rfl rfl rfl) (by rfl) T.g_need_row T.F_need_row.kp T.b_need_row (ca_cons (ce_var 0) ca_nil) (alen_cons alen_nil)))
    (css_cons (cs_expr (ce_call (n := 2) (ok_need_letters T) (hr.mono (by decide)) (takes_of rfl rfl rfl rfl) (by rfl) T.g_need_letters T.F_need_letters.kp T.b_need_letters (ca_cons (ce_var 0) (ca_cons (ce_var 1) ca_nil)) (alen_cons (alen_cons alen_nil))))
    (css_one (cs_ret (ce_lc (own := [("ahead", 2), ("letter", 3)]) rfl sc_places_of.nd (ci_zip (by rfl) T.z_zip (ca_cons (ce_call (n := 2) (ok_rows_by T) (hr.mono (by decide)) (takes_of rfl rfl rfl rfl) (by rfl) T.g_rows_by T.F_rows_by.kp T.b_rows_by (ca_cons (ce_var 0) (ca_cons (ce_var 1) ca_nil)) (alen_cons (alen_cons alen_nil))) (ca_cons (ce_var 1) ca_nil))) (blkOk_by (own := [("ahead", 2), ("letter", 3)]) (N := nm_places_of) (sc := defScope s_places_of) (by decide +kernel)) (blkG fun _ _ _ _ _ => ⟨_, (cg_tup rfl (cgs_name (i := 2) sc_places_of.nd rfl (.inl rfl) (cgs_name (i := 3) sc_places_of.nd rfl (.inl rfl) cgs_nil))), by first | (dsimp only [L2.Cx.blk]; done) | rfl | (dsimp only [L2.Cx.blk]; rfl)⟩) (fun _ _ _ _ _ => cts_nil) (blkE fun _ _ _ _ _ => ⟨_, (ce_idxT (ce_var 2) (ca_cons (ce_var 3) ca_nil)), by first | (dsimp only [L2.Cx.blk]; done) | rfl | (dsimp only [L2.Cx.blk]; rfl)⟩))))))⟩))
noncomputable def rL_places_of : FM := mFun 4
    (sSeq (sDrop (eCall m_need_row (aCons (eVar 0) aNil)))
    (sSeq (sDrop (eCall m_need_letters (aCons (eVar 0) (aCons (eVar 1) aNil))))
    (sRet (eLcL (iZipW (aCons (eCall m_rows_by (aCons (eVar 0) (aCons (eVar 1) aNil))) (aCons (eVar 1) aNil))) (gmTup 2 (gmCons 2 (gmCons 3 gmNil))) tmYes (eIdxT (eVar 2) (aCons (eVar 3) aNil)) [2, 3]))))
noncomputable def mL_places_of : FM := frzL rL_places_of
theorem okL_places_of (T : Txt K mg) : FnOk P w K mg base (L2.CX P w) 4 T.f_places_of T.d_places_of ["row", "said"] (spF K 2 mL_places_of) :=
  fn_frzL (m := rL_places_of) (fn_ok T.F_places_of sc_places_of rfl (fun cdv A outer s H E hr => ⟨_, (css_cons (cs_expr (ce_call (n := 1) (ok_need_row T) hr (takes_of rfl rfl rfl rfl) (by rfl) T.g_need_row T.F_need_row.kp T.b_need_row (ca_cons (ce_var 0) ca_nil) (alen_cons alen_nil)))
    (css_cons (cs_expr (ce_call (n := 2) (ok_need_letters T) (hr.mono (by decide)) (takes_of rfl rfl rfl rfl) (by rfl) T.g_need_letters T.F_need_letters.kp T.b_need_letters (ca_cons (ce_var 0) (ca_cons (ce_var 1) ca_nil)) (alen_cons (alen_cons alen_nil))))
    (css_one (cs_ret (ce_lcL (own := [("ahead", 2), ("letter", 3)]) rfl sc_places_of.nd (ci_zip (by rfl) T.z_zip (ca_cons (ce_call (n := 2) (ok_rows_by T) (hr.mono (by decide)) (takes_of rfl rfl rfl rfl) (by rfl) T.g_rows_by T.F_rows_by.kp T.b_rows_by (ca_cons (ce_var 0) (ca_cons (ce_var 1) ca_nil)) (alen_cons (alen_cons alen_nil))) (ca_cons (ce_var 1) ca_nil))) (blkOk_by (own := [("ahead", 2), ("letter", 3)]) (N := nm_places_of) (sc := defScope s_places_of) (by decide +kernel)) (blkG fun _ _ _ _ _ => ⟨_, (cg_tup rfl (cgs_name (i := 2) sc_places_of.nd rfl (.inl rfl) (cgs_name (i := 3) sc_places_of.nd rfl (.inl rfl) cgs_nil))), by first | (dsimp only [L2.Cx.blk]; done) | rfl | (dsimp only [L2.Cx.blk]; rfl)⟩) (fun _ _ _ _ _ => cts_nil) (blkE fun _ _ _ _ _ => ⟨_, (ce_idxT (ce_var 2) (ca_cons (ce_var 3) ca_nil)), by first | (dsimp only [L2.Cx.blk]; done) | rfl | (dsimp only [L2.Cx.blk]; rfl)⟩))))))⟩))
noncomputable def r_said_of : FM := mFun 4
    (sSeq (sDrop (eCall m_need_row (aCons (eVar 0) aNil)))
    (sSeq (sIf (tmOr (tmNot (tmV (eFn fIsi (aCons (eVar 1) (aCons (eC (.ty "list")) aNil))))) (tmNot (tmV (eFn fAll (aCons (eLc (iSeq (eVar 1)) (gmName 2) tmYes (emAnd (eCall m_is_amount (aCons (eVar 2) aNil)) (eOp fLt (eVar 2) (eFn fLen (aCons (eVar 0) aNil)))) [2]) aNil))))) sNo sNext)
    (sSeq (sAsg (eLstL aNil) (gmName 3))
    (sSeq (sFor (iSeq (eVar 1)) (gmName 2) (sSeq (sDrop (eBM (eVar 3) (aCons (eOp fIx (eVar 0) (eVar 2)) aNil) (mUp fAppend)))
    (sAsg (eCall m_to_front (aCons (eVar 0) (aCons (eVar 2) aNil))) (gmName 0))))
    (sRet (eVar 3))))))
noncomputable def m_said_of : FM := frz r_said_of
theorem ok_said_of (T : Txt K mg) : FnOk P w K mg base (L2.CX P w) 4 T.f_said_of T.d_said_of ["row", "places"] (spF K 2 m_said_of) :=
  fn_frz (m := r_said_of) (fn_ok T.F_said_of sc_said_of rfl (fun cdv A outer s H E hr => ⟨_, (css_cons (cs_expr (ce_call (n := 1) (ok_need_row T) hr (takes_of rfl rfl rfl rfl) (by rfl) T.g_need_row T.F_need_row.kp T.b_need_row (ca_cons (ce_var 0) ca_nil) (alen_cons alen_nil)))
    (css_cons (cs_if (CW.ct (cw_or (ct_not (ct_val (ce_fnB call_isi fs_isi (by rfl) T.z_isinstance (by decide +kernel) (ca_cons (ce_var 1) (ca_cons (ce_ty (by rfl) T.z_list (by decide +kernel)) ca_nil))))) (cw_or1 (ct_not (ct_val (ce_fnB (cr_all rfl) fs_all (by rfl) T.z_all (by decide +kernel) (ca_cons (ce_lc (own := [("place", 2)]) rfl sc_said_of.nd (ci_seq (ce_var 1)) (blkOk_by (own := [("place", 2)]) (N := nm_said_of) (sc := defScope s_said_of) (by decide +kernel)) (fun _ _ _ _ _ => (cg_name (i := 2) sc_said_of.nd rfl (.inl rfl))) (fun _ _ _ _ _ => cts_nil) (blkE fun _ _ _ _ _ => ⟨_, (ce_and (ce_call (n := 1) (ok_is_amount T) (hr.mono (by decide)) takes0 (by rfl) T.g_is_amount T.F_is_amount.kp T.b_is_amount (ca_cons (ce_var 2) ca_nil) (alen_cons alen_nil)) (ce_one (ce_cmp op_lt os_lt (ce_var 2) (ce_fnB call_len_any fs_len (by rfl) T.z_len (by decide +kernel) (ca_cons (ce_var 0) ca_nil))))), by first | (dsimp only [L2.Cx.blk]; done) | rfl | (dsimp only [L2.Cx.blk]; rfl)⟩)) ca_nil))))))) (css_one cs_never) css_nil)
    (css_cons (cs_set (i := 3) sc_said_of.nd rfl (.inl rfl) (ce_lstL ca_nil))
    (css_cons (cs_for (passes_of rfl) rfl (ci_seq (ce_var 1)) (cg_name (i := 2) sc_said_of.nd rfl (.inl rfl)) (css_cons (cs_expr (ce_bm PySem.F.slot_list_append PySem.F.type_list_append mt_append ms_append (ce_var 3) (ca_cons (ce_ix (ce_var 0) (ce_var 2) (fun _ _ => rfl)) ca_nil)))
    (css_one (cs_set (i := 0) sc_said_of.nd rfl (.inr rfl) (ce_call (n := 2) (ok_to_front T) (hr.mono (by decide)) (takes_of rfl rfl rfl rfl) (by rfl) T.g_to_front T.F_to_front.kp T.b_to_front (ca_cons (ce_var 0) (ca_cons (ce_var 2) ca_nil)) (alen_cons (alen_cons alen_nil)))))))
    (css_one (cs_ret (ce_var 3)))))))⟩))
noncomputable def r_need_events : FM := mFun 2
    (sIf (tmNot (tmV (eCall m_are_events (aCons (eVar 0) (aCons (eVar 1) aNil))))) sNo sNext)
noncomputable def m_need_events : FM := frz r_need_events
theorem ok_need_events (T : Txt K mg) : FnOk P w K mg base (L2.CX P w) 5 T.f_need_events T.d_need_events ["pair", "events"] (spF K 2 m_need_events) :=
  fn_frz (m := r_need_events) (fn_ok T.F_need_events sc_need_events rfl (fun cdv A outer s H E hr => ⟨_, (css_one (cs_if (ct_not (ct_val (ce_call (n := 2) (ok_are_events T) hr (takes_of rfl rfl rfl rfl) (by rfl) T.g_are_events T.F_are_events.kp T.b_are_events (ca_cons (ce_var 0) (ca_cons (ce_var 1) ca_nil)) (alen_cons (alen_cons alen_nil))))) (css_one cs_never) css_nil))⟩))
noncomputable def r_go : FM := mFun 2
    (sSeq (sDrop (eCall m_need_pair (aCons (eVar 0) aNil)))
    (sSeq (sDrop (eCall m_need_events (aCons (eVar 0) (aCons (eVar 1) aNil))))
    (sRet (eCall m_gone (aCons (eVar 0) (aCons (eVar 1) aNil))))))
noncomputable def m_go : FM := frz r_go
theorem ok_go (T : Txt K mg) : FnOk P w K mg base (L2.CX P w) 6 T.f_go T.d_go ["pair", "events"] (spF K 2 m_go) :=
  fn_frz (m := r_go) (fn_ok T.F_go sc_go rfl (fun cdv A outer s H E hr => ⟨_, (css_cons (cs_expr (ce_call (n := 1) (ok_need_pair T) (hr.mono (by decide)) (takes_of rfl rfl rfl rfl) (by rfl) T.g_need_pair T.F_need_pair.kp T.b_need_pair (ca_cons (ce_var 0) ca_nil) (alen_cons alen_nil)))
    (css_cons (cs_expr (ce_call (n := 2) (ok_need_events T) hr (takes_of rfl rfl rfl rfl) (by rfl) T.g_need_events T.F_need_events.kp T.b_need_events (ca_cons (ce_var 0) (ca_cons (ce_var 1) ca_nil)) (alen_cons (alen_cons alen_nil))))
    (css_one (cs_ret (ce_call (n := 2) (ok_gone T) (hr.mono (by decide)) (takes_of rfl rfl rfl rfl) (by rfl) T.g_gone T.F_gone.kp T.b_gone (ca_cons (ce_var 0) (ca_cons (ce_var 1) ca_nil)) (alen_cons (alen_cons alen_nil)))))))⟩))
noncomputable def r__law_alike (mrec : FM) : FM := mFun 3
    (sSeq (sIf (tmV (eIsiT (eVar 1) ["list", "tuple"])) (sSeq (sIf (tmV (eOp fNe (eFn fIsi (aCons (eVar 0) (aCons (eC (.ty "list")) aNil))) (eFn fIsi (aCons (eVar 1) (aCons (eC (.ty "list")) aNil))))) (sRet (eC (.bl false))) sNext)
    (sSeq (sIf (tmV (eOp fNe (eFn fIsi (aCons (eVar 0) (aCons (eC (.ty "tuple")) aNil))) (eFn fIsi (aCons (eVar 1) (aCons (eC (.ty "tuple")) aNil))))) (sRet (eC (.bl false))) sNext)
    (sSeq (sIf (tmV (eOp fNe (eFn fLen (aCons (eVar 0) aNil)) (eFn fLen (aCons (eVar 1) aNil)))) (sRet (eC (.bl false))) sNext)
    (sRet (eFn fAll (aCons (eLc (iRange1 (aCons (eFn fLen (aCons (eVar 1) aNil)) aNil)) (gmName 2) tmYes (eCall mrec (aCons (eOp fIx (eVar 0) (eVar 2)) (aCons (eOp fIx (eVar 1) (eVar 2)) aNil))) [2]) aNil)))))) sNext)
    (sSeq (sIf (tmOr (tmV (eOp fIsN (eVar 0) (eC .non))) (tmV (eOp fIsN (eVar 1) (eC .non)))) (sRet (emAnd (eOp fIsN (eVar 0) (eC .non)) (eOp fIsN (eVar 1) (eC .non)))) sNext)
    (sRet (emAnd (eOp fEq (eFn fIsi (aCons (eVar 0) (aCons (eC (.ty "bool")) aNil))) (eFn fIsi (aCons (eVar 1) (aCons (eC (.ty "bool")) aNil)))) (eOp fEq (eVar 0) (eVar 1))))))
noncomputable def q__law_alike : Nat → FM
  | 0 => fun _ _ => .no
  | n + 1 => frz (r__law_alike (q__law_alike n))
noncomputable def m__law_alike : FM := q__law_alike 6
theorem oq__law_alike (T : Txt K mg) : ∀ n : Nat, FnOk P w K mg base (L2.CX P w) (0 + n) T.f__law_alike T.d__law_alike ["found", "due"] (spF K 2 (q__law_alike n))
  | 0 => fn_no
  | n + 1 => by
    have ih := oq__law_alike T n
    exact fn_frz (m := r__law_alike (q__law_alike n)) (fn_ok T.F__law_alike sc__law_alike rfl (fun cdv A outer s H E hr => ⟨_, (css_cons (cs_if (ct_val (ce_isiT (ce_var 1) (pa_ty (by rfl) T.z_list (by decide +kernel) (pa_ty (by rfl) T.z_tuple (by decide +kernel) pa_nil)) (by decide) (by rfl) T.z_isinstance (by decide +kernel))) (css_cons (cs_if (ct_cmp (op_neD hr.units) os_ne (ce_fnB call_isi fs_isi (by rfl) T.z_isinstance (by decide +kernel) (ca_cons (ce_var 0) (ca_cons (ce_ty (by rfl) T.z_list (by decide +kernel)) ca_nil))) (ce_fnB call_isi fs_isi (by rfl) T.z_isinstance (by decide +kernel) (ca_cons (ce_var 1) (ca_cons (ce_ty (by rfl) T.z_list (by decide +kernel)) ca_nil)))) (css_one (cs_ret ce_bl)) css_nil)
    (css_cons (cs_if (ct_cmp (op_neD hr.units) os_ne (ce_fnB call_isi fs_isi (by rfl) T.z_isinstance (by decide +kernel) (ca_cons (ce_var 0) (ca_cons (ce_ty (by rfl) T.z_tuple (by decide +kernel)) ca_nil))) (ce_fnB call_isi fs_isi (by rfl) T.z_isinstance (by decide +kernel) (ca_cons (ce_var 1) (ca_cons (ce_ty (by rfl) T.z_tuple (by decide +kernel)) ca_nil)))) (css_one (cs_ret ce_bl)) css_nil)
    (css_cons (cs_if (ct_cmp (op_neD hr.units) os_ne (ce_fnB call_len_any fs_len (by rfl) T.z_len (by decide +kernel) (ca_cons (ce_var 0) ca_nil)) (ce_fnB call_len_any fs_len (by rfl) T.z_len (by decide +kernel) (ca_cons (ce_var 1) ca_nil))) (css_one (cs_ret ce_bl)) css_nil)
    (css_one (cs_ret (ce_fnB (cr_all rfl) fs_all (by rfl) T.z_all (by decide +kernel) (ca_cons (ce_lc (own := [("k", 2)]) rfl sc__law_alike.nd (ci_range1 (by rfl) T.z_range (ca_cons (ce_fnB call_len_any fs_len (by rfl) T.z_len (by decide +kernel) (ca_cons (ce_var 1) ca_nil)) ca_nil)) (blkOk_by (own := [("k", 2)]) (N := nm__law_alike) (sc := defScope s__law_alike) (by decide +kernel)) (fun _ _ _ _ _ => (cg_name (i := 2) sc__law_alike.nd rfl (.inl rfl))) (fun _ _ _ _ _ => cts_nil) (blkE fun _ _ _ _ _ => ⟨_, (ce_call (n := 2) ih hr takes0 (by rfl) T.g__law_alike T.F__law_alike.kp T.b__law_alike (ca_cons (ce_ix (ce_var 0) (ce_var 2) (fun _ _ => rfl)) (ca_cons (ce_ix (ce_var 1) (ce_var 2) (fun _ _ => rfl)) ca_nil)) (alen_cons (alen_cons alen_nil))), by first | (dsimp only [L2.Cx.blk]; done) | rfl | (dsimp only [L2.Cx.blk]; rfl)⟩)) ca_nil))))))) css_nil)
    (css_cons (cs_if (CW.ct (cw_or (ct_cmp op_isN os_isN (ce_var 0) ce_non) (cw_or1 (ct_cmp op_isN os_isN (ce_var 1) ce_non)))) (css_one (cs_ret (ce_and (ce_cmp op_isN os_isN (ce_var 0) ce_non) (ce_one (ce_cmp op_isN os_isN (ce_var 1) ce_non))))) css_nil)
    (css_one (cs_ret (ce_and (ce_cmp (op_eqD hr.units) os_eq (ce_fnB call_isi fs_isi (by rfl) T.z_isinstance (by decide +kernel) (ca_cons (ce_var 0) (ca_cons (ce_ty (by rfl) T.z_bool (by decide +kernel)) ca_nil))) (ce_fnB call_isi fs_isi (by rfl) T.z_isinstance (by decide +kernel) (ca_cons (ce_var 1) (ca_cons (ce_ty (by rfl) T.z_bool (by decide +kernel)) ca_nil)))) (ce_one (ce_cmp (op_eqD hr.units) os_eq (ce_var 0) (ce_var 1))))))))⟩))
theorem ok__law_alike (T : Txt K mg) : FnOk P w K mg base (L2.CX P w) 6 T.f__law_alike T.d__law_alike ["found", "due"] (spF K 2 m__law_alike) := oq__law_alike T 6
noncomputable def r__law_right : FM := mFun 20
    (sSeq (sAsg (eCall m__law_line (aCons (eVar 0) (aCons (eC (.int 16)) aNil))) (gmName 1))
    (sSeq (sAsg (eSl (eCall m__law_mixed (aCons (eVar 0) (aCons (eFn fTupS (aCons (eC (.str "abcdefghijklmnopqrstuvwxyz")) aNil)) aNil))) oNone (oSome (eFn fLen (aCons (eVar 1) aNil)))) (gmName 2))
    (sSeq (sAsg (eOp fAdd (eC (.int 1)) (eCall m__law_draw (aCons (eVar 0) (aCons (eFn fLen (aCons (eVar 1) aNil)) aNil)))) (gmName 3))
    (sSeq (sAsg (eOp fIx (eLst (aCons (eC (.int 61)) (aCons (eC (.int 61)) (aCons (eC (.int 201)) aNil)))) (eCall m__law_draw (aCons (eVar 0) (aCons (eC (.int 3)) aNil)))) (gmName 4))
    (sSeq (sAsg (eLc (iRange1 (aCons (eCall m__law_draw (aCons (eVar 0) (aCons (eVar 4) aNil))) aNil)) (gmName 17) tmYes (eOp fIx (eVar 1) (eCall m__law_draw (aCons (eVar 0) (aCons (eVar 3) aNil)))) [17]) (gmName 5))
    (sSeq (sAsg (eCall m__law_places (aCons (eVar 1) (aCons (eVar 5) aNil))) (gmName 6))
    (sSeq (sAsg (eCall mL_places_of (aCons (eVar 1) (aCons (eVar 5) aNil))) (gmName 7))
    (sSeq (sIf (tmOr (tmNot (tmV (eCall m__law_alike (aCons (eVar 7) (aCons (eVar 6) aNil))))) (tmNot (tmV (eCall m__law_alike (aCons (eCall m_said_of (aCons (eVar 1) (aCons (eVar 6) aNil))) (aCons (eVar 5) aNil)))))) (sRet (eC (.bl false))) sNext)
    (sSeq (sDrop (eBM (eVar 7) (aCons (eC .non) aNil) (mUp fAppend)))
    (sSeq (sAsg (eFn fDictP (aCons (eLc (iRange1 (aCons (eFn fLen (aCons (eVar 1) aNil)) aNil)) (gmName 17) tmYes (eTup (aCons (eOp fIx (eVar 1) (eVar 17)) (aCons (eOp fIx (eVar 2) (eVar 17)) aNil))) [17]) aNil)) (gmName 8))
    (sSeq (sIf (tmNot (tmV (eCall m__law_alike (aCons (eCallP [1, 0] m_places_of (aCons (eVar 5) (aCons (eVar 1) aNil))) (aCons (eVar 6) aNil))))) (sRet (eC (.bl false))) sNext)
    (sSeq (sIf (tmNot (tmV (eCall m__law_alike (aCons (eCallP [1, 0] m_said_of (aCons (eVar 6) (aCons (eVar 2) aNil))) (aCons (eLc (iSeq (eVar 5)) (gmName 18) tmYes (eDget (eVar 8) (eVar 18)) [18]) aNil))))) (sRet (eC (.bl false))) sNext)
    (sSeq (sAsg (eCall m__law_mixed (aCons (eVar 0) (aCons (eVar 1) aNil))) (gmName 9))
    (sSeq (sAsg (eFn fDictP (aCons (eLc (iRange1 (aCons (eFn fLen (aCons (eVar 1) aNil)) aNil)) (gmName 17) tmYes (eTup (aCons (eOp fIx (eVar 1) (eVar 17)) (aCons (eOp fIx (eVar 9) (eVar 17)) aNil))) [17]) aNil)) (gmName 10))
    (sSeq (sAsg (eCall m_go (aCons (eTup (aCons (eVar 1) (aCons (eVar 9) aNil))) (aCons (eLc (iSeq (eVar 6)) (gmName 19) tmYes (eTup (aCons (eC (.str "place")) (aCons (eVar 19) aNil))) [19]) aNil))) (gmTup 3 (gmCons 11 (gmCons 12 (gmCons 13 gmNil)))))
    (sSeq (sIf (tmOr (tmV (eOp fNe (eVar 12) (eVar 5))) (tmV (eOp fNe (eVar 13) (eLc (iSeq (eVar 5)) (gmName 18) tmYes (eDget (eVar 10) (eVar 18)) [18])))) (sRet (eC (.bl false))) sNext)
    (sSeq (sAsg (eOp fAdd (eLst (aCons (eOp fIx (eVar 1) (eC (.int 0))) aNil)) (eVar 5)) (gmName 14))
    (sSeq (sAsg (eLc (iRange1 (aCons (eFn fLen (aCons (eVar 5) aNil)) aNil)) (gmName 17) (tmV (eOp fEq (eOp fIx (eVar 14) (eVar 17)) (eOp fIx (eVar 5) (eVar 17)))) (eVar 17) [17]) (gmName 15))
    (sSeq (sIf (tmV (eOp fNe (eLc (iRange1 (aCons (eFn fLen (aCons (eVar 6) aNil)) aNil)) (gmName 17) (tmV (eOp fEq (eOp fIx (eVar 6) (eVar 17)) (eC (.int 0)))) (eVar 17) [17]) (eVar 15))) (sRet (eC (.bl false))) sNext)
    (sSeq (sAsg (eLc (iRange1 (aCons (eCall m__law_draw (aCons (eVar 0) (aCons (eVar 4) aNil))) aNil)) (gmName 17) tmYes (eCall m__law_draw (aCons (eVar 0) (aCons (eFn fLen (aCons (eVar 1) aNil)) aNil))) [17]) (gmName 16))
    (sRet (eCall m__law_alike (aCons (eCall m_places_of (aCons (eVar 1) (aCons (eCall m_said_of (aCons (eVar 1) (aCons (eVar 16) aNil))) aNil))) (aCons (eVar 16) aNil))))))))))))))))))))))))
noncomputable def m__law_right : FM := frz r__law_right
theorem ok__law_right (T : Txt K mg) : FnOk P w K mg base (L2.CX P w) 7 T.f__law_right T.d__law_right ["bag"] (spF K 1 m__law_right) :=
  fn_frz (m := r__law_right) (fn_ok T.F__law_right sc__law_right rfl (fun cdv A outer s H E hr => ⟨_, (css_cons (cs_set (i := 1) sc__law_right.nd rfl (.inr rfl) (ce_call (n := 2) (ok__law_line T) (hr.mono (by decide)) (takes_of rfl rfl rfl rfl) (by rfl) T.g__law_line T.F__law_line.kp T.b__law_line (ca_cons (ce_var 0) (ca_cons ce_int ca_nil)) (alen_cons (alen_cons alen_nil))))
    (css_cons (cs_set (i := 2) sc__law_right.nd rfl (.inr rfl) (ce_sl (ce_call (n := 2) (ok__law_mixed T) (hr.mono (by decide)) (takes_of rfl rfl rfl rfl) (by rfl) T.g__law_mixed T.F__law_mixed.kp T.b__law_mixed (ca_cons (ce_var 0) (ca_cons (ce_fnT (cr_tupS rfl) fs_tupS (by rfl) T.z_tuple (by decide +kernel) (ca_cons ce_str ca_nil)) ca_nil)) (alen_cons (alen_cons alen_nil))) co_none (co_some (ce_fnB call_len_any fs_len (by rfl) T.z_len (by decide +kernel) (ca_cons (ce_var 1) ca_nil)))))
    (css_cons (cs_set (i := 3) sc__law_right.nd rfl (.inr rfl) (ce_op op_add4 os_add ce_int (ce_call (n := 2) (ok__law_draw T) (hr.mono (by decide)) (takes_of rfl rfl rfl rfl) (by rfl) T.g__law_draw T.F__law_draw.kp T.b__law_draw (ca_cons (ce_var 0) (ca_cons (ce_fnB call_len_any fs_len (by rfl) T.z_len (by decide +kernel) (ca_cons (ce_var 1) ca_nil)) ca_nil)) (alen_cons (alen_cons alen_nil)))))
    (css_cons (cs_set (i := 4) sc__law_right.nd rfl (.inl rfl) (ce_ix (ce_lst (ca_cons ce_int (ca_cons ce_int (ca_cons ce_int ca_nil)))) (ce_call (n := 2) (ok__law_draw T) (hr.mono (by decide)) (takes_of rfl rfl rfl rfl) (by rfl) T.g__law_draw T.F__law_draw.kp T.b__law_draw (ca_cons (ce_var 0) (ca_cons ce_int ca_nil)) (alen_cons (alen_cons alen_nil))) (fun _ _ => rfl)))
    (css_cons (cs_set (i := 5) sc__law_right.nd rfl (.inr rfl) (ce_lc (own := [("k", 17)]) rfl sc__law_right.nd (ci_range1 (by rfl) T.z_range (ca_cons (ce_call (n := 2) (ok__law_draw T) (hr.mono (by decide)) (takes_of rfl rfl rfl rfl) (by rfl) T.g__law_draw T.F__law_draw.kp T.b__law_draw (ca_cons (ce_var 0) (ca_cons (ce_var 4) ca_nil)) (alen_cons (alen_cons alen_nil))) ca_nil)) (blkOk_by (own := [("k", 17)]) (N := nm__law_right) (sc := defScope s__law_right) (by decide +kernel)) (fun _ _ _ _ _ => (cg_name (i := 17) sc__law_right.nd rfl (.inl rfl))) (fun _ _ _ _ _ => cts_nil) (blkE fun _ _ _ _ _ => ⟨_, (ce_ix (ce_var 1) (ce_call (n := 2) (ok__law_draw T) (hr.mono (by decide)) takes0 (by rfl) T.g__law_draw T.F__law_draw.kp T.b__law_draw (ca_cons (ce_var 0) (ca_cons (ce_var 3) ca_nil)) (alen_cons (alen_cons alen_nil))) (fun _ _ => rfl)), by first | (dsimp only [L2.Cx.blk]; done) | rfl | (dsimp only [L2.Cx.blk]; rfl)⟩)))
    (css_cons (cs_set (i := 6) sc__law_right.nd rfl (.inr rfl) (ce_call (n := 2) (ok__law_places T) (hr.mono (by decide)) (takes_of rfl rfl rfl rfl) (by rfl) T.g__law_places T.F__law_places.kp T.b__law_places (ca_cons (ce_var 1) (ca_cons (ce_var 5) ca_nil)) (alen_cons (alen_cons alen_nil))))
    (css_cons (cs_set (i := 7) sc__law_right.nd rfl (.inl rfl) (ce_call (n := 2) (okL_places_of T) (hr.mono (by decide)) (takes_of rfl rfl rfl rfl) (by rfl) T.g_places_of T.F_places_of.kp T.b_places_of (ca_cons (ce_var 1) (ca_cons (ce_var 5) ca_nil)) (alen_cons (alen_cons alen_nil))))
    (css_cons (cs_if (CW.ct (cw_or (ct_not (ct_val (ce_call (n := 2) (ok__law_alike T) hr (takes_of rfl rfl rfl rfl) (by rfl) T.g__law_alike T.F__law_alike.kp T.b__law_alike (ca_cons (ce_var 7) (ca_cons (ce_var 6) ca_nil)) (alen_cons (alen_cons alen_nil))))) (cw_or1 (ct_not (ct_val (ce_call (n := 2) (ok__law_alike T) hr (takes_of rfl rfl rfl rfl) (by rfl) T.g__law_alike T.F__law_alike.kp T.b__law_alike (ca_cons (ce_call (n := 2) (ok_said_of T) (hr.mono (by decide)) (takes_of rfl rfl rfl rfl) (by rfl) T.g_said_of T.F_said_of.kp T.b_said_of (ca_cons (ce_var 1) (ca_cons (ce_var 6) ca_nil)) (alen_cons (alen_cons alen_nil))) (ca_cons (ce_var 5) ca_nil)) (alen_cons (alen_cons alen_nil)))))))) (css_one (cs_ret ce_bl)) css_nil)
    (css_cons (cs_expr (ce_bm PySem.F.slot_list_append PySem.F.type_list_append mt_append ms_append (ce_var 7) (ca_cons ce_non ca_nil)))
    (css_cons (cs_set (i := 8) sc__law_right.nd rfl (.inr rfl) (ce_fnT (cr_dictP rfl) fs_dictP (by rfl) T.z_dict (by decide +kernel) (ca_cons (ce_lc (own := [("k", 17)]) rfl sc__law_right.nd (ci_range1 (by rfl) T.z_range (ca_cons (ce_fnB call_len_any fs_len (by rfl) T.z_len (by decide +kernel) (ca_cons (ce_var 1) ca_nil)) ca_nil)) (blkOk_by (own := [("k", 17)]) (N := nm__law_right) (sc := defScope s__law_right) (by decide +kernel)) (fun _ _ _ _ _ => (cg_name (i := 17) sc__law_right.nd rfl (.inl rfl))) (fun _ _ _ _ _ => cts_nil) (blkE fun _ _ _ _ _ => ⟨_, (ce_tup (ca_cons (ce_ix (ce_var 1) (ce_var 17) (fun _ _ => rfl)) (ca_cons (ce_ix (ce_var 2) (ce_var 17) (fun _ _ => rfl)) ca_nil))), by first | (dsimp only [L2.Cx.blk]; done) | rfl | (dsimp only [L2.Cx.blk]; rfl)⟩)) ca_nil)))
    (css_cons (cs_if (ct_not (ct_val (ce_call (n := 2) (ok__law_alike T) hr (takes_of rfl rfl rfl rfl) (by rfl) T.g__law_alike T.F__law_alike.kp T.b__law_alike (ca_cons (ce_callP (n := 2) (ok_places_of T) (hr.mono (by decide)) (takes_of rfl rfl rfl rfl) (by rfl) T.g_places_of T.F_places_of.kp (Sim.Fun.kb T.F_places_of (ps := ["row", "said"]) (ks := ["said", "row"]) (is := [1, 0]) (fun _ _ _ _ _ _ us hl => match us, hl with | [_, _], _ => rfl)) (ck_cons (ce_var 5) (ck_cons (ce_var 1) ck_nil)) (alen_cons (alen_cons alen_nil)) (fun l h => match l, h with | [_, _], _ => rfl) rfl) (ca_cons (ce_var 6) ca_nil)) (alen_cons (alen_cons alen_nil))))) (css_one (cs_ret ce_bl)) css_nil)
    (css_cons (cs_if (ct_not (ct_val (ce_call (n := 2) (ok__law_alike T) hr (takes_of rfl rfl rfl rfl) (by rfl) T.g__law_alike T.F__law_alike.kp T.b__law_alike (ca_cons (ce_callP (n := 2) (ok_said_of T) (hr.mono (by decide)) (takes_of rfl rfl rfl rfl) (by rfl) T.g_said_of T.F_said_of.kp (Sim.Fun.kb T.F_said_of (ps := ["row", "places"]) (ks := ["places", "row"]) (is := [1, 0]) (fun _ _ _ _ _ _ us hl => match us, hl with | [_, _], _ => rfl)) (ck_cons (ce_var 6) (ck_cons (ce_var 2) ck_nil)) (alen_cons (alen_cons alen_nil)) (fun l h => match l, h with | [_, _], _ => rfl) rfl) (ca_cons (ce_lc (own := [("one", 18)]) rfl sc__law_right.nd (ci_seq (ce_var 5)) (blkOk_by (own := [("one", 18)]) (N := nm__law_right) (sc := defScope s__law_right) (by decide +kernel)) (fun _ _ _ _ _ => (cg_name (i := 18) sc__law_right.nd rfl (.inl rfl))) (fun _ _ _ _ _ => cts_nil) (blkE fun _ _ _ _ _ => ⟨_, (ce_dget (L2.hu_of hr) (ce_var 8) (ce_var 18) (fun _ _ => rfl)), by first | (dsimp only [L2.Cx.blk]; done) | rfl | (dsimp only [L2.Cx.blk]; rfl)⟩)) ca_nil)) (alen_cons (alen_cons alen_nil))))) (css_one (cs_ret ce_bl)) css_nil)
    (css_cons (cs_set (i := 9) sc__law_right.nd rfl (.inr rfl) (ce_call (n := 2) (ok__law_mixed T) (hr.mono (by decide)) (takes_of rfl rfl rfl rfl) (by rfl) T.g__law_mixed T.F__law_mixed.kp T.b__law_mixed (ca_cons (ce_var 0) (ca_cons (ce_var 1) ca_nil)) (alen_cons (alen_cons alen_nil))))
    (css_cons (cs_set (i := 10) sc__law_right.nd rfl (.inr rfl) (ce_fnT (cr_dictP rfl) fs_dictP (by rfl) T.z_dict (by decide +kernel) (ca_cons (ce_lc (own := [("k", 17)]) rfl sc__law_right.nd (ci_range1 (by rfl) T.z_range (ca_cons (ce_fnB call_len_any fs_len (by rfl) T.z_len (by decide +kernel) (ca_cons (ce_var 1) ca_nil)) ca_nil)) (blkOk_by (own := [("k", 17)]) (N := nm__law_right) (sc := defScope s__law_right) (by decide +kernel)) (fun _ _ _ _ _ => (cg_name (i := 17) sc__law_right.nd rfl (.inl rfl))) (fun _ _ _ _ _ => cts_nil) (blkE fun _ _ _ _ _ => ⟨_, (ce_tup (ca_cons (ce_ix (ce_var 1) (ce_var 17) (fun _ _ => rfl)) (ca_cons (ce_ix (ce_var 9) (ce_var 17) (fun _ _ => rfl)) ca_nil))), by first | (dsimp only [L2.Cx.blk]; done) | rfl | (dsimp only [L2.Cx.blk]; rfl)⟩)) ca_nil)))
    (css_cons (cs_asg (ce_call (n := 2) (ok_go T) hr (takes_of rfl rfl rfl rfl) (by rfl) T.g_go T.F_go.kp T.b_go (ca_cons (ce_tup (ca_cons (ce_var 1) (ca_cons (ce_var 9) ca_nil))) (ca_cons (ce_lc (own := [("spot", 19)]) rfl sc__law_right.nd (ci_seq (ce_var 6)) (blkOk_by (own := [("spot", 19)]) (N := nm__law_right) (sc := defScope s__law_right) (by decide +kernel)) (fun _ _ _ _ _ => (cg_name (i := 19) sc__law_right.nd rfl (.inl rfl))) (fun _ _ _ _ _ => cts_nil) (blkE fun _ _ _ _ _ => ⟨_, (ce_tup (ca_cons ce_str (ca_cons (ce_var 19) ca_nil))), by first | (dsimp only [L2.Cx.blk]; done) | rfl | (dsimp only [L2.Cx.blk]; rfl)⟩)) ca_nil)) (alen_cons (alen_cons alen_nil))) (cg_tup rfl (cgs_name (i := 11) sc__law_right.nd rfl (.inl rfl) (cgs_name (i := 12) sc__law_right.nd rfl (.inl rfl) (cgs_name (i := 13) sc__law_right.nd rfl (.inl rfl) cgs_nil)))))
    (css_cons (cs_if (CW.ct (cw_or (ct_cmp (op_neD hr.units) os_ne (ce_var 12) (ce_var 5)) (cw_or1 (ct_cmp (op_neD hr.units) os_ne (ce_var 13) (ce_lc (own := [("one", 18)]) rfl sc__law_right.nd (ci_seq (ce_var 5)) (blkOk_by (own := [("one", 18)]) (N := nm__law_right) (sc := defScope s__law_right) (by decide +kernel)) (fun _ _ _ _ _ => (cg_name (i := 18) sc__law_right.nd rfl (.inl rfl))) (fun _ _ _ _ _ => cts_nil) (blkE fun _ _ _ _ _ => ⟨_, (ce_dget (L2.hu_of hr) (ce_var 10) (ce_var 18) (fun _ _ => rfl)), by first | (dsimp only [L2.Cx.blk]; done) | rfl | (dsimp only [L2.Cx.blk]; rfl)⟩)))))) (css_one (cs_ret ce_bl)) css_nil)
    (css_cons (cs_set (i := 14) sc__law_right.nd rfl (.inr rfl) (ce_op op_add4 os_add (ce_lst (ca_cons (ce_ix (ce_var 1) ce_int (fun _ _ => rfl)) ca_nil)) (ce_var 5)))
    (css_cons (cs_setLc (i := 15) (own := [("k", 17)]) rfl sc__law_right.nd rfl rfl (sw_true rfl rfl rfl (by decide +kernel)) (ci_range1 (by rfl) T.z_range (ca_cons (ce_fnB call_len_any fs_len (by rfl) T.z_len (by decide +kernel) (ca_cons (ce_var 5) ca_nil)) ca_nil)) (blkOk_by (own := [("k", 17)]) (N := nm__law_right) (sc := defScope s__law_right) (by decide +kernel)) (fun _ _ _ _ _ => (cg_name (i := 17) sc__law_right.nd rfl (.inl rfl))) (blkT fun _ _ _ _ _ => ⟨_, (cts_one (ct_cmp (op_eqD hr.units) os_eq (ce_ix (ce_var 14) (ce_var 17) (fun _ _ => rfl)) (ce_ix (ce_var 5) (ce_var 17) (fun _ _ => rfl)))), by first | (dsimp only [L2.Cx.blk]; done) | rfl | (dsimp only [L2.Cx.blk]; rfl)⟩) (blkE fun _ _ _ _ _ => ⟨_, ce_var 17, by first | (dsimp only [L2.Cx.blk]; done) | rfl | (dsimp only [L2.Cx.blk]; rfl)⟩))
    (css_cons (cs_if (ct_cmp (op_neD hr.units) os_ne (ce_lc (own := [("k", 17)]) rfl sc__law_right.nd (ci_range1 (by rfl) T.z_range (ca_cons (ce_fnB call_len_any fs_len (by rfl) T.z_len (by decide +kernel) (ca_cons (ce_var 6) ca_nil)) ca_nil)) (blkOk_by (own := [("k", 17)]) (N := nm__law_right) (sc := defScope s__law_right) (by decide +kernel)) (fun _ _ _ _ _ => (cg_name (i := 17) sc__law_right.nd rfl (.inl rfl))) (blkT fun _ _ _ _ _ => ⟨_, (cts_one (ct_cmp (op_eqD hr.units) os_eq (ce_ix (ce_var 6) (ce_var 17) (fun _ _ => rfl)) ce_int)), by first | (dsimp only [L2.Cx.blk]; done) | rfl | (dsimp only [L2.Cx.blk]; rfl)⟩) (blkE fun _ _ _ _ _ => ⟨_, ce_var 17, by first | (dsimp only [L2.Cx.blk]; done) | rfl | (dsimp only [L2.Cx.blk]; rfl)⟩)) (ce_var 15)) (css_one (cs_ret ce_bl)) css_nil)
    (css_cons (cs_setLc (i := 16) (own := [("k", 17)]) rfl sc__law_right.nd rfl rfl (sw_true rfl rfl rfl (by decide +kernel)) (ci_range1 (by rfl) T.z_range (ca_cons (ce_call (n := 2) (ok__law_draw T) (hr.mono (by decide)) (takes_of rfl rfl rfl rfl) (by rfl) T.g__law_draw T.F__law_draw.kp T.b__law_draw (ca_cons (ce_var 0) (ca_cons (ce_var 4) ca_nil)) (alen_cons (alen_cons alen_nil))) ca_nil)) (blkOk_by (own := [("k", 17)]) (N := nm__law_right) (sc := defScope s__law_right) (by decide +kernel)) (fun _ _ _ _ _ => (cg_name (i := 17) sc__law_right.nd rfl (.inl rfl))) (fun _ _ _ _ _ => cts_nil) (blkE fun _ _ _ _ _ => ⟨_, (ce_call (n := 2) (ok__law_draw T) (hr.mono (by decide)) takes0 (by rfl) T.g__law_draw T.F__law_draw.kp T.b__law_draw (ca_cons (ce_var 0) (ca_cons (ce_fnB call_len_any fs_len (by rfl) T.z_len (by decide +kernel) (ca_cons (ce_var 1) ca_nil)) ca_nil)) (alen_cons (alen_cons alen_nil))), by first | (dsimp only [L2.Cx.blk]; done) | rfl | (dsimp only [L2.Cx.blk]; rfl)⟩))
    (css_one (cs_ret (ce_call (n := 2) (ok__law_alike T) hr (takes_of rfl rfl rfl rfl) (by rfl) T.g__law_alike T.F__law_alike.kp T.b__law_alike (ca_cons (ce_call (n := 2) (ok_places_of T) (hr.mono (by decide)) (takes_of rfl rfl rfl rfl) (by rfl) T.g_places_of T.F_places_of.kp T.b_places_of (ca_cons (ce_var 1) (ca_cons (ce_call (n := 2) (ok_said_of T) (hr.mono (by decide)) (takes_of rfl rfl rfl rfl) (by rfl) T.g_said_of T.F_said_of.kp T.b_said_of (ca_cons (ce_var 1) (ca_cons (ce_var 16) ca_nil)) (alen_cons (alen_cons alen_nil))) ca_nil)) (alen_cons (alen_cons alen_nil))) (ca_cons (ce_var 16) ca_nil)) (alen_cons (alen_cons alen_nil)))))))))))))))))))))))))⟩))
noncomputable def r_law : FM := mFun 2
    (sSeq (sFor (iRange1 (aCons (eFn fMax (aCons (eC (.int 1)) (aCons (eFn fMin (aCons (eC (.int 6)) (aCons (eFn fLen (aCons (eVar 0) aNil)) aNil))) aNil))) aNil)) (gmName 1) (sIf (tmNot (tmV (eCall m__law_right (aCons (eCall m__law_bag (aCons (eOp fAdd (eCall m__law_cell_at (aCons (eVar 0) (aCons (eVar 1) aNil))) (eC (.int 12))) aNil)) aNil)))) (sRet (eC (.bl false))) sNext))
    (sRet (eC (.bl true))))
noncomputable def m_law : FM := frz r_law
theorem ok_law (T : Txt K mg) : FnOk P w K mg base (L2.CX P w) 8 T.f_law T.d_law ["script"] (spF K 1 m_law) :=
  fn_frz (m := r_law) (fn_ok T.F_law sc_law rfl (fun cdv A outer s H E hr => ⟨_, (css_cons (cs_for (passes_of rfl) rfl (ci_range1 (by rfl) T.z_range (ca_cons (ce_fnB (cr_maxU rfl) fs_max (by rfl) T.z_max (by decide +kernel) (ca_cons ce_int (ca_cons (ce_fnB (cr_minU rfl) fs_min (by rfl) T.z_min (by decide +kernel) (ca_cons ce_int (ca_cons (ce_fnB call_len_any fs_len (by rfl) T.z_len (by decide +kernel) (ca_cons (ce_var 0) ca_nil)) ca_nil))) ca_nil))) ca_nil)) (cg_name (i := 1) sc_law.nd rfl (.inl rfl)) (css_one (cs_if (ct_not (ct_val (ce_call (n := 1) (ok__law_right T) hr (takes_of rfl rfl rfl rfl) (by rfl) T.g__law_right T.F__law_right.kp T.b__law_right (ca_cons (ce_call (n := 1) (ok__law_bag T) (hr.mono (by decide)) (takes_of rfl rfl rfl rfl) (by rfl) T.g__law_bag T.F__law_bag.kp T.b__law_bag (ca_cons (ce_op op_add4 os_add (ce_call (n := 2) (ok__law_cell_at T) (hr.mono (by decide)) (takes_of rfl rfl rfl rfl) (by rfl) T.g__law_cell_at T.F__law_cell_at.kp T.b__law_cell_at (ca_cons (ce_var 0) (ca_cons (ce_var 1) ca_nil)) (alen_cons (alen_cons alen_nil))) ce_int) ca_nil) (alen_cons alen_nil)) ca_nil) (alen_cons alen_nil)))) (css_one (cs_ret ce_bl)) css_nil)))
    (css_one (cs_ret ce_bl)))⟩))
end
end Lw
end
section
set_option Elab.async false
set_option linter.all false
set_option maxRecDepth 100000
set_option maxHeartbeats 1000000
open PySem PySem.Spec PyProof.Rows L2
namespace Lw
open Sim
def Ltr (x : Str) : Prop := ∃ c : Nat, x = ⟨#[c]⟩ ∧ 97 ≤ c ∧ c ≤ 122
structure Row (xs : List Str) : Prop where
  pos : 1 ≤ xs.length
  few : xs.length ≤ 16
  ltr : ∀ x ∈ xs, Ltr x
  nd : xs.Nodup
theorem Ltr.ok {x : Str} (h : Ltr x) : PyData.strOk x = true := by
  obtain ⟨c, rfl, h1, h2⟩ := h
  have : ∀ c : Nat, c < 123 → PyData.strOk ⟨#[c]⟩ = true := by decide +kernel
  exact this c (by omega)
theorem abc_eq : (Str.ofString "abcdefghijklmnopqrstuvwxyz").cps.toList = (List.range 26).map (97 + ·) := by decide +kernel
theorem is_letter_ok {x : Str} {st : Stt} (h : Ltr x) : m_is_letter [.str x] st = .ok (.bl true) st := by
  obtain ⟨c, rfl, h1, h2⟩ := h
  refine frz_pure ?_ rfl
  have hl : Str.length ⟨#[c]⟩ = 1 := rfl
  have hin : fIn false st (.str ⟨#[c]⟩) (.str (Str.ofString "abcdefghijklmnopqrstuvwxyz")) = some (.bl true) := by
    show some (W.bl (decide (c ∈ (Str.ofString "abcdefghijklmnopqrstuvwxyz").cps.toList))) = _
    rw [abc_eq, decide_eq_true]
    simp
    exact ⟨c - 97, by omega, by omega⟩
  simp [r_is_letter, entry, hl, hin]
theorem is_row_ok {xs : List Str} {st : Stt} (h : Row xs) : m_is_row [.tup (xs.map .str)] st = .ok (.bl true) st := by
  refine frz_pure ?_ rfl
  have h1 : (1 : Int) ≤ (xs.length : Int) := by have := h.pos; omega
  have h2 : (xs.length : Int) ≤ 16 := by have := h.few; omega
  have h3 : xs.length ≤ 1000 := by omega
  have h4 : xs.length ≤ 100000 := by omega
  have hc : ∀ ρ : Ev, 2 = ρ.length → lcW (fun _ => True) (gmName 1) tmYes (eCall m_is_letter (aCons (eVar 1) aNil)) ρ (xs.map .str) st = .ok (List.replicate xs.length (.bl true)) st := fun ρ hρ => by
    rw [show xs.length = (xs.map W.str).length by simp]
    refine lcW_true trivial _ fun w hw => ?_
    obtain ⟨x, hx, rfl⟩ := List.mem_map.mp hw
    refine ⟨_, rfl, ?_⟩
    simp [is_letter_ok (h.ltr x hx), ← hρ]
  have hn : Low.nubS xs = xs := Low.nubS_of_nodup h.nd
  simp [r_is_row, entry, hc, strsOf_map, hn, h1, h2, h3, h4]

/-! pairs -/
theorem sortS_congr {xs ys : List Str} (h : ys.Perm xs) : sortS ys = sortS xs :=
  List.Perm.eq_of_pairwise (le := fun a b => leS a b = true) (fun a b _ _ x y => leS_antisymm x y) (sortS_pair ys) (sortS_pair xs) ((sortS_perm ys).trans (h.trans (sortS_perm xs).symm))
theorem Row.perm {xs ys : List Str} (h : Row xs) (p : ys.Perm xs) : Row ys := ⟨by rw [p.length_eq]; exact h.pos, by rw [p.length_eq]; exact h.few, fun x hx => h.ltr x (p.mem_iff.mp hx), p.nodup_iff.mpr h.nd⟩
structure Both (t h : List Str) : Prop where
  row : Row t
  perm : h.Perm t
theorem Both.rowH {t h : List Str} (b : Both t h) : Row h := b.row.perm b.perm
abbrev wS (xs : List Str) : W := .tup (xs.map .str)
abbrev wL (xs : List Str) : W := .lst (xs.map .str)
theorem dat_row {n : Nat} {xs : List Str} (h : ∀ x ∈ xs, Ltr x) : datWs n (xs.map .str) = true := dat_strs fun x hx => (h x hx).ok
theorem datS {n : Nat} {xs : List Str} (h : ∀ x ∈ xs, Ltr x) : datW (n + 1) (wS xs) = true := by
  rw [datW, Nat.add_sub_cancel, dat_row h]; simp
theorem datL {n : Nat} {xs : List Str} (h : ∀ x ∈ xs, Ltr x) : datW (n + 1) (wL xs) = true := by
  rw [datW, Nat.add_sub_cancel, dat_row h]; simp
theorem is_pair_ok {t h : List Str} {st : Stt} (b : Both t h) : m_is_pair [.tup [wS t, wS h]] st = .ok (.bl true) st := by
  refine frz_pure ?_ rfl
  have hc : ∀ ρ : Ev, 2 = ρ.length → lcW (fun _ => True) (gmName 1) tmYes (eCall m_is_row (aCons (eVar 1) aNil)) ρ [wS t, wS h] st = .ok (List.replicate 2 (.bl true)) st := fun ρ hρ => by
    refine lcW_true trivial _ fun w hw => ?_
    simp only [List.mem_cons, List.not_mem_nil, or_false] at hw
    refine ⟨_, rfl, ?_⟩
    rcases hw with rfl | rfl
    · simp [is_row_ok b.row, ← hρ]
    · simp [is_row_ok b.rowH, ← hρ]
  have h3 : t.length < 64 := by have := b.row.few; omega
  have h4 : h.length < 64 := by have := b.rowH.few; omega
  have hs : fEq st (wL (sortS h)) (wL (sortS t)) = some (.bl true) := by
    rw [sortS_congr b.perm]
    exact fEq_same (datL (n := 63) fun x hx => b.row.ltr x ((sortS_perm t).mem_iff.mp hx))
  have hs' : fEq st (wL (sortS t)) (wL (sortS t)) = some (.bl true) := by
    exact fEq_same (datL (n := 63) fun x hx => b.row.ltr x ((sortS_perm t).mem_iff.mp hx))
  have e := sortS_congr b.perm
  have ha : fAll st [W.lst [W.bl true, W.bl true]] = some (.bl true) := fAll_rep 2
  simp [r_is_pair, ha, entry, hc, fSorted, strsOf_map, h3, h4, hs', e]
section
variable {st : Stt}
theorem flat_strs : ∀ xs : List Str, flatWs (xs.map .str) = some (xs.map V.str)
  | [] => rfl
  | a :: r => by rw [List.map_cons, flatWs, flatW, flat_strs r]; rfl
theorem inV_strs (x : Str) : ∀ xs : List Str, inV (.str x) (xs.map V.str) = decide (x ∈ xs)
  | [] => rfl
  | a :: r => by
    have ih := inV_strs x r
    unfold inV at ih ⊢
    rw [List.map_cons, List.any_cons, ih]
    show ((a == x) || decide (x ∈ r)) = _
    by_cases h : a = x
    · subst h; simp
    · have : ¬ x = a := fun z => h z.symm
      simp [h, this]
theorem in_row (x : Str) (xs : List Str) : fIn false st (.str x) (wS xs) = some (.bl (decide (x ∈ xs))) := by
  unfold fIn
  simp [flat_strs, flatW, inV_strs]
theorem in_list (x : Str) (xs : List Str) : fIn false st (.str x) (wL xs) = some (.bl (decide (x ∈ xs))) := by
  unfold fIn
  simp [flat_strs, flatW, inV_strs]
theorem notin_list (x : Str) (xs : List Str) : fIn true st (.str x) (wL xs) = some (.bl (!decide (x ∈ xs))) := by
  unfold fIn
  simp [flat_strs, flatW, inV_strs]
theorem sIx_n (n d : Nat) (k : Nat) : HT.sIx n d (some (k : Int)) = min k n := HT.sIx_nat n d k
theorem cut_take (ws : List W) (p : Nat) : cutW ws none (some (p : Int)) = ws.take p := by
  unfold cutW
  rw [HT.sIx_none, sIx_n, List.drop_zero, Nat.sub_zero]
  by_cases h : p ≤ ws.length
  · rw [Nat.min_eq_left h]
  · rw [Nat.min_eq_right (by omega), List.take_length, List.take_of_length_le (by omega)]
theorem cut_drop (ws : List W) (p : Nat) : cutW ws (some (p : Int)) none = ws.drop p := by
  unfold cutW
  rw [HT.sIx_none, sIx_n]
  by_cases h : p ≤ ws.length
  · rw [Nat.min_eq_left h, List.take_of_length_le (by simp)]
  · rw [Nat.min_eq_right (by omega), List.drop_length, List.drop_eq_nil_of_le (by omega)]; simp
theorem cut_drop1 (ws : List W) (p : Nat) : cutW ws (some ((p : Int) + 1)) none = ws.drop (p + 1) := cut_drop ws (p + 1)
def front {α : Type} (xs : List α) (p : Nat) : List α := match xs[p]? with
  | some x => x :: (xs.take p ++ xs.drop (p + 1))
  | none => xs
theorem front_map {α β : Type} (f : α → β) (xs : List α) (p : Nat) : front (xs.map f) p = (front xs p).map f := by
  unfold front
  rw [List.getElem?_map]
  cases xs[p]? <;> simp
theorem front_perm {α : Type} (xs : List α) (p : Nat) : (front xs p).Perm xs := by
  unfold front
  cases h : xs[p]? with
  | none => exact .refl _
  | some x =>
    obtain ⟨hp, e⟩ := List.getElem?_eq_some_iff.mp h
    have : xs = xs.take p ++ x :: xs.drop (p + 1) := by
      rw [← e, ← List.drop_eq_getElem_cons hp, List.take_append_drop]
    exact (List.perm_middle.symm).trans (by rw [← this])
theorem front_length {α : Type} (xs : List α) (p : Nat) : (front xs p).length = xs.length := (front_perm xs p).length_eq
theorem front_mem {xs : List Str} {p : Nat} {x : Str} : x ∈ front xs p ↔ x ∈ xs := (front_perm xs p).mem_iff
theorem Both.len {t h : List Str} (b : Both t h) : h.length = t.length := b.perm.length_eq
@[simp] theorem set_push {α : Type} (st : List α) (x y : α) : (st ++ [x]).set st.length y = st ++ [y] := by
  rw [List.set_append_right _ _ (Nat.le_refl _), Nat.sub_self]; rfl
@[simp] theorem fz_tup' (n : Nat) (ws : List W) : fzW n st (.tup ws) = (fzWs n st ws).map .tup := by rw [fzW]
@[simp] theorem fzs_nil (n : Nat) : fzWs n st [] = some [] := by rw [fzWs]
@[simp] theorem fzs_cons (n : Nat) (w : W) (ws : List W) : fzWs n st (w :: ws) = match fzW n st w, fzWs n st ws with | some a, some b => some (a :: b) | _, _ => none := by
  rw [fzWs]
  all_goals (cases fzW n st w <;> cases fzWs n st ws <;> rfl)
@[simp] theorem fzs_strs (n : Nat) (xs : List Str) : fzWs n st (xs.map .str) = some (xs.map .str) := nls_fz n st _ (nl_strs xs)
theorem fz_wS (n : Nat) (xs : List Str) : fzW n st (wS xs) = some (wS xs) := nl_fz n st _ (by rw [nlW]; exact nl_strs xs)
theorem fz_wL (n : Nat) (xs : List Str) : fzW n st (wL xs) = some (wL xs) := nl_fz n st _ (by rw [nlW]; exact nl_strs xs)
theorem fz_loc0 (us : List W) (h : nlWs us = true) : fzW st.length (st ++ [some (.lst us)]) (.loc st.length) = some (.lst us) := by
  rw [fzW, if_neg (Nat.lt_irrefl _), List.getElem?_concat_length]
  dsimp only
  rw [if_pos (nls_ok _ _ h)]
theorem idxT_ok (x : Str) (xs : List Str) (h : x ∈ xs) : mIdx (wS xs) [.str x] st = .ok (.int (xs.idxOf x : Nat)) st := by
  unfold mIdx
  simp [strsOf_map, h]
theorem get_map {xs : List Str} {p : Nat} (h : p < xs.length) : (xs.map W.str)[p]? = some (.str xs[p]) := by
  rw [List.getElem?_map, List.getElem?_eq_getElem h]; rfl
@[simp] theorem get_p0 {α : Type} (st : List α) (x y : α) : (st ++ [x, y])[st.length]? = some x := by
  rw [List.getElem?_append_right (Nat.le_refl _), Nat.sub_self]; rfl
@[simp] theorem get_p1 {α : Type} (st : List α) (x y : α) : (st ++ [x, y])[st.length + 1]? = some y := by
  rw [List.getElem?_append_right (by omega), show st.length + 1 - st.length = 1 by omega]; rfl
@[simp] theorem set_p0 {α : Type} (st : List α) (x y z : α) : (st ++ [x, y]).set st.length z = st ++ [z, y] := by
  rw [List.set_append_right _ _ (Nat.le_refl _), Nat.sub_self]; rfl
@[simp] theorem set_p1 {α : Type} (st : List α) (x y z : α) : (st ++ [x, y]).set (st.length + 1) z = st ++ [x, z] := by
  rw [List.set_append_right _ _ (by omega), show st.length + 1 - st.length = 1 by omega]; rfl
theorem row_head {t : List Str} (h : 1 ≤ t.length) : ∃ a r, t = a :: r := by
  cases t with
  | nil => simp at h
  | cons a r => exact ⟨a, r, rfl⟩
theorem need_pair_ok {t h : List Str} (b : Both t h) : m_need_pair [.tup [wS t, wS h]] st = .ok .non st := by
  refine frz_pure ?_ rfl
  simp [r_need_pair, entry, is_pair_ok b]
theorem front_idx {x : Str} : ∀ {t : List Str}, x ∈ t → front t (t.idxOf x) = x :: t.erase x := fun {t} h => by
  unfold front
  have hl := List.idxOf_lt_length_of_mem h
  rw [List.getElem?_eq_getElem hl, List.getElem_idxOf hl]
  dsimp only
  rw [List.erase_eq_eraseIdx_of_idxOf rfl, List.eraseIdx_eq_take_drop_succ]
end
end Lw
end
section
set_option Elab.async false
set_option linter.all false
set_option maxRecDepth 100000
set_option maxHeartbeats 1000000
open PySem PySem.Spec PyProof.Rows L2
namespace Lw
open Sim
theorem abc_len : (Str.ofString "abcdefghijklmnopqrstuvwxyz").length = 26 := by decide +kernel
abbrev abcS : List Str := (List.range 26).map fun k => ⟨#[97 + k]⟩
theorem list_abc {st : Stt} : fList st [.str (Str.ofString "abcdefghijklmnopqrstuvwxyz")] = some (abcS.map .str) := by
  show (if (Str.ofString "abcdefghijklmnopqrstuvwxyz").length ≤ 100000 then some ((Str.ofString "abcdefghijklmnopqrstuvwxyz").cps.toList.map fun c => W.str ⟨#[c]⟩) else none) = _
  rw [if_pos (by rw [abc_len]; decide), abc_eq, List.map_map, List.map_map]
  rfl
theorem list_cut {st : Stt} {n : Nat} (h : n ≤ 26) : fList st [.str (cutS (Str.ofString "abcdefghijklmnopqrstuvwxyz") none (some (n : Int)))] = some ((abcS.take n).map .str) := by
  have hc : (cutS (Str.ofString "abcdefghijklmnopqrstuvwxyz") none (some (n : Int))).cps.toList = ((List.range 26).map (97 + ·)).take n := by
    unfold cutS
    rw [HT.sIx_none, sIx_n, List.drop_zero, Nat.sub_zero, abc_len, Nat.min_eq_left h, abc_eq]
  have hl : (cutS (Str.ofString "abcdefghijklmnopqrstuvwxyz") none (some (n : Int))).length ≤ 100000 := by
    have : (cutS (Str.ofString "abcdefghijklmnopqrstuvwxyz") none (some (n : Int))).length = (cutS (Str.ofString "abcdefghijklmnopqrstuvwxyz") none (some (n : Int))).cps.toList.length := by
      rw [Array.length_toList]; rfl
    rw [this, hc]
    simp
    omega
  show (if _ ≤ 100000 then some (_ : List W) else none) = _
  rw [if_pos hl, hc, List.map_take, List.map_take, List.map_map, List.map_map]
  rfl
theorem abc_ltr : ∀ x ∈ abcS, Ltr x := fun x hx => by
  obtain ⟨k, hk, rfl⟩ := List.mem_map.mp hx
  exact ⟨97 + k, rfl, by omega, by have := List.mem_range.mp hk; omega⟩
theorem abc_nd : abcS.Nodup := by decide +kernel
/-- what is drawn from: a list, a row, the letters -/
structure Ths (st : Stt) (x : W) (ws : List W) : Prop where
  it : fList st [x] = some ws
  ln : lenOf st x = some ws.length
  lw : ∀ ex : Stt, lenOf (st ++ ex) x = some ws.length
theorem Ths.tup {st : Stt} {ws : List W} : Ths st (.tup ws) ws := ⟨rfl, rfl, fun _ => rfl⟩
theorem Ths.lst {st : Stt} {ws : List W} : Ths st (.lst ws) ws := ⟨rfl, rfl, fun _ => rfl⟩
theorem Ths.abc {st : Stt} : Ths st (.str (Str.ofString "abcdefghijklmnopqrstuvwxyz")) (abcS.map .str) := ⟨list_abc, by rw [Sim.len_str, abc_len]; rfl, fun _ => by rw [Sim.len_str, abc_len]; rfl⟩
theorem perm_strs {ys : List W} {xs : List Str} (h : ys.Perm (xs.map .str)) : ∃ zs : List Str, ys = zs.map .str ∧ zs.Perm xs := by
  have : ∀ w ∈ ys, ∃ z : Str, w = .str z := fun w hw => by
    obtain ⟨z, _, e⟩ := List.mem_map.mp (h.mem_iff.mp hw)
    exact ⟨z, e.symm⟩
  obtain ⟨zs, rfl⟩ : ∃ zs : List Str, ys = zs.map .str := by
    clear h
    induction ys with
    | nil => exact ⟨[], rfl⟩
    | cons w r ih =>
      obtain ⟨z, rfl⟩ := this w List.mem_cons_self
      obtain ⟨zs, rfl⟩ := ih fun u hu => this u (List.mem_cons_of_mem _ hu)
      exact ⟨z :: zs, rfl⟩
  refine ⟨zs, rfl, ?_⟩
  have g := h.filterMap (fun w : W => match w with | .str z => some z | _ => none)
  simpa [List.filterMap_map, Function.comp_def] using g
theorem sub_of_abc {xs : List Str} (n : Nat) (h : xs.Perm abcS) (h1 : 1 ≤ n) (h2 : n ≤ 16) : Row (xs.take n) ∧ (xs.take n).length = n := by
  have hl : xs.length = 26 := by rw [h.length_eq]; rfl
  have hn : (xs.take n).length = n := by rw [List.length_take]; omega
  exact ⟨⟨by omega, by omega, fun x hx => abc_ltr x (h.mem_iff.mp (List.mem_of_mem_take hx)), (h.nodup_iff.mpr abc_nd).sublist (List.take_sublist _ _)⟩, hn⟩
theorem insert_ok {us : List W} {y : W} {st : Stt} (hl : us.length < 100000) : fInsert us [.int 0, y] st = some (.non, y :: us) := by
  unfold fInsert
  dsimp only
  rw [if_pos ⟨by decide, by decide, hl⟩]
  rfl
end Lw
end
section
set_option Elab.async false
set_option linter.all false
set_option maxRecDepth 100000
set_option maxHeartbeats 1000000
open PySem PySem.Spec PyProof.Rows L2
namespace Lw
open Sim
theorem draw_ok {st : Stt} {i N : Nat} {n : Int} (hn : 0 < n) (hn2 : n < 2 ^ 62) (h : Sp st i (N + 1)) : ∃ v st', m__law_draw [.loc i, .int n] st = .ok (.int v) st' ∧ 0 ≤ v ∧ v < n ∧ Dr st st' i N := by
  have hi := h.lt
  obtain ⟨a, b, c, hs, ha, hb, hb2, hc, hcN⟩ := h
  have key : ∃ (v : Int) (ob : List W), r__law_draw [.loc i, .int n] st = .ok (.int v) (st.set i (some (.lst ob))) ∧ 0 ≤ v ∧ v < n ∧ Sp (st.set i (some (.lst ob))) i N := by
    by_cases h0 : 1 < a
    · refine ⟨a % n, [.int (a / n), .int b, .int c], ?_, Int.emod_nonneg _ (by omega), Int.emod_lt_of_pos _ hn, a / n, b, c, List.getElem?_set_self hi, Int.ediv_nonneg ha (by omega), hb, hb2, hc, by omega⟩
      have e1 := f_mod (st := st) a n hn
      have e2 := f_div (st := st) a n hn hn2
      simp [r__law_draw, entry, hs, h0, e1, e2, setW, ixN]
    · have hc1 : 0 ≤ c + 1 := by omega
      have q10 : (10 : Int).natAbs < 2 ^ 1000 := small (by decide) (by decide)
      have p39 := fun s => f_pow (st := s) 10 39 q10 (by decide) (by decide)
      have p36 := fun s => f_pow (st := s) 10 36 q10 (by decide) (by decide)
      have k39 : (39 : Int).toNat = 39 := rfl
      have k36 : (36 : Int).toNat = 36 := rfl
      rw [k39] at p39
      rw [k36] at p36
      have q1 : (982451653 : Int).natAbs < 2 ^ 1000 := small (by decide) (by decide)
      have q2 : (15485863 : Int).natAbs < 2 ^ 1000 := small (by decide) (by decide)
      have q3 : (c + 1).natAbs < 2 ^ 1000 := small (by omega) (by omega)
      have q4 : (b + (c + 1) * 982451653).natAbs < 2 ^ 1000 := small (by omega) (by omega)
      generalize hm1 : (b + (c + 1) * 982451653) ^ 5 % ((10 : Int) ^ 39 + 3) = x1
      have x1a : 0 ≤ x1 := by rw [← hm1]; exact Int.emod_nonneg _ (by decide)
      have x1b : x1 < (10 : Int) ^ 39 + 3 := by rw [← hm1]; exact Int.emod_lt_of_pos _ (by decide)
      have q5 : (x1 + (c + 1) * 15485863).natAbs < 2 ^ 1000 := small (by omega) (by omega)
      generalize hm2 : (x1 + (c + 1) * 15485863) ^ 3 % ((10 : Int) ^ 36 + 67) = x2
      refine ⟨x2 / 1024 % n, [.int a, .int b, .int (c + 1)], ?_, Int.emod_nonneg _ (by omega), Int.emod_lt_of_pos _ hn, a, b, c + 1, List.getElem?_set_self hi, ha, hb, hb2, by omega, by omega⟩
      have m1 := fun s => f_mul (st := s) (c + 1) 982451653 q3 q1
      have m2 := fun s => f_mul (st := s) (c + 1) 15485863 q3 q2
      have w1 := fun s => f_pow (st := s) (b + (c + 1) * 982451653) 5 q4 (by decide) (by decide)
      have w2 := fun s => f_pow (st := s) (x1 + (c + 1) * 15485863) 3 q5 (by decide) (by decide)
      have d1 := fun s x => f_mod (st := s) x ((10 : Int) ^ 39 + 3) (by decide)
      have d2 := fun s x => f_mod (st := s) x ((10 : Int) ^ 36 + 67) (by decide)
      have d3 := fun s => f_mod (st := s) (x2 / 1024) n hn
      have d4 := fun s => f_div (st := s) x2 1024 (by decide) (by decide)
      have hg : (st.set i (some (.lst [.int a, .int b, .int (c + 1)])))[i]? = some (some (.lst [.int a, .int b, .int (c + 1)])) := List.getElem?_set_self hi
      have k3 : (3 : Int).toNat = 3 := rfl
      have k5 : (5 : Int).toNat = 5 := rfl
      rw [k5] at w1
      rw [k3] at w2
      simp [r__law_draw, entry, hs, h0, setW, ixN, hg, m1, m2, w1, p39, p36, d1, d2, hm1, w2, hm2, d3, d4, -Int.reducePow, -Int.reduceAdd]
  obtain ⟨v, ob, h1, h2, h3, h4⟩ := key
  obtain ⟨st', h5, h6⟩ := frz_dr (st := st) h1 (w' := .int v) (by rw [fzW]) (fun j _ hj => List.getElem?_set_ne (fun z => hj z.symm)) h4 (by simp) hi
  exact ⟨v, st', h5, h2, h3, h6⟩
/-- [stock.pop(_law_draw(bag, len(stock))) for .. in ..]: some of the things, in a drawn order -/
theorem pops_ok {st : Stt} {i N b r kk rr bb : Nat} {ws items : List W} {ρ : Ev} {ok : Stt → Prop} (hok : ∀ s, ok s) (hl : ws.length ≤ 1000) (hm : items.length ≤ ws.length) (hib : i < b) (hbr : b ≤ r) (hr : st[r]? = some (some (.lst ws))) (h : Sp st i (N + items.length))
    (hρ : kk < ρ.length) (h1 : rr ≠ kk) (h2 : bb ≠ kk) (e1 : ρ[rr]? = some (some (.loc r))) (e2 : ρ[bb]? = some (some (.loc i))) :
    ∃ (ys rest : List W) (s : Stt), lcW ok (gmName kk) tmYes (eBM (eVar rr) (aCons (eCall m__law_draw (aCons (eVar bb) (aCons (eFn fLen (aCons (eVar rr) aNil)) aNil))) aNil) (mUp fPopAt)) ρ items st = .ok ys s ∧
      ys.length = items.length ∧ (ys ++ rest).Perm ws ∧ s.length = st.length ∧ (∀ j, j < b → j ≠ i → s[j]? = st[j]?) ∧ s[r]? = some (some (.lst rest)) ∧ Sp s i N := by
  have hrl : r < st.length := (List.getElem?_eq_some_iff.mp hr).1
  let I : List W → Stt → Prop := fun acc s => s.length = st.length ∧ (∀ j, j < b → j ≠ i → s[j]? = st[j]?) ∧ ∃ rest, s[r]? = some (some (.lst rest)) ∧ (acc ++ rest).Perm ws ∧ Sp s i (N + (items.length - acc.length))
  obtain ⟨ys, s, e3, l3, l2, f2, rest, r2, p2, s2⟩ := lcW_inv2 (ρ := ρ) (ok := ok) (g := gmName kk) (m := eBM (eVar rr) (aCons (eCall m__law_draw (aCons (eVar bb) (aCons (eFn fLen (aCons (eVar rr) aNil)) aNil))) aNil) (mUp fPopAt))
    I items.length items [] st (by simp) ⟨rfl, fun _ _ _ => rfl, ws, hr, .refl _, h.le (by simp)⟩ (fun w acc s hacc _ hI => by
      obtain ⟨ls, fr, rest, hr, pr, sp⟩ := hI
      have pl := pr.length_eq
      rw [List.length_append] at pl
      obtain ⟨v, s', w1, w2, w3, w4⟩ := draw_ok (st := s) (i := i) (N := N + (items.length - (acc.length + 1))) (n := (rest.length : Int)) (by omega) (by omega) (sp.le (by omega))
      have hne : r ≠ i := by omega
      have hr' : s'[r]? = some (some (.lst rest)) := by rw [w4.fr _ hne]; exact hr
      have hvl : v.toNat < rest.length := by omega
      have hp := popAt_ok (us := rest) (v := v) (st := s') w2 w3 (by omega)
      have q1 : (ρ.set kk (some w))[rr]? = some (some (.loc r)) := by rw [List.getElem?_set_ne (fun z => h1 z.symm)]; exact e1
      have q2 : (ρ.set kk (some w))[bb]? = some (some (.loc i)) := by rw [List.getElem?_set_ne (fun z => h2 z.symm)]; exact e2
      refine ⟨_, rfl, rest[v.toNat], s'.set r (some (.lst (rest.eraseIdx v.toNat))), ?_, ?_⟩
      · have hlx : lstX s (.loc r) = some rest := by simp [lstX, hr]
        have hlen : lenOf s (.loc r) = some rest.length := by rw [Sim.len_loc, hr]
        have hup : mUp fPopAt (.loc r) [.int v] s' = .ok rest[v.toNat] (s'.set r (some (.lst (rest.eraseIdx v.toNat)))) := by
          unfold mUp
          dsimp only
          rw [hr']
          dsimp only
          rw [hp]
        simp only [ev_bm, ev_var, q1, bmK_ok, hlx, bmW_some, ev_cons, ev_call, q2, ev_fn, ev_nil, consK_ok, consK2_ok, fnK_ok, f_len, hlen, optR_some, callK_ok, w1, bmK2_ok, hup]
      · refine ⟨by rw [List.length_set, w4.len]; exact ls, fun j hj hji => ?_, rest.eraseIdx v.toNat, List.getElem?_set_self (by rw [w4.len, ls]; omega), ?_, ?_⟩
        · rw [List.getElem?_set_ne (by omega), w4.fr j hji]; exact fr j hj hji
        · rw [List.append_assoc]
          exact ((eraseIdx_perm hvl).append_left acc).trans pr
        · rw [List.length_append, List.length_singleton]
          exact w4.sp.cong (List.getElem?_set_ne (by omega)) (Nat.le_refl _)) (fun _ _ _ => hok _)
  rw [List.nil_append] at p2 s2
  exact ⟨ys, rest, s, e3, l3, p2, l2, f2, r2, s2.le (by omega)⟩
theorem pick_strs {ys rest : List W} {xs : List Str} (h : (ys ++ rest).Perm (xs.map .str)) : ∃ as bs : List Str, ys = as.map .str ∧ rest = bs.map .str ∧ (as ++ bs).Perm xs := by
  obtain ⟨zs, e, p⟩ := perm_strs h
  have : ∃ as bs, ys = as.map W.str ∧ rest = bs.map W.str ∧ as ++ bs = zs := by
    refine ⟨zs.take ys.length, zs.drop ys.length, ?_, ?_, List.take_append_drop _ _⟩
    · rw [List.map_take, ← e, List.take_left]
    · rw [List.map_drop, ← e, List.drop_left]
  obtain ⟨as, bs, h1, h2, h3⟩ := this
  exact ⟨as, bs, h1, h2, by rw [h3]; exact p⟩
theorem cell_at_ok {st : Stt} {ns : List Int} {k : Nat} : ∃ c : Int, m__law_cell_at [.scr (ns.map .int), .int (k : Int)] st = .ok (.int c) st := by
  by_cases h : k < ns.length
  · refine ⟨ns[k], frz_pure ?_ (by rw [nlW])⟩
    have hx : fIx st (.scr (ns.map .int)) (.int (k : Int)) = some (.int ns[k]) := by
      show atI (ns.map W.int) (k : Int) = _
      rw [Sim.atI_nat, List.getElem?_map, List.getElem?_eq_getElem h]; rfl
    simp [r__law_cell_at, entry, hx, h, lenOf]
  · refine ⟨0, frz_pure ?_ (by rw [nlW])⟩
    simp [r__law_cell_at, entry, h, lenOf]
theorem bag_ok {st : Stt} {cell : Int} : ∃ st', m__law_bag [.int cell] st = .ok (.loc st.length) st' ∧ (∃ ob, st' = st ++ [some ob]) ∧ Sp st' st.length 1000000 := by
  have q10 : (10 : Int).natAbs < 2 ^ 1000 := small (by decide) (by decide)
  have p18 := fun s => f_pow (st := s) 10 18 q10 (by decide) (by decide)
  have k18 : (18 : Int).toNat = 18 := rfl
  rw [k18] at p18
  have p40 := fun s => f_pow (st := s) 10 40 q10 (by decide) (by decide)
  have k40 : (40 : Int).toNat = 40 := rfl
  rw [k40] at p40
  have d1 := fun s x => f_mod (st := s) x ((10 : Int) ^ 40 + 121) (by decide)
  have e1 : 0 ≤ cell % ((10 : Int) ^ 40 + 121) := Int.emod_nonneg _ (by decide)
  have e2 : cell % ((10 : Int) ^ 40 + 121) < (10 : Int) ^ 40 + 121 := Int.emod_lt_of_pos _ (by decide)
  have hraw : r__law_bag [.int cell] st = .ok (.loc st.length) (st ++ [some (.lst [.int (max 1 (cell - 10 ^ 18)), .int (cell % ((10 : Int) ^ 40 + 121)), .int 0])]) := by
    simp [r__law_bag, entry, p18, p40, d1, -Int.reducePow, -Int.reduceAdd]
  refine ⟨_, frzL_eq hraw (fun j hj => .inl (List.getElem?_append_left hj)) (Nat.le_refl _) List.getElem?_concat_length (by simp [okO, okLs, okL]), ?_, ?_⟩
  · rw [List.take_left]; exact ⟨_, rfl⟩
  · rw [List.take_left]
    exact ⟨_, _, _, List.getElem?_concat_length, by omega, by omega, by omega, by omega, by omega⟩
end Lw
end
section
set_option Elab.async false
set_option linter.all false
set_option maxRecDepth 100000
set_option maxHeartbeats 1000000
open PySem PySem.Spec PyProof.Rows L2
namespace Lw
open Sim
theorem line_ok {st : Stt} {i N upto : Nat} (h1 : 1 ≤ upto) (h2 : upto ≤ 16) (h : Sp st i (N + 30)) : ∃ t st', m__law_line [.loc i, .int (upto : Int)] st = .ok (wS t) st' ∧ Row t ∧ t.length ≤ upto ∧ Dr st st' i N := by
  have hi := h.lt
  obtain ⟨v, st1, a1, a2, a3, d1⟩ := draw_ok (N := N + 29) (n := (upto : Int)) (by omega) (by omega) (h.le (by omega))
  obtain ⟨m, rfl⟩ : ∃ m : Nat, v = m := ⟨v.toNat, by omega⟩
  obtain ⟨w, st2, b1, b2, b3, d2⟩ := draw_ok (st := st1) (N := N + 28) (n := (11 : Int)) (by decide) (by decide) (d1.sp.le (by omega))
  obtain ⟨a, rfl⟩ : ∃ a : Nat, w = a := ⟨w.toNat, by omega⟩
  have sl : ∀ s : Stt, lstOf s (.lst (abcS.map .str)) = some (abcS.map .str) := fun _ => rfl
  obtain ⟨A, hA⟩ : ∃ A, A = abcS.drop a := ⟨_, rfl⟩
  have lA : A.length = 26 - a := by rw [hA, List.length_drop]; rfl
  have cA : cutW (abcS.map W.str) (some (a : Int)) none = A.map .str := by rw [cut_drop, ← List.map_drop, hA]
  obtain ⟨s3, hs3⟩ : ∃ s3, s3 = st2 ++ [some (Ob.lst (A.map W.str))] := ⟨_, rfl⟩
  have l2 : st2.length = st.length := by rw [d2.len, d1.len]
  have g3 : s3[st2.length]? = some (some (.lst (A.map .str))) := by rw [hs3]; exact List.getElem?_concat_length
  have sp3 : Sp s3 i (N + 28) := d2.sp.cong (by rw [hs3]; exact List.getElem?_append_left (by omega)) (Nat.le_refl _)
  obtain ⟨x, st4, c1, c2, c3, d4⟩ := draw_ok (st := s3) (N := N + 27) (n := (2 : Int)) (by decide) (by decide) (sp3.le (by omega))
  have l4 : st4.length = st.length + 1 := by rw [d4.len, hs3]; simp [l2]
  have g4 : st4[st2.length]? = some (some (.lst (A.map .str))) := by rw [d4.fr _ (by omega)]; exact g3
  have fr4 : ∀ j, j < st.length → j ≠ i → st4[j]? = st[j]? := fun j hj hji => by
    rw [d4.fr j hji, hs3, List.getElem?_append_left (by omega), d2.fr j hji, d1.fr j hji]
  obtain ⟨r, B, s5, key, g5, lB, sB, l5, f5, sp5⟩ : ∃ (r : Nat) (B : List Str) (s5 : Stt), (∀ ρ4 : Option W, sAsg (emIf (tmV (eOp fEq (eCall m__law_draw (aCons (eVar 0) (aCons (eC (.int 2)) aNil))) (eC (.int 0)))) (eSlO (eVar 3) oNone (oSome (eVar 2))) (eVar 3)) (gmName 3) [some (.loc i), some (.int (upto : Int)), some (.int (1 + (m : Int))), some (.loc st2.length), ρ4] s3 = .nx [some (.loc i), some (.int (upto : Int)), some (.int (1 + (m : Int))), some (.loc r), ρ4] s5) ∧
      s5[r]? = some (some (.lst (B.map .str))) ∧ 1 + m ≤ B.length ∧ B.Sublist A ∧ st.length ≤ r ∧ (∀ j, j < st.length → j ≠ i → s5[j]? = st[j]?) ∧ Sp s5 i (N + 27) := by
    by_cases hx : x = 0
    · refine ⟨st4.length, A.take (1 + m), st4 ++ [some (.lst ((A.take (1 + m)).map .str))], fun ρ4 => ?_, List.getElem?_concat_length, by rw [List.length_take]; omega, List.take_sublist _ _, by omega, fun j hj hji => by rw [List.getElem?_append_left (by omega)]; exact fr4 j hj hji, d4.sp.cong (List.getElem?_append_left (by omega)) (Nat.le_refl _)⟩
      have hls : lstOf st4 (.loc st2.length) = some (A.map .str) := by rw [ls_loc, g4]
      have hc : cutW (A.map W.str) none (some (1 + (m : Int))) = (A.take (1 + m)).map .str := by
        rw [show (1 + (m : Int)) = ((1 + m : Nat) : Int) by omega, cut_take, ← List.map_take]
      simp [c1, hx, g4, hc, -List.map_take]
    · refine ⟨st2.length, A, st4, fun ρ4 => ?_, g4, by omega, List.Sublist.refl _, by omega, fr4, d4.sp⟩
      simp [c1, hx]
  have hm : 1 + m ≤ 16 := by omega
  have hm5 : 1 + m ≤ 100000 := by omega
  have r1 : ∀ s, rng1W [.int (1 + (m : Int))] s = .ok ⟨rngW 0 (1 + m), fun _ => True⟩ s := fun s => by
    rw [show (1 + (m : Int)) = ((1 + m : Nat) : Int) by omega]; exact rng1_nat (by omega)
  have bl : B.length ≤ 26 := by have := sB.length_le; omega
  obtain ⟨ys, rest, s6, e1, e2, e3, e4, e5, e6, e7⟩ := pops_ok (st := s5) (i := i) (N := N) (b := st.length) (r := r) (kk := 4) (rr := 3) (bb := 0) (ws := B.map .str) (items := rngW 0 (1 + m)) (ρ := [some (.loc i), some (.int (upto : Int)), some (.int (1 + (m : Int))), some (.loc r), none]) (ok := fun _ => True) (fun _ => trivial)
    (by simp; omega) (by simp; omega) hi l5 g5 (sp5.le (by simp; omega)) (by simp) (by decide) (by decide) rfl rfl
  obtain ⟨as, bs, rfl, rfl, pm⟩ := pick_strs e3
  rw [List.length_map, rng_len] at e2
  have sAl : ∀ y ∈ B, y ∈ abcS := fun y hy => by have := sB.subset hy; rw [hA] at this; exact List.mem_of_mem_drop this
  have ndB : B.Nodup := (List.Nodup.sublist sB) (by rw [hA]; exact abc_nd.sublist (List.drop_sublist _ _))
  have row : Row as := ⟨by omega, by omega, fun y hy => abc_ltr y (sAl y (pm.mem_iff.mp (List.mem_append_left _ hy))), ((pm.nodup_iff.mpr ndB).sublist (List.sublist_append_left _ _))⟩
  have hlst : ∀ s : Stt, fList s [.str (Str.ofString "abcdefghijklmnopqrstuvwxyz")] = some (abcS.map .str) := fun s => list_abc
  have hraw : r__law_line [.loc i, .int (upto : Int)] st = .ok (wS as) s6 := by
    unfold r__law_line
    rw [ev_fun, ev_seq]
    simp only [entry, List.map_cons, List.map_nil, List.length_cons, List.length_nil, List.replicate, List.cons_append, List.nil_append]
    rw [show sAsg (eOp fAdd (eC (.int 1)) (eCall m__law_draw (aCons (eVar 0) (aCons (eVar 1) aNil)))) (gmName 2) [some (.loc i), some (.int (upto : Int)), none, none, none] st = .nx [some (.loc i), some (.int (upto : Int)), some (.int (1 + (m : Int))), none, none] st1 from by simp [a1]]
    rw [seqK_nx, ev_seq]
    rw [show sAsg (eSlO (eFnV fList (aCons (eC (.str "abcdefghijklmnopqrstuvwxyz")) aNil)) (oSome (eCall m__law_draw (aCons (eVar 0) (aCons (eC (.int 11)) aNil)))) oNone) (gmName 3) [some (.loc i), some (.int (upto : Int)), some (.int (1 + (m : Int))), none, none] st1 = .nx [some (.loc i), some (.int (upto : Int)), some (.int (1 + (m : Int))), some (.loc st2.length), none] s3 from by
      simp only [ev_asg, ev_slO, ev_fnV, ev_cons, ev_c, ev_nil, consK_ok, consK2_ok, fnVK_ok, hlst, optL_some, slOK_ok, ev_oSome, ev_call, ev_var, List.getElem?_cons_zero, callK_ok, b1, oSomeK_ok, someW_int, slOK2_ok, ev_oNone, slOK3_ok, ls_lst, Option.map_some, cA, optO_some, asgK_ok, ev_gname, optS_some, hs3]; rfl]
    rw [seqK_nx, ev_seq, key none, seqK_nx]
    simp [r1, e1, hm5, fTuple]
  obtain ⟨st', g7, g8⟩ := frz_dr (N := N) (st := st) hraw (w' := wS as) (fz_wS _ _) (fun j hj hji => by rw [e5 j hj hji]; exact f5 j hj hji) e7 (by rw [e4]; have := (List.getElem?_eq_some_iff.mp g5).1; omega) hi
  exact ⟨as, st', g7, row, by omega, g8⟩
end Lw
end
section
set_option Elab.async false
set_option linter.all false
set_option maxRecDepth 100000
set_option maxHeartbeats 1000000
open PySem PySem.Spec PyProof.Rows L2
namespace Lw
open Sim
theorem mixT_ok {st : Stt} {i N : Nat} {xs : List Str} (hl : xs.length ≤ 1000) (h : Sp st i (N + xs.length)) : ∃ ys st', m__law_mixed [.loc i, wS xs] st = .ok (wS ys) st' ∧ ys.Perm xs ∧ Dr st st' i N := by
  have hi := h.lt
  obtain ⟨s1, hs1⟩ : ∃ s1, s1 = st ++ [some (Ob.lst (xs.map W.str))] := ⟨_, rfl⟩
  have g1 : s1[st.length]? = some (some (.lst (xs.map .str))) := by rw [hs1]; exact List.getElem?_concat_length
  obtain ⟨ys, rest, s2, e1, e2, e3, e4, e5, e6, e7⟩ := pops_ok (st := s1) (i := i) (N := N) (b := st.length) (r := st.length) (kk := 3) (rr := 2) (bb := 0) (ws := xs.map .str) (items := xs.map .str) (ρ := [some (.loc i), some (wS xs), some (.loc st.length), none]) (ok := fun _ => True) (fun _ => trivial)
    (by simpa using hl) (Nat.le_refl _) hi (Nat.le_refl _) g1 (h.cong (by rw [hs1]; exact List.getElem?_append_left hi) (by simp)) (by simp) (by decide) (by decide) rfl rfl
  obtain ⟨as, bs, rfl, rfl, pm⟩ := pick_strs e3
  rw [List.length_map, List.length_map] at e2
  have bn : bs = [] := by
    have := pm.length_eq
    rw [List.length_append] at this
    exact List.eq_nil_of_length_eq_zero (by omega)
  subst bn
  rw [List.append_nil] at pm
  have fl : ∀ s : Stt, fList s [wS xs] = some (xs.map .str) := fun _ => rfl
  have l1 : xs.length ≤ 100000 := by omega
  have hraw : r__law_mixed [.loc i, wS xs] st = .ok (wS as) s2 := by
    rw [hs1] at e1
    simp [r__law_mixed, entry, fl, e1, l1, fTuple]
  obtain ⟨st', g7, g8⟩ := frz_dr (N := N) (st := st) hraw (w' := wS as) (fz_wS _ _) (fun j hj hji => by rw [e5 j hj hji, hs1, List.getElem?_append_left hj]) e7 (by rw [e4, hs1]; simp) hi
  exact ⟨as, st', g7, pm, g8⟩
end Lw
end
section
set_option Elab.async false
set_option linter.all false
set_option maxRecDepth 100000
set_option maxHeartbeats 1000000
open PySem PySem.Spec PyProof.Rows L2
namespace Lw
open Sim
theorem is_amount_ok {i : Int} {st : Stt} : m_is_amount [.int i] st = .ok (.bl (decide (0 ≤ i))) st := by
  refine frz_pure ?_ rfl
  simp [r_is_amount, entry]
theorem is_place_ok {i n : Int} {st : Stt} : m_is_place [.int i, .int n] st = .ok (.bl (decide (0 ≤ i ∧ i < n))) st := by
  refine frz_pure ?_ rfl
  simp [r_is_place, entry, is_amount_ok]
  by_cases h : 0 ≤ i <;> simp [h]
/-! events -/
inductive Evt where
  | pl (p : Nat) | lo (p : Nat) | tw (p : Nat) | as (p q : Nat) | nm (x : Str)
def Evt.w : Evt → W
  | .pl p => .tup [.str "place", .int (p : Int)]
  | .lo p => .tup [.str "lost", .int (p : Int)]
  | .tw p => .tup [.str "twice", .int (p : Int)]
  | .as p q => .tup [.str "as", .int (p : Int), .int (q : Int)]
  | .nm x => .tup [.str "name", .str x]
def Evt.ok (xs : List Str) : Evt → Prop
  | .pl p => p < xs.length
  | .lo p => p < xs.length
  | .tw p => p < xs.length
  | .as p q => p < xs.length ∧ q < xs.length ∧ p ≠ q
  | .nm x => x ∈ xs
section
variable {st : Stt}
@[simp] theorem kd1 : fEq st (.str "place") (.str "as") = some (.bl false) := by rw [fEq_str _ _ (by decide +kernel) (by decide +kernel)]; rfl
@[simp] theorem kd2 : fEq st (.str "lost") (.str "as") = some (.bl false) := by rw [fEq_str _ _ (by decide +kernel) (by decide +kernel)]; rfl
@[simp] theorem kd3 : fEq st (.str "twice") (.str "as") = some (.bl false) := by rw [fEq_str _ _ (by decide +kernel) (by decide +kernel)]; rfl
@[simp] theorem kd4 : fEq st (.str "as") (.str "as") = some (.bl true) := by rw [fEq_str _ _ (by decide +kernel) (by decide +kernel)]; rfl
@[simp] theorem kd5 : fEq st (.str "name") (.str "as") = some (.bl false) := by rw [fEq_str _ _ (by decide +kernel) (by decide +kernel)]; rfl
@[simp] theorem kd6 : fEq st (.str "place") (.str "name") = some (.bl false) := by rw [fEq_str _ _ (by decide +kernel) (by decide +kernel)]; rfl
@[simp] theorem kd7 : fEq st (.str "lost") (.str "name") = some (.bl false) := by rw [fEq_str _ _ (by decide +kernel) (by decide +kernel)]; rfl
@[simp] theorem kd8 : fEq st (.str "twice") (.str "name") = some (.bl false) := by rw [fEq_str _ _ (by decide +kernel) (by decide +kernel)]; rfl
@[simp] theorem kd9 : fEq st (.str "as") (.str "name") = some (.bl false) := by rw [fEq_str _ _ (by decide +kernel) (by decide +kernel)]; rfl
@[simp] theorem kd10 : fEq st (.str "name") (.str "name") = some (.bl true) := by rw [fEq_str _ _ (by decide +kernel) (by decide +kernel)]; rfl
@[simp] theorem kd11 : fEq st (.str "place") (.str "lost") = some (.bl false) := by rw [fEq_str _ _ (by decide +kernel) (by decide +kernel)]; rfl
@[simp] theorem kd12 : fEq st (.str "lost") (.str "lost") = some (.bl true) := by rw [fEq_str _ _ (by decide +kernel) (by decide +kernel)]; rfl
@[simp] theorem kd13 : fEq st (.str "twice") (.str "lost") = some (.bl false) := by rw [fEq_str _ _ (by decide +kernel) (by decide +kernel)]; rfl
@[simp] theorem kd14 : fEq st (.str "as") (.str "lost") = some (.bl false) := by rw [fEq_str _ _ (by decide +kernel) (by decide +kernel)]; rfl
@[simp] theorem kd15 : fEq st (.str "place") (.str "twice") = some (.bl false) := by rw [fEq_str _ _ (by decide +kernel) (by decide +kernel)]; rfl
@[simp] theorem kd16 : fEq st (.str "twice") (.str "twice") = some (.bl true) := by rw [fEq_str _ _ (by decide +kernel) (by decide +kernel)]; rfl
@[simp] theorem kd17 : fEq st (.str "as") (.str "twice") = some (.bl false) := by rw [fEq_str _ _ (by decide +kernel) (by decide +kernel)]; rfl
@[simp] theorem in23a : fIn true st (.int 2) (.tup [.int 2, .int 3]) = some (.bl false) := rfl
@[simp] theorem in23b : fIn true st (.int 3) (.tup [.int 2, .int 3]) = some (.bl false) := rfl
@[simp] theorem inpl : fIn false st (.str "place") (.tup [.str "place", .str "lost", .str "twice"]) = some (.bl true) := rfl
@[simp] theorem inlo : fIn false st (.str "lost") (.tup [.str "place", .str "lost", .str "twice"]) = some (.bl true) := rfl
@[simp] theorem intw : fIn false st (.str "twice") (.tup [.str "place", .str "lost", .str "twice"]) = some (.bl true) := rfl
theorem to_frontW_ok {ws : List W} {p : Nat} (h : p < ws.length) (hl : ws.length ≤ 1000) (hn : nlWs ws = true) : m_to_front [.tup ws, .int (p : Int)] st = .ok (.tup (front ws p)) st := by
  refine frz_pure ?_ (by rw [nlW, nls_all]; exact fun w hw => nls_all.mp hn w ((front_perm ws p).mem_iff.mp hw))
  have h1 : ws[p]? = some ws[p] := List.getElem?_eq_getElem h
  have hs1 : fSl st (.tup ws) none (some (p : Int)) = some (.tup (ws.take p)) := by
    show some (W.tup (cutW ws none (some (p : Int)))) = _
    rw [cut_take]
  have hs2 : fSl st (.tup ws) (some ((p : Int) + 1)) none = some (.tup (ws.drop (p + 1))) := by
    show some (W.tup (cutW ws (some ((p : Int) + 1)) none)) = _
    rw [cut_drop1]
  have l1 : 1 + min p ws.length ≤ 100000 := by omega
  have l2 : 1 + min p ws.length + (ws.length - (p + 1)) ≤ 100000 := by omega
  have l3 : 1 + (p + (ws.length - (p + 1))) ≤ 100000 := by omega
  have l4 : 1 + p ≤ 100000 := by omega
  have l6 : p + 1 + (ws.length - (p + 1)) ≤ 100000 := by omega
  have l5 : min p ws.length = p := by omega
  simp [r_to_front, entry, Sim.atI_nat, h1, hs1, hs2, front, l5, l3, l4, l6]
theorem to_front_ok {xs : List Str} {p : Nat} (h : p < xs.length) (hl : xs.length ≤ 1000) : m_to_front [wS xs, .int (p : Int)] st = .ok (wS (front xs p)) st := by
  have := to_frontW_ok (st := st) (ws := xs.map .str) (p := p) (by simpa using h) (by simpa using hl) (nl_strs xs)
  rw [this, front_map]

def doneE (t h : List Str) : Evt → List Str × List Str × List Str
  | .nm x => (front t (t.idxOf x), front h (h.idxOf x), [x])
  | .lo p => (front t p, h, [])
  | .pl p => (front t p, front h p, (h[p]?).toList)
  | .tw p => (front t p, front (front h p) p, (h[p]?).toList ++ ((front h p)[p]?).toList)
  | .as p q => (front t p, front h q, (h[q]?).toList)
theorem done_ok {t h : List Str} {e : Evt} (b : Both t h) (he : e.ok t) : m_done [wS t, wS h, e.w] st = .ok (.tup [wS (doneE t h e).1, wS (doneE t h e).2.1, wL (doneE t h e).2.2]) st := by
  have hl := b.len
  have ht : t.length ≤ 1000 := by have := b.row.few; omega
  have hh : h.length ≤ 1000 := by omega
  cases e with
  | nm x =>
    refine frz_pure ?_ (by simp [nlW, nlWs, nl_strs])
    have hx : x ∈ t := he
    have hx' : x ∈ h := b.perm.mem_iff.mpr hx
    have i1 := List.idxOf_lt_length_of_mem hx
    have i2 := List.idxOf_lt_length_of_mem hx'
    simp [r_done, entry, Evt.w, idxT_ok x t hx, idxT_ok x h hx', to_front_ok i1 ht, to_front_ok i2 hh, doneE]
  | lo p =>
    refine frz_pure ?_ (by simp [nlW, nlWs, nl_strs, doneE])
    have hp : p < t.length := he
    simp [r_done, entry, Evt.w, to_front_ok hp ht, doneE]
  | pl p =>
    have hp : p < t.length := he
    have hp' : p < h.length := by omega
    refine frz_new (ex := [some (.lst [.str h[p]])]) (w := .tup [wS (front t p), wS (front h p), .loc st.length]) ?_ (by simp [fz_wS, fz_loc0, nlWs, nlW, doneE, hp'])
    simp [r_done, entry, Evt.w, to_front_ok hp ht, to_front_ok hp' hh, Sim.atI_nat, hp']
  | tw p =>
    have hp : p < t.length := he
    have hp' : p < h.length := by omega
    have hp2 : p < (front h p).length := by rw [front_length]; exact hp'
    refine frz_new (ex := [some (.lst [.str h[p], .str (front h p)[p]])]) (w := .tup [wS (front t p), wS (front (front h p) p), .loc st.length]) ?_ (by simp [fz_wS, fz_loc0, nlWs, nlW, doneE, hp', hp2])
    have l2 : (front h p).length ≤ 1000 := by rw [front_length]; exact hh
    simp [r_done, entry, Evt.w, to_front_ok hp ht, to_front_ok hp' hh, Sim.atI_nat, hp', to_front_ok hp2 l2, hp2, lstX, mUp, fAppend]
  | as p q =>
    obtain ⟨hp, hq, hpq⟩ : p < t.length ∧ q < t.length ∧ p ≠ q := he
    have hq' : q < h.length := by omega
    refine frz_new (ex := [some (.lst [.str h[q]])]) (w := .tup [wS (front t p), wS (front h q), .loc st.length]) ?_ (by simp [fz_wS, fz_loc0, nlWs, nlW, doneE, hq'])
    simp [r_done, entry, Evt.w, to_front_ok hp ht, to_front_ok hq' hh, Sim.atI_nat, hq']

theorem Evt.ok_perm {xs ys : List Str} (p : ys.Perm xs) {e : Evt} (h : e.ok xs) : e.ok ys := by
  cases e with
  | nm x => exact p.mem_iff.mpr h
  | _ => simpa [Evt.ok, p.length_eq] using h
theorem done_perm (t h : List Str) (e : Evt) : (doneE t h e).1.Perm t ∧ (doneE t h e).2.1.Perm h := by
  cases e with
  | nm x => exact ⟨front_perm _ _, front_perm _ _⟩
  | lo p => exact ⟨front_perm _ _, .refl _⟩
  | pl p => exact ⟨front_perm _ _, front_perm _ _⟩
  | tw p => exact ⟨front_perm _ _, (front_perm _ _).trans (front_perm _ _)⟩
  | as p q => exact ⟨front_perm _ _, front_perm _ _⟩
theorem done_both {t h : List Str} (b : Both t h) (e : Evt) : Both (doneE t h e).1 (doneE t h e).2.1 :=
  ⟨b.row.perm (done_perm t h e).1, ((done_perm t h e).2.trans b.perm).trans (done_perm t h e).1.symm⟩
theorem done_more (t h : List Str) (e : Evt) : (doneE t h e).2.2.length ≤ 2 := by
  have tl : ∀ o : Option Str, o.toList.length ≤ 1 := fun o => by cases o <;> simp
  cases e with
  | nm x => simp [doneE]
  | lo p => simp [doneE]
  | pl p => have := tl h[p]?; simp only [doneE]; omega
  | tw p => have := tl h[p]?; have := tl (front h p)[p]?; simp only [doneE, List.length_append]; omega
  | as p q => have := tl h[q]?; simp only [doneE]; omega
def goneE : List Str → List Str → List Evt → List Str × List Str × List Str × List Str
  | t, h, [] => (t, h, [], [])
  | t, h, e :: r => ((goneE (doneE t h e).1 (doneE t h e).2.1 r).1, (goneE (doneE t h e).1 (doneE t h e).2.1 r).2.1,
    (doneE t h e).1.head?.toList ++ (goneE (doneE t h e).1 (doneE t h e).2.1 r).2.2.1, (doneE t h e).2.2 ++ (goneE (doneE t h e).1 (doneE t h e).2.1 r).2.2.2)
theorem gone_both {es : List Evt} : ∀ {t h : List Str}, Both t h → Both (goneE t h es).1 (goneE t h es).2.1 := by
  induction es with
  | nil => exact fun b => b
  | cons e r ih => exact fun b => ih (done_both b e)
theorem gone_perm {es : List Evt} : ∀ {t h : List Str}, (goneE t h es).1.Perm t ∧ (goneE t h es).2.1.Perm h := by
  induction es with
  | nil => exact ⟨.refl _, .refl _⟩
  | cons e r ih => exact fun {t h} => ⟨(ih (t := (doneE t h e).1) (h := (doneE t h e).2.1)).1.trans (done_perm t h e).1, (ih (t := (doneE t h e).1) (h := (doneE t h e).2.1)).2.trans (done_perm t h e).2⟩
/-- what events are handed in as -/
structure Evs (st : Stt) (x : W) (ws : List W) : Prop where
  it : itemsOf st x = some ws
  ok : ∀ ex : Stt, okOf x ws (st ++ ex)
  ty : tyW st x = some "list"
theorem Evs.lst {ws : List W} : Evs st (.lst ws) ws := ⟨rfl, fun _ => trivial, rfl⟩
theorem gone_loop {okx : Stt → Prop} {p x : Option W} (hok : ∀ ex : Stt, okx (st ++ ex)) : ∀ (es : List Evt) (t h said wr : List Str) (a m : Option W), Both t h → (∀ e ∈ es, e.ok t) → said.length + es.length ≤ 10000 → wr.length + 2 * es.length ≤ 10000 →
    ∃ a' m', forW okx (gmName 6) (sSeq (sAsg (eCall m_done (aCons (eVar 2) (aCons (eVar 3) (aCons (eVar 6) aNil)))) (gmTup 3 (gmCons 2 (gmCons 3 (gmCons 7 gmNil)))))
    (sSeq (sDrop (eBM (eVar 4) (aCons (eOp fIx (eVar 2) (eC (.int 0))) aNil) (mUp fAppend)))
    (sDrop (eBM (eVar 5) (aCons (eVar 7) aNil) (mUp fExtend))))) (es.map Evt.w) [p, x, some (wS t), some (wS h), some (.loc st.length), some (.loc (st.length + 1)), a, m] (st ++ [some (.lst (said.map .str)), some (.lst (wr.map .str))]) =
    .nx [p, x, some (wS (goneE t h es).1), some (wS (goneE t h es).2.1), some (.loc st.length), some (.loc (st.length + 1)), a', m'] (st ++ [some (.lst ((said ++ (goneE t h es).2.2.1).map .str)), some (.lst ((wr ++ (goneE t h es).2.2.2).map .str))])
  | [], t, h, said, wr, a, m, _, _, _, _ => ⟨a, m, by rw [List.map_nil, forW_nil (hok _)]; simp [goneE]⟩
  | e :: r, t, h, said, wr, a, m, b, he, l1, l2 => by
    have b2 := done_both b e
    have hd := done_ok (st := st ++ [some (.lst (said.map .str)), some (.lst (wr.map .str))]) b (he e List.mem_cons_self)
    have hm := done_more t h e
    obtain ⟨c, rr, hc⟩ := row_head b2.row.pos
    have l3 : said.length < 100000 := by simp at l1; omega
    have l4 : wr.length + (doneE t h e).2.2.length ≤ 100000 := by simp at l2; omega
    obtain ⟨a2, m2, ih⟩ := gone_loop (p := p) (x := x) hok r (doneE t h e).1 (doneE t h e).2.1 (said ++ [c]) (wr ++ (doneE t h e).2.2) (some e.w) (some (wL (doneE t h e).2.2)) b2
      (fun u hu => Evt.ok_perm (done_perm t h e).1 (he u (List.mem_cons_of_mem _ hu))) (by simp at l1 ⊢; omega) (by simp at l2 ⊢; omega)
    refine ⟨a2, m2, ?_⟩
    have hx : ∀ s : Stt, fIx s (wS (doneE t h e).1) (.int 0) = some (.str c) := fun s => by rw [hc]; simp
    rw [List.map_cons, forW_nx (ρ2 := [p, x, some (wS (doneE t h e).1), some (wS (doneE t h e).2.1), some (.loc st.length), some (.loc (st.length + 1)), some e.w, some (wL (doneE t h e).2.2)]) (st2 := st ++ [some (.lst ((said ++ [c]).map .str)), some (.lst ((wr ++ (doneE t h e).2.2).map .str))]) (hok _) rfl (by simp [hd, hx, lstX, mUp, fAppend, fExtend, l3, l4]), ih]
    simp [goneE, hc]
theorem gone_ok {t h : List Str} {es : List Evt} {x : W} (b : Both t h) (hx : Evs st x (es.map Evt.w)) (he : ∀ e ∈ es, e.ok t) (hl : es.length ≤ 1000) :
    m_gone [.tup [wS t, wS h], x] st = .ok (.tup [.tup [wS (goneE t h es).1, wS (goneE t h es).2.1], wL (goneE t h es).2.2.1, wL (goneE t h es).2.2.2]) st := by
  obtain ⟨a, m, hg⟩ := gone_loop (st := st) (p := some (.tup [wS t, wS h])) (x := some x) hx.ok es t h [] [] none none b he (by simp; omega) (by simp; omega)
  refine frz_new (ex := [some (.lst ((goneE t h es).2.2.1.map .str)), some (.lst ((goneE t h es).2.2.2.map .str))]) (w := .tup [.tup [wS (goneE t h es).1, wS (goneE t h es).2.1], .loc st.length, .loc (st.length + 1)]) ?_ ?_
  · have hit : itemsOf (st ++ [some (.lst []), some (.lst [])]) x = some (es.map Evt.w) := by
      have h1 := hx.it
      have h2 := hx.ok [some (.lst []), some (.lst [])]
      cases x with
      | loc n => simp [okOf] at h2; simp [h2]
      | lst ws => exact h1
      | scr ws => exact h1
      | tup ws => exact h1
      | str z => exact h1
      | _ => cases h1
    simp only [List.map_nil, List.nil_append] at hg
    simp [r_gone, entry, hit, hg]
  · have f1 : fzW st.length (st ++ [some (.lst ((goneE t h es).2.2.1.map .str)), some (.lst ((goneE t h es).2.2.2.map .str))]) (.loc st.length) = some (wL (goneE t h es).2.2.1) := by
      rw [fzW, if_neg (Nat.lt_irrefl _), get_p0]
      dsimp only
      rw [if_pos (nls_ok _ _ (nl_strs _))]
    have f2 : fzW st.length (st ++ [some (.lst ((goneE t h es).2.2.1.map .str)), some (.lst ((goneE t h es).2.2.2.map .str))]) (.loc (st.length + 1)) = some (wL (goneE t h es).2.2.2) := by
      rw [fzW, if_neg (by omega), get_p1]
      dsimp only
      rw [if_pos (nls_ok _ _ (nl_strs _))]
    simp [f1, f2]
theorem is_event_ok {t : List Str} {e : Evt} (r : Row t) (he : e.ok t) : m_is_event_of [wS t, .int (t.length : Int), e.w] st = .ok (.bl true) st := by
  refine frz_pure ?_ rfl
  cases e with
  | nm x =>
    have hx : x ∈ t := he
    simp [r_is_event_of, entry, Evt.w, is_letter_ok (r.ltr x hx), in_row, hx]
  | lo p => have hp : p < t.length := he; simp [r_is_event_of, entry, Evt.w, is_place_ok, hp]
  | pl p => have hp : p < t.length := he; simp [r_is_event_of, entry, Evt.w, is_place_ok, hp]
  | tw p => have hp : p < t.length := he; simp [r_is_event_of, entry, Evt.w, is_place_ok, hp]
  | as p q =>
    obtain ⟨hp, hq, hpq⟩ : p < t.length ∧ q < t.length ∧ p ≠ q := he
    have hs : fSl st (.tup [.str "as", .int (p : Int), .int (q : Int)]) (some 1) none = some (.tup [.int (p : Int), .int (q : Int)]) := by
      show some (W.tup (cutW _ (some ((1 : Nat) : Int)) none)) = _
      rw [cut_drop]; rfl
    have hc : ∀ ρ : Ev, 4 = ρ.length → ρ[1]? = some (some (.int (t.length : Int))) → lcW (fun _ => True) (gmName 3) tmYes (eCall m_is_place (aCons (eVar 3) (aCons (eVar 1) aNil))) ρ [.int (p : Int), .int (q : Int)] st = .ok (List.replicate 2 (.bl true)) st := fun ρ hρ h1 => by
      refine lcW_true trivial _ fun w hw => ?_
      simp only [List.mem_cons, List.not_mem_nil, or_false] at hw
      refine ⟨_, rfl, ?_⟩
      have h3 : (ρ.set 3 (some w))[3]? = some (some w) := List.getElem?_set_self (by omega)
      have h4 : (ρ.set 3 (some w))[1]? = some (some (.int (t.length : Int))) := by rw [List.getElem?_set_ne (by decide)]; exact h1
      rcases hw with rfl | rfl
      · simp [h3, h1, is_place_ok, hp]
      · simp [h3, h1, is_place_ok, hq]
    have ha : fAll st [W.lst [W.bl true, W.bl true]] = some (.bl true) := fAll_rep 2
    have hne : ((p : Int) != (q : Int)) = true := by simp; omega
    simp [r_is_event_of, entry, Evt.w, hs, hc, ha, hne]
theorem are_events_ok {t h : List Str} {es : List Evt} {x : W} (b : Both t h) (hx : Evs st x (es.map Evt.w)) (he : ∀ e ∈ es, e.ok t) (hl : es.length ≤ 1000) : m_are_events [.tup [wS t, wS h], x] st = .ok (.bl true) st := by
  refine frz_pure ?_ rfl
  have hok : okOf x (es.map Evt.w) st := by simpa using hx.ok []
  have hc : ∀ ρ : Ev, 3 = ρ.length → ρ[0]? = some (some (.tup [wS t, wS h])) → lcW (okOf x (es.map Evt.w)) (gmName 2) tmYes (eCall m_is_event_of (aCons (eOp fIx (eVar 0) (eC (.int 0))) (aCons (eFn fLen (aCons (eOp fIx (eVar 0) (eC (.int 0))) aNil)) (aCons (eVar 2) aNil)))) ρ (es.map Evt.w) st = .ok (List.replicate es.length (.bl true)) st := fun ρ hρ h0 => by
    rw [show es.length = (es.map Evt.w).length by simp]
    refine lcW_true hok _ fun w hw => ?_
    obtain ⟨e, hm, rfl⟩ := List.mem_map.mp hw
    refine ⟨_, rfl, ?_⟩
    have h3 : (ρ.set 2 (some e.w))[2]? = some (some e.w) := List.getElem?_set_self (by omega)
    have h4 : (ρ.set 2 (some e.w))[0]? = some (some (.tup [wS t, wS h])) := by rw [List.getElem?_set_ne (by decide)]; exact h0
    simp [h3, h4, is_event_ok b.row (he e hm)]
  have l2 : es.length ≤ 100000 := by omega
  simp [r_are_events, entry, hx.ty, hx.it, hc, l2]
theorem need_events_ok {t h : List Str} {es : List Evt} {x : W} (b : Both t h) (hx : Evs st x (es.map Evt.w)) (he : ∀ e ∈ es, e.ok t) (hl : es.length ≤ 1000) : m_need_events [.tup [wS t, wS h], x] st = .ok .non st := by
  refine frz_pure ?_ rfl
  simp [r_need_events, entry, are_events_ok b hx he hl]
/-- what go tells -/
def goW (t h : List Str) (es : List Evt) : W := .tup [.tup [wS (goneE t h es).1, wS (goneE t h es).2.1], wL (goneE t h es).2.2.1, wL (goneE t h es).2.2.2]
theorem go_ok {t h : List Str} {es : List Evt} {x : W} (b : Both t h) (hx : Evs st x (es.map Evt.w)) (he : ∀ e ∈ es, e.ok t) (hl : es.length ≤ 1000) : m_go [.tup [wS t, wS h], x] st = .ok (goW t h es) st := by
  refine frz_pure ?_ (by simp [goW, nlW, nlWs, nl_strs])
  simp [r_go, entry, need_pair_ok b, need_events_ok b hx he hl, gone_ok b hx he hl, goW]
end
end Lw
end
section
set_option Elab.async false
set_option linter.all false
set_option maxRecDepth 100000
set_option maxHeartbeats 1000000
open PySem PySem.Spec PyProof.Rows L2
namespace Lw
open Sim
section
variable {st : Stt}
theorem need_letters_ok {t text : List Str} (r : Row t) (hx : ∀ x ∈ text, x ∈ t) (hl : text.length ≤ 1000) : m_need_letters [wS t, wL text] st = .ok .non st := by
  refine frz_pure ?_ (by rw [nlW])
  have hc : ∀ ρ : Ev, 3 = ρ.length → ρ[0]? = some (some (wS t)) → lcW (fun _ => True) (gmName 2) tmYes (emAnd (eCall m_is_letter (aCons (eVar 2) aNil)) (eOp (fIn false) (eVar 2) (eVar 0))) ρ (text.map .str) st = .ok (List.replicate text.length (.bl true)) st := fun ρ hρ h0 => by
    rw [show text.length = (text.map W.str).length by simp]
    refine lcW_true trivial _ fun w hw => ?_
    obtain ⟨x, hm, rfl⟩ := List.mem_map.mp hw
    have h2 : (ρ.set 2 (some (.str x)))[2]? = some (some (.str x)) := List.getElem?_set_self (by omega)
    refine ⟨_, rfl, ?_⟩
    simp [h2, h0, is_letter_ok (r.ltr x (hx x hm)), in_row, hx x hm]
  have l1 : text.length ≤ 100000 := by omega
  simp [r_need_letters, entry, hc, l1]
theorem in_loc {n : Nat} {x : Str} {xs : List Str} (h : st[n]? = some (some (.lst (xs.map .str)))) : fIn false st (.str x) (.loc n) = some (.bl (decide (x ∈ xs))) := by
  unfold fIn
  simp [h, flat_strs, flatW, inV_strs]
theorem notin_loc {n : Nat} {x : Str} {xs : List Str} (h : st[n]? = some (some (.lst (xs.map .str)))) : fIn true st (.str x) (.loc n) = some (.bl (!decide (x ∈ xs))) := by
  unfold fIn
  simp [h, flat_strs, flatW, inV_strs]
theorem filter_strs' (f : Str → Bool) (p : W → Bool) (hp : ∀ x, p (.str x) = f x) : ∀ xs : List Str, ((xs.map W.str).filter p).map (fun w => w) = (xs.filter f).map .str
  | [] => rfl
  | a :: r => by
    have ih := filter_strs' f p hp r
    rw [List.map_cons, List.filter_cons, List.filter_cons, hp]
    cases f a <;> simp_all
/-- [one for one in row if one not in x] -/
theorem not_in_list {ok : Stt → Prop} {a b n : Nat} {c : W} {row xs : List Str} {ρ : Ev} (hk : ok st) (hn : n < ρ.length) (hb : b ≠ n) (h1 : ρ[b]? = some (some c)) (hc : ∀ x : Str, fIn true st (.str x) c = some (.bl (!decide (x ∈ xs)))) :
    lcW ok (gmName n) (tmV (eOp (fIn true) (eVar n) (eVar b))) (eVar n) ρ (row.map .str) st = .ok ((row.filter fun y => !decide (y ∈ xs)).map .str) st := by
  rw [lcW_pure (p := fun w => match w with | .str y => !decide (y ∈ xs) | _ => false) (f := fun w => w) hk, filter_strs' (fun y => !decide (y ∈ xs)) _ fun _ => rfl]
  intro w hw
  obtain ⟨y, hy, rfl⟩ := List.mem_map.mp hw
  have h3 : (ρ.set n (some (.str y)))[n]? = some (some (.str y)) := List.getElem?_set_self hn
  have h4 : (ρ.set n (some (.str y)))[b]? = some (some c) := by rw [List.getElem?_set_ne (fun z => hb z.symm)]; exact h1
  refine ⟨_, rfl, ?_, fun _ => ?_⟩
  · simp only [ev_tv, ev_op, ev_var, h3, h4, opK_ok, opK2_ok, hc, optR_some, tvK_ok, tvW_bl]
  · simp only [ev_var, h3]
end
end Lw
end
section
set_option Elab.async false
set_option linter.all false
set_option maxRecDepth 100000
set_option maxHeartbeats 1000000
open PySem PySem.Spec PyProof.Rows L2
namespace Lw
open Sim
/-! equality of texts' rows and lists -/
theorem toDs_strs {st : Stt} : ∀ xs : List Str, toDs st (xs.map .str) = some (xs.map PyData.str)
  | [] => by rw [List.map_nil, toDs]; rfl
  | a :: r => by rw [List.map_cons, toDs, toD, toDs_strs r]; rfl
theorem eqvAll_strs : ∀ xs ys : List Str, PyData.eqvAll (xs.map PyData.str) (ys.map PyData.str) = decide (xs = ys)
  | [], [] => by simp [PyData.eqvAll]
  | [], b :: ys => by simp [PyData.eqvAll]
  | a :: xs, [] => by simp [PyData.eqvAll]
  | a :: xs, b :: ys => by
    rw [List.map_cons, List.map_cons, PyData.eqvAll, PyData.eqv, eqvAll_strs xs ys]
    by_cases h : a = b
    · subst h; simp
    · simp [h]
theorem sh_strsT {st : Stt} {xs : List Str} (h : ∀ x ∈ xs, Ltr x) : SeqAt.shaped (.tuple (xs.map PyData.str)) = true := by
  obtain ⟨d, h1, _, h3, h4, _⟩ := dat_toD 64 (wS xs) (datS (n := 63) h)
  have := h1 st
  rw [toD, toDs_strs] at this
  cases this
  exact shaped_of h3 h4
theorem sh_strsL {st : Stt} {xs : List Str} (h : ∀ x ∈ xs, Ltr x) : SeqAt.shaped (.list (xs.map PyData.str)) = true := by
  obtain ⟨d, h1, _, h3, h4, _⟩ := dat_toD 64 (wL xs) (datL (n := 63) h)
  have := h1 st
  rw [toD, toDs_strs] at this
  cases this
  exact shaped_of h3 h4
theorem eq_rows {st : Stt} {xs ys : List Str} (h : ∀ x ∈ xs, Ltr x) (k : ∀ x ∈ ys, Ltr x) : fEq st (wS xs) (wS ys) = some (.bl (decide (xs = ys))) := by
  unfold fEq
  rw [toD, toD, toDs_strs, toDs_strs]
  dsimp only [Option.map_some]
  rw [if_pos ⟨sh_strsT (st := st) h, sh_strsT (st := st) k⟩, PyData.eqv, eqvAll_strs]
theorem ne_rows {st : Stt} {xs ys : List Str} (h : ∀ x ∈ xs, Ltr x) (k : ∀ x ∈ ys, Ltr x) : fNe st (wS xs) (wS ys) = some (.bl (!decide (xs = ys))) := by
  unfold fNe
  rw [toD, toD, toDs_strs, toDs_strs]
  dsimp only [Option.map_some]
  rw [if_pos ⟨sh_strsT (st := st) h, sh_strsT (st := st) k⟩, PyData.eqv, eqvAll_strs]
theorem eq_lists {st : Stt} {xs ys : List Str} (h : ∀ x ∈ xs, Ltr x) (k : ∀ x ∈ ys, Ltr x) : fEq st (wL xs) (wL ys) = some (.bl (decide (xs = ys))) := by
  unfold fEq
  rw [toD, toD, toDs_strs, toDs_strs]
  dsimp only [Option.map_some]
  rw [if_pos ⟨sh_strsL (st := st) h, sh_strsL (st := st) k⟩, PyData.eqv, eqvAll_strs]
theorem ne_lists {st : Stt} {xs ys : List Str} (h : ∀ x ∈ xs, Ltr x) (k : ∀ x ∈ ys, Ltr x) : fNe st (wL xs) (wL ys) = some (.bl (!decide (xs = ys))) := by
  unfold fNe
  rw [toD, toD, toDs_strs, toDs_strs]
  dsimp only [Option.map_some]
  rw [if_pos ⟨sh_strsL (st := st) h, sh_strsL (st := st) k⟩, PyData.eqv, eqvAll_strs]
theorem ne_nilL {st : Stt} {ws : List W} (h : datWs 63 ws = true) : fNe st (.lst ws) (.lst []) = some (.bl (!ws.isEmpty)) := by
  obtain ⟨d, h1, _, h3, h4, _⟩ := dat_toD 64 (.lst ws) (by rw [datW, h]; rfl)
  obtain ⟨ds, k1, _⟩ := dats_toD 63 ws h
  have e := h1 st
  rw [toD, k1 st] at e
  cases e
  unfold fNe
  rw [h1 st]
  rw [toD, toDs]
  dsimp only [Option.map_some]
  rw [if_pos ⟨shaped_of h3 h4, shaped_of rfl (by decide)⟩, PyData.eqv]
  cases ws with
  | nil => have := k1 st; rw [toDs] at this; cases this; rfl
  | cons w r =>
    have := k1 st
    rw [toDs] at this
    cases e1 : toD st w <;> rw [e1] at this
    · cases this
    · cases e2 : toDs st r <;> rw [e2] at this <;> cases this
      simp [PyData.eqvAll]
theorem eq_nilL {st : Stt} {ws : List W} (h : datWs 63 ws = true) : fEq st (.lst ws) (.lst []) = some (.bl ws.isEmpty) := by
  have := ne_nilL (st := st) h
  unfold fNe at this
  unfold fEq
  split at this
  · split at this
    · rename_i h1 h2 hs
      rw [if_pos hs]
      have := Option.some.inj this
      injection this with this
      congr 2
      cases hq : PyData.eqv _ _ <;> rw [hq] at this <;> simpa using this.symm
    · cases this
  · cases this
/-! _law_alike -/
def flat (w : W) : Prop := w = .non ∨ (∃ b, w = .bl b) ∨ (∃ i, w = .int i) ∨ ∃ x, w = .str x ∧ PyData.strOk x = true
def alk (st : Stt) : Nat → W → W → Prop
  | 0, a, b => a = b ∧ flat a
  | n + 1, a, b => (a = b ∧ flat a) ∨ ∃ xs ys : List W, ((a = .tup xs ∧ b = .tup ys) ∨ (lstX st a = some xs ∧ lstX st b = some ys)) ∧ xs.length = ys.length ∧ xs.length ≤ 100000 ∧ ∀ (k : Nat) (x y : W), xs[k]? = some x → ys[k]? = some y → alk st n x y
theorem lx_facts {st : Stt} {a : W} {xs : List W} (h : lstX st a = some xs) : tyW st a = some "list" ∧ lenOf st a = some xs.length ∧ ∀ i, fIx st a (.int i) = atI xs i := by
  unfold lstX at h
  split at h
  · cases h; exact ⟨rfl, rfl, fun _ => rfl⟩
  · rename_i n
    split at h
    · rename_i ws e
      cases h
      refine ⟨?_, by rw [len_loc, e], fun i => by rw [ix_loc', sq_loc, e]⟩
      simp [tyW, e]
    · cases h
  · cases h
theorem ka1 : kitAnyB "int" ["list", "tuple"] = some false := by decide +kernel
theorem ka2 : kitAnyB "str" ["list", "tuple"] = some false := by decide +kernel
theorem ka3 : kitAnyB "bool" ["list", "tuple"] = some false := by decide +kernel
theorem ka4 : kitAnyB "NoneType" ["list", "tuple"] = some false := by decide +kernel
theorem ka5 : kitAnyB "list" ["list", "tuple"] = some true := by decide +kernel
theorem ka6 : kitAnyB "tuple" ["list", "tuple"] = some true := by decide +kernel
theorem kb1 : kitB "bool" "bool" = some true := by decide +kernel
theorem kb2 : kitB "str" "bool" = some false := by decide +kernel
theorem kb3 : kitB "list" "list" = some true := by decide +kernel
theorem kb4 : kitB "tuple" "list" = some false := by decide +kernel
theorem ty_bl {st : Stt} (b : Bool) : tyW st (.bl b) = some "bool" := rfl
theorem ty_non {st : Stt} : tyW st .non = some "NoneType" := rfl
theorem ne_bl {st : Stt} (a : Bool) : fNe st (.bl a) (.bl a) = some (.bl false) := fNe_same (by rw [datW])
theorem eq_bl {st : Stt} (a : Bool) : fEq st (.bl a) (.bl a) = some (.bl true) := fEq_same (by rw [datW])
theorem alk_bl {st : Stt} {n : Nat} (b : Bool) : alk st n (.bl b) (.bl b) := by cases n <;> simp [alk, flat]
theorem alk_int {st : Stt} {n : Nat} (b : Int) : alk st n (.int b) (.int b) := by cases n <;> simp [alk, flat]
theorem alk_str {st : Stt} {n : Nat} {x : Str} (h : Ltr x) : alk st n (.str x) (.str x) := by cases n <;> simp [alk, flat, h.ok]
theorem alk_same {st : Stt} {n : Nat} {xs ys : List W} {a b : W} (hab : (a = .tup xs ∧ b = .tup ys) ∨ (lstX st a = some xs ∧ lstX st b = some ys)) (e : xs = ys) (hl : xs.length ≤ 100000) (h : ∀ x ∈ xs, alk st n x x) : alk st (n + 1) a b := by
  subst e
  refine .inr ⟨xs, xs, hab, rfl, hl, fun k x y h1 h2 => ?_⟩
  rw [h1] at h2
  cases h2
  exact h x (List.mem_of_getElem? h1)
theorem alk_wS {st : Stt} {n : Nat} {xs : List Str} (h : ∀ x ∈ xs, Ltr x) (hl : xs.length ≤ 100000) : alk st (n + 1) (wS xs) (wS xs) :=
  alk_same (.inl ⟨rfl, rfl⟩) rfl (by simpa using hl) fun w hw => by obtain ⟨x, hx, rfl⟩ := List.mem_map.mp hw; exact alk_str (h x hx)
theorem alk_strs {st : Stt} {n : Nat} {xs : List Str} {a b : W} (h1 : lstX st a = some (xs.map .str)) (h2 : lstX st b = some (xs.map .str)) (h : ∀ x ∈ xs, Ltr x) (hl : xs.length ≤ 100000) : alk st (n + 1) a b :=
  alk_same (.inr ⟨h1, h2⟩) rfl (by simpa using hl) fun w hw => by obtain ⟨x, hx, rfl⟩ := List.mem_map.mp hw; exact alk_str (h x hx)
theorem alk_wL {st : Stt} {n : Nat} {xs : List Str} (h : ∀ x ∈ xs, Ltr x) (hl : xs.length ≤ 100000) : alk st (n + 1) (wL xs) (wL xs) := alk_strs rfl rfl h hl
theorem alk_ints {st : Stt} {n : Nat} {ks : List Nat} {a b : W} (h1 : lstX st a = some (ks.map fun (k : Nat) => W.int (k : Int))) (h2 : lstX st b = some (ks.map fun (k : Nat) => W.int (k : Int))) (hl : ks.length ≤ 100000) : alk st (n + 1) a b :=
  alk_same (.inr ⟨h1, h2⟩) rfl (by simpa using hl) fun w hw => by obtain ⟨x, hx, rfl⟩ := List.mem_map.mp hw; exact alk_int _
theorem alk_tup {st : Stt} {n : Nat} {xs ys : List W} (hl : xs.length = ys.length) (h1 : xs.length ≤ 100000) (h : ∀ (k : Nat) (x y : W), xs[k]? = some x → ys[k]? = some y → alk st n x y) : alk st (n + 1) (.tup xs) (.tup ys) := .inr ⟨xs, ys, .inl ⟨rfl, rfl⟩, hl, h1, h⟩
theorem alk_two {st : Stt} {n : Nat} {a b c d : W} (h : alk st n a c) (k : alk st n b d) : alk st (n + 1) (.tup [a, b]) (.tup [c, d]) := alk_tup rfl (by simp) fun i x y h1 h2 => by
  match i with
  | 0 => cases h1; cases h2; exact h
  | 1 => cases h1; cases h2; exact k
  | i + 2 => cases h1
theorem alk_three {st : Stt} {n : Nat} {a b c d e f : W} (h : alk st n a d) (k : alk st n b e) (l : alk st n c f) : alk st (n + 1) (.tup [a, b, c]) (.tup [d, e, f]) := alk_tup rfl (by simp) fun i x y h1 h2 => by
  match i with
  | 0 => cases h1; cases h2; exact h
  | 1 => cases h1; cases h2; exact k
  | 2 => cases h1; cases h2; exact l
  | i + 3 => cases h1
theorem alk_lst2 {st : Stt} {n : Nat} {a b c d : W} (h : alk st n a c) (k : alk st n b d) : alk st (n + 1) (.lst [a, b]) (.lst [c, d]) := .inr ⟨[a, b], [c, d], .inr ⟨rfl, rfl⟩, rfl, by simp, fun i x y h1 h2 => by
  match i with
  | 0 => cases h1; cases h2; exact h
  | 1 => cases h1; cases h2; exact k
  | i + 2 => cases h1⟩
end Lw
end
section
set_option Elab.async false
set_option linter.all false
set_option maxRecDepth 100000
set_option maxHeartbeats 1000000
open PySem PySem.Spec PyProof.Rows L2
namespace Lw
open Sim
theorem kb5 : kitB "list" "tuple" = some false := by decide +kernel
theorem alike_flat {st : Stt} {mr : FM} {a : W} (h : flat a) : frz (r__law_alike mr) [a, a] st = .ok (.bl true) st := by
  refine frz_pure ?_ (by rw [nlW])
  rcases h with rfl | ⟨b, rfl⟩ | ⟨i, rfl⟩ | ⟨x, rfl, hx⟩
  · simp [r__law_alike, entry, ty_non, ka4, fIsN]
  · simp [r__law_alike, entry, ty_bl, ka3, fIsN, kb1, eq_bl]
  · simp [r__law_alike, entry, ka1, fIsN, eq_bl]
  · have := fEq_str (st := st) x x hx hx
    simp [r__law_alike, entry, ka2, kb2, fIsN, eq_bl, this]
theorem alike_q : ∀ (n : Nat) (a b : W) (st : Stt), alk st n a b → q__law_alike (n + 1) [a, b] st = .ok (.bl true) st
  | 0, a, b, st, h => by obtain ⟨rfl, h⟩ := h; exact alike_flat h
  | n + 1, a, b, st, h => by
    rcases h with ⟨rfl, h⟩ | ⟨xs, ys, hab, hl, hk, h⟩
    · exact alike_flat h
    · have fa : (∀ i, fIx st a (.int i) = atI xs i) ∧ lenOf st a = some xs.length := by
        rcases hab with ⟨rfl, rfl⟩ | ⟨h1, h2⟩
        · exact ⟨fun _ => rfl, rfl⟩
        · exact ⟨(lx_facts h1).2.2, (lx_facts h1).2.1⟩
      have fb : (∀ i, fIx st b (.int i) = atI ys i) ∧ lenOf st b = some ys.length := by
        rcases hab with ⟨rfl, rfl⟩ | ⟨h1, h2⟩
        · exact ⟨fun _ => rfl, rfl⟩
        · exact ⟨(lx_facts h2).2.2, (lx_facts h2).2.1⟩
      have hc : ∀ ρ : Ev, 3 = ρ.length → ρ[0]? = some (some a) → ρ[1]? = some (some b) → lcW (fun _ => True) (gmName 2) tmYes (eCall (q__law_alike (n + 1)) (aCons (eOp fIx (eVar 0) (eVar 2)) (aCons (eOp fIx (eVar 1) (eVar 2)) aNil))) ρ (rngW 0 ys.length) st = .ok (List.replicate ys.length (.bl true)) st := fun ρ hρ h0 h1 => by
        rw [show ys.length = (rngW 0 ys.length).length by simp]
        rw [show (rngW 0 ((rngW 0 ys.length).length)) = rngW 0 ys.length by simp]
        refine lcW_true trivial _ fun w hw => ?_
        obtain ⟨k, hkm, rfl⟩ := List.mem_map.mp hw
        have hk := List.mem_range.mp hkm
        rw [Int.zero_add]
        have e2 : (ρ.set 2 (some (.int (k : Int))))[2]? = some (some (.int (k : Int))) := List.getElem?_set_self (by omega)
        have gx : xs[k]? = some xs[k] := List.getElem?_eq_getElem (by omega)
        have gy : ys[k]? = some ys[k] := List.getElem?_eq_getElem hk
        have ih := alike_q n _ _ st (h k _ _ gx gy)
        refine ⟨_, rfl, ?_⟩
        have f1 : fIx st a (.int (k : Int)) = some xs[k] := by rw [fa.1, Sim.atI_nat, gx]
        have f2 : fIx st b (.int (k : Int)) = some ys[k] := by rw [fb.1, Sim.atI_nat, gy]
        simp only [ev_call, ev_cons, ev_nil, ev_op, ev_var, e2, List.getElem?_set_ne (show (2 : Nat) ≠ 0 by decide), List.getElem?_set_ne (show (2 : Nat) ≠ 1 by decide), h0, h1, opK_ok, opK2_ok, f1, f2, optR_some, consK_ok, consK2_ok, callK_ok, ih]
      have r1 : ∀ s, rng1W [.int (ys.length : Int)] s = .ok ⟨rngW 0 ys.length, fun _ => True⟩ s := fun s => rng1_nat (by omega)
      have l2 : ys.length ≤ 100000 := by omega
      show frz (r__law_alike (q__law_alike (n + 1))) [a, b] st = _
      refine frz_pure ?_ (by rw [nlW])
      have hne : ((xs.length : Int) != (ys.length : Int)) = false := by rw [hl]; simp
      rcases hab with ⟨rfl, rfl⟩ | ⟨h1, h2⟩
      · have fa2 := fa.2
        have fb2 := fb.2
        simp [r__law_alike, entry, ka6, kb4, k_tup, ne_bl, hl, r1, l2, hc]
      · have t1 := (lx_facts h1).1
        have t2 := (lx_facts h2).1
        simp [r__law_alike, entry, ka5, kb3, kb5, ne_bl, t1, t2, fa.2, fb.2, hl, r1, l2, hc]
theorem alike_ok {a b : W} {st : Stt} (h : alk st 5 a b) : m__law_alike [a, b] st = .ok (.bl true) st := alike_q 5 a b st h
end Lw
end
section
set_option Elab.async false
set_option linter.all false
set_option maxRecDepth 100000
set_option maxHeartbeats 1000000
open PySem PySem.Spec PyProof.Rows L2
namespace Lw
open Sim
abbrev nW (ks : List Nat) : List W := ks.map fun (k : Nat) => W.int (k : Int)
/-! plain laws -/
def placesE : List Str → List Str → List Nat
  | _, [] => []
  | row, x :: r => row.idxOf x :: placesE (front row (row.idxOf x)) r
def saidE {α : Type} : List α → List Nat → List α
  | _, [] => []
  | row, p :: r => row[p]?.toList ++ saidE (front row p) r
def rowsE : List Str → List Str → List (List Str)
  | row, [] => [row]
  | row, x :: r => row :: rowsE (front row (row.idxOf x)) r
theorem places_len : ∀ (xs row : List Str), (placesE row xs).length = xs.length
  | [], _ => rfl
  | x :: r, row => by rw [placesE, List.length_cons, places_len, List.length_cons]
theorem rows_len : ∀ (xs row : List Str), (rowsE row xs).length = xs.length + 1
  | [], _ => rfl
  | x :: r, row => by rw [rowsE, List.length_cons, rows_len, List.length_cons]
theorem places_lt : ∀ (xs row : List Str), (∀ x ∈ xs, x ∈ row) → ∀ p ∈ placesE row xs, p < row.length
  | [], _, _ => fun p hp => absurd hp List.not_mem_nil
  | x :: r, row, h => fun p hp => by
    rw [placesE] at hp
    rcases List.mem_cons.mp hp with rfl | hp
    · exact List.idxOf_lt_length_of_mem (h x List.mem_cons_self)
    · have := places_lt r (front row (row.idxOf x)) (fun y hy => front_mem.mpr (h y (List.mem_cons_of_mem _ hy))) p hp
      rwa [front_length] at this
theorem said_places : ∀ (xs row : List Str), (∀ x ∈ xs, x ∈ row) → saidE row (placesE row xs) = xs
  | [], _, _ => rfl
  | x :: r, row, h => by
    have hx := h x List.mem_cons_self
    have hi := List.idxOf_lt_length_of_mem hx
    rw [placesE, saidE, List.getElem?_eq_getElem hi, List.getElem_idxOf hi, said_places r _ fun y hy => front_mem.mpr (h y (List.mem_cons_of_mem _ hy))]
    rfl
theorem said_map {α β : Type} (f : α → β) : ∀ (ps : List Nat) (row : List α), saidE (row.map f) ps = (saidE row ps).map f
  | [], _ => rfl
  | p :: r, row => by
    rw [saidE, saidE, front_map, said_map f r, List.map_append, List.getElem?_map]
    cases row[p]? <;> rfl
theorem said_len {α : Type} : ∀ (ps : List Nat) (row : List α), (∀ p ∈ ps, p < row.length) → (saidE row ps).length = ps.length
  | [], _, _ => rfl
  | p :: r, row, h => by
    rw [saidE, List.length_append, said_len r (front row p) (fun q hq => by rw [front_length]; exact h q (List.mem_cons_of_mem _ hq)), List.getElem?_eq_getElem (h p List.mem_cons_self)]
    simp; omega
theorem said_sub : ∀ (ps : List Nat) (row : List Str), ∀ x ∈ saidE row ps, x ∈ row
  | [], _ => fun x hx => absurd hx List.not_mem_nil
  | p :: r, row => fun x hx => by
    rw [saidE] at hx
    rcases List.mem_append.mp hx with z | z
    · rw [Option.mem_toList] at z; exact List.mem_of_getElem? z
    · exact front_mem.mp (said_sub r (front row p) x z)
theorem places_said : ∀ (ps : List Nat) (row : List Str), row.Nodup → (∀ p ∈ ps, p < row.length) → placesE row (saidE row ps) = ps
  | [], _, _, _ => rfl
  | p :: r, row, hn, h => by
    have hp := h p List.mem_cons_self
    rw [saidE, List.getElem?_eq_getElem hp]
    show placesE row (row[p] :: saidE (front row p) r) = _
    rw [placesE, List.Nodup.idxOf_getElem hn p hp, places_said r (front row p) ((front_perm row p).nodup_iff.mpr hn) fun q hq => by rw [front_length]; exact h q (List.mem_cons_of_mem _ hq)]
theorem zero_iff : ∀ (xs : List Str) (a : Str) (rest : List Str) (k : Nat), (∀ x ∈ xs, x ∈ a :: rest) → k < xs.length → ((placesE (a :: rest) xs)[k]? = some 0 ↔ (a :: xs)[k]? = xs[k]?)
  | [], _, _, k, _, hk => absurd hk (Nat.not_lt_zero _)
  | x :: r, a, rest, 0, h, _ => by
    rw [placesE]
    simp only [List.getElem?_cons_zero, Option.some.injEq]
    rw [List.idxOf_cons]
    by_cases e : a = x
    · subst e; simp
    · have : (a == x) = false := beq_eq_false_iff_ne.mpr e
      simp [this, e]
  | x :: r, a, rest, k + 1, h, hk => by
    have hx := h x List.mem_cons_self
    rw [placesE, List.getElem?_cons_succ, List.getElem?_cons_succ, List.getElem?_cons_succ, front_idx hx]
    exact zero_iff r x _ k (fun y hy => by rw [← front_idx hx]; exact front_mem.mpr (h y (List.mem_cons_of_mem _ hy))) (by simpa using hk)
theorem gone_places : ∀ (ps : List Nat) (t h : List Str), (∀ p ∈ ps, p < t.length) → (goneE t h (ps.map .pl)).2.2.1 = saidE t ps ∧ (goneE t h (ps.map .pl)).2.2.2 = saidE h ps
  | [], _, _, _ => ⟨rfl, rfl⟩
  | p :: r, t, h, hp => by
    have ih := gone_places r (front t p) (front h p) fun q hq => by rw [front_length]; exact hp q (List.mem_cons_of_mem _ hq)
    have h1 := hp p List.mem_cons_self
    rw [List.map_cons]
    simp only [goneE, doneE]
    rw [ih.1, ih.2, saidE, saidE]
    refine ⟨?_, rfl⟩
    congr 1
    unfold front
    rw [List.getElem?_eq_getElem h1]
    rfl
/-! dicts of a row's letters -/
def kvE (line other : List Str) : List (Key × W) := (line.zip other).map fun p => (.inr p.1, .str p.2)
def ph (line other : List Str) (x : Str) : Str := (other[line.idxOf x]?).getD x
theorem merge_new : ∀ (kvs acc : List (Key × W)), ((acc ++ kvs).map (·.1)).Nodup → mergeW acc kvs = acc ++ kvs
  | [], acc, _ => by simp [mergeW]
  | (k, v) :: r, acc, h => by
    have hk : ∀ kv ∈ acc, kv.1 ≠ k := fun kv hm e => by
      rw [List.map_append, List.nodup_append] at h
      exact h.2.2 kv.1 (List.mem_map.mpr ⟨kv, hm, rfl⟩) k (by simp) e
    have e1 : putW acc k v = acc ++ [(k, v)] := by
      unfold putW
      rw [if_neg]
      intro z
      obtain ⟨kv, hm, hd⟩ := List.any_eq_true.mp z
      exact hk kv hm (of_decide_eq_true hd)
    have := merge_new r (acc ++ [(k, v)]) (by simpa using h)
    unfold mergeW at this ⊢
    rw [List.foldl_cons, e1, this]
    simp
theorem kv_keys : ∀ (line other : List Str), line.length = other.length → (kvE line other).map (·.1) = line.map Sum.inr
  | [], [], _ => rfl
  | [], _ :: _, h => by simp at h
  | _ :: _, [], h => by simp at h
  | a :: l, b :: o, h => by
    have := kv_keys l o (by simpa using h)
    unfold kvE at this ⊢
    rw [List.zip_cons_cons, List.map_cons, List.map_cons, this]
    rfl
theorem nodup_inr : ∀ {line : List Str}, line.Nodup → (line.map (Sum.inr : Str → Key)).Nodup
  | [], _ => List.nodup_nil
  | a :: l, h => by
    obtain ⟨h1, h2⟩ := List.nodup_cons.mp h
    refine List.nodup_cons.mpr ⟨fun z => ?_, nodup_inr h2⟩
    obtain ⟨b, hb, e⟩ := List.mem_map.mp z
    cases e
    exact h1 hb
theorem kv_merge {line other : List Str} (hn : line.Nodup) (hl : line.length = other.length) : mergeW [] (kvE line other) = kvE line other := by
  have := merge_new (kvE line other) [] (by rw [List.nil_append, kv_keys line other hl]; exact nodup_inr hn)
  simpa using this
theorem kv_val : ∀ (line other : List Str) (x : Str), line.length = other.length → x ∈ line → valW (kvE line other) (.inr x) = some (.str (ph line other x))
  | [], _, x, _, h => absurd h List.not_mem_nil
  | _ :: _, [], x, h, _ => by simp at h
  | a :: l, b :: o, x, hl, hx => by
    unfold valW kvE ph
    rw [List.zip_cons_cons, List.map_cons, List.find?_cons]
    by_cases e : a = x
    · subst e
      simp
    · have e1 : decide ((Sum.inr a : Key) = .inr x) = false := decide_eq_false fun z => e (by cases z; rfl)
      have hm : x ∈ l := (List.mem_cons.mp hx).resolve_left fun z => e z.symm
      have ih := kv_val l o x (by simpa using hl) hm
      unfold valW kvE ph at ih
      rw [e1]
      dsimp only
      rw [ih, List.idxOf_cons, beq_eq_false_iff_ne.mpr e]
      rfl
theorem ph_map : ∀ (line other : List Str), line.Nodup → line.length = other.length → other = line.map (ph line other)
  | line, other, hn, hl => by
    refine List.ext_getElem (by simp [hl]) fun k h1 h2 => ?_
    rw [List.getElem_map]
    unfold ph
    rw [List.Nodup.idxOf_getElem hn k (by simpa using h2), List.getElem?_eq_getElem h1]
    rfl
theorem prs_kv : ∀ (line other : List Str), prsOf ((line.zip other).map fun p => W.tup [.str p.1, .str p.2]) = some (kvE line other)
  | [], _ => rfl
  | _ :: _, [] => rfl
  | a :: l, b :: o => by
    rw [List.zip_cons_cons, List.map_cons, prsOf, prs_kv l o]
    rfl
theorem zip_rng : ∀ (line other : List Str), line.length = other.length → (line.zip other).map (fun p => W.tup [.str p.1, .str p.2]) = (List.range line.length).map fun k => W.tup [.str ((line[k]?).getD ""), .str ((other[k]?).getD "")]
  | [], [], _ => rfl
  | [], _ :: _, h => by simp at h
  | _ :: _, [], h => by simp at h
  | a :: l, b :: o, h => by
    rw [List.zip_cons_cons, List.map_cons, zip_rng l o (by simpa using h), List.length_cons, List.range_succ_eq_map, List.map_cons, List.map_map]
    rfl
end Lw
end
section
set_option Elab.async false
set_option linter.all false
set_option maxRecDepth 100000
set_option maxHeartbeats 1000000
open PySem PySem.Spec PyProof.Rows L2
namespace Lw
open Sim
theorem frz_same {m : FM} {ws : List W} {st st2 : Stt} {w w' : W} (h : m ws st = .ok w st2) (hl : st.length ≤ st2.length) (hf : ∀ j, j < st.length → st2[j]? = st[j]?) (hw : fzW st.length st2 w = some w') : frz m ws st = .ok w' st := by
  rw [frz_eq h (fun j hj => .inl (hf j hj)) hw]
  congr 1
  refine List.ext_getElem? fun j => ?_
  by_cases hj : j < st.length
  · rw [List.getElem?_take_of_lt hj, hf j hj]
  · rw [List.getElem?_eq_none (by rw [List.length_take]; omega), List.getElem?_eq_none (by omega)]
theorem nl_nums (ks : List Nat) : nlWs (nW ks) = true := by
  rw [nls_all]
  intro w hw
  obtain ⟨k, _, rfl⟩ := List.mem_map.mp hw
  rw [nlW]
theorem nl_rows (rs : List (List Str)) : nlWs (rs.map wS) = true := by
  rw [nls_all]
  intro w hw
  obtain ⟨k, _, rfl⟩ := List.mem_map.mp hw
  rw [nlW]
  exact nl_strs k
section
variable {st : Stt}
theorem need_row_ok {xs : List Str} (h : Row xs) : m_need_row [wS xs] st = .ok .non st := by
  refine frz_pure ?_ (by rw [nlW])
  simp [r_need_row, entry, is_row_ok h]
theorem lfront_ok {xs : List Str} {p : Nat} (h : p < xs.length) (hl : xs.length ≤ 1000) : m__law_front [wS xs, .int (p : Int)] st = .ok (wS (front xs p)) st := by
  have h0 : p < (xs.map W.str).length := by simpa using h
  have h1 : (xs.map W.str)[p]? = some (.str xs[p]) := get_map h
  refine frz_pure ?_ (nl_strs _)
  have hs1 : fSl st (wS xs) none (some (p : Int)) = some (wS (xs.take p)) := by
    show some (W.tup (cutW _ none (some (p : Int)))) = _
    rw [cut_take, ← List.map_take]
  have hs2 : fSl st (wS xs) (some ((p : Int) + 1)) none = some (wS (xs.drop (p + 1))) := by
    show some (W.tup (cutW _ (some ((p : Int) + 1)) none)) = _
    rw [cut_drop1, ← List.map_drop]
  obtain ⟨A, hA⟩ : ∃ A, A = xs.take p := ⟨_, rfl⟩
  obtain ⟨B, hB⟩ : ∃ B, B = xs.drop (p + 1) := ⟨_, rfl⟩
  have hf : front xs p = xs[p] :: (A ++ B) := by unfold front; rw [List.getElem?_eq_getElem h, hA, hB]
  have lA : A.length ≤ 1000 := by rw [hA, List.length_take]; omega
  have lB : B.length ≤ 1000 := by rw [hB, List.length_drop]; omega
  rw [← hA] at hs1
  rw [← hB] at hs2
  have l1 : 1 + A.length ≤ 100000 := by omega
  have l2 : 1 + A.length + B.length ≤ 100000 := by omega
  have l3 : A.length + 1 ≤ 100000 := by omega
  have l4 : A.length + 1 + B.length ≤ 100000 := by omega
  have l5 : 1 + (A.length + B.length) ≤ 100000 := by omega
  have l6 : A.length + B.length + 1 ≤ 100000 := by omega
  simp [r__law_front, entry, Sim.atI_nat, h1, hs1, hs2, hf, l1, l2, l3, l4, l5, l6, List.getElem?_eq_getElem h]
theorem atI_neg1 {α : Type} (pre : List α) (w : α) : atI (pre ++ [w]) (-1) = some w := by
  unfold atI ixN
  simp
  rw [if_pos (by omega), show (-1 + ((pre.length : Int) + 1)).toNat = pre.length by omega]
  simp
theorem rows_loop {a0 a1 : Option W} : ∀ (xs : List Str) (row : List Str) (pre : List (List Str)) (b : Option W), (∀ x ∈ xs, x ∈ row) → row.length ≤ 1000 → pre.length + 1 + xs.length ≤ 1000 →
    ∃ b', forW (fun _ => True) (gmName 3) (sDrop (eBM (eVar 2) (aCons (eCall m_to_front (aCons (eOp fIx (eVar 2) (eNeg (eC (.int 1)))) (aCons (eIdxT (eOp fIx (eVar 2) (eNeg (eC (.int 1)))) (aCons (eVar 3) aNil)) aNil))) aNil) (mUp fAppend))) (xs.map .str) [a0, a1, some (.loc st.length), b] (st ++ [some (.lst ((pre ++ [row]).map wS))]) =
      .nx [a0, a1, some (.loc st.length), b'] (st ++ [some (.lst ((pre ++ rowsE row xs).map wS))])
  | [], row, pre, b, _, _, _ => ⟨b, forW_nil trivial⟩
  | x :: r, row, pre, b, hx, hl, hp => by
    have h1 := hx x List.mem_cons_self
    have hi := List.idxOf_lt_length_of_mem h1
    obtain ⟨b', ih⟩ := rows_loop (a0 := a0) (a1 := a1) r (front row (row.idxOf x)) (pre ++ [row]) (some (.str x)) (fun y hy => front_mem.mpr (hx y (List.mem_cons_of_mem _ hy))) (by rw [front_length]; exact hl) (by simp at hp ⊢; omega)
    refine ⟨b', ?_⟩
    have tf := fun s => to_front_ok (st := s) hi hl
    have hat : atI ((pre ++ [row]).map wS) (-1) = some (wS row) := by rw [List.map_append]; exact atI_neg1 _ _
    have hix : fIx (st ++ [some (.lst ((pre ++ [row]).map wS))]) (.loc st.length) (.int (-1)) = some (wS row) := by
      rw [ix_loc', sq_loc, List.getElem?_concat_length]
      exact hat
    have hla : ((pre ++ [row]).map wS).length < 100000 := by simp at hp ⊢; omega
    have hlx : lstX (st ++ [some (.lst ((pre ++ [row]).map wS))]) (.loc st.length) = some ((pre ++ [row]).map wS) := by simp [lstX]
    have ap : mUp fAppend (.loc st.length) [wS (front row (row.idxOf x))] (st ++ [some (.lst ((pre ++ [row]).map wS))]) = .ok .non (st ++ [some (.lst ((pre ++ [row] ++ [front row (row.idxOf x)]).map wS))]) := by
      unfold mUp
      dsimp only
      rw [List.getElem?_concat_length]
      dsimp only
      unfold fAppend
      dsimp only
      rw [if_pos hla]
      dsimp only
      rw [set_push, List.map_append (l₁ := pre ++ [row])]
      rfl
    rw [List.map_cons, forW_nx (ρ2 := [a0, a1, some (.loc st.length), some (.str x)]) (st2 := st ++ [some (.lst ((pre ++ [row] ++ [front row (row.idxOf x)]).map wS))]) trivial rfl ?_, ih]
    · rw [rowsE, List.append_assoc, List.singleton_append]
    · simp only [ev_drop, ev_bm, ev_var, List.set_cons_succ, List.set_cons_zero, List.getElem?_cons_succ, List.getElem?_cons_zero, bmK_ok, hlx, bmW_some, ev_cons, ev_call, ev_op, ev_neg, ev_c, opK_ok, negK_ok, negW_int, opK2_ok, Int.reduceNeg, hix, optR_some, consK_ok, ev_idxT, idxK_ok, idxW_tup, ev_nil, consK2_ok, bmK2_ok, idxT_ok x row h1, callK_ok, tf, ap, dropK_ok]
theorem rows_by_ok {row xs : List Str} (hx : ∀ x ∈ xs, x ∈ row) (hl : row.length ≤ 1000) (hp : xs.length ≤ 900) : m_rows_by [wS row, wL xs] st = .ok (.lst ((rowsE row xs).map wS)) st := by
  obtain ⟨b', e⟩ := rows_loop (st := st) (a0 := some (wS row)) (a1 := some (wL xs)) xs row [] none hx hl (by simp; omega)
  rw [List.nil_append, List.nil_append] at e
  refine frz_new (ex := [some (.lst ((rowsE row xs).map wS))]) (w := .loc st.length) ?_ (fz_loc0 _ (nl_rows _))
  simp only [List.map_cons, List.map_nil] at e
  simp [r_rows_by, entry, e]
theorem zip_places : ∀ (xs row : List Str), (∀ x ∈ xs, x ∈ row) → ∀ (ρ : Ev), ρ.length = 4 → lcW (fun _ => True) (gmTup 2 (gmCons 2 (gmCons 3 gmNil))) tmYes (eIdxT (eVar 2) (aCons (eVar 3) aNil)) ρ (((rowsE row xs).map wS).zip (xs.map .str) |>.map fun p => W.prs [p.1, p.2]) st = .ok (nW (placesE row xs)) st
  | [], row, _, ρ, _ => by
    rw [List.map_nil, List.zip_nil_right, List.map_nil, lcW, if_pos trivial]; rfl
  | x :: r, row, hx, ρ, hρ => by
    have h1 := hx x List.mem_cons_self
    have ih := zip_places r (front row (row.idxOf x)) (fun y hy => front_mem.mpr (hx y (List.mem_cons_of_mem _ hy))) ρ hρ
    have e3 : ((ρ.set 2 (some (wS row))).set 3 (some (.str x)))[3]? = some (some (.str x)) := List.getElem?_set_self (by simp; omega)
    have e2 : ((ρ.set 2 (some (wS row))).set 3 (some (.str x)))[2]? = some (some (wS row)) := by rw [List.getElem?_set_ne (by decide)]; exact List.getElem?_set_self (by omega)
    rw [rowsE, List.map_cons, List.map_cons, List.zip_cons_cons, List.map_cons, lcW, if_pos trivial, placesE]
    have hg : gmTup 2 (gmCons 2 (gmCons 3 gmNil)) st (W.prs [wS row, .str x]) ρ = some ((ρ.set 2 (some (wS row))).set 3 (some (.str x))) := rfl
    have hm : eIdxT (eVar 2) (aCons (eVar 3) aNil) ((ρ.set 2 (some (wS row))).set 3 (some (.str x))) st = .ok (.int (row.idxOf x : Nat)) st := by
      simp only [ev_idxT, ev_var, e2, idxK_ok, idxW_tup, ev_cons, e3, ev_nil, consK_ok, consK2_ok, bmK2_ok, idxT_ok x row h1]
    have hy : ∀ ρ : Ev, tmYes ρ st = .ok true st := fun _ => rfl
    rw [hg]
    dsimp only
    rw [hy]
    show (eIdxT (eVar 2) (aCons (eVar 3) aNil) ((ρ.set 2 (some (wS row))).set 3 (some (.str x))) st).cb _ = _
    rw [hm]
    show (lcW (fun _ => True) _ _ _ ρ _ st).cb _ = _
    rw [ih]
    rfl
theorem zip_src {row xs : List Str} {ρ : Ev} (h0 : ρ[0]? = some (some (wS row))) (h1 : ρ[1]? = some (some (wL xs))) (hx : ∀ x ∈ xs, x ∈ row) (hl : row.length ≤ 1000) (hp : xs.length ≤ 900) : iZipW (aCons (eCall m_rows_by (aCons (eVar 0) (aCons (eVar 1) aNil))) (aCons (eVar 1) aNil)) ρ st = .ok ⟨((rowsE row xs).map wS).zip (xs.map .str) |>.map fun p => W.prs [p.1, p.2], fun _ => True ∧ True⟩ st := by
  have := rows_by_ok (st := st) hx hl hp
  unfold iZipW
  simp [h0, h1, this, Rs.bind]
theorem places_of_ok {row xs : List Str} (r : Row row) (hx : ∀ x ∈ xs, x ∈ row) (hp : xs.length ≤ 900) : m_places_of [wS row, wL xs] st = .ok (.lst (nW (placesE row xs))) st := by
  refine frz_pure ?_ (by rw [nlW]; exact nl_nums _)
  have hl : row.length ≤ 1000 := by have := r.few; omega
  have hs := fun (ρ : Ev) h0 h1 => zip_src (st := st) (row := row) (xs := xs) (ρ := ρ) h0 h1 hx hl hp
  have hz := fun (ρ : Ev) h => zip_places (st := st) xs row hx ρ h
  have ll : (((rowsE row xs).map wS).zip (xs.map W.str)).length ≤ 100000 := by rw [List.length_zip]; simp; omega
  simp only [and_self] at hs
  generalize ((rowsE row xs).map wS).zip (xs.map W.str) = Z at hs hz ll
  simp [r_places_of, entry, need_row_ok r, need_letters_ok r hx (by omega : xs.length ≤ 1000), hs, ll, hz]
theorem placesL_of_ok {row xs : List Str} (r : Row row) (hx : ∀ x ∈ xs, x ∈ row) (hp : xs.length ≤ 900) : mL_places_of [wS row, wL xs] st = .ok (.loc st.length) (st ++ [some (.lst (nW (placesE row xs)))]) := by
  have hl : row.length ≤ 1000 := by have := r.few; omega
  have hs := fun (ρ : Ev) h0 h1 => zip_src (st := st) (row := row) (xs := xs) (ρ := ρ) h0 h1 hx hl hp
  have hz := fun (ρ : Ev) h => zip_places (st := st) xs row hx ρ h
  have ll : (((rowsE row xs).map wS).zip (xs.map W.str)).length ≤ 100000 := by rw [List.length_zip]; simp; omega
  simp only [and_self] at hs
  generalize ((rowsE row xs).map wS).zip (xs.map W.str) = Z at hs hz ll
  have hraw : rL_places_of [wS row, wL xs] st = .ok (.loc st.length) (st ++ [some (.lst (nW (placesE row xs)))]) := by
    simp [rL_places_of, entry, need_row_ok r, need_letters_ok r hx (by omega : xs.length ≤ 1000), hs, ll, hz]
  have := frzL_eq (ws := [wS row, wL xs]) hraw (fun j hj => .inl (List.getElem?_append_left hj)) (Nat.le_refl _) List.getElem?_concat_length (by show okLs _ _ = true; exact nls_ok _ _ (nl_nums _))
  rw [List.take_left] at this
  exact this
/-! said_of -/
theorem said_loop {a1 : Option W} : ∀ (ps : List Nat) (row acc : List Str) (b : Option W), (∀ p ∈ ps, p < row.length) → row.length ≤ 1000 → acc.length + ps.length ≤ 1000 →
    ∃ a0 b', forW (fun _ => True) (gmName 2) (sSeq (sDrop (eBM (eVar 3) (aCons (eOp fIx (eVar 0) (eVar 2)) aNil) (mUp fAppend)))
    (sAsg (eCall m_to_front (aCons (eVar 0) (aCons (eVar 2) aNil))) (gmName 0))) (nW ps) [some (wS row), a1, b, some (.loc st.length)] (st ++ [some (.lst (acc.map .str))]) = .nx [a0, a1, b', some (.loc st.length)] (st ++ [some (.lst ((acc ++ saidE row ps).map .str))])
  | [], row, acc, b, _, _, _ => ⟨some (wS row), b, by rw [saidE, List.append_nil]; exact forW_nil trivial⟩
  | p :: r, row, acc, b, hp, hl, ha => by
    have h1 := hp p List.mem_cons_self
    obtain ⟨a0, b', ih⟩ := said_loop (a1 := a1) r (front row p) (acc ++ [row[p]]) (some (.int (p : Int))) (fun q hq => by rw [front_length]; exact hp q (List.mem_cons_of_mem _ hq)) (by rw [front_length]; exact hl) (by simp at ha ⊢; omega)
    have tf := fun s => to_front_ok (st := s) h1 hl
    have hla : acc.length < 100000 := by simp at ha; omega
    have hg := get_map h1
    refine ⟨a0, b', ?_⟩
    show forW _ _ _ (W.int (p : Int) :: nW r) _ _ = _
    rw [forW_nx (ρ2 := [some (wS (front row p)), a1, some (.int (p : Int)), some (.loc st.length)]) (st2 := st ++ [some (.lst ((acc ++ [row[p]]).map .str))]) trivial rfl ?_, ih]
    · rw [saidE, List.getElem?_eq_getElem h1, List.append_assoc]; rfl
    · simp [lstX, Sim.atI_nat, h1, mUp, fAppend, hla, tf]
theorem said_of_ok {row : List Str} {ps : List Nat} (r : Row row) (hp : ∀ p ∈ ps, p < row.length) (hl : ps.length ≤ 900) : m_said_of [wS row, .lst (nW ps)] st = .ok (wL (saidE row ps)) st := by
  have l1 : row.length ≤ 1000 := by have := r.few; omega
  obtain ⟨a0, b', e⟩ := said_loop (st := st) (a1 := some (.lst (nW ps))) ps row [] none hp l1 (by simp; omega)
  rw [List.nil_append, List.map_nil] at e
  have hc : ∀ ρ : Ev, 4 = ρ.length → ρ[0]? = some (some (wS row)) → lcW (fun _ => True) (gmName 2) tmYes (emAnd (eCall m_is_amount (aCons (eVar 2) aNil)) (eOp fLt (eVar 2) (eFn fLen (aCons (eVar 0) aNil)))) ρ (nW ps) st = .ok (List.replicate ps.length (.bl true)) st := fun ρ hρ h0 => by
    rw [show ps.length = (nW ps).length by simp]
    refine lcW_true trivial _ fun w hw => ?_
    obtain ⟨k, hk, rfl⟩ := List.mem_map.mp hw
    have e2 : (ρ.set 2 (some (.int (k : Int))))[2]? = some (some (.int (k : Int))) := List.getElem?_set_self (by omega)
    have e0 : (ρ.set 2 (some (.int (k : Int))))[0]? = some (some (wS row)) := by rw [List.getElem?_set_ne (by decide)]; exact h0
    have hk2 := hp k hk
    refine ⟨_, rfl, ?_⟩
    simp [e2, h0, is_amount_ok, hk2]
  have l2 : ps.length ≤ 100000 := by omega
  refine frz_new (ex := [some (.lst ((saidE row ps).map .str))]) (w := .loc st.length) ?_ (fz_loc0 _ (nl_strs _))
  simp [r_said_of, entry, need_row_ok r, hc, l2, e]
/-! _law_places -/
theorem lplaces_loop {a1 : Option W} : ∀ (xs row : List Str) (acc : List Nat) (b c : Option W), (∀ x ∈ xs, x ∈ row) → row.length ≤ 1000 → acc.length + xs.length ≤ 1000 →
    ∃ a0 b' c', forW (fun _ => True) (gmName 3) (sSeq (sAsg (eIdxT (eVar 0) (aCons (eVar 3) aNil)) (gmName 4))
    (sSeq (sDrop (eBM (eVar 2) (aCons (eVar 4) aNil) (mUp fAppend)))
    (sAsg (eCall m__law_front (aCons (eVar 0) (aCons (eVar 4) aNil))) (gmName 0)))) (xs.map .str) [some (wS row), a1, some (.loc st.length), b, c] (st ++ [some (.lst (nW acc))]) = .nx [a0, a1, some (.loc st.length), b', c'] (st ++ [some (.lst (nW (acc ++ placesE row xs)))])
  | [], row, acc, b, c, _, _, _ => ⟨some (wS row), b, c, by rw [placesE, List.append_nil]; exact forW_nil trivial⟩
  | x :: r, row, acc, b, c, hx, hl, ha => by
    have h1 := hx x List.mem_cons_self
    have hi := List.idxOf_lt_length_of_mem h1
    obtain ⟨a0, b', c', ih⟩ := lplaces_loop (a1 := a1) r (front row (row.idxOf x)) (acc ++ [row.idxOf x]) (some (.str x)) (some (.int (row.idxOf x : Nat))) (fun y hy => front_mem.mpr (hx y (List.mem_cons_of_mem _ hy))) (by rw [front_length]; exact hl) (by simp at ha ⊢; omega)
    have tf := fun s => lfront_ok (st := s) hi hl
    have hla : acc.length < 100000 := by simp at ha; omega
    refine ⟨a0, b', c', ?_⟩
    rw [List.map_cons, forW_nx (ρ2 := [some (wS (front row (row.idxOf x))), a1, some (.loc st.length), some (.str x), some (.int (row.idxOf x : Nat))]) (st2 := st ++ [some (.lst (nW (acc ++ [row.idxOf x])))]) trivial rfl ?_, ih]
    · rw [placesE, List.append_assoc]; rfl
    · simp [idxT_ok x row h1, lstX, mUp, fAppend, hla, tf]
theorem lplaces_ok {row xs : List Str} (hx : ∀ x ∈ xs, x ∈ row) (hl : row.length ≤ 1000) (hp : xs.length ≤ 900) : m__law_places [wS row, wL xs] st = .ok (.lst (nW (placesE row xs))) st := by
  obtain ⟨a0, b', c', e⟩ := lplaces_loop (st := st) (a1 := some (wL xs)) xs row [] none none hx hl (by simp; omega)
  rw [List.nil_append, show (nW [] : List W) = [] from rfl] at e
  refine frz_new (ex := [some (.lst (nW (placesE row xs)))]) (w := .loc st.length) ?_ (fz_loc0 _ (nl_nums _))
  simp [r__law_places, entry, e]
end
end Lw
end
section
set_option Elab.async false
set_option linter.all false
set_option maxRecDepth 100000
set_option maxHeartbeats 1000000
open PySem PySem.Spec PyProof.Rows L2
namespace Lw
open Sim
section
variable {st : Stt} {ρ : Ev}
theorem tup_list {t o : List Str} {b : Nat} (hb : b ≠ 17) (hl : t.length = o.length) (hρ : 17 < ρ.length) (h1 : ρ[1]? = some (some (wS t))) (h2 : ρ[b]? = some (some (wS o))) :
    lcW (fun _ => True) (gmName 17) tmYes (eTup (aCons (eOp fIx (eVar 1) (eVar 17)) (aCons (eOp fIx (eVar b) (eVar 17)) aNil))) ρ (rngW 0 t.length) st = .ok ((t.zip o).map fun p => W.tup [.str p.1, .str p.2]) st := by
  rw [zip_rng t o hl, lcW_map (f := fun w => match w with | .int k => W.tup [.str ((t[k.toNat]?).getD ""), .str ((o[k.toNat]?).getD "")] | w => w) trivial]
  · unfold rngW
    rw [List.map_map]
    congr 1
    apply List.map_congr_left
    intro k _
    simp
  · intro w hw
    obtain ⟨k, hk, rfl⟩ := List.mem_map.mp hw
    have hk := List.mem_range.mp hk
    rw [Int.zero_add]
    have e17 : (ρ.set 17 (some (.int (k : Int))))[17]? = some (some (.int (k : Int))) := List.getElem?_set_self hρ
    have e1 : (ρ.set 17 (some (.int (k : Int))))[1]? = some (some (wS t)) := by rw [List.getElem?_set_ne (by decide)]; exact h1
    have eb : (ρ.set 17 (some (.int (k : Int))))[b]? = some (some (wS o)) := by rw [List.getElem?_set_ne (fun z => hb z.symm)]; exact h2
    have f1 : fIx st (wS t) (.int (k : Int)) = some (.str t[k]) := by
      show atI (t.map W.str) (k : Int) = _
      rw [Sim.atI_nat, get_map hk]
    have f2 : fIx st (wS o) (.int (k : Int)) = some (.str (o[k]'(by omega))) := by
      show atI (o.map W.str) (k : Int) = _
      rw [Sim.atI_nat, get_map (by omega)]
    refine ⟨_, rfl, ?_⟩
    have g1 : t[k]? = some t[k] := List.getElem?_eq_getElem hk
    have g2 : o[k]? = some (o[k]'(by omega)) := List.getElem?_eq_getElem (by omega)
    simp only [ev_tup, ev_cons, ev_op, ev_var, e1, e17, eb, opK_ok, opK2_ok, f1, f2, optR_some, consK_ok, ev_nil, consK2_ok, tupK_ok, Int.toNat_natCast, g1, g2, Option.getD_some, List.length_cons, List.length_nil]
    rfl
theorem dict_ok {t o : List Str} (hn : t.Nodup) (hl : t.length = o.length) : fDictP st [.lst ((t.zip o).map fun p => W.tup [.str p.1, .str p.2])] = some (.dic (kvE t o)) := by
  unfold fDictP
  dsimp only
  rw [ls_lst]
  dsimp only
  rw [prs_kv]
  dsimp only
  rw [kv_merge hn hl]
theorem get_list {t o xs : List Str} {d : Nat} (hd : d ≠ 18) (hl : t.length = o.length) (hx : ∀ x ∈ xs, x ∈ t) (hρ : 18 < ρ.length) (h1 : ρ[d]? = some (some (.dic (kvE t o)))) :
    lcW (fun _ => True) (gmName 18) tmYes (eDget (eVar d) (eVar 18)) ρ (xs.map .str) st = .ok ((xs.map (ph t o)).map .str) st := by
  rw [lcW_map (f := fun w => match w with | .str x => .str (ph t o x) | w => w) trivial]
  · rw [List.map_map, List.map_map]; rfl
  · intro w hw
    obtain ⟨x, hm, rfl⟩ := List.mem_map.mp hw
    have e18 : (ρ.set 18 (some (.str x)))[18]? = some (some (.str x)) := List.getElem?_set_self hρ
    have ed : (ρ.set 18 (some (.str x)))[d]? = some (some (.dic (kvE t o))) := by rw [List.getElem?_set_ne (fun z => hd z.symm)]; exact h1
    refine ⟨_, rfl, ?_⟩
    unfold eDget
    simp only [ev_var, e18, ed, Rs.bind, dicX, toKey, kv_val t o x hl (hx x hm)]
theorem pl_list {D : List Nat} (hρ : 19 < ρ.length) : lcW (fun _ => True) (gmName 19) tmYes (eTup (aCons (eC (.str "place")) (aCons (eVar 19) aNil))) ρ (nW D) st = .ok ((D.map Evt.pl).map Evt.w) st := by
  rw [lcW_map (f := fun w => .tup [.str "place", w]) trivial]
  · rw [List.map_map, List.map_map]; rfl
  · intro w hw
    have h3 : (ρ.set 19 (some w))[19]? = some (some w) := List.getElem?_set_self hρ
    exact ⟨_, rfl, by simp [h3]⟩
def eqP (A B : List Str) : W → Bool
  | .int k => decide (A[k.toNat]? = B[k.toNat]?)
  | _ => false
def zP (D : List Nat) : W → Bool
  | .int k => decide (D[k.toNat]? = some 0)
  | _ => false
theorem eq_list {A B : List Str} (hA : ∀ x ∈ A, Ltr x) (hB : ∀ x ∈ B, Ltr x) (hl : B.length ≤ A.length) (hρ : 17 < ρ.length) (h1 : ρ[14]? = some (some (wL A))) (h2 : ρ[5]? = some (some (wL B))) :
    lcW (fun _ => True) (gmName 17) (tmV (eOp fEq (eOp fIx (eVar 14) (eVar 17)) (eOp fIx (eVar 5) (eVar 17)))) (eVar 17) ρ (rngW 0 B.length) st = .ok ((rngW 0 B.length).filter (eqP A B)) st := by
  rw [lcW_pure (p := eqP A B) (f := fun w => w) trivial, List.map_id']
  intro w hw
  obtain ⟨k, hk, rfl⟩ := List.mem_map.mp hw
  have hk := List.mem_range.mp hk
  rw [Int.zero_add]
  have e17 : (ρ.set 17 (some (.int (k : Int))))[17]? = some (some (.int (k : Int))) := List.getElem?_set_self hρ
  have e1 : (ρ.set 17 (some (.int (k : Int))))[14]? = some (some (wL A)) := by rw [List.getElem?_set_ne (by decide)]; exact h1
  have eb : (ρ.set 17 (some (.int (k : Int))))[5]? = some (some (wL B)) := by rw [List.getElem?_set_ne (by decide)]; exact h2
  have f1 : fIx st (wL A) (.int (k : Int)) = some (.str (A[k]'(by omega))) := by
    show atI (A.map W.str) (k : Int) = _
    rw [Sim.atI_nat, get_map (by omega)]
  have f2 : fIx st (wL B) (.int (k : Int)) = some (.str B[k]) := by
    show atI (B.map W.str) (k : Int) = _
    rw [Sim.atI_nat, get_map hk]
  have g1 : A[k]? = some (A[k]'(by omega)) := List.getElem?_eq_getElem (by omega)
  have g2 : B[k]? = some B[k] := List.getElem?_eq_getElem hk
  have q := fEq_str (st := st) (A[k]'(by omega)) B[k] (hA _ (List.getElem_mem _)).ok (hB _ (List.getElem_mem _)).ok
  have hb : ((A[k]'(by omega)) == B[k]) = decide (A[k]? = B[k]?) := by
    rw [g1, g2]
    by_cases e : (A[k]'(by omega)) = B[k]
    · rw [e]; simp
    · simp [e]
  rw [hb] at q
  refine ⟨_, rfl, ?_, fun _ => ?_⟩
  · simp only [ev_tv, ev_op, ev_var, e1, e17, eb, opK_ok, opK2_ok, f1, f2, optR_some, q, tvK_ok, tvW_bl, eqP, Int.toNat_natCast]
  · simp only [ev_var, e17]
theorem zero_list {D : List Nat} (hρ : 17 < ρ.length) (h2 : ρ[6]? = some (some (.lst (nW D)))) :
    lcW (fun _ => True) (gmName 17) (tmV (eOp fEq (eOp fIx (eVar 6) (eVar 17)) (eC (.int 0)))) (eVar 17) ρ (rngW 0 D.length) st = .ok ((rngW 0 D.length).filter (zP D)) st := by
  rw [lcW_pure (p := zP D) (f := fun w => w) trivial, List.map_id']
  intro w hw
  obtain ⟨k, hk, rfl⟩ := List.mem_map.mp hw
  have hk := List.mem_range.mp hk
  rw [Int.zero_add]
  have e17 : (ρ.set 17 (some (.int (k : Int))))[17]? = some (some (.int (k : Int))) := List.getElem?_set_self hρ
  have eb : (ρ.set 17 (some (.int (k : Int))))[6]? = some (some (.lst (nW D))) := by rw [List.getElem?_set_ne (by decide)]; exact h2
  have g2 : D[k]? = some D[k] := List.getElem?_eq_getElem hk
  have f2 : fIx st (.lst (nW D)) (.int (k : Int)) = some (.int (D[k] : Nat)) := by
    show atI (nW D) (k : Int) = _
    rw [Sim.atI_nat, List.getElem?_map, g2]; rfl
  have hb : (((D[k] : Nat) : Int) == 0) = decide (D[k]? = some 0) := by
    rw [g2]
    by_cases e : D[k] = 0
    · simp [e]
    · have : ¬ ((D[k] : Nat) : Int) = 0 := by omega
      simp [e, this]
  refine ⟨_, rfl, ?_, fun _ => ?_⟩
  · simp only [ev_tv, ev_op, ev_var, ev_c, e17, eb, opK_ok, opK2_ok, f2, optR_some, fEq_int, tvK_ok, tvW_bl, zP, Int.toNat_natCast, hb]
  · simp only [ev_var, e17]
/-- drawn letters -/
theorem said_draw {i N n wide : Nat} {t : List Str} {ρ : Ev} (hi : i < st.length) (hw : 1 ≤ wide) (hw2 : wide ≤ t.length) (ht : t.length ≤ 1000) (hρ : 17 < ρ.length) (h0 : ρ[0]? = some (some (.loc i))) (h1 : ρ[1]? = some (some (wS t))) (h3 : ρ[3]? = some (some (.int (wide : Int)))) (h : Sp st i (N + n)) :
    ∃ (xs : List Str) (st' : Stt), lcW (fun _ => True) (gmName 17) tmYes (eOp fIx (eVar 1) (eCall m__law_draw (aCons (eVar 0) (aCons (eVar 3) aNil)))) ρ (rngW 0 n) st = .ok (xs.map .str) st' ∧ xs.length = n ∧ (∀ x ∈ xs, x ∈ t) ∧ Dr st st' i N := by
  let I : List W → Stt → Prop := fun acc s => (∃ xs : List Str, acc = xs.map .str ∧ ∀ x ∈ xs, x ∈ t) ∧ s.length = st.length ∧ (∀ j, j ≠ i → s[j]? = st[j]?) ∧ Sp s i (N + (n - acc.length))
  obtain ⟨ys, s, e1, e2, ⟨xs, rfl, hx⟩, e3, e4, e5⟩ := lcW_inv2 (ρ := ρ) (ok := fun _ => True) (g := gmName 17) (m := eOp fIx (eVar 1) (eCall m__law_draw (aCons (eVar 0) (aCons (eVar 3) aNil)))) I n (rngW 0 n) [] st (by simp) ⟨⟨[], rfl, fun x hx => absurd hx List.not_mem_nil⟩, rfl, fun _ _ => rfl, h.le (by simp)⟩ (fun w acc s hacc _ hI => by
    obtain ⟨⟨xs, hxs, hx⟩, ls, fr, sp⟩ := hI
    obtain ⟨v, s', w1, w2, w3, w4⟩ := draw_ok (st := s) (i := i) (N := N + (n - (acc.length + 1))) (n := (wide : Int)) (by omega) (by omega) (sp.le (by omega))
    have hv : v.toNat < t.length := by omega
    have f1 : fIx s' (wS t) (.int v) = some (.str t[v.toNat]) := by
      show atI (t.map W.str) v = _
      rw [atI_pos _ _ w2, get_map hv]
    have q0 : (ρ.set 17 (some w))[0]? = some (some (.loc i)) := by rw [List.getElem?_set_ne (by decide)]; exact h0
    have q1 : (ρ.set 17 (some w))[1]? = some (some (wS t)) := by rw [List.getElem?_set_ne (by decide)]; exact h1
    have q3 : (ρ.set 17 (some w))[3]? = some (some (.int (wide : Int))) := by rw [List.getElem?_set_ne (by decide)]; exact h3
    refine ⟨_, rfl, .str t[v.toNat], s', ?_, ⟨xs ++ [t[v.toNat]], by rw [hxs]; simp, fun x hm => (List.mem_append.mp hm).elim (hx x) fun z => by rw [List.mem_singleton.mp z]; exact List.getElem_mem hv⟩, w4.len.trans ls, fun j hj => (w4.fr j hj).trans (fr j hj), ?_⟩
    · simp only [ev_op, ev_call, ev_cons, ev_nil, ev_var, q0, q1, q3, consK_ok, consK2_ok, callK_ok, w1, opK_ok, opK2_ok, f1, optR_some]
    · rw [List.length_append, List.length_singleton]; exact w4.sp) (fun _ _ _ => trivial)
  refine ⟨xs, s, e1, by simpa using e2, hx, e3, e4, e5.le (by omega)⟩
/-- drawn places -/
theorem spots_draw {i N n : Nat} {t : List Str} {ρ : Ev} (hi : i < st.length) (hw : 1 ≤ t.length) (ht : t.length ≤ 1000) (hρ : 17 < ρ.length) (h0 : ρ[0]? = some (some (.loc i))) (h1 : ρ[1]? = some (some (wS t))) (h : Sp st i (N + n)) :
    ∃ (ps : List Nat) (st' : Stt), lcW (fun _ => True) (gmName 17) tmYes (eCall m__law_draw (aCons (eVar 0) (aCons (eFn fLen (aCons (eVar 1) aNil)) aNil))) ρ (rngW 0 n) st = .ok (nW ps) st' ∧ ps.length = n ∧ (∀ p ∈ ps, p < t.length) ∧ Dr st st' i N := by
  let I : List W → Stt → Prop := fun acc s => (∃ ps : List Nat, acc = nW ps ∧ ∀ p ∈ ps, p < t.length) ∧ s.length = st.length ∧ (∀ j, j ≠ i → s[j]? = st[j]?) ∧ Sp s i (N + (n - acc.length))
  obtain ⟨ys, s, e1, e2, ⟨ps, rfl, hx⟩, e3, e4, e5⟩ := lcW_inv2 (ρ := ρ) (ok := fun _ => True) (g := gmName 17) (m := eCall m__law_draw (aCons (eVar 0) (aCons (eFn fLen (aCons (eVar 1) aNil)) aNil))) I n (rngW 0 n) [] st (by simp) ⟨⟨[], rfl, fun x hx => absurd hx List.not_mem_nil⟩, rfl, fun _ _ => rfl, h.le (by simp)⟩ (fun w acc s hacc _ hI => by
    obtain ⟨⟨ps, hps, hx⟩, ls, fr, sp⟩ := hI
    obtain ⟨v, s', w1, w2, w3, w4⟩ := draw_ok (st := s) (i := i) (N := N + (n - (acc.length + 1))) (n := (t.length : Int)) (by omega) (by omega) (sp.le (by omega))
    obtain ⟨m, rfl⟩ : ∃ m : Nat, v = m := ⟨v.toNat, by omega⟩
    have q0 : (ρ.set 17 (some w))[0]? = some (some (.loc i)) := by rw [List.getElem?_set_ne (by decide)]; exact h0
    have q1 : (ρ.set 17 (some w))[1]? = some (some (wS t)) := by rw [List.getElem?_set_ne (by decide)]; exact h1
    have fl : ∀ s, fLen s [wS t] = some (.int (t.length : Int)) := fun s => by rw [f_len, Sim.len_tup, List.length_map]
    refine ⟨_, rfl, .int (m : Int), s', ?_, ⟨ps ++ [m], by rw [hps]; simp, fun x hm => (List.mem_append.mp hm).elim (hx x) fun z => by rw [List.mem_singleton.mp z]; omega⟩, w4.len.trans ls, fun j hj => (w4.fr j hj).trans (fr j hj), ?_⟩
    · simp only [ev_call, ev_cons, ev_nil, ev_var, ev_fn, q0, q1, consK_ok, consK2_ok, fnK_ok, fl, optR_some, callK_ok, w1]
    · rw [List.length_append, List.length_singleton]; exact w4.sp) (fun _ _ _ => trivial)
  refine ⟨ps, s, e1, by simpa using e2, hx, e3, e4, e5.le (by omega)⟩
end
end Lw
end
section
set_option Elab.async false
set_option linter.all false
set_option maxRecDepth 100000
set_option maxHeartbeats 2000000
open PySem PySem.Spec PyProof.Rows L2
namespace Lw
open Sim
theorem right_ok {st : Stt} {i N : Nat} (h : Sp st i (N + 1000)) : ∃ st', m__law_right [.loc i] st = .ok (.bl true) st' ∧ Dr st st' i N := by
  have hi := h.lt
  obtain ⟨t, st1, e1, r, _, dr1⟩ := line_ok (N := N + 900) (upto := 16) (by decide) (by decide) (h.le (by omega))
  have t16 := r.few
  have t1 := r.pos
  have tL := r.ltr
  obtain ⟨ys, st2, e2, p2, dr2⟩ := mixT_ok (st := st1) (N := N + 800) (xs := abcS) (by decide) (dr1.sp.le (by show N + 800 + 26 ≤ _; omega))
  obtain ⟨o, ho⟩ : ∃ o, o = ys.take t.length := ⟨_, rfl⟩
  obtain ⟨ro, lo⟩ := sub_of_abc t.length p2 t1 t16
  rw [← ho] at ro lo
  have z2 : ∀ s, fSl s (wS ys) none (some (t.length : Int)) = some (wS o) := fun s => by
    show some (W.tup (cutW _ none (some (t.length : Int)))) = _
    rw [cut_take, ← List.map_take, ho]
  have fab : ∀ s, fTupS s [.str (Str.ofString "abcdefghijklmnopqrstuvwxyz")] = some (wS abcS) := fun s => by
    show (if (Str.ofString "abcdefghijklmnopqrstuvwxyz").length ≤ 100000 then some (W.tup ((Str.ofString "abcdefghijklmnopqrstuvwxyz").cps.toList.map fun c => W.str ⟨#[c]⟩)) else none) = _
    rw [if_pos (by rw [abc_len]; decide), abc_eq, List.map_map]
    show _ = some (W.tup (abcS.map W.str))
    rw [List.map_map]
    rfl
  obtain ⟨v, st3, e3, v0, v1, dr3⟩ := draw_ok (st := st2) (N := N + 700) (n := (t.length : Int)) (by omega) (by omega) (dr2.sp.le (by omega))
  obtain ⟨m, rfl⟩ : ∃ m : Nat, v = m := ⟨v.toNat, by omega⟩
  obtain ⟨w, st4, e4, w0, w1, dr4⟩ := draw_ok (st := st3) (N := N + 690) (n := (3 : Int)) (by decide) (by decide) (dr3.sp.le (by omega))
  obtain ⟨most, hm, hm0, hix⟩ : ∃ most : Nat, most ≤ 201 ∧ 1 ≤ most ∧ ∀ s : Stt, fIx s (.lst [.int 61, .int 61, .int 201]) (.int w) = some (.int (most : Int)) := by
    obtain rfl | rfl | rfl : w = 0 ∨ w = 1 ∨ w = 2 := by omega
    · exact ⟨61, by decide, by decide, fun s => rfl⟩
    · exact ⟨61, by decide, by decide, fun s => rfl⟩
    · exact ⟨201, by decide, by decide, fun s => rfl⟩
  obtain ⟨n, st5, e5, n0, n1, dr5⟩ := draw_ok (st := st4) (N := N + 680) (n := (most : Int)) (by omega) (by omega) (dr4.sp.le (by omega))
  have hl5 : st5.length = st.length := by rw [dr5.len, dr4.len, dr3.len, dr2.len, dr1.len]
  have wd : (1 + (m : Int)) = ((1 + m : Nat) : Int) := by omega
  obtain ⟨xs, st6, e6, xl, mx, dr6⟩ := said_draw (st := st5) (i := i) (N := N + 450) (n := n.toNat) (wide := 1 + m) (t := t) (ρ := [some (.loc i), some (wS t), some (wS o), some (.int (1 + (m : Int))), some (.int (most : Int)), none, none, none, none, none, none, none, none, none, none, none, none, none, none, none]) (by omega) (by omega) (by omega) (by omega) (by simp) rfl rfl (by rw [wd]; rfl) (dr5.sp.le (by omega))
  have xL : ∀ x ∈ xs, Ltr x := fun x hx => tL x (mx x hx)
  have x9 : xs.length ≤ 201 := by omega
  have r1 := fun s => rng1_ok (st := s) (j := n) (by omega) (by omega)
  obtain ⟨D, hD⟩ : ∃ D, D = placesE t xs := ⟨_, rfl⟩
  have Dl : D.length = xs.length := by rw [hD]; exact places_len _ _
  have Dv : ∀ p ∈ D, p < t.length := by rw [hD]; exact places_lt _ _ mx
  have f7 := fun s => lplaces_ok (st := s) (row := t) (xs := xs) mx (by omega) (by omega)
  have f8 := fun s => placesL_of_ok (st := s) r mx (by omega)
  have f9 := fun s => places_of_ok (st := s) r mx (by omega)
  have f10 := fun s => said_of_ok (st := s) r Dv (by omega)
  have f11 := fun s => said_of_ok (st := s) ro (fun p hp => by rw [lo]; exact Dv p hp) (by omega)
  rw [← hD] at f7 f8 f9
  have sx : saidE t D = xs := by rw [hD]; exact said_places _ _ mx
  rw [sx] at f10
  have sO : saidE o D = xs.map (ph t o) := by
    have q := ph_map t o r.nd (by omega)
    conv => lhs; rw [q]
    rw [said_map, sx]
  rw [sO] at f11
  obtain ⟨s7, hs7⟩ : ∃ s7, s7 = st6 ++ [some (Ob.lst (nW D))] := ⟨_, rfl⟩
  have g7 : s7[st6.length]? = some (some (.lst (nW D))) := by rw [hs7]; exact List.getElem?_concat_length
  have f8' : mL_places_of [wS t, wL xs] st6 = .ok (.loc st6.length) s7 := by rw [hs7]; exact f8 st6
  have a1 : m__law_alike [.loc st6.length, .lst (nW D)] s7 = .ok (.bl true) s7 := alike_ok (alk_ints (ks := D) (by simp [lstX, g7]) rfl (by omega))
  have a2 : ∀ s, m__law_alike [wL xs, wL xs] s = .ok (.bl true) s := fun s => alike_ok (alk_wL xL (by omega))
  obtain ⟨s8, hs8⟩ : ∃ s8, s8 = s7.set st6.length (some (.lst (nW D ++ [.non]))) := ⟨_, rfl⟩
  have ap : mUp fAppend (.loc st6.length) [.non] s7 = .ok .non s8 := by
    have : (nW D).length < 100000 := by simp; omega
    unfold mUp
    dsimp only
    rw [g7]
    dsimp only
    unfold fAppend
    dsimp only
    rw [if_pos this, hs8]
  have l6 : st6.length = st.length := by rw [dr6.len, hl5]
  have l8 : s8.length = st.length + 1 := by rw [hs8, hs7]; simp [l6]
  have g8 : ∀ j, j < st.length → s8[j]? = st6[j]? := fun j hj => by rw [hs8, List.getElem?_set_ne (by omega), hs7, List.getElem?_append_left (by omega)]
  have tl := fun (s : Stt) (ρ : Ev) h1 h2 h3 => tup_list (st := s) (ρ := ρ) (t := t) (o := o) (b := 2) (by decide) (by omega) h1 h2 h3
  have di := fun s => dict_ok (st := s) (t := t) (o := o) r.nd (by omega)
  have gl := fun (s : Stt) (ρ : Ev) h1 h2 => get_list (st := s) (ρ := ρ) (t := t) (o := o) (xs := xs) (d := 8) (by decide) (by omega) mx h1 h2
  have a3 : ∀ s, m__law_alike [.lst (nW D), .lst (nW D)] s = .ok (.bl true) s := fun s => alike_ok (alk_ints (ks := D) rfl rfl (by omega))
  have oL : ∀ x ∈ xs.map (ph t o), Ltr x := fun x hx => by rw [← sO] at hx; exact ro.ltr x (said_sub _ _ x hx)
  have a4 : ∀ s, m__law_alike [wL (xs.map (ph t o)), wL (xs.map (ph t o))] s = .ok (.bl true) s := fun s => alike_ok (alk_wL oL (by simp; omega))
  have sp8 : Sp s8 i (N + 450) := dr6.sp.cong (g8 i hi) (Nat.le_refl _)
  obtain ⟨u, st9, e9, p9, dr9⟩ := mixT_ok (st := s8) (N := N + 400) (xs := t) (by omega) (sp8.le (by omega))
  have lu : u.length = t.length := p9.length_eq
  have bb : Both t u := ⟨r, p9⟩
  have tl2 := fun (s : Stt) (ρ : Ev) h1 h2 h3 => tup_list (st := s) (ρ := ρ) (t := t) (o := u) (b := 9) (by decide) (by omega) h1 h2 h3
  have di2 := fun s => dict_ok (st := s) (t := t) (o := u) r.nd (by omega)
  have gl2 := fun (s : Stt) (ρ : Ev) h1 h2 => get_list (st := s) (ρ := ρ) (t := t) (o := u) (xs := xs) (d := 10) (by decide) (by omega) mx h1 h2
  have pll := fun (s : Stt) (ρ : Ev) h1 => pl_list (st := s) (ρ := ρ) (D := D) h1
  have okD : ∀ e ∈ D.map Evt.pl, e.ok t := fun e he => by obtain ⟨p, hp, rfl⟩ := List.mem_map.mp he; exact Dv p hp
  have gp := gone_places D t u Dv
  have sU : saidE u D = xs.map (ph t u) := by
    have q := ph_map t u r.nd (by omega)
    conv => lhs; rw [q]
    rw [said_map, sx]
  rw [sx, sU] at gp
  obtain ⟨R, hR⟩ : ∃ R, R = W.tup [wS (goneE t u (D.map .pl)).1, wS (goneE t u (D.map .pl)).2.1] := ⟨_, rfl⟩
  have g1 : ∀ s, m_go [.tup [wS t, wS u], .lst ((D.map Evt.pl).map Evt.w)] s = .ok (.tup [R, wL xs, wL (xs.map (ph t u))]) s := fun s => by
    rw [go_ok bb Evs.lst okD (by simp; omega), goW, gp.1, gp.2, ← hR]
  have uL : ∀ x ∈ xs.map (ph t u), Ltr x := fun x hx => by rw [← sU] at hx; exact tL x (p9.mem_iff.mp (said_sub _ _ x hx))
  have q1 : ∀ s, fNe s (wL xs) (wL xs) = some (.bl false) := fun s => fNe_same (datL (n := 63) xL)
  have q2 : ∀ s, fNe s (wL (xs.map (ph t u))) (wL (xs.map (ph t u))) = some (.bl false) := fun s => fNe_same (datL (n := 63) uL)
  obtain ⟨c, rest, hc⟩ := row_head t1
  have i0 : ∀ s, fIx s (wS t) (.int 0) = some (.str c) := fun s => by rw [hc]; simp
  have ad : ∀ s, fAdd s (.lst [.str c]) (wL xs) = some (wL (c :: xs)) := fun s => by
    show fCatL s (.lst _) (.lst _) = _
    unfold fCatL
    simp [lstX]
    omega
  have eql := fun (s : Stt) (ρ : Ev) h1 h2 h3 => eq_list (st := s) (ρ := ρ) (A := c :: xs) (B := xs) (fun x hx => (List.mem_cons.mp hx).elim (fun z => z ▸ tL c (by rw [hc]; exact List.mem_cons_self)) (xL x)) xL (by simp) h1 h2 h3
  have zl := fun (s : Stt) (ρ : Ev) h1 h2 => zero_list (st := s) (ρ := ρ) (D := D) h1 h2
  have fe : ((rngW 0 D.length).filter (zP D)) = (rngW 0 xs.length).filter (eqP (c :: xs) xs) := by
    rw [Dl]
    apply List.filter_congr
    intro w hw
    obtain ⟨k, hk, rfl⟩ := List.mem_map.mp hw
    have hk := List.mem_range.mp hk
    rw [Int.zero_add]
    have := zero_iff xs c rest k (by rw [← hc]; exact mx) hk
    rw [← hc, ← hD] at this
    show decide _ = decide _
    simp only [Int.toNat_natCast]
    exact decide_eq_decide.mpr this
  obtain ⟨Z, hZ⟩ : ∃ Z, Z = (rngW 0 xs.length).filter (eqP (c :: xs) xs) := ⟨_, rfl⟩
  rw [fe, ← hZ] at zl
  rw [← hZ] at eql
  have q3 : ∀ s, fNe s (.lst Z) (.lst Z) = some (.bl false) := fun s => fNe_same (by
    rw [datW]
    have : datWs 63 Z = true := dats_all.mpr fun w hw => by
      rw [hZ] at hw
      obtain ⟨k, _, rfl⟩ := List.mem_map.mp (List.mem_filter.mp hw).1
      rw [datW]
    rw [this]; rfl)
  obtain ⟨q, st10, e10, b0, b1, dr10⟩ := draw_ok (st := st9) (N := N + 300) (n := (most : Int)) (by omega) (by omega) (dr9.sp.le (by omega))
  have r2 := fun s => rng1_ok (st := s) (j := q) (by omega) (by omega)
  have rt := fun s => rng1_nat (st := s) (n := t.length) (by omega)
  have rx := fun s => rng1_nat (st := s) (n := xs.length) (by omega)
  have rd := fun s => rng1_nat (st := s) (n := D.length) (by omega)
  have l10 : st10.length = st.length + 1 := by rw [dr10.len, dr9.len, l8]
  have key := fun (ρ : Ev) h1 h2 h3 => spots_draw (st := st10) (i := i) (N := N) (n := q.toNat) (t := t) (ρ := ρ) (by omega) (by omega) (by omega) h1 h2 h3 (dr10.sp.le (by omega))
  obtain ⟨ps, st11, e11, pl, pv, dr11⟩ := key [some (.loc i), some (wS t), some (wS o), some (.int (1 + (m : Int))), some (.int (most : Int)), some (wL xs), some (.lst (nW D)), some (.loc st6.length), some (.dic (kvE t o)), some (wS u), some (.dic (kvE t u)), some R, some (wL xs), some (wL (xs.map (ph t u))), some (wL (c :: xs)), some (.lst Z), none, none, none, none] (by simp) rfl rfl
  have f12 := fun s => said_of_ok (st := s) r pv (by omega)
  have f13 := fun s => places_of_ok (st := s) r (xs := saidE t ps) (said_sub _ _) (by rw [said_len _ _ pv]; omega)
  rw [places_said ps t r.nd pv] at f13
  have a5 : ∀ s, m__law_alike [.lst (nW ps), .lst (nW ps)] s = .ok (.bl true) s := fun s => alike_ok (alk_ints (ks := ps) rfl rfl (by omega))
  have e1' : m__law_line [.loc i, .int 16] st = .ok (wS t) st1 := e1
  have n5 : n.toNat ≤ 100000 := by omega
  have q5 : q.toNat ≤ 100000 := by omega
  have t5 : t.length ≤ 100000 := by omega
  have x5 : xs.length ≤ 100000 := by omega
  have D5 : D.length ≤ 100000 := by omega
  have hraw : r__law_right [.loc i] st = .ok (.bl true) st11 := by
    unfold r__law_right
    clear hD hZ sO sU ho
    simp [entry, e1', fab, e2, z2, e3, e4, hix, e5, r1, n5, e6, f7, f8', a1, f10, a2, lstX, g7, ap, rt, t5, tl, di, permL, f9, a3, f11, x5, gl, a4, e9, tl2, di2, D5, pll, g1, q1, gl2, q2, i0, ad, rx, eql, rd, zl, q3, e10, r2, q5, e11, f12, f13, a5, -List.map_map]
  obtain ⟨st', g12, g13⟩ := frz_dr (N := N) (st := st) hraw (w' := .bl true) (by rw [fzW]) (fun j hj hji => by
    rw [dr11.fr j hji, dr10.fr j hji, dr9.fr j hji, g8 j hj, dr6.fr j hji, dr5.fr j hji, dr4.fr j hji, dr3.fr j hji, dr2.fr j hji, dr1.fr j hji]) dr11.sp (by rw [dr11.len]; omega) hi
  exact ⟨st', g12, g13⟩
end Lw
end
section
set_option Elab.async false
set_option linter.all false
set_option maxRecDepth 100000
set_option maxHeartbeats 1000000
open PySem PySem.Spec PyProof.Rows L2
namespace Lw
open Sim
theorem cells_ok {ns : List Int} : ∀ (ks : List Nat) (st : Stt) (a : Option W), ∃ a' st', forW (fun _ => True) (gmName 1) (sIf (tmNot (tmV (eCall m__law_right (aCons (eCall m__law_bag (aCons (eOp fAdd (eCall m__law_cell_at (aCons (eVar 0) (aCons (eVar 1) aNil))) (eC (.int 12))) aNil)) aNil)))) (sRet (eC (.bl false))) sNext) (ks.map fun (k : Nat) => W.int (k : Int)) [some (.scr (ns.map .int)), a] st = .nx [some (.scr (ns.map .int)), a'] st'
  | [], st, a => ⟨a, st, forW_nil trivial⟩
  | k :: ks, st, a => by
    obtain ⟨c, c1⟩ := cell_at_ok (st := st) (ns := ns) (k := k)
    obtain ⟨st1, b1, _, sp⟩ := bag_ok (st := st) (cell := c + 12)
    obtain ⟨st2, r1, _⟩ := right_ok (N := 1000) (sp.le (by decide))
    obtain ⟨a', st', ih⟩ := cells_ok (ns := ns) ks st2 (some (.int (k : Int)))
    exact ⟨a', st', by rw [List.map_cons, forW_nx (ρ2 := [some (.scr (ns.map .int)), some (.int (k : Int))]) (st2 := st2) trivial rfl (by simp [c1, b1, r1]), ih]⟩
theorem law_all (ns : List Int) (h : ns.length ≤ 63) : ∃ st', m_law [.scr (ns.map .int)] [] = .ok (.bl true) st' := by
  obtain ⟨n, hn, hn4⟩ : ∃ n : Nat, (max 1 (min 6 (ns.length : Int))) = (n : Int) ∧ n ≤ 6 := ⟨(max 1 (min 6 (ns.length : Int))).toNat, by omega, by omega⟩
  obtain ⟨ρ', st', e⟩ := cells_ok (ns := ns) (List.range n) [] none
  have hr : rng1W [.int (n : Int)] [] = .ok ⟨rngW 0 n, fun _ => True⟩ [] := rng1_nat (by omega)
  have hw : (rngW 0 n) = (List.range n).map fun (k : Nat) => W.int (k : Int) := by
    unfold rngW
    apply List.map_congr_left
    intro k _
    rw [Int.zero_add]
  rw [← hw] at e
  refine ⟨_, frz_eq (w := .bl true) (st' := st') (w' := .bl true) ?_ (fun i hi => absurd hi (Nat.not_lt_zero i)) (by rw [fzW])⟩
  have hl : lenOf [] (.scr (ns.map .int)) = some ns.length := by simp [lenOf]
  simp [r_law, entry, hl, hn, hr, e]
end Lw
end
section
set_option Elab.async false
set_option linter.all false
set_option maxRecDepth 100000
set_option maxHeartbeats 4000000
open PySem PySem.Spec PyProof.Rows L2
namespace Lw
open Sim
theorem all_mk {w : PySem.World} {K : PySem.W.Frag} {h : Heap} {mg : Str → Option Value} {fa : Addr} (X : K.In h) (G : h.Ns mainGlobals mg) (hfa : mg "law" = some (.ref fa))
    {f_is_amount : Addr} {od_is_amount an_is_amount : Option Addr} {sl_is_amount : Array (Option Value)} {oc_is_amount kV_is_amount dc_is_amount pm_is_amount cd_is_amount ct_is_amount : Value}
    (a_is_amount : PySem.W.nsIn K mainGlobals "is_amount" = some (some (.ref f_is_amount))) (l_is_amount : K.lookup f_is_amount = some ⟨oc_is_amount, od_is_amount, .func (PySem.W.fnOf "is_amount" "is_amount" (defArgs s_is_amount) (defBody s_is_amount) (defScope s_is_amount) .none kV_is_amount dc_is_amount pm_is_amount an_is_amount cd_is_amount ct_is_amount), sl_is_amount⟩) (c_is_amount : PySem.W.codeIn K cd_is_amount "is_amount" = true) (k_is_amount : PySem.W.keepIn K (.ref f_is_amount) = true)
    {f_is_letter : Addr} {od_is_letter an_is_letter : Option Addr} {sl_is_letter : Array (Option Value)} {oc_is_letter kV_is_letter dc_is_letter pm_is_letter cd_is_letter ct_is_letter : Value}
    (a_is_letter : PySem.W.nsIn K mainGlobals "is_letter" = some (some (.ref f_is_letter))) (l_is_letter : K.lookup f_is_letter = some ⟨oc_is_letter, od_is_letter, .func (PySem.W.fnOf "is_letter" "is_letter" (defArgs s_is_letter) (defBody s_is_letter) (defScope s_is_letter) .none kV_is_letter dc_is_letter pm_is_letter an_is_letter cd_is_letter ct_is_letter), sl_is_letter⟩) (c_is_letter : PySem.W.codeIn K cd_is_letter "is_letter" = true) (k_is_letter : PySem.W.keepIn K (.ref f_is_letter) = true)
    {f_is_row : Addr} {od_is_row an_is_row : Option Addr} {sl_is_row : Array (Option Value)} {oc_is_row kV_is_row dc_is_row pm_is_row cd_is_row ct_is_row : Value}
    (a_is_row : PySem.W.nsIn K mainGlobals "is_row" = some (some (.ref f_is_row))) (l_is_row : K.lookup f_is_row = some ⟨oc_is_row, od_is_row, .func (PySem.W.fnOf "is_row" "is_row" (defArgs s_is_row) (defBody s_is_row) (defScope s_is_row) .none kV_is_row dc_is_row pm_is_row an_is_row cd_is_row ct_is_row), sl_is_row⟩) (c_is_row : PySem.W.codeIn K cd_is_row "is_row" = true) (k_is_row : PySem.W.keepIn K (.ref f_is_row) = true)
    {f_is_pair : Addr} {od_is_pair an_is_pair : Option Addr} {sl_is_pair : Array (Option Value)} {oc_is_pair kV_is_pair dc_is_pair pm_is_pair cd_is_pair ct_is_pair : Value}
    (a_is_pair : PySem.W.nsIn K mainGlobals "is_pair" = some (some (.ref f_is_pair))) (l_is_pair : K.lookup f_is_pair = some ⟨oc_is_pair, od_is_pair, .func (PySem.W.fnOf "is_pair" "is_pair" (defArgs s_is_pair) (defBody s_is_pair) (defScope s_is_pair) .none kV_is_pair dc_is_pair pm_is_pair an_is_pair cd_is_pair ct_is_pair), sl_is_pair⟩) (c_is_pair : PySem.W.codeIn K cd_is_pair "is_pair" = true) (k_is_pair : PySem.W.keepIn K (.ref f_is_pair) = true)
    {f_is_place : Addr} {od_is_place an_is_place : Option Addr} {sl_is_place : Array (Option Value)} {oc_is_place kV_is_place dc_is_place pm_is_place cd_is_place ct_is_place : Value}
    (a_is_place : PySem.W.nsIn K mainGlobals "is_place" = some (some (.ref f_is_place))) (l_is_place : K.lookup f_is_place = some ⟨oc_is_place, od_is_place, .func (PySem.W.fnOf "is_place" "is_place" (defArgs s_is_place) (defBody s_is_place) (defScope s_is_place) .none kV_is_place dc_is_place pm_is_place an_is_place cd_is_place ct_is_place), sl_is_place⟩) (c_is_place : PySem.W.codeIn K cd_is_place "is_place" = true) (k_is_place : PySem.W.keepIn K (.ref f_is_place) = true)
    {f_is_event_of : Addr} {od_is_event_of an_is_event_of : Option Addr} {sl_is_event_of : Array (Option Value)} {oc_is_event_of kV_is_event_of dc_is_event_of pm_is_event_of cd_is_event_of ct_is_event_of : Value}
    (a_is_event_of : PySem.W.nsIn K mainGlobals "is_event_of" = some (some (.ref f_is_event_of))) (l_is_event_of : K.lookup f_is_event_of = some ⟨oc_is_event_of, od_is_event_of, .func (PySem.W.fnOf "is_event_of" "is_event_of" (defArgs s_is_event_of) (defBody s_is_event_of) (defScope s_is_event_of) .none kV_is_event_of dc_is_event_of pm_is_event_of an_is_event_of cd_is_event_of ct_is_event_of), sl_is_event_of⟩) (c_is_event_of : PySem.W.codeIn K cd_is_event_of "is_event_of" = true) (k_is_event_of : PySem.W.keepIn K (.ref f_is_event_of) = true)
    {f_need_row : Addr} {od_need_row an_need_row : Option Addr} {sl_need_row : Array (Option Value)} {oc_need_row kV_need_row dc_need_row pm_need_row cd_need_row ct_need_row : Value}
    (a_need_row : PySem.W.nsIn K mainGlobals "need_row" = some (some (.ref f_need_row))) (l_need_row : K.lookup f_need_row = some ⟨oc_need_row, od_need_row, .func (PySem.W.fnOf "need_row" "need_row" (defArgs s_need_row) (defBody s_need_row) (defScope s_need_row) .none kV_need_row dc_need_row pm_need_row an_need_row cd_need_row ct_need_row), sl_need_row⟩) (c_need_row : PySem.W.codeIn K cd_need_row "need_row" = true) (k_need_row : PySem.W.keepIn K (.ref f_need_row) = true)
    {f_need_pair : Addr} {od_need_pair an_need_pair : Option Addr} {sl_need_pair : Array (Option Value)} {oc_need_pair kV_need_pair dc_need_pair pm_need_pair cd_need_pair ct_need_pair : Value}
    (a_need_pair : PySem.W.nsIn K mainGlobals "need_pair" = some (some (.ref f_need_pair))) (l_need_pair : K.lookup f_need_pair = some ⟨oc_need_pair, od_need_pair, .func (PySem.W.fnOf "need_pair" "need_pair" (defArgs s_need_pair) (defBody s_need_pair) (defScope s_need_pair) .none kV_need_pair dc_need_pair pm_need_pair an_need_pair cd_need_pair ct_need_pair), sl_need_pair⟩) (c_need_pair : PySem.W.codeIn K cd_need_pair "need_pair" = true) (k_need_pair : PySem.W.keepIn K (.ref f_need_pair) = true)
    {f_are_events : Addr} {od_are_events an_are_events : Option Addr} {sl_are_events : Array (Option Value)} {oc_are_events kV_are_events dc_are_events pm_are_events cd_are_events ct_are_events : Value}
    (a_are_events : PySem.W.nsIn K mainGlobals "are_events" = some (some (.ref f_are_events))) (l_are_events : K.lookup f_are_events = some ⟨oc_are_events, od_are_events, .func (PySem.W.fnOf "are_events" "are_events" (defArgs s_are_events) (defBody s_are_events) (defScope s_are_events) .none kV_are_events dc_are_events pm_are_events an_are_events cd_are_events ct_are_events), sl_are_events⟩) (c_are_events : PySem.W.codeIn K cd_are_events "are_events" = true) (k_are_events : PySem.W.keepIn K (.ref f_are_events) = true)
    {f_need_events : Addr} {od_need_events an_need_events : Option Addr} {sl_need_events : Array (Option Value)} {oc_need_events kV_need_events dc_need_events pm_need_events cd_need_events ct_need_events : Value}
    (a_need_events : PySem.W.nsIn K mainGlobals "need_events" = some (some (.ref f_need_events))) (l_need_events : K.lookup f_need_events = some ⟨oc_need_events, od_need_events, .func (PySem.W.fnOf "need_events" "need_events" (defArgs s_need_events) (defBody s_need_events) (defScope s_need_events) .none kV_need_events dc_need_events pm_need_events an_need_events cd_need_events ct_need_events), sl_need_events⟩) (c_need_events : PySem.W.codeIn K cd_need_events "need_events" = true) (k_need_events : PySem.W.keepIn K (.ref f_need_events) = true)
    {f_need_letters : Addr} {od_need_letters an_need_letters : Option Addr} {sl_need_letters : Array (Option Value)} {oc_need_letters kV_need_letters dc_need_letters pm_need_letters cd_need_letters ct_need_letters : Value}
    (a_need_letters : PySem.W.nsIn K mainGlobals "need_letters" = some (some (.ref f_need_letters))) (l_need_letters : K.lookup f_need_letters = some ⟨oc_need_letters, od_need_letters, .func (PySem.W.fnOf "need_letters" "need_letters" (defArgs s_need_letters) (defBody s_need_letters) (defScope s_need_letters) .none kV_need_letters dc_need_letters pm_need_letters an_need_letters cd_need_letters ct_need_letters), sl_need_letters⟩) (c_need_letters : PySem.W.codeIn K cd_need_letters "need_letters" = true) (k_need_letters : PySem.W.keepIn K (.ref f_need_letters) = true)
    {f_to_front : Addr} {od_to_front an_to_front : Option Addr} {sl_to_front : Array (Option Value)} {oc_to_front kV_to_front dc_to_front pm_to_front cd_to_front ct_to_front : Value}
    (a_to_front : PySem.W.nsIn K mainGlobals "to_front" = some (some (.ref f_to_front))) (l_to_front : K.lookup f_to_front = some ⟨oc_to_front, od_to_front, .func (PySem.W.fnOf "to_front" "to_front" (defArgs s_to_front) (defBody s_to_front) (defScope s_to_front) .none kV_to_front dc_to_front pm_to_front an_to_front cd_to_front ct_to_front), sl_to_front⟩) (c_to_front : PySem.W.codeIn K cd_to_front "to_front" = true) (k_to_front : PySem.W.keepIn K (.ref f_to_front) = true)
    {f_done : Addr} {od_done an_done : Option Addr} {sl_done : Array (Option Value)} {oc_done kV_done dc_done pm_done cd_done ct_done : Value}
    (a_done : PySem.W.nsIn K mainGlobals "done" = some (some (.ref f_done))) (l_done : K.lookup f_done = some ⟨oc_done, od_done, .func (PySem.W.fnOf "done" "done" (defArgs s_done) (defBody s_done) (defScope s_done) .none kV_done dc_done pm_done an_done cd_done ct_done), sl_done⟩) (c_done : PySem.W.codeIn K cd_done "done" = true) (k_done : PySem.W.keepIn K (.ref f_done) = true)
    {f_gone : Addr} {od_gone an_gone : Option Addr} {sl_gone : Array (Option Value)} {oc_gone kV_gone dc_gone pm_gone cd_gone ct_gone : Value}
    (a_gone : PySem.W.nsIn K mainGlobals "gone" = some (some (.ref f_gone))) (l_gone : K.lookup f_gone = some ⟨oc_gone, od_gone, .func (PySem.W.fnOf "gone" "gone" (defArgs s_gone) (defBody s_gone) (defScope s_gone) .none kV_gone dc_gone pm_gone an_gone cd_gone ct_gone), sl_gone⟩) (c_gone : PySem.W.codeIn K cd_gone "gone" = true) (k_gone : PySem.W.keepIn K (.ref f_gone) = true)
    {f_go : Addr} {od_go an_go : Option Addr} {sl_go : Array (Option Value)} {oc_go kV_go dc_go pm_go cd_go ct_go : Value}
    (a_go : PySem.W.nsIn K mainGlobals "go" = some (some (.ref f_go))) (l_go : K.lookup f_go = some ⟨oc_go, od_go, .func (PySem.W.fnOf "go" "go" (defArgs s_go) (defBody s_go) (defScope s_go) .none kV_go dc_go pm_go an_go cd_go ct_go), sl_go⟩) (c_go : PySem.W.codeIn K cd_go "go" = true) (k_go : PySem.W.keepIn K (.ref f_go) = true)
    {f_rows_by : Addr} {od_rows_by an_rows_by : Option Addr} {sl_rows_by : Array (Option Value)} {oc_rows_by kV_rows_by dc_rows_by pm_rows_by cd_rows_by ct_rows_by : Value}
    (a_rows_by : PySem.W.nsIn K mainGlobals "rows_by" = some (some (.ref f_rows_by))) (l_rows_by : K.lookup f_rows_by = some ⟨oc_rows_by, od_rows_by, .func (PySem.W.fnOf "rows_by" "rows_by" (defArgs s_rows_by) (defBody s_rows_by) (defScope s_rows_by) .none kV_rows_by dc_rows_by pm_rows_by an_rows_by cd_rows_by ct_rows_by), sl_rows_by⟩) (c_rows_by : PySem.W.codeIn K cd_rows_by "rows_by" = true) (k_rows_by : PySem.W.keepIn K (.ref f_rows_by) = true)
    {f_places_of : Addr} {od_places_of an_places_of : Option Addr} {sl_places_of : Array (Option Value)} {oc_places_of kV_places_of dc_places_of pm_places_of cd_places_of ct_places_of : Value}
    (a_places_of : PySem.W.nsIn K mainGlobals "places_of" = some (some (.ref f_places_of))) (l_places_of : K.lookup f_places_of = some ⟨oc_places_of, od_places_of, .func (PySem.W.fnOf "places_of" "places_of" (defArgs s_places_of) (defBody s_places_of) (defScope s_places_of) .none kV_places_of dc_places_of pm_places_of an_places_of cd_places_of ct_places_of), sl_places_of⟩) (c_places_of : PySem.W.codeIn K cd_places_of "places_of" = true) (k_places_of : PySem.W.keepIn K (.ref f_places_of) = true)
    {f_said_of : Addr} {od_said_of an_said_of : Option Addr} {sl_said_of : Array (Option Value)} {oc_said_of kV_said_of dc_said_of pm_said_of cd_said_of ct_said_of : Value}
    (a_said_of : PySem.W.nsIn K mainGlobals "said_of" = some (some (.ref f_said_of))) (l_said_of : K.lookup f_said_of = some ⟨oc_said_of, od_said_of, .func (PySem.W.fnOf "said_of" "said_of" (defArgs s_said_of) (defBody s_said_of) (defScope s_said_of) .none kV_said_of dc_said_of pm_said_of an_said_of cd_said_of ct_said_of), sl_said_of⟩) (c_said_of : PySem.W.codeIn K cd_said_of "said_of" = true) (k_said_of : PySem.W.keepIn K (.ref f_said_of) = true)
    {f__law_cell_at : Addr} {od__law_cell_at an__law_cell_at : Option Addr} {sl__law_cell_at : Array (Option Value)} {oc__law_cell_at kV__law_cell_at dc__law_cell_at pm__law_cell_at cd__law_cell_at ct__law_cell_at : Value}
    (a__law_cell_at : PySem.W.nsIn K mainGlobals "_law_cell_at" = some (some (.ref f__law_cell_at))) (l__law_cell_at : K.lookup f__law_cell_at = some ⟨oc__law_cell_at, od__law_cell_at, .func (PySem.W.fnOf "_law_cell_at" "_law_cell_at" (defArgs s__law_cell_at) (defBody s__law_cell_at) (defScope s__law_cell_at) .none kV__law_cell_at dc__law_cell_at pm__law_cell_at an__law_cell_at cd__law_cell_at ct__law_cell_at), sl__law_cell_at⟩) (c__law_cell_at : PySem.W.codeIn K cd__law_cell_at "_law_cell_at" = true) (k__law_cell_at : PySem.W.keepIn K (.ref f__law_cell_at) = true)
    {f__law_bag : Addr} {od__law_bag an__law_bag : Option Addr} {sl__law_bag : Array (Option Value)} {oc__law_bag kV__law_bag dc__law_bag pm__law_bag cd__law_bag ct__law_bag : Value}
    (a__law_bag : PySem.W.nsIn K mainGlobals "_law_bag" = some (some (.ref f__law_bag))) (l__law_bag : K.lookup f__law_bag = some ⟨oc__law_bag, od__law_bag, .func (PySem.W.fnOf "_law_bag" "_law_bag" (defArgs s__law_bag) (defBody s__law_bag) (defScope s__law_bag) .none kV__law_bag dc__law_bag pm__law_bag an__law_bag cd__law_bag ct__law_bag), sl__law_bag⟩) (c__law_bag : PySem.W.codeIn K cd__law_bag "_law_bag" = true) (k__law_bag : PySem.W.keepIn K (.ref f__law_bag) = true)
    {f__law_draw : Addr} {od__law_draw an__law_draw : Option Addr} {sl__law_draw : Array (Option Value)} {oc__law_draw kV__law_draw dc__law_draw pm__law_draw cd__law_draw ct__law_draw : Value}
    (a__law_draw : PySem.W.nsIn K mainGlobals "_law_draw" = some (some (.ref f__law_draw))) (l__law_draw : K.lookup f__law_draw = some ⟨oc__law_draw, od__law_draw, .func (PySem.W.fnOf "_law_draw" "_law_draw" (defArgs s__law_draw) (defBody s__law_draw) (defScope s__law_draw) .none kV__law_draw dc__law_draw pm__law_draw an__law_draw cd__law_draw ct__law_draw), sl__law_draw⟩) (c__law_draw : PySem.W.codeIn K cd__law_draw "_law_draw" = true) (k__law_draw : PySem.W.keepIn K (.ref f__law_draw) = true)
    {f__law_line : Addr} {od__law_line an__law_line : Option Addr} {sl__law_line : Array (Option Value)} {oc__law_line kV__law_line dc__law_line pm__law_line cd__law_line ct__law_line : Value}
    (a__law_line : PySem.W.nsIn K mainGlobals "_law_line" = some (some (.ref f__law_line))) (l__law_line : K.lookup f__law_line = some ⟨oc__law_line, od__law_line, .func (PySem.W.fnOf "_law_line" "_law_line" (defArgs s__law_line) (defBody s__law_line) (defScope s__law_line) .none kV__law_line dc__law_line pm__law_line an__law_line cd__law_line ct__law_line), sl__law_line⟩) (c__law_line : PySem.W.codeIn K cd__law_line "_law_line" = true) (k__law_line : PySem.W.keepIn K (.ref f__law_line) = true)
    {f__law_mixed : Addr} {od__law_mixed an__law_mixed : Option Addr} {sl__law_mixed : Array (Option Value)} {oc__law_mixed kV__law_mixed dc__law_mixed pm__law_mixed cd__law_mixed ct__law_mixed : Value}
    (a__law_mixed : PySem.W.nsIn K mainGlobals "_law_mixed" = some (some (.ref f__law_mixed))) (l__law_mixed : K.lookup f__law_mixed = some ⟨oc__law_mixed, od__law_mixed, .func (PySem.W.fnOf "_law_mixed" "_law_mixed" (defArgs s__law_mixed) (defBody s__law_mixed) (defScope s__law_mixed) .none kV__law_mixed dc__law_mixed pm__law_mixed an__law_mixed cd__law_mixed ct__law_mixed), sl__law_mixed⟩) (c__law_mixed : PySem.W.codeIn K cd__law_mixed "_law_mixed" = true) (k__law_mixed : PySem.W.keepIn K (.ref f__law_mixed) = true)
    {f__law_front : Addr} {od__law_front an__law_front : Option Addr} {sl__law_front : Array (Option Value)} {oc__law_front kV__law_front dc__law_front pm__law_front cd__law_front ct__law_front : Value}
    (a__law_front : PySem.W.nsIn K mainGlobals "_law_front" = some (some (.ref f__law_front))) (l__law_front : K.lookup f__law_front = some ⟨oc__law_front, od__law_front, .func (PySem.W.fnOf "_law_front" "_law_front" (defArgs s__law_front) (defBody s__law_front) (defScope s__law_front) .none kV__law_front dc__law_front pm__law_front an__law_front cd__law_front ct__law_front), sl__law_front⟩) (c__law_front : PySem.W.codeIn K cd__law_front "_law_front" = true) (k__law_front : PySem.W.keepIn K (.ref f__law_front) = true)
    {f__law_alike : Addr} {od__law_alike an__law_alike : Option Addr} {sl__law_alike : Array (Option Value)} {oc__law_alike kV__law_alike dc__law_alike pm__law_alike cd__law_alike ct__law_alike : Value}
    (a__law_alike : PySem.W.nsIn K mainGlobals "_law_alike" = some (some (.ref f__law_alike))) (l__law_alike : K.lookup f__law_alike = some ⟨oc__law_alike, od__law_alike, .func (PySem.W.fnOf "_law_alike" "_law_alike" (defArgs s__law_alike) (defBody s__law_alike) (defScope s__law_alike) .none kV__law_alike dc__law_alike pm__law_alike an__law_alike cd__law_alike ct__law_alike), sl__law_alike⟩) (c__law_alike : PySem.W.codeIn K cd__law_alike "_law_alike" = true) (k__law_alike : PySem.W.keepIn K (.ref f__law_alike) = true)
    {f__law_places : Addr} {od__law_places an__law_places : Option Addr} {sl__law_places : Array (Option Value)} {oc__law_places kV__law_places dc__law_places pm__law_places cd__law_places ct__law_places : Value}
    (a__law_places : PySem.W.nsIn K mainGlobals "_law_places" = some (some (.ref f__law_places))) (l__law_places : K.lookup f__law_places = some ⟨oc__law_places, od__law_places, .func (PySem.W.fnOf "_law_places" "_law_places" (defArgs s__law_places) (defBody s__law_places) (defScope s__law_places) .none kV__law_places dc__law_places pm__law_places an__law_places cd__law_places ct__law_places), sl__law_places⟩) (c__law_places : PySem.W.codeIn K cd__law_places "_law_places" = true) (k__law_places : PySem.W.keepIn K (.ref f__law_places) = true)
    {f__law_right : Addr} {od__law_right an__law_right : Option Addr} {sl__law_right : Array (Option Value)} {oc__law_right kV__law_right dc__law_right pm__law_right cd__law_right ct__law_right : Value}
    (a__law_right : PySem.W.nsIn K mainGlobals "_law_right" = some (some (.ref f__law_right))) (l__law_right : K.lookup f__law_right = some ⟨oc__law_right, od__law_right, .func (PySem.W.fnOf "_law_right" "_law_right" (defArgs s__law_right) (defBody s__law_right) (defScope s__law_right) .none kV__law_right dc__law_right pm__law_right an__law_right cd__law_right ct__law_right), sl__law_right⟩) (c__law_right : PySem.W.codeIn K cd__law_right "_law_right" = true) (k__law_right : PySem.W.keepIn K (.ref f__law_right) = true)
    {f_law : Addr} {od_law an_law : Option Addr} {sl_law : Array (Option Value)} {oc_law kV_law dc_law pm_law cd_law ct_law : Value}
    (a_law : PySem.W.nsIn K mainGlobals "law" = some (some (.ref f_law))) (l_law : K.lookup f_law = some ⟨oc_law, od_law, .func (PySem.W.fnOf "law" "law" (defArgs s_law) (defBody s_law) (defScope s_law) .none kV_law dc_law pm_law an_law cd_law ct_law), sl_law⟩) (c_law : PySem.W.codeIn K cd_law "law" = true) (k_law : PySem.W.keepIn K (.ref f_law) = true)
    {t_LETTERS : Tok} (a_LETTERS : PySem.W.nsIn K mainGlobals "LETTERS" = some (some (.str "abcdefghijklmnopqrstuvwxyz" t_LETTERS)))
    {t_MOST_LETTERS : Tok} (a_MOST_LETTERS : PySem.W.nsIn K mainGlobals "MOST_LETTERS" = some (some (.int 16 t_MOST_LETTERS)))
    {p_PLACED : Addr} {t0_PLACED t1_PLACED t2_PLACED : Tok} {n_PLACED : Nat} {sl_PLACED : Array (Option Value)} (a_PLACED : PySem.W.nsIn K mainGlobals "PLACED" = some (some (.ref p_PLACED))) (l_PLACED : K.lookup p_PLACED = some ⟨.type "tuple", none, .seq #[.str "place" t0_PLACED, .str "lost" t1_PLACED, .str "twice" t2_PLACED] n_PLACED, sl_PLACED⟩)
    {t_NAME : Tok} (a_NAME : PySem.W.nsIn K mainGlobals "NAME" = some (some (.str "name" t_NAME)))
    {t_AS : Tok} (a_AS : PySem.W.nsIn K mainGlobals "AS" = some (some (.str "as" t_AS)))
    (z_all : PySem.W.nsIn K mainGlobals "all" = some none)
    (z_bool : PySem.W.nsIn K mainGlobals "bool" = some none)
    (z_dict : PySem.W.nsIn K mainGlobals "dict" = some none)
    (z_int : PySem.W.nsIn K mainGlobals "int" = some none)
    (z_isinstance : PySem.W.nsIn K mainGlobals "isinstance" = some none)
    (z_len : PySem.W.nsIn K mainGlobals "len" = some none)
    (z_list : PySem.W.nsIn K mainGlobals "list" = some none)
    (z_max : PySem.W.nsIn K mainGlobals "max" = some none)
    (z_min : PySem.W.nsIn K mainGlobals "min" = some none)
    (z_range : PySem.W.nsIn K mainGlobals "range" = some none)
    (z_set : PySem.W.nsIn K mainGlobals "set" = some none)
    (z_sorted : PySem.W.nsIn K mainGlobals "sorted" = some none)
    (z_str : PySem.W.nsIn K mainGlobals "str" = some none)
    (z_tuple : PySem.W.nsIn K mainGlobals "tuple" = some none)
    (z_zip : PySem.W.nsIn K mainGlobals "zip" = some none) :
    ∃ fd : FuncData, (∀ (s : Shared) (v : Value), BindsTo s fd ⟨[v], []⟩ [("script", v)]) ∧ ∀ base : Heap, K.In base → base.Ns mainGlobals mg → FnOk PySem.Challenge.rw_twonames_k40_whole_heard_by_places.prog w K mg base (L2.CX PySem.Challenge.rw_twonames_k40_whole_heard_by_places.prog w) 8 fa fd ["script"] (spF K 1 m_law) := by
  have e := hfa.symm.trans (PySem.W.mg_of X G a_law)
  cases e
  let T : Txt K mg := ⟨f_is_amount, _, fun_mk (st := s_is_amount) l_is_amount c_is_amount k_is_amount, (fun_mk (st := s_is_amount) l_is_amount c_is_amount k_is_amount).binds (ps := ["thing"]) (fun _ _ _ _ _ _ us hl => match us, hl with | [_], _ => rfl), PySem.W.mg_of X G a_is_amount,
    f_is_letter, _, fun_mk (st := s_is_letter) l_is_letter c_is_letter k_is_letter, (fun_mk (st := s_is_letter) l_is_letter c_is_letter k_is_letter).binds (ps := ["thing"]) (fun _ _ _ _ _ _ us hl => match us, hl with | [_], _ => rfl), PySem.W.mg_of X G a_is_letter,
    f_is_row, _, fun_mk (st := s_is_row) l_is_row c_is_row k_is_row, (fun_mk (st := s_is_row) l_is_row c_is_row k_is_row).binds (ps := ["thing"]) (fun _ _ _ _ _ _ us hl => match us, hl with | [_], _ => rfl), PySem.W.mg_of X G a_is_row,
    f_is_pair, _, fun_mk (st := s_is_pair) l_is_pair c_is_pair k_is_pair, (fun_mk (st := s_is_pair) l_is_pair c_is_pair k_is_pair).binds (ps := ["thing"]) (fun _ _ _ _ _ _ us hl => match us, hl with | [_], _ => rfl), PySem.W.mg_of X G a_is_pair,
    f_is_place, _, fun_mk (st := s_is_place) l_is_place c_is_place k_is_place, (fun_mk (st := s_is_place) l_is_place c_is_place k_is_place).binds (ps := ["thing", "many"]) (fun _ _ _ _ _ _ us hl => match us, hl with | [_, _], _ => rfl), PySem.W.mg_of X G a_is_place,
    f_is_event_of, _, fun_mk (st := s_is_event_of) l_is_event_of c_is_event_of k_is_event_of, (fun_mk (st := s_is_event_of) l_is_event_of c_is_event_of k_is_event_of).binds (ps := ["letters", "many", "thing"]) (fun _ _ _ _ _ _ us hl => match us, hl with | [_, _, _], _ => rfl), PySem.W.mg_of X G a_is_event_of,
    f_need_row, _, fun_mk (st := s_need_row) l_need_row c_need_row k_need_row, (fun_mk (st := s_need_row) l_need_row c_need_row k_need_row).binds (ps := ["row"]) (fun _ _ _ _ _ _ us hl => match us, hl with | [_], _ => rfl), PySem.W.mg_of X G a_need_row,
    f_need_pair, _, fun_mk (st := s_need_pair) l_need_pair c_need_pair k_need_pair, (fun_mk (st := s_need_pair) l_need_pair c_need_pair k_need_pair).binds (ps := ["pair"]) (fun _ _ _ _ _ _ us hl => match us, hl with | [_], _ => rfl), PySem.W.mg_of X G a_need_pair,
    f_are_events, _, fun_mk (st := s_are_events) l_are_events c_are_events k_are_events, (fun_mk (st := s_are_events) l_are_events c_are_events k_are_events).binds (ps := ["pair", "thing"]) (fun _ _ _ _ _ _ us hl => match us, hl with | [_, _], _ => rfl), PySem.W.mg_of X G a_are_events,
    f_need_events, _, fun_mk (st := s_need_events) l_need_events c_need_events k_need_events, (fun_mk (st := s_need_events) l_need_events c_need_events k_need_events).binds (ps := ["pair", "events"]) (fun _ _ _ _ _ _ us hl => match us, hl with | [_, _], _ => rfl), PySem.W.mg_of X G a_need_events,
    f_need_letters, _, fun_mk (st := s_need_letters) l_need_letters c_need_letters k_need_letters, (fun_mk (st := s_need_letters) l_need_letters c_need_letters k_need_letters).binds (ps := ["row", "letters"]) (fun _ _ _ _ _ _ us hl => match us, hl with | [_, _], _ => rfl), PySem.W.mg_of X G a_need_letters,
    f_to_front, _, fun_mk (st := s_to_front) l_to_front c_to_front k_to_front, (fun_mk (st := s_to_front) l_to_front c_to_front k_to_front).binds (ps := ["row", "place"]) (fun _ _ _ _ _ _ us hl => match us, hl with | [_, _], _ => rfl), PySem.W.mg_of X G a_to_front,
    f_done, _, fun_mk (st := s_done) l_done c_done k_done, (fun_mk (st := s_done) l_done c_done k_done).binds (ps := ["told", "heard", "event"]) (fun _ _ _ _ _ _ us hl => match us, hl with | [_, _, _], _ => rfl), PySem.W.mg_of X G a_done,
    f_gone, _, fun_mk (st := s_gone) l_gone c_gone k_gone, (fun_mk (st := s_gone) l_gone c_gone k_gone).binds (ps := ["pair", "events"]) (fun _ _ _ _ _ _ us hl => match us, hl with | [_, _], _ => rfl), PySem.W.mg_of X G a_gone,
    f_go, _, fun_mk (st := s_go) l_go c_go k_go, (fun_mk (st := s_go) l_go c_go k_go).binds (ps := ["pair", "events"]) (fun _ _ _ _ _ _ us hl => match us, hl with | [_, _], _ => rfl), PySem.W.mg_of X G a_go,
    f_rows_by, _, fun_mk (st := s_rows_by) l_rows_by c_rows_by k_rows_by, (fun_mk (st := s_rows_by) l_rows_by c_rows_by k_rows_by).binds (ps := ["row", "letters"]) (fun _ _ _ _ _ _ us hl => match us, hl with | [_, _], _ => rfl), PySem.W.mg_of X G a_rows_by,
    f_places_of, _, fun_mk (st := s_places_of) l_places_of c_places_of k_places_of, (fun_mk (st := s_places_of) l_places_of c_places_of k_places_of).binds (ps := ["row", "said"]) (fun _ _ _ _ _ _ us hl => match us, hl with | [_, _], _ => rfl), PySem.W.mg_of X G a_places_of,
    f_said_of, _, fun_mk (st := s_said_of) l_said_of c_said_of k_said_of, (fun_mk (st := s_said_of) l_said_of c_said_of k_said_of).binds (ps := ["row", "places"]) (fun _ _ _ _ _ _ us hl => match us, hl with | [_, _], _ => rfl), PySem.W.mg_of X G a_said_of,
    f__law_cell_at, _, fun_mk (st := s__law_cell_at) l__law_cell_at c__law_cell_at k__law_cell_at, (fun_mk (st := s__law_cell_at) l__law_cell_at c__law_cell_at k__law_cell_at).binds (ps := ["script", "k"]) (fun _ _ _ _ _ _ us hl => match us, hl with | [_, _], _ => rfl), PySem.W.mg_of X G a__law_cell_at,
    f__law_bag, _, fun_mk (st := s__law_bag) l__law_bag c__law_bag k__law_bag, (fun_mk (st := s__law_bag) l__law_bag c__law_bag k__law_bag).binds (ps := ["cell"]) (fun _ _ _ _ _ _ us hl => match us, hl with | [_], _ => rfl), PySem.W.mg_of X G a__law_bag,
    f__law_draw, _, fun_mk (st := s__law_draw) l__law_draw c__law_draw k__law_draw, (fun_mk (st := s__law_draw) l__law_draw c__law_draw k__law_draw).binds (ps := ["bag", "sides"]) (fun _ _ _ _ _ _ us hl => match us, hl with | [_, _], _ => rfl), PySem.W.mg_of X G a__law_draw,
    f__law_line, _, fun_mk (st := s__law_line) l__law_line c__law_line k__law_line, (fun_mk (st := s__law_line) l__law_line c__law_line k__law_line).binds (ps := ["bag", "upto"]) (fun _ _ _ _ _ _ us hl => match us, hl with | [_, _], _ => rfl), PySem.W.mg_of X G a__law_line,
    f__law_mixed, _, fun_mk (st := s__law_mixed) l__law_mixed c__law_mixed k__law_mixed, (fun_mk (st := s__law_mixed) l__law_mixed c__law_mixed k__law_mixed).binds (ps := ["bag", "line"]) (fun _ _ _ _ _ _ us hl => match us, hl with | [_, _], _ => rfl), PySem.W.mg_of X G a__law_mixed,
    f__law_front, _, fun_mk (st := s__law_front) l__law_front c__law_front k__law_front, (fun_mk (st := s__law_front) l__law_front c__law_front k__law_front).binds (ps := ["line", "spot"]) (fun _ _ _ _ _ _ us hl => match us, hl with | [_, _], _ => rfl), PySem.W.mg_of X G a__law_front,
    f__law_alike, _, fun_mk (st := s__law_alike) l__law_alike c__law_alike k__law_alike, (fun_mk (st := s__law_alike) l__law_alike c__law_alike k__law_alike).binds (ps := ["found", "due"]) (fun _ _ _ _ _ _ us hl => match us, hl with | [_, _], _ => rfl), PySem.W.mg_of X G a__law_alike,
    f__law_places, _, fun_mk (st := s__law_places) l__law_places c__law_places k__law_places, (fun_mk (st := s__law_places) l__law_places c__law_places k__law_places).binds (ps := ["line", "said_now"]) (fun _ _ _ _ _ _ us hl => match us, hl with | [_, _], _ => rfl), PySem.W.mg_of X G a__law_places,
    f__law_right, _, fun_mk (st := s__law_right) l__law_right c__law_right k__law_right, (fun_mk (st := s__law_right) l__law_right c__law_right k__law_right).binds (ps := ["bag"]) (fun _ _ _ _ _ _ us hl => match us, hl with | [_], _ => rfl), PySem.W.mg_of X G a__law_right,
    fa, _, fun_mk (st := s_law) l_law c_law k_law, (fun_mk (st := s_law) l_law c_law k_law).binds (ps := ["script"]) (fun _ _ _ _ _ _ us hl => match us, hl with | [_], _ => rfl), PySem.W.mg_of X G a_law,
    t_LETTERS, PySem.W.mg_of X G a_LETTERS,
    t_MOST_LETTERS, PySem.W.mg_of X G a_MOST_LETTERS,
    p_PLACED, PySem.W.mg_of X G a_PLACED, (fun _ _ => .tup (.inr ⟨_, _, _, l_PLACED, rfl, rfl, rfl, (show (3 : Nat) ≤ sizeLine by decide), (.cons (show RelV (.str "place") (.str "place" t0_PLACED) from ⟨_, rfl⟩) (.cons (show RelV (.str "lost") (.str "lost" t1_PLACED) from ⟨_, rfl⟩) (.cons (show RelV (.str "twice") (.str "twice" t2_PLACED) from ⟨_, rfl⟩) .nil)))⟩) (.cons (.str _) (.cons (.str _) (.cons (.str _) .nil)))),
    t_NAME, PySem.W.mg_of X G a_NAME,
    t_AS, PySem.W.mg_of X G a_AS,
    PySem.W.mg_none_of X G z_all,
    PySem.W.mg_none_of X G z_bool,
    PySem.W.mg_none_of X G z_dict,
    PySem.W.mg_none_of X G z_int,
    PySem.W.mg_none_of X G z_isinstance,
    PySem.W.mg_none_of X G z_len,
    PySem.W.mg_none_of X G z_list,
    PySem.W.mg_none_of X G z_max,
    PySem.W.mg_none_of X G z_min,
    PySem.W.mg_none_of X G z_range,
    PySem.W.mg_none_of X G z_set,
    PySem.W.mg_none_of X G z_sorted,
    PySem.W.mg_none_of X G z_str,
    PySem.W.mg_none_of X G z_tuple,
    PySem.W.mg_none_of X G z_zip⟩
  exact ⟨T.d_law, fun s v => .of_eq rfl, fun base _ _ => ok_law T⟩
end Lw
open PySem PySem.W PyProof.Rows
set_option maxHeartbeats 0 in
theorem PySem.Challenge.cw_twonames_k40_whole_heard_by_places_holds : PySem.Challenge.rw_twonames_k40_whole_heard_by_places.Holds := by
  w_on; o_law; k_head; (case hw => w_witness2)
  k_fill
  refine L2.walk_of (l := PySem.Challenge.rw_twonames_k40_whole_heard_by_places) (n := 63) (k := 8) (x := "script") (CX := fun w => L2.CX PySem.Challenge.rw_twonames_k40_whole_heard_by_places.prog w) (sp := fun w => Sim.spF _ 1 Lw.m_law) rfl (by decide) rfl ⟨rfl, by decide, by decide⟩ (fun w h Y => PySem.W.kIn_of Y) ?F (fun w H a ns hl ho hS => Sim.law_sp ns ho hS (Lw.law_all ns hl)) (fun w H s e s2 h => Sim.law_cx h)
  case F =>
    intro w mg fa h KX G hmg
    refine' Lw.all_mk KX G hmg ?a_is_amount ?l_is_amount ?c_is_amount ?k_is_amount ?a_is_letter ?l_is_letter ?c_is_letter ?k_is_letter ?a_is_row ?l_is_row ?c_is_row ?k_is_row ?a_is_pair ?l_is_pair ?c_is_pair ?k_is_pair ?a_is_place ?l_is_place ?c_is_place ?k_is_place ?a_is_event_of ?l_is_event_of ?c_is_event_of ?k_is_event_of ?a_need_row ?l_need_row ?c_need_row ?k_need_row ?a_need_pair ?l_need_pair ?c_need_pair ?k_need_pair ?a_are_events ?l_are_events ?c_are_events ?k_are_events ?a_need_events ?l_need_events ?c_need_events ?k_need_events ?a_need_letters ?l_need_letters ?c_need_letters ?k_need_letters ?a_to_front ?l_to_front ?c_to_front ?k_to_front ?a_done ?l_done ?c_done ?k_done ?a_gone ?l_gone ?c_gone ?k_gone ?a_go ?l_go ?c_go ?k_go ?a_rows_by ?l_rows_by ?c_rows_by ?k_rows_by ?a_places_of ?l_places_of ?c_places_of ?k_places_of ?a_said_of ?l_said_of ?c_said_of ?k_said_of ?a__law_cell_at ?l__law_cell_at ?c__law_cell_at ?k__law_cell_at ?a__law_bag ?l__law_bag ?c__law_bag ?k__law_bag ?a__law_draw ?l__law_draw ?c__law_draw ?k__law_draw ?a__law_line ?l__law_line ?c__law_line ?k__law_line ?a__law_mixed ?l__law_mixed ?c__law_mixed ?k__law_mixed ?a__law_front ?l__law_front ?c__law_front ?k__law_front ?a__law_alike ?l__law_alike ?c__law_alike ?k__law_alike ?a__law_places ?l__law_places ?c__law_places ?k__law_places ?a__law_right ?l__law_right ?c__law_right ?k__law_right ?a_law ?l_law ?c_law ?k_law ?a_LETTERS ?a_MOST_LETTERS ?a_PLACED ?l_PLACED ?a_NAME ?a_AS ?z_all ?z_bool ?z_dict ?z_int ?z_isinstance ?z_len ?z_list ?z_max ?z_min ?z_range ?z_set ?z_sorted ?z_str ?z_tuple ?z_zip
    (case a_is_amount => k_is); (case l_is_amount => k_is); (case c_is_amount => k_is); (case k_is_amount => k_is); (case a_is_letter => k_is); (case l_is_letter => k_is); (case c_is_letter => k_is); (case k_is_letter => k_is); (case a_is_row => k_is); (case l_is_row => k_is); (case c_is_row => k_is); (case k_is_row => k_is); (case a_is_pair => k_is); (case l_is_pair => k_is); (case c_is_pair => k_is); (case k_is_pair => k_is); (case a_is_place => k_is); (case l_is_place => k_is); (case c_is_place => k_is); (case k_is_place => k_is); (case a_is_event_of => k_is); (case l_is_event_of => k_is); (case c_is_event_of => k_is); (case k_is_event_of => k_is); (case a_need_row => k_is); (case l_need_row => k_is); (case c_need_row => k_is); (case k_need_row => k_is); (case a_need_pair => k_is); (case l_need_pair => k_is); (case c_need_pair => k_is); (case k_need_pair => k_is); (case a_are_events => k_is); (case l_are_events => k_is); (case c_are_events => k_is); (case k_are_events => k_is); (case a_need_events => k_is); (case l_need_events => k_is); (case c_need_events => k_is); (case k_need_events => k_is); (case a_need_letters => k_is); (case l_need_letters => k_is); (case c_need_letters => k_is); (case k_need_letters => k_is); (case a_to_front => k_is); (case l_to_front => k_is); (case c_to_front => k_is); (case k_to_front => k_is); (case a_done => k_is); (case l_done => k_is); (case c_done => k_is); (case k_done => k_is); (case a_gone => k_is); (case l_gone => k_is); (case c_gone => k_is); (case k_gone => k_is); (case a_go => k_is); (case l_go => k_is); (case c_go => k_is); (case k_go => k_is); (case a_rows_by => k_is); (case l_rows_by => k_is); (case c_rows_by => k_is); (case k_rows_by => k_is); (case a_places_of => k_is); (case l_places_of => k_is); (case c_places_of => k_is); (case k_places_of => k_is); (case a_said_of => k_is); (case l_said_of => k_is); (case c_said_of => k_is); (case k_said_of => k_is); (case a__law_cell_at => k_is); (case l__law_cell_at => k_is); (case c__law_cell_at => k_is); (case k__law_cell_at => k_is); (case a__law_bag => k_is); (case l__law_bag => k_is); (case c__law_bag => k_is); (case k__law_bag => k_is); (case a__law_draw => k_is); (case l__law_draw => k_is); (case c__law_draw => k_is); (case k__law_draw => k_is); (case a__law_line => k_is); (case l__law_line => k_is); (case c__law_line => k_is); (case k__law_line => k_is); (case a__law_mixed => k_is); (case l__law_mixed => k_is); (case c__law_mixed => k_is); (case k__law_mixed => k_is); (case a__law_front => k_is); (case l__law_front => k_is); (case c__law_front => k_is); (case k__law_front => k_is); (case a__law_alike => k_is); (case l__law_alike => k_is); (case c__law_alike => k_is); (case k__law_alike => k_is); (case a__law_places => k_is); (case l__law_places => k_is); (case c__law_places => k_is); (case k__law_places => k_is); (case a__law_right => k_is); (case l__law_right => k_is); (case c__law_right => k_is); (case k__law_right => k_is); (case a_law => k_is); (case l_law => k_is); (case c_law => k_is); (case k_law => k_is); (case a_LETTERS => k_is); (case a_MOST_LETTERS => k_is); (case a_PLACED => k_is); (case l_PLACED => k_is); (case a_NAME => k_is); (case a_AS => k_is); (case z_all => k_is); (case z_bool => k_is); (case z_dict => k_is); (case z_int => k_is); (case z_isinstance => k_is); (case z_len => k_is); (case z_list => k_is); (case z_max => k_is); (case z_min => k_is); (case z_range => k_is); (case z_set => k_is); (case z_sorted => k_is); (case z_str => k_is); (case z_tuple => k_is); (case z_zip => k_is)
end
