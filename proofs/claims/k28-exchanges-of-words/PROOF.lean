import PyProof.Rows.All
import Wide.All
import OpenK.AllK
import Wide.FinOn
import HandS.ForMost
import HandS.Walk
import HandS.Exc
import HandS.TryOnly
import HandS.ExcOwn
import HandS.Flow
import HandS.TupAny
import HandS.Style
import HandS.Wide
import HandS.WideBits
import HandS.Deep
import HandS.Zip
import HandS.IsInst
import HandS.WordsExc
import HandS.SortInts
import HandS.SortRule
import HandS.RaiseMore
import KE.GoesMore
import HandS.SetFor
import HandS.Text
import HandS.More
import HandS.TupMul
import HandS.RevTup
import KE.DataMinMax
import HandS.Dict
import PyProof.ListStr
import PyProof.TupleOfStr
import HandS.ForExc
import KE.KExcIs
import KE.KIsAll
import HandS.Strs
import PyProof.ReprRoads
import PyProof.NeKinds
import HandS.Conv
import HandS.DictComp
import PyProof.P3In
import KE.KDictZip
import HandS.StrMore
import KE.DataFind
import HandS.TupLe
import PyProof.Rows.RowBridgeK
import PySem.Challenge.RW_heappairs_k28_exchanges_of_words
set_option Elab.async false
set_option linter.all false
set_option maxRecDepth 100000
set_option maxHeartbeats 4000000
namespace G
open PySem PySem.Spec PyProof.Rows L2

inductive Val where
  | non | bl (b : Bool) | int (i : Int) | str (x : Str)
  | tup (xs : List Val) | lst (xs : List Val) | dct (kvs : List (Key × Val))
  | scr (ns : List Int)
  | cell (k : Nat) | con (v : V) | fnv (x : Str)
  | err (c : Str) (fs : List (Str × Val)) (a : Addr) (d : Option Addr)
  | prs (xs : List Val)
inductive Cell where
  | dead | lst (xs : List Val) | dct (kvs : List (Key × Val)) | ins (c : Str) (fs : List (Str × Val))
abbrev Sto := List Cell
abbrev Ev := List (Option Val)
structure Exc where
  cls : Str
  fs : List (Str × Val)
inductive Out (α : Type) where
  | ok (a : α) (S : Sto)
  | exc (e : Exc) (S : Sto)
abbrev Res (α : Type) := Option (Out α)
def bnd {α β : Type} (m : Res α) (k : α → Sto → Res β) : Res β :=
  match m with
  | some (.ok a S) => k a S
  | some (.exc e S) => some (.exc e S)
  | none => none

def SqN (K : PySem.W.Frag) (F : Hp) (a : Addr) (vs : List V) : Prop :=
  (∃ o, o.dict = none ∧ F a = some (.frz o (.tup vs))) ∨ ∃ (o : Obj) (its : Array Value) (n : Nat), K.lookup a = some o ∧ o.cls = .type "tuple" ∧ o.dict = none ∧ o.data = .seq its n ∧ its.size ≤ sizeLine ∧ Vals vs its.toList
theorem SqN.sq {K : PySem.W.Frag} {F : Hp} {a : Addr} {vs : List V} (h : SqN K F a vs) : SqT K F a vs := by
  rcases h with ⟨o, _, h⟩ | ⟨o, its, n, h1, h2, _, h3⟩
  · exact .inl (.inr ⟨o, h⟩)
  · exact .inr ⟨o, its, n, h1, h2, h3⟩
theorem SqN.same {K : PySem.W.Frag} {F F' : Hp} {a : Addr} {vs : List V} (e : Same F F') (h : SqN K F a vs) : SqN K F' a vs := by
  rcases h with ⟨o, h1, h⟩ | h
  · exact .inl ⟨o, h1, e _ _ h⟩
  · exact .inr h
theorem SqN.obj {X : Cx} {pins : List (Addr × Obj)} {σ : L2.St} {H : Hp} {s : Shared} {a : Addr} {vs : List V} (I : L2.Inv X pins σ H s) (h : SqN X.K H a vs) : ∃ o, s.heap.get? a = some o ∧ o.cls = .type "tuple" ∧ o.dict = none := by
  rcases h with ⟨o, h1, h⟩ | ⟨o, its, n, h1, h2, h3, _⟩
  · obtain ⟨q1, _, _, _, o', q2, q3, _⟩ := (show ObjOk X.prog X.w H s.heap a (.frz o (.tup vs)) from I.hok a _ h)
    rw [q1] at q2
    cases q2
    exact ⟨o, q1, q3, h1⟩
  · exact ⟨o, I.kIn _ _ h1, h2, h3⟩
mutual
inductive RepV (K : PySem.W.Frag) (F : Hp) (μ : List Addr) : Val → V → Prop where
  | non : RepV K F μ .non .non
  | bl {b : Bool} : RepV K F μ (.bl b) (.bl b)
  | int {i : Int} : RepV K F μ (.int i) (.int i)
  | str {x : Str} : RepV K F μ (.str x) (.str x)
  | tup {xs : List Val} {a : Addr} {vs : List V} : SqN K F a vs → RepL K F μ xs vs → RepV K F μ (.tup xs) (.ref a)
  | prs {xs : List Val} {a : Addr} {vs : List V} : SqT K F a vs → RepL K F μ xs vs → RepV K F μ (.prs xs) (.ref a)
  | lst {xs : List Val} {a : Addr} {vs : List V} : F a = some (.lst vs) → RepL K F μ xs vs → RepV K F μ (.lst xs) (.ref a)
  | dct {kvs : List (Key × Val)} {a : Addr} {kws : List (Key × V)} : F a = some (.dK kws) → RepD K F μ kvs kws → RepV K F μ (.dct kvs) (.ref a)
  | scr {ns : List Int} {a : Addr} : SqL K F a (ns.map V.int) → RepV K F μ (.scr ns) (.ref a)
  | cell {k : Nat} {a : Addr} : μ[k]? = some a → RepV K F μ (.cell k) (.ref a)
  | con {v : V} : RepV K F μ (.con v) v
  | fnv {x : Str} {a : Addr} : PySem.W.nsIn K mainGlobals x = some (some (.ref a)) → RepV K F μ (.fnv x) (.ref a)
  | err0 {c : Str} {a : Addr} : RepV K F μ (.err c [] a none) (.ref a)
  | err1 {c f : Str} {x : Val} {v : V} {a dx : Addr} : F dx = some (.xd [(f, v)]) → RepV K F μ x v → RepV K F μ (.err c [(f, x)] a (some dx)) (.ref a)
inductive RepL (K : PySem.W.Frag) (F : Hp) (μ : List Addr) : List Val → List V → Prop where
  | nil : RepL K F μ [] []
  | cons {x : Val} {v : V} {xs : List Val} {vs : List V} : RepV K F μ x v → RepL K F μ xs vs → RepL K F μ (x :: xs) (v :: vs)
inductive RepD (K : PySem.W.Frag) (F : Hp) (μ : List Addr) : List (Key × Val) → List (Key × V) → Prop where
  | nil : RepD K F μ [] []
  | cons {k : Key} {x : Val} {v : V} {xs : List (Key × Val)} {vs : List (Key × V)} : RepV K F μ x v → RepD K F μ xs vs → RepD K F μ ((k, x) :: xs) ((k, v) :: vs)
end
structure Ext (F : Hp) (μ : List Addr) (F' : Hp) (μ' : List Addr) : Prop where
  sub : Same F F'
  pre : μ <+: μ'
theorem Ext.refl (F : Hp) (μ : List Addr) : Ext F μ F μ := ⟨Same.refl F, List.prefix_refl μ⟩
theorem Ext.trans {F F1 F2 : Hp} {μ μ1 μ2 : List Addr} (a : Ext F μ F1 μ1) (b : Ext F1 μ1 F2 μ2) : Ext F μ F2 μ2 := ⟨a.sub.trans b.sub, a.pre.trans b.pre⟩
theorem prefix_get {α : Type} {l l' : List α} (h : l <+: l') {k : Nat} {a : α} (e : l[k]? = some a) : l'[k]? = some a := by
  obtain ⟨t, rfl⟩ := h
  have hk : k < l.length := (List.getElem?_eq_some_iff.mp e).1
  rw [List.getElem?_append_left hk]
  exact e
theorem same_seqT {K : PySem.W.Frag} {H H' : Hp} {a : Addr} {xs : List V} (e : Same H H') (h : SqT K H a xs) : SqT K H' a xs := by
  rcases h with (h | ⟨o, h⟩) | h
  · exact .inl (.inl (e _ _ h))
  · exact .inl (.inr ⟨o, e _ _ h⟩)
  · exact .inr h
section
variable {K : PySem.W.Frag} {F F' : Hp} {μ μ' : List Addr}
mutual
theorem RepV.mono (e : Ext F μ F' μ') : ∀ {x : Val} {v : V}, RepV K F μ x v → RepV K F' μ' x v
  | _, _, .non => .non
  | _, _, .bl => .bl
  | _, _, .int => .int
  | _, _, .str => .str
  | _, _, .tup h r => .tup (h.same e.sub) (RepL.mono e r)
  | _, _, .prs h r => .prs (same_seqT e.sub h) (RepL.mono e r)
  | _, _, .lst h r => .lst (e.sub _ _ h) (RepL.mono e r)
  | _, _, .dct h r => .dct (e.sub _ _ h) (RepD.mono e r)
  | _, _, .scr h => .scr (e.sub.seq h)
  | _, _, .cell h => .cell (prefix_get e.pre h)
  | _, _, .con => .con
  | _, _, .fnv h => .fnv h
  | _, _, .err0 => .err0
  | _, _, .err1 h r => .err1 (e.sub _ _ h) (RepV.mono e r)
theorem RepL.mono (e : Ext F μ F' μ') : ∀ {x : List Val} {v : List V}, RepL K F μ x v → RepL K F' μ' x v
  | _, _, .nil => .nil
  | _, _, .cons r t => .cons (RepV.mono e r) (RepL.mono e t)
theorem RepD.mono (e : Ext F μ F' μ') : ∀ {x : List (Key × Val)} {v : List (Key × V)}, RepD K F μ x v → RepD K F' μ' x v
  | _, _, .nil => .nil
  | _, _, .cons r t => .cons (RepV.mono e r) (RepD.mono e t)
end
theorem RepL.length : ∀ {xs : List Val} {vs : List V}, RepL K F μ xs vs → xs.length = vs.length
  | _, _, .nil => rfl
  | _, _, .cons _ t => congrArg (· + 1) (RepL.length t)
theorem RepL.get : ∀ {xs : List Val} {vs : List V}, RepL K F μ xs vs → ∀ {i : Nat} {x : Val}, xs[i]? = some x → ∃ v, vs[i]? = some v ∧ RepV K F μ x v
  | _, _, .nil, _, _, e => by simp at e
  | _, _, .cons r _, 0, _, e => by simp at e; subst e; exact ⟨_, rfl, r⟩
  | _, _, .cons _ t, i + 1, _, e => by
    obtain ⟨v, h1, h2⟩ := RepL.get t (i := i) (by simpa using e)
    exact ⟨v, by simpa using h1, h2⟩
theorem RepL.append : ∀ {xs ys : List Val} {vs ws : List V}, RepL K F μ xs vs → RepL K F μ ys ws → RepL K F μ (xs ++ ys) (vs ++ ws)
  | _, _, _, _, .nil, s => s
  | _, _, _, _, .cons r t, s => .cons r (RepL.append t s)
theorem RepL.take : ∀ {xs : List Val} {vs : List V} (n : Nat), RepL K F μ xs vs → RepL K F μ (xs.take n) (vs.take n)
  | _, _, 0, _ => .nil
  | _, _, _ + 1, .nil => .nil
  | _, _, n + 1, .cons r t => .cons r (RepL.take n t)
theorem RepL.drop : ∀ {xs : List Val} {vs : List V} (n : Nat), RepL K F μ xs vs → RepL K F μ (xs.drop n) (vs.drop n)
  | _, _, 0, r => r
  | _, _, _ + 1, .nil => .nil
  | _, _, n + 1, .cons _ t => RepL.drop n t
theorem RepL.set {x : Val} {v : V} (q : RepV K F μ x v) : ∀ {xs : List Val} {vs : List V} (n : Nat), RepL K F μ xs vs → RepL K F μ (xs.set n x) (vs.set n v)
  | _, _, _, .nil => .nil
  | _, _, 0, .cons _ t => .cons q t
  | _, _, n + 1, .cons r t => .cons r (RepL.set q n t)
theorem RepL.reverse {xs : List Val} {vs : List V} (h : RepL K F μ xs vs) : RepL K F μ xs.reverse vs.reverse := by
  have all : ∀ {xs : List Val} {vs : List V}, RepL K F μ xs vs → ∀ {ys : List Val} {ws : List V}, RepL K F μ ys ws → RepL K F μ (xs.reverseAux ys) (vs.reverseAux ws) := by
    intro xs
    induction xs with
    | nil => intro vs h ys ws r; cases h; exact r
    | cons x xs ih => intro vs h ys ws r; cases h with | cons p q => exact ih q (.cons p r)
  exact all h .nil
theorem RepL.one {x : Val} {vs : List V} (h : RepL K F μ [x] vs) : ∃ v, vs = [v] ∧ RepV K F μ x v := by
  cases h with | cons r t => cases t; exact ⟨_, rfl, r⟩
theorem RepL.two {x y : Val} {vs : List V} (h : RepL K F μ [x, y] vs) : ∃ v w, vs = [v, w] ∧ RepV K F μ x v ∧ RepV K F μ y w := by
  cases h with | cons r t => cases t with | cons r' t' => cases t'; exact ⟨_, _, rfl, r, r'⟩
theorem RepL.ints : ∀ {ns : List Int} {vs : List V}, RepL K F μ (ns.map Val.int) vs → vs = ns.map V.int
  | [], _, .nil => rfl
  | _ :: _, _, .cons r t => by cases r; rw [RepL.ints t]; rfl
theorem RepL.ofInts : ∀ {ns : List Int}, RepL K F μ (ns.map Val.int) (ns.map V.int)
  | [] => .nil
  | _ :: _ => .cons .int RepL.ofInts
end

theorem ne_mem {l : List Addr} {a p : Addr} (h : a ∈ l) (n : p ∉ l) : a ≠ p := fun z => n (z ▸ h)
theorem get_nodup : ∀ {l : List Addr}, l.Nodup → ∀ {i j : Nat} {a : Addr}, l[i]? = some a → l[j]? = some a → i = j := fun {l} nd {i j a} h1 h2 => by
  obtain ⟨hi, e1⟩ := List.getElem?_eq_some_iff.mp h1
  obtain ⟨hj, e2⟩ := List.getElem?_eq_some_iff.mp h2
  exact (List.getElem_inj nd).mp (e1.trans e2.symm)
section
variable (K : PySem.W.Frag) (mg : Str → Option Value)
def RepF (F : Hp) (μ : List Addr) : List (Str × Val) → List (Str × V) → Prop := fun fs gs => fs.map (·.1) = gs.map (·.1) ∧ RepL K F μ (fs.map (·.2)) (gs.map (·.2))
def CellOk (F : Hp) (μ : List Addr) (H : Hp) (a : Addr) : Cell → Prop
  | .dead => True
  | .lst xs => ∃ vs, H a = some (.lst vs) ∧ RepL K F μ xs vs
  | .dct kvs => ∃ kws, H a = some (.dK kws) ∧ RepD K F μ kvs kws
  | .ins c fs => ∃ C dx gs, mg c = some (.ref C) ∧ H a = some (.ins C dx gs) ∧ RepF K F μ fs gs
structure RepS (F H : Hp) (μ : List Addr) (S : Sto) : Prop where
  sub : Same F H
  len : μ.length = S.length
  nd : μ.Nodup
  off : ∀ a ∈ μ, F a = none
  there : ∀ a ∈ μ, ∃ o, H a = some o
  cells : ∀ (k : Nat) (a : Addr) (c : Cell), μ[k]? = some a → S[k]? = some c → CellOk K mg F μ H a c
def RepE (F : Hp) (μ : List Addr) (ρ : Ev) (σ : L2.St) : Prop := ρ.length = σ.length ∧ ∀ (i : Nat) (x : Val), ρ[i]? = some (some x) → ∃ v, σ[i]? = some (some v) ∧ RepV K F μ x v
def ExcOk (F : Hp) (μ : List Addr) (H : Hp) (e : Exc) (cls : Value) (d : Option Addr) : Prop :=
  ∃ C, mg e.cls = some (.ref C) ∧ cls = .ref C ∧ ((e.fs = [] ∧ d = none) ∨ ∃ (f : Str) (x : Val) (v : V) (dx : Addr), e.fs = [(f, x)] ∧ d = some dx ∧ F dx = some (.xd [(f, v)]) ∧ RepV K F μ x v)
end
section
variable {K : PySem.W.Frag} {mg : Str → Option Value} {F F' H H' : Hp} {μ μ' : List Addr} {S : Sto} {ρ : Ev} {σ : L2.St}
theorem RepF.mono (e : Ext F μ F' μ') {fs : List (Str × Val)} {gs : List (Str × V)} (h : RepF K F μ fs gs) : RepF K F' μ' fs gs := ⟨h.1, RepL.mono e h.2⟩
theorem CellOk.mono (e : Ext F μ F' μ') {a : Addr} (ha : H' a = H a) : ∀ {c : Cell}, CellOk K mg F μ H a c → CellOk K mg F' μ' H' a c
  | .dead, _ => trivial
  | .lst _, ⟨vs, h, r⟩ => ⟨vs, ha.trans h, RepL.mono e r⟩
  | .dct _, ⟨vs, h, r⟩ => ⟨vs, ha.trans h, RepD.mono e r⟩
  | .ins _ _, ⟨C, dx, gs, m, h, r⟩ => ⟨C, dx, gs, m, ha.trans h, r.mono e⟩
theorem RepE.mono (e : Ext F μ F' μ') (h : RepE K F μ ρ σ) : RepE K F' μ' ρ σ := ⟨h.1, fun i x q => let ⟨v, h1, h2⟩ := h.2 i x q; ⟨v, h1, RepV.mono e h2⟩⟩
theorem RepE.set (h : RepE K F μ ρ σ) {x : Val} {v : V} (r : RepV K F μ x v) (i : Nat) : RepE K F μ (ρ.set i (some x)) (σ.set i (some v)) := by
  refine ⟨by simp [h.1], fun j y q => ?_⟩
  by_cases hj : i = j
  · subst hj
    by_cases hi : i < ρ.length
    · rw [List.getElem?_set_self hi] at q
      cases q
      exact ⟨v, by rw [List.getElem?_set_self (h.1 ▸ hi)], r⟩
    · rw [List.getElem?_eq_none (by simpa using hi)] at q
      cases q
  · rw [List.getElem?_set_ne hj] at q
    rw [List.getElem?_set_ne hj]
    exact h.2 j y q
theorem RepE.unset (h : RepE K F μ ρ σ) (i : Nat) (z : Option V) : RepE K F μ (ρ.set i none) (σ.set i z) := by
  refine ⟨by simp [h.1], fun j y q => ?_⟩
  by_cases hj : i = j
  · subst hj
    by_cases hi : i < ρ.length
    · rw [List.getElem?_set_self hi] at q
      cases q
    · rw [List.getElem?_eq_none (by simpa using hi)] at q
      cases q
  · rw [List.getElem?_set_ne hj] at q
    rw [List.getElem?_set_ne hj]
    exact h.2 j y q
def Less (ρ ρ' : Ev) : Prop := ρ.length = ρ'.length ∧ ∀ (i : Nat) (x : Val), ρ[i]? = some (some x) → ρ'[i]? = some (some x)
theorem RepE.less {ρ' : Ev} (h : RepE K F μ ρ' σ) (l : Less ρ ρ') : RepE K F μ ρ σ := ⟨l.1.trans h.1, fun i x q => h.2 i x (l.2 i x q)⟩
theorem RepS.ne (h : RepS K mg F H μ S) {p : Addr} (hp : H p = none) : p ∉ μ := fun hm => by
  obtain ⟨o, e⟩ := h.there p hm
  rw [hp] at e; cases e
theorem RepS.nF (h : RepS K mg F H μ S) {p : Addr} (hp : H p = none) : F p = none := h.sub.free hp
theorem ext_upd (F : Hp) (μ : List Addr) {p : Addr} {o : HO} (hp : F p = none) : Ext F μ (upd F p o) μ :=
  ⟨fun b x e => by rw [upd_ne (ne_of_none e hp)]; exact e, List.prefix_refl μ⟩
theorem RepS.alloc (h : RepS K mg F H μ S) {p : Addr} (o : HO) (hp : H p = none) : RepS K mg (upd F p o) (upd H p o) μ S := by
  have e := ext_upd F μ (o := o) (h.nF hp)
  refine ⟨fun b x q => ?_, h.len, h.nd, fun a ha => ?_, fun a ha => ?_, fun k a c h1 h2 => ?_⟩
  · by_cases hb : b = p
    · subst hb; rw [upd_same] at q ⊢; exact q
    · rw [upd_ne hb] at q ⊢; exact h.sub b x q
  · rw [upd_ne (ne_mem ha (h.ne hp))]; exact h.off a ha
  · rw [upd_ne (ne_mem ha (h.ne hp))]; exact h.there a ha
  · exact (h.cells k a c h1 h2).mono e (upd_ne (ne_mem (List.mem_of_getElem? h1) (h.ne hp)))
theorem RepS.cell (h : RepS K mg F H μ S) {p : Addr} {o : HO} {c : Cell} (hp : H p = none) (hc : CellOk K mg F (μ ++ [p]) (upd H p o) p c) : RepS K mg F (upd H p o) (μ ++ [p]) (S ++ [c]) := by
  have hn := h.ne hp
  refine ⟨fun b x q => ?_, by simp [h.len], ?_, fun a ha => ?_, fun a ha => ?_, fun k a c' h1 h2 => ?_⟩
  · rw [upd_ne (ne_of_none (h.sub b x q) hp)]; exact h.sub b x q
  · exact List.nodup_append.mpr ⟨h.nd, by simp, fun a ha b hb => by
      simp only [List.mem_singleton] at hb
      subst hb
      exact fun z => hn (z ▸ ha)⟩
  · rcases List.mem_append.mp ha with ha | ha
    · exact h.off a ha
    · simp only [List.mem_singleton] at ha; subst ha; exact h.nF hp
  · rcases List.mem_append.mp ha with ha | ha
    · rw [upd_ne (ne_mem ha hn)]; exact h.there a ha
    · simp only [List.mem_singleton] at ha; subst ha; exact ⟨o, upd_same⟩
  · by_cases hk : k < μ.length
    · rw [List.getElem?_append_left hk] at h1
      rw [List.getElem?_append_left (h.len ▸ hk)] at h2
      exact (h.cells k a c' h1 h2).mono ⟨Same.refl F, List.prefix_append μ [p]⟩ (upd_ne (ne_mem (List.mem_of_getElem? h1) hn))
    · have e : k = μ.length := by
        have := (List.getElem?_eq_some_iff.mp h1).1
        simp at this
        omega
      subst e
      rw [List.getElem?_append_right (Nat.le_refl _)] at h1
      rw [h.len, List.getElem?_append_right (Nat.le_refl _)] at h2
      simp at h1 h2
      subst h1; subst h2
      exact hc
theorem RepS.put (h : RepS K mg F H μ S) {k : Nat} {a : Addr} {o : HO} {c : Cell} (hk : μ[k]? = some a) (hc : CellOk K mg F μ (upd H a o) a c) : RepS K mg F (upd H a o) μ (S.set k c) := by
  have hm := List.mem_of_getElem? hk
  refine ⟨fun b x q => ?_, by simp [h.len], h.nd, h.off, fun b hb => ?_, fun j b c' h1 h2 => ?_⟩
  · rw [upd_ne fun z => ?_]
    · exact h.sub b x q
    · subst z; rw [h.off b hm] at q; cases q
  · by_cases hb' : b = a
    · subst hb'; exact ⟨o, upd_same⟩
    · rw [upd_ne hb']; exact h.there b hb
  · by_cases hj : k = j
    · subst hj
      rw [hk] at h1
      cases h1
      have hl : k < S.length := h.len ▸ (List.getElem?_eq_some_iff.mp hk).1
      rw [List.getElem?_set_self hl] at h2
      cases h2
      exact hc
    · rw [List.getElem?_set_ne hj] at h2
      exact (h.cells j b c' h1 h2).mono (Ext.refl F μ) (upd_ne fun z => hj (get_nodup h.nd hk (by rw [← z]; exact h1)))
end
end G

set_option Elab.async false
set_option linter.all false
set_option maxRecDepth 100000
set_option maxHeartbeats 4000000
namespace G
open PySem PySem.Spec PyProof.Rows L2

abbrev ME := Ev → Sto → Res Val
abbrev MT := Ev → Sto → Res Bool
abbrev MA := Ev → Sto → Res (List Val)
inductive Fl where
  | next (ρ : Ev) | brk (ρ : Ev) | cont (ρ : Ev) | ret (v : Val) | exc (ρ : Ev) (e : Exc)
abbrev SRes := Option (Fl × Sto)
abbrev MS := Ev → Sto → SRes
def bns {α : Type} (ρ : Ev) (m : Res α) (k : α → Sto → SRes) : SRes :=
  match m with
  | some (.ok a S) => k a S
  | some (.exc e S) => some (.exc ρ e, S)
  | none => none
def pur {α : Type} (o : Option α) (S : Sto) : Res α :=
  match o with
  | some a => some (.ok a S)
  | none => none
def prs {α : Type} (o : Option (α × Sto)) : Res α :=
  match o with
  | some (a, S) => some (.ok a S)
  | none => none

structure Xt (F H : Hp) (μ : List Addr) (F' H' : Hp) (μ' : List Addr) : Prop extends Ext F μ F' μ' where
  keep : ∀ (a : Addr) (o : HO), H a = some o → a ∉ μ → H' a = some o ∧ a ∉ μ' ∧ (F a = none → F' a = none)
theorem Xt.refl (F H : Hp) (μ : List Addr) : Xt F H μ F H μ := ⟨Ext.refl F μ, fun a o h n => ⟨h, n, fun z => z⟩⟩
theorem Xt.trans {F F1 F2 H H1 H2 : Hp} {μ μ1 μ2 : List Addr} (a : Xt F H μ F1 H1 μ1) (b : Xt F1 H1 μ1 F2 H2 μ2) : Xt F H μ F2 H2 μ2 :=
  ⟨a.toExt.trans b.toExt, fun x o h n => let ⟨h1, n1, f1⟩ := a.keep x o h n; let ⟨h2, n2, f2⟩ := b.keep x o h1 n1; ⟨h2, n2, fun z => f2 (f1 z)⟩⟩
theorem Xt.new {F H : Hp} {μ : List Addr} {p : Addr} {o : HO} (hF : F p = none) (hp : H p = none) : Xt F H μ (upd F p o) (upd H p o) μ :=
  ⟨ext_upd F μ hF, fun a u h n => ⟨by rw [upd_ne (ne_of_none h hp)]; exact h, n, fun z => by rw [upd_ne (ne_of_none h hp)]; exact z⟩⟩
theorem Xt.cell {F H : Hp} {μ : List Addr} {p : Addr} {o : HO} (hp : H p = none) : Xt F H μ F (upd H p o) (μ ++ [p]) :=
  ⟨⟨Same.refl F, List.prefix_append μ [p]⟩, fun a u h n => ⟨by rw [upd_ne (ne_of_none h hp)]; exact h, fun z => by
    rcases List.mem_append.mp z with z | z
    · exact n z
    · exact ne_of_none h hp (List.mem_singleton.mp z), fun z => z⟩⟩
theorem Xt.put {F H : Hp} {μ : List Addr} {p : Addr} {o : HO} (hp : p ∈ μ) : Xt F H μ F (upd H p o) μ :=
  ⟨Ext.refl F μ, fun a u h n => ⟨by rw [upd_ne (Ne.symm (ne_mem hp n))]; exact h, n, fun z => z⟩⟩
section
variable (K : PySem.W.Frag) (mg : Str → Option Value)
def Post {α : Type} (W : XK) (F H : Hp) (μ : List Addr) (o : Res α) (R : Hp → List Addr → Sto → α → Hp → Prop) : Prop :=
  match o with
  | some (.ok a S') => ∀ F' μ' H', Xt F H μ F' H' μ' → RepS K mg F' H' μ' S' → R F' μ' S' a H'
  | some (.exc e S') => ∀ F' μ' H' c d, Xt F H μ F' H' μ' → RepS K mg F' H' μ' S' → ExcOk K mg F' μ' H' e c d → W c d H'
  | none => False
def RV (Q : VK) : Hp → List Addr → Sto → Val → Hp → Prop := fun F' μ' _ v H' => ∀ w, RepV K F' μ' v w → Q w H'
def RB (Q : Bool → Hp → Prop) : Hp → List Addr → Sto → Bool → Hp → Prop := fun _ _ _ b H' => Q b H'
def RA (Q : List V → Hp → Prop) : Hp → List Addr → Sto → List Val → Hp → Prop := fun F' μ' _ v H' => ∀ w, RepL K F' μ' v w → Q w H'
abbrev atS (W : WX) (σ : L2.St) : XK := fun c d H => W c d σ H
def tM (W : WX) (m : ME) : TE := fun σ H Q => ∃ ρ F μ S, RepS K mg F H μ S ∧ RepE K F μ ρ σ ∧ Post K mg (atS W σ) F H μ (m ρ S) (RV K Q)
def tMT (W : WX) (m : MT) : TT := fun σ H Q => ∃ ρ F μ S, RepS K mg F H μ S ∧ RepE K F μ ρ σ ∧ Post K mg (atS W σ) F H μ (m ρ S) (RB Q)
def tMA (W : WX) (m : MA) : TA := fun σ H Q => ∃ ρ F μ S, RepS K mg F H μ S ∧ RepE K F μ ρ σ ∧ Post K mg (atS W σ) F H μ (m ρ S) (RA K Q)
def RS (W : WX) (D : Ends) (F' : Hp) (μ' : List Addr) (H' : Hp) : Fl → Prop
  | .next ρ => ∀ σ, RepE K F' μ' ρ σ → D.nx σ H'
  | .brk ρ => ∀ σ, RepE K F' μ' ρ σ → D.bk σ H'
  | .cont ρ => ∀ σ, RepE K F' μ' ρ σ → D.ct σ H'
  | .ret v => ∀ w, RepV K F' μ' v w → D.rt w H'
  | .exc ρ e => ∀ σ c d, RepE K F' μ' ρ σ → ExcOk K mg F' μ' H' e c d → W c d σ H'
def PostS (W : WX) (F H : Hp) (μ : List Addr) (o : SRes) (D : Ends) : Prop :=
  match o with
  | some (f, S') => ∀ F' μ' H', Xt F H μ F' H' μ' → RepS K mg F' H' μ' S' → RS K mg W D F' μ' H' f
  | none => False
def tMS (W : WX) (m : MS) : TS := fun D σ H => ∃ ρ F μ S, RepS K mg F H μ S ∧ RepE K F μ ρ σ ∧ PostS K mg W F H μ (m ρ S) D
end
section
variable {K : PySem.W.Frag} {mg : Str → Option Value} {W : XK} {F F1 H H1 : Hp} {μ μ1 : List Addr} {α β : Type}
theorem Post.imp {o : Res α} {R R' : Hp → List Addr → Sto → α → Hp → Prop} (h : Post K mg W F H μ o R) (e : Xt F H μ F1 H1 μ1) (i : ∀ F' μ' S' a H', Xt F1 H1 μ1 F' H' μ' → RepS K mg F' H' μ' S' → R F' μ' S' a H' → R' F' μ' S' a H') : Post K mg W F1 H1 μ1 o R' := by
  cases o with
  | none => exact h
  | some o =>
    cases o with
    | ok a S => exact fun F' μ' H' e' r => i F' μ' S a H' e' r (h F' μ' H' (e.trans e') r)
    | exc x S => exact fun F' μ' H' c d e' r x' => h F' μ' H' c d (e.trans e') r x'
theorem Post.bind {o : Res α} {k : α → Sto → Res β} {R : Hp → List Addr → Sto → β → Hp → Prop} (h : Post K mg W F H μ (bnd o k) R) : Post K mg W F H μ o (fun F1 μ1 S1 a H1 => Post K mg W F1 H1 μ1 (k a S1) R) := by
  cases o with
  | none => exact h
  | some o =>
    cases o with
    | ok a S => exact fun F' μ' H' e' r => Post.imp h e' fun _ _ _ _ _ _ _ q => q
    | exc x S => exact h
theorem PostS.imp {W : WX} {o : SRes} {D D' : Ends} (h : PostS K mg W F H μ o D) (e : Xt F H μ F1 H1 μ1) (i : ∀ F' μ' S' f H', Xt F1 H1 μ1 F' H' μ' → RepS K mg F' H' μ' S' → RS K mg W D F' μ' H' f → RS K mg W D' F' μ' H' f) : PostS K mg W F1 H1 μ1 o D' := by
  cases o with
  | none => exact h
  | some o =>
    obtain ⟨f, S⟩ := o
    exact fun F' μ' H' e' r => i F' μ' S f H' e' r (h F' μ' H' (e.trans e') r)
theorem PostS.ext {W : WX} {o : SRes} {D : Ends} (h : PostS K mg W F H μ o D) (e : Xt F H μ F1 H1 μ1) : PostS K mg W F1 H1 μ1 o D := h.imp e fun _ _ _ _ _ _ _ q => q
theorem PostS.bind {W : WX} {o : Res α} {k : α → Sto → SRes} {D : Ends} {ρ : Ev} {σ : L2.St} (hE : RepE K F μ ρ σ) (h : PostS K mg W F H μ (bns ρ o k) D) : Post K mg (atS W σ) F H μ o (fun F1 μ1 S1 a H1 => PostS K mg W F1 H1 μ1 (k a S1) D) := by
  cases o with
  | none => exact h
  | some o =>
    cases o with
    | ok a S => exact fun F' μ' H' e' r => h.ext e'
    | exc x S => exact fun F' μ' H' c d e' r x' => h F' μ' H' e' r σ c d (hE.mono e'.toExt) x'
end

def GE (X : Cx) (W : WX) (e : Expr) (m : ME) : Prop := PE X e (tM X.K X.mg W m)
def GT (X : Cx) (W : WX) (e : Expr) (m : MT) : Prop := PT X e (tMT X.K X.mg W m)
def GW (X : Cx) (W : WX) (e : Expr) (m : MT) : Prop := PW X e (tMT X.K X.mg W m)
def GA (X : Cx) (W : WX) (es : List Expr) (m : MA) : Prop := PA X es (tMA X.K X.mg W m)
def GS (X : Cx) (W : WX) (st : Stmt) (m : MS) : Prop := PS X st (tMS X.K X.mg W m)
def GSs (X : Cx) (W : WX) (st : List Stmt) (m : MS) : Prop := PSs X st (tMS X.K X.mg W m)

section
variable {X : Cx} {W : WX} {e a b c : Expr} {pos : Pos} {t : TE}
theorem ge_of {m : ME} (h : PE X e t) (i : ∀ σ H Q, tM X.K X.mg W m σ H Q → t σ H Q) : GE X W e m := ⟨fun pins s σ H Q I hw => h.run pins s σ H Q I (i σ H Q hw)⟩
theorem gt_of {t : TT} {m : MT} (h : PT X e t) (i : ∀ σ H Q, tMT X.K X.mg W m σ H Q → t σ H Q) : GT X W e m := ⟨fun pins s σ H Q I hw => h.run pins s σ H Q I (i σ H Q hw)⟩
theorem gw_of {t : TT} {m : MT} (h : PW X e t) (i : ∀ σ H Q, tMT X.K X.mg W m σ H Q → t σ H Q) : GW X W e m := ⟨fun wh pins s σ H Q I hw => h.run wh pins s σ H Q I (i σ H Q hw)⟩
theorem ga_of {es : List Expr} {t : TA} {m : MA} (h : PA X es t) (i : ∀ σ H Q, tMA X.K X.mg W m σ H Q → t σ H Q) : GA X W es m := ⟨fun pos pins s σ H Q I hw => h.run pos pins s σ H Q I (i σ H Q hw)⟩
theorem gs_of {st : Stmt} {t : TS} {m : MS} (h : PS X st t) (i : ∀ D σ H, tMS X.K X.mg W m D σ H → t D σ H) : GS X W st m := ⟨fun pins s σ H D I hw => h.run pins s σ H D I (i D σ H hw)⟩
theorem gss_of {st : List Stmt} {t : TS} {m : MS} (h : PSs X st t) (i : ∀ D σ H, tMS X.K X.mg W m D σ H → t D σ H) : GSs X W st m := ⟨fun pins s σ H D I hw => h.run pins s σ H D I (i D σ H hw)⟩

def mVar (i : Nat) : ME := fun ρ S => match ρ[i]? with
  | some (some v) => some (.ok v S)
  | _ => none
def mC (v : Val) : ME := fun _ S => some (.ok v S)
theorem tM_ok {K : PySem.W.Frag} {mg : Str → Option Value} {W : XK} {F H : Hp} {μ : List Addr} {S : Sto} {v : Val} {w : V} {Q : VK} (h : Post K mg W F H μ (some (.ok v S)) (RV K Q)) (r : RepS K mg F H μ S) (q : RepV K F μ v w) : Q w H := h F μ H (Xt.refl F H μ) r w q
theorem ge_var (i : Nat) {x : Str} (hN : X.N[i]? = some x := by rfl) (hv : Vis X.env.scope x := by first | exact Or.inl rfl | exact Or.inr (Or.inl rfl) | exact Or.inr (Or.inr rfl)) (hd : (x == ("__debug__" : Str)) = false := by decide)
    (hcd : (x == ("__classdict__" : Str)) = false := by decide) : GE X W (.Name x pos) (mVar i) := by
  refine ge_of (pe_var hN hv hd hcd) fun σ H Q h => ?_
  obtain ⟨ρ, F, μ, S, hS, hE, hP⟩ := h
  unfold mVar at hP
  split at hP
  · rename_i v e
    obtain ⟨w, hw, r⟩ := hE.2 i v e
    exact ⟨w, hw, tM_ok hP hS r⟩
  · exact hP.elim
theorem ge_tC {v : Val} {w : V} (h : PE X e (tC w)) (r : ∀ F μ, RepV X.K F μ v w) : GE X W e (mC v) := by
  refine ge_of h fun σ H Q h => ?_
  obtain ⟨ρ, F, μ, S, hS, hE, hP⟩ := h
  exact tM_ok hP hS (r F μ)
theorem ge_int {i j} : GE X W (.Constant (.int i) j pos) (mC (.int i)) := ge_tC pe_int fun _ _ => .int
theorem ge_bl {b j} : GE X W (.Constant (.bool b) j pos) (mC (.bl b)) := ge_tC pe_bl fun _ _ => .bl
theorem ge_non {j} : GE X W (.Constant .none j pos) (mC .non) := ge_tC pe_non fun _ _ => .non
theorem ge_str {x j} : GE X W (.Constant (.str x) j pos) (mC (.str x)) := ge_tC pe_str fun _ _ => .str
theorem ge_glob {x : Str} {v : Val} {w : V} {u : Value} (hg : Gl X x) (hm : X.mg x = some u) (r : RelV w u) (q : ∀ F μ, RepV X.K F μ v w) (hd : (x == ("__debug__" : Str)) = false := by decide) : GE X W (.Name x pos) (mC v) := ge_tC (pe_glob hg hm r hd) q
theorem ge_bltn {x : Str} {w : V} {u : Value} (hg : Gl X x) (hm : X.mg x = none) (hv : bootBuiltins x = some u) (r : RelV w u) (hn : x ≠ "__name__" := by decide) (hd : (x == ("__debug__" : Str)) = false := by decide) : GE X W (.Name x pos) (mC (.con w)) :=
  ge_tC (pe_bltn hg hm hv r hn hd) fun _ _ => .con

theorem bind_tM {K : PySem.W.Frag} {mg : Str → Option Value} {W : WX} {m : ME} {ρ : Ev} {F H : Hp} {μ : List Addr} {S : Sto} {σ : L2.St} {R : Hp → List Addr → Sto → Val → Hp → Prop} {T : VK}
    (hS : RepS K mg F H μ S) (hE : RepE K F μ ρ σ) (hP : Post K mg (atS W σ) F H μ (m ρ S) R)
    (h : ∀ F1 μ1 S1 v w H1, Xt F H μ F1 H1 μ1 → RepS K mg F1 H1 μ1 S1 → RepE K F1 μ1 ρ σ → RepV K F1 μ1 v w → R F1 μ1 S1 v H1 → T w H1) : tM K mg W m σ H T :=
  ⟨ρ, F, μ, S, hS, hE, hP.imp (Xt.refl F H μ) fun F' μ' S' v H' e r q w rw => h F' μ' S' v w H' e r (hE.mono e.toExt) rw q⟩
theorem bind_tMT {K : PySem.W.Frag} {mg : Str → Option Value} {W : WX} {m : MT} {ρ : Ev} {F H : Hp} {μ : List Addr} {S : Sto} {σ : L2.St} {R : Hp → List Addr → Sto → Bool → Hp → Prop} {T : Bool → Hp → Prop}
    (hS : RepS K mg F H μ S) (hE : RepE K F μ ρ σ) (hP : Post K mg (atS W σ) F H μ (m ρ S) R)
    (h : ∀ F1 μ1 S1 v H1, Xt F H μ F1 H1 μ1 → RepS K mg F1 H1 μ1 S1 → RepE K F1 μ1 ρ σ → R F1 μ1 S1 v H1 → T v H1) : tMT K mg W m σ H T :=
  ⟨ρ, F, μ, S, hS, hE, hP.imp (Xt.refl F H μ) fun F' μ' S' v H' e r q => h F' μ' S' v H' e r (hE.mono e.toExt) q⟩
theorem bind_tMA {K : PySem.W.Frag} {mg : Str → Option Value} {W : WX} {m : MA} {ρ : Ev} {F H : Hp} {μ : List Addr} {S : Sto} {σ : L2.St} {R : Hp → List Addr → Sto → List Val → Hp → Prop} {T : List V → Hp → Prop}
    (hS : RepS K mg F H μ S) (hE : RepE K F μ ρ σ) (hP : Post K mg (atS W σ) F H μ (m ρ S) R)
    (h : ∀ F1 μ1 S1 v w H1, Xt F H μ F1 H1 μ1 → RepS K mg F1 H1 μ1 S1 → RepE K F1 μ1 ρ σ → RepL K F1 μ1 v w → R F1 μ1 S1 v H1 → T w H1) : tMA K mg W m σ H T :=
  ⟨ρ, F, μ, S, hS, hE, hP.imp (Xt.refl F H μ) fun F' μ' S' v H' e r q w rw => h F' μ' S' v w H' e r (hE.mono e.toExt) rw q⟩

def rP2 (K : PySem.W.Frag) (mg : Str → Option Value) (f : Sto → Val → Val → Option Val) : R2 := fun x y H Q => ∃ vx vy F μ S r, RepS K mg F H μ S ∧ RepV K F μ vx x ∧ RepV K F μ vy y ∧ f S vx vy = some r ∧
  ∀ F' H' w, Xt F H μ F' H' μ → RepS K mg F' H' μ S → RepV K F' μ r w → Q w H'
def rP1 (K : PySem.W.Frag) (mg : Str → Option Value) (f : Sto → Val → Option Val) : V → Hp → VK → Prop := fun x H Q => ∃ vx F μ S r, RepS K mg F H μ S ∧ RepV K F μ vx x ∧ f S vx = some r ∧
  ∀ F' H' w, Xt F H μ F' H' μ → RepS K mg F' H' μ S → RepV K F' μ r w → Q w H'
def rPC (K : PySem.W.Frag) (mg : Str → Option Value) (f : Sto → List Val → Option Val) : List V → Hp → VK → Prop := fun xs H Q => ∃ vs F μ S r, RepS K mg F H μ S ∧ RepL K F μ vs xs ∧ f S vs = some r ∧
  ∀ F' H' w, Xt F H μ F' H' μ → RepS K mg F' H' μ S → RepV K F' μ r w → Q w H'
def rSC (K : PySem.W.Frag) (mg : Str → Option Value) (f : Sto → List Val → Option (Val × Sto)) : List V → Hp → VK → Prop := fun xs H Q => ∃ vs F μ S r S', RepS K mg F H μ S ∧ RepL K F μ vs xs ∧ f S vs = some (r, S') ∧
  ∀ F' μ' H' w, Xt F H μ F' H' μ' → RepS K mg F' H' μ' S' → RepV K F' μ' r w → Q w H'
def rSM (K : PySem.W.Frag) (mg : Str → Option Value) (f : Sto → Val → List Val → Option (Val × Sto)) : V → List V → Hp → VK → Prop := fun x xs H Q => ∃ vx vs F μ S r S', RepS K mg F H μ S ∧ RepV K F μ vx x ∧ RepL K F μ vs xs ∧ f S vx vs = some (r, S') ∧
  ∀ F' μ' H' w, Xt F H μ F' H' μ' → RepS K mg F' H' μ' S' → RepV K F' μ' r w → Q w H'
abbrev GO2 (X : Cx) (op : Value → Value → Sem Value) (f : Sto → Val → Val → Option Val) : Prop := OpR X op (rP2 X.K X.mg f)
abbrev GO1 (X : Cx) (op : Value → Sem Value) (f : Sto → Val → Option Val) : Prop := UnR X op (rP1 X.K X.mg f)
abbrev GCa (X : Cx) (fn : Value) (f : Sto → List Val → Option Val) : Prop := CallR X fn (rPC X.K X.mg f)
abbrev GCs (X : Cx) (fn : Value) (f : Sto → List Val → Option (Val × Sto)) : Prop := CallR X fn (rSC X.K X.mg f)
def mO2 (f : Sto → Val → Val → Option Val) (ma mb : ME) : ME := fun ρ S => bnd (ma ρ S) fun x S1 => bnd (mb ρ S1) fun y S2 => pur (f S2 x y) S2
def mO1 (f : Sto → Val → Option Val) (ma : ME) : ME := fun ρ S => bnd (ma ρ S) fun x S1 => pur (f S1 x) S1
def mNil : MA := fun _ S => some (.ok [] S)
def mCons (m : ME) (ms : MA) : MA := fun ρ S => bnd (m ρ S) fun x S1 => bnd (ms ρ S1) fun xs S2 => some (.ok (x :: xs) S2)
def mCa (f : Sto → List Val → Option Val) (ms : MA) : ME := fun ρ S => bnd (ms ρ S) fun xs S1 => pur (f S1 xs) S1
def mCs (f : Sto → List Val → Option (Val × Sto)) (ms : MA) : ME := fun ρ S => bnd (ms ρ S) fun xs S1 => prs (f S1 xs)
theorem pur_post {K : PySem.W.Frag} {mg : Str → Option Value} {W : XK} {F H : Hp} {μ : List Addr} {o : Option Val} {S : Sto} {Q : VK} (h : Post K mg W F H μ (pur o S) (RV K Q)) : ∃ r, o = some r ∧ ∀ F' H' w, Xt F H μ F' H' μ → RepS K mg F' H' μ S → RepV K F' μ r w → Q w H' := by
  cases o with
  | none => exact h.elim
  | some r => exact ⟨r, rfl, fun F' H' w e s q => h F' μ H' e s w q⟩
theorem prs_post {K : PySem.W.Frag} {mg : Str → Option Value} {W : XK} {F H : Hp} {μ : List Addr} {o : Option (Val × Sto)} {Q : VK} (h : Post K mg W F H μ (prs o) (RV K Q)) : ∃ r S', o = some (r, S') ∧ ∀ F' μ' H' w, Xt F H μ F' H' μ' → RepS K mg F' H' μ' S' → RepV K F' μ' r w → Q w H' := by
  cases o with
  | none => exact h.elim
  | some p => obtain ⟨r, S'⟩ := p; exact ⟨r, S', rfl, fun F' μ' H' w e s q => h F' μ' H' e s w q⟩
theorem tOp_of {r : R2} {ma mb : ME} {f : Sto → Val → Val → Option Val} (hr : r = rP2 X.K X.mg f) : ∀ σ H Q, tM X.K X.mg W (mO2 f ma mb) σ H Q → tOp r (tM X.K X.mg W ma) (tM X.K X.mg W mb) σ H Q := by
  subst hr
  intro σ H Q h
  obtain ⟨ρ, F, μ, S, hS, hE, hP⟩ := h
  refine bind_tM hS hE hP.bind fun F1 μ1 S1 v w H1 e1 s1 q1 r1 p1 => ?_
  refine bind_tM s1 q1 p1.bind fun F2 μ2 S2 v2 w2 H2 e2 s2 q2 r2 p2 => ?_
  obtain ⟨r, e, k⟩ := pur_post p2
  exact ⟨v, v2, F2, μ2, S2, r, s2, r1.mono e2.toExt, r2, e, k⟩
theorem ge_op {op : Operator} {f : Sto → Val → Val → Option Val} {ma mb : ME} (ho : GO2 X (binaryOp op) f) (ha : GE X W a ma) (hb : GE X W b mb) : GE X W (.BinOp a op b pos) (mO2 f ma mb) := ge_of (pe_op ho ha hb) (tOp_of rfl)
theorem ge_cmp {op : CmpOp} {f : Sto → Val → Val → Option Val} {ma mb : ME} (ho : GO2 X (compareOp op) f) (ha : GE X W a ma) (hb : GE X W b mb) (hm : behindInMarks op b = false := by rfl) : GE X W (.Compare a [op] [b] pos) (mO2 f ma mb) := ge_of (pe_cmpR ho ha hb hm) (tOp_of rfl)
theorem ge_ix {f : Sto → Val → Val → Option Val} {ma mb : ME} (ho : IxR X (rP2 X.K X.mg f)) (ha : GE X W a ma) (hb : GE X W b mb) (hs : PlainIx b := by intro _ _; rfl) : GE X W (.Subscript a b pos) (mO2 f ma mb) := ge_of (pe_ix ho ha hb hs) (tOp_of rfl)
theorem ge_un {op : UnaryOp} {f : Sto → Val → Option Val} {ma : ME} (ho : GO1 X (unaryOp op) f) (ha : GE X W a ma) : GE X W (.UnaryOp op a pos) (mO1 f ma) := by
  refine ge_of (pe_un ho ha) fun σ H Q h => ?_
  obtain ⟨ρ, F, μ, S, hS, hE, hP⟩ := h
  refine bind_tM hS hE hP.bind fun F1 μ1 S1 v w H1 e1 s1 q1 r1 p1 => ?_
  obtain ⟨r, e, k⟩ := pur_post p1
  exact ⟨v, F1, μ1, S1, r, s1, r1, e, k⟩

theorem ga_nil : GA X W [] mNil := by
  refine ga_of pa_nil fun σ H Q h => ?_
  obtain ⟨ρ, F, μ, S, hS, hE, hP⟩ := h
  exact hP F μ H (Xt.refl F H μ) hS [] .nil
theorem ga_cons {es : List Expr} {m : ME} {ms : MA} (ha : GE X W e m) (hr : GA X W es ms) (hs : starEach (e :: es) X.env = (false, eval e X.env) :: starEach es X.env := by rfl) : GA X W (e :: es) (mCons m ms) := by
  refine ga_of (pa_cons ha hr hs) fun σ H Q h => ?_
  obtain ⟨ρ, F, μ, S, hS, hE, hP⟩ := h
  refine bind_tM hS hE hP.bind fun F1 μ1 S1 v w H1 e1 s1 q1 r1 p1 => ?_
  refine bind_tMA s1 q1 p1.bind fun F2 μ2 S2 v2 w2 H2 e2 s2 q2 r2 p2 => ?_
  exact p2 F2 μ2 H2 (Xt.refl _ _ _) s2 _ (.cons (r1.mono e2.toExt) r2)
def mTup (ms : MA) : ME := fun ρ S => bnd (ms ρ S) fun xs S1 => if xs.length ≤ sizeLine then some (.ok (.tup xs) S1) else none
def mLst (ms : MA) : ME := fun ρ S => bnd (ms ρ S) fun xs S1 => if xs.length ≤ sizeLine then some (.ok (.lst xs) S1) else none
def mNew (ms : MA) : ME := fun ρ S => bnd (ms ρ S) fun xs S1 => if xs.length ≤ sizeLine then some (.ok (.cell S1.length) (S1 ++ [.lst xs])) else none
abbrev nT (o : Obj) (ws : List V) : HO := .frz o (.tup ws)
theorem RepS.newTup {K : PySem.W.Frag} {mg : Str → Option Value} {F H : Hp} {μ : List Addr} {S : Sto} {p : Addr} {o : Obj} {xs : List Val} {ws : List V} (h : RepS K mg F H μ S) (hp : H p = none) (ho : o.dict = none) (r : RepL K F μ xs ws) :
    Xt F H μ (upd F p (nT o ws)) (upd H p (nT o ws)) μ ∧ RepS K mg (upd F p (nT o ws)) (upd H p (nT o ws)) μ S ∧ RepV K (upd F p (nT o ws)) μ (.tup xs) (.ref p) :=
  ⟨Xt.new (h.nF hp) hp, h.alloc _ hp, .tup (.inl ⟨o, ho, upd_same⟩) (r.mono (ext_upd F μ (h.nF hp)))⟩
def tTupN (t : TA) : TE := fun σ H Q => t σ H fun xs H1 => xs.length ≤ sizeLine ∧ ∀ p o, o.dict = none → H1 p = none → Q (.ref p) (upd H1 p (nT o xs))
theorem pe_tupN {X : Cx} {es : List Expr} {t : TA} {x1} {pos : Pos} (h : PA X es t) : PE X (.Tuple es x1 pos) (tTupN t) := by
  refine ⟨fun pins s σ H Q I hq => ?_⟩
  refine wpAny_Tuple_spliced (thn (h.run pos pins s σ H _ I hq) fun us s1 ⟨xs, H1, I1, r, z, q⟩ => ⟨by rw [← r.length]; exact z, ?_⟩)
  have hf : H1 s1.heap.objs.size = none := I1.hok.fresh (Nat.le_refl _)
  exact ⟨.ref s1.heap.objs.size, upd H1 s1.heap.objs.size (nT _ xs), I1.laid (t' := s1.toks) (fun b u e => Heap.get?_push_of_some _ e) (Nat.le_refl _) ⟨Heap.get?_push_size _ rfl, z, us, r, ⟨_, Heap.get?_push_size _ rfl, rfl, _, rfl⟩⟩, rfl, q _ _ rfl hf⟩
theorem RepS.newLst {K : PySem.W.Frag} {mg : Str → Option Value} {F H : Hp} {μ : List Addr} {S : Sto} {p : Addr} {xs : List Val} {ws : List V} (h : RepS K mg F H μ S) (hp : H p = none) (r : RepL K F μ xs ws) :
    Xt F H μ (upd F p (.lst ws)) (upd H p (.lst ws)) μ ∧ RepS K mg (upd F p (.lst ws)) (upd H p (.lst ws)) μ S ∧ RepV K (upd F p (.lst ws)) μ (.lst xs) (.ref p) :=
  ⟨Xt.new (h.nF hp) hp, h.alloc _ hp, .lst upd_same (r.mono (ext_upd F μ (h.nF hp)))⟩
theorem RepS.newCell {K : PySem.W.Frag} {mg : Str → Option Value} {F H : Hp} {μ : List Addr} {S : Sto} {p : Addr} {xs : List Val} {ws : List V} (h : RepS K mg F H μ S) (hp : H p = none) (r : RepL K F μ xs ws) :
    Xt F H μ F (upd H p (.lst ws)) (μ ++ [p]) ∧ RepS K mg F (upd H p (.lst ws)) (μ ++ [p]) (S ++ [.lst xs]) ∧ RepV K F (μ ++ [p]) (.cell S.length) (.ref p) := by
  have e : Xt F H μ F (upd H p (.lst ws)) (μ ++ [p]) := Xt.cell hp
  exact ⟨e, h.cell hp ⟨ws, upd_same, r.mono e.toExt⟩, .cell (by rw [← h.len]; simp)⟩
theorem ge_tup {es : List Expr} {ms : MA} {x1} (h : GA X W es ms) : GE X W (.Tuple es x1 pos) (mTup ms) := by
  refine ge_of (pe_tupN h) fun σ H Q h => ?_
  obtain ⟨ρ, F, μ, S, hS, hE, hP⟩ := h
  refine bind_tMA hS hE hP.bind fun F1 μ1 S1 v w H1 e1 s1 q1 r1 p1 => ?_
  split at p1
  · rename_i hz
    refine ⟨by rw [← r1.length]; exact hz, fun p o ho hp => ?_⟩
    obtain ⟨k1, k2, k3⟩ := s1.newTup hp ho r1
    exact p1 _ _ _ k1 k2 _ k3
  · exact p1.elim
theorem ge_lst {es : List Expr} {ms : MA} (h : GA X W es ms) : GE X W (.List es pos) (mLst ms) := by
  refine ge_of (pe_lst h) fun σ H Q h => ?_
  obtain ⟨ρ, F, μ, S, hS, hE, hP⟩ := h
  refine bind_tMA hS hE hP.bind fun F1 μ1 S1 v w H1 e1 s1 q1 r1 p1 => ?_
  split at p1
  · rename_i hz
    refine ⟨by rw [← r1.length]; exact hz, fun p hp => ?_⟩
    obtain ⟨k1, k2, k3⟩ := s1.newLst hp r1
    exact p1 _ _ _ k1 k2 _ k3
  · exact p1.elim
theorem ge_new {es : List Expr} {ms : MA} (h : GA X W es ms) : GE X W (.List es pos) (mNew ms) := by
  refine ge_of (pe_lst h) fun σ H Q h => ?_
  obtain ⟨ρ, F, μ, S, hS, hE, hP⟩ := h
  refine bind_tMA hS hE hP.bind fun F1 μ1 S1 v w H1 e1 s1 q1 r1 p1 => ?_
  split at p1
  · rename_i hz
    refine ⟨by rw [← r1.length]; exact hz, fun p hp => ?_⟩
    obtain ⟨k1, k2, k3⟩ := s1.newCell hp r1
    exact p1 _ _ _ k1 k2 _ k3
  · exact p1.elim
theorem tCB_of {ms : MA} {f : Sto → List Val → Option Val} : ∀ σ H Q, tM X.K X.mg W (mCa f ms) σ H Q → tCB (rPC X.K X.mg f) (tMA X.K X.mg W ms) σ H Q := by
  intro σ H Q h
  obtain ⟨ρ, F, μ, S, hS, hE, hP⟩ := h
  refine bind_tMA hS hE hP.bind fun F1 μ1 S1 v w H1 e1 s1 q1 r1 p1 => ?_
  obtain ⟨r, e, k⟩ := pur_post p1
  exact ⟨v, F1, μ1, S1, r, s1, r1, e, k⟩
variable {x : Str} {p : Pos} {es : List Expr} {id T : String}
theorem ge_callB {f : Sto → List Val → Option Val} {ms : MA} (hc : GCa X (.builtin id) f) (hg : Gl X x) (hm : X.mg x = none) (hv : bootBuiltins x = some (.builtin id)) (ha : GA X W (e :: es) ms) (hn : x ≠ "__name__" := by decide) (hdb : (x == ("__debug__" : Str)) = false := by decide)
    (he : starEach (e :: es) X.env = (false, eval e X.env) :: starEach es X.env := by rfl) (hpl : (backTo pos (starEach es X.env)).any (·.1) = false := by rfl) : GE X W (.Call (.Name x p) (e :: es) [] pos) (mCa f ms) := ge_of (pe_callB hc hg hm hv ha hn hdb he hpl) tCB_of
theorem ge_callTy {f : Sto → List Val → Option Val} {ms : MA} (hc : GCa X (.type T) f) (hg : Gl X x) (hm : X.mg x = none) (hv : bootBuiltins x = some (.type T)) (ha : GA X W (e :: es) ms) (hn : x ≠ "__name__" := by decide) (hdb : (x == ("__debug__" : Str)) = false := by decide)
    (he : starEach (e :: es) X.env = (false, eval e X.env) :: starEach es X.env := by rfl) (hpl : (backTo pos (starEach es X.env)).any (·.1) = false := by rfl) : GE X W (.Call (.Name x p) (e :: es) [] pos) (mCa f ms) := ge_of (pe_callTy hc hg hm hv ha hn hdb he hpl) tCB_of
end
end G

set_option Elab.async false
set_option linter.all false
set_option maxRecDepth 100000
set_option maxHeartbeats 4000000
namespace G
open PySem PySem.Spec PyProof.Rows L2

def lstOf (S : Sto) : Val → Option (List Val)
  | .lst xs => some xs
  | .cell k => match S[k]? with
    | some (.lst xs) => some xs
    | _ => none
  | _ => none
theorem lstOf_ok {K : PySem.W.Frag} {mg : Str → Option Value} {F H : Hp} {μ : List Addr} {S : Sto} {v : Val} {w : V} {xs : List Val} (h : RepS K mg F H μ S) (r : RepV K F μ v w) (e : lstOf S v = some xs) : ∃ a vs, w = .ref a ∧ H a = some (.lst vs) ∧ RepL K F μ xs vs := by
  cases v with
  | lst ys =>
    cases e
    cases r with
    | lst q l => exact ⟨_, _, rfl, h.sub _ _ q, l⟩
  | cell k =>
    cases r with
    | cell hk =>
      rename_i a
      unfold lstOf at e
      simp only at e
      split at e
      · rename_i ys q
        cases e
        obtain ⟨vs, h1, h2⟩ := h.cells k a _ hk q
        exact ⟨a, vs, rfl, h1, h2⟩
      · cases e
  | _ => cases e
def seqOf (S : Sto) : Val → Option (Bool × List Val)
  | .tup xs => some (true, xs)
  | .scr ns => some (false, ns.map Val.int)
  | v => match lstOf S v with
    | some xs => some (false, xs)
    | none => none
theorem seqOf_ok {K : PySem.W.Frag} {mg : Str → Option Value} {F H : Hp} {μ : List Addr} {S : Sto} {v : Val} {w : V} {b : Bool} {xs : List Val} (h : RepS K mg F H μ S) (r : RepV K F μ v w) (e : seqOf S v = some (b, xs)) :
    ∃ a vs, w = .ref a ∧ RepL K F μ xs vs ∧ ((b = true ∧ SqT K H a vs ∧ v = .tup xs) ∨ (b = false ∧ SqL K H a vs)) := by
  have go : ∀ ys, lstOf S v = some ys → b = false → xs = ys → ∃ a vs, w = .ref a ∧ RepL K F μ xs vs ∧ ((b = true ∧ SqT K H a vs ∧ v = .tup xs) ∨ (b = false ∧ SqL K H a vs)) := fun ys q hb hx => by
    obtain ⟨a, vs, e1, e2, e3⟩ := lstOf_ok h r q
    exact ⟨a, vs, e1, hx ▸ e3, .inr ⟨hb, SqL.of e2⟩⟩
  cases v with
  | tup ys =>
    cases e
    cases r with
    | tup q l => exact ⟨_, _, rfl, l, .inl ⟨rfl, same_seqT h.sub q.sq, rfl⟩⟩
  | scr ns =>
    cases e
    cases r with
    | scr q => exact ⟨_, _, rfl, RepL.ofInts, .inr ⟨rfl, h.sub.seq q⟩⟩
  | lst ys => cases e; exact go xs rfl rfl rfl
  | cell k =>
    unfold seqOf at e
    simp only at e
    split at e
    · rename_i ys q; cases e; exact go _ q rfl rfl
    · cases e
  | _ => cases e

def truth (S : Sto) : Val → Option Bool
  | .non => some false
  | .bl b => some b
  | .int i => some (i != 0)
  | .str x => if x.length ≤ sizeLine then some ((x.length : Int) != 0) else none
  | v => match seqOf S v with
    | some (_, xs) => some (!xs.isEmpty)
    | none => none
theorem RepL.empty {K : PySem.W.Frag} {F : Hp} {μ : List Addr} {xs : List Val} {vs : List V} (r : RepL K F μ xs vs) : xs.isEmpty = vs.isEmpty := by cases r <;> rfl
theorem truth_ok {K : PySem.W.Frag} {mg : Str → Option Value} {F H : Hp} {μ : List Addr} {S : Sto} {v : Val} {w : V} {b : Bool} (h : RepS K mg F H μ S) (r : RepV K F μ v w) (e : truth S v = some b) : TruV K w H b := by
  have go : ∀ c xs, seqOf S v = some (c, xs) → b = !xs.isEmpty → TruV K w H b := fun c xs q hb => by
    obtain ⟨a, vs, rfl, l, z⟩ := seqOf_ok h r q
    rw [hb, l.empty]
    rcases z with ⟨_, z, _⟩ | ⟨_, z⟩
    · exact .inr (.inl ⟨vs, z, rfl⟩)
    · exact .inl ⟨vs, z, rfl⟩
  cases v with
  | non => cases e; cases r; rfl
  | bl c => cases e; cases r; rfl
  | int i => cases e; cases r; rfl
  | str x =>
    unfold truth at e
    simp only at e
    split at e
    · rename_i hz; cases e; cases r; exact ⟨hz, rfl⟩
    · cases e
  | tup ys => cases e; exact go true ys rfl rfl
  | lst ys => cases e; exact go false ys rfl rfl
  | scr ns => cases e; exact go false _ rfl rfl
  | cell k =>
    unfold truth at e
    simp only at e
    split at e
    · rename_i c xs q; cases e; exact go c xs q rfl
    · cases e
  | dct kvs => cases e
  | con v => cases e
  | fnv x => cases e
  | err c fs a d => cases e
  | prs xs => cases e
def mTr (m : ME) : MT := fun ρ S => bnd (m ρ S) fun v S1 => pur (truth S1 v) S1
def toB : Val → Option Bool
  | .bl b => some b
  | _ => none
def mTB (m : ME) : MT := fun ρ S => bnd (m ρ S) fun v S1 => pur (toB v) S1
theorem purB_post {K : PySem.W.Frag} {mg : Str → Option Value} {W : XK} {F H : Hp} {μ : List Addr} {o : Option Bool} {S : Sto} {Q : Bool → Hp → Prop} (h : Post K mg W F H μ (pur o S) (RB Q)) (s : RepS K mg F H μ S) : ∃ r, o = some r ∧ Q r H := by
  cases o with
  | none => exact h.elim
  | some r => exact ⟨r, rfl, h F μ H (Xt.refl _ _ _) s⟩
theorem toB_ok {K : PySem.W.Frag} {F : Hp} {μ : List Addr} {v : Val} {w : V} {b : Bool} (r : RepV K F μ v w) (e : toB v = some b) : w = .bl b := by
  cases v <;> first | (cases e; cases r; rfl) | cases e
section
variable {X : Cx} {W : WX} {e a b c : Expr} {pos : Pos} {ma mb mc : ME} {ta tb : MT} {rest : List Expr}
theorem gt_cmp {op : CmpOp} {f : Sto → Val → Val → Option Val} (ho : GO2 X (compareOp op) f) (ha : GE X W a ma) (hb : GE X W b mb) (hm : behindInMarks op b = false := by rfl) : GT X W (.Compare a [op] [b] pos) (mTB (mO2 f ma mb)) := by
  refine gt_of (pt_cmpR ho ha hb hm) fun σ H Q h => ?_
  obtain ⟨ρ, F, μ, S, hS, hE, hP⟩ := h
  refine tOp_of (W := W) rfl σ H _ ?_
  refine bind_tM hS hE hP.bind fun F1 μ1 S1 v w H1 e1 s1 q1 r1 p1 => ?_
  obtain ⟨r, e, k⟩ := purB_post p1 s1
  exact ⟨r, toB_ok r1 e, k⟩
theorem gt_tr (ha : GE X W a ma) (he : ∀ whole, isTrue a X.env whole = (do let v ← whole; standAt a.pos; holding [v] (truthy v)) := by intro _; rfl) : GT X W a (mTr ma) := by
  refine gt_of (pt_truth ha he) fun σ H Q h => ?_
  obtain ⟨ρ, F, μ, S, hS, hE, hP⟩ := h
  refine bind_tM hS hE hP.bind fun F1 μ1 S1 v w H1 e1 s1 q1 r1 p1 => ?_
  obtain ⟨r, e, k⟩ := purB_post p1 s1
  exact ⟨r, truth_ok s1 r1 e, k⟩
def mAndT (m n : MT) : MT := fun ρ S => bnd (m ρ S) fun b S1 => if b then n ρ S1 else some (.ok false S1)
def mOrT (m n : MT) : MT := fun ρ S => bnd (m ρ S) fun b S1 => if b then some (.ok true S1) else n ρ S1
def mNotT (m : MT) : MT := fun ρ S => bnd (m ρ S) fun b S1 => some (.ok (!b) S1)
theorem GW.gt (h : GW X W a ta) : GT X W a ta := PW.pt h
theorem gw_and1 (ha : GT X W a ta) : GW X W (.BoolOp .And [a] pos) ta := pw_and1 ha
theorem gw_or1 (ha : GT X W a ta) : GW X W (.BoolOp .Or [a] pos) ta := pw_or1 ha
theorem gw_and (ha : GT X W a ta) (hb : GW X W (.BoolOp .And (b :: rest) pos) tb) : GW X W (.BoolOp .And (a :: b :: rest) pos) (mAndT ta tb) := by
  refine gw_of (pw_and ha hb) fun σ H Q h => ?_
  obtain ⟨ρ, F, μ, S, hS, hE, hP⟩ := h
  refine bind_tMT hS hE hP.bind fun F1 μ1 S1 v H1 e1 s1 q1 p1 => ?_
  cases v with
  | true => exact ⟨ρ, F1, μ1, S1, s1, q1, p1⟩
  | false => exact p1 F1 μ1 H1 (Xt.refl _ _ _) s1
theorem gw_or (ha : GT X W a ta) (hb : GW X W (.BoolOp .Or (b :: rest) pos) tb) : GW X W (.BoolOp .Or (a :: b :: rest) pos) (mOrT ta tb) := by
  refine gw_of (pw_or ha hb) fun σ H Q h => ?_
  obtain ⟨ρ, F, μ, S, hS, hE, hP⟩ := h
  refine bind_tMT hS hE hP.bind fun F1 μ1 S1 v H1 e1 s1 q1 p1 => ?_
  cases v with
  | false => exact ⟨ρ, F1, μ1, S1, s1, q1, p1⟩
  | true => exact p1 F1 μ1 H1 (Xt.refl _ _ _) s1
theorem gt_not (ha : GT X W a ta) : GT X W (.UnaryOp .Not a pos) (mNotT ta) := by
  refine gt_of (pt_not ha) fun σ H Q h => ?_
  obtain ⟨ρ, F, μ, S, hS, hE, hP⟩ := h
  refine bind_tMT hS hE hP.bind fun F1 μ1 S1 v H1 e1 s1 q1 p1 => ?_
  exact p1 F1 μ1 H1 (Xt.refl _ _ _) s1
def mAnd (m n : ME) : ME := fun ρ S => bnd (m ρ S) fun v S1 => match truth S1 v with
  | some true => n ρ S1
  | some false => some (.ok v S1)
  | none => none
def mOr (m n : ME) : ME := fun ρ S => bnd (m ρ S) fun v S1 => match truth S1 v with
  | some true => some (.ok v S1)
  | some false => n ρ S1
  | none => none
def mNot (m : ME) : ME := fun ρ S => bnd (m ρ S) fun v S1 => match truth S1 v with
  | some b => some (.ok (.bl (!b)) S1)
  | none => none
theorem ge_one {op} (h : GE X W a ma) : GE X W (.BoolOp op [a] pos) ma := pe_one h
theorem ge_and (ha : GE X W a ma) (hb : GE X W (.BoolOp .And (b :: rest) pos) mb) : GE X W (.BoolOp .And (a :: b :: rest) pos) (mAnd ma mb) := by
  refine ge_of (pe_andT ha hb) fun σ H Q h => ?_
  obtain ⟨ρ, F, μ, S, hS, hE, hP⟩ := h
  refine bind_tM hS hE hP.bind fun F1 μ1 S1 v w H1 e1 s1 q1 r1 p1 => ?_
  split at p1
  · rename_i e; exact ⟨true, truth_ok s1 r1 e, ⟨ρ, F1, μ1, S1, s1, q1, p1⟩⟩
  · rename_i e; exact ⟨false, truth_ok s1 r1 e, p1 F1 μ1 H1 (Xt.refl _ _ _) s1 w r1⟩
  · exact p1.elim
def mIf (t : MT) (m n : ME) : ME := fun ρ S => bnd (t ρ S) fun b S1 => if b then m ρ S1 else n ρ S1
theorem ge_if (hc : GT X W c ta) (ha : GE X W a ma) (hb : GE X W b mb) : GE X W (.IfExp c a b pos) (mIf ta ma mb) := by
  refine ge_of (pe_ifExp hc ha hb) fun σ H Q h => ?_
  obtain ⟨ρ, F, μ, S, hS, hE, hP⟩ := h
  refine bind_tMT hS hE hP.bind fun F1 μ1 S1 v H1 e1 s1 q1 p1 => ?_
  cases v with
  | true => exact ⟨ρ, F1, μ1, S1, s1, q1, p1⟩
  | false => exact ⟨ρ, F1, μ1, S1, s1, q1, p1⟩
def mChain (f g : Sto → Val → Val → Option Val) (ma mb mc : ME) : ME := fun ρ S => bnd (ma ρ S) fun x S1 => bnd (mb ρ S1) fun y S2 => match f S2 x y with
  | some (.bl true) => bnd (mc ρ S2) fun z S3 => pur (g S3 y z) S3
  | some (.bl false) => some (.ok (.bl false) S2)
  | _ => none
end

abbrev MO := Ev → Sto → Res (Option Int)
def tMO (K : PySem.W.Frag) (mg : Str → Option Value) (W : WX) (m : MO) : TO := fun σ H Q => ∃ ρ F μ S, RepS K mg F H μ S ∧ RepE K F μ ρ σ ∧ Post K mg (atS W σ) F H μ (m ρ S) (fun _ _ _ o H' => Q o H')
def GOp (X : Cx) (W : WX) (e : Option Expr) (m : MO) : Prop := PO X e (tMO X.K X.mg W m)
def mNo : MO := fun _ S => some (.ok none S)
def mPart (m : ME) : MO := fun ρ S => bnd (m ρ S) fun v S1 => match v with
  | .int i => some (.ok (some i) S1)
  | .non => none
  | _ => none
section
variable {X : Cx} {W : WX} {e : Expr} {lo hi : Option Expr} {pos p2 : Pos} {m : ME} {ml mh : MO}
theorem gp_none : GOp X W none mNo := ⟨fun pins s σ H Q I h => by
  obtain ⟨ρ, F, μ, S, hS, hE, hP⟩ := h
  exact po_none.run pins s σ H Q I (hP F μ H (Xt.refl _ _ _) hS)⟩
theorem gp_some (h : GE X W e m) : GOp X W (some e) (mPart m) := ⟨fun pins s σ H Q I hw => by
  refine (po_some h).run pins s σ H Q I ?_
  obtain ⟨ρ, F, μ, S, hS, hE, hP⟩ := hw
  refine bind_tM hS hE hP.bind fun F1 μ1 S1 v w H1 e1 s1 q1 r1 p1 => ?_
  split at p1
  · cases r1; exact ⟨_, rfl, p1 F1 μ1 H1 (Xt.refl _ _ _) s1⟩
  · exact p1.elim
  · exact p1.elim⟩
def rPS (K : PySem.W.Frag) (mg : Str → Option Value) (f : Sto → Val → Option Int → Option Int → Option Val) : V → Option Int → Option Int → Hp → VK → Prop := fun x lo hi H Q => ∃ vx F μ S r, RepS K mg F H μ S ∧ RepV K F μ vx x ∧ f S vx lo hi = some r ∧
  ∀ F' H' w, Xt F H μ F' H' μ → RepS K mg F' H' μ S → RepV K F' μ r w → Q w H'
def mSl (f : Sto → Val → Option Int → Option Int → Option Val) (m : ME) (ml mh : MO) : ME := fun ρ S => bnd (m ρ S) fun x S1 => bnd (ml ρ S1) fun l S2 => bnd (mh ρ S2) fun h S3 => pur (f S3 x l h) S3
theorem ge_slice {f : Sto → Val → Option Int → Option Int → Option Val} (hr : SlR X (rPS X.K X.mg f)) (he : GE X W e m) (hl : GOp X W lo ml) (hu : GOp X W hi mh) : GE X W (.Subscript e (.Slice lo hi none p2) pos) (mSl f m ml mh) := by
  refine ge_of (pe_slice hr he hl hu) fun σ H Q h => ?_
  obtain ⟨ρ, F, μ, S, hS, hE, hP⟩ := h
  refine bind_tM hS hE hP.bind fun F1 μ1 S1 v w H1 e1 s1 q1 r1 p1 => ?_
  refine ⟨ρ, F1, μ1, S1, s1, q1, p1.bind.imp (Xt.refl _ _ _) fun F2 μ2 S2 o2 H2 e2 s2 p2 => ?_⟩
  refine ⟨ρ, F2, μ2, S2, s2, q1.mono e2.toExt, p2.bind.imp (Xt.refl _ _ _) fun F3 μ3 S3 o3 H3 e3 s3 p3 => ?_⟩
  obtain ⟨r, e', k⟩ := pur_post p3
  exact ⟨v, F3, μ3, S3, r, s3, r1.mono (e2.toExt.trans e3.toExt), e', k⟩
end
end G

set_option Elab.async false
set_option linter.all false
set_option maxRecDepth 100000
set_option maxHeartbeats 4000000
namespace G
open PySem PySem.Spec PyProof.Rows L2

def sNil : MS := fun ρ S => some (.next ρ, S)
def sSeq (m n : MS) : MS := fun ρ S => match m ρ S with
  | some (.next ρ', S') => n ρ' S'
  | r => r
def sExpr (m : ME) : MS := fun ρ S => bns ρ (m ρ S) fun _ S1 => some (.next ρ, S1)
def sRet (m : ME) : MS := fun ρ S => bns ρ (m ρ S) fun v S1 => some (.ret v, S1)
def sRetN : MS := fun ρ S => some (.ret .non, S)
def sIf (t : MT) (m n : MS) : MS := fun ρ S => bns ρ (t ρ S) fun b S1 => if b then m ρ S1 else n ρ S1
def sBrk : MS := fun ρ S => some (.brk ρ, S)
def sCont : MS := fun ρ S => some (.cont ρ, S)
def sSet (i : Nat) (m : ME) : MS := fun ρ S => bns ρ (m ρ S) fun v S1 => some (.next (ρ.set i (some v)), S1)
section
variable {X : Cx} {W : WX} {st : Stmt} {rest : List Stmt} {e c : Expr} {pos : Pos} {me : ME} {mt : MT} {m n : MS}
theorem stop {K : PySem.W.Frag} {mg : Str → Option Value} {F H : Hp} {μ : List Addr} {S : Sto} {D : Ends} {f : Fl} (h : PostS K mg W F H μ (some (f, S)) D) (s : RepS K mg F H μ S) : RS K mg W D F μ H f := h F μ H (Xt.refl _ _ _) s
theorem gss_nil : GSs X W [] sNil := by
  refine gss_of pss_nil fun D σ H h => ?_
  obtain ⟨ρ, F, μ, S, hS, hE, hP⟩ := h
  exact stop hP hS σ hE
theorem RS.next_imp {K : PySem.W.Frag} {mg : Str → Option Value} {F H : Hp} {μ : List Addr} {D D' : Ends} {f : Fl} (h : RS K mg W D F μ H f) (hn : ∀ ρ, f ≠ .next ρ) (hr : D.rt = D'.rt) (hb : D.bk = D'.bk) (hc : D.ct = D'.ct) : RS K mg W D' F μ H f := by
  cases f with
  | next ρ => exact absurd rfl (hn ρ)
  | brk ρ => exact fun σ r => hb ▸ h σ r
  | cont ρ => exact fun σ r => hc ▸ h σ r
  | ret v => exact fun w r => hr ▸ h w r
  | exc ρ x => exact h
theorem seq_tMS {K : PySem.W.Frag} {mg : Str → Option Value} {D : Ends} {σ : L2.St} {H : Hp} (h : tMS K mg W (sSeq m n) D σ H) : tMS K mg W m { D with nx := tMS K mg W n D } σ H := by
  obtain ⟨ρ, F, μ, S, hS, hE, hP⟩ := h
  refine ⟨ρ, F, μ, S, hS, hE, ?_⟩
  unfold sSeq at hP
  split at hP
  · rename_i ρ' S' e
    rw [e]
    exact fun F' μ' H' e' r' σ' q' => ⟨ρ', F', μ', S', r', q', hP.ext e'⟩
  · rename_i hne
    cases q : m ρ S with
    | none => rw [q] at hP; exact hP.elim
    | some o =>
      obtain ⟨f, S'⟩ := o
      rw [q] at hP
      refine fun F' μ' H' e' r' => (hP F' μ' H' e' r').next_imp (fun ρ' z => ?_) rfl rfl rfl
      subst z
      exact hne ρ' S' q
theorem gss_cons (h1 : GS X W st m) (h2 : GSs X W rest n) : GSs X W (st :: rest) (sSeq m n) := gss_of (pss_cons h1 h2) fun D σ H h => seq_tMS h
theorem gss_one (h1 : GS X W st m) : GSs X W [st] m := pss_one h1
theorem gs_expr (he : GE X W e me) (hs : swapsWith e none pos.line X.env = pure false := by rfl) : GS X W (.Expr e pos) (sExpr me) := by
  refine gs_of (ps_expr he hs) fun D σ H h => ?_
  obtain ⟨ρ, F, μ, S, hS, hE, hP⟩ := h
  exact bind_tM hS hE (hP.bind hE) fun F1 μ1 S1 v w H1 e1 s1 q1 r1 p1 => stop p1 s1 σ q1
theorem gs_ret (he : GE X W e me) : GS X W (.Return (some e) pos) (sRet me) := by
  refine gs_of (ps_ret he) fun D σ H h => ?_
  obtain ⟨ρ, F, μ, S, hS, hE, hP⟩ := h
  exact bind_tM hS hE (hP.bind hE) fun F1 μ1 S1 v w H1 e1 s1 q1 r1 p1 => stop p1 s1 w r1
theorem gs_if {a b : List Stmt} (hc : GT X W c mt) (ha : GSs X W a m) (hb : GSs X W b n) : GS X W (.If c a b pos) (sIf mt m n) := by
  refine gs_of (ps_if hc ha hb) fun D σ H h => ?_
  obtain ⟨ρ, F, μ, S, hS, hE, hP⟩ := h
  refine bind_tMT hS hE (hP.bind hE) fun F1 μ1 S1 v H1 e1 s1 q1 p1 => ?_
  cases v with
  | true => exact ⟨ρ, F1, μ1, S1, s1, q1, p1⟩
  | false => exact ⟨ρ, F1, μ1, S1, s1, q1, p1⟩
theorem gs_set (i : Nat) {x : Str} {pos' : Pos} (hN : X.N.Nodup) (he : GE X W e me) (hi : X.N[i]? = some x := by rfl) (hx : Loc X.env.scope x := by first | exact Or.inl rfl | exact Or.inr rfl) (hs : swapsWith e (some (.Name x pos')) pos.line X.env = pure false := by rfl) (hf : X.fn x = true ∨ X.env.scope.names.lookup x = some .local := by first | exact .inl rfl | exact .inr rfl | assumption) :
    GS X W (.Assign [.Name x pos'] e pos) (sSet i me) := by
  refine gs_of (ps_set hN hi hx he hs hf) fun D σ H h => ?_
  obtain ⟨ρ, F, μ, S, hS, hE, hP⟩ := h
  exact bind_tM hS hE (hP.bind hE) fun F1 μ1 S1 v w H1 e1 s1 q1 r1 p1 => stop p1 s1 _ (q1.set r1 i)
def sPar (i j : Nat) (ms : MA) : MS := fun ρ S => bns ρ (ms ρ S) fun vs S1 => match vs with
  | [v, w] => some (.next ((ρ.set i (some v)).set j (some w)), S1)
  | _ => none
theorem gs_par (i j : Nat) {x y : Str} {a b : Expr} {ms : MA} {px py pt : Pos} {kt k2 pt2} (hc : X.calm = true) (hN : X.N.Nodup) (ha : GA X W [a, b] ms) (hi : X.N[i]? = some x := by rfl) (hj : X.N[j]? = some y := by rfl) (hij : i ≠ j := by decide)
    (hx : X.env.scope.names.lookup x = some .local := by rfl) (hy : X.env.scope.names.lookup y = some .local := by rfl)
    (hw : swappedStores [.Tuple [.Name x px, .Name y py] kt pt] (.Tuple [a, b] k2 pt2) X.env = pure (some [x, y]) := by rfl)
    (hs : swapsWithSole [.Tuple [.Name x px, .Name y py] kt pt] (.Tuple [a, b] k2 pt2) pos.line X.env = pure false := by rfl) :
    GS X W (.Assign [.Tuple [.Name x px, .Name y py] kt pt] (.Tuple [a, b] k2 pt2) pos) (sPar i j ms) := by
  refine gs_of (ps_par hc hN hi hj hij hx hy ha hw hs) fun D σ H h => ?_
  obtain ⟨ρ, F, μ, S, hS, hE, hP⟩ := h
  refine bind_tMA hS hE (hP.bind hE) fun F1 μ1 S1 v w H1 e1 s1 q1 r1 p1 => ?_
  split at p1
  · obtain ⟨w1, w2, rfl, r1, r2⟩ := r1.two
    exact ⟨w1, w2, rfl, stop p1 s1 _ ((q1.set r1 i).set r2 j)⟩
  · exact p1.elim
def sPar3 (i j l : Nat) (ms : MA) : MS := fun ρ S => bns ρ (ms ρ S) fun vs S1 => match vs with
  | [u, v, w] => some (.next (((ρ.set i (some u)).set j (some v)).set l (some w)), S1)
  | _ => none
theorem RepL.three {K : PySem.W.Frag} {F : Hp} {μ : List Addr} {x y z : Val} {vs : List V} (h : RepL K F μ [x, y, z] vs) : ∃ v w u, vs = [v, w, u] ∧ RepV K F μ x v ∧ RepV K F μ y w ∧ RepV K F μ z u := by
  cases h with | cons r t => cases t with | cons r' t' => cases t' with | cons r2 t2 => cases t2; exact ⟨_, _, _, rfl, r, r', r2⟩
def sAug (i : Nat) (f : Sto → Val → Val → Option Val) (m : ME) : MS := fun ρ S => match ρ[i]? with
  | some (some x) => bns ρ (m ρ S) fun y S1 => match f S1 x y with
    | some z => some (.next (ρ.set i (some z)), S1)
    | none => none
  | _ => none
theorem gs_aug (i : Nat) {x : Str} {op : Operator} {f : Sto → Val → Val → Option Val} {pos' : Pos} (hN : X.N.Nodup) (ho : GO2 X (inplaceOp op) f) (he : GE X W e me) (hi : X.N[i]? = some x := by rfl) (hx : Loc X.env.scope x := by first | exact Or.inl rfl | exact Or.inr rfl) (hf : X.fn x = true ∨ X.env.scope.names.lookup x = some .local := by first | exact .inl rfl | exact .inr rfl | assumption) :
    GS X W (.AugAssign (.Name x pos') op e pos) (sAug i f me) := by
  refine gs_of (ps_aug hN hi hx he ho hf) fun D σ H h => ?_
  obtain ⟨ρ, F, μ, S, hS, hE, hP⟩ := h
  unfold sAug at hP
  split at hP
  · rename_i v ev
    obtain ⟨w, hw, r⟩ := hE.2 i v ev
    refine ⟨w, hw, bind_tM hS hE (hP.bind hE) fun F1 μ1 S1 v1 w1 H1 e1 s1 q1 r1 p1 => ?_⟩
    split at p1
    · rename_i z ez
      refine ⟨v, v1, F1, μ1, S1, z, s1, r.mono e1.toExt, r1, ez, fun F' H' w' e' s' r' => ?_⟩
      exact p1 F' μ1 H' e' s' _ ((q1.mono e'.toExt).set r' i)
    · exact p1.elim
  · exact hP.elim
end

abbrev MG := Sto → Val → Ev → Option Ev
abbrev MGs := Sto → List Val → Ev → Option Ev
def Off (ts : List Nat) (σ σ1 : L2.St) : Prop := σ1.length = σ.length ∧ ∀ i, i ∉ ts → σ1[i]? = σ[i]?
theorem Off.refl (ts : List Nat) (σ : L2.St) : Off ts σ σ := ⟨rfl, fun _ _ => rfl⟩
theorem Off.set (i : Nat) (σ : L2.St) (z : Option V) : Off [i] σ (σ.set i z) := ⟨by simp, fun j hj => List.getElem?_set_ne fun e => hj (by simp [e])⟩
theorem Off.both {ts us : List Nat} {σ σ1 σ2 : L2.St} (a : Off ts σ σ1) (b : Off us σ1 σ2) : Off (ts ++ us) σ σ2 :=
  ⟨b.1.trans a.1, fun i hi => (b.2 i fun z => hi (List.mem_append_right _ z)).trans (a.2 i fun z => hi (List.mem_append_left _ z))⟩
def tG (K : PySem.W.Frag) (mg : Str → Option Value) (ts : List Nat) (f : MG) : TG := fun v σ H Q => ∃ x ρ F μ S ρ1, RepS K mg F H μ S ∧ RepE K F μ ρ σ ∧ RepV K F μ x v ∧ f S x ρ = some ρ1 ∧ ∀ σ1, RepE K F μ ρ1 σ1 → Off ts σ σ1 → Q σ1 H
def tGs (K : PySem.W.Frag) (mg : Str → Option Value) (ts : List Nat) (f : MGs) : TGs := fun v σ H Q => ∃ x ρ F μ S ρ1, RepS K mg F H μ S ∧ RepE K F μ ρ σ ∧ RepL K F μ x v ∧ f S x ρ = some ρ1 ∧ ∀ σ1, RepE K F μ ρ1 σ1 → Off ts σ σ1 → Q σ1 H
def GG (X : Cx) (tg : Expr) (ts : List Nat) (f : MG) : Prop := PG X tg (tG X.K X.mg ts f)
def GGs (X : Cx) (es : List Expr) (ts : List Nat) (f : MGs) : Prop := PGs X es (tGs X.K X.mg ts f)
def gN (i : Nat) : MG := fun _ v ρ => some (ρ.set i (some v))
def gsNil : MGs := fun _ vs ρ => match vs with
  | [] => some ρ
  | _ => none
def gsCons (f : MG) (g : MGs) : MGs := fun S vs ρ => match vs with
  | v :: r => (f S v ρ).bind fun ρ1 => g S r ρ1
  | [] => none
def prsOf : Val → Option (List Val)
  | .prs xs => some xs
  | _ => none
def gT (n : Nat) (g : MGs) : MG := fun S v ρ => match prsOf v with
  | some xs => if xs.length = n then g S xs ρ else none
  | none => match seqOf S v with
    | some (_, xs) => if xs.length = n then g S xs ρ else none
    | none => none
section
variable {X : Cx} {pos : Pos}
theorem gg_name (i : Nat) {x : Str} (hN : X.N.Nodup) (hi : X.N[i]? = some x := by rfl) (hx : Loc X.env.scope x := by first | exact Or.inl rfl | exact Or.inr rfl) (hf : X.fn x = true ∨ X.env.scope.names.lookup x = some .local := by first | exact .inl rfl | exact .inr rfl | assumption) : GG X (.Name x pos) [i] (gN i) := ⟨fun pins s σ H v u Q I r h => by
  obtain ⟨x, ρ, F, μ, S, ρ1, hS, hE, rv, e, k⟩ := h
  cases e
  exact (pg_name hN hi hx hf).run pins s σ H v u Q I r (k _ (hE.set rv i) (Off.set i σ _))⟩
theorem ggs_nil : GGs X [] [] gsNil := ⟨fun pins s σ H vs us Q I r h => by
  obtain ⟨x, ρ, F, μ, S, ρ1, hS, hE, rv, e, k⟩ := h
  cases rv with
  | nil => cases e; exact pgs_nil.run pins s σ H _ us Q I r ⟨rfl, k _ hE (Off.refl _ _)⟩
  | cons _ _ => cases e⟩
theorem ggs_cons {e : Expr} {es : List Expr} {f : MG} {g : MGs} {ts us : List Nat} (h1 : GG X e ts f) (h2 : GGs X es us g)
    (hs : (assignEach (e :: es) X.env).map (·.2) = assign e X.env :: (assignEach es X.env).map (·.2) := by rfl) : GGs X (e :: es) (ts ++ us) (gsCons f g) := ⟨fun pins s σ H vs us Q I r h => by
  obtain ⟨x, ρ, F, μ, S, ρ1, hS, hE, rv, e, k⟩ := h
  cases rv with
  | nil => cases e
  | cons rv rt =>
    rename_i v vr xs vs
    obtain ⟨ρ2, e2, e3⟩ := Option.bind_eq_some_iff.mp e
    exact (pgs_cons h1 h2 hs).run pins s σ H _ us Q I r ⟨_, _, rfl, v, ρ, F, μ, S, ρ2, hS, hE, rv, e2, fun σ1 q1 o1 => ⟨_, ρ2, F, μ, S, ρ1, hS, q1, rt, e3, fun σ2 q2 o2 => k σ2 q2 (o1.both o2)⟩⟩⟩
theorem gg_tup {es : List Expr} {k : Nat} {g : MGs} {n : Nat} {ts : List Nat} (hc : X.calm = true) (h : GGs X es ts g)
    (hn : (assignEach es X.env).length = n := by rfl) (hst : (assignEach es X.env).findIdx? (·.1) = none := by rfl) : GG X (.Tuple es k pos) ts (gT n g) := ⟨fun pins s σ H v u Q I r hw => by
  obtain ⟨x, ρ, F, μ, S, ρ1, hS, hE, rv, e, kk⟩ := hw
  unfold gT at e
  split at e
  · rename_i xs es'
    split at e
    · rename_i hl
      unfold prsOf at es'
      split at es'
      · cases es'
        cases rv with
        | prs z rl => exact (pg_tup hc h hn hst).run pins s σ H _ u Q I r ⟨_, _, rfl, same_seqT hS.sub z, by rw [← rl.length]; exact hl, _, ρ, F, μ, S, ρ1, hS, hE, rl, e, kk⟩
      · cases es'
    · cases e
  · split at e
    · rename_i b xs es'
      split at e
      · rename_i hl
        obtain ⟨a, vs, rfl, rl, z⟩ := seqOf_ok hS rv es'
        rcases z with ⟨_, z, _⟩ | ⟨_, z⟩
        · exact (pg_tup hc h hn hst).run pins s σ H _ u Q I r ⟨a, vs, rfl, z, by rw [← rl.length]; exact hl, xs, ρ, F, μ, S, ρ1, hS, hE, rl, e, kk⟩
        · exact (pg_lst hc h hn hst).run pins s σ H _ u Q I r ⟨a, vs, rfl, z, by rw [← rl.length]; exact hl, xs, ρ, F, μ, S, ρ1, hS, hE, rl, e, kk⟩
      · cases e
    · cases e⟩
end
section
variable {X : Cx} {W : WX} {e tg : Expr} {pos : Pos} {me : ME}
def sAsg (g : MG) (m : ME) : MS := fun ρ S => bns ρ (m ρ S) fun v S1 => match g S1 v ρ with
  | some ρ1 => some (.next ρ1, S1)
  | none => none
theorem gs_asg {g : MG} {ts : List Nat} (he : GE X W e me) (hg : GG X tg ts g) (hs : swapsWithSole [tg] e pos.line X.env = pure false := by rfl) (hw : swappedStores [tg] e X.env = pure none := by rfl)
    (h1 : (assignEach [tg] X.env).map (·.2) = [assign tg X.env] := by rfl) : GS X W (.Assign [tg] e pos) (sAsg g me) := by
  refine gs_of (ps_asg he hg hs hw h1) fun D σ H h => ?_
  obtain ⟨ρ, F, μ, S, hS, hE, hP⟩ := h
  refine bind_tM hS hE (hP.bind hE) fun F1 μ1 S1 v w H1 e1 s1 q1 r1 p1 => ?_
  split at p1
  · rename_i ρ1 e'
    exact ⟨v, ρ, F1, μ1, S1, ρ1, s1, q1, r1, e', fun σ1 q _ => stop p1 s1 σ1 q⟩
  · exact p1.elim
def rSI (K : PySem.W.Frag) (mg : Str → Option Value) (f : Sto → Val → Val → Val → Option Sto) : TSet := fun o i v H Q => ∃ vo vi vv F μ S S', RepS K mg F H μ S ∧ RepV K F μ vo o ∧ RepV K F μ vi i ∧ RepV K F μ vv v ∧ f S vo vi vv = some S' ∧
  ∀ F' μ' H', Xt F H μ F' H' μ' → RepS K mg F' H' μ' S' → Q H'
def sSub (f : Sto → Val → Val → Val → Option Sto) (mo mi m : ME) : MS := fun ρ S => bns ρ (m ρ S) fun v S1 => bns ρ (mo ρ S1) fun o S2 => bns ρ (mi ρ S2) fun i S3 => match f S3 o i v with
  | some S4 => some (.next ρ, S4)
  | none => none
theorem gs_sub {o i : Expr} {p' : Pos} {f : Sto → Val → Val → Val → Option Sto} {mo mi : ME} (hf : PSet X (rSI X.K X.mg f)) (ho : GE X W o mo) (hi : GE X W i mi) (he : GE X W e me)
    (ha : ∀ v, assign (.Subscript o i p') X.env v = (do
      let ov ← holding [v] (eval o X.env)
      let iv ← holding [v, ov] (eval i X.env)
      standAt p'
      holding [v, ov, iv] (setItem ov iv v)
      release [v, ov, iv] []) := by intro _; rfl)
    (hs : swapsWithSole [.Subscript o i p'] e pos.line X.env = pure false := by rfl) (hw : swappedStores [.Subscript o i p'] e X.env = pure none := by rfl)
    (h1 : (assignEach [.Subscript o i p'] X.env).map (·.2) = [assign (.Subscript o i p') X.env] := by rfl) : GS X W (.Assign [.Subscript o i p'] e pos) (sSub f mo mi me) := by
  refine gs_of (ps_asg he (pg_sub ho hi hf ha) hs hw h1) fun D σ H h => ?_
  obtain ⟨ρ, F, μ, S, hS, hE, hP⟩ := h
  refine bind_tM hS hE (hP.bind hE) fun F1 μ1 S1 v w H1 e1 s1 q1 r1 p1 => ?_
  refine bind_tM s1 q1 (p1.bind q1) fun F2 μ2 S2 v2 w2 H2 e2 s2 q2 r2 p2 => ?_
  refine bind_tM s2 q2 (p2.bind q2) fun F3 μ3 S3 v3 w3 H3 e3 s3 q3 r3 p3 => ?_
  split at p3
  · rename_i S4 e'
    exact ⟨v2, v3, v, F3, μ3, S3, S4, s3, r2.mono e3.toExt, r3, r1.mono (e2.toExt.trans e3.toExt), e', fun F' μ' H' e4 s4 => p3 F' μ' H' e4 s4 σ (q3.mono e4.toExt)⟩
  · exact p3.elim
end

abbrev Gd := List (Nat × List Val)
def gOk (g : Gd) (S : Sto) : Prop := ∀ p ∈ g, S[p.1]? = some (.lst p.2)
abbrev MI := Ev → Sto → Res (List Val × Gd)
structure Walks (K : PySem.W.Frag) (mg : Str → Option Value) (J : It) (F H : Hp) (μ : List Addr) (xs : List Val) (g : Gd) : Prop where
  goes : ∀ F1 H1 μ1 S1 i x, Xt F H μ F1 H1 μ1 → RepS K mg F1 H1 μ1 S1 → gOk g S1 → xs[i]? = some x → J.go i H1 ∧ ∀ w H2, J.yld i H1 w H2 → ∃ F2, Xt F1 H1 μ1 F2 H2 μ1 ∧ RepS K mg F2 H2 μ1 S1 ∧ RepV K F2 μ1 x w
  stops : ∀ F1 H1 μ1 S1, Xt F H μ F1 H1 μ1 → RepS K mg F1 H1 μ1 S1 → gOk g S1 → J.stop xs.length H1
def tMI (K : PySem.W.Frag) (mg : Str → Option Value) (W : WX) (m : MI) : TI := fun σ H R => ∃ ρ F μ S, RepS K mg F H μ S ∧ RepE K F μ ρ σ ∧ Post K mg (atS W σ) F H μ (m ρ S) (fun F' μ' S' a H' => ∀ J, Walks K mg J F' H' μ' a.1 a.2 → R J H')
def GI (X : Cx) (W : WX) (tg iter : Expr) (m : MI) : Prop := PI X tg iter (tMI X.K X.mg W m)

open Classical in
noncomputable def forL (g : Gd) (t : MG) (b : MS) : List Val → MS
  | [], ρ, S => if gOk g S then some (.next ρ, S) else none
  | x :: xs, ρ, S => if gOk g S then match t S x ρ with
      | some ρ1 => match b ρ1 S with
        | some (.next ρ2, S2) => forL g t b xs ρ2 S2
        | some (.cont ρ2, S2) => forL g t b xs ρ2 S2
        | some (.brk ρ2, S2) => some (.next ρ2, S2)
        | r => r
      | none => none
    else none
noncomputable def sFor (mi : MI) (t : MG) (b : MS) : MS := fun ρ S => bns ρ (mi ρ S) fun a S1 => forL a.2 t b a.1 ρ S1
section
variable {X : Cx} {W : WX} {tg iter : Expr} {pos : Pos} {mi : MI} {t : MG} {b : MS}
theorem gs_for {body : List Stmt} {ts : List Nat} (hp : PassesOwn (model X.prog X.w) X.A X.env X.xe) (hc : X.calm = true) (hi : GI X W tg iter mi) (hg : GG X tg ts t) (hb : GSs X W body b)
    (hs : ∀ x, foldedSetIterable iter X.env x = pure x := by intro _; rfl) : GS X W (.For tg iter body [] pos) (sFor mi t b) := by
  refine gs_of (ps_for hp hc hi hg hb hs) fun D σ H h => ?_
  obtain ⟨ρ, F, μ, S, hS, hE, hP⟩ := h
  refine ⟨ρ, F, μ, S, hS, hE, (hP.bind hE).imp (Xt.refl _ _ _) fun F1 μ1 S1 a H1 e1 s1 p1 J wk => ?_⟩
  obtain ⟨xs, g⟩ := a
  -- the invariant: what is left to be walked brings the end
  refine ⟨fun i m σ' H' => m = xs.length - i ∧ i ≤ xs.length ∧ ∃ ρ' F' μ' S', Xt F1 H1 μ1 F' H' μ' ∧ RepS X.K X.mg F' H' μ' S' ∧ RepE X.K F' μ' ρ' σ' ∧ PostS X.K X.mg W F' H' μ' (forL g t b (xs.drop i) ρ' S') D,
    ⟨xs.length, rfl, Nat.zero_le _, ρ, F1, μ1, S1, Xt.refl _ _ _, s1, hE.mono e1.toExt, p1⟩, ?_⟩
  rintro i m σ' H' ⟨rfl, hi', ρ', F', μ', S', x', s', q', p'⟩
  by_cases hlt : i < xs.length
  · have hx : xs[i]? = some xs[i] := List.getElem?_eq_getElem hlt
    rw [List.drop_eq_getElem_cons hlt] at p'
    unfold forL at p'
    split at p'
    · rename_i hg'
      obtain ⟨go, yl⟩ := wk.goes F' H' μ' S' i _ x' s' hg' hx
      refine .inr ⟨go, fun σ2 H2 => i + 1 ≤ xs.length ∧ ∃ ρ' F' μ' S', Xt F1 H1 μ1 F' H2 μ' ∧ RepS X.K X.mg F' H2 μ' S' ∧ RepE X.K F' μ' ρ' σ2 ∧ PostS X.K X.mg W F' H2 μ' (forL g t b (xs.drop (i + 1)) ρ' S') D,
        fun σ2 H2 ⟨l2, z⟩ => ⟨xs.length - (i + 1), by omega, rfl, l2, z⟩, fun w H2 y => ?_⟩
      obtain ⟨F2, x2, s2, r2⟩ := yl w H2 y
      split at p'
      · rename_i ρ1 et
        refine ⟨xs[i], ρ', F2, μ', S', ρ1, s2, q'.mono x2.toExt, r2, et, fun σ1 q1 _ => ?_⟩
        refine ⟨ρ1, F2, μ', S', s2, q1, ?_⟩
        have p2 := p'.ext x2
        split at p2
        · rename_i ρ2 S2 eb
          rw [eb]
          exact fun F3 μ3 H3 x3 s3 σ3 q3 => ⟨hlt, ρ2, F3, μ3, S2, (x'.trans x2).trans x3, s3, q3, p2.ext x3⟩
        · rename_i ρ2 S2 eb
          rw [eb]
          exact fun F3 μ3 H3 x3 s3 σ3 q3 => ⟨hlt, ρ2, F3, μ3, S2, (x'.trans x2).trans x3, s3, q3, p2.ext x3⟩
        · rename_i ρ2 S2 eb
          rw [eb]
          exact fun F3 μ3 H3 x3 s3 σ3 q3 => p2 F3 μ3 H3 x3 s3 σ3 q3
        · rename_i n1 n2 n3
          cases eb : b ρ1 S' with
          | none => rw [eb] at p2; exact p2.elim
          | some o =>
            obtain ⟨f, S2⟩ := o
            rw [eb] at p2
            intro F3 μ3 H3 x3 s3
            have p3 := p2 F3 μ3 H3 x3 s3
            cases f with
            | next ρ2 => exact absurd eb (n1 ρ2 S2)
            | cont ρ2 => exact absurd eb (n2 ρ2 S2)
            | brk ρ2 => exact absurd eb (n3 ρ2 S2)
            | ret v => exact p3
            | exc ρ2 x => exact p3
      · exact p'.elim
    · exact p'.elim
  · have e : i = xs.length := by omega
    subst e
    rw [List.drop_length] at p'
    unfold forL at p'
    split at p'
    · rename_i hg'
      exact .inl ⟨wk.stops F' H' μ' S' x' s' hg', stop p' s' σ' q'⟩
    · exact p'.elim
end

def whL (t : MT) (b : MS) : Nat → MS
  | 0, _, _ => none
  | n + 1, ρ, S => bns ρ (t ρ S) fun c S1 => if c then match b ρ S1 with
      | some (.next ρ2, S2) => whL t b n ρ2 S2
      | some (.cont ρ2, S2) => whL t b n ρ2 S2
      | some (.brk ρ2, S2) => some (.next ρ2, S2)
      | r => r
    else some (.next ρ, S1)
def fuel : Nat := 2 ^ 40
def sWhile (t : MT) (b : MS) : MS := whL t b fuel
section
variable {X : Cx} {W : WX} {c : Expr} {pos : Pos} {t : MT} {b : MS}
theorem gs_while {body : List Stmt} (hp : PassesOwn (model X.prog X.w) X.A X.env X.xe) (hc : GT X W c t) (hb : GSs X W body b) : GS X W (.While c body [] pos) (sWhile t b) := by
  refine gs_of (ps_while hp hc hb) fun D σ H h => ?_
  refine ⟨fun m σ' H' => tMS X.K X.mg W (whL t b m) D σ' H', ⟨fuel, h⟩, ?_⟩
  intro m σ' H' h
  obtain ⟨ρ, F, μ, S, hS, hE, hP⟩ := h
  cases m with
  | zero => exact hP.elim
  | succ m =>
    refine bind_tMT hS hE (hP.bind hE) fun F1 μ1 S1 v H1 e1 s1 q1 p1 => ?_
    cases v with
    | false => exact stop p1 s1 σ' q1
    | true =>
      refine ⟨fun σ2 H2 => tMS X.K X.mg W (whL t b m) D σ2 H2, fun σ2 H2 z => ⟨m, Nat.lt_succ_self m, z⟩, ρ, F1, μ1, S1, s1, q1, ?_⟩
      simp only [if_true] at p1
      split at p1
      · rename_i ρ2 S2 eb
        rw [eb]
        exact fun F3 μ3 H3 x3 s3 σ3 q3 => ⟨ρ2, F3, μ3, S2, s3, q3, p1.ext x3⟩
      · rename_i ρ2 S2 eb
        rw [eb]
        exact fun F3 μ3 H3 x3 s3 σ3 q3 => ⟨ρ2, F3, μ3, S2, s3, q3, p1.ext x3⟩
      · rename_i ρ2 S2 eb
        rw [eb]
        exact fun F3 μ3 H3 x3 s3 σ3 q3 => p1 F3 μ3 H3 x3 s3 σ3 q3
      · rename_i n1 n2 n3
        cases eb : b ρ S1 with
        | none => rw [eb] at p1; exact p1.elim
        | some o =>
          obtain ⟨f, S2⟩ := o
          rw [eb] at p1
          intro F3 μ3 H3 x3 s3
          have p3 := p1 F3 μ3 H3 x3 s3
          cases f with
          | next ρ2 => exact absurd eb (n1 ρ2 S2)
          | cont ρ2 => exact absurd eb (n2 ρ2 S2)
          | brk ρ2 => exact absurd eb (n3 ρ2 S2)
          | ret v => exact p3
          | exc ρ2 x => exact p3
end
end G

set_option Elab.async false
set_option linter.all false
set_option maxRecDepth 100000
set_option maxHeartbeats 4000000
namespace G
open PySem PySem.Spec PyProof.Rows L2

section
variable {K : PySem.W.Frag} {mg : Str → Option Value} {F H : Hp} {μ : List Addr} {S : Sto} {p : Addr} {o : HO}
theorem RepS.junk (h : RepS K mg F H μ S) (hF : F p = none) (hm : p ∉ μ) : RepS K mg F (upd H p o) μ S := by
  refine ⟨fun b x q => ?_, h.len, h.nd, h.off, fun a ha => ?_, fun k a c h1 h2 => ?_⟩
  · rw [upd_ne (ne_of_none q hF)]; exact h.sub b x q
  · rw [upd_ne (ne_mem ha hm)]; exact h.there a ha
  · exact (h.cells k a c h1 h2).mono (Ext.refl F μ) (upd_ne (ne_mem (List.mem_of_getElem? h1) hm))
theorem RepS.froze (h : RepS K mg F H μ S) (hF : F p = none) (hm : p ∉ μ) (hp : H p = some o) : RepS K mg (upd F p o) H μ S := by
  have e := ext_upd F μ (o := o) hF
  refine ⟨fun b x q => ?_, h.len, h.nd, fun a ha => ?_, h.there, fun k a c h1 h2 => (h.cells k a c h1 h2).mono e rfl⟩
  · by_cases hb : b = p
    · subst hb; rw [upd_same] at q; cases q; exact hp
    · rw [upd_ne hb] at q; exact h.sub b x q
  · rw [upd_ne (ne_mem ha hm)]; exact h.off a ha
end

def bndN {α β : Type} (m : Res α) (k : α → Sto → Res β) : Res β :=
  match m with
  | some (.ok a S) => k a S
  | _ => none
def wipeE (ρ : Ev) : List Nat → Ev
  | [] => ρ
  | v :: vs => (wipeE ρ vs).set v none
theorem wipe_rep {K : PySem.W.Frag} {F : Hp} {μ : List Addr} {ρ : Ev} {σ : L2.St} (h : RepE K F μ ρ σ) : ∀ vs, RepE K F μ (wipeE ρ vs) (wipe σ vs)
  | [] => h
  | v :: vs => (wipe_rep h vs).unset v none
theorem wipe_in {σ : L2.St} {i : Nat} : ∀ {vs : List Nat}, i ∈ vs → (wipe σ vs)[i]? = if i < σ.length then some none else none
  | v :: vs, hi => by
    unfold wipe
    by_cases hv : v = i
    · subst hv
      by_cases hl : v < σ.length
      · rw [List.getElem?_set_self (by rw [wipe_length]; exact hl), if_pos hl]
      · rw [List.getElem?_eq_none (by rw [List.length_set, wipe_length]; omega), if_neg hl]
    · rw [List.getElem?_set_ne hv]
      rcases List.mem_cons.mp hi with z | z
      · exact absurd z.symm hv
      · exact wipe_in z
theorem wipe_off {σ σ1 : L2.St} {ts vs : List Nat} (h : Off ts (wipe σ vs) σ1) (hs : ∀ i ∈ ts, i ∈ vs) : wipe σ1 vs = wipe σ vs := by
  have hl : σ1.length = σ.length := by rw [h.1, wipe_length]
  apply List.ext_getElem?
  intro i
  by_cases hi : i ∈ vs
  · rw [wipe_in hi, wipe_in hi, hl]
  · rw [wipe_out hi, h.2 i fun z => hi (hs i z)]
noncomputable def lcL (g : Gd) (t : MG) (tt : MT) (te : ME) (ρ : Ev) : List Val → Sto → List Val → Res (List Val)
  | [], S, acc => open Classical in if gOk g S then some (.ok acc S) else none
  | x :: xs, S, acc => open Classical in if gOk g S then match t S x ρ with
      | some ρ2 => bndN (tt ρ2 S) fun b S1 => if b then bndN (te ρ2 S1) fun y S2 => if acc.length < sizeLine then lcL g t tt te ρ xs S2 (acc ++ [y]) else none else lcL g t tt te ρ xs S1 acc
      | none => none
    else none
noncomputable def mLc (mi : MI) (t : MG) (tt : MT) (te : ME) (vs : List Nat) : ME := fun ρ S => bnd (mi ρ S) fun a S1 => bndN (lcL a.2 t tt te (wipeE ρ vs) a.1 S1 []) fun ys S2 => some (.ok (.lst ys) S2)
noncomputable def mLcC (mi : MI) (t : MG) (tt : MT) (te : ME) (vs : List Nat) : ME := fun ρ S => bnd (mi ρ S) fun a S1 => bndN (lcL a.2 t tt te (wipeE ρ vs) a.1 S1 []) fun ys S2 => some (.ok (.cell S2.length) (S2 ++ [.lst ys]))
abbrev W0 : WX := fun _ _ _ _ => False
def GTs (X : Cx) (W : WX) (ifs : List Expr) (m : MT) : Prop := PTs X ifs (tMT X.K X.mg W m)
def mYes : MT := fun _ S => some (.ok true S)
theorem gts_nil {X : Cx} {W : WX} : GTs X W [] mYes := ⟨fun pins s σ H Q I h => by
  obtain ⟨ρ, F, μ, S, hS, hE, hP⟩ := h
  exact pts_nil.run pins s σ H Q I (hP F μ H (Xt.refl _ _ _) hS)⟩
theorem gts_one {X : Cx} {W : WX} {c : Expr} {m : MT} (h : GT X W c m) : GTs X W [c] m := pts_one h
theorem bndN_some {α β : Type} {m : Res α} {k : α → Sto → Res β} {o : Out β} (h : bndN m k = some o) : ∃ a S, m = some (.ok a S) ∧ k a S = some o := by
  cases m with
  | none => cases h
  | some x =>
    cases x with
    | ok a S => exact ⟨a, S, rfl, h⟩
    | exc e S => cases h
section
variable {X : Cx} {W : WX} {elt tg iter : Expr} {ifs : List Expr} {scope : Scope} {own : List (Str × Nat)} {pos : Pos} {mi : MI} {t : MG} {tt : MT} {te : ME}
theorem lc_walk {K : PySem.W.Frag} {mg : Str → Option Value} {J : It} {F1 H1 : Hp} {μ1 : List Addr} {S1 Sf : Sto} {xs ys : List Val} {g : Gd} {ρ : Ev} {σ : L2.St} {vs ts : List Nat} {D : Addr} {Qd : Hp → Prop}
    (hts : ∀ i ∈ ts, i ∈ vs) (wk : Walks K mg J F1 H1 μ1 xs g) (s1 : RepS K mg F1 H1 μ1 S1) (hE : RepE K F1 μ1 ρ σ) (hD : H1 D = none) (hr : lcL g t tt te (wipeE ρ vs) xs S1 [] = some (.ok ys Sf))
    (fin : ∀ F' H' μ' ws, Xt F1 H1 μ1 F' H' μ' → RepS K mg F' H' μ' Sf → RepL K F' μ' ys ws → H' D = some (.lst ws) → D ∉ μ' → F' D = none → Qd H') :
    ∃ Wv : Nat → Nat → Hp → Prop, (∃ m, Wv 0 m (upd H1 D (.lst []))) ∧ ∀ i m H, Wv i m H →
      (J.stop i H ∧ Qd H) ∨ (J.go i H ∧ ∃ Nx : Hp → Prop, (∀ H', Nx H' → ∃ m', m' < m ∧ Wv (i + 1) m' H') ∧ ∀ x H', J.yld i H x H' → tG K mg ts t x (wipe σ vs) H' fun σ2 H2 => wipe σ2 vs = wipe σ vs ∧ tMT K mg W0 tt σ2 H2 fun b H3 =>
        if b = true then tM K mg W0 te σ2 H3 fun y H4 => ∃ acc, H4 D = some (.lst acc) ∧ acc.length < sizeLine ∧ Nx (upd H4 D (.lst (acc ++ [y]))) else Nx H3) := by
  have inv : ∀ i, i ≤ xs.length → Hp → Prop := fun _ _ _ => True
  refine ⟨fun i m H => m = xs.length - i ∧ i ≤ xs.length ∧ ∃ F' μ' S' acc ws, Xt F1 H1 μ1 F' H μ' ∧ RepS K mg F' H μ' S' ∧ RepL K F' μ' acc ws ∧ H D = some (.lst ws) ∧ D ∉ μ' ∧ F' D = none ∧ lcL g t tt te (wipeE ρ vs) (xs.drop i) S' acc = some (.ok ys Sf),
    ⟨xs.length, rfl, Nat.zero_le _, F1, μ1, S1, [], [], ⟨Ext.refl _ _, fun a o h n => ⟨by rw [upd_ne (ne_of_none h hD)]; exact h, n, fun z => z⟩⟩, s1.junk (s1.nF hD) (s1.ne hD), .nil, upd_same, s1.ne hD, s1.nF hD, hr⟩, ?_⟩
  rintro i m H ⟨rfl, hi, F', μ', S', acc, ws, x', s', ra, hd, hm, hf, hr'⟩
  by_cases hlt : i < xs.length
  · have hx : xs[i]? = some xs[i] := List.getElem?_eq_getElem hlt
    rw [List.drop_eq_getElem_cons hlt] at hr'
    unfold lcL at hr'
    split at hr'
    · rename_i hg'
      obtain ⟨go, yl⟩ := wk.goes F' H μ' S' i _ x' s' hg' hx
      refine .inr ⟨go, fun H2 => i + 1 ≤ xs.length ∧ ∃ F' μ' S' acc ws, Xt F1 H1 μ1 F' H2 μ' ∧ RepS K mg F' H2 μ' S' ∧ RepL K F' μ' acc ws ∧ H2 D = some (.lst ws) ∧ D ∉ μ' ∧ F' D = none ∧ lcL g t tt te (wipeE ρ vs) (xs.drop (i + 1)) S' acc = some (.ok ys Sf),
        fun H2 ⟨l2, z⟩ => ⟨xs.length - (i + 1), by omega, rfl, l2, z⟩, fun w H2 y => ?_⟩
      obtain ⟨F2, x2, s2, r2⟩ := yl w H2 y
      split at hr'
      · rename_i ρ1 et
        have hE' : RepE K F2 μ' (wipeE ρ vs) (wipe σ vs) := wipe_rep (hE.mono (x'.toExt.trans x2.toExt)) vs
        refine ⟨xs[i], _, F2, μ', S', ρ1, s2, hE', r2, et, fun σ1 q1 o1 => ⟨wipe_off o1 hts, ?_⟩⟩
        obtain ⟨b, S3, etb, hk⟩ := bndN_some hr'
        obtain ⟨hd2, hm2, hf2⟩ := x2.keep D _ hd hm
        refine ⟨ρ1, F2, μ', S', s2, q1, ?_⟩
        rw [etb]
        intro F3 μ3 H3 x3 s3
        obtain ⟨hd3, hm3, hf3⟩ := x3.keep D _ hd2 hm2
        show if b = true then _ else _
        cases b with
        | false => exact ⟨hlt, F3, μ3, S3, acc, ws, (x'.trans x2).trans x3, s3, ra.mono (x2.toExt.trans x3.toExt), hd3, hm3, hf3 (hf2 hf), hk⟩
        | true =>
          simp only [if_true] at hk ⊢
          obtain ⟨y, S4, ete, hk⟩ := bndN_some hk
          split at hk
          · rename_i hz
            refine ⟨ρ1, F3, μ3, S3, s3, q1.mono x3.toExt, ?_⟩
            rw [ete]
            intro F4 μ4 H4 x4 s4 w4 r4
            obtain ⟨hd4, hm4, hf4⟩ := x4.keep D _ hd3 hm3
            have hf' := hf4 (hf3 (hf2 hf))
            refine ⟨ws, hd4, by rw [← ra.length]; exact hz, hlt, F4, μ4, S4, acc ++ [y], ws ++ [w4], ?_, s4.junk hf' hm4, (ra.mono (x2.toExt.trans (x3.toExt.trans x4.toExt))).append (.cons r4 .nil), upd_same, hm4, hf', hk⟩
            have xx := ((x'.trans x2).trans x3).trans x4
            exact ⟨xx.toExt, fun a o h n => by
              obtain ⟨k1, k2, k3⟩ := xx.keep a o h n
              exact ⟨by rw [upd_ne (ne_of_none h hD)]; exact k1, k2, k3⟩⟩
          · cases hk
      · cases hr'
    · cases hr'
  · have e : i = xs.length := by omega
    subst e
    rw [List.drop_length] at hr'
    unfold lcL at hr'
    split at hr'
    · rename_i hg'
      cases hr'
      exact .inl ⟨wk.stops F' H μ' _ x' s' hg', fin F' H μ' ws x' s' ra hd hm hf⟩
    · cases hr'
theorem tLc_of {vs ts : List Nat} (hts : ∀ i ∈ ts, i ∈ vs) : ∀ σ H Q, tM X.K X.mg W (mLc mi t tt te vs) σ H Q → tLc (tMI X.K X.mg W mi) (tG X.K X.mg ts t) (tMT X.K X.mg W0 tt) (tM X.K X.mg W0 te) vs σ H Q := by
  intro σ H Q h
  obtain ⟨ρ, F, μ, S, hS, hE, hP⟩ := h
  refine ⟨ρ, F, μ, S, hS, hE, hP.bind.imp (Xt.refl _ _ _) fun F1 μ1 S1 a H1 e1 s1 p1 J wk D hD => ?_⟩
  obtain ⟨xs, g⟩ := a
  simp only at p1 wk
  cases e : bndN (lcL g t tt te (wipeE ρ vs) xs S1 []) fun ys S2 => some (Out.ok (Val.lst ys) S2) with
  | none => rw [e] at p1; exact p1.elim
  | some o =>
    obtain ⟨ys, Sf, hr, ho⟩ := bndN_some e
    cases ho
    rw [e] at p1
    refine lc_walk hts wk s1 (hE.mono e1.toExt) hD hr fun F' H' μ' ws x' s' r' hd hm hf => ?_
    refine p1 (upd F' D (.lst ws)) μ' H' ?_ (s'.froze hf hm hd) (.ref D) (.lst upd_same (r'.mono (ext_upd F' μ' hf)))
    exact ⟨x'.toExt.trans (ext_upd F' μ' hf), fun a o h n => by
      obtain ⟨k1, k2, k3⟩ := x'.keep a o h n
      exact ⟨k1, k2, fun z => by rw [upd_ne (ne_of_none h hD)]; exact k3 z⟩⟩
def Blk (X : Cx) (scope : Scope) (P : Cx → Prop) : Prop := ∀ (s : Shared) (H : Hp) (C : Addr) (cl : List (Str × Addr)) (fp : List Addr), P (X.blk s H scope (compEnvC scope cl C X.env) fp)
theorem ge_lc {ts vs : List Nat} (hc : X.calm = true) (hN : X.N.Nodup) (hi : GI X W tg iter mi) (ok : BlkOk X.N X.env.scope scope own) (hts : ∀ i ∈ ts, i ∈ own.map (·.2)) (hg : Blk X scope fun Y => GG Y tg ts t) (ht : Blk X scope fun Y => GTs Y W0 ifs tt) (he : Blk X scope fun Y => GE Y W0 elt te)
    (hs : ∀ x, foldedSetIterable iter X.env x = pure x := by intro _; rfl) (hvs : own.map (·.2) = vs := by rfl) : GE X W (.ListComp elt [⟨tg, iter, ifs, 0⟩] scope pos) (mLc mi t tt te vs) := by
  subst hvs
  exact ge_of (pe_lc (g := tG X.K X.mg ts t) (tt := tMT X.K X.mg W0 tt) (te := tM X.K X.mg W0 te) hc hN hi ok (fun s H C cl fp => hg s H C cl fp) (fun s H C cl fp => ht s H C cl fp) (fun s H C cl fp => he s H C cl fp) hs) (tLc_of hts)
end

abbrev Fn := List Val → Sto → Res Val
def spF (K : PySem.W.Frag) (mg : Str → Option Value) (n : Nat) (f : Fn) : Sp := fun vs H Q E => vs.length = n ∧ ∃ ds F μ S, RepS K mg F H μ S ∧ RepL K F μ ds vs ∧ Post K mg E F H μ (f ds S) (RV K Q)
structure FnG (P : Program) (w : World) (K : PySem.W.Frag) (mg : Str → Option Value) (base : Heap) (CX : CXT) (k : Nat) (f : Addr) (fd : FuncData) (ps : List Str) (sp : Sp) : Prop where
  len : ∀ vs H Q E, sp vs H Q E → vs.length = ps.length
  run : ∀ (A : Around) (outer : List Env) (s : Shared) (H : Hp) (args : Args) (us : List Value) (vs : List V) (Q : VK) (E : XK), A.guards = some [] → Room k A → Env0 P w K mg base A outer s H → BindsTo s fd args (ps.zip us) →
    Vals vs us → sp vs H Q E → codeAny (model P w) A (.call (.ref f) args) (CR CX outer P w H s Q E) s
section
variable {X : Cx} {W : WX} {CX : CXT} {k : Nat} {f : Addr} {fd : FuncData} {ps : List Str} {F : Fn} {x : Str} {p pos : Pos} {e : Expr} {es : List Expr} {ms : MA}
theorem run_fnG {pins : List (Addr × Obj)} {σ : L2.St} {H : Hp} {s : Shared} {Q : VK} {us : List Value} {vs : List V} {sp : Sp} {E : XK} (Go : FnG X.prog X.w X.K X.mg X.base CX k f fd ps sp) (hG : X.A.guards = some []) (hr : Room k X.A) (hb : Binds X.K fd ps []) (hx : PassesAt CX X σ E)
    (I : L2.Inv X pins σ H s) (r : Vals vs us) (h : sp vs H Q E) : wpAny (model X.prog X.w) X.A (call (.ref f) us) (EP X pins σ Q) X.xe s := by
  have hl : us.length = ps.length := r.length ▸ Go.len vs H Q E h
  have bb := hb s us I.kIn ((congrArg List.length (List.append_nil us)).trans hl)
  rw [List.append_nil] at bb
  refine wpAny_call (codeAny_mono (Go.run X.A X.stack s H ⟨us, []⟩ us vs Q E hG hr I.env0 bb r h) ?_)
  rintro (e | fl) s' hq
  · exact hx pins H s e s' I hq
  · cases fl with
    | ret u => exact I.after hq
    | next => cases hq
    | brk => cases hq
    | cont => cases hq
theorem ge_call (Go : FnG X.prog X.w X.K X.mg X.base CX k f fd ps (spF X.K X.mg ps.length F)) (hG : X.A.guards = some []) (hr : Room k X.A) (hg : Gl X x) (hm : X.mg x = some (.ref f)) (hk : PySem.W.keepIn X.K (.ref f) = true) (hb : Binds X.K fd ps []) (hx : ∀ σ, PassesAt CX X σ (atS W σ))
    (ha : GA X W (e :: es) ms) (hdb : (x == ("__debug__" : Str)) = false := by decide) (he : starEach (e :: es) X.env = (false, eval e X.env) :: starEach es X.env := by rfl) (hpl : (backTo pos (starEach es X.env)).any (·.1) = false := by rfl) :
    GE X W (.Call (.Name x p) (e :: es) [] pos) (fun ρ S => bnd (ms ρ S) fun vs S1 => if vs.length = ps.length then F vs S1 else none) := ⟨fun pins s σ H Q I h => by
  refine wpAny_Call_Name_kw (ld_glob I hg hm ?_ hdb)
  have hw : tMA X.K X.mg W ms σ H fun vs H1 => spF X.K X.mg ps.length F vs H1 Q (atS W σ) := by
    obtain ⟨ρ, F', μ, S, hS, hE, hP⟩ := h
    refine bind_tMA hS hE hP.bind fun F1 μ1 S1 v w H1 e1 s1 q1 r1 p1 => ?_
    split at p1
    · rename_i hlen
      exact ⟨by rw [← r1.length]; exact hlen, v, F1, μ1, S1, s1, r1, p1⟩
    · exact p1.elim
  exact PySem.W.callWith_K (h₀ := X.base) I.ok.mod.kin hk (thn (ha.run pos pins s σ H _ I hw) fun us s1 ⟨vs, H1, I1, r, q⟩ => ⟨I1.kIn, run_fnG Go hG hr hb (hx σ) I1 r q⟩) he hpl⟩
end

mutual
inductive Fz (n : Nat) (S : Sto) : Val → Val → Prop where
  | non : Fz n S .non .non
  | bl {b : Bool} : Fz n S (.bl b) (.bl b)
  | int {i : Int} : Fz n S (.int i) (.int i)
  | str {x : Str} : Fz n S (.str x) (.str x)
  | tup {xs ys : List Val} : FzL n S xs ys → Fz n S (.tup xs) (.tup ys)
  | lst {xs ys : List Val} : FzL n S xs ys → Fz n S (.lst xs) (.lst ys)
  | scr {ns : List Int} : Fz n S (.scr ns) (.scr ns)
  | con {v : V} : Fz n S (.con v) (.con v)
  | fnv {x : Str} : Fz n S (.fnv x) (.fnv x)
  | old {k : Nat} : k < n → Fz n S (.cell k) (.cell k)
  | new {k : Nat} {xs ys : List Val} : n ≤ k → S[k]? = some (.lst xs) → FzL n S xs ys → Fz n S (.cell k) (.lst ys)
  | dct {xs ys : List (Key × Val)} : FzD n S xs ys → Fz n S (.dct xs) (.dct ys)
  | newD {k : Nat} {xs ys : List (Key × Val)} : n ≤ k → S[k]? = some (.dct xs) → FzD n S xs ys → Fz n S (.cell k) (.dct ys)
inductive FzL (n : Nat) (S : Sto) : List Val → List Val → Prop where
  | nil : FzL n S [] []
  | cons {x y : Val} {xs ys : List Val} : Fz n S x y → FzL n S xs ys → FzL n S (x :: xs) (y :: ys)
inductive FzD (n : Nat) (S : Sto) : List (Key × Val) → List (Key × Val) → Prop where
  | nil : FzD n S [] []
  | cons {k : Key} {x y : Val} {xs ys : List (Key × Val)} : Fz n S x y → FzD n S xs ys → FzD n S ((k, x) :: xs) ((k, y) :: ys)
end
inductive FzC (n : Nat) (S : Sto) : Cell → Cell → Prop where
  | dead {c : Cell} : FzC n S c .dead
  | lst {xs ys : List Val} : FzL n S xs ys → FzC n S (.lst xs) (.lst ys)
  | dct {xs ys : List (Key × Val)} : FzD n S xs ys → FzC n S (.dct xs) (.dct ys)
  | ins {c : Str} {fs gs : List (Str × Val)} : fs.map (·.1) = gs.map (·.1) → FzL n S (fs.map (·.2)) (gs.map (·.2)) → FzC n S (.ins c fs) (.ins c gs)
structure FzS (n : Nat) (S S' : Sto) : Prop where
  len : S'.length = n
  le : n ≤ S.length
  cells : ∀ (k : Nat) (c : Cell), S'[k]? = some c → ∃ c0, S[k]? = some c0 ∧ FzC n S c0 c
section
variable {K : PySem.W.Frag} {mg : Str → Option Value} {F H : Hp} {μ : List Addr} {S S' : Sto} {n : Nat}
def thaw (F H : Hp) (μ : List Addr) (n : Nat) : Hp := fun a => if a ∈ μ.drop n then (match H a with
  | some (.lst vs) => some (.lst vs)
  | some (.dK vs) => some (.dK vs)
  | _ => F a) else F a
theorem take_get {α : Type} {l : List α} {n k : Nat} {a : α} (hk : k < n) (h : l[k]? = some a) : (l.take n)[k]? = some a := by rw [List.getElem?_take_of_lt hk]; exact h
theorem drop_mem {l : List Addr} {n k : Nat} {a : Addr} (hk : n ≤ k) (h : l[k]? = some a) : a ∈ l.drop n := by
  refine List.mem_of_getElem? (i := k - n) ?_
  rw [List.getElem?_drop]
  rw [show n + (k - n) = k by omega]
  exact h
theorem not_drop {l : List Addr} (nd : l.Nodup) {n : Nat} {a : Addr} (h : a ∈ l.take n) : a ∉ l.drop n := fun z => by
  have q := List.nodup_append.mp (show (l.take n ++ l.drop n).Nodup by rw [List.take_append_drop]; exact nd)
  exact q.2.2 a h a z rfl
theorem thaw_sub (h : RepS K mg F H μ S) : Same F (thaw F H μ n) := fun a o q => by
  unfold thaw
  split
  · rename_i hm
    rw [h.off a (List.mem_of_mem_drop hm)] at q
    cases q
  · exact q
mutual
theorem Fz.rep (h : RepS K mg F H μ S) : ∀ {x y : Val} {w : V}, Fz n S x y → RepV K F μ x w → RepV K (thaw F H μ n) (μ.take n) y w
  | _, _, _, .non, .non => .non
  | _, _, _, .bl, .bl => .bl
  | _, _, _, .int, .int => .int
  | _, _, _, .str, .str => .str
  | _, _, _, .tup z, .tup q r => .tup (q.same (thaw_sub h)) (FzL.rep h z r)
  | _, _, _, .lst z, .lst q r => .lst (thaw_sub h _ _ q) (FzL.rep h z r)
  | _, _, _, .scr, .scr q => .scr ((thaw_sub h).seq q)
  | _, _, _, .con, .con => .con
  | _, _, _, .fnv, .fnv q => .fnv q
  | _, _, _, .old hk, .cell e => .cell (take_get hk e)
  | _, _, _, .new hk hs z, .cell (a := a) e => by
    obtain ⟨vs, h1, h2⟩ := h.cells _ a _ e hs
    refine .lst (vs := vs) ?_ (FzL.rep h z h2)
    unfold thaw
    rw [if_pos (drop_mem hk e), h1]
  | _, _, _, .dct z, .dct q r => .dct (thaw_sub h _ _ q) (FzD.rep h z r)
  | _, _, _, .newD hk hs z, .cell (a := a) e => by
    obtain ⟨vs, h1, h2⟩ := h.cells _ a _ e hs
    refine .dct (kws := vs) ?_ (FzD.rep h z h2)
    unfold thaw
    rw [if_pos (drop_mem hk e), h1]
theorem FzL.rep (h : RepS K mg F H μ S) : ∀ {x y : List Val} {w : List V}, FzL n S x y → RepL K F μ x w → RepL K (thaw F H μ n) (μ.take n) y w
  | _, _, _, .nil, .nil => .nil
  | _, _, _, .cons z zs, .cons r rs => .cons (Fz.rep h z r) (FzL.rep h zs rs)
theorem FzD.rep (h : RepS K mg F H μ S) : ∀ {x y : List (Key × Val)} {w : List (Key × V)}, FzD n S x y → RepD K F μ x w → RepD K (thaw F H μ n) (μ.take n) y w
  | _, _, _, .nil, .nil => .nil
  | _, _, _, .cons z zs, .cons r rs => .cons (Fz.rep h z r) (FzD.rep h zs rs)
end
theorem FzS.rep (h : RepS K mg F H μ S) (z : FzS n S S') : RepS K mg (thaw F H μ n) H (μ.take n) S' := by
  have hl : (μ.take n).length = n := by rw [List.length_take, h.len]; have := z.le; omega
  refine ⟨fun a o q => ?_, hl.trans z.len.symm, h.nd.sublist (List.take_sublist _ _), fun a ha => ?_, fun a ha => h.there a (List.mem_of_mem_take ha), fun k a c h1 h2 => ?_⟩
  · unfold thaw at q
    split at q
    · split at q
      · rename_i vs e; cases q; exact e
      · rename_i vs e; cases q; exact e
      · exact h.sub a o q
    · exact h.sub a o q
  · unfold thaw
    rw [if_neg (not_drop h.nd ha)]
    exact h.off a (List.mem_of_mem_take ha)
  · obtain ⟨c0, e0, zc⟩ := z.cells k c h2
    have hk : k < n := by rw [← hl]; exact (List.getElem?_eq_some_iff.mp h1).1
    rw [List.getElem?_take_of_lt hk] at h1
    have ok := h.cells k a c0 h1 e0
    cases zc with
    | dead => trivial
    | lst zl => obtain ⟨vs, q1, q2⟩ := ok; exact ⟨vs, q1, zl.rep h q2⟩
    | dct zl => obtain ⟨vs, q1, q2⟩ := ok; exact ⟨vs, q1, zl.rep h q2⟩
    | ins hn zl => obtain ⟨C, dx, gs, q1, q2, q3, q4⟩ := ok; exact ⟨C, dx, gs, q1, q2, hn ▸ q3, zl.rep h q4⟩
end
inductive Leaves (n : Nat) : Val × Sto → Val × Sto → Prop where
  | same {v : Val} {S : Sto} : Leaves n (v, S) (v, S)
  | trim {v v' : Val} {S S' : Sto} : Fz n S v v' → FzS n S S' → Leaves n (v, S) (v', S')
theorem Leaves.ok {K : PySem.W.Frag} {mg : Str → Option Value} {F0 H0 F H : Hp} {μ0 μ : List Addr} {S S' : Sto} {v v' : Val} {w : V} {n : Nat} {Q : VK} (z : Leaves n (v, S) (v', S')) (hn : μ0.length = n) (x : Xt F0 H0 μ0 F H μ) (h : RepS K mg F H μ S) (r : RepV K F μ v w)
    (q : ∀ F' μ' H', Xt F0 H0 μ0 F' H' μ' → RepS K mg F' H' μ' S' → ∀ w, RepV K F' μ' v' w → Q w H') : Q w H := by
  cases z with
  | same => exact q F μ H x h w r
  | trim zv zs =>
    have e : μ.take n = μ0 := by
      obtain ⟨t, rfl⟩ := x.pre
      rw [← hn, List.take_left]
    refine q (thaw F H μ n) μ0 H ⟨⟨fun a o q => thaw_sub h a o (x.sub a o q), List.prefix_refl _⟩, fun a o k nm => ?_⟩ (e ▸ zs.rep h) w (e ▸ zv.rep h r)
    obtain ⟨k1, k2, k3⟩ := x.keep a o k nm
    refine ⟨k1, nm, fun z => ?_⟩
    unfold thaw
    rw [if_neg fun z => k2 (List.mem_of_mem_drop z)]
    exact k3 z
def startE (N : List Str) (ds : List Val) : Ev := ds.map some ++ List.replicate (N.length - ds.length) none
theorem start_rep {K : PySem.W.Frag} {F : Hp} {μ : List Addr} {N : List Str} {ds : List Val} {vs : List V} (r : RepL K F μ ds vs) : RepE K F μ (startE N ds) (L2.start N vs) := by
  unfold startE L2.start
  have hl := r.length
  refine ⟨by simp [hl], fun i x q => ?_⟩
  by_cases hi : i < ds.length
  · rw [List.getElem?_append_left (by simpa using hi), List.getElem?_map] at q
    cases e : ds[i]? with
    | none => rw [e] at q; cases q
    | some y =>
      rw [e] at q; cases q
      obtain ⟨v, h1, h2⟩ := r.get e
      refine ⟨v, ?_, h2⟩
      rw [List.getElem?_append_left (by rw [List.length_map, ← hl]; exact hi), List.getElem?_map, h1]
      rfl
  · rw [List.getElem?_append_right (by simpa using hi), List.getElem?_replicate] at q
    split at q <;> cases q
def retOf : Fl → Option Val
  | .ret v => some v
  | .next _ => some .non
  | _ => none
def Keeps (N : List Str) (n : Nat) (m : MS) (f : Fn) : Prop := ∀ ds S o, ds.length = n → f ds S = some o → match o with
  | .ok v' S' => ∃ fl v S1, m (startE N ds) S = some (fl, S1) ∧ retOf fl = some v ∧ Leaves S.length (v, S1) (v', S')
  | .exc x S' => ∃ ρ, m (startE N ds) S = some (.exc ρ x, S')
section
variable {P : Program} {w : World} {K : PySem.W.Frag} {mg : Str → Option Value} {base : Heap}
theorem keeps_run {N : List Str} {n : Nat} {m : MS} {f : Fn} {W : WX} {F H : Hp} {μ : List Addr} {S : Sto} {ds : List Val} {vs : List V} {Q : VK} {E : XK} (k : Keeps N n m f) (hW : ∀ c d σ H, E c d H → W c d σ H) (hl : ds.length = n) (hS : RepS K mg F H μ S) (r : RepL K F μ ds vs)
    (hP : Post K mg E F H μ (f ds S) (RV K Q)) : tMS K mg W m { nx := fun _ H' => Q .non H', rt := Q } (L2.start N vs) H := by
  refine ⟨startE N ds, F, μ, S, hS, start_rep r, ?_⟩
  cases e : f ds S with
  | none => rw [e] at hP; exact hP.elim
  | some o =>
    rw [e] at hP
    have kk := k ds S o hl e
    cases o with
    | ok v' S' =>
      obtain ⟨fl, v, S1, em, er, fin⟩ := kk
      rw [em]
      intro F' μ' H' x' s'
      cases fl with
      | ret u =>
        cases er
        exact fun w rw => fin.ok hS.len x' s' rw fun F2 μ2 H2 x2 s2 w2 r2 => hP F2 μ2 H2 x2 s2 w2 r2
      | next ρ =>
        cases er
        exact fun σ _ => fin.ok hS.len x' s' .non fun F2 μ2 H2 x2 s2 w2 r2 => hP F2 μ2 H2 x2 s2 w2 r2
      | brk ρ => cases er
      | cont ρ => cases er
      | exc ρ x => cases er
    | exc x S' =>
      obtain ⟨ρ, em⟩ := kk
      rw [em]
      exact fun F' μ' H' x' s' σ c d q z => hW c d σ H' (hP F' μ' H' c d x' s' z)
theorem fnG_of {CX : CXT} {k : Nat} {f : Addr} {x qual : Str} {st : Stmt} {fd : FuncData} {N ps : List Str} {sp : Sp} (F : Fun K x qual st f fd) (S : FnScope N ps (defScope st)) (len : ∀ vs H Q E, sp vs H Q E → vs.length = ps.length)
    (hbody : ∀ (cdv : Value) (A : Around) (outer : List Env) (s : Shared) (H : Hp) (vs : List V) (Q : VK) (E : XK), A.guards = some [] → Room k (A.deeper (envOfC qual (defScope st) s.heap.objs.size f cdv)) → sp vs H Q E →
      ∃ t, PSs (cxOf CX P w K mg base N qual (defScope st) f cdv A outer s H E) (defBody st) t ∧ t { nx := fun _ H' => Q .non H', rt := Q } (L2.start N vs) H) : FnG P w K mg base CX (k + 1) f fd ps sp := by
  obtain ⟨oc, od, kV, doc, pm, an, cdv, ct, osl, rfl, lk, hcd⟩ := F.ex
  refine ⟨len, fun A outer s H args us vs Q E hG hr e0 hb r hsp => ?_⟩
  have hl := len vs H Q E hsp
  have old : ∀ b o, base.get? b = some o → s.heap.get? b = some o := fun b o e => (e0.bs b o e).1
  have KX : K.In s.heap := e0.mod.kin.keeps old
  have hkind : ∀ y ∈ ps.zip us, (defScope st).names.lookup y.1 = some .local ∨ ((defScope st).names.lookup y.1 = some .cell ∧ ((cellsFrom (s.heap.objs.size + 1) (defScope st).names []).lookup y.1).isSome = true) := by
    rintro ⟨n, v⟩ hy
    rcases S.par n (List.of_mem_zip hy).1 with q | q
    · exact .inl q
    · exact .inr ⟨q, PySem.W.cellsFrom_some _ _ _ (.inl q)⟩
  refine codeAny_call_function hr.depth (KX _ _ lk) rfl S.co S.gen rfl (PySem.W.codeRec_of KX hcd) (hb _ _ _ _ (wpAny_newFunctionEnv_cells S.kind hkind fun env he s1 hin => ?_))
  subst he
  refine ⟨(e0.mod.nolimit.keeps old).keeps hin.toInCall.keep, codeAny_func ?_⟩
  obtain ⟨t, ht, hq⟩ := hbody cdv A outer s H vs Q E hG (hr.deeper _) hsp
  have I0 := inv_start (CX := CX) (E := E) S hr.hd e0 hl r hin
  refine wpAny_mono (ht.run [] s1 (L2.start N vs) H _ I0 hq) (fun fl s' hs => ?_) fun e s' hs => hs
  cases fl with
  | ret u => obtain ⟨v, _, H', J, rv, q⟩ := hs; exact ⟨v, H', J.os, J.bare, J.base, J.hok, rv, q⟩
  | next => obtain ⟨_, H', J, q⟩ := hs; exact ⟨V.non, H', J.os, J.bare, J.base, J.hok, rfl, q⟩
  | brk => obtain ⟨_, _, _, q⟩ := hs; cases q
  | cont => obtain ⟨_, _, _, q⟩ := hs; cases q
theorem fn_ok {x qual : Str} {st : Stmt} {f : Addr} {fd : FuncData} {N ps : List Str} {k : Nat} {m : MS} {g : Fn} (F : Fun K x qual st f fd) (S : FnScope N ps (defScope st)) (kp : Keeps N ps.length m g)
    (hbody : ∀ (cdv : Value) (A : Around) (outer : List Env) (s : Shared) (H : Hp) (E : XK), A.guards = some [] → Room k (A.deeper (envOfC qual (defScope st) s.heap.objs.size f cdv)) → GSs (cxOf CX0 P w K mg base N qual (defScope st) f cdv A outer s H E).nox W0 (defBody st) m)
    (nox : ∀ ds S x S', g ds S ≠ some (.exc x S')) : FnG P w K mg base CX0 (k + 1) f fd ps (spF K mg ps.length g) := by
  refine fnG_of F S (fun vs H Q E h => h.1) fun cdv A outer s H vs Q E hG hr h => ?_
  obtain ⟨hl, ds, F', μ, S', hS, r, hP⟩ := h
  refine ⟨_, PSs.nox (hbody cdv A outer s H E hG hr), ?_⟩
  refine keeps_run (E := fun _ _ _ => False) kp (fun _ _ _ _ z => z) (r.length.trans hl) hS r ?_
  cases e : g ds S' with
  | none => rw [e] at hP; exact hP
  | some o =>
    cases o with
    | ok v S1 => rw [e] at hP; exact hP
    | exc x S1 => exact absurd e (nox ds S' x S1)
end

theorem law_callG {P : Program} {w : World} {K : PySem.W.Frag} {mg mb : Str → Option Value} {CX : CXT} {k : Nat} {fa a : Addr} {fd : FuncData} {x : Str} {s₁ : Shared} {vs : List Value} {ns : List Int} {g : Fn}
    (KX : K.In s₁.heap) (hns : s₁.heap.Ns mainGlobals mg) (hb : s₁.heap.Ns builtinsNs mb) (hbb : ∀ x : Str, x ≠ "__name__" → mb x = bootBuiltins x) (hlim : s₁.heap.NoLimit) (hmo : ∃ mm, s₁.heap.Ns sysModules mm) (hg : s₁.gens = #[])
    (ha : s₁.heap.get? a = some { cls := .type "list", data := .seq vs.toArray }) (hi : IntsAre vs ns) (hl : ns.length ≤ sizeLine) (hr : Room k callerA)
    (F : ∀ base : Heap, K.In base → base.Ns mainGlobals mg → (∃ mm, base.Ns sysModules mm) → FnG P w K mg base CX k fa fd [x] (spF K mg 1 g)) (hbind : ∀ (s : Shared) (u : Value), BindsTo s fd ⟨[u], []⟩ [(x, u)])
    (hsp : ∃ S', g [.scr ns] [] = some (.ok (.bl true) S')) (hCX : ∀ H e s', CX [] H s₁ (fun _ _ _ => False) e s' → False) :
    codeAny (model P w) callerA (.call (.ref fa) ⟨[.ref a], []⟩) (fun r s' => r = .ok (.ret (.bool true)) ∧ OldK s₁.heap s'.heap ∧ s'.os = s₁.os ∧ AllBare s'.gens) s₁ := by
  have rv : Vals (ns.map V.int) vs := vals_ints hi
  have lv : vs.length = ns.length := hi.length
  -- a tracked heap that holds nothing, or the script alone
  suffices core : ∀ H : Hp, (∀ b, H b = none ∨ (b = a ∧ H b = some (.frz { cls := .type "list", data := .seq vs.toArray } (.lst (ns.map V.int))))) → SqL K H a (ns.map V.int) → HOk P w H s₁.heap → (H a ≠ none → K.lookup a = none) → _ by
    cases hk : K.lookup a with
    | some o =>
      have e := (KX a o hk).symm.trans ha
      cases e
      exact core (fun _ => none) (fun _ => .inl rfl) (.inr ⟨_, vs.toArray, _, hk, rfl, rfl, rfl, by simpa [lv] using hl, by simpa using rv⟩) (fun b u z => nomatch z) fun z => absurd rfl z
    | none =>
      refine core (upd (fun _ => none) a (.frz { cls := .type "list", data := .seq vs.toArray } (.lst (ns.map V.int)))) (fun b => ?_) (.inl (.inr ⟨_, upd_same⟩)) (fun b u z => ?_) fun _ => hk
      · by_cases hb' : b = a
        · subst hb'; exact .inr ⟨rfl, upd_same⟩
        · exact .inl (upd_ne hb')
      · by_cases hb' : b = a
        · subst hb'
          rw [upd_same] at z
          cases z
          exact ⟨ha, by simpa using hl, vs, _, rv, ha⟩
        · rw [upd_ne hb'] at z; cases z
  intro H hO hS hok hK
  have notA : ∀ {b : Addr} {o : Obj} {es : Array DictEntry} {ep : Nat}, s₁.heap.get? b = some o → o.data = .dict es ep → H b = none := fun {b o es ep} e d => by
    rcases hO b with q | ⟨rfl, _⟩
    · exact q
    · cases e.symm.trans ha; cases d
  have nsK : ∀ {b : Addr} {m : Str → Option Value}, s₁.heap.Ns b m → (hidT s₁.heap H).Ns b m := fun ⟨o, es, ep, e, d, r⟩ => ⟨o, es, ep, hidT_get e (notA e d), d, r⟩
  have hKb : K.In (hidT s₁.heap H) := fun b o e => hidT_get (KX b o e) (by
    rcases hO b with q | ⟨rfl, q⟩
    · exact q
    · exact absurd (hK (by rw [q]; simp)) (by rw [e]; simp))
  have hM : Mod K mg (hidT s₁.heap H) := ⟨hKb, nsK hns, ⟨mb, nsK hb, hbb⟩, hlim.imp fun mc h => ⟨nsK h.1, h.2⟩⟩
  have e0 : Env0 P w K mg (hidT s₁.heap H) callerA [] s₁ H := ⟨rfl, hM, fun b o e => of_hidT e, Nat.le_of_eq (hidT_size _ _), trivial, fun b z => absurd z (List.not_mem_nil), hok, .of_eq hg⟩
  obtain ⟨Sf, hf⟩ := hsp
  have sp0 : spF K mg 1 g [.ref a] H (fun v _ => v = .bl true) fun _ _ _ => False := by
    refine ⟨rfl, [.scr ns], H, [], [], ⟨Same.refl H, rfl, .nil, fun b z => absurd z List.not_mem_nil, fun b z => absurd z List.not_mem_nil, fun k b c z => by simp at z⟩, .cons (.scr hS) .nil, ?_⟩
    rw [hf]
    intro F' μ' H' _ _ w q
    cases q
    rfl
  refine codeAny_mono ((F _ hKb (nsK hns) (hmo.imp fun _ h => nsK h)).run callerA [] s₁ H ⟨[.ref a], []⟩ [.ref a] [.ref a] _ _ rfl hr e0 (hbind s₁ (.ref a)) (.cons rfl .nil) sp0) ?_
  rintro (e | fl) s' h
  · exact (hCX H e s' h).elim
  · cases fl with
    | next => cases h
    | brk => cases h
    | cont => cases h
    | ret u =>
      obtain ⟨v, H', os, bare, un, hok', r', q⟩ := h
      have q' : v = .bl true := q
      subst q'
      obtain rfl : u = Value.bool true := r'
      refine ⟨rfl, OldK.of_keep fun b o e => ?_, os, bare⟩
      rcases hO b with q | ⟨rfl, q⟩
      · exact un.keep b o e q (List.not_mem_nil) (List.not_mem_nil)
      · obtain ⟨e2, _⟩ := hok' b _ (un.frzs b _ _ q)
        cases e.symm.trans ha
        exact e2
theorem walk_g {l : PySem.W.OpenLaw} {n k : Nat} {q : Program} {loose : List Str} {XP : (Str → Option Value) → Heap → Prop} {YP : World → Heap → Prop} {d : DefRec} {K : Params → PySem.W.Frag} {CX : World → CXT} {x : Str} {g : Fn}
    (hn : l.most = some n) (hn2 : n ≤ sizeLine) (hdf : d.params.defaults = []) (hi : importsNone q = true) (hr : Room k callerA) (hY : ∀ (w : World) (h : Heap), YP w h → (K w.params).In h)
    (F : ∀ (w : World) (mg : Str → Option Value) (fa : Addr) (h : Heap), (K w.params).In h → h.Ns mainGlobals mg → mg d.name = some (.ref fa) →
      ∃ fd : FuncData, (∀ (s : Shared) (u : Value), BindsTo s fd ⟨[u], []⟩ [(x, u)]) ∧ ∀ base : Heap, (K w.params).In base → base.Ns mainGlobals mg → (∃ mm, base.Ns sysModules mm) → FnG l.prog w (K w.params) mg base (CX w) k fa fd [x] (spF (K w.params) mg 1 g))
    (hsp : ∀ ns : List Int, ns.length ≤ n → ∃ S', g [.scr ns] [] = some (.ok (.bl true) S')) (hCX : ∀ (w : World) (H : Hp) (s : Shared) (e : Value) (s' : Shared), CX w [] H s (fun _ _ _ => False) e s' → False) :
    PySem.W.WalkO q loose XP YP l.row.toRowW d [] (fun f vs => PySem.call f vs) := by
  refine Att.attach_call hn hdf fun w s₀ s₁ mg mb fa o pm cd doc a vs ns Gs Y ho hd hcd hmg hobj hints hlen hg => ?_
  obtain ⟨fd, hb, hF⟩ := F w mg fa _ (hY w _ Y) Gs.T.g hmg
  exact law_callG (hY w _ Y) Gs.T.g Gs.T.b Gs.T.builtins Gs.T.nolimit ((Gs.T.seer hi).mods.imp fun _ h => h.1) hg hobj hints (Nat.le_trans hlen hn2) hr hF hb (hsp ns hlen) fun H e s' => hCX w H s₁ e s'
end G

set_option Elab.async false
set_option linter.all false
set_option maxRecDepth 100000
set_option maxHeartbeats 4000000
namespace G
open PySem PySem.Spec PyProof.Rows L2
section
variable {X : Cx}
theorem same_k {K : PySem.W.Frag} {mg : Str → Option Value} {F H : Hp} {μ : List Addr} {S : Sto} {r : Val} {w : V} {Q : VK} (k : ∀ F' H' w, Xt F H μ F' H' μ → RepS K mg F' H' μ S → RepV K F' μ r w → Q w H') (h : RepS K mg F H μ S) (q : RepV K F μ r w) : Q w H := k F H w (Xt.refl _ _ _) h q

def big : Nat := 2 ^ 4000
theorem lt_big {i : Int} (h : i.natAbs < big) : Builtin.Int.intBits i ≤ 4001 := by
  have h1 : i.natAbs < 2 ^ 4000 := h
  have h2 := PySem.Flt.log2_lt_of (n := i.natAbs) (k := 4000) (by decide) h1
  unfold Builtin.Int.intBits
  split <;> omega
def mulOk (i j : Int) : Bool := decide (-(2 ^ 64) < i ∧ i < 2 ^ 64) || decide (-(2 ^ 64) < j ∧ j < 2 ^ 64) || (decide (i.natAbs < big) && decide (j.natAbs < big))
theorem mulOk_ok {i j : Int} (h : mulOk i j = true) : IntMulOk i j := by
  unfold mulOk at h
  simp only [Bool.or_eq_true, Bool.and_eq_true, decide_eq_true_eq] at h
  rcases h with h | ⟨h1, h2⟩
  · exact CMul.ok h
  · refine CMulX.ok ?_
    have a := lt_big h1
    have b := lt_big h2
    unfold CMulX
    omega
def iOp (f : Int → Int → Option Int) : Sto → Val → Val → Option Val := fun _ x y => match x, y with
  | .int i, .int j => (f i j).map Val.int
  | _, _ => none
def iCmp (f : Int → Int → Bool) : Sto → Val → Val → Option Val := fun _ x y => match x, y with
  | .int i, .int j => some (.bl (f i j))
  | _, _ => none
theorem o_int {op : Value → Value → Sem Value} {C : Int → Int → Prop} {g : Int → Int → Int} {f : Int → Int → Option Int} (ho : OpR X op (rI C fun i j => .int (g i j))) (hf : ∀ i j r, f i j = some r → C i j ∧ r = g i j) : GO2 X op (iOp f) := by
  intro pins s σ H x y v u Q I rx ry h
  obtain ⟨vx, vy, F, μ, S, r, hS, r1, r2, e, k⟩ := h
  unfold iOp at e
  split at e
  · rename_i i j
    cases r1; cases r2
    obtain ⟨z, ez, e⟩ := Option.map_eq_some_iff.mp e
    subst e
    obtain ⟨hC, rfl⟩ := hf i j z ez
    exact ho pins s σ H _ _ v u Q I rx ry ⟨i, j, rfl, rfl, hC, same_k k hS .int⟩
  · cases e
theorem o_int0 {op : Value → Value → Sem Value} {g : Int → Int → Int} (ho : OpR X op (rI0 fun i j => .int (g i j))) : GO2 X op (iOp fun i j => some (g i j)) := by
  intro pins s σ H x y v u Q I rx ry h
  obtain ⟨vx, vy, F, μ, S, r, hS, r1, r2, e, k⟩ := h
  unfold iOp at e
  split at e
  · rename_i i j
    cases r1; cases r2
    cases e
    exact ho pins s σ H _ _ v u Q I rx ry ⟨i, j, rfl, rfl, same_k k hS .int⟩
  · cases e
theorem o_cmp {op : Value → Value → Sem Value} {g : Int → Int → Bool} (ho : OpR X op (rI0 fun i j => .bl (g i j))) : GO2 X op (iCmp g) := by
  intro pins s σ H x y v u Q I rx ry h
  obtain ⟨vx, vy, F, μ, S, r, hS, r1, r2, e, k⟩ := h
  unfold iCmp at e
  split at e
  · rename_i i j
    cases r1; cases r2
    cases e
    exact ho pins s σ H _ _ v u Q I rx ry ⟨i, j, rfl, rfl, same_k k hS .bl⟩
  · cases e
def fMul (i j : Int) : Option Int := if mulOk i j = true then some (i * j) else none
def fDiv (i j : Int) : Option Int := if 0 < j ∧ j.natAbs < big then some (i / j) else none
def fMod (i j : Int) : Option Int := if 0 < j then some (i % j) else none
def fPow (i j : Int) : Option Int := if 0 ≤ j ∧ j ≤ 1000000 ∧ i.natAbs < 2 ^ 64 then some (i ^ j.toNat) else none
theorem ite_some {c : Prop} [Decidable c] {α : Type} {a b : α} (h : (if c then some a else none) = some b) : c ∧ b = a := by
  split at h
  · cases h; exact ⟨by assumption, rfl⟩
  · cases h
theorem o_sub : GO2 X (binaryOp .Sub) (iOp fun i j => some (i - j)) := o_int0 op_sub
theorem o_div : GO2 X (binaryOp .FloorDiv) (iOp fDiv) := o_int op_fdivW fun i j r h => by
  obtain ⟨⟨h1, h2⟩, e⟩ := ite_some h
  exact ⟨wide_div h1 h2 (by decide) (by decide), e⟩
theorem o_mod : GO2 X (binaryOp .Mod) (iOp fMod) := o_int op_mod fun i j r h => ite_some h
theorem o_pow : GO2 X (binaryOp .Pow) (iOp fPow) := o_int op_pow fun i j r h => by
  obtain ⟨h, e⟩ := ite_some h
  exact ⟨h, e⟩
theorem o_lt : GO2 X (compareOp .Lt) (iCmp fun i j => decide (i < j)) := o_cmp op_lt
theorem o_gt : GO2 X (compareOp .Gt) (iCmp fun i j => decide (j < i)) := o_cmp op_gt
theorem o_ge : GO2 X (compareOp .GtE) (iCmp fun i j => decide (j ≤ i)) := o_cmp op_ge
def sNeg : Sto → Val → Option Val := fun _ x => match x with
  | .int i => some (.int (-i))
  | _ => none
theorem o_neg : GO1 X (unaryOp .USub) sNeg := by
  intro pins s σ H x v Q I rx h
  obtain ⟨vx, F, μ, S, r, hS, r1, e, k⟩ := h
  unfold sNeg at e
  split at e
  · rename_i i
    cases r1
    cases e
    exact un_neg pins s σ H _ v Q I rx ⟨i, rfl, same_k k hS .int⟩
  · cases e

def sAdd : Sto → Val → Val → Option Val := fun S x y => match x, y with
  | .int i, .int j => some (.int (i + j))
  | .str a, .str b => if a.length + b.length ≤ sizeLine then some (.str (a ++ b)) else none
  | .tup xs, .tup ys => if xs.length + ys.length ≤ sizeLine then some (.tup (xs ++ ys)) else none
  | x, y => match lstOf S x, lstOf S y with
    | some xs, some ys => if xs.length + ys.length ≤ sizeLine then some (.lst (xs ++ ys)) else none
    | _, _ => none
theorem nil_of {K : PySem.W.Frag} {F : Hp} {μ : List Addr} {xs : List Val} {vs : List V} (r : RepL K F μ xs vs) : vs = [] ↔ xs = [] := by cases r <;> simp
theorem op_catN {X : Cx} : OpR X (binaryOp .Add) (fun x y H Q => ∃ a b xs ys, x = .ref a ∧ y = .ref b ∧ SqT X.K H a xs ∧ SqT X.K H b ys ∧ xs.length + ys.length ≤ sizeLine ∧ xs ≠ [] ∧ ys ≠ [] ∧ ∀ p o, o.dict = none → H p = none → Q (.ref p) (upd H p (nT o (xs ++ ys)))) := by
  intro pins s σ H x y v u Q I rx ry h
  obtain ⟨a, b, xs, ys, rfl, rfl, ha, hb, hz, n1, n2, q⟩ := h
  cases rx
  cases ry
  obtain ⟨i1, r1, p1, _⟩ := I.tuple ha
  obtain ⟨i2, r2, p2, _⟩ := I.tuple hb
  refine HT.cat_tup p1 p2 (fun z => n1 (r1.nil_iff.mp z)) (fun z => absurd (r2.nil_iff.mp z) n2) (fun _ => ?_) (by rw [← r1.length, ← r2.length]; exact hz)
  exact ⟨.ref s.heap.objs.size, _, I.laid (t' := s.toks) (o := nT _ (xs ++ ys)) (fun b ob q => Heap.get?_push_of_some _ q) (Nat.le_refl _) ⟨Heap.get?_push_size _ rfl, by rw [List.length_append]; exact hz, _, r1.append r2, IsTup.new _ _⟩, rfl, q _ _ rfl (I.hok.fresh (Nat.le_refl _))⟩
theorem o_add : GO2 X (binaryOp .Add) sAdd := by
  intro pins s σ H x y v u Q I rx ry h
  obtain ⟨vx, vy, F, μ, S, r, hS, r1, r2, e, k⟩ := h
  unfold sAdd at e
  split at e
  · cases r1; cases r2; cases e
    exact op_add pins s σ H _ _ v u Q I rx ry ⟨_, _, rfl, rfl, same_k k hS .int⟩
  · obtain ⟨hz, e⟩ := ite_some e
    subst e
    cases r1; cases r2
    exact op_add_str pins s σ H _ _ v u Q I rx ry ⟨_, _, rfl, rfl, hz, same_k k hS .str⟩
  · obtain ⟨hz, e⟩ := ite_some e
    subst e
    cases r1 with
    | tup q1 l1 =>
      cases r2 with
      | tup q2 l2 =>
        have s1 := same_seqT hS.sub q1.sq
        have s2 := same_seqT hS.sub q2.sq
        rename_i a1 vs1 a2 vs2
        by_cases z1 : vs1 = []
        · refine op_catA pins s σ H _ _ v u Q I rx ry ⟨_, _, _, _, rfl, rfl, s1, s2, by rw [← l1.length, ← l2.length]; exact hz, fun z => ?_, fun z => absurd z1 z, fun z => absurd z1 z⟩
          have z' := (nil_of l1).mp z
          subst z'
          exact same_k k hS (.tup q2 l2)
        · by_cases z2 : vs2 = []
          · refine op_catA pins s σ H _ _ v u Q I rx ry ⟨_, _, _, _, rfl, rfl, s1, s2, by rw [← l1.length, ← l2.length]; exact hz, fun z => absurd z z1, fun _ _ => ?_, fun _ z => absurd z2 z⟩
            have z' := (nil_of l2).mp z2
            subst z'
            rw [List.append_nil] at k
            exact same_k k hS (.tup q1 l1)
          · refine op_catN pins s σ H _ _ v u Q I rx ry ⟨_, _, _, _, rfl, rfl, s1, s2, by rw [← l1.length, ← l2.length]; exact hz, z1, z2, fun p o ho hp => ?_⟩
            obtain ⟨k1, k2, k3⟩ := hS.newTup hp ho (l1.append l2)
            exact k _ _ _ k1 k2 k3
  · split at e
    · rename_i xs ys e1 e2
      obtain ⟨hz, e⟩ := ite_some e
      subst e
      obtain ⟨a, vs, rfl, h1, l1⟩ := lstOf_ok hS r1 e1
      obtain ⟨b, ws, rfl, h2, l2⟩ := lstOf_ok hS r2 e2
      refine op_cat pins s σ H _ _ v u Q I rx ry ⟨a, b, vs, ws, rfl, rfl, h1, h2, by rw [← l1.length, ← l2.length]; exact hz, fun p hp => ?_⟩
      obtain ⟨k1, k2, k3⟩ := hS.newLst hp (l1.append l2)
      exact k _ _ _ k1 k2 k3
    · cases e
def sIadd : Sto → Val → Val → Option Val := fun S x y => match x, y with
  | .int i, .int j => some (.int (i + j))
  | .str a, .str b => if a.length + b.length ≤ sizeLine then some (.str (a ++ b)) else none
  | _, _ => none
theorem o_iadd : GO2 X (inplaceOp .Add) sIadd := by
  intro pins s σ H x y v u Q I rx ry h
  obtain ⟨vx, vy, F, μ, S, r, hS, r1, r2, e, k⟩ := h
  unfold sIadd at e
  split at e
  · cases r1; cases r2; cases e
    exact iop_add pins s σ H _ _ v u Q I rx ry ⟨_, _, rfl, rfl, same_k k hS .int⟩
  · obtain ⟨hz, e⟩ := ite_some e
    subst e
    cases r1; cases r2
    exact iop_add_str pins s σ H _ _ v u Q I rx ry ⟨_, _, rfl, rfl, hz, same_k k hS .str⟩
  · cases e
theorem op_mulB : OpR X (binaryOp .Mult) (rI (fun i j => mulOk i j = true) fun i j => .int (i * j)) := opI fun _ _ _ _ _ _ _ hc q => mul_int q (mulOk_ok hc)
theorem o_mulI : GO2 X (binaryOp .Mult) (iOp fMul) := o_int op_mulB fun i j r h => ite_some h
mutual
def toD : Val → Option PyData
  | .non => some .none
  | .bl b => some (.bool b)
  | .int i => some (.int i)
  | .str x => some (.str x)
  | .tup xs => (toDL xs).map PyData.tuple
  | .lst xs => (toDL xs).map PyData.list
  | .scr ns => some (.list (ns.map PyData.int))
  | .dct _ => none
  | .cell _ => none
  | .con _ => none
  | .fnv _ => none
  | .err _ _ _ _ => none
  | .prs _ => none
def toDL : List Val → Option (List PyData)
  | [] => some []
  | x :: xs => match toD x, toDL xs with
    | some d, some ds => some (d :: ds)
    | _, _ => none
end
mutual
def dat (S : Sto) : Val → Option PyData
  | .non => some .none
  | .bl b => some (.bool b)
  | .int i => some (.int i)
  | .str x => some (.str x)
  | .tup xs => (datL S xs).map PyData.tuple
  | .lst xs => (datL S xs).map PyData.list
  | .scr ns => some (.list (ns.map PyData.int))
  | .dct _ => none
  | .cell k => match S[k]? with
    | some (.lst xs) => (toDL xs).map PyData.list
    | _ => none
  | .con _ => none
  | .fnv _ => none
  | .err _ _ _ _ => none
  | .prs _ => none
def datL (S : Sto) : List Val → Option (List PyData)
  | [] => some []
  | x :: xs => match dat S x, datL S xs with
    | some d, some ds => some (d :: ds)
    | _, _ => none
end
theorem dpInts {K : PySem.W.Frag} {H : Hp} : ∀ ns : List Int, DpAll K H (ns.map V.int) (ns.map PyData.int)
  | [] => .nil
  | n :: ns => .cons (.int n) (dpInts ns)
section
variable {K : PySem.W.Frag} {mg : Str → Option Value} {F H : Hp} {μ : List Addr} {S : Sto}
mutual
theorem toD_ok (h : Same F H) : ∀ {v : Val} {w : V} {d : PyData}, RepV K F μ v w → toD v = some d → Dp K H w d
  | _, _, _, .non, e => by cases e; exact .non
  | _, _, _, .bl, e => by cases e; exact .bl _
  | _, _, _, .int, e => by cases e; exact .int _
  | _, _, _, .str, e => by cases e; exact .str _
  | _, _, _, .tup q r, e => by
    unfold toD at e
    obtain ⟨ds, e1, e2⟩ := Option.map_eq_some_iff.mp e
    subst e2
    exact .tup (same_seqT h q.sq) (toDL_ok h r e1)
  | _, _, _, .lst q r, e => by
    unfold toD at e
    obtain ⟨ds, e1, e2⟩ := Option.map_eq_some_iff.mp e
    subst e2
    exact .lst (SqL.of (h _ _ q)) (toDL_ok h r e1)
  | _, _, _, .dct _ _, e => by unfold toD at e; cases e
  | _, _, _, .scr q, e => by unfold toD at e; cases e; exact .lst (h.seq q) (dpInts _)
  | _, _, _, .cell _, e => by unfold toD at e; cases e
  | _, _, _, .con, e => by unfold toD at e; cases e
  | _, _, _, .fnv _, e => by unfold toD at e; cases e
  | _, _, _, .err0, e => by unfold toD at e; cases e
  | _, _, _, .err1 _ _, e => by unfold toD at e; cases e
  | _, _, _, .prs _ _, e => by unfold toD at e; cases e
theorem toDL_ok (h : Same F H) : ∀ {v : List Val} {w : List V} {d : List PyData}, RepL K F μ v w → toDL v = some d → DpAll K H w d
  | _, _, _, .nil, e => by unfold toDL at e; cases e; exact .nil
  | _, _, _, .cons r t, e => by
    unfold toDL at e
    split at e
    · rename_i e1 e2
      cases e
      exact .cons (toD_ok h r e1) (toDL_ok h t e2)
    · cases e
end
mutual
theorem dat_ok (h : RepS K mg F H μ S) : ∀ {v : Val} {w : V} {d : PyData}, RepV K F μ v w → dat S v = some d → Dp K H w d
  | _, _, _, .non, e => by unfold dat at e; cases e; exact .non
  | _, _, _, .bl, e => by unfold dat at e; cases e; exact .bl _
  | _, _, _, .int, e => by unfold dat at e; cases e; exact .int _
  | _, _, _, .str, e => by unfold dat at e; cases e; exact .str _
  | _, _, _, .tup q r, e => by
    unfold dat at e
    obtain ⟨ds, e1, e2⟩ := Option.map_eq_some_iff.mp e
    subst e2
    exact .tup (same_seqT h.sub q.sq) (datL_ok h r e1)
  | _, _, _, .lst q r, e => by
    unfold dat at e
    obtain ⟨ds, e1, e2⟩ := Option.map_eq_some_iff.mp e
    subst e2
    exact .lst (SqL.of (h.sub _ _ q)) (datL_ok h r e1)
  | _, _, _, .dct _ _, e => by unfold dat at e; cases e
  | _, _, _, .scr q, e => by unfold dat at e; cases e; exact .lst (h.sub.seq q) (dpInts _)
  | _, _, _, .cell (k := k) (a := a) q, e => by
    unfold dat at e
    split at e
    · rename_i xs ek
      obtain ⟨ds, e1, e2⟩ := Option.map_eq_some_iff.mp e
      subst e2
      obtain ⟨vs, h1, h2⟩ := h.cells k a _ q ek
      exact .lst (SqL.of h1) (toDL_ok h.sub h2 e1)
    · cases e
  | _, _, _, .con, e => by unfold dat at e; cases e
  | _, _, _, .fnv _, e => by unfold dat at e; cases e
  | _, _, _, .err0, e => by unfold dat at e; cases e
  | _, _, _, .err1 _ _, e => by unfold dat at e; cases e
  | _, _, _, .prs _ _, e => by unfold dat at e; cases e
theorem datL_ok (h : RepS K mg F H μ S) : ∀ {v : List Val} {w : List V} {d : List PyData}, RepL K F μ v w → datL S v = some d → DpAll K H w d
  | _, _, _, .nil, e => by unfold datL at e; cases e; exact .nil
  | _, _, _, .cons r t, e => by
    unfold datL at e
    split at e
    · rename_i e1 e2
      cases e
      exact .cons (dat_ok h r e1) (datL_ok h t e2)
    · cases e
end
end
def sEqD (S : Sto) (x y : Val) : Option Bool := match dat S x, dat S y with
  | some d, some e => if SeqAt.shaped d = true ∧ SeqAt.shaped e = true then some (PyData.eqv d e) else none
  | _, _ => none
def sEqB (S : Sto) (x y : Val) : Option Bool := match x, y with
  | .str a, .str b => some (decide (a = b))
  | x, y => sEqD S x y
def sEq : Sto → Val → Val → Option Val := fun S x y => (sEqB S x y).map Val.bl
def sNe : Sto → Val → Val → Option Val := fun S x y => (sEqB S x y).map fun b => .bl (!b)
theorem sEqD_ok {K : PySem.W.Frag} {mg : Str → Option Value} {F H : Hp} {μ : List Addr} {S : Sto} {vx vy : Val} {x y : V} {b : Bool} (h : RepS K mg F H μ S) (r1 : RepV K F μ vx x) (r2 : RepV K F μ vy y) (e : sEqD S vx vy = some b) :
    ∃ d d', Dp K H x d ∧ Dp K H y d' ∧ SeqAt.shaped d = true ∧ SeqAt.shaped d' = true ∧ b = PyData.eqv d d' := by
  unfold sEqD at e
  split at e
  · rename_i d d' e1 e2
    obtain ⟨⟨h1, h2⟩, e⟩ := ite_some e
    exact ⟨d, d', dat_ok h r1 e1, dat_ok h r2 e2, h1, h2, e⟩
  · cases e
theorem op_eqD' (hu : X.A.units + 64 < cLine) : OpR X (compareOp .Eq) (rEqD X.K) := by
  intro pins s σ H x y v u Q I rx ry h
  obtain ⟨d, e, hd, he, sd, se, q⟩ := h
  obtain ⟨as, r1⟩ := Dp.reads I d x v hd rx
  obtain ⟨bs, r2⟩ := Dp.reads I e y u he ry
  exact SeqAt.compareEq_shaped r1 r2 sd se hu ⟨.bl _, H, I, rfl, q⟩
theorem op_neD' (hu : X.A.units + 64 < cLine) : OpR X (compareOp .NotEq) (rNeD X.K) := by
  intro pins s σ H x y v u Q I rx ry h
  obtain ⟨d, e, hd, he, sd, se, q⟩ := h
  obtain ⟨as, r1⟩ := Dp.reads I d x v hd rx
  obtain ⟨bs, r2⟩ := Dp.reads I e y u he ry
  exact SeqAt.compareNe_shaped r1 r2 sd se hu ⟨.bl _, H, I, rfl, q⟩
theorem o_eq (hu : X.A.units + 64 < cLine) : GO2 X (compareOp .Eq) sEq := by
  intro pins s σ H x y v u Q I rx ry h
  obtain ⟨vx, vy, F, μ, S, r, hS, r1, r2, e, k⟩ := h
  obtain ⟨b, eb, e⟩ := Option.map_eq_some_iff.mp e
  subst e
  unfold sEqB at eb
  split at eb
  · cases eb
    cases r1
    cases r2
    refine L2.op_eq pins s σ H _ _ v u Q I rx ry ⟨rfl, ?_⟩
    have hd : ∀ a b : Str, decide (V.str a = V.str b) = decide (a = b) := fun a b => by simp
    rw [hd]
    exact same_k k hS .bl
  obtain ⟨d, d', h1, h2, h3, h4, e⟩ := sEqD_ok hS r1 r2 eb
  subst e
  exact op_eqD' hu pins s σ H x y v u Q I rx ry ⟨d, d', h1, h2, h3, h4, same_k k hS .bl⟩
theorem o_ne (hu : X.A.units + 64 < cLine) : GO2 X (compareOp .NotEq) sNe := by
  intro pins s σ H x y v u Q I rx ry h
  obtain ⟨vx, vy, F, μ, S, r, hS, r1, r2, e, k⟩ := h
  obtain ⟨b, eb, e⟩ := Option.map_eq_some_iff.mp e
  subst e
  unfold sEqB at eb
  split at eb
  · cases eb
    cases r1
    cases r2
    refine L2.op_ne pins s σ H _ _ v u Q I rx ry ⟨rfl, ?_⟩
    have hd : ∀ a b : Str, decide (V.str a = V.str b) = decide (a = b) := fun a b => by simp
    rw [hd]
    exact same_k k hS .bl
  obtain ⟨d, d', h1, h2, h3, h4, e⟩ := sEqD_ok hS r1 r2 eb
  subst e
  exact op_neD' hu pins s σ H x y v u Q I rx ry ⟨d, d', h1, h2, h3, h4, same_k k hS .bl⟩
def isNon : Val → Option Bool
  | .non => some true
  | .con _ => none
  | .fnv _ => none
  | .err _ _ _ _ => none
  | .prs _ => none
  | _ => some false
theorem isNon_ok {K : PySem.W.Frag} {F : Hp} {μ : List Addr} {v : Val} {w : V} {b : Bool} (r : RepV K F μ v w) (e : isNon v = some b) : decide (w = V.non) = b := by
  cases r <;> first | (cases e; rfl) | cases e
def sIs : Sto → Val → Val → Option Val := fun _ x y => match y with
  | .non => (isNon x).map Val.bl
  | _ => none
theorem o_is : GO2 X (compareOp .Is) sIs := by
  intro pins s σ H x y v u Q I rx ry h
  obtain ⟨vx, vy, F, μ, S, r, hS, r1, r2, e, k⟩ := h
  unfold sIs at e
  split at e
  · cases r2
    obtain ⟨b, eb, e⟩ := Option.map_eq_some_iff.mp e
    subst e
    exact op_isN pins s σ H x _ v u Q I rx ry ⟨rfl, same_k k hS (by rw [isNon_ok r1 eb]; exact .bl)⟩
  · cases e
end
end G

set_option Elab.async false
set_option linter.all false
set_option maxRecDepth 100000
set_option maxHeartbeats 4000000
namespace PySem
open Sem (wp)
open AutoSeq1 (wpAny_loadPart')
theorem g_meets_enumerate_newT (l : Addr) (items : Array Value) (n : Nat) (dct : Option Addr) (sl : Array (Option Value)) :
    Meets (Builtin.«enumerate.__new__» ⟨[.type "enumerate", .ref l], []⟩) (fun _ R s => s.heap.get? l = some { cls := .type "tuple", dict := dct, data := .seq items n, slots := sl } ∧
      R (.ok (.ret (.ref (s.heap.push { cls := .type "tuple_iterator", data := .fields #[.ref l, .int 0 0] }).objs.size)))
        { s with heap := (s.heap.push { cls := .type "tuple_iterator", data := .fields #[.ref l, .int 0 0] }).push { cls := .type "enumerate", data := .fields #[.none, .bool false, .ref s.heap.objs.size, rawInt 0, .none, .none] } }) :=
  .of_wp fun prog w A R s h => by
    obtain ⟨hp, g, d, tk, os⟩ := s; obtain ⟨hl, h⟩ := h
    have hsub := sub_enumerate
    have hL : Heap.IsTuple (Shared.heap ⟨hp, g, d, tk, os⟩) l items := ⟨_, hl, rfl, n, rfl⟩
    wp_walk using wpAny_loadPart' hl
    refine wpAny_stack_any fun st => wpAny_pure ?_
    split
    · rename_i c _ _ _ _ _
      cases (c == Value.type "enumerate")
      · wp_walk using wpAny_loadPart' hl, wpAny_pyIter_tuple hL
        exact ⟨_, rfl, h⟩
      · wp_walk using wpAny_loadPart' hl, wpAny_pyIter_tuple hL
        exact ⟨_, rfl, h⟩
    · wp_walk using wpAny_loadPart' hl, wpAny_pyIter_tuple hL
      exact ⟨_, rfl, h⟩
theorem g_call_enumerate_tuple {prog : Program} {w : World} {A : Around} {E : Value → Shared → Prop} {s : Shared} {l : Addr} {items : Array Value} {Q : Value → Shared → Prop} (hL : s.heap.IsTuple l items)
    (h : ∀ h', IsEnum h' (s.heap.objs.size + 1) s.heap.objs.size 0 .none → h'.IsTupleIter s.heap.objs.size l 0 → h'.objs.size = s.heap.objs.size + 2 →
      (∀ b o, s.heap.get? b = some o → h'.get? b = some o) → Q (.ref (s.heap.objs.size + 1)) { s with heap := h' }) :
    wpAny (model prog w) A (call (.type "enumerate") [.ref l]) Q E s := by
  obtain ⟨⟨c, dct, dt, sl⟩, hl, hc, n, hd⟩ := hL
  replace hc : c = .type "tuple" := hc
  replace hd : dt = .seq items n := hd
  subst hc hd
  refine callType_new F.called_enumerate (by decide) (F.typeCall_enumerate_1 _) (F.newCall_enumerate_1 _) (fun obj => F.args_object_init_2 obj _) F.entry_enumerate_new
    (g_meets_enumerate_newT l items n dct sl) ⟨hl, ?_⟩
  have hz : (s.heap.push { cls := .type "tuple_iterator", data := .fields #[.ref l, .int 0 0] }).objs.size = s.heap.objs.size + 1 := Heap.size_push ..
  show _ ∧ _
  rw [hz]
  have he : IsEnum ((s.heap.push { cls := .type "tuple_iterator", data := .fields #[.ref l, .int 0 0] }).push
      { cls := .type "enumerate", data := .fields #[.none, .bool false, .ref s.heap.objs.size, rawInt 0, .none, .none] }) (s.heap.objs.size + 1) s.heap.objs.size 0 .none := by
    have := Heap.get?_push_size (s.heap.push { cls := .type "tuple_iterator", data := .fields #[.ref l, .int 0 0] })
      (o := { cls := .type "enumerate", data := .fields #[.none, .bool false, .ref s.heap.objs.size, rawInt 0, .none, .none] }) rfl
    rw [hz] at this; exact this
  refine ⟨⟨_, he, rfl⟩, h _ he ⟨_, Heap.get?_push_of_some _ (Heap.get?_push_size _ rfl), rfl, rfl⟩ (by rw [Heap.size_push, hz]) fun b o x => Heap.get?_push_of_some _ (Heap.get?_push_of_some _ x)⟩
end PySem
namespace G
open PySem PySem.Spec PyProof.Rows L2
def ItE (go : Nat → Hp → Prop) (at_ : Nat → Hp → V → Prop) (stop : Nat → Hp → Prop) : It :=
  ⟨go, fun i H v H' => ∃ T x, v = .ref T ∧ H T = none ∧ H' = upd H T (.tup [.int (i : Nat), x]) ∧ at_ i H x, stop⟩
theorem turn_enumD {P : Program} {w : World} {K : PySem.W.Frag} {elts : List Expr} {kk : Nat} {tpos : Pos} {go : Nat → Hp → Prop} {at_ : Nat → Hp → V → Prop} {stp : Nat → Hp → Prop} (e it : Addr) (hne : e ≠ it) (St : Nat → Heap → Prop)
    (so : ∀ i h, St i h → ∃ o, h.get? it = some o ∧ ∀ v, o.data ≠ .cell v) (sk : ∀ i h h', St i h → (∀ o, h.get? it = some o → h'.get? it = some o) → St i h')
    (dr : ∀ (X : Cx), X.prog = P → X.w = w → X.K = K → X.calm = true → ∀ (i : Nat) (pins : List (Addr × Obj)) (s : Shared) (σ : L2.St) (H : Hp), Inv X pins σ H s → St i s.heap → go i H →
      ∃ (fp : List Addr) (n : Nat) (Pv : Nat → Value → Prop) (S2 : Nat → Heap → Prop), Draws P w X.A.in1 it fp n Pv S2 ∧ S2 i s.heap ∧ i < n ∧ e ∉ fp ∧ (∀ h, S2 (i + 1) h → St (i + 1) h) ∧ ∀ u, Pv i u → ∃ x, RelV x u ∧ at_ i H x)
    (dn : ∀ (X : Cx), X.prog = P → X.w = w → X.K = K → X.calm = true → ∀ (i : Nat) (pins : List (Addr × Obj)) (s : Shared) (σ : L2.St) (H : Hp), Inv X pins σ H s → St i s.heap → stp i H →
      ∃ (fp : List Addr) (n : Nat) (Pv : Nat → Value → Prop) (S2 : Nat → Heap → Prop), Draws P w X.A.in1 it fp n Pv S2 ∧ S2 n s.heap) :
    Turn P w K (.Tuple elts kk tpos) (ItE go at_ stp) [e, it] e (fun i h => (∃ old, IsEnum h e it ((i : Nat) : Int) old) ∧ St i h) where
  mem := by simp
  obj := fun i h st b hb => by
    obtain ⟨⟨old, he⟩, hs⟩ := st
    have e' : b = e ∨ b = it := by simpa using hb
    rcases e' with z | z
    · rw [z]; exact ⟨_, he, fun v q => nomatch q⟩
    · rw [z]; exact so i h hs
  keep := fun i h h' st k => let ⟨⟨old, he⟩, hi⟩ := st; ⟨⟨old, k e (by simp) _ he⟩, sk i h h' hi fun o q => k it (by simp) o q⟩
  item := by
    intro X hP hw hK hc i pins s σ H E I hf st hg
    obtain ⟨fp, n, Pv, S2, D, s2, hn, hef, s3, hv⟩ := dr X hP hw hK hc i pins s σ H I st.2 hg
    subst hP hw hK
    obtain ⟨⟨old, he⟩, hs⟩ := st
    have hel : e < s.heap.objs.size := Heap.lt_size he
    have hil : it < s.heap.objs.size := by obtain ⟨_, q, _⟩ := so i _ hs; exact Heap.lt_size q
    refine wpAny_pyNext_enum_itemD D he s2 hn hne hef fun u h' tk hu ho hit' hT hsz hk => ?_
    obtain ⟨x, ru, hx⟩ := hv u hu
    refine ⟨_, rfl, wpAny_letOwnedTupleGo_enum (s := { s with heap := h', toks := tk + 1 }) ho fun h'' he' sb => ?_⟩
    have hT2 : h''.get? s.heap.objs.size = some { cls := .type "tuple", data := .seq #[.int i tk, u] } := (sb.2 _ (Nat.ne_of_gt hel)).trans hT
    have new : ObjOk X.prog X.w (upd H s.heap.objs.size (.tup [.int (i : Nat), x])) h'' s.heap.objs.size (.tup [.int (i : Nat), x]) :=
      ⟨by show 2 ≤ sizeLine; decide, [.int i tk, u], .cons ⟨_, rfl⟩ (.cons ru .nil), ⟨_, hT2, rfl, _, rfl⟩⟩
    have I1 : Inv X pins σ (upd H s.heap.objs.size (.tup [.int (i : Nat), x])) { s with heap := h'', toks := tk + 1 } :=
      I.turnedNew (ch := [e, it]) (fun b ob hb q => (sb.2 b (fun z => hb (by simp [z]))).trans (hk b ob (fun z => hb (by simp [z])) (fun z => hb (by simp [z])) q)) hf (Nat.le_refl _) new
    refine ⟨.ref s.heap.objs.size, _, I1, rfl, ⟨_, x, rfl, I.hok.fresh (Nat.le_refl _), rfl, hx⟩, ⟨⟨u, ?_⟩, sk _ _ _ (s3 _ hit') fun o q => (sb.2 it (Ne.symm hne)).trans q⟩, fun b hb => ?_⟩
    · have e1 : ((i + 1 : Nat) : Int) = (i : Int) + 1 := by omega
      rw [e1]; exact he'
    · have hb' : b < s.heap.objs.size := by
        have e' : b = e ∨ b = it := by simpa using hb
        rcases e' with z | z
        · rw [z]; exact hel
        · rw [z]; exact hil
      rw [upd_ne (Nat.ne_of_lt hb')]
      exact (hf b hb).1
  done := by
    intro X hP hw hK hc i pins s σ H E I hf st hg
    obtain ⟨fp, n, Pv, S2, D, s2⟩ := dn X hP hw hK hc i pins s σ H I st.2 hg
    subst hP hw hK
    obtain ⟨⟨old, he⟩, hs⟩ := st
    obtain ⟨f0, f1, f2, f3, f4, f5⟩ := hf it (by simp)
    exact wpAny_pyNext_enum_endD D he s2 fun h' eb => ⟨rfl, I.turned (t' := s.toks) (fun b o hb q => eb b o hb q) f0 f1 f3 f4 f5⟩
  self := fun A i s Q E st h => let ⟨⟨_, he⟩, _⟩ := st; wpAny_pyIter_enum he h
def ItT (K : PySem.W.Frag) (a : Addr) : It := ItE (fun i H => ∃ xs x, SqT K H a xs ∧ xs[i]? = some x) (fun i H x => ∀ xs, SqT K H a xs → xs[i]? = some x) (fun i H => ∃ xs, SqT K H a xs ∧ xs.length = i)
def ItS (z : Str) : It := ItE (fun i _ => i < z.cps.size) (fun i _ x => ∃ c, z.cps[i]? = some c ∧ x = .str ⟨#[c]⟩) (fun i _ => z.cps.size = i)
theorem turn_enumT {P : Program} {w : World} {K : PySem.W.Frag} {elts : List Expr} {kk : Nat} {tpos : Pos} (a e it : Addr) (hne : e ≠ it) (hea : e ≠ a) (hai : a ≠ it) :
    Turn P w K (.Tuple elts kk tpos) (ItT K a) [e, it] e (fun i h => (∃ old, IsEnum h e it ((i : Nat) : Int) old) ∧ h.IsTupleIter it a i) := by
  refine turn_enumD e it hne (fun i h => h.IsTupleIter it a i) (fun i h ⟨o, ho, hc, hd⟩ => ⟨o, ho, fun v q => by rw [hd] at q; cases q⟩) (fun i h h' st k => st.at fun o q => k o q) ?_ ?_
  · intro X hP hw hK hc i pins s σ H I st hg
    subst hP hw hK
    obtain ⟨xs, x, hq, hx⟩ := hg
    obtain ⟨its, rv, p, hz⟩ := I.tuple hq
    refine ⟨[it, a], _, _, _, Draws.tuple (show X.A.in1.handled = none from I.ok.hd hc) it a hai its.toArray, ⟨st, p⟩, ?_, by simp [hne, hea], fun h q => q.1, fun u hu => ?_⟩
    · have := (List.getElem?_eq_some_iff.mp hx).1
      have := rv.length
      simp; omega
    · obtain ⟨u', hu', ru⟩ := rv.get hx
      have e1 : its[i]? = some u := by simpa using hu
      rw [e1] at hu'
      cases hu'
      exact ⟨x, ru, fun ys hy => by rw [I.tuple_inj hy hq]; exact hx⟩
  · intro X hP hw hK hc i pins s σ H I st hg
    subst hP hw hK
    obtain ⟨xs, hq, hx⟩ := hg
    obtain ⟨its, rv, p, hz⟩ := I.tuple hq
    have hl := rv.length
    have e1 : its.toArray.size = i := by simp; omega
    exact ⟨[it, a], _, _, _, Draws.tuple (show X.A.in1.handled = none from I.ok.hd hc) it a hai its.toArray, by rw [e1]; exact st, p⟩
theorem turn_enumS {P : Program} {w : World} {K : PySem.W.Frag} {elts : List Expr} {kk : Nat} {tpos : Pos} (z : Str) (t : Tok) (e it : Addr) (hne : e ≠ it) :
    Turn P w K (.Tuple elts kk tpos) (ItS z) [e, it] e (fun i h => (∃ old, IsEnum h e it ((i : Nat) : Int) old) ∧ h.IsStrIter it (strIterType z) z t i) := by
  refine turn_enumD e it hne (fun i h => h.IsStrIter it (strIterType z) z t i) (fun i h ⟨o, ho, hc, hd⟩ => ⟨o, ho, fun v q => by rw [hd] at q; cases q⟩) (fun i h h' st k => let ⟨o, ho, r⟩ := st; ⟨o, k o ho, r⟩) ?_ ?_
  · intro X hP hw hK hc i pins s σ H I st hg
    subst hP hw hK
    refine ⟨[it], _, _, _, Draws.text (show X.A.in1.handled = none from I.ok.hd hc) it z t, st, hg, by simp [hne], fun h q => q, fun u hu => ?_⟩
    obtain ⟨c, t', hc', rfl⟩ := hu
    exact ⟨.str ⟨#[c]⟩, ⟨_, rfl⟩, c, hc', rfl⟩
  · intro X hP hw hK hc i pins s σ H I st hg
    subst hP hw hK
    have e1 : z.cps.size = i := hg
    exact ⟨[it], _, _, _, Draws.text (show X.A.in1.handled = none from I.ok.hd hc) it z t, by rw [e1]; exact st⟩
def iEnA (K : PySem.W.Frag) (ta : TA) : TI := fun σ H R => ta σ H fun vs H1 => (∃ a xs, vs = [.ref a] ∧ SqL K H1 a xs ∧ R (Ite K a) H1) ∨ (∃ a xs, vs = [.ref a] ∧ SqT K H1 a xs ∧ R (ItT K a) H1) ∨ ∃ z, vs = [.str z] ∧ R (ItS z) H1
theorem pi_enA {X : Cx} {e : Expr} {ta : TA} {p pos tpos : Pos} {elts : List Expr} {kk : Nat} (hg : Gl X "enumerate") (hm : X.mg "enumerate" = none) (ha : PA X [e] ta) (hs : starEach [e] X.env = [(false, eval e X.env)] := by rfl) :
    PI X (.Tuple elts kk tpos) (.Call (.Name "enumerate" p) [e] [] pos) (iEnA X.K ta) := by
  refine ⟨fun pins s σ H R I h => ?_⟩
  refine Call_ (ld_blt I hg hm boot_enumerate (PyProof.Rows.callWith_type1 (thn (ha.run pos pins s σ H _ I h) fun us s1 ⟨vs, H1, I1, r1, q1⟩ => ?_) hs rfl))
  have fp : ∀ b, b ∈ [s1.heap.objs.size + 1, s1.heap.objs.size] → FpOk X pins H1 b := fun b hb => by
    have e' : b = s1.heap.objs.size + 1 ∨ b = s1.heap.objs.size := by simpa using hb
    have hle : s1.heap.objs.size ≤ b := by
      rcases e' with z | z
      · rw [z]; exact Nat.le_add_right _ _
      · rw [z]; exact Nat.le_refl _
    exact I1.fpOk hle (I1.hok.fresh hle)
  rcases q1 with ⟨a, xs, ex, hq, q⟩ | ⟨a, xs, ex, hq, q⟩ | ⟨z, ex, q⟩
  · subst ex
    obtain ⟨u, rfl, r⟩ := vals1 r1
    cases r
    obtain ⟨its, rv, p', hz⟩ := I1.list hq
    refine call_enumerate_list p'.isList fun h' he hit hsz hk => wpAny_pyIter_enum he ?_
    have I2 : Inv X pins σ H1 { s1 with heap := h' } := I1.kept (t' := s1.toks) hk
    exact ⟨s1.heap.objs.size + 1, [s1.heap.objs.size + 1, s1.heap.objs.size], _, _, H1, rfl, I2, turn_enum a (s1.heap.objs.size + 1) s1.heap.objs.size, ⟨⟨.none, he⟩, hit, Nat.succ_ne_self _⟩, fp, q⟩
  · subst ex
    obtain ⟨u, rfl, r⟩ := vals1 r1
    cases r
    obtain ⟨its, rv, p', hz⟩ := I1.tuple hq
    have hal : a < s1.heap.objs.size := IsTup.lt p'
    refine g_call_enumerate_tuple (show s1.heap.IsTuple a its.toArray from p') fun h' he hit hsz hk => wpAny_pyIter_enum he ?_
    have I2 : Inv X pins σ H1 { s1 with heap := h' } := I1.kept (t' := s1.toks) hk
    exact ⟨s1.heap.objs.size + 1, [s1.heap.objs.size + 1, s1.heap.objs.size], _, _, H1, rfl, I2, turn_enumT a (s1.heap.objs.size + 1) s1.heap.objs.size (Nat.succ_ne_self _) (Nat.ne_of_gt (Nat.lt_succ_of_lt hal)) (Nat.ne_of_lt hal), ⟨⟨.none, he⟩, hit⟩, fp, q⟩
  · subst ex
    obtain ⟨u, rfl, r⟩ := vals1 r1
    obtain ⟨t, rfl⟩ := r
    refine call_enumerate_str fun h' he hit hsz hk => wpAny_pyIter_enum he ?_
    have I2 : Inv X pins σ H1 { s1 with heap := h' } := I1.kept (t' := s1.toks) hk
    exact ⟨s1.heap.objs.size + 1, [s1.heap.objs.size + 1, s1.heap.objs.size], _, _, H1, rfl, I2, turn_enumS z t (s1.heap.objs.size + 1) s1.heap.objs.size (Nat.succ_ne_self _), ⟨⟨.none, he⟩, hit⟩, fp, q⟩
def iAny (K : PySem.W.Frag) (tl : TE) : TI := fun σ H R => tl σ H fun x H1 => (∃ a, x = .ref a ∧ (∃ xs, SqL K H1 a xs) ∧ R (Itl K a) H1) ∨ (∃ a, x = .ref a ∧ (∃ xs, SqT K H1 a xs) ∧ R (Itt K a) H1) ∨ ∃ z, x = .str z ∧ R (Its z) H1
theorem pi_any {X : Cx} {tg l : Expr} {tl : TE} (hl : PE X l tl) : PI X tg l (iAny X.K tl) := by
  refine ⟨fun pins s σ H R I h => ?_⟩
  refine thn (hl.run pins s σ H _ I h) fun v s1 ⟨x, H1, I1, r1, q1⟩ => ?_
  rcases q1 with ⟨a, e, ⟨xs, hq⟩, q⟩ | ⟨a, e, ⟨xs, hq⟩, q⟩ | ⟨z, e, q⟩
  · subst e
    cases r1
    obtain ⟨its, rv, p, hz⟩ := I1.list hq
    exact wpAny_pyIter_list p.isList (pi_one (tk := s1.toks) I1 _ (turn_list a _) ⟨_, Heap.get?_push_size _ rfl, rfl, rfl⟩ q)
  · subst e
    cases r1
    obtain ⟨its, rv, p, hz⟩ := I1.tuple hq
    exact wpAny_pyIter_tuple (show s1.heap.IsTuple a its.toArray from p) (pi_one (tk := s1.toks) I1 _ (turn_tuple a _) ⟨_, Heap.get?_push_size _ rfl, rfl, rfl⟩ q)
  · subst e
    obtain ⟨t, rfl⟩ := r1
    cases ha : z.cps.all (· < 128)
    · exact wpAny_pyIter_wide ha (pi_one (tk := s1.toks) I1 _ (turn_str _ z t "str_iterator" (.inr rfl)) ⟨_, Heap.get?_push_size _ rfl, rfl, rfl⟩ q)
    · exact wpAny_pyIter_ascii ha (pi_one (tk := s1.toks) I1 _ (turn_str _ z t "str_ascii_iterator" (.inl rfl)) ⟨_, Heap.get?_push_size _ rfl, rfl, rfl⟩ q)

def signs (z : Str) : List Val := z.cps.toList.map fun c => .str ⟨#[c]⟩
theorem signs_len (z : Str) : (signs z).length = z.cps.size := by simp [signs]
theorem signs_get {z : Str} {i : Nat} {x : Val} (h : (signs z)[i]? = some x) : ∃ c, z.cps[i]? = some c ∧ x = .str ⟨#[c]⟩ := by
  unfold signs at h
  rw [List.getElem?_map] at h
  obtain ⟨c, h1, h2⟩ := Option.map_eq_some_iff.mp h
  exact ⟨c, by simpa using h1, h2.symm⟩
def itemsOf (S : Sto) : Val → Option (List Val × Gd)
  | .tup xs => some (xs, [])
  | .lst xs => some (xs, [])
  | .scr ns => some (ns.map Val.int, [])
  | .str z => some (signs z, [])
  | .cell k => match S[k]? with
    | some (.lst xs) => some (xs, [(k, xs)])
    | _ => none
  | _ => none
inductive Src (K : PySem.W.Frag) (F : Hp) (μ : List Addr) : Val → V → List Val → Gd → Prop where
  | tup {xs : List Val} {a : Addr} {vs : List V} : SqT K F a vs → RepL K F μ xs vs → Src K F μ (.tup xs) (.ref a) xs []
  | lst {v : Val} {xs : List Val} {a : Addr} {vs : List V} : SqL K F a vs → RepL K F μ xs vs → Src K F μ v (.ref a) xs []
  | str {z : Str} : Src K F μ (.str z) (.str z) (signs z) []
  | cell {k : Nat} {a : Addr} {xs : List Val} : μ[k]? = some a → Src K F μ (.cell k) (.ref a) xs [(k, xs)]
theorem itemsOf_ok {K : PySem.W.Frag} {F : Hp} {μ : List Addr} {S : Sto} {v : Val} {w : V} {xs : List Val} {g : Gd} (r : RepV K F μ v w) (e : itemsOf S v = some (xs, g)) : Src K F μ v w xs g := by
  cases r with
  | tup q l => cases e; exact .tup q.sq l
  | lst q l => cases e; exact .lst (SqL.of q) l
  | scr q => cases e; exact .lst q RepL.ofInts
  | str => cases e; exact .str
  | cell q =>
    unfold itemsOf at e
    simp only at e
    split at e
    · cases e; exact .cell q
    · cases e
  | _ => cases e
section
variable {K : PySem.W.Frag} {mg : Str → Option Value} {F H F1 H1 : Hp} {μ μ1 : List Addr} {S1 : Sto}
theorem cell_at (x : Xt F H μ F1 H1 μ1) (s : RepS K mg F1 H1 μ1 S1) {k : Nat} {a : Addr} {xs : List Val} (hk : μ[k]? = some a) (g : gOk [(k, xs)] S1) : ∃ vs, SqL K H1 a vs ∧ RepL K F1 μ1 xs vs := by
  obtain ⟨vs, h1, h2⟩ := s.cells k a _ (prefix_get x.pre hk) (g (k, xs) (by simp))
  exact ⟨vs, SqL.of h1, h2⟩
theorem walks_list {v : Val} {a : Addr} {xs : List Val} {g : Gd} (hl : ∀ F1 H1 μ1 S1, Xt F H μ F1 H1 μ1 → RepS K mg F1 H1 μ1 S1 → gOk g S1 → ∃ vs, SqL K H1 a vs ∧ RepL K F1 μ1 xs vs) : Walks K mg (Itl K a) F H μ xs g where
  goes := fun F1 H1 μ1 S1 i x xt s go hx => by
    obtain ⟨vs, q, l⟩ := hl F1 H1 μ1 S1 xt s go
    obtain ⟨w, hw, r⟩ := l.get hx
    refine ⟨⟨vs, w, q, hw⟩, fun w' H2 y => ?_⟩
    obtain ⟨rfl, hy⟩ := y
    have e := hy vs q
    rw [hw] at e
    cases e
    exact ⟨F1, Xt.refl _ _ _, s, r⟩
  stops := fun F1 H1 μ1 S1 xt s go => by
    obtain ⟨vs, q, l⟩ := hl F1 H1 μ1 S1 xt s go
    exact ⟨vs, q, by rw [← l.length]; exact Nat.le_refl _⟩
theorem walks_tup {a : Addr} {xs : List Val} {vs : List V} (q : SqT K F a vs) (l : RepL K F μ xs vs) : Walks K mg (Itt K a) F H μ xs [] where
  goes := fun F1 H1 μ1 S1 i x xt s go hx => by
    have q1 := same_seqT s.sub (same_seqT xt.sub q)
    obtain ⟨w, hw, r⟩ := l.get hx
    refine ⟨⟨vs, w, q1, hw⟩, fun w' H2 y => ?_⟩
    obtain ⟨rfl, hy⟩ := y
    have e := hy vs q1
    rw [hw] at e
    cases e
    exact ⟨F1, Xt.refl _ _ _, s, r.mono xt.toExt⟩
  stops := fun F1 H1 μ1 S1 xt s go => ⟨vs, same_seqT s.sub (same_seqT xt.sub q), by rw [← l.length]; exact Nat.le_refl _⟩
theorem walks_str (z : Str) : Walks K mg (Its z) F H μ (signs z) [] where
  goes := fun F1 H1 μ1 S1 i x xt s go hx => by
    obtain ⟨c, hc, rfl⟩ := signs_get hx
    have hi : i < z.cps.size := (Array.getElem?_eq_some_iff.mp hc).1
    refine ⟨hi, fun w' H2 y => ?_⟩
    obtain ⟨rfl, c', hc', rfl⟩ := y
    rw [hc] at hc'
    cases hc'
    exact ⟨F1, Xt.refl _ _ _, s, .str⟩
  stops := fun F1 H1 μ1 S1 xt s go => by
    show z.cps.size ≤ (signs z).length
    rw [signs_len]
    exact Nat.le_refl _
end
def mVal (m : ME) : MI := fun ρ S => bnd (m ρ S) fun v S1 => pur (itemsOf S1 v) S1
def pairsOf' (xs : List Val) : List Val := (List.range xs.length).zipWith (fun (i : Nat) x => Val.prs [.int (i : Int), x]) xs
def mEnum (m : MA) : MI := fun ρ S => bnd (m ρ S) fun vs S1 => match vs with
  | [v] => match itemsOf S1 v with
    | some (xs, g) => some (.ok (pairsOf' xs, g) S1)
    | none => none
  | _ => none
theorem pairs_get {xs : List Val} {i : Nat} {y : Val} (h : (pairsOf' xs)[i]? = some y) : ∃ x, xs[i]? = some x ∧ y = .prs [.int (i : Int), x] := by
  unfold pairsOf' at h
  rw [List.getElem?_zipWith] at h
  cases e : xs[i]? with
  | none => rw [e] at h; cases e2 : (List.range xs.length)[i]? <;> rw [e2] at h <;> cases h
  | some x =>
    have hi := (List.getElem?_eq_some_iff.mp e).1
    rw [e, List.getElem?_range hi] at h
    exact ⟨x, rfl, (Option.some.inj h).symm⟩
theorem pairs_len (xs : List Val) : (pairsOf' xs).length = xs.length := by simp [pairsOf']
section
variable {X : Cx} {W : WX} {tg e : Expr} {m : ME}
theorem gi_val (he : GE X W e m) : GI X W tg e (mVal m) := ⟨fun pins s σ H R I h => by
  refine (pi_any he).run pins s σ H R I ?_
  obtain ⟨ρ, F, μ, S, hS, hE, hP⟩ := h
  refine bind_tM hS hE hP.bind fun F1 μ1 S1 v w H1 e1 s1 q1 r1 p1 => ?_
  cases ei : itemsOf S1 v with
  | none => rw [ei] at p1; exact p1.elim
  | some a =>
    obtain ⟨xs, g⟩ := a
    rw [ei] at p1
    have fin := fun J wk => p1 F1 μ1 H1 (Xt.refl _ _ _) s1 J wk
    cases itemsOf_ok r1 ei with
    | tup q l => exact .inr (.inl ⟨_, rfl, ⟨_, same_seqT s1.sub q⟩, fin _ (walks_tup q l)⟩)
    | lst q l => exact .inl ⟨_, rfl, ⟨_, s1.sub.seq q⟩, fin _ (walks_list (v := v) fun F2 H2 μ2 S2 xt s2 _ => ⟨_, s2.sub.seq (xt.sub.seq q), l.mono xt.toExt⟩)⟩
    | str => exact .inr (.inr ⟨_, rfl, fin _ (walks_str _)⟩)
    | @cell k _ _ hk =>
      have hg : gOk [(k, xs)] S1 := by
        unfold itemsOf at ei
        simp only at ei
        split at ei
        · rename_i q
          cases ei
          intro p hp
          simp at hp
          subst hp
          exact q
        · cases ei
      obtain ⟨vs, q, l⟩ := cell_at (Xt.refl F1 H1 μ1) s1 hk hg
      exact .inl ⟨_, rfl, ⟨vs, q⟩, fin _ (walks_list (v := .non) fun F2 H2 μ2 S2 xt s2 g2 => cell_at xt s2 hk g2)⟩⟩
theorem pair_new {K : PySem.W.Frag} {mg : Str → Option Value} {F1 H1 : Hp} {μ1 : List Addr} {S1 : Sto} {T : Addr} {x y : Val} {v w : V} (s : RepS K mg F1 H1 μ1 S1) (hT : H1 T = none) (rx : RepV K F1 μ1 x v) (ry : RepV K F1 μ1 y w) :
    ∃ F2, Xt F1 H1 μ1 F2 (upd H1 T (.tup [v, w])) μ1 ∧ RepS K mg F2 (upd H1 T (.tup [v, w])) μ1 S1 ∧ RepV K F2 μ1 (.prs [x, y]) (.ref T) := by
  have e := ext_upd F1 μ1 (o := .tup [v, w]) (s.nF hT)
  exact ⟨upd F1 T (.tup [v, w]), Xt.new (s.nF hT) hT, s.alloc _ hT, .prs (SqT.of upd_same) (.cons (rx.mono e) (.cons (ry.mono e) .nil))⟩
theorem gi_enum {es : List Expr} {ms : MA} {p pos tpos : Pos} {elts : List Expr} {kk : Nat} (hg : Gl X "enumerate") (hm : X.mg "enumerate" = none) (ha : GA X W [e] ms) (hs : starEach [e] X.env = [(false, eval e X.env)] := by rfl) :
    GI X W (.Tuple elts kk tpos) (.Call (.Name "enumerate" p) [e] [] pos) (mEnum ms) := ⟨fun pins s σ H R I h => by
  refine (pi_enA hg hm ha hs).run pins s σ H R I ?_
  obtain ⟨ρ, F, μ, S, hS, hE, hP⟩ := h
  refine bind_tMA hS hE hP.bind fun F1 μ1 S1 v w H1 e1 s1 q1 r1 p1 => ?_
  split at p1
  · rename_i v
    obtain ⟨w1, rfl, rr⟩ := r1.one
    split at p1
    · rename_i xs g ei
      have fin := fun J wk => p1 F1 μ1 H1 (Xt.refl _ _ _) s1 J wk
      cases itemsOf_ok rr ei with
      | tup q l =>
        refine .inr (.inl ⟨_, _, rfl, same_seqT s1.sub q, fin _ ⟨fun F2 H2 μ2 S2 i y xt s2 go hy => ?_, fun F2 H2 μ2 S2 xt s2 go => ⟨_, same_seqT s2.sub (same_seqT xt.sub q), by rw [pairs_len, l.length]⟩⟩⟩)
        obtain ⟨x, hx, rfl⟩ := pairs_get hy
        obtain ⟨u, hu, ru⟩ := l.get hx
        have q2 := same_seqT s2.sub (same_seqT xt.sub q)
        refine ⟨⟨_, u, q2, hu⟩, fun w' H3 y => ?_⟩
        obtain ⟨T, z, rfl, hT, rfl, hz⟩ := y
        have e2 := hz _ q2
        rw [hu] at e2
        cases e2
        exact pair_new s2 hT .int (ru.mono xt.toExt)
      | lst q l =>
        refine .inl ⟨_, _, rfl, s1.sub.seq q, fin _ ⟨fun F2 H2 μ2 S2 i y xt s2 go hy => ?_, fun F2 H2 μ2 S2 xt s2 go => ⟨_, s2.sub.seq (xt.sub.seq q), by rw [pairs_len, l.length]; exact Nat.le_refl _⟩⟩⟩
        obtain ⟨x, hx, rfl⟩ := pairs_get hy
        obtain ⟨u, hu, ru⟩ := l.get hx
        have q2 := s2.sub.seq (xt.sub.seq q)
        refine ⟨⟨_, u, q2, hu⟩, fun w' H3 y => ?_⟩
        obtain ⟨T, z, rfl, hT, rfl, hz⟩ := y
        have e2 := hz _ q2
        rw [hu] at e2
        cases e2
        exact pair_new s2 hT .int (ru.mono xt.toExt)
      | str =>
        refine .inr (.inr ⟨_, rfl, fin _ ⟨fun F2 H2 μ2 S2 i y xt s2 go hy => ?_, fun F2 H2 μ2 S2 xt s2 go => ?_⟩⟩)
        · obtain ⟨x, hx, rfl⟩ := pairs_get hy
          obtain ⟨c, hc, rfl⟩ := signs_get hx
          refine ⟨(Array.getElem?_eq_some_iff.mp hc).1, fun w' H3 y => ?_⟩
          obtain ⟨T, z, rfl, hT, rfl, c', hc', rfl⟩ := y
          rw [hc] at hc'
          cases hc'
          exact pair_new s2 hT .int .str
        · show _ = _
          rw [pairs_len, signs_len]
      | @cell k _ _ hk =>
        have hg : gOk [(k, xs)] S1 := by
          unfold itemsOf at ei
          simp only at ei
          split at ei
          · rename_i q
            cases ei
            intro p hp
            simp at hp
            subst hp
            exact q
          · cases ei
        obtain ⟨vs, q, l⟩ := cell_at (Xt.refl F1 H1 μ1) s1 hk hg
        refine .inl ⟨_, vs, rfl, q, fin _ ⟨fun F2 H2 μ2 S2 i y xt s2 go hy => ?_, fun F2 H2 μ2 S2 xt s2 go => ?_⟩⟩
        · obtain ⟨x, hx, rfl⟩ := pairs_get hy
          obtain ⟨vs2, q2, l2⟩ := cell_at xt s2 hk go
          obtain ⟨u, hu, ru⟩ := l2.get hx
          refine ⟨⟨_, u, q2, hu⟩, fun w' H3 y => ?_⟩
          obtain ⟨T, z, rfl, hT, rfl, hz⟩ := y
          have e2 := hz _ q2
          rw [hu] at e2
          cases e2
          exact pair_new s2 hT .int ru
        · obtain ⟨vs2, q2, l2⟩ := cell_at xt s2 hk go
          exact ⟨_, q2, by rw [pairs_len, l2.length]; exact Nat.le_refl _⟩
    · exact p1.elim
  · exact p1.elim⟩
def rangeL (a b : Int) : List Val := (List.range (b - a).toNat).map fun (i : Nat) => Val.int (a + (i : Int))
def mRange1 (ms : MA) : MI := fun ρ S => bnd (ms ρ S) fun vs S1 => match vs with
  | [.int j] => if -(2 ^ 62) ≤ j ∧ j < 2 ^ 62 then some (.ok (rangeL 0 j, []) S1) else none
  | _ => none
def mRange2 (ms : MA) : MI := fun ρ S => bnd (ms ρ S) fun vs S1 => match vs with
  | [.int i, .int j] => if -(2 ^ 62) ≤ i ∧ i < 2 ^ 62 ∧ -(2 ^ 62) ≤ j ∧ j < 2 ^ 62 then some (.ok (rangeL i j, []) S1) else none
  | _ => none
theorem range_get {a b : Int} {i : Nat} {x : Val} (h : (rangeL a b)[i]? = some x) : i < (b - a).toNat ∧ x = .int (a + (i : Int)) := by
  unfold rangeL at h
  rw [List.getElem?_map] at h
  obtain ⟨c, h1, h2⟩ := Option.map_eq_some_iff.mp h
  obtain ⟨hi, e⟩ := List.getElem?_eq_some_iff.mp h1
  rw [List.getElem_range] at e
  subst e
  exact ⟨by simpa using hi, h2.symm⟩
theorem walks_range {K : PySem.W.Frag} {mg : Str → Option Value} {F H : Hp} {μ : List Addr} (a b : Int) : Walks K mg (Itr a (b - a).toNat) F H μ (rangeL a b) [] where
  goes := fun F1 H1 μ1 S1 i x xt s go hx => by
    obtain ⟨hi, rfl⟩ := range_get hx
    refine ⟨hi, fun w' H2 y => ?_⟩
    obtain ⟨rfl, rfl⟩ := y
    exact ⟨F1, Xt.refl _ _ _, s, .int⟩
  stops := fun F1 H1 μ1 S1 xt s go => by
    show (b - a).toNat ≤ (rangeL a b).length
    simp [rangeL]
theorem gi_range1 {a : Expr} {ms : MA} {p pos : Pos} (hg : Gl X "range") (hm : X.mg "range" = none) (ha : GA X W [a] ms) (hs : starEach [a] X.env = [(false, eval a X.env)] := by rfl) : GI X W tg (.Call (.Name "range" p) [a] [] pos) (mRange1 ms) := ⟨fun pins s σ H R I h => by
  refine (pi_range1 hg hm ha hs).run pins s σ H R I ?_
  obtain ⟨ρ, F, μ, S, hS, hE, hP⟩ := h
  refine bind_tMA hS hE hP.bind fun F1 μ1 S1 v w H1 e1 s1 q1 r1 p1 => ?_
  split at p1
  · rename_i j
    obtain ⟨w1, rfl, rr⟩ := r1.one
    cases rr
    split at p1
    · rename_i hj
      refine ⟨j, rfl, hj.1, hj.2, p1 F1 μ1 H1 (Xt.refl _ _ _) s1 _ ?_⟩
      have := walks_range (K := X.K) (mg := X.mg) (F := F1) (H := H1) (μ := μ1) 0 j
      rw [Int.sub_zero] at this
      exact this
    · exact p1.elim
  · exact p1.elim⟩
theorem gi_range2 {a b : Expr} {ms : MA} {p pos : Pos} (hg : Gl X "range") (hm : X.mg "range" = none) (ha : GA X W [a, b] ms) (hs : starEach [a, b] X.env = [(false, eval a X.env), (false, eval b X.env)] := by rfl) (hs2 : starEach [b] X.env = [(false, eval b X.env)] := by rfl) : GI X W tg (.Call (.Name "range" p) [a, b] [] pos) (mRange2 ms) := ⟨fun pins s σ H R I h => by
  refine (pi_range2 hg hm ha hs hs2).run pins s σ H R I ?_
  obtain ⟨ρ, F, μ, S, hS, hE, hP⟩ := h
  refine bind_tMA hS hE hP.bind fun F1 μ1 S1 v w H1 e1 s1 q1 r1 p1 => ?_
  split at p1
  · rename_i i j
    obtain ⟨w1, w2, rfl, rr, rs⟩ := r1.two
    cases rr
    cases rs
    split at p1
    · rename_i hj
      exact ⟨i, j, rfl, hj, p1 F1 μ1 H1 (Xt.refl _ _ _) s1 _ (walks_range i j)⟩
    · exact p1.elim
  · exact p1.elim⟩
def rangeC (a c : Int) (n : Nat) : List Val := (List.range n).map fun (i : Nat) => Val.int (a + (i : Int) * c)
def mRange3 (ms : MA) : MI := fun ρ S => bnd (ms ρ S) fun vs S1 => match vs with
  | [.int i, .int j, .int c] => if c = -1 ∧ -(2 ^ 62) ≤ i ∧ i < 2 ^ 62 ∧ -(2 ^ 62) ≤ j ∧ j < 2 ^ 62 then some (.ok (rangeC i (-1) (i - j).toNat, []) S1) else none
  | _ => none
theorem walks_rangeC {K : PySem.W.Frag} {mg : Str → Option Value} {F H : Hp} {μ : List Addr} (a c : Int) (n : Nat) : Walks K mg (Itc a c n) F H μ (rangeC a c n) [] where
  goes := fun F1 H1 μ1 S1 i x xt s go hx => by
    unfold rangeC at hx
    rw [List.getElem?_map] at hx
    obtain ⟨k, h1, h2⟩ := Option.map_eq_some_iff.mp hx
    obtain ⟨hi, e⟩ := List.getElem?_eq_some_iff.mp h1
    rw [List.getElem_range] at e
    subst e
    subst h2
    refine ⟨show i < n by simpa using hi, fun w' H2 y => ?_⟩
    obtain ⟨rfl, rfl⟩ := y
    exact ⟨F1, Xt.refl _ _ _, s, .int⟩
  stops := fun F1 H1 μ1 S1 xt s go => by
    show n ≤ (rangeC a c n).length
    simp [rangeC]
theorem gi_range3 {a b c : Expr} {ms : MA} {p pos : Pos} (hg : Gl X "range") (hm : X.mg "range" = none) (ha : GA X W [a, b, c] ms) (hs : starEach [a, b, c] X.env = (false, eval a X.env) :: starEach [b, c] X.env := by rfl) (hpl : (backTo pos (starEach [b, c] X.env)).any (·.1) = false := by rfl) : GI X W tg (.Call (.Name "range" p) [a, b, c] [] pos) (mRange3 ms) := ⟨fun pins s σ H R I h => by
  refine (pi_range3 hg hm ha hs hpl).run pins s σ H R I ?_
  obtain ⟨ρ, F, μ, S, hS, hE, hP⟩ := h
  refine bind_tMA hS hE hP.bind fun F1 μ1 S1 v w H1 e1 s1 q1 r1 p1 => ?_
  split at p1
  · rename_i i j c
    obtain ⟨w1, w2, w3, rfl, rr, rs, rt⟩ := r1.three
    cases rr
    cases rs
    cases rt
    split at p1
    · rename_i hj
      obtain ⟨rfl, h1, h2, h3, h4⟩ := hj
      exact ⟨i, j, -1, _, rfl, RgC.neg h1 h2 h3 h4, p1 F1 μ1 H1 (Xt.refl _ _ _) s1 _ (walks_rangeC i (-1) _)⟩
    · exact p1.elim
  · exact p1.elim⟩
def zipV (xs ys : List Val) : List Val := List.zipWith (fun x y => Val.prs [x, y]) xs ys
def mZip (ms : MA) : MI := fun ρ S => bnd (ms ρ S) fun vs S1 => match vs with
  | [.tup xs, .tup ys] => some (.ok (zipV xs ys, []) S1)
  | [.lst xs, .lst ys] => some (.ok (zipV xs ys, []) S1)
  | _ => none
theorem zip_get {xs ys : List Val} {i : Nat} {z : Val} (h : (zipV xs ys)[i]? = some z) : ∃ x y, xs[i]? = some x ∧ ys[i]? = some y ∧ z = .prs [x, y] := by
  unfold zipV at h
  rw [List.getElem?_zipWith] at h
  cases e : xs[i]? with
  | none => rw [e] at h; cases e2 : ys[i]? <;> rw [e2] at h <;> cases h
  | some x =>
    cases e2 : ys[i]? with
    | none => rw [e, e2] at h; cases h
    | some y => rw [e, e2] at h; exact ⟨x, y, rfl, rfl, (Option.some.inj h).symm⟩
theorem zip_len (xs ys : List Val) : (zipV xs ys).length = min xs.length ys.length := by simp [zipV]
theorem gi_zip {e2 : Expr} {ms : MA} {p pos tpos : Pos} {elts : List Expr} {kk : Nat} (hg : Gl X "zip") (hm : X.mg "zip" = none) (ha : GA X W [e, e2] ms)
    (hs : starEach [e, e2] X.env = (false, eval e X.env) :: starEach [e2] X.env := by rfl) (hpl : (backTo pos (starEach [e2] X.env)).any (·.1) = false := by rfl) : GI X W (.Tuple elts kk tpos) (.Call (.Name "zip" p) [e, e2] [] pos) (mZip ms) := ⟨fun pins s σ H R I h => by
  refine (RZ.pi_zipA hg hm ha hs hpl).run pins s σ H R I ?_
  obtain ⟨ρ, F, μ, S, hS, hE, hP⟩ := h
  refine bind_tMA hS hE hP.bind fun F1 μ1 S1 v w H1 e1 s1 q1 r1 p1 => ?_
  split at p1
  · rename_i xs ys
    obtain ⟨w1, w2, rfl, rr, rs⟩ := r1.two
    have fin := fun J wk => p1 F1 μ1 H1 (Xt.refl _ _ _) s1 J wk
    cases rr with
    | tup qa la =>
      cases rs with
      | tup qb lb =>
        refine ⟨_, _, _, _, rfl, .inr ⟨same_seqT s1.sub qa.sq, same_seqT s1.sub qb.sq, fin _ ⟨fun F2 H2 μ2 S2 i y xt s2 go hy => ?_, fun F2 H2 μ2 S2 xt s2 go => ?_⟩⟩⟩
        · obtain ⟨x, y, hx, hy', rfl⟩ := zip_get hy
          obtain ⟨u, hu, ru⟩ := la.get hx
          obtain ⟨u2, hu2, ru2⟩ := lb.get hy'
          have a2 := same_seqT s2.sub (same_seqT xt.sub qa.sq)
          have b2 := same_seqT s2.sub (same_seqT xt.sub qb.sq)
          refine ⟨⟨_, _, u, u2, a2, b2, hu, hu2⟩, fun w' H3 y => ?_⟩
          obtain ⟨T, z1, z2, rfl, hT, rfl, hz1, hz2⟩ := y
          have k1 := hz1 _ a2
          have k2 := hz2 _ b2
          rw [hu] at k1
          rw [hu2] at k2
          cases k1
          cases k2
          exact pair_new s2 hT (ru.mono xt.toExt) (ru2.mono xt.toExt)
        · refine ⟨_, _, same_seqT s2.sub (same_seqT xt.sub qa.sq), same_seqT s2.sub (same_seqT xt.sub qb.sq), ?_⟩
          rw [zip_len, ← la.length, ← lb.length]
          omega
  · rename_i xs ys
    obtain ⟨w1, w2, rfl, rr, rs⟩ := r1.two
    have fin := fun J wk => p1 F1 μ1 H1 (Xt.refl _ _ _) s1 J wk
    cases rr with
    | lst qa la =>
      cases rs with
      | lst qb lb =>
        refine ⟨_, _, _, _, rfl, .inl ⟨s1.sub.seq (SqL.of qa), s1.sub.seq (SqL.of qb), fin _ ⟨fun F2 H2 μ2 S2 i y xt s2 go hy => ?_, fun F2 H2 μ2 S2 xt s2 go => ?_⟩⟩⟩
        · obtain ⟨x, y, hx, hy', rfl⟩ := zip_get hy
          obtain ⟨u, hu, ru⟩ := la.get hx
          obtain ⟨u2, hu2, ru2⟩ := lb.get hy'
          have a2 := s2.sub.seq (xt.sub.seq (SqL.of (K := X.K) qa))
          have b2 := s2.sub.seq (xt.sub.seq (SqL.of (K := X.K) qb))
          refine ⟨⟨_, _, u, u2, a2, b2, hu, hu2⟩, fun w' H3 y => ?_⟩
          obtain ⟨T, z1, z2, rfl, hT, rfl, hz1, hz2⟩ := y
          have k1 := hz1 _ a2
          have k2 := hz2 _ b2
          rw [hu] at k1
          rw [hu2] at k2
          cases k1
          cases k2
          exact pair_new s2 hT (ru.mono xt.toExt) (ru2.mono xt.toExt)
        · refine ⟨_, _, s2.sub.seq (xt.sub.seq (SqL.of qa)), s2.sub.seq (xt.sub.seq (SqL.of qb)), ?_⟩
          rw [zip_len, ← la.length, ← lb.length]
          omega
  · exact p1.elim⟩
end
end G

set_option Elab.async false
set_option linter.all false
set_option maxRecDepth 100000
set_option maxHeartbeats 4000000
namespace G
open PySem PySem.Spec PyProof.Rows L2
section
variable {X : Cx}
def sReprS (S : Sto) (v : Val) : Option Str := match dat S v with
  | some d => if d.showable = true ∧ d.shown.length ≤ sizeLine ∧ d.depth ≤ 60 ∧ d.hasDict = false then some d.shown else none
  | none => none
def sRepr : Sto → List Val → Option Val := fun S vs => match vs with
  | [v] => (sReprS S v).map Val.str
  | _ => none
theorem c_repr (hG : X.A.guards = some []) (hu : X.A.units + 64 < cLine) : GCa X (.builtin "repr") sRepr := by
  intro pins s σ H xs us Q I r h
  obtain ⟨vs, F, μ, S, z, hS, rl, e, k⟩ := h
  unfold sRepr at e
  split at e
  · rename_i v
    obtain ⟨w, rfl, rv⟩ := rl.one
    obtain ⟨u, rfl, ru⟩ := vals1 r
    obtain ⟨t, et, e⟩ := Option.map_eq_some_iff.mp e
    subst e
    unfold sReprS at et
    split at et
    · rename_i d ed
      obtain ⟨⟨h1, h2, h3, h4⟩, e⟩ := ite_some et
      subst e
      obtain ⟨as, rd⟩ := Dp.reads I d w u (dat_ok hS rv ed) ru
      have fin : ∀ (h' : Heap) (t : Tok) (tk : Nat), (∀ b o, s.heap.get? b = some o → h'.get? b = some o) → EP X pins σ Q (.str d.shown t) { s with heap := h', toks := tk } := fun h' t tk kp =>
        ⟨.str d.shown, H, I.kept kp, ⟨t, rfl⟩, same_k k hS .str⟩
      cases u with
      | ref a => exact repr_of_reads' rd h1 (fun z => by rw [h4] at z; cases z) hG (by omega) (fun _ _ q => q) (fun h' t tk kp => fin h' t tk kp) h2
      | none => cases rd; exact P.repr_of_none (by simpa [PyData.shown] using fin s.heap s.toks (s.toks + 1) fun _ _ q => q)
      | bool b => cases rd; exact P.repr_of_bool (by simpa [PyData.shown] using fin s.heap s.toks (s.toks + 1) fun _ _ q => q)
      | int i t => cases rd; exact P.repr_of_int (by simpa [PyData.showable] using h1) (by simpa [PyData.shown] using fin s.heap s.toks (s.toks + 1) fun _ _ q => q)
      | str x t => cases rd; exact P.repr_of_str (by simpa [PyData.shown] using fin s.heap s.toks (s.toks + 1) fun _ _ q => q) (by simpa [PyData.shown] using h2)
      | _ => cases rd
    · cases et
  · cases e
def flatD : Val → Bool
  | .non => true | .bl _ => true | .int _ => true | .str _ => true
  | _ => false
def eqW : Val → Val → Bool
  | .non, .non => true
  | .bl a, .bl b => a == b
  | .bl a, .int b => (if a then 1 else 0) == b
  | .int a, .bl b => a == (if b then 1 else 0)
  | .int a, .int b => a == b
  | .str a, .str b => a == b
  | _, _ => false
def inW (x : Val) (xs : List Val) : Bool := xs.any fun y => eqW y x
theorem flat_ok {K : PySem.W.Frag} {F : Hp} {μ : List Addr} {v : Val} {w : V} (r : RepV K F μ v w) (e : flatD v = true) : flatV w = true := by
  cases r <;> first | rfl | cases e
theorem eqW_ok {K : PySem.W.Frag} {F : Hp} {μ : List Addr} {v v2 : Val} {w w2 : V} (r : RepV K F μ v w) (r2 : RepV K F μ v2 w2) (e : flatD v = true) (e2 : flatD v2 = true) : eqV w w2 = eqW v v2 := by
  cases r <;> cases r2 <;> first | rfl | exact absurd e Bool.false_ne_true | exact absurd e2 Bool.false_ne_true
theorem flatL_ok {K : PySem.W.Frag} {F : Hp} {μ : List Addr} : ∀ {vs : List Val} {ws : List V}, RepL K F μ vs ws → vs.all flatD = true → ws.all flatV = true
  | _, _, .nil, _ => rfl
  | _, _, .cons r t, e => by
    rw [List.all_cons, Bool.and_eq_true] at e
    rw [List.all_cons, flat_ok r e.1, flatL_ok t e.2]
    rfl
theorem inW_ok {K : PySem.W.Frag} {F : Hp} {μ : List Addr} {x : Val} {y : V} (rx : RepV K F μ x y) (ex : flatD x = true) : ∀ {vs : List Val} {ws : List V}, RepL K F μ vs ws → vs.all flatD = true → inV y ws = inW x vs
  | _, _, .nil, _ => rfl
  | _, _, .cons r t, e => by
    rw [List.all_cons, Bool.and_eq_true] at e
    have ih := inW_ok rx ex t e.2
    unfold inV inW at ih ⊢
    rw [List.any_cons, List.any_cons, eqW_ok r rx e.1 ex, ih]
def sInB (S : Sto) (x y : Val) : Option Bool := match y with
  | .str b => match x with
    | .str a => some (!(Builtin.Str.occurrences b a 0 b.length 1).isEmpty)
    | _ => none
  | y => match seqOf S y with
    | some (_, xs) => if flatD x = true ∧ xs.all flatD = true then some (inW x xs) else none
    | none => none
def sIn : Sto → Val → Val → Option Val := fun S x y => (sInB S x y).map Val.bl
def sNotIn : Sto → Val → Val → Option Val := fun S x y => (sInB S x y).map fun b => .bl (!b)
theorem sInB_seq {K : PySem.W.Frag} {mg : Str → Option Value} {F H : Hp} {μ : List Addr} {S : Sto} {vx vy : Val} {x y : V} {b : Bool} (h : RepS K mg F H μ S) (r1 : RepV K F μ vx x) (r2 : RepV K F μ vy y) (e : sInB S vx vy = some b) :
    (∃ a c, x = .str a ∧ y = .str c ∧ b = !(Builtin.Str.occurrences c a 0 c.length 1).isEmpty) ∨ ∃ p xs, y = .ref p ∧ (SqL K H p xs ∨ SqT K H p xs) ∧ flatV x = true ∧ xs.all flatV = true ∧ b = inV x xs := by
  unfold sInB at e
  split at e
  · split at e
    · cases r1; cases r2; cases e
      exact .inl ⟨_, _, rfl, rfl, rfl⟩
    · cases e
  · split at e
    · rename_i c xs es
      obtain ⟨⟨h1, h2⟩, e⟩ := ite_some e
      subst e
      obtain ⟨a, vs, rfl, l, q⟩ := seqOf_ok h r2 es
      refine .inr ⟨a, vs, rfl, ?_, flat_ok r1 h1, flatL_ok l h2, (inW_ok r1 h1 l h2).symm⟩
      rcases q with ⟨_, q, _⟩ | ⟨_, q⟩
      · exact .inr q
      · exact .inl q
    · cases e
theorem o_notin : GO2 X (compareOp .NotIn) sNotIn := by
  intro pins s σ H x y v u Q I rx ry h
  obtain ⟨vx, vy, F, μ, S, r, hS, r1, r2, e, k⟩ := h
  obtain ⟨b, eb, e⟩ := Option.map_eq_some_iff.mp e
  subst e
  rcases sInB_seq hS r1 r2 eb with ⟨a, c, rfl, rfl, rfl⟩ | ⟨p, xs, rfl, q, f1, f2, rfl⟩
  · exact L2.op_notIn_str pins s σ H _ _ v u Q I rx ry ⟨a, c, rfl, rfl, same_k k hS .bl⟩
  · exact op_notIn_seq pins s σ H x _ v u Q I rx ry ⟨p, xs, rfl, q, f1, f2, same_k k hS .bl⟩
def sIx : Sto → Val → Val → Option Val := fun S o i => match i with
  | .int i => match o with
    | .str z => if z.length ≤ sizeLine then (atI z.cps.toList i).map fun c => Val.str ⟨#[c]⟩ else none
    | o => match seqOf S o with
      | some (_, xs) => atI xs i
      | none => none
  | _ => none
theorem atI_rep {K : PySem.W.Frag} {F : Hp} {μ : List Addr} {xs : List Val} {vs : List V} (l : RepL K F μ xs vs) {i : Int} {x : Val} (h : atI xs i = some x) : ∃ v, atI vs i = some v ∧ RepV K F μ x v := by
  unfold atI at h ⊢
  rw [← l.length]
  obtain ⟨j, h1, h2⟩ := Option.bind_eq_some_iff.mp h
  obtain ⟨v, h3, h4⟩ := l.get h2
  exact ⟨v, by rw [h1]; exact h3, h4⟩
theorem x_ix : IxR X (rP2 X.K X.mg sIx) := by
  intro va sc pins s σ H x y v u Q I rx ry h hsub
  obtain ⟨vx, vy, F, μ, S, r, hS, r1, r2, e, k⟩ := h
  unfold sIx at e
  split at e
  · rename_i i
    cases r2
    split at e
    · rename_i z
      split at e
      · rename_i hz
        obtain ⟨c, ec, e⟩ := Option.map_eq_some_iff.mp e
        subst e
        cases r1
        exact ix_str va sc pins s σ H _ _ v u Q I rx ry ⟨z, i, c, rfl, rfl, hz, ec, same_k k hS .str⟩ hsub
      · cases e
    · split at e
      · rename_i c xs es
        obtain ⟨a, vs, rfl, l, q⟩ := seqOf_ok hS r1 es
        obtain ⟨w, hw, rw⟩ := atI_rep l e
        rcases q with ⟨_, q, _⟩ | ⟨_, q⟩
        · exact ix_tup va sc pins s σ H _ _ v u Q I rx ry ⟨a, vs, i, w, rfl, rfl, q, hw, same_k k hS rw⟩ hsub
        · exact ix_list va sc pins s σ H _ _ v u Q I rx ry ⟨a, vs, i, w, rfl, rfl, q, hw, same_k k hS rw⟩ hsub
      · cases e
  · cases e
def cutL {α : Type} (xs : List α) (lo hi : Option Int) : List α := (xs.drop (HT.sIx xs.length 0 lo)).take (HT.sIx xs.length xs.length hi - HT.sIx xs.length 0 lo)
theorem cutL_rep {K : PySem.W.Frag} {F : Hp} {μ : List Addr} {xs : List Val} {vs : List V} (l : RepL K F μ xs vs) (lo hi : Option Int) : RepL K F μ (cutL xs lo hi) (cutV vs lo hi) := by
  unfold cutL cutV
  rw [← l.length]
  exact (l.drop _).take _
def sSlice : Sto → Val → Option Int → Option Int → Option Val := fun S o lo hi => match o with
  | .str z => if z.length ≤ sizeLine then some (.str (cutS z lo hi)) else none
  | o => match seqOf S o with
    | some (true, xs) => some (.tup (cutL xs lo hi))
    | some (false, xs) => some (.lst (cutL xs lo hi))
    | none => none
theorem cutL_all {α : Type} {xs : List α} {lo hi : Option Int} (h : HT.sIx xs.length 0 lo = 0 ∧ HT.sIx xs.length xs.length hi = xs.length) : cutL xs lo hi = xs := by
  unfold cutL
  rw [h.1, h.2]
  simp
theorem sl_tupN : SlR X (fun x lo hi H Q => ∃ a xs, x = .ref a ∧ SqT X.K H a xs ∧ ¬ (HT.sIx xs.length 0 lo = 0 ∧ HT.sIx xs.length xs.length hi = xs.length) ∧ ∀ p o, o.dict = none → H p = none → Q (.ref p) (upd H p (nT o (cutV xs lo hi)))) := by
  intro pins s σ H x v vl vu lo hi sl Q I rx hs pl pu h
  obtain ⟨a, xs, rfl, hx, hw, q⟩ := h
  cases rx
  obtain ⟨its, r, ht, hz⟩ := I.tuple hx
  have hlen : its.toArray.size = xs.length := by rw [List.size_toArray]; exact r.length.symm
  refine ⟨"tuple", _, PyProof.Rows.slot_tuple_getitem.lookup, ht.typeIs, HT.getItem_tuple_cut ht hs pl pu (by rw [hlen]; exact hw) ?_ (by rw [hlen]; exact hz)⟩
  rw [hlen]
  exact ⟨.ref s.heap.objs.size, _, I.laid (t' := s.toks) (o := nT _ (cutV xs lo hi)) (fun b ob q => Heap.get?_push_of_some _ q) (Nat.le_refl _) ⟨Heap.get?_push_size _ rfl, Nat.le_trans (cutV_length xs lo hi) hz, _, (r.drop (HT.sIx xs.length 0 lo)).take (HT.sIx xs.length xs.length hi - HT.sIx xs.length 0 lo), IsTup.new _ _⟩, rfl, q _ _ rfl (I.hok.fresh (Nat.le_refl _))⟩
theorem call_tupleN : CallR X (.type "tuple") (fun xs H Q => ∃ p ys, xs = [.ref p] ∧ SqL X.K H p ys ∧ ∀ l o, o.dict = none → H l = none → Q (.ref l) (upd H l (nT o ys))) := by
  intro pins s σ H xs us Q I r h
  obtain ⟨p, ys, rfl, hq, q⟩ := h
  obtain ⟨u, rfl, rx⟩ := vals1 r
  cases rx
  obtain ⟨its, r', pl, hz⟩ := I.list hq
  have hlen := r'.length
  refine call_tuple_list pl.isList (fun h' kp => ?_) (by simp only [List.size_toArray] <;> omega)
  have I1 : L2.Inv X pins σ H { s with heap := h' } := I.kept (t' := s.toks) kp
  exact ⟨.ref h'.objs.size, _, I1.laid (t' := s.toks) (o := nT _ ys) (fun b o e => Heap.get?_push_of_some _ e) (Nat.le_refl _) ⟨Heap.get?_push_size _ rfl, hz, its, r', IsTup.new _ _⟩, rfl, q _ _ rfl (I1.hok.fresh (Nat.le_refl _))⟩
theorem x_slice : SlR X (rPS X.K X.mg sSlice) := by
  intro pins s σ H x v vl vu lo hi sl Q I rx hs pl pu h
  obtain ⟨vx, F, μ, S, r, hS, r1, e, k⟩ := h
  unfold sSlice at e
  split at e
  · obtain ⟨hz, e⟩ := ite_some e
    subst e
    cases r1
    exact sl_str pins s σ H _ v vl vu lo hi sl Q I rx hs pl pu ⟨_, rfl, hz, same_k k hS .str⟩
  · split at e
    · rename_i xs es
      cases e
      obtain ⟨a, vs, rfl, l, q⟩ := seqOf_ok hS r1 es
      rcases q with ⟨_, q, ev⟩ | ⟨z, _⟩
      · by_cases hw : HT.sIx vs.length 0 lo = 0 ∧ HT.sIx vs.length vs.length hi = vs.length
        · refine sl_tupA pins s σ H _ v vl vu lo hi sl Q I rx hs pl pu ⟨a, vs, rfl, q, fun _ => ?_, fun z => absurd hw z⟩
          rw [← l.length] at hw
          rw [cutL_all hw] at k
          subst ev
          exact same_k k hS r1
        · refine sl_tupN pins s σ H _ v vl vu lo hi sl Q I rx hs pl pu ⟨a, vs, rfl, q, hw, fun p o ho hp => ?_⟩
          obtain ⟨k1, k2, k3⟩ := hS.newTup hp ho (cutL_rep l lo hi)
          exact k _ _ _ k1 k2 k3
      · cases z
    · rename_i xs es
      cases e
      obtain ⟨a, vs, rfl, l, q⟩ := seqOf_ok hS r1 es
      rcases q with ⟨z, _⟩ | ⟨_, q⟩
      · cases z
      · refine sl_list pins s σ H _ v vl vu lo hi sl Q I rx hs pl pu ⟨a, vs, rfl, q, fun p hp => ?_⟩
        obtain ⟨k1, k2, k3⟩ := hS.newLst hp (cutL_rep l lo hi)
        exact k _ _ _ k1 k2 k3
    · cases e
def sLen : Sto → List Val → Option Val := fun S vs => match vs with
  | [.str z] => if z.length ≤ sizeLine then some (.int z.length) else none
  | [v] => match seqOf S v with
    | some (_, xs) => some (.int xs.length)
    | none => none
  | _ => none
theorem c_len : GCa X (.builtin "len") sLen := by
  intro pins s σ H xs us Q I r h
  obtain ⟨vs, F, μ, S, z, hS, rl, e, k⟩ := h
  unfold sLen at e
  split at e
  · obtain ⟨w, rfl, rv⟩ := rl.one
    obtain ⟨hz, e⟩ := ite_some e
    subst e
    cases rv
    exact call_len_str pins s σ H _ us Q I r ⟨_, rfl, hz, same_k k hS .int⟩
  · obtain ⟨w, rfl, rv⟩ := rl.one
    split at e
    · rename_i c ys es
      cases e
      obtain ⟨a, ws, rfl, l, q⟩ := seqOf_ok hS rv es
      refine call_len_seq pins s σ H _ us Q I r ⟨a, ws, rfl, ?_, same_k k hS (by rw [l.length]; exact .int)⟩
      rcases q with ⟨_, q, _⟩ | ⟨_, q⟩
      · exact .inr q
      · exact .inl q
    · cases e
  · cases e
def sTuple : Sto → List Val → Option Val := fun S vs => match vs with
  | [v] => match seqOf S v with
    | some (_, xs) => some (.tup xs)
    | none => none
  | _ => none
theorem c_tuple : GCa X (.type "tuple") sTuple := by
  intro pins s σ H xs us Q I r h
  obtain ⟨vs, F, μ, S, z, hS, rl, e, k⟩ := h
  unfold sTuple at e
  split at e
  · obtain ⟨w, rfl, rv⟩ := rl.one
    split at e
    · rename_i c ys es
      cases e
      obtain ⟨a, ws, rfl, l, q⟩ := seqOf_ok hS rv es
      rcases q with ⟨_, q, ev⟩ | ⟨_, q⟩
      · exact call_tuple_of pins s σ H _ us Q I r ⟨a, ws, rfl, .inr ⟨q, same_k k hS (by rw [ev] at rv; exact rv)⟩⟩
      · refine call_tupleN pins s σ H _ us Q I r ⟨a, ws, rfl, q, fun p o ho hp => ?_⟩
        obtain ⟨k1, k2, k3⟩ := hS.newTup hp ho l
        exact k _ _ _ k1 k2 k3
    · cases e
  · cases e
def rNL (K : PySem.W.Frag) (mg : Str → Option Value) (f : Sto → List Val → Option (List Val)) : List V → Hp → VK → Prop := fun xs H Q => ∃ vs F μ S ys, RepS K mg F H μ S ∧ RepL K F μ vs xs ∧ f S vs = some ys ∧ ∀ p ws, H p = none → RepL K F μ ys ws → Q (.ref p) (upd H p (.lst ws))
abbrev GNL (X : Cx) (fn : Value) (f : Sto → List Val → Option (List Val)) : Prop := CallR X fn (rNL X.K X.mg f)
theorem GNL.val {fn : Value} {f : Sto → List Val → Option (List Val)} (h : GNL X fn f) : GCa X fn (fun S vs => (f S vs).map Val.lst) := by
  intro pins s σ H xs us Q I r hw
  obtain ⟨vs, F, μ, S, z, hS, rl, e, k⟩ := hw
  obtain ⟨ys, ey, e⟩ := Option.map_eq_some_iff.mp e
  subst e
  refine h pins s σ H xs us Q I r ⟨vs, F, μ, S, ys, hS, rl, ey, fun p ws hp l => ?_⟩
  obtain ⟨k1, k2, k3⟩ := hS.newLst hp l
  exact k _ _ _ k1 k2 k3
theorem GNL.cell {fn : Value} {f : Sto → List Val → Option (List Val)} (h : GNL X fn f) : GCs X fn (fun S vs => (f S vs).map fun ys => (Val.cell S.length, S ++ [.lst ys])) := by
  intro pins s σ H xs us Q I r hw
  obtain ⟨vs, F, μ, S, z, S', hS, rl, e, k⟩ := hw
  obtain ⟨ys, ey, e⟩ := Option.map_eq_some_iff.mp e
  cases e
  refine h pins s σ H xs us Q I r ⟨vs, F, μ, S, ys, hS, rl, ey, fun p ws hp l => ?_⟩
  obtain ⟨k1, k2, k3⟩ := hS.newCell hp l
  exact k _ _ _ _ k1 k2 k3
def sList : Sto → List Val → Option (List Val) := fun S vs => match vs with
  | [v] => match seqOf S v with
    | some (_, xs) => some xs
    | none => none
  | _ => none
theorem c_list : GNL X (.type "list") sList := by
  intro pins s σ H xs us Q I r h
  obtain ⟨vs, F, μ, S, ys, hS, rl, e, k⟩ := h
  unfold sList at e
  split at e
  · obtain ⟨w, rfl, rv⟩ := rl.one
    split at e
    · rename_i c ys es
      cases e
      obtain ⟨a, ws, rfl, l, q⟩ := seqOf_ok hS rv es
      refine call_list_of pins s σ H _ us Q I r ⟨a, ws, rfl, ?_, fun p hp => k p ws hp l⟩
      rcases q with ⟨_, q, _⟩ | ⟨_, q⟩
      · exact .inr q
      · exact .inl q
    · cases e
  · cases e
def asInt : Val → Option Int
  | .int i => some i
  | _ => none
def intsOf : List Val → Option (List Int)
  | [] => some []
  | x :: xs => match asInt x, intsOf xs with
    | some i, some ns => some (i :: ns)
    | _, _ => none
theorem intsOf_map : ∀ ns : List Int, intsOf (ns.map Val.int) = some ns
  | [] => rfl
  | n :: ns => by
    show (match asInt (Val.int n), intsOf (ns.map Val.int) with | some i, some ns => some (i :: ns) | _, _ => none) = _
    rw [intsOf_map ns]
    rfl
theorem intsOf_eq : ∀ {xs : List Val} {ns : List Int}, intsOf xs = some ns → xs = ns.map Val.int
  | [], _, e => by cases e; rfl
  | x :: xs, ns, e => by
    unfold intsOf at e
    split at e
    · rename_i i ms e1 e2
      cases e
      rw [intsOf_eq e2]
      cases x <;> cases e1
      rfl
    · cases e
end
end G
namespace PyProof.Rows
open PySem
end PyProof.Rows
namespace SrtO
open PySem PyProof.Rows
end SrtO
namespace G
open PySem PySem.Spec PyProof.Rows L2
section
variable {X : Cx}
def mMt (f : Sto → Val → List Val → Option (Val × Sto)) (mo : ME) (ms : MA) : ME := fun ρ S => bnd (mo ρ S) fun o S1 => if (lstOf S1 o).isSome = true then bnd (ms ρ S1) fun vs S2 => prs (f S2 o vs) else none
theorem ge_mt {W : WX} {o e : Expr} {es : List Expr} {mo : ME} {ms : MA} {name : Str} {apos cpos : Pos} {id : String} {f : Sto → Val → List Val → Option (Val × Sto)} (slot : Slot "list" name id) (hty : typeOf (.builtin id) = pure (.type "method_descriptor")) (hm : MtR X id (rSM X.K X.mg f)) (ho : GE X W o mo) (ha : GA X W (e :: es) ms)
    (hbase : attributeBase o name X.env (eval o X.env) = eval o X.env := by rfl)
    (hfew : ((backTo cpos (starEach (e :: es) X.env)).all (fun x => !x.1) && (backToKw cpos (keywordEach [] X.env)).all (fun x => x.1.isSome)
      && decide ((e :: es).length + ([] : List Keyword).length + (if ([] : List Keyword).isEmpty then 0 else 1) < 30)) = true := by rfl)
    (hline : (apos.endLine == cpos.line) = true := by rfl) (hs : starEach (e :: es) X.env = (false, eval e X.env) :: starEach es X.env := by rfl) (hplain : (backTo cpos (starEach es X.env)).any (·.1) = false := by rfl) :
    GE X W (.Call (.Attribute o name apos) (e :: es) [] cpos) (mMt f mo ms) := by
  refine ge_of (pe_bm PySem.F.plainAttrs_list slot hty hm ho ha hbase hfew hline hs hplain) fun σ H Q h => ?_
  obtain ⟨ρ, F, μ, S, hS, hE, hP⟩ := h
  refine bind_tM hS hE hP.bind fun F1 μ1 S1 v w H1 e1 s1 q1 r1 p1 => ?_
  split at p1
  · rename_i hi
    obtain ⟨xs, ex⟩ := Option.isSome_iff_exists.mp hi
    obtain ⟨a, ws, rfl, ha', _⟩ := lstOf_ok s1 r1 ex
    refine ⟨.inl ⟨rfl, _, SqL.of ha'⟩, bind_tMA s1 q1 p1.bind fun F2 μ2 S2 v2 w2 H2 e2 s2 q2 r2 p2 => ?_⟩
    obtain ⟨r, S', e, k⟩ := prs_post p2
    exact ⟨v, v2, F2, μ2, S2, r, S', s2, r1.mono e2.toExt, r2, e, k⟩
  · exact p1.elim
def cellOf (S : Sto) : Val → Option (Nat × List Val)
  | .cell k => match S[k]? with
    | some (.lst xs) => some (k, xs)
    | _ => none
  | _ => none
theorem cellOf_ok {K : PySem.W.Frag} {mg : Str → Option Value} {F H : Hp} {μ : List Addr} {S : Sto} {v : Val} {w : V} {k : Nat} {xs : List Val} (h : RepS K mg F H μ S) (r : RepV K F μ v w) (e : cellOf S v = some (k, xs)) :
    ∃ a vs, w = .ref a ∧ μ[k]? = some a ∧ H a = some (.lst vs) ∧ RepL K F μ xs vs := by
  cases r with
  | cell q =>
    unfold cellOf at e
    simp only at e
    split at e
    · rename_i es
      cases e
      obtain ⟨vs, h1, h2⟩ := h.cells _ _ _ q es
      exact ⟨_, vs, rfl, q, h1, h2⟩
    · cases e
  | _ => cases e
theorem put_k {K : PySem.W.Frag} {mg : Str → Option Value} {F H : Hp} {μ : List Addr} {S : Sto} {k : Nat} {a : Addr} {xs : List Val} {vs : List V} (h : RepS K mg F H μ S) (hk : μ[k]? = some a) (l : RepL K F μ xs vs) :
    Xt F H μ F (upd H a (.lst vs)) μ ∧ RepS K mg F (upd H a (.lst vs)) μ (S.set k (.lst xs)) := ⟨Xt.put (List.mem_of_getElem? hk), h.put hk ⟨vs, upd_same, l⟩⟩
def sAppend : Sto → Val → List Val → Option (Val × Sto) := fun S o vs => match cellOf S o, vs with
  | some (k, xs), [y] => if xs.length < sizeLine then some (.non, S.set k (.lst (xs ++ [y]))) else none
  | _, _ => none
theorem m_append : MtR X "list.append" (rSM X.K X.mg sAppend) := by
  intro pins s σ H x xs v us Q I rx rxs h
  obtain ⟨vx, vs, F, μ, S, r, S', hS, r1, rl, e, k⟩ := h
  unfold sAppend at e
  split at e
  · rename_i k' ys y ec
    obtain ⟨hz, e⟩ := ite_some e
    cases e
    obtain ⟨w, rfl, ry⟩ := rl.one
    obtain ⟨a, ws, rfl, hk, ha, l⟩ := cellOf_ok hS r1 ec
    obtain ⟨k1, k2⟩ := put_k hS hk (l.append (.cons ry .nil))
    exact mt_append pins s σ H _ _ v us Q I rx rxs ⟨a, ws, w, rfl, rfl, ha, by rw [← l.length]; exact hz, k _ _ _ _ k1 k2 .non⟩
  · cases e
def sSetI : Sto → Val → Val → Val → Option Sto := fun S o i v => match cellOf S o, i with
  | some (k, xs), .int i => match ixN xs.length i with
    | some j => some (S.set k (.lst (xs.set j v)))
    | none => none
  | _, _ => none
theorem p_set : PSet X (rSI X.K X.mg sSetI) := by
  intro pins s σ H o i v ov iv u Q I ro ri rv h
  obtain ⟨vo, vi, vv, F, μ, S, S', hS, r1, r2, r3, e, k⟩ := h
  unfold sSetI at e
  split at e
  · rename_i k' ys i ec
    split at e
    · rename_i j ej
      cases e
      cases r2
      obtain ⟨a, ws, rfl, hk, ha, l⟩ := cellOf_ok hS r1 ec
      obtain ⟨k1, k2⟩ := put_k hS hk (l.set r3 j)
      exact set_list pins s σ H _ _ v ov iv u Q I ro ri rv ⟨a, ws, i, j, rfl, rfl, ha, by rw [← l.length]; exact ej, k _ _ _ k1 k2⟩
    · cases e
  · cases e
end
end G

set_option Elab.async false
set_option linter.all false
set_option maxRecDepth 100000
set_option maxHeartbeats 4000000
namespace HT
open PySem PySem.Spec PyProof.Rows L2
section
variable {prog : Program} {w : World} {A : Around} {E : Value → Shared → Prop} {s : Shared}
theorem g_rev_adjust (n : Nat) : Builtin.Slice.sliceAdjust none none (-1) (n : Int) = ((n : Int) - 1, -1) := by
  unfold Builtin.Slice.sliceAdjust
  simp
theorem g_rev_places (n : Nat) : Builtin.Slice.slicePlaces ((n : Int) - 1) (-1) (-1) = n := by
  unfold Builtin.Slice.slicePlaces
  rw [if_neg (by decide)]
  have e : -(-1 : Int) = 1 := by decide
  rw [e, Int.ediv_one]
  split <;> omega
theorem g_applied_rev {sl : Addr} {vs : Value} {n : Nat} {Q : Int × Int × Nat → Shared → Prop} (hs : s.heap.IsSliceOf sl .none .none vs) (ps : IsPart vs (some (-1))) (h : Q ((n : Int) - 1, -1, n) s) : wpAny (model prog w) A (Builtin.Slice.sliceApplied (.ref sl) (pure (n : Int))) Q E s := by
  obtain ⟨os, hos, hcs, hds⟩ := id hs
  unfold Builtin.Slice.sliceApplied Builtin.Slice.sliceFields
  refine wpAny_bind (wpAny_bind (wpAny_field hos hds (x := .none) rfl (wpAny_bind (wpAny_field hos hds (x := .none) rfl (wpAny_bind (wpAny_field hos hds (x := vs) rfl (wpAny_pure (wpAny_bind (slicePart_ ps ?_)))))))))
  show wpAny _ _ (if ((-1 : Int) == 0) = true then _ else _) _ _ s
  rw [if_neg (by decide)]
  refine wpAny_bind (slicePart_none (wpAny_bind (slicePart_none (wpAny_bind (wpAny_pure ?_)))))
  show wpAny _ _ (match Builtin.Slice.sliceAdjust none none (-1) (n : Int) with | (lo, hi) => pure (lo, (-1 : Int), Builtin.Slice.slicePlaces lo hi (-1))) _ _ s
  rw [g_rev_adjust n]
  show wpAny _ _ (pure ((n : Int) - 1, (-1 : Int), Builtin.Slice.slicePlaces ((n : Int) - 1) (-1) (-1))) _ _ s
  rw [g_rev_places]
  exact wpAny_pure h
theorem g_pick_rev (xs : Array Value) : ((List.range xs.size).filterMap fun (m : Nat) => xs[(((xs.size : Nat) : Int) - 1 + (m : Int) * -1).toNat]?).toArray = xs.toList.reverse.toArray := by
  congr 1
  have key : ∀ k, k ≤ xs.size → (List.range k).filterMap (fun (m : Nat) => xs[(((xs.size : Nat) : Int) - 1 + (m : Int) * -1).toNat]?) = xs.toList.reverse.take k := by
    intro k
    induction k with
    | zero => intro _; rfl
    | succ k ih =>
      intro hk
      rw [List.range_succ, List.filterMap_append, ih (by omega), List.take_add_one]
      congr 1
      have e : (((xs.size : Nat) : Int) - 1 + (k : Int) * -1).toNat = xs.size - 1 - k := by omega
      have hl : k < xs.toList.reverse.length := by rw [List.length_reverse, Array.length_toList]; omega
      rw [List.getElem?_reverse (by rw [Array.length_toList]; omega), Array.length_toList]
      have hx : xs.size - 1 - k < xs.size := by omega
      simp only [List.filterMap_cons, List.filterMap_nil, e]
      rw [Array.getElem?_eq_getElem hx]
      simp [List.getElem?_eq_getElem, hx]
  rw [key _ (Nat.le_refl _), List.take_of_length_le (by rw [List.length_reverse, Array.length_toList]; exact Nat.le_refl _)]
theorem g_tuple_rev {t sl : Addr} {items : Array Value} {vs : Value} {Q : Value → Shared → Prop} (ht : IsTup s.heap t items) (hs : s.heap.IsSliceOf sl .none .none vs) (ps : IsPart vs (some (-1)))
    (h : Q (.ref s.heap.objs.size) { s with heap := s.heap.push { cls := .type "tuple", data := .seq items.toList.reverse.toArray } }) (hsz : items.size ≤ sizeLine) : wpAny (model prog w) A (getItem (.ref t) (.ref sl)) Q E s := by
  have htake : sizeOk (.seq items.toList.reverse.toArray) := by
    show items.toList.reverse.toArray.size ≤ sizeLine
    rw [List.size_toArray, List.length_reverse, Array.length_toList]
    exact hsz
  have hTs : s.TypeIs (.ref sl) "slice" := let ⟨os, hos, hcs, _⟩ := hs; ⟨os, hos, hcs⟩
  unfold getItem
  try with_reducible refine wpAny_holding ?_
  first | refine wpAny_bind (wpAny_pure ?_) | skip
  refine wpAny_bind (wpAny_sequenceKey ht.typeIs (by decide) (wpAny_bind (wpAny_callSpecial?_slot (name := Str.ofString "__getitem__") ht.typeIs PyProof.Rows.slot_tuple_getitem (wpAny_call_entry PyProof.Rows.slot_tuple_getitem ht.typeIs entry_tuple_getitem ?_ (args_tuple_getitem _ _)))))
  show wpAny _ _ (Builtin.Tuple.tupleItemsOf (.ref t) >>= _) _ _ s
  refine wpAny_bind (tupleItemsOf_ ht (wpAny_bind (wpAny_typeOf hTs ?_)))
  rw [if_pos (by decide)]
  refine wpAny_bind (g_applied_rev hs ps ?_)
  show wpAny _ _ (if ((((items.size : Nat) : Int) - 1 == 0) && (-1 : Int) == 1 && items.size == items.size) = true then _ else _) _ _ s
  rw [if_neg (by simp), g_pick_rev]
  first
    | exact wpAny_bind (m := Builtin.Tuple.tupleExact _) (wpAny_newObj_type (wpAny_pure ⟨_, rfl, wpAny_pure h⟩) htake)
    | exact wpAny_bind (m := Builtin.Tuple.tupleExact _) (wpAny_newObj_type (wpAny_bind (wpAny_pure (wpAny_pure ⟨_, rfl, wpAny_pure h⟩))) htake)
    | exact wpAny_bind (wpAny_bind (m := Builtin.Tuple.tupleExact _) (wpAny_newObj_type (wpAny_pure (wpAny_pure ⟨_, rfl, wpAny_pure h⟩)) htake))
    | exact wpAny_bind (wpAny_bind (m := Builtin.Tuple.tupleExact _) (wpAny_newObj_type (wpAny_pure ⟨_, rfl, wpAny_pure h⟩) htake))
end
end HT
namespace G
open PySem PySem.Spec PyProof.Rows L2
section
variable {X : Cx} {W : WX}
def tRevA (K : PySem.W.Frag) (te : TE) : TE := fun σ H Q => te σ H fun x H1 => ∃ a xs, x = .ref a ∧ ((SqL K H1 a xs ∧ ∀ p, H1 p = none → Q (.ref p) (upd H1 p (.lst xs.reverse))) ∨ (SqT K H1 a xs ∧ ∀ p o, o.dict = none → H1 p = none → Q (.ref p) (upd H1 p (nT o xs.reverse))))
theorem pe_revA {e : Expr} {te : TE} {k : Nat} {p1 p2 p3 pos : Pos} (he : PE X e te) : PE X (.Subscript e (.Slice none none (some (.UnaryOp .USub (.Constant (.int 1) k p1) p2)) p3) pos) (tRevA X.K te) := ⟨fun pins s σ H Q I h => by
  refine Subscript_ (thn (he.run pins s σ H _ I h) fun v s1 ⟨x, H1, I1, r1, a, xs, ex, q1⟩ => ?_)
  subst ex
  cases r1
  have hst : PO X (some (.UnaryOp .USub (.Constant (.int 1) k p1) p2)) (tPart (tUn (rU fun i => .int (-i)) (tC (.int 1)))) := po_some (pe_un un_neg pe_int)
  refine wpAny_Slice (thn (po_none.run pins s1 σ H1 (fun o H2 => o = none ∧ H2 = H1) I1 ⟨rfl, rfl⟩) fun vl s2 ⟨l, H2, I2, pl, el, e2⟩ => ?_)
  subst el e2
  refine thn (po_none.run pins s2 σ H2 (fun o H3 => o = none ∧ H3 = H2) I2 ⟨rfl, rfl⟩) fun vu s3 ⟨u, H3, I3, pu, eu, e3⟩ => ?_
  subst eu e3
  refine thn (hst.run pins s3 σ H3 (fun o H4 => o = some (-1) ∧ H4 = H3) I3 ⟨1, rfl, -1, rfl, rfl, rfl⟩) fun vs s4 ⟨o, H4, I4, ps, eo, e4⟩ => ?_
  subst eo e4
  have I5 : L2.Inv X pins σ H4 { s4 with heap := s4.heap.push { cls := .type "slice", data := .fields #[vl, vu, vs] } } := I4.kept (t' := s4.toks) fun b ob q => Heap.get?_push_of_some _ q
  show wpAny (model X.prog X.w) X.A (subscriptTail e (.Slice none none (some (.UnaryOp .USub (.Constant (.int 1) k p1) p2)) p3) (.ref a) (.ref s4.heap.objs.size)) (EP X pins σ Q) X.xe { s4 with heap := s4.heap.push { cls := .type "slice", data := .fields #[vl, vu, vs] } }
  rcases q1 with ⟨hx, q⟩ | ⟨hx, q⟩
  · obtain ⟨its, r, ht, hz⟩ := I5.list hx
    have hlen := r.length
    refine tail_any (ops := [.ref a, .ref s4.heap.objs.size]) ht.isList.typeIs (PySem.slot_list_getitem.lookup) (wpAny_getItem_list_slice ht.isList (Heap.IsSliceOf.new _ vl vu vs) pl pu ps (by decide) ?_ (by rw [List.size_toArray]; omega)) (by with_unfolding_all rfl)
    rw [PySem.W.krv_pick]
    exact ⟨.ref _, _, I5.laid (t' := s4.toks) (o := .lst xs.reverse) (fun b ob q => Heap.get?_push_of_some _ q) (Nat.le_refl _) ⟨by rw [List.length_reverse]; exact hz, _, 0, r.reverse, Heap.get?_push_size _ rfl⟩, rfl, q _ (I5.hok.fresh (Nat.le_refl _))⟩
  · obtain ⟨its, r, ht, hz⟩ := I5.tuple hx
    have hlen := r.length
    cases pl
    cases pu
    refine tail_any (ops := [.ref a, .ref s4.heap.objs.size]) ht.typeIs (PyProof.Rows.slot_tuple_getitem.lookup) (HT.g_tuple_rev ht (Heap.IsSliceOf.new _ .none .none vs) ps ?_ (by rw [List.size_toArray]; omega)) (by with_unfolding_all rfl)
    exact ⟨.ref _, _, I5.laid (t' := s4.toks) (o := nT _ xs.reverse) (fun b ob q => Heap.get?_push_of_some _ q) (Nat.le_refl _) ⟨Heap.get?_push_size _ rfl, by rw [List.length_reverse]; exact hz, _, r.reverse, IsTup.new _ _⟩, rfl, q _ _ rfl (I5.hok.fresh (Nat.le_refl _))⟩⟩
def sRev : Sto → Val → Option Val := fun S v => match seqOf S v with
  | some (true, xs) => some (.tup xs.reverse)
  | some (false, xs) => some (.lst xs.reverse)
  | none => none
theorem ge_rev {e : Expr} {m : ME} {k : Nat} {p1 p2 p3 pos : Pos} (he : GE X W e m) : GE X W (.Subscript e (.Slice none none (some (.UnaryOp .USub (.Constant (.int 1) k p1) p2)) p3) pos) (mO1 sRev m) := by
  refine ge_of (pe_revA he) fun σ H Q h => ?_
  obtain ⟨ρ, F, μ, S, hS, hE, hP⟩ := h
  refine bind_tM hS hE hP.bind fun F1 μ1 S1 v w H1 e1 s1 q1 r1 p1 => ?_
  obtain ⟨r, e, k⟩ := pur_post p1
  unfold sRev at e
  split at e
  · rename_i xs es
    cases e
    obtain ⟨a, vs, rfl, l, q⟩ := seqOf_ok s1 r1 es
    rcases q with ⟨_, q, _⟩ | ⟨z, _⟩
    · refine ⟨a, vs, rfl, .inr ⟨q, fun p o ho hp => ?_⟩⟩
      obtain ⟨k1, k2, k3⟩ := s1.newTup hp ho l.reverse
      exact k _ _ _ k1 k2 k3
    · cases z
  · rename_i xs es
    cases e
    obtain ⟨a, vs, rfl, l, q⟩ := seqOf_ok s1 r1 es
    rcases q with ⟨z, _⟩ | ⟨_, q⟩
    · cases z
    · refine ⟨a, vs, rfl, .inl ⟨q, fun p hp => ?_⟩⟩
      obtain ⟨k1, k2, k3⟩ := s1.newLst hp l.reverse
      exact k _ _ _ k1 k2 k3
  · cases e
def sAbs : Sto → List Val → Option Val := fun _ vs => match vs with
  | [.int i] => some (.int (if i < 0 then -i else i))
  | _ => none
theorem c_abs : GCa X (.builtin "abs") sAbs := by
  intro pins s σ H xs us Q I r h
  obtain ⟨vs, F, μ, S, z, hS, rl, e, k⟩ := h
  unfold sAbs at e
  split at e
  · obtain ⟨w, rfl, rv⟩ := rl.one
    cases rv; cases e
    exact call_abs pins s σ H _ us Q I r ⟨_, rfl, same_k k hS .int⟩
  · cases e
def sInt : Sto → List Val → Option Val := fun _ vs => match vs with
  | [.int i] => some (.int i)
  | [.bl b] => some (.int (if b then 1 else 0))
  | _ => none
theorem c_int : GCa X (.type "int") sInt := by
  intro pins s σ H xs us Q I r h
  obtain ⟨vs, F, μ, S, z, hS, rl, e, k⟩ := h
  unfold sInt at e
  split at e
  · obtain ⟨w, rfl, rv⟩ := rl.one
    cases rv; cases e
    exact call_int1 pins s σ H _ us Q I r (.inl ⟨_, rfl, same_k k hS .int⟩)
  · obtain ⟨w, rfl, rv⟩ := rl.one
    cases rv; cases e
    exact call_int1 pins s σ H _ us Q I r (.inr ⟨_, rfl, same_k k hS .int⟩)
  · cases e
def sMax2 : Sto → List Val → Option Val := fun _ vs => match vs with
  | [.int i, .int j] => some (.int (if j > i then j else i))
  | _ => none
def sMin2 : Sto → List Val → Option Val := fun _ vs => match vs with
  | [.int i, .int j] => some (.int (if j < i then j else i))
  | _ => none
end
end G

set_option Elab.async false
set_option linter.all false
set_option maxRecDepth 100000
set_option maxHeartbeats 4000000
namespace G
open PySem PySem.Spec PyProof.Rows L2
def IsIT (h : Heap) (v : Value) (ns : List Int) : Prop := ∃ a o us n, v = .ref a ∧ h.get? a = some o ∧ o.cls = .type "tuple" ∧ o.data = .seq (List.toArray us) n ∧ IntsAre us ns
theorem IsIT.keeps {h h' : Heap} {v : Value} {ns : List Int} (p : IsIT h v ns) (k : ∀ b o, h.get? b = some o → o.cls = .type "tuple" → h'.get? b = some o) : IsIT h' v ns := by
  obtain ⟨a, o, us, n, e, ho, hc, r⟩ := p
  exact ⟨a, o, us, n, e, k _ _ ho hc, hc, r⟩
section
variable {prog : Program} {w : World} {A : Around} {E : Value → Shared → Prop} {s : Shared}
end
section
variable {X : Cx}
end
end G

set_option Elab.async false
set_option linter.all false
set_option maxRecDepth 100000
set_option maxHeartbeats 4000000
namespace G
open PySem PySem.Spec PyProof.Rows L2
structure DefAt (K : PySem.W.Frag) (mg : Str → Option Value) (x : Str) (st : Stmt) (ps : List Str) (f : Addr) (fd : FuncData) : Prop where
  fn : Fun K x x st f fd
  loc : mg x = some (.ref f)
  bd : Binds K fd ps []
def okF (g : List Val → Sto → Option (Val × Sto)) : Fn := fun ds S => prs (g ds S)
theorem okF_nox (g : List Val → Sto → Option (Val × Sto)) : ∀ ds S x S', okF g ds S ≠ some (.exc x S') := by
  intro ds S x S' h
  unfold okF prs at h
  split at h <;> cases h
def mCal (n : Nat) (f : Fn) (ms : MA) : ME := fun ρ S => bnd (ms ρ S) fun vs S1 => if vs.length = n then f vs S1 else none
theorem pass_at0 {X : Cx} {W : WX} (σ : L2.St) : PassesAt CX0 X σ (atS W σ) := fun _ _ _ _ _ _ h => h.elim
section
variable {X : Cx} {W : WX} {k j : Nat} {f : Addr} {fd : FuncData} {ps : List Str} {F : Fn} {x : Str} {st : Stmt} {p pos : Pos} {e : Expr} {es : List Expr} {ms : MA}
theorem ge_fn {n : Nat} (D : DefAt X.K X.mg x st ps f fd) (Go : FnG X.prog X.w X.K X.mg X.base CX0 k f fd ps (spF X.K X.mg n F)) (hG : X.A.guards = some []) (hr : Room j X.A) (ha : GA X W (e :: es) ms) (hj : k ≤ j := by decide) (hg : Gl X x := by rfl) (hdb : (x == ("__debug__" : Str)) = false := by decide)
    (he : starEach (e :: es) X.env = (false, eval e X.env) :: starEach es X.env := by rfl) (hpl : (backTo pos (starEach es X.env)).any (·.1) = false := by rfl) (hn : ps.length = n := by rfl) : GE X W (.Call (.Name x p) (e :: es) [] pos) (mCal n F ms) := by
  subst hn
  exact ge_call Go hG (hr.mono hj) hg D.loc D.fn.kp D.bd pass_at0 ha hdb he hpl
end
abbrev cLt := iCmp fun i j => decide (i < j)
abbrev cGt := iCmp fun i j => decide (j < i)
abbrev cGe := iCmp fun i j => decide (j ≤ i)
abbrev aSub := iOp fun i j => some (i - j)
abbrev aMul := iOp fMul
abbrev aDiv := iOp fDiv
abbrev aMod := iOp fMod
abbrev aPow := iOp fPow
theorem bt_len : bootBuiltins "len" = some (.builtin "len") := by decide +kernel
theorem bt_repr : bootBuiltins "repr" = some (.builtin "repr") := by decide +kernel
theorem bt_abs : bootBuiltins "abs" = some (.builtin "abs") := by decide +kernel
theorem bt_max : bootBuiltins "max" = some (.builtin "max") := by decide +kernel
theorem bt_min : bootBuiltins "min" = some (.builtin "min") := by decide +kernel
theorem bt_sum : bootBuiltins "sum" = some (.builtin "sum") := by decide +kernel
theorem bt_all : bootBuiltins "all" = some (.builtin "all") := by decide +kernel
theorem bt_isinstance : bootBuiltins "isinstance" = some (.builtin "isinstance") := by decide +kernel
theorem bt_tuple : bootBuiltins "tuple" = some (.type "tuple") := by decide +kernel
theorem bt_list : bootBuiltins "list" = some (.type "list") := by decide +kernel
theorem bt_int : bootBuiltins "int" = some (.type "int") := by decide +kernel
theorem bt_str : bootBuiltins "str" = some (.type "str") := by decide +kernel
theorem bt_bool : bootBuiltins "bool" = some (.type "bool") := by decide +kernel
end G

set_option Elab.async false
set_option linter.all false
set_option maxRecDepth 100000
set_option maxHeartbeats 4000000
namespace G
open PySem PySem.Spec PyProof.Rows L2
section
variable {X : Cx}
theorem alikeInts (xs : List Int) : PySem.W.AlikeAll (xs.map PyData.int) := by
  refine ⟨fun x hx y hy => ?_, fun x hx => ?_⟩
  · obtain ⟨i, _, rfl⟩ := List.mem_map.mp hx
    obtain ⟨j, _, rfl⟩ := List.mem_map.mp hy
    simp [PySem.W.alike]
  · obtain ⟨i, _, rfl⟩ := List.mem_map.mp hx
    simp
theorem depthInts : ∀ xs : List Int, PyData.depthAll (xs.map PyData.int) = 0
  | [] => by simp [PyData.depthAll]
  | x :: xs => by simp [PyData.depthAll, PyData.depth, depthInts xs]
def boolsOf : List Val → Option (List Bool)
  | [] => some []
  | .bl b :: xs => match boolsOf xs with
    | some bs => some (b :: bs)
    | none => none
  | _ => none
theorem boolsOf_map : ∀ bs : List Bool, boolsOf (bs.map Val.bl) = some bs
  | [] => rfl
  | b :: bs => by simp [boolsOf, boolsOf_map bs]
theorem bools_rep {K : PySem.W.Frag} {F : Hp} {μ : List Addr} : ∀ {xs : List Val} {bs : List Bool} {vs : List V}, RepL K F μ xs vs → boolsOf xs = some bs → vs = bs.map V.bl
  | _, _, _, .nil, e => by cases e; rfl
  | _, _, _, .cons r t, e => by
    cases r with
    | bl =>
      unfold boolsOf at e
      split at e
      · rename_i q
        cases e
        rw [bools_rep t q]
        rfl
      · cases e
    | _ => cases e
def lstOnly (S : Sto) (v : Val) : Option (List Val) := match seqOf S v with
  | some (false, xs) => some xs
  | _ => none
theorem lstOnly_ok {K : PySem.W.Frag} {mg : Str → Option Value} {F H : Hp} {μ : List Addr} {S : Sto} {v : Val} {w : V} {xs : List Val} (h : RepS K mg F H μ S) (r : RepV K F μ v w) (e : lstOnly S v = some xs) : ∃ a vs, w = .ref a ∧ RepL K F μ xs vs ∧ SqL K H a vs := by
  unfold lstOnly at e
  split at e
  · rename_i es
    cases e
    obtain ⟨a, ws, rfl, l, q⟩ := seqOf_ok h r es
    rcases q with ⟨q, _⟩ | ⟨_, q⟩
    · cases q
    · exact ⟨a, ws, rfl, l, q⟩
  · cases e
def sSum : Sto → List Val → Option Val := fun S vs => match vs with
  | [v] => match lstOnly S v with
    | some xs => match intsOf xs with
      | some ns => some (.int ns.sum)
      | none => none
    | none => none
  | _ => none
theorem c_sum (hc : X.calm = true) : GCa X (.builtin "sum") sSum := by
  intro pins s σ H xs us Q I r h
  obtain ⟨vs, F, μ, S, z, hS, rl, e, k⟩ := h
  unfold sSum at e
  split at e
  · obtain ⟨w, rfl, rv⟩ := rl.one
    split at e
    · rename_i ys es
      split at e
      · rename_i ns en
        cases e
        obtain ⟨a, ws, rfl, l, q⟩ := lstOnly_ok hS rv es
        rw [intsOf_eq en] at l
        have hw := l.ints
        subst hw
        exact cr_sum hc pins s σ H _ us Q I r ⟨a, ns, rfl, q, same_k k hS .int⟩
      · cases e
    · cases e
  · cases e
def sAll : Sto → List Val → Option Val := fun S vs => match vs with
  | [v] => match lstOnly S v with
    | some xs => match boolsOf xs with
      | some bs => some (.bl (bs.all id))
      | none => none
    | none => none
  | _ => none
theorem c_all (hc : X.calm = true) : GCa X (.builtin "all") sAll := by
  intro pins s σ H xs us Q I r h
  obtain ⟨vs, F, μ, S, z, hS, rl, e, k⟩ := h
  unfold sAll at e
  split at e
  · obtain ⟨w, rfl, rv⟩ := rl.one
    split at e
    · rename_i ys es
      split at e
      · rename_i ns en
        cases e
        obtain ⟨a, ws, rfl, l, q⟩ := lstOnly_ok hS rv es
        have hw := bools_rep l en
        subst hw
        exact cr_all hc pins s σ H _ us Q I r ⟨a, ns, rfl, q, same_k k hS .bl⟩
      · cases e
    · cases e
  · cases e
def kindS (S : Sto) : Val → Option String
  | .non => some "NoneType"
  | .bl _ => some "bool"
  | .int _ => some "int"
  | .str _ => some "str"
  | .tup _ => some "tuple"
  | .lst _ => some "list"
  | .dct _ => some "dict"
  | .cell k => match S[k]? with
    | some (.lst _) => some "list"
    | _ => none
  | _ => none
def isiB (k c : String) : Bool := k == c || (k == "bool" && c == "int")
def kinds : List String := ["NoneType", "bool", "int", "str", "tuple", "list", "dict"]
def clss : List String := ["bool", "int", "str", "tuple", "list", "dict"]
def kitC (t c : String) : Option Bool := if (Value.type t == Value.type c) = true then some true else if PySem.W.kitMeta c = true then (fastBuiltinMro t).map (·.contains (.type c)) else none
theorem kitC_tab : ∀ t ∈ kinds, ∀ c ∈ clss, kitC t c = some (isiB t c) := by decide +kernel
theorem kitC_eq (K : PySem.W.Frag) (t c : String) : PySem.W.kitOne K (.type t) (.type c) = kitC t c := rfl
theorem kindS_ok {K : PySem.W.Frag} {mg : Str → Option Value} {F H : Hp} {μ : List Addr} {S : Sto} {v : Val} {w : V} {t : String} (h : RepS K mg F H μ S) (r : RepV K F μ v w) (e : kindS S v = some t) : t ∈ kinds ∧ TyX K H w (.type t) := by
  cases v with
  | non => cases e; cases r; exact ⟨by decide, .base .non⟩
  | bl b => cases e; cases r; exact ⟨by decide, .base (.bl _)⟩
  | int i => cases e; cases r; exact ⟨by decide, .base (.int _)⟩
  | str z => cases e; cases r; exact ⟨by decide, .base (.str _)⟩
  | tup xs =>
    cases e
    obtain ⟨a, vs, rfl, l, q⟩ := seqOf_ok (b := true) h r rfl
    refine ⟨by decide, ?_⟩
    rcases q with ⟨_, q, _⟩ | ⟨q, _⟩
    · rcases q with (q | ⟨o, q⟩) | ⟨o, its, n, q1, q2, _⟩
      · exact .base (.tup q)
      · exact .fTuple q
      · exact .kTuple q1 q2
    · cases q
  | lst xs =>
    cases e
    obtain ⟨a, vs, rfl, q, l⟩ := lstOf_ok h r rfl
    exact ⟨by decide, .base (.lst q)⟩
  | dct kvs =>
    cases e
    cases r with
    | dct q l => exact ⟨by decide, .base (.dK (h.sub _ _ q))⟩
  | cell k =>
    unfold kindS at e
    simp only at e
    split at e
    · rename_i xs q
      cases e
      obtain ⟨a, vs, rfl, q, l⟩ := lstOf_ok (xs := xs) h r (by simp [lstOf, q])
      exact ⟨by decide, .base (.lst q)⟩
    · cases e
  | _ => cases e
def clsOf : Val → Option String
  | .con (.ty c) => if c ∈ clss then some c else none
  | _ => none
def sIsi : Sto → List Val → Option Val := fun S vs => match vs with
  | [v, c] => match kindS S v, clsOf c with
    | some t, some c => some (.bl (isiB t c))
    | _, _ => none
  | _ => none
theorem c_isi : GCa X (.builtin "isinstance") sIsi := by
  intro pins s σ H xs us Q I r h
  obtain ⟨vs, F, μ, S, z, hS, rl, e, k⟩ := h
  unfold sIsi at e
  split at e
  · rename_i v cv
    obtain ⟨w1, w2, rfl, r1, r2⟩ := rl.two
    split at e
    · rename_i t c ek ec
      cases e
      obtain ⟨h1, h2⟩ := kindS_ok hS r1 ek
      unfold clsOf at ec
      split at ec
      · obtain ⟨hc, ec⟩ := ite_some ec
        subst ec
        cases r2
        exact call_isi pins s σ H _ us Q I r ⟨w1, .ty c, .type t, .type c, isiB t c, rfl, .ty c, h2, by rw [kitC_eq]; exact kitC_tab t h1 c hc, same_k k hS .bl⟩
      · cases ec
    · cases e
  · cases e
def sMul : Sto → Val → Val → Option Val := fun S x y => match x, y with
  | .int i, .int j => (fMul i j).map Val.int
  | .str a, .int n => if 0 ≤ n ∧ n ≤ 1000000 ∧ a.length * n.toNat ≤ sizeLine then some (.str (Txt.mul a n)) else none
  | .lst xs, .int n => if 0 ≤ n ∧ n ≤ 1000000 ∧ xs.length * n.toNat ≤ sizeLine then some (.lst (List.replicate n.toNat xs).flatten) else none
  | _, _ => none
theorem mulOk_of {a : Str} {n : Int} (h0 : 0 ≤ n) (h1 : n ≤ 1000000) (h2 : a.length * n.toNat ≤ sizeLine) : MulOk a n := by
  have hsl := sizeLine_eq
  refine ⟨by simp; omega, fun h3 h4 h5 => ?_, fun h3 h4 => ?_⟩
  · have h6 : (a.length : Int) * n ≤ sizeLine := by
      have : ((a.length * n.toNat : Nat) : Int) ≤ (sizeLine : Nat) := by omega
      rw [Int.natCast_mul] at this
      rwa [show ((n.toNat : Nat) : Int) = n by omega] at this
    have h7 : (2 ^ 63 - 1) / n + 1 ≤ a.length := by omega
    have h8 : (2 ^ 63 - 1 : Int) < ((2 ^ 63 - 1) / n + 1) * n := Int.lt_ediv_add_one_mul_self _ (by omega)
    have h9 : ((2 ^ 63 - 1) / n + 1) * n ≤ (a.length : Int) * n := Int.mul_le_mul_of_nonneg_right h7 (by omega)
    omega
  · unfold Builtin.Str.tooLong
    simp
    omega
theorem RepL.rep {K : PySem.W.Frag} {F : Hp} {μ : List Addr} {xs : List Val} {vs : List V} (l : RepL K F μ xs vs) : ∀ n : Nat, RepL K F μ (List.replicate n xs).flatten (List.replicate n vs).flatten
  | 0 => .nil
  | n + 1 => by
    rw [List.replicate_succ, List.replicate_succ, List.flatten_cons, List.flatten_cons]
    exact l.append (l.rep n)
theorem o_mul : GO2 X (binaryOp .Mult) sMul := by
  intro pins s σ H x y v u Q I rx ry h
  obtain ⟨vx, vy, F, μ, S, r, hS, r1, r2, e, k⟩ := h
  unfold sMul at e
  split at e
  · exact o_mulI pins s σ H x y v u Q I rx ry ⟨_, _, F, μ, S, r, hS, r1, r2, e, k⟩
  · obtain ⟨⟨h0, h1, h2⟩, e⟩ := ite_some e
    subst e
    cases r1
    cases r2
    obtain ⟨t, rfl⟩ := rx
    obtain ⟨t', rfl⟩ := ry
    exact SB.mul (mulOk_of h0 h1 h2) fun t' tk => ⟨.str _, H, I.tok tk, ⟨_, rfl⟩, same_k k hS .str⟩
  · obtain ⟨⟨h0, h1, h2⟩, e⟩ := ite_some e
    subst e
    cases r2
    obtain ⟨a, vs, rfl, q, l⟩ := lstOf_ok hS r1 rfl
    refine op_rep pins s σ H _ _ v u Q I rx ry ⟨a, _, vs, rfl, rfl, q, by omega, by omega, by rw [← l.length]; exact h2, fun p hp => ?_⟩
    obtain ⟨k1, k2, k3⟩ := hS.newLst hp (l.rep _)
    exact k _ _ _ k1 k2 k3
  · cases e
def kMx (f : Sto → Val → List Val → Option (Val × Sto)) (o : Val) (vs : List Val) (S : Sto) : Res Val := prs (f S o vs)
def kMs (f : Sto → Val → List Val → Option (Val × Sto)) (ms : MA) (ρ : Ev) (o : Val) (S : Sto) : Res Val := match o with
  | .str _ => bnd (ms ρ S) (kMx f o)
  | _ => none
def mMs (f : Sto → Val → List Val → Option (Val × Sto)) (mo : ME) (ms : MA) : ME := fun ρ S => bnd (mo ρ S) (kMs f ms ρ)
theorem ge_ms {W : WX} {o e : Expr} {es : List Expr} {mo : ME} {ms : MA} {name : Str} {apos cpos : Pos} {id : String} {f : Sto → Val → List Val → Option (Val × Sto)} (slot : Slot "str" name id) (hty : typeOf (.builtin id) = pure (.type "method_descriptor")) (hm : MtR X id (rSM X.K X.mg f)) (ho : GE X W o mo) (ha : GA X W (e :: es) ms)
    (hbase : attributeBase o name X.env (eval o X.env) = eval o X.env := by rfl)
    (hfew : ((backTo cpos (starEach (e :: es) X.env)).all (fun x => !x.1) && (backToKw cpos (keywordEach [] X.env)).all (fun x => x.1.isSome)
      && decide ((e :: es).length + ([] : List Keyword).length + (if ([] : List Keyword).isEmpty then 0 else 1) < 30)) = true := by rfl)
    (hline : (apos.endLine == cpos.line) = true := by rfl) (hs : starEach (e :: es) X.env = (false, eval e X.env) :: starEach es X.env := by rfl) (hplain : (backTo cpos (starEach es X.env)).any (·.1) = false := by rfl) :
    GE X W (.Call (.Attribute o name apos) (e :: es) [] cpos) (mMs f mo ms) := by
  refine ge_of (pe_bm PySem.F.plainAttrs_str slot hty hm ho ha hbase hfew hline hs hplain) fun σ H Q h => ?_
  obtain ⟨ρ, F, μ, S, hS, hE, hP⟩ := h
  refine bind_tM hS hE hP.bind fun F1 μ1 S1 v w H1 e1 s1 q1 r1 p1 => ?_
  unfold kMs at p1
  split at p1
  · cases r1
    refine ⟨rfl, bind_tMA s1 q1 p1.bind fun F2 μ2 S2 v2 w2 H2 e2 s2 q2 r2 p2 => ?_⟩
    obtain ⟨r, S', e, k⟩ := prs_post p2
    exact ⟨_, v2, F2, μ2, S2, r, S', s2, .str, r2, e, k⟩
  · exact p1.elim
def sCountS : Sto → Val → List Val → Option (Val × Sto) := fun S o vs => match o, vs with
  | .str a, [.str b] => some (.int (Txt.count a b), S)
  | _, _ => none
theorem m_countS : MtR X "str.count" (rSM X.K X.mg sCountS) := by
  intro pins s σ H x xs v us Q I rx rxs h
  obtain ⟨vx, vs, F, μ, S, r, S', hS, r1, rl, e, k⟩ := h
  unfold sCountS at e
  split at e
  · cases e
    cases r1
    obtain ⟨w, rfl, rv⟩ := rl.one
    cases rv
    exact mt_count pins s σ H _ _ v us Q I rx rxs ⟨_, _, rfl, rfl, k F μ H _ (Xt.refl _ _ _) hS .int⟩
  · cases e
def sCountI : Sto → Val → List Val → Option (Val × Sto) := fun S o vs => match lstOnly S o, vs with
  | some xs, [.int k] => match intsOf xs with
    | some ns => some (.int (ns.count k : Nat), S)
    | none => none
  | _, _ => none
end
end G

set_option Elab.async false
set_option linter.all false
set_option maxRecDepth 100000
set_option maxHeartbeats 4000000
namespace G
open PySem PySem.Spec PyProof.Rows L2
def putD (kvs : List (Key × Val)) (k : Key) (v : Val) : List (Key × Val) := if (kvs.any fun kv => decide (kv.1 = k)) = true then kvs.map fun kv => if kv.1 = k then (kv.1, v) else kv else kvs ++ [(k, v)]
def mergeD (kvs more : List (Key × Val)) : List (Key × Val) := more.foldl (fun acc kv => putD acc kv.1 kv.2) kvs
section
variable {K : PySem.W.Frag} {mg : Str → Option Value} {F H : Hp} {μ : List Addr} {S : Sto}
theorem RepD.len : ∀ {kvs : List (Key × Val)} {kws : List (Key × V)}, RepD K F μ kvs kws → kvs.length = kws.length
  | _, _, .nil => rfl
  | _, _, .cons r t => by simp [t.len]
theorem RepD.anyK : ∀ {kvs : List (Key × Val)} {kws : List (Key × V)}, RepD K F μ kvs kws → ∀ k : Key, (kvs.any fun kv => decide (kv.1 = k)) = (kws.any fun kv => decide (kv.1 = k))
  | _, _, .nil, k => rfl
  | _, _, .cons r t, k => by rw [List.any_cons, List.any_cons, t.anyK k]
theorem RepD.snoc {k : Key} {v : Val} {w : V} (r : RepV K F μ v w) : ∀ {kvs : List (Key × Val)} {kws : List (Key × V)}, RepD K F μ kvs kws → RepD K F μ (kvs ++ [(k, v)]) (kws ++ [(k, w)])
  | _, _, .nil => .cons r .nil
  | _, _, .cons q t => .cons q (t.snoc r)
theorem RepD.repl {k : Key} {v : Val} {w : V} (r : RepV K F μ v w) : ∀ {kvs : List (Key × Val)} {kws : List (Key × V)}, RepD K F μ kvs kws → RepD K F μ (kvs.map fun kv => if kv.1 = k then (kv.1, v) else kv) (kws.map fun kv => if kv.1 = k then (kv.1, w) else kv)
  | _, _, .nil => .nil
  | _, _, .cons (k := k0) q t => by
    rw [List.map_cons, List.map_cons]
    by_cases h : k0 = k
    · simp only [h, if_true]; exact .cons r (t.repl r)
    · simp only [h, if_false]; exact .cons q (t.repl r)
theorem RepD.put {kvs : List (Key × Val)} {kws : List (Key × V)} (t : RepD K F μ kvs kws) (k : Key) {v : Val} {w : V} (r : RepV K F μ v w) : RepD K F μ (putD kvs k v) (putK kws k w) := by
  unfold putD putK
  rw [t.anyK k]
  split
  · exact t.repl r
  · exact t.snoc r
theorem RepD.merge : ∀ {more : List (Key × Val)} {mw : List (Key × V)}, RepD K F μ more mw → ∀ {kvs : List (Key × Val)} {kws : List (Key × V)}, RepD K F μ kvs kws → RepD K F μ (mergeD kvs more) (mergeK kws mw)
  | _, _, .nil, _, _, t => t
  | _, _, .cons r q, _, _, t => q.merge (t.put _ r)
theorem RepD.zip : ∀ {ks : List Key} {vs : List Val} {ws : List V}, RepL K F μ vs ws → RepD K F μ (ks.zip vs) (ks.zip ws)
  | [], _, _, _ => by simp; exact .nil
  | k :: ks, _, _, .nil => by simp; exact .nil
  | k :: ks, _, _, .cons r t => .cons r (RepD.zip t)
end
section
variable {X : Cx} {W : WX} {pos : Pos}
def GPs (X : Cx) (W : WX) (pos : Pos) (keys : List (Option Expr)) (values : List Expr) (ks : List Key) (ms : MA) : Prop :=
  ∃ trs, PPs X pos keys values trs ∧ keys.length = ks.length ∧ values.length = ks.length ∧ keys.all (·.isSome) = true ∧ ∀ σ H Q, tMA X.K X.mg W ms σ H (fun vs H' => ∀ kvs : List (Key × V), kvs = ks.zip vs → vs.length = ks.length → Q (kvs.map fun kv => (kV kv.1, kv.2)) H') → tPairs trs σ H Q
theorem gps_nil : GPs X W pos [] [] [] mNil := ⟨[], pps_nil, rfl, rfl, rfl, fun σ H Q h => by
  obtain ⟨ρ, F, μ, S, hS, hE, hP⟩ := h
  exact hP F μ H (Xt.refl _ _ _) hS [] .nil [] rfl rfl⟩
theorem gps_str {x : Str} {j : Nat} {p : Pos} {v : Expr} {keys : List (Option Expr)} {values : List Expr} {ks : List Key} {m : ME} {ms : MA} (hv : GE X W v m) (hr : GPs X W pos keys values ks ms) : GPs X W pos (some (.Constant (.str x) j p) :: keys) (v :: values) (.inr x :: ks) (mCons m ms) := by
  obtain ⟨trs, h1, h2, h3, h4, h5⟩ := hr
  refine ⟨_, pps_cons pe_str hv h1, by simp [h2], by simp [h3], by simpa using h4, fun σ H Q h => ?_⟩
  obtain ⟨ρ, F, μ, S, hS, hE, hP⟩ := h
  show tM X.K X.mg W m σ H _
  refine bind_tM hS hE hP.bind fun F1 μ1 S1 v w H1 e1 s1 q1 r1 p1 => ?_
  refine h5 σ H1 _ ?_
  refine bind_tMA s1 q1 p1.bind fun F2 μ2 S2 v2 w2 H2 e2 s2 q2 r2 p2 => ?_
  intro kvs hk hl
  subst hk
  exact p2 F2 μ2 H2 (Xt.refl _ _ _) s2 _ (.cons (r1.mono e2.toExt) r2) _ rfl (by simp [hl])
def kDisp (ks : List Key) (vs : List Val) (S : Sto) : Res Val := if ks.length ≤ 15 then some (.ok (.dct (mergeD [] (ks.zip vs))) S) else none
def mDisp (ks : List Key) (ms : MA) : ME := fun ρ S => bnd (ms ρ S) (kDisp ks)
theorem RepS.newDct {K : PySem.W.Frag} {mg : Str → Option Value} {F H : Hp} {μ : List Addr} {S : Sto} {p : Addr} {xs : List (Key × Val)} {ws : List (Key × V)} (h : RepS K mg F H μ S) (hp : H p = none) (r : RepD K F μ xs ws) :
    Xt F H μ (upd F p (.dK ws)) (upd H p (.dK ws)) μ ∧ RepS K mg (upd F p (.dK ws)) (upd H p (.dK ws)) μ S ∧ RepV K (upd F p (.dK ws)) μ (.dct xs) (.ref p) :=
  ⟨Xt.new (h.nF hp) hp, h.alloc _ hp, .dct upd_same (r.mono (ext_upd F μ (h.nF hp)))⟩
theorem ge_dnew : GE X W (.Dict [] [] pos) (mC (.dct [])) := by
  refine ge_of pe_dnewK fun σ H Q h => ?_
  obtain ⟨ρ, F, μ, S, hS, hE, hP⟩ := h
  intro p hp
  obtain ⟨k1, k2, k3⟩ := hS.newDct (xs := []) hp .nil
  exact hP _ _ _ k1 k2 _ k3
theorem empty_step {K : PySem.W.Frag} {mg : Str → Option Value} {F H : Hp} {μ : List Addr} {S : Sto} {p : Addr} {o : HO} (h : RepS K mg F H μ S) (hp : H p = none) : RepS K mg F (upd H p o) μ S ∧ p ∉ μ ∧ F p = none := by
  have hn : p ∉ μ := fun z => by
    obtain ⟨o, q⟩ := h.there p z
    rw [hp] at q
    cases q
  refine ⟨⟨fun a u q => ?_, h.len, h.nd, h.off, fun a ha => ?_, fun k a c q e => ?_⟩, hn, h.nF hp⟩
  · have := h.sub a u q
    rw [upd_ne (ne_of_none this hp)]
    exact this
  · obtain ⟨o, q⟩ := h.there a ha
    exact ⟨o, by rw [upd_ne (ne_of_none q hp)]; exact q⟩
  · have ok := h.cells k a c q e
    cases c with
    | dead => trivial
    | lst xs => obtain ⟨vs, q1, q2⟩ := ok; exact ⟨vs, by rw [upd_ne (ne_of_none q1 hp)]; exact q1, q2⟩
    | dct xs => obtain ⟨vs, q1, q2⟩ := ok; exact ⟨vs, by rw [upd_ne (ne_of_none q1 hp)]; exact q1, q2⟩
    | ins c fs => obtain ⟨C, dx, gs, q1, q2, q3⟩ := ok; exact ⟨C, dx, gs, q1, by rw [upd_ne (ne_of_none q2 hp)]; exact q2, q3⟩
theorem Xt.skip {F H F' H' : Hp} {μ μ' : List Addr} {p : Addr} {o : HO} (x : Xt F (upd H p o) μ F' H' μ') (hp : H p = none) : Xt F H μ F' H' μ' :=
  ⟨x.toExt, fun a u h n => x.keep a u (by rw [upd_ne (ne_of_none h hp)]; exact h) n⟩
theorem RepS.fill {K : PySem.W.Frag} {mg : Str → Option Value} {F H : Hp} {μ : List Addr} {S : Sto} {p : Addr} {o : HO} (h : RepS K mg F H μ S) (hF : F p = none) (hm : p ∉ μ) : RepS K mg (upd F p o) (upd H p o) μ S := by
  have ex := ext_upd (o := o) F μ hF
  refine ⟨fun a u q => ?_, h.len, h.nd, fun a ha => ?_, fun a ha => ?_, fun k a c q e => ?_⟩
  · by_cases e : a = p
    · subst e; rw [upd_same] at q ⊢; exact q
    · rw [upd_ne e] at q ⊢; exact h.sub a u q
  · rw [upd_ne (ne_mem ha hm)]; exact h.off a ha
  · rw [upd_ne (ne_mem ha hm)]; exact h.there a ha
  · have ha : a ≠ p := fun e => hm (e ▸ List.mem_of_getElem? q)
    have ok := h.cells k a c q e
    cases c with
    | dead => trivial
    | lst xs => obtain ⟨vs, q1, q2⟩ := ok; exact ⟨vs, by rw [upd_ne ha]; exact q1, q2.mono ex⟩
    | dct xs => obtain ⟨vs, q1, q2⟩ := ok; exact ⟨vs, by rw [upd_ne ha]; exact q1, q2.mono ex⟩
    | ins c fs => obtain ⟨C, dx, gs, q1, q2, q3, q4⟩ := ok; exact ⟨C, dx, gs, q1, by rw [upd_ne ha]; exact q2, q3, q4.mono ex⟩
theorem ge_disp {keys : List (Option Expr)} {values : List Expr} {ks : List Key} {ms : MA} (h : GPs X W pos keys values ks ms) (h0 : keys ≠ [] := by simp) (h15 : keys.length ≤ 15 := by decide) : GE X W (.Dict keys values pos) (mDisp ks ms) := by
  obtain ⟨trs, h1, h2, h3, h4, h5⟩ := h
  refine ge_of (pe_disp h1 h4 (by omega) h0 h15) fun σ H Q h => ?_
  obtain ⟨ρ, F, μ, S, hS, hE, hP⟩ := h
  intro p hp
  obtain ⟨k1, k2, k3⟩ := empty_step (o := .dK []) hS hp
  refine h5 σ _ _ ⟨ρ, F, μ, S, k1, hE, ?_⟩
  unfold mDisp at hP
  revert hP
  cases e : ms ρ S with
  | none => intro hP; exact hP.elim
  | some o =>
    cases o with
    | exc x S' => intro hP F' μ' H' c d x1 s1 ok; exact hP F' μ' H' c d (x1.skip hp) s1 ok
    | ok vs S1 =>
      intro hP F1 μ1 H1 x1 s1 ws r1 kvs hk hl
      subst hk
      obtain ⟨j1, j2, j3⟩ := x1.keep p (.dK []) upd_same k2
      have hP' : Post X.K X.mg (atS W σ) F H μ (kDisp ks vs S1) (RV X.K Q) := hP
      unfold kDisp at hP'
      rw [if_pos (by omega)] at hP'
      have rd : RepD X.K F1 μ1 (mergeD [] (ks.zip vs)) (mergeK [] (ks.zip ws)) := (RepD.zip r1).merge .nil
      have hF1 := j3 k3
      refine ⟨j1, _, rfl, by rw [List.length_zip]; omega, ?_⟩
      have ex := ext_upd (o := HO.dK (mergeK [] (ks.zip ws))) F1 μ1 hF1
      refine hP' (upd F1 p (.dK (mergeK [] (ks.zip ws)))) μ1 _ ?_ (s1.fill hF1 j2) _ (.dct upd_same (rd.mono ex))
      refine ⟨x1.toExt.trans ex, fun a u q n => ?_⟩
      have hap := ne_of_none q hp
      obtain ⟨i1, i2, i3⟩ := (x1.skip hp).keep a u q n
      exact ⟨by rw [upd_ne hap]; exact i1, i2, fun z => by rw [upd_ne hap]; exact i3 z⟩
variable {o i : Expr} {mo mi : ME}
end
end G

set_option Elab.async false
set_option linter.all false
set_option maxRecDepth 100000
set_option maxHeartbeats 4000000
namespace G
open PySem PySem.Spec PyProof.Rows L2
section
variable {X : Cx}
theorem signs_vals {x : Str} {acc : Array Value} (h : ItemsOf (SignAt x) acc x.cps.size) : Vals (x.cps.toList.map fun c => V.str ⟨#[c]⟩) acc.toList := by
  obtain ⟨h1, h2⟩ := h
  have key : ∀ (cs : List Nat) (vs : List Value), cs.length = vs.length → (∀ (j : Nat) (v : Value), vs[j]? = some v → ∃ c u, cs[j]? = some c ∧ v = .str ⟨#[c]⟩ u) → Vals (cs.map fun c => V.str ⟨#[c]⟩) vs := by
    intro cs
    induction cs with
    | nil =>
      intro vs hl _
      cases vs with
      | nil => exact .nil
      | cons v vs => simp at hl
    | cons c cs ih =>
      intro vs hl hj
      cases vs with
      | nil => simp at hl
      | cons v vs =>
        obtain ⟨c', u, e1, e2⟩ := hj 0 v rfl
        simp at e1
        subst e1
        exact .cons ⟨u, e2⟩ (ih vs (by simpa using hl) fun j v' hv => by simpa using hj (j + 1) v' (by simpa using hv))
  refine key _ _ (by simp [h1]) fun j v hv => ?_
  obtain ⟨c, u, e1, e2⟩ := h2 j v (by simpa using hv)
  exact ⟨c, u, by simpa using e1, e2⟩
theorem signs_rep {K : PySem.W.Frag} {F : Hp} {μ : List Addr} (x : Str) : RepL K F μ (signs x) (x.cps.toList.map fun c => V.str ⟨#[c]⟩) := by
  unfold signs
  generalize x.cps.toList = cs
  induction cs with
  | nil => exact .nil
  | cons c cs ih => exact .cons .str ih
def sListX : Sto → List Val → Option (List Val) := fun S vs => match vs with
  | [.str z] => if z.length ≤ sizeLine then some (signs z) else none
  | vs => sList S vs
theorem c_listX (hc : X.calm = true) : GNL X (.type "list") sListX := by
  intro pins s σ H xs us Q I r h
  obtain ⟨vs, F, μ, S, ys, hS, rl, e, k⟩ := h
  unfold sListX at e
  split at e
  · rename_i z
    obtain ⟨hz, e⟩ := ite_some e
    subst e
    obtain ⟨w, rfl, rv⟩ := rl.one
    cases rv
    obtain ⟨u, rfl, ru⟩ := vals1 r
    obtain ⟨t, rfl⟩ := ru
    refine call_list_str (I.ok.hd hc) z t (fun h' tk acc' c' hk hS' hacc => ?_) hz
    have hv := signs_vals hacc
    have hn : acc'.size ≤ sizeLine := by rw [hacc.1]; exact hz
    exact ⟨.ref _, _, I.laid (t' := tk) (a := s.heap.objs.size) (o := .lst (z.cps.toList.map fun c => V.str ⟨#[c]⟩)) hk (Nat.le_refl _) ⟨by rw [List.length_map, Array.length_toList]; exact hz, acc'.toList, c', hv, by simpa using hS'⟩, rfl, k _ _ (I.hok.fresh (Nat.le_refl _)) (signs_rep z)⟩
  · exact c_list pins s σ H xs us Q I r ⟨_, F, μ, S, ys, hS, rl, e, k⟩
end
end G
namespace G
open PySem PySem.Spec PyProof.Rows L2
section
variable {X : Cx} {W : WX}
def sTupleX : Sto → List Val → Option Val := fun S vs => match vs with
  | [.str z] => if z.length ≤ sizeLine then some (.tup (signs z)) else none
  | vs => sTuple S vs
theorem c_tupleX (hc : X.calm = true) : GCa X (.type "tuple") sTupleX := by
  intro pins s σ H xs us Q I r h
  obtain ⟨vs, F, μ, S, z0, hS, rl, e, k⟩ := h
  unfold sTupleX at e
  split at e
  · rename_i z
    obtain ⟨hz, e⟩ := ite_some e
    subst e
    obtain ⟨w, rfl, rv⟩ := rl.one
    cases rv
    obtain ⟨u, rfl, ru⟩ := vals1 r
    obtain ⟨t, rfl⟩ := ru
    refine call_tuple_str (I.ok.hd hc) z t (fun h' tk acc hk hacc => ?_) hz
    have hv := signs_vals hacc
    have I1 : L2.Inv X pins σ H { s with heap := h', toks := tk } := I.kept (t' := tk) hk
    have I2 : L2.Inv X pins σ (upd H h'.objs.size (nT { cls := .type "tuple", data := .seq acc } (z.cps.toList.map fun c => V.str ⟨#[c]⟩))) { s with heap := h'.push { cls := .type "tuple", data := .seq acc }, toks := tk } :=
      I1.laid (t' := tk) (fun b o e => Heap.get?_push_of_some _ e) (Nat.le_refl _) (show ObjOk X.prog X.w _ _ _ (nT _ _) from ⟨Heap.get?_push_size _ rfl, by rw [List.length_map, Array.length_toList]; exact hz, acc.toList, hv, by simpa using IsTup.new h' acc⟩)
    have hp := I1.hok.fresh (Nat.le_refl h'.objs.size)
    obtain ⟨k1, k2, k3⟩ := hS.newTup (p := h'.objs.size) (o := { cls := .type "tuple", data := .seq acc }) hp rfl (signs_rep z)
    exact ⟨.ref h'.objs.size, _, I2, rfl, k _ _ _ k1 k2 k3⟩
  · exact c_tuple pins s σ H xs us Q I r ⟨_, F, μ, S, z0, hS, rl, e, k⟩
def revS (z : Str) : Str := ⟨z.cps.toList.reverse.toArray⟩
theorem sliceBy_rev (z : Str) (u : Tok) : Txt.sliceBy z none none (-1, u) = revS z := by
  have h := step_rev_list z u
  have e : (Txt.sliceBy z none none (-1, u)).cps.toList = z.cps.toList.reverse := by
    rw [h]
    apply List.ext_getElem
    · simp [Str.length]
    · intro i h1 h2
      simp only [List.getElem_map, List.getElem_range, List.getElem_reverse, Array.length_toList, Array.getElem_toList]
      simp only [List.length_reverse, Array.length_toList] at h2
      rw [Array.getD_eq_getD_getElem?, Array.getElem?_eq_getElem (show z.length - 1 - i < z.cps.size by simp only [Str.length]; omega)]
      rfl
  obtain ⟨a⟩ := z
  generalize Txt.sliceBy _ none none (-1, u) = y at e ⊢
  obtain ⟨b⟩ := y
  unfold revS
  congr 1
  rw [← e]
def tRevS (te : TE) : TE := fun σ H Q => te σ H fun x H1 => ∃ z, x = .str z ∧ z.length ≤ sizeLine ∧ Q (.str (revS z)) H1
theorem pe_revS {e : Expr} {te : TE} {k : Nat} {p1 p2 p3 pos : Pos} (he : PE X e te) : PE X (.Subscript e (.Slice none none (some (.UnaryOp .USub (.Constant (.int 1) k p1) p2)) p3) pos) (tRevS te) := ⟨fun pins s σ H Q I h => by
  refine Subscript_ (thn (he.run pins s σ H _ I h) fun v s1 ⟨x, H1, I1, r1, z, ex, hz, q1⟩ => ?_)
  subst ex
  obtain ⟨t, rfl⟩ := r1
  have hst : PO X (some (.UnaryOp .USub (.Constant (.int 1) k p1) p2)) (tPart (tUn (rU fun i => .int (-i)) (tC (.int 1)))) := po_some (pe_un un_neg pe_int)
  refine wpAny_Slice (thn (po_none.run pins s1 σ H1 (fun o H2 => o = none ∧ H2 = H1) I1 ⟨rfl, rfl⟩) fun vl s2 ⟨l, H2, I2, pl, el, e2⟩ => ?_)
  subst el e2
  refine thn (po_none.run pins s2 σ H2 (fun o H3 => o = none ∧ H3 = H2) I2 ⟨rfl, rfl⟩) fun vu s3 ⟨u, H3, I3, pu, eu, e3⟩ => ?_
  subst eu e3
  refine thn (hst.run pins s3 σ H3 (fun o H4 => o = some (-1) ∧ H4 = H3) I3 ⟨1, rfl, -1, rfl, rfl, rfl⟩) fun vs s4 ⟨o, H4, I4, ps, eo, e4⟩ => ?_
  subst eo e4
  cases pl
  cases pu
  obtain ⟨tk0, rfl⟩ : ∃ tk0, vs = .int (-1) tk0 := by cases ps; exact ⟨_, rfl⟩
  have I5 : L2.Inv X pins σ H4 { s4 with heap := s4.heap.push { cls := .type "slice", data := .fields #[.none, .none, .int (-1) tk0] } } := I4.kept (t' := s4.toks) fun b ob q => Heap.get?_push_of_some _ q
  refine tail_any (ops := [.ref s4.heap.objs.size, .str z t]) (typeIs_str _ _ _) PySem.F.slot_str_getitem.lookup (wpAny_getItem_str_slice (l := none) (u := none) (st := some (-1, tk0)) ⟨_, Heap.get?_push_size _ rfl, rfl, rfl⟩ rfl
    (post_val_or_str ⟨Nat.le_trans (Txt.sliceBy_le z _ _ (-1, tk0) (by simp)) hz, fun t' c => ?_⟩)) (by with_unfolding_all rfl)
  show EP X pins σ Q (.str (Txt.sliceBy z none none (-1, tk0)) t') _
  rw [sliceBy_rev]
  exact ⟨.str _, H4, I5.tok c, ⟨_, rfl⟩, q1⟩⟩
def sRevX : Sto → Val → Option Val := fun S v => match v with
  | .str z => if z.length ≤ sizeLine then some (.str (revS z)) else none
  | v => sRev S v
theorem ge_revX {e : Expr} {m : ME} {k : Nat} {p1 p2 p3 pos : Pos} (he : GE X W e m) : GE X W (.Subscript e (.Slice none none (some (.UnaryOp .USub (.Constant (.int 1) k p1) p2)) p3) pos) (mO1 sRevX m) := ⟨fun pins s σ H Q I h => by
  obtain ⟨ρ, F, μ, S, hS, hE, hP⟩ := h
  have go : (∀ v S1, m ρ S = some (.ok v S1) → ∀ z, v ≠ .str z) ∨ ∃ z S1, m ρ S = some (.ok (.str z) S1) := by
    by_cases h : ∃ z S1, m ρ S = some (.ok (.str z) S1)
    · exact .inr h
    · exact .inl fun v S1 e z hv => h ⟨z, S1, by rw [e, hv]⟩
  rcases go with h | ⟨z, S1, h⟩
  · refine (ge_rev he).run pins s σ H Q I ⟨ρ, F, μ, S, hS, hE, ?_⟩
    have e : mO1 sRev m ρ S = mO1 sRevX m ρ S := by
      unfold mO1
      cases e : m ρ S with
      | none => rfl
      | some o =>
        cases o with
        | exc x S' => rfl
        | ok v S' =>
          have hv := h v S' e
          show pur (sRev S' v) S' = pur (sRevX S' v) S'
          congr 1
          unfold sRevX
          split
          · exact absurd rfl (hv _)
          · rfl
    rw [e]
    exact hP
  · refine (pe_revS he).run pins s σ H Q I ?_
    refine ⟨ρ, F, μ, S, hS, hE, ?_⟩
    unfold mO1 at hP
    rw [h] at hP ⊢
    intro F1 μ1 H1 x1 s1 w r1
    have hP' : Post X.K X.mg (atS W σ) F H μ (pur (sRevX S1 (.str z)) S1) (RV X.K Q) := hP
    have hz : z.length ≤ sizeLine := by
      by_cases hz : z.length ≤ sizeLine
      · exact hz
      · simp only [sRevX, hz, if_false] at hP'
        exact hP'.elim
    simp only [sRevX, hz, if_true] at hP'
    cases r1
    exact ⟨z, rfl, hz, hP' F1 μ1 H1 x1 s1 _ .str⟩⟩
end
end G

set_option Elab.async false
set_option linter.all false
set_option maxRecDepth 100000
set_option maxHeartbeats 4000000
namespace G
open PySem PySem.Spec PyProof.Rows L2

namespace E_length
open PySem.W PySem.Calls PySem.HandSPX
def argsI (p1 p2 : Pos) : Arguments := { posonlyargs := [], args := [{ arg := "self", annotation := none, pos := p1 }, { arg := "length", annotation := none, pos := p2 }], vararg := none, kwonlyargs := [], kw_defaults := [], kwarg := none, defaults := [] }
def bodyI (q1 q2 q3 q4 : Pos) : List Stmt := [.Assign [.Attribute (.Name "self" q1) "length" q2] (.Name "length" q3) q4]
def scopeI : Scope := { kind := .function, names := [(PySem.Str.ofString "self", .local), (PySem.Str.ofString "length", .local)], isGenerator := false, isCoroutine := false, more := [] }
structure Txt (K : Frag) (mg : Str → Option Value) (cn qn : Str) (C fI : Addr) : Prop where
  gC : mg cn = some (.ref C)
  cls : ∃ nm q N bs bm sn sub ab col dd k0 k1 k2 k3 k5, K.lookup C = some (excClassObj nm q C N bs bm true sn sub ab col dd k0 k1 k2 k3 k5 "ValueError.__new__") ∧ refsVE bm = true
  sa : findIn K (.ref C) "__setattr__" = some (some (.builtin "object.__setattr__"))
  ga : findIn K (.ref C) "__getattribute__" = some (some (.builtin "BaseException.__getattribute__"))
  gg : findIn K (.ref C) "__getattr__" = some none
  noN : findIn K (.ref C) "length" = some none
  iC : findIn K (.ref C) "__init__" = some (some (.ref fI))
  tC : typeIn K (.ref fI) = some (.type "function")
  kC : keepIn K (.ref C) = true
  exC : subIn K (.ref C) (.type "BaseException") = some true
  tyC : typeIn K (.ref C) = some (.type "type")
  hdC : hasDictIn K C = true
  fn : ∃ (oc : Value) (od : Option Addr) (doc pm : Value) (an : Option Addr) (cdv ct : Value) (osl : Array (Option Value)) (p1 p2 q1 q2 q3 q4 : Pos),
    K.lookup fI = some ⟨oc, od, .func (fnOf "__init__" qn (argsI p1 p2) (bodyI q1 q2 q3 q4) scopeI .none .none doc pm an cdv ct), osl⟩ ∧ codeIn K cdv qn = true
section
variable {prog : Program} {w : World} {A : Around} {E : Value → Shared → Prop} {R : Result → Shared → Prop} {s : Shared} {K : Frag} {mg : Str → Option Value} {C fI : Addr} {cn qn : Str}
end
section
variable {X : Cx} {C fI : Addr} {cn qn : Str}
end
end E_length

namespace E_index
open PySem.W PySem.Calls PySem.HandSPX
def argsI (p1 p2 : Pos) : Arguments := { posonlyargs := [], args := [{ arg := "self", annotation := none, pos := p1 }, { arg := "index", annotation := none, pos := p2 }], vararg := none, kwonlyargs := [], kw_defaults := [], kwarg := none, defaults := [] }
def bodyI (q1 q2 q3 q4 : Pos) : List Stmt := [.Assign [.Attribute (.Name "self" q1) "index" q2] (.Name "index" q3) q4]
def scopeI : Scope := { kind := .function, names := [(PySem.Str.ofString "self", .local), (PySem.Str.ofString "index", .local)], isGenerator := false, isCoroutine := false, more := [] }
structure Txt (K : Frag) (mg : Str → Option Value) (cn qn : Str) (C fI : Addr) : Prop where
  gC : mg cn = some (.ref C)
  cls : ∃ nm q N bs bm sn sub ab col dd k0 k1 k2 k3 k5, K.lookup C = some (excClassObj nm q C N bs bm true sn sub ab col dd k0 k1 k2 k3 k5 "ValueError.__new__") ∧ refsVE bm = true
  sa : findIn K (.ref C) "__setattr__" = some (some (.builtin "object.__setattr__"))
  ga : findIn K (.ref C) "__getattribute__" = some (some (.builtin "BaseException.__getattribute__"))
  gg : findIn K (.ref C) "__getattr__" = some none
  noN : findIn K (.ref C) "index" = some none
  iC : findIn K (.ref C) "__init__" = some (some (.ref fI))
  tC : typeIn K (.ref fI) = some (.type "function")
  kC : keepIn K (.ref C) = true
  exC : subIn K (.ref C) (.type "BaseException") = some true
  tyC : typeIn K (.ref C) = some (.type "type")
  hdC : hasDictIn K C = true
  fn : ∃ (oc : Value) (od : Option Addr) (doc pm : Value) (an : Option Addr) (cdv ct : Value) (osl : Array (Option Value)) (p1 p2 q1 q2 q3 q4 : Pos),
    K.lookup fI = some ⟨oc, od, .func (fnOf "__init__" qn (argsI p1 p2) (bodyI q1 q2 q3 q4) scopeI .none .none doc pm an cdv ct), osl⟩ ∧ codeIn K cdv qn = true
section
variable {prog : Program} {w : World} {A : Around} {E : Value → Shared → Prop} {R : Result → Shared → Prop} {s : Shared} {K : Frag} {mg : Str → Option Value} {C fI : Addr} {cn qn : Str}
end
section
variable {X : Cx} {C fI : Addr} {cn qn : Str}
end
end E_index

namespace E_obstruction
open PySem.W PySem.Calls PySem.HandSPX
def argsI (p1 p2 : Pos) : Arguments := { posonlyargs := [], args := [{ arg := "self", annotation := none, pos := p1 }, { arg := "obstruction", annotation := none, pos := p2 }], vararg := none, kwonlyargs := [], kw_defaults := [], kwarg := none, defaults := [] }
def bodyI (q1 q2 q3 q4 : Pos) : List Stmt := [.Assign [.Attribute (.Name "self" q1) "obstruction" q2] (.Name "obstruction" q3) q4]
def scopeI : Scope := { kind := .function, names := [(PySem.Str.ofString "self", .local), (PySem.Str.ofString "obstruction", .local)], isGenerator := false, isCoroutine := false, more := [] }
structure Txt (K : Frag) (mg : Str → Option Value) (cn qn : Str) (C fI : Addr) : Prop where
  gC : mg cn = some (.ref C)
  cls : ∃ nm q N bs bm sn sub ab col dd k0 k1 k2 k3 k5, K.lookup C = some (excClassObj nm q C N bs bm true sn sub ab col dd k0 k1 k2 k3 k5 "ValueError.__new__") ∧ refsVE bm = true
  sa : findIn K (.ref C) "__setattr__" = some (some (.builtin "object.__setattr__"))
  ga : findIn K (.ref C) "__getattribute__" = some (some (.builtin "BaseException.__getattribute__"))
  gg : findIn K (.ref C) "__getattr__" = some none
  noN : findIn K (.ref C) "obstruction" = some none
  iC : findIn K (.ref C) "__init__" = some (some (.ref fI))
  tC : typeIn K (.ref fI) = some (.type "function")
  kC : keepIn K (.ref C) = true
  exC : subIn K (.ref C) (.type "BaseException") = some true
  tyC : typeIn K (.ref C) = some (.type "type")
  hdC : hasDictIn K C = true
  fn : ∃ (oc : Value) (od : Option Addr) (doc pm : Value) (an : Option Addr) (cdv ct : Value) (osl : Array (Option Value)) (p1 p2 q1 q2 q3 q4 : Pos),
    K.lookup fI = some ⟨oc, od, .func (fnOf "__init__" qn (argsI p1 p2) (bodyI q1 q2 q3 q4) scopeI .none .none doc pm an cdv ct), osl⟩ ∧ codeIn K cdv qn = true
section
variable {prog : Program} {w : World} {A : Around} {E : Value → Shared → Prop} {R : Result → Shared → Prop} {s : Shared} {K : Frag} {mg : Str → Option Value} {C fI : Addr} {cn qn : Str}
end
section
variable {X : Cx} {C fI : Addr} {cn qn : Str}
end
end E_obstruction

namespace E_limit
open PySem.W PySem.Calls PySem.HandSPX
def argsI (p1 p2 : Pos) : Arguments := { posonlyargs := [], args := [{ arg := "self", annotation := none, pos := p1 }, { arg := "limit", annotation := none, pos := p2 }], vararg := none, kwonlyargs := [], kw_defaults := [], kwarg := none, defaults := [] }
def bodyI (q1 q2 q3 q4 : Pos) : List Stmt := [.Assign [.Attribute (.Name "self" q1) "limit" q2] (.Name "limit" q3) q4]
def scopeI : Scope := { kind := .function, names := [(PySem.Str.ofString "self", .local), (PySem.Str.ofString "limit", .local)], isGenerator := false, isCoroutine := false, more := [] }
structure Txt (K : Frag) (mg : Str → Option Value) (cn qn : Str) (C fI : Addr) : Prop where
  gC : mg cn = some (.ref C)
  cls : ∃ nm q N bs bm sn sub ab col dd k0 k1 k2 k3 k5, K.lookup C = some (excClassObj nm q C N bs bm true sn sub ab col dd k0 k1 k2 k3 k5 "ValueError.__new__") ∧ refsVE bm = true
  sa : findIn K (.ref C) "__setattr__" = some (some (.builtin "object.__setattr__"))
  ga : findIn K (.ref C) "__getattribute__" = some (some (.builtin "BaseException.__getattribute__"))
  gg : findIn K (.ref C) "__getattr__" = some none
  noN : findIn K (.ref C) "limit" = some none
  iC : findIn K (.ref C) "__init__" = some (some (.ref fI))
  tC : typeIn K (.ref fI) = some (.type "function")
  kC : keepIn K (.ref C) = true
  exC : subIn K (.ref C) (.type "BaseException") = some true
  tyC : typeIn K (.ref C) = some (.type "type")
  hdC : hasDictIn K C = true
  fn : ∃ (oc : Value) (od : Option Addr) (doc pm : Value) (an : Option Addr) (cdv ct : Value) (osl : Array (Option Value)) (p1 p2 q1 q2 q3 q4 : Pos),
    K.lookup fI = some ⟨oc, od, .func (fnOf "__init__" qn (argsI p1 p2) (bodyI q1 q2 q3 q4) scopeI .none .none doc pm an cdv ct), osl⟩ ∧ codeIn K cdv qn = true
section
variable {prog : Program} {w : World} {A : Around} {E : Value → Shared → Prop} {R : Result → Shared → Prop} {s : Shared} {K : Frag} {mg : Str → Option Value} {C fI : Addr} {cn qn : Str}
end
section
variable {X : Cx} {C fI : Addr} {cn qn : Str}
end
end E_limit

namespace E_error
open PySem.W PySem.Calls PySem.HandSPX
def argsI (p1 p2 : Pos) : Arguments := { posonlyargs := [], args := [{ arg := "self", annotation := none, pos := p1 }, { arg := "error", annotation := none, pos := p2 }], vararg := none, kwonlyargs := [], kw_defaults := [], kwarg := none, defaults := [] }
def bodyI (q1 q2 q3 q4 : Pos) : List Stmt := [.Assign [.Attribute (.Name "self" q1) "error" q2] (.Name "error" q3) q4]
def scopeI : Scope := { kind := .function, names := [(PySem.Str.ofString "self", .local), (PySem.Str.ofString "error", .local)], isGenerator := false, isCoroutine := false, more := [] }
structure Txt (K : Frag) (mg : Str → Option Value) (cn qn : Str) (C fI : Addr) : Prop where
  gC : mg cn = some (.ref C)
  cls : ∃ nm q N bs bm sn sub ab col dd k0 k1 k2 k3 k5, K.lookup C = some (excClassObj nm q C N bs bm true sn sub ab col dd k0 k1 k2 k3 k5 "ValueError.__new__") ∧ refsVE bm = true
  sa : findIn K (.ref C) "__setattr__" = some (some (.builtin "object.__setattr__"))
  ga : findIn K (.ref C) "__getattribute__" = some (some (.builtin "BaseException.__getattribute__"))
  gg : findIn K (.ref C) "__getattr__" = some none
  noN : findIn K (.ref C) "error" = some none
  iC : findIn K (.ref C) "__init__" = some (some (.ref fI))
  tC : typeIn K (.ref fI) = some (.type "function")
  kC : keepIn K (.ref C) = true
  exC : subIn K (.ref C) (.type "BaseException") = some true
  tyC : typeIn K (.ref C) = some (.type "type")
  hdC : hasDictIn K C = true
  fn : ∃ (oc : Value) (od : Option Addr) (doc pm : Value) (an : Option Addr) (cdv ct : Value) (osl : Array (Option Value)) (p1 p2 q1 q2 q3 q4 : Pos),
    K.lookup fI = some ⟨oc, od, .func (fnOf "__init__" qn (argsI p1 p2) (bodyI q1 q2 q3 q4) scopeI .none .none doc pm an cdv ct), osl⟩ ∧ codeIn K cdv qn = true
section
variable {prog : Program} {w : World} {A : Around} {E : Value → Shared → Prop} {R : Result → Shared → Prop} {s : Shared} {K : Frag} {mg : Str → Option Value} {C fI : Addr} {cn qn : Str}
end
section
variable {X : Cx} {C fI : Addr} {cn qn : Str}
end
end E_error

namespace E_key
open PySem.W PySem.Calls PySem.HandSPX
def argsI (p1 p2 : Pos) : Arguments := { posonlyargs := [], args := [{ arg := "self", annotation := none, pos := p1 }, { arg := "key", annotation := none, pos := p2 }], vararg := none, kwonlyargs := [], kw_defaults := [], kwarg := none, defaults := [] }
def bodyI (q1 q2 q3 q4 : Pos) : List Stmt := [.Assign [.Attribute (.Name "self" q1) "key" q2] (.Name "key" q3) q4]
def scopeI : Scope := { kind := .function, names := [(PySem.Str.ofString "self", .local), (PySem.Str.ofString "key", .local)], isGenerator := false, isCoroutine := false, more := [] }
structure Txt (K : Frag) (mg : Str → Option Value) (cn qn : Str) (C fI : Addr) : Prop where
  gC : mg cn = some (.ref C)
  cls : ∃ nm q N bs bm sn sub ab col dd k0 k1 k2 k3 k5, K.lookup C = some (excClassObj nm q C N bs bm true sn sub ab col dd k0 k1 k2 k3 k5 "ValueError.__new__") ∧ refsVE bm = true
  sa : findIn K (.ref C) "__setattr__" = some (some (.builtin "object.__setattr__"))
  ga : findIn K (.ref C) "__getattribute__" = some (some (.builtin "BaseException.__getattribute__"))
  gg : findIn K (.ref C) "__getattr__" = some none
  noN : findIn K (.ref C) "key" = some none
  iC : findIn K (.ref C) "__init__" = some (some (.ref fI))
  tC : typeIn K (.ref fI) = some (.type "function")
  kC : keepIn K (.ref C) = true
  exC : subIn K (.ref C) (.type "BaseException") = some true
  tyC : typeIn K (.ref C) = some (.type "type")
  hdC : hasDictIn K C = true
  fn : ∃ (oc : Value) (od : Option Addr) (doc pm : Value) (an : Option Addr) (cdv ct : Value) (osl : Array (Option Value)) (p1 p2 q1 q2 q3 q4 : Pos),
    K.lookup fI = some ⟨oc, od, .func (fnOf "__init__" qn (argsI p1 p2) (bodyI q1 q2 q3 q4) scopeI .none .none doc pm an cdv ct), osl⟩ ∧ codeIn K cdv qn = true
section
variable {prog : Program} {w : World} {A : Around} {E : Value → Shared → Prop} {R : Result → Shared → Prop} {s : Shared} {K : Frag} {mg : Str → Option Value} {C fI : Addr} {cn qn : Str}
end
section
variable {X : Cx} {C fI : Addr} {cn qn : Str}
end
end E_key

namespace E_value
open PySem.W PySem.Calls PySem.HandSPX
def argsI (p1 p2 : Pos) : Arguments := { posonlyargs := [], args := [{ arg := "self", annotation := none, pos := p1 }, { arg := "value", annotation := none, pos := p2 }], vararg := none, kwonlyargs := [], kw_defaults := [], kwarg := none, defaults := [] }
def bodyI (q1 q2 q3 q4 : Pos) : List Stmt := [.Assign [.Attribute (.Name "self" q1) "value" q2] (.Name "value" q3) q4]
def scopeI : Scope := { kind := .function, names := [(PySem.Str.ofString "self", .local), (PySem.Str.ofString "value", .local)], isGenerator := false, isCoroutine := false, more := [] }
structure Txt (K : Frag) (mg : Str → Option Value) (cn qn : Str) (C fI : Addr) : Prop where
  gC : mg cn = some (.ref C)
  cls : ∃ nm q N bs bm sn sub ab col dd k0 k1 k2 k3 k5, K.lookup C = some (excClassObj nm q C N bs bm true sn sub ab col dd k0 k1 k2 k3 k5 "ValueError.__new__") ∧ refsVE bm = true
  sa : findIn K (.ref C) "__setattr__" = some (some (.builtin "object.__setattr__"))
  ga : findIn K (.ref C) "__getattribute__" = some (some (.builtin "BaseException.__getattribute__"))
  gg : findIn K (.ref C) "__getattr__" = some none
  noN : findIn K (.ref C) "value" = some none
  iC : findIn K (.ref C) "__init__" = some (some (.ref fI))
  tC : typeIn K (.ref fI) = some (.type "function")
  kC : keepIn K (.ref C) = true
  exC : subIn K (.ref C) (.type "BaseException") = some true
  tyC : typeIn K (.ref C) = some (.type "type")
  hdC : hasDictIn K C = true
  fn : ∃ (oc : Value) (od : Option Addr) (doc pm : Value) (an : Option Addr) (cdv ct : Value) (osl : Array (Option Value)) (p1 p2 q1 q2 q3 q4 : Pos),
    K.lookup fI = some ⟨oc, od, .func (fnOf "__init__" qn (argsI p1 p2) (bodyI q1 q2 q3 q4) scopeI .none .none doc pm an cdv ct), osl⟩ ∧ codeIn K cdv qn = true
section
variable {prog : Program} {w : World} {A : Around} {E : Value → Shared → Prop} {R : Result → Shared → Prop} {s : Shared} {K : Frag} {mg : Str → Option Value} {C fI : Addr} {cn qn : Str}
end
section
variable {X : Cx} {C fI : Addr} {cn qn : Str}
end
end E_value

namespace E_version
open PySem.W PySem.Calls PySem.HandSPX
def argsI (p1 p2 : Pos) : Arguments := { posonlyargs := [], args := [{ arg := "self", annotation := none, pos := p1 }, { arg := "version", annotation := none, pos := p2 }], vararg := none, kwonlyargs := [], kw_defaults := [], kwarg := none, defaults := [] }
def bodyI (q1 q2 q3 q4 : Pos) : List Stmt := [.Assign [.Attribute (.Name "self" q1) "version" q2] (.Name "version" q3) q4]
def scopeI : Scope := { kind := .function, names := [(PySem.Str.ofString "self", .local), (PySem.Str.ofString "version", .local)], isGenerator := false, isCoroutine := false, more := [] }
structure Txt (K : Frag) (mg : Str → Option Value) (cn qn : Str) (C fI : Addr) : Prop where
  gC : mg cn = some (.ref C)
  cls : ∃ nm q N bs bm sn sub ab col dd k0 k1 k2 k3 k5, K.lookup C = some (excClassObj nm q C N bs bm true sn sub ab col dd k0 k1 k2 k3 k5 "ValueError.__new__") ∧ refsVE bm = true
  sa : findIn K (.ref C) "__setattr__" = some (some (.builtin "object.__setattr__"))
  ga : findIn K (.ref C) "__getattribute__" = some (some (.builtin "BaseException.__getattribute__"))
  gg : findIn K (.ref C) "__getattr__" = some none
  noN : findIn K (.ref C) "version" = some none
  iC : findIn K (.ref C) "__init__" = some (some (.ref fI))
  tC : typeIn K (.ref fI) = some (.type "function")
  kC : keepIn K (.ref C) = true
  exC : subIn K (.ref C) (.type "BaseException") = some true
  tyC : typeIn K (.ref C) = some (.type "type")
  hdC : hasDictIn K C = true
  fn : ∃ (oc : Value) (od : Option Addr) (doc pm : Value) (an : Option Addr) (cdv ct : Value) (osl : Array (Option Value)) (p1 p2 q1 q2 q3 q4 : Pos),
    K.lookup fI = some ⟨oc, od, .func (fnOf "__init__" qn (argsI p1 p2) (bodyI q1 q2 q3 q4) scopeI .none .none doc pm an cdv ct), osl⟩ ∧ codeIn K cdv qn = true
section
variable {prog : Program} {w : World} {A : Around} {E : Value → Shared → Prop} {R : Result → Shared → Prop} {s : Shared} {K : Frag} {mg : Str → Option Value} {C fI : Addr} {cn qn : Str}
end
section
variable {X : Cx} {C fI : Addr} {cn qn : Str}
end
end E_version

namespace E_width
open PySem.W PySem.Calls PySem.HandSPX
def argsI (p1 p2 : Pos) : Arguments := { posonlyargs := [], args := [{ arg := "self", annotation := none, pos := p1 }, { arg := "width", annotation := none, pos := p2 }], vararg := none, kwonlyargs := [], kw_defaults := [], kwarg := none, defaults := [] }
def bodyI (q1 q2 q3 q4 : Pos) : List Stmt := [.Assign [.Attribute (.Name "self" q1) "width" q2] (.Name "width" q3) q4]
def scopeI : Scope := { kind := .function, names := [(PySem.Str.ofString "self", .local), (PySem.Str.ofString "width", .local)], isGenerator := false, isCoroutine := false, more := [] }
structure Txt (K : Frag) (mg : Str → Option Value) (cn qn : Str) (C fI : Addr) : Prop where
  gC : mg cn = some (.ref C)
  cls : ∃ nm q N bs bm sn sub ab col dd k0 k1 k2 k3 k5, K.lookup C = some (excClassObj nm q C N bs bm true sn sub ab col dd k0 k1 k2 k3 k5 "ValueError.__new__") ∧ refsVE bm = true
  sa : findIn K (.ref C) "__setattr__" = some (some (.builtin "object.__setattr__"))
  ga : findIn K (.ref C) "__getattribute__" = some (some (.builtin "BaseException.__getattribute__"))
  gg : findIn K (.ref C) "__getattr__" = some none
  noN : findIn K (.ref C) "width" = some none
  iC : findIn K (.ref C) "__init__" = some (some (.ref fI))
  tC : typeIn K (.ref fI) = some (.type "function")
  kC : keepIn K (.ref C) = true
  exC : subIn K (.ref C) (.type "BaseException") = some true
  tyC : typeIn K (.ref C) = some (.type "type")
  hdC : hasDictIn K C = true
  fn : ∃ (oc : Value) (od : Option Addr) (doc pm : Value) (an : Option Addr) (cdv ct : Value) (osl : Array (Option Value)) (p1 p2 q1 q2 q3 q4 : Pos),
    K.lookup fI = some ⟨oc, od, .func (fnOf "__init__" qn (argsI p1 p2) (bodyI q1 q2 q3 q4) scopeI .none .none doc pm an cdv ct), osl⟩ ∧ codeIn K cdv qn = true
section
variable {prog : Program} {w : World} {A : Around} {E : Value → Shared → Prop} {R : Result → Shared → Prop} {s : Shared} {K : Frag} {mg : Str → Option Value} {C fI : Addr} {cn qn : Str}
end
section
variable {X : Cx} {C fI : Addr} {cn qn : Str}
end
end E_width
end G

set_option Elab.async false
set_option linter.all false
set_option maxRecDepth 100000
set_option maxHeartbeats 4000000
namespace G
open PySem PySem.Spec PyProof.Rows L2
section
variable {X : Cx} {W : WX} {cn f : Str} {C : Addr} {a : Expr} {ma : ME} {p pos pos2 : Pos}
end
section
variable {X : Cx} {W : WX} {k j : Nat} {f : Addr} {fd : FuncData} {ps : List Str} {F : Fn} {x : Str} {st : Stmt} {p pos : Pos} {e : Expr} {es : List Expr} {ms : MA}
end
section
variable {X : Cx} {W : WX} {x n : Str} {c : Value} {i : Nat} {body suite : List Stmt} {b₀ : Stmt} {np pos pos' : Pos} {mb : MS} {su : Exc → Addr → Option Addr → MS} {yes : List Str}
end
end G

set_option Elab.async false
set_option linter.all false
set_option maxRecDepth 100000
set_option maxHeartbeats 4000000
namespace G
open PySem PySem.Spec PyProof.Rows L2
section
variable {X : Cx} {C a : Addr} {oe : Obj} {d : Option Addr} {pn : List (Addr × Obj)}
end
section
variable {X : Cx} {C a : Addr} {oe : Obj} {d : Option Addr} {pn : List (Addr × Obj)} {e : Exc} {tb : Str → Option Bool} {i : Nat} {W : WX} {en ec : Expr} {p pos : Pos}
end
section
variable {X : Cx} {C a : Addr} {oe : Obj} {d : Option Addr} {pn : List (Addr × Obj)} {e : Exc} {i : Nat} {W : WX} {en : Expr} {p pos : Pos} {f : Str} {ok : List Str}
end
end G

set_option Elab.async false
set_option linter.all false
set_option maxRecDepth 100000
set_option maxHeartbeats 4000000
namespace G
open PySem PySem.Spec PyProof.Rows L2
inductive LeavesX (n : Nat) : Exc × Sto → Exc × Sto → Prop where
  | trim0 {c : Str} {S S' : Sto} : FzS n S S' → LeavesX n (⟨c, []⟩, S) (⟨c, []⟩, S')
  | trim1 {c f : Str} {v v' : Val} {S S' : Sto} : Fz n S v v' → FzS n S S' → LeavesX n (⟨c, [(f, v)]⟩, S) (⟨c, [(f, v')]⟩, S')
theorem LeavesX.ok {K : PySem.W.Frag} {mg : Str → Option Value} {F0 H0 F H : Hp} {μ0 μ : List Addr} {S S' : Sto} {y x : Exc} {n : Nat} {c : Value} {d : Option Addr} {E : XK} (z : LeavesX n (y, S) (x, S')) (hn : μ0.length = n) (xt : Xt F0 H0 μ0 F H μ) (h : RepS K mg F H μ S) (r : ExcOk K mg F μ H y c d)
    (q : ∀ F' μ' H' c d, Xt F0 H0 μ0 F' H' μ' → RepS K mg F' H' μ' S' → ExcOk K mg F' μ' H' x c d → E c d H') : E c d H := by
  have e : μ.take n = μ0 := by
    obtain ⟨t, rfl⟩ := xt.pre
    rw [← hn, List.take_left]
  have x2 : Xt F0 H0 μ0 (thaw F H μ n) H μ0 := ⟨⟨fun a o q => thaw_sub h a o (xt.sub a o q), List.prefix_refl _⟩, fun a o k nm => by
    obtain ⟨k1, k2, k3⟩ := xt.keep a o k nm
    refine ⟨k1, nm, fun z => ?_⟩
    unfold thaw
    rw [if_neg fun z => k2 (List.mem_of_mem_drop z)]
    exact k3 z⟩
  cases z with
  | trim0 zs =>
    refine q (thaw F H μ n) μ0 H c d x2 (e ▸ zs.rep h) ?_
    obtain ⟨C, g, rfl, h1 | ⟨f, u, v, dx, h1, _⟩⟩ := r
    · exact ⟨C, g, rfl, .inl h1⟩
    · cases h1
  | trim1 zv zs =>
    refine q (thaw F H μ n) μ0 H c d x2 (e ▸ zs.rep h) ?_
    obtain ⟨C, g, rfl, h1 | ⟨f, u, v, dx, h1, rfl, h3, h4⟩⟩ := r
    · cases h1.1
    · cases h1
      exact ⟨C, g, rfl, .inr ⟨_, _, v, dx, rfl, rfl, thaw_sub h _ _ h3, e ▸ zv.rep h h4⟩⟩
section
variable {P : Program} {w : World} {K : PySem.W.Frag} {mg : Str → Option Value} {base : Heap}
end
section
variable {K : PySem.W.Frag} {mg : Str → Option Value}
theorem any_nil {t : Value} : PySem.W.kitAny K t [] = some false := rfl
end
section
variable {X : Cx}
end
end G

set_option Elab.async false
set_option linter.all false
set_option maxRecDepth 100000
set_option maxHeartbeats 4000000
namespace G
open PySem PySem.Spec PyProof.Rows L2
namespace E_length
end E_length
namespace E_index
end E_index
namespace E_obstruction
end E_obstruction
namespace E_limit
end E_limit
namespace E_error
end E_error
namespace E_key
end E_key
namespace E_value
end E_value
namespace E_version
end E_version
namespace E_width
end E_width
end G

set_option Elab.async false
set_option linter.all false
set_option maxRecDepth 100000
set_option maxHeartbeats 4000000
namespace G
open PySem PySem.Spec PyProof.Rows L2
section
variable {X : Cx} {W : WX} {x : Str} {c : Value} {body suite : List Stmt} {b₀ : Stmt} {np pos pos' : Pos} {mb su : MS} {yes : List Str}
end
section
variable {X : Cx} {W : WX} {CX : CXT} {i j k n : Nat} {f : Addr} {fd : FuncData} {ps : List Str} {x y : Str} {F : Fn} {st : Stmt} {p pos : Pos} {e : Expr} {es : List Expr} {ms : MA} {tbl : List (Str × Fn)}
end
section
variable {X : Cx}
def sStr : Sto → List Val → Option Val := fun _ vs => match vs with
  | [.int i] => if i.natAbs.log2 < 1920 then some (.str (Str.ofString (toString i))) else none
  | _ => none
end
end G

set_option Elab.async false
set_option linter.all false
set_option maxRecDepth 100000
set_option maxHeartbeats 4000000
namespace G
open PySem PySem.Spec PyProof.Rows L2
def keyD : Key → PyData
  | .inl i => .int i
  | .inr x => .str x
def rdXD : List (Key × Val) → Option (List (PyData × PyData))
  | [] => some []
  | (k, .int i) :: t => (rdXD t).map fun ds => (keyD k, .int i) :: ds
  | _ => none
mutual
def rdX : Val → Option PyData
  | .non => some .none
  | .bl b => some (.bool b)
  | .int i => some (.int i)
  | .str x => some (.str x)
  | .tup xs => (rdXL xs).map PyData.tuple
  | .lst xs => (rdXL xs).map PyData.list
  | .dct kvs => (rdXD kvs).map PyData.dict
  | .scr _ => none
  | .cell _ => none
  | .con _ => none
  | .fnv _ => none
  | .err _ _ _ _ => none
  | .prs _ => none
def rdXL : List Val → Option (List PyData)
  | [] => some []
  | x :: xs => match rdX x, rdXL xs with
    | some d, some ds => some (d :: ds)
    | _, _ => none
end
section
variable {X : Cx} {pins : List (Addr × Obj)} {σ : L2.St} {F H : Hp} {μ : List Addr} {S : Sto} {s : Shared}
theorem rdXD_reads {h : Heap} {K : PySem.W.Frag} {P : Program} {w : World} {kvs : List (Key × Val)} : ∀ {kws : List (Key × V)} {vs : List (Key × Value)} {es : List DictEntry} {ds : List (PyData × PyData)}, RepD K F μ kvs kws → KV kws vs → Pairs (mixKind P w) es vs → rdXD kvs = some ds → ReadsAll h (es.map (·.key)) (ds.map (·.1)) [] ∧ ReadsAll h (es.map (·.val)) (ds.map (·.2)) [] := by
  induction kvs with
  | nil =>
    intro kws vs es ds r kv p e
    cases r
    cases kv
    cases p
    simp only [rdXD] at e
    cases e
    exact ⟨.nil, .nil⟩
  | cons kx kvs ih =>
    intro kws vs es ds r kv p e
    cases r with
    | cons rv rd =>
    cases kv with
    | cons hk kv =>
    cases p with
    | cons pk pv pp =>
    rename_i k x v kws q vs e0 es
    cases x with
    | int i =>
      simp only [rdXD] at e
      obtain ⟨ds, e1, rfl⟩ := Option.map_eq_some_iff.mp e
      obtain ⟨h1, h2⟩ := ih rd kv pp e1
      cases rv
      obtain ⟨q1, t, q2⟩ := hk
      dsimp only at q1 q2
      refine ⟨?_, ?_⟩
      · simp only [List.map_cons]
        refine ReadsAll.cons (as := []) ?_ h1
        rcases keyIs_shape pk with ⟨j, t', e3, e4⟩ | ⟨y, t', e3, e4⟩
        · rw [e4, q1, e3]; exact .int j t'
        · rw [e4, q1, e3]; exact .str y t'
      · simp only [List.map_cons]
        refine ReadsAll.cons (as := []) ?_ h2
        rw [pv, q2]
        exact .int i t
    | _ => simp [rdXD] at e
mutual
theorem rdX_reads (hB : ∃ mm, X.base.Ns sysModules mm) (I : L2.Inv X pins σ H s) (hS : RepS X.K X.mg F H μ S) : ∀ {v : Val} {w : V} {d : PyData} {u : Value}, RepV X.K F μ v w → rdX v = some d → RelV w u → ∃ as, Reads s.heap u d as ∧ sysModules ∉ as
  | _, _, _, _, .non, e, r => by rw [rdX] at e; cases e; cases r; exact ⟨_, .none, by simp⟩
  | _, _, _, _, .bl, e, r => by rw [rdX] at e; cases e; cases r; exact ⟨_, .bool _, by simp⟩
  | _, _, _, _, .int, e, r => by rw [rdX] at e; cases e; obtain ⟨t, rfl⟩ := r; exact ⟨_, .int _ t, by simp⟩
  | _, _, _, _, .str, e, r => by rw [rdX] at e; cases e; obtain ⟨t, rfl⟩ := r; exact ⟨_, .str _ t, by simp⟩
  | _, _, _, _, .tup q l, e, r => by
    simp only [rdX] at e
    obtain ⟨ds, e1, rfl⟩ := Option.map_eq_some_iff.mp e
    cases r
    obtain ⟨its, rv, ⟨o, ho, hc, n, hd⟩, _⟩ := I.tuple (same_seqT hS.sub q.sq)
    obtain ⟨as, hr, hn⟩ := rdXL_reads hB I hS l e1 rv
    exact ⟨_, Reads.tuple ho hc hd hr, hn⟩
  | _, _, _, _, .lst q l, e, r => by
    simp only [rdX] at e
    obtain ⟨ds, e1, rfl⟩ := Option.map_eq_some_iff.mp e
    cases r
    obtain ⟨its, rv, ⟨o, n, ho, hc, _, hd⟩, _⟩ := I.list (SqL.of (hS.sub _ _ q))
    obtain ⟨as, hr, hn⟩ := rdXL_reads hB I hS l e1 rv
    refine ⟨_, Reads.list ho hc hd hr, fun z => ?_⟩
    rcases List.mem_cons.mp z with z | z
    · obtain ⟨mm, om, es, ep, hm, hdm, _⟩ := hB
      have hm' := I.bk _ _ hm
      rw [z] at hm'
      rw [hm'] at ho
      cases ho
      rw [hdm] at hd
      cases hd
    · exact hn z
  | _, _, _, _, .dct q l, e, r => by
    simp only [rdX] at e
    obtain ⟨ds, e1, rfl⟩ := Option.map_eq_some_iff.mp e
    cases r
    obtain ⟨_, hsm, vs, kv, o, es, ep, ho, hx, hd, hko, hp, hnd⟩ := dk_of I.hok (hS.sub _ _ q)
    obtain ⟨h1, h2⟩ := rdXD_reads (h := s.heap) l kv hp e1
    refine ⟨_, Reads.dict ho hx.1 hd h1 h2, fun z => ?_⟩
    simp only [List.append_nil, List.mem_singleton] at z
    rw [← z] at hsm
    simp at hsm
  | _, _, _, _, .scr _, e, r => by rw [rdX] at e; cases e
  | _, _, _, _, .cell _, e, r => by rw [rdX] at e; cases e
  | _, _, _, _, .con, e, r => by rw [rdX] at e; cases e
  | _, _, _, _, .fnv _, e, r => by rw [rdX] at e; cases e
  | _, _, _, _, .err0, e, r => by rw [rdX] at e; cases e
  | _, _, _, _, .err1 _ _, e, r => by rw [rdX] at e; cases e
  | _, _, _, _, .prs _ _, e, r => by rw [rdX] at e; cases e
theorem rdXL_reads (hB : ∃ mm, X.base.Ns sysModules mm) (I : L2.Inv X pins σ H s) (hS : RepS X.K X.mg F H μ S) : ∀ {v : List Val} {w : List V} {d : List PyData} {u : List Value}, RepL X.K F μ v w → rdXL v = some d → Vals w u → ∃ as, ReadsAll s.heap u d as ∧ sysModules ∉ as
  | _, _, _, _, .nil, e, r => by
    simp only [rdXL] at e
    cases e
    cases r
    exact ⟨_, .nil, by simp⟩
  | _, _, _, _, .cons h1 h2, e, r => by
    simp only [rdXL] at e
    split at e
    · rename_i d ds e1 e2
      cases e
      cases r with
      | cons r1 r2 =>
        obtain ⟨as, q1, n1⟩ := rdX_reads hB I hS h1 e1 r1
        obtain ⟨bs, q2, n2⟩ := rdXL_reads hB I hS h2 e2 r2
        refine ⟨_, ReadsAll.cons q1 q2, fun m => ?_⟩
        rcases List.mem_append.mp m with m | m
        · exact n1 m
        · exact n2 m
    · cases e
end
end
def sReprD (d : PyData) : Option Val := if d.showable = true ∧ d.shown.length ≤ sizeLine ∧ d.depth ≤ 60 then some (.str d.shown) else none
def sReprX : Sto → List Val → Option Val := fun S vs => match vs with
  | [v] => match toD v, rdX v with
    | none, some d => sReprD d
    | _, _ => sRepr S [v]
  | _ => none
theorem c_reprX {X : Cx} (hG : X.A.guards = some []) (hB : ∃ mm, X.base.Ns sysModules mm) (hu : X.A.units + 64 < cLine) : GCa X (.builtin "repr") sReprX := by
  intro pins s σ H xs us Q I r h
  obtain ⟨vs, F, μ, S, z, hS, rl, e, k⟩ := h
  unfold sReprX at e
  split at e
  · rename_i v
    split at e
    · rename_i d _ hd
      obtain ⟨w, rfl, rv⟩ := rl.one
      obtain ⟨u, rfl, ru⟩ := vals1 r
      unfold sReprD at e
      obtain ⟨⟨h1, h2, h3⟩, e⟩ := ite_some e
      subst e
      have fin : ∀ (h' : Heap) (t : Tok) (tk : Nat), (∀ b o, s.heap.get? b = some o → h'.get? b = some o) → EP X pins σ Q (.str d.shown t) { s with heap := h', toks := tk } := fun h' t tk kp =>
        ⟨.str d.shown, H, I.kept kp, ⟨t, rfl⟩, same_k k hS .str⟩
      obtain ⟨as, rd, hn⟩ := rdX_reads hB I hS rv hd ru
      cases v with
      | lst ys =>
        cases rv
        cases ru
        exact repr_of_reads' rd h1 (fun _ => hn) hG (by omega) (fun _ _ q => q) (fun h' t tk kp => fin h' t tk kp) h2
      | tup ys =>
        cases rv
        cases ru
        exact repr_of_reads' rd h1 (fun _ => hn) hG (by omega) (fun _ _ q => q) (fun h' t tk kp => fin h' t tk kp) h2
      | dct ys =>
        cases rv
        cases ru
        exact repr_of_reads' rd h1 (fun _ => hn) hG (by omega) (fun _ _ q => q) (fun h' t tk kp => fin h' t tk kp) h2
      | _ =>
        rename_i ht
        simp [toD, rdX] at ht hd
    · exact c_repr hG hu pins s σ H xs us Q I r ⟨_, F, μ, S, z, hS, rl, e, k⟩
  · cases e
end G

set_option Elab.async false
set_option linter.all false
set_option maxRecDepth 100000
set_option maxHeartbeats 4000000
namespace G
open PySem PySem.Spec PyProof.Rows L2
def sNeX : Sto → Val → Val → Option Val := fun S x y => match sNe S x y with
  | some r => some r
  | none => match seqOf S x, y with
    | some (false, _ :: _), .lst [] => some (.bl true)
    | _, _ => none
theorem o_neX {X : Cx} (hu : X.A.units + 64 < cLine) : GO2 X (compareOp .NotEq) sNeX := by
  intro pins s σ H x y v u Q I rx ry h
  obtain ⟨vx, vy, F, μ, S, r, hS, r1, r2, e, k⟩ := h
  unfold sNeX at e
  split at e
  · rename_i r' e'
    cases e
    exact o_ne hu pins s σ H x y v u Q I rx ry ⟨vx, vy, F, μ, S, _, hS, r1, r2, e', k⟩
  · split at e
    · rename_i z zs hq _
      cases e
      obtain ⟨a, vs, rfl, rl, hh⟩ := seqOf_ok hS r1 hq
      rcases hh with ⟨hb, _⟩ | ⟨_, sq⟩
      · cases hb
      cases r2 with
      | lst q l =>
      cases l
      cases rx
      cases ry
      obtain ⟨its, rv, ⟨o, n, ho, hc, hx, hd⟩, _⟩ := I.list sq
      obtain ⟨its2, rv2, ⟨o2, n2, ho2, hc2, hx2, hd2⟩, _⟩ := I.list (SqL.of (hS.sub _ _ q))
      cases rv2
      have hl : its.length ≠ 0 := by
        have e1 := rv.length
        have e2 := rl.length
        rw [← e1, ← e2]
        simp
      refine SeqAt.RcNeAt.lists_lengths (items := its.toArray) (items2 := #[]) ⟨o, ho, hc, n, hd⟩ ⟨o2, ho2, hc2, n2, hd2⟩ (by simpa using hl) (by omega) _ _ _ _ ⟨.bl true, H, I, rfl, same_k k hS .bl⟩
    · cases e
section
open AutoSeq1 (wpAny_loadPart')
end
end G

set_option Elab.async false
set_option linter.all false
set_option maxRecDepth 100000
set_option maxHeartbeats 4000000
namespace G
open PySem PySem.Spec PyProof.Rows L2
end G

set_option Elab.async false
set_option linter.all false
set_option maxRecDepth 100000
set_option maxHeartbeats 4000000
namespace G
open PySem PySem.Spec PyProof.Rows L2
end G

set_option Elab.async false
set_option linter.all false
set_option maxRecDepth 100000
set_option maxHeartbeats 4000000
namespace G
open PySem PySem.Spec PyProof.Rows L2
section
variable {X : Cx} {W : WX}
end
end G

set_option Elab.async false
set_option linter.all false
set_option maxRecDepth 100000
set_option maxHeartbeats 4000000
namespace G
open PySem PySem.Spec PyProof.Rows L2
section
variable {X : Cx} {W : WX} {kx vx tg iter : Expr} {ifs : List Expr} {scope : Scope} {own : List (Str × Nat)} {pos : Pos} {mi : MI} {t : MG} {tt : MT} {tk tv : ME}
end
end G

set_option Elab.async false
set_option linter.all false
set_option maxRecDepth 100000
set_option maxHeartbeats 4000000
namespace G
open PySem PySem.Spec PyProof.Rows L2
def rgOkB (a b : Int) : Prop := -4611686018427387904 ≤ a ∧ a < 4611686018427387904 ∧ -4611686018427387904 ≤ b ∧ b < 4611686018427387904 ∧ (b - a).toNat ≤ 16777216
instance (a b : Int) : Decidable (rgOkB a b) := by unfold rgOkB; infer_instance
section
variable {X : Cx} {W : WX} {a b : Expr} {ma mb : ME} {p p' pos pos' : Pos}
end
end G

set_option Elab.async false
set_option linter.all false
set_option maxRecDepth 100000
set_option maxHeartbeats 4000000
namespace G
open PySem PySem.Spec PyProof.Rows L2
def sEqX : Sto → Val → Val → Option Val := fun S x y => match sEq S x y with
  | some r => some r
  | none => match seqOf S x, y with
    | some (false, _ :: _), .lst [] => some (.bl false)
    | _, _ => none
theorem o_eqX {X : Cx} (hu : X.A.units + 64 < cLine) : GO2 X (compareOp .Eq) sEqX := by
  intro pins s σ H x y v u Q I rx ry h
  obtain ⟨vx, vy, F, μ, S, r, hS, r1, r2, e, k⟩ := h
  unfold sEqX at e
  split at e
  · rename_i r' e'
    cases e
    exact o_eq hu pins s σ H x y v u Q I rx ry ⟨vx, vy, F, μ, S, _, hS, r1, r2, e', k⟩
  · split at e
    · rename_i z zs hq _
      cases e
      obtain ⟨a, vs, rfl, rl, hh⟩ := seqOf_ok hS r1 hq
      rcases hh with ⟨hb, _⟩ | ⟨_, sq⟩
      · cases hb
      cases r2 with
      | lst q l =>
      cases l
      cases rx
      cases ry
      obtain ⟨its, rv, ⟨o, n, ho, hc, hx, hd⟩, _⟩ := I.list sq
      obtain ⟨its2, rv2, ⟨o2, n2, ho2, hc2, hx2, hd2⟩, _⟩ := I.list (SqL.of (hS.sub _ _ q))
      cases rv2
      have hl : its.length ≠ 0 := by
        have e1 := rv.length
        have e2 := rl.length
        rw [← e1, ← e2]
        simp
      refine SeqAt.RcAt.lists_lengths (items := its.toArray) (items2 := #[]) ⟨o, ho, hc, n, hd⟩ ⟨o2, ho2, hc2, n2, hd2⟩ (by simpa using hl) (by omega) _ _ _ _ ⟨.bl false, H, I, rfl, same_k k hS .bl⟩
    · cases e
end G

set_option Elab.async false
set_option linter.all false
set_option maxRecDepth 100000
set_option maxHeartbeats 4000000
namespace G
open PySem PySem.Spec PyProof.Rows L2
section
variable {X : Cx}
end
end G

set_option Elab.async false
set_option linter.all false
set_option maxRecDepth 100000
set_option maxHeartbeats 4000000
namespace GZ
open PySem
open PySem.Sem (wp)
section
variable {prog : Program} {w : World} {A : Around} {E : Value → Shared → Prop} {s : Shared} {z TI TO T i1 i2 : Addr} {f : Bool} {oT : Obj} {fp1 fp2 : List Addr} {n1 n2 i : Nat} {P1 P2 : Nat → Value → Prop} {St1 St2 : Nat → Heap → Prop}

theorem nextOf_range_item {it : Addr} {x left step : Int} {Q : Value → Shared → Prop} (hit : IsRangeIter s.heap it x left step) (hleft : 0 < left)
    (hQ : ∀ h', IsRangeIter h' it (x + step) (left - 1) step → Heap.SameBut it s.heap h' → Q (.int x s.toks) { s with heap := h', toks := s.toks + 1 }) :
    wpAny (model prog w) A (Builtin.SmallTypes.nextOf (.ref it)) Q E s := by
  have hT : s.TypeIs (.ref it) "range_iterator" := ⟨_, hit, rfl⟩
  unfold Builtin.SmallTypes.nextOf
  refine wpAny_bind (wpAny_callSpecial?_slot (name := Str.ofString "__next__") hT F.slot_range_iterator_next
    (call_meets F.slot_range_iterator_next hT F.entry_range_iterator_next (F.args_range_iterator_next_1 _) (AutoRange.range_iterator___next___range_iterator_1 it x left step (by omega)) ⟨hit, ?_⟩))
  exact wpAny_pure (hQ _ (Heap.get?_update_self _ (Heap.get?_update_self _ hit rfl) rfl) ((Heap.SameBut.update ..).trans (Heap.SameBut.update ..)))
theorem nextOf_range_end {it : Addr} {x left step : Int} {Q : Value → Shared → Prop} (hh : A.handled = none) (hit : IsRangeIter s.heap it x left step) (hleft : left ≤ 0)
    (hE : ∀ h' e, Heap.ExtBut it s.heap h' → (∃ o, h'.get? e = some o ∧ o.cls = .type "StopIteration") → E (.ref e) { s with heap := h' }) :
    wpAny (model prog w) A (Builtin.SmallTypes.nextOf (.ref it)) Q E s := by
  have hT : s.TypeIs (.ref it) "range_iterator" := ⟨_, hit, rfl⟩
  unfold Builtin.SmallTypes.nextOf
  refine wpAny_bind (wpAny_callSpecial?_slot (name := Str.ofString "__next__") hT F.slot_range_iterator_next
    (wpAny_call_entry F.slot_range_iterator_next hT F.entry_range_iterator_next ?_ (F.args_range_iterator_next_1 _)))
  show wpAny _ _ (field (.ref it) 0 >>= _) _ _ s
  refine wpAny_bind (wpAny_field hit rfl (x := rawInt x) rfl ?_)
  show wpAny _ _ (field (.ref it) 1 >>= _) _ _ s
  refine wpAny_bind (wpAny_field hit rfl (x := rawInt left) rfl ?_)
  show wpAny _ _ (field (.ref it) 2 >>= _) _ _ s
  refine wpAny_bind (wpAny_field hit rfl (x := rawInt step) rfl ?_)
  show wpAny _ _ (if left ≤ 0 then _ else _) _ _ s
  rw [if_pos hleft]
  refine wpAny_bind (wpAny_rule ?_)
  refine wpAny_bind ?_
  show wpAny _ _ (newExc (.type "StopIteration") [] >>= _) _ _ _
  refine wpAny_bind ?_
  simp only [newExc, newTuple]
  refine wpAny_bind (wpAny_newObj_type ?_ (by size_fits))
  refine wpAny_bind (m := firstArgMember _ _) (wpAny_of_eq (a := Value.none) (by first | rfl | (simp only [firstArgMember]; rfl)) ?_)
  refine wpAny_newObj_type ?_ (by size_fits)
  simp only [raiseNew]
  refine wpAny_bind (wpAny_handled ?_)
  first | rw [show A.in1.handled = none from hh] | rw [hh]
  refine wpAny_bind (wpAny_pure (wpAny_throw ?_))
  exact hE _ _ (((Heap.ExtBut.refl it s.heap).push _).push _) ⟨_, Heap.get?_push_size _ rfl, rfl⟩
end
theorem Draws.range {prog : Program} {w : World} {A : Around} (hh : A.handled = none) (it : Addr) (a : Int) (n : Nat) :
    Draws prog w A it [it] n (fun i v => ∃ t, v = .int (a + (i : Nat)) t) (fun i h => IsRangeIter h it (a + (i : Nat)) ((n : Int) - (i : Nat)) 1) where
  live := fun _ _ st => ⟨_, st⟩
  frame := fun _ _ _ st hk => hk it (by simp) _ st
  item := fun i s Q E hi st hQ => by
    refine nextOf_range_item st (by omega) fun h' hit' hs' => ?_
    refine hQ _ h' _ ⟨_, rfl⟩ ?_ hs'
    rw [show a + ((i + 1 : Nat) : Int) = a + (i : Int) + 1 by omega, show (n : Int) - ((i + 1 : Nat) : Int) = (n : Int) - (i : Int) - 1 by omega]
    exact hit'
  done := fun s Q E st hE => nextOf_range_end hh st (by omega) hE
section
variable {prog : Program} {w : World}
end
end GZ

set_option Elab.async false
set_option linter.all false
set_option maxRecDepth 100000
set_option maxHeartbeats 4000000
namespace G
open PySem PySem.Spec PyProof.Rows L2
section
variable {X : Cx} {a e : Expr} {ta : TE} {te : L2.St → Hp → (Int → Int → Hp → Prop) → Prop} {p p2 pos pos2 : Pos}
end
end G

set_option Elab.async false
set_option linter.all false
set_option maxRecDepth 100000
set_option maxHeartbeats 4000000
namespace G
open PySem PySem.Spec PyProof.Rows L2
end G

set_option Elab.async false
set_option linter.all false
set_option maxRecDepth 100000
set_option maxHeartbeats 4000000
namespace G
open PySem PySem.Spec PyProof.Rows L2
end G

set_option Elab.async false
set_option linter.all false
set_option maxRecDepth 100000
set_option maxHeartbeats 4000000
namespace G
open PySem PySem.Spec PyProof.Rows L2
section
variable {X : Cx}
end
end G

set_option Elab.async false
set_option linter.all false
set_option maxRecDepth 100000
set_option maxHeartbeats 4000000
namespace G
open PySem PySem.Spec PyProof.Rows L2
end G

set_option Elab.async false
set_option linter.all false
set_option maxRecDepth 100000
set_option maxHeartbeats 4000000
namespace G
open PySem PySem.Spec PyProof.Rows L2
inductive Sc where
  | ls (a : Addr)
  | tu (a : Addr)
  | tx (x : Str)
def Sc.at (K : PySem.W.Frag) (H : Hp) : Sc → List V → Prop
  | .ls a, xs => SqL K H a xs
  | .tu a, xs => SqT K H a xs
  | .tx x, xs => xs = x.cps.toList.map fun c => V.str ⟨#[c]⟩
def Sc.it (h : Heap) (o : Addr) (i : Nat) : Sc → Prop
  | .ls a => h.IsListIter o a i
  | .tu a => h.IsTupleIter o a i
  | .tx x => ∃ t, h.IsStrIter o (strIterType x) x t i
def Sc.cells : Sc → List Addr
  | .ls a => [a]
  | .tu a => [a]
  | .tx _ => []
def Sc.val (c : Sc) (v : V) : Prop := match c with
  | .ls a => v = .ref a
  | .tu a => v = .ref a
  | .tx x => v = .str x
section
variable {X : Cx} {pins : List (Addr × Obj)} {σ : L2.St} {H : Hp} {s : Shared}
theorem Sc.inj (I : Inv X pins σ H s) : ∀ {c : Sc} {xs ys : List V}, c.at X.K H xs → c.at X.K H ys → xs = ys
  | .ls _, _, _, h, h' => I.list_inj h h'
  | .tu _, _, _, h, h' => I.tuple_inj h h'
  | .tx _, _, _, h, h' => Eq.trans h (Eq.symm h')
end
section
variable {X : Cx} {W : WX}
end
end G

set_option Elab.async false
set_option linter.all false
set_option maxRecDepth 100000
set_option maxHeartbeats 4000000
namespace G
open PySem PySem.Spec PyProof.Rows L2
end G

set_option Elab.async false
set_option linter.all false
set_option maxRecDepth 100000
set_option maxHeartbeats 4000000
namespace L2
open PySem PySem.Spec PyProof.Rows
section
variable {X : Cx}
end
end L2
namespace G
open PySem PySem.Spec PyProof.Rows L2
section
variable {X : Cx} {W : WX} {kx vx tg iter : Expr} {ifs : List Expr} {scope : Scope} {own : List (Str × Nat)} {pos : Pos} {mi : MI} {t : MG} {tt : MT} {tk tv : ME}
end
end G

set_option Elab.async false
set_option linter.all false
set_option maxRecDepth 100000
set_option maxHeartbeats 4000000
namespace G
open PySem PySem.Spec PyProof.Rows L2
end G

set_option Elab.async false
set_option linter.all false
set_option maxRecDepth 100000
set_option maxHeartbeats 4000000
namespace G
open PySem PySem.Spec PyProof.Rows L2
section
variable {P : Program} {w : World} {A : Around} {E : Value → Shared → Prop} {s : Shared}
end
end G

set_option Elab.async false
set_option linter.all false
set_option maxRecDepth 100000
set_option maxHeartbeats 4000000
namespace G
open PySem PySem.Spec PyProof.Rows L2
section
variable {X : Cx} {pins : List (Addr × Obj)} {σ : L2.St} {H : Hp} {s : Shared}
variable {a : Expr} {ta : TE} {p p2 q pos : Pos}
end
end G

set_option Elab.async false
set_option linter.all false
set_option maxRecDepth 100000
set_option maxHeartbeats 4000000
namespace G
open PySem PySem.Spec PyProof.Rows L2
theorem Xt.less {F1 H1 F' H' : Hp} {μ1 μ' : List Addr} {D : Addr} {o : HO} (hD : H1 D = none) (e : Xt F1 (upd H1 D o) (μ1 ++ [D]) F' H' μ') : Xt F1 H1 μ1 F' H' μ' :=
  ⟨⟨e.sub, (List.prefix_append _ _).trans e.pre⟩, fun a u h n => e.keep a u (by rw [upd_ne (ne_of_none h hD)]; exact h) fun z => (List.mem_append.mp z).elim n fun z => ne_of_none h hD (List.mem_singleton.mp z)⟩
section
variable {X : Cx} {W : WX} {mi mi1 : MI} {t t1 : MG} {tt tt1 : MT} {te : ME}
variable {elt tg iter tg1 iter1 : Expr} {ifs ifs1 : List Expr} {scope : Scope} {own : List (Str × Nat)} {pos : Pos}
end
end G

set_option Elab.async false
set_option linter.all false
set_option maxRecDepth 100000
set_option maxHeartbeats 4000000
namespace G
open PySem PySem.Spec PyProof.Rows L2
section
variable {X : Cx}
end
end G

set_option Elab.async false
set_option linter.all false
set_option maxRecDepth 100000
set_option maxHeartbeats 4000000
namespace G
open PySem PySem.Spec PyProof.Rows L2
def bkN (n : Nat) (i : Int) : Nat := if i < 0 then (i + n + 1).toNat else min (i.toNat + 1) n
def bkL {α : Type} (xs : List α) (i : Int) : List α := (xs.take (bkN xs.length i)).reverse
theorem bkN_le (n : Nat) (i : Int) : bkN n i ≤ n := by
  unfold bkN
  split <;> omega
theorem back_bounds (n : Nat) (i : Int) : sliceBounds (some i) none (some (-1)) n = ((bkN n i : Int) - 1, -1, -1) := by
  unfold sliceBounds bkN
  by_cases c : i < 0
  · simp [c]
    omega
  · simp [c]
    omega
theorem back_range (c : Nat) : sliceRange ((c : Int) - 1) (-1) (-1) = (List.range c).reverse := by
  rw [PySem.W.krv_sliceRange]
  exact PySem.W.krv_range c
theorem back_pick (items : Array Value) (i : Int) : slicePick items (some i) none (some (-1)) = (bkL items.toList i).toArray := by
  unfold slicePick
  rw [back_bounds]
  dsimp only
  rw [back_range, List.filterMap_reverse]
  unfold bkL
  rw [Array.length_toList]
  congr 2
  have h := PySem.W.krv_all items
  have e : List.range items.size = List.range (bkN items.size i) ++ (List.range (items.size - bkN items.size i)).map (bkN items.size i + ·) := by
    rw [← List.range_add]
    congr 1
    have := bkN_le items.size i
    omega
  rw [e, List.filterMap_append] at h
  have hl : ∀ c, c ≤ items.size → ((List.range c).filterMap (items[·]?)).length = c := by
    intro c
    induction c with
    | zero => intro _; rfl
    | succ c ih =>
      intro hc
      rw [List.range_succ, List.filterMap_append, List.length_append, ih (by omega)]
      have : items[c]? = some items[c] := Array.getElem?_eq_getElem (by omega)
      simp [this]
  replace hl := hl _ (bkN_le items.size i)
  rw [← h, List.take_append_of_le_length (by rw [hl]; exact Nat.le_refl _), List.take_of_length_le (by rw [hl]; exact Nat.le_refl _)]
section
variable {X : Cx} {W : WX}
def dQ (K : PySem.W.Frag) (Q : VK) (a : Addr) (i : Int) (o : Option Int) (H : Hp) : Prop := o = some (-1) ∧ ∃ xs, SqL K H a xs ∧ ∀ p, H p = none → Q (.ref p) (upd H p (.lst (bkL xs i)))
def tBack (K : PySem.W.Frag) (te tl ts : TE) : TE := fun σ H Q => te σ H fun x H1 => ∃ a, x = .ref a ∧ tl σ H1 fun z H2 => ∃ i, z = .int i ∧ ts σ H2 fun y H3 => ∃ d, y = .int d ∧ dQ K Q a i (some d) H3
theorem pe_back {e le st : Expr} {te tl ts : TE} {p3 pos : Pos} (he : PE X e te) (hl : PE X le tl) (hs : PE X st ts) : PE X (.Subscript e (.Slice (some le) none (some st) p3) pos) (tBack X.K te tl ts) := ⟨fun pins s σ H Q I h => by
  refine Subscript_ (thn (he.run pins s σ H _ I h) fun v s1 ⟨x, H1, I1, r1, a, ex, q1⟩ => ?_)
  subst ex
  cases r1
  refine wpAny_Slice (thn ((po_some hl).run pins s1 σ H1 (fun o H2 => match o with
    | some i => ts σ H2 fun y H3 => ∃ d, y = .int d ∧ dQ X.K Q a i (some d) H3
    | none => False) I1 q1) fun vl s2 ⟨l, H2, I2, pl, q2⟩ => ?_)
  cases l with
  | none => exact q2.elim
  | some i =>
    refine thn (po_none.run pins s2 σ H2 (fun o H3 => o = none ∧ H3 = H2) I2 ⟨rfl, rfl⟩) fun vu s3 ⟨u, H3, I3, pu, eu, e3⟩ => ?_
    subst eu e3
    refine thn ((po_some hs).run pins s3 σ H3 (fun o H4 => dQ X.K Q a i o H4) I3 q2) fun vs s4 ⟨o, H4, I4, ps, eo, xs, hx, q⟩ => ?_
    subst eo
    have I5 : L2.Inv X pins σ H4 { s4 with heap := s4.heap.push { cls := .type "slice", data := .fields #[vl, vu, vs] } } := I4.kept (t' := s4.toks) fun b ob q => Heap.get?_push_of_some _ q
    show wpAny (model X.prog X.w) X.A (subscriptTail e (.Slice (some le) none (some st) p3) (.ref a) (.ref s4.heap.objs.size)) (EP X pins σ Q) X.xe { s4 with heap := s4.heap.push { cls := .type "slice", data := .fields #[vl, vu, vs] } }
    obtain ⟨its, r, ht, hz⟩ := I5.list hx
    have hlen := r.length
    refine tail_any (ops := [.ref a, .ref s4.heap.objs.size]) ht.isList.typeIs (PySem.slot_list_getitem.lookup) (wpAny_getItem_list_slice ht.isList (Heap.IsSliceOf.new _ vl vu vs) pl pu ps (by decide) ?_ (by rw [List.size_toArray]; omega)) (by with_unfolding_all rfl)
    rw [back_pick]
    have rb : Vals (bkL xs i) (bkL its i) := by
      unfold bkL
      rw [hlen]
      exact (r.take _).reverse
    exact ⟨.ref _, _, I5.laid (t' := s4.toks) (o := .lst (bkL xs i)) (fun b ob q => Heap.get?_push_of_some _ q) (Nat.le_refl _) ⟨by unfold bkL; rw [List.length_reverse, List.length_take]; omega, _, 0, rb, Heap.get?_push_size _ rfl⟩, rfl, q _ (I5.hok.fresh (Nat.le_refl _))⟩⟩
def sBack (S : Sto) (x z y : Val) : Option Val := match seqOf S x, z, y with
  | some (false, xs), .int i, .int d => if d = -1 then some (.lst (bkL xs i)) else none
  | _, _, _ => none
def isInt : Val → Bool
  | .int _ => true
  | _ => false
noncomputable def mBack (ma ml ms : ME) : ME := fun ρ S => bnd (ma ρ S) fun x S1 => if (seqOf S1 x).isSome = true then bnd (ml ρ S1) fun z S2 => if isInt z = true then bnd (ms ρ S2) fun y S3 => pur (sBack S3 x z y) S3 else none else none
theorem ge_back {e le st : Expr} {ma ml ms : ME} {p3 pos : Pos} (he : GE X W e ma) (hl : GE X W le ml) (hs : GE X W st ms) : GE X W (.Subscript e (.Slice (some le) none (some st) p3) pos) (mBack ma ml ms) := by
  refine ge_of (pe_back he hl hs) fun σ H Q h => ?_
  obtain ⟨ρ, F, μ, S, hS, hE, hP⟩ := h
  refine bind_tM hS hE hP.bind fun F1 μ1 S1 v w H1 e1 s1 q1 r1 p1 => ?_
  split at p1
  · rename_i hq
    obtain ⟨⟨b, ys⟩, es⟩ := Option.isSome_iff_exists.mp hq
    obtain ⟨a, vs, rfl, _, _⟩ := seqOf_ok s1 r1 es
    refine ⟨a, rfl, ?_⟩
    refine bind_tM s1 q1 p1.bind fun F2 μ2 S2 z w2 H2 e2 s2 q2 r2 p2 => ?_
    split at p2
    · rename_i hz
      cases z <;> try cases hz
      rename_i i
      cases r2
      refine ⟨i, rfl, ?_⟩
      refine bind_tM s2 q2 p2.bind fun F3 μ3 S3 y w3 H3 e3 s3 q3 r3 p3 => ?_
      obtain ⟨r, e, k⟩ := pur_post p3
      unfold sBack at e
      split at e
      · rename_i xs i' d es2 ez
        cases ez
        cases r3
        obtain ⟨hd, er⟩ := ite_some e
        clear e
        subst hd er
        obtain ⟨a', vs', ea, l, q⟩ := seqOf_ok s3 (r1.mono (e2.toExt.trans e3.toExt)) es2
        cases ea
        rcases q with ⟨z, _⟩ | ⟨_, q⟩
        · cases z
        · refine ⟨-1, rfl, rfl, vs', q, fun p hp => ?_⟩
          have lb : RepL X.K F3 μ3 (bkL xs i) (bkL vs' i) := by
            unfold bkL
            rw [l.length]
            exact (l.take _).reverse
          obtain ⟨k1, k2, k3⟩ := s3.newLst hp lb
          exact k _ _ _ k1 k2 k3
      · cases e
    · exact p2.elim
  · exact p1.elim
end
end G

set_option Elab.async false
set_option linter.all false
set_option maxRecDepth 100000
set_option maxHeartbeats 4000000
namespace G
open PySem PySem.Spec PyProof.Rows L2
def sMinP : Sto → List Val → Option Val := fun _ vs => match vs with
  | [.prs [.int a, .int b]] => some (.int (min a b))
  | _ => none
def sMaxP : Sto → List Val → Option Val := fun _ vs => match vs with
  | [.prs [.int a, .int b]] => some (.int (max a b))
  | _ => none
section
variable {X : Cx}
theorem prs_ints {pins : List (Addr × Obj)} {σ : L2.St} {H : Hp} {s : Shared} {F : Hp} {μ : List Addr} {S : Sto} {a b : Int} {w : V} (I : Inv X pins σ H s) (hS : RepS X.K X.mg F H μ S) (r : RepV X.K F μ (.prs [.int a, .int b]) w) :
    ∃ (p : Addr) (its : Array Value), w = .ref p ∧ s.heap.IsTuple p its ∧ IntsAre its.toList [a, b] := by
  cases r with
  | prs sq l =>
    have e := l.ints (ns := [a, b])
    subst e
    obtain ⟨us, rv, ht, _⟩ := I.tuple (same_seqT hS.sub sq)
    exact ⟨_, us.toArray, rfl, ht, by simpa using rv.ints (ns := [a, b])⟩
theorem c_minP (hc : X.calm = true) (hu : X.A.units + 64 < cLine) : GCa X (.builtin "min") sMinP := by
  intro pins s σ H xs us Q I r h
  obtain ⟨vs, F, μ, S, z, hS, rl, e, k⟩ := h
  unfold sMinP at e
  split at e
  · rename_i a b
    cases e
    obtain ⟨w, rfl, rv⟩ := rl.one
    obtain ⟨p, its, rfl, ht, hi⟩ := prs_ints I hS rv
    rw [Vals.ref1 r]
    refine PySem.W.min_tuple_data (x := .int a) (xs := [PyData.int b]) (I.ok.hd hc) ht (IntsAre.reads s.heap hi) (alikeInts [a, b]) (by have := depthInts [a, b]; rw [List.map_cons, List.map_cons, List.map_nil] at this; rw [this]; omega) fun i v h' tk bs hv hr hk => ?_
    have e := PySem.W.minD_ints a [b]
    rw [List.map_cons, List.map_nil] at e
    rw [e] at hr
    cases hr
    exact ⟨.int _, H, I.kept hk, ⟨_, rfl⟩, same_k k hS .int⟩
  · cases e
theorem c_maxP (hc : X.calm = true) (hu : X.A.units + 64 < cLine) : GCa X (.builtin "max") sMaxP := by
  intro pins s σ H xs us Q I r h
  obtain ⟨vs, F, μ, S, z, hS, rl, e, k⟩ := h
  unfold sMaxP at e
  split at e
  · rename_i a b
    cases e
    obtain ⟨w, rfl, rv⟩ := rl.one
    obtain ⟨p, its, rfl, ht, hi⟩ := prs_ints I hS rv
    rw [Vals.ref1 r]
    refine PySem.W.max_tuple_data (x := .int a) (xs := [PyData.int b]) (I.ok.hd hc) ht (IntsAre.reads s.heap hi) (alikeInts [a, b]) (by have := depthInts [a, b]; rw [List.map_cons, List.map_cons, List.map_nil] at this; rw [this]; omega) fun i v h' tk bs hv hr hk => ?_
    have e := PySem.W.maxD_ints a [b]
    rw [List.map_cons, List.map_nil] at e
    rw [e] at hr
    cases hr
    exact ⟨.int _, H, I.kept hk, ⟨_, rfl⟩, same_k k hS .int⟩
  · cases e
end
end G

set_option Elab.async false
set_option linter.all false
set_option maxRecDepth 100000
set_option maxHeartbeats 4000000
namespace G
open PySem PySem.Spec PyProof.Rows L2
section
variable {X : Cx}
end
end G

set_option Elab.async false
set_option linter.all false
set_option maxRecDepth 100000
set_option maxHeartbeats 4000000
namespace GZN
open PySem RZ
open PySem.Sem (wp)
section
variable {prog : Program} {w : World} {A : Around} {E : Value → Shared → Prop} {s : Shared} {z TI TO T i1 i2 l1 l2 : Addr} {f : Bool} {k1 k2 : Nat} {xs ys : Array Value} {x y a b : Value}
def ZG (h : Heap) (z TI TO : Addr) (f0 : Value) (f : Bool) : Prop :=
  h.get? z = some { cls := .type "zip", dict := none, data := .fields #[f0, .bool f, .bool false, .ref TI, .ref TO], slots := #[] }
def ZS (h : Heap) (z TI TO : Addr) : Prop := ∃ f0 f, ZG h z TI TO f0 f ∧ ((f0 = .none ∧ f = false) ∨ ∃ T : Addr, f0 = rawInt T)
theorem own_free (hz : ZS s.heap z TI TO) {Q : Bool → Shared → Prop} (h1 : ∀ f0 f, ZG s.heap z TI TO f0 f → Q true s)
    (h0 : ∀ h' (T : Addr), ZG h' z TI TO (rawInt T) true → Heap.SameBut z s.heap h' → Q false { s with heap := h' }) : wpAny (model prog w) A (Builtin.SmallTypes.ownedTupleIsFree (.ref z)) Q E s := by
  obtain ⟨f0, f, hz, hf⟩ := hz
  rcases hf with ⟨rfl, rfl⟩ | ⟨T, rfl⟩
  · unfold Builtin.SmallTypes.ownedTupleIsFree
    exact wpAny_bind (wpAny_field hz rfl (x := .none) rfl (wpAny_pure (h1 _ _ hz)))
  · cases e : s.heap.get? T with
    | some oT => exact wpAny_tupleHeld_zip (f := f) hz e fun h' hz' hs => h0 h' T hz' hs
    | none =>
      unfold Builtin.SmallTypes.ownedTupleIsFree
      refine wpAny_bind (wpAny_field hz rfl (x := rawInt T) rfl ?_)
      show wpAny _ _ (loadIfAlive ((T : Int).toNat) >>= _) _ _ _
      rw [Int.toNat_natCast]
      have al : ∀ {Q : Option Obj → Shared → Prop} {E : Value → Shared → Prop}, Q none s → wpAny (model prog w) A (loadIfAlive T) Q E s := fun {Q E} h => by
        have h' : Q (s.heap.get? T) s := by rw [e]; exact h
        exact fun _ _ _ => h'
      refine wpAny_bind (al ?_)
      simp only [Option.isNone_none, if_true]
      exact wpAny_pure (h1 _ _ hz)
def NextTo (h h' : Heap) (z TI TO i1 i2 l1 l2 : Addr) (k1 k2 : Nat) (x y : Value) : Prop :=
  ZS h' z TI TO ∧ (∃ a b, IsPair h' TO a b) ∧ h'.IsTupleIter i1 l1 (k1 + 1) ∧ h'.IsTupleIter i2 l2 (k2 + 1) ∧ IsPair h' h.objs.size x y ∧ h'.objs.size = h.objs.size + 1 ∧
    ∀ c o, c ≠ z → c ≠ TO → c ≠ i1 → c ≠ i2 → h.get? c = some o → h'.get? c = some o
theorem next_item {Q : Value → Shared → Prop} (D : ZipApart z TI TO i1 i2 l1 l2)
    (hz : ZS s.heap z TI TO) (hTI : IsPair s.heap TI (.ref i1) (.ref i2)) (hTO : IsPair s.heap TO a b)
    (h1 : s.heap.IsTupleIter i1 l1 k1) (h2 : s.heap.IsTupleIter i2 l2 k2) (hl1 : s.heap.IsTuple l1 xs) (hl2 : s.heap.IsTuple l2 ys) (hx : xs[k1]? = some x) (hy : ys[k2]? = some y)
    (hQ : ∀ h', NextTo s.heap h' z TI TO i1 i2 l1 l2 k1 k2 x y → Q (.ref s.heap.objs.size) { s with heap := h' }) :
    wpAny (model prog w) A (Builtin.«zip.__next__» ⟨[.ref z], []⟩) (fun fin s' => ∃ v, fin = .done (.ret v) ∧ Q v s') E s := by
  obtain ⟨g0, gf, hzg, _⟩ := id hz
  show wpAny _ _ (field (.ref z) 2 >>= _) _ _ _
  refine wpAny_bind (wpAny_field hzg rfl (x := .bool false) rfl ?_)
  show wpAny _ _ (field (.ref z) 3 >>= _) _ _ _
  refine wpAny_bind (wpAny_field hzg rfl (x := .ref TI) rfl ?_)
  refine wpAny_bind (wpAny_seqItems hTI rfl ?_)
  show wpAny _ _ (Builtin.SmallTypes.ownedTupleIsFree (.ref z) >>= _) _ _ _
  refine wpAny_bind (own_free hz (fun f0 f hz => ?_) fun g T hz0 hs0 => ?_)
  · simp only [if_true]
    refine wpAny_bind (wpAny_rule ?_)
    refine wpAny_bind (wpAny_field hz rfl (x := .ref TO) rfl ?_)
    refine wpAny_bind (wpAny_setField_rec hz (by simp) fun h₁ hz₁ hs₁ => ?_)
    replace hz₁ : ZG h₁ z TI TO .ellipsis f := hz₁
    refine wpAny_bind ?_
    simp only [List.zipIdx_cons, List.zipIdx_nil, List.forIn_cons, List.forIn_nil]
    refine wpAny_bind (wpAny_bind (wpAny_onRaise ?_))
    show wpAny _ _ (Builtin.SmallTypes.nextOf (.ref i1) >>= _) _ _ _
    refine wpAny_bind (nextOf_tuple_item (h1.extBut hs₁.extBut D.i1z) (hl1.extBut hs₁.extBut D.l1z) hx fun h₂ h1₂ hs₂ => wpAny_pure ?_)
    have hTO₂ : IsPair h₂ TO a b := hs₂.extBut _ _ D.TOi1 (hs₁.extBut _ _ D.TOz hTO)
    refine wpAny_bind (wpAny_seqItems hTO₂ rfl ?_)
    refine wpAny_bind (wpAny_updateSeq_pair hTO₂ fun h₃ hTO₃ hs₃ => ?_)
    replace hTO₃ : IsPair h₃ TO x b := hTO₃
    refine wpAny_bind (wpAny_letGo (wpAny_pure ?_))
    refine wpAny_bind (wpAny_bind (wpAny_onRaise ?_))
    show wpAny _ _ (Builtin.SmallTypes.nextOf (.ref i2) >>= _) _ _ _
    refine wpAny_bind (nextOf_tuple_item (((h2.extBut hs₁.extBut D.i2z).extBut hs₂.extBut D.i12.symm).extBut hs₃.extBut D.TOi2.symm)
      (((hl2.extBut hs₁.extBut D.l2z).extBut hs₂.extBut D.l2i1).extBut hs₃.extBut D.l2TO) hy fun h₄ h2₄ hs₄ => wpAny_pure ?_)
    have hTO₄ : IsPair h₄ TO x b := hs₄.extBut _ _ D.TOi2 hTO₃
    refine wpAny_bind (wpAny_seqItems hTO₄ rfl ?_)
    refine wpAny_bind (wpAny_updateSeq_pair hTO₄ fun h₅ hTO₅ hs₅ => ?_)
    replace hTO₅ : IsPair h₅ TO x y := hTO₅
    refine wpAny_bind (wpAny_letGo (wpAny_pure (wpAny_pure ?_)))
    refine wpAny_bind (wpAny_seqItems hTO₅ rfl ?_)
    refine wpAny_bind (wpAny_newTuple ?_)
    have hsz : h₅.objs.size = s.heap.objs.size := by rw [hs₅.1, hs₄.1, hs₃.1, hs₂.1, hs₁.1]
    have hz₅ : ZG h₅ z TI TO .ellipsis f := hs₅.extBut _ _ D.TOz.symm (hs₄.extBut _ _ D.i2z.symm (hs₃.extBut _ _ D.TOz.symm (hs₂.extBut _ _ D.i1z.symm hz₁)))
    have hk₅ : ∀ c o, c ≠ z → c ≠ TO → c ≠ i1 → c ≠ i2 → s.heap.get? c = some o → h₅.get? c = some o := fun c o c1 c2 c3 c4 e =>
      hs₅.extBut _ _ c2 (hs₄.extBut _ _ c4 (hs₃.extBut _ _ c2 (hs₂.extBut _ _ c3 (hs₁.extBut _ _ c1 e))))
    have h1₅ : h₅.IsTupleIter i1 l1 (k1 + 1) := ((h1₂.extBut hs₃.extBut D.TOi1.symm).extBut hs₄.extBut D.i12).extBut hs₅.extBut D.TOi1.symm
    have h2₅ : h₅.IsTupleIter i2 l2 (k2 + 1) := h2₄.extBut hs₅.extBut D.TOi2.symm
    have hzlt : z < h₅.objs.size := Heap.lt_size hz₅
    show wpAny _ _ (Builtin.SmallTypes.ownedTupleHandOut (.ref z) (.ref h₅.objs.size) >>= _) _ _ _
    refine wpAny_bind ?_
    unfold Builtin.SmallTypes.ownedTupleHandOut
    have hz₆ : ZG (h₅.push { cls := .type "tuple", data := .seq #[x, y] }) z TI TO .ellipsis f := Heap.get?_push_of_some _ hz₅
    refine wpAny_bind (wpAny_setField_rec hz₆ (by simp) fun h₇ hz₇ hs₇ => ?_)
    replace hz₇ : ZG h₇ z TI TO (rawInt h₅.objs.size) f := hz₇
    refine wpAny_setField_rec hz₇ (by simp) fun h₈ hz₈ hs₈ => ?_
    replace hz₈ : ZG h₈ z TI TO (rawInt h₅.objs.size) false := hz₈
    have up : ∀ c o, c ≠ z → h₅.get? c = some o → h₈.get? c = some o := fun c o c1 e => hs₈.extBut _ _ c1 (hs₇.extBut _ _ c1 (Heap.get?_push_of_some _ e))
    have hT₈ : IsPair h₈ h₅.objs.size x y := hs₈.extBut _ _ (Nat.ne_of_gt hzlt) (hs₇.extBut _ _ (Nat.ne_of_gt hzlt) (Heap.get?_push_size _ rfl))
    have hz8 : h₈.objs.size = h₅.objs.size + 1 := by rw [hs₈.1, hs₇.1, Heap.size_push]
    rw [hsz] at hz₈ hT₈ hz8
    refine wpAny_pure ⟨_, rfl, ?_⟩
    show Q (.ref h₅.objs.size) _
    rw [hsz]
    exact hQ h₈ ⟨⟨_, _, hz₈, .inr ⟨_, rfl⟩⟩, ⟨x, y, up _ _ D.TOz hTO₅⟩, h1₅.at fun o e => up _ o D.i1z e, h2₅.at fun o e => up _ o D.i2z e, hT₈, hz8, fun c o c1 c2 c3 c4 e => up c o c1 (hk₅ c o c1 c2 c3 c4 e)⟩
  · simp only [Bool.false_eq_true, if_false]
    refine wpAny_bind ?_
    rw [← Array.forIn_toList]
    simp only [List.forIn_cons, List.forIn_nil]
    refine wpAny_bind (wpAny_bind (wpAny_holding ?_))
    show wpAny _ _ (Builtin.SmallTypes.nextOf (.ref i1) >>= _) _ _ _
    refine wpAny_bind (nextOf_tuple_item (h1.extBut hs0.extBut D.i1z) (hl1.extBut hs0.extBut D.l1z) hx fun h₂ h1₂ hs₂ => wpAny_pure ?_)
    refine wpAny_pure ?_
    refine wpAny_bind (wpAny_bind (wpAny_holding ?_))
    show wpAny _ _ (Builtin.SmallTypes.nextOf (.ref i2) >>= _) _ _ _
    refine wpAny_bind (nextOf_tuple_item ((h2.extBut hs0.extBut D.i2z).extBut hs₂.extBut D.i12.symm) ((hl2.extBut hs0.extBut D.l2z).extBut hs₂.extBut D.l2i1) hy fun h₄ h2₄ hs₄ => wpAny_pure ?_)
    refine wpAny_pure (wpAny_pure ?_)
    show wpAny _ _ (newTuple [x, y] >>= _) _ _ _
    refine wpAny_bind (wpAny_newTuple ?_)
    have hsz : h₄.objs.size = s.heap.objs.size := by rw [hs₄.1, hs₂.1, hs0.1]
    have hz₄ : ZG h₄ z TI TO (rawInt T) true := hs₄.extBut _ _ D.i2z.symm (hs₂.extBut _ _ D.i1z.symm hz0)
    have hk : ∀ c o, c ≠ z → c ≠ i1 → c ≠ i2 → s.heap.get? c = some o → h₄.get? c = some o := fun c o c1 c2 c3 e => hs₄.extBut _ _ c3 (hs₂.extBut _ _ c2 (hs0.extBut _ _ c1 e))
    have hpr : IsPair (h₄.push { cls := .type "tuple", data := .seq #[x, y] }) h₄.objs.size x y := Heap.get?_push_size _ rfl
    have hz5 : (h₄.push { cls := .type "tuple", data := .seq #[x, y] }).objs.size = h₄.objs.size + 1 := Heap.size_push ..
    rw [hsz] at hpr hz5
    refine wpAny_pure ⟨_, rfl, ?_⟩
    show Q (.ref h₄.objs.size) _
    rw [hsz]
    exact hQ _ ⟨⟨_, _, Heap.get?_push_of_some _ hz₄, .inr ⟨_, rfl⟩⟩, ⟨a, b, Heap.get?_push_of_some _ (hk _ _ D.TOz D.TOi1 D.TOi2 hTO)⟩, (h1₂.extBut hs₄.extBut D.i12).at fun o e => Heap.get?_push_of_some _ e, h2₄.at fun o e => Heap.get?_push_of_some _ e, hpr, hz5, fun c o c1 _ c3 c4 e => Heap.get?_push_of_some _ (hk c o c1 c3 c4 e)⟩
theorem next_end {Q : Fin → Shared → Prop} (hh : A.handled = none) (D : ZipApart z TI TO i1 i2 l1 l2)
    (hz : ZS s.heap z TI TO) (hTI : IsPair s.heap TI (.ref i1) (.ref i2)) (hTO : IsPair s.heap TO a b)
    (h1 : s.heap.IsTupleIter i1 l1 k1) (h2 : s.heap.IsTupleIter i2 l2 k2) (hl1 : s.heap.IsTuple l1 xs) (hl2 : s.heap.IsTuple l2 ys) (hend : xs[k1]? = none ∨ ys[k2]? = none)
    (hE : ∀ h' e, (∀ c o, c ≠ z → c ≠ TO → c ≠ i1 → c ≠ i2 → s.heap.get? c = some o → h'.get? c = some o) → (∃ o, h'.get? e = some o ∧ o.cls = .type "StopIteration") → E (.ref e) { s with heap := h' }) :
    wpAny (model prog w) A (Builtin.«zip.__next__» ⟨[.ref z], []⟩) Q E s := by
  obtain ⟨g0, gf, hzg, _⟩ := id hz
  show wpAny _ _ (field (.ref z) 2 >>= _) _ _ _
  refine wpAny_bind (wpAny_field hzg rfl (x := .bool false) rfl ?_)
  show wpAny _ _ (field (.ref z) 3 >>= _) _ _ _
  refine wpAny_bind (wpAny_field hzg rfl (x := .ref TI) rfl ?_)
  refine wpAny_bind (wpAny_seqItems hTI rfl ?_)
  show wpAny _ _ (Builtin.SmallTypes.ownedTupleIsFree (.ref z) >>= _) _ _ _
  refine wpAny_bind (own_free hz (fun f0 f hz => ?_) fun g T hz0 hs0 => ?_)
  · simp only [if_true]
    refine wpAny_bind (wpAny_rule ?_)
    refine wpAny_bind (wpAny_field hz rfl (x := .ref TO) rfl ?_)
    refine wpAny_bind (wpAny_setField_rec hz (by simp) fun h₁ hz₁ hs₁ => ?_)
    replace hz₁ : ZG h₁ z TI TO .ellipsis f := hz₁
    refine wpAny_bind ?_
    simp only [List.zipIdx_cons, List.zipIdx_nil, List.forIn_cons, List.forIn_nil]
    refine wpAny_bind (wpAny_bind (wpAny_onRaise ?_))
    show wpAny _ _ (Builtin.SmallTypes.nextOf (.ref i1) >>= _) _ _ _
    cases hx : xs[k1]? with
    | none =>
      refine wpAny_bind (nextOf_tuple_end hh (h1.extBut hs₁.extBut D.i1z) (hl1.extBut hs₁.extBut D.l1z) hx fun h₂ e hs₂ he => ?_)
      obtain ⟨oe, hoe, hce⟩ := he
      have hz₂ : ZG h₂ z TI TO .ellipsis f := hs₂ _ _ D.i1z.symm hz₁
      have hez : e ≠ z := fun x => by subst x; rw [hz₂] at hoe; cases hoe; simp at hce
      refine wpAny_setField_rec hz₂ (by simp) fun h₃ _ hs₃ => hE h₃ e (fun c o c1 _ c3 _ x => hs₃.extBut _ _ c1 (hs₂ _ _ c3 (hs₁.extBut _ _ c1 x))) ⟨oe, hs₃.extBut _ _ hez hoe, hce⟩
    | some x =>
      have hy : ys[k2]? = none := by rcases hend with h | h; rw [hx] at h; cases h; exact h
      refine wpAny_bind (nextOf_tuple_item (h1.extBut hs₁.extBut D.i1z) (hl1.extBut hs₁.extBut D.l1z) hx fun h₂ h1₂ hs₂ => wpAny_pure ?_)
      have hTO₂ : IsPair h₂ TO a b := hs₂.extBut _ _ D.TOi1 (hs₁.extBut _ _ D.TOz hTO)
      refine wpAny_bind (wpAny_seqItems hTO₂ rfl ?_)
      refine wpAny_bind (wpAny_updateSeq_pair hTO₂ fun h₃ hTO₃ hs₃ => ?_)
      refine wpAny_bind (wpAny_letGo (wpAny_pure ?_))
      refine wpAny_bind (wpAny_bind (wpAny_onRaise ?_))
      show wpAny _ _ (Builtin.SmallTypes.nextOf (.ref i2) >>= _) _ _ _
      refine wpAny_bind (nextOf_tuple_end hh (((h2.extBut hs₁.extBut D.i2z).extBut hs₂.extBut D.i12.symm).extBut hs₃.extBut D.TOi2.symm)
        (((hl2.extBut hs₁.extBut D.l2z).extBut hs₂.extBut D.l2i1).extBut hs₃.extBut D.l2TO) hy fun h₄ e hs₄ he => ?_)
      obtain ⟨oe, hoe, hce⟩ := he
      have hz₄ : ZG h₄ z TI TO .ellipsis f := hs₄ _ _ D.i2z.symm (hs₃.extBut _ _ D.TOz.symm (hs₂.extBut _ _ D.i1z.symm hz₁))
      have hez : e ≠ z := fun x => by subst x; rw [hz₄] at hoe; cases hoe; simp at hce
      refine wpAny_setField_rec hz₄ (by simp) fun h₅ _ hs₅ => hE h₅ e (fun c o c1 c2 c3 c4 x => hs₅.extBut _ _ c1 (hs₄ _ _ c4 (hs₃.extBut _ _ c2 (hs₂.extBut _ _ c3 (hs₁.extBut _ _ c1 x))))) ⟨oe, hs₅.extBut _ _ hez hoe, hce⟩
  · simp only [Bool.false_eq_true, if_false]
    refine wpAny_bind ?_
    rw [← Array.forIn_toList]
    simp only [List.forIn_cons, List.forIn_nil]
    refine wpAny_bind (wpAny_bind (wpAny_holding ?_))
    show wpAny _ _ (Builtin.SmallTypes.nextOf (.ref i1) >>= _) _ _ _
    cases hx : xs[k1]? with
    | none =>
      refine wpAny_bind (nextOf_tuple_end hh (h1.extBut hs0.extBut D.i1z) (hl1.extBut hs0.extBut D.l1z) hx fun h₂ e hs₂ he => ?_)
      exact hE h₂ e (fun c o c1 _ c3 _ x => hs₂ _ _ c3 (hs0.extBut _ _ c1 x)) he
    | some x =>
      have hy : ys[k2]? = none := by rcases hend with h | h; rw [hx] at h; cases h; exact h
      refine wpAny_bind (nextOf_tuple_item (h1.extBut hs0.extBut D.i1z) (hl1.extBut hs0.extBut D.l1z) hx fun h₂ h1₂ hs₂ => wpAny_pure ?_)
      refine wpAny_pure ?_
      refine wpAny_bind (wpAny_bind (wpAny_holding ?_))
      show wpAny _ _ (Builtin.SmallTypes.nextOf (.ref i2) >>= _) _ _ _
      refine wpAny_bind (nextOf_tuple_end hh ((h2.extBut hs0.extBut D.i2z).extBut hs₂.extBut D.i12.symm) ((hl2.extBut hs0.extBut D.l2z).extBut hs₂.extBut D.l2i1) hy fun h₄ e hs₄ he => ?_)
      exact hE h₄ e (fun c o c1 _ c3 c4 x => hs₄ _ _ c4 (hs₂.extBut _ _ c3 (hs0.extBut _ _ c1 x))) he
end
section
variable {prog : Program} {w : World} {A : Around} {E : Value → Shared → Prop} {s : Shared} {z TI TO i1 i2 l1 l2 : Addr} {k1 k2 : Nat} {xs ys : Array Value} {x y a b : Value}
theorem pyNext_item {Q : Option Value → Shared → Prop} (D : ZipApart z TI TO i1 i2 l1 l2)
    (hz : ZS s.heap z TI TO) (hTI : IsPair s.heap TI (.ref i1) (.ref i2)) (hTO : IsPair s.heap TO a b)
    (h1 : s.heap.IsTupleIter i1 l1 k1) (h2 : s.heap.IsTupleIter i2 l2 k2) (hl1 : s.heap.IsTuple l1 xs) (hl2 : s.heap.IsTuple l2 ys) (hx : xs[k1]? = some x) (hy : ys[k2]? = some y)
    (hQ : ∀ h', NextTo s.heap h' z TI TO i1 i2 l1 l2 k1 k2 x y → Q (some (.ref s.heap.objs.size)) { s with heap := h' }) : wpAny (model prog w) A (pyNext (.ref z)) Q E s := by
  obtain ⟨g0, gf, hzg, _⟩ := id hz
  have hT : s.TypeIs (.ref z) "zip" := ⟨_, hzg, rfl⟩
  unfold pyNext
  exact wpAny_bind (wpAny_attempt (wpAny_callSpecial?_slot (name := Str.ofString "__next__") hT F.slot_zip_next
    (wpAny_call_entry F.slot_zip_next hT F.entry_zip_next
      (next_item D hz hTI hTO h1 h2 hl1 hl2 hx hy fun h' n => wpAny_pure (hQ h' n)) (F.args_zip_next_1 _))))
theorem pyNext_end {Q : Option Value → Shared → Prop} (hh : A.handled = none) (D : ZipApart z TI TO i1 i2 l1 l2)
    (hz : ZS s.heap z TI TO) (hTI : IsPair s.heap TI (.ref i1) (.ref i2)) (hTO : IsPair s.heap TO a b)
    (h1 : s.heap.IsTupleIter i1 l1 k1) (h2 : s.heap.IsTupleIter i2 l2 k2) (hl1 : s.heap.IsTuple l1 xs) (hl2 : s.heap.IsTuple l2 ys) (hend : xs[k1]? = none ∨ ys[k2]? = none)
    (hQ : ∀ h', (∀ c o, c ≠ z → c ≠ TO → c ≠ i1 → c ≠ i2 → s.heap.get? c = some o → h'.get? c = some o) → Q none { s with heap := h' }) : wpAny (model prog w) A (pyNext (.ref z)) Q E s := by
  obtain ⟨g0, gf, hzg, _⟩ := id hz
  have hT : s.TypeIs (.ref z) "zip" := ⟨_, hzg, rfl⟩
  unfold pyNext
  refine wpAny_bind (wpAny_attempt (wpAny_callSpecial?_slot (name := Str.ofString "__next__") hT F.slot_zip_next
    (wpAny_call_entry F.slot_zip_next hT F.entry_zip_next (next_end hh D hz hTI hTO h1 h2 hl1 hl2 hend fun h' e hk he => ?_) (F.args_zip_next_1 _))))
  obtain ⟨o, ho, hc⟩ := he
  refine wpAny_bind (wpAny_isInstance (T := "StopIteration") (b := true) ⟨o, ho, hc⟩ isSubtype_stop ?_)
  exact wpAny_pure (hQ _ hk)
end
end GZN
namespace L2
open PySem PySem.Spec PyProof.Rows RZ GZN
theorem turn_zipN {P : Program} {w : World} {K : PySem.W.Frag} {xn : Str} {xp : Pos} {a b z TI TO i1 i2 : Addr} (D : ZipApart z TI TO i1 i2 a b) :
    Turn P w K (.Name xn xp) (ItzT K a b) [z, TI, TO, i1, i2] z (fun i h => ZS h z TI TO ∧ IsPair h TI (.ref i1) (.ref i2) ∧ (∃ x y, IsPair h TO x y) ∧ h.IsTupleIter i1 a i ∧ h.IsTupleIter i2 b i) where
  mem := by simp
  obj := fun i h st c hc => by
    obtain ⟨⟨_, _, hz, _⟩, hTI, ⟨x, y, hTO⟩, ⟨o1, e1, _, d1⟩, ⟨o2, e2, _, d2⟩⟩ := st
    have e' : c = z ∨ c = TI ∨ c = TO ∨ c = i1 ∨ c = i2 := by simpa using hc
    rcases e' with q | q | q | q | q
    · rw [q]; exact ⟨_, hz, fun v q => nomatch q⟩
    · rw [q]; exact ⟨_, hTI, fun v q => nomatch q⟩
    · rw [q]; exact ⟨_, hTO, fun v q => nomatch q⟩
    · rw [q]; exact ⟨o1, e1, fun v q => by rw [d1] at q; cases q⟩
    · rw [q]; exact ⟨o2, e2, fun v q => by rw [d2] at q; cases q⟩
  keep := fun i h h' st k => by
    obtain ⟨⟨f0, f, hz, hf⟩, hTI, ⟨x, y, hTO⟩, h1, h2⟩ := st
    exact ⟨⟨f0, f, k z (by simp) _ hz, hf⟩, k TI (by simp) _ hTI, ⟨x, y, k TO (by simp) _ hTO⟩, h1.at fun o q => k i1 (by simp) o q, h2.at fun o q => k i2 (by simp) o q⟩
  item := by
    intro X hP hw hK hc i pins s σ H E I hf st hg
    subst hP hw hK
    obtain ⟨hz, hTI, ⟨x0, y0, hTO⟩, h1, h2⟩ := st
    obtain ⟨xs, ys, x, y, hqx, hqy, hx, hy⟩ := hg
    obtain ⟨its, rv, p, _⟩ := I.tuple hqx
    obtain ⟨its2, rv2, p2, _⟩ := I.tuple hqy
    obtain ⟨u, hu, ru⟩ := rv.get hx
    obtain ⟨u2, hu2, ru2⟩ := rv2.get hy
    obtain ⟨g0, gf, hzg, _⟩ := id hz
    refine pyNext_item D hz hTI hTO h1 h2 p p2 (x := u) (y := u2) (by simpa using hu) (by simpa using hu2) fun h' n => ?_
    obtain ⟨z', TO', h1', h2', hT2, hsz, hk⟩ := n
    refine ⟨_, rfl, wpAny_of_eq (rfl : letOwnedTupleGo (.Name xn xp) (.ref z) (.ref s.heap.objs.size) = pure ()) ?_⟩
    have new : ObjOk X.prog X.w (upd H s.heap.objs.size (.tup [x, y])) h' s.heap.objs.size (.tup [x, y]) :=
      ⟨by show 2 ≤ sizeLine; decide, [u, u2], .cons ru (.cons ru2 .nil), ⟨_, hT2, rfl, _, rfl⟩⟩
    have I1 : Inv X pins σ (upd H s.heap.objs.size (.tup [x, y])) { s with heap := h' } :=
      I.turnedNew (t' := s.toks) (ch := [z, TI, TO, i1, i2]) (fun c o hb q => hk c o (fun q' => hb (by simp [q'])) (fun q' => hb (by simp [q'])) (fun q' => hb (by simp [q'])) (fun q' => hb (by simp [q'])) q) hf (Nat.le_refl _) new
    refine ⟨.ref s.heap.objs.size, _, I1, rfl, ⟨_, x, y, rfl, I.hok.fresh (Nat.le_refl _), rfl, fun l hl => by rw [I.tuple_inj hl hqx]; exact hx, fun l hl => by rw [I.tuple_inj hl hqy]; exact hy⟩, ⟨z', ?_, TO', h1', h2'⟩, fun c hcm => ?_⟩
    · exact hk _ _ D.TIz D.TITO D.TIi1 D.TIi2 hTI
    · have hlt : c < s.heap.objs.size := by
        have e' : c = z ∨ c = TI ∨ c = TO ∨ c = i1 ∨ c = i2 := by simpa using hcm
        rcases e' with q | q | q | q | q
        · rw [q]; exact Heap.lt_size hzg
        · rw [q]; exact Heap.lt_size hTI
        · rw [q]; exact Heap.lt_size hTO
        · rw [q]; obtain ⟨_, e1, _⟩ := h1; exact Heap.lt_size e1
        · rw [q]; obtain ⟨_, e2, _⟩ := h2; exact Heap.lt_size e2
      rw [upd_ne (Nat.ne_of_lt hlt)]
      exact (hf c hcm).1
  done := by
    intro X hP hw hK hc i pins s σ H E I hf st hg
    subst hP hw hK
    obtain ⟨hz, hTI, ⟨x0, y0, hTO⟩, h1, h2⟩ := st
    obtain ⟨xs, ys, hqx, hqy, hend⟩ := hg
    obtain ⟨its, rv, p, _⟩ := I.tuple hqx
    obtain ⟨its2, rv2, p2, _⟩ := I.tuple hqy
    have l1 := rv.length
    have l2 := rv2.length
    have he : its.toArray[i]? = none ∨ its2.toArray[i]? = none := by
      rcases hend with q | q
      · exact .inl (by simp; omega)
      · exact .inr (by simp; omega)
    exact pyNext_end (I.ok.hd hc) D hz hTI hTO h1 h2 p p2 he fun h' hk => ⟨rfl, I.turnedL (t' := s.toks) (ch := [z, TI, TO, i1, i2]) (fun c o hb q =>
      hk c o (fun q' => hb (by simp [q'])) (fun q' => hb (by simp [q'])) (fun q' => hb (by simp [q'])) (fun q' => hb (by simp [q'])) q) hf⟩
  self := fun A i s Q E st h => by
    obtain ⟨⟨f0, f, hz, _⟩, _⟩ := st
    have hT : s.TypeIs (.ref z) "zip" := ⟨_, hz, rfl⟩
    refine wpAny_pyIter_slot hT F.slot_zip_iter (wpAny_call_entry F.slot_zip_iter hT F.entry_zip_iter ?_ (F.args_zip_iter_1 _))
    show wpAny _ _ (ret (.ref z)) _ _ s
    exact wpAny_pure ⟨_, rfl, "zip", _, hT, F.slot_zip_next.lookup, h⟩
def iZipN (K : PySem.W.Frag) (ta : TA) : TI := fun σ H R => ta σ H fun vs H1 => ∃ a b xs ys, vs = [.ref a, .ref b] ∧ SqT K H1 a xs ∧ SqT K H1 b ys ∧ R (ItzT K a b) H1
theorem pi_zipN {X : Cx} {e e2 : Expr} {ta : TA} {p pos : Pos} {xn : Str} {xp : Pos} (hg : Gl X "zip") (hm : X.mg "zip" = none) (ha : PA X [e, e2] ta)
    (hs : starEach [e, e2] X.env = (false, eval e X.env) :: starEach [e2] X.env := by rfl) (hpl : (backTo pos (starEach [e2] X.env)).any (·.1) = false := by rfl) :
    PI X (.Name xn xp) (.Call (.Name "zip" p) [e, e2] [] pos) (iZipN X.K ta) := by
  refine ⟨fun pins s σ H R I h => ?_⟩
  refine Call_ (ld_blt I hg hm PyProof.Rows.boot_zip (PyProof.Rows.callWith_type1 (thn (ha.run pos pins s σ H _ I h) fun us s1 ⟨vs, H1, I1, r1, q1⟩ => ?_) hs hpl))
  obtain ⟨a, b, xs, ys, ex, hqx, hqy, q⟩ := q1
  subst ex
  cases r1 with
  | cons r rr =>
    cases rr with
    | cons r' rr =>
      cases rr
      cases r
      cases r'
      have fresh5 : ∀ c, c ∈ [s1.heap.objs.size + 4, s1.heap.objs.size + 2, s1.heap.objs.size + 3, s1.heap.objs.size, s1.heap.objs.size + 1] → FpOk X pins H1 c := fun c hcm => by
        have e' : c = s1.heap.objs.size + 4 ∨ c = s1.heap.objs.size + 2 ∨ c = s1.heap.objs.size + 3 ∨ c = s1.heap.objs.size ∨ c = s1.heap.objs.size + 1 := by simpa using hcm
        have hle : s1.heap.objs.size ≤ c := by
          rcases e' with z | z | z | z | z
          · rw [z]; exact Nat.le_add_right _ _
          · rw [z]; exact Nat.le_add_right _ _
          · rw [z]; exact Nat.le_add_right _ _
          · rw [z]; exact Nat.le_refl _
          · rw [z]; exact Nat.le_add_right _ _
        exact I1.fpOk hle (I1.hok.fresh hle)
      obtain ⟨its, rv, p1, _⟩ := I1.tuple hqx
      obtain ⟨its2, rv2, p2, _⟩ := I1.tuple hqy
      obtain ⟨o1, ho1, _⟩ := id p1
      obtain ⟨o2, ho2, _⟩ := id p2
      refine call_zipT (show s1.heap.IsTuple a its.toArray from p1) (show s1.heap.IsTuple b its2.toArray from p2) fun h' hz hTI hTO h1 h2 hsz hk => wpAny_pyIter_zip hz ?_
      have I2 : Inv X pins σ H1 { s1 with heap := h' } := I1.kept (t' := s1.toks) hk
      exact ⟨s1.heap.objs.size + 4, [s1.heap.objs.size + 4, s1.heap.objs.size + 2, s1.heap.objs.size + 3, s1.heap.objs.size, s1.heap.objs.size + 1], _, _, H1, rfl, I2, turn_zipN (PySem.W.ktu_apart s1.heap.objs.size a b (Heap.lt_size ho1) (Heap.lt_size ho2)), ⟨⟨_, _, hz, .inl ⟨rfl, rfl⟩⟩, hTI, ⟨_, _, hTO⟩, h1, h2⟩, fresh5, q⟩
theorem sw_false {elt : Expr} {gs : List Comprehension} {scope : Scope} {pos py : Pos} {y : Str} {l : Nat} {env : Env} (ha : (scope.names.any fun (n, k) => n == y && (k == .local || k == .cell)) = true) : swapsWith (.ListComp elt gs scope pos) (some (.Name y py)) l env = pure false := by
  unfold swapsWith
  simp only [ha, Bool.not_true, Bool.and_false]
end L2
namespace G
open PySem PySem.Spec PyProof.Rows L2
def mZipN (ms : MA) : MI := fun ρ S => bnd (ms ρ S) fun vs S1 => match vs with
  | [.tup xs, .tup ys] => some (.ok (zipV xs ys, []) S1)
  | _ => none
theorem gi_zipN {X : Cx} {W : WX} {e e2 : Expr} {ms : MA} {p pos : Pos} {xn : Str} {xp : Pos} (hg : Gl X "zip") (hm : X.mg "zip" = none) (ha : GA X W [e, e2] ms)
    (hs : starEach [e, e2] X.env = (false, eval e X.env) :: starEach [e2] X.env := by rfl) (hpl : (backTo pos (starEach [e2] X.env)).any (·.1) = false := by rfl) : GI X W (.Name xn xp) (.Call (.Name "zip" p) [e, e2] [] pos) (mZipN ms) := ⟨fun pins s σ H R I h => by
  refine (pi_zipN hg hm ha hs hpl).run pins s σ H R I ?_
  obtain ⟨ρ, F, μ, S, hS, hE, hP⟩ := h
  refine bind_tMA hS hE hP.bind fun F1 μ1 S1 v w H1 e1 s1 q1 r1 p1 => ?_
  split at p1
  · rename_i xs ys
    obtain ⟨w1, w2, rfl, rr, rs⟩ := r1.two
    have fin := fun J wk => p1 F1 μ1 H1 (Xt.refl _ _ _) s1 J wk
    cases rr with
    | tup qa la =>
      cases rs with
      | tup qb lb =>
        refine ⟨_, _, _, _, rfl, same_seqT s1.sub qa.sq, same_seqT s1.sub qb.sq, fin _ ⟨fun F2 H2 μ2 S2 i y xt s2 go hy => ?_, fun F2 H2 μ2 S2 xt s2 go => ?_⟩⟩
        · obtain ⟨x, y, hx, hy', rfl⟩ := zip_get hy
          obtain ⟨u, hu, ru⟩ := la.get hx
          obtain ⟨u2, hu2, ru2⟩ := lb.get hy'
          have a2 := same_seqT s2.sub (same_seqT xt.sub qa.sq)
          have b2 := same_seqT s2.sub (same_seqT xt.sub qb.sq)
          refine ⟨⟨_, _, u, u2, a2, b2, hu, hu2⟩, fun w' H3 y => ?_⟩
          obtain ⟨T, z1, z2, rfl, hT, rfl, hz1, hz2⟩ := y
          have k1 := hz1 _ a2
          have k2 := hz2 _ b2
          rw [hu] at k1
          rw [hu2] at k2
          cases k1
          cases k2
          exact pair_new s2 hT (ru.mono xt.toExt) (ru2.mono xt.toExt)
        · refine ⟨_, _, same_seqT s2.sub (same_seqT xt.sub qa.sq), same_seqT s2.sub (same_seqT xt.sub qb.sq), ?_⟩
          rw [zip_len, ← la.length, ← lb.length]
          omega
  · exact p1.elim⟩
end G

set_option Elab.async false
set_option linter.all false
set_option maxRecDepth 100000
set_option maxHeartbeats 4000000
namespace G
open PySem PySem.Spec PyProof.Rows L2

abbrev tI (xs : List Int) : Val := .tup (xs.map Val.int)
abbrev lI (xs : List Int) : Val := .lst (xs.map Val.int)
def Runs (N : List Str) (m : MS) (ds : List Val) (S : Sto) (v' : Val) (S' : Sto) : Prop := ∃ fl v S1, m (startE N ds) S = some (fl, S1) ∧ retOf fl = some v ∧ Leaves S.length (v, S1) (v', S')
open Classical in
noncomputable def runK (N : List Str) (m : MS) (R : List Val → Sto → Val → Sto → Prop) : Fn := okF fun ds S => if h : ∃ p : Val × Sto, Runs N m ds S p.1 p.2 ∧ R ds S p.1 p.2 then some h.choose else none
theorem keeps_runK {N : List Str} {n : Nat} {m : MS} {R : List Val → Sto → Val → Sto → Prop} : Keeps N n m (runK N m R) := by
  intro ds S o hl h
  unfold runK okF prs at h
  split at h
  · rename_i v S' e
    cases h
    have e' : (open Classical in if h : ∃ p : Val × Sto, Runs N m ds S p.1 p.2 ∧ R ds S p.1 p.2 then some h.choose else none) = some (v, S') := e
    split at e'
    · rename_i hx
      have h1 := hx.choose_spec.1
      rw [Option.some.inj e'] at h1
      exact h1
    · cases e'
  · cases h
theorem keeps_len {N N' : List Str} {n : Nat} {m : MS} {f : Fn} (h : N.length = N'.length) (k : Keeps N n m f) : Keeps N' n m f := by
  intro ds S o hl e
  have := k ds S o hl e
  unfold startE at this ⊢
  rw [← h]
  exact this
theorem runK_ok {N : List Str} {m : MS} {R : List Val → Sto → Val → Sto → Prop} {ds : List Val} {S : Sto} {v : Val} {S' : Sto} (h : Runs N m ds S v S') (r : R ds S v S') : ∃ v1 S1, runK N m R ds S = some (.ok v1 S1) ∧ R ds S v1 S1 := by
  have hx : ∃ p : Val × Sto, Runs N m ds S p.1 p.2 ∧ R ds S p.1 p.2 := ⟨(v, S'), h, r⟩
  refine ⟨hx.choose.1, hx.choose.2, ?_, hx.choose_spec.2⟩
  unfold runK okF
  simp only [dif_pos hx]
  rfl
theorem runs_same {N : List Str} {m : MS} {ds : List Val} {S S1 : Sto} {v : Val} (h : m (startE N ds) S = some (.ret v, S1)) : Runs N m ds S v S1 := ⟨_, _, _, h, rfl, .same⟩
def seqK (r : SRes) (n : MS) : SRes := match r with
  | some (.next ρ, S) => n ρ S
  | r => r
theorem e_seq (m n : MS) (ρ : Ev) (S : Sto) : sSeq m n ρ S = seqK (m ρ S) n := by
  show (match m ρ S with | some (.next ρ', S') => n ρ' S' | r => r) = _
  rfl
theorem seqK_next (ρ : Ev) (S : Sto) (n : MS) : seqK (some (.next ρ, S)) n = n ρ S := rfl
theorem seqK_ret (v : Val) (S : Sto) (n : MS) : seqK (some (.ret v, S)) n = some (.ret v, S) := rfl
theorem seqK_brk (ρ : Ev) (S : Sto) (n : MS) : seqK (some (.brk ρ, S)) n = some (.brk ρ, S) := rfl
theorem seqK_exc (ρ : Ev) (e : Exc) (S : Sto) (n : MS) : seqK (some (.exc ρ e, S)) n = some (.exc ρ e, S) := rfl
theorem seqK_cont (ρ : Ev) (S : Sto) (n : MS) : seqK (some (.cont ρ, S)) n = some (.cont ρ, S) := rfl
theorem bnd_ok {α β : Type} (a : α) (S : Sto) (k : α → Sto → Res β) : bnd (some (.ok a S)) k = k a S := rfl
theorem bndN_ok {α β : Type} (a : α) (S : Sto) (k : α → Sto → Res β) : bndN (some (.ok a S)) k = k a S := rfl
theorem bns_ok {α : Type} (ρ : Ev) (a : α) (S : Sto) (k : α → Sto → SRes) : bns ρ (some (.ok a S)) k = k a S := rfl
theorem pur_some {α : Type} (a : α) (S : Sto) : pur (some a) S = some (.ok a S) := rfl
theorem prs_some {α : Type} (a : α) (S : Sto) : prs (some (a, S)) = some (.ok a S) := rfl
def varK (o : Option (Option Val)) (S : Sto) : Res Val := match o with
  | some (some v) => some (.ok v S)
  | _ => none
theorem e_var (i : Nat) (ρ : Ev) (S : Sto) : mVar i ρ S = varK ρ[i]? S := by
  rfl
theorem varK_some (v : Val) (S : Sto) : varK (some (some v)) S = some (.ok v S) := rfl
theorem toB_bl (b : Bool) : toB (.bl b) = some b := rfl
theorem op_int (f : Int → Int → Option Int) (S : Sto) (i j : Int) : iOp f S (.int i) (.int j) = (f i j).map Val.int := rfl
theorem cmp_int (f : Int → Int → Bool) (S : Sto) (i j : Int) : iCmp f S (.int i) (.int j) = some (.bl (f i j)) := rfl
theorem add_int (S : Sto) (i j : Int) : sAdd S (.int i) (.int j) = some (.int (i + j)) := rfl
theorem add_lst (S : Sto) (xs ys : List Val) (h : xs.length + ys.length ≤ sizeLine) : sAdd S (.lst xs) (.lst ys) = some (.lst (xs ++ ys)) := by simp [sAdd, lstOf, h]
theorem add_tup (S : Sto) (xs ys : List Val) (h : xs.length + ys.length ≤ sizeLine) : sAdd S (.tup xs) (.tup ys) = some (.tup (xs ++ ys)) := by simp [sAdd, h]
theorem iadd_int (S : Sto) (i j : Int) : sIadd S (.int i) (.int j) = some (.int (i + j)) := rfl
theorem some_map {α β : Type} (f : α → β) (a : α) : Option.map f (some a) = some (f a) := rfl
theorem seq_tup (S : Sto) (xs : List Val) : seqOf S (.tup xs) = some (true, xs) := rfl
theorem seq_lst (S : Sto) (xs : List Val) : seqOf S (.lst xs) = some (false, xs) := rfl
theorem seq_scr (S : Sto) (xs : List Int) : seqOf S (.scr xs) = some (false, xs.map Val.int) := rfl
theorem seq_cell {S : Sto} {k : Nat} {xs : List Val} (h : S[k]? = some (.lst xs)) : seqOf S (.cell k) = some (false, xs) := by simp [seqOf, lstOf, h]
theorem cell_of {S : Sto} {k : Nat} {xs : List Val} (h : S[k]? = some (.lst xs)) : cellOf S (.cell k) = some (k, xs) := by simp [cellOf, h]
theorem lst_of {S : Sto} {k : Nat} {xs : List Val} (h : S[k]? = some (.lst xs)) : lstOf S (.cell k) = some xs := by simp [lstOf, h]
theorem lst_lst (S : Sto) (xs : List Val) : lstOf S (.lst xs) = some xs := rfl
theorem len_tup (S : Sto) (xs : List Val) : sLen S [.tup xs] = some (.int xs.length) := rfl
theorem len_lst (S : Sto) (xs : List Val) : sLen S [.lst xs] = some (.int xs.length) := rfl
theorem len_scr (S : Sto) (xs : List Int) : sLen S [.scr xs] = some (.int xs.length) := by simp [sLen, seqOf]
theorem gT_of {n : Nat} {g : MGs} {S : Sto} {v : Val} {ρ : Ev} {c : Bool} {xs : List Val} (h : seqOf S v = some (c, xs)) (hl : xs.length = n) : gT n g S v ρ = g S xs ρ := by
  have e : prsOf v = none := by
    cases v <;> first | rfl | (simp [seqOf, lstOf] at h)
  simp [gT, e, h, hl]
theorem gT_tup (n : Nat) (g : MGs) (S : Sto) (xs : List Val) (ρ : Ev) : gT n g S (.tup xs) ρ = if xs.length = n then g S xs ρ else none := rfl
theorem gT_lst (n : Nat) (g : MGs) (S : Sto) (xs : List Val) (ρ : Ev) : gT n g S (.lst xs) ρ = if xs.length = n then g S xs ρ else none := rfl
theorem gs_cons (f : MG) (g : MGs) (S : Sto) (v : Val) (r : List Val) (ρ : Ev) : gsCons f g S (v :: r) ρ = (f S v ρ).bind (g S r) := rfl
theorem gs_nil (S : Sto) (ρ : Ev) : gsNil S [] ρ = some ρ := rfl
theorem bind_some {α β : Type} (a : α) (f : α → Option β) : (some a).bind f = f a := rfl
def asgK (o : Option Ev) (S : Sto) : SRes := match o with
  | some ρ1 => some (.next ρ1, S)
  | none => none
theorem asgK_some (ρ : Ev) (S : Sto) : asgK (some ρ) S = some (.next ρ, S) := rfl
def subK (ρ : Ev) (o : Option Sto) : SRes := match o with
  | some S => some (.next ρ, S)
  | none => none
theorem subK_some (ρ : Ev) (S : Sto) : subK ρ (some S) = some (.next ρ, S) := rfl
theorem set_cell {S : Sto} {k : Nat} {xs : List Val} {i : Int} {v : Val} (h : S[k]? = some (.lst xs)) (h0 : 0 ≤ i) (h1 : i < xs.length) : sSetI S (.cell k) (.int i) v = some (S.set k (.lst (xs.set i.toNat v))) := by
  simp only [sSetI, cell_of h]
  rw [show ixN xs.length i = some i.toNat from by unfold ixN; simp [h0, h1]]
theorem ap_cell {S : Sto} {k : Nat} {xs : List Val} {v : Val} (h : S[k]? = some (.lst xs)) (hl : xs.length < sizeLine) : sAppend S (.cell k) [v] = some (.non, S.set k (.lst (xs ++ [v]))) := by simp [sAppend, cell_of h, hl]
theorem atI_nat {α : Type} {xs : List α} {i : Int} (h0 : 0 ≤ i) (h1 : i < xs.length) : atI xs i = xs[i.toNat]? := by
  unfold atI
  rw [show ixN xs.length i = some i.toNat from by unfold ixN; simp [show ¬ i < 0 by omega, h0, h1]]
  rfl
theorem ix_seq {S : Sto} {v : Val} {i : Int} {c : Bool} {xs : List Val} {x : Val} (h : seqOf S v = some (c, xs)) (hx : atI xs i = some x) : sIx S v (.int i) = some x := by
  cases v <;> simp_all [sIx, seqOf, lstOf]
theorem ix_lI {S : Sto} {xs : List Int} {i : Int} (h0 : 0 ≤ i) (h1 : i < xs.length) : sIx S (lI xs) (.int i) = some (.int (xs.getD i.toNat 0)) := by
  refine ix_seq rfl ?_
  rw [atI_nat h0 (by simpa using h1), List.getElem?_map, List.getD_eq_getElem?_getD]
  rw [List.getElem?_eq_getElem (by omega)]
  rfl
theorem int_bl (S : Sto) (b : Bool) : sInt S [.bl b] = some (.int (if b then 1 else 0)) := rfl
theorem int_int (S : Sto) (i : Int) : sInt S [.int i] = some (.int i) := rfl
theorem abs_int (S : Sto) (i : Int) : sAbs S [.int i] = some (.int (if i < 0 then -i else i)) := rfl
theorem max2_int (S : Sto) (i j : Int) : sMax2 S [.int i, .int j] = some (.int (if j > i then j else i)) := rfl
theorem min2_int (S : Sto) (i j : Int) : sMin2 S [.int i, .int j] = some (.int (if j < i then j else i)) := rfl
theorem tuple_tup (S : Sto) (xs : List Val) : sTuple S [.tup xs] = some (.tup xs) := rfl
theorem tuple_lst (S : Sto) (xs : List Val) : sTuple S [.lst xs] = some (.tup xs) := rfl
theorem rev_tup (S : Sto) (xs : List Val) : sRev S (.tup xs) = some (.tup xs.reverse) := rfl
theorem rev_lst (S : Sto) (xs : List Val) : sRev S (.lst xs) = some (.lst xs.reverse) := rfl
theorem sz : sizeLine = 16777216 := by decide
def rgK1 (vs : List Val) (S : Sto) : Res (List Val × Gd) := match vs with
  | [.int j] => if -(2 ^ 62) ≤ j ∧ j < 2 ^ 62 then some (.ok (rangeL 0 j, []) S) else none
  | _ => none
def rgK2 (vs : List Val) (S : Sto) : Res (List Val × Gd) := match vs with
  | [.int i, .int j] => if -(2 ^ 62) ≤ i ∧ i < 2 ^ 62 ∧ -(2 ^ 62) ≤ j ∧ j < 2 ^ 62 then some (.ok (rangeL i j, []) S) else none
  | _ => none
theorem e_range1 (ms : MA) (ρ : Ev) (S : Sto) : mRange1 ms ρ S = bnd (ms ρ S) rgK1 := rfl
theorem e_range2 (ms : MA) (ρ : Ev) (S : Sto) : mRange2 ms ρ S = bnd (ms ρ S) rgK2 := rfl
theorem range1_ok {j : Int} {S : Sto} (h0 : -4611686018427387904 ≤ j) (h1 : j < 4611686018427387904) : rgK1 [.int j] S = some (.ok (rangeL 0 j, []) S) := by
  unfold rgK1
  simp only
  rw [if_pos ⟨h0, h1⟩]
theorem range2_ok {i j : Int} {S : Sto} (h0 : -4611686018427387904 ≤ i) (h1 : i < 4611686018427387904) (h2 : -4611686018427387904 ≤ j) (h3 : j < 4611686018427387904) : rgK2 [.int i, .int j] S = some (.ok (rangeL i j, []) S) := by
  unfold rgK2
  simp only
  rw [if_pos ⟨h0, h1, h2, h3⟩]
theorem p10_6 : fPow 10 6 = some 1000000 := by decide
theorem p10_10 : fPow 10 10 = some 10000000000 := by decide
theorem p10_12 : fPow 10 12 = some 1000000000000 := by decide
theorem p10_18 : fPow 10 18 = some 1000000000000000000 := by decide
theorem cut_to {α : Type} {xs : List α} {i : Int} (h : 0 ≤ i) : cutL xs none (some i) = xs.take i.toNat := by
  unfold cutL
  simp only [HT.sIx, if_neg (show ¬ i < 0 by omega), List.drop_zero, Nat.sub_zero]
  rw [List.take_eq_take_iff]
  omega
theorem cut_from {α : Type} {xs : List α} {i : Int} (h : 0 ≤ i) : cutL xs (some i) none = xs.drop i.toNat := by
  unfold cutL
  simp only [HT.sIx, if_neg (show ¬ i < 0 by omega)]
  by_cases hl : i.toNat ≤ xs.length
  · rw [Nat.min_eq_left hl, List.take_of_length_le (by simp)]
  · rw [Nat.min_eq_right (by omega), List.drop_eq_nil_of_le (Nat.le_refl _), List.drop_eq_nil_of_le (by omega)]
    simp
theorem sl_tup (S : Sto) (xs : List Val) (lo hi : Option Int) : sSlice S (.tup xs) lo hi = some (.tup (cutL xs lo hi)) := rfl
theorem sl_lst (S : Sto) (xs : List Val) (lo hi : Option Int) : sSlice S (.lst xs) lo hi = some (.lst (cutL xs lo hi)) := rfl
theorem sl_scr (S : Sto) (xs : List Int) (lo hi : Option Int) : sSlice S (.scr xs) lo hi = some (.lst (cutL (xs.map Val.int) lo hi)) := rfl
theorem items_tup (S : Sto) (xs : List Val) : itemsOf S (.tup xs) = some (xs, []) := rfl
theorem items_lst (S : Sto) (xs : List Val) : itemsOf S (.lst xs) = some (xs, []) := rfl

def kO2b (f : Sto → Val → Val → Option Val) (x y : Val) (S : Sto) : Res Val := pur (f S x y) S
def kO2 (f : Sto → Val → Val → Option Val) (mb : ME) (ρ : Ev) (x : Val) (S : Sto) : Res Val := bnd (mb ρ S) (kO2b f x)
theorem e_o2 (f : Sto → Val → Val → Option Val) (ma mb : ME) (ρ : Ev) (S : Sto) : mO2 f ma mb ρ S = bnd (ma ρ S) (kO2 f mb ρ) := rfl
theorem e_kO2 (f : Sto → Val → Val → Option Val) (mb : ME) (ρ : Ev) (x : Val) (S : Sto) : kO2 f mb ρ x S = bnd (mb ρ S) (kO2b f x) := rfl
theorem e_kO2b (f : Sto → Val → Val → Option Val) (x y : Val) (S : Sto) : kO2b f x y S = pur (f S x y) S := rfl
def kO1 (f : Sto → Val → Option Val) (x : Val) (S : Sto) : Res Val := pur (f S x) S
theorem e_o1 (f : Sto → Val → Option Val) (ma : ME) (ρ : Ev) (S : Sto) : mO1 f ma ρ S = bnd (ma ρ S) (kO1 f) := rfl
theorem e_kO1 (f : Sto → Val → Option Val) (x : Val) (S : Sto) : kO1 f x S = pur (f S x) S := rfl
def kConsb (x : Val) (xs : List Val) (S : Sto) : Res (List Val) := some (.ok (x :: xs) S)
def kCons (ms : MA) (ρ : Ev) (x : Val) (S : Sto) : Res (List Val) := bnd (ms ρ S) (kConsb x)
theorem e_cons (m : ME) (ms : MA) (ρ : Ev) (S : Sto) : mCons m ms ρ S = bnd (m ρ S) (kCons ms ρ) := rfl
theorem e_kCons (ms : MA) (ρ : Ev) (x : Val) (S : Sto) : kCons ms ρ x S = bnd (ms ρ S) (kConsb x) := rfl
theorem e_kConsb (x : Val) (xs : List Val) (S : Sto) : kConsb x xs S = some (.ok (x :: xs) S) := rfl
theorem e_nil (ρ : Ev) (S : Sto) : mNil ρ S = some (.ok [] S) := rfl
theorem e_c (v : Val) (ρ : Ev) (S : Sto) : mC v ρ S = some (.ok v S) := rfl
def kCa (f : Sto → List Val → Option Val) (xs : List Val) (S : Sto) : Res Val := pur (f S xs) S
theorem e_ca (f : Sto → List Val → Option Val) (ms : MA) (ρ : Ev) (S : Sto) : mCa f ms ρ S = bnd (ms ρ S) (kCa f) := rfl
theorem e_kCa (f : Sto → List Val → Option Val) (xs : List Val) (S : Sto) : kCa f xs S = pur (f S xs) S := rfl
def kCs (f : Sto → List Val → Option (Val × Sto)) (xs : List Val) (S : Sto) : Res Val := prs (f S xs)
theorem e_cs (f : Sto → List Val → Option (Val × Sto)) (ms : MA) (ρ : Ev) (S : Sto) : mCs f ms ρ S = bnd (ms ρ S) (kCs f) := rfl
theorem e_kCs (f : Sto → List Val → Option (Val × Sto)) (xs : List Val) (S : Sto) : kCs f xs S = prs (f S xs) := rfl
def kTB (v : Val) (S : Sto) : Res Bool := pur (toB v) S
theorem e_tb (m : ME) (ρ : Ev) (S : Sto) : mTB m ρ S = bnd (m ρ S) kTB := rfl
theorem e_kTB (v : Val) (S : Sto) : kTB v S = pur (toB v) S := rfl
def kTr (v : Val) (S : Sto) : Res Bool := pur (truth S v) S
theorem e_tr (m : ME) (ρ : Ev) (S : Sto) : mTr m ρ S = bnd (m ρ S) kTr := rfl
theorem e_kTr (v : Val) (S : Sto) : kTr v S = pur (truth S v) S := rfl
def kAndT (n : MT) (ρ : Ev) (b : Bool) (S : Sto) : Res Bool := if b then n ρ S else some (.ok false S)
theorem e_andT (m n : MT) (ρ : Ev) (S : Sto) : mAndT m n ρ S = bnd (m ρ S) (kAndT n ρ) := rfl
theorem e_kAndT (n : MT) (ρ : Ev) (b : Bool) (S : Sto) : kAndT n ρ b S = if b then n ρ S else some (.ok false S) := rfl
def kOrT (n : MT) (ρ : Ev) (b : Bool) (S : Sto) : Res Bool := if b then some (.ok true S) else n ρ S
theorem e_orT (m n : MT) (ρ : Ev) (S : Sto) : mOrT m n ρ S = bnd (m ρ S) (kOrT n ρ) := rfl
theorem e_kOrT (n : MT) (ρ : Ev) (b : Bool) (S : Sto) : kOrT n ρ b S = if b then some (.ok true S) else n ρ S := rfl
def kNotT (b : Bool) (S : Sto) : Res Bool := some (.ok (!b) S)
theorem e_notT (m : MT) (ρ : Ev) (S : Sto) : mNotT m ρ S = bnd (m ρ S) kNotT := rfl
theorem e_kNotT (b : Bool) (S : Sto) : kNotT b S = some (.ok (!b) S) := rfl
def kIf (m n : ME) (ρ : Ev) (b : Bool) (S : Sto) : Res Val := if b then m ρ S else n ρ S
theorem e_if (t : MT) (m n : ME) (ρ : Ev) (S : Sto) : mIf t m n ρ S = bnd (t ρ S) (kIf m n ρ) := rfl
theorem e_kIf (m n : ME) (ρ : Ev) (b : Bool) (S : Sto) : kIf m n ρ b S = if b then m ρ S else n ρ S := rfl
theorem e_no (ρ : Ev) (S : Sto) : mNo ρ S = some (.ok none S) := rfl
def kPart (v : Val) (S : Sto) : Res (Option Int) := mPart (mC v) [] S
theorem e_part (m : ME) (ρ : Ev) (S : Sto) : mPart m ρ S = bnd (m ρ S) kPart := by
  unfold mPart kPart
  rfl
theorem e_kPart (i : Int) (S : Sto) : kPart (.int i) S = some (.ok (some i) S) := by
  unfold kPart mPart mC
  simp [bnd]
def kSlc (f : Sto → Val → Option Int → Option Int → Option Val) (x : Val) (l h : Option Int) (S : Sto) : Res Val := pur (f S x l h) S
def kSlb (f : Sto → Val → Option Int → Option Int → Option Val) (mh : MO) (ρ : Ev) (x : Val) (l : Option Int) (S : Sto) : Res Val := bnd (mh ρ S) (kSlc f x l)
def kSl (f : Sto → Val → Option Int → Option Int → Option Val) (ml mh : MO) (ρ : Ev) (x : Val) (S : Sto) : Res Val := bnd (ml ρ S) (kSlb f mh ρ x)
theorem e_sl (f : Sto → Val → Option Int → Option Int → Option Val) (m : ME) (ml mh : MO) (ρ : Ev) (S : Sto) : mSl f m ml mh ρ S = bnd (m ρ S) (kSl f ml mh ρ) := rfl
theorem e_kSl (f : Sto → Val → Option Int → Option Int → Option Val) (ml mh : MO) (ρ : Ev) (x : Val) (S : Sto) : kSl f ml mh ρ x S = bnd (ml ρ S) (kSlb f mh ρ x) := rfl
theorem e_kSlb (f : Sto → Val → Option Int → Option Int → Option Val) (mh : MO) (ρ : Ev) (x : Val) (l : Option Int) (S : Sto) : kSlb f mh ρ x l S = bnd (mh ρ S) (kSlc f x l) := rfl
theorem e_kSlc (f : Sto → Val → Option Int → Option Int → Option Val) (x : Val) (l h : Option Int) (S : Sto) : kSlc f x l h S = pur (f S x l h) S := rfl
def kMtb (f : Sto → Val → List Val → Option (Val × Sto)) (o : Val) (vs : List Val) (S : Sto) : Res Val := prs (f S o vs)
def kMt (f : Sto → Val → List Val → Option (Val × Sto)) (ms : MA) (ρ : Ev) (o : Val) (S : Sto) : Res Val := if (lstOf S o).isSome = true then bnd (ms ρ S) (kMtb f o) else none
theorem e_mt (f : Sto → Val → List Val → Option (Val × Sto)) (mo : ME) (ms : MA) (ρ : Ev) (S : Sto) : mMt f mo ms ρ S = bnd (mo ρ S) (kMt f ms ρ) := rfl
theorem e_kMt (f : Sto → Val → List Val → Option (Val × Sto)) (ms : MA) (ρ : Ev) (o : Val) (S : Sto) : kMt f ms ρ o S = if (lstOf S o).isSome = true then bnd (ms ρ S) (kMtb f o) else none := rfl
theorem e_kMtb (f : Sto → Val → List Val → Option (Val × Sto)) (o : Val) (vs : List Val) (S : Sto) : kMtb f o vs S = prs (f S o vs) := rfl
def kVal (v : Val) (S : Sto) : Res (List Val × Gd) := pur (itemsOf S v) S
theorem e_val (m : ME) (ρ : Ev) (S : Sto) : mVal m ρ S = bnd (m ρ S) kVal := rfl
theorem e_kVal (v : Val) (S : Sto) : kVal v S = pur (itemsOf S v) S := rfl
def kEnumb (o : Option (List Val × Gd)) (S : Sto) : Res (List Val × Gd) := match o with
  | some (xs, g) => some (.ok (pairsOf' xs, g) S)
  | none => none
def kEnum (vs : List Val) (S : Sto) : Res (List Val × Gd) := match vs with
  | [v] => kEnumb (itemsOf S v) S
  | _ => none
theorem e_enum (m : MA) (ρ : Ev) (S : Sto) : mEnum m ρ S = bnd (m ρ S) kEnum := rfl
theorem e_kEnum (v : Val) (S : Sto) : kEnum [v] S = kEnumb (itemsOf S v) S := rfl
theorem e_kEnumb (xs : List Val) (g : Gd) (S : Sto) : kEnumb (some (xs, g)) S = some (.ok (pairsOf' xs, g) S) := rfl
theorem e_yes (ρ : Ev) (S : Sto) : mYes ρ S = some (.ok true S) := rfl
def kCal (n : Nat) (f : Fn) (vs : List Val) (S : Sto) : Res Val := if vs.length = n then f vs S else none
theorem e_call (n : Nat) (f : Fn) (ms : MA) (ρ : Ev) (S : Sto) : mCal n f ms ρ S = bnd (ms ρ S) (kCal n f) := rfl
theorem e_kCal (n : Nat) (f : Fn) (vs : List Val) (S : Sto) : kCal n f vs S = if vs.length = n then f vs S else none := rfl
theorem e_snil (ρ : Ev) (S : Sto) : sNil ρ S = some (.next ρ, S) := rfl
theorem e_brk (ρ : Ev) (S : Sto) : sBrk ρ S = some (.brk ρ, S) := rfl
theorem e_cont (ρ : Ev) (S : Sto) : sCont ρ S = some (.cont ρ, S) := rfl
theorem e_retN (ρ : Ev) (S : Sto) : sRetN ρ S = some (.ret .non, S) := rfl
def kExpr (ρ : Ev) (v : Val) (S : Sto) : SRes := some (.next ρ, S)
theorem e_expr (m : ME) (ρ : Ev) (S : Sto) : sExpr m ρ S = bns ρ (m ρ S) (kExpr ρ) := rfl
theorem e_kExpr (ρ : Ev) (v : Val) (S : Sto) : kExpr ρ v S = some (.next ρ, S) := rfl
def kRet (v : Val) (S : Sto) : SRes := some (.ret v, S)
theorem e_ret (m : ME) (ρ : Ev) (S : Sto) : sRet m ρ S = bns ρ (m ρ S) kRet := rfl
theorem e_kRet (v : Val) (S : Sto) : kRet v S = some (.ret v, S) := rfl
def kSIf (m n : MS) (ρ : Ev) (b : Bool) (S : Sto) : SRes := if b then m ρ S else n ρ S
theorem e_sif (t : MT) (m n : MS) (ρ : Ev) (S : Sto) : sIf t m n ρ S = bns ρ (t ρ S) (kSIf m n ρ) := rfl
theorem e_kSIf (m n : MS) (ρ : Ev) (b : Bool) (S : Sto) : kSIf m n ρ b S = if b then m ρ S else n ρ S := rfl
def kSet (i : Nat) (ρ : Ev) (v : Val) (S : Sto) : SRes := some (.next (ρ.set i (some v)), S)
theorem e_set (i : Nat) (m : ME) (ρ : Ev) (S : Sto) : sSet i m ρ S = bns ρ (m ρ S) (kSet i ρ) := rfl
theorem e_kSet (i : Nat) (ρ : Ev) (v : Val) (S : Sto) : kSet i ρ v S = some (.next (ρ.set i (some v)), S) := rfl
def kPar (i j : Nat) (ρ : Ev) (vs : List Val) (S : Sto) : SRes := match vs with
  | [v, w] => some (.next ((ρ.set i (some v)).set j (some w)), S)
  | _ => none
theorem e_par (i j : Nat) (ms : MA) (ρ : Ev) (S : Sto) : sPar i j ms ρ S = bns ρ (ms ρ S) (kPar i j ρ) := rfl
theorem e_kPar (i j : Nat) (ρ : Ev) (v w : Val) (S : Sto) : kPar i j ρ [v, w] S = some (.next ((ρ.set i (some v)).set j (some w)), S) := rfl
def kPar3 (i j l : Nat) (ρ : Ev) (vs : List Val) (S : Sto) : SRes := match vs with
  | [u, v, w] => some (.next (((ρ.set i (some u)).set j (some v)).set l (some w)), S)
  | _ => none
theorem e_par3 (i j l : Nat) (ms : MA) (ρ : Ev) (S : Sto) : sPar3 i j l ms ρ S = bns ρ (ms ρ S) (kPar3 i j l ρ) := rfl
theorem e_kPar3 (i j l : Nat) (ρ : Ev) (u v w : Val) (S : Sto) : kPar3 i j l ρ [u, v, w] S = some (.next (((ρ.set i (some u)).set j (some v)).set l (some w)), S) := rfl
def kAugc (i : Nat) (ρ : Ev) (o : Option Val) (S : Sto) : SRes := match o with
  | some z => some (.next (ρ.set i (some z)), S)
  | none => none
def kAugb (i : Nat) (f : Sto → Val → Val → Option Val) (ρ : Ev) (x y : Val) (S : Sto) : SRes := kAugc i ρ (f S x y) S
def kAug (i : Nat) (f : Sto → Val → Val → Option Val) (m : ME) (ρ : Ev) (S : Sto) (o : Option (Option Val)) : SRes := match o with
  | some (some x) => bns ρ (m ρ S) (kAugb i f ρ x)
  | _ => none
theorem e_aug (i : Nat) (f : Sto → Val → Val → Option Val) (m : ME) (ρ : Ev) (S : Sto) : sAug i f m ρ S = kAug i f m ρ S ρ[i]? := rfl
theorem e_kAug (i : Nat) (f : Sto → Val → Val → Option Val) (m : ME) (ρ : Ev) (S : Sto) (x : Val) : kAug i f m ρ S (some (some x)) = bns ρ (m ρ S) (kAugb i f ρ x) := rfl
theorem e_kAugb (i : Nat) (f : Sto → Val → Val → Option Val) (ρ : Ev) (x y : Val) (S : Sto) : kAugb i f ρ x y S = kAugc i ρ (f S x y) S := rfl
theorem e_kAugc (i : Nat) (ρ : Ev) (z : Val) (S : Sto) : kAugc i ρ (some z) S = some (.next (ρ.set i (some z)), S) := rfl
def kTup (xs : List Val) (S : Sto) : Res Val := if xs.length ≤ sizeLine then some (.ok (.tup xs) S) else none
theorem e_tup (ms : MA) (ρ : Ev) (S : Sto) : mTup ms ρ S = bnd (ms ρ S) kTup := rfl
theorem e_kTup (xs : List Val) (S : Sto) : kTup xs S = if xs.length ≤ sizeLine then some (.ok (.tup xs) S) else none := rfl
def kLst (xs : List Val) (S : Sto) : Res Val := if xs.length ≤ sizeLine then some (.ok (.lst xs) S) else none
theorem e_lst (ms : MA) (ρ : Ev) (S : Sto) : mLst ms ρ S = bnd (ms ρ S) kLst := rfl
theorem e_kLst (xs : List Val) (S : Sto) : kLst xs S = if xs.length ≤ sizeLine then some (.ok (.lst xs) S) else none := rfl
def kNew (xs : List Val) (S : Sto) : Res Val := if xs.length ≤ sizeLine then some (.ok (.cell S.length) (S ++ [.lst xs])) else none
theorem e_new (ms : MA) (ρ : Ev) (S : Sto) : mNew ms ρ S = bnd (ms ρ S) kNew := rfl
theorem e_kNew (xs : List Val) (S : Sto) : kNew xs S = if xs.length ≤ sizeLine then some (.ok (.cell S.length) (S ++ [.lst xs])) else none := rfl
def kLcb (ys : List Val) (S : Sto) : Res Val := some (.ok (.lst ys) S)
noncomputable def kLc (t : MG) (tt : MT) (te : ME) (ρ : Ev) (a : List Val × Gd) (S : Sto) : Res Val := bndN (lcL a.2 t tt te ρ a.1 S []) kLcb
theorem e_lc (mi : MI) (t : MG) (tt : MT) (te : ME) (vs : List Nat) (ρ : Ev) (S : Sto) : mLc mi t tt te vs ρ S = bnd (mi ρ S) (kLc t tt te (wipeE ρ vs)) := rfl
theorem e_kLc (t : MG) (tt : MT) (te : ME) (ρ : Ev) (xs : List Val) (g : Gd) (S : Sto) : kLc t tt te ρ (xs, g) S = bndN (lcL g t tt te ρ xs S []) kLcb := rfl
theorem e_kLcb (ys : List Val) (S : Sto) : kLcb ys S = some (.ok (.lst ys) S) := rfl
def kLcCb (ys : List Val) (S : Sto) : Res Val := some (.ok (.cell S.length) (S ++ [.lst ys]))
noncomputable def kLcC (t : MG) (tt : MT) (te : ME) (ρ : Ev) (a : List Val × Gd) (S : Sto) : Res Val := bndN (lcL a.2 t tt te ρ a.1 S []) kLcCb
theorem e_lcC (mi : MI) (t : MG) (tt : MT) (te : ME) (vs : List Nat) (ρ : Ev) (S : Sto) : mLcC mi t tt te vs ρ S = bnd (mi ρ S) (kLcC t tt te (wipeE ρ vs)) := rfl
theorem e_kLcC (t : MG) (tt : MT) (te : ME) (ρ : Ev) (xs : List Val) (g : Gd) (S : Sto) : kLcC t tt te ρ (xs, g) S = bndN (lcL g t tt te ρ xs S []) kLcCb := rfl
theorem e_kLcCb (ys : List Val) (S : Sto) : kLcCb ys S = some (.ok (.cell S.length) (S ++ [.lst ys])) := rfl
noncomputable def kFor (t : MG) (b : MS) (ρ : Ev) (a : List Val × Gd) (S : Sto) : SRes := forL a.2 t b a.1 ρ S
theorem e_for (mi : MI) (t : MG) (b : MS) (ρ : Ev) (S : Sto) : sFor mi t b ρ S = bns ρ (mi ρ S) (kFor t b ρ) := rfl
theorem e_kFor (t : MG) (b : MS) (ρ : Ev) (xs : List Val) (g : Gd) (S : Sto) : kFor t b ρ (xs, g) S = forL g t b xs ρ S := rfl
theorem e_gN (i : Nat) (S : Sto) (v : Val) (ρ : Ev) : gN i S v ρ = some (ρ.set i (some v)) := rfl
def kGs (g : MGs) (S : Sto) (r : List Val) (ρ : Ev) : Option Ev := g S r ρ
theorem e_kGs (g : MGs) (S : Sto) (r : List Val) (ρ : Ev) : kGs g S r ρ = g S r ρ := rfl
def kAsg (g : MG) (ρ : Ev) (v : Val) (S : Sto) : SRes := asgK (g S v ρ) S
theorem e_kAsg (g : MG) (ρ : Ev) (v : Val) (S : Sto) : kAsg g ρ v S = asgK (g S v ρ) S := rfl
theorem e_asg (g : MG) (m : ME) (ρ : Ev) (S : Sto) : sAsg g m ρ S = bns ρ (m ρ S) (kAsg g ρ) := by
  unfold sAsg
  congr
def kSubc (f : Sto → Val → Val → Val → Option Sto) (ρ : Ev) (v o i : Val) (S : Sto) : SRes := subK ρ (f S o i v)
def kSubb (f : Sto → Val → Val → Val → Option Sto) (mi : ME) (ρ : Ev) (v o : Val) (S : Sto) : SRes := bns ρ (mi ρ S) (kSubc f ρ v o)
def kSub (f : Sto → Val → Val → Val → Option Sto) (mo mi : ME) (ρ : Ev) (v : Val) (S : Sto) : SRes := bns ρ (mo ρ S) (kSubb f mi ρ v)
theorem e_kSubc (f : Sto → Val → Val → Val → Option Sto) (ρ : Ev) (v o i : Val) (S : Sto) : kSubc f ρ v o i S = subK ρ (f S o i v) := rfl
theorem e_kSubb (f : Sto → Val → Val → Val → Option Sto) (mi : ME) (ρ : Ev) (v o : Val) (S : Sto) : kSubb f mi ρ v o S = bns ρ (mi ρ S) (kSubc f ρ v o) := rfl
theorem e_kSub (f : Sto → Val → Val → Val → Option Sto) (mo mi : ME) (ρ : Ev) (v : Val) (S : Sto) : kSub f mo mi ρ v S = bns ρ (mo ρ S) (kSubb f mi ρ v) := rfl
theorem e_sub (f : Sto → Val → Val → Val → Option Sto) (mo mi m : ME) (ρ : Ev) (S : Sto) : sSub f mo mi m ρ S = bns ρ (m ρ S) (kSub f mo mi ρ) := by
  unfold sSub
  congr
def kAndV (n : ME) (ρ : Ev) (v : Val) (S : Sto) (o : Option Bool) : Res Val := match o with
  | some true => n ρ S
  | some false => some (.ok v S)
  | none => none
def kOrV (n : ME) (ρ : Ev) (v : Val) (S : Sto) (o : Option Bool) : Res Val := match o with
  | some true => some (.ok v S)
  | some false => n ρ S
  | none => none
def kNotV (S : Sto) (o : Option Bool) : Res Val := match o with
  | some b => some (.ok (.bl (!b)) S)
  | none => none
def kAnd (n : ME) (ρ : Ev) (v : Val) (S : Sto) : Res Val := kAndV n ρ v S (truth S v)
def kOr (n : ME) (ρ : Ev) (v : Val) (S : Sto) : Res Val := kOrV n ρ v S (truth S v)
def kNot (v : Val) (S : Sto) : Res Val := kNotV S (truth S v)
theorem e_and (m n : ME) (ρ : Ev) (S : Sto) : mAnd m n ρ S = bnd (m ρ S) (kAnd n ρ) := by
  unfold mAnd
  congr
theorem e_or (m n : ME) (ρ : Ev) (S : Sto) : mOr m n ρ S = bnd (m ρ S) (kOr n ρ) := by
  unfold mOr
  congr
theorem e_not (m : ME) (ρ : Ev) (S : Sto) : mNot m ρ S = bnd (m ρ S) kNot := by
  unfold mNot
  congr
theorem e_kAnd (n : ME) (ρ : Ev) (v : Val) (S : Sto) : kAnd n ρ v S = kAndV n ρ v S (truth S v) := rfl
theorem e_kOr (n : ME) (ρ : Ev) (v : Val) (S : Sto) : kOr n ρ v S = kOrV n ρ v S (truth S v) := rfl
theorem e_kNot (v : Val) (S : Sto) : kNot v S = kNotV S (truth S v) := rfl
theorem and_t (n : ME) (ρ : Ev) (v : Val) (S : Sto) : kAndV n ρ v S (some true) = n ρ S := rfl
theorem and_f (n : ME) (ρ : Ev) (v : Val) (S : Sto) : kAndV n ρ v S (some false) = some (.ok v S) := rfl
theorem or_t (n : ME) (ρ : Ev) (v : Val) (S : Sto) : kOrV n ρ v S (some true) = some (.ok v S) := rfl
theorem or_f (n : ME) (ρ : Ev) (v : Val) (S : Sto) : kOrV n ρ v S (some false) = n ρ S := rfl
theorem not_b (S : Sto) (b : Bool) : kNotV S (some b) = some (.ok (.bl (!b)) S) := rfl
def kChc (g : Sto → Val → Val → Option Val) (y z : Val) (S : Sto) : Res Val := pur (g S y z) S
def kChv (g : Sto → Val → Val → Option Val) (mc : ME) (ρ : Ev) (y : Val) (S : Sto) (o : Option Val) : Res Val := match o with
  | some (.bl true) => bnd (mc ρ S) (kChc g y)
  | some (.bl false) => some (.ok (.bl false) S)
  | _ => none
def kChb (f g : Sto → Val → Val → Option Val) (mc : ME) (ρ : Ev) (x y : Val) (S : Sto) : Res Val := kChv g mc ρ y S (f S x y)
def kCh (f g : Sto → Val → Val → Option Val) (mb mc : ME) (ρ : Ev) (x : Val) (S : Sto) : Res Val := bnd (mb ρ S) (kChb f g mc ρ x)
theorem e_chain (f g : Sto → Val → Val → Option Val) (ma mb mc : ME) (ρ : Ev) (S : Sto) : mChain f g ma mb mc ρ S = bnd (ma ρ S) (kCh f g mb mc ρ) := rfl
theorem e_kCh (f g : Sto → Val → Val → Option Val) (mb mc : ME) (ρ : Ev) (x : Val) (S : Sto) : kCh f g mb mc ρ x S = bnd (mb ρ S) (kChb f g mc ρ x) := rfl
theorem e_kChb (f g : Sto → Val → Val → Option Val) (mc : ME) (ρ : Ev) (x y : Val) (S : Sto) : kChb f g mc ρ x y S = kChv g mc ρ y S (f S x y) := rfl
theorem e_kChv (g : Sto → Val → Val → Option Val) (mc : ME) (ρ : Ev) (y : Val) (S : Sto) (b : Bool) : kChv g mc ρ y S (some (.bl b)) = if b then bnd (mc ρ S) (kChc g y) else some (.ok (.bl false) S) := by cases b <;> rfl
theorem e_kChc (g : Sto → Val → Val → Option Val) (y z : Val) (S : Sto) : kChc g y z S = pur (g S y z) S := rfl
theorem tr_bl (S : Sto) (b : Bool) : truth S (.bl b) = some b := rfl
theorem tr_int (S : Sto) (i : Int) : truth S (.int i) = some (i != 0) := rfl
theorem tr_non (S : Sto) : truth S .non = some false := rfl
theorem neg_int (S : Sto) (i : Int) : sNeg S (.int i) = some (.int (-i)) := rfl
theorem add_str (S : Sto) (a b : Str) (h : a.length + b.length ≤ 16777216) : sAdd S (.str a) (.str b) = some (.str (a ++ b)) := by
  simp only [sAdd]
  rw [if_pos (by rw [sz]; exact h)]
theorem len_str (S : Sto) (a : Str) (h : a.length ≤ 16777216) : sLen S [.str a] = some (.int a.length) := by
  simp only [sLen]
  rw [if_pos (by rw [sz]; exact h)]
theorem items_str (S : Sto) (z : Str) : itemsOf S (.str z) = some (signs z, []) := rfl
theorem sl_strS (S : Sto) (a : Str) (lo hi : Option Int) (h : a.length ≤ 16777216) : sSlice S (.str a) lo hi = some (.str (cutS a lo hi)) := by
  simp only [sSlice]
  rw [if_pos (by rw [sz]; exact h)]
theorem e_ms (f : Sto → Val → List Val → Option (Val × Sto)) (mo : ME) (ms : MA) (ρ : Ev) (S : Sto) : mMs f mo ms ρ S = bnd (mo ρ S) (kMs f ms ρ) := rfl
theorem e_kMs (f : Sto → Val → List Val → Option (Val × Sto)) (ms : MA) (ρ : Ev) (a : Str) (S : Sto) : kMs f ms ρ (.str a) S = bnd (ms ρ S) (kMx f (.str a)) := rfl
theorem e_kMx (f : Sto → Val → List Val → Option (Val × Sto)) (o : Val) (vs : List Val) (S : Sto) : kMx f o vs S = prs (f S o vs) := rfl
theorem count_str (S : Sto) (a b : Str) : sCountS S (.str a) [.str b] = some (.int (Txt.count a b), S) := rfl
theorem mul_str (S : Sto) (a : Str) (n : Int) (h0 : 0 ≤ n) (h1 : n ≤ 1000000) (h2 : a.length * n.toNat ≤ 16777216) : sMul S (.str a) (.int n) = some (.str (Txt.mul a n)) := by
  simp only [sMul]
  rw [if_pos ⟨h0, h1, by rw [sz]; exact h2⟩]
theorem mul_int (S : Sto) (i j : Int) : sMul S (.int i) (.int j) = (fMul i j).map Val.int := rfl
theorem isi_of {S : Sto} {v : Val} {t c : String} (h : kindS S v = some t) (hc : c ∈ clss) : sIsi S [v, .con (.ty c)] = some (.bl (isiB t c)) := by simp only [sIsi, h, clsOf, hc, if_true]

mutual
def nc : Val → Bool
  | .tup xs => ncL xs
  | .lst xs => ncL xs
  | .dct kvs => ncD kvs
  | .cell _ => false
  | .err _ _ _ _ => false
  | .prs _ => false
  | _ => true
def ncL : List Val → Bool
  | [] => true
  | x :: xs => nc x && ncL xs
def ncD : List (Key × Val) → Bool
  | [] => true
  | (_, x) :: xs => nc x && ncD xs
end
def ncC : Cell → Bool
  | .dead => true
  | .lst xs => ncL xs
  | .dct kvs => ncD kvs
  | .ins _ fs => ncL (fs.map (·.2))
def ncN (n : Nat) (c : Cell) : Prop := ncC c = true ∨ ∃ xs j, c = .lst xs ∧ j < n ∧ ∀ x ∈ xs, nc x = true ∨ x = .cell j
def ncS (S : Sto) : Prop := ∀ (k : Nat) (c : Cell), S[k]? = some c → ncN k c
theorem ncN.le {n m : Nat} {c : Cell} (h : ncN n c) (l : n ≤ m) : ncN m c := by
  rcases h with h | ⟨xs, j, h1, h2, h3⟩
  · exact .inl h
  · exact .inr ⟨xs, j, h1, by omega, h3⟩
mutual
theorem fz_nc {n : Nat} {S : Sto} : ∀ v : Val, nc v = true → Fz n S v v
  | .non, _ => .non
  | .bl _, _ => .bl
  | .int _, _ => .int
  | .str _, _ => .str
  | .tup xs, h => .tup (fzl_nc xs (by simpa [nc] using h))
  | .lst xs, h => .lst (fzl_nc xs (by simpa [nc] using h))
  | .dct kvs, h => .dct (fzd_nc kvs (by simpa [nc] using h))
  | .scr _, _ => .scr
  | .cell _, h => by simp [nc] at h
  | .con _, _ => .con
  | .fnv _, _ => .fnv
  | .err _ _ _ _, h => by simp [nc] at h
  | .prs _, h => by simp [nc] at h
theorem fzl_nc {n : Nat} {S : Sto} : ∀ xs : List Val, ncL xs = true → FzL n S xs xs
  | [], _ => .nil
  | x :: xs, h => by
    have h' : nc x = true ∧ ncL xs = true := by simpa [ncL] using h
    exact .cons (fz_nc x h'.1) (fzl_nc xs h'.2)
theorem fzd_nc {n : Nat} {S : Sto} : ∀ xs : List (Key × Val), ncD xs = true → FzD n S xs xs
  | [], _ => .nil
  | (k, x) :: xs, h => by
    have h' : nc x = true ∧ ncD xs = true := by simpa [ncD] using h
    exact .cons (fz_nc x h'.1) (fzd_nc xs h'.2)
end
theorem ncL_all : ∀ {xs : List Val}, ncL xs = true ↔ ∀ x ∈ xs, nc x = true
  | [] => by simp [ncL]
  | x :: xs => by simp [ncL, ncL_all (xs := xs)]
theorem ncL_int : ∀ xs : List Int, ncL (xs.map Val.int) = true
  | [] => by simp [ncL]
  | x :: xs => by simp [ncL, nc, ncL_int xs]
theorem fzC_nc {n : Nat} {S : Sto} : ∀ {c : Cell}, ncC c = true → FzC n S c c
  | .dead, _ => .dead
  | .lst xs, h => .lst (fzl_nc xs (by simpa [ncC] using h))
  | .dct kvs, h => .dct (fzd_nc kvs (by simpa [ncC] using h))
  | .ins c fs, h => .ins rfl (fzl_nc _ (by simpa [ncC] using h))
theorem fzl_one {n : Nat} {S : Sto} {j : Nat} (hj : j < n) : ∀ xs : List Val, (∀ x ∈ xs, nc x = true ∨ x = .cell j) → FzL n S xs xs
  | [], _ => .nil
  | x :: xs, h => by
    refine .cons ?_ (fzl_one hj xs fun y hy => h y (List.mem_cons_of_mem _ hy))
    rcases h x List.mem_cons_self with h | rfl
    · exact fz_nc x h
    · exact .old hj
theorem fzC_ncN {n : Nat} {S : Sto} {c : Cell} (h : ncN n c) : FzC n S c c := by
  rcases h with h | ⟨xs, j, rfl, h2, h3⟩
  · exact fzC_nc h
  · exact .lst (fzl_one h2 xs h3)
theorem fzS_app {A B : Sto} {n : Nat} (hn : A.length = n) (h : ncS A) : FzS n (A ++ B) A :=
  ⟨hn, by simp [← hn], fun k c e => ⟨c, by rw [List.getElem?_append_left (by rw [List.getElem?_eq_some_iff] at e; exact e.1)]; exact e, fzC_ncN ((h k c e).le (by have := (List.getElem?_eq_some_iff.mp e).1; omega))⟩⟩
theorem ncS_nil : ncS [] := fun _ _ h => by simp at h
theorem ncS_setN {S : Sto} {k : Nat} {c : Cell} (h : ncS S) (hc : ncN k c) : ncS (S.set k c) := fun i d hd => by
  by_cases e : k = i
  · subst e
    obtain ⟨h1, h2⟩ := List.getElem?_eq_some_iff.mp hd
    rw [List.getElem_set_self] at h2
    exact h2 ▸ hc
  · rw [List.getElem?_set_ne e] at hd
    exact h i d hd
theorem ncS_set {S : Sto} {k : Nat} {c : Cell} (h : ncS S) (hc : ncC c = true) : ncS (S.set k c) := ncS_setN h (.inl hc)
theorem ncS_app {A B : Sto} (h : ncS A) (k : ncS B) : ncS (A ++ B) := fun i c hc => by
  by_cases e : i < A.length
  · rw [List.getElem?_append_left e] at hc
    exact h i c hc
  · rw [List.getElem?_append_right (by omega)] at hc
    exact (k _ c hc).le (by omega)
theorem ncS_one {c : Cell} (h : ncC c = true) : ncS [c] := fun i d hd => by
  cases i with
  | zero => simp at hd; subst hd; exact .inl h
  | succ i => simp at hd
theorem ncS_left {A B : Sto} (h : ncS (A ++ B)) : ncS A := fun i c hc => h i c (by rw [List.getElem?_append_left (List.getElem?_eq_some_iff.mp hc).1]; exact hc)

theorem gOk_nil (S : Sto) : gOk [] S := fun _ h => by cases h
theorem gOk_one {k : Nat} {xs : List Val} {S : Sto} (h : S[k]? = some (.lst xs)) : gOk [(k, xs)] S := fun p hp => by cases List.mem_singleton.mp hp; exact h
theorem lc_pure {g : Gd} {t : MG} {tt : MT} {te : ME} {ρ : Ev} {S : Sto} (p : Val → Bool) (f : Val → Val) (hg : gOk g S) : ∀ {xs acc : List Val}, acc.length + xs.length ≤ sizeLine →
    (∀ x ∈ xs, ∃ ρ2, t S x ρ = some ρ2 ∧ tt ρ2 S = some (.ok (p x) S) ∧ (p x = true → te ρ2 S = some (.ok (f x) S))) → lcL g t tt te ρ xs S acc = some (.ok (acc ++ (xs.filter p).map f) S)
  | [], acc, _, _ => by unfold lcL; rw [if_pos hg]; simp
  | x :: xs, acc, hl, h => by
    obtain ⟨ρ2, h1, h2, h3⟩ := h x List.mem_cons_self
    have hl' : acc.length + xs.length + 1 ≤ sizeLine := by simpa [Nat.add_assoc] using hl
    rw [lcL, if_pos hg, h1]
    simp only [h2, bndN]
    by_cases hp : p x = true
    · simp only [hp, if_true, h3 hp, if_pos (show acc.length < sizeLine by omega), List.filter_cons_of_pos hp]
      rw [lc_pure p f hg (by simp; omega) fun y hy => h y (List.mem_cons_of_mem _ hy)]
      simp
    · simp only [hp, if_false, List.filter_cons_of_neg hp]
      rw [lc_pure p f hg (by omega) fun y hy => h y (List.mem_cons_of_mem _ hy)]
      simp
theorem lc_map {g : Gd} {t : MG} {tt : MT} {te : ME} {ρ : Ev} {S : Sto} (f : Val → Val) (hg : gOk g S) {xs : List Val} (hl : xs.length ≤ sizeLine)
    (h : ∀ x ∈ xs, ∃ ρ2, t S x ρ = some ρ2 ∧ tt ρ2 S = some (.ok true S) ∧ te ρ2 S = some (.ok (f x) S)) : lcL g t tt te ρ xs S [] = some (.ok (xs.map f) S) := by
  have := lc_pure (tt := tt) (te := te) (ρ := ρ) (t := t) (fun _ => true) f hg (xs := xs) (acc := []) (by simpa using hl) fun x hx => by
    obtain ⟨ρ2, h1, h2, h3⟩ := h x hx
    exact ⟨ρ2, h1, h2, fun _ => h3⟩
  rwa [List.nil_append, List.filter_eq_self.mpr fun _ _ => rfl] at this
structure Fine (v : Val) (w dp : Nat) : Prop where
  ex : ∃ d, ((∀ S, dat S v = some d) ∧ toD v = some d) ∧ d.showable = true ∧ d.shown.length ≤ w ∧ d.depth ≤ dp ∧ d.hasDict = false ∧ d.canLay0 = true
theorem Fine.mono {v : Val} {w dp w' dp' : Nat} (h : Fine v w dp) (h1 : w ≤ w') (h2 : dp ≤ dp') : Fine v w' dp' := by
  obtain ⟨d, a, b, c, e, f, g⟩ := h.ex
  exact ⟨d, a, b, Nat.le_trans c h1, Nat.le_trans e h2, f, g⟩
noncomputable def rp (v : Val) : Str := match dat [] v with
  | some d => d.shown
  | none => ""
theorem Fine.repr {v : Val} {w dp : Nat} (h : Fine v w dp) (S : Sto) (h1 : w ≤ sizeLine) (h2 : dp ≤ 60) : sRepr S [v] = some (.str (rp v)) := by
  obtain ⟨d, a, b, c, e, f, g⟩ := h.ex
  unfold sRepr sReprS rp
  simp only [a.1]
  rw [if_pos ⟨b, Nat.le_trans c h1, Nat.le_trans e h2, f⟩]
  rfl
theorem Fine.len {v : Val} {w dp : Nat} (h : Fine v w dp) : (rp v).length ≤ w := by
  obtain ⟨d, a, b, c, e, f, g⟩ := h.ex
  unfold rp
  simp only [a.1]
  exact c
theorem Fine.int {i : Int} (h : i.natAbs.log2 < 1920) : Fine (.int i) 1921 0 := by
  refine ⟨.int i, ⟨fun S => by simp [dat], by simp [toD]⟩, by simp [PyData.showable, h], ?_, by simp [PyData.depth], by simp [PyData.hasDict], by simp [PyData.canLay0]⟩
  rw [PyData.shown]
  exact int_text_len_1921 h
theorem Fine.bl {b : Bool} : Fine (.bl b) 5 0 := by
  refine ⟨.bool b, ⟨fun S => by simp [dat], by simp [toD]⟩, by simp [PyData.showable], ?_, by simp [PyData.depth], by simp [PyData.hasDict], by simp [PyData.canLay0]⟩
  cases b <;> simp only [PyData.shown] <;> decide +kernel
theorem Fine.non : Fine .non 4 0 := by
  refine ⟨.none, ⟨fun S => by simp [dat], by simp [toD]⟩, by simp [PyData.showable], ?_, by simp [PyData.depth], by simp [PyData.hasDict], by simp [PyData.canLay0]⟩
  simp only [PyData.shown]; decide +kernel
theorem textFrom_le {w : Nat} : ∀ (ts : List Str) (k : Nat) (acc : Str), (∀ t ∈ ts, t.length ≤ w) → (textFrom k acc ts).length ≤ acc.length + ts.length * (w + 2)
  | [], k, acc, _ => by simp [textFrom]
  | t :: ts, k, acc, h => by
    rw [textFrom]
    refine Nat.le_trans (textFrom_le ts _ _ fun t' ht => h t' (List.mem_cons_of_mem _ ht)) ?_
    rw [Str.length_append, Str.length_append]
    have h1 := h t List.mem_cons_self
    have h2 : (if k > 0 then (", " : String) else "" : Str).length ≤ 2 := by split <;> decide +kernel
    have h3 : (Str.ofString (if k > 0 then (", " : String) else "")).length ≤ 2 := by split <;> decide +kernel
    rw [List.length_cons, Nat.add_mul]
    omega
theorem join_le {w : Nat} : ∀ (ts : List Str), (∀ t ∈ ts, t.length ≤ w) → (Str.join ", " ts).length ≤ ts.length * (w + 2)
  | [], _ => by show (Str.join ", " []).length ≤ 0 * _; rw [Nat.zero_mul]; decide +kernel
  | t :: ts, h => by
    have e := join_length_add (t :: ts) (by simp)
    have : ∀ ts : List Str, (∀ t ∈ ts, t.length ≤ w) → piled ts ≤ ts.length * (w + 2) := by
      intro ts
      induction ts with
      | nil => intro _; show piled [] ≤ 0 * _; rw [Nat.zero_mul]; decide +kernel
      | cons t ts ih =>
        intro h
        have h1 := h t List.mem_cons_self
        have h2 := ih fun t' ht => h t' (List.mem_cons_of_mem _ ht)
        rw [List.length_cons, Nat.add_mul]
        unfold piled at h2 ⊢
        simp at h2 ⊢
        omega
    have := this (t :: ts) h
    omega
theorem fineL {w dp : Nat} : ∀ {xs : List Val}, (∀ x ∈ xs, Fine x w dp) → ∃ ds : List PyData, ((∀ S, datL S xs = some ds) ∧ toDL xs = some ds) ∧ PyData.showableAll ds = true ∧ (∀ t ∈ PyData.shownAll ds, t.length ≤ w) ∧ PyData.depthAll ds ≤ dp ∧ PyData.hasDictAll ds = false ∧ PyData.canLayAll0 ds = true ∧ ds.length = xs.length
  | [], _ => ⟨[], ⟨fun S => by simp [datL], by simp [toDL]⟩, by simp [PyData.showableAll], by simp [PyData.shownAll], by simp [PyData.depthAll], by simp [PyData.hasDictAll], by simp [PyData.canLayAll0], rfl⟩
  | x :: xs, h => by
    obtain ⟨d, a1, b1, c1, e1, f1, g1⟩ := (h x List.mem_cons_self).ex
    obtain ⟨ds, a2, b2, c2, e2, f2, g2, l2⟩ := fineL fun y hy => h y (List.mem_cons_of_mem _ hy)
    refine ⟨d :: ds, ⟨fun S => by simp [datL, a1.1, a2.1], by simp [toDL, a1.2, a2.2]⟩, by simp [PyData.showableAll, b1, b2], ?_, by simp [PyData.depthAll]; omega, by simp [PyData.hasDictAll, f1, f2], by simp [PyData.canLayAll0, g1, g2], by simp [l2]⟩
    intro t ht
    rw [PyData.shownAll] at ht
    rcases List.mem_cons.mp ht with rfl | ht
    · exact c1
    · exact c2 t ht
theorem Fine.tup {xs : List Val} {w dp : Nat} (h : ∀ x ∈ xs, Fine x w dp) : Fine (.tup xs) (xs.length * (w + 2) + 3) (dp + 1) := by
  obtain ⟨ds, a, b, c, e, f, g, l⟩ := fineL h
  refine ⟨.tuple ds, ⟨fun S => by simp [dat, a.1], by simp [toD, a.2]⟩, by simp [PyData.showable, b], ?_, by simp [PyData.depth, e], by simp [PyData.hasDict, f], by simp [PyData.canLay0, g]⟩
  rw [PyData.shown]
  unfold tupleText
  rw [Str.length_append, Str.length_append]
  have h1 := join_le _ c
  rw [PyData.shownAll_length, l] at h1
  have h2 : (Str.ofString (if (PyData.shownAll ds).length == 1 then (",)" : String) else ")")).length ≤ 2 := by split <;> decide +kernel
  have h3 : (Str.ofString "(").length = 1 := by decide +kernel
  omega
theorem Fine.lst {xs : List Val} {w dp : Nat} (h : ∀ x ∈ xs, Fine x w dp) : Fine (.lst xs) (xs.length * (w + 2) + 3) (dp + 1) := by
  obtain ⟨ds, a, b, c, e, f, g, l⟩ := fineL h
  refine ⟨.list ds, ⟨fun S => by simp [dat, a.1], by simp [toD, a.2]⟩, by simp [PyData.showable, b], ?_, by simp [PyData.depth, e], by simp [PyData.hasDict, f], by simp [PyData.canLay0, g]⟩
  rw [PyData.shown]
  unfold listText
  rw [Str.length_append]
  have h1 := textFrom_le _ 0 (Str.ofString "[") c
  rw [PyData.shownAll_length, l] at h1
  have h2 : (Str.ofString "]").length = 1 := by decide +kernel
  have h3 : (Str.ofString "[").length = 1 := by decide +kernel
  omega
theorem log2_lt_of {i : Int} {k : Nat} (h : i.natAbs < 2 ^ k) (hk : 0 < k) : i.natAbs.log2 < k := by
  by_cases h0 : i.natAbs = 0
  · rw [h0]; simpa using hk
  · exact (Nat.log2_lt h0).mpr h
theorem beq_dec (x y : Int) : (x == y) = decide (x = y) := by rw [Bool.eq_iff_iff]; simp
theorem sEqB_str (S : Sto) (a b : Str) : sEqB S (.str a) (.str b) = some (decide (a = b)) := by
  rfl
theorem sEqB_int (S : Sto) (a b : Int) : sEqB S (.int a) (.int b) = some (decide (a = b)) := by
  simp only [sEqB]
  unfold sEqD
  have h1 : ∀ x, SeqAt.shaped (.int x) = true := fun x => by simp [SeqAt.shaped, PyData.canLay0, PyData.depth]
  simp only [dat, h1, and_self, if_true, PyData.eqv]
  rw [beq_dec]
theorem datL_ints (S : Sto) : ∀ xs : List Int, datL S (xs.map Val.int) = some (xs.map PyData.int)
  | [] => by simp [datL]
  | x :: xs => by simp [datL, dat, datL_ints S xs]
theorem canLay_ints : ∀ xs : List Int, PyData.canLayAll0 (xs.map PyData.int) = true
  | [] => by simp [PyData.canLayAll0]
  | x :: xs => by simp [PyData.canLayAll0, PyData.canLay0, canLay_ints xs]
theorem depth_ints : ∀ xs : List Int, PyData.depthAll (xs.map PyData.int) = 0
  | [] => by simp [PyData.depthAll]
  | x :: xs => by simp [PyData.depthAll, PyData.depth, depth_ints xs]
theorem eqvAll_ints : ∀ xs ys : List Int, PyData.eqvAll (xs.map PyData.int) (ys.map PyData.int) = decide (xs = ys)
  | [], [] => by simp [PyData.eqvAll]
  | [], y :: ys => by simp [PyData.eqvAll]
  | x :: xs, [] => by simp [PyData.eqvAll]
  | x :: xs, y :: ys => by simp [PyData.eqvAll, PyData.eqv, eqvAll_ints xs ys, beq_dec]
theorem sEqB_tI (S : Sto) (xs ys : List Int) : sEqB S (tI xs) (tI ys) = some (decide (xs = ys)) := by
  simp only [sEqB]
  unfold sEqD
  have h1 : ∀ x : List Int, SeqAt.shaped (.tuple (x.map PyData.int)) = true := fun x => by simp [SeqAt.shaped, PyData.canLay0, PyData.depth, canLay_ints, depth_ints]
  simp only [tI, dat, datL_ints, Option.map_some, h1, and_self, if_true, PyData.eqv, eqvAll_ints]
theorem sEqB_lI (S : Sto) (xs ys : List Int) : sEqB S (lI xs) (lI ys) = some (decide (xs = ys)) := by
  simp only [sEqB]
  unfold sEqD
  have h1 : ∀ x : List Int, SeqAt.shaped (.list (x.map PyData.int)) = true := fun x => by simp [SeqAt.shaped, PyData.canLay0, PyData.depth, canLay_ints, depth_ints]
  simp only [lI, dat, datL_ints, Option.map_some, h1, and_self, if_true, PyData.eqv, eqvAll_ints]
end G

set_option Elab.async false
set_option linter.all false
set_option maxRecDepth 100000
set_option maxHeartbeats 4000000
namespace G
open PySem PySem.Spec PyProof.Rows L2
structure Stm where
  cells : List Int
  pos : Int
  rest : Int
  st : Int
def Stm.vals (s : Stm) : List Val := [lI s.cells, .int s.pos, .int s.rest, .int s.st]
def Stm.cell (s : Stm) : Cell := .lst s.vals
structure Stm.Ok (s : Stm) : Prop where
  cells : ∀ c ∈ s.cells, 0 ≤ c
  pos : 0 ≤ s.pos
  rest : 0 ≤ s.rest
  st : 0 ≤ s.st
def Sm (S : Sto) (k : Nat) : Prop := ∃ s : Stm, S[k]? = some s.cell ∧ s.Ok
theorem Sm.lt {S : Sto} {k : Nat} (h : Sm S k) : k < S.length := by
  obtain ⟨s, h, _⟩ := h
  exact (List.getElem?_eq_some_iff.mp h).1
theorem Stm.nc (s : Stm) : ncC s.cell = true := by
  simp [Stm.cell, Stm.vals, ncC, ncL, G.nc, ncL_int]
def Nx (k : Nat) (S S' : Sto) : Prop := ∃ s : Stm, S' = S.set k s.cell ∧ s.Ok ∧ k < S.length
theorem Nx.trans {k : Nat} {S S1 S2 : Sto} (h : Nx k S S1) (h' : Nx k S1 S2) : Nx k S S2 := by
  obtain ⟨s, rfl, h1, h2⟩ := h
  obtain ⟨s', rfl, h3, h4⟩ := h'
  exact ⟨s', by rw [List.set_set], h3, h2⟩
theorem Nx.len {k : Nat} {S S' : Sto} (h : Nx k S S') : S'.length = S.length := by
  obtain ⟨s, rfl, h1, h2⟩ := h
  simp
theorem Nx.nc {k : Nat} {S S' : Sto} (h : Nx k S S') (n : ncS S) : ncS S' := by
  obtain ⟨s, rfl, h1, h2⟩ := h
  exact ncS_set n s.nc
theorem Nx.get {k j : Nat} {S S' : Sto} (h : Nx k S S') (hj : j ≠ k) : S'[j]? = S[j]? := by
  obtain ⟨s, rfl, h1, h2⟩ := h
  rw [List.getElem?_set_ne (Ne.symm hj)]
theorem Sm.nx {S : Sto} {k : Nat} (h : Sm S k) : Nx k S S := by
  obtain ⟨s, h1, h2⟩ := h
  obtain ⟨h3, h4⟩ := List.getElem?_eq_some_iff.mp h1
  exact ⟨s, by rw [← h4, List.set_getElem_self], h2, h3⟩
theorem big64 {n : Nat} (h : n < 2 ^ 64) : n < big := Nat.lt_of_lt_of_le h (Nat.pow_le_pow_right (by decide) (by decide))
theorem mulOk_l {i j : Int} (h0 : -(2 ^ 64) < i) (h1 : i < 2 ^ 64) : mulOk i j = true := by
  unfold mulOk
  rw [decide_eq_true ⟨h0, h1⟩]
  rfl
theorem mulOk_r {i j : Int} (h0 : -(2 ^ 64) < j) (h1 : j < 2 ^ 64) : mulOk i j = true := by
  unfold mulOk
  rw [decide_eq_true (p := -(2 ^ 64) < j ∧ j < 2 ^ 64) ⟨h0, h1⟩]
  simp
theorem fMul_l {i j : Int} (h0 : -(2 ^ 64) < i) (h1 : i < 2 ^ 64) : fMul i j = some (i * j) := by unfold fMul; rw [if_pos (mulOk_l h0 h1)]
theorem fMul_r {i j : Int} (h0 : -(2 ^ 64) < j) (h1 : j < 2 ^ 64) : fMul i j = some (i * j) := by unfold fMul; rw [if_pos (mulOk_r h0 h1)]
theorem fDiv_ok {i j : Int} (h0 : 0 < j) (h1 : j < 2 ^ 64) : fDiv i j = some (i / j) := by unfold fDiv; rw [if_pos ⟨h0, big64 (by omega)⟩]
theorem fMod_ok {i j : Int} (h0 : 0 < j) : fMod i j = some (i % j) := by unfold fMod; rw [if_pos h0]
theorem fPow_ok {i j : Int} (h0 : 0 ≤ j) (h1 : j ≤ 1000000) (h2 : i.natAbs < 2 ^ 64) : fPow i j = some (i ^ j.toNat) := by unfold fPow; rw [if_pos ⟨h0, h1, h2⟩]
abbrev N__law_below : List Str := ["_law_stream_here", "_law_limit", "_law_cells", "_law_at", "_law_rest", "_law_state"]
noncomputable def m__law_below : MS := sSeq (sAsg (gT 4 (gsCons (gN 2) (gsCons (gN 3) (gsCons (gN 4) (gsCons (gN 5) (gsNil)))))) (mVar 0)) (sSeq (sIf (mAndT (mTB (mO2 sEq (mVar 4) (mC (.int 0)))) (mTB (mO2 cLt (mVar 3) (mCa sLen (mCons (mVar 2) (mNil)))))) (sSeq (sSub sSetI (mVar 0) (mC (.int 1)) (mO2 sAdd (mVar 3) (mC (.int 1)))) (sSeq (sSet 4 (mO2 aMul (mO2 sIx (mVar 2) (mVar 3)) (mCa sInt (mCons (mO2 cGe (mO2 sIx (mVar 2) (mVar 3)) (mO2 aPow (mC (.int 10)) (mC (.int 18)))) (mNil))))) (sSet 5 (mO2 sAdd (mO2 sAdd (mO2 aMul (mVar 5) (mC (.int 69069))) (mO2 aMod (mO2 sIx (mVar 2) (mVar 3)) (mC (.int 4294967291)))) (mC (.int 1)))))) (sNil)) (sSeq (sSub sSetI (mVar 0) (mC (.int 2)) (mO2 aDiv (mVar 4) (mVar 1))) (sSeq (sSet 5 (mO2 aMod (mO2 sAdd (mO2 sAdd (mO2 aMul (mVar 5) (mC (.int 1103515245))) (mC (.int 12345))) (mVar 3)) (mC (.int 2305843009213693951)))) (sSeq (sSub sSetI (mVar 0) (mC (.int 3)) (mVar 5)) (sSeq (sIf (mTB (mO2 cGt (mVar 4) (mC (.int 0)))) (sRet (mO2 aMod (mVar 4) (mVar 1))) (sNil)) (sRet (mO2 aMod (mO2 aDiv (mO2 aMod (mO2 aMul (mVar 5) (mVar 5)) (mC (.int 2305843009213693951))) (mC (.int 64))) (mVar 1))))))))
def R__law_below (ds : List Val) (S : Sto) (v : Val) (S' : Sto) : Prop := ∃ k n r, ds = [.cell k, .int n] ∧ v = .int r ∧ 0 ≤ r ∧ r < n ∧ Nx k S S'
noncomputable def f__law_below : Fn := runK N__law_below m__law_below R__law_below
theorem pow18 : (10 : Int) ^ Int.toNat 18 = 1000000000000000000 := by decide
theorem run__law_below {k : Nat} {n : Int} {S : Sto} (h : Sm S k) (hn : 0 < n) (hb : n < 2 ^ 64) : ∃ r S', m__law_below (startE N__law_below [.cell k, .int n]) S = some (.ret (.int r), S') ∧ 0 ≤ r ∧ r < n ∧ Nx k S S' := by
  obtain ⟨⟨cells, pos, rest, st⟩, hk, ok⟩ := h
  obtain ⟨ok1, ok2, ok3, ok4⟩ := ok
  simp only at ok1 ok2 ok3 ok4
  have hlt := (List.getElem?_eq_some_iff.mp hk).1
  have hk' : S[k]? = some (.lst [lI cells, .int pos, .int rest, .int st]) := hk
  have e0 : startE N__law_below [.cell k, .int n] = [some (.cell k), some (.int n), none, none, none, none] := rfl
  have hc : ∀ xs, (S.set k (.lst xs))[k]? = some (.lst xs) := fun xs => List.getElem?_set_self hlt
  rw [e0]
  unfold m__law_below
  have fin : ∀ (pos' rest' st' q : Int), 0 ≤ pos' → 0 ≤ rest' → 0 ≤ st' → Nx k S (S.set k (.lst [lI cells, .int pos', .int rest', .int st'])) := fun pos' rest' st' q h1 h2 h3 => ⟨⟨cells, pos', rest', st'⟩, rfl, ⟨ok1, h1, h2, h3⟩, hlt⟩
  have tail : ∀ (pos' rest' st0 : Int), 0 ≤ pos' → 0 ≤ rest' → 0 ≤ st0 → ∀ S1, S1 = S.set k (.lst [lI cells, .int pos', .int rest, .int st]) → ∃ r S', (sSeq (sSub sSetI (mVar 0) (mC (.int 2)) (mO2 aDiv (mVar 4) (mVar 1))) (sSeq (sSet 5 (mO2 aMod (mO2 sAdd (mO2 sAdd (mO2 aMul (mVar 5) (mC (.int 1103515245))) (mC (.int 12345))) (mVar 3)) (mC (.int 2305843009213693951)))) (sSeq (sSub sSetI (mVar 0) (mC (.int 3)) (mVar 5)) (sSeq (sIf (mTB (mO2 cGt (mVar 4) (mC (.int 0)))) (sRet (mO2 aMod (mVar 4) (mVar 1))) (sNil)) (sRet (mO2 aMod (mO2 aDiv (mO2 aMod (mO2 aMul (mVar 5) (mVar 5)) (mC (.int 2305843009213693951))) (mC (.int 64))) (mVar 1)))))))
      [some (.cell k), some (.int n), some (lI cells), some (.int pos), some (.int rest'), some (.int st0)] S1 = some (.ret (.int r), S') ∧ 0 ≤ r ∧ r < n ∧ Nx k S S' := by
    intro pos' rest' st0 h1 h2 h3 S1 hS
    subst hS
    have m1 : 0 ≤ (st0 * 1103515245 + 12345 + pos) % 2305843009213693951 := Int.emod_nonneg _ (by decide)
    have m2 : (st0 * 1103515245 + 12345 + pos) % 2305843009213693951 < 2305843009213693951 := Int.emod_lt_of_pos _ (by decide)
    have hd : 0 ≤ rest' / n := Int.ediv_nonneg h2 (by omega)
    simp -implicitDefEqProofs only [e_seq, seqK_next, seqK_ret, seqK_brk, seqK_cont, bnd_ok, bndN_ok, bns_ok, pur_some, prs_some, e_var, varK_some, toB_bl, asgK_some, subK_some, e_o2, e_kO2, e_kO2b, e_o1, e_kO1, e_cons, e_kCons, e_kConsb, e_nil, e_c, e_ca, e_kCa, e_cs, e_kCs, e_tb, e_kTB, e_tr, e_kTr, e_andT, e_kAndT, e_orT, e_kOrT, e_notT, e_kNotT, e_if, e_kIf, e_no, e_part, e_kPart, e_sl, e_kSl, e_kSlb, e_kSlc, e_mt, e_kMt, e_kMtb, e_val, e_kVal, e_enum, e_kEnum, e_kEnumb, e_yes, e_call, e_kCal, e_snil, e_brk, e_cont, e_retN, e_expr, e_kExpr, e_ret, e_kRet, e_sif, e_kSIf, e_set, e_kSet, e_par, e_kPar, e_par3, e_kPar3, e_aug, e_kAug, e_kAugb, e_kAugc, e_tup, e_kTup, e_lst, e_kLst, e_new, e_kNew, e_lc, e_kLc, e_kLcb, e_lcC, e_kLcC, e_kLcCb, e_for, e_kFor, e_gN, e_kGs, e_kAsg, e_asg, e_kSubc, e_kSubb, e_kSub, e_sub, e_and, e_or, e_not, e_kAnd, e_kOr, e_kNot, e_chain, e_kCh, e_kChb, e_kChv, e_kChc, and_t, and_f, or_t, or_f, not_b, tr_bl, tr_int, tr_non, neg_int, items_str, e_ms, e_kMs, e_kMx, count_str, mul_int, gT_tup, gT_lst, gs_cons, gs_nil, bind_some, op_int, cmp_int, add_int, iadd_int, some_map, seq_tup, seq_lst, seq_scr, sl_tup, sl_lst, sl_scr, items_tup, items_lst, len_tup, len_lst, len_scr, lst_lst, sz, e_range1, e_range2, range1_ok, range2_ok, p10_6, p10_10, p10_12, p10_18, int_bl, int_int, abs_int, max2_int, min2_int, tuple_tup, tuple_lst, rev_tup, rev_lst, sEq, sNe, sEqB_int, sEqB_str, sEqB_tI, sEqB_lI, List.getElem?_cons_zero, List.getElem?_cons_succ, List.set_cons_zero, List.set_cons_succ, wipeE, List.length_cons, List.length_nil, List.length_map, Nat.zero_add, Nat.reduceAdd, Int.cast_ofNat_Int, Int.reduceLE, Int.reduceLT, Int.reduceToNat, Nat.reduceLT, Nat.reduceLeDiff, Nat.reduceSub, Int.reduceEq, Nat.reduceEqDiff, ↓reduceIte, if_true, Bool.false_eq_true, if_false, ite_true, ite_false, decide_eq_true_eq, fDiv_ok hn hb, set_cell (hc _), fMul_r (show -(2 ^ 64) < (1103515245 : Int) by decide) (by decide), fMod_ok (show (0 : Int) < 2305843009213693951 by decide), List.set_set, Int.reduceToNat, List.length_cons]
    by_cases hp : 0 < rest'
    · simp -implicitDefEqProofs only [e_seq, seqK_next, seqK_ret, seqK_brk, seqK_cont, bnd_ok, bndN_ok, bns_ok, pur_some, prs_some, e_var, varK_some, toB_bl, asgK_some, subK_some, e_o2, e_kO2, e_kO2b, e_o1, e_kO1, e_cons, e_kCons, e_kConsb, e_nil, e_c, e_ca, e_kCa, e_cs, e_kCs, e_tb, e_kTB, e_tr, e_kTr, e_andT, e_kAndT, e_orT, e_kOrT, e_notT, e_kNotT, e_if, e_kIf, e_no, e_part, e_kPart, e_sl, e_kSl, e_kSlb, e_kSlc, e_mt, e_kMt, e_kMtb, e_val, e_kVal, e_enum, e_kEnum, e_kEnumb, e_yes, e_call, e_kCal, e_snil, e_brk, e_cont, e_retN, e_expr, e_kExpr, e_ret, e_kRet, e_sif, e_kSIf, e_set, e_kSet, e_par, e_kPar, e_par3, e_kPar3, e_aug, e_kAug, e_kAugb, e_kAugc, e_tup, e_kTup, e_lst, e_kLst, e_new, e_kNew, e_lc, e_kLc, e_kLcb, e_lcC, e_kLcC, e_kLcCb, e_for, e_kFor, e_gN, e_kGs, e_kAsg, e_asg, e_kSubc, e_kSubb, e_kSub, e_sub, e_and, e_or, e_not, e_kAnd, e_kOr, e_kNot, e_chain, e_kCh, e_kChb, e_kChv, e_kChc, and_t, and_f, or_t, or_f, not_b, tr_bl, tr_int, tr_non, neg_int, items_str, e_ms, e_kMs, e_kMx, count_str, mul_int, gT_tup, gT_lst, gs_cons, gs_nil, bind_some, op_int, cmp_int, add_int, iadd_int, some_map, seq_tup, seq_lst, seq_scr, sl_tup, sl_lst, sl_scr, items_tup, items_lst, len_tup, len_lst, len_scr, lst_lst, sz, e_range1, e_range2, range1_ok, range2_ok, p10_6, p10_10, p10_12, p10_18, int_bl, int_int, abs_int, max2_int, min2_int, tuple_tup, tuple_lst, rev_tup, rev_lst, sEq, sNe, sEqB_int, sEqB_str, sEqB_tI, sEqB_lI, List.getElem?_cons_zero, List.getElem?_cons_succ, List.set_cons_zero, List.set_cons_succ, wipeE, List.length_cons, List.length_nil, List.length_map, Nat.zero_add, Nat.reduceAdd, Int.cast_ofNat_Int, Int.reduceLE, Int.reduceLT, Int.reduceToNat, Nat.reduceLT, Nat.reduceLeDiff, Nat.reduceSub, Int.reduceEq, Nat.reduceEqDiff, ↓reduceIte, if_true, Bool.false_eq_true, if_false, ite_true, ite_false, decide_eq_true_eq, hp, decide_true, fMod_ok hn]
      exact ⟨_, _, rfl, Int.emod_nonneg _ (by omega), Int.emod_lt_of_pos _ hn, fin _ _ _ 0 h1 hd m1⟩
    · simp -implicitDefEqProofs only [e_seq, seqK_next, seqK_ret, seqK_brk, seqK_cont, bnd_ok, bndN_ok, bns_ok, pur_some, prs_some, e_var, varK_some, toB_bl, asgK_some, subK_some, e_o2, e_kO2, e_kO2b, e_o1, e_kO1, e_cons, e_kCons, e_kConsb, e_nil, e_c, e_ca, e_kCa, e_cs, e_kCs, e_tb, e_kTB, e_tr, e_kTr, e_andT, e_kAndT, e_orT, e_kOrT, e_notT, e_kNotT, e_if, e_kIf, e_no, e_part, e_kPart, e_sl, e_kSl, e_kSlb, e_kSlc, e_mt, e_kMt, e_kMtb, e_val, e_kVal, e_enum, e_kEnum, e_kEnumb, e_yes, e_call, e_kCal, e_snil, e_brk, e_cont, e_retN, e_expr, e_kExpr, e_ret, e_kRet, e_sif, e_kSIf, e_set, e_kSet, e_par, e_kPar, e_par3, e_kPar3, e_aug, e_kAug, e_kAugb, e_kAugc, e_tup, e_kTup, e_lst, e_kLst, e_new, e_kNew, e_lc, e_kLc, e_kLcb, e_lcC, e_kLcC, e_kLcCb, e_for, e_kFor, e_gN, e_kGs, e_kAsg, e_asg, e_kSubc, e_kSubb, e_kSub, e_sub, e_and, e_or, e_not, e_kAnd, e_kOr, e_kNot, e_chain, e_kCh, e_kChb, e_kChv, e_kChc, and_t, and_f, or_t, or_f, not_b, tr_bl, tr_int, tr_non, neg_int, items_str, e_ms, e_kMs, e_kMx, count_str, mul_int, gT_tup, gT_lst, gs_cons, gs_nil, bind_some, op_int, cmp_int, add_int, iadd_int, some_map, seq_tup, seq_lst, seq_scr, sl_tup, sl_lst, sl_scr, items_tup, items_lst, len_tup, len_lst, len_scr, lst_lst, sz, e_range1, e_range2, range1_ok, range2_ok, p10_6, p10_10, p10_12, p10_18, int_bl, int_int, abs_int, max2_int, min2_int, tuple_tup, tuple_lst, rev_tup, rev_lst, sEq, sNe, sEqB_int, sEqB_str, sEqB_tI, sEqB_lI, List.getElem?_cons_zero, List.getElem?_cons_succ, List.set_cons_zero, List.set_cons_succ, wipeE, List.length_cons, List.length_nil, List.length_map, Nat.zero_add, Nat.reduceAdd, Int.cast_ofNat_Int, Int.reduceLE, Int.reduceLT, Int.reduceToNat, Nat.reduceLT, Nat.reduceLeDiff, Nat.reduceSub, Int.reduceEq, Nat.reduceEqDiff, ↓reduceIte, if_true, Bool.false_eq_true, if_false, ite_true, ite_false, decide_eq_true_eq, hp, decide_false, fMod_ok hn, fMul_r (show -(2 ^ 64) < (st0 * 1103515245 + 12345 + pos) % 2305843009213693951 by omega) (by omega), fMod_ok (show (0 : Int) < 2305843009213693951 by decide), fDiv_ok (show (0 : Int) < 64 by decide) (by decide)]
      exact ⟨_, _, rfl, Int.emod_nonneg _ (by omega), Int.emod_lt_of_pos _ hn, fin _ _ _ 0 h1 hd m1⟩
  generalize (sSeq (sSub sSetI (mVar 0) (mC (.int 2)) (mO2 aDiv (mVar 4) (mVar 1))) _) = T at tail ⊢
  simp -implicitDefEqProofs only [e_seq, seqK_next, seqK_ret, seqK_brk, seqK_cont, bnd_ok, bndN_ok, bns_ok, pur_some, prs_some, e_var, varK_some, toB_bl, asgK_some, subK_some, e_o2, e_kO2, e_kO2b, e_o1, e_kO1, e_cons, e_kCons, e_kConsb, e_nil, e_c, e_ca, e_kCa, e_cs, e_kCs, e_tb, e_kTB, e_tr, e_kTr, e_andT, e_kAndT, e_orT, e_kOrT, e_notT, e_kNotT, e_if, e_kIf, e_no, e_part, e_kPart, e_sl, e_kSl, e_kSlb, e_kSlc, e_mt, e_kMt, e_kMtb, e_val, e_kVal, e_enum, e_kEnum, e_kEnumb, e_yes, e_call, e_kCal, e_snil, e_brk, e_cont, e_retN, e_expr, e_kExpr, e_ret, e_kRet, e_sif, e_kSIf, e_set, e_kSet, e_par, e_kPar, e_par3, e_kPar3, e_aug, e_kAug, e_kAugb, e_kAugc, e_tup, e_kTup, e_lst, e_kLst, e_new, e_kNew, e_lc, e_kLc, e_kLcb, e_lcC, e_kLcC, e_kLcCb, e_for, e_kFor, e_gN, e_kGs, e_kAsg, e_asg, e_kSubc, e_kSubb, e_kSub, e_sub, e_and, e_or, e_not, e_kAnd, e_kOr, e_kNot, e_chain, e_kCh, e_kChb, e_kChv, e_kChc, and_t, and_f, or_t, or_f, not_b, tr_bl, tr_int, tr_non, neg_int, items_str, e_ms, e_kMs, e_kMx, count_str, mul_int, gT_tup, gT_lst, gs_cons, gs_nil, bind_some, op_int, cmp_int, add_int, iadd_int, some_map, seq_tup, seq_lst, seq_scr, sl_tup, sl_lst, sl_scr, items_tup, items_lst, len_tup, len_lst, len_scr, lst_lst, sz, e_range1, e_range2, range1_ok, range2_ok, p10_6, p10_10, p10_12, p10_18, int_bl, int_int, abs_int, max2_int, min2_int, tuple_tup, tuple_lst, rev_tup, rev_lst, sEq, sNe, sEqB_int, sEqB_str, sEqB_tI, sEqB_lI, List.getElem?_cons_zero, List.getElem?_cons_succ, List.set_cons_zero, List.set_cons_succ, wipeE, List.length_cons, List.length_nil, List.length_map, Nat.zero_add, Nat.reduceAdd, Int.cast_ofNat_Int, Int.reduceLE, Int.reduceLT, Int.reduceToNat, Nat.reduceLT, Nat.reduceLeDiff, Nat.reduceSub, Int.reduceEq, Nat.reduceEqDiff, ↓reduceIte, if_true, Bool.false_eq_true, if_false, ite_true, ite_false, decide_eq_true_eq, gT_of (seq_cell hk')]
  by_cases c1 : rest = 0
  · subst c1
    by_cases c2 : pos < cells.length
    · simp -implicitDefEqProofs only [e_seq, seqK_next, seqK_ret, seqK_brk, seqK_cont, bnd_ok, bndN_ok, bns_ok, pur_some, prs_some, e_var, varK_some, toB_bl, asgK_some, subK_some, e_o2, e_kO2, e_kO2b, e_o1, e_kO1, e_cons, e_kCons, e_kConsb, e_nil, e_c, e_ca, e_kCa, e_cs, e_kCs, e_tb, e_kTB, e_tr, e_kTr, e_andT, e_kAndT, e_orT, e_kOrT, e_notT, e_kNotT, e_if, e_kIf, e_no, e_part, e_kPart, e_sl, e_kSl, e_kSlb, e_kSlc, e_mt, e_kMt, e_kMtb, e_val, e_kVal, e_enum, e_kEnum, e_kEnumb, e_yes, e_call, e_kCal, e_snil, e_brk, e_cont, e_retN, e_expr, e_kExpr, e_ret, e_kRet, e_sif, e_kSIf, e_set, e_kSet, e_par, e_kPar, e_par3, e_kPar3, e_aug, e_kAug, e_kAugb, e_kAugc, e_tup, e_kTup, e_lst, e_kLst, e_new, e_kNew, e_lc, e_kLc, e_kLcb, e_lcC, e_kLcC, e_kLcCb, e_for, e_kFor, e_gN, e_kGs, e_kAsg, e_asg, e_kSubc, e_kSubb, e_kSub, e_sub, e_and, e_or, e_not, e_kAnd, e_kOr, e_kNot, e_chain, e_kCh, e_kChb, e_kChv, e_kChc, and_t, and_f, or_t, or_f, not_b, tr_bl, tr_int, tr_non, neg_int, items_str, e_ms, e_kMs, e_kMx, count_str, mul_int, gT_tup, gT_lst, gs_cons, gs_nil, bind_some, op_int, cmp_int, add_int, iadd_int, some_map, seq_tup, seq_lst, seq_scr, sl_tup, sl_lst, sl_scr, items_tup, items_lst, len_tup, len_lst, len_scr, lst_lst, sz, e_range1, e_range2, range1_ok, range2_ok, p10_6, p10_10, p10_12, p10_18, int_bl, int_int, abs_int, max2_int, min2_int, tuple_tup, tuple_lst, rev_tup, rev_lst, sEq, sNe, sEqB_int, sEqB_str, sEqB_tI, sEqB_lI, List.getElem?_cons_zero, List.getElem?_cons_succ, List.set_cons_zero, List.set_cons_succ, wipeE, List.length_cons, List.length_nil, List.length_map, Nat.zero_add, Nat.reduceAdd, Int.cast_ofNat_Int, Int.reduceLE, Int.reduceLT, Int.reduceToNat, Nat.reduceLT, Nat.reduceLeDiff, Nat.reduceSub, Int.reduceEq, Nat.reduceEqDiff, ↓reduceIte, if_true, Bool.false_eq_true, if_false, ite_true, ite_false, decide_eq_true_eq, c2, decide_true, set_cell hk' (i := 1) (by decide) (by simp), Int.reduceToNat, ix_lI ok2 c2, fPow_ok (i := 10) (j := 18) (by decide) (by decide) (by decide), pow18]
      have c0 : 0 ≤ cells.getD pos.toNat 0 := by
        rw [List.getD_eq_getElem?_getD, List.getElem?_eq_getElem (by omega)]
        exact ok1 _ (List.getElem_mem _)
      have hm : fMul (cells.getD pos.toNat 0) (if 10 ^ 18 ≤ cells.getD pos.toNat 0 then 1 else 0) = some (cells.getD pos.toNat 0 * if 10 ^ 18 ≤ cells.getD pos.toNat 0 then 1 else 0) := fMul_r (by split <;> decide) (by split <;> decide)
      have m0 : 0 ≤ cells.getD pos.toNat 0 % 4294967291 := Int.emod_nonneg _ (by decide)
      simp -implicitDefEqProofs only [e_seq, seqK_next, seqK_ret, seqK_brk, seqK_cont, bnd_ok, bndN_ok, bns_ok, pur_some, prs_some, e_var, varK_some, toB_bl, asgK_some, subK_some, e_o2, e_kO2, e_kO2b, e_o1, e_kO1, e_cons, e_kCons, e_kConsb, e_nil, e_c, e_ca, e_kCa, e_cs, e_kCs, e_tb, e_kTB, e_tr, e_kTr, e_andT, e_kAndT, e_orT, e_kOrT, e_notT, e_kNotT, e_if, e_kIf, e_no, e_part, e_kPart, e_sl, e_kSl, e_kSlb, e_kSlc, e_mt, e_kMt, e_kMtb, e_val, e_kVal, e_enum, e_kEnum, e_kEnumb, e_yes, e_call, e_kCal, e_snil, e_brk, e_cont, e_retN, e_expr, e_kExpr, e_ret, e_kRet, e_sif, e_kSIf, e_set, e_kSet, e_par, e_kPar, e_par3, e_kPar3, e_aug, e_kAug, e_kAugb, e_kAugc, e_tup, e_kTup, e_lst, e_kLst, e_new, e_kNew, e_lc, e_kLc, e_kLcb, e_lcC, e_kLcC, e_kLcCb, e_for, e_kFor, e_gN, e_kGs, e_kAsg, e_asg, e_kSubc, e_kSubb, e_kSub, e_sub, e_and, e_or, e_not, e_kAnd, e_kOr, e_kNot, e_chain, e_kCh, e_kChb, e_kChv, e_kChc, and_t, and_f, or_t, or_f, not_b, tr_bl, tr_int, tr_non, neg_int, items_str, e_ms, e_kMs, e_kMx, count_str, mul_int, gT_tup, gT_lst, gs_cons, gs_nil, bind_some, op_int, cmp_int, add_int, iadd_int, some_map, seq_tup, seq_lst, seq_scr, sl_tup, sl_lst, sl_scr, items_tup, items_lst, len_tup, len_lst, len_scr, lst_lst, sz, e_range1, e_range2, range1_ok, range2_ok, p10_6, p10_10, p10_12, p10_18, int_bl, int_int, abs_int, max2_int, min2_int, tuple_tup, tuple_lst, rev_tup, rev_lst, sEq, sNe, sEqB_int, sEqB_str, sEqB_tI, sEqB_lI, List.getElem?_cons_zero, List.getElem?_cons_succ, List.set_cons_zero, List.set_cons_succ, wipeE, List.length_cons, List.length_nil, List.length_map, Nat.zero_add, Nat.reduceAdd, Int.cast_ofNat_Int, Int.reduceLE, Int.reduceLT, Int.reduceToNat, Nat.reduceLT, Nat.reduceLeDiff, Nat.reduceSub, Int.reduceEq, Nat.reduceEqDiff, ↓reduceIte, if_true, Bool.false_eq_true, if_false, ite_true, ite_false, decide_eq_true_eq, hm, fMul_r (show -(2 ^ 64) < (69069 : Int) by decide) (by decide), fMod_ok (show (0 : Int) < 4294967291 by decide), ix_lI ok2 c2]
      exact tail _ _ _ (by omega) (Int.mul_nonneg c0 (by split <;> decide)) (by omega) _ rfl
    · simp -implicitDefEqProofs only [e_seq, seqK_next, seqK_ret, seqK_brk, seqK_cont, bnd_ok, bndN_ok, bns_ok, pur_some, prs_some, e_var, varK_some, toB_bl, asgK_some, subK_some, e_o2, e_kO2, e_kO2b, e_o1, e_kO1, e_cons, e_kCons, e_kConsb, e_nil, e_c, e_ca, e_kCa, e_cs, e_kCs, e_tb, e_kTB, e_tr, e_kTr, e_andT, e_kAndT, e_orT, e_kOrT, e_notT, e_kNotT, e_if, e_kIf, e_no, e_part, e_kPart, e_sl, e_kSl, e_kSlb, e_kSlc, e_mt, e_kMt, e_kMtb, e_val, e_kVal, e_enum, e_kEnum, e_kEnumb, e_yes, e_call, e_kCal, e_snil, e_brk, e_cont, e_retN, e_expr, e_kExpr, e_ret, e_kRet, e_sif, e_kSIf, e_set, e_kSet, e_par, e_kPar, e_par3, e_kPar3, e_aug, e_kAug, e_kAugb, e_kAugc, e_tup, e_kTup, e_lst, e_kLst, e_new, e_kNew, e_lc, e_kLc, e_kLcb, e_lcC, e_kLcC, e_kLcCb, e_for, e_kFor, e_gN, e_kGs, e_kAsg, e_asg, e_kSubc, e_kSubb, e_kSub, e_sub, e_and, e_or, e_not, e_kAnd, e_kOr, e_kNot, e_chain, e_kCh, e_kChb, e_kChv, e_kChc, and_t, and_f, or_t, or_f, not_b, tr_bl, tr_int, tr_non, neg_int, items_str, e_ms, e_kMs, e_kMx, count_str, mul_int, gT_tup, gT_lst, gs_cons, gs_nil, bind_some, op_int, cmp_int, add_int, iadd_int, some_map, seq_tup, seq_lst, seq_scr, sl_tup, sl_lst, sl_scr, items_tup, items_lst, len_tup, len_lst, len_scr, lst_lst, sz, e_range1, e_range2, range1_ok, range2_ok, p10_6, p10_10, p10_12, p10_18, int_bl, int_int, abs_int, max2_int, min2_int, tuple_tup, tuple_lst, rev_tup, rev_lst, sEq, sNe, sEqB_int, sEqB_str, sEqB_tI, sEqB_lI, List.getElem?_cons_zero, List.getElem?_cons_succ, List.set_cons_zero, List.set_cons_succ, wipeE, List.length_cons, List.length_nil, List.length_map, Nat.zero_add, Nat.reduceAdd, Int.cast_ofNat_Int, Int.reduceLE, Int.reduceLT, Int.reduceToNat, Nat.reduceLT, Nat.reduceLeDiff, Nat.reduceSub, Int.reduceEq, Nat.reduceEqDiff, ↓reduceIte, if_true, Bool.false_eq_true, if_false, ite_true, ite_false, decide_eq_true_eq, c2, decide_true, decide_false]
      exact tail _ _ _ ok2 ok3 ok4 _ (by rw [← (List.getElem?_eq_some_iff.mp hk').2, List.set_getElem_self])
  · simp -implicitDefEqProofs only [e_seq, seqK_next, seqK_ret, seqK_brk, seqK_cont, bnd_ok, bndN_ok, bns_ok, pur_some, prs_some, e_var, varK_some, toB_bl, asgK_some, subK_some, e_o2, e_kO2, e_kO2b, e_o1, e_kO1, e_cons, e_kCons, e_kConsb, e_nil, e_c, e_ca, e_kCa, e_cs, e_kCs, e_tb, e_kTB, e_tr, e_kTr, e_andT, e_kAndT, e_orT, e_kOrT, e_notT, e_kNotT, e_if, e_kIf, e_no, e_part, e_kPart, e_sl, e_kSl, e_kSlb, e_kSlc, e_mt, e_kMt, e_kMtb, e_val, e_kVal, e_enum, e_kEnum, e_kEnumb, e_yes, e_call, e_kCal, e_snil, e_brk, e_cont, e_retN, e_expr, e_kExpr, e_ret, e_kRet, e_sif, e_kSIf, e_set, e_kSet, e_par, e_kPar, e_par3, e_kPar3, e_aug, e_kAug, e_kAugb, e_kAugc, e_tup, e_kTup, e_lst, e_kLst, e_new, e_kNew, e_lc, e_kLc, e_kLcb, e_lcC, e_kLcC, e_kLcCb, e_for, e_kFor, e_gN, e_kGs, e_kAsg, e_asg, e_kSubc, e_kSubb, e_kSub, e_sub, e_and, e_or, e_not, e_kAnd, e_kOr, e_kNot, e_chain, e_kCh, e_kChb, e_kChv, e_kChc, and_t, and_f, or_t, or_f, not_b, tr_bl, tr_int, tr_non, neg_int, items_str, e_ms, e_kMs, e_kMx, count_str, mul_int, gT_tup, gT_lst, gs_cons, gs_nil, bind_some, op_int, cmp_int, add_int, iadd_int, some_map, seq_tup, seq_lst, seq_scr, sl_tup, sl_lst, sl_scr, items_tup, items_lst, len_tup, len_lst, len_scr, lst_lst, sz, e_range1, e_range2, range1_ok, range2_ok, p10_6, p10_10, p10_12, p10_18, int_bl, int_int, abs_int, max2_int, min2_int, tuple_tup, tuple_lst, rev_tup, rev_lst, sEq, sNe, sEqB_int, sEqB_str, sEqB_tI, sEqB_lI, List.getElem?_cons_zero, List.getElem?_cons_succ, List.set_cons_zero, List.set_cons_succ, wipeE, List.length_cons, List.length_nil, List.length_map, Nat.zero_add, Nat.reduceAdd, Int.cast_ofNat_Int, Int.reduceLE, Int.reduceLT, Int.reduceToNat, Nat.reduceLT, Nat.reduceLeDiff, Nat.reduceSub, Int.reduceEq, Nat.reduceEqDiff, ↓reduceIte, if_true, Bool.false_eq_true, if_false, ite_true, ite_false, decide_eq_true_eq, c1, decide_false]
    exact tail _ _ _ ok2 ok3 ok4 _ (by rw [← (List.getElem?_eq_some_iff.mp hk').2, List.set_getElem_self])
theorem tr__law_below {k : Nat} {n : Int} {S : Sto} (h : Sm S k) (hn : 0 < n) (hb : n < 2 ^ 64) : ∃ r S', f__law_below [.cell k, .int n] S = some (.ok (.int r) S') ∧ 0 ≤ r ∧ r < n ∧ Nx k S S' := by
  obtain ⟨r, S', e, h1, h2, h3⟩ := run__law_below h hn hb
  obtain ⟨v, S1, e1, k', n', r', q1, q2, q3, q4, q5⟩ := runK_ok (R := R__law_below) (runs_same e) ⟨k, n, r, rfl, rfl, h1, h2, h3⟩
  cases q1
  subst q2
  exact ⟨r', S1, e1, q3, q4, q5⟩
end G

set_option Elab.async false
set_option linter.all false
set_option maxRecDepth 100000
set_option maxHeartbeats 4000000
namespace G
open PySem PySem.Spec PyProof.Rows L2
structure KeyL (ks : List Int) : Prop where
  lt : ks.Pairwise (· < ·)
  bd : ∀ x ∈ ks, 0 ≤ x ∧ x ≤ 1000000000000
structure SeqL (ks : List Int) : Prop where
  nd : ks.Nodup
  bd : ∀ x ∈ ks, 0 ≤ x ∧ x ≤ 1000000000000
theorem KeyL.seq {ks : List Int} (h : KeyL ks) : SeqL ks := ⟨h.lt.imp fun h => Int.ne_of_lt h, h.bd⟩
end G

set_option Elab.async false
set_option linter.all false
set_option maxRecDepth 100000
set_option maxHeartbeats 4000000
namespace G
open PySem PySem.Spec PyProof.Rows L2
theorem getD_at {xs : List Int} {i : Nat} (h : i < xs.length) : xs.getD i 0 = xs[i] := by rw [List.getD_eq_getElem?_getD, List.getElem?_eq_getElem h]; rfl
end G

set_option Elab.async false
set_option linter.all false
set_option maxRecDepth 100000
set_option maxHeartbeats 4000000
namespace G
open PySem PySem.Spec PyProof.Rows L2
def tx (cs : List Nat) : Str := ⟨cs.toArray⟩
theorem tx_len (cs : List Nat) : (tx cs).length = cs.length := by simp [tx, Str.length]
theorem tx_app (a b : List Nat) : tx a ++ tx b = tx (a ++ b) := by
  show Str.append (tx a) (tx b) = _
  simp [tx, Str.append]
theorem tx_inj {a b : List Nat} : tx a = tx b ↔ a = b := by
  constructor
  · intro h
    have := congrArg (fun s : Str => s.cps.toList) h
    simpa [tx] using this
  · rintro rfl; rfl
theorem tx_cps (a : List Nat) : (tx a).cps.toList = a := by simp [tx]
theorem tx_signs (cs : List Nat) : signs (tx cs) = cs.map fun c => Val.str (tx [c]) := by simp [signs, tx]
theorem tx_count (cs : List Nat) (c : Nat) : Txt.count (tx cs) (tx [c]) = (cs.count c : Nat) := by
  have e : tx [c] = ⟨#[c]⟩ := rfl
  rw [e, count_cnt, tx_cps]
  induction cs with
  | nil => simp [cnt_nil]
  | cons a cs ih =>
    rw [cnt_cons, ih, List.count_cons]
    by_cases h : a = c
    · subst h; simp; omega
    · simp [h]
theorem tx_mul {cs : List Nat} {n : Int} (h : 0 ≤ n) : Txt.mul (tx cs) n = tx (List.replicate n.toNat cs).flatten := by
  have key : ∀ (k : Nat) (acc : List Nat), (List.replicate k cs.toArray).foldl (· ++ ·) acc.toArray = (acc ++ (List.replicate k cs).flatten).toArray := by
    intro k
    induction k with
    | zero => intro acc; simp
    | succ k ih =>
      intro acc
      rw [List.replicate_succ, List.foldl_cons, List.append_toArray, ih, List.replicate_succ, List.flatten_cons, List.append_assoc]
  unfold Txt.mul
  by_cases h1 : n < 1
  · have : n = 0 := by omega
    subst this
    simp
    decide +kernel
  · rw [if_neg h1]
    split
    · rename_i h2
      rcases Bool.or_eq_true_iff.mp h2 with h2 | h2
      · have : n = 1 := by simpa using h2
        subst this
        simp
      · rw [tx_len] at h2
        have : cs = [] := List.eq_nil_of_length_eq_zero (by simpa using h2)
        subst this
        simp
    · have := key n.toNat []
      rw [List.nil_append] at this
      show (⟨_⟩ : Str) = ⟨_⟩
      rw [← this]
      rfl
abbrev lt (b : Bool) : Nat := if b then 73 else 82
theorem lt_inj {a b : Bool} (h : lt a = lt b) : a = b := by cases a <;> cases b <;> simp_all [lt]
def bal : List Bool → Int
  | [] => 0
  | b :: w => (if b then 1 else -1) + bal w
theorem bal_app (a b : List Bool) : bal (a ++ b) = bal a + bal b := by
  induction a with
  | nil => simp [bal]
  | cons x a ih => simp only [List.cons_append, bal, ih]; omega
theorem bal_count (w : List Bool) : bal w = (w.count true : Int) - w.count false := by
  induction w with
  | nil => simp [bal]
  | cons b w ih => cases b <;> simp [bal, ih] <;> omega
theorem count_len (w : List Bool) : w.count true + w.count false = w.length := by
  induction w with
  | nil => simp
  | cons b w ih => cases b <;> simp <;> omega
structure Dyck (w : List Bool) : Prop where
  pos : ∀ k, 0 ≤ bal (w.take k)
  fin : bal w = 0
theorem pos_snoc {w : List Bool} {b : Bool} (h : ∀ k, 0 ≤ bal (w.take k)) (hb : 0 ≤ bal (w ++ [b])) : ∀ k, 0 ≤ bal ((w ++ [b]).take k) := by
  intro k
  by_cases hk : k ≤ w.length
  · rw [List.take_append_of_le_length hk]; exact h k
  · rw [List.take_of_length_le (by simp; omega)]; exact hb
end G

set_option Elab.async false
set_option linter.all false
set_option maxRecDepth 100000
set_option maxHeartbeats 4000000
namespace G
open PySem PySem.Spec PyProof.Rows L2
abbrev N__law_pick : List Str := ["_law_stream_here", "_law_items"]
noncomputable def m__law_pick : MS := sRet (mO2 sIx (mVar 1) (mCal 2 f__law_below (mCons (mVar 0) (mCons (mCa sLen (mCons (mVar 1) (mNil))) (mNil)))))
def R__law_pick (ds : List Val) (S : Sto) (v : Val) (S' : Sto) : Prop := ∃ k xs, (ds = [.cell k, .lst xs] ∨ ds = [.cell k, .tup xs]) ∧ v ∈ xs ∧ Nx k S S'
noncomputable def f__law_pick : Fn := runK N__law_pick m__law_pick R__law_pick
theorem tr__law_pick {k : Nat} {S : Sto} {xs : List Val} (h : Sm S k) (h0 : 0 < xs.length) (h1 : xs.length ≤ 1000000) : ∃ v S', f__law_pick [.cell k, .lst xs] S = some (.ok v S') ∧ v ∈ xs ∧ Nx k S S' := by
  have e0 : startE N__law_pick [.cell k, .lst xs] = [some (.cell k), some (.lst xs)] := rfl
  obtain ⟨r, S1, d1, a1, b1, n1⟩ := tr__law_below (n := xs.length) h (by omega) (by omega)
  have hx : atI xs r = some (xs[r.toNat]'(by omega)) := by rw [atI_nat a1 (by omega), List.getElem?_eq_getElem (by omega)]
  have hr : m__law_pick (startE N__law_pick [.cell k, .lst xs]) S = some (.ret (xs[r.toNat]'(by omega)), S1) := by
    rw [e0]
    unfold m__law_pick
    simp -implicitDefEqProofs only [e_seq, seqK_next, seqK_ret, seqK_brk, seqK_cont, bnd_ok, bndN_ok, bns_ok, pur_some, prs_some, e_var, varK_some, toB_bl, asgK_some, subK_some, e_o2, e_kO2, e_kO2b, e_o1, e_kO1, e_cons, e_kCons, e_kConsb, e_nil, e_c, e_ca, e_kCa, e_cs, e_kCs, e_tb, e_kTB, e_tr, e_kTr, e_andT, e_kAndT, e_orT, e_kOrT, e_notT, e_kNotT, e_if, e_kIf, e_no, e_part, e_kPart, e_sl, e_kSl, e_kSlb, e_kSlc, e_mt, e_kMt, e_kMtb, e_val, e_kVal, e_enum, e_kEnum, e_kEnumb, e_yes, e_call, e_kCal, e_snil, e_brk, e_cont, e_retN, e_expr, e_kExpr, e_ret, e_kRet, e_sif, e_kSIf, e_set, e_kSet, e_par, e_kPar, e_par3, e_kPar3, e_aug, e_kAug, e_kAugb, e_kAugc, e_tup, e_kTup, e_lst, e_kLst, e_new, e_kNew, e_lc, e_kLc, e_kLcb, e_lcC, e_kLcC, e_kLcCb, e_for, e_kFor, e_gN, e_kGs, e_kAsg, e_asg, e_kSubc, e_kSubb, e_kSub, e_sub, e_and, e_or, e_not, e_kAnd, e_kOr, e_kNot, e_chain, e_kCh, e_kChb, e_kChv, e_kChc, and_t, and_f, or_t, or_f, not_b, tr_bl, tr_int, tr_non, neg_int, items_str, e_ms, e_kMs, e_kMx, count_str, mul_int, gT_tup, gT_lst, gs_cons, gs_nil, bind_some, op_int, cmp_int, add_int, iadd_int, some_map, seq_tup, seq_lst, seq_scr, sl_tup, sl_lst, sl_scr, items_tup, items_lst, len_tup, len_lst, len_scr, lst_lst, sz, e_range1, e_range2, range1_ok, range2_ok, p10_6, p10_10, p10_12, p10_18, int_bl, int_int, abs_int, max2_int, min2_int, tuple_tup, tuple_lst, rev_tup, rev_lst, sEq, sNe, sEqB_int, sEqB_str, sEqB_tI, sEqB_lI, List.getElem?_cons_zero, List.getElem?_cons_succ, List.set_cons_zero, List.set_cons_succ, wipeE, List.length_cons, List.length_nil, List.length_map, Nat.zero_add, Nat.reduceAdd, Int.cast_ofNat_Int, Int.reduceLE, Int.reduceLT, Int.reduceToNat, Nat.reduceLT, Nat.reduceLeDiff, Nat.reduceSub, Int.reduceEq, Nat.reduceEqDiff, ↓reduceIte, if_true, Bool.false_eq_true, if_false, ite_true, ite_false, decide_eq_true_eq, d1, ix_seq (seq_lst _ _) hx]
  obtain ⟨v, S', e, k', xs', q1, q2, q3⟩ := runK_ok (R := R__law_pick) (runs_same hr) ⟨k, xs, .inl rfl, List.getElem_mem _, n1⟩
  rcases q1 with q1 | q1
  · cases q1
    exact ⟨v, S', e, q2, q3⟩
  · cases q1
theorem p10_39 : fPow 10 39 = some 1000000000000000000000000000000000000000 := by decide
def odds : List Val := [.non, .bl true, .bl false, .int 0, .int 1, .int (-1), .int 1000000000000, .int 1000000000001, .int 1000000000000000000000000000000000000000, .str "", .str "I", .str "IR", .str "3 1", .str "none", .tup [], .lst [], .dct [],
  .tup [.int 0], .lst [.int 0], .tup [.bl true], .tup [.tup []], .dct [(.inr "I", .int 1)], .tup [.str "I", .str "R"], .tup [.int 1, .non]]
abbrev N__law_odd : List Str := ["_law_stream_here", "_law_items"]
noncomputable def m__law_odd : MS := sSeq (sSet 1 (mLst (mCons (mC .non) (mCons (mC (.bl true)) (mCons (mC (.bl false)) (mCons (mC (.int 0)) (mCons (mC (.int 1)) (mCons (mO1 sNeg (mC (.int 1))) (mCons (mO2 aPow (mC (.int 10)) (mC (.int 12))) (mCons (mO2 sAdd (mO2 aPow (mC (.int 10)) (mC (.int 12))) (mC (.int 1))) (mCons (mO2 aPow (mC (.int 10)) (mC (.int 39))) (mCons (mC (.str "")) (mCons (mC (.str "I")) (mCons (mC (.str "IR")) (mCons (mC (.str "3 1")) (mCons (mC (.str "none")) (mCons (mTup (mNil)) (mCons (mLst (mNil)) (mCons (mC (.dct [])) (mNil)))))))))))))))))))) (sRet (mCal 2 f__law_pick (mCons (mVar 0) (mCons (mO2 sAdd (mVar 1) (mLst (mCons (mTup (mCons (mC (.int 0)) (mNil))) (mCons (mLst (mCons (mC (.int 0)) (mNil))) (mCons (mTup (mCons (mC (.bl true)) (mNil))) (mCons (mTup (mCons (mTup (mNil)) (mNil))) (mCons (mDisp [.inr "I"] (mCons (mC (.int 1)) (mNil))) (mCons (mTup (mCons (mC (.str "I")) (mCons (mC (.str "R")) (mNil)))) (mCons (mTup (mCons (mC (.int 1)) (mCons (mC .non) (mNil)))) (mNil)))))))))) (mNil)))))
def R__law_odd (ds : List Val) (S : Sto) (v : Val) (S' : Sto) : Prop := ∃ k, ds = [.cell k] ∧ v ∈ odds ∧ Nx k S S'
noncomputable def f__law_odd : Fn := runK N__law_odd m__law_odd R__law_odd
theorem tr__law_odd {k : Nat} {S : Sto} (h : Sm S k) : ∃ v S', f__law_odd [.cell k] S = some (.ok v S') ∧ v ∈ odds ∧ Nx k S S' := by
  have e0 : startE N__law_odd [.cell k] = [some (.cell k), none] := rfl
  obtain ⟨v, S1, d1, a1, n1⟩ := tr__law_pick (xs := odds) h (by decide) (by decide)
  have hr : m__law_odd (startE N__law_odd [.cell k]) S = some (.ret v, S1) := by
    rw [e0]
    unfold m__law_odd
    have d1' := d1
    unfold odds at d1'
    have la : ∀ xs ys : List Val, xs.length + ys.length ≤ 16777216 → sAdd S (.lst xs) (.lst ys) = some (.lst (xs ++ ys)) := fun xs ys h => add_lst S xs ys (by rw [sz]; exact h)
    simp -implicitDefEqProofs only [e_seq, seqK_next, seqK_ret, seqK_brk, seqK_cont, bnd_ok, bndN_ok, bns_ok, pur_some, prs_some, e_var, varK_some, toB_bl, asgK_some, subK_some, e_o2, e_kO2, e_kO2b, e_o1, e_kO1, e_cons, e_kCons, e_kConsb, e_nil, e_c, e_ca, e_kCa, e_cs, e_kCs, e_tb, e_kTB, e_tr, e_kTr, e_andT, e_kAndT, e_orT, e_kOrT, e_notT, e_kNotT, e_if, e_kIf, e_no, e_part, e_kPart, e_sl, e_kSl, e_kSlb, e_kSlc, e_mt, e_kMt, e_kMtb, e_val, e_kVal, e_enum, e_kEnum, e_kEnumb, e_yes, e_call, e_kCal, e_snil, e_brk, e_cont, e_retN, e_expr, e_kExpr, e_ret, e_kRet, e_sif, e_kSIf, e_set, e_kSet, e_par, e_kPar, e_par3, e_kPar3, e_aug, e_kAug, e_kAugb, e_kAugc, e_tup, e_kTup, e_lst, e_kLst, e_new, e_kNew, e_lc, e_kLc, e_kLcb, e_lcC, e_kLcC, e_kLcCb, e_for, e_kFor, e_gN, e_kGs, e_kAsg, e_asg, e_kSubc, e_kSubb, e_kSub, e_sub, e_and, e_or, e_not, e_kAnd, e_kOr, e_kNot, e_chain, e_kCh, e_kChb, e_kChv, e_kChc, and_t, and_f, or_t, or_f, not_b, tr_bl, tr_int, tr_non, neg_int, items_str, e_ms, e_kMs, e_kMx, count_str, mul_int, gT_tup, gT_lst, gs_cons, gs_nil, bind_some, op_int, cmp_int, add_int, iadd_int, some_map, seq_tup, seq_lst, seq_scr, sl_tup, sl_lst, sl_scr, items_tup, items_lst, len_tup, len_lst, len_scr, lst_lst, sz, e_range1, e_range2, range1_ok, range2_ok, p10_6, p10_10, p10_12, p10_18, int_bl, int_int, abs_int, max2_int, min2_int, tuple_tup, tuple_lst, rev_tup, rev_lst, sEq, sNe, sEqB_int, sEqB_str, sEqB_tI, sEqB_lI, List.getElem?_cons_zero, List.getElem?_cons_succ, List.set_cons_zero, List.set_cons_succ, wipeE, List.length_cons, List.length_nil, List.length_map, Nat.zero_add, Nat.reduceAdd, Int.cast_ofNat_Int, Int.reduceLE, Int.reduceLT, Int.reduceToNat, Nat.reduceLT, Nat.reduceLeDiff, Nat.reduceSub, Int.reduceEq, Nat.reduceEqDiff, ↓reduceIte, if_true, Bool.false_eq_true, if_false, ite_true, ite_false, decide_eq_true_eq, p10_39, la, List.cons_append, List.nil_append, mDisp, kDisp, mergeD, putD, List.zip_cons_cons, List.zip_nil_left, List.foldl_cons, List.foldl_nil, List.any_nil, Int.reduceAdd, d1']
  obtain ⟨v', S', e, k', q1, q2, q3⟩ := runK_ok (R := R__law_odd) (runs_same hr) ⟨k, rfl, a1, n1⟩
  cases q1
  exact ⟨v', S', e, q2, q3⟩
end G

set_option Elab.async false
set_option linter.all false
set_option maxRecDepth 100000
set_option maxHeartbeats 4000000
namespace G
open PySem PySem.Spec PyProof.Rows L2

abbrev eI : Int → Val := Val.int
abbrev eB : Bool → Val := Val.bl
def eS (cs : List Nat) : Val := .str (tx cs)
def eT {α : Type} (e : α → Val) (xs : List α) : Val := .tup (xs.map e)
def eL {α : Type} (e : α → Val) (xs : List α) : Val := .lst (xs.map e)
def eP {α β : Type} (e : α → Val) (f : β → Val) (p : α × β) : Val := .tup [e p.1, f p.2]
def eQ {α β γ : Type} (e : α → Val) (f : β → Val) (g : γ → Val) (p : α × β × γ) : Val := .tup [e p.1, f p.2.1, g p.2.2]
def eO {α : Type} (e : α → Val) : Option α → Val
  | none => .non
  | some a => e a
def eU (_ : Unit) : Val := .non
structure VV where
  val : Val
  ok : nc val = true
def eV (v : VV) : Val := v.1
class NC {α : Type} (e : α → Val) : Prop where
  nc : ∀ a, nc (e a) = true
instance : NC eI := ⟨fun _ => by simp [nc]⟩
instance : NC eB := ⟨fun _ => by simp [nc]⟩
instance : NC eS := ⟨fun _ => by simp [nc, eS]⟩
instance : NC eU := ⟨fun _ => by simp [nc, eU]⟩
instance : NC eV := ⟨fun v => v.2⟩
theorem ncL_map {α : Type} (e : α → Val) [NC e] (xs : List α) : ncL (xs.map e) = true := ncL_all.mpr fun x hx => by
  obtain ⟨a, _, rfl⟩ := List.mem_map.mp hx
  exact NC.nc a
instance {α : Type} (e : α → Val) [NC e] : NC (eT e) := ⟨fun xs => by simp [nc, eT, ncL_map]⟩
instance {α : Type} (e : α → Val) [NC e] : NC (eL e) := ⟨fun xs => by simp [nc, eL, ncL_map]⟩
instance {α β : Type} (e : α → Val) (f : β → Val) [NC e] [NC f] : NC (eP e f) := ⟨fun p => by simp [nc, eP, ncL, NC.nc]⟩
instance {α β γ : Type} (e : α → Val) (f : β → Val) (g : γ → Val) [NC e] [NC f] [NC g] : NC (eQ e f g) := ⟨fun p => by simp [nc, eQ, ncL, NC.nc]⟩
instance {α : Type} (e : α → Val) [NC e] : NC (eO e) := ⟨fun o => by cases o <;> simp [nc, eO, NC.nc]⟩
theorem ncC_lst {α : Type} (e : α → Val) [NC e] (xs : List α) : ncC (.lst (xs.map e)) = true := by simp [ncC, ncL_map]

structure St (B S : Sto) (cs : List (Nat × Cell)) : Prop where
  pre : B <+: S
  nd : (cs.map (·.1)).Nodup
  get : ∀ p ∈ cs, S[p.1]? = some p.2
  nc : ncS S
section
variable {B S : Sto} {cs : List (Nat × Cell)} {k : Nat} {c c' : Cell}
theorem St.start (h : ncS S) : St S S [] := ⟨List.prefix_refl S, by simp, by simp, h⟩
theorem St.startK (h : ncS S) (hk : S[k]? = some c) : St S S [(k, c)] := ⟨List.prefix_refl S, by simp, by simpa using hk, h⟩
theorem St.at (h : St B S cs) (i : Nat) (e : cs[i]? = some (k, c)) : S[k]? = some c := h.get (k, c) (List.mem_of_getElem? e)
theorem St.lt (h : St B S cs) (i : Nat) (e : cs[i]? = some (k, c)) : k < S.length := (List.getElem?_eq_some_iff.mp (h.at i e)).1
theorem St.le (h : St B S cs) : B.length ≤ S.length := h.pre.length_le
theorem keys_set {cs : List (Nat × Cell)} {i : Nat} (e : cs[i]? = some (k, c)) : (cs.set i (k, c')).map (·.1) = cs.map (·.1) := by
  rw [List.map_set]
  obtain ⟨h1, h2⟩ := List.getElem?_eq_some_iff.mp e
  have : (cs.map (·.1))[i]'(by simpa using h1) = k := by simp [h2]
  rw [← this, List.set_getElem_self]
theorem St.put_ (h : St B S cs) (i : Nat) (e : cs[i]? = some (k, c)) (hc : ncC c' = true) : ((cs.set i (k, c')).map (·.1)).Nodup ∧ (∀ p ∈ cs.set i (k, c'), (S.set k c')[p.1]? = some p.2) ∧ ncS (S.set k c') := by
  refine ⟨by rw [keys_set e]; exact h.nd, fun p hp => ?_, ncS_set h.nc hc⟩
  obtain ⟨j, hj, ep⟩ := List.getElem_of_mem hp
  rw [List.length_set] at hj
  by_cases hij : i = j
  · subst hij
    rw [List.getElem_set_self] at ep
    subst ep
    exact List.getElem?_set_self (h.lt i e)
  · rw [List.getElem_set_ne hij] at ep
    have hm : p ∈ cs := ep ▸ List.getElem_mem hj
    have hne : k ≠ p.1 := by
      intro z
      obtain ⟨hi, ei⟩ := List.getElem?_eq_some_iff.mp e
      have := (List.getElem_inj (xs := cs.map (·.1)) (i := i) (j := j) (h₀ := by simpa using hi) (h₁ := by simpa using hj) h.nd).mp (by simp [ei, ep, z])
      exact hij this
    rw [List.getElem?_set_ne hne]
    exact h.get p hm
theorem St.own (h : St B S cs) (i : Nat) (e : cs[i]? = some (k, c)) (hk : B.length ≤ k) (hc : ncC c' = true) : St B (S.set k c') (cs.set i (k, c')) := by
  obtain ⟨a1, a2, a3⟩ := h.put_ i e hc
  refine ⟨?_, a1, a2, a3⟩
  obtain ⟨T, rfl⟩ := h.pre
  rw [List.set_append_right _ _ hk]
  exact List.prefix_append _ _
theorem St.out (h : St B S cs) (i : Nat) (e : cs[i]? = some (k, c)) (hk : k < B.length) (hc : ncC c' = true) : St (B.set k c') (S.set k c') (cs.set i (k, c')) := by
  obtain ⟨a1, a2, a3⟩ := h.put_ i e hc
  refine ⟨?_, a1, a2, a3⟩
  obtain ⟨T, rfl⟩ := h.pre
  rw [List.set_append_left _ _ hk]
  exact List.prefix_append _ _
theorem St.new (h : St B S cs) (c : Cell) (hc : ncC c = true) : St B (S ++ [c]) ((S.length, c) :: cs) := by
  refine ⟨h.pre.trans (List.prefix_append _ _), ?_, fun p hp => ?_, ncS_app h.nc (ncS_one hc)⟩
  · rw [List.map_cons, List.nodup_cons]
    refine ⟨fun hm => ?_, h.nd⟩
    obtain ⟨p, hp, e⟩ := List.mem_map.mp hm
    have := (List.getElem?_eq_some_iff.mp (h.get p hp)).1
    simp at e
    omega
  · rcases List.mem_cons.mp hp with rfl | hp
    · simp
    · rw [List.getElem?_append_left (List.getElem?_eq_some_iff.mp (h.get p hp)).1]
      exact h.get p hp
theorem St.less (h : St B S cs) {cs' : List (Nat × Cell)} (l : List.Sublist cs' cs) : St B S cs' := ⟨h.pre, (l.map _).nodup h.nd, fun p hp => h.get p (l.subset hp), h.nc⟩
theorem St.nil (h : St B S cs) : St B S [] := h.less (List.nil_sublist _)
end

def X {α : Type} (B : Sto) (cs : List (Nat × Cell)) (m : Ev → Sto → Res α) (ρ : Ev) (a : α) (B' : Sto) (cs' : List (Nat × Cell)) : Prop := ∀ S, St B S cs → ∃ S', m ρ S = some (.ok a S') ∧ St B' S' cs'
def Run (B : Sto) (cs : List (Nat × Cell)) (m : MS) (ρ : Ev) (P : Fl → Sto → Prop) : Prop := ∀ S, St B S cs → ∃ fl S', m ρ S = some (fl, S') ∧ P fl S'
section
variable {B B' B1 B2 B3 : Sto} {cs cs' cs1 cs2 cs3 : List (Nat × Cell)} {m n a b : MS} {ρ ρ' : Ev} {P Q : Fl → Sto → Prop} {e : ME} {v x y z : Val} {i j l : Nat} {t : MT} {c : Bool}
theorem run_one (h : Run B cs (sSeq m sNil) ρ P) : Run B cs m ρ P := by
  intro S hS
  obtain ⟨fl, S', h1, h2⟩ := h S hS
  refine ⟨fl, S', ?_, h2⟩
  unfold sSeq at h1
  split at h1
  · rename_i ρ' S1 e
    cases h1
    exact e
  · exact h1
theorem run_nil (h : ∀ S, St B S cs → P (.next ρ) S) : Run B cs sNil ρ P := fun S hS => ⟨_, _, rfl, h S hS⟩
theorem run_skip (h : Run B cs n ρ P) : Run B cs (sSeq sNil n) ρ P := h
theorem run_assoc (h : Run B cs (sSeq a (sSeq b n)) ρ P) : Run B cs (sSeq (sSeq a b) n) ρ P := by
  intro S hS
  obtain ⟨fl, S', h1, h2⟩ := h S hS
  refine ⟨fl, S', ?_, h2⟩
  rw [← h1]
  show (match (match a ρ S with | some (.next ρ', S') => b ρ' S' | r => r) with | some (.next ρ', S') => n ρ' S' | r => r) = (match a ρ S with | some (.next ρ', S') => (match b ρ' S' with | some (.next ρ', S') => n ρ' S' | r => r) | r => r)
  cases q : a ρ S with
  | none => rfl
  | some o =>
    obtain ⟨f, T⟩ := o
    cases f <;> rfl
theorem run_join (h : Run B cs m ρ Q) (k : ∀ fl S, Q fl S → ∃ ρ', fl = .next ρ' ∧ ∃ fl' S', n ρ' S = some (fl', S') ∧ P fl' S') : Run B cs (sSeq m n) ρ P := by
  intro S hS
  obtain ⟨fl, S', h1, h2⟩ := h S hS
  obtain ⟨ρ', rfl, fl', S2, h3, h4⟩ := k fl S' h2
  exact ⟨fl', S2, by rw [e_seq, h1]; exact h3, h4⟩
theorem run_set (hs : ρ.set i (some v) = ρ') (he : X B cs e ρ v B' cs') (h : Run B' cs' n ρ' P) : Run B cs (sSeq (sSet i e) n) ρ P := by
  intro S hS
  obtain ⟨S1, h1, hS1⟩ := he S hS
  obtain ⟨fl, S2, h2, h3⟩ := h S1 hS1
  exact ⟨fl, S2, by rw [e_seq, e_set, h1, bns_ok, e_kSet, seqK_next, hs]; exact h2, h3⟩
theorem run_aug {f : Sto → Val → Val → Option Val} (hx : ρ[i]? = some (some x)) (hs : ρ.set i (some z) = ρ') (he : X B cs e ρ y B' cs') (hz : ∀ S, St B' S cs' → f S x y = some z) (h : Run B' cs' n ρ' P) : Run B cs (sSeq (sAug i f e) n) ρ P := by
  intro S hS
  obtain ⟨S1, h1, hS1⟩ := he S hS
  obtain ⟨fl, S2, h2, h3⟩ := h S1 hS1
  exact ⟨fl, S2, by rw [e_seq, e_aug, hx, e_kAug, h1, bns_ok, e_kAugb, hz S1 hS1, e_kAugc, seqK_next, hs]; exact h2, h3⟩
theorem run_expr (he : X B cs e ρ v B' cs') (h : Run B' cs' n ρ P) : Run B cs (sSeq (sExpr e) n) ρ P := by
  intro S hS
  obtain ⟨S1, h1, hS1⟩ := he S hS
  obtain ⟨fl, S2, h2, h3⟩ := h S1 hS1
  exact ⟨fl, S2, by rw [e_seq, e_expr, h1, bns_ok, e_kExpr, seqK_next]; exact h2, h3⟩
theorem run_ret (he : X B cs e ρ v B' cs') (h : ∀ S, St B' S cs' → P (.ret v) S) : Run B cs (sSeq (sRet e) n) ρ P := by
  intro S hS
  obtain ⟨S1, h1, hS1⟩ := he S hS
  exact ⟨_, _, by rw [e_seq, e_ret, h1, bns_ok, e_kRet, seqK_ret], h S1 hS1⟩
theorem run_if (c : Bool) (ht : X B cs t ρ c B' cs') (h1 : c = true → Run B' cs' (sSeq a n) ρ P) (h0 : c = false → Run B' cs' (sSeq b n) ρ P) : Run B cs (sSeq (sIf t a b) n) ρ P := by
  intro S hS
  obtain ⟨S1, q, hS1⟩ := ht S hS
  have key : ∀ k : MS, Run B' cs' (sSeq k n) ρ P → sIf t a b ρ S = k ρ S1 → ∃ fl S', sSeq (sIf t a b) n ρ S = some (fl, S') ∧ P fl S' := by
    intro k h q
    obtain ⟨fl, S2, h1, h2⟩ := h S1 hS1
    exact ⟨fl, S2, by rw [e_seq, q, ← e_seq]; exact h1, h2⟩
  cases c with
  | true => exact key a (h1 rfl) (by rw [e_sif, q, bns_ok, e_kSIf, if_pos rfl])
  | false => exact key b (h0 rfl) (by rw [e_sif, q, bns_ok, e_kSIf, if_neg (by decide)])
theorem run_par {ms : MA} {v w : Val} {ρ1 : Ev} (h1 : ρ.set i (some v) = ρ1) (h2 : ρ1.set j (some w) = ρ') (hs : X B cs ms ρ [v, w] B' cs') (h : Run B' cs' n ρ' P) : Run B cs (sSeq (sPar i j ms) n) ρ P := by
  intro S hS
  obtain ⟨S1, q, hS1⟩ := hs S hS
  obtain ⟨fl, S2, q1, q2⟩ := h S1 hS1
  exact ⟨fl, S2, by rw [e_seq, e_par, q, bns_ok, e_kPar, seqK_next, h1, h2]; exact q1, q2⟩
theorem run_asg {g : MG} (he : X B cs e ρ v B' cs') (hg : ∀ S, St B' S cs' → g S v ρ = some ρ') (h : Run B' cs' n ρ' P) : Run B cs (sSeq (sAsg g e) n) ρ P := by
  intro S hS
  obtain ⟨S1, q, hS1⟩ := he S hS
  obtain ⟨fl, S2, q1, q2⟩ := h S1 hS1
  exact ⟨fl, S2, by rw [e_seq, e_asg, q, bns_ok, e_kAsg, hg S1 hS1, asgK_some, seqK_next]; exact q1, q2⟩
theorem run_sub {f : Sto → Val → Val → Val → Option Sto} {mo mi : ME} {o k : Val} (he : X B cs e ρ v B1 cs1) (ho : X B1 cs1 mo ρ o B2 cs2) (hi : X B2 cs2 mi ρ k B3 cs3) (hf : ∀ S, St B3 S cs3 → ∃ S', f S o k v = some S' ∧ St B' S' cs') (h : Run B' cs' n ρ P) : Run B cs (sSeq (sSub f mo mi e) n) ρ P := by
  intro S hS
  obtain ⟨S1, q1, hS1⟩ := he S hS
  obtain ⟨S2, q2, hS2⟩ := ho S1 hS1
  obtain ⟨S3, q3, hS3⟩ := hi S2 hS2
  obtain ⟨S4, q4, hS4⟩ := hf S3 hS3
  obtain ⟨fl, S5, q5, q6⟩ := h S4 hS4
  exact ⟨fl, S5, by rw [e_seq, e_sub, q1, bns_ok, e_kSub, q2, bns_ok, e_kSubb, q3, bns_ok, e_kSubc, q4, subK_some, seqK_next]; exact q5, q6⟩
end

section
variable {S : Sto} {ρ ρ' : Ev} {v : Val} {i : Nat}
theorem tg_n (h : ρ.set i (some v) = ρ') : gN i S v ρ = some ρ' := by rw [e_gN, h]
theorem tg_t {n : Nat} {g : MGs} {xs : List Val} (hl : xs.length = n) (h : g S xs ρ = some ρ') : gT n g S (.tup xs) ρ = some ρ' := by rw [gT_tup, if_pos hl, h]
theorem tg_p {n : Nat} {g : MGs} {xs : List Val} (hl : xs.length = n) (h : g S xs ρ = some ρ') : gT n g S (.prs xs) ρ = some ρ' := by simp only [gT, prsOf, if_pos hl, h]
theorem tg_c {f : MG} {g : MGs} {r : List Val} {ρ1 : Ev} (h1 : f S v ρ = some ρ1) (h2 : g S r ρ1 = some ρ') : gsCons f g S (v :: r) ρ = some ρ' := by rw [gs_cons, h1, bind_some, h2]
theorem tg_z : gsNil S [] ρ = some ρ := rfl
end

section
variable {B B1 B2 B3 : Sto} {cs cs1 cs2 cs3 : List (Nat × Cell)} {ρ : Ev} {ma mb mc : ME} {x y z v w : Val} {ms : MA} {xs : List Val} {t t' : MT} {a b c : Bool}
theorem X.of {α : Type} {m : Ev → Sto → Res α} {a : α} (h : ∀ S, m ρ S = some (.ok a S)) : X B cs m ρ a B cs := fun S hS => ⟨S, h S, hS⟩
theorem ev_c : X B cs (mC v) ρ v B cs := .of fun _ => rfl
theorem ev_o2 {f : Sto → Val → Val → Option Val} (ha : X B cs ma ρ x B1 cs1) (hb : X B1 cs1 mb ρ y B2 cs2) (hf : ∀ S, St B2 S cs2 → f S x y = some z) : X B cs (mO2 f ma mb) ρ z B2 cs2 := by
  intro S hS
  obtain ⟨S1, q1, h1⟩ := ha S hS
  obtain ⟨S2, q2, h2⟩ := hb S1 h1
  exact ⟨S2, by rw [e_o2, q1, bnd_ok, e_kO2, q2, bnd_ok, e_kO2b, hf S2 h2, pur_some], h2⟩
theorem ev_o1 {f : Sto → Val → Option Val} (ha : X B cs ma ρ x B1 cs1) (hf : ∀ S, St B1 S cs1 → f S x = some z) : X B cs (mO1 f ma) ρ z B1 cs1 := by
  intro S hS
  obtain ⟨S1, q1, h1⟩ := ha S hS
  exact ⟨S1, by rw [e_o1, q1, bnd_ok, e_kO1, hf S1 h1, pur_some], h1⟩
theorem ev_nil : X B cs mNil ρ [] B cs := .of fun _ => rfl
theorem ev_cons (ha : X B cs ma ρ x B1 cs1) (hs : X B1 cs1 ms ρ xs B2 cs2) : X B cs (mCons ma ms) ρ (x :: xs) B2 cs2 := by
  intro S hS
  obtain ⟨S1, q1, h1⟩ := ha S hS
  obtain ⟨S2, q2, h2⟩ := hs S1 h1
  exact ⟨S2, by rw [e_cons, q1, bnd_ok, e_kCons, q2, bnd_ok, e_kConsb], h2⟩
theorem ev_ca {f : Sto → List Val → Option Val} (hs : X B cs ms ρ xs B1 cs1) (hf : ∀ S, St B1 S cs1 → f S xs = some z) : X B cs (mCa f ms) ρ z B1 cs1 := by
  intro S hS
  obtain ⟨S1, q1, h1⟩ := hs S hS
  exact ⟨S1, by rw [e_ca, q1, bnd_ok, e_kCa, hf S1 h1, pur_some], h1⟩
theorem ev_tup (hs : X B cs ms ρ xs B1 cs1) (hl : xs.length ≤ 16777216) : X B cs (mTup ms) ρ (.tup xs) B1 cs1 := by
  intro S hS
  obtain ⟨S1, q1, h1⟩ := hs S hS
  exact ⟨S1, by rw [e_tup, q1, bnd_ok, e_kTup, if_pos (by rw [sz]; exact hl)], h1⟩
theorem ev_lst (hs : X B cs ms ρ xs B1 cs1) (hl : xs.length ≤ 16777216) : X B cs (mLst ms) ρ (.lst xs) B1 cs1 := by
  intro S hS
  obtain ⟨S1, q1, h1⟩ := hs S hS
  exact ⟨S1, by rw [e_lst, q1, bnd_ok, e_kLst, if_pos (by rw [sz]; exact hl)], h1⟩
theorem ev_tb (h : X B cs ma ρ (.bl b) B1 cs1) : X B cs (mTB ma) ρ b B1 cs1 := by
  intro S hS
  obtain ⟨S1, q1, h1⟩ := h S hS
  exact ⟨S1, by rw [e_tb, q1, bnd_ok, e_kTB, toB_bl, pur_some], h1⟩
theorem ev_tr (h : X B cs ma ρ v B1 cs1) (ht : ∀ S, St B1 S cs1 → truth S v = some b) : X B cs (mTr ma) ρ b B1 cs1 := by
  intro S hS
  obtain ⟨S1, q1, h1⟩ := h S hS
  exact ⟨S1, by rw [e_tr, q1, bnd_ok, e_kTr, ht S1 h1, pur_some], h1⟩
theorem ev_if (c : Bool) (ht : X B cs t ρ c B1 cs1) (h1 : c = true → X B1 cs1 ma ρ v B2 cs2) (h0 : c = false → X B1 cs1 mb ρ v B2 cs2) : X B cs (mIf t ma mb) ρ v B2 cs2 := by
  intro S hS
  obtain ⟨S1, q1, hS1⟩ := ht S hS
  rw [e_if, q1, bnd_ok, e_kIf]
  cases c with
  | true => exact h1 rfl S1 hS1
  | false => exact h0 rfl S1 hS1
theorem ev_ifv {α : Type} {en : α → Val} {p q : α} {c : Bool} (ht : X B cs t ρ c B1 cs1) (h1 : X B1 cs1 ma ρ (en p) B2 cs2) (h0 : X B1 cs1 mb ρ (en q) B2 cs2) : X B cs (mIf t ma mb) ρ (en (if c then p else q)) B2 cs2 := by
  refine ev_if c ht (fun e => ?_) fun e => ?_ <;> subst e
  · exact h1
  · exact h0
theorem ev_andP (c : Bool) (h : X B cs t ρ a B1 cs1) (h1 : a = true → X B1 cs1 t' ρ c B2 cs2) (h0 : a = false → c = false ∧ B2 = B1 ∧ cs2 = cs1) : X B cs (mAndT t t') ρ c B2 cs2 := by
  intro S hS
  obtain ⟨S1, q1, hS1⟩ := h S hS
  rw [e_andT, q1, bnd_ok, e_kAndT]
  cases a with
  | true => exact h1 rfl S1 hS1
  | false =>
    obtain ⟨rfl, rfl, rfl⟩ := h0 rfl
    exact ⟨S1, rfl, hS1⟩
theorem ev_orP (c : Bool) (h : X B cs t ρ a B1 cs1) (h1 : a = true → c = true ∧ B2 = B1 ∧ cs2 = cs1) (h0 : a = false → X B1 cs1 t' ρ c B2 cs2) : X B cs (mOrT t t') ρ c B2 cs2 := by
  intro S hS
  obtain ⟨S1, q1, hS1⟩ := h S hS
  rw [e_orT, q1, bnd_ok, e_kOrT]
  cases a with
  | true =>
    obtain ⟨rfl, rfl, rfl⟩ := h1 rfl
    exact ⟨S1, rfl, hS1⟩
  | false => exact h0 rfl S1 hS1
theorem ev_and (h : X B cs t ρ a B1 cs1) (h1 : X B1 cs1 t' ρ b B1 cs1) : X B cs (mAndT t t') ρ (a && b) B1 cs1 := ev_andP _ h (fun e => by subst e; exact h1) fun e => by subst e; exact ⟨rfl, rfl, rfl⟩
theorem ev_or (h : X B cs t ρ a B1 cs1) (h1 : X B1 cs1 t' ρ b B1 cs1) : X B cs (mOrT t t') ρ (a || b) B1 cs1 := ev_orP _ h (fun e => by subst e; exact ⟨rfl, rfl, rfl⟩) fun e => by subst e; exact h1
theorem ev_notT (h : X B cs t ρ a B1 cs1) : X B cs (mNotT t) ρ (!a) B1 cs1 := by
  intro S hS
  obtain ⟨S1, q1, hS1⟩ := h S hS
  exact ⟨S1, by rw [e_notT, q1, bnd_ok, e_kNotT], hS1⟩
theorem ev_andVP (c : Bool) (h : X B cs ma ρ (.bl a) B1 cs1) (h1 : a = true → X B1 cs1 mb ρ (.bl c) B2 cs2) (h0 : a = false → c = false ∧ B2 = B1 ∧ cs2 = cs1) : X B cs (mAnd ma mb) ρ (.bl c) B2 cs2 := by
  intro S hS
  obtain ⟨S1, q1, hS1⟩ := h S hS
  rw [e_and, q1, bnd_ok, e_kAnd, tr_bl]
  cases a with
  | true => exact h1 rfl S1 hS1
  | false =>
    obtain ⟨rfl, rfl, rfl⟩ := h0 rfl
    exact ⟨S1, rfl, hS1⟩
theorem ev_no : X B cs mNo ρ none B cs := .of fun _ => rfl
theorem ev_part {i : Int} (h : X B cs ma ρ (.int i) B1 cs1) : X B cs (mPart ma) ρ (some i) B1 cs1 := by
  intro S hS
  obtain ⟨S1, q1, hS1⟩ := h S hS
  exact ⟨S1, by rw [e_part, q1, bnd_ok, e_kPart], hS1⟩
theorem ev_sl {f : Sto → Val → Option Int → Option Int → Option Val} {ml mh : MO} {lo hi : Option Int} (ha : X B cs ma ρ x B1 cs1) (hl : X B1 cs1 ml ρ lo B2 cs2) (hh : X B2 cs2 mh ρ hi B3 cs3) (hf : ∀ S, St B3 S cs3 → f S x lo hi = some z) : X B cs (mSl f ma ml mh) ρ z B3 cs3 := by
  intro S hS
  obtain ⟨S1, q1, h1⟩ := ha S hS
  obtain ⟨S2, q2, h2⟩ := hl S1 h1
  obtain ⟨S3, q3, h3⟩ := hh S2 h2
  exact ⟨S3, by rw [e_sl, q1, bnd_ok, e_kSl, q2, bnd_ok, e_kSlb, q3, bnd_ok, e_kSlc, hf S3 h3, pur_some], h3⟩
theorem ev_call {n : Nat} {f : Fn} (hs : X B cs ms ρ xs B1 cs1) (hl : xs.length = n) (hf : ∀ S, ncS S → f xs S = some (.ok v S)) : X B cs (mCal n f ms) ρ v B1 cs1 := by
  intro S hS
  obtain ⟨S1, q1, h1⟩ := hs S hS
  exact ⟨S1, by rw [e_call, q1, bnd_ok, e_kCal, if_pos hl, hf S1 h1.nc], h1⟩
theorem ev_callK {n k : Nat} {f : Fn} {c c' : Cell} (i : Nat) (hs : X B cs ms ρ xs B1 cs1) (hl : xs.length = n) (hc : cs1[i]? = some (k, c)) (hk : k < B1.length) (hn : ncC c' = true) (hB : B1.set k c' = B2) (hq : cs1.set i (k, c') = cs2)
    (hf : ∀ S, ncS S → S[k]? = some c → f xs S = some (.ok v (S.set k c'))) : X B cs (mCal n f ms) ρ v B2 cs2 := by
  intro S hS
  obtain ⟨S1, q1, h1⟩ := hs S hS
  refine ⟨S1.set k c', by rw [e_call, q1, bnd_ok, e_kCal, if_pos hl, hf S1 h1.nc (h1.at i hc)], ?_⟩
  rw [← hB, ← hq]
  exact h1.out i hc hk hn
theorem ev_callO {n k : Nat} {f : Fn} {c c' : Cell} (i : Nat) (hs : X B cs ms ρ xs B1 cs1) (hl : xs.length = n) (hc : cs1[i]? = some (k, c)) (hk : B1.length ≤ k) (hn : ncC c' = true) (hq : cs1.set i (k, c') = cs2)
    (hf : ∀ S, ncS S → S[k]? = some c → f xs S = some (.ok v (S.set k c'))) : X B cs (mCal n f ms) ρ v B1 cs2 := by
  intro S hS
  obtain ⟨S1, q1, h1⟩ := hs S hS
  refine ⟨S1.set k c', by rw [e_call, q1, bnd_ok, e_kCal, if_pos hl, hf S1 h1.nc (h1.at i hc)], ?_⟩
  rw [← hq]
  exact h1.own i hc hk hn
theorem ev_mt {f : Sto → Val → List Val → Option (Val × Sto)} {o : Val} (ho : X B cs ma ρ o B1 cs1) (hl : ∀ S, St B1 S cs1 → (lstOf S o).isSome = true) (hs : X B1 cs1 ms ρ xs B2 cs2) (hf : ∀ S, St B2 S cs2 → ∃ S', f S o xs = some (v, S') ∧ St B3 S' cs3) : X B cs (mMt f ma ms) ρ v B3 cs3 := by
  intro S hS
  obtain ⟨S1, q1, h1⟩ := ho S hS
  obtain ⟨S2, q2, h2⟩ := hs S1 h1
  obtain ⟨S3, q3, h3⟩ := hf S2 h2
  exact ⟨S3, by rw [e_mt, q1, bnd_ok, e_kMt, if_pos (hl S1 h1), q2, bnd_ok, e_kMtb, q3, prs_some], h3⟩
theorem ev_ms {f : Sto → Val → List Val → Option (Val × Sto)} {o : Str} (ho : X B cs ma ρ (.str o) B1 cs1) (hs : X B1 cs1 ms ρ xs B2 cs2) (hf : ∀ S, f S (.str o) xs = some (v, S)) : X B cs (mMs f ma ms) ρ v B2 cs2 := by
  intro S hS
  obtain ⟨S1, q1, h1⟩ := ho S hS
  obtain ⟨S2, q2, h2⟩ := hs S1 h1
  exact ⟨S2, by rw [e_ms, q1, bnd_ok, e_kMs, q2, bnd_ok, e_kMx, hf S2, prs_some], h2⟩
theorem it_val {p : List Val × Gd} (h : X B cs ma ρ v B1 cs1) (hi : ∀ S, St B1 S cs1 → itemsOf S v = some p) : X B cs (mVal ma) ρ p B1 cs1 := by
  intro S hS
  obtain ⟨S1, q1, h1⟩ := h S hS
  exact ⟨S1, by rw [e_val, q1, bnd_ok, e_kVal, hi S1 h1, pur_some], h1⟩
end
def szO {α : Type} (xs : List α) : Option (List α) := if xs.length ≤ 16777216 then some xs else none
theorem szO_ok {α : Type} {xs : List α} (h : xs.length ≤ 16777216) : szO xs = some xs := if_pos h
theorem szO_some {α : Type} {xs ys : List α} (h : szO xs = some ys) : xs.length ≤ sizeLine ∧ xs = ys := by
  unfold szO at h
  split at h
  · rename_i hl
    cases h
    exact ⟨by rw [sz]; exact hl, rfl⟩
  · cases h
def rngO (a b : Int) : Option (List Int) := if -4611686018427387904 ≤ a ∧ a < 4611686018427387904 ∧ -4611686018427387904 ≤ b ∧ b < 4611686018427387904 then some ((List.range (b - a).toNat).map fun (i : Nat) => a + (i : Int)) else none
def rngD (a b : Int) : Option (List Int) := if -4611686018427387904 ≤ a ∧ a < 4611686018427387904 ∧ -4611686018427387904 ≤ b ∧ b < 4611686018427387904 then some ((List.range (a - b).toNat).map fun (i : Nat) => a + (i : Int) * -1) else none
def enI {α : Type} (xs : List α) : List (Int × α) := (List.range xs.length).zipWith (fun (i : Nat) x => ((i : Int), x)) xs
def eR {α β : Type} (e : α → Val) (f : β → Val) : α × β → Val := fun p => .prs [e p.1, f p.2]
theorem enum_map {α : Type} (e : α → Val) (xs : List α) : pairsOf' (xs.map e) = (enI xs).map (eR eI e) := by
  unfold pairsOf' enI
  rw [List.length_map, List.zipWith_map_right, List.map_zipWith]
  rfl
def zpL {α β : Type} (xs : List α) (ys : List β) : List (α × β) := List.zipWith Prod.mk xs ys
theorem zip_map {α β : Type} (e : α → Val) (f : β → Val) (xs : List α) (ys : List β) : zipV (xs.map e) (ys.map f) = (zpL xs ys).map (eR e f) := by
  unfold zipV zpL
  rw [List.zipWith_map, List.map_zipWith]
  rfl
def chS (cs : List Nat) : List (List Nat) := cs.map fun c => [c]
section
variable {S : Sto}
theorem items_T {α : Type} {e : α → Val} {xs : List α} : itemsOf S (eT e xs) = some (xs.map e, []) := rfl
theorem items_L {α : Type} {e : α → Val} {xs : List α} : itemsOf S (eL e xs) = some (xs.map e, []) := rfl
theorem items_S {cs : List Nat} : itemsOf S (eS cs) = some ((chS cs).map eS, []) := by
  unfold eS
  rw [items_str, tx_signs]
  simp [chS, eS, Function.comp_def]
theorem items_C {xs : List Val} {k : Nat} (h : S[k]? = some (.lst xs)) : itemsOf S (.cell k) = some (xs, [(k, xs)]) := by simp [itemsOf, h]
end
section
variable {B B1 : Sto} {cs cs1 : List (Nat × Cell)} {ρ : Ev} {ms : MA} {v : Val}
theorem it_enum {α : Type} {en : α → Val} {ys : List α} {g : Gd} (h : X B cs ms ρ [v] B1 cs1) (hi : ∀ S, St B1 S cs1 → itemsOf S v = some (ys.map en, g)) : X B cs (mEnum ms) ρ ((enI ys).map (eR eI en), g) B1 cs1 := by
  intro S hS
  obtain ⟨S1, q1, h1⟩ := h S hS
  exact ⟨S1, by rw [e_enum, q1, bnd_ok, e_kEnum, hi S1 h1, e_kEnumb, enum_map], h1⟩
theorem it_range1 {j : Int} {xs : List Int} (h : X B cs ms ρ [.int j] B1 cs1) (hr : rngO 0 j = some xs) : X B cs (mRange1 ms) ρ (xs.map eI, []) B1 cs1 := by
  intro S hS
  obtain ⟨S1, q1, h1⟩ := h S hS
  refine ⟨S1, ?_, h1⟩
  unfold rngO at hr
  split at hr
  · rename_i q
    cases hr
    rw [e_range1, q1, bnd_ok, range1_ok q.2.2.1 q.2.2.2]
    simp [rangeL]
  · cases hr
theorem it_range2 {i j : Int} {xs : List Int} (h : X B cs ms ρ [.int i, .int j] B1 cs1) (hr : rngO i j = some xs) : X B cs (mRange2 ms) ρ (xs.map eI, []) B1 cs1 := by
  intro S hS
  obtain ⟨S1, q1, h1⟩ := h S hS
  refine ⟨S1, ?_, h1⟩
  unfold rngO at hr
  split at hr
  · rename_i q
    cases hr
    rw [e_range2, q1, bnd_ok, range2_ok q.1 q.2.1 q.2.2.1 q.2.2.2]
    simp [rangeL]
  · cases hr
theorem it_range3 {i j : Int} {xs : List Int} (h : X B cs ms ρ [.int i, .int j, .int (-1)] B1 cs1) (hr : rngD i j = some xs) : X B cs (mRange3 ms) ρ (xs.map eI, []) B1 cs1 := by
  intro S hS
  obtain ⟨S1, q1, h1⟩ := h S hS
  refine ⟨S1, ?_, h1⟩
  unfold rngD at hr
  split at hr
  · rename_i q
    cases hr
    have e : mRange3 ms ρ S = bnd (ms ρ S) (fun vs S1 => match vs with
      | [.int i, .int j, .int c] => if c = -1 ∧ -(2 ^ 62) ≤ i ∧ i < 2 ^ 62 ∧ -(2 ^ 62) ≤ j ∧ j < 2 ^ 62 then some (.ok (rangeC i (-1) (i - j).toNat, []) S1) else none
      | _ => none) := rfl
    rw [e, q1, bnd_ok]
    simp only
    rw [if_pos ⟨trivial, q.1, q.2.1, q.2.2.1, q.2.2.2⟩]
    simp [rangeC, Function.comp_def]
  · cases hr
theorem it_zipT {α β : Type} {e : α → Val} {f : β → Val} {xs : List α} {ys : List β} (h : X B cs ms ρ [eT e xs, eT f ys] B1 cs1) : X B cs (mZip ms) ρ ((zpL xs ys).map (eR e f), []) B1 cs1 := by
  intro S hS
  obtain ⟨S1, q1, h1⟩ := h S hS
  refine ⟨S1, ?_, h1⟩
  rw [← zip_map]
  unfold mZip
  rw [q1]
  rfl
end

def foldO {σ α : Type} (step : σ → α → Option σ) : List α → σ → Option σ
  | [], s => some s
  | x :: xs, s => (step s x).bind (foldO step xs)
inductive Lp (R σ : Type) where
  | go (s : σ) | ret (r : R) | brk (s : σ)
def forT {R σ α : Type} (step : σ → α → Option (Lp R σ)) : List α → σ → Option (Lp R σ)
  | [], s => some (.go s)
  | x :: xs, s => match step s x with
    | some (.go s') => forT step xs s'
    | some (.brk s') => some (.go s')
    | some (.ret r) => some (.ret r)
    | none => none
def whO {σ : Type} (t : σ → Option Bool) (step : σ → Option σ) : Nat → σ → Option σ
  | 0, _ => none
  | n + 1, s => (t s).bind fun c => if c then (step s).bind (whO t step n) else some s
section
variable {R σ α : Type} {enc : α → Val} {g : Gd} {t : MG} {b n : MS} {P : Fl → Sto → Prop} {B B1 : Sto} {cs cs1 : List (Nat × Cell)}
def RunA (m : MS) (ρ : Ev) (S : Sto) (P : Fl → Sto → Prop) : Prop := ∃ fl S', m ρ S = some (fl, S') ∧ P fl S'
theorem Run.go {m : MS} {ρ : Ev} {S : Sto} (hS : St B S cs) (h : Run B cs m ρ P) : RunA m ρ S P := h S hS
def Turn (Inv : σ → Ev → Sto → Prop) (s : σ) (fl : Fl) (S : Sto) : Prop := ∃ ρ, (fl = .next ρ ∨ fl = .cont ρ) ∧ Inv s ρ S
theorem turn_next {Inv : σ → Ev → Sto → Prop} {s : σ} {ρ : Ev} {S : Sto} (h : Inv s ρ S) : Turn Inv s (.next ρ) S := ⟨ρ, .inl rfl, h⟩
theorem loop_fold {step : σ → α → Option σ} (Inv : σ → Ev → Sto → Prop) (hg : ∀ s ρ S, Inv s ρ S → gOk g S)
    (hb : ∀ s x s' ρ S, Inv s ρ S → step s x = some s' → ∃ ρ1, t S (enc x) ρ = some ρ1 ∧ RunA b ρ1 S (Turn Inv s')) : ∀ (xs : List α) (s s' : σ) (ρ : Ev) (S : Sto), Inv s ρ S → foldO step xs s = some s' → ∃ ρ' S', forL g t b (xs.map enc) ρ S = some (.next ρ', S') ∧ Inv s' ρ' S'
  | [], s, s', ρ, S, hI, h => by
    cases h
    exact ⟨ρ, S, by rw [List.map_nil, forL, if_pos (hg _ _ _ hI)], hI⟩
  | x :: xs, s, s', ρ, S, hI, h => by
    obtain ⟨s1, h1, h⟩ := Option.bind_eq_some_iff.mp h
    obtain ⟨ρ1, e1, fl, S2, e2, ρ2, hf, hI2⟩ := hb s x s1 ρ S hI h1
    obtain ⟨ρ', S', e3, hI3⟩ := loop_fold Inv hg hb xs s1 s' ρ2 S2 hI2 h
    refine ⟨ρ', S', ?_, hI3⟩
    rw [List.map_cons, forL, if_pos (hg _ _ _ hI), e1]
    rcases hf with rfl | rfl <;> simp only [e2] <;> exact e3
theorem run_fold {step : σ → α → Option σ} {mi : MI} {xs : List α} {s s' : σ} {ρ : Ev} (Inv : σ → Ev → Sto → Prop) (hi : X B cs mi ρ (xs.map enc, g) B1 cs1) (h : foldO step xs s = some s') (h0 : ∀ S, St B1 S cs1 → Inv s ρ S) (hg : ∀ s ρ S, Inv s ρ S → gOk g S)
    (hb : ∀ s x s' ρ S, Inv s ρ S → step s x = some s' → ∃ ρ1, t S (enc x) ρ = some ρ1 ∧ RunA b ρ1 S (Turn Inv s')) (hn : ∀ ρ S, Inv s' ρ S → RunA n ρ S P) : Run B cs (sSeq (sFor mi t b) n) ρ P := by
  intro S hS
  obtain ⟨S1, hi, hS1⟩ := hi S hS
  obtain ⟨ρ', S', e, hI⟩ := loop_fold Inv hg hb xs s s' ρ S1 (h0 S1 hS1) h
  obtain ⟨fl, S2, q1, q2⟩ := hn ρ' S' hI
  exact ⟨fl, S2, by rw [e_seq, e_for, hi, bns_ok, e_kFor, e, seqK_next]; exact q1, q2⟩
def Exits (fl : Fl) : Prop := (∃ v, fl = .ret v) ∨ ∃ ρ e, fl = .exc ρ e
def TurnL (Inv : σ → Ev → Sto → Prop) (F : R → Fl → Sto → Prop) : Lp R σ → Fl → Sto → Prop
  | .go s, fl, S => ∃ ρ, (fl = .next ρ ∨ fl = .cont ρ) ∧ Inv s ρ S
  | .brk s, fl, S => ∃ ρ, fl = .brk ρ ∧ Inv s ρ S
  | .ret r, fl, S => Exits fl ∧ F r fl S
theorem loop_T {step : σ → α → Option (Lp R σ)} (Inv : σ → Ev → Sto → Prop) (F : R → Fl → Sto → Prop) (hg : ∀ s ρ S, Inv s ρ S → gOk g S)
    (hb : ∀ s x o ρ S, Inv s ρ S → step s x = some o → ∃ ρ1, t S (enc x) ρ = some ρ1 ∧ RunA b ρ1 S (TurnL Inv F o)) : ∀ (xs : List α) (s : σ) (o : Lp R σ) (ρ : Ev) (S : Sto), Inv s ρ S → forT step xs s = some o →
      ∃ fl S', forL g t b (xs.map enc) ρ S = some (fl, S') ∧ match o with | .ret r => Exits fl ∧ F r fl S' | .go s' => ∃ ρ', fl = .next ρ' ∧ Inv s' ρ' S' | .brk _ => False
  | [], s, o, ρ, S, hI, h => by
    cases h
    exact ⟨_, S, by rw [List.map_nil, forL, if_pos (hg _ _ _ hI)], ρ, rfl, hI⟩
  | x :: xs, s, o, ρ, S, hI, h => by
    rw [forT] at h
    split at h
    · rename_i s1 h1
      obtain ⟨ρ1, e1, fl, S2, e2, ρ2, hf, hI2⟩ := hb s x _ ρ S hI h1
      obtain ⟨fl', S', e3, hI3⟩ := loop_T Inv F hg hb xs s1 o ρ2 S2 hI2 h
      refine ⟨fl', S', ?_, hI3⟩
      rw [List.map_cons, forL, if_pos (hg _ _ _ hI), e1]
      rcases hf with rfl | rfl <;> simp only [e2] <;> exact e3
    · rename_i s1 h1
      obtain ⟨ρ1, e1, fl, S2, e2, ρ2, rfl, hI2⟩ := hb s x _ ρ S hI h1
      cases h
      exact ⟨.next ρ2, S2, by rw [List.map_cons, forL, if_pos (hg _ _ _ hI), e1]; simp only [e2], ρ2, rfl, hI2⟩
    · rename_i r h1
      obtain ⟨ρ1, e1, fl, S2, e2, ⟨v, rfl⟩ | ⟨ρx, ex, rfl⟩, hF⟩ := hb s x _ ρ S hI h1
      · cases h
        exact ⟨.ret v, S2, by rw [List.map_cons, forL, if_pos (hg _ _ _ hI), e1]; simp only [e2], .inl ⟨v, rfl⟩, hF⟩
      · cases h
        exact ⟨.exc ρx ex, S2, by rw [List.map_cons, forL, if_pos (hg _ _ _ hI), e1]; simp only [e2], .inr ⟨ρx, ex, rfl⟩, hF⟩
    · cases h
theorem run_forT {step : σ → α → Option (Lp R σ)} {mi : MI} {xs : List α} {s : σ} {o : Lp R σ} {ρ : Ev} (Inv : σ → Ev → Sto → Prop) (F : R → Fl → Sto → Prop) (hi : X B cs mi ρ (xs.map enc, g) B1 cs1) (h : forT step xs s = some o) (h0 : ∀ S, St B1 S cs1 → Inv s ρ S) (hg : ∀ s ρ S, Inv s ρ S → gOk g S)
    (hb : ∀ s x o ρ S, Inv s ρ S → step s x = some o → ∃ ρ1, t S (enc x) ρ = some ρ1 ∧ RunA b ρ1 S (TurnL Inv F o))
    (hr : ∀ r fl S, o = .ret r → Exits fl → F r fl S → P fl S) (hn : ∀ s' ρ S, o = .go s' → Inv s' ρ S → RunA n ρ S P) : Run B cs (sSeq (sFor mi t b) n) ρ P := by
  intro S hS
  obtain ⟨S1, hi, hS1⟩ := hi S hS
  obtain ⟨fl, S', e, hI⟩ := loop_T Inv F hg hb xs s o ρ S1 (h0 S1 hS1) h
  cases o with
  | go s' =>
    obtain ⟨ρ', rfl, hI⟩ := hI
    obtain ⟨fl, S2, q1, q2⟩ := hn s' ρ' S' rfl hI
    exact ⟨fl, S2, by rw [e_seq, e_for, hi, bns_ok, e_kFor, e, seqK_next]; exact q1, q2⟩
  | ret r =>
    obtain ⟨⟨v, rfl⟩ | ⟨ρx, ex, rfl⟩, hF⟩ := hI
    · exact ⟨.ret v, S', by rw [e_seq, e_for, hi, bns_ok, e_kFor, e, seqK_ret], hr r _ S' rfl (.inl ⟨v, rfl⟩) hF⟩
    · exact ⟨.exc ρx ex, S', by rw [e_seq, e_for, hi, bns_ok, e_kFor, e, seqK_exc], hr r _ S' rfl (.inr ⟨ρx, ex, rfl⟩) hF⟩
  | brk s' => exact hI.elim
theorem loop_wh {tm : MT} {tt : σ → Option Bool} {step : σ → Option σ} (Inv : σ → Ev → Sto → Prop)
    (ht : ∀ s c ρ S, Inv s ρ S → tt s = some c → ∃ S1, tm ρ S = some (.ok c S1) ∧ Inv s ρ S1)
    (hb : ∀ s s' ρ S, Inv s ρ S → tt s = some true → step s = some s' → RunA b ρ S (Turn Inv s')) : ∀ (f : Nat) (s s' : σ) (ρ : Ev) (S : Sto), Inv s ρ S → whO tt step f s = some s' → ∃ ρ' S', whL tm b f ρ S = some (.next ρ', S') ∧ Inv s' ρ' S'
  | 0, s, s', ρ, S, hI, h => by cases h
  | f + 1, s, s', ρ, S, hI, h => by
    obtain ⟨c, h1, h⟩ := Option.bind_eq_some_iff.mp h
    obtain ⟨S1, e1, hI1⟩ := ht s c ρ S hI h1
    cases c with
    | false =>
      cases h
      exact ⟨ρ, S1, by rw [whL, e1]; rfl, hI1⟩
    | true =>
      rw [if_pos rfl] at h
      obtain ⟨s1, h2, h⟩ := Option.bind_eq_some_iff.mp h
      obtain ⟨fl, S2, e2, ρ2, hf, hI2⟩ := hb s s1 ρ S1 hI1 h1 h2
      obtain ⟨ρ', S', e3, hI3⟩ := loop_wh Inv ht hb f s1 s' ρ2 S2 hI2 h
      refine ⟨ρ', S', ?_, hI3⟩
      rw [whL, e1]
      simp only [bns, if_true]
      rcases hf with rfl | rfl <;> simp only [e2] <;> exact e3
theorem run_wh {tm : MT} {tt : σ → Option Bool} {step : σ → Option σ} {s s' : σ} {ρ : Ev} (Inv : σ → Ev → Sto → Prop) (h : whO tt step fuel s = some s') (h0 : ∀ S, St B S cs → Inv s ρ S)
    (ht : ∀ s c ρ S, Inv s ρ S → tt s = some c → ∃ S1, tm ρ S = some (.ok c S1) ∧ Inv s ρ S1)
    (hb : ∀ s s' ρ S, Inv s ρ S → tt s = some true → step s = some s' → RunA b ρ S (Turn Inv s')) (hn : ∀ ρ S, Inv s' ρ S → RunA n ρ S P) : Run B cs (sSeq (sWhile tm b) n) ρ P := by
  intro S hS
  obtain ⟨ρ', S', e, hI⟩ := loop_wh Inv ht hb fuel s s' ρ S (h0 S hS) h
  obtain ⟨fl, S2, q1, q2⟩ := hn ρ' S' hI
  exact ⟨fl, S2, by rw [e_seq, sWhile, e, seqK_next]; exact q1, q2⟩
end

mutual
theorem fz_fun {n : Nat} {S : Sto} : ∀ {v a b : Val}, Fz n S v a → Fz n S v b → a = b
  | _, _, _, .non, .non => rfl
  | _, _, _, .bl, .bl => rfl
  | _, _, _, .int, .int => rfl
  | _, _, _, .str, .str => rfl
  | _, _, _, .tup h, .tup h' => by rw [fzl_fun h h']
  | _, _, _, .lst h, .lst h' => by rw [fzl_fun h h']
  | _, _, _, .scr, .scr => rfl
  | _, _, _, .con, .con => rfl
  | _, _, _, .fnv, .fnv => rfl
  | _, _, _, .old _, .old _ => rfl
  | _, _, _, .old h, .new h' _ _ => absurd h (by omega)
  | _, _, _, .new h' _ _, .old h => absurd h (by omega)
  | _, _, _, .new _ e h, .new _ e' h' => by
    rw [e] at e'
    cases e'
    rw [fzl_fun h h']
  | _, _, _, .dct h, .dct h' => by rw [fzd_fun h h']
  | _, _, _, .old h, .newD h' _ _ => absurd h (by omega)
  | _, _, _, .newD h' _ _, .old h => absurd h (by omega)
  | _, _, _, .newD _ e h, .newD _ e' h' => by
    rw [e] at e'
    cases e'
    rw [fzd_fun h h']
  | _, _, _, .new _ e _, .newD _ e' _ => by rw [e] at e'; cases e'
  | _, _, _, .newD _ e _, .new _ e' _ => by rw [e] at e'; cases e'
theorem fzl_fun {n : Nat} {S : Sto} : ∀ {v a b : List Val}, FzL n S v a → FzL n S v b → a = b
  | _, _, _, .nil, .nil => rfl
  | _, _, _, .cons h t, .cons h' t' => by rw [fz_fun h h', fzl_fun t t']
theorem fzd_fun {n : Nat} {S : Sto} : ∀ {v a b : List (Key × Val)}, FzD n S v a → FzD n S v b → a = b
  | _, _, _, .nil, .nil => rfl
  | _, _, _, .cons h t, .cons h' t' => by rw [fz_fun h h', fzd_fun t t']
end
def Ends (N : List Str) (m : MS) (ds : List Val) (S : Sto) (v' : Val) (S' : Sto) : Prop := ∃ fl v S1, m (startE N ds) S = some (fl, S1) ∧ retOf fl = some v ∧ Fz S.length S1 v v' ∧ FzS S.length S1 S' ∧ S' = S1.take S.length
open Classical in
noncomputable def runU (N : List Str) (m : MS) : Fn := okF fun ds S => if h : ∃ p : Val × Sto, Ends N m ds S p.1 p.2 then some h.choose else none
theorem keeps_runU {N : List Str} {n : Nat} {m : MS} : Keeps N n m (runU N m) := by
  intro ds S o hl h
  unfold runU okF prs at h
  split at h
  · rename_i v S' e
    cases h
    have e' : (open Classical in if h : ∃ p : Val × Sto, Ends N m ds S p.1 p.2 then some h.choose else none) = some (v, S') := e
    split at e'
    · rename_i hx
      have h1 := hx.choose_spec
      rw [Option.some.inj e'] at h1
      obtain ⟨fl, v1, S1, q1, q2, q3, q4, q5⟩ := h1
      exact ⟨fl, v1, S1, q1, q2, .trim q3 q4⟩
    · cases e'
  · cases h
theorem runU_ok {N : List Str} {m : MS} {ds : List Val} {S : Sto} {v : Val} {S' : Sto} (h : Ends N m ds S v S') : runU N m ds S = some (.ok v S') := by
  have hx : ∃ p : Val × Sto, Ends N m ds S p.1 p.2 := ⟨(v, S'), h⟩
  have e : hx.choose = (v, S') := by
    obtain ⟨fl, v1, S1, q1, q2, q3, q4, q5⟩ := hx.choose_spec
    obtain ⟨fl', v1', S1', p1, p2, p3, p4, p5⟩ := h
    rw [q1] at p1
    cases p1
    rw [q2] at p2
    cases p2
    exact Prod.ext (fz_fun q3 p3) (q5.trans p5.symm)
  unfold runU okF
  simp only [dif_pos hx, e]
  rfl
def Fin {α : Type} (B : Sto) (en : α → Val) (r : α) (fl : Fl) (S : Sto) : Prop := ∃ v, retOf fl = some v ∧ Fz B.length S v (en r) ∧ St B S []
theorem fin_ok {α : Type} {en : α → Val} {r : α} {N : List Str} {m : MS} {ds : List Val} {S B B0 : Sto} {cs : List (Nat × Cell)} (hS : St B0 S cs) (hl : B.length = S.length) (h : Run B0 cs m (startE N ds) (Fin B en r)) : runU N m ds S = some (.ok (en r) B) := by
  obtain ⟨fl, S1, h1, v, h2, h3, h4⟩ := h S hS
  rw [hl] at h3
  refine runU_ok ⟨fl, v, S1, h1, h2, h3, ?_, ?_⟩
  · obtain ⟨T, rfl⟩ := h4.pre
    exact fzS_app hl (ncS_left h4.nc)
  · obtain ⟨T, rfl⟩ := h4.pre
    rw [← hl]
    simp
section
variable {α : Type} {en : α → Val} [NC en] {B S : Sto} {cs : List (Nat × Cell)}
theorem fin_val {r : α} {v : Val} (hv : v = en r) (h : St B S cs) : Fin B en r (.ret v) S := ⟨v, rfl, by rw [hv]; exact fz_nc _ (NC.nc r), h.nil⟩
theorem fin_cell {xs : List α} {k : Nat} (i : Nat) (h : St B S cs) (hc : cs[i]? = some (k, .lst (xs.map en))) (hk : B.length ≤ k) : Fin B (eL en) xs (.ret (.cell k)) S :=
  ⟨_, rfl, .new hk (h.at i hc) (fzl_nc _ (ncL_map en xs)), h.nil⟩
end
def lcO {α β : Type} (g : α → Option (Option β)) : List α → Option (List β)
  | [] => some []
  | x :: xs => (g x).bind fun o => (lcO g xs).bind fun ys => match o with
    | some y => some (y :: ys)
    | none => some ys
theorem wipe1 {ρ ρ' : Ev} {i : Nat} (h : ρ.set i none = ρ') : wipeE ρ [i] = ρ' := h
theorem wipe2 {ρ ρ1 ρ' : Ev} {i j : Nat} (h : ρ.set j none = ρ1) (h' : ρ1.set i none = ρ') : wipeE ρ [i, j] = ρ' := by
  subst h; exact h'
section
variable {α β : Type} {enc : α → Val} {en : β → Val} {B B1 : Sto} {cs cs1 : List (Nat × Cell)} {ρ ρw : Ev} {mi : MI} {t : MG} {tt : MT} {te : ME} {vs : List Nat} {xs : List α} {g : Gd}
theorem lcw {h : α → Option (Option β)}  (hg : ∀ S, St B1 S cs1 → gOk g S)
    (hb : ∀ x o, h x = some o → ∃ ρ2, (∀ S, St B1 S cs1 → t S (enc x) ρ = some ρ2) ∧ match o with | none => X B1 cs1 tt ρ2 false B1 cs1 | some y => X B1 cs1 tt ρ2 true B1 cs1 ∧ X B1 cs1 te ρ2 (en y) B1 cs1) :
    ∀ (xs : List α) (ys : List β) (acc : List Val) (S : Sto), St B1 S cs1 → lcO h xs = some ys → acc.length + ys.length ≤ sizeLine → ∃ S', lcL g t tt te ρ (xs.map enc) S acc = some (.ok (acc ++ ys.map en) S') ∧ St B1 S' cs1
  | [], ys, acc, S, hS, q, hl => by cases q; exact ⟨S, by rw [List.map_nil, lcL, if_pos (hg S hS)]; simp, hS⟩
  | x :: xs, ys, acc, S, hS, q, hl => by
    obtain ⟨o, h1, q⟩ := Option.bind_eq_some_iff.mp q
    obtain ⟨zs, h2, q⟩ := Option.bind_eq_some_iff.mp q
    obtain ⟨ρ2, e1, e2⟩ := hb x o h1
    rw [List.map_cons, lcL, if_pos (hg S hS), e1 S hS]
    cases o with
    | none =>
      cases q
      obtain ⟨S1, q1, hS1⟩ := e2 S hS
      simp only [q1, bndN]
      exact lcw hg hb xs _ acc S1 hS1 h2 hl
    | some y =>
      cases q
      obtain ⟨e2, e3⟩ := e2
      obtain ⟨S1, q1, hS1⟩ := e2 S hS
      obtain ⟨S2, q2, hS2⟩ := e3 S1 hS1
      simp only [List.length_cons] at hl
      simp only [q1, bndN, if_true, q2, if_pos (show acc.length < sizeLine by omega)]
      obtain ⟨S', q3, hS3⟩ := lcw hg hb xs zs (acc ++ [en y]) S2 hS2 h2 (by simp; omega)
      refine ⟨S', ?_, hS3⟩
      rw [q3]
      simp
theorem lc_st {h : α → Option (Option β)} {zs ys : List β} (hi : X B cs mi ρ (xs.map enc, g) B1 cs1) (hw : wipeE ρ vs = ρw) (hg : ∀ S, St B1 S cs1 → gOk g S) (q : lcO h xs = some zs) (hz : szO zs = some ys)
    (hb : ∀ x o, h x = some o → ∃ ρ2, (∀ S, St B1 S cs1 → t S (enc x) ρw = some ρ2) ∧ match o with | none => X B1 cs1 tt ρ2 false B1 cs1 | some y => X B1 cs1 tt ρ2 true B1 cs1 ∧ X B1 cs1 te ρ2 (en y) B1 cs1) :
    ∀ S, St B S cs → ∃ S1 S', mi ρ S = some (.ok (xs.map enc, g) S1) ∧ lcL g t tt te (wipeE ρ vs) (xs.map enc) S1 [] = some (.ok (ys.map en) S') ∧ St B1 S' cs1 := by
  intro S hS
  obtain ⟨S1, q1, hS1⟩ := hi S hS
  obtain ⟨hl, rfl⟩ := szO_some hz
  obtain ⟨S', q2, hS2⟩ := lcw hg hb xs zs [] S1 hS1 q (by simpa using hl)
  exact ⟨S1, S', q1, by rw [hw]; simpa using q2, hS2⟩
theorem ev_lcO {h : α → Option (Option β)} {zs ys : List β} (hi : X B cs mi ρ (xs.map enc, g) B1 cs1) (hw : wipeE ρ vs = ρw) (hg : ∀ S, St B1 S cs1 → gOk g S) (q : lcO h xs = some zs) (hz : szO zs = some ys)
    (hb : ∀ x o, h x = some o → ∃ ρ2, (∀ S, St B1 S cs1 → t S (enc x) ρw = some ρ2) ∧ match o with | none => X B1 cs1 tt ρ2 false B1 cs1 | some y => X B1 cs1 tt ρ2 true B1 cs1 ∧ X B1 cs1 te ρ2 (en y) B1 cs1) : X B cs (mLc mi t tt te vs) ρ (eL en ys) B1 cs1 := by
  intro S hS
  obtain ⟨S1, S', q1, q2, hS2⟩ := lc_st hi hw hg q hz hb S hS
  exact ⟨S', by rw [e_lc, q1, bnd_ok, e_kLc, q2, bndN_ok, e_kLcb]; rfl, hS2⟩
theorem lcO_pure (p : α → Bool) (f : α → β) : ∀ xs : List α, lcO (fun x => some (if p x then some (f x) else none)) xs = some ((xs.filter p).map f)
  | [] => rfl
  | x :: xs => by
    simp only [lcO, lcO_pure p f xs, Option.bind_some]
    by_cases h : p x = true
    · simp [h]
    · simp [h]
theorem ev_lcF {p : α → Bool} {f : α → β} {ys : List β} (hi : X B cs mi ρ (xs.map enc, g) B1 cs1) (hw : wipeE ρ vs = ρw) (hg : ∀ S, St B1 S cs1 → gOk g S) (hz : szO ((xs.filter p).map f) = some ys)
    (hb : ∀ x, ∃ ρ2, (∀ S, St B1 S cs1 → t S (enc x) ρw = some ρ2) ∧ X B1 cs1 tt ρ2 (p x) B1 cs1 ∧ X B1 cs1 te ρ2 (en (f x)) B1 cs1) : X B cs (mLc mi t tt te vs) ρ (eL en ys) B1 cs1 := by
  refine ev_lcO hi hw hg (lcO_pure p f xs) hz fun x o ho => ?_
  obtain ⟨ρ2, h1, h2, h3⟩ := hb x
  cases ho
  refine ⟨ρ2, h1, ?_⟩
  by_cases h : p x = true
  · rw [if_pos h]; rw [h] at h2; exact ⟨h2, h3⟩
  · rw [if_neg h]; rw [Bool.not_eq_true] at h; rw [h] at h2; exact h2
theorem ev_yes : X B cs mYes ρ true B cs := .of fun _ => rfl
theorem ev_lcM {f : α → β} {ys : List β} (hi : X B cs mi ρ (xs.map enc, g) B1 cs1) (hw : wipeE ρ vs = ρw) (hg : ∀ S, St B1 S cs1 → gOk g S) (hz : szO (xs.map f) = some ys)
    (hb : ∀ x, ∃ ρ2, (∀ S, St B1 S cs1 → t S (enc x) ρw = some ρ2) ∧ X B1 cs1 te ρ2 (en (f x)) B1 cs1) : X B cs (mLc mi t mYes te vs) ρ (eL en ys) B1 cs1 := by
  refine ev_lcF (p := fun _ => true) hi hw hg (by rw [List.filter_eq_self.mpr fun _ _ => rfl]; exact hz) fun x => ?_
  obtain ⟨ρ2, h1, h2⟩ := hb x
  exact ⟨ρ2, h1, ev_yes, h2⟩
end
theorem v0 {v : Val} {ρ : Ev} {B : Sto} {cs : List (Nat × Cell)} : X B cs (mVar 0) (some v :: ρ) v B cs := .of fun _ => rfl
theorem st0 {A : Type} {b x : A} {ρ : List A} : List.set (b :: ρ) 0 x = x :: ρ := rfl
theorem gt0 {A : Type} {x : A} {ρ : List A} : (x :: ρ)[0]? = some x := rfl
theorem v1 {a0 : Option Val} {v : Val} {ρ : Ev} {B : Sto} {cs : List (Nat × Cell)} : X B cs (mVar 1) (a0 :: some v :: ρ) v B cs := .of fun _ => rfl
theorem st1 {A : Type} {a0 : A} {b x : A} {ρ : List A} : List.set (a0 :: b :: ρ) 1 x = a0 :: x :: ρ := rfl
theorem gt1 {A : Type} {a0 : A} {x : A} {ρ : List A} : (a0 :: x :: ρ)[1]? = some x := rfl
theorem v2 {a0 a1 : Option Val} {v : Val} {ρ : Ev} {B : Sto} {cs : List (Nat × Cell)} : X B cs (mVar 2) (a0 :: a1 :: some v :: ρ) v B cs := .of fun _ => rfl
theorem st2 {A : Type} {a0 a1 : A} {b x : A} {ρ : List A} : List.set (a0 :: a1 :: b :: ρ) 2 x = a0 :: a1 :: x :: ρ := rfl
theorem gt2 {A : Type} {a0 a1 : A} {x : A} {ρ : List A} : (a0 :: a1 :: x :: ρ)[2]? = some x := rfl
theorem v3 {a0 a1 a2 : Option Val} {v : Val} {ρ : Ev} {B : Sto} {cs : List (Nat × Cell)} : X B cs (mVar 3) (a0 :: a1 :: a2 :: some v :: ρ) v B cs := .of fun _ => rfl
theorem st3 {A : Type} {a0 a1 a2 : A} {b x : A} {ρ : List A} : List.set (a0 :: a1 :: a2 :: b :: ρ) 3 x = a0 :: a1 :: a2 :: x :: ρ := rfl
theorem v4 {a0 a1 a2 a3 : Option Val} {v : Val} {ρ : Ev} {B : Sto} {cs : List (Nat × Cell)} : X B cs (mVar 4) (a0 :: a1 :: a2 :: a3 :: some v :: ρ) v B cs := .of fun _ => rfl
theorem st4 {A : Type} {a0 a1 a2 a3 : A} {b x : A} {ρ : List A} : List.set (a0 :: a1 :: a2 :: a3 :: b :: ρ) 4 x = a0 :: a1 :: a2 :: a3 :: x :: ρ := rfl
theorem v5 {a0 a1 a2 a3 a4 : Option Val} {v : Val} {ρ : Ev} {B : Sto} {cs : List (Nat × Cell)} : X B cs (mVar 5) (a0 :: a1 :: a2 :: a3 :: a4 :: some v :: ρ) v B cs := .of fun _ => rfl
theorem st5 {A : Type} {a0 a1 a2 a3 a4 : A} {b x : A} {ρ : List A} : List.set (a0 :: a1 :: a2 :: a3 :: a4 :: b :: ρ) 5 x = a0 :: a1 :: a2 :: a3 :: a4 :: x :: ρ := rfl
theorem v6 {a0 a1 a2 a3 a4 a5 : Option Val} {v : Val} {ρ : Ev} {B : Sto} {cs : List (Nat × Cell)} : X B cs (mVar 6) (a0 :: a1 :: a2 :: a3 :: a4 :: a5 :: some v :: ρ) v B cs := .of fun _ => rfl
theorem st6 {A : Type} {a0 a1 a2 a3 a4 a5 : A} {b x : A} {ρ : List A} : List.set (a0 :: a1 :: a2 :: a3 :: a4 :: a5 :: b :: ρ) 6 x = a0 :: a1 :: a2 :: a3 :: a4 :: a5 :: x :: ρ := rfl
theorem v7 {a0 a1 a2 a3 a4 a5 a6 : Option Val} {v : Val} {ρ : Ev} {B : Sto} {cs : List (Nat × Cell)} : X B cs (mVar 7) (a0 :: a1 :: a2 :: a3 :: a4 :: a5 :: a6 :: some v :: ρ) v B cs := .of fun _ => rfl
theorem st7 {A : Type} {a0 a1 a2 a3 a4 a5 a6 : A} {b x : A} {ρ : List A} : List.set (a0 :: a1 :: a2 :: a3 :: a4 :: a5 :: a6 :: b :: ρ) 7 x = a0 :: a1 :: a2 :: a3 :: a4 :: a5 :: a6 :: x :: ρ := rfl
end G

set_option Elab.async false
set_option linter.all false
set_option maxRecDepth 100000
set_option maxHeartbeats 4000000
namespace G
open PySem PySem.Spec PyProof.Rows L2
section
variable {S : Sto} {α β : Type} {e : α → Val} {f : β → Val} {x y : Val} {b c : Bool} {xs ys zs : List α} {i j : Int} {k : Nat}
theorem sqT : seqOf S (eT e xs) = some (true, xs.map e) := rfl
theorem sqL : seqOf S (eL e xs) = some (false, xs.map e) := rfl
theorem sqC (h : S[k]? = some (.lst (xs.map e))) : seqOf S (.cell k) = some (false, xs.map e) := seq_cell h
theorem lsL : lstOf S (eL e xs) = some (xs.map e) := rfl
theorem lsC (h : S[k]? = some (.lst (xs.map e))) : lstOf S (.cell k) = some (xs.map e) := lst_of h
theorem isl {us : List Val} (h : lstOf S x = some us) : (lstOf S x).isSome = true := by rw [h]; rfl
theorem atI_map (e : α → Val) (xs : List α) (i : Int) : atI (xs.map e) i = (atI xs i).map e := by
  unfold atI
  rw [List.length_map]
  cases ixN xs.length i with
  | none => rfl
  | some j => simp
theorem cutL_map (e : α → Val) (xs : List α) (lo hi : Option Int) : cutL (xs.map e) lo hi = (cutL xs lo hi).map e := by
  unfold cutL
  rw [List.length_map, List.map_take, List.map_drop]
theorem op_mul {r : Int} (h : fMul i j = some r) : aMul S (.int i) (.int j) = some (.int r) := by show (fMul i j).map Val.int = _; rw [h]; rfl
theorem op_mulL (h0 : -(2 ^ 64) < i) (h1 : i < 2 ^ 64) : aMul S (.int i) (.int j) = some (.int (i * j)) := op_mul (fMul_l h0 h1)
theorem op_mulR (h0 : -(2 ^ 64) < j) (h1 : j < 2 ^ 64) : aMul S (.int i) (.int j) = some (.int (i * j)) := op_mul (fMul_r h0 h1)
theorem op_div {r : Int} (h : fDiv i j = some r) : aDiv S (.int i) (.int j) = some (.int r) := by show (fDiv i j).map Val.int = _; rw [h]; rfl
theorem op_divC (h0 : 0 < j) (h1 : j < 2 ^ 64) : aDiv S (.int i) (.int j) = some (.int (i / j)) := op_div (fDiv_ok h0 h1)
theorem op_mod {r : Int} (h : fMod i j = some r) : aMod S (.int i) (.int j) = some (.int r) := by show (fMod i j).map Val.int = _; rw [h]; rfl
theorem op_modC (h0 : 0 < j) : aMod S (.int i) (.int j) = some (.int (i % j)) := op_mod (fMod_ok h0)
theorem op_pow {r : Int} (h : fPow i j = some r) : aPow S (.int i) (.int j) = some (.int r) := by show (fPow i j).map Val.int = _; rw [h]; rfl
theorem op_sub : aSub S (.int i) (.int j) = some (.int (i - j)) := rfl
theorem op_add : sAdd S (.int i) (.int j) = some (.int (i + j)) := rfl
theorem op_neg : sNeg S (.int i) = some (.int (-i)) := rfl
theorem op_addT (h : szO (xs ++ ys) = some zs) : sAdd S (eT e xs) (eT e ys) = some (eT e zs) := by
  obtain ⟨hl, rfl⟩ := szO_some h
  unfold eT
  rw [add_tup S _ _ (by simpa using hl), List.map_append]
theorem sAdd_ls {us vs : List Val} (h1 : lstOf S x = some us) (h2 : lstOf S y = some vs) (hl : us.length + vs.length ≤ sizeLine) : sAdd S x y = some (.lst (us ++ vs)) := by
  cases x <;> simp only [lstOf, reduceCtorEq] at h1 <;> cases y <;> simp only [lstOf, reduceCtorEq] at h2 <;> simp only [sAdd, lstOf, h1, h2, hl, if_true]
theorem op_addL (h1 : lstOf S x = some (xs.map e)) (h2 : lstOf S y = some (ys.map e)) (h : szO (xs ++ ys) = some zs) : sAdd S x y = some (eL e zs) := by
  obtain ⟨hl, rfl⟩ := szO_some h
  rw [sAdd_ls h1 h2 (by simpa using hl)]
  simp [eL]
theorem op_addS {a b z : List Nat} (h : szO (a ++ b) = some z) : sAdd S (eS a) (eS b) = some (eS z) := by
  obtain ⟨hl, rfl⟩ := szO_some h
  unfold eS
  rw [add_str _ _ _ (by rw [tx_len, tx_len]; rw [sz] at hl; simpa using hl), tx_app]
theorem op_iaddS {a b z : List Nat} (h : szO (a ++ b) = some z) : sIadd S (eS a) (eS b) = some (eS z) := by
  have := op_addS (S := S) h
  exact this
theorem op_iaddI : sIadd S (.int i) (.int j) = some (.int (i + j)) := rfl
theorem op_len (h : seqOf S x = some (b, xs.map e)) : sLen S [x] = some (.int xs.length) := by
  cases x <;> simp_all [sLen, seqOf, lstOf]
theorem op_lenS {a z : List Nat} (h : szO a = some z) : sLen S [eS a] = some (.int z.length) := by
  obtain ⟨hl, rfl⟩ := szO_some h
  unfold eS
  rw [len_str _ _ (by rw [tx_len]; rw [sz] at hl; exact hl), tx_len]
theorem op_ix {r : α} (h : seqOf S x = some (b, xs.map e)) (q : atI xs i = some r) : sIx S x (.int i) = some (e r) := ix_seq h (by rw [atI_map, q]; rfl)
theorem op_ixS {a : List Nat} {r : Nat} (hz : szO a = some a) (q : atI a i = some r) : sIx S (eS a) (.int i) = some (eS [r]) := by
  obtain ⟨hl, _⟩ := szO_some hz
  unfold eS
  simp only [sIx]
  rw [if_pos (by rw [tx_len]; exact hl), tx_cps, q]
  rfl
theorem op_slT {lo hi : Option Int} : sSlice S (eT e xs) lo hi = some (eT e (cutL xs lo hi)) := by
  unfold eT
  rw [sl_tup, cutL_map]
theorem cutS_tx (a : List Nat) (lo hi : Option Int) : cutS (tx a) lo hi = tx (cutL a lo hi) := by
  unfold cutS cutL
  rw [tx_len, tx_cps]
  rfl
theorem op_slS {a : List Nat} {lo hi : Option Int} (hz : szO a = some a) : sSlice S (eS a) lo hi = some (eS (cutL a lo hi)) := by
  obtain ⟨hl, _⟩ := szO_some hz
  unfold eS
  rw [sl_strS _ _ _ _ (by rw [tx_len]; rw [sz] at hl; exact hl), cutS_tx]
theorem op_revT : sRev S (eT e xs) = some (eT e xs.reverse) := by simp [sRev, eT, seqOf]
theorem op_tuple (h : seqOf S x = some (b, xs.map e)) : sTuple S [x] = some (eT e xs) := by simp [sTuple, h, eT]
theorem op_list (h : seqOf S x = some (b, xs.map e)) : sList S [x] = some (xs.map e) := by simp [sList, h]
theorem op_nl {us : List Val} {F : Sto → List Val → Option (List Val)} {vs : List Val} (h : F S vs = some us) : (fun S vs => (F S vs).map Val.lst) S vs = some (.lst us) := by simp only [h, Option.map_some]
theorem inB_sq {us : List Val} {r : Bool} (h : seqOf S y = some (b, us)) (h1 : flatD x = true) (h2 : us.all flatD = true) (h3 : inW x us = r) : sInB S x y = some r := by
  subst h3
  unfold sInB
  split
  · cases h
  · rw [h]
    simp only
    rw [if_pos ⟨h1, h2⟩]
theorem eqW_S (a b : List Nat) : eqW (eS a) (eS b) = decide (a = b) := by
  show (tx a == tx b) = _
  rw [Bool.eq_iff_iff]
  simp [tx_inj]
theorem inW_S (a : List Nat) (ns : List (List Nat)) : inW (eS a) (ns.map eS) = decide (a ∈ ns) := by
  induction ns with
  | nil => rfl
  | cons n ns ih =>
    unfold inW at ih ⊢
    rw [List.map_cons, List.any_cons, ih, eqW_S]
    by_cases h : n = a
    · subst h; simp
    · have h' : ¬ a = n := fun z => h z.symm
      simp [h, h']
theorem op_inS {a : List Nat} {ns : List (List Nat)} (h : seqOf S y = some (b, ns.map eS)) : sIn S (eS a) y = some (.bl (decide (a ∈ ns))) := by
  have hf : (ns.map eS).all flatD = true := by simp [flatD, eS]
  have hs : flatD (eS a) = true := rfl
  have : sInB S (eS a) y = some (decide (a ∈ ns)) := inB_sq h hs hf (inW_S a ns)
  simp [sIn, this]
theorem op_notinS {a : List Nat} {ns : List (List Nat)} (h : seqOf S y = some (b, ns.map eS)) : sNotIn S (eS a) y = some (.bl (!decide (a ∈ ns))) := by
  have := op_inS (a := a) h
  unfold sIn at this
  unfold sNotIn
  obtain ⟨q, h1, h2⟩ := Option.map_eq_some_iff.mp this
  rw [h1]
  cases h2
  rfl
class DE {α : Type} (e : α → Val) (n : outParam Nat) where
  d : α → PyData
  dat : ∀ S a, dat S (e a) = some (d a)
  toD : ∀ a, toD (e a) = some (d a)
  lay : ∀ a, (d a).canLay0 = true
  dep : ∀ a, (d a).depth ≤ n
  eqv : ∀ a b, PyData.eqv (d a) (d b) = true ↔ a = b
instance : DE eI 0 := ⟨PyData.int, fun _ _ => by simp [G.dat], fun _ => by simp [G.toD], fun _ => by simp [PyData.canLay0], fun _ => by simp [PyData.depth], fun a b => by simp [PyData.eqv]⟩
instance : DE eB 0 := ⟨PyData.bool, fun _ _ => by simp [G.dat], fun _ => by simp [G.toD], fun _ => by simp [PyData.canLay0], fun _ => by simp [PyData.depth], fun a b => by cases a <;> cases b <;> simp [PyData.eqv]⟩
theorem DE.datL {e : α → Val} {n : Nat} [DE e n] (S : Sto) : ∀ xs : List α, datL S (xs.map e) = some (xs.map (DE.d e))
  | [] => by simp [G.datL]
  | x :: xs => by simp [G.datL, DE.dat, DE.datL S xs]
theorem DE.toDL {e : α → Val} {n : Nat} [DE e n] : ∀ xs : List α, toDL (xs.map e) = some (xs.map (DE.d e))
  | [] => by simp [G.toDL]
  | x :: xs => by simp [G.toDL, DE.toD, DE.toDL xs]
theorem DE.layL {e : α → Val} {n : Nat} [DE e n] : ∀ xs : List α, PyData.canLayAll0 (xs.map (DE.d e)) = true
  | [] => by simp [PyData.canLayAll0]
  | x :: xs => by simp [PyData.canLayAll0, DE.lay, DE.layL xs]
theorem DE.depL {e : α → Val} {n : Nat} [DE e n] : ∀ xs : List α, PyData.depthAll (xs.map (DE.d e)) ≤ n
  | [] => by simp [PyData.depthAll]
  | x :: xs => by
    have := DE.dep (e := e) x
    have := DE.depL (e := e) xs
    simp [PyData.depthAll]
    omega
theorem DE.eqvL {e : α → Val} {n : Nat} [DE e n] : ∀ xs ys : List α, PyData.eqvAll (xs.map (DE.d e)) (ys.map (DE.d e)) = true ↔ xs = ys
  | [], [] => by simp [PyData.eqvAll]
  | [], y :: ys => by simp [PyData.eqvAll]
  | x :: xs, [] => by simp [PyData.eqvAll]
  | x :: xs, y :: ys => by simp [PyData.eqvAll, DE.eqv, DE.eqvL xs ys]
instance {e : α → Val} {n : Nat} [DE e n] : DE (eT e) (n + 1) := ⟨fun xs => .tuple (xs.map (DE.d e)), fun S xs => by simp [G.dat, eT, DE.datL], fun xs => by simp [G.toD, eT, DE.toDL], fun xs => by simp [PyData.canLay0, DE.layL], fun xs => by
  have := DE.depL (e := e) xs
  simp [PyData.depth]; omega, fun xs ys => by simp [PyData.eqv, DE.eqvL]⟩
instance {e : α → Val} {n : Nat} [DE e n] : DE (eL e) (n + 1) := ⟨fun xs => .list (xs.map (DE.d e)), fun S xs => by simp [G.dat, eL, DE.datL], fun xs => by simp [G.toD, eL, DE.toDL], fun xs => by simp [PyData.canLay0, DE.layL], fun xs => by
  have := DE.depL (e := e) xs
  simp [PyData.depth]; omega, fun xs ys => by simp [PyData.eqv, DE.eqvL]⟩
theorem DE.shaped {e : α → Val} {n : Nat} [DE e n] (h : n ≤ 60) (a : α) : SeqAt.shaped (DE.d e a) = true := by
  have := DE.dep (e := e) a
  unfold SeqAt.shaped
  rw [DE.lay]
  simp
  omega
theorem sEqD_of {n : Nat} [DecidableEq α] [DE e n] (h : n ≤ 60) {x y : Val} {a b : α} (hx : dat S x = some (DE.d e a)) (hy : dat S y = some (DE.d e b)) : sEqD S x y = some (decide (a = b)) := by
  unfold sEqD
  simp only [hx, hy, DE.shaped h, and_self, if_true, Option.some.injEq]
  rw [Bool.eq_iff_iff, DE.eqv]
  simp
theorem sEqB_of {n : Nat} [DecidableEq α] [DE e n] (h : n ≤ 60) {x y : Val} {a b : α} (hx : dat S x = some (DE.d e a)) (hy : dat S y = some (DE.d e b)) : sEqB S x y = some (decide (a = b)) := by
  have q := sEqD_of h hx hy
  unfold sEqB
  split
  · rename_i s t
    have hs : DE.d e a = .str s := by rw [G.dat] at hx; exact (Option.some.inj hx).symm
    have ht : DE.d e b = .str t := by rw [G.dat] at hy; exact (Option.some.inj hy).symm
    have := DE.eqv (e := e) a b
    rw [hs, ht] at this
    simp only [PyData.eqv] at this
    congr 1
    rw [decide_eq_decide]
    simpa using this
  · exact q
theorem op_eq {n : Nat} [DecidableEq α] [DE e n] {a b : α} (h : n ≤ 60) : sEq S (e a) (e b) = some (.bl (decide (a = b))) := by
  unfold sEq; rw [sEqB_of h (DE.dat S a) (DE.dat S b)]; rfl
theorem op_ne {n : Nat} [DecidableEq α] [DE e n] {a b : α} (h : n ≤ 60) : sNe S (e a) (e b) = some (.bl (!decide (a = b))) := by
  unfold sNe; rw [sEqB_of h (DE.dat S a) (DE.dat S b)]; rfl
theorem op_eqS {a b : List Nat} : sEq S (eS a) (eS b) = some (.bl (decide (a = b))) := by
  unfold sEq eS; rw [sEqB_str, Option.map_some]; simp only [tx_inj]
theorem op_neS {a b : List Nat} : sNe S (eS a) (eS b) = some (.bl (!decide (a = b))) := by
  unfold sNe eS; rw [sEqB_str, Option.map_some]; simp only [tx_inj]
theorem op_eqI : sEq S (.int i) (.int j) = some (.bl (decide (i = j))) := by unfold sEq; rw [sEqB_int]; rfl
theorem op_neI : sNe S (.int i) (.int j) = some (.bl (!decide (i = j))) := by unfold sNe; rw [sEqB_int]; rfl
class NN {α : Type} (e : α → Val) : Prop where
  nn : ∀ a, isNon (e a) = some false
instance : NN eI := ⟨fun _ => rfl⟩
instance : NN eB := ⟨fun _ => rfl⟩
instance : NN eS := ⟨fun _ => rfl⟩
instance {e : α → Val} : NN (eT e) := ⟨fun _ => rfl⟩
instance {e : α → Val} : NN (eL e) := ⟨fun _ => rfl⟩
instance {e : α → Val} {f : β → Val} : NN (eP e f) := ⟨fun _ => rfl⟩
instance {γ : Type} {e : α → Val} {f : β → Val} {g : γ → Val} : NN (eQ e f g) := ⟨fun _ => rfl⟩
theorem op_is [NN e] {o : Option α} : sIs S (eO e o) .non = some (.bl o.isNone) := by
  cases o with
  | none => rfl
  | some a => simp [sIs, eO, NN.nn]
theorem op_sum {ns : List Int} (h : seqOf S x = some (false, ns.map eI)) : sSum S [x] = some (.int ns.sum) := by simp [sSum, lstOnly, h, intsOf_map]
theorem op_all {bs : List Bool} (h : seqOf S x = some (false, bs.map eB)) : sAll S [x] = some (.bl (bs.all id)) := by
  simp only [sAll, lstOnly, h]
  rw [boolsOf_map]
theorem op_abs : sAbs S [.int i] = some (.int (i.natAbs : Int)) := by
  rw [abs_int]; congr 2; split <;> omega
theorem op_intB {b : Bool} : sInt S [.bl b] = some (.int (if b then 1 else 0)) := rfl
def repO {α : Type} (xs : List α) (n : Int) : Option (List α) := if 0 ≤ n ∧ n ≤ 1000000 ∧ xs.length * n.toNat ≤ 16777216 then some (List.replicate n.toNat xs).flatten else none
theorem op_repS {a r : List Nat} (h : repO a i = some r) : sMul S (eS a) (.int i) = some (eS r) := by
  unfold repO at h
  split at h
  · rename_i q
    cases h
    unfold eS
    rw [mul_str _ _ _ q.1 q.2.1 (by rw [tx_len]; exact q.2.2), tx_mul q.1]
  · cases h
end

section
variable {α : Type} {e : α → Val} [NC e] {B : Sto} {cs cs' : List (Nat × Cell)} {xs ys zs : List α} {k : Nat} {y : Val} {i : Int}
theorem mt_append {a : α} (j : Nat) (hc : cs[j]? = some (k, .lst (xs.map e))) (hk : B.length ≤ k) (hz : szO (xs ++ [a]) = some zs) (hs : cs.set j (k, .lst (zs.map e)) = cs') : ∀ S, St B S cs → ∃ S', sAppend S (.cell k) [e a] = some (.non, S') ∧ St B S' cs' := by
  intro S hS
  obtain ⟨hl, rfl⟩ := szO_some hz
  refine ⟨_, ap_cell (hS.at j hc) (by simp at hl ⊢; omega), ?_⟩
  rw [← hs]
  have := hS.own j hc hk (ncC_lst e (xs ++ [a]))
  simpa using this
theorem mt_count {o : Val} {xs : List Int} (h : ∀ S, St B S cs → seqOf S o = some (false, xs.map eI)) : ∀ S, St B S cs → ∃ S', sCountI S o [.int i] = some (.int (xs.count i : Nat), S') ∧ St B S' cs := by
  intro S hS
  exact ⟨S, by simp only [sCountI, lstOnly, h S hS, intsOf_map], hS⟩
end
section
variable {α : Type} {en : α → Val} [NC en] {B B1 : Sto} {cs cs1 : List (Nat × Cell)} {xs : List α} {ρ : Ev} {ms : MA} {n : MS} {P : Fl → Sto → Prop} {i : Nat}
theorem run_new (hs : X B cs ms ρ (xs.map en) B1 cs1) (hl : xs.length ≤ 16777216) (h : ∀ k ρ', B1.length ≤ k → ρ.set i (some (.cell k)) = ρ' → Run B1 ((k, .lst (xs.map en)) :: cs1) n ρ' P) : Run B cs (sSeq (sSet i (mNew ms)) n) ρ P := by
  intro S hS
  obtain ⟨S1, q1, h1⟩ := hs S hS
  obtain ⟨fl, S2, q2, q3⟩ := h S1.length _ h1.le rfl _ (h1.new (.lst (xs.map en)) (ncC_lst en xs))
  refine ⟨fl, S2, ?_, q3⟩
  rw [e_seq, e_set, e_new, q1, bnd_ok, e_kNew, if_pos (by rw [sz, List.length_map]; exact hl), bns_ok, e_kSet, seqK_next]
  exact q2
end
end G

set_option Elab.async false
set_option linter.all false
set_option maxRecDepth 100000
set_option maxHeartbeats 4000000
namespace G
open PySem PySem.Spec PyProof.Rows L2
theorem ifT {c : Bool} {α : Type} {a b : α} (h : c = true) : (if c = true then a else b) = a := if_pos h
theorem ifF {c : Bool} {α : Type} {a b : α} (h : c = false) : (if c = true then a else b) = b := if_neg (by rw [h]; decide)
theorem szO_same {α : Type} {xs ys : List α} (h : szO xs = some ys) : szO xs = some xs := by
  obtain ⟨hl, rfl⟩ := szO_some h
  exact h
theorem ltset {S : Sto} {k j : Nat} {c : Cell} (h : k < S.length) : k < (S.set j c).length := by rw [List.length_set]; exact h
theorem X.cast {α : Type} {B B' : Sto} {cs cs' : List (Nat × Cell)} {m : Ev → Sto → Res α} {ρ : Ev} {a b : α} (h : a = b) (d : X B cs m ρ a B' cs') : X B cs m ρ b B' cs' := h ▸ d
section
variable {B B1 B2 : Sto} {cs cs1 cs2 : List (Nat × Cell)} {ρ : Ev} {ms : MA} {ma : ME}
theorem strc {x : Str} {a : List Nat} (h : x = tx a) : X B cs (mC (.str x)) ρ (eS a) B cs := .of fun _ => by rw [h]; rfl
theorem tup0 {α : Type} {e : α → Val} : X B cs (mTup mNil) ρ (eT e []) B cs := .of fun S => by rw [e_tup, e_nil, bnd_ok, e_kTup, if_pos (by decide)]; rfl
theorem lst0 {α : Type} {e : α → Val} : X B cs (mLst mNil) ρ (eL e []) B cs := .of fun S => by rw [e_lst, e_nil, bnd_ok, e_kLst, if_pos (by decide)]; rfl
theorem tupT {α : Type} {e : α → Val} {xs : List α} (hs : X B cs ms ρ (xs.map e) B1 cs1) (hl : xs.length ≤ 16777216) : X B cs (mTup ms) ρ (eT e xs) B1 cs1 := ev_tup hs (by rw [List.length_map]; exact hl)
theorem lstT {α : Type} {e : α → Val} {xs : List α} (hs : X B cs ms ρ (xs.map e) B1 cs1) (hl : xs.length ≤ 16777216) : X B cs (mLst ms) ρ (eL e xs) B1 cs1 := ev_lst hs (by rw [List.length_map]; exact hl)
theorem tupP {α β : Type} {e : α → Val} {f : β → Val} {a : α} {b : β} (hs : X B cs ms ρ [e a, f b] B1 cs1) : X B cs (mTup ms) ρ (eP e f (a, b)) B1 cs1 := ev_tup hs (by simp)
theorem tupQ {α β γ : Type} {e : α → Val} {f : β → Val} {g : γ → Val} {a : α} {b : β} {c : γ} (hs : X B cs ms ρ [e a, f b, g c] B1 cs1) : X B cs (mTup ms) ρ (eQ e f g (a, b, c)) B1 cs1 := ev_tup hs (by simp)
end
def lpK {R σ β : Type} (o : Lp R σ) (kr : R → β) (k : σ → Option β) : Option β := match o with
  | .ret r => some (kr r)
  | .go s => k s
  | .brk _ => none
theorem ms_count {S : Sto} {a : List Nat} {c : Nat} : sCountS S (eS a) [eS [c]] = some (.int (a.count c : Nat), S) := by
  unfold eS
  rw [count_str, tx_count]
noncomputable def rpO (v : Val) : Option Str := match toD v with
  | some d => if d.showable = true ∧ d.shown.length ≤ 16777216 ∧ d.depth ≤ 60 ∧ d.hasDict = false then some d.shown else none
  | none => match rdX v with
    | some d => if d.showable = true ∧ d.shown.length ≤ 16777216 ∧ d.depth ≤ 60 then some d.shown else none
    | none => none
end G

set_option Elab.async false
set_option linter.all false
set_option maxRecDepth 100000
set_option maxHeartbeats 4000000
namespace G
open PySem PySem.Spec PyProof.Rows L2
theorem sset2 {A : Type} {ρ ρ1 ρ2 : List A} {i j : Nat} {a b : A} (h1 : ρ.set i a = ρ1) (h2 : ρ1.set j b = ρ2) : (ρ.set i a).set j b = ρ2 := by subst h1; exact h2
theorem x_inv {α : Type} {B : Sto} {cs : List (Nat × Cell)} {m : Ev → Sto → Res α} {ρ : Ev} {a : α} {I : Sto → Prop} (hi : ∀ S, St B S cs → I S) {S : Sto} (hS : St B S cs) (d : X B cs m ρ a B cs) : ∃ S', m ρ S = some (.ok a S') ∧ I S' := by
  obtain ⟨S', q, h⟩ := d S hS
  exact ⟨S', q, hi S' h⟩
theorem St.startB {S : Sto} {k : Nat} {c : Cell} (h : ncS S) (hk : S[k]? = some c) : St (S.set k c) S [(k, c)] := by
  obtain ⟨h1, h2⟩ := List.getElem?_eq_some_iff.mp hk
  have : S.set k c = S := by rw [← h2, List.set_getElem_self]
  rw [this]
  exact St.startK h hk
section
variable {S : Sto} {α : Type} {e : α → Val} {x : Val} {b : Bool} {xs : List α}
theorem op_listX (h : seqOf S x = some (b, xs.map e)) : sListX S [x] = some (xs.map e) := by
  have := op_list h
  cases x <;> first | exact this | cases h
theorem op_tupleX (h : seqOf S x = some (b, xs.map e)) : sTupleX S [x] = some (eT e xs) := by
  have := op_tuple h
  cases x <;> first | exact this | cases h
theorem op_revTX : sRevX S (eT e xs) = some (eT e xs.reverse) := op_revT (S := S)
end
section
variable {B B1 : Sto} {cs cs1 : List (Nat × Cell)} {ρ ρ' : Ev} {ms ms' : MA} {ma : ME} {n : MS} {P : Fl → Sto → Prop} {i j l : Nat}
def Y (B : Sto) (cs : List (Nat × Cell)) (m : MA) (ρ : Ev) (Q : List Val → Sto → Prop) : Prop := ∀ S, St B S cs → ∃ vs S', m ρ S = some (.ok vs S') ∧ Q vs S'
theorem yc_nil : Y B cs mNil ρ (fun vs S => vs = [] ∧ St B S cs) := fun S hS => ⟨[], S, rfl, rfl, hS⟩
theorem yc_val {x : Val} {Q : List Val → Sto → Prop} (h : X B cs ma ρ x B1 cs1) (k : Y B1 cs1 ms ρ Q) : Y B cs (mCons ma ms) ρ (fun vs S => ∃ ws, vs = x :: ws ∧ Q ws S) := by
  intro S hS
  obtain ⟨S1, q1, h1⟩ := h S hS
  obtain ⟨ws, S2, q2, h2⟩ := k S1 h1
  exact ⟨x :: ws, S2, by rw [e_cons, q1, bnd_ok, e_kCons, q2, bnd_ok, e_kConsb], ws, rfl, h2⟩
theorem yc_new {α : Type} {en : α → Val} [NC en] {us : List α} {Q : Nat → List Val → Sto → Prop} (h : X B cs ms' ρ (us.map en) B1 cs1) (hl : us.length ≤ 16777216) (k : ∀ k, B1.length ≤ k → Y B1 ((k, .lst (us.map en)) :: cs1) ms ρ (Q k)) :
    Y B cs (mCons (mNew ms') ms) ρ (fun vs S => ∃ k ws, B1.length ≤ k ∧ vs = .cell k :: ws ∧ Q k ws S) := by
  intro S hS
  obtain ⟨S1, q1, h1⟩ := h S hS
  obtain ⟨ws, S2, q2, h2⟩ := k S1.length h1.le _ (h1.new (.lst (us.map en)) (ncC_lst en us))
  exact ⟨.cell S1.length :: ws, S2, by rw [e_cons, e_new, q1, bnd_ok, e_kNew, if_pos (by rw [sz, List.length_map]; exact hl), bnd_ok, e_kCons, q2, bnd_ok, e_kConsb], S1.length, ws, h1.le, rfl, h2⟩
theorem run_parY {Q : List Val → Sto → Prop} (hs : Y B cs ms ρ Q) (h : ∀ vs S, Q vs S → ∃ v w ρ', vs = [v, w] ∧ (ρ.set i (some v)).set j (some w) = ρ' ∧ RunA n ρ' S P) : Run B cs (sSeq (sPar i j ms) n) ρ P := by
  intro S hS
  obtain ⟨vs, S1, q, hQ⟩ := hs S hS
  obtain ⟨v, w, ρ', rfl, rfl, fl, S2, q1, q2⟩ := h vs S1 hQ
  exact ⟨fl, S2, by rw [e_seq, e_par, q, bns_ok, e_kPar, seqK_next]; exact q1, q2⟩
end
end G

set_option Elab.async false
set_option linter.all false
set_option maxRecDepth 100000
set_option maxHeartbeats 4000000
namespace G
open PySem PySem.Spec PyProof.Rows L2
mutual
theorem toD_dat (S : Sto) : ∀ (v : Val) (d : PyData), toD v = some d → dat S v = some d
  | .non, d, h => by simpa [toD, dat] using h
  | .bl b, d, h => by simpa [toD, dat] using h
  | .int i, d, h => by simpa [toD, dat] using h
  | .str x, d, h => by simpa [toD, dat] using h
  | .tup xs, d, h => by
    rw [toD] at h
    obtain ⟨ds, h1, rfl⟩ := Option.map_eq_some_iff.mp h
    rw [dat, toDL_datL S xs ds h1]
    rfl
  | .lst xs, d, h => by
    rw [toD] at h
    obtain ⟨ds, h1, rfl⟩ := Option.map_eq_some_iff.mp h
    rw [dat, toDL_datL S xs ds h1]
    rfl
  | .scr ns, d, h => by simpa [toD, dat] using h
  | .dct _, d, h => by simp [toD] at h
  | .cell _, d, h => by simp [toD] at h
  | .con _, d, h => by simp [toD] at h
  | .fnv _, d, h => by simp [toD] at h
  | .err _ _ _ _, d, h => by simp [toD] at h
  | .prs _, d, h => by simp [toD] at h
theorem toDL_datL (S : Sto) : ∀ (v : List Val) (d : List PyData), toDL v = some d → datL S v = some d
  | [], d, h => by simpa [toDL, datL] using h
  | x :: xs, d, h => by
    rw [toDL] at h
    split at h
    · rename_i a b h1 h2
      rw [datL, toD_dat S x a h1, toDL_datL S xs b h2]
      exact h
    · cases h
end
theorem op_repr {S : Sto} {v : Val} {r : Str} (h : rpO v = some r) : sReprX S [v] = some (.str r) := by
  unfold rpO at h
  unfold sReprX
  split at h
  · rename_i d hd
    split at h
    · rename_i q
      cases h
      simp only [hd]
      unfold sRepr sReprS
      simp only [toD_dat S v d hd]
      rw [if_pos (by rw [sz]; exact q)]
      rfl
    · cases h
  · rename_i hd
    split at h
    · rename_i d he
      split at h
      · rename_i q
        cases h
        simp only [hd, he]
        unfold sReprD
        rw [if_pos (by rw [sz]; exact q)]
      · cases h
    · cases h
theorem Fine.rpO {v : Val} {w dp : Nat} (h : Fine v w dp) (h1 : w ≤ 16777216) (h2 : dp ≤ 60) : ∃ r, rpO v = some r := by
  obtain ⟨d, a, b, c, e, f, g⟩ := h.ex
  unfold G.rpO
  simp only [a.2]
  rw [if_pos ⟨b, Nat.le_trans c h1, Nat.le_trans e h2, f⟩]
  exact ⟨_, rfl⟩
theorem op_eqR {S : Sto} {a b : Str} : sEq S (.str a) (.str b) = some (.bl (decide (a = b))) := rfl
theorem op_neR {S : Sto} {a b : Str} : sNe S (.str a) (.str b) = some (.bl (!decide (a = b))) := rfl
def bel (s : Stm) (n : Int) : Int × Stm :=
  let c := s.cells.getD s.pos.toNat 0
  let fresh : Bool := decide (s.rest = 0) && decide (s.pos < s.cells.length)
  let rest := if fresh then c * (if 1000000000000000000 ≤ c then 1 else 0) else s.rest
  let st0 := if fresh then s.st * 69069 + c % 4294967291 + 1 else s.st
  let st1 := (st0 * 1103515245 + 12345 + s.pos) % 2305843009213693951
  (if 0 < rest then rest % n else st1 * st1 % 2305843009213693951 / 64 % n, ⟨s.cells, if fresh then s.pos + 1 else s.pos, rest / n, st1⟩)
theorem bel_lt (s : Stm) {n : Int} (hn : 0 < n) : 0 ≤ (bel s n).1 ∧ (bel s n).1 < n := by
  unfold bel
  dsimp only
  generalize (if (decide (s.rest = 0) && decide (s.pos < s.cells.length)) = true then s.cells.getD s.pos.toNat 0 * (if 1000000000000000000 ≤ s.cells.getD s.pos.toNat 0 then 1 else 0) else s.rest) = q
  by_cases h : 0 < q
  · rw [if_pos h]
    exact ⟨Int.emod_nonneg _ (by omega), Int.emod_lt_of_pos _ hn⟩
  · rw [if_neg h]
    exact ⟨Int.emod_nonneg _ (by omega), Int.emod_lt_of_pos _ hn⟩
theorem bel_ok {s : Stm} {n : Int} (h : s.Ok) (hn : 0 < n) : (bel s n).2.Ok := by
  obtain ⟨ok1, ok2, ok3, ok4⟩ := h
  unfold bel
  refine ⟨ok1, ?_, ?_, Int.emod_nonneg _ (by decide)⟩
  · dsimp only
    split <;> omega
  · dsimp only
    refine Int.ediv_nonneg ?_ (by omega)
    split
    · rename_i hf
      rw [Bool.and_eq_true, decide_eq_true_eq, decide_eq_true_eq] at hf
      refine Int.mul_nonneg ?_ (by split <;> decide)
      rw [List.getD_eq_getElem?_getD, List.getElem?_eq_getElem (by omega)]
      exact ok1 _ (List.getElem_mem _)
    · exact ok3
open Classical in
noncomputable def x_t_below (s : Stm) (n : Int) : Option (Int × Stm) := if s.Ok ∧ 0 < n ∧ n < 2 ^ 64 then some (bel s n) else none
theorem below_ok {s : Stm} {n : Int} (h : s.Ok) (hn : 0 < n) (hb : n < 2 ^ 64) : ∃ r s', x_t_below s n = some (r, s') ∧ 0 ≤ r ∧ r < n ∧ s'.Ok := by
  refine ⟨(bel s n).1, (bel s n).2, ?_, (bel_lt s hn).1, (bel_lt s hn).2, bel_ok h hn⟩
  unfold x_t_below
  rw [if_pos ⟨h, hn, hb⟩]
end G

set_option Elab.async false
set_option linter.all false
set_option maxRecDepth 100000
set_option maxHeartbeats 4000000
namespace G
open PySem PySem.Spec PyProof.Rows L2
noncomputable def x_t_pick {A : Type} (stream_here : Stm) (items : List A) : Option (A × Stm) :=
  (x_t_below stream_here (items.length : Int)).bind fun (r1, s1) =>
  (atI items r1).bind fun r2 =>
  some (r2, s1)
end G

set_option Elab.async false
set_option linter.all false
set_option maxRecDepth 100000
set_option maxHeartbeats 4000000
namespace G
open PySem PySem.Spec PyProof.Rows L2
section
variable {σ α R : Type}
theorem foldO_inv {step : σ → α → Option σ} (I : Nat → σ → Prop) : ∀ {xs : List α} {s : σ} (j : Nat), I j s → (∀ i x s, xs[i]? = some x → I (j + i) s → ∃ s', step s x = some s' ∧ I (j + i + 1) s') → ∃ s', foldO step xs s = some s' ∧ I (j + xs.length) s'
  | [], s, j, h0, hs => ⟨s, rfl, h0⟩
  | x :: xs, s, j, h0, hs => by
    obtain ⟨s1, h1, h2⟩ := hs 0 x s rfl h0
    obtain ⟨s', h3, h4⟩ := foldO_inv I (xs := xs) (s := s1) (j + 1) h2 fun i y s hy hI => by
      have := hs (i + 1) y s (by simpa using hy) (by rwa [show j + (i + 1) = j + 1 + i by omega])
      rwa [show j + (i + 1) + 1 = j + 1 + i + 1 by omega] at this
    exact ⟨s', by rw [foldO, h1]; exact h3, by rwa [List.length_cons, show j + (xs.length + 1) = j + 1 + xs.length by omega]⟩
theorem fold_inv {step : σ → α → Option σ} {xs : List α} {s : σ} (I : Nat → σ → Prop) (h0 : I 0 s) (hs : ∀ i x s, xs[i]? = some x → I i s → ∃ s', step s x = some s' ∧ I (i + 1) s') : ∃ s', foldO step xs s = some s' ∧ I xs.length s' := by
  have := foldO_inv (step := step) I (xs := xs) 0 h0 (by simpa using hs)
  simpa using this
theorem forT_inv' {step : σ → α → Option (Lp R σ)} (I : Nat → σ → Prop) (Q : R → Prop) : ∀ {xs : List α} {s : σ} (j : Nat), I j s → (∀ i x s, xs[i]? = some x → I (j + i) s → (∃ s', step s x = some (.go s') ∧ I (j + i + 1) s') ∨ (∃ r, step s x = some (.ret r) ∧ Q r)) →
      (∃ s', forT step xs s = some (.go s') ∧ I (j + xs.length) s') ∨ ∃ r, forT step xs s = some (.ret r) ∧ Q r
  | [], s, j, h0, hs => .inl ⟨s, rfl, h0⟩
  | x :: xs, s, j, h0, hs => by
    rcases hs 0 x s rfl h0 with ⟨s1, h1, h2⟩ | ⟨r, h1, h2⟩
    · have := forT_inv' I Q (xs := xs) (s := s1) (j + 1) h2 fun i y s hy hI => by
        have := hs (i + 1) y s (by simpa using hy) (by rwa [show j + (i + 1) = j + 1 + i by omega])
        rwa [show j + (i + 1) + 1 = j + 1 + i + 1 by omega] at this
      rw [forT, h1, List.length_cons, show j + (xs.length + 1) = j + 1 + xs.length by omega]
      exact this
    · exact .inr ⟨r, by rw [forT, h1], h2⟩
theorem forT_inv {step : σ → α → Option (Lp R σ)} {xs : List α} {s : σ} (I : Nat → σ → Prop) (Q : R → Prop) (h0 : I 0 s) (hs : ∀ i x s, xs[i]? = some x → I i s → (∃ s', step s x = some (.go s') ∧ I (i + 1) s') ∨ (∃ r, step s x = some (.ret r) ∧ Q r)) :
      (∃ s', forT step xs s = some (.go s') ∧ I xs.length s') ∨ ∃ r, forT step xs s = some (.ret r) ∧ Q r := by
  have := forT_inv' (step := step) I Q (xs := xs) 0 h0 (by simpa using hs)
  simpa using this
theorem forT_go {step : σ → α → Option (Lp R σ)} {xs : List α} {s : σ} (I : Nat → σ → Prop) (h0 : I 0 s) (hs : ∀ i x s, xs[i]? = some x → I i s → ∃ s', step s x = some (.go s') ∧ I (i + 1) s') : ∃ s', forT step xs s = some (.go s') ∧ I xs.length s' := by
  rcases forT_inv (step := step) (xs := xs) I (fun _ => False) h0 (fun i x s hx hI => .inl (hs i x s hx hI)) with h | ⟨r, _, h⟩
  · exact h
  · exact h.elim
theorem whO_inv {t : σ → Option Bool} {step : σ → Option σ} (I : Nat → σ → Prop) (h : ∀ n s, I n s → t s = some false ∨ (t s = some true ∧ ∃ s' m, step s = some s' ∧ m < n ∧ I m s')) : ∀ f n s, n < f → I n s → ∃ s', whO t step f s = some s' ∧ t s' = some false ∧ ∃ m, I m s'
  | 0, n, s, hf, _ => by omega
  | f + 1, n, s, hf, hI => by
    rcases h n s hI with h1 | ⟨h1, s', m, h2, h3, h4⟩
    · exact ⟨s, by rw [whO, h1]; rfl, h1, n, hI⟩
    · obtain ⟨s2, q1, q2⟩ := whO_inv I h f m s' (by omega) h4
      exact ⟨s2, by rw [whO, h1, Option.bind_some, if_pos rfl, h2, Option.bind_some]; exact q1, q2⟩
theorem wh_fuel {t : σ → Option Bool} {step : σ → Option σ} {s : σ} (n : Nat) (I : Nat → σ → Prop) (h0 : I n s) (hn : n < 2 ^ 40) (h : ∀ n s, I n s → t s = some false ∨ (t s = some true ∧ ∃ s' m, step s = some s' ∧ m < n ∧ I m s')) : ∃ s', whO t step fuel s = some s' ∧ t s' = some false ∧ ∃ m, I m s' := whO_inv I h fuel n s hn h0
theorem lcO_map {β : Type} {g : α → Option (Option β)} (f : α → β) : ∀ {xs : List α}, (∀ x ∈ xs, g x = some (some (f x))) → lcO g xs = some (xs.map f)
  | [], _ => rfl
  | x :: xs, h => by
    rw [lcO, h x List.mem_cons_self, Option.bind_some, lcO_map f fun y hy => h y (List.mem_cons_of_mem _ hy)]
    rfl
theorem rngO_ok {a b : Int} (h1 : -4611686018427387904 ≤ a) (h2 : a < 4611686018427387904) (h3 : -4611686018427387904 ≤ b) (h4 : b < 4611686018427387904) : rngO a b = some ((List.range (b - a).toNat).map fun (i : Nat) => a + (i : Int)) := if_pos ⟨h1, h2, h3, h4⟩
theorem rng_get {a : Int} {n i : Nat} {x : Int} (h : ((List.range n).map fun (i : Nat) => a + (i : Int))[i]? = some x) : i < n ∧ x = a + i := by
  rw [List.getElem?_map] at h
  obtain ⟨j, h1, rfl⟩ := Option.map_eq_some_iff.mp h
  obtain ⟨h2, h3⟩ := List.getElem?_eq_some_iff.mp h1
  simp at h2 h3
  subst h3
  exact ⟨h2, rfl⟩
theorem enI_get {xs : List α} {i : Nat} {p : Int × α} (h : (enI xs)[i]? = some p) : xs[i]? = some p.2 ∧ p.1 = i := by
  unfold enI at h
  rw [List.getElem?_zipWith] at h
  cases h1 : (List.range xs.length)[i]? with
  | none => simp [h1] at h
  | some j =>
    cases h2 : xs[i]? with
    | none => simp [h1, h2] at h
    | some y =>
      simp [h1, h2] at h
      subst h
      obtain ⟨h3, h4⟩ := List.getElem?_eq_some_iff.mp h1
      simp at h4
      exact ⟨rfl, by simp [h4]⟩
theorem enI_len (xs : List α) : (enI xs).length = xs.length := by simp [enI]
theorem atI_ok {xs : List α} {i : Int} (h0 : 0 ≤ i) (h1 : i < xs.length) : atI xs i = some (xs[i.toNat]'(by omega)) := by rw [atI_nat h0 h1, List.getElem?_eq_getElem (by omega)]
theorem atI_mem {xs : List α} {i : Int} (h0 : 0 ≤ i) (h1 : i < xs.length) : ∃ x, atI xs i = some x ∧ x ∈ xs := ⟨_, atI_ok h0 h1, List.getElem_mem _⟩
end
def Ret {β : Type} (o : Option β) (R : β → Prop) : Prop := ∃ b, o = some b ∧ R b
section
variable {σ α β γ R' : Type} {R : β → Prop} {k : α → Option β}
theorem ret_some {b : β} (h : R b) : Ret (some b) R := ⟨b, rfl, h⟩
theorem ret_bind {o : Option α} {Q : α → Prop} (h : Ret o Q) (hk : ∀ a, Q a → Ret (k a) R) : Ret (o.bind k) R := by
  obtain ⟨a, rfl, hq⟩ := h
  exact hk a hq
theorem ret_eq {o : Option α} {a : α} (h : o = some a) (hk : Ret (k a) R) : Ret (o.bind k) R := by
  subst h
  exact hk
theorem ret_of {b : β} {o : Option β} (h : o = some b) (r : R b) : Ret o R := ⟨b, h, r⟩
theorem Ret.mono {o : Option β} {R1 : β → Prop} (h : Ret o R1) (i : ∀ b, R1 b → R b) : Ret o R := by
  obtain ⟨b, e, r⟩ := h
  exact ⟨b, e, i b r⟩
theorem ret_sz {xs : List α} {k : List α → Option β} (h : xs.length ≤ 16777216) (hk : Ret (k xs) R) : Ret ((szO xs).bind k) R := ret_eq (szO_ok h) hk
theorem ret_let {a : α} (hk : Ret (k a) R) : Ret ((some a).bind k) R := hk
theorem ret_at {xs : List α} {i : Int} (h0 : 0 ≤ i) (h1 : i < xs.length) (hk : Ret (k (xs[i.toNat]'(by omega))) R) : Ret ((atI xs i).bind k) R := ret_eq (atI_ok h0 h1) hk
theorem ret_rng {a b : Int} {k : List Int → Option β} (h1 : -4611686018427387904 ≤ a) (h2 : a < 4611686018427387904) (h3 : -4611686018427387904 ≤ b) (h4 : b < 4611686018427387904) (hk : Ret (k ((List.range (b - a).toNat).map fun (i : Nat) => a + (i : Int))) R) : Ret ((rngO a b).bind k) R := ret_eq (rngO_ok h1 h2 h3 h4) hk
theorem ret_if {c : Bool} {a b : Option β} (h1 : c = true → Ret a R) (h0 : c = false → Ret b R) : Ret (if c = true then a else b) R := by
  cases c with
  | true => exact h1 rfl
  | false => exact h0 rfl
theorem ret_wh {t : σ → Option Bool} {step : σ → Option σ} {s : σ} {k : σ → Option β} (n : Nat) (I : Nat → σ → Prop) (h0 : I n s) (hn : n < 2 ^ 40) (h : ∀ n s, I n s → t s = some false ∨ (t s = some true ∧ Ret (step s) fun s' => ∃ m, m < n ∧ I m s')) (hk : ∀ m s, I m s → t s = some false → Ret (k s) R) : Ret ((whO t step fuel s).bind k) R := by
  obtain ⟨s', h1, h2, m, h3⟩ := wh_fuel (t := t) (step := step) n I h0 hn (fun n s hI => by
    rcases h n s hI with h | ⟨h1, s', h2, m, h3, h4⟩
    · exact .inl h
    · exact .inr ⟨h1, s', m, h2, h3, h4⟩)
  exact ret_eq h1 (hk m s' h3 h2)
theorem ret_fold {step : σ → α → Option σ} {xs : List α} {s : σ} {k : σ → Option β} (I : Nat → σ → Prop) (h0 : I 0 s) (hs : ∀ i x s, xs[i]? = some x → I i s → Ret (step s x) fun s' => I (i + 1) s') (hk : ∀ s, I xs.length s → Ret (k s) R) : Ret ((foldO step xs s).bind k) R := by
  obtain ⟨s', h1, h2⟩ := fold_inv (step := step) (xs := xs) I h0 hs
  exact ret_eq h1 (hk s' h2)
theorem ret_go {step : σ → α → Option (Lp R' σ)} {xs : List α} {s : σ} {kr : R' → β} {k : σ → Option β} (I : Nat → σ → Prop) (h0 : I 0 s) (hs : ∀ i x s, xs[i]? = some x → I i s → Ret (step s x) fun o => ∃ s', o = .go s' ∧ I (i + 1) s') (hk : ∀ s, I xs.length s → Ret (k s) R) : Ret ((forT step xs s).bind fun o => lpK o kr k) R := by
  obtain ⟨s', h1, h2⟩ := forT_go (step := step) (xs := xs) I h0 (fun i x s hx hI => by
    obtain ⟨o, h1, s', rfl, h2⟩ := hs i x s hx hI
    exact ⟨s', h1, h2⟩)
  exact ret_eq h1 (hk s' h2)
theorem ret_for {step : σ → α → Option (Lp R' σ)} {xs : List α} {s : σ} {kr : R' → β} {k : σ → Option β} (I : Nat → σ → Prop) (h0 : I 0 s) (hs : ∀ i x s, xs[i]? = some x → I i s → Ret (step s x) fun o => (∃ s', o = .go s' ∧ I (i + 1) s') ∨ ∃ r, o = .ret r ∧ R (kr r)) (hk : ∀ s, I xs.length s → Ret (k s) R) : Ret ((forT step xs s).bind fun o => lpK o kr k) R := by
  rcases forT_inv (step := step) (xs := xs) I (fun r => R (kr r)) h0 (fun i x s hx hI => by
    obtain ⟨o, h1, h2⟩ := hs i x s hx hI
    rcases h2 with ⟨s', rfl, h2⟩ | ⟨r, rfl, h2⟩
    · exact .inl ⟨s', h1, h2⟩
    · exact .inr ⟨r, h1, h2⟩) with ⟨s', h1, h2⟩ | ⟨r, h1, h2⟩
  · exact ret_eq h1 (hk s' h2)
  · exact ret_eq h1 (ret_some h2)
theorem ret_lc {g : α → Option (Option γ)} {xs : List α} {k : List γ → Option β} (f : α → γ) (h : ∀ x ∈ xs, g x = some (some (f x))) (hk : Ret (k (xs.map f)) R) : Ret ((lcO g xs).bind k) R := ret_eq (lcO_map f h) hk
end
theorem ret_below {β : Type} {R : β → Prop} {s : Stm} {n : Int} {k : Int × Stm → Option β} (h : s.Ok) (hn : 0 < n) (hb : n < 2 ^ 64) (hk : ∀ r s', 0 ≤ r → r < n → s'.Ok → Ret (k (r, s')) R) : Ret ((x_t_below s n).bind k) R := by
  obtain ⟨r, s', e, h1, h2, h3⟩ := below_ok h hn hb
  exact ret_eq e (hk r s' h1 h2 h3)
theorem pick_ok {A : Type} {s : Stm} {xs : List A} (h : s.Ok) (h0 : xs ≠ []) (hl : xs.length ≤ 1000000) : Ret (x_t_pick s xs) fun p => p.1 ∈ xs ∧ p.2.Ok := by
  have hpos : 0 < xs.length := List.length_pos_iff.mpr h0
  unfold x_t_pick
  refine ret_below h (by omega) (by omega) fun r s1 a b ok => ?_
  exact ret_at a b (ret_some ⟨List.getElem_mem _, ok⟩)
abbrev wL (w : List Bool) : List Nat := w.map lt
end G

set_option Elab.async false
set_option linter.all false
set_option maxRecDepth 100000
set_option maxHeartbeats 4000000
namespace G
open PySem PySem.Spec PyProof.Rows L2
theorem op_isi {S : Sto} {v : Val} {t c : String} {r : Bool} (h : kindS S v = some t) (hc : c ∈ clss ∧ isiB t c = r) : sIsi S [v, .con (.ty c)] = some (.bl r) := by rw [isi_of h hc.1, hc.2]
def toV {α : Type} (e : α → Val) [NC e] (a : α) : VV := ⟨e a, NC.nc a⟩
def isiO (v : VV) (c : String) : Option Bool := (kindS [] v.1).map fun t => isiB t c
theorem kindS_nc {S : Sto} {v : Val} (h : nc v = true) : kindS S v = kindS [] v := by cases v <;> simp_all [kindS, nc]
theorem op_isiV {S : Sto} {v : VV} {c : String} {r : Bool} (h : isiO v c = some r) (hc : c ∈ clss) : sIsi S [eV v, .con (.ty c)] = some (.bl r) := by
  obtain ⟨t, h1, h2⟩ := Option.map_eq_some_iff.mp h
  exact op_isi (t := t) (by rw [show eV v = v.1 from rfl, kindS_nc v.2, h1]) ⟨hc, h2⟩
instance {α β : Type} {e : α → Val} {f : β → Val} {n m : Nat} [DE e n] [DE f m] : DE (eP e f) (n + m + 1) := ⟨fun p => .tuple [DE.d e p.1, DE.d f p.2], fun S p => by simp [G.dat, G.datL, eP, DE.dat], fun p => by simp [G.toD, G.toDL, eP, DE.toD], fun p => by simp [PyData.canLay0, PyData.canLayAll0, DE.lay], fun p => by
  have := DE.dep (e := e) p.1
  have := DE.dep (e := f) p.2
  simp [PyData.depth, PyData.depthAll]; omega, fun p q => by
  simp [PyData.eqv, PyData.eqvAll, DE.eqv, Prod.ext_iff]⟩
instance {α β γ : Type} {e : α → Val} {f : β → Val} {g : γ → Val} {n m l : Nat} [DE e n] [DE f m] [DE g l] : DE (eQ e f g) (n + m + l + 1) := ⟨fun p => .tuple [DE.d e p.1, DE.d f p.2.1, DE.d g p.2.2], fun S p => by simp [G.dat, G.datL, eQ, DE.dat], fun p => by simp [G.toD, G.toDL, eQ, DE.toD], fun p => by simp [PyData.canLay0, PyData.canLayAll0, DE.lay], fun p => by
  have := DE.dep (e := e) p.1
  have := DE.dep (e := f) p.2.1
  have := DE.dep (e := g) p.2.2
  simp [PyData.depth, PyData.depthAll]; omega, fun p q => by
  simp [PyData.eqv, PyData.eqvAll, DE.eqv, Prod.ext_iff]⟩
def asS (v : VV) : Option (List Nat) := match v.1 with
  | .str x => some x.cps.toList
  | _ => none
theorem VV.ext' {a b : VV} (h : a.1 = b.1) : a = b := by
  cases a; cases b; cases h; rfl
theorem tx_self (x : Str) : tx x.cps.toList = x := by
  cases x
  simp [tx]
theorem asS_some {v : VV} {s : List Nat} (h : asS v = some s) : v = toV eS s := by
  obtain ⟨v, hv⟩ := v
  unfold asS at h
  cases v <;> simp at h
  subst h
  exact VV.ext' (by simp [toV, eS, tx_self])
theorem asS_toV (s : List Nat) : asS (toV eS s) = some s := by simp [asS, toV, eS, tx_cps]
def vvL (xs : List Val) (h : ncL xs = true) : List VV := xs.attach.map fun p => ⟨p.1, ncL_all.mp h p.1 p.2⟩
theorem vvL_map (xs : List Val) (h : ncL xs = true) : (vvL xs h).map eV = xs := by
  unfold vvL
  rw [List.map_map]
  exact (List.map_congr_left fun p _ => rfl).trans (List.attach_map_subtype_val xs)
def asT (v : VV) : Option (List VV) := match v with
  | ⟨.tup xs, h⟩ => some (vvL xs (by simpa [nc] using h))
  | _ => none
theorem asT_some {v : VV} {s : List VV} (h : asT v = some s) : v = toV (eT eV) s := by
  obtain ⟨v, hv⟩ := v
  cases v <;> simp [asT] at h
  subst h
  exact VV.ext' (congrArg Val.tup (vvL_map _ _).symm)
theorem asT_toV (s : List VV) : asT (toV (eT eV) s) = some s := by
  simp only [asT, toV, eT]
  congr 1
  apply List.ext_getElem
  · simp [vvL]
  · intro i h1 h2
    apply VV.ext'
    have := congrArg (fun l : List Val => l[i]?) (vvL_map (s.map eV) (ncL_map eV s))
    simp only [List.getElem?_map, List.getElem?_eq_getElem h1, List.getElem?_eq_getElem h2, Option.map_some] at this
    exact Option.some.inj this
mutual
theorem dat_nc (S : Sto) : ∀ v : Val, nc v = true → dat S v = dat [] v
  | .non, _ => by simp [dat]
  | .bl _, _ => by simp [dat]
  | .int _, _ => by simp [dat]
  | .str _, _ => by simp [dat]
  | .tup xs, h => by rw [dat, dat, datL_nc S xs (by simpa [nc] using h)]
  | .lst xs, h => by rw [dat, dat, datL_nc S xs (by simpa [nc] using h)]
  | .scr _, _ => by simp [dat]
  | .dct _, _ => by simp [dat]
  | .cell _, h => by simp [nc] at h
  | .con _, _ => by simp [dat]
  | .fnv _, _ => by simp [dat]
  | .err _ _ _ _, h => by simp [nc] at h
  | .prs _, h => by simp [nc] at h
theorem datL_nc (S : Sto) : ∀ v : List Val, ncL v = true → datL S v = datL [] v
  | [], _ => by simp [datL]
  | x :: xs, h => by
    have h' : nc x = true ∧ ncL xs = true := by simpa [ncL] using h
    rw [datL, datL, dat_nc S x h'.1, datL_nc S xs h'.2]
end
def veqO (a b : VV) : Option Bool := sEqB [] a.1 b.1
theorem sEqB_nc {S : Sto} {a b : Val} (ha : nc a = true) (hb : nc b = true) : sEqB S a b = sEqB [] a b := by
  unfold sEqB
  split
  · rfl
  · unfold sEqD
    rw [dat_nc S a ha, dat_nc S b hb]
theorem op_neV {S : Sto} {a b : VV} {r : Bool} (h : veqO a b = some r) : sNe S (eV a) (eV b) = some (.bl (!r)) := by
  unfold veqO at h
  unfold sNe
  rw [show sEqB S (eV a) (eV b) = sEqB [] a.1 b.1 from sEqB_nc a.2 b.2, h]
  rfl
theorem run_env {B : Sto} {cs : List (Nat × Cell)} {m : MS} {ρ ρ' : Ev} {P : Fl → Sto → Prop} (h : ρ = ρ') (k : Run B cs m ρ' P) : Run B cs m ρ P := h ▸ k
theorem ncD_map (kvs : List (Key × VV)) : ncD (kvs.map fun p => (p.1, eV p.2)) = true := by
  induction kvs with
  | nil => simp [ncD]
  | cons p kvs ih =>
    simp only [List.map_cons, ncD, ih, Bool.and_true]
    exact p.2.2
def vD (kvs : List (Key × VV)) : VV := ⟨.dct (kvs.map fun p => (p.1, eV p.2)), by rw [nc]; exact ncD_map kvs⟩
theorem ev_disp {B B1 : Sto} {cs cs1 : List (Nat × Cell)} {ρ : Ev} {ms : MA} {ks : List Key} {vs : List Val} {v : Val} (hs : X B cs ms ρ vs B1 cs1) (hl : ks.length ≤ 15) (hv : .dct (mergeD [] (ks.zip vs)) = v) : X B cs (mDisp ks ms) ρ v B1 cs1 := by
  intro S hS
  obtain ⟨S1, q1, h1⟩ := hs S hS
  refine ⟨S1, ?_, h1⟩
  show bnd (ms ρ S) (kDisp ks) = _
  rw [q1, bnd_ok, ← hv]
  unfold kDisp
  rw [if_pos hl]
end G

set_option Elab.async false
set_option linter.all false
set_option maxRecDepth 100000
set_option maxHeartbeats 4000000
namespace G
open PySem PySem.Spec PyProof.Rows L2
inductive XE where
  | e0 (c : Str)
  | e1 (c f : Str) (v : VV)
def XE.exc : XE → Exc
  | .e0 c => ⟨c, []⟩
  | .e1 c f v => ⟨c, [(f, v.1)]⟩
section
variable {B B1 : Sto} {cs cs1 : List (Nat × Cell)} {ρ : Ev} {n : MS} {m : ME} {P : Fl → Sto → Prop}
end
def XX (B : Sto) (cs : List (Nat × Cell)) (m : ME) (ρ : Ev) (o : Except XE Val) (B' : Sto) (cs' : List (Nat × Cell)) : Prop := ∀ S, St B S cs → ∃ S', (m ρ S = match o with | .ok v => some (.ok v S') | .error e => some (.exc e.exc S')) ∧ St B' S' cs'
section
variable {B B1 B2 : Sto} {cs cs1 cs2 : List (Nat × Cell)} {ρ ρ' : Ev} {n : MS} {m : ME} {ms : MA} {P : Fl → Sto → Prop} {vs : List Val} {v : Val} {e : XE} {i : Nat}
theorem XX.val (h : XX B cs m ρ (.ok v) B1 cs1) : X B cs m ρ v B1 cs1 := h
end
def XE.is0 (c : Str) : XE → Bool
  | .e0 c' => decide (c' = c)
  | _ => false
def XE.is1 (c f : Str) : XE → Option VV
  | .e1 c' f' v => if c' = c ∧ f' = f then some v else none
  | _ => none
end G

set_option Elab.async false
set_option linter.all false
set_option maxRecDepth 100000
set_option maxHeartbeats 4000000
namespace G
open PySem PySem.Spec PyProof.Rows L2
def Pu {α : Type} (m : Ev → Sto → Res α) : Prop := ∀ ρ S v S', m ρ S = some (.ok v S') → S' = S
section
variable {m n k : ME} {s t : MT} {ms : MA}
end
section
variable {B B1 : Sto} {cs cs1 : List (Nat × Cell)} {ρ ρ' : Ev} {S : Sto} {m n : MS} {fl : Fl} {i j : Nat} {v : Val} {me : ME}
theorem xp {α : Type} {m : Ev → Sto → Res α} {v : α} (hx : X B cs m ρ v B1 cs1) (hp : Pu m) (hS : St B S cs) : m ρ S = some (.ok v S) := by
  obtain ⟨S1, q, _⟩ := hx S hS
  cases hp _ _ _ _ q
  exact q
end
def cas0 {β : Type} (e : XE) (c : Str) (y z : Option β) : Option β := if e.is0 c then y else z
def cas1 {β : Type} (e : XE) (c f : Str) (k : VV → Option β) (z : Option β) : Option β := match e.is1 c f with
  | some v => k v
  | none => z
@[simp] theorem cas0_hit {β : Type} {c : Str} {y z : Option β} : cas0 (.e0 c) c y z = y := by simp [cas0, XE.is0]
@[simp] theorem cas1_hit {β : Type} {c f : Str} {v : VV} {k : VV → Option β} {z : Option β} : cas1 (.e1 c f v) c f k z = k v := by simp [cas1, XE.is1]
theorem St.pick {B S : Sto} {cs cs' : List (Nat × Cell)} (h : St B S cs) (is : List Nat) (hn : is.Nodup) (he : is.map (cs[·]?) = cs'.map some) : St B S cs' := by
  have hm : ∀ p ∈ cs', p ∈ cs := fun p hp => by
    have : some p ∈ is.map (cs[·]?) := he ▸ List.mem_map.mpr ⟨p, hp, rfl⟩
    obtain ⟨i, _, e⟩ := List.mem_map.mp this
    exact List.mem_of_getElem? e
  refine ⟨h.pre, ?_, fun p hp => h.get p (hm p hp), h.nc⟩
  have e2 : cs'.map (fun p => some p.1) = is.map (fun i => (cs[i]?).map (·.1)) := by
    have := congrArg (List.map (Option.map (·.1))) he
    rw [List.map_map, List.map_map] at this
    exact this.symm
  have e3 : (cs'.map (fun p => some p.1)).Nodup := by
    rw [e2]
    refine List.pairwise_map.mpr (List.Pairwise.imp_of_mem ?_ hn)
    intro i j hi hj hne q
    have hi' : ∃ p, cs[i]? = some p := by
      have : (cs[·]?) i ∈ cs'.map some := he ▸ List.mem_map.mpr ⟨i, hi, rfl⟩
      obtain ⟨p, _, e⟩ := List.mem_map.mp this
      exact ⟨p, e.symm⟩
    have hj' : ∃ p, cs[j]? = some p := by
      have : (cs[·]?) j ∈ cs'.map some := he ▸ List.mem_map.mpr ⟨j, hj, rfl⟩
      obtain ⟨p, _, e⟩ := List.mem_map.mp this
      exact ⟨p, e.symm⟩
    obtain ⟨p, hp⟩ := hi'
    obtain ⟨p', hp'⟩ := hj'
    simp only [hp, hp', Option.map_some, Option.some.injEq] at q
    obtain ⟨a1, a2⟩ := List.getElem?_eq_some_iff.mp hp
    obtain ⟨b1, b2⟩ := List.getElem?_eq_some_iff.mp hp'
    have k1 : (cs.map (·.1))[i]'(by simpa using a1) = p.1 := by simp [a2]
    have k2 : (cs.map (·.1))[j]'(by simpa using b1) = p'.1 := by simp [b2]
    rcases Nat.lt_or_gt_of_ne hne with c | c
    · exact absurd (k1.trans (q.trans k2.symm)) (List.pairwise_iff_getElem.mp h.nd i j _ _ c)
    · exact absurd (k2.trans (q.symm.trans k1.symm)) (List.pairwise_iff_getElem.mp h.nd j i _ _ c)
  have e4 : (cs'.map (·.1)).map some = cs'.map (fun p => some p.1) := by rw [List.map_map]; rfl
  rw [← e4] at e3
  exact (List.pairwise_map.mp e3).imp fun hh q => hh (congrArg some q)
instance : NC Val.str := ⟨fun _ => by simp [nc]⟩
def eF (x : Str) : Unit → Val := fun _ => .fnv x
instance {x : Str} : NC (eF x) := ⟨fun _ => rfl⟩
section
variable {B B1 : Sto} {cs cs1 : List (Nat × Cell)} {ρ : Ev} {i n : Nat} {tbl : List (Str × Fn)} {ms : MA} {x : Str} {f : Fn} {v : Val} {o : Except XE Val}
end
theorem eT_up {α : Type} {e : α → Val} [NC e] {xs : List α} : eT e xs = eT eV (xs.map (toV e)) := by
  unfold eT
  rw [List.map_map]
  rfl
theorem eL_up {α : Type} {e : α → Val} [NC e] {xs : List α} : eL e xs = eL eV (xs.map (toV e)) := by
  unfold eL
  rw [List.map_map]
  rfl
structure Shw (v : Val) (w dp : Nat) : Prop where
  ex : ∃ d, rdX v = some d ∧ d.showable = true ∧ d.shown.length ≤ w ∧ d.depth ≤ dp
theorem Shw.mono {v : Val} {w dp w' dp' : Nat} (h : Shw v w dp) (h1 : w ≤ w') (h2 : dp ≤ dp') : Shw v w' dp' := by
  obtain ⟨d, a, b, c, e⟩ := h.ex
  exact ⟨d, a, b, Nat.le_trans c h1, Nat.le_trans e h2⟩
mutual
theorem rdX_toD : ∀ (v : Val) (d d' : PyData), rdX v = some d → toD v = some d' → d = d' ∧ d.hasDict = false
  | .non, d, d', h, h' => by simp [rdX] at h; simp [toD] at h'; subst h; subst h'; exact ⟨rfl, by simp [PyData.hasDict]⟩
  | .bl _, d, d', h, h' => by simp [rdX] at h; simp [toD] at h'; subst h; subst h'; exact ⟨rfl, by simp [PyData.hasDict]⟩
  | .int _, d, d', h, h' => by simp [rdX] at h; simp [toD] at h'; subst h; subst h'; exact ⟨rfl, by simp [PyData.hasDict]⟩
  | .str _, d, d', h, h' => by simp [rdX] at h; simp [toD] at h'; subst h; subst h'; exact ⟨rfl, by simp [PyData.hasDict]⟩
  | .tup xs, d, d', h, h' => by
    rw [rdX] at h
    rw [toD] at h'
    obtain ⟨ds, h1, rfl⟩ := Option.map_eq_some_iff.mp h
    obtain ⟨ds', h2, rfl⟩ := Option.map_eq_some_iff.mp h'
    obtain ⟨e1, e2⟩ := rdXL_toDL xs ds ds' h1 h2
    exact ⟨by rw [e1], by simpa [PyData.hasDict] using e2⟩
  | .lst xs, d, d', h, h' => by
    rw [rdX] at h
    rw [toD] at h'
    obtain ⟨ds, h1, rfl⟩ := Option.map_eq_some_iff.mp h
    obtain ⟨ds', h2, rfl⟩ := Option.map_eq_some_iff.mp h'
    obtain ⟨e1, e2⟩ := rdXL_toDL xs ds ds' h1 h2
    exact ⟨by rw [e1], by simpa [PyData.hasDict] using e2⟩
  | .dct _, d, d', h, h' => by simp [toD] at h'
  | .scr _, d, d', h, h' => by simp [rdX] at h
  | .cell _, d, d', h, h' => by simp [rdX] at h
  | .con _, d, d', h, h' => by simp [rdX] at h
  | .fnv _, d, d', h, h' => by simp [rdX] at h
  | .err _ _ _ _, d, d', h, h' => by simp [rdX] at h
  | .prs _, d, d', h, h' => by simp [rdX] at h
theorem rdXL_toDL : ∀ (v : List Val) (d d' : List PyData), rdXL v = some d → toDL v = some d' → d = d' ∧ PyData.hasDictAll d = false
  | [], d, d', h, h' => by simp [rdXL] at h; simp [toDL] at h'; subst h; subst h'; exact ⟨rfl, by simp [PyData.hasDictAll]⟩
  | x :: xs, d, d', h, h' => by
    rw [rdXL] at h
    rw [toDL] at h'
    split at h
    · rename_i a as h1 h2
      split at h'
      · rename_i b bs h3 h4
        cases h
        cases h'
        obtain ⟨e1, e2⟩ := rdX_toD x _ _ h1 h3
        obtain ⟨e3, e4⟩ := rdXL_toDL xs _ _ h2 h4
        exact ⟨by rw [e1, e3], by simp [PyData.hasDictAll, e2, e4]⟩
      · cases h'
    · cases h
end
theorem rpO_of {v : Val} {d : PyData} (h : rdX v = some d) (h1 : d.showable = true) (h2 : d.shown.length ≤ 16777216) (h3 : d.depth ≤ 60) : rpO v = some d.shown := by
  unfold rpO
  cases e : toD v with
  | some d' =>
    obtain ⟨e1, e2⟩ := rdX_toD v d d' h e
    subst e1
    exact if_pos ⟨h1, h2, h3, e2⟩
  | none =>
    simp only [h]
    exact if_pos ⟨h1, h2, h3⟩
theorem Shw.rpO {v : Val} {w dp : Nat} (h : Shw v w dp) (hw : w ≤ 16777216) (hd : dp ≤ 60) : ∃ r, rpO v = some r := by
  obtain ⟨d, a, b, c, e⟩ := h.ex
  exact ⟨_, rpO_of a b (Nat.le_trans c hw) (Nat.le_trans e hd)⟩
theorem Shw.int {i : Int} (h : i.natAbs.log2 < 1920) : Shw (.int i) 1921 0 := by
  refine ⟨.int i, by simp [rdX], by simp [PyData.showable, h], ?_, by simp [PyData.depth]⟩
  rw [PyData.shown]
  exact int_text_len_1921 h
theorem Shw.bl {b : Bool} : Shw (.bl b) 5 0 := by
  refine ⟨.bool b, by simp [rdX], by simp [PyData.showable], ?_, by simp [PyData.depth]⟩
  cases b <;> simp only [PyData.shown] <;> decide +kernel
theorem Shw.non : Shw .non 4 0 := by
  refine ⟨.none, by simp [rdX], by simp [PyData.showable], ?_, by simp [PyData.depth]⟩
  simp only [PyData.shown]; decide +kernel
theorem Shw.str {x : Str} {w : Nat} (h : (reprText x).length ≤ w) : Shw (.str x) w 0 := by
  refine ⟨.str x, by simp [rdX], by simp [PyData.showable], by rw [PyData.shown]; exact h, by simp [PyData.depth]⟩
theorem shwL {w dp : Nat} : ∀ {xs : List Val}, (∀ x ∈ xs, Shw x w dp) → ∃ ds : List PyData, rdXL xs = some ds ∧ PyData.showableAll ds = true ∧ (∀ t ∈ PyData.shownAll ds, t.length ≤ w) ∧ PyData.depthAll ds ≤ dp ∧ ds.length = xs.length
  | [], _ => ⟨[], by simp [rdXL], by simp [PyData.showableAll], by simp [PyData.shownAll], by simp [PyData.depthAll], rfl⟩
  | x :: xs, h => by
    obtain ⟨d, a1, b1, c1, e1⟩ := (h x List.mem_cons_self).ex
    obtain ⟨ds, a2, b2, c2, e2, l2⟩ := shwL fun y hy => h y (List.mem_cons_of_mem _ hy)
    refine ⟨d :: ds, by simp [rdXL, a1, a2], by simp [PyData.showableAll, b1, b2], ?_, by simp [PyData.depthAll]; omega, by simp [l2]⟩
    intro t ht
    rw [PyData.shownAll] at ht
    rcases List.mem_cons.mp ht with rfl | ht
    · exact c1
    · exact c2 t ht
theorem Shw.tup {xs : List Val} {w dp : Nat} (h : ∀ x ∈ xs, Shw x w dp) : Shw (.tup xs) (xs.length * (w + 2) + 3) (dp + 1) := by
  obtain ⟨ds, a, b, c, e, l⟩ := shwL h
  refine ⟨.tuple ds, by simp [rdX, a], by simp [PyData.showable, b], ?_, by simp [PyData.depth, e]⟩
  rw [PyData.shown]
  unfold tupleText
  rw [Str.length_append, Str.length_append]
  have h1 := join_le _ c
  rw [PyData.shownAll_length, l] at h1
  have h2 : (Str.ofString (if (PyData.shownAll ds).length == 1 then (",)" : String) else ")")).length ≤ 2 := by split <;> decide +kernel
  have h3 : (Str.ofString "(").length = 1 := by decide +kernel
  omega
theorem Shw.lst' {xs : List Val} {w dp : Nat} (h : ∀ x ∈ xs, Shw x w dp) : Shw (.lst xs) (xs.length * (w + 2) + 3) (dp + 1) := by
  obtain ⟨ds, a, b, c, e, l⟩ := shwL h
  refine ⟨.list ds, by simp [rdX, a], by simp [PyData.showable, b], ?_, by simp [PyData.depth, e]⟩
  rw [PyData.shown]
  unfold listText
  rw [Str.length_append]
  have h1 := textFrom_le _ 0 (Str.ofString "[") c
  rw [PyData.shownAll_length, l] at h1
  have h2 : (Str.ofString "]").length = 1 := by decide +kernel
  have h3 : (Str.ofString "[").length = 1 := by decide +kernel
  omega
theorem Shw.lst {xs : List Val} {w dp : Nat} (h : ∀ x ∈ xs, Shw x w dp) (hw : xs.length * (w + 2) + 3 ≤ 16777216) (hd : dp + 1 ≤ 60) : ∃ r, G.rpO (.lst xs) = some r := (Shw.lst' h).rpO hw hd
theorem shw_d0 : Shw (.dct []) 100 1 := ⟨.dict [], by simp [rdX, rdXD], by decide +kernel, by decide +kernel, by decide +kernel⟩
theorem op_neXV {S : Sto} {xs : List VV} : sNeX S (eL eV xs) (eL eV ([] : List VV)) = some (.bl (!xs.isEmpty)) := by
  have h0 : (eL eV ([] : List VV)) = .lst [] := rfl
  rw [h0]
  unfold sNeX
  cases xs with
  | nil =>
    have : sNe S (eL eV []) (.lst []) = some (.bl false) := by
      unfold sNe sEqB sEqD eL
      simp only [List.map_nil, dat, datL, Option.map_some]
      rfl
    rw [this]
    rfl
  | cons x xs =>
    cases e : sNe S (eL eV (x :: xs)) (.lst []) with
    | none => rfl
    | some r =>
      dsimp only
      unfold sNe sEqB at e
      simp only [eL] at e
      unfold sEqD at e
      obtain ⟨b, e1, rfl⟩ := Option.map_eq_some_iff.mp e
      split at e1
      · rename_i d d' h1 h2
        simp only [dat, datL, Option.map_some] at h2
        cases h2
        obtain ⟨_, rfl⟩ := ite_some e1
        rw [dat] at h1
        obtain ⟨ds, h3, rfl⟩ := Option.map_eq_some_iff.mp h1
        rw [List.map_cons, datL] at h3
        split at h3
        · cases h3
          simp [PyData.eqv, PyData.eqvAll]
        · cases h3
      · cases e1
end G

set_option Elab.async false
set_option linter.all false
set_option maxRecDepth 100000
set_option maxHeartbeats 4000000
namespace G
open PySem PySem.Spec PyProof.Rows L2
section
variable {B B' : Sto} {cs cs' : List (Nat × Cell)} {S : Sto} {k : Nat} {s s' : Stm} {v : Val} {i : Int}
theorem ix_stm0 (h : S[k]? = some s.cell) : sIx S (.cell k) (.int 0) = some (eL eI s.cells) := ix_seq (seq_cell h) rfl
theorem ix_stm1 (h : S[k]? = some s.cell) : sIx S (.cell k) (.int 1) = some (eI s.pos) := ix_seq (seq_cell h) rfl
theorem ix_stm2 (h : S[k]? = some s.cell) : sIx S (.cell k) (.int 2) = some (eI s.rest) := ix_seq (seq_cell h) rfl
theorem ix_stm3 (h : S[k]? = some s.cell) : sIx S (.cell k) (.int 3) = some (eI s.st) := ix_seq (seq_cell h) rfl
theorem stm_setK (j : Nat) (hc : cs[j]? = some (k, s.cell)) (hk : k < B.length) (h0 : 0 ≤ i) (h4 : i < 4) (hv : s.vals.set i.toNat v = s'.vals) (hB : B.set k s'.cell = B') (hq : cs.set j (k, s'.cell) = cs') : ∀ S, St B S cs → ∃ S', sSetI S (.cell k) (.int i) v = some S' ∧ St B' S' cs' := by
  intro S hS
  refine ⟨S.set k s'.cell, ?_, ?_⟩
  · rw [set_cell (hS.at j hc) h0 (by simp [Stm.vals]; omega), hv]
    rfl
  · rw [← hB, ← hq]
    exact hS.out j hc hk s'.nc
end
end G

set_option Elab.async false
set_option linter.all false
set_option maxRecDepth 100000
set_option maxHeartbeats 4000000
namespace G
open PySem PySem.Spec PyProof.Rows L2
def Stm.kvs (s : Stm) : List (Key × Val) := [(.inr "cells", lI s.cells), (.inr "turn", .int s.pos), (.inr "left", .int s.rest), (.inr "mixed", .int s.st)]
def Stm.cellD (s : Stm) : Cell := .dct s.kvs
theorem Stm.ncD (s : Stm) : ncC s.cellD = true := by simp [Stm.cellD, Stm.kvs, ncC, G.ncD, G.nc, lI, ncL_int]
section
variable {B B' : Sto} {cs cs' : List (Nat × Cell)} {S : Sto} {k : Nat} {s s' : Stm} {v : Val} {x : Str}
end
theorem lpK_go {R σ β : Type} (s : σ) (kr : R → β) (k : σ → Option β) : lpK (.go s) kr k = k s := rfl
end G

set_option Elab.async false
set_option linter.all false
set_option maxRecDepth 100000
set_option maxHeartbeats 4000000
namespace G
open PySem PySem.Spec PyProof.Rows L2
section
variable {B B1 B2 S : Sto} {cs cs1 cs2 : List (Nat × Cell)} {ρ : Ev} {ma mb : ME} {ms : MA} {x v : Val} {xs : List Val} {k j n : Nat} {c c' d d' : Cell}
def isB (j : Nat) (c : Cell) : Prop := ∃ xs, c = .lst xs ∧ .cell j ∈ xs ∧ ∀ x ∈ xs, nc x = true ∨ x = .cell j
theorem ncS.lt (h : ncS S) (hk : S[k]? = some c) (hc : isB j c) : j < k := by
  obtain ⟨xs, rfl, h1, h2⟩ := hc
  rcases h k _ hk with h | ⟨ys, i, e, hi, hy⟩
  · have := ncL_all.mp (show ncL xs = true by simpa [ncC] using h) _ h1
    simp [nc] at this
  · cases e
    rcases hy _ h1 with h | h
    · simp [nc] at h
    · cases h; exact hi
theorem isB.nc (h : isB j c) (hjk : j < k) : ncN k c := by
  obtain ⟨xs, rfl, h1, h2⟩ := h
  exact .inr ⟨xs, j, rfl, hjk, h2⟩
end
structure StB where
  cells : List Int
  rests : List Int
  count : Int
def StB.cellB (s : StB) (j : Nat) : Cell := .lst [lI s.cells, .cell j, .int s.count]
def StB.cellR (s : StB) : Cell := .lst (s.rests.map Val.int)
theorem StB.isB (s : StB) (j : Nat) : isB j (s.cellB j) := ⟨_, rfl, by simp, fun x hx => by
  simp at hx
  rcases hx with rfl | rfl | rfl
  · exact .inl (by simp [nc, lI, ncL_int])
  · exact .inr rfl
  · exact .inl rfl⟩
theorem StB.nc (s : StB) : ncC s.cellR = true := by simp [StB.cellR, ncC, ncL_int]
end G

set_option Elab.async false
set_option linter.all false
set_option maxRecDepth 100000
set_option maxHeartbeats 4000000
namespace G
open PySem PySem.Spec PyProof.Rows L2
section
variable {β : Type}
def eD (en : β → Val) (kvs : List (Int × β)) : Val := .dct (kvs.map fun p => (.inl p.1, en p.2))
theorem ncDct_map (en : β → Val) [NC en] : ∀ kvs : List (Int × β), ncD (kvs.map fun p => ((.inl p.1 : Key), en p.2)) = true
  | [] => rfl
  | p :: ps => by simp [ncD, NC.nc, ncDct_map en ps]
instance (en : β → Val) [NC en] : NC (eD en) := ⟨fun kvs => by simp [nc, eD, ncDct_map]⟩
instance (en : β → Val) : NN (eD en) := ⟨fun _ => rfl⟩
end
section
variable {α β : Type} {enc : α → Val} {en : β → Val} {B B1 : Sto} {cs cs1 : List (Nat × Cell)} {ρ ρw : Ev} {mi : MI} {t : MG} {tk tv : ME} {vs : List Nat} {xs : List α} {g : Gd}
end
section
variable {β : Type}
end
end G

set_option Elab.async false
set_option linter.all false
set_option maxRecDepth 100000
set_option maxHeartbeats 4000000
namespace G
open PySem PySem.Spec PyProof.Rows L2
def PuA {α : Type} (m : Ev → Sto → Res α) (ρ : Ev) (S : Sto) : Prop := ∀ v S', m ρ S = some (.ok v S') → S' = S
theorem Pu.at {α : Type} {m : Ev → Sto → Res α} (h : Pu m) (ρ : Ev) (S : Sto) : PuA m ρ S := fun v S' q => h ρ S v S' q
section
variable {m n k : ME} {s t : MT} {ms : MA} {ρ : Ev} {S : Sto}
end
section
variable {B B1 : Sto} {cs cs1 : List (Nat × Cell)} {ρ ρ' : Ev} {S S1 S2 : Sto} {m n : MS} {fl : Fl} {i j : Nat} {v : Val} {me mo : ME}
end
theorem op_eqXe {α : Type} {e : α → Val} {S : Sto} {xs : List α} : sEqX S (eL e xs) (eL e ([] : List α)) = some (.bl xs.isEmpty) := by
  have h0 : (eL e ([] : List α)) = .lst [] := rfl
  rw [h0]
  unfold sEqX
  cases xs with
  | nil =>
    have : sEq S (eL e []) (.lst []) = some (.bl true) := by
      unfold sEq sEqB sEqD eL
      simp only [List.map_nil, dat, datL, Option.map_some]
      rfl
    rw [this]
    rfl
  | cons x xs =>
    cases e0 : sEq S (eL e (x :: xs)) (.lst []) with
    | none => rfl
    | some r =>
      dsimp only
      unfold sEq sEqB at e0
      simp only [eL] at e0
      unfold sEqD at e0
      obtain ⟨b, e1, rfl⟩ := Option.map_eq_some_iff.mp e0
      split at e1
      · rename_i d d' h1 h2
        simp only [dat, datL, Option.map_some] at h2
        cases h2
        obtain ⟨_, rfl⟩ := ite_some e1
        rw [dat] at h1
        obtain ⟨ds, h3, rfl⟩ := Option.map_eq_some_iff.mp h1
        rw [List.map_cons, datL] at h3
        split at h3
        · cases h3
          simp [PyData.eqv, PyData.eqvAll]
        · cases h3
      · cases e1
end G

set_option Elab.async false
set_option linter.all false
set_option maxRecDepth 100000
set_option maxHeartbeats 4000000
namespace G
open PySem PySem.Spec PyProof.Rows L2
theorem asS_cast {v : VV} {s : List Nat} (h : asS v = some s) : eV v = eS s := by
  rw [asS_some h]
  rfl
end G

set_option Elab.async false
set_option linter.all false
set_option maxRecDepth 100000
set_option maxHeartbeats 4000000
namespace G
open PySem PySem.Spec PyProof.Rows L2
end G

set_option Elab.async false
set_option linter.all false
set_option maxRecDepth 100000
set_option maxHeartbeats 4000000
namespace G
open PySem PySem.Spec PyProof.Rows L2
section
variable {B : Sto} {cs : List (Nat × Cell)}
end
section
variable {ρ : Ev} {S : Sto} {m : ME} {ms : MA}
end
end G

set_option Elab.async false
set_option linter.all false
set_option maxRecDepth 100000
set_option maxHeartbeats 4000000
namespace G
open PySem PySem.Spec PyProof.Rows L2
end G

set_option Elab.async false
set_option linter.all false
set_option maxRecDepth 100000
set_option maxHeartbeats 4000000
namespace G
open PySem PySem.Spec PyProof.Rows L2
section
variable {B B1 : Sto} {cs cs1 : List (Nat × Cell)} {ρ : Ev} {ms : MA}
end
end G

set_option Elab.async false
set_option linter.all false
set_option maxRecDepth 100000
set_option maxHeartbeats 4000000
namespace G
open PySem PySem.Spec PyProof.Rows L2
end G

set_option Elab.async false
set_option linter.all false
set_option maxRecDepth 100000
set_option maxHeartbeats 4000000
namespace G
open PySem PySem.Spec PyProof.Rows L2
end G

set_option Elab.async false
set_option linter.all false
set_option maxRecDepth 100000
set_option maxHeartbeats 4000000
namespace G
open PySem PySem.Spec PyProof.Rows L2
end G

set_option Elab.async false
set_option linter.all false
set_option maxRecDepth 100000
set_option maxHeartbeats 4000000
namespace G
open PySem PySem.Spec PyProof.Rows L2
section
variable {α β γ : Type} {enc : α → Val} {en : β → Val} {encG : γ → Val} {B B1 : Sto} {cs cs1 : List (Nat × Cell)} {ρ ρw : Ev} {mi mi1 : MI} {t t1 : MG} {tt tt1 : MT} {te : ME} {vs vs1 : List Nat} {xs : List α} {g : Gd}
end
section
variable {α β : Type} {enc : α → Val} {en : β → Val} {B B1 : Sto} {cs cs1 : List (Nat × Cell)} {ρ ρw : Ev} {mi mi1 : MI} {t t1 : MG} {te : ME} {vs vs1 : List Nat} {xs : List α} {g : Gd}
end
end G

set_option Elab.async false
set_option linter.all false
set_option maxRecDepth 100000
set_option maxHeartbeats 4000000
namespace G
open PySem PySem.Spec PyProof.Rows L2
end G

set_option Elab.async false
set_option linter.all false
set_option maxRecDepth 100000
set_option maxHeartbeats 4000000
namespace G
open PySem PySem.Spec PyProof.Rows L2
section
variable {B B1 : Sto} {cs cs1 : List (Nat × Cell)} {ρ : Ev} {ma ml ms : ME} {x : Val}
theorem ev_back {α : Type} {e : α → Val} {us : List α} {i : Int} (ha : X B cs ma ρ x B1 cs1) (hx : ∀ S, St B1 S cs1 → seqOf S x = some (false, us.map e)) (hl : X B1 cs1 ml ρ (eI i) B1 cs1) (hs : X B1 cs1 ms ρ (eI (-1)) B1 cs1) : X B cs (mBack ma ml ms) ρ (eL e (bkL us i)) B1 cs1 := by
  intro S hS
  obtain ⟨S1, q1, h1⟩ := ha S hS
  obtain ⟨S2, q2, h2⟩ := hl S1 h1
  obtain ⟨S3, q3, h3⟩ := hs S2 h2
  refine ⟨S3, ?_, h3⟩
  have e1 : sBack S3 x (eI i) (eI (-1)) = some (eL e (bkL us i)) := by
    unfold sBack
    rw [hx S3 h3]
    unfold eI
    dsimp only
    rw [if_pos rfl]
    unfold bkL eL
    rw [List.length_map, List.map_reverse, List.map_take]
  unfold mBack
  rw [q1, bnd_ok, if_pos (by rw [hx S1 h1]; rfl), q2, bnd_ok, if_pos (show isInt (eI i) = true from rfl), q3, bnd_ok, e1]
  rfl
end
end G

set_option Elab.async false
set_option linter.all false
set_option maxRecDepth 100000
set_option maxHeartbeats 4000000
namespace G
open PySem PySem.Spec PyProof.Rows L2
theorem op_minW {S : Sto} {p : Int × Int} : sMinP S [eR eI eI p] = some (eI (min p.1 p.2)) := rfl
theorem op_maxW {S : Sto} {p : Int × Int} : sMaxP S [eR eI eI p] = some (eI (max p.1 p.2)) := rfl
end G

set_option Elab.async false
set_option linter.all false
set_option maxRecDepth 100000
set_option maxHeartbeats 4000000
namespace G
open PySem PySem.Spec PyProof.Rows L2
end G

set_option Elab.async false
set_option linter.all false
set_option maxRecDepth 100000
set_option maxHeartbeats 4000000
namespace G
open PySem PySem.Spec PyProof.Rows L2
section
variable {B B1 B2 : Sto} {cs cs1 cs2 : List (Nat × Cell)} {ρ : Ev} {ms : MA} {ma mb : ME} {P : Fl → Sto → Prop}
theorem it_zipN {α β : Type} {e : α → Val} {f : β → Val} {xs : List α} {ys : List β} (h : X B cs ms ρ [eT e xs, eT f ys] B1 cs1) : X B cs (mZipN ms) ρ ((zpL xs ys).map (eR e f), []) B1 cs1 := by
  intro S hS
  obtain ⟨S1, q1, h1⟩ := h S hS
  refine ⟨S1, ?_, h1⟩
  rw [← zip_map]
  unfold mZipN
  rw [q1]
  rfl
end
end G

set_option Elab.async false
set_option linter.all false
set_option maxRecDepth 100000
set_option maxHeartbeats 4000000
namespace G
open PySem PySem.Spec PyProof.Rows L2
def Mono (f : Int → Int) (xs : List Int) : Prop := ∀ a ∈ xs, ∀ b ∈ xs, a < b → f a < f b
theorem Mono.sub {f : Int → Int} {xs ys : List Int} (h : Mono f xs) (i : ∀ y ∈ ys, y ∈ xs) : Mono f ys := fun a ha b hb hl => h a (i a ha) b (i b hb) hl
theorem Mono.le {f : Int → Int} {xs : List Int} (h : Mono f xs) {a b : Int} (ha : a ∈ xs) (hb : b ∈ xs) : a ≤ b ↔ f a ≤ f b := by
  constructor
  · intro hl
    by_cases e : a = b
    · rw [e]; exact Int.le_refl _
    · exact Int.le_of_lt (h a ha b hb (by omega))
  · intro hl
    by_cases e : b < a
    · have := h b hb a ha e; omega
    · omega
theorem Mono.lt {f : Int → Int} {xs : List Int} (h : Mono f xs) {a b : Int} (ha : a ∈ xs) (hb : b ∈ xs) : a < b ↔ f a < f b := by
  have := h.le hb ha
  omega
theorem Mono.inj {f : Int → Int} {xs : List Int} (h : Mono f xs) {a b : Int} (ha : a ∈ xs) (hb : b ∈ xs) (e : f a = f b) : a = b := by
  have h1 := h.lt ha hb
  have h2 := h.lt hb ha
  omega
theorem fine_S {a : List Nat} {w : Nat} (h : PyData.strOk (tx a) = true) (hl : (reprText (tx a)).length ≤ w) : Fine (eS a) w 0 := by
  refine ⟨.str (tx a), ⟨fun S => by simp [dat, eS], by simp [toD, eS]⟩, by simp [PyData.showable], by rw [PyData.shown]; exact hl, by simp [PyData.depth], by simp [PyData.hasDict], by simp [PyData.canLay0, h]⟩
theorem fine_I {i : Int} (h : i.natAbs < 2 ^ 1900) : Fine (eI i) 1921 0 := Fine.int (Nat.lt_trans (log2_lt_of h (by decide)) (by decide))
def isKey (k : Int) : Bool := decide (0 ≤ k) && decide (k ≤ 1000000000000)
def Fit : List Bool → Nat → Nat → Prop
  | [], n, q => n = 0 ∧ q = 0
  | true :: w, n, q => 0 < n ∧ Fit w (n - 1) (q + 1)
  | false :: w, n, q => 0 < q ∧ Fit w n (q - 1)
theorem Fit.len : ∀ {w : List Bool} {n q : Nat}, Fit w n q → w.length = 2 * n + q
  | [], n, q, h => by obtain ⟨rfl, rfl⟩ := h; rfl
  | true :: w, n, q, h => by have := Fit.len h.2; have := h.1; simp; omega
  | false :: w, n, q, h => by have := Fit.len h.2; have := h.1; simp; omega
theorem KeyL.key {ks : List Int} (h : KeyL ks) : ∀ k ∈ ks, isKey k = true := fun k hk => by
  have := h.bd k hk
  simp [isKey]
  omega
theorem SeqL.key {ks : List Int} (h : SeqL ks) : ∀ k ∈ ks, isKey k = true := fun k hk => by
  have := h.bd k hk
  simp [isKey]
  omega
theorem eq_of_ret {β : Type} {o : Option β} {r : β} (h : Ret o fun b => b = r) : o = some r := by
  obtain ⟨b, e, rfl⟩ := h
  exact e
theorem chS_get {w : List Bool} {j : Nat} {x : List Nat} (h : (chS (wL w))[j]? = some x) : ∃ b, w[j]? = some b ∧ x = [lt b] ∧ w.drop j = b :: w.drop (j + 1) := by
  simp only [chS, wL, List.map_map, List.getElem?_map] at h
  obtain ⟨b, h1, rfl⟩ := Option.map_eq_some_iff.mp h
  obtain ⟨h2, h3⟩ := List.getElem?_eq_some_iff.mp h1
  exact ⟨b, h1, rfl, by rw [← h3, List.getElem_cons_drop]⟩
theorem chS_len (w : List Bool) : (chS (wL w)).length = w.length := by simp [chS]
end G

set_option Elab.async false
set_option linter.all false
set_option maxRecDepth 100000
set_option maxHeartbeats 4000000
namespace G
open PySem PySem.Spec PyProof.Rows L2
end G

set_option Elab.async false
set_option linter.all false
set_option maxRecDepth 100000
set_option maxHeartbeats 4000000
namespace G
open PySem PySem.Spec PyProof.Rows L2
end G

set_option Elab.async false
set_option linter.all false
set_option maxRecDepth 100000
set_option maxHeartbeats 4000000
namespace G
open PySem PySem.Spec PyProof.Rows L2
theorem atI_last {α : Type} (xs : List α) (a : α) : atI (xs ++ [a]) (-1) = some a := by
  have : ixN (xs.length + 1) (-1) = some xs.length := by unfold ixN; simp; omega
  simp [atI, this]
end G

set_option Elab.async false
set_option linter.all false
set_option maxRecDepth 100000
set_option maxHeartbeats 4000000
namespace G
open PySem PySem.Spec PyProof.Rows L2
theorem wL_inj {u v : List Bool} (h : wL u = wL v) : u = v := by
  induction u generalizing v with
  | nil => cases v with
    | nil => rfl
    | cons => simp at h
  | cons b u ih => cases v with
    | nil => simp at h
    | cons c v =>
      simp only [wL, List.map_cons, List.cons.injEq] at h
      rw [lt_inj h.1, ih h.2]
theorem lcO_filter {α : Type} {g : α → Option (Option α)} {p : α → Bool} : ∀ {xs : List α}, (∀ x ∈ xs, g x = some (if p x = true then some x else none)) → lcO g xs = some (xs.filter p)
  | [], _ => rfl
  | x :: xs, h => by
    rw [lcO, h x List.mem_cons_self, Option.bind_some, lcO_filter fun y hy => h y (List.mem_cons_of_mem _ hy)]
    cases hp : p x <;> simp [hp]
end G

set_option Elab.async false
set_option linter.all false
set_option maxRecDepth 100000
set_option maxHeartbeats 4000000
namespace G
open PySem PySem.Spec PyProof.Rows L2
section
variable {α β γ : Type} {e : α → Val} {f : β → Val} {g : γ → Val} [NC e] [NC f] [NC g] {d : Nat}
end
theorem veq_SS (a b : List Nat) : veqO (toV eS a) (toV eS b) = some (decide (a = b)) := by
  have h : veqO (toV eS a) (toV eS b) = some (decide (tx a = tx b)) := sEqB_str [] (tx a) (tx b)
  rw [h]
  congr 1
  rw [decide_eq_decide]
  exact tx_inj
end G

set_option Elab.async false
set_option linter.all false
set_option maxRecDepth 100000
set_option maxHeartbeats 4000000
namespace G
open PySem PySem.Spec PyProof.Rows L2
abbrev N_p_word_error : List Str := ["value", "size", "index", "letter"]
noncomputable def m_p_word_error : MS := sSeq (sIf (mNotT (mTr (mCa sIsi (mCons (mVar 0) (mCons (mC (.con (.ty "str"))) (mNil)))))) (sRet (mTup (mCons (mC .non) (mCons (mC (.str "string")) (mNil))))) (sNil)) (sSeq (sIf (mTB (mO2 cGt (mCa sLen (mCons (mVar 0) (mNil))) (mO2 aMul (mC (.int 2)) (mC (.int 24))))) (sRet (mTup (mCons (mC .non) (mCons (mC (.str "length")) (mNil))))) (sNil)) (sSeq (sSet 1 (mC (.int 0))) (sSeq (sFor (mEnum (mCons (mVar 0) (mNil))) (gT 2 (gsCons (gN 2) (gsCons (gN 3) (gsNil)))) (sSeq (sIf (mTB (mO2 sNotIn (mVar 3) (mTup (mCons (mC (.str "I")) (mCons (mC (.str "R")) (mNil)))))) (sRet (mTup (mCons (mVar 2) (mCons (mC (.str "letter")) (mNil))))) (sNil)) (sSeq (sAug 1 sIadd (mIf (mTB (mO2 sEq (mVar 3) (mC (.str "I")))) (mC (.int 1)) (mO1 sNeg (mC (.int 1))))) (sIf (mTB (mO2 cLt (mVar 1) (mC (.int 0)))) (sRet (mTup (mCons (mVar 2) (mCons (mC (.str "empty")) (mNil))))) (sNil))))) (sRet (mIf (mTB (mO2 sEq (mVar 1) (mC (.int 0)))) (mC .non) (mTup (mCons (mC .non) (mCons (mC (.str "unequal")) (mNil)))))))))
noncomputable def x_p_word_error (value : VV) : Option (Option ((Option Int) × (List Nat))) :=
  (isiO value "str").bind fun r1 =>
  if (!r1) then
    some (some (none, [115, 116, 114, 105, 110, 103]))
  else
    (asS value).bind fun value1 =>
    (szO value1).bind fun z =>
    if (decide ((2 * 24) < (z.length : Int))) then
      some (some (none, [108, 101, 110, 103, 116, 104]))
    else
      (forT (fun (size : Int) ((index, letter) : Int × (List Nat)) =>
        if (!decide (letter ∈ [[73], [82]])) then
          some (.ret (some ((some index), [108, 101, 116, 116, 101, 114])))
        else
          (some (size + (if (decide (letter = [73])) then 1 else (-1)))).bind fun size1 =>
          if (decide (size1 < 0)) then
            some (.ret (some ((some index), [101, 109, 112, 116, 121])))
          else
            some (.go size1)) (enI (chS value1)) (0 : Int)).bind fun (o1 : Lp (Option ((Option Int) × (List Nat))) Int) =>
      lpK o1 id fun (size2 : Int) =>
      some (if (decide (size2 = 0)) then none else (some (none, [117, 110, 101, 113, 117, 97, 108])))
noncomputable def f_p_word_error : Fn := runU N_p_word_error m_p_word_error
theorem tr_p_word_error {S0 : Sto} (hn : ncS S0) {value : VV} {r : Option ((Option Int) × (List Nat))} (h : x_p_word_error value = some r) : f_p_word_error [eV value] S0 = some (.ok ((eO (eP (eO eI) eS)) r) S0) := by
  refine fin_ok (St.start hn) rfl ?_
  show Run S0 [] m_p_word_error [some (eV value), none, none, none] (Fin S0 (eO (eP (eO eI) eS)) r)
  unfold x_p_word_error at h
  unfold m_p_word_error
  refine run_one ?_
  refine run_assoc ?_
  replace h := Option.bind_eq_some_iff.mp h; obtain ⟨r1, q1, h⟩ := h
  refine run_if (!r1) (ev_notT (ev_tr (ev_ca (ev_cons v0 (ev_cons ev_c ev_nil)) fun _ _ => op_isiV q1 (by decide)) fun _ h => tr_bl _ _)) (fun hc => ?_) (fun hc => ?_)
  · rw [ifT hc] at h
    refine run_ret (tupP (e := (eO eI)) (f := eS) (a := none) (b := [115, 116, 114, 105, 110, 103]) (ev_cons ev_c (ev_cons (strc (a := [115, 116, 114, 105, 110, 103]) (by decide +kernel)) ev_nil))) fun _ hS => ?_
    cases h
    exact fin_val rfl hS
  · rw [ifF hc] at h
    replace h := Option.bind_eq_some_iff.mp h; obtain ⟨value1, q2, h⟩ := h
    obtain rfl := asS_some q2
    refine run_env (ρ' := [some (eS value1), none, none, none]) rfl ?_
    refine run_skip ?_
    refine run_assoc ?_
    replace h := Option.bind_eq_some_iff.mp h; obtain ⟨z, q3, h⟩ := h
    refine run_if (decide ((2 * 24) < (z.length : Int))) (ev_tb (ev_o2 (ev_ca (ev_cons v0 ev_nil) fun _ _ => op_lenS q3) (ev_o2 ev_c ev_c fun _ _ => op_mulL (by decide) (by decide)) fun _ h => cmp_int _ _ _ _)) (fun hc => ?_) (fun hc => ?_)
    · rw [ifT hc] at h
      refine run_ret (tupP (e := (eO eI)) (f := eS) (a := none) (b := [108, 101, 110, 103, 116, 104]) (ev_cons ev_c (ev_cons (strc (a := [108, 101, 110, 103, 116, 104]) (by decide +kernel)) ev_nil))) fun _ hS => ?_
      cases h
      exact fin_val rfl hS
    · rw [ifF hc] at h
      refine run_skip ?_
      refine run_assoc ?_
      refine run_set st1 ev_c ?_
      refine run_assoc ?_
      replace h := Option.bind_eq_some_iff.mp h; obtain ⟨o1, ql, h⟩ := h
      refine run_forT (enc := (eR eI eS)) (s := 0) (fun (s : Int) ρ S => ∃ j_2 j_3 : Option Val, ρ = [some (eS value1), some (eI s), j_2, j_3] ∧ St S0 S []) (fun (r : Option ((Option Int) × (List Nat))) fl S => Fin S0 (eO (eP (eO eI) eS)) r fl S) (it_enum (en := eS) (ev_cons v0 ev_nil) fun _ h => items_S) ql (fun S hS => ⟨_, _, rfl, hS⟩) (fun _ _ _ _ => gOk_nil _) ?_ ?_ ?_
      · clear h ql
        rintro size ⟨index, letter⟩ o ρ S ⟨j_2, j_3, rfl, hS⟩ h
        try dsimp only at h hS
        try dsimp only
        refine ⟨_, (tg_p rfl (tg_c (tg_n st2) (tg_c (tg_n st3) tg_z))), Run.go hS (run_one ?_)⟩
        refine run_assoc ?_
        refine run_if (!decide (letter ∈ [[73], [82]])) (ev_tb (ev_o2 v3 (tupT (e := eS) (xs := [[73], [82]]) (ev_cons (strc (a := [73]) (by decide +kernel)) (ev_cons (strc (a := [82]) (by decide +kernel)) ev_nil)) (by simp)) fun _ h => (op_notinS sqT))) (fun hc => ?_) (fun hc => ?_)
        · rw [ifT hc] at h
          refine run_ret (tupP (e := (eO eI)) (f := eS) (a := (some index)) (b := [108, 101, 116, 116, 101, 114]) (ev_cons v2 (ev_cons (strc (a := [108, 101, 116, 116, 101, 114]) (by decide +kernel)) ev_nil))) fun _ hS => ?_
          cases h
          exact ⟨.inl ⟨_, rfl⟩, fin_val rfl hS⟩
        · rw [ifF hc] at h
          refine run_skip ?_
          refine run_assoc ?_
          replace h := Option.bind_eq_some_iff.mp h; obtain ⟨size1, q4, h⟩ := h
          refine run_aug gt1 st1 (ev_ifv (en := eI) (p := 1) (q := (-1)) (ev_tb (ev_o2 v3 (strc (a := [73]) (by decide +kernel)) fun _ h => op_eqS)) ev_c (ev_o1 ev_c fun _ _ => op_neg)) (fun _ _ => (op_iaddI).trans (congrArg (fun z => some (eI z)) (Option.some.inj q4))) ?_
          refine run_if (decide (size1 < 0)) (ev_tb (ev_o2 v1 ev_c fun _ h => cmp_int _ _ _ _)) (fun hc => ?_) (fun hc => ?_)
          · rw [ifT hc] at h
            refine run_ret (tupP (e := (eO eI)) (f := eS) (a := (some index)) (b := [101, 109, 112, 116, 121]) (ev_cons v2 (ev_cons (strc (a := [101, 109, 112, 116, 121]) (by decide +kernel)) ev_nil))) fun _ hS => ?_
            cases h
            exact ⟨.inl ⟨_, rfl⟩, fin_val rfl hS⟩
          · rw [ifF hc] at h
            refine run_skip ?_
            cases h
            exact run_nil fun _ hS => ⟨_, .inl rfl, ⟨_, _, rfl, hS⟩⟩
      · rintro r fl S rfl hxx hF
        cases h
        exact hF
      rintro size2 ρ S rfl ⟨j_2, j_3, rfl, hS⟩
      try rw [lpK_go] at h
      try dsimp only [lpK] at h hS
      try dsimp only
      refine Run.go hS ?_
      refine run_ret (ev_ifv (en := (eO (eP (eO eI) eS))) (p := none) (q := (some (none, [117, 110, 101, 113, 117, 97, 108]))) (ev_tb (ev_o2 v1 ev_c fun _ h => op_eqI)) ev_c (tupP (e := (eO eI)) (f := eS) (a := none) (b := [117, 110, 101, 113, 117, 97, 108]) (ev_cons ev_c (ev_cons (strc (a := [117, 110, 101, 113, 117, 97, 108]) (by decide +kernel)) ev_nil)))) fun _ hS => ?_
      cases h
      exact fin_val rfl hS
abbrev N_p_is_word : List Str := ["value"]
noncomputable def m_p_is_word : MS := sRet (mO2 sIs (mCal 1 f_p_word_error (mCons (mVar 0) (mNil))) (mC .non))
noncomputable def x_p_is_word (value : VV) : Option Bool :=
  (x_p_word_error value).bind fun r1 =>
  some (r1.isNone)
noncomputable def f_p_is_word : Fn := runU N_p_is_word m_p_is_word
theorem tr_p_is_word {S0 : Sto} (hn : ncS S0) {value : VV} {r : Bool} (h : x_p_is_word value = some r) : f_p_is_word [eV value] S0 = some (.ok (eB r) S0) := by
  refine fin_ok (St.start hn) rfl ?_
  show Run S0 [] m_p_is_word [some (eV value)] (Fin S0 eB r)
  unfold x_p_is_word at h
  unfold m_p_is_word
  refine run_one ?_
  replace h := Option.bind_eq_some_iff.mp h; obtain ⟨r1, q1, h⟩ := h
  refine run_ret (ev_o2 (ev_call (ev_cons v0 ev_nil) rfl fun _ hn => tr_p_word_error hn q1) ev_c fun _ h => op_is) fun _ hS => ?_
  cases h
  exact fin_val rfl hS
namespace WE
abbrev Er := Option (Option Int × List Nat)
def sStr : List Nat := [115, 116, 114, 105, 110, 103]
def sLen' : List Nat := [108, 101, 110, 103, 116, 104]
def sLet : List Nat := [108, 101, 116, 116, 101, 114]
def sEmp : List Nat := [101, 109, 112, 116, 121]
def sUne : List Nat := [117, 110, 101, 113, 117, 97, 108]
def stp (c : Nat) : Int := if c = 73 then 1 else -1
def wScan : List Nat → Nat → Int → Er
  | [], _, s => if s = 0 then none else some (none, sUne)
  | c :: cs, i, s => if c ≠ 73 ∧ c ≠ 82 then some (some (i : Int), sLet) else if s + stp c < 0 then some (some (i : Int), sEmp) else wScan cs (i + 1) (s + stp c)
def wErr (z : List Nat) : Er := if 48 < z.length then some (none, sLen') else wScan z 0 0
inductive Jd : VV → Er → Prop where
  | str {z : List Nat} (h : z.length ≤ 1000) : Jd (toV eS z) (wErr z)
  | other {v : VV} {t : String} (h : kindS [] v.1 = some t) (hn : t ≠ "str") : Jd v (some (none, sStr))
theorem isi_S (z : List Nat) : isiO (toV eS z) "str" = some true := rfl
theorem isi_O {v : VV} {t : String} (h : kindS [] v.1 = some t) (hn : t ≠ "str") : isiO v "str" = some false := by
  unfold isiO
  rw [h]
  simp [isiB, hn]
theorem scan_step {z : List Nat} {i c : Nat} {s : Int} (h : z[i]? = some c) : wScan (z.drop i) i s = if c ≠ 73 ∧ c ≠ 82 then some (some (i : Int), sLet) else if s + stp c < 0 then some (some (i : Int), sEmp) else wScan (z.drop (i + 1)) (i + 1) (s + stp c) := by
  obtain ⟨h1, h2⟩ := List.getElem?_eq_some_iff.mp h
  rw [← List.getElem_cons_drop h1, h2, wScan]
theorem word_error_eq {v : VV} {e : Er} (h : Jd v e) : x_p_word_error v = some e := by
  unfold x_p_word_error
  cases h with
  | other h hn => rw [isi_O h hn]; rfl
  | str hz =>
    rename_i z
    rw [isi_S, Option.bind_some]
    simp only [Bool.not_true, Bool.false_eq_true, if_false]
    rw [asS_toV, Option.bind_some, szO_ok (by omega), Option.bind_some]
    unfold wErr
    by_cases c : 48 < z.length
    · rw [if_pos c, if_pos (by simp; omega)]; rfl
    · rw [if_neg c, if_neg (by simp; omega)]
      refine eq_of_ret (ret_for (fun i (s : Int) => 0 ≤ s ∧ wScan z 0 0 = wScan (z.drop i) i s) ⟨by decide, by simp⟩ ?_ ?_)
      · rintro i ⟨j, x⟩ s hx ⟨h0, h1⟩
        obtain ⟨h2, h3⟩ := enI_get hx
        dsimp only at h2 h3 ⊢
        subst h3
        simp only [chS, List.getElem?_map] at h2
        obtain ⟨c, h4, rfl⟩ := Option.map_eq_some_iff.mp h2
        rw [scan_step h4] at h1
        by_cases c1 : c ≠ 73 ∧ c ≠ 82
        · rw [if_pos (by simp [c1]), h1, if_pos c1]
          exact ret_some (.inr ⟨_, rfl, rfl⟩)
        · rw [if_neg (by simp; omega)]
          rw [if_neg c1] at h1
          have hs : (if decide ([c] = [73]) = true then (1 : Int) else -1) = stp c := by simp [stp]
          simp only [hs, Option.bind_some]
          by_cases c2 : s + stp c < 0
          · rw [if_pos (by simpa using c2), h1, if_pos c2]
            exact ret_some (.inr ⟨_, rfl, rfl⟩)
          · rw [if_neg (by simpa using c2)]
            rw [if_neg c2] at h1
            exact ret_some (.inl ⟨_, rfl, by omega, h1⟩)
      · rintro s ⟨h0, h1⟩
        rw [enI_len] at h1
        simp only [chS, List.length_map, List.drop_length] at h1
        rw [h1]
        unfold wScan
        refine ret_some ?_
        by_cases c2 : s = 0
        · simp [c2]
        · simp [c2, sUne]
end WE
open WE
theorem toV_inj_S {a b : List Nat} (h : toV eS a = toV eS b) : a = b := by
  have h1 : eS a = eS b := congrArg (fun v : VV => v.1) h
  unfold eS at h1
  exact tx_inj.mp (Val.str.inj h1)
theorem scan_none : ∀ (z : List Nat) (i : Nat) (s : Int), 0 ≤ s → (wScan z i s = none ↔ ∃ w : List Bool, z = wL w ∧ (∀ k, 0 ≤ s + bal (w.take k)) ∧ s + bal w = 0)
  | [], i, s, hs => by
    unfold wScan
    by_cases c : s = 0
    · rw [if_pos c]
      exact ⟨fun _ => ⟨[], rfl, fun k => by simp [bal]; omega, by simp [bal]; omega⟩, fun _ => rfl⟩
    · rw [if_neg c]
      refine ⟨fun h => (by cases h), ?_⟩
      rintro ⟨w, hw, _, h⟩
      cases w with
      | nil => simp [bal] at h; omega
      | cons b w => simp at hw
  | c :: cs, i, s, hs => by
    unfold wScan
    by_cases c1 : c ≠ 73 ∧ c ≠ 82
    · rw [if_pos c1]
      refine ⟨fun h => (by cases h), ?_⟩
      rintro ⟨w, hw, _⟩
      cases w with
      | nil => simp at hw
      | cons b w =>
        simp only [wL, List.map_cons, List.cons.injEq] at hw
        obtain ⟨h1, h2⟩ := c1
        cases b
        · exact absurd hw.1 h2
        · exact absurd hw.1 h1
    · rw [if_neg c1]
      have hc : c = 73 ∨ c = 82 := by
        rcases Nat.decEq c 73 with h | h
        · rcases Nat.decEq c 82 with h' | h'
          · exact absurd ⟨h, h'⟩ c1
          · exact .inr h'
        · exact .inl h
      obtain ⟨b, hb, hst⟩ : ∃ b : Bool, c = lt b ∧ stp c = bal [b] := by
        rcases hc with rfl | rfl
        · exact ⟨true, rfl, rfl⟩
        · exact ⟨false, rfl, rfl⟩
      have hcons : ∀ w : List Bool, bal (b :: w) = bal [b] + bal w := fun w => by
        have := bal_app [b] w
        simpa using this
      by_cases c2 : s + stp c < 0
      · rw [if_pos c2]
        refine ⟨fun h => (by cases h), ?_⟩
        rintro ⟨w, hw, h2, _⟩
        cases w with
        | nil => simp at hw
        | cons b' w =>
          simp only [wL, List.map_cons, List.cons.injEq] at hw
          have e : b' = b := lt_inj (by rw [← hw.1, hb])
          subst e
          have := h2 1
          simp only [List.take_succ_cons, List.take_zero] at this
          omega
      · rw [if_neg c2, scan_none cs (i + 1) (s + stp c) (by omega)]
        constructor
        · rintro ⟨w, rfl, h2, h3⟩
          refine ⟨b :: w, by simp [hb], fun k => ?_, by rw [hcons]; omega⟩
          cases k with
          | zero => simp [bal]; omega
          | succ k =>
            rw [List.take_succ_cons, hcons]
            have := h2 k
            omega
        · rintro ⟨w, hw, h2, h3⟩
          cases w with
          | nil => simp at hw
          | cons b' w =>
            simp only [wL, List.map_cons, List.cons.injEq] at hw
            have e : b' = b := lt_inj (by rw [← hw.1, hb])
            subst e
            refine ⟨w, hw.2, fun k => ?_, by rw [hcons] at h3; omega⟩
            have := h2 (k + 1)
            rw [List.take_succ_cons, hcons] at this
            omega
def KnW (v : VV) : Prop := (∃ z : List Nat, v = toV eS z ∧ z.length ≤ 1000) ∨ ∃ t, kindS [] v.1 = some t ∧ t ≠ "str"
theorem is_word_ok {v : VV} (h : KnW v) : Ret (x_p_is_word v) fun b => b = true ↔ ∃ w, v = toV eS (wL w) ∧ Dyck w ∧ w.length ≤ 48 := by
  unfold x_p_is_word
  rcases h with ⟨z, rfl, hz⟩ | ⟨t, ht, hn⟩
  · rw [word_error_eq (.str hz), Option.bind_some]
    refine ret_some ?_
    unfold wErr
    by_cases c : 48 < z.length
    · rw [if_pos c]
      refine ⟨fun h => (by cases h), ?_⟩
      rintro ⟨w, hw, _, hl⟩
      have : z = wL w := (toV_inj_S hw)
      rw [this] at c
      simp at c
      omega
    · rw [if_neg c, Option.isNone_iff_eq_none, scan_none z 0 0 (by decide)]
      constructor
      · rintro ⟨w, rfl, h2, h3⟩
        refine ⟨w, rfl, ⟨fun k => by have := h2 k; omega, by omega⟩, by simpa using c⟩
      · rintro ⟨w, hw, hd, hl⟩
        exact ⟨w, toV_inj_S hw, fun k => by have := hd.pos k; omega, by have := hd.fin; omega⟩
  · rw [word_error_eq (.other ht hn), Option.bind_some]
    refine ret_some ⟨fun h => (by cases h), ?_⟩
    rintro ⟨w, rfl, _⟩
    cases ht
    exact absurd rfl hn
end G

set_option Elab.async false
set_option linter.all false
set_option maxRecDepth 100000
set_option maxHeartbeats 4000000
namespace G
open PySem PySem.Spec PyProof.Rows L2
def Kn (v : VV) : Prop := ∃ t, kindS [] v.1 = some t
def keyV (v : VV) : Bool := match v.1 with
  | .int i => isKey i
  | _ => false
def Oi (v : VV) : Prop := Kn v ∧ (Fine v.1 20000 3 ∨ Shw v.1 20000 3)
theorem Oi.rp {v : VV} (h : Oi v) : ∃ r, rpO (eV v) = some r := by
  rcases h.2 with h | h
  · exact h.rpO (by decide) (by decide)
  · exact h.rpO (by decide) (by decide)
def KsL (xs : List Int) : Prop := ∀ k ∈ xs, 0 ≤ k ∧ k ≤ 1000000000000
theorem SeqL.ks {xs : List Int} (h : SeqL xs) : KsL xs := fun k hk => h.bd k hk
theorem KeyL.ks {xs : List Int} (h : KeyL xs) : KsL xs := fun k hk => h.bd k hk
end G

set_option Elab.async false
set_option linter.all false
set_option maxRecDepth 100000
set_option maxHeartbeats 4000000
namespace G
open PySem PySem.Spec PyProof.Rows L2
namespace SE
abbrev Er := Option (Option Int × List Nat)
def zTup : List Nat := [116, 117, 112, 108, 101]
def zLen : List Nat := [108, 101, 110, 103, 116, 104]
def zKey : List Nat := [107, 101, 121]
def zDup : List Nat := [100, 117, 112, 108, 105, 99, 97, 116, 101]
def dupV (x : VV) (seen : List VV) : Bool := inW x.1 (seen.map eV)
def scanK : List VV → List VV → Nat → Er
  | [], _, _ => none
  | x :: t, seen, i => if keyV x = false then some (some (i : Int), zKey) else if dupV x seen = true then some (some (i : Int), zDup) else scanK t (seen ++ [x]) (i + 1)
inductive Jd : VV → Er → Prop where
  | tup {xs : List VV} (h : ∀ x ∈ xs, Kn x) : Jd (toV (eT eV) xs) (if 24 < xs.length then some (none, zLen) else scanK xs [] 0)
  | other {v : VV} {t : String} (h : kindS [] v.1 = some t) (hn : t ≠ "tuple") : Jd v (some (none, zTup))
theorem isi_O {v : VV} {t : String} (h : kindS [] v.1 = some t) (hn : t ≠ "tuple") : isiO v "tuple" = some false := by
  unfold isiO
  rw [h]
  simp [isiB, hn]
theorem scan_step {xs : List VV} {i : Nat} {x : VV} (h : xs[i]? = some x) : scanK (xs.drop i) (xs.take i) i = if keyV x = false then some (some (i : Int), zKey) else if dupV x (xs.take i) = true then some (some (i : Int), zDup) else scanK (xs.drop (i + 1)) (xs.take (i + 1)) (i + 1) := by
  obtain ⟨h1, h2⟩ := List.getElem?_eq_some_iff.mp h
  rw [← List.getElem_cons_drop h1, h2, scanK, ← h2, List.take_append_getElem]
end SE
open SE
def KnS (v : VV) : Prop := (∃ xs : List VV, v = toV (eT eV) xs ∧ ∀ x ∈ xs, Kn x) ∨ ∃ t, kindS [] v.1 = some t ∧ t ≠ "tuple"
theorem toV_inj_T {xs ys : List VV} (h : toV (eT eV) xs = toV (eT eV) ys) : xs = ys := by
  have := congrArg asT h
  rw [asT_toV, asT_toV] at this
  exact Option.some.inj this
end G

set_option Elab.async false
set_option linter.all false
set_option maxRecDepth 100000
set_option maxHeartbeats 4000000
namespace G
open PySem PySem.Spec PyProof.Rows L2
def x_c_stream (ns : List Int) : Stm := ⟨(ns.take 60).map fun i => if i < 0 then -i else i, 0, 0, 0⟩
theorem streamC_ok (ns : List Int) : (x_c_stream ns).Ok := ⟨fun c hc => by
    obtain ⟨i, _, rfl⟩ := List.mem_map.mp hc
    split <;> omega, by simp [x_c_stream], by simp [x_c_stream], by simp [x_c_stream]⟩
abbrev N_c_stream : List Str := ["_law_script", "_law_cell"]
noncomputable def m_c_stream : MS := sRet (mNew (mCons (mLc (mVal (mSl sSlice (mVar 0) mNo (mPart (mC (.int 60))))) (gN 1) (mYes) (mCa sAbs (mCons (mVar 1) (mNil))) [1]) (mCons (mC (.int 0)) (mCons (mC (.int 0)) (mCons (mC (.int 0)) (mNil))))))
def R_c_stream (ds : List Val) (S : Sto) (v : Val) (S' : Sto) : Prop := ∃ ns, ds = [.scr ns] ∧ v = .cell S.length ∧ S' = S ++ [(x_c_stream ns).cell]
noncomputable def f_c_stream : Fn := runK N_c_stream m_c_stream R_c_stream
theorem tr_c_stream {ns : List Int} {S : Sto} (h : ns.length ≤ 63) : f_c_stream [.scr ns] S = some (.ok (.cell S.length) (S ++ [(x_c_stream ns).cell])) := by
  have e0 : startE N_c_stream [.scr ns] = [some (.scr ns), none] := rfl
  have hl : lcL [] (gN 1) mYes (mCa sAbs (mCons (mVar 1) mNil)) [some (.scr ns), none] ((ns.map Val.int).take 60) S [] = some (.ok (((ns.map Val.int).take 60).map fun v => match v with | .int i => .int (if i < 0 then -i else i) | v => v) S) := by
    refine lc_map _ (gOk_nil S) (by simp [sz]; omega) fun x hx => ?_
    obtain ⟨i, _, rfl⟩ := List.mem_map.mp (List.mem_of_mem_take hx)
    refine ⟨[some (.scr ns), some (.int i)], rfl, rfl, ?_⟩
    simp -implicitDefEqProofs only [e_seq, seqK_next, seqK_ret, seqK_brk, seqK_cont, bnd_ok, bndN_ok, bns_ok, pur_some, prs_some, e_var, varK_some, toB_bl, asgK_some, subK_some, e_o2, e_kO2, e_kO2b, e_o1, e_kO1, e_cons, e_kCons, e_kConsb, e_nil, e_c, e_ca, e_kCa, e_cs, e_kCs, e_tb, e_kTB, e_tr, e_kTr, e_andT, e_kAndT, e_orT, e_kOrT, e_notT, e_kNotT, e_if, e_kIf, e_no, e_part, e_kPart, e_sl, e_kSl, e_kSlb, e_kSlc, e_mt, e_kMt, e_kMtb, e_val, e_kVal, e_enum, e_kEnum, e_kEnumb, e_yes, e_call, e_kCal, e_snil, e_brk, e_cont, e_retN, e_expr, e_kExpr, e_ret, e_kRet, e_sif, e_kSIf, e_set, e_kSet, e_par, e_kPar, e_par3, e_kPar3, e_aug, e_kAug, e_kAugb, e_kAugc, e_tup, e_kTup, e_lst, e_kLst, e_new, e_kNew, e_lc, e_kLc, e_kLcb, e_lcC, e_kLcC, e_kLcCb, e_for, e_kFor, e_gN, e_kGs, e_kAsg, e_asg, e_kSubc, e_kSubb, e_kSub, e_sub, e_and, e_or, e_not, e_kAnd, e_kOr, e_kNot, e_chain, e_kCh, e_kChb, e_kChv, e_kChc, and_t, and_f, or_t, or_f, not_b, tr_bl, tr_int, tr_non, neg_int, items_str, e_ms, e_kMs, e_kMx, count_str, mul_int, gT_tup, gT_lst, gs_cons, gs_nil, bind_some, op_int, cmp_int, add_int, iadd_int, some_map, seq_tup, seq_lst, seq_scr, sl_tup, sl_lst, sl_scr, items_tup, items_lst, len_tup, len_lst, len_scr, lst_lst, sz, e_range1, e_range2, range1_ok, range2_ok, p10_6, p10_10, p10_12, p10_18, int_bl, int_int, abs_int, max2_int, min2_int, tuple_tup, tuple_lst, rev_tup, rev_lst, sEq, sNe, sEqB_int, sEqB_str, sEqB_tI, sEqB_lI, List.getElem?_cons_zero, List.getElem?_cons_succ, List.set_cons_zero, List.set_cons_succ, wipeE, List.length_cons, List.length_nil, List.length_map, Nat.zero_add, Nat.reduceAdd, Int.cast_ofNat_Int, Int.reduceLE, Int.reduceLT, Int.reduceToNat, Nat.reduceLT, Nat.reduceLeDiff, Nat.reduceSub, Int.reduceEq, Nat.reduceEqDiff, ↓reduceIte, if_true, Bool.false_eq_true, if_false, ite_true, ite_false, decide_eq_true_eq]
  have hr : m_c_stream (startE N_c_stream [.scr ns]) S = some (.ret (.cell S.length), S ++ [(x_c_stream ns).cell]) := by
    rw [e0]
    unfold m_c_stream
    simp -implicitDefEqProofs only [e_seq, seqK_next, seqK_ret, seqK_brk, seqK_cont, bnd_ok, bndN_ok, bns_ok, pur_some, prs_some, e_var, varK_some, toB_bl, asgK_some, subK_some, e_o2, e_kO2, e_kO2b, e_o1, e_kO1, e_cons, e_kCons, e_kConsb, e_nil, e_c, e_ca, e_kCa, e_cs, e_kCs, e_tb, e_kTB, e_tr, e_kTr, e_andT, e_kAndT, e_orT, e_kOrT, e_notT, e_kNotT, e_if, e_kIf, e_no, e_part, e_kPart, e_sl, e_kSl, e_kSlb, e_kSlc, e_mt, e_kMt, e_kMtb, e_val, e_kVal, e_enum, e_kEnum, e_kEnumb, e_yes, e_call, e_kCal, e_snil, e_brk, e_cont, e_retN, e_expr, e_kExpr, e_ret, e_kRet, e_sif, e_kSIf, e_set, e_kSet, e_par, e_kPar, e_par3, e_kPar3, e_aug, e_kAug, e_kAugb, e_kAugc, e_tup, e_kTup, e_lst, e_kLst, e_new, e_kNew, e_lc, e_kLc, e_kLcb, e_lcC, e_kLcC, e_kLcCb, e_for, e_kFor, e_gN, e_kGs, e_kAsg, e_asg, e_kSubc, e_kSubb, e_kSub, e_sub, e_and, e_or, e_not, e_kAnd, e_kOr, e_kNot, e_chain, e_kCh, e_kChb, e_kChv, e_kChc, and_t, and_f, or_t, or_f, not_b, tr_bl, tr_int, tr_non, neg_int, items_str, e_ms, e_kMs, e_kMx, count_str, mul_int, gT_tup, gT_lst, gs_cons, gs_nil, bind_some, op_int, cmp_int, add_int, iadd_int, some_map, seq_tup, seq_lst, seq_scr, sl_tup, sl_lst, sl_scr, items_tup, items_lst, len_tup, len_lst, len_scr, lst_lst, sz, e_range1, e_range2, range1_ok, range2_ok, p10_6, p10_10, p10_12, p10_18, int_bl, int_int, abs_int, max2_int, min2_int, tuple_tup, tuple_lst, rev_tup, rev_lst, sEq, sNe, sEqB_int, sEqB_str, sEqB_tI, sEqB_lI, List.getElem?_cons_zero, List.getElem?_cons_succ, List.set_cons_zero, List.set_cons_succ, wipeE, List.length_cons, List.length_nil, List.length_map, Nat.zero_add, Nat.reduceAdd, Int.cast_ofNat_Int, Int.reduceLE, Int.reduceLT, Int.reduceToNat, Nat.reduceLT, Nat.reduceLeDiff, Nat.reduceSub, Int.reduceEq, Nat.reduceEqDiff, ↓reduceIte, if_true, Bool.false_eq_true, if_false, ite_true, ite_false, decide_eq_true_eq, cut_to (show (0 : Int) ≤ 60 by decide), Int.reduceToNat, hl]
    simp [x_c_stream, Stm.cell, Stm.vals, lI, Function.comp_def, List.map_take]
  obtain ⟨v, S1, e1, ns', q1, q2, q3⟩ := runK_ok (R := R_c_stream) (runs_same hr) ⟨_, rfl, rfl, rfl⟩
  cases q1
  subst q2
  subst q3
  exact e1
def strC (ns : List Int) : Option Stm := if ns.length ≤ 63 then some (x_c_stream ns) else none
structure CS (c : Int) (s : Stm) : Prop where
  ok : s.Ok
  le : s.st ≤ c
  len : s.cells.length ≤ 60
theorem CS.mono {c d : Int} {s : Stm} (h : CS c s) (hl : c ≤ d) : CS d s := ⟨h.ok, by have := h.le; omega, h.len⟩
theorem strC_ok {ns : List Int} (h : ns.length ≤ 63) : ∃ s, strC ns = some s ∧ CS 0 s := ⟨_, if_pos h, streamC_ok ns, by simp [x_c_stream], by simp [x_c_stream]; omega⟩
theorem run_streamC {B B1 : Sto} {cs cs1 : List (Nat × Cell)} {ρ : Ev} {ma : ME} {n : MS} {P : Fl → Sto → Prop} {i : Nat} {ns : List Int} {s : Stm} (hs : strC ns = some s) (he : X B cs ma ρ (.scr ns) B1 cs1) (h : ∀ k ρ', B1.length ≤ k → ρ.set i (some (.cell k)) = ρ' → Run B1 ((k, s.cell) :: cs1) n ρ' P) : Run B cs (sSeq (sSet i (mCal 1 f_c_stream (mCons ma mNil))) n) ρ P := by
  intro S hS
  unfold strC at hs
  split at hs
  · rename_i hl
    cases hs
    obtain ⟨S1, q1, h1⟩ := he S hS
    obtain ⟨fl, S2, q2, q3⟩ := h S1.length _ h1.le rfl _ (h1.new (x_c_stream ns).cell (Stm.nc _))
    refine ⟨fl, S2, ?_, q3⟩
    rw [e_seq, e_set, e_call, e_cons, q1, bnd_ok, e_kCons, e_nil, bnd_ok, e_kConsb, bnd_ok, e_kCal, if_pos (show [Val.scr ns].length = 1 from rfl), tr_c_stream hl, bns_ok, e_kSet, seqK_next]
    exact q2
  · cases hs
def rowW : List Bool → Int → List Int
  | [], _ => []
  | true :: w, c => rowW w (c + 1)
  | false :: w, c => c :: rowW w c
def wordR : List Int → Int → List Bool
  | [], _ => []
  | r :: rs, c => List.replicate (r - c).toNat true ++ (false :: wordR rs r)
theorem rowW_app : ∀ (u v : List Bool) (c : Int), rowW (u ++ v) c = rowW u c ++ rowW v (c + u.count true)
  | [], v, c => by simp [rowW]
  | true :: u, v, c => by
    rw [List.cons_append, rowW, rowW, rowW_app u v]
    simp
    congr 1
    omega
  | false :: u, v, c => by
    rw [List.cons_append, rowW, rowW, rowW_app u v]
    simp
theorem rowW_rep (k : Nat) (w : List Bool) (c : Int) : rowW (List.replicate k true ++ w) c = rowW w (c + k) := by
  induction k generalizing c with
  | zero => simp
  | succ k ih =>
    rw [List.replicate_succ, List.cons_append, rowW, ih]
    congr 1
    omega
theorem rowW_len : ∀ (w : List Bool) (c : Int), (rowW w c).length = w.count false
  | [], c => by simp [rowW]
  | true :: w, c => by rw [rowW, rowW_len w]; simp
  | false :: w, c => by rw [rowW, List.length_cons, rowW_len w]; simp
theorem rowW_mem : ∀ (w : List Bool) (c : Int), ∀ x ∈ rowW w c, c ≤ x ∧ x ≤ c + w.count true
  | [], c, x, h => by simp [rowW] at h
  | true :: w, c, x, h => by
    rw [rowW] at h
    have := rowW_mem w (c + 1) x h
    simp
    omega
  | false :: w, c, x, h => by
    rw [rowW] at h
    rcases List.mem_cons.mp h with rfl | h
    · exact ⟨by omega, by omega⟩
    · have := rowW_mem w c x h
      simp
      omega
def Up : List Int → Int → Prop
  | [], _ => True
  | r :: rs, c => c ≤ r ∧ Up rs r
theorem rowW_up : ∀ (w : List Bool) (c : Int), Up (rowW w c) c
  | [], c => trivial
  | true :: w, c => by
    rw [rowW]
    have := rowW_up w (c + 1)
    cases h : rowW w (c + 1) with
    | nil => exact trivial
    | cons r rs =>
      rw [h] at this
      exact ⟨by have := this.1; omega, this.2⟩
  | false :: w, c => ⟨Int.le_refl _, rowW_up w c⟩
theorem row_word_row : ∀ {rs : List Int} {c : Int}, Up rs c → rowW (wordR rs c) c = rs
  | [], c, _ => rfl
  | r :: rs, c, h => by
    rw [wordR, rowW_rep, rowW, show c + ((r - c).toNat : Int) = r by have := h.1; omega, row_word_row h.2]
theorem word_row_word : ∀ {w : List Bool} {c d : Int}, (w = [] ∨ w.getLast? = some false) → d ≤ c → wordR (rowW w c) d = if w = [] then [] else List.replicate (c - d).toNat true ++ w
  | [], c, d, _, _ => rfl
  | true :: w, c, d, h, hd => by
    have hw : w ≠ [] ∧ w.getLast? = some false := by
      rcases h with h | h
      · cases h
      · cases w with
        | nil => simp at h
        | cons x w => exact ⟨by simp, by simpa using h⟩
    rw [rowW, word_row_word (.inr hw.2) (by omega), if_neg hw.1, if_neg (by simp)]
    rw [show (c + 1 - d).toNat = (c - d).toNat + 1 by omega, List.replicate_succ', List.append_assoc]
    rfl
  | false :: w, c, d, h, hd => by
    have hw : w = [] ∨ w.getLast? = some false := by
      rcases h with h | h
      · cases h
      · cases w with
        | nil => exact .inl rfl
        | cons x w => exact .inr (by simpa using h)
    rw [rowW, wordR, word_row_word hw (Int.le_refl c)]
    have e1 : (if w = [] then [] else List.replicate (c - c).toNat true ++ w) = w := by
      by_cases e : w = []
      · rw [if_pos e, e]
      · rw [if_neg e, show (c - c).toNat = 0 by omega]; rfl
    rw [e1, if_neg (by simp)]
theorem dyck_last {w : List Bool} (h : Dyck w) : w = [] ∨ w.getLast? = some false := by
  rcases List.eq_nil_or_concat w with rfl | ⟨v, b, rfl⟩
  · exact .inl rfl
  · refine .inr ?_
    cases b with
    | false => simp
    | true =>
      have h1 := h.fin
      have h2 := h.pos v.length
      rw [List.concat_eq_append] at h1 h2
      rw [List.take_left, bal_app] at *
      simp [bal] at h1
      omega
theorem wordR_count : ∀ (rs : List Int) (c : Int), (wordR rs c).count false = rs.length
  | [], c => by simp [wordR]
  | r :: rs, c => by
    rw [wordR, List.count_append, List.count_cons_self, wordR_count rs r, List.count_eq_zero.mpr (by simp), List.length_cons]
    omega
def IsRow (rs : List Int) : Prop := ∀ (i : Nat) (h : i < rs.length), (i : Int) + 1 ≤ rs[i] ∧ rs[i] ≤ rs.length ∧ ∀ h0 : 0 < i, rs[i - 1]'(by omega) ≤ rs[i]
theorem up_of : ∀ {rs : List Int} {c : Int}, (∀ h : 0 < rs.length, c ≤ rs[0]) → (∀ (i : Nat) (h : i + 1 < rs.length), rs[i]'(by omega) ≤ rs[i + 1]) → Up rs c
  | [], c, _, _ => trivial
  | r :: rs, c, h0, h => ⟨h0 (Nat.zero_lt_succ _), up_of (fun hl => by have := h 0 (by simpa using hl); simpa using this) fun i hi => by have := h (i + 1) (by simpa using hi); simpa using this⟩
theorem IsRow.up {rs : List Int} (h : IsRow rs) : Up rs 0 := up_of (fun hl => by have := (h 0 hl).1; omega) fun i hi => by simpa using (h (i + 1) hi).2.2 (by omega)
theorem up_adj : ∀ {rs : List Int} {c : Int}, Up rs c → ∀ (i : Nat) (h : i + 1 < rs.length), rs[i]'(by omega) ≤ rs[i + 1]
  | [], c, _, i, h => by simp at h
  | [r], c, _, i, h => by simp at h
  | r :: r2 :: rs, c, hu, i, h => by
    cases i with
    | zero => simpa using hu.2.1
    | succ i =>
      have := up_adj hu.2 i (by simpa using h)
      simpa using this
theorem rowW_ge : ∀ (w : List Bool) (c d : Int), (∀ k, 0 ≤ c - d + bal (w.take k)) → ∀ (i : Nat) (x : Int), (rowW w c)[i]? = some x → d + (i : Int) + 1 ≤ x
  | [], c, d, _, i, x, h => by simp [rowW] at h
  | true :: w, c, d, hp, i, x, h => by
    rw [rowW] at h
    exact rowW_ge w (c + 1) d (fun k => by have := hp (k + 1); simp [bal] at this; omega) i x h
  | false :: w, c, d, hp, i, x, h => by
    have h1 := hp 1
    simp [bal] at h1
    rw [rowW] at h
    cases i with
    | zero =>
      simp at h
      omega
    | succ i =>
      have := rowW_ge w c (d + 1) (fun k => by have := hp (k + 1); simp [bal] at this; omega) i x (by simpa using h)
      omega
theorem dyck_row {w : List Bool} {n : Nat} (h : Dyck w) (hl : w.length = 2 * n) : IsRow (rowW w 0) ∧ (rowW w 0).length = n := by
  have h1 := bal_count w
  have h2 := count_len w
  have h3 := h.fin
  have h4 := rowW_len w 0
  refine ⟨fun i hi => ⟨?_, ?_, fun h0 => ?_⟩, by omega⟩
  · have := rowW_ge w 0 0 (fun k => by have := h.pos k; omega) i _ (List.getElem?_eq_getElem hi)
    omega
  · have := (rowW_mem w 0 _ (List.getElem_mem hi)).2
    omega
  · have := up_adj (rowW_up w 0) (i - 1) (by omega)
    simpa [show i - 1 + 1 = i by omega] using this
theorem dyck_word {w : List Bool} (h : Dyck w) : wordR (rowW w 0) 0 = w := by
  rw [word_row_word (dyck_last h) (Int.le_refl 0)]
  split
  · rename_i e; rw [e]
  · simp
theorem isRow_le {rs : List Int} (h : IsRow rs) : ∀ r ∈ rs, 0 ≤ r ∧ r ≤ rs.length := fun r hr => by
  obtain ⟨i, hi, rfl⟩ := List.getElem_of_mem hr
  have := h i hi
  omega
theorem wL_count73 (w : List Bool) : (wL w).count 73 = w.count true := by
  induction w with
  | nil => rfl
  | cons b w ih => cases b <;> simp_all [wL, List.count_cons]
end G

set_option Elab.async false
set_option linter.all false
set_option maxRecDepth 100000
set_option maxHeartbeats 4000000
namespace G
open PySem PySem.Spec PyProof.Rows L2
structure BS (c : Int) (s : StB) : Prop where
  cells : ∀ x ∈ s.cells, 0 ≤ x
  ne : s.cells ≠ []
  len : s.cells.length ≤ 64
  rl : s.rests.length = s.cells.length
  rests : ∀ x ∈ s.rests, 0 ≤ x
  pos : 0 ≤ s.count
  le : s.count ≤ c
theorem BS.mono {c d : Int} {s : StB} (h : BS c s) (hl : c ≤ d) : BS d s := ⟨h.cells, h.ne, h.len, h.rl, h.rests, h.pos, by have := h.le; omega⟩
end G

set_option Elab.async false
set_option linter.all false
set_option maxRecDepth 100000
set_option maxHeartbeats 4000000
namespace G
open PySem PySem.Spec PyProof.Rows L2
end G

set_option Elab.async false
set_option linter.all false
set_option maxRecDepth 100000
set_option maxHeartbeats 4000000
namespace G
open PySem PySem.Spec PyProof.Rows L2
def hi (src out : List Int) : Nat → Nat
  | 0 => 0
  | j + 1 => max (hi src out j) (src.idxOf (out.getD j 0) + 1)
section
variable {src out : List Int}
end
end G

set_option Elab.async false
set_option linter.all false
set_option maxRecDepth 100000
set_option maxHeartbeats 4000000
namespace G
open PySem PySem.Spec PyProof.Rows L2
end G

set_option Elab.async false
set_option linter.all false
set_option maxRecDepth 100000
set_option maxHeartbeats 4000000
namespace G
open PySem PySem.Spec PyProof.Rows L2
end G

set_option Elab.async false
set_option linter.all false
set_option maxRecDepth 100000
set_option maxHeartbeats 4000000
namespace G
open PySem PySem.Spec PyProof.Rows L2
section
variable {α β κ σ : Type}
end
def ob2 (src out : List Int) (a b : Int) : Bool := decide (src.idxOf a < src.idxOf b) && decide (out.idxOf b < out.idxOf a)
def ob3 (src out : List Int) (a b c : Int) : Bool := (decide (src.idxOf c < src.idxOf b) && decide (src.idxOf b < src.idxOf a)) && (decide (out.idxOf a < out.idxOf c) && decide (out.idxOf c < out.idxOf b))
inductive IsOb (src out : List Int) : List Int → Prop where
  | two {a b : Int} : a ∈ src → b ∈ src → a < b → ob2 src out a b = true → IsOb src out [a, b]
  | three {a b c : Int} : a ∈ src → b ∈ src → c ∈ src → a < b → b < c → ob3 src out a b c = true → IsOb src out [a, b, c]
theorem IsOb.ne {src out t : List Int} (h : IsOb src out t) : t ≠ [] := by cases h <;> simp
section
variable {src out : List Int}
end
end G

set_option Elab.async false
set_option linter.all false
set_option maxRecDepth 100000
set_option maxHeartbeats 4000000
namespace G
open PySem PySem.Spec PyProof.Rows L2
section
variable {src out ks : List Int}
abbrev rI (a : Int) (n : Nat) : List Int := (List.range n).map fun (i : Nat) => a + (i : Int)
end
end G

set_option Elab.async false
set_option linter.all false
set_option maxRecDepth 100000
set_option maxHeartbeats 4000000
namespace G
open PySem PySem.Spec PyProof.Rows L2
section
variable {src out : List Int}
theorem IsOb.len {t : List Int} (h : IsOb src out t) : t.length = 2 ∨ t.length = 3 := by cases h <;> simp
theorem IsOb.sub {t : List Int} (h : IsOb src out t) : ∀ k ∈ t, k ∈ src := by
  cases h with
  | two h1 h2 _ _ =>
    intro k hk
    simp at hk
    rcases hk with rfl | rfl <;> assumption
  | three h1 h2 h3 _ _ _ =>
    intro k hk
    simp at hk
    rcases hk with rfl | rfl | rfl <;> assumption
end
end G

set_option Elab.async false
set_option linter.all false
set_option maxRecDepth 100000
set_option maxHeartbeats 4000000
namespace G
open PySem PySem.Spec PyProof.Rows L2
end G

set_option Elab.async false
set_option linter.all false
set_option maxRecDepth 100000
set_option maxHeartbeats 4000000
namespace G
open PySem PySem.Spec PyProof.Rows L2
section
variable {src out : List Int}
end
end G

set_option Elab.async false
set_option linter.all false
set_option maxRecDepth 100000
set_option maxHeartbeats 4000000
namespace G
open PySem PySem.Spec PyProof.Rows L2
abbrev N_p_word_row : List Str := ["word", "row", "inserted", "letter"]
noncomputable def m_p_word_row : MS := sSeq (sPar 1 2 (mCons (mNew (mNil)) (mCons (mC (.int 0)) (mNil)))) (sSeq (sFor (mVal (mVar 0)) (gN 3) (sIf (mTB (mO2 sEq (mVar 3) (mC (.str "I")))) (sAug 2 sIadd (mC (.int 1))) (sExpr (mMt sAppend (mVar 1) (mCons (mVar 2) (mNil)))))) (sRet (mCa sTupleX (mCons (mVar 1) (mNil)))))
noncomputable def x_p_word_row (word : List Nat) : Option (List Int) :=
  (foldO (fun ((inserted, row) : Int × (List Int)) (letter : List Nat) =>
    if (decide (letter = [73])) then
      some ((inserted + 1), row)
    else
      (szO (row ++ [inserted])).bind fun row1 =>
      some (inserted, row1)) (chS word) ((0, []) : Int × (List Int))).bind fun (inserted1, row2) =>
  some row2
noncomputable def f_p_word_row : Fn := runU N_p_word_row m_p_word_row
theorem tr_p_word_row {S0 : Sto} (hn : ncS S0) {word : List Nat} {r : List Int} (h : x_p_word_row word = some r) : f_p_word_row [eS word] S0 = some (.ok ((eT eI) r) S0) := by
  refine fin_ok (St.start hn) rfl ?_
  show Run S0 [] m_p_word_row [some (eS word), none, none, none] (Fin S0 (eT eI) r)
  unfold x_p_word_row at h
  unfold m_p_word_row
  refine run_one ?_
  refine run_assoc ?_
  refine run_parY (yc_new (us := []) (en := eI) ev_nil (by simp) fun k_row hk_k_row => (yc_val ev_c yc_nil)) ?_
  rintro vs S ⟨k_row, ws, hk_k_row, rfl, ws, rfl, rfl, hS⟩
  refine ⟨_, _, _, rfl, (sset2 st1 st2), Run.go hS ?_⟩
  refine run_assoc ?_
  replace h := Option.bind_eq_some_iff.mp h; obtain ⟨⟨inserted1, row2⟩, ql, h⟩ := h
  try dsimp only at h
  refine run_fold (enc := eS) (s := (0, [])) (fun (s : Int × (List Int)) ρ S => ∃ j_3 : Option Val, ρ = [some (eS word), some (.cell k_row), some (eI s.1), j_3] ∧ St S0 S [(k_row, .lst (s.2.map eI))]) (it_val v0 fun _ h => items_S) ql (fun S hS => ⟨_, rfl, hS⟩) (fun _ _ _ _ => gOk_nil _) ?_ ?_
  · clear h ql
    rintro ⟨inserted, row⟩ letter s' ρ S ⟨j_3, rfl, hS⟩ h
    try dsimp only at h hS
    try dsimp only
    refine ⟨_, (tg_n st3), Run.go hS (run_one ?_)⟩
    refine run_if (decide (letter = [73])) (ev_tb (ev_o2 v3 (strc (a := [73]) (by decide +kernel)) fun _ h => op_eqS)) (fun hc => ?_) (fun hc => ?_)
    · rw [ifT hc] at h
      refine run_aug gt2 st2 ev_c (fun _ _ => op_iaddI) ?_
      cases h
      exact run_nil fun _ hS => turn_next ⟨_, rfl, hS⟩
    · rw [ifF hc] at h
      replace h := Option.bind_eq_some_iff.mp h; obtain ⟨row1, q1, h⟩ := h
      refine run_expr (ev_mt v1 (fun _ h => isl (lsC (h.at 0 gt0))) (ev_cons v2 ev_nil) (mt_append (a := inserted) 0 gt0 hk_k_row q1 st0)) ?_
      cases h
      exact run_nil fun _ hS => turn_next ⟨_, rfl, hS⟩
  rintro ρ S ⟨j_3, rfl, hS⟩
  try dsimp only at hS
  try dsimp only
  refine Run.go hS ?_
  refine run_ret (ev_ca (ev_cons v1 ev_nil) fun _ h => op_tupleX (sqC (h.at 0 gt0))) fun _ hS => ?_
  cases h
  exact fin_val rfl hS
abbrev N_p_word_of_row : List Str := ["row", "word", "inserted", "item"]
noncomputable def m_p_word_of_row : MS := sSeq (sAsg (gT 2 (gsCons (gN 1) (gsCons (gN 2) (gsNil)))) (mTup (mCons (mC (.str "")) (mCons (mC (.int 0)) (mNil))))) (sSeq (sFor (mVal (mVar 0)) (gN 3) (sSeq (sAug 1 sIadd (mO2 sAdd (mO2 sMul (mC (.str "I")) (mO2 aSub (mVar 3) (mVar 2))) (mC (.str "R")))) (sSet 2 (mVar 3)))) (sRet (mVar 1)))
noncomputable def x_p_word_of_row (row : List Int) : Option (List Nat) :=
  (foldO (fun ((word, inserted) : (List Nat) × Int) (item : Int) =>
    (repO [73] (item - inserted)).bind fun r1 =>
    (szO (r1 ++ [82])).bind fun r2 =>
    (szO (word ++ r2)).bind fun word1 =>
    some (word1, item)) row (([], 0) : (List Nat) × Int)).bind fun (word2, inserted1) =>
  some word2
noncomputable def f_p_word_of_row : Fn := runU N_p_word_of_row m_p_word_of_row
theorem tr_p_word_of_row {S0 : Sto} (hn : ncS S0) {row : List Int} {r : List Nat} (h : x_p_word_of_row row = some r) : f_p_word_of_row [(eT eI) row] S0 = some (.ok (eS r) S0) := by
  refine fin_ok (St.start hn) rfl ?_
  show Run S0 [] m_p_word_of_row [some ((eT eI) row), none, none, none] (Fin S0 eS r)
  unfold x_p_word_of_row at h
  unfold m_p_word_of_row
  refine run_one ?_
  refine run_assoc ?_
  refine run_asg (ev_tup (ev_cons (strc (a := []) (by decide +kernel)) (ev_cons ev_c ev_nil)) (by simp)) (fun _ _ => tg_t rfl (tg_c (tg_n st1) (tg_c (tg_n st2) tg_z))) ?_
  refine run_assoc ?_
  replace h := Option.bind_eq_some_iff.mp h; obtain ⟨⟨word2, inserted1⟩, ql, h⟩ := h
  try dsimp only at h
  refine run_fold (enc := eI) (s := ([], 0)) (fun (s : (List Nat) × Int) ρ S => ∃ j_3 : Option Val, ρ = [some ((eT eI) row), some (eS s.1), some (eI s.2), j_3] ∧ St S0 S []) (it_val v0 fun _ h => items_T) ql (fun S hS => ⟨_, rfl, hS⟩) (fun _ _ _ _ => gOk_nil _) ?_ ?_
  · clear h ql
    rintro ⟨word, inserted⟩ item s' ρ S ⟨j_3, rfl, hS⟩ h
    try dsimp only at h hS
    try dsimp only
    refine ⟨_, (tg_n st3), Run.go hS (run_one ?_)⟩
    refine run_assoc ?_
    replace h := Option.bind_eq_some_iff.mp h; obtain ⟨r1, q1, h⟩ := h
    replace h := Option.bind_eq_some_iff.mp h; obtain ⟨r2, q2, h⟩ := h
    replace h := Option.bind_eq_some_iff.mp h; obtain ⟨word1, q3, h⟩ := h
    refine run_aug gt1 st1 (ev_o2 (ev_o2 (strc (a := [73]) (by decide +kernel)) (ev_o2 v3 v2 fun _ _ => op_sub) fun _ _ => op_repS q1) (strc (a := [82]) (by decide +kernel)) fun _ _ => op_addS q2) (fun _ _ => op_iaddS q3) ?_
    refine run_set st2 v3 ?_
    cases h
    exact run_nil fun _ hS => turn_next ⟨_, rfl, hS⟩
  rintro ρ S ⟨j_3, rfl, hS⟩
  try dsimp only at hS
  try dsimp only
  refine Run.go hS ?_
  refine run_ret v1 fun _ hS => ?_
  cases h
  exact fin_val rfl hS
abbrev N_c_all_words : List Str := ["_law_count", "_law_found", "_law_turn", "_law_longer", "_law_word", "_law_inserted"]
noncomputable def m_c_all_words : MS := sSeq (sSet 1 (mNew (mCons (mC (.str "")) (mNil)))) (sSeq (sFor (mRange1 (mCons (mO2 aMul (mC (.int 2)) (mVar 0)) (mNil))) (gN 2) (sSeq (sSet 3 (mNew (mNil))) (sSeq (sFor (mVal (mVar 1)) (gN 4) (sSeq (sSet 5 (mMs sCountS (mVar 4) (mCons (mC (.str "I")) (mNil)))) (sSeq (sIf (mTB (mO2 cLt (mVar 5) (mVar 0))) (sExpr (mMt sAppend (mVar 3) (mCons (mO2 sAdd (mVar 4) (mC (.str "I"))) (mNil)))) (sNil)) (sIf (mTB (mO2 cGt (mO2 aMul (mC (.int 2)) (mVar 5)) (mVar 2))) (sExpr (mMt sAppend (mVar 3) (mCons (mO2 sAdd (mVar 4) (mC (.str "R"))) (mNil)))) (sNil))))) (sSet 1 (mVar 3))))) (sRet (mVar 1)))
noncomputable def x_c_all_words (count : Int) : Option (List (List Nat)) :=
  (rngO 0 (2 * count)).bind fun rg =>
  (foldO (fun (found : List (List Nat)) (turn : Int) =>
    (foldO (fun (longer : List (List Nat)) (word : List Nat) =>
      (if (decide ((word.count 73 : Int) < count)) then
        (szO (word ++ [73])).bind fun r1 =>
        (szO (longer ++ [r1])).bind fun longer1 =>
        some longer1
      else
        some longer).bind fun longer2 =>
      if (decide (turn < (2 * (word.count 73 : Int)))) then
        (szO (word ++ [82])).bind fun r2 =>
        (szO (longer2 ++ [r2])).bind fun longer3 =>
        some longer3
      else
        some longer2) found ([] : List (List Nat))).bind fun longer4 =>
    some longer4) rg ([[]] : List (List Nat))).bind fun found1 =>
  some found1
noncomputable def f_c_all_words : Fn := runU N_c_all_words m_c_all_words
theorem tr_c_all_words {S0 : Sto} (hn : ncS S0) {count : Int} {r : List (List Nat)} (h : x_c_all_words count = some r) : f_c_all_words [eI count] S0 = some (.ok ((eL eS) r) S0) := by
  refine fin_ok (St.start hn) rfl ?_
  show Run S0 [] m_c_all_words [some (eI count), none, none, none, none, none] (Fin S0 (eL eS) r)
  unfold x_c_all_words at h
  unfold m_c_all_words
  refine run_one ?_
  refine run_assoc ?_
  refine run_new (xs := [[]]) (en := eS) (ev_cons (strc (a := []) (by decide +kernel)) ev_nil) (by simp) fun k_found ρ_ hk_k_found hρ => ?_
  obtain rfl := st1.symm.trans hρ
  refine run_assoc ?_
  replace h := Option.bind_eq_some_iff.mp h; obtain ⟨rg, q1, h⟩ := h
  replace h := Option.bind_eq_some_iff.mp h; obtain ⟨found1, ql1, h⟩ := h
  try dsimp only at h
  refine run_fold (enc := eI) (s := [[]]) (fun (s : List (List Nat)) ρ S => ∃ k_found1 : Nat, S0.length ≤ k_found1 ∧ ∃ j_2 j_3 j_4 j_5 : Option Val, ρ = [some (eI count), some (.cell k_found1), j_2, j_3, j_4, j_5] ∧ St S0 S [(k_found1, .lst (s.map eS))]) (it_range1 (ev_cons (ev_o2 ev_c v0 fun _ _ => op_mulL (by decide) (by decide)) ev_nil) q1) ql1 (fun S hS => ⟨k_found, hk_k_found, _, _, _, _, rfl, hS⟩) (fun _ _ _ _ => gOk_nil _) ?_ ?_
  · clear h ql1
    rintro found turn s' ρ S ⟨k_found1, hk_k_found1, j_2, j_3, j_4, j_5, rfl, hS⟩ h
    try dsimp only at h hS
    try dsimp only
    refine ⟨_, (tg_n st2), Run.go hS (run_one ?_)⟩
    refine run_assoc ?_
    refine run_new (xs := []) (en := eS) ev_nil (by simp) fun k_longer ρ_ hk_k_longer hρ => ?_
    obtain rfl := st3.symm.trans hρ
    refine run_assoc ?_
    replace h := Option.bind_eq_some_iff.mp h; obtain ⟨longer4, ql, h⟩ := h
    try dsimp only at h
    refine run_fold (enc := eS) (s := []) (fun (s : List (List Nat)) ρ S => ∃ j_4 j_5 : Option Val, ρ = [some (eI count), some (.cell k_found1), some (eI turn), some (.cell k_longer), j_4, j_5] ∧ St S0 S [(k_longer, .lst (s.map eS)), (k_found1, .lst (found.map eS))]) (it_val v1 fun _ h => items_C (h.at 1 gt1)) ql (fun S hS => ⟨_, _, rfl, hS⟩) (by rintro _ ρ S ⟨_, _, rfl, h⟩; exact gOk_one (h.at 1 gt1)) ?_ ?_
    · clear h ql
      rintro longer word s' ρ S ⟨j_4, j_5, rfl, hS⟩ h
      try dsimp only at h hS
      try dsimp only
      refine ⟨_, (tg_n st4), Run.go hS (run_one ?_)⟩
      refine run_assoc ?_
      refine run_set st5 (ev_ms v4 (ev_cons (strc (a := [73]) (by decide +kernel)) ev_nil) fun _ => ms_count) ?_
      refine run_assoc ?_
      replace h := Option.bind_eq_some_iff.mp h; obtain ⟨longer2, hi, h⟩ := h
      try dsimp only at h
      refine run_join (Q := fun fl S => fl = .next [some (eI count), some (.cell k_found1), some (eI turn), some (.cell k_longer), some (eS word), some (eI (word.count 73 : Int))] ∧ St S0 S [(k_longer, .lst (longer2.map eS)), (k_found1, .lst (found.map eS))]) ?_ ?_
      · clear h
        refine run_one (run_if (decide ((word.count 73 : Int) < count)) (ev_tb (ev_o2 v5 v0 fun _ h => cmp_int _ _ _ _)) (fun hc => ?_) (fun hc => ?_))
        · rw [ifT hc] at hi
          replace h := hi
          replace h := Option.bind_eq_some_iff.mp h; obtain ⟨r1, q2, h⟩ := h
          replace h := Option.bind_eq_some_iff.mp h; obtain ⟨longer1, q3, h⟩ := h
          refine run_expr (ev_mt v3 (fun _ h => isl (lsC (h.at 0 gt0))) (ev_cons (ev_o2 v4 (strc (a := [73]) (by decide +kernel)) fun _ _ => op_addS q2) ev_nil) (mt_append (a := r1) 0 gt0 hk_k_longer q3 st0)) ?_
          cases h
          exact run_nil fun _ hS => ⟨rfl, hS⟩
        · rw [ifF hc] at hi
          replace h := hi
          refine run_skip ?_
          cases h
          exact run_nil fun _ hS => ⟨rfl, hS⟩
      rintro fl S ⟨rfl, hS⟩
      refine ⟨_, rfl, Run.go hS ?_⟩
      refine run_if (decide (turn < (2 * (word.count 73 : Int)))) (ev_tb (ev_o2 (ev_o2 ev_c v5 fun _ _ => op_mulL (by decide) (by decide)) v2 fun _ h => cmp_int _ _ _ _)) (fun hc => ?_) (fun hc => ?_)
      · rw [ifT hc] at h
        replace h := Option.bind_eq_some_iff.mp h; obtain ⟨r2, q4, h⟩ := h
        replace h := Option.bind_eq_some_iff.mp h; obtain ⟨longer3, q5, h⟩ := h
        refine run_expr (ev_mt v3 (fun _ h => isl (lsC (h.at 0 gt0))) (ev_cons (ev_o2 v4 (strc (a := [82]) (by decide +kernel)) fun _ _ => op_addS q4) ev_nil) (mt_append (a := r2) 0 gt0 hk_k_longer q5 st0)) ?_
        cases h
        exact run_nil fun _ hS => turn_next ⟨_, _, rfl, hS⟩
      · rw [ifF hc] at h
        refine run_skip ?_
        cases h
        exact run_nil fun _ hS => turn_next ⟨_, _, rfl, hS⟩
    rintro ρ S ⟨j_4, j_5, rfl, hS⟩
    try dsimp only at hS
    try dsimp only
    refine Run.go hS ?_
    refine run_set st1 v3 ?_
    cases h
    exact run_nil fun _ hS => turn_next ⟨k_longer, hk_k_longer, _, _, _, _, rfl, hS.pick [0] (by decide) rfl⟩
  rintro ρ S ⟨k_found2, hk_k_found2, j_2, j_3, j_4, j_5, rfl, hS⟩
  try dsimp only at hS
  try dsimp only
  refine Run.go hS ?_
  refine run_ret v1 fun _ hS => ?_
  cases h
  exact fin_cell 0 hS gt0 hk_k_found2
abbrev N_c_row : List Str := ["_law_word", "_law_at"]
noncomputable def m_c_row : MS := sRet (mCa sTupleX (mCons (mLc (mRange1 (mCons (mCa sLen (mCons (mVar 0) (mNil))) (mNil))) (gN 1) (mTB (mO2 sEq (mO2 sIx (mVar 0) (mVar 1)) (mC (.str "R")))) (mMs sCountS (mSl sSlice (mVar 0) mNo (mPart (mVar 1))) (mCons (mC (.str "I")) (mNil))) [1]) (mNil)))
noncomputable def x_c_row (word : List Nat) : Option (List Int) :=
  (szO word).bind fun z =>
  (rngO 0 (z.length : Int)).bind fun rg =>
  (lcO (fun (at_ : Int) => ((szO word).bind fun z1 => (atI word at_).bind fun r1 => if (decide ([r1] = [82])) then ((szO word).bind fun z2 => some (some ((cutL word none (some at_)).count 73 : Int))) else some none)) rg).bind fun z4 =>
  (szO z4).bind fun z3 =>
  some z3
noncomputable def f_c_row : Fn := runU N_c_row m_c_row
theorem tr_c_row {S0 : Sto} (hn : ncS S0) {word : List Nat} {r : List Int} (h : x_c_row word = some r) : f_c_row [eS word] S0 = some (.ok ((eT eI) r) S0) := by
  refine fin_ok (St.start hn) rfl ?_
  show Run S0 [] m_c_row [some (eS word), none] (Fin S0 (eT eI) r)
  unfold x_c_row at h
  unfold m_c_row
  refine run_one ?_
  replace h := Option.bind_eq_some_iff.mp h; obtain ⟨z, q1, h⟩ := h
  replace h := Option.bind_eq_some_iff.mp h; obtain ⟨rg, q2, h⟩ := h
  replace h := Option.bind_eq_some_iff.mp h; obtain ⟨z4, q6, h⟩ := h
  replace h := Option.bind_eq_some_iff.mp h; obtain ⟨z3, q7, h⟩ := h
  refine run_ret (ev_ca (ev_cons (ev_lcO (en := eI) (it_range1 (ev_cons (ev_ca (ev_cons v0 ev_nil) fun _ _ => op_lenS q1) ev_nil) q2) (wipe1 st1) (fun _ h => gOk_nil _) q6 q7 fun at_ o g => (by replace g := Option.bind_eq_some_iff.mp g; obtain ⟨z1, q3, g⟩ := g; replace g := Option.bind_eq_some_iff.mp g; obtain ⟨r1, q4, g⟩ := g; cases hc : (decide ([r1] = [82])) with | true => (rw [ifT hc] at g; replace g := Option.bind_eq_some_iff.mp g; obtain ⟨z2, q5, g⟩ := g; obtain rfl := Option.some.inj g; exact ⟨_, fun _ _ => (tg_n st1), X.cast hc (ev_tb (ev_o2 (ev_o2 v0 v1 fun _ _ => op_ixS (szO_same q3) q4) (strc (a := [82]) (by decide +kernel)) fun _ h => op_eqS)), (ev_ms (ev_sl v0 ev_no (ev_part v1) fun _ _ => op_slS (szO_same q5)) (ev_cons (strc (a := [73]) (by decide +kernel)) ev_nil) fun _ => ms_count)⟩) | false => (rw [ifF hc] at g; obtain rfl := Option.some.inj g; exact ⟨_, fun _ _ => (tg_n st1), X.cast hc (ev_tb (ev_o2 (ev_o2 v0 v1 fun _ _ => op_ixS (szO_same q3) q4) (strc (a := [82]) (by decide +kernel)) fun _ h => op_eqS))⟩))) ev_nil) fun _ h => op_tupleX sqL) fun _ hS => ?_
  cases h
  exact fin_val rfl hS
abbrev N_c_word_of : List Str := ["_law_row", "_law_word", "_law_inserted", "_law_item"]
noncomputable def m_c_word_of : MS := sSeq (sAsg (gT 2 (gsCons (gN 1) (gsCons (gN 2) (gsNil)))) (mTup (mCons (mC (.str "")) (mCons (mC (.int 0)) (mNil))))) (sSeq (sFor (mVal (mVar 0)) (gN 3) (sSeq (sSet 1 (mO2 sAdd (mO2 sAdd (mVar 1) (mO2 sMul (mC (.str "I")) (mO2 aSub (mVar 3) (mVar 2)))) (mC (.str "R")))) (sSet 2 (mVar 3)))) (sRet (mVar 1)))
noncomputable def x_c_word_of (row : List Int) : Option (List Nat) :=
  (foldO (fun ((word, inserted) : (List Nat) × Int) (item : Int) =>
    (repO [73] (item - inserted)).bind fun r1 =>
    (szO (word ++ r1)).bind fun r2 =>
    (szO (r2 ++ [82])).bind fun r3 =>
    some (r3, item)) row (([], 0) : (List Nat) × Int)).bind fun (word1, inserted1) =>
  some word1
noncomputable def f_c_word_of : Fn := runU N_c_word_of m_c_word_of
structure HiV (src out : List Int) (i : Nat) (m : Int) : Prop where
  le : m ≤ src.length
  all : ∀ a t : Nat, i ≤ a → a < t → t < out.length → out.getD t 0 < out.getD a 0 → m ≤ ((src.idxOf (out.getD t 0) : Nat) : Int)
  ex : m = src.length ∨ ∃ a t : Nat, i ≤ a ∧ a < t ∧ t < out.length ∧ out.getD t 0 < out.getD a 0 ∧ m = ((src.idxOf (out.getD t 0) : Nat) : Int)
def hplc (src out : List Int) (a : Nat) : List Int := ((out.drop (a + 1)).filter fun k => decide (k < out.getD a 0)).map fun k => ((src.idxOf k : Nat) : Int)
theorem hplc_mem {src out : List Int} {a : Nat} {m : Int} : m ∈ hplc src out a ↔ ∃ t : Nat, a < t ∧ t < out.length ∧ out.getD t 0 < out.getD a 0 ∧ m = ((src.idxOf (out.getD t 0) : Nat) : Int) := by
  unfold hplc
  rw [List.mem_map]
  constructor
  · rintro ⟨k, hk, rfl⟩
    obtain ⟨h1, h2⟩ := List.mem_filter.mp hk
    obtain ⟨t, ht, rfl⟩ := List.getElem_of_mem h1
    have ht' : a + 1 + t < out.length := by simp at ht; omega
    rw [List.getElem_drop] at h2 ⊢
    refine ⟨a + 1 + t, by omega, ht', ?_, ?_⟩
    · rw [getD_at ht']
      simpa using h2
    · rw [getD_at ht']
  · rintro ⟨t, h1, h2, h3, rfl⟩
    refine ⟨out.getD t 0, List.mem_filter.mpr ⟨?_, by simpa using h3⟩, rfl⟩
    rw [getD_at h2]
    refine List.mem_iff_getElem.mpr ⟨t - (a + 1), by simp; omega, ?_⟩
    rw [List.getElem_drop]
    congr 1
    omega
theorem HiV.step {src out : List Int} {i : Nat} {m r : Int} (h : HiV src out (i + 1) m) (h1 : r ∈ [m] ++ hplc src out i) (h2 : ∀ x ∈ [m] ++ hplc src out i, r ≤ x) : HiV src out i r := by
  have hm := h2 m (by simp)
  refine ⟨by have := h.le; omega, fun a t q1 q2 q3 q4 => ?_, ?_⟩
  · by_cases c : a = i
    · subst c
      exact h2 _ (List.mem_append_right _ (hplc_mem.mpr ⟨t, q2, q3, q4, rfl⟩))
    · have := h.all a t (by omega) q2 q3 q4
      omega
  · rcases List.mem_append.mp h1 with e | e
    · rw [List.mem_singleton.mp e]
      rcases h.ex with e | ⟨a, t, q1, q2⟩
      · exact .inl e
      · exact .inr ⟨a, t, by omega, q2⟩
    · obtain ⟨t, q1, q2, q3, q4⟩ := hplc_mem.mp e
      exact .inr ⟨i, t, Nat.le_refl _, q1, q2, q3, q4⟩
noncomputable def hv (src out : List Int) (i : Nat) : Int := open Classical in if h : ∃ m, HiV src out i m then h.choose else 0
end G

set_option Elab.async false
set_option linter.all false
set_option maxRecDepth 100000
set_option maxHeartbeats 4000000
namespace G
open PySem PySem.Spec PyProof.Rows L2
def extB (n j : Nat) (w : List Bool) : List (List Bool) := (if w.count true < n then [w ++ [true]] else []) ++ (if j < 2 * w.count true then [w ++ [false]] else [])
def WL (n : Nat) : Nat → List (List Bool)
  | 0 => [[]]
  | j + 1 => (WL n j).flatMap (extB n j)
theorem extB_len (n j : Nat) (w : List Bool) : (extB n j w).length ≤ 2 := by
  unfold extB
  split <;> split <;> simp
theorem flat_le2 {α β : Type} {f : α → List β} (h : ∀ x, (f x).length ≤ 2) : ∀ xs : List α, (xs.flatMap f).length ≤ 2 * xs.length
  | [] => by simp
  | x :: xs => by
    rw [List.flatMap_cons, List.length_append, List.length_cons]
    have := flat_le2 h xs
    have := h x
    omega
theorem WL_len (n : Nat) : ∀ j, (WL n j).length ≤ 2 ^ j
  | 0 => by simp [WL]
  | j + 1 => by
    have := flat_le2 (extB_len n j) (WL n j)
    have := WL_len n j
    rw [WL, Nat.pow_succ]
    omega
theorem WL_mem {n : Nat} : ∀ {j : Nat} {w : List Bool}, w ∈ WL n j ↔ w.length = j ∧ w.count true ≤ n ∧ ∀ k, 0 ≤ bal (w.take k)
  | 0, w => by
    rw [WL, List.mem_singleton]
    constructor
    · rintro rfl
      simp [bal]
    · rintro ⟨h, _⟩
      exact List.length_eq_zero_iff.mp h
  | j + 1, w => by
    rw [WL, List.mem_flatMap]
    constructor
    · rintro ⟨v, hv, hw⟩
      obtain ⟨a1, a2, a3⟩ := WL_mem.mp hv
      have hbI : bal (v ++ [true]) = bal v + 1 := by rw [bal_app]; simp [bal]
      have hbR : bal (v ++ [false]) = bal v - 1 := by rw [bal_app]; simp [bal]; omega
      have hb0 : 0 ≤ bal v := by have := a3 v.length; rwa [List.take_length] at this
      have hcl := count_len v
      have hbc := bal_count v
      unfold extB at hw
      rcases List.mem_append.mp hw with hw | hw
      · split at hw
        · rw [List.mem_singleton.mp hw]
          exact ⟨by simp [a1], by simp; omega, pos_snoc a3 (by omega)⟩
        · cases hw
      · split at hw
        · rw [List.mem_singleton.mp hw]
          exact ⟨by simp [a1], by simpa using a2, pos_snoc a3 (by omega)⟩
        · cases hw
    · rintro ⟨a1, a2, a3⟩
      rcases List.eq_nil_or_concat w with rfl | ⟨v, b, rfl⟩
      · simp at a1
      · rw [List.concat_eq_append] at a1 a2 a3
        have hbI : bal (v ++ [true]) = bal v + 1 := by rw [bal_app]; simp [bal]
        have hbR : bal (v ++ [false]) = bal v - 1 := by rw [bal_app]; simp [bal]; omega
        have a1' : v.length = j := by simpa using a1
        have hv : ∀ k, 0 ≤ bal (v.take k) := fun k => by
          have := a3 (min k v.length)
          rw [List.take_append_of_le_length (by omega)] at this
          rcases Nat.le_total k v.length with c | c
          · rwa [Nat.min_eq_left c] at this
          · rw [Nat.min_eq_right c, List.take_length] at this
            rwa [List.take_of_length_le c]
        have hlast := a3 (v ++ [b]).length
        rw [List.take_length] at hlast
        have hcl := count_len v
        have hbc := bal_count v
        refine ⟨v, WL_mem.mpr ⟨a1', ?_, hv⟩, ?_⟩
        · rw [List.count_append] at a2
          omega
        · rw [List.concat_eq_append]
          unfold extB
          cases b with
          | true =>
            have : v.count true < n := by rw [List.count_append] at a2; simp at a2; omega
            rw [if_pos this]
            simp
          | false =>
            rw [hbR] at hlast
            rw [if_pos (show j < 2 * v.count true by omega)]
            simp
theorem WL_dyck {n : Nat} {w : List Bool} : w ∈ WL n (2 * n) ↔ Dyck w ∧ w.length = 2 * n := by
  rw [WL_mem]
  have hcl := count_len w
  have hbc := bal_count w
  constructor
  · rintro ⟨h1, h2, h3⟩
    have h0 : 0 ≤ bal w := by have := h3 w.length; rwa [List.take_length] at this
    exact ⟨⟨h3, by omega⟩, h1⟩
  · rintro ⟨⟨h1, h2⟩, h3⟩
    exact ⟨h3, by omega, h1⟩
theorem c_all_words_eq {n : Nat} (hn : n ≤ 8) : x_c_all_words (n : Int) = some ((WL n (2 * n)).map wL) := by
  unfold x_c_all_words
  refine eq_of_ret (ret_rng (by decide) (by decide) (by omega) (by omega) (ret_fold (fun j (fs : List (List Nat)) => fs = (WL n j).map wL) rfl ?_ ?_))
  · rintro j x fs hx rfl
    obtain ⟨hj, rfl⟩ := rng_get hx
    have hpow : 2 ^ j ≤ 2 ^ 16 := Nat.pow_le_pow_right (by decide) (by omega)
    have hWL := WL_len n j
    refine ret_fold (fun i (ls : List (List Nat)) => ls = (((WL n j).take i).flatMap (extB n j)).map wL) rfl ?_ ?_
    · rintro i z ls hz rfl
      rw [List.getElem?_map] at hz
      obtain ⟨w, hw, rfl⟩ := Option.map_eq_some_iff.mp hz
      have hwm := WL_mem.mp (List.mem_of_getElem? hw)
      have hi' := (List.getElem?_eq_some_iff.mp hw).1
      have hfl := flat_le2 (extB_len n j) ((WL n j).take i)
      rw [List.length_take] at hfl
      have e1 : (WL n j).take (i + 1) = (WL n j).take i ++ [w] := by rw [List.take_add_one, hw]; rfl
      rw [e1, List.flatMap_append, List.flatMap_singleton, List.map_append]
      have hlw : w.length ≤ 16 := by omega
      rw [wL_count73]
      unfold extB
      by_cases c1 : w.count true < n
      · rw [if_pos (show decide (((w.count true : Nat) : Int) < (n : Int)) = true by rw [decide_eq_true_eq]; omega), if_pos c1]
        have s1 : szO (wL w ++ [73]) = some (wL w ++ [73]) := szO_ok (by simp; omega)
        have s2 : szO (((((WL n j).take i).flatMap (extB n j)).map wL) ++ [wL w ++ [73]]) = some (((((WL n j).take i).flatMap (extB n j)).map wL) ++ [wL w ++ [73]]) := szO_ok (by rw [List.length_append, List.length_map, List.length_singleton]; omega)
        rw [s1]
        simp only [Option.bind_some]
        rw [show ((((WL n j).take i).flatMap fun w => (if w.count true < n then [w ++ [true]] else []) ++ (if j < 2 * w.count true then [w ++ [false]] else [])).map wL) = ((((WL n j).take i).flatMap (extB n j)).map wL) from rfl, s2]
        simp only [Option.bind_some]
        by_cases c2 : j < 2 * w.count true
        · rw [if_pos (show decide (0 + (j : Int) < 2 * ((w.count true : Nat) : Int)) = true by rw [decide_eq_true_eq]; omega), if_pos c2]
          refine ret_sz (by simp; omega) (ret_sz (by simp only [List.length_append, List.length_map, List.length_singleton]; omega) (ret_some ?_))
          simp
        · rw [if_neg (show ¬ decide (0 + (j : Int) < 2 * ((w.count true : Nat) : Int)) = true by rw [decide_eq_true_eq]; omega), if_neg c2]
          refine ret_some ?_
          simp
      · rw [if_neg (show ¬ decide (((w.count true : Nat) : Int) < (n : Int)) = true by rw [decide_eq_true_eq]; omega), if_neg c1]
        simp only [Option.bind_some]
        by_cases c2 : j < 2 * w.count true
        · rw [if_pos (show decide (0 + (j : Int) < 2 * ((w.count true : Nat) : Int)) = true by rw [decide_eq_true_eq]; omega), if_pos c2]
          refine ret_sz (by simp; omega) (ret_sz ?_ (ret_some ?_))
          · rw [show ((((WL n j).take i).flatMap fun w => (if w.count true < n then [w ++ [true]] else []) ++ (if j < 2 * w.count true then [w ++ [false]] else [])).map wL) = ((((WL n j).take i).flatMap (extB n j)).map wL) from rfl]
            simp only [List.length_append, List.length_map, List.length_singleton]
            omega
          · simp
        · rw [if_neg (show ¬ decide (0 + (j : Int) < 2 * ((w.count true : Nat) : Int)) = true by rw [decide_eq_true_eq]; omega), if_neg c2]
          refine ret_some ?_
          simp
    · rintro ls rfl
      refine ret_some ?_
      rw [List.length_map, List.take_length]
      rfl
  · rintro fs rfl
    refine ret_some ?_
    rw [List.length_map, List.length_range, show (2 * (n : Int) - 0).toNat = 2 * n by omega]
theorem bal_rep (k : Nat) : bal (List.replicate k true) = (k : Int) := by
  have h1 := bal_count (List.replicate k true)
  have h2 : (List.replicate k true).count false = 0 := by
    rw [List.count_eq_zero]
    intro h
    simp at h
  rw [List.count_replicate_self, h2] at h1
  omega
theorem wordR_pos : ∀ {rs : List Int} {c : Int} {j : Nat}, Up rs c → (j : Int) ≤ c → (∀ (i : Nat) (h : i < rs.length), (j : Int) + (i : Int) + 1 ≤ rs[i]) → ∀ k, 0 ≤ c - (j : Int) + bal ((wordR rs c).take k)
  | [], c, j, hu, hc, h, k => by
    simp [wordR, bal]
    omega
  | r :: rs, c, j, hu, hc, h, k => by
    obtain ⟨h1, h2⟩ := hu
    have hr := h 0 (by simp)
    simp at hr
    rw [wordR]
    by_cases ck : k ≤ (r - c).toNat
    · rw [List.take_append_of_le_length (by simpa using ck), List.take_replicate, bal_rep]
      omega
    · obtain ⟨m, rfl⟩ : ∃ m, k = (r - c).toNat + 1 + m := ⟨k - ((r - c).toNat + 1), by omega⟩
      have e : (List.replicate (r - c).toNat true ++ (false :: wordR rs r)).take ((r - c).toNat + 1 + m) = List.replicate (r - c).toNat true ++ (false :: (wordR rs r).take m) := by
        rw [List.take_append, List.length_replicate, show (r - c).toNat + 1 + m - (r - c).toNat = m + 1 by omega, List.take_succ_cons, List.take_of_length_le (by simp; omega)]
      rw [e, bal_app, bal_rep]
      have ih := wordR_pos (rs := rs) (c := r) (j := j + 1) h2 (by omega) (fun i hi' => by
        have := h (i + 1) (by simpa using hi')
        simp at this
        omega) m
      have e2 : bal (false :: (wordR rs r).take m) = bal ((wordR rs r).take m) - 1 := by
        have := bal_app [false] ((wordR rs r).take m)
        rw [List.singleton_append] at this
        rw [this]
        simp [bal]
        omega
      rw [e2]
      omega
theorem wordR_true : ∀ {rs : List Int} {c : Int}, Up rs c → ((wordR rs c).count true : Int) = (rs.getLast?.getD c) - c
  | [], c, _ => by simp [wordR]
  | r :: rs, c, hu => by
    obtain ⟨h1, h2⟩ := hu
    rw [wordR, List.count_append, List.count_replicate_self, List.count_cons]
    have ih := wordR_true h2
    have e : (r :: rs).getLast?.getD c = rs.getLast?.getD r := by
      cases rs with
      | nil => rfl
      | cons x xs => rw [List.getLast?_cons_cons]; cases h : (x :: xs).getLast? with
        | none => simp at h
        | some y => rfl
    rw [e]
    simp
    omega
theorem isRow_dyck {rs : List Int} (h : IsRow rs) : Dyck (wordR rs 0) ∧ (wordR rs 0).length = 2 * rs.length ∧ rowW (wordR rs 0) 0 = rs := by
  have h1 := wordR_pos (rs := rs) (c := 0) (j := 0) h.up (by decide) fun i hi' => by
    have := (h i hi').1
    simp
    omega
  have h2 := wordR_true h.up
  have h3 := wordR_count rs 0
  have hcl := count_len (wordR rs 0)
  have hbc := bal_count (wordR rs 0)
  have hlast : rs.getLast?.getD 0 = (rs.length : Int) := by
    rcases Nat.eq_zero_or_pos rs.length with e | e
    · rw [List.length_eq_zero_iff.mp e]; rfl
    · have := h (rs.length - 1) (by omega)
      rw [List.getLast?_eq_getElem?, List.getElem?_eq_getElem (by omega), Option.getD_some]
      omega
  exact ⟨⟨fun k => by have := h1 k; simpa using this, by omega⟩, by omega, row_word_row h.up⟩
theorem lcZ_snoc {α β : Type} {g : α → Option (Option β)} {y : α} {o : Option β} : ∀ {xs : List α} {ys : List β}, lcO g xs = some ys → g y = some o → lcO g (xs ++ [y]) = some (ys ++ o.toList)
  | [], ys, h, hy => by
    cases h
    rw [List.nil_append, lcO, hy, Option.bind_some]
    cases o <;> rfl
  | x :: xs, ys, h, hy => by
    rw [lcO] at h
    obtain ⟨ox, h1, h2⟩ := Option.bind_eq_some_iff.mp h
    obtain ⟨zs, h3, h4⟩ := Option.bind_eq_some_iff.mp h2
    rw [List.cons_append, lcO, h1, Option.bind_some, lcZ_snoc h3 hy, Option.bind_some]
    cases ox <;> cases h4 <;> rfl
theorem p_word_row_eq {w : List Bool} (hl : w.length ≤ 1000) : x_p_word_row (wL w) = some (rowW w 0) := by
  unfold x_p_word_row
  refine eq_of_ret (ret_fold (fun j (p : Int × List Int) => p.1 = ((w.take j).count true : Nat) ∧ p.2 = rowW (w.take j) 0) ⟨by simp, by simp [rowW]⟩ ?_ ?_)
  · rintro j x ⟨c, row⟩ hx ⟨rfl, rfl⟩
    obtain ⟨b, hb, rfl, hd⟩ := chS_get hx
    obtain ⟨hj, hb'⟩ := List.getElem?_eq_some_iff.mp hb
    have e1 : w.take (j + 1) = w.take j ++ [b] := by rw [← hb', List.take_append_getElem]
    have hlen : (rowW (w.take j) 0).length ≤ 1000 := by
      rw [rowW_len]
      have := List.count_le_length (a := false) (l := w.take j)
      simp at this
      omega
    dsimp only
    cases b with
    | true =>
      rw [if_pos (by simp)]
      refine ret_some ⟨?_, ?_⟩
      · rw [e1]; simp
      · rw [e1, rowW_app]; simp [rowW]
    | false =>
      rw [if_neg (by simp)]
      refine ret_sz (by simp; omega) (ret_some ⟨?_, ?_⟩)
      · rw [e1]; simp
      · rw [e1, rowW_app]; simp [rowW]
  · rintro ⟨c, row⟩ ⟨rfl, rfl⟩
    rw [chS_len, List.take_length]
    exact ret_some rfl
theorem c_row_eq {w : List Bool} (hl : w.length ≤ 1000) : x_c_row (wL w) = some (rowW w 0) := by
  unfold x_c_row
  have hz : szO (wL w) = some (wL w) := szO_ok (by simp; omega)
  refine eq_of_ret (ret_eq hz (ret_rng (by decide) (by decide) (by omega) (by simp; omega) ?_))
  have key : ∀ m : Nat, m ≤ w.length → lcO (fun (at_ : Int) => ((szO (wL w)).bind fun z1 => (atI (wL w) at_).bind fun r1 => if (decide ([r1] = [82])) = true then ((szO (wL w)).bind fun z2 => some (some ((cutL (wL w) none (some at_)).count 73 : Int))) else some none)) ((List.range m).map fun (i : Nat) => (0 : Int) + (i : Int)) = some (rowW (w.take m) 0) := by
    intro m
    induction m with
    | zero => intro _; simp [lcO, rowW]
    | succ m ih =>
      intro hm
      rw [List.range_succ, List.map_append, List.map_singleton]
      have e1 : w.take (m + 1) = w.take m ++ [w[m]'(by omega)] := by rw [List.take_append_getElem]
      have hat : atI (wL w) (0 + (m : Int)) = some (lt (w[m]'(by omega))) := by
        rw [atI_ok (by omega) (by simp; omega)]
        simp
      have hcut : (cutL (wL w) none (some (0 + (m : Int)))).count 73 = (w.take m).count true := by
        rw [cut_to (by omega), show (0 + (m : Int)).toNat = m by omega, ← List.map_take]
        exact wL_count73 _
      have hg : (fun (at_ : Int) => ((szO (wL w)).bind fun z1 => (atI (wL w) at_).bind fun r1 => if (decide ([r1] = [82])) = true then ((szO (wL w)).bind fun z2 => some (some ((cutL (wL w) none (some at_)).count 73 : Int))) else some none)) (0 + (m : Int)) = some (if w[m]'(by omega) = true then none else some (((w.take m).count true : Nat) : Int)) := by
        dsimp only
        rw [hz, hat]
        simp only [Option.bind_some, hcut]
        cases w[m]'(by omega) <;> simp
      rw [lcZ_snoc (ih (by omega)) hg, e1, rowW_app]
      cases w[m]'(by omega) <;> simp [rowW]
  have := key w.length (Nat.le_refl _)
  rw [List.take_length] at this
  rw [show ((((wL w).length : Nat) : Int) - 0).toNat = w.length by simp]
  exact ret_eq this (ret_sz (by rw [rowW_len]; have := List.count_le_length (a := false) (l := w); omega) (ret_some rfl))
theorem p_word_of_row_eq {rs : List Int} (hu : Up rs 0) (hm : ∀ r ∈ rs, r ≤ 1000) (hl : rs.length ≤ 1000) : x_p_word_of_row rs = some (wL (wordR rs 0)) := by
  unfold x_p_word_of_row
  refine eq_of_ret (ret_fold (fun j (p : List Nat × Int) => ∃ u : List Bool, p.1 = wL u ∧ wordR rs 0 = u ++ wordR (rs.drop j) p.2 ∧ Up (rs.drop j) p.2 ∧ (u.length : Int) = j + p.2 ∧ 0 ≤ p.2 ∧ p.2 ≤ 1000) ⟨[], rfl, by simp, by simpa using hu, by simp, by decide, by decide⟩ ?_ ?_)
  · rintro j r ⟨z, c⟩ hx ⟨u, rfl, hw, hup, hlen, h0, h1⟩
    obtain ⟨hj, hr⟩ := List.getElem?_eq_some_iff.mp hx
    have hd : rs.drop j = r :: rs.drop (j + 1) := by rw [← hr, List.getElem_cons_drop]
    rw [hd] at hw hup
    dsimp only at hw hup hlen h0 h1 ⊢
    have hle := hup.1
    have hrm := hm r (hr ▸ List.getElem_mem _)
    have hrep : (List.replicate (r - c).toNat [73]).flatten = wL (List.replicate (r - c).toNat true) := by
      generalize (r - c).toNat = k
      induction k with
      | zero => rfl
      | succ k ih => rw [List.replicate_succ, List.flatten_cons, ih, List.replicate_succ]; simp
    refine ret_eq (a := wL (List.replicate (r - c).toNat true)) (by
      unfold repO
      rw [if_pos ⟨by omega, by omega, by simp; omega⟩, hrep]) ?_
    refine ret_sz (by simp; omega) (ret_sz (by simp; omega) (ret_some ⟨u ++ (List.replicate (r - c).toNat true ++ [false]), by simp, ?_, hup.2, by simp; omega, by omega, by omega⟩))
    rw [hw, wordR]
    simp
  · rintro ⟨z, c⟩ ⟨u, rfl, hw, hup, hlen, h0, h1⟩
    rw [List.drop_length] at hw
    dsimp only at hw ⊢
    rw [wordR, List.append_nil] at hw
    exact ret_some (by rw [hw])
theorem lcO_mapL {α β γ : Type} {g : β → Option (Option γ)} {h : α → β} : ∀ xs : List α, lcO g (xs.map h) = lcO (fun x => g (h x)) xs
  | [] => rfl
  | x :: xs => by
    rw [List.map_cons, lcO, lcO, lcO_mapL xs]
end G

set_option Elab.async false
set_option linter.all false
set_option maxRecDepth 100000
set_option maxHeartbeats 4000000
namespace G
open PySem PySem.Spec PyProof.Rows L2
theorem c_word_of_eq {rs : List Int} (hu : Up rs 0) (hm : ∀ r ∈ rs, r ≤ 1000) (hl : rs.length ≤ 1000) : x_c_word_of rs = some (wL (wordR rs 0)) := by
  unfold x_c_word_of
  refine eq_of_ret (ret_fold (fun j (p : List Nat × Int) => ∃ u : List Bool, p.1 = wL u ∧ wordR rs 0 = u ++ wordR (rs.drop j) p.2 ∧ Up (rs.drop j) p.2 ∧ (u.length : Int) = j + p.2 ∧ 0 ≤ p.2 ∧ p.2 ≤ 1000) ⟨[], rfl, by simp, by simpa using hu, by simp, by decide, by decide⟩ ?_ ?_)
  · rintro j r ⟨z, c⟩ hx ⟨u, rfl, hw, hup, hlen, h0, h1⟩
    obtain ⟨hj, hr⟩ := List.getElem?_eq_some_iff.mp hx
    have hd : rs.drop j = r :: rs.drop (j + 1) := by rw [← hr, List.getElem_cons_drop]
    rw [hd] at hw hup
    dsimp only at hw hup hlen h0 h1 ⊢
    have hle := hup.1
    have hrm := hm r (hr ▸ List.getElem_mem _)
    have hrep : (List.replicate (r - c).toNat [73]).flatten = wL (List.replicate (r - c).toNat true) := by
      generalize (r - c).toNat = k
      induction k with
      | zero => rfl
      | succ k ih => rw [List.replicate_succ, List.flatten_cons, ih, List.replicate_succ]; simp
    refine ret_eq (a := wL (List.replicate (r - c).toNat true)) (by
      unfold repO
      rw [if_pos ⟨by omega, by omega, by simp; omega⟩, hrep]) ?_
    refine ret_sz (by simp; omega) (ret_sz (by simp; omega) (ret_some ⟨u ++ (List.replicate (r - c).toNat true ++ [false]), by simp, ?_, hup.2, by simp; omega, by omega, by omega⟩))
    rw [hw, wordR]
    simp
  · rintro ⟨z, c⟩ ⟨u, rfl, hw, hup, hlen, h0, h1⟩
    rw [List.drop_length] at hw
    dsimp only at hw ⊢
    rw [wordR, List.append_nil] at hw
    exact ret_some (by rw [hw])
theorem cutL_mem {α : Type} {xs : List α} {lo hi' : Option Int} {x : α} (h : x ∈ cutL xs lo hi') : x ∈ xs := by
  unfold cutL at h
  exact List.mem_of_mem_drop (List.mem_of_mem_take h)
theorem cutZ_len {α : Type} (xs : List α) (lo hi' : Option Int) : (cutL xs lo hi').length ≤ xs.length := by
  unfold cutL
  simp
  omega
end G

set_option Elab.async false
set_option linter.all false
set_option maxRecDepth 100000
set_option maxHeartbeats 4000000
namespace G
open PySem PySem.Spec PyProof.Rows L2
def Bo (w d : Nat) (v : VV) : Prop := Fine v.1 w d ∧ Shw v.1 w d
def Ni (w d : Nat) (v : VV) : Prop := Fine v.1 w d ∨ Shw v.1 w d
section
variable {w d w' d' : Nat} {v y : VV} {xs : List VV}
theorem Bo.ni (h : Bo w d v) : Ni w d v := .inl h.1
theorem Bo.mono (h : Bo w d v) (h1 : w ≤ w') (h2 : d ≤ d') : Bo w' d' v := ⟨h.1.mono h1 h2, h.2.mono h1 h2⟩
theorem Ni.mono (h : Ni w d v) (h1 : w ≤ w') (h2 : d ≤ d') : Ni w' d' v := h.imp (fun q => q.mono h1 h2) fun q => q.mono h1 h2
theorem bo_int {i : Int} (h : i.natAbs < 2 ^ 1900) : Bo 1921 0 (toV eI i) := ⟨fine_I h, Shw.int (log2_lt_of (Nat.lt_of_lt_of_le h (Nat.pow_le_pow_right (by decide) (by decide))) (by decide))⟩
theorem bo_key {i : Int} (h : -1000000000000000 ≤ i ∧ i ≤ 1000000000000000) : Bo 1921 0 (toV eI i) := bo_int (Nat.lt_of_lt_of_le (show i.natAbs < 2 ^ 64 by omega) (Nat.pow_le_pow_right (by decide) (by decide)))
theorem bo_bool (b : Bool) : Bo 5 0 (toV eB b) := ⟨Fine.bl, Shw.bl⟩
theorem bo_unit : Bo 4 0 (toV eU ()) := ⟨Fine.non, Shw.non⟩
theorem bo_str {z : List Nat} (hc : ∀ c ∈ z, c < 16 ^ 8) (hl : (reprText (tx z)).length ≤ w) (hs : PyData.strOk (tx z) = true) : Bo w 0 (toV eS z) := ⟨fine_S hs hl, Shw.str (x := tx z) hl⟩
theorem bo_tup (h : ∀ x ∈ xs, Bo w d x) (hw : xs.length * (w + 2) + 3 ≤ w') : Bo w' (d + 1) (toV (eT eV) xs) := by
  constructor
  · refine (Fine.tup (w := w) (dp := d) (xs := xs.map eV) fun z hz => ?_).mono (by rw [List.length_map]; exact hw) (Nat.le_refl _)
    obtain ⟨x, hx, rfl⟩ := List.mem_map.mp hz
    exact (h x hx).1
  · refine (Shw.tup (w := w) (dp := d) (xs := xs.map eV) fun z hz => ?_).mono (by rw [List.length_map]; exact hw) (Nat.le_refl _)
    obtain ⟨x, hx, rfl⟩ := List.mem_map.mp hz
    exact (h x hx).2
theorem ni_tup (y : VV) (hy : Ni w d y) (h : ∀ x ∈ xs, x = y ∨ Bo w d x) (hw : xs.length * (w + 2) + 3 ≤ w') : Ni w' (d + 1) (toV (eT eV) xs) := by
  rcases hy with q | q
  · refine .inl ((Fine.tup (w := w) (dp := d) (xs := xs.map eV) fun z hz => ?_).mono (by rw [List.length_map]; exact hw) (Nat.le_refl _))
    obtain ⟨x, hx, rfl⟩ := List.mem_map.mp hz
    rcases h x hx with rfl | h
    · exact q
    · exact h.1
  · refine .inr ((Shw.tup (w := w) (dp := d) (xs := xs.map eV) fun z hz => ?_).mono (by rw [List.length_map]; exact hw) (Nat.le_refl _))
    obtain ⟨x, hx, rfl⟩ := List.mem_map.mp hz
    rcases h x hx with rfl | h
    · exact q
    · exact h.2
theorem fi_lst (h : ∀ x ∈ xs, Fine x.1 w d) (hw : xs.length * (w + 2) + 3 ≤ w') : Fine (toV (eL eV) xs).1 w' (d + 1) := by
  refine (Fine.lst (w := w) (dp := d) (xs := xs.map eV) fun z hz => ?_).mono (by rw [List.length_map]; exact hw) (Nat.le_refl _)
  obtain ⟨x, hx, rfl⟩ := List.mem_map.mp hz
  exact h x hx
theorem Ni.rp (h : Ni w d v) (hw : w ≤ 16777216) (hd : d ≤ 60) : ∃ r, rpO v.1 = some r := by
  rcases h with h | h
  · exact h.rpO hw hd
  · exact h.rpO hw hd
theorem bo_asc {z : List Nat} (hc : ∀ c ∈ z, c < 1000) (hl : 10 * z.length + 2 ≤ w) : Bo w 0 (toV eS z) := by
  refine bo_str (fun c h => Nat.lt_trans (hc c h) (by decide)) ?_ ?_
  · refine Nat.le_trans (StrLaws.reprText_len _ fun c h => ?_) (by rw [tx_len]; exact hl)
    rw [tx_cps] at h
    exact Nat.lt_trans (hc c h) (by decide)
  · unfold PyData.strOk
    rw [Array.all_eq_true]
    intro i hi
    have hm : (tx z).cps[i] ∈ (tx z).cps.toList := by simp
    rw [tx_cps] at hm
    have := hc _ hm
    simp
    omega
theorem ni_d0 : Ni 100 1 (vD []) := .inr shw_d0
end
theorem toV_TV {α : Type} {e : α → Val} [NC e] (xs : List α) : toV (eT e) xs = toV (eT eV) (xs.map (toV e)) := VV.ext' eT_up
theorem toV_LV {α : Type} {e : α → Val} [NC e] (xs : List α) : toV (eL e) xs = toV (eL eV) (xs.map (toV e)) := VV.ext' eL_up
def Kt : Nat → VV → Prop
  | 0, v => KnW v
  | d + 1, v => KnW v ∧ ((∃ xs : List VV, v = toV (eT eV) xs ∧ ∀ x ∈ xs, Kt d x) ∨ ∃ t, kindS [] v.1 = some t ∧ t ≠ "tuple")
theorem Kt.w : ∀ {d : Nat} {v : VV}, Kt d v → KnW v
  | 0, _, h => h
  | _ + 1, _, h => h.1
theorem KnW.kn {v : VV} (h : KnW v) : Kn v := by
  rcases h with ⟨z, rfl, _⟩ | ⟨t, e, _⟩
  · exact ⟨_, rfl⟩
  · exact ⟨t, e⟩
theorem Kt.kn {d : Nat} {v : VV} (h : Kt d v) : Kn v := h.w.kn
theorem kt_str {z : List Nat} (hl : z.length ≤ 1000) : ∀ d, Kt d (toV eS z)
  | 0 => .inl ⟨z, rfl, hl⟩
  | _ + 1 => ⟨.inl ⟨z, rfl, hl⟩, .inr ⟨"str", rfl, by decide⟩⟩
theorem kt_oth {v : VV} {t : String} (h : kindS [] v.1 = some t) (h1 : t ≠ "str") (h2 : t ≠ "tuple") : ∀ d, Kt d v
  | 0 => .inr ⟨t, h, h1⟩
  | _ + 1 => ⟨.inr ⟨t, h, h1⟩, .inr ⟨t, h, h2⟩⟩
theorem kt_int (i : Int) (d : Nat) : Kt d (toV eI i) := kt_oth (t := "int") rfl (by decide) (by decide) d
theorem kt_bool (b : Bool) (d : Nat) : Kt d (toV eB b) := kt_oth (t := "bool") rfl (by decide) (by decide) d
theorem kt_unit (d : Nat) : Kt d (toV eU ()) := kt_oth (t := "NoneType") rfl (by decide) (by decide) d
theorem kt_lst {α : Type} {e : α → Val} [NC e] (xs : List α) (d : Nat) : Kt d (toV (eL e) xs) := kt_oth (t := "list") rfl (by decide) (by decide) d
theorem kt_dct (xs : List (Key × VV)) (d : Nat) : Kt d (vD xs) := kt_oth (t := "dict") rfl (by decide) (by decide) d
theorem kt_tup {d : Nat} {xs : List VV} (h : ∀ x ∈ xs, Kt d x) : Kt (d + 1) (toV (eT eV) xs) := ⟨.inr ⟨"tuple", rfl, by decide⟩, .inl ⟨xs, rfl, h⟩⟩
theorem kt_tup0 {α : Type} {e : α → Val} [NC e] (xs : List α) : Kt 0 (toV (eT e) xs) := .inr ⟨"tuple", rfl, by decide⟩
theorem Kt.mono : ∀ {d : Nat} {v : VV}, Kt (d + 1) v → Kt d v
  | 0, _, h => h.1
  | d + 1, v, h => ⟨h.1, h.2.imp (fun ⟨xs, e, q⟩ => ⟨xs, e, fun x hx => (q x hx).mono⟩) id⟩
theorem Kt.tup {d : Nat} {xs : List VV} (h : Kt (d + 1) (toV (eT eV) xs)) : ∀ x ∈ xs, Kt d x := by
  rcases h.2 with ⟨ys, e, q⟩ | ⟨t, e, n⟩
  · rw [toV_inj_T e]
    exact q
  · exact absurd (Option.some.inj e).symm n
theorem Kt.ns {d : Nat} {v : VV} (h : Kt (d + 1) v) : KnS v := by
  rcases h.2 with ⟨xs, e, q⟩ | q
  · exact .inl ⟨xs, e, fun x hx => (q x hx).kn⟩
  · exact .inr q
theorem isi_of_kind {v : VV} {t : String} (h : kindS [] v.1 = some t) (c : String) : isiO v c = some (isiB t c) := by
  unfold isiO
  rw [h]
  rfl
theorem forT_go1 {σ α R : Type} {f : σ → α → Option (Lp R σ)} {x : α} {xs : List α} {s s' : σ} (h : f s x = some (.go s')) : forT f (x :: xs) s = forT f xs s' := by rw [forT, h]
theorem forT_ret1 {σ α R : Type} {f : σ → α → Option (Lp R σ)} {x : α} {xs : List α} {s : σ} {r : R} (h : f s x = some (.ret r)) : forT f (x :: xs) s = some (.ret r) := by rw [forT, h]
theorem wL_1000 {w : List Bool} : ∀ c ∈ wL w, c < 1000 := fun c hc => by
  obtain ⟨b, _, rfl⟩ := List.mem_map.mp hc
  cases b <;> decide
theorem bo_wL {w : List Bool} (h : w.length ≤ 1000) : Bo 20000 0 (toV eS (wL w)) := bo_asc wL_1000 (by simp; omega)
def oddC : List VV := [(toV eU ()), (toV eB true), (toV eB false), (toV eI 0), (toV eI 1), (toV eI (-1)), (toV eI 2), (toV eI 24), (toV eI 25), (toV eI 1000000000000000000000000000000), (toV eS []), (toV eS [73]), (toV eS [73, 82]), (toV eS [82, 73]), (toV eS [73, 82, 88]), (toV eS [105, 114]), (toV (eT eV) []), (toV (eL eV) []), (vD [])] ++ [(toV (eT eV) [(toV eS [73, 82])]), (toV (eL eV) [(toV eS [73, 82])]), (toV (eT eV) [(toV eI 1)]), (toV (eL eV) [(toV eI 1)]), (toV (eT eV) [(toV eB true)]), (toV (eT eV) [(toV eI 0)]), (vD [(.inr "IR", (toV eI 1))]), (toV (eT eV) [(toV eU ())]), (toV (eT eV) [(toV (eT eV) [])])]
theorem kt_one {d : Nat} {x : VV} (h : Kt d x) : Kt (d + 1) (toV (eT eV) [x]) := kt_tup fun y hy => by rw [List.mem_singleton.mp hy]; exact h
theorem oddC_kt (d : Nat) : ∀ v ∈ oddC, Kt d v := by
  intro v hm
  unfold oddC at hm
  simp only [List.cons_append, List.nil_append, List.mem_cons, List.not_mem_nil, or_false] at hm
  rcases hm with rfl | rfl | rfl | rfl | rfl | rfl | rfl | rfl | rfl | rfl | rfl | rfl | rfl | rfl | rfl | rfl | rfl | rfl | rfl | rfl | rfl | rfl | rfl | rfl | rfl | rfl | rfl | rfl
  any_goals first
    | exact kt_unit d
    | exact kt_bool _ d
    | exact kt_int _ d
    | exact kt_str (by decide) d
    | exact kt_lst _ d
    | exact kt_dct _ d
  · cases d with
    | zero => exact kt_tup0 _
    | succ d => exact kt_tup (by simp)
  · cases d with
    | zero => exact kt_tup0 _
    | succ d => exact kt_one (kt_str (by decide) d)
  · cases d with
    | zero => exact kt_tup0 _
    | succ d => exact kt_one (kt_int _ d)
  · cases d with
    | zero => exact kt_tup0 _
    | succ d => exact kt_one (kt_bool _ d)
  · cases d with
    | zero => exact kt_tup0 _
    | succ d => exact kt_one (kt_int _ d)
  · cases d with
    | zero => exact kt_tup0 _
    | succ d => exact kt_one (kt_unit d)
  · cases d with
    | zero => exact kt_tup0 _
    | succ d =>
      refine kt_one ?_
      cases d with
      | zero => exact kt_tup0 _
      | succ d => exact kt_tup (by simp)
theorem bo_one {w w' d : Nat} {x : VV} (h : Bo w d x) (hw : w + 5 ≤ w') : Bo w' (d + 1) (toV (eT eV) [x]) := bo_tup (w := w) (fun y hy => by rw [List.mem_singleton.mp hy]; exact h) (by simp; omega)
theorem oddC_ni : ∀ v ∈ oddC, Ni 20000 2 v := by
  intro v hm
  have bs : ∀ z ∈ ([[], [73], [73, 82], [82, 73], [73, 82, 88], [105, 114]] : List (List Nat)), Bo 2000 0 (toV eS z) := by
    intro z hz
    have : ∀ z ∈ ([[], [73], [73, 82], [82, 73], [73, 82, 88], [105, 114]] : List (List Nat)), z.length ≤ 50 ∧ ∀ c ∈ z, c < 1000 := by decide +kernel
    exact bo_asc (this z hz).2 (by have := (this z hz).1; omega)
  have bi : ∀ i ∈ ([0, 1, -1, 2, 24, 25, 1000000000000000000000000000000] : List Int), Bo 1921 0 (toV eI i) := by
    intro i hi
    have : ∀ i ∈ ([0, 1, -1, 2, 24, 25, 1000000000000000000000000000000] : List Int), i.natAbs < 2 ^ 1900 := by decide +kernel
    exact bo_int (this i hi)
  unfold oddC at hm
  simp only [List.cons_append, List.nil_append, List.mem_cons, List.not_mem_nil, or_false] at hm
  rcases hm with rfl | rfl | rfl | rfl | rfl | rfl | rfl | rfl | rfl | rfl | rfl | rfl | rfl | rfl | rfl | rfl | rfl | rfl | rfl | rfl | rfl | rfl | rfl | rfl | rfl | rfl | rfl | rfl
  any_goals first
    | exact bo_unit.ni.mono (by decide) (by decide)
    | exact (bo_bool _).ni.mono (by decide) (by decide)
    | exact (bi _ (by simp)).ni.mono (by decide) (by decide)
    | exact (bs _ (by simp)).ni.mono (by decide) (by decide)
    | exact ni_d0.mono (by decide) (by decide)
    | exact (bo_one (w' := 19000) bo_unit (by decide)).ni.mono (by decide) (by decide)
    | exact (bo_one (w' := 19000) (bo_bool _) (by decide)).ni.mono (by decide) (by decide)
    | exact (bo_one (w' := 19000) (bi _ (by simp)) (by decide)).ni.mono (by decide) (by decide)
    | exact (bo_one (w' := 19000) (bs _ (by simp)) (by decide)).ni.mono (by decide) (by decide)
  · exact (bo_tup (w := 1) (w' := 10) (d := 0) (xs := []) (by simp) (by decide)).ni.mono (by decide) (by decide)
  · exact Ni.mono (w := 10) (d := 1) (.inl (fi_lst (w := 1) (w' := 10) (d := 0) (xs := []) (by simp) (by decide))) (by decide) (by decide)
  · exact Ni.mono (w := 19000) (d := 1) (.inl (fi_lst (w := 2000) (w' := 19000) (d := 0) (xs := [toV eS [73, 82]]) (by simp; exact (bs _ (by simp)).1) (by decide))) (by decide) (by decide)
  · exact Ni.mono (w := 19000) (d := 1) (.inl (fi_lst (w := 1921) (w' := 19000) (d := 0) (xs := [toV eI 1]) (by simp; exact (bi _ (by simp)).1) (by decide))) (by decide) (by decide)
  · exact (show Ni 100 1 (vD [(.inr "IR", (toV eI 1))]) from .inr ⟨.dict [(.str "IR", .int 1)], by simp [vD, rdX, rdXD, keyD, eV, toV, eI], by decide +kernel, by decide +kernel, by decide +kernel⟩).mono (by decide) (by decide)
  · exact (bo_one (w := 10) (w' := 19000) (bo_tup (w := 1) (w' := 10) (d := 0) (xs := []) (by simp) (by decide)) (by decide)).ni.mono (by decide) (by decide)
end G

set_option Elab.async false
set_option linter.all false
set_option maxRecDepth 100000
set_option maxHeartbeats 4000000
namespace G
open PySem PySem.Spec PyProof.Rows L2
abbrev Sh (w d : Nat) (v : VV) : Prop := Shw v.1 w d
section
variable {w d w' d' : Nat} {v y : VV} {xs : List VV}
theorem sh_key {i : Int} (h : -1000000000000000 ≤ i ∧ i ≤ 1000000000000000) : Sh 1921 0 (toV eI i) := (bo_key h).2
theorem sh_wL {w : List Bool} (h : w.length ≤ 1000) : Sh 20000 0 (toV eS (wL w)) := (bo_wL h).2
theorem sh_tup (h : ∀ x ∈ xs, Sh w d x) (hw : xs.length * (w + 2) + 3 ≤ w') : Sh w' (d + 1) (toV (eT eV) xs) := by
  refine (Shw.tup (w := w) (dp := d) (xs := xs.map eV) fun z hz => ?_).mono (by rw [List.length_map]; exact hw) (Nat.le_refl _)
  obtain ⟨x, hx, rfl⟩ := List.mem_map.mp hz
  exact h x hx
theorem sh_three {x y z : VV} (h1 : Sh w d x) (h2 : Sh w d y) (h3 : Sh w d z) (hw : 3 * w + 9 ≤ w') : Sh w' (d + 1) (toV (eT eV) [x, y, z]) := sh_tup (w := w) (fun u hz => by
  simp only [List.mem_cons, List.not_mem_nil, or_false] at hz
  rcases hz with rfl | rfl | rfl
  · exact h1
  · exact h2
  · exact h3) (by simp; omega)
theorem Sh.rp (h : Sh w d v) (hw : w ≤ 16777216) (hd : d ≤ 60) : ∃ r, rpO v.1 = some r := h.rpO hw hd
end
inductive Gv (f : Nat → Nat) (b : Nat) : Nat → VV → Prop where
  | int {d : Nat} {i : Int} (h : i.natAbs < 10 ^ 60 + b) : Gv f b d (toV eI i)
  | bool {d : Nat} (c : Bool) : Gv f b d (toV eB c)
  | unit {d : Nat} : Gv f b d (toV eU ())
  | str {d : Nat} {z : List Nat} (hl : z.length ≤ 160 + b) (hc : ∀ c ∈ z, c < 128) : Gv f b d (toV eS z)
  | dct {d : Nat} {kvs : List (Key × VV)} (h : Sh 2100 1 (vD kvs)) : Gv f b (d + 1) (vD kvs)
  | tup {d : Nat} {xs : List VV} (hl : xs.length ≤ f (d + 1)) (h : ∀ x ∈ xs, Gv f b d x) : Gv f b (d + 1) (toV (eT eV) xs)
  | lst {d : Nat} {xs : List VV} (hl : xs.length ≤ f (d + 1)) (h : ∀ x ∈ xs, Gv f b d x) : Gv f b (d + 1) (toV (eL eV) xs)
theorem Gv.mono {f f' : Nat → Nat} {b b' d : Nat} {v : VV} (h : Gv f b d v) (hf : ∀ e, f e ≤ f' e) (hb : b ≤ b') : Gv f' b' d v := by
  induction h with
  | int h => exact .int (by omega)
  | bool b => exact .bool b
  | unit => exact .unit
  | str hl hc => exact .str (by omega) hc
  | dct h => exact .dct h
  | @tup d xs hl h ih => exact .tup (Nat.le_trans hl (hf _)) ih
  | @lst d xs hl h ih => exact .lst (Nat.le_trans hl (hf _)) ih
theorem Gv.w {f : Nat → Nat} {b d : Nat} {v : VV} (h : Gv f b d v) (hb : b ≤ 40) : KnW v := by
  cases h with
  | int h => exact (kt_int _ 0)
  | bool b => exact (kt_bool _ 0)
  | unit => exact (kt_unit 0)
  | str hl hc => exact kt_str (by omega) 0
  | dct h => exact kt_dct _ 0
  | tup hl h => exact kt_tup0 _
  | lst hl h => exact kt_lst _ 0
theorem Gv.kt {f : Nat → Nat} {b d : Nat} {v : VV} (h : Gv f b d v) (hb : b ≤ 40) : ∀ e, Kt e v := by
  induction h with
  | int h => exact fun e => kt_int _ e
  | bool b => exact fun e => kt_bool _ e
  | unit => exact fun e => kt_unit e
  | str hl hc => exact fun e => kt_str (by omega) e
  | dct h => exact fun e => kt_dct _ e
  | tup hl h ih => intro e; cases e with
    | zero => exact kt_tup0 _
    | succ e => exact kt_tup fun x hx => ih x hx e
  | lst hl h ih => exact fun e => kt_lst _ e
end G

set_option Elab.async false
set_option linter.all false
set_option maxRecDepth 100000
set_option maxHeartbeats 4000000
namespace G
open PySem PySem.Spec PyProof.Rows L2
inductive Gs (f : Nat → Nat) (b : Nat) : Nat → VV → Prop where
  | int {d : Nat} {i : Int} (h : i.natAbs < 10 ^ 13 + b) : Gs f b d (toV eI i)
  | bool {d : Nat} (c : Bool) : Gs f b d (toV eB c)
  | unit {d : Nat} : Gs f b d (toV eU ())
  | str {d : Nat} {z : List Nat} (hl : z.length ≤ 24 + b) (hc : ∀ c ∈ z, c < 128) : Gs f b d (toV eS z)
  | dct {d : Nat} {kvs : List (Key × VV)} (h : Sh 200 1 (vD kvs)) : Gs f b (d + 1) (vD kvs)
  | tup {d : Nat} {xs : List VV} (hl : xs.length ≤ f (d + 1)) (h : ∀ x ∈ xs, Gs f b d x) : Gs f b (d + 1) (toV (eT eV) xs)
  | lst {d : Nat} {xs : List VV} (hl : xs.length ≤ f (d + 1)) (h : ∀ x ∈ xs, Gs f b d x) : Gs f b (d + 1) (toV (eL eV) xs)
theorem Gs.mono {f f' : Nat → Nat} {b b' d : Nat} {v : VV} (h : Gs f b d v) (hf : ∀ e, f e ≤ f' e) (hb : b ≤ b') : Gs f' b' d v := by
  induction h with
  | int h => exact .int (by omega)
  | bool b => exact .bool b
  | unit => exact .unit
  | str hl hc => exact .str (by omega) hc
  | dct h => exact .dct h
  | @tup d xs hl h ih => exact .tup (Nat.le_trans hl (hf _)) ih
  | @lst d xs hl h ih => exact .lst (Nat.le_trans hl (hf _)) ih
theorem Gs.w {f : Nat → Nat} {b d : Nat} {v : VV} (h : Gs f b d v) (hb : b ≤ 24) : KnW v := by
  cases h with
  | int h => exact (kt_int _ 0)
  | bool b => exact (kt_bool _ 0)
  | unit => exact (kt_unit 0)
  | str hl hc => exact kt_str (by omega) 0
  | dct h => exact kt_dct _ 0
  | tup hl h => exact kt_tup0 _
  | lst hl h => exact kt_lst _ 0
theorem Gs.kt {f : Nat → Nat} {b d : Nat} {v : VV} (h : Gs f b d v) (hb : b ≤ 24) : ∀ e, Kt e v := by
  induction h with
  | int h => exact fun e => kt_int _ e
  | bool b => exact fun e => kt_bool _ e
  | unit => exact fun e => kt_unit e
  | str hl hc => exact fun e => kt_str (by omega) e
  | dct h => exact fun e => kt_dct _ e
  | tup hl h ih => intro e; cases e with
    | zero => exact kt_tup0 _
    | succ e => exact kt_tup fun x hx => ih x hx e
  | lst hl h ih => exact fun e => kt_lst _ e
end G

set_option Elab.async false
set_option linter.all false
set_option maxRecDepth 100000
set_option maxHeartbeats 4000000
namespace G.L_heappairs_k28_exchanges_of_words
open PySem PySem.Spec PyProof.Rows L2
def topS (i : Nat) : Stmt := PySem.Challenge.pw_heappairs_k28_exchanges_of_words.main.body.getD i (.Pass ⟨0, 0, 0, 0⟩)
abbrev s__law_stream : Stmt := topS 17
theorem sc__law_stream : FnScope ["_law_script", "_law_cell"] ["_law_script"] (defScope s__law_stream) := ⟨rfl, rfl, rfl, by decide +kernel, rfl, by decide +kernel, by decide +kernel⟩
abbrev s__law_all_words : Stmt := topS 20
theorem sc__law_all_words : FnScope ["_law_count", "_law_found", "_law_turn", "_law_longer", "_law_word", "_law_inserted"] ["_law_count"] (defScope s__law_all_words) := ⟨rfl, rfl, rfl, by decide +kernel, rfl, by decide +kernel, by decide +kernel⟩
abbrev s__law_pick : Stmt := topS 18
theorem sc__law_pick : FnScope ["_law_stream_here", "_law_bound", "_law_cell", "_law_digit", "_law_cells", "_law_mixed"] ["_law_stream_here", "_law_bound"] (defScope s__law_pick) := ⟨rfl, rfl, rfl, by decide +kernel, rfl, by decide +kernel, by decide +kernel⟩
abbrev s__law_drawn_word : Stmt := topS 19
theorem sc__law_drawn_word : FnScope ["_law_stream_here", "_law_count", "_law_kind", "_law_word", "_law_inserted", "_law_turn", "_law_drawn", "_law_inserts"] ["_law_stream_here", "_law_count"] (defScope s__law_drawn_word) := ⟨rfl, rfl, rfl, by decide +kernel, rfl, by decide +kernel, by decide +kernel⟩
abbrev s__law_word_of : Stmt := topS 22
theorem sc__law_word_of : FnScope ["_law_row_here", "_law_word", "_law_inserted", "_law_item"] ["_law_row_here"] (defScope s__law_word_of) := ⟨rfl, rfl, rfl, by decide +kernel, rfl, by decide +kernel, by decide +kernel⟩
abbrev s__law_row : Stmt := topS 21
theorem sc__law_row : FnScope ["_law_word", "_law_at"] ["_law_word"] (defScope s__law_row) := ⟨rfl, rfl, rfl, by decide +kernel, rfl, by decide +kernel, by decide +kernel⟩
abbrev s_word_of_row : Stmt := topS 8
theorem sc_word_of_row : FnScope ["row", "word", "inserted", "item"] ["row"] (defScope s_word_of_row) := ⟨rfl, rfl, rfl, by decide +kernel, rfl, by decide +kernel, by decide +kernel⟩
abbrev s_later_row : Stmt := topS 9
theorem sc_later_row : FnScope ["first", "second", "pair"] ["first", "second"] (defScope s_later_row) := ⟨rfl, rfl, rfl, by decide +kernel, rfl, by decide +kernel, by decide +kernel⟩
abbrev s_word_row : Stmt := topS 7
theorem sc_word_row : FnScope ["word", "row", "inserted", "letter"] ["word"] (defScope s_word_row) := ⟨rfl, rfl, rfl, by decide +kernel, rfl, by decide +kernel, by decide +kernel⟩
abbrev s_later_word : Stmt := topS 10
theorem sc_later_word : FnScope ["first", "second"] ["first", "second"] (defScope s_later_word) := ⟨rfl, rfl, rfl, by decide +kernel, rfl, by decide +kernel, by decide +kernel⟩
abbrev s_earlier_word : Stmt := topS 11
theorem sc_earlier_word : FnScope ["first", "second", "pair"] ["first", "second"] (defScope s_earlier_word) := ⟨rfl, rfl, rfl, by decide +kernel, rfl, by decide +kernel, by decide +kernel⟩
abbrev s_exchange_distance : Stmt := topS 12
theorem sc_exchange_distance : FnScope ["first", "second", "one", "other"] ["first", "second"] (defScope s_exchange_distance) := ⟨rfl, rfl, rfl, by decide +kernel, rfl, by decide +kernel, by decide +kernel⟩
abbrev s__law_distance : Stmt := topS 24
theorem sc__law_distance : FnScope ["_law_first", "_law_second", "_law_one", "_law_other"] ["_law_first", "_law_second"] (defScope s__law_distance) := ⟨rfl, rfl, rfl, by decide +kernel, rfl, by decide +kernel, by decide +kernel⟩
abbrev s__law_words_right : Stmt := topS 28
theorem sc__law_words_right : FnScope ["_law_first", "_law_second", "_law_one", "_law_other", "_law_less", "_law_more", "_law_found", "_law_pair"] ["_law_first", "_law_second"] (defScope s__law_words_right) := ⟨rfl, rfl, rfl, by decide +kernel, rfl, by decide +kernel, by decide +kernel⟩
abbrev s_lowered_rows : Stmt := topS 13
theorem sc_lowered_rows : FnScope ["row", "target", "found", "index", "item", "lower"] ["row", "target"] (defScope s_lowered_rows) := ⟨rfl, rfl, rfl, by decide +kernel, rfl, by decide +kernel, by decide +kernel⟩
abbrev s_exchange_path : Stmt := topS 14
theorem sc_exchange_path : FnScope ["first", "second", "one", "other", "target", "rows", "row"] ["first", "second"] (defScope s_exchange_path) := ⟨rfl, rfl, rfl, by decide +kernel, rfl, by decide +kernel, by decide +kernel⟩
abbrev s__law_odd : Stmt := topS 23
theorem sc__law_odd : FnScope ["_law_stream_here", "_law_some"] ["_law_stream_here"] (defScope s__law_odd) := ⟨rfl, rfl, rfl, by decide +kernel, rfl, by decide +kernel, by decide +kernel⟩
abbrev s__law_values : Stmt := topS 29
theorem sc__law_values : FnScope ["_law_stream_here", "_law_path", "_law_at", "_law_there", "_law_other", "_law_some"] ["_law_stream_here", "_law_path"] (defScope s__law_values) := ⟨rfl, rfl, rfl, by decide +kernel, rfl, by decide +kernel, by decide +kernel⟩
abbrev s_word_error : Stmt := topS 4
theorem sc_word_error : FnScope ["value", "size", "index", "letter"] ["value"] (defScope s_word_error) := ⟨rfl, rfl, rfl, by decide +kernel, rfl, by decide +kernel, by decide +kernel⟩
abbrev s_is_word : Stmt := topS 5
theorem sc_is_word : FnScope ["value"] ["value"] (defScope s_is_word) := ⟨rfl, rfl, rfl, by decide +kernel, rfl, by decide +kernel, by decide +kernel⟩
abbrev s_is_exchange_path : Stmt := topS 15
theorem sc_is_exchange_path : FnScope ["first", "second", "value", "one", "other", "word"] ["first", "second", "value"] (defScope s_is_exchange_path) := ⟨rfl, rfl, rfl, by decide +kernel, rfl, by decide +kernel, by decide +kernel⟩
abbrev s__law_is_word : Stmt := topS 25
theorem sc__law_is_word : FnScope ["_law_value", "_law_length", "_law_size", "_law_letter"] ["_law_value", "_law_length"] (defScope s__law_is_word) := ⟨rfl, rfl, rfl, by decide +kernel, rfl, by decide +kernel, by decide +kernel⟩
abbrev s__law_is_step : Stmt := topS 26
theorem sc__law_is_step : FnScope ["_law_one", "_law_other", "_law_at"] ["_law_one", "_law_other"] (defScope s__law_is_step) := ⟨rfl, rfl, rfl, by decide +kernel, rfl, by decide +kernel, by decide +kernel⟩
abbrev s__law_is_path : Stmt := topS 27
theorem sc__law_is_path : FnScope ["_law_first", "_law_second", "_law_value", "_law_word", "_law_at"] ["_law_first", "_law_second", "_law_value"] (defScope s__law_is_path) := ⟨rfl, rfl, rfl, by decide +kernel, rfl, by decide +kernel, by decide +kernel⟩
abbrev s__law_right : Stmt := topS 30
theorem sc__law_right : FnScope ["_law_stream_here", "_law_first", "_law_second", "_law_path", "_law_value", "_law_shown", "_law_found"] ["_law_stream_here", "_law_first", "_law_second"] (defScope s__law_right) := ⟨rfl, rfl, rfl, by decide +kernel, rfl, by decide +kernel, by decide +kernel⟩
abbrev s_law : Stmt := topS 31
theorem sc_law : FnScope ["_law_script", "_law_stream_here", "_law_some", "_law_first", "_law_second", "_law_turn", "_law_count"] ["_law_script"] (defScope s_law) := ⟨rfl, rfl, rfl, by decide +kernel, rfl, by decide +kernel, by decide +kernel⟩
abbrev N__law_pick : List Str := ["_law_stream_here", "_law_bound", "_law_cell", "_law_digit", "_law_cells", "_law_mixed"]
noncomputable def m__law_pick : MS := sSeq (sSub sSetI (mVar 0) (mC (.int 3)) (mO2 sAdd (mO2 sIx (mVar 0) (mC (.int 3))) (mC (.int 1)))) (sSeq (sWhile (mAndT (mTB (mO2 sEq (mO2 sIx (mVar 0) (mC (.int 2))) (mC (.int 0)))) (mTB (mO2 cLt (mO2 sIx (mVar 0) (mC (.int 1))) (mCa sLen (mCons (mO2 sIx (mVar 0) (mC (.int 0))) (mNil)))))) (sSeq (sSet 2 (mO2 sIx (mO2 sIx (mVar 0) (mC (.int 0))) (mO2 sIx (mVar 0) (mC (.int 1))))) (sSeq (sSub sSetI (mVar 0) (mC (.int 1)) (mO2 sAdd (mO2 sIx (mVar 0) (mC (.int 1))) (mC (.int 1)))) (sSub sSetI (mVar 0) (mC (.int 2)) (mO2 aMul (mVar 2) (mCa sInt (mCons (mO2 cGe (mVar 2) (mO2 aPow (mC (.int 10)) (mC (.int 18)))) (mNil)))))))) (sSeq (sIf (mTB (mO2 cGt (mO2 sIx (mVar 0) (mC (.int 2))) (mC (.int 0)))) (sSeq (sSet 3 (mO2 aMod (mO2 sIx (mVar 0) (mC (.int 2))) (mVar 1))) (sSeq (sSub sSetI (mVar 0) (mC (.int 2)) (mO2 aDiv (mO2 sIx (mVar 0) (mC (.int 2))) (mVar 1))) (sRet (mVar 3)))) (sNil)) (sSeq (sSet 4 (mO2 sAdd (mO2 sIx (mVar 0) (mC (.int 0))) (mLst (mCons (mC (.int 2803)) (mNil))))) (sSeq (sSet 2 (mO2 sAdd (mO2 aMod (mO2 sIx (mVar 4) (mO2 aMod (mO2 sIx (mVar 0) (mC (.int 3))) (mCa sLen (mCons (mVar 4) (mNil))))) (mC (.int 2147483629))) (mC (.int 2803)))) (sSeq (sSet 5 (mO2 aMod (mO2 aPow (mO2 sAdd (mVar 2) (mO2 aMul (mO2 sIx (mVar 0) (mC (.int 3))) (mO2 sAdd (mO2 sIx (mVar 0) (mC (.int 3))) (mC (.int 12347))))) (mC (.int 3))) (mC (.int 2147483587)))) (sRet (mO2 aMod (mO2 aDiv (mO2 aMod (mO2 sAdd (mO2 aMul (mVar 5) (mC (.int 69069))) (mO2 aMul (mC (.int 907133923)) (mO2 sIx (mVar 0) (mC (.int 3))))) (mC (.int 4294967291))) (mC (.int 16))) (mVar 1))))))))
noncomputable def x__law_pick (stream_here : Stm) (bound : Int) : Option (Int × Stm) :=
  (whO (fun (stream_here1 : Stm) => (some ((decide (stream_here1.rest = 0)) && (decide (stream_here1.pos < (stream_here1.cells.length : Int)))))) (fun (stream_here1 : Stm) =>
    (atI stream_here1.cells stream_here1.pos).bind fun r1 =>
    (fMul r1 (if (decide (1000000000000000000 ≤ r1)) then 1 else 0 : Int)).bind fun r2 =>
    some ({ ({ stream_here1 with pos := (stream_here1.pos + 1) } : Stm) with rest := r2 } : Stm)) fuel (({ stream_here with st := (stream_here.st + 1) } : Stm) : Stm)).bind fun stream_here2 =>
  if (decide (0 < stream_here2.rest)) then
    (fMod stream_here2.rest bound).bind fun r3 =>
    (fDiv stream_here2.rest bound).bind fun r4 =>
    some (r3, ({ stream_here2 with rest := r4 } : Stm))
  else
    (szO (stream_here2.cells ++ [2803])).bind fun r5 =>
    (fMod stream_here2.st (r5.length : Int)).bind fun r6 =>
    (atI r5 r6).bind fun r7 =>
    (some ((r7 % 2147483629) + 2803)).bind fun cell =>
    (fMul stream_here2.st (stream_here2.st + 12347)).bind fun r8 =>
    (fPow (cell + r8) 3).bind fun r9 =>
    (fMod (((((r9 % 2147483587) * 69069) + (907133923 * stream_here2.st)) % 4294967291) / 16) bound).bind fun r10 =>
    some (r10, stream_here2)
noncomputable def f__law_pick : Fn := runU N__law_pick m__law_pick
theorem tr__law_pick {S0 : Sto} (hn : ncS S0) {k : Nat} {stream_here : Stm} (hk : S0[k]? = some stream_here.cell) {bound : Int} {r : Int} {s' : Stm} (h : x__law_pick stream_here bound = some (r, s')) : f__law_pick [.cell k, eI bound] S0 = some (.ok (eI r) (S0.set k s'.cell)) := by
  have hk_k : k < S0.length := (List.getElem?_eq_some_iff.mp hk).1
  refine fin_ok (St.startB hn hk) List.length_set ?_
  show Run (S0.set k stream_here.cell) [(k, stream_here.cell)] m__law_pick [some (.cell k), some (eI bound), none, none, none, none] (Fin (S0.set k s'.cell) eI r)
  unfold x__law_pick at h
  unfold m__law_pick
  refine run_one ?_
  refine run_assoc ?_
  refine run_sub (ev_o2 (ev_o2 v0 ev_c fun _ h => ix_stm3 (h.at 0 gt0)) ev_c fun _ _ => op_add) v0 ev_c (stm_setK (s' := ({ stream_here with st := (stream_here.st + 1) } : Stm)) 0 gt0 (ltset hk_k) (by decide) (by decide) rfl (List.set_set _) st0) ?_
  refine run_assoc ?_
  replace h := Option.bind_eq_some_iff.mp h; obtain ⟨stream_here2, ql, h⟩ := h
  try dsimp only at h
  refine run_wh (s := ({ stream_here with st := (stream_here.st + 1) } : Stm)) (fun (s : Stm) ρ S => ∃ j_2 : Option Val, ρ = [some (.cell k), some (eI bound), j_2, none, none, none] ∧ St (S0.set k s.cell) S [(k, s.cell)]) ql (fun S hS => ⟨_, rfl, hS⟩) ?_ ?_ ?_
  · clear h ql
    rintro stream_here1 c ρ S ⟨j_2, rfl, hS⟩ h
    try dsimp only at h hS
    try dsimp only
    obtain rfl := Option.some.inj h
    exact x_inv (fun _ hS => ⟨_, rfl, hS⟩) hS (ev_and (ev_tb (ev_o2 (ev_o2 v0 ev_c fun _ h => ix_stm2 (h.at 0 gt0)) ev_c fun _ h => op_eqI)) (ev_tb (ev_o2 (ev_o2 v0 ev_c fun _ h => ix_stm1 (h.at 0 gt0)) (ev_ca (ev_cons (ev_o2 v0 ev_c fun _ h => ix_stm0 (h.at 0 gt0)) ev_nil) fun _ h => op_len sqL) fun _ h => cmp_int _ _ _ _)))
  · clear h ql
    rintro stream_here1 s' ρ S ⟨j_2, rfl, hS⟩ - h
    try dsimp only at h hS
    try dsimp only
    refine Run.go hS (run_one ?_)
    refine run_assoc ?_
    replace h := Option.bind_eq_some_iff.mp h; obtain ⟨r1, q1, h⟩ := h
    refine run_set st2 (ev_o2 (ev_o2 v0 ev_c fun _ h => ix_stm0 (h.at 0 gt0)) (ev_o2 v0 ev_c fun _ h => ix_stm1 (h.at 0 gt0)) fun _ h => op_ix sqL q1) ?_
    refine run_assoc ?_
    refine run_sub (ev_o2 (ev_o2 v0 ev_c fun _ h => ix_stm1 (h.at 0 gt0)) ev_c fun _ _ => op_add) v0 ev_c (stm_setK (s' := ({ stream_here1 with pos := (stream_here1.pos + 1) } : Stm)) 0 gt0 (ltset hk_k) (by decide) (by decide) rfl (List.set_set _) st0) ?_
    replace h := Option.bind_eq_some_iff.mp h; obtain ⟨r2, q2, h⟩ := h
    refine run_sub (ev_o2 v2 (ev_ca (ev_cons (ev_o2 v2 (ev_o2 ev_c ev_c fun _ _ => op_pow (show fPow 10 18 = some 1000000000000000000 by decide)) fun _ h => cmp_int _ _ _ _) ev_nil) fun _ _ => op_intB) fun _ _ => op_mul q2) v0 ev_c (stm_setK (s' := ({ ({ stream_here1 with pos := (stream_here1.pos + 1) } : Stm) with rest := r2 } : Stm)) 0 gt0 (ltset hk_k) (by decide) (by decide) rfl (List.set_set _) st0) ?_
    cases h
    exact run_nil fun _ hS => turn_next ⟨_, rfl, hS⟩
  rintro ρ S ⟨j_2, rfl, hS⟩
  try dsimp only at hS
  try dsimp only
  refine Run.go hS ?_
  refine run_assoc ?_
  refine run_if (decide (0 < stream_here2.rest)) (ev_tb (ev_o2 (ev_o2 v0 ev_c fun _ h => ix_stm2 (h.at 0 gt0)) ev_c fun _ h => cmp_int _ _ _ _)) (fun hc => ?_) (fun hc => ?_)
  · rw [ifT hc] at h
    refine run_assoc ?_
    replace h := Option.bind_eq_some_iff.mp h; obtain ⟨r3, q3, h⟩ := h
    refine run_set st3 (ev_o2 (ev_o2 v0 ev_c fun _ h => ix_stm2 (h.at 0 gt0)) v1 fun _ _ => op_mod q3) ?_
    refine run_assoc ?_
    replace h := Option.bind_eq_some_iff.mp h; obtain ⟨r4, q4, h⟩ := h
    refine run_sub (ev_o2 (ev_o2 v0 ev_c fun _ h => ix_stm2 (h.at 0 gt0)) v1 fun _ _ => op_div q4) v0 ev_c (stm_setK (s' := ({ stream_here2 with rest := r4 } : Stm)) 0 gt0 (ltset hk_k) (by decide) (by decide) rfl (List.set_set _) st0) ?_
    refine run_ret v3 fun _ hS => ?_
    cases h
    exact fin_val rfl hS
  · rw [ifF hc] at h
    refine run_skip ?_
    refine run_assoc ?_
    replace h := Option.bind_eq_some_iff.mp h; obtain ⟨r5, q5, h⟩ := h
    refine run_set st4 (ev_o2 (ev_o2 v0 ev_c fun _ h => ix_stm0 (h.at 0 gt0)) (lstT (e := eI) (xs := [2803]) (ev_cons ev_c ev_nil) (by simp)) fun _ h => op_addL lsL lsL q5) ?_
    refine run_assoc ?_
    replace h := Option.bind_eq_some_iff.mp h; obtain ⟨r6, q6, h⟩ := h
    replace h := Option.bind_eq_some_iff.mp h; obtain ⟨r7, q7, h⟩ := h
    replace h := Option.bind_eq_some_iff.mp h; obtain ⟨cell, q8, h⟩ := h
    refine run_set st2 (X.cast (congrArg eI (Option.some.inj q8)) (ev_o2 (ev_o2 (ev_o2 v4 (ev_o2 (ev_o2 v0 ev_c fun _ h => ix_stm3 (h.at 0 gt0)) (ev_ca (ev_cons v4 ev_nil) fun _ h => op_len sqL) fun _ _ => op_mod q6) fun _ h => op_ix sqL q7) ev_c fun _ _ => op_modC (by decide)) ev_c fun _ _ => op_add)) ?_
    refine run_assoc ?_
    replace h := Option.bind_eq_some_iff.mp h; obtain ⟨r8, q9, h⟩ := h
    replace h := Option.bind_eq_some_iff.mp h; obtain ⟨r9, q10, h⟩ := h
    refine run_set st5 (ev_o2 (ev_o2 (ev_o2 v2 (ev_o2 (ev_o2 v0 ev_c fun _ h => ix_stm3 (h.at 0 gt0)) (ev_o2 (ev_o2 v0 ev_c fun _ h => ix_stm3 (h.at 0 gt0)) ev_c fun _ _ => op_add) fun _ _ => op_mul q9) fun _ _ => op_add) ev_c fun _ _ => op_pow q10) ev_c fun _ _ => op_modC (by decide)) ?_
    replace h := Option.bind_eq_some_iff.mp h; obtain ⟨r10, q11, h⟩ := h
    refine run_ret (ev_o2 (ev_o2 (ev_o2 (ev_o2 (ev_o2 v5 ev_c fun _ _ => op_mulR (by decide) (by decide)) (ev_o2 ev_c (ev_o2 v0 ev_c fun _ h => ix_stm3 (h.at 0 gt0)) fun _ _ => op_mulL (by decide) (by decide)) fun _ _ => op_add) ev_c fun _ _ => op_modC (by decide)) ev_c fun _ _ => op_divC (by decide) (by decide)) v1 fun _ _ => op_mod q11) fun _ hS => ?_
    cases h
    exact fin_val rfl hS
theorem pick_ok {c : Int} {s : Stm} {n : Int} (h : CS c s) (hc : c ≤ 1000000) (hn : 0 < n) (hb : n < 2 ^ 64) : Ret (x__law_pick s n) fun p => 0 ≤ p.1 ∧ p.1 < n ∧ CS (c + 1) p.2 := by
  obtain ⟨⟨k1, k2, k3, k4⟩, hle, hlen⟩ := h
  unfold x__law_pick
  refine ret_wh (s.cells.length - s.pos.toNat) (fun m (t : Stm) => m = t.cells.length - t.pos.toNat ∧ t.cells = s.cells ∧ 0 ≤ t.pos ∧ 0 ≤ t.rest ∧ t.st = s.st + 1) ⟨rfl, rfl, k2, k3, rfl⟩ (by omega) ?_ ?_
  · rintro m t ⟨rfl, e1, e2, e3, e4⟩
    by_cases c1 : t.rest = 0
    · by_cases c2 : t.pos < (t.cells.length : Int)
      · refine .inr ⟨by simp [c1, c2], ?_⟩
        have hm := List.getElem_mem (l := t.cells) (n := t.pos.toNat) (by omega)
        refine ret_eq (atI_ok e2 c2) ?_
        generalize t.cells[t.pos.toNat]'(by omega) = x at hm
        have hx : 0 ≤ x := k1 x (by rw [← e1]; exact hm)
        refine ret_eq (fMul_r (by split <;> decide) (by split <;> decide)) (ret_some ⟨t.cells.length - (t.pos + 1).toNat, by omega, rfl, e1, by show 0 ≤ t.pos + 1; omega, ?_, e4⟩)
        show 0 ≤ x * _
        split
        · omega
        · omega
      · exact .inl (by simp [c2])
    · exact .inl (by simp [c1])
  · rintro m t ⟨_, e1, e2, e3, e4⟩ _
    refine ret_if (fun c1 => ?_) fun c1 => ?_
    · have c1' : 0 < t.rest := by simpa using c1
      refine ret_eq (fMod_ok hn) (ret_eq (fDiv_ok hn hb) (ret_some ⟨Int.emod_nonneg _ (by omega), Int.emod_lt_of_pos _ hn, ⟨⟨?_, e2, ?_, ?_⟩, ?_, ?_⟩⟩))
      · show ∀ c ∈ t.cells, 0 ≤ c
        rw [e1]; exact k1
      · exact Int.ediv_nonneg (by omega) (by omega)
      · show 0 ≤ t.st
        omega
      · show t.st ≤ c + 1
        omega
      · show t.cells.length ≤ 60
        rw [e1]; exact hlen
    · refine ret_sz (by rw [e1]; simp; omega) (ret_eq (fMod_ok (by simp <;> omega)) ?_)
      have a1 := Int.emod_nonneg t.st (show ((t.cells ++ [2803]).length : Int) ≠ 0 by simp <;> omega)
      have a2 := Int.emod_lt_of_pos t.st (show 0 < ((t.cells ++ [2803]).length : Int) by simp <;> omega)
      refine ret_eq (atI_ok a1 a2) (ret_let ?_)
      generalize (t.cells ++ [2803])[(t.st % ((t.cells ++ [2803]).length : Int)).toNat]'(by omega) = x
      have b1 := Int.emod_nonneg x (show (2147483629 : Int) ≠ 0 by decide)
      have b2 := Int.emod_lt_of_pos x (show (0 : Int) < 2147483629 by decide)
      have hCS : CS (c + 1) t := ⟨⟨by rw [e1]; exact k1, e2, e3, by omega⟩, by omega, by rw [e1]; exact hlen⟩
      refine ret_eq (fMul_l (by omega) (by omega)) ?_
      have m1 : 0 ≤ t.st * (t.st + 12347) := Int.mul_nonneg (by omega) (by omega)
      have m2 : t.st * (t.st + 12347) ≤ 1000001 * 1012348 := Int.mul_le_mul (by omega) (by omega) (by omega) (by omega)
      refine ret_eq (fPow_ok (by decide) (by decide) (by omega)) (ret_eq (fMod_ok hn) (ret_some ⟨Int.emod_nonneg _ (by omega), Int.emod_lt_of_pos _ hn, hCS⟩))
theorem ret_pick' {β : Type} {R : β → Prop} {c : Int} {s : Stm} {n : Int} {k : Int × Stm → Option β} (h : CS c s) (hc : c ≤ 1000000) (hn : 0 < n) (hb : n < 2 ^ 64) (hk : ∀ r s', 0 ≤ r → r < n → CS (c + 1) s' → Ret (k (r, s')) R) : Ret ((x__law_pick s n).bind k) R := ret_bind (pick_ok h hc hn hb) fun p hp => hk p.1 p.2 hp.1 hp.2.1 hp.2.2
abbrev N__law_drawn_word : List Str := ["_law_stream_here", "_law_count", "_law_kind", "_law_word", "_law_inserted", "_law_turn", "_law_drawn", "_law_inserts"]
noncomputable def m__law_drawn_word : MS := sSeq (sSet 2 (mCal 2 f__law_pick (mCons (mVar 0) (mCons (mC (.int 4)) (mNil))))) (sSeq (sAsg (gT 2 (gsCons (gN 3) (gsCons (gN 4) (gsNil)))) (mTup (mCons (mC (.str "")) (mCons (mC (.int 0)) (mNil))))) (sSeq (sFor (mRange1 (mCons (mO2 aMul (mC (.int 2)) (mVar 1)) (mNil))) (gN 5) (sSeq (sSet 6 (mCal 2 f__law_pick (mCons (mVar 0) (mCons (mC (.int 4)) (mNil))))) (sSeq (sSet 7 (mO2 sIx (mLst (mCons (mO2 cLt (mVar 6) (mC (.int 2))) (mCons (mO2 cGt (mVar 6) (mC (.int 0))) (mCons (mO2 sEq (mVar 6) (mC (.int 0))) (mCons (mO2 cLt (mO2 aMod (mVar 5) (mC (.int 6))) (mC (.int 3))) (mNil)))))) (mVar 2))) (sIf (mOrT (mTB (mO2 sEq (mO2 aMul (mC (.int 2)) (mVar 4)) (mVar 5))) (mAndT (mTB (mO2 cLt (mVar 4) (mVar 1))) (mTr (mVar 7)))) (sPar 3 4 (mCons (mO2 sAdd (mVar 3) (mC (.str "I"))) (mCons (mO2 sAdd (mVar 4) (mC (.int 1))) (mNil)))) (sSet 3 (mO2 sAdd (mVar 3) (mC (.str "R")))))))) (sRet (mVar 3))))
noncomputable def x__law_drawn_word (stream_here : Stm) (count : Int) : Option ((List Nat) × Stm) :=
  (x__law_pick stream_here 4).bind fun (r1, s1) =>
  (rngO 0 (2 * count)).bind fun rg =>
  (foldO (fun ((stream_here1, word, inserted) : Stm × (List Nat) × Int) (turn : Int) =>
    (x__law_pick stream_here1 4).bind fun (r2, s2) =>
    (atI [(decide (r2 < 2)), (decide (0 < r2)), (decide (r2 = 0)), (decide ((turn % 6) < 3))] r1).bind fun r3 =>
    if ((decide ((2 * inserted) = turn)) || ((decide (inserted < count)) && r3)) then
      (szO (word ++ [73])).bind fun r4 =>
      some (s2, r4, (inserted + 1))
    else
      (szO (word ++ [82])).bind fun r5 =>
      some (s2, r5, inserted)) rg ((s1, [], 0) : Stm × (List Nat) × Int)).bind fun (stream_here2, word1, inserted1) =>
  some (word1, stream_here2)
noncomputable def f__law_drawn_word : Fn := runU N__law_drawn_word m__law_drawn_word
theorem tr__law_drawn_word {S0 : Sto} (hn : ncS S0) {k : Nat} {stream_here : Stm} (hk : S0[k]? = some stream_here.cell) {count : Int} {r : List Nat} {s' : Stm} (h : x__law_drawn_word stream_here count = some (r, s')) : f__law_drawn_word [.cell k, eI count] S0 = some (.ok (eS r) (S0.set k s'.cell)) := by
  have hk_k : k < S0.length := (List.getElem?_eq_some_iff.mp hk).1
  refine fin_ok (St.startB hn hk) List.length_set ?_
  show Run (S0.set k stream_here.cell) [(k, stream_here.cell)] m__law_drawn_word [some (.cell k), some (eI count), none, none, none, none, none, none] (Fin (S0.set k s'.cell) eS r)
  unfold x__law_drawn_word at h
  unfold m__law_drawn_word
  refine run_one ?_
  refine run_assoc ?_
  replace h := Option.bind_eq_some_iff.mp h; obtain ⟨⟨r1, s1⟩, q1, h⟩ := h
  dsimp only at h
  refine run_set st2 (ev_callK 0 (ev_cons v0 (ev_cons ev_c ev_nil)) rfl gt0 (ltset hk_k) (Stm.nc _) (List.set_set _) st0 fun _ hn hk => tr__law_pick hn hk q1) ?_
  refine run_assoc ?_
  refine run_asg (ev_tup (ev_cons (strc (a := []) (by decide +kernel)) (ev_cons ev_c ev_nil)) (by simp)) (fun _ _ => tg_t rfl (tg_c (tg_n st3) (tg_c (tg_n st4) tg_z))) ?_
  refine run_assoc ?_
  replace h := Option.bind_eq_some_iff.mp h; obtain ⟨rg, q2, h⟩ := h
  replace h := Option.bind_eq_some_iff.mp h; obtain ⟨⟨stream_here2, word1, inserted1⟩, ql, h⟩ := h
  try dsimp only at h
  refine run_fold (enc := eI) (s := (s1, [], 0)) (fun (s : Stm × (List Nat) × Int) ρ S => ∃ j_5 j_6 j_7 : Option Val, ρ = [some (.cell k), some (eI count), some (eI r1), some (eS s.2.1), some (eI s.2.2), j_5, j_6, j_7] ∧ St (S0.set k s.1.cell) S [(k, s.1.cell)]) (it_range1 (ev_cons (ev_o2 ev_c v1 fun _ _ => op_mulL (by decide) (by decide)) ev_nil) q2) ql (fun S hS => ⟨_, _, _, rfl, hS⟩) (fun _ _ _ _ => gOk_nil _) ?_ ?_
  · clear h ql
    rintro ⟨stream_here1, word, inserted⟩ turn s' ρ S ⟨j_5, j_6, j_7, rfl, hS⟩ h
    try dsimp only at h hS
    try dsimp only
    refine ⟨_, (tg_n st5), Run.go hS (run_one ?_)⟩
    refine run_assoc ?_
    replace h := Option.bind_eq_some_iff.mp h; obtain ⟨⟨r2, s2⟩, q3, h⟩ := h
    dsimp only at h
    refine run_set st6 (ev_callK 0 (ev_cons v0 (ev_cons ev_c ev_nil)) rfl gt0 (ltset hk_k) (Stm.nc _) (List.set_set _) st0 fun _ hn hk => tr__law_pick hn hk q3) ?_
    refine run_assoc ?_
    replace h := Option.bind_eq_some_iff.mp h; obtain ⟨r3, q4, h⟩ := h
    refine run_set st7 (ev_o2 (lstT (e := eB) (xs := [(decide (r2 < 2)), (decide (0 < r2)), (decide (r2 = 0)), (decide ((turn % 6) < 3))]) (ev_cons (ev_o2 v6 ev_c fun _ h => cmp_int _ _ _ _) (ev_cons (ev_o2 v6 ev_c fun _ h => cmp_int _ _ _ _) (ev_cons (ev_o2 v6 ev_c fun _ h => op_eqI) (ev_cons (ev_o2 (ev_o2 v5 ev_c fun _ _ => op_modC (by decide)) ev_c fun _ h => cmp_int _ _ _ _) ev_nil)))) (by simp)) v2 fun _ h => op_ix sqL q4) ?_
    refine run_if ((decide ((2 * inserted) = turn)) || ((decide (inserted < count)) && r3)) (ev_or (ev_tb (ev_o2 (ev_o2 ev_c v4 fun _ _ => op_mulL (by decide) (by decide)) v5 fun _ h => op_eqI)) (ev_and (ev_tb (ev_o2 v4 v1 fun _ h => cmp_int _ _ _ _)) (ev_tr v7 fun _ h => tr_bl _ _))) (fun hc => ?_) (fun hc => ?_)
    · rw [ifT hc] at h
      replace h := Option.bind_eq_some_iff.mp h; obtain ⟨r4, q5, h⟩ := h
      refine run_par st3 st4 (ev_cons (ev_o2 v3 (strc (a := [73]) (by decide +kernel)) fun _ _ => op_addS q5) (ev_cons (ev_o2 v4 ev_c fun _ _ => op_add) ev_nil)) ?_
      cases h
      exact run_nil fun _ hS => turn_next ⟨_, _, _, rfl, hS⟩
    · rw [ifF hc] at h
      replace h := Option.bind_eq_some_iff.mp h; obtain ⟨r5, q6, h⟩ := h
      refine run_set st3 (ev_o2 v3 (strc (a := [82]) (by decide +kernel)) fun _ _ => op_addS q6) ?_
      cases h
      exact run_nil fun _ hS => turn_next ⟨_, _, _, rfl, hS⟩
  rintro ρ S ⟨j_5, j_6, j_7, rfl, hS⟩
  try dsimp only at hS
  try dsimp only
  refine Run.go hS ?_
  refine run_ret v3 fun _ hS => ?_
  cases h
  exact fin_val rfl hS
theorem drawn_word_ok {c : Int} {s : Stm} {n : Int} (h : CS c s) (hc : c ≤ 900000) (h0 : 0 ≤ n) (h1 : n ≤ 1000) : Ret (x__law_drawn_word s n) fun p => ∃ w, p.1 = wL w ∧ Dyck w ∧ (w.length : Int) = 2 * n ∧ CS (c + 1 + 2 * n) p.2 := by
  unfold x__law_drawn_word
  refine ret_pick' h (by omega) (by decide) (by decide) fun r1 s1 a1 b1 o1 => ?_
  refine ret_rng (by decide) (by decide) (by omega) (by omega) ?_
  refine ret_fold (fun j (p : Stm × List Nat × Int) => ∃ w : List Bool, p.2.1 = wL w ∧ w.length = j ∧ p.2.2 = (w.count true : Nat) ∧ p.2.2 ≤ n ∧ (∀ k, 0 ≤ bal (w.take k)) ∧ CS (c + 1 + j) p.1) ⟨[], rfl, rfl, rfl, h0, by simp [bal], by simpa using o1⟩ ?_ ?_
  · rintro j x ⟨s2, z, i⟩ hx ⟨w, rfl, hj, rfl, hi, hp, o2⟩
    obtain ⟨h2, rfl⟩ := rng_get hx
    have h2' : (j : Int) < 2 * n := by omega
    dsimp only at hi o2 ⊢
    have hcl := count_len w
    have hbc := bal_count w
    have hb0 : 0 ≤ bal w := by have := hp w.length; rwa [List.take_length] at this
    refine ret_pick' o2 (by omega) (by decide) (by decide) fun r2 s3 a2 b2 o3 => ?_
    have o3' : CS (c + 1 + ((j + 1 : Nat) : Int)) s3 := o3.mono (by omega)
    obtain ⟨b, e, _⟩ := atI_mem (xs := [(decide (r2 < 2)), (decide (0 < r2)), (decide (r2 = 0)), (decide (((0 + (j : Int)) % 6) < 3))]) a1 (by simpa using b1)
    refine ret_eq e ?_
    have hbI : bal (w ++ [true]) = bal w + 1 := by rw [bal_app]; simp [bal]
    have hbR : bal (w ++ [false]) = bal w - 1 := by rw [bal_app]; simp [bal]; omega
    refine ret_if (fun c => ?_) fun c => ?_
    · have hlt : ((w.count true : Nat) : Int) < n := by
        simp only [Bool.or_eq_true, Bool.and_eq_true, decide_eq_true_eq] at c
        rcases c with c | c
        · omega
        · exact c.1
      exact ret_sz (by simp; omega) (ret_some ⟨w ++ [true], by simp, by simp; omega, by simp, by simp; omega, pos_snoc hp (by omega), o3'⟩)
    · have hne : 2 * ((w.count true : Nat) : Int) ≠ 0 + (j : Int) := fun q => by simp [q] at c
      exact ret_sz (by simp; omega) (ret_some ⟨w ++ [false], by simp, by simp; omega, by simp, by simpa using hi, pos_snoc hp (by omega), o3'⟩)
  · rintro ⟨s2, z, i⟩ ⟨w, rfl, hj, rfl, hi, hp, o2⟩
    dsimp only at hi o2 ⊢
    have hcl := count_len w
    have hbc := bal_count w
    have hb0 : 0 ≤ bal w := by have := hp w.length; rwa [List.take_length] at this
    have hj' : (w.length : Int) = 2 * n := by simp at hj; omega
    exact ret_some ⟨w, rfl, ⟨hp, by omega⟩, hj', o2.mono (by simp; omega)⟩
theorem ret_dword {β : Type} {R : β → Prop} {c : Int} {s : Stm} {n : Int} {k : List Nat × Stm → Option β} (h : CS c s) (hc : c ≤ 900000) (h0 : 0 ≤ n) (h1 : n ≤ 1000) (hk : ∀ w s', Dyck w → (w.length : Int) = 2 * n → CS (c + 1 + 2 * n) s' → Ret (k (wL w, s')) R) : Ret ((x__law_drawn_word s n).bind k) R := ret_bind (drawn_word_ok h hc h0 h1) fun p hp => by
  obtain ⟨w, e, h1, h2, h3⟩ := hp
  have := hk w p.2 h1 h2 h3
  rw [← e] at this
  exact this
noncomputable def x_p_word_of_rowl (row : List Int) : Option (List Nat) :=
  (foldO (fun ((word, inserted) : (List Nat) × Int) (item : Int) =>
    (repO [73] (item - inserted)).bind fun r1 =>
    (szO (r1 ++ [82])).bind fun r2 =>
    (szO (word ++ r2)).bind fun word1 =>
    some (word1, item)) row (([], 0) : (List Nat) × Int)).bind fun (word2, inserted1) =>
  some word2
theorem tr_p_word_of_rowl {S0 : Sto} (hn : ncS S0) {row : List Int} {r : List Nat} (h : x_p_word_of_rowl row = some r) : f_p_word_of_row [(eL eI) row] S0 = some (.ok (eS r) S0) := by
  refine fin_ok (St.start hn) rfl ?_
  show Run S0 [] m_p_word_of_row [some ((eL eI) row), none, none, none] (Fin S0 eS r)
  unfold x_p_word_of_rowl at h
  unfold m_p_word_of_row
  refine run_one ?_
  refine run_assoc ?_
  refine run_asg (ev_tup (ev_cons (strc (a := []) (by decide +kernel)) (ev_cons ev_c ev_nil)) (by simp)) (fun _ _ => tg_t rfl (tg_c (tg_n st1) (tg_c (tg_n st2) tg_z))) ?_
  refine run_assoc ?_
  replace h := Option.bind_eq_some_iff.mp h; obtain ⟨⟨word2, inserted1⟩, ql, h⟩ := h
  try dsimp only at h
  refine run_fold (enc := eI) (s := ([], 0)) (fun (s : (List Nat) × Int) ρ S => ∃ j_3 : Option Val, ρ = [some ((eL eI) row), some (eS s.1), some (eI s.2), j_3] ∧ St S0 S []) (it_val v0 fun _ h => items_L) ql (fun S hS => ⟨_, rfl, hS⟩) (fun _ _ _ _ => gOk_nil _) ?_ ?_
  · clear h ql
    rintro ⟨word, inserted⟩ item s' ρ S ⟨j_3, rfl, hS⟩ h
    try dsimp only at h hS
    try dsimp only
    refine ⟨_, (tg_n st3), Run.go hS (run_one ?_)⟩
    refine run_assoc ?_
    replace h := Option.bind_eq_some_iff.mp h; obtain ⟨r1, q1, h⟩ := h
    replace h := Option.bind_eq_some_iff.mp h; obtain ⟨r2, q2, h⟩ := h
    replace h := Option.bind_eq_some_iff.mp h; obtain ⟨word1, q3, h⟩ := h
    refine run_aug gt1 st1 (ev_o2 (ev_o2 (strc (a := [73]) (by decide +kernel)) (ev_o2 v3 v2 fun _ _ => op_sub) fun _ _ => op_repS q1) (strc (a := [82]) (by decide +kernel)) fun _ _ => op_addS q2) (fun _ _ => op_iaddS q3) ?_
    refine run_set st2 v3 ?_
    cases h
    exact run_nil fun _ hS => turn_next ⟨_, rfl, hS⟩
  rintro ρ S ⟨j_3, rfl, hS⟩
  try dsimp only at hS
  try dsimp only
  refine Run.go hS ?_
  refine run_ret v1 fun _ hS => ?_
  cases h
  exact fin_val rfl hS
noncomputable def x_c_word_ofl (row_here : List Int) : Option (List Nat) :=
  (foldO (fun ((word, inserted) : (List Nat) × Int) (item : Int) =>
    (repO [73] (item - inserted)).bind fun r1 =>
    (szO (word ++ r1)).bind fun r2 =>
    (szO (r2 ++ [82])).bind fun r3 =>
    some (r3, item)) row_here (([], 0) : (List Nat) × Int)).bind fun (word1, inserted1) =>
  some word1
theorem tr_c_word_ofl {S0 : Sto} (hn : ncS S0) {row_here : List Int} {r : List Nat} (h : x_c_word_ofl row_here = some r) : f_c_word_of [(eL eI) row_here] S0 = some (.ok (eS r) S0) := by
  refine fin_ok (St.start hn) rfl ?_
  show Run S0 [] m_c_word_of [some ((eL eI) row_here), none, none, none] (Fin S0 eS r)
  unfold x_c_word_ofl at h
  unfold m_c_word_of
  refine run_one ?_
  refine run_assoc ?_
  refine run_asg (ev_tup (ev_cons (strc (a := []) (by decide +kernel)) (ev_cons ev_c ev_nil)) (by simp)) (fun _ _ => tg_t rfl (tg_c (tg_n st1) (tg_c (tg_n st2) tg_z))) ?_
  refine run_assoc ?_
  replace h := Option.bind_eq_some_iff.mp h; obtain ⟨⟨word1, inserted1⟩, ql, h⟩ := h
  try dsimp only at h
  refine run_fold (enc := eI) (s := ([], 0)) (fun (s : (List Nat) × Int) ρ S => ∃ j_3 : Option Val, ρ = [some ((eL eI) row_here), some (eS s.1), some (eI s.2), j_3] ∧ St S0 S []) (it_val v0 fun _ h => items_L) ql (fun S hS => ⟨_, rfl, hS⟩) (fun _ _ _ _ => gOk_nil _) ?_ ?_
  · clear h ql
    rintro ⟨word, inserted⟩ item s' ρ S ⟨j_3, rfl, hS⟩ h
    try dsimp only at h hS
    try dsimp only
    refine ⟨_, (tg_n st3), Run.go hS (run_one ?_)⟩
    refine run_assoc ?_
    replace h := Option.bind_eq_some_iff.mp h; obtain ⟨r1, q1, h⟩ := h
    replace h := Option.bind_eq_some_iff.mp h; obtain ⟨r2, q2, h⟩ := h
    replace h := Option.bind_eq_some_iff.mp h; obtain ⟨r3, q3, h⟩ := h
    refine run_set st1 (ev_o2 (ev_o2 v1 (ev_o2 (strc (a := [73]) (by decide +kernel)) (ev_o2 v3 v2 fun _ _ => op_sub) fun _ _ => op_repS q1) fun _ _ => op_addS q2) (strc (a := [82]) (by decide +kernel)) fun _ _ => op_addS q3) ?_
    refine run_set st2 v3 ?_
    cases h
    exact run_nil fun _ hS => turn_next ⟨_, rfl, hS⟩
  rintro ρ S ⟨j_3, rfl, hS⟩
  try dsimp only at hS
  try dsimp only
  refine Run.go hS ?_
  refine run_ret v1 fun _ hS => ?_
  cases h
  exact fin_val rfl hS
abbrev N_later_row : List Str := ["first", "second", "pair"]
noncomputable def m_later_row : MS := sRet (mCa sTupleX (mCons (mLc (mZipN (mCons (mVar 0) (mCons (mVar 1) (mNil)))) (gN 2) (mYes) (mCa sMinP (mCons (mVar 2) (mNil))) [2]) (mNil)))
noncomputable def x_later_row (first : List Int) (second : List Int) : Option (List Int) :=
  (szO ((zpL first second).map fun (pair : Int × Int) => (min pair.1 pair.2))).bind fun z =>
  some z
noncomputable def f_later_row : Fn := runU N_later_row m_later_row
theorem tr_later_row {S0 : Sto} (hn : ncS S0) {first : List Int} {second : List Int} {r : List Int} (h : x_later_row first second = some r) : f_later_row [(eT eI) first, (eT eI) second] S0 = some (.ok ((eT eI) r) S0) := by
  refine fin_ok (St.start hn) rfl ?_
  show Run S0 [] m_later_row [some ((eT eI) first), some ((eT eI) second), none] (Fin S0 (eT eI) r)
  unfold x_later_row at h
  unfold m_later_row
  refine run_one ?_
  replace h := Option.bind_eq_some_iff.mp h; obtain ⟨z, q1, h⟩ := h
  refine run_ret (ev_ca (ev_cons (ev_lcM (en := eI) (it_zipN (ev_cons v0 (ev_cons v1 ev_nil))) (wipe1 st2) (fun _ h => gOk_nil _) q1 fun pair => ⟨_, fun _ _ => (tg_n st2), (ev_ca (ev_cons v2 ev_nil) fun _ _ => op_minW)⟩) ev_nil) fun _ h => op_tupleX sqL) fun _ hS => ?_
  cases h
  exact fin_val rfl hS
abbrev N_later_word : List Str := ["first", "second"]
noncomputable def m_later_word : MS := sRet (mCal 1 f_p_word_of_row (mCons (mCal 2 f_later_row (mCons (mCal 1 f_p_word_row (mCons (mVar 0) (mNil))) (mCons (mCal 1 f_p_word_row (mCons (mVar 1) (mNil))) (mNil)))) (mNil)))
noncomputable def x_later_word (first : List Nat) (second : List Nat) : Option (List Nat) :=
  (x_p_word_row first).bind fun r1 =>
  (x_p_word_row second).bind fun r2 =>
  (x_later_row r1 r2).bind fun r3 =>
  (x_p_word_of_row r3).bind fun r4 =>
  some r4
noncomputable def f_later_word : Fn := runU N_later_word m_later_word
theorem tr_later_word {S0 : Sto} (hn : ncS S0) {first : List Nat} {second : List Nat} {r : List Nat} (h : x_later_word first second = some r) : f_later_word [eS first, eS second] S0 = some (.ok (eS r) S0) := by
  refine fin_ok (St.start hn) rfl ?_
  show Run S0 [] m_later_word [some (eS first), some (eS second)] (Fin S0 eS r)
  unfold x_later_word at h
  unfold m_later_word
  refine run_one ?_
  replace h := Option.bind_eq_some_iff.mp h; obtain ⟨r1, q1, h⟩ := h
  replace h := Option.bind_eq_some_iff.mp h; obtain ⟨r2, q2, h⟩ := h
  replace h := Option.bind_eq_some_iff.mp h; obtain ⟨r3, q3, h⟩ := h
  replace h := Option.bind_eq_some_iff.mp h; obtain ⟨r4, q4, h⟩ := h
  refine run_ret (ev_call (ev_cons (ev_call (ev_cons (ev_call (ev_cons v0 ev_nil) rfl fun _ hn => tr_p_word_row hn q1) (ev_cons (ev_call (ev_cons v1 ev_nil) rfl fun _ hn => tr_p_word_row hn q2) ev_nil)) rfl fun _ hn => tr_later_row hn q3) ev_nil) rfl fun _ hn => tr_p_word_of_row hn q4) fun _ hS => ?_
  cases h
  exact fin_val rfl hS
abbrev N_earlier_word : List Str := ["first", "second", "pair"]
noncomputable def m_earlier_word : MS := sRet (mCal 1 f_p_word_of_row (mCons (mLc (mZipN (mCons (mCal 1 f_p_word_row (mCons (mVar 0) (mNil))) (mCons (mCal 1 f_p_word_row (mCons (mVar 1) (mNil))) (mNil)))) (gN 2) (mYes) (mCa sMaxP (mCons (mVar 2) (mNil))) [2]) (mNil)))
noncomputable def x_earlier_word (first : List Nat) (second : List Nat) : Option (List Nat) :=
  (x_p_word_row first).bind fun r1 =>
  (x_p_word_row second).bind fun r2 =>
  (szO ((zpL r1 r2).map fun (pair : Int × Int) => (max pair.1 pair.2))).bind fun z =>
  (x_p_word_of_rowl z).bind fun r3 =>
  some r3
noncomputable def f_earlier_word : Fn := runU N_earlier_word m_earlier_word
theorem tr_earlier_word {S0 : Sto} (hn : ncS S0) {first : List Nat} {second : List Nat} {r : List Nat} (h : x_earlier_word first second = some r) : f_earlier_word [eS first, eS second] S0 = some (.ok (eS r) S0) := by
  refine fin_ok (St.start hn) rfl ?_
  show Run S0 [] m_earlier_word [some (eS first), some (eS second), none] (Fin S0 eS r)
  unfold x_earlier_word at h
  unfold m_earlier_word
  refine run_one ?_
  replace h := Option.bind_eq_some_iff.mp h; obtain ⟨r1, q1, h⟩ := h
  replace h := Option.bind_eq_some_iff.mp h; obtain ⟨r2, q2, h⟩ := h
  replace h := Option.bind_eq_some_iff.mp h; obtain ⟨z, q3, h⟩ := h
  replace h := Option.bind_eq_some_iff.mp h; obtain ⟨r3, q4, h⟩ := h
  refine run_ret (ev_call (ev_cons (ev_lcM (en := eI) (it_zipN (ev_cons (ev_call (ev_cons v0 ev_nil) rfl fun _ hn => tr_p_word_row hn q1) (ev_cons (ev_call (ev_cons v1 ev_nil) rfl fun _ hn => tr_p_word_row hn q2) ev_nil))) (wipe1 st2) (fun _ h => gOk_nil _) q3 fun pair => ⟨_, fun _ _ => (tg_n st2), (ev_ca (ev_cons v2 ev_nil) fun _ _ => op_maxW)⟩) ev_nil) rfl fun _ hn => tr_p_word_of_rowl hn q4) fun _ hS => ?_
  cases h
  exact fin_val rfl hS
abbrev N_exchange_distance : List Str := ["first", "second", "one", "other"]
noncomputable def m_exchange_distance : MS := sRet (mCa sSum (mCons (mLc (mZip (mCons (mCal 1 f_p_word_row (mCons (mVar 0) (mNil))) (mCons (mCal 1 f_p_word_row (mCons (mVar 1) (mNil))) (mNil)))) (gT 2 (gsCons (gN 2) (gsCons (gN 3) (gsNil)))) (mYes) (mCa sAbs (mCons (mO2 aSub (mVar 2) (mVar 3)) (mNil))) [2, 3]) (mNil)))
noncomputable def x_exchange_distance (first : List Nat) (second : List Nat) : Option Int :=
  (x_p_word_row first).bind fun r1 =>
  (x_p_word_row second).bind fun r2 =>
  (szO ((zpL r1 r2).map fun ((one, other) : Int × Int) => ((one - other).natAbs : Int))).bind fun z =>
  some z.sum
noncomputable def f_exchange_distance : Fn := runU N_exchange_distance m_exchange_distance
theorem tr_exchange_distance {S0 : Sto} (hn : ncS S0) {first : List Nat} {second : List Nat} {r : Int} (h : x_exchange_distance first second = some r) : f_exchange_distance [eS first, eS second] S0 = some (.ok (eI r) S0) := by
  refine fin_ok (St.start hn) rfl ?_
  show Run S0 [] m_exchange_distance [some (eS first), some (eS second), none, none] (Fin S0 eI r)
  unfold x_exchange_distance at h
  unfold m_exchange_distance
  refine run_one ?_
  replace h := Option.bind_eq_some_iff.mp h; obtain ⟨r1, q1, h⟩ := h
  replace h := Option.bind_eq_some_iff.mp h; obtain ⟨r2, q2, h⟩ := h
  replace h := Option.bind_eq_some_iff.mp h; obtain ⟨z, q3, h⟩ := h
  refine run_ret (ev_ca (ev_cons (ev_lcM (en := eI) (it_zipT (ev_cons (ev_call (ev_cons v0 ev_nil) rfl fun _ hn => tr_p_word_row hn q1) (ev_cons (ev_call (ev_cons v1 ev_nil) rfl fun _ hn => tr_p_word_row hn q2) ev_nil))) (wipe2 st3 st2) (fun _ h => gOk_nil _) q3 fun ⟨one, other⟩ => ⟨_, fun _ _ => (tg_p rfl (tg_c (tg_n st2) (tg_c (tg_n st3) tg_z))), (ev_ca (ev_cons (ev_o2 v2 v3 fun _ _ => op_sub) ev_nil) fun _ _ => op_abs)⟩) ev_nil) fun _ h => op_sum sqL) fun _ hS => ?_
  cases h
  exact fin_val rfl hS
noncomputable def x_exchange_distancev (first : VV) (second : VV) : Option Int :=
  (asS first).bind fun t =>
  (x_p_word_row t).bind fun r1 =>
  (asS second).bind fun t1 =>
  (x_p_word_row t1).bind fun r2 =>
  (szO ((zpL r1 r2).map fun ((one, other) : Int × Int) => ((one - other).natAbs : Int))).bind fun z =>
  some z.sum
theorem tr_exchange_distancev {S0 : Sto} (hn : ncS S0) {first : VV} {second : VV} {r : Int} (h : x_exchange_distancev first second = some r) : f_exchange_distance [eV first, eV second] S0 = some (.ok (eI r) S0) := by
  refine fin_ok (St.start hn) rfl ?_
  show Run S0 [] m_exchange_distance [some (eV first), some (eV second), none, none] (Fin S0 eI r)
  unfold x_exchange_distancev at h
  unfold m_exchange_distance
  refine run_one ?_
  replace h := Option.bind_eq_some_iff.mp h; obtain ⟨t, q1, h⟩ := h
  replace h := Option.bind_eq_some_iff.mp h; obtain ⟨r1, q2, h⟩ := h
  replace h := Option.bind_eq_some_iff.mp h; obtain ⟨t1, q3, h⟩ := h
  replace h := Option.bind_eq_some_iff.mp h; obtain ⟨r2, q4, h⟩ := h
  replace h := Option.bind_eq_some_iff.mp h; obtain ⟨z, q5, h⟩ := h
  refine run_ret (ev_ca (ev_cons (ev_lcM (en := eI) (it_zipT (ev_cons (ev_call (ev_cons (X.cast (asS_cast q1) v0) ev_nil) rfl fun _ hn => tr_p_word_row hn q2) (ev_cons (ev_call (ev_cons (X.cast (asS_cast q3) v1) ev_nil) rfl fun _ hn => tr_p_word_row hn q4) ev_nil))) (wipe2 st3 st2) (fun _ h => gOk_nil _) q5 fun ⟨one, other⟩ => ⟨_, fun _ _ => (tg_p rfl (tg_c (tg_n st2) (tg_c (tg_n st3) tg_z))), (ev_ca (ev_cons (ev_o2 v2 v3 fun _ _ => op_sub) ev_nil) fun _ _ => op_abs)⟩) ev_nil) fun _ h => op_sum sqL) fun _ hS => ?_
  cases h
  exact fin_val rfl hS
abbrev N_lowered_rows : List Str := ["row", "target", "found", "index", "item", "lower"]
noncomputable def m_lowered_rows : MS := sSeq (sSet 2 (mNew (mCons (mVar 0) (mNil)))) (sSeq (sFor (mEnum (mCons (mVar 1) (mNil))) (gT 2 (gsCons (gN 3) (gsCons (gN 4) (gsNil)))) (sFor (mRange3 (mCons (mO2 aSub (mO2 sIx (mVar 0) (mVar 3)) (mC (.int 1))) (mCons (mO2 aSub (mVar 4) (mC (.int 1))) (mCons (mO1 sNeg (mC (.int 1))) (mNil))))) (gN 5) (sExpr (mMt sAppend (mVar 2) (mCons (mO2 sAdd (mO2 sAdd (mSl sSlice (mO2 sIx (mVar 2) (mO1 sNeg (mC (.int 1)))) mNo (mPart (mVar 3))) (mTup (mCons (mVar 5) (mNil)))) (mSl sSlice (mO2 sIx (mVar 2) (mO1 sNeg (mC (.int 1)))) (mPart (mO2 sAdd (mVar 3) (mC (.int 1)))) mNo)) (mNil)))))) (sRet (mVar 2)))
noncomputable def x_lowered_rows (row : List Int) (target : List Int) : Option (List (List Int)) :=
  (foldO (fun (found : List (List Int)) ((index, item) : Int × Int) =>
    (atI row index).bind fun r1 =>
    (rngD (r1 - 1) (item - 1)).bind fun rg =>
    (foldO (fun (found1 : List (List Int)) (lower : Int) =>
      (atI found1 (-1)).bind fun r2 =>
      (szO ((cutL r2 none (some index)) ++ [lower])).bind fun r3 =>
      (atI found1 (-1)).bind fun r4 =>
      (szO (r3 ++ (cutL r4 (some (index + 1)) none))).bind fun r5 =>
      (szO (found1 ++ [r5])).bind fun found2 =>
      some found2) rg (found : List (List Int))).bind fun found3 =>
    some found3) (enI target) ([row] : List (List Int))).bind fun found4 =>
  some found4
noncomputable def f_lowered_rows : Fn := runU N_lowered_rows m_lowered_rows
theorem tr_lowered_rows {S0 : Sto} (hn : ncS S0) {row : List Int} {target : List Int} {r : List (List Int)} (h : x_lowered_rows row target = some r) : f_lowered_rows [(eT eI) row, (eT eI) target] S0 = some (.ok ((eL (eT eI)) r) S0) := by
  refine fin_ok (St.start hn) rfl ?_
  show Run S0 [] m_lowered_rows [some ((eT eI) row), some ((eT eI) target), none, none, none, none] (Fin S0 (eL (eT eI)) r)
  unfold x_lowered_rows at h
  unfold m_lowered_rows
  refine run_one ?_
  refine run_assoc ?_
  refine run_new (xs := [row]) (en := (eT eI)) (ev_cons v0 ev_nil) (by simp) fun k_found ρ_ hk_k_found hρ => ?_
  obtain rfl := st2.symm.trans hρ
  refine run_assoc ?_
  replace h := Option.bind_eq_some_iff.mp h; obtain ⟨found4, ql1, h⟩ := h
  try dsimp only at h
  refine run_fold (enc := (eR eI eI)) (s := [row]) (fun (s : List (List Int)) ρ S => ∃ j_3 j_4 j_5 : Option Val, ρ = [some ((eT eI) row), some ((eT eI) target), some (.cell k_found), j_3, j_4, j_5] ∧ St S0 S [(k_found, .lst (s.map (eT eI)))]) (it_enum (en := eI) (ev_cons v1 ev_nil) fun _ h => items_T) ql1 (fun S hS => ⟨_, _, _, rfl, hS⟩) (fun _ _ _ _ => gOk_nil _) ?_ ?_
  · clear h ql1
    rintro found ⟨index, item⟩ s' ρ S ⟨j_3, j_4, j_5, rfl, hS⟩ h
    try dsimp only at h hS
    try dsimp only
    refine ⟨_, (tg_p rfl (tg_c (tg_n st3) (tg_c (tg_n st4) tg_z))), Run.go hS (run_one ?_)⟩
    replace h := Option.bind_eq_some_iff.mp h; obtain ⟨r1, q1, h⟩ := h
    replace h := Option.bind_eq_some_iff.mp h; obtain ⟨rg, q2, h⟩ := h
    replace h := Option.bind_eq_some_iff.mp h; obtain ⟨found3, ql, h⟩ := h
    try dsimp only at h
    refine run_fold (enc := eI) (s := found) (fun (s : List (List Int)) ρ S => ∃ j_5 : Option Val, ρ = [some ((eT eI) row), some ((eT eI) target), some (.cell k_found), some (eI index), some (eI item), j_5] ∧ St S0 S [(k_found, .lst (s.map (eT eI)))]) (it_range3 (ev_cons (ev_o2 (ev_o2 v0 v3 fun _ h => op_ix sqT q1) ev_c fun _ _ => op_sub) (ev_cons (ev_o2 v4 ev_c fun _ _ => op_sub) (ev_cons (ev_o1 ev_c fun _ _ => op_neg) ev_nil))) q2) ql (fun S hS => ⟨_, rfl, hS⟩) (fun _ _ _ _ => gOk_nil _) ?_ ?_
    · clear h ql
      rintro found1 lower s' ρ S ⟨j_5, rfl, hS⟩ h
      try dsimp only at h hS
      try dsimp only
      refine ⟨_, (tg_n st5), Run.go hS (run_one ?_)⟩
      replace h := Option.bind_eq_some_iff.mp h; obtain ⟨r2, q3, h⟩ := h
      replace h := Option.bind_eq_some_iff.mp h; obtain ⟨r3, q4, h⟩ := h
      replace h := Option.bind_eq_some_iff.mp h; obtain ⟨r4, q5, h⟩ := h
      replace h := Option.bind_eq_some_iff.mp h; obtain ⟨r5, q6, h⟩ := h
      replace h := Option.bind_eq_some_iff.mp h; obtain ⟨found2, q7, h⟩ := h
      refine run_expr (ev_mt v2 (fun _ h => isl (lsC (h.at 0 gt0))) (ev_cons (ev_o2 (ev_o2 (ev_sl (ev_o2 v2 (ev_o1 ev_c fun _ _ => op_neg) fun _ h => op_ix (sqC (h.at 0 gt0)) q3) ev_no (ev_part v3) fun _ _ => op_slT) (tupT (e := eI) (xs := [lower]) (ev_cons v5 ev_nil) (by simp)) fun _ _ => op_addT q4) (ev_sl (ev_o2 v2 (ev_o1 ev_c fun _ _ => op_neg) fun _ h => op_ix (sqC (h.at 0 gt0)) q5) (ev_part (ev_o2 v3 ev_c fun _ _ => op_add)) ev_no fun _ _ => op_slT) fun _ _ => op_addT q6) ev_nil) (mt_append (a := r5) 0 gt0 hk_k_found q7 st0)) ?_
      cases h
      exact run_nil fun _ hS => turn_next ⟨_, rfl, hS⟩
    rintro ρ S ⟨j_5, rfl, hS⟩
    try dsimp only at hS
    try dsimp only
    refine Run.go hS ?_
    cases h
    exact run_nil fun _ hS => turn_next ⟨_, _, _, rfl, hS⟩
  rintro ρ S ⟨j_3, j_4, j_5, rfl, hS⟩
  try dsimp only at hS
  try dsimp only
  refine Run.go hS ?_
  refine run_ret v2 fun _ hS => ?_
  cases h
  exact fin_cell 0 hS gt0 hk_k_found
abbrev N_exchange_path : List Str := ["first", "second", "one", "other", "target", "rows", "row"]
noncomputable def m_exchange_path : MS := sSeq (sPar 2 3 (mCons (mCal 1 f_p_word_row (mCons (mVar 0) (mNil))) (mCons (mCal 1 f_p_word_row (mCons (mVar 1) (mNil))) (mNil)))) (sSeq (sSet 4 (mCal 2 f_later_row (mCons (mVar 2) (mCons (mVar 3) (mNil))))) (sSeq (sSet 5 (mO2 sAdd (mCal 2 f_lowered_rows (mCons (mVar 2) (mCons (mVar 4) (mNil)))) (mBack (mCal 2 f_lowered_rows (mCons (mVar 3) (mCons (mVar 4) (mNil)))) (mO1 sNeg (mC (.int 2))) (mO1 sNeg (mC (.int 1)))))) (sRet (mCa sTupleX (mCons (mLc (mVal (mVar 5)) (gN 6) (mYes) (mCal 1 f_p_word_of_row (mCons (mVar 6) (mNil))) [6]) (mNil))))))
noncomputable def x_exchange_path (first : List Nat) (second : List Nat) : Option (List (List Nat)) :=
  (x_p_word_row first).bind fun r1 =>
  (x_p_word_row second).bind fun r2 =>
  (x_later_row r1 r2).bind fun r3 =>
  (x_lowered_rows r1 r3).bind fun r4 =>
  (x_lowered_rows r2 r3).bind fun r5 =>
  (szO (r4 ++ (bkL r5 (-2)))).bind fun r6 =>
  (lcO (fun (row : List Int) => ((x_p_word_of_row row).bind fun r7 => some (some r7))) r6).bind fun z1 =>
  (szO z1).bind fun z =>
  some z
noncomputable def f_exchange_path : Fn := runU N_exchange_path m_exchange_path
theorem tr_exchange_path {S0 : Sto} (hn : ncS S0) {first : List Nat} {second : List Nat} {r : List (List Nat)} (h : x_exchange_path first second = some r) : f_exchange_path [eS first, eS second] S0 = some (.ok ((eT eS) r) S0) := by
  refine fin_ok (St.start hn) rfl ?_
  show Run S0 [] m_exchange_path [some (eS first), some (eS second), none, none, none, none, none] (Fin S0 (eT eS) r)
  unfold x_exchange_path at h
  unfold m_exchange_path
  refine run_one ?_
  refine run_assoc ?_
  replace h := Option.bind_eq_some_iff.mp h; obtain ⟨r1, q1, h⟩ := h
  replace h := Option.bind_eq_some_iff.mp h; obtain ⟨r2, q2, h⟩ := h
  refine run_par st2 st3 (ev_cons (ev_call (ev_cons v0 ev_nil) rfl fun _ hn => tr_p_word_row hn q1) (ev_cons (ev_call (ev_cons v1 ev_nil) rfl fun _ hn => tr_p_word_row hn q2) ev_nil)) ?_
  refine run_assoc ?_
  replace h := Option.bind_eq_some_iff.mp h; obtain ⟨r3, q3, h⟩ := h
  refine run_set st4 (ev_call (ev_cons v2 (ev_cons v3 ev_nil)) rfl fun _ hn => tr_later_row hn q3) ?_
  refine run_assoc ?_
  replace h := Option.bind_eq_some_iff.mp h; obtain ⟨r4, q4, h⟩ := h
  replace h := Option.bind_eq_some_iff.mp h; obtain ⟨r5, q5, h⟩ := h
  replace h := Option.bind_eq_some_iff.mp h; obtain ⟨r6, q6, h⟩ := h
  refine run_set st5 (ev_o2 (ev_call (ev_cons v2 (ev_cons v4 ev_nil)) rfl fun _ hn => tr_lowered_rows hn q4) (ev_back (ev_call (ev_cons v3 (ev_cons v4 ev_nil)) rfl fun _ hn => tr_lowered_rows hn q5) (fun _ h => sqL) (ev_o1 ev_c fun _ _ => op_neg) (ev_o1 ev_c fun _ _ => op_neg)) fun _ h => op_addL lsL lsL q6) ?_
  replace h := Option.bind_eq_some_iff.mp h; obtain ⟨z1, q8, h⟩ := h
  replace h := Option.bind_eq_some_iff.mp h; obtain ⟨z, q9, h⟩ := h
  refine run_ret (ev_ca (ev_cons (ev_lcO (en := eS) (it_val v5 fun _ h => items_L) (wipe1 st6) (fun _ h => gOk_nil _) q8 q9 fun row o g => (by replace g := Option.bind_eq_some_iff.mp g; obtain ⟨r7, q7, g⟩ := g; obtain rfl := Option.some.inj g; exact ⟨_, fun _ _ => (tg_n st6), ev_yes, (ev_call (ev_cons v6 ev_nil) rfl fun _ hn => tr_p_word_of_row hn q7)⟩)) ev_nil) fun _ h => op_tupleX sqL) fun _ hS => ?_
  cases h
  exact fin_val rfl hS
abbrev N_is_exchange_path : List Str := ["first", "second", "value", "one", "other", "word"]
noncomputable def m_is_exchange_path : MS := sSeq (sIf (mOrT (mNotT (mTr (mCa sIsi (mCons (mVar 2) (mCons (mC (.con (.ty "tuple"))) (mNil)))))) (mTB (mO2 sNe (mCa sLen (mCons (mVar 2) (mNil))) (mO2 sAdd (mCal 2 f_exchange_distance (mCons (mVar 0) (mCons (mVar 1) (mNil)))) (mC (.int 1)))))) (sRet (mC (.bl false))) (sNil)) (sSeq (sIf (mNotT (mTr (mCa sAll (mCons (mLc (mVal (mVar 2)) (gN 5) (mYes) (mAnd (mCal 1 f_p_is_word (mCons (mVar 5) (mNil))) (mO2 sEq (mCa sLen (mCons (mVar 5) (mNil))) (mCa sLen (mCons (mVar 0) (mNil))))) [5]) (mNil))))) (sRet (mC (.bl false))) (sNil)) (sSeq (sIf (mOrT (mTB (mO2 sNe (mO2 sIx (mVar 2) (mC (.int 0))) (mVar 0))) (mTB (mO2 sNe (mO2 sIx (mVar 2) (mO1 sNeg (mC (.int 1)))) (mVar 1)))) (sRet (mC (.bl false))) (sNil)) (sRet (mCa sAll (mCons (mLc (mZip (mCons (mVar 2) (mCons (mSl sSlice (mVar 2) (mPart (mC (.int 1))) mNo) (mNil)))) (gT 2 (gsCons (gN 3) (gsCons (gN 4) (gsNil)))) (mYes) (mO2 sEq (mCal 2 f_exchange_distance (mCons (mVar 3) (mCons (mVar 4) (mNil)))) (mC (.int 1))) [3, 4]) (mNil))))))
noncomputable def x_is_exchange_path (first : List Nat) (second : List Nat) (value : VV) : Option Bool :=
  (isiO value "tuple").bind fun r1 =>
  (if (!r1) then some true else ((asT value).bind fun value1 => (x_exchange_distance first second).bind fun r2 => some (!decide ((value1.length : Int) = (r2 + 1))))).bind fun c1 =>
  if c1 then
    some false
  else
    (asT value).bind fun value2 =>
    (lcO (fun (word : VV) => ((x_p_is_word word).bind fun r3 => (if r3 then ((asS word).bind fun t => (szO t).bind fun z => (szO first).bind fun z1 => some (decide ((z.length : Int) = (z1.length : Int)))) else some false).bind fun c2 => some (some c2))) value2).bind fun z3 =>
    (szO z3).bind fun z2 =>
    if (!(z2.all id)) then
      some false
    else
      (atI value2 0).bind fun r4 =>
      (veqO r4 (toV eS first)).bind fun r5 =>
      (if (!r5) then some true else ((atI value2 (-1)).bind fun r6 => (veqO r6 (toV eS second)).bind fun r7 => some (!r7))).bind fun c3 =>
      if c3 then
        some false
      else
        (lcO (fun ((one, other) : VV × VV) => ((x_exchange_distancev one other).bind fun r8 => some (some (decide (r8 = 1))))) (zpL value2 (cutL value2 (some 1) none))).bind fun z5 =>
        (szO z5).bind fun z4 =>
        some (z4.all id)
noncomputable def f_is_exchange_path : Fn := runU N_is_exchange_path m_is_exchange_path
theorem tr_is_exchange_path {S0 : Sto} (hn : ncS S0) {first : List Nat} {second : List Nat} {value : VV} {r : Bool} (h : x_is_exchange_path first second value = some r) : f_is_exchange_path [eS first, eS second, eV value] S0 = some (.ok (eB r) S0) := by
  refine fin_ok (St.start hn) rfl ?_
  show Run S0 [] m_is_exchange_path [some (eS first), some (eS second), some (eV value), none, none, none] (Fin S0 eB r)
  unfold x_is_exchange_path at h
  unfold m_is_exchange_path
  refine run_one ?_
  refine run_assoc ?_
  replace h := Option.bind_eq_some_iff.mp h; obtain ⟨r1, q1, h⟩ := h
  replace h := Option.bind_eq_some_iff.mp h; obtain ⟨c1, q4, h⟩ := h
  refine run_if c1 (ev_orP c1 (ev_notT (ev_tr (ev_ca (ev_cons v2 (ev_cons ev_c ev_nil)) fun _ _ => op_isiV q1 (by decide)) fun _ h => tr_bl _ _)) (fun hc => by rw [ifT hc] at q4; cases q4; exact ⟨rfl, rfl, rfl⟩) (fun hc => by rw [ifF hc] at q4; replace q4 := Option.bind_eq_some_iff.mp q4; obtain ⟨value1, q2, q4⟩ := q4; obtain rfl := asT_some q2; replace q4 := Option.bind_eq_some_iff.mp q4; obtain ⟨r2, q3, q4⟩ := q4; obtain rfl := Option.some.inj q4; exact (ev_tb (ev_o2 (ev_ca (ev_cons v2 ev_nil) fun _ h => op_len sqT) (ev_o2 (ev_call (ev_cons v0 (ev_cons v1 ev_nil)) rfl fun _ hn => tr_exchange_distance hn q3) ev_c fun _ _ => op_add) fun _ h => op_neI)))) (fun hc => ?_) (fun hc => ?_)
  · rw [ifT hc] at h
    refine run_ret ev_c fun _ hS => ?_
    cases h
    exact fin_val rfl hS
  · rw [ifF hc] at h
    replace h := Option.bind_eq_some_iff.mp h; obtain ⟨value2, q5, h⟩ := h
    obtain rfl := asT_some q5
    refine run_env (ρ' := [some (eS first), some (eS second), some ((eT eV) value2), none, none, none]) rfl ?_
    refine run_skip ?_
    refine run_assoc ?_
    replace h := Option.bind_eq_some_iff.mp h; obtain ⟨z3, q11, h⟩ := h
    replace h := Option.bind_eq_some_iff.mp h; obtain ⟨z2, q12, h⟩ := h
    refine run_if (!(z2.all id)) (ev_notT (ev_tr (ev_ca (ev_cons (ev_lcO (en := eB) (it_val v2 fun _ h => items_T) (wipe1 st5) (fun _ h => gOk_nil _) q11 q12 fun word o g => (by replace g := Option.bind_eq_some_iff.mp g; obtain ⟨r3, q6, g⟩ := g; replace g := Option.bind_eq_some_iff.mp g; obtain ⟨c2, q10, g⟩ := g; obtain rfl := Option.some.inj g; exact ⟨_, fun _ _ => (tg_n st5), ev_yes, (ev_andVP c2 (ev_call (ev_cons v5 ev_nil) rfl fun _ hn => tr_p_is_word hn q6) (fun hc => by rw [ifT hc] at q10; replace q10 := Option.bind_eq_some_iff.mp q10; obtain ⟨t, q7, q10⟩ := q10; replace q10 := Option.bind_eq_some_iff.mp q10; obtain ⟨z, q8, q10⟩ := q10; replace q10 := Option.bind_eq_some_iff.mp q10; obtain ⟨z1, q9, q10⟩ := q10; obtain rfl := Option.some.inj q10; exact (ev_o2 (ev_ca (ev_cons (X.cast (asS_cast q7) v5) ev_nil) fun _ _ => op_lenS q8) (ev_ca (ev_cons v0 ev_nil) fun _ _ => op_lenS q9) fun _ h => op_eqI)) (fun hc => by rw [ifF hc] at q10; cases q10; exact ⟨rfl, rfl, rfl⟩))⟩)) ev_nil) fun _ h => op_all sqL) fun _ h => tr_bl _ _)) (fun hc => ?_) (fun hc => ?_)
    · rw [ifT hc] at h
      refine run_ret ev_c fun _ hS => ?_
      cases h
      exact fin_val rfl hS
    · rw [ifF hc] at h
      refine run_skip ?_
      refine run_assoc ?_
      replace h := Option.bind_eq_some_iff.mp h; obtain ⟨r4, q13, h⟩ := h
      replace h := Option.bind_eq_some_iff.mp h; obtain ⟨r5, q14, h⟩ := h
      replace h := Option.bind_eq_some_iff.mp h; obtain ⟨c3, q17, h⟩ := h
      refine run_if c3 (ev_orP c3 (ev_tb (ev_o2 (ev_o2 v2 ev_c fun _ h => op_ix sqT q13) v0 fun _ h => (op_neV q14))) (fun hc => by rw [ifT hc] at q17; cases q17; exact ⟨rfl, rfl, rfl⟩) (fun hc => by rw [ifF hc] at q17; replace q17 := Option.bind_eq_some_iff.mp q17; obtain ⟨r6, q15, q17⟩ := q17; replace q17 := Option.bind_eq_some_iff.mp q17; obtain ⟨r7, q16, q17⟩ := q17; obtain rfl := Option.some.inj q17; exact (ev_tb (ev_o2 (ev_o2 v2 (ev_o1 ev_c fun _ _ => op_neg) fun _ h => op_ix sqT q15) v1 fun _ h => (op_neV q16))))) (fun hc => ?_) (fun hc => ?_)
      · rw [ifT hc] at h
        refine run_ret ev_c fun _ hS => ?_
        cases h
        exact fin_val rfl hS
      · rw [ifF hc] at h
        refine run_skip ?_
        replace h := Option.bind_eq_some_iff.mp h; obtain ⟨z5, q19, h⟩ := h
        replace h := Option.bind_eq_some_iff.mp h; obtain ⟨z4, q20, h⟩ := h
        refine run_ret (ev_ca (ev_cons (ev_lcO (en := eB) (it_zipT (ev_cons v2 (ev_cons (ev_sl v2 (ev_part ev_c) ev_no fun _ _ => op_slT) ev_nil))) (wipe2 st4 st3) (fun _ h => gOk_nil _) q19 q20 fun ⟨one, other⟩ o g => (by (try dsimp only at g); replace g := Option.bind_eq_some_iff.mp g; obtain ⟨r8, q18, g⟩ := g; obtain rfl := Option.some.inj g; exact ⟨_, fun _ _ => (tg_p rfl (tg_c (tg_n st3) (tg_c (tg_n st4) tg_z))), ev_yes, (ev_o2 (ev_call (ev_cons v3 (ev_cons v4 ev_nil)) rfl fun _ hn => tr_exchange_distancev hn q18) ev_c fun _ h => op_eqI)⟩)) ev_nil) fun _ h => op_all sqL) fun _ hS => ?_
        cases h
        exact fin_val rfl hS
abbrev N__law_distance : List Str := ["_law_first", "_law_second", "_law_one", "_law_other"]
noncomputable def m__law_distance : MS := sRet (mCa sSum (mCons (mLc (mZip (mCons (mCal 1 f_c_row (mCons (mVar 0) (mNil))) (mCons (mCal 1 f_c_row (mCons (mVar 1) (mNil))) (mNil)))) (gT 2 (gsCons (gN 2) (gsCons (gN 3) (gsNil)))) (mYes) (mCa sAbs (mCons (mO2 aSub (mVar 2) (mVar 3)) (mNil))) [2, 3]) (mNil)))
noncomputable def x__law_distance (first : List Nat) (second : List Nat) : Option Int :=
  (x_c_row first).bind fun r1 =>
  (x_c_row second).bind fun r2 =>
  (szO ((zpL r1 r2).map fun ((one, other) : Int × Int) => ((one - other).natAbs : Int))).bind fun z =>
  some z.sum
noncomputable def f__law_distance : Fn := runU N__law_distance m__law_distance
theorem tr__law_distance {S0 : Sto} (hn : ncS S0) {first : List Nat} {second : List Nat} {r : Int} (h : x__law_distance first second = some r) : f__law_distance [eS first, eS second] S0 = some (.ok (eI r) S0) := by
  refine fin_ok (St.start hn) rfl ?_
  show Run S0 [] m__law_distance [some (eS first), some (eS second), none, none] (Fin S0 eI r)
  unfold x__law_distance at h
  unfold m__law_distance
  refine run_one ?_
  replace h := Option.bind_eq_some_iff.mp h; obtain ⟨r1, q1, h⟩ := h
  replace h := Option.bind_eq_some_iff.mp h; obtain ⟨r2, q2, h⟩ := h
  replace h := Option.bind_eq_some_iff.mp h; obtain ⟨z, q3, h⟩ := h
  refine run_ret (ev_ca (ev_cons (ev_lcM (en := eI) (it_zipT (ev_cons (ev_call (ev_cons v0 ev_nil) rfl fun _ hn => tr_c_row hn q1) (ev_cons (ev_call (ev_cons v1 ev_nil) rfl fun _ hn => tr_c_row hn q2) ev_nil))) (wipe2 st3 st2) (fun _ h => gOk_nil _) q3 fun ⟨one, other⟩ => ⟨_, fun _ _ => (tg_p rfl (tg_c (tg_n st2) (tg_c (tg_n st3) tg_z))), (ev_ca (ev_cons (ev_o2 v2 v3 fun _ _ => op_sub) ev_nil) fun _ _ => op_abs)⟩) ev_nil) fun _ h => op_sum sqL) fun _ hS => ?_
  cases h
  exact fin_val rfl hS
abbrev N__law_is_word : List Str := ["_law_value", "_law_length", "_law_size", "_law_letter"]
noncomputable def m__law_is_word : MS := sSeq (sIf (mOrT (mNotT (mTr (mCa sIsi (mCons (mVar 0) (mCons (mC (.con (.ty "str"))) (mNil)))))) (mTB (mO2 sNe (mCa sLen (mCons (mVar 0) (mNil))) (mVar 1)))) (sRet (mC (.bl false))) (sNil)) (sSeq (sSet 2 (mC (.int 0))) (sSeq (sFor (mVal (mVar 0)) (gN 3) (sSeq (sSet 2 (mO2 sAdd (mVar 2) (mO2 sIx (mLst (mCons (mO1 sNeg (mC (.int 100))) (mCons (mO1 sNeg (mC (.int 1))) (mCons (mC (.int 1)) (mNil))))) (mO2 sAdd (mCa sInt (mCons (mO2 sEq (mVar 3) (mC (.str "R"))) (mNil))) (mO2 aMul (mC (.int 2)) (mCa sInt (mCons (mO2 sEq (mVar 3) (mC (.str "I"))) (mNil)))))))) (sIf (mTB (mO2 cLt (mVar 2) (mC (.int 0)))) (sRet (mC (.bl false))) (sNil)))) (sRet (mO2 sEq (mVar 2) (mC (.int 0))))))
noncomputable def x__law_is_word (value : VV) (length : Int) : Option Bool :=
  (isiO value "str").bind fun r1 =>
  (if (!r1) then some true else ((asS value).bind fun value1 => (szO value1).bind fun z => some (!decide ((z.length : Int) = length)))).bind fun c1 =>
  if c1 then
    some false
  else
    (asS value).bind fun value2 =>
    (forT (fun (size : Int) (letter : List Nat) =>
      (atI [(-100), (-1), 1] ((if (decide (letter = [82])) then 1 else 0 : Int) + (2 * (if (decide (letter = [73])) then 1 else 0 : Int)))).bind fun r2 =>
      if (decide ((size + r2) < 0)) then
        some (.ret false)
      else
        some (.go (size + r2))) (chS value2) (0 : Int)).bind fun (o1 : Lp Bool Int) =>
    lpK o1 id fun (size1 : Int) =>
    some (decide (size1 = 0))
noncomputable def f__law_is_word : Fn := runU N__law_is_word m__law_is_word
theorem tr__law_is_word {S0 : Sto} (hn : ncS S0) {value : VV} {length : Int} {r : Bool} (h : x__law_is_word value length = some r) : f__law_is_word [eV value, eI length] S0 = some (.ok (eB r) S0) := by
  refine fin_ok (St.start hn) rfl ?_
  show Run S0 [] m__law_is_word [some (eV value), some (eI length), none, none] (Fin S0 eB r)
  unfold x__law_is_word at h
  unfold m__law_is_word
  refine run_one ?_
  refine run_assoc ?_
  replace h := Option.bind_eq_some_iff.mp h; obtain ⟨r1, q1, h⟩ := h
  replace h := Option.bind_eq_some_iff.mp h; obtain ⟨c1, q4, h⟩ := h
  refine run_if c1 (ev_orP c1 (ev_notT (ev_tr (ev_ca (ev_cons v0 (ev_cons ev_c ev_nil)) fun _ _ => op_isiV q1 (by decide)) fun _ h => tr_bl _ _)) (fun hc => by rw [ifT hc] at q4; cases q4; exact ⟨rfl, rfl, rfl⟩) (fun hc => by rw [ifF hc] at q4; replace q4 := Option.bind_eq_some_iff.mp q4; obtain ⟨value1, q2, q4⟩ := q4; obtain rfl := asS_some q2; replace q4 := Option.bind_eq_some_iff.mp q4; obtain ⟨z, q3, q4⟩ := q4; obtain rfl := Option.some.inj q4; exact (ev_tb (ev_o2 (ev_ca (ev_cons v0 ev_nil) fun _ _ => op_lenS q3) v1 fun _ h => op_neI)))) (fun hc => ?_) (fun hc => ?_)
  · rw [ifT hc] at h
    refine run_ret ev_c fun _ hS => ?_
    cases h
    exact fin_val rfl hS
  · rw [ifF hc] at h
    replace h := Option.bind_eq_some_iff.mp h; obtain ⟨value2, q5, h⟩ := h
    obtain rfl := asS_some q5
    refine run_env (ρ' := [some (eS value2), some (eI length), none, none]) rfl ?_
    refine run_skip ?_
    refine run_assoc ?_
    refine run_set st2 ev_c ?_
    refine run_assoc ?_
    replace h := Option.bind_eq_some_iff.mp h; obtain ⟨o1, ql, h⟩ := h
    refine run_forT (enc := eS) (s := 0) (fun (s : Int) ρ S => ∃ j_3 : Option Val, ρ = [some (eS value2), some (eI length), some (eI s), j_3] ∧ St S0 S []) (fun (r : Bool) fl S => Fin S0 eB r fl S) (it_val v0 fun _ h => items_S) ql (fun S hS => ⟨_, rfl, hS⟩) (fun _ _ _ _ => gOk_nil _) ?_ ?_ ?_
    · clear h ql
      rintro size letter o ρ S ⟨j_3, rfl, hS⟩ h
      try dsimp only at h hS
      try dsimp only
      refine ⟨_, (tg_n st3), Run.go hS (run_one ?_)⟩
      refine run_assoc ?_
      replace h := Option.bind_eq_some_iff.mp h; obtain ⟨r2, q6, h⟩ := h
      refine run_set st2 (ev_o2 v2 (ev_o2 (lstT (e := eI) (xs := [(-100), (-1), 1]) (ev_cons (ev_o1 ev_c fun _ _ => op_neg) (ev_cons (ev_o1 ev_c fun _ _ => op_neg) (ev_cons ev_c ev_nil))) (by simp)) (ev_o2 (ev_ca (ev_cons (ev_o2 v3 (strc (a := [82]) (by decide +kernel)) fun _ h => op_eqS) ev_nil) fun _ _ => op_intB) (ev_o2 ev_c (ev_ca (ev_cons (ev_o2 v3 (strc (a := [73]) (by decide +kernel)) fun _ h => op_eqS) ev_nil) fun _ _ => op_intB) fun _ _ => op_mulL (by decide) (by decide)) fun _ _ => op_add) fun _ h => op_ix sqL q6) fun _ _ => op_add) ?_
      refine run_if (decide ((size + r2) < 0)) (ev_tb (ev_o2 v2 ev_c fun _ h => cmp_int _ _ _ _)) (fun hc => ?_) (fun hc => ?_)
      · rw [ifT hc] at h
        refine run_ret ev_c fun _ hS => ?_
        cases h
        exact ⟨.inl ⟨_, rfl⟩, fin_val rfl hS⟩
      · rw [ifF hc] at h
        refine run_skip ?_
        cases h
        exact run_nil fun _ hS => ⟨_, .inl rfl, ⟨_, rfl, hS⟩⟩
    · rintro r fl S rfl hxx hF
      cases h
      exact hF
    rintro size1 ρ S rfl ⟨j_3, rfl, hS⟩
    try rw [lpK_go] at h
    try dsimp only [lpK] at h hS
    try dsimp only
    refine Run.go hS ?_
    refine run_ret (ev_o2 v2 ev_c fun _ h => op_eqI) fun _ hS => ?_
    cases h
    exact fin_val rfl hS
abbrev N__law_is_step : List Str := ["_law_one", "_law_other", "_law_at"]
noncomputable def m__law_is_step : MS := sSeq (sSet 2 (mLc (mRange1 (mCons (mCa sLen (mCons (mVar 0) (mNil))) (mNil))) (gN 2) (mTB (mO2 sNe (mO2 sIx (mVar 0) (mVar 2)) (mO2 sIx (mVar 1) (mVar 2)))) (mVar 2) [2])) (sRet (mAnd (mO2 sEq (mCa sLen (mCons (mVar 2) (mNil))) (mC (.int 2))) (mAnd (mO2 sEq (mO2 sIx (mVar 2) (mC (.int 1))) (mO2 sAdd (mO2 sIx (mVar 2) (mC (.int 0))) (mC (.int 1)))) (mAnd (mO2 sEq (mO2 sIx (mVar 0) (mO2 sIx (mVar 2) (mC (.int 0)))) (mO2 sIx (mVar 1) (mO2 sIx (mVar 2) (mC (.int 1))))) (mO2 sEq (mO2 sIx (mVar 0) (mO2 sIx (mVar 2) (mC (.int 1)))) (mO2 sIx (mVar 1) (mO2 sIx (mVar 2) (mC (.int 0)))))))))
noncomputable def x__law_is_step (one : List Nat) (other : List Nat) : Option Bool :=
  (szO one).bind fun z =>
  (rngO 0 (z.length : Int)).bind fun rg =>
  (lcO (fun (at_ : Int) => ((szO one).bind fun z1 => (atI one at_).bind fun r1 => (szO other).bind fun z2 => (atI other at_).bind fun r2 => if (!decide ([r1] = [r2])) then (some (some at_)) else some none)) rg).bind fun z4 =>
  (szO z4).bind fun z3 =>
  (if (decide ((z3.length : Int) = 2)) then ((atI z3 1).bind fun r3 => (atI z3 0).bind fun r4 => (if (decide (r3 = (r4 + 1))) then ((atI z3 0).bind fun r5 => (szO one).bind fun z5 => (atI one r5).bind fun r6 => (atI z3 1).bind fun r7 => (szO other).bind fun z6 => (atI other r7).bind fun r8 => (if (decide ([r6] = [r8])) then ((atI z3 1).bind fun r9 => (szO one).bind fun z7 => (atI one r9).bind fun r10 => (atI z3 0).bind fun r11 => (szO other).bind fun z8 => (atI other r11).bind fun r12 => some (decide ([r10] = [r12]))) else some false).bind fun c1 => some c1) else some false).bind fun c2 => some c2) else some false).bind fun c3 =>
  some c3
noncomputable def f__law_is_step : Fn := runU N__law_is_step m__law_is_step
theorem tr__law_is_step {S0 : Sto} (hn : ncS S0) {one : List Nat} {other : List Nat} {r : Bool} (h : x__law_is_step one other = some r) : f__law_is_step [eS one, eS other] S0 = some (.ok (eB r) S0) := by
  refine fin_ok (St.start hn) rfl ?_
  show Run S0 [] m__law_is_step [some (eS one), some (eS other), none] (Fin S0 eB r)
  unfold x__law_is_step at h
  unfold m__law_is_step
  refine run_one ?_
  refine run_assoc ?_
  replace h := Option.bind_eq_some_iff.mp h; obtain ⟨z, q1, h⟩ := h
  replace h := Option.bind_eq_some_iff.mp h; obtain ⟨rg, q2, h⟩ := h
  replace h := Option.bind_eq_some_iff.mp h; obtain ⟨z4, q7, h⟩ := h
  replace h := Option.bind_eq_some_iff.mp h; obtain ⟨z3, q8, h⟩ := h
  refine run_set st2 (ev_lcO (en := eI) (it_range1 (ev_cons (ev_ca (ev_cons v0 ev_nil) fun _ _ => op_lenS q1) ev_nil) q2) (wipe1 st2) (fun _ h => gOk_nil _) q7 q8 fun at_ o g => (by replace g := Option.bind_eq_some_iff.mp g; obtain ⟨z1, q3, g⟩ := g; replace g := Option.bind_eq_some_iff.mp g; obtain ⟨r1, q4, g⟩ := g; replace g := Option.bind_eq_some_iff.mp g; obtain ⟨z2, q5, g⟩ := g; replace g := Option.bind_eq_some_iff.mp g; obtain ⟨r2, q6, g⟩ := g; cases hc : (!decide ([r1] = [r2])) with | true => (rw [ifT hc] at g; obtain rfl := Option.some.inj g; exact ⟨_, fun _ _ => (tg_n st2), X.cast hc (ev_tb (ev_o2 (ev_o2 v0 v2 fun _ _ => op_ixS (szO_same q3) q4) (ev_o2 v1 v2 fun _ _ => op_ixS (szO_same q5) q6) fun _ h => op_neS)), v2⟩) | false => (rw [ifF hc] at g; obtain rfl := Option.some.inj g; exact ⟨_, fun _ _ => (tg_n st2), X.cast hc (ev_tb (ev_o2 (ev_o2 v0 v2 fun _ _ => op_ixS (szO_same q3) q4) (ev_o2 v1 v2 fun _ _ => op_ixS (szO_same q5) q6) fun _ h => op_neS))⟩))) ?_
  replace h := Option.bind_eq_some_iff.mp h; obtain ⟨c3, q25, h⟩ := h
  refine run_ret (ev_andVP c3 (ev_o2 (ev_ca (ev_cons v2 ev_nil) fun _ h => op_len sqL) ev_c fun _ h => op_eqI) (fun hc => by rw [ifT hc] at q25; replace q25 := Option.bind_eq_some_iff.mp q25; obtain ⟨r3, q9, q25⟩ := q25; replace q25 := Option.bind_eq_some_iff.mp q25; obtain ⟨r4, q10, q25⟩ := q25; replace q25 := Option.bind_eq_some_iff.mp q25; obtain ⟨c2, q24, q25⟩ := q25; obtain rfl := Option.some.inj q25; exact (ev_andVP c2 (ev_o2 (ev_o2 v2 ev_c fun _ h => op_ix sqL q9) (ev_o2 (ev_o2 v2 ev_c fun _ h => op_ix sqL q10) ev_c fun _ _ => op_add) fun _ h => op_eqI) (fun hc => by rw [ifT hc] at q24; replace q24 := Option.bind_eq_some_iff.mp q24; obtain ⟨r5, q11, q24⟩ := q24; replace q24 := Option.bind_eq_some_iff.mp q24; obtain ⟨z5, q12, q24⟩ := q24; replace q24 := Option.bind_eq_some_iff.mp q24; obtain ⟨r6, q13, q24⟩ := q24; replace q24 := Option.bind_eq_some_iff.mp q24; obtain ⟨r7, q14, q24⟩ := q24; replace q24 := Option.bind_eq_some_iff.mp q24; obtain ⟨z6, q15, q24⟩ := q24; replace q24 := Option.bind_eq_some_iff.mp q24; obtain ⟨r8, q16, q24⟩ := q24; replace q24 := Option.bind_eq_some_iff.mp q24; obtain ⟨c1, q23, q24⟩ := q24; obtain rfl := Option.some.inj q24; exact (ev_andVP c1 (ev_o2 (ev_o2 v0 (ev_o2 v2 ev_c fun _ h => op_ix sqL q11) fun _ _ => op_ixS (szO_same q12) q13) (ev_o2 v1 (ev_o2 v2 ev_c fun _ h => op_ix sqL q14) fun _ _ => op_ixS (szO_same q15) q16) fun _ h => op_eqS) (fun hc => by rw [ifT hc] at q23; replace q23 := Option.bind_eq_some_iff.mp q23; obtain ⟨r9, q17, q23⟩ := q23; replace q23 := Option.bind_eq_some_iff.mp q23; obtain ⟨z7, q18, q23⟩ := q23; replace q23 := Option.bind_eq_some_iff.mp q23; obtain ⟨r10, q19, q23⟩ := q23; replace q23 := Option.bind_eq_some_iff.mp q23; obtain ⟨r11, q20, q23⟩ := q23; replace q23 := Option.bind_eq_some_iff.mp q23; obtain ⟨z8, q21, q23⟩ := q23; replace q23 := Option.bind_eq_some_iff.mp q23; obtain ⟨r12, q22, q23⟩ := q23; obtain rfl := Option.some.inj q23; exact (ev_o2 (ev_o2 v0 (ev_o2 v2 ev_c fun _ h => op_ix sqL q17) fun _ _ => op_ixS (szO_same q18) q19) (ev_o2 v1 (ev_o2 v2 ev_c fun _ h => op_ix sqL q20) fun _ _ => op_ixS (szO_same q21) q22) fun _ h => op_eqS)) (fun hc => by rw [ifF hc] at q23; cases q23; exact ⟨rfl, rfl, rfl⟩))) (fun hc => by rw [ifF hc] at q24; cases q24; exact ⟨rfl, rfl, rfl⟩))) (fun hc => by rw [ifF hc] at q25; cases q25; exact ⟨rfl, rfl, rfl⟩)) fun _ hS => ?_
  cases h
  exact fin_val rfl hS
abbrev N__law_is_path : List Str := ["_law_first", "_law_second", "_law_value", "_law_word", "_law_at"]
noncomputable def m__law_is_path : MS := sSeq (sIf (mOrT (mNotT (mTr (mCa sIsi (mCons (mVar 2) (mCons (mC (.con (.ty "tuple"))) (mNil)))))) (mTB (mO2 sNe (mCa sLen (mCons (mVar 2) (mNil))) (mO2 sAdd (mCal 2 f__law_distance (mCons (mVar 0) (mCons (mVar 1) (mNil)))) (mC (.int 1)))))) (sRet (mC (.bl false))) (sNil)) (sSeq (sIf (mTB (mO2 sNeX (mLc (mVal (mVar 2)) (gN 3) (mNotT (mTr (mCal 2 f__law_is_word (mCons (mVar 3) (mCons (mCa sLen (mCons (mVar 0) (mNil))) (mNil)))))) (mVar 3) [3]) (mLst (mNil)))) (sRet (mC (.bl false))) (sNil)) (sSeq (sIf (mOrT (mTB (mO2 sNe (mO2 sIx (mVar 2) (mC (.int 0))) (mVar 0))) (mTB (mO2 sNe (mO2 sIx (mVar 2) (mO1 sNeg (mC (.int 1)))) (mVar 1)))) (sRet (mC (.bl false))) (sNil)) (sRet (mO2 sEqX (mLc (mRange2 (mCons (mC (.int 1)) (mCons (mCa sLen (mCons (mVar 2) (mNil))) (mNil)))) (gN 4) (mNotT (mTr (mCal 2 f__law_is_step (mCons (mO2 sIx (mVar 2) (mO2 aSub (mVar 4) (mC (.int 1)))) (mCons (mO2 sIx (mVar 2) (mVar 4)) (mNil)))))) (mVar 4) [4]) (mLst (mNil))))))
noncomputable def x__law_is_path (first : List Nat) (second : List Nat) (value : VV) : Option Bool :=
  (isiO value "tuple").bind fun r1 =>
  (if (!r1) then some true else ((asT value).bind fun value1 => (x__law_distance first second).bind fun r2 => some (!decide ((value1.length : Int) = (r2 + 1))))).bind fun c1 =>
  if c1 then
    some false
  else
    (asT value).bind fun value2 =>
    (lcO (fun (word : VV) => ((szO first).bind fun z => (x__law_is_word word (z.length : Int)).bind fun r3 => if (!r3) then (some (some word)) else some none)) value2).bind fun z2 =>
    (szO z2).bind fun z1 =>
    if (!z1.isEmpty) then
      some false
    else
      (atI value2 0).bind fun r4 =>
      (veqO r4 (toV eS first)).bind fun r5 =>
      (if (!r5) then some true else ((atI value2 (-1)).bind fun r6 => (veqO r6 (toV eS second)).bind fun r7 => some (!r7))).bind fun c2 =>
      if c2 then
        some false
      else
        (rngO 1 (value2.length : Int)).bind fun rg =>
        (lcO (fun (at_ : Int) => ((atI value2 (at_ - 1)).bind fun r8 => (atI value2 at_).bind fun r9 => (asS r8).bind fun t => (asS r9).bind fun t1 => (x__law_is_step t t1).bind fun r10 => if (!r10) then (some (some at_)) else some none)) rg).bind fun z4 =>
        (szO z4).bind fun z3 =>
        some (z3.isEmpty)
noncomputable def f__law_is_path : Fn := runU N__law_is_path m__law_is_path
theorem tr__law_is_path {S0 : Sto} (hn : ncS S0) {first : List Nat} {second : List Nat} {value : VV} {r : Bool} (h : x__law_is_path first second value = some r) : f__law_is_path [eS first, eS second, eV value] S0 = some (.ok (eB r) S0) := by
  refine fin_ok (St.start hn) rfl ?_
  show Run S0 [] m__law_is_path [some (eS first), some (eS second), some (eV value), none, none] (Fin S0 eB r)
  unfold x__law_is_path at h
  unfold m__law_is_path
  refine run_one ?_
  refine run_assoc ?_
  replace h := Option.bind_eq_some_iff.mp h; obtain ⟨r1, q1, h⟩ := h
  replace h := Option.bind_eq_some_iff.mp h; obtain ⟨c1, q4, h⟩ := h
  refine run_if c1 (ev_orP c1 (ev_notT (ev_tr (ev_ca (ev_cons v2 (ev_cons ev_c ev_nil)) fun _ _ => op_isiV q1 (by decide)) fun _ h => tr_bl _ _)) (fun hc => by rw [ifT hc] at q4; cases q4; exact ⟨rfl, rfl, rfl⟩) (fun hc => by rw [ifF hc] at q4; replace q4 := Option.bind_eq_some_iff.mp q4; obtain ⟨value1, q2, q4⟩ := q4; obtain rfl := asT_some q2; replace q4 := Option.bind_eq_some_iff.mp q4; obtain ⟨r2, q3, q4⟩ := q4; obtain rfl := Option.some.inj q4; exact (ev_tb (ev_o2 (ev_ca (ev_cons v2 ev_nil) fun _ h => op_len sqT) (ev_o2 (ev_call (ev_cons v0 (ev_cons v1 ev_nil)) rfl fun _ hn => tr__law_distance hn q3) ev_c fun _ _ => op_add) fun _ h => op_neI)))) (fun hc => ?_) (fun hc => ?_)
  · rw [ifT hc] at h
    refine run_ret ev_c fun _ hS => ?_
    cases h
    exact fin_val rfl hS
  · rw [ifF hc] at h
    replace h := Option.bind_eq_some_iff.mp h; obtain ⟨value2, q5, h⟩ := h
    obtain rfl := asT_some q5
    refine run_env (ρ' := [some (eS first), some (eS second), some ((eT eV) value2), none, none]) rfl ?_
    refine run_skip ?_
    refine run_assoc ?_
    replace h := Option.bind_eq_some_iff.mp h; obtain ⟨z2, q8, h⟩ := h
    replace h := Option.bind_eq_some_iff.mp h; obtain ⟨z1, q9, h⟩ := h
    refine run_if (!z1.isEmpty) (ev_tb (ev_o2 (ev_lcO (en := eV) (it_val v2 fun _ h => items_T) (wipe1 st3) (fun _ h => gOk_nil _) q8 q9 fun word o g => (by replace g := Option.bind_eq_some_iff.mp g; obtain ⟨z, q6, g⟩ := g; replace g := Option.bind_eq_some_iff.mp g; obtain ⟨r3, q7, g⟩ := g; cases hc : (!r3) with | true => (rw [ifT hc] at g; obtain rfl := Option.some.inj g; exact ⟨_, fun _ _ => (tg_n st3), X.cast hc (ev_notT (ev_tr (ev_call (ev_cons v3 (ev_cons (ev_ca (ev_cons v0 ev_nil) fun _ _ => op_lenS q6) ev_nil)) rfl fun _ hn => tr__law_is_word hn q7) fun _ h => tr_bl _ _)), v3⟩) | false => (rw [ifF hc] at g; obtain rfl := Option.some.inj g; exact ⟨_, fun _ _ => (tg_n st3), X.cast hc (ev_notT (ev_tr (ev_call (ev_cons v3 (ev_cons (ev_ca (ev_cons v0 ev_nil) fun _ _ => op_lenS q6) ev_nil)) rfl fun _ hn => tr__law_is_word hn q7) fun _ h => tr_bl _ _))⟩))) (lst0) fun _ h => op_neXV)) (fun hc => ?_) (fun hc => ?_)
    · rw [ifT hc] at h
      refine run_ret ev_c fun _ hS => ?_
      cases h
      exact fin_val rfl hS
    · rw [ifF hc] at h
      refine run_skip ?_
      refine run_assoc ?_
      replace h := Option.bind_eq_some_iff.mp h; obtain ⟨r4, q10, h⟩ := h
      replace h := Option.bind_eq_some_iff.mp h; obtain ⟨r5, q11, h⟩ := h
      replace h := Option.bind_eq_some_iff.mp h; obtain ⟨c2, q14, h⟩ := h
      refine run_if c2 (ev_orP c2 (ev_tb (ev_o2 (ev_o2 v2 ev_c fun _ h => op_ix sqT q10) v0 fun _ h => (op_neV q11))) (fun hc => by rw [ifT hc] at q14; cases q14; exact ⟨rfl, rfl, rfl⟩) (fun hc => by rw [ifF hc] at q14; replace q14 := Option.bind_eq_some_iff.mp q14; obtain ⟨r6, q12, q14⟩ := q14; replace q14 := Option.bind_eq_some_iff.mp q14; obtain ⟨r7, q13, q14⟩ := q14; obtain rfl := Option.some.inj q14; exact (ev_tb (ev_o2 (ev_o2 v2 (ev_o1 ev_c fun _ _ => op_neg) fun _ h => op_ix sqT q12) v1 fun _ h => (op_neV q13))))) (fun hc => ?_) (fun hc => ?_)
      · rw [ifT hc] at h
        refine run_ret ev_c fun _ hS => ?_
        cases h
        exact fin_val rfl hS
      · rw [ifF hc] at h
        refine run_skip ?_
        replace h := Option.bind_eq_some_iff.mp h; obtain ⟨rg, q15, h⟩ := h
        replace h := Option.bind_eq_some_iff.mp h; obtain ⟨z4, q21, h⟩ := h
        replace h := Option.bind_eq_some_iff.mp h; obtain ⟨z3, q22, h⟩ := h
        refine run_ret (ev_o2 (ev_lcO (en := eI) (it_range2 (ev_cons ev_c (ev_cons (ev_ca (ev_cons v2 ev_nil) fun _ h => op_len sqT) ev_nil)) q15) (wipe1 st4) (fun _ h => gOk_nil _) q21 q22 fun at_ o g => (by replace g := Option.bind_eq_some_iff.mp g; obtain ⟨r8, q16, g⟩ := g; replace g := Option.bind_eq_some_iff.mp g; obtain ⟨r9, q17, g⟩ := g; replace g := Option.bind_eq_some_iff.mp g; obtain ⟨t, q18, g⟩ := g; replace g := Option.bind_eq_some_iff.mp g; obtain ⟨t1, q19, g⟩ := g; replace g := Option.bind_eq_some_iff.mp g; obtain ⟨r10, q20, g⟩ := g; cases hc : (!r10) with | true => (rw [ifT hc] at g; obtain rfl := Option.some.inj g; exact ⟨_, fun _ _ => (tg_n st4), X.cast hc (ev_notT (ev_tr (ev_call (ev_cons (X.cast (asS_cast q18) (ev_o2 v2 (ev_o2 v4 ev_c fun _ _ => op_sub) fun _ h => op_ix sqT q16)) (ev_cons (X.cast (asS_cast q19) (ev_o2 v2 v4 fun _ h => op_ix sqT q17)) ev_nil)) rfl fun _ hn => tr__law_is_step hn q20) fun _ h => tr_bl _ _)), v4⟩) | false => (rw [ifF hc] at g; obtain rfl := Option.some.inj g; exact ⟨_, fun _ _ => (tg_n st4), X.cast hc (ev_notT (ev_tr (ev_call (ev_cons (X.cast (asS_cast q18) (ev_o2 v2 (ev_o2 v4 ev_c fun _ _ => op_sub) fun _ h => op_ix sqT q16)) (ev_cons (X.cast (asS_cast q19) (ev_o2 v2 v4 fun _ h => op_ix sqT q17)) ev_nil)) rfl fun _ hn => tr__law_is_step hn q20) fun _ h => tr_bl _ _))⟩))) (lst0) fun _ h => op_eqXe) fun _ hS => ?_
        cases h
        exact fin_val rfl hS
abbrev N__law_words_right : List Str := ["_law_first", "_law_second", "_law_one", "_law_other", "_law_less", "_law_more", "_law_found", "_law_pair"]
noncomputable def m__law_words_right : MS := sSeq (sPar 2 3 (mCons (mCal 1 f_c_row (mCons (mVar 0) (mNil))) (mCons (mCal 1 f_c_row (mCons (mVar 1) (mNil))) (mNil)))) (sSeq (sSet 4 (mCal 1 f_c_word_of (mCons (mLc (mZipN (mCons (mVar 2) (mCons (mVar 3) (mNil)))) (gN 7) (mYes) (mCa sMinP (mCons (mVar 7) (mNil))) [7]) (mNil)))) (sSeq (sSet 5 (mCal 1 f_c_word_of (mCons (mLc (mZipN (mCons (mVar 2) (mCons (mVar 3) (mNil)))) (gN 7) (mYes) (mCa sMaxP (mCons (mVar 7) (mNil))) [7]) (mNil)))) (sSeq (sSet 6 (mTup (mCons (mCal 2 f_later_word (mCons (mVar 0) (mCons (mVar 1) (mNil)))) (mCons (mCal 2 f_earlier_word (mCons (mVar 0) (mCons (mVar 1) (mNil)))) (mCons (mCal 2 f_exchange_distance (mCons (mVar 0) (mCons (mVar 1) (mNil)))) (mNil)))))) (sRet (mO2 sEq (mCa sReprX (mCons (mVar 6) (mNil))) (mCa sReprX (mCons (mTup (mCons (mVar 4) (mCons (mVar 5) (mCons (mCal 2 f__law_distance (mCons (mVar 0) (mCons (mVar 1) (mNil)))) (mNil))))) (mNil))))))))
noncomputable def x__law_words_right (first : List Nat) (second : List Nat) : Option Bool :=
  (x_c_row first).bind fun r1 =>
  (x_c_row second).bind fun r2 =>
  (szO ((zpL r1 r2).map fun (pair : Int × Int) => (min pair.1 pair.2))).bind fun z =>
  (x_c_word_ofl z).bind fun r3 =>
  (szO ((zpL r1 r2).map fun (pair1 : Int × Int) => (max pair1.1 pair1.2))).bind fun z1 =>
  (x_c_word_ofl z1).bind fun r4 =>
  (x_later_word first second).bind fun r5 =>
  (x_earlier_word first second).bind fun r6 =>
  (x_exchange_distance first second).bind fun r7 =>
  (rpO ((eQ eS eS eI) (r5, r6, r7))).bind fun r8 =>
  (x__law_distance first second).bind fun r9 =>
  (rpO ((eQ eS eS eI) (r3, r4, r9))).bind fun r10 =>
  some (decide (r8 = r10))
noncomputable def f__law_words_right : Fn := runU N__law_words_right m__law_words_right
theorem tr__law_words_right {S0 : Sto} (hn : ncS S0) {first : List Nat} {second : List Nat} {r : Bool} (h : x__law_words_right first second = some r) : f__law_words_right [eS first, eS second] S0 = some (.ok (eB r) S0) := by
  refine fin_ok (St.start hn) rfl ?_
  show Run S0 [] m__law_words_right [some (eS first), some (eS second), none, none, none, none, none, none] (Fin S0 eB r)
  unfold x__law_words_right at h
  unfold m__law_words_right
  refine run_one ?_
  refine run_assoc ?_
  replace h := Option.bind_eq_some_iff.mp h; obtain ⟨r1, q1, h⟩ := h
  replace h := Option.bind_eq_some_iff.mp h; obtain ⟨r2, q2, h⟩ := h
  refine run_par st2 st3 (ev_cons (ev_call (ev_cons v0 ev_nil) rfl fun _ hn => tr_c_row hn q1) (ev_cons (ev_call (ev_cons v1 ev_nil) rfl fun _ hn => tr_c_row hn q2) ev_nil)) ?_
  refine run_assoc ?_
  replace h := Option.bind_eq_some_iff.mp h; obtain ⟨z, q3, h⟩ := h
  replace h := Option.bind_eq_some_iff.mp h; obtain ⟨r3, q4, h⟩ := h
  refine run_set st4 (ev_call (ev_cons (ev_lcM (en := eI) (it_zipN (ev_cons v2 (ev_cons v3 ev_nil))) (wipe1 st7) (fun _ h => gOk_nil _) q3 fun pair => ⟨_, fun _ _ => (tg_n st7), (ev_ca (ev_cons v7 ev_nil) fun _ _ => op_minW)⟩) ev_nil) rfl fun _ hn => tr_c_word_ofl hn q4) ?_
  refine run_assoc ?_
  replace h := Option.bind_eq_some_iff.mp h; obtain ⟨z1, q5, h⟩ := h
  replace h := Option.bind_eq_some_iff.mp h; obtain ⟨r4, q6, h⟩ := h
  refine run_set st5 (ev_call (ev_cons (ev_lcM (en := eI) (it_zipN (ev_cons v2 (ev_cons v3 ev_nil))) (wipe1 st7) (fun _ h => gOk_nil _) q5 fun pair1 => ⟨_, fun _ _ => (tg_n st7), (ev_ca (ev_cons v7 ev_nil) fun _ _ => op_maxW)⟩) ev_nil) rfl fun _ hn => tr_c_word_ofl hn q6) ?_
  refine run_assoc ?_
  replace h := Option.bind_eq_some_iff.mp h; obtain ⟨r5, q7, h⟩ := h
  replace h := Option.bind_eq_some_iff.mp h; obtain ⟨r6, q8, h⟩ := h
  replace h := Option.bind_eq_some_iff.mp h; obtain ⟨r7, q9, h⟩ := h
  refine run_set st6 (tupQ (e := eS) (f := eS) (g := eI) (a := r5) (b := r6) (c := r7) (ev_cons (ev_call (ev_cons v0 (ev_cons v1 ev_nil)) rfl fun _ hn => tr_later_word hn q7) (ev_cons (ev_call (ev_cons v0 (ev_cons v1 ev_nil)) rfl fun _ hn => tr_earlier_word hn q8) (ev_cons (ev_call (ev_cons v0 (ev_cons v1 ev_nil)) rfl fun _ hn => tr_exchange_distance hn q9) ev_nil)))) ?_
  replace h := Option.bind_eq_some_iff.mp h; obtain ⟨r8, q10, h⟩ := h
  replace h := Option.bind_eq_some_iff.mp h; obtain ⟨r9, q11, h⟩ := h
  replace h := Option.bind_eq_some_iff.mp h; obtain ⟨r10, q12, h⟩ := h
  refine run_ret (ev_o2 (ev_ca (ev_cons v6 ev_nil) fun _ _ => op_repr q10) (ev_ca (ev_cons (tupQ (e := eS) (f := eS) (g := eI) (a := r3) (b := r4) (c := r9) (ev_cons v4 (ev_cons v5 (ev_cons (ev_call (ev_cons v0 (ev_cons v1 ev_nil)) rfl fun _ hn => tr__law_distance hn q11) ev_nil)))) ev_nil) fun _ _ => op_repr q12) fun _ h => op_eqR) fun _ hS => ?_
  cases h
  exact fin_val rfl hS
abbrev N__law_odd : List Str := ["_law_stream_here", "_law_some"]
noncomputable def m__law_odd : MS := sSeq (sSet 1 (mLst (mCons (mC .non) (mCons (mC (.bl true)) (mCons (mC (.bl false)) (mCons (mC (.int 0)) (mCons (mC (.int 1)) (mCons (mO1 sNeg (mC (.int 1))) (mCons (mC (.int 2)) (mCons (mC (.int 24)) (mCons (mC (.int 25)) (mCons (mO2 aPow (mC (.int 10)) (mC (.int 30))) (mCons (mC (.str "")) (mCons (mC (.str "I")) (mCons (mC (.str "IR")) (mCons (mC (.str "RI")) (mCons (mC (.str "IRX")) (mCons (mC (.str "ir")) (mCons (mTup (mNil)) (mCons (mLst (mNil)) (mCons (mC (.dct [])) (mNil)))))))))))))))))))))) (sSeq (sSet 1 (mO2 sAdd (mVar 1) (mLst (mCons (mTup (mCons (mC (.str "IR")) (mNil))) (mCons (mLst (mCons (mC (.str "IR")) (mNil))) (mCons (mTup (mCons (mC (.int 1)) (mNil))) (mCons (mLst (mCons (mC (.int 1)) (mNil))) (mCons (mTup (mCons (mC (.bl true)) (mNil))) (mCons (mTup (mCons (mC (.int 0)) (mNil))) (mCons (mDisp [.inr "IR"] (mCons (mC (.int 1)) (mNil))) (mCons (mTup (mCons (mC .non) (mNil))) (mCons (mTup (mCons (mTup (mNil)) (mNil))) (mNil))))))))))))) (sRet (mO2 sIx (mVar 1) (mCal 2 f__law_pick (mCons (mVar 0) (mCons (mC (.int 28)) (mNil)))))))
noncomputable def x__law_odd (stream_here : Stm) : Option (VV × Stm) :=
  (some [(toV eU ()), (toV eB true), (toV eB false), (toV eI 0), (toV eI 1), (toV eI (-1)), (toV eI 2), (toV eI 24), (toV eI 25), (toV eI 1000000000000000000000000000000), (toV eS []), (toV eS [73]), (toV eS [73, 82]), (toV eS [82, 73]), (toV eS [73, 82, 88]), (toV eS [105, 114]), (toV (eT eV) []), (toV (eL eV) []), (vD [])]).bind fun some_ =>
  (szO (some_ ++ [(toV (eT eV) [(toV eS [73, 82])]), (toV (eL eV) [(toV eS [73, 82])]), (toV (eT eV) [(toV eI 1)]), (toV (eL eV) [(toV eI 1)]), (toV (eT eV) [(toV eB true)]), (toV (eT eV) [(toV eI 0)]), (vD [(.inr "IR", (toV eI 1))]), (toV (eT eV) [(toV eU ())]), (toV (eT eV) [(toV (eT eV) [])])])).bind fun r1 =>
  (x__law_pick stream_here 28).bind fun (r2, s1) =>
  (atI r1 r2).bind fun r3 =>
  some (r3, s1)
noncomputable def f__law_odd : Fn := runU N__law_odd m__law_odd
theorem tr__law_odd {S0 : Sto} (hn : ncS S0) {k : Nat} {stream_here : Stm} (hk : S0[k]? = some stream_here.cell) {r : VV} {s' : Stm} (h : x__law_odd stream_here = some (r, s')) : f__law_odd [.cell k] S0 = some (.ok (eV r) (S0.set k s'.cell)) := by
  have hk_k : k < S0.length := (List.getElem?_eq_some_iff.mp hk).1
  refine fin_ok (St.startB hn hk) List.length_set ?_
  show Run (S0.set k stream_here.cell) [(k, stream_here.cell)] m__law_odd [some (.cell k), none] (Fin (S0.set k s'.cell) eV r)
  unfold x__law_odd at h
  unfold m__law_odd
  refine run_one ?_
  refine run_assoc ?_
  replace h := Option.bind_eq_some_iff.mp h; obtain ⟨some_, q1, h⟩ := h
  refine run_set st1 (X.cast (congrArg (eL eV) (Option.some.inj q1)) (lstT (e := eV) (xs := [(toV eU ()), (toV eB true), (toV eB false), (toV eI 0), (toV eI 1), (toV eI (-1)), (toV eI 2), (toV eI 24), (toV eI 25), (toV eI 1000000000000000000000000000000), (toV eS []), (toV eS [73]), (toV eS [73, 82]), (toV eS [82, 73]), (toV eS [73, 82, 88]), (toV eS [105, 114]), (toV (eT eV) []), (toV (eL eV) []), (vD [])]) (ev_cons ev_c (ev_cons ev_c (ev_cons ev_c (ev_cons ev_c (ev_cons ev_c (ev_cons (ev_o1 ev_c fun _ _ => op_neg) (ev_cons ev_c (ev_cons ev_c (ev_cons ev_c (ev_cons (ev_o2 ev_c ev_c fun _ _ => op_pow (show fPow 10 30 = some 1000000000000000000000000000000 by decide)) (ev_cons (strc (a := []) (by decide +kernel)) (ev_cons (strc (a := [73]) (by decide +kernel)) (ev_cons (strc (a := [73, 82]) (by decide +kernel)) (ev_cons (strc (a := [82, 73]) (by decide +kernel)) (ev_cons (strc (a := [73, 82, 88]) (by decide +kernel)) (ev_cons (strc (a := [105, 114]) (by decide +kernel)) (ev_cons (X.cast (show (eT eV) [] = eV (toV (eT eV) []) from rfl) (tup0 (e := eV))) (ev_cons (X.cast (show (eL eV) [] = eV (toV (eL eV) []) from rfl) (lst0 (e := eV))) (ev_cons ev_c ev_nil))))))))))))))))))) (by simp))) ?_
  refine run_assoc ?_
  replace h := Option.bind_eq_some_iff.mp h; obtain ⟨r1, q2, h⟩ := h
  refine run_set st1 (ev_o2 v1 (lstT (e := eV) (xs := [(toV (eT eV) [(toV eS [73, 82])]), (toV (eL eV) [(toV eS [73, 82])]), (toV (eT eV) [(toV eI 1)]), (toV (eL eV) [(toV eI 1)]), (toV (eT eV) [(toV eB true)]), (toV (eT eV) [(toV eI 0)]), (vD [(.inr "IR", (toV eI 1))]), (toV (eT eV) [(toV eU ())]), (toV (eT eV) [(toV (eT eV) [])])]) (ev_cons (X.cast (show (eT eV) [(toV eS [73, 82])] = eV (toV (eT eV) [(toV eS [73, 82])]) from rfl) (tupT (e := eV) (xs := [(toV eS [73, 82])]) (ev_cons (strc (a := [73, 82]) (by decide +kernel)) ev_nil) (by simp))) (ev_cons (X.cast (show (eL eV) [(toV eS [73, 82])] = eV (toV (eL eV) [(toV eS [73, 82])]) from rfl) (lstT (e := eV) (xs := [(toV eS [73, 82])]) (ev_cons (strc (a := [73, 82]) (by decide +kernel)) ev_nil) (by simp))) (ev_cons (X.cast (show (eT eV) [(toV eI 1)] = eV (toV (eT eV) [(toV eI 1)]) from rfl) (tupT (e := eV) (xs := [(toV eI 1)]) (ev_cons ev_c ev_nil) (by simp))) (ev_cons (X.cast (show (eL eV) [(toV eI 1)] = eV (toV (eL eV) [(toV eI 1)]) from rfl) (lstT (e := eV) (xs := [(toV eI 1)]) (ev_cons ev_c ev_nil) (by simp))) (ev_cons (X.cast (show (eT eV) [(toV eB true)] = eV (toV (eT eV) [(toV eB true)]) from rfl) (tupT (e := eV) (xs := [(toV eB true)]) (ev_cons ev_c ev_nil) (by simp))) (ev_cons (X.cast (show (eT eV) [(toV eI 0)] = eV (toV (eT eV) [(toV eI 0)]) from rfl) (tupT (e := eV) (xs := [(toV eI 0)]) (ev_cons ev_c ev_nil) (by simp))) (ev_cons (ev_disp (ev_cons ev_c ev_nil) (by decide) (by rfl)) (ev_cons (X.cast (show (eT eV) [(toV eU ())] = eV (toV (eT eV) [(toV eU ())]) from rfl) (tupT (e := eV) (xs := [(toV eU ())]) (ev_cons ev_c ev_nil) (by simp))) (ev_cons (X.cast (show (eT eV) [(toV (eT eV) [])] = eV (toV (eT eV) [(toV (eT eV) [])]) from rfl) (tupT (e := eV) (xs := [(toV (eT eV) [])]) (ev_cons (X.cast (show (eT eV) [] = eV (toV (eT eV) []) from rfl) (tup0 (e := eV))) ev_nil) (by simp))) ev_nil))))))))) (by simp)) fun _ h => op_addL lsL lsL q2) ?_
  replace h := Option.bind_eq_some_iff.mp h; obtain ⟨⟨r2, s1⟩, q3, h⟩ := h
  dsimp only at h
  replace h := Option.bind_eq_some_iff.mp h; obtain ⟨r3, q4, h⟩ := h
  refine run_ret (ev_o2 v1 (ev_callK 0 (ev_cons v0 (ev_cons ev_c ev_nil)) rfl gt0 (ltset hk_k) (Stm.nc _) (List.set_set _) st0 fun _ hn hk => tr__law_pick hn hk q3) fun _ h => op_ix sqL q4) fun _ hS => ?_
  cases h
  exact fin_val rfl hS
abbrev N__law_values : List Str := ["_law_stream_here", "_law_path", "_law_at", "_law_there", "_law_other", "_law_some"]
noncomputable def m__law_values : MS := sSeq (sPar 2 3 (mCons (mCal 2 f__law_pick (mCons (mVar 0) (mCons (mCa sLen (mCons (mVar 1) (mNil))) (mNil)))) (mCons (mCal 2 f__law_pick (mCons (mVar 0) (mCons (mCa sLen (mCons (mVar 1) (mNil))) (mNil)))) (mNil)))) (sSeq (sSet 4 (mCal 2 f__law_drawn_word (mCons (mVar 0) (mCons (mO2 aDiv (mCa sLen (mCons (mO2 sIx (mVar 1) (mC (.int 0))) (mNil))) (mC (.int 2))) (mNil))))) (sSeq (sSet 5 (mLst (mCons (mVar 1) (mCons (mO1 sRevX (mVar 1)) (mCons (mCa (fun S vs => (sListX S vs).map Val.lst) (mCons (mVar 1) (mNil))) (mCons (mO2 sAdd (mSl sSlice (mVar 1) mNo (mPart (mVar 2))) (mSl sSlice (mVar 1) (mPart (mO2 sAdd (mVar 2) (mC (.int 1)))) mNo)) (mCons (mO2 sAdd (mO2 sAdd (mSl sSlice (mVar 1) mNo (mPart (mVar 2))) (mTup (mCons (mO2 sIx (mVar 1) (mVar 2)) (mNil)))) (mSl sSlice (mVar 1) (mPart (mVar 2)) mNo)) (mCons (mTup (mNil)) (mNil))))))))) (sSeq (sSet 5 (mO2 sAdd (mVar 5) (mLst (mCons (mO2 sAdd (mO2 sAdd (mSl sSlice (mVar 1) mNo (mPart (mVar 2))) (mTup (mCons (mVar 4) (mNil)))) (mSl sSlice (mVar 1) (mPart (mO2 sAdd (mVar 2) (mC (.int 1)))) mNo)) (mCons (mO2 sAdd (mO2 sAdd (mSl sSlice (mVar 1) mNo (mPart (mVar 2))) (mTup (mCons (mO2 sIx (mVar 1) (mVar 3)) (mNil)))) (mSl sSlice (mVar 1) (mPart (mO2 sAdd (mVar 2) (mC (.int 1)))) mNo)) (mCons (mSl sSlice (mVar 1) (mPart (mC (.int 1))) mNo) (mNil))))))) (sSeq (sSet 5 (mO2 sAdd (mVar 5) (mLst (mCons (mO2 sAdd (mO2 sAdd (mSl sSlice (mVar 1) mNo (mPart (mVar 2))) (mTup (mCons (mO2 sAdd (mO2 sIx (mVar 1) (mVar 2)) (mC (.str "IR"))) (mNil)))) (mSl sSlice (mVar 1) (mPart (mO2 sAdd (mVar 2) (mC (.int 1)))) mNo)) (mCons (mO2 sAdd (mO2 sAdd (mSl sSlice (mVar 1) mNo (mPart (mVar 2))) (mTup (mCons (mLst (mCons (mO2 sIx (mVar 1) (mVar 2)) (mNil))) (mNil)))) (mSl sSlice (mVar 1) (mPart (mO2 sAdd (mVar 2) (mC (.int 1)))) mNo)) (mNil)))))) (sRet (mO2 sAdd (mVar 5) (mLst (mCons (mO2 sAdd (mVar 1) (mSl sSlice (mVar 1) (mPart (mO1 sNeg (mC (.int 1)))) mNo)) (mCons (mO2 sAdd (mO2 sAdd (mSl sSlice (mVar 1) mNo (mPart (mVar 2))) (mTup (mCons (mC (.dct [])) (mNil)))) (mSl sSlice (mVar 1) (mPart (mO2 sAdd (mVar 2) (mC (.int 1)))) mNo)) (mCons (mO2 sIx (mVar 1) (mVar 2)) (mCons (mCal 1 f__law_odd (mCons (mVar 0) (mNil))) (mCons (mSl sSlice (mVar 1) mNo (mPart (mC (.int 1)))) (mNil)))))))))))))
noncomputable def x__law_values (stream_here : Stm) (path : List (List Nat)) : Option ((List VV) × Stm) :=
  (x__law_pick stream_here (path.length : Int)).bind fun (r1, s1) =>
  (x__law_pick s1 (path.length : Int)).bind fun (r2, s2) =>
  (atI path 0).bind fun r3 =>
  (szO r3).bind fun z =>
  (x__law_drawn_word s2 ((z.length : Int) / 2)).bind fun (r4, s3) =>
  (szO ((cutL path none (some r1)) ++ (cutL path (some (r1 + 1)) none))).bind fun r5 =>
  (atI path r1).bind fun r6 =>
  (szO ((cutL path none (some r1)) ++ [r6])).bind fun r7 =>
  (szO (r7 ++ (cutL path (some r1) none))).bind fun r8 =>
  (some [(toV (eT eS) path), (toV (eT eS) path.reverse), (toV (eL eS) path), (toV (eT eS) r5), (toV (eT eS) r8), (toV (eT eV) [])]).bind fun some_ =>
  (szO ((cutL path none (some r1)) ++ [r4])).bind fun r9 =>
  (szO (r9 ++ (cutL path (some (r1 + 1)) none))).bind fun r10 =>
  (atI path r2).bind fun r11 =>
  (szO ((cutL path none (some r1)) ++ [r11])).bind fun r12 =>
  (szO (r12 ++ (cutL path (some (r1 + 1)) none))).bind fun r13 =>
  (szO (some_ ++ [(toV (eT eS) r10), (toV (eT eS) r13), (toV (eT eS) (cutL path (some 1) none))])).bind fun r14 =>
  (atI path r1).bind fun r15 =>
  (szO (r15 ++ [73, 82])).bind fun r16 =>
  (szO ((cutL path none (some r1)) ++ [r16])).bind fun r17 =>
  (szO (r17 ++ (cutL path (some (r1 + 1)) none))).bind fun r18 =>
  (atI path r1).bind fun r19 =>
  (szO (((cutL path none (some r1)).map (toV eS)) ++ [(toV (eL eV) [(toV eS r19)])])).bind fun r20 =>
  (szO (r20 ++ ((cutL path (some (r1 + 1)) none).map (toV eS)))).bind fun r21 =>
  (szO (r14 ++ [(toV (eT eS) r18), (toV (eT eV) r21)])).bind fun r22 =>
  (szO (path ++ (cutL path (some (-1)) none))).bind fun r23 =>
  (szO (((cutL path none (some r1)).map (toV eS)) ++ [(vD [])])).bind fun r24 =>
  (szO (r24 ++ ((cutL path (some (r1 + 1)) none).map (toV eS)))).bind fun r25 =>
  (atI path r1).bind fun r26 =>
  (x__law_odd s3).bind fun (r27, s4) =>
  (szO (r22 ++ [(toV (eT eS) r23), (toV (eT eV) r25), (toV eS r26), r27, (toV (eT eS) (cutL path none (some 1)))])).bind fun r28 =>
  some (r28, s4)
noncomputable def f__law_values : Fn := runU N__law_values m__law_values
theorem tr__law_values {S0 : Sto} (hn : ncS S0) {k : Nat} {stream_here : Stm} (hk : S0[k]? = some stream_here.cell) {path : List (List Nat)} {r : List VV} {s' : Stm} (h : x__law_values stream_here path = some (r, s')) : f__law_values [.cell k, (eT eS) path] S0 = some (.ok ((eL eV) r) (S0.set k s'.cell)) := by
  have hk_k : k < S0.length := (List.getElem?_eq_some_iff.mp hk).1
  refine fin_ok (St.startB hn hk) List.length_set ?_
  show Run (S0.set k stream_here.cell) [(k, stream_here.cell)] m__law_values [some (.cell k), some ((eT eS) path), none, none, none, none] (Fin (S0.set k s'.cell) (eL eV) r)
  unfold x__law_values at h
  unfold m__law_values
  refine run_one ?_
  refine run_assoc ?_
  replace h := Option.bind_eq_some_iff.mp h; obtain ⟨⟨r1, s1⟩, q1, h⟩ := h
  dsimp only at h
  replace h := Option.bind_eq_some_iff.mp h; obtain ⟨⟨r2, s2⟩, q2, h⟩ := h
  dsimp only at h
  refine run_par st2 st3 (ev_cons (ev_callK 0 (ev_cons v0 (ev_cons (ev_ca (ev_cons v1 ev_nil) fun _ h => op_len sqT) ev_nil)) rfl gt0 (ltset hk_k) (Stm.nc _) (List.set_set _) st0 fun _ hn hk => tr__law_pick hn hk q1) (ev_cons (ev_callK 0 (ev_cons v0 (ev_cons (ev_ca (ev_cons v1 ev_nil) fun _ h => op_len sqT) ev_nil)) rfl gt0 (ltset hk_k) (Stm.nc _) (List.set_set _) st0 fun _ hn hk => tr__law_pick hn hk q2) ev_nil)) ?_
  refine run_assoc ?_
  replace h := Option.bind_eq_some_iff.mp h; obtain ⟨r3, q3, h⟩ := h
  replace h := Option.bind_eq_some_iff.mp h; obtain ⟨z, q4, h⟩ := h
  replace h := Option.bind_eq_some_iff.mp h; obtain ⟨⟨r4, s3⟩, q5, h⟩ := h
  dsimp only at h
  refine run_set st4 (ev_callK 0 (ev_cons v0 (ev_cons (ev_o2 (ev_ca (ev_cons (ev_o2 v1 ev_c fun _ h => op_ix sqT q3) ev_nil) fun _ _ => op_lenS q4) ev_c fun _ _ => op_divC (by decide) (by decide)) ev_nil)) rfl gt0 (ltset hk_k) (Stm.nc _) (List.set_set _) st0 fun _ hn hk => tr__law_drawn_word hn hk q5) ?_
  refine run_assoc ?_
  replace h := Option.bind_eq_some_iff.mp h; obtain ⟨r5, q6, h⟩ := h
  replace h := Option.bind_eq_some_iff.mp h; obtain ⟨r6, q7, h⟩ := h
  replace h := Option.bind_eq_some_iff.mp h; obtain ⟨r7, q8, h⟩ := h
  replace h := Option.bind_eq_some_iff.mp h; obtain ⟨r8, q9, h⟩ := h
  replace h := Option.bind_eq_some_iff.mp h; obtain ⟨some_, q10, h⟩ := h
  refine run_set st5 (X.cast (congrArg (eL eV) (Option.some.inj q10)) (lstT (e := eV) (xs := [(toV (eT eS) path), (toV (eT eS) path.reverse), (toV (eL eS) path), (toV (eT eS) r5), (toV (eT eS) r8), (toV (eT eV) [])]) (ev_cons (X.cast (show (eT eS) path = eV (toV (eT eS) path) from rfl) v1) (ev_cons (X.cast (show (eT eS) path.reverse = eV (toV (eT eS) path.reverse) from rfl) (ev_o1 v1 fun _ _ => op_revTX)) (ev_cons (X.cast (show (eL eS) path = eV (toV (eL eS) path) from rfl) (ev_ca (ev_cons v1 ev_nil) fun _ h => op_nl (op_listX sqT))) (ev_cons (X.cast (show (eT eS) r5 = eV (toV (eT eS) r5) from rfl) (ev_o2 (ev_sl v1 ev_no (ev_part v2) fun _ _ => op_slT) (ev_sl v1 (ev_part (ev_o2 v2 ev_c fun _ _ => op_add)) ev_no fun _ _ => op_slT) fun _ _ => op_addT q6)) (ev_cons (X.cast (show (eT eS) r8 = eV (toV (eT eS) r8) from rfl) (ev_o2 (ev_o2 (ev_sl v1 ev_no (ev_part v2) fun _ _ => op_slT) (tupT (e := eS) (xs := [r6]) (ev_cons (ev_o2 v1 v2 fun _ h => op_ix sqT q7) ev_nil) (by simp)) fun _ _ => op_addT q8) (ev_sl v1 (ev_part v2) ev_no fun _ _ => op_slT) fun _ _ => op_addT q9)) (ev_cons (X.cast (show (eT eV) [] = eV (toV (eT eV) []) from rfl) (tup0 (e := eV))) ev_nil)))))) (by simp))) ?_
  refine run_assoc ?_
  replace h := Option.bind_eq_some_iff.mp h; obtain ⟨r9, q11, h⟩ := h
  replace h := Option.bind_eq_some_iff.mp h; obtain ⟨r10, q12, h⟩ := h
  replace h := Option.bind_eq_some_iff.mp h; obtain ⟨r11, q13, h⟩ := h
  replace h := Option.bind_eq_some_iff.mp h; obtain ⟨r12, q14, h⟩ := h
  replace h := Option.bind_eq_some_iff.mp h; obtain ⟨r13, q15, h⟩ := h
  replace h := Option.bind_eq_some_iff.mp h; obtain ⟨r14, q16, h⟩ := h
  refine run_set st5 (ev_o2 v5 (lstT (e := eV) (xs := [(toV (eT eS) r10), (toV (eT eS) r13), (toV (eT eS) (cutL path (some 1) none))]) (ev_cons (X.cast (show (eT eS) r10 = eV (toV (eT eS) r10) from rfl) (ev_o2 (ev_o2 (ev_sl v1 ev_no (ev_part v2) fun _ _ => op_slT) (tupT (e := eS) (xs := [r4]) (ev_cons v4 ev_nil) (by simp)) fun _ _ => op_addT q11) (ev_sl v1 (ev_part (ev_o2 v2 ev_c fun _ _ => op_add)) ev_no fun _ _ => op_slT) fun _ _ => op_addT q12)) (ev_cons (X.cast (show (eT eS) r13 = eV (toV (eT eS) r13) from rfl) (ev_o2 (ev_o2 (ev_sl v1 ev_no (ev_part v2) fun _ _ => op_slT) (tupT (e := eS) (xs := [r11]) (ev_cons (ev_o2 v1 v3 fun _ h => op_ix sqT q13) ev_nil) (by simp)) fun _ _ => op_addT q14) (ev_sl v1 (ev_part (ev_o2 v2 ev_c fun _ _ => op_add)) ev_no fun _ _ => op_slT) fun _ _ => op_addT q15)) (ev_cons (X.cast (show (eT eS) (cutL path (some 1) none) = eV (toV (eT eS) (cutL path (some 1) none)) from rfl) (ev_sl v1 (ev_part ev_c) ev_no fun _ _ => op_slT)) ev_nil))) (by simp)) fun _ h => op_addL lsL lsL q16) ?_
  refine run_assoc ?_
  replace h := Option.bind_eq_some_iff.mp h; obtain ⟨r15, q17, h⟩ := h
  replace h := Option.bind_eq_some_iff.mp h; obtain ⟨r16, q18, h⟩ := h
  replace h := Option.bind_eq_some_iff.mp h; obtain ⟨r17, q19, h⟩ := h
  replace h := Option.bind_eq_some_iff.mp h; obtain ⟨r18, q20, h⟩ := h
  replace h := Option.bind_eq_some_iff.mp h; obtain ⟨r19, q21, h⟩ := h
  replace h := Option.bind_eq_some_iff.mp h; obtain ⟨r20, q22, h⟩ := h
  replace h := Option.bind_eq_some_iff.mp h; obtain ⟨r21, q23, h⟩ := h
  replace h := Option.bind_eq_some_iff.mp h; obtain ⟨r22, q24, h⟩ := h
  refine run_set st5 (ev_o2 v5 (lstT (e := eV) (xs := [(toV (eT eS) r18), (toV (eT eV) r21)]) (ev_cons (X.cast (show (eT eS) r18 = eV (toV (eT eS) r18) from rfl) (ev_o2 (ev_o2 (ev_sl v1 ev_no (ev_part v2) fun _ _ => op_slT) (tupT (e := eS) (xs := [r16]) (ev_cons (ev_o2 (ev_o2 v1 v2 fun _ h => op_ix sqT q17) (strc (a := [73, 82]) (by decide +kernel)) fun _ _ => op_addS q18) ev_nil) (by simp)) fun _ _ => op_addT q19) (ev_sl v1 (ev_part (ev_o2 v2 ev_c fun _ _ => op_add)) ev_no fun _ _ => op_slT) fun _ _ => op_addT q20)) (ev_cons (X.cast (show (eT eV) r21 = eV (toV (eT eV) r21) from rfl) (ev_o2 (ev_o2 (X.cast eT_up (ev_sl v1 ev_no (ev_part v2) fun _ _ => op_slT)) (tupT (e := eV) (xs := [(toV (eL eV) [(toV eS r19)])]) (ev_cons (X.cast (show (eL eV) [(toV eS r19)] = eV (toV (eL eV) [(toV eS r19)]) from rfl) (lstT (e := eV) (xs := [(toV eS r19)]) (ev_cons (X.cast (show eS r19 = eV (toV eS r19) from rfl) (ev_o2 v1 v2 fun _ h => op_ix sqT q21)) ev_nil) (by simp))) ev_nil) (by simp)) fun _ _ => op_addT q22) (X.cast eT_up (ev_sl v1 (ev_part (ev_o2 v2 ev_c fun _ _ => op_add)) ev_no fun _ _ => op_slT)) fun _ _ => op_addT q23)) ev_nil)) (by simp)) fun _ h => op_addL lsL lsL q24) ?_
  replace h := Option.bind_eq_some_iff.mp h; obtain ⟨r23, q25, h⟩ := h
  replace h := Option.bind_eq_some_iff.mp h; obtain ⟨r24, q26, h⟩ := h
  replace h := Option.bind_eq_some_iff.mp h; obtain ⟨r25, q27, h⟩ := h
  replace h := Option.bind_eq_some_iff.mp h; obtain ⟨r26, q28, h⟩ := h
  replace h := Option.bind_eq_some_iff.mp h; obtain ⟨⟨r27, s4⟩, q29, h⟩ := h
  dsimp only at h
  replace h := Option.bind_eq_some_iff.mp h; obtain ⟨r28, q30, h⟩ := h
  refine run_ret (ev_o2 v5 (lstT (e := eV) (xs := [(toV (eT eS) r23), (toV (eT eV) r25), (toV eS r26), r27, (toV (eT eS) (cutL path none (some 1)))]) (ev_cons (X.cast (show (eT eS) r23 = eV (toV (eT eS) r23) from rfl) (ev_o2 v1 (ev_sl v1 (ev_part (ev_o1 ev_c fun _ _ => op_neg)) ev_no fun _ _ => op_slT) fun _ _ => op_addT q25)) (ev_cons (X.cast (show (eT eV) r25 = eV (toV (eT eV) r25) from rfl) (ev_o2 (ev_o2 (X.cast eT_up (ev_sl v1 ev_no (ev_part v2) fun _ _ => op_slT)) (tupT (e := eV) (xs := [(vD [])]) (ev_cons ev_c ev_nil) (by simp)) fun _ _ => op_addT q26) (X.cast eT_up (ev_sl v1 (ev_part (ev_o2 v2 ev_c fun _ _ => op_add)) ev_no fun _ _ => op_slT)) fun _ _ => op_addT q27)) (ev_cons (X.cast (show eS r26 = eV (toV eS r26) from rfl) (ev_o2 v1 v2 fun _ h => op_ix sqT q28)) (ev_cons (ev_callK 0 (ev_cons v0 ev_nil) rfl gt0 (ltset hk_k) (Stm.nc _) (List.set_set _) st0 fun _ hn hk => tr__law_odd hn hk q29) (ev_cons (X.cast (show (eT eS) (cutL path none (some 1)) = eV (toV (eT eS) (cutL path none (some 1))) from rfl) (ev_sl v1 ev_no (ev_part ev_c) fun _ _ => op_slT)) ev_nil))))) (by simp)) fun _ h => op_addL lsL lsL q30) fun _ hS => ?_
  cases h
  exact fin_val rfl hS
abbrev N__law_right : List Str := ["_law_stream_here", "_law_first", "_law_second", "_law_path", "_law_value", "_law_shown", "_law_found"]
noncomputable def m__law_right : MS := sSeq (sSet 3 (mCal 2 f_exchange_path (mCons (mVar 1) (mCons (mVar 2) (mNil))))) (sSeq (sIf (mOrT (mNotT (mTr (mCal 3 f__law_is_path (mCons (mVar 1) (mCons (mVar 2) (mCons (mVar 3) (mNil))))))) (mTB (mO2 sNe (mCa sReprX (mCons (mCal 2 f_exchange_path (mCons (mVar 1) (mCons (mVar 2) (mNil)))) (mNil))) (mCa sReprX (mCons (mVar 3) (mNil)))))) (sRet (mC (.bl false))) (sNil)) (sSeq (sFor (mVal (mCal 2 f__law_values (mCons (mVar 0) (mCons (mVar 3) (mNil))))) (gN 4) (sSeq (sSet 5 (mCa sReprX (mCons (mVar 4) (mNil)))) (sSeq (sSet 6 (mCal 3 f_is_exchange_path (mCons (mVar 1) (mCons (mVar 2) (mCons (mVar 4) (mNil)))))) (sIf (mOrT (mNotT (mTr (mCa sIsi (mCons (mVar 6) (mCons (mC (.con (.ty "bool"))) (mNil)))))) (mOrT (mTB (mO2 sNe (mVar 6) (mCal 3 f__law_is_path (mCons (mVar 1) (mCons (mVar 2) (mCons (mVar 4) (mNil))))))) (mTB (mO2 sNe (mCa sReprX (mCons (mVar 4) (mNil))) (mVar 5))))) (sRet (mC (.bl false))) (sNil))))) (sRet (mC (.bl true)))))
noncomputable def x__law_right (stream_here : Stm) (first : List Nat) (second : List Nat) : Option (Bool × Stm) :=
  (x_exchange_path first second).bind fun r1 =>
  (x__law_is_path first second (toV (eT eS) r1)).bind fun r2 =>
  (if (!r2) then some true else ((x_exchange_path first second).bind fun r3 => (rpO ((eT eS) r3)).bind fun r4 => (rpO ((eT eS) r1)).bind fun r5 => some (!decide (r4 = r5)))).bind fun c1 =>
  if c1 then
    some (false, stream_here)
  else
    (x__law_values stream_here r1).bind fun (r6, s1) =>
    (forT (fun (_ : Unit) (value : VV) =>
      (rpO (eV value)).bind fun r7 =>
      (x_is_exchange_path first second value).bind fun r8 =>
      (if (!true) then some true else ((x__law_is_path first second value).bind fun r9 => (if (!decide (r8 = r9)) then some true else ((rpO (eV value)).bind fun r10 => some (!decide (r10 = r7)))).bind fun c2 => some c2)).bind fun c3 =>
      if c3 then
        some (.ret (false, s1))
      else
        some (.go ())) r6 (() : Unit)).bind fun (o1 : Lp (Bool × Stm) Unit) =>
    lpK o1 id fun _ =>
    some (true, s1)
noncomputable def f__law_right : Fn := runU N__law_right m__law_right
theorem tr__law_right {S0 : Sto} (hn : ncS S0) {k : Nat} {stream_here : Stm} (hk : S0[k]? = some stream_here.cell) {first : List Nat} {second : List Nat} {r : Bool} {s' : Stm} (h : x__law_right stream_here first second = some (r, s')) : f__law_right [.cell k, eS first, eS second] S0 = some (.ok (eB r) (S0.set k s'.cell)) := by
  have hk_k : k < S0.length := (List.getElem?_eq_some_iff.mp hk).1
  refine fin_ok (St.startB hn hk) List.length_set ?_
  show Run (S0.set k stream_here.cell) [(k, stream_here.cell)] m__law_right [some (.cell k), some (eS first), some (eS second), none, none, none, none] (Fin (S0.set k s'.cell) eB r)
  unfold x__law_right at h
  unfold m__law_right
  refine run_one ?_
  refine run_assoc ?_
  replace h := Option.bind_eq_some_iff.mp h; obtain ⟨r1, q1, h⟩ := h
  refine run_set st3 (ev_call (ev_cons v1 (ev_cons v2 ev_nil)) rfl fun _ hn => tr_exchange_path hn q1) ?_
  refine run_assoc ?_
  replace h := Option.bind_eq_some_iff.mp h; obtain ⟨r2, q2, h⟩ := h
  replace h := Option.bind_eq_some_iff.mp h; obtain ⟨c1, q6, h⟩ := h
  refine run_if c1 (ev_orP c1 (ev_notT (ev_tr (ev_call (ev_cons v1 (ev_cons v2 (ev_cons (X.cast (show (eT eS) r1 = eV (toV (eT eS) r1) from rfl) v3) ev_nil))) rfl fun _ hn => tr__law_is_path hn q2) fun _ h => tr_bl _ _)) (fun hc => by rw [ifT hc] at q6; cases q6; exact ⟨rfl, rfl, rfl⟩) (fun hc => by rw [ifF hc] at q6; replace q6 := Option.bind_eq_some_iff.mp q6; obtain ⟨r3, q3, q6⟩ := q6; replace q6 := Option.bind_eq_some_iff.mp q6; obtain ⟨r4, q4, q6⟩ := q6; replace q6 := Option.bind_eq_some_iff.mp q6; obtain ⟨r5, q5, q6⟩ := q6; obtain rfl := Option.some.inj q6; exact (ev_tb (ev_o2 (ev_ca (ev_cons (ev_call (ev_cons v1 (ev_cons v2 ev_nil)) rfl fun _ hn => tr_exchange_path hn q3) ev_nil) fun _ _ => op_repr q4) (ev_ca (ev_cons v3 ev_nil) fun _ _ => op_repr q5) fun _ h => op_neR)))) (fun hc => ?_) (fun hc => ?_)
  · rw [ifT hc] at h
    refine run_ret ev_c fun _ hS => ?_
    cases h
    exact fin_val rfl hS
  · rw [ifF hc] at h
    refine run_skip ?_
    refine run_assoc ?_
    replace h := Option.bind_eq_some_iff.mp h; obtain ⟨⟨r6, s1⟩, q7, h⟩ := h
    dsimp only at h
    replace h := Option.bind_eq_some_iff.mp h; obtain ⟨o1, ql, h⟩ := h
    refine run_forT (enc := eV) (s := ()) (fun (s : Unit) ρ S => ∃ j_4 j_5 j_6 : Option Val, ρ = [some (.cell k), some (eS first), some (eS second), some ((eT eS) r1), j_4, j_5, j_6] ∧ St (S0.set k s1.cell) S [(k, s1.cell)]) (fun (r : Bool × Stm) fl S => Fin (S0.set k r.2.cell) eB r.1 fl S) (it_val (ev_callK 0 (ev_cons v0 (ev_cons v3 ev_nil)) rfl gt0 (ltset hk_k) (Stm.nc _) (List.set_set _) st0 fun _ hn hk => tr__law_values hn hk q7) fun _ h => items_L) ql (fun S hS => ⟨_, _, _, rfl, hS⟩) (fun _ _ _ _ => gOk_nil _) ?_ ?_ ?_
    · clear h ql
      rintro _ value o ρ S ⟨j_4, j_5, j_6, rfl, hS⟩ h
      try dsimp only at h hS
      try dsimp only
      refine ⟨_, (tg_n st4), Run.go hS (run_one ?_)⟩
      refine run_assoc ?_
      replace h := Option.bind_eq_some_iff.mp h; obtain ⟨r7, q8, h⟩ := h
      refine run_set st5 (ev_ca (ev_cons v4 ev_nil) fun _ _ => op_repr q8) ?_
      refine run_assoc ?_
      replace h := Option.bind_eq_some_iff.mp h; obtain ⟨r8, q9, h⟩ := h
      refine run_set st6 (ev_call (ev_cons v1 (ev_cons v2 (ev_cons v4 ev_nil))) rfl fun _ hn => tr_is_exchange_path hn q9) ?_
      replace h := Option.bind_eq_some_iff.mp h; obtain ⟨c3, q13, h⟩ := h
      refine run_if c3 (ev_orP c3 (ev_notT (ev_tr (ev_ca (ev_cons v6 (ev_cons ev_c ev_nil)) fun _ h => op_isi (t := "bool") (r := true) rfl (by decide)) fun _ h => tr_bl _ _)) (fun hc => by rw [ifT hc] at q13; cases q13; exact ⟨rfl, rfl, rfl⟩) (fun hc => by rw [ifF hc] at q13; replace q13 := Option.bind_eq_some_iff.mp q13; obtain ⟨r9, q10, q13⟩ := q13; replace q13 := Option.bind_eq_some_iff.mp q13; obtain ⟨c2, q12, q13⟩ := q13; obtain rfl := Option.some.inj q13; exact (ev_orP c2 (ev_tb (ev_o2 v6 (ev_call (ev_cons v1 (ev_cons v2 (ev_cons v4 ev_nil))) rfl fun _ hn => tr__law_is_path hn q10) fun _ h => (op_ne (e := eB) (by omega)))) (fun hc => by rw [ifT hc] at q12; cases q12; exact ⟨rfl, rfl, rfl⟩) (fun hc => by rw [ifF hc] at q12; replace q12 := Option.bind_eq_some_iff.mp q12; obtain ⟨r10, q11, q12⟩ := q12; obtain rfl := Option.some.inj q12; exact (ev_tb (ev_o2 (ev_ca (ev_cons v4 ev_nil) fun _ _ => op_repr q11) v5 fun _ h => op_neR)))))) (fun hc => ?_) (fun hc => ?_)
      · rw [ifT hc] at h
        refine run_ret ev_c fun _ hS => ?_
        cases h
        exact ⟨.inl ⟨_, rfl⟩, fin_val rfl hS⟩
      · rw [ifF hc] at h
        refine run_skip ?_
        cases h
        exact run_nil fun _ hS => ⟨_, .inl rfl, ⟨_, _, _, rfl, hS⟩⟩
    · rintro r fl S rfl hxx hF
      cases h
      exact hF
    rintro _ ρ S rfl ⟨j_4, j_5, j_6, rfl, hS⟩
    try rw [lpK_go] at h
    try dsimp only [lpK] at h hS
    try dsimp only
    refine Run.go hS ?_
    refine run_ret ev_c fun _ hS => ?_
    cases h
    exact fin_val rfl hS
abbrev N_law : List Str := ["_law_script", "_law_stream_here", "_law_some", "_law_first", "_law_second", "_law_turn", "_law_count"]
noncomputable def m_law : MS := sSeq (sSet 1 (mCal 1 f_c_stream (mCons (mVar 0) (mNil)))) (sSeq (sSet 2 (mCal 1 f_c_all_words (mCons (mCal 2 f__law_pick (mCons (mVar 1) (mCons (mC (.int 5)) (mNil)))) (mNil)))) (sSeq (sFor (mVal (mVar 2)) (gN 3) (sFor (mVal (mVar 2)) (gN 4) (sIf (mOrT (mNotT (mTr (mCal 2 f__law_words_right (mCons (mVar 3) (mCons (mVar 4) (mNil)))))) (mNotT (mTr (mCal 3 f__law_is_path (mCons (mVar 3) (mCons (mVar 4) (mCons (mCal 2 f_exchange_path (mCons (mVar 3) (mCons (mVar 4) (mNil)))) (mNil)))))))) (sRet (mC (.bl false))) (sNil)))) (sSeq (sFor (mRange1 (mCons (mC (.int 4)) (mNil))) (gN 5) (sSeq (sSet 6 (mO2 sIx (mLst (mCons (mCal 2 f__law_pick (mCons (mVar 1) (mCons (mC (.int 6)) (mNil)))) (mCons (mCal 2 f__law_pick (mCons (mVar 1) (mCons (mO2 sIx (mLst (mCons (mC (.int 10)) (mCons (mC (.int 25)) (mNil)))) (mO2 aDiv (mVar 5) (mC (.int 2)))) (mNil)))) (mNil)))) (mO2 aMod (mVar 5) (mC (.int 2))))) (sSeq (sPar 3 4 (mCons (mCal 2 f__law_drawn_word (mCons (mVar 1) (mCons (mVar 6) (mNil)))) (mCons (mCal 2 f__law_drawn_word (mCons (mVar 1) (mCons (mVar 6) (mNil)))) (mNil)))) (sIf (mOrT (mNotT (mTr (mCal 2 f__law_words_right (mCons (mVar 3) (mCons (mVar 4) (mNil)))))) (mNotT (mTr (mCal 3 f__law_right (mCons (mVar 1) (mCons (mVar 3) (mCons (mVar 4) (mNil)))))))) (sRet (mC (.bl false))) (sNil))))) (sRet (mC (.bl true))))))
noncomputable def x_law (script : List Int) : Option Bool :=
  (strC script).bind fun s1 =>
  (x__law_pick s1 5).bind fun (r1, s2) =>
  (x_c_all_words r1).bind fun r2 =>
  (forT (fun (_ : Unit) (first : List Nat) =>
    (forT (fun (_ : Unit) (second : List Nat) =>
      (x__law_words_right first second).bind fun r3 =>
      (if (!r3) then some true else ((x_exchange_path first second).bind fun r4 => (x__law_is_path first second (toV (eT eS) r4)).bind fun r5 => some (!r5))).bind fun c1 =>
      if c1 then
        some (.ret false)
      else
        some (.go ())) r2 (() : Unit)).bind fun (o1 : Lp Bool Unit) =>
    lpK o1 .ret fun _ =>
    some (.go ())) r2 (() : Unit)).bind fun (o2 : Lp Bool Unit) =>
  lpK o2 id fun _ =>
  (rngO 0 4).bind fun rg =>
  (forT (fun (stream_here : Stm) (turn : Int) =>
    (x__law_pick stream_here 6).bind fun (r6, s3) =>
    (atI [10, 25] (turn / 2)).bind fun r7 =>
    (x__law_pick s3 r7).bind fun (r8, s4) =>
    (atI [r6, r8] (turn % 2)).bind fun r9 =>
    (x__law_drawn_word s4 r9).bind fun (r10, s5) =>
    (x__law_drawn_word s5 r9).bind fun (r11, s6) =>
    (x__law_words_right r10 r11).bind fun r12 =>
    (if (!r12) then some (true, s6) else ((x__law_right s6 r10 r11).bind fun (r13, s7) => some ((!r13), s7))).bind fun (c2, stream_here1) =>
    if c2 then
      some (.ret false)
    else
      some (.go stream_here1)) rg (s2 : Stm)).bind fun (o3 : Lp Bool Stm) =>
  lpK o3 id fun (stream_here2 : Stm) =>
  some true
noncomputable def f_law : Fn := runU N_law m_law
theorem tr_law {S0 : Sto} (hn : ncS S0) {script : List Int} {r : Bool} (h : x_law script = some r) : f_law [Val.scr script] S0 = some (.ok (eB r) S0) := by
  refine fin_ok (St.start hn) rfl ?_
  show Run S0 [] m_law [some (Val.scr script), none, none, none, none, none, none] (Fin S0 eB r)
  unfold x_law at h
  unfold m_law
  refine run_one ?_
  refine run_assoc ?_
  replace h := Option.bind_eq_some_iff.mp h; obtain ⟨s1, q1, h⟩ := h
  refine run_streamC q1 v0 fun k_stream_here ρ_ hk_k_stream_here hρ => ?_
  obtain rfl := st1.symm.trans hρ
  refine run_assoc ?_
  replace h := Option.bind_eq_some_iff.mp h; obtain ⟨⟨r1, s2⟩, q2, h⟩ := h
  dsimp only at h
  replace h := Option.bind_eq_some_iff.mp h; obtain ⟨r2, q3, h⟩ := h
  refine run_set st2 (ev_call (ev_cons (ev_callO 0 (ev_cons v1 (ev_cons ev_c ev_nil)) rfl gt0 hk_k_stream_here (Stm.nc _) st0 fun _ hn hk => tr__law_pick hn hk q2) ev_nil) rfl fun _ hn => tr_c_all_words hn q3) ?_
  refine run_assoc ?_
  replace h := Option.bind_eq_some_iff.mp h; obtain ⟨o2, ql1, h⟩ := h
  refine run_forT (enc := eS) (s := ()) (fun (s : Unit) ρ S => ∃ j_3 j_4 : Option Val, ρ = [some (Val.scr script), some (.cell k_stream_here), some ((eL eS) r2), j_3, j_4, none, none] ∧ St S0 S [(k_stream_here, s2.cell)]) (fun (r : Bool) fl S => Fin S0 eB r fl S) (it_val v2 fun _ h => items_L) ql1 (fun S hS => ⟨_, _, rfl, hS⟩) (fun _ _ _ _ => gOk_nil _) ?_ ?_ ?_
  · clear h ql1
    rintro _ first o ρ S ⟨j_3, j_4, rfl, hS⟩ h
    try dsimp only at h hS
    try dsimp only
    refine ⟨_, (tg_n st3), Run.go hS (run_one ?_)⟩
    replace h := Option.bind_eq_some_iff.mp h; obtain ⟨o1, ql, h⟩ := h
    refine run_forT (enc := eS) (s := ()) (fun (s : Unit) ρ S => ∃ j_4 : Option Val, ρ = [some (Val.scr script), some (.cell k_stream_here), some ((eL eS) r2), some (eS first), j_4, none, none] ∧ St S0 S [(k_stream_here, s2.cell)]) (fun (r : Bool) fl S => Fin S0 eB r fl S) (it_val v2 fun _ h => items_L) ql (fun S hS => ⟨_, rfl, hS⟩) (fun _ _ _ _ => gOk_nil _) ?_ ?_ ?_
    · clear h ql
      rintro _ second o ρ S ⟨j_4, rfl, hS⟩ h
      try dsimp only at h hS
      try dsimp only
      refine ⟨_, (tg_n st4), Run.go hS (run_one ?_)⟩
      replace h := Option.bind_eq_some_iff.mp h; obtain ⟨r3, q4, h⟩ := h
      replace h := Option.bind_eq_some_iff.mp h; obtain ⟨c1, q7, h⟩ := h
      refine run_if c1 (ev_orP c1 (ev_notT (ev_tr (ev_call (ev_cons v3 (ev_cons v4 ev_nil)) rfl fun _ hn => tr__law_words_right hn q4) fun _ h => tr_bl _ _)) (fun hc => by rw [ifT hc] at q7; cases q7; exact ⟨rfl, rfl, rfl⟩) (fun hc => by rw [ifF hc] at q7; replace q7 := Option.bind_eq_some_iff.mp q7; obtain ⟨r4, q5, q7⟩ := q7; replace q7 := Option.bind_eq_some_iff.mp q7; obtain ⟨r5, q6, q7⟩ := q7; obtain rfl := Option.some.inj q7; exact (ev_notT (ev_tr (ev_call (ev_cons v3 (ev_cons v4 (ev_cons (X.cast (show (eT eS) r4 = eV (toV (eT eS) r4) from rfl) (ev_call (ev_cons v3 (ev_cons v4 ev_nil)) rfl fun _ hn => tr_exchange_path hn q5)) ev_nil))) rfl fun _ hn => tr__law_is_path hn q6) fun _ h => tr_bl _ _)))) (fun hc => ?_) (fun hc => ?_)
      · rw [ifT hc] at h
        refine run_ret ev_c fun _ hS => ?_
        cases h
        exact ⟨.inl ⟨_, rfl⟩, fin_val rfl hS⟩
      · rw [ifF hc] at h
        refine run_skip ?_
        cases h
        exact run_nil fun _ hS => ⟨_, .inl rfl, ⟨_, rfl, hS⟩⟩
    · rintro r fl S rfl hxx hF
      cases h
      exact ⟨hxx, hF⟩
    rintro _ ρ S rfl ⟨j_4, rfl, hS⟩
    try rw [lpK_go] at h
    try dsimp only [lpK] at h hS
    try dsimp only
    refine Run.go hS ?_
    cases h
    exact run_nil fun _ hS => ⟨_, .inl rfl, ⟨_, _, rfl, hS⟩⟩
  · rintro r fl S rfl hxx hF
    cases h
    exact hF
  rintro _ ρ S rfl ⟨j_3, j_4, rfl, hS⟩
  try rw [lpK_go] at h
  try dsimp only [lpK] at h hS
  try dsimp only
  refine Run.go hS ?_
  refine run_assoc ?_
  replace h := Option.bind_eq_some_iff.mp h; obtain ⟨rg, q8, h⟩ := h
  replace h := Option.bind_eq_some_iff.mp h; obtain ⟨o3, ql2, h⟩ := h
  refine run_forT (enc := eI) (s := s2) (fun (s : Stm) ρ S => ∃ j_3 j_4 j_5 j_6 : Option Val, ρ = [some (Val.scr script), some (.cell k_stream_here), some ((eL eS) r2), j_3, j_4, j_5, j_6] ∧ St S0 S [(k_stream_here, s.cell)]) (fun (r : Bool) fl S => Fin S0 eB r fl S) (it_range1 (ev_cons ev_c ev_nil) q8) ql2 (fun S hS => ⟨_, _, _, _, rfl, hS⟩) (fun _ _ _ _ => gOk_nil _) ?_ ?_ ?_
  · clear h ql2
    rintro stream_here turn o ρ S ⟨j_3, j_4, j_5, j_6, rfl, hS⟩ h
    try dsimp only at h hS
    try dsimp only
    refine ⟨_, (tg_n st5), Run.go hS (run_one ?_)⟩
    refine run_assoc ?_
    replace h := Option.bind_eq_some_iff.mp h; obtain ⟨⟨r6, s3⟩, q9, h⟩ := h
    dsimp only at h
    replace h := Option.bind_eq_some_iff.mp h; obtain ⟨r7, q10, h⟩ := h
    replace h := Option.bind_eq_some_iff.mp h; obtain ⟨⟨r8, s4⟩, q11, h⟩ := h
    dsimp only at h
    replace h := Option.bind_eq_some_iff.mp h; obtain ⟨r9, q12, h⟩ := h
    refine run_set st6 (ev_o2 (lstT (e := eI) (xs := [r6, r8]) (ev_cons (ev_callO 0 (ev_cons v1 (ev_cons ev_c ev_nil)) rfl gt0 hk_k_stream_here (Stm.nc _) st0 fun _ hn hk => tr__law_pick hn hk q9) (ev_cons (ev_callO 0 (ev_cons v1 (ev_cons (ev_o2 (lstT (e := eI) (xs := [10, 25]) (ev_cons ev_c (ev_cons ev_c ev_nil)) (by simp)) (ev_o2 v5 ev_c fun _ _ => op_divC (by decide) (by decide)) fun _ h => op_ix sqL q10) ev_nil)) rfl gt0 hk_k_stream_here (Stm.nc _) st0 fun _ hn hk => tr__law_pick hn hk q11) ev_nil)) (by simp)) (ev_o2 v5 ev_c fun _ _ => op_modC (by decide)) fun _ h => op_ix sqL q12) ?_
    refine run_assoc ?_
    replace h := Option.bind_eq_some_iff.mp h; obtain ⟨⟨r10, s5⟩, q13, h⟩ := h
    dsimp only at h
    replace h := Option.bind_eq_some_iff.mp h; obtain ⟨⟨r11, s6⟩, q14, h⟩ := h
    dsimp only at h
    refine run_par st3 st4 (ev_cons (ev_callO 0 (ev_cons v1 (ev_cons v6 ev_nil)) rfl gt0 hk_k_stream_here (Stm.nc _) st0 fun _ hn hk => tr__law_drawn_word hn hk q13) (ev_cons (ev_callO 0 (ev_cons v1 (ev_cons v6 ev_nil)) rfl gt0 hk_k_stream_here (Stm.nc _) st0 fun _ hn hk => tr__law_drawn_word hn hk q14) ev_nil)) ?_
    replace h := Option.bind_eq_some_iff.mp h; obtain ⟨r12, q15, h⟩ := h
    replace h := Option.bind_eq_some_iff.mp h; obtain ⟨⟨c2, stream_here1⟩, q17, h⟩ := h
    dsimp only at h
    refine run_if c2 (ev_orP (B2 := S0) (cs2 := [(k_stream_here, stream_here1.cell)]) c2 (ev_notT (ev_tr (ev_call (ev_cons v3 (ev_cons v4 ev_nil)) rfl fun _ hn => tr__law_words_right hn q15) fun _ h => tr_bl _ _)) (fun hc => by rw [ifT hc] at q17; cases q17; exact ⟨rfl, rfl, rfl⟩) (fun hc => by rw [ifF hc] at q17; replace q17 := Option.bind_eq_some_iff.mp q17; obtain ⟨⟨r13, s7⟩, q16, q17⟩ := q17; dsimp only at q17; have q17 := Prod.mk.inj (Option.some.inj q17); obtain ⟨e1_, e2_⟩ := q17; subst e1_; subst e2_; exact (ev_notT (ev_tr (ev_callO 0 (ev_cons v1 (ev_cons v3 (ev_cons v4 ev_nil))) rfl gt0 hk_k_stream_here (Stm.nc _) st0 fun _ hn hk => tr__law_right hn hk q16) fun _ h => tr_bl _ _)))) (fun hc => ?_) (fun hc => ?_)
    · rw [ifT hc] at h
      refine run_ret ev_c fun _ hS => ?_
      cases h
      exact ⟨.inl ⟨_, rfl⟩, fin_val rfl hS⟩
    · rw [ifF hc] at h
      refine run_skip ?_
      cases h
      exact run_nil fun _ hS => ⟨_, .inl rfl, ⟨_, _, _, _, rfl, hS⟩⟩
  · rintro r fl S rfl hxx hF
    cases h
    exact hF
  rintro stream_here2 ρ S rfl ⟨j_3, j_4, j_5, j_6, rfl, hS⟩
  try rw [lpK_go] at h
  try dsimp only [lpK] at h hS
  try dsimp only
  refine Run.go hS ?_
  refine run_ret ev_c fun _ hS => ?_
  cases h
  exact fin_val rfl hS
--@plain
/-! ### rows of two words -/
abbrev mnR (a b : List Int) : List Int := (zpL a b).map fun (pair : Int × Int) => (min pair.1 pair.2)
abbrev mxR (a b : List Int) : List Int := (zpL a b).map fun (pair : Int × Int) => (max pair.1 pair.2)
abbrev dsL (a b : List Int) : List Int := (zpL a b).map fun ((one, other) : Int × Int) => ((one - other).natAbs : Int)
abbrev dsR (a b : List Int) : Int := (dsL a b).sum
theorem zp_len {α β : Type} {a : List α} {b : List β} (h : a.length = b.length) : (zpL a b).length = a.length := by
  unfold zpL
  rw [List.length_zipWith]
  omega
theorem zp_at {α β : Type} {a : List α} {b : List β} {i : Nat} (h : i < (zpL a b).length) (ha : i < a.length) (hb : i < b.length) : (zpL a b)[i] = (a[i], b[i]) := by
  exact List.getElem_zipWith
theorem mn_len {a b : List Int} (h : a.length = b.length) : (mnR a b).length = a.length := by rw [List.length_map, zp_len h]
theorem mx_len {a b : List Int} (h : a.length = b.length) : (mxR a b).length = a.length := by rw [List.length_map, zp_len h]
theorem mn_at {a b : List Int} {i : Nat} (h : a.length = b.length) (hi : i < (mnR a b).length) : (mnR a b)[i] = min (a[i]'(by rw [mn_len h] at hi; exact hi)) (b[i]'(by rw [mn_len h] at hi; omega)) := by
  have := mn_len h
  rw [List.getElem_map, zp_at _ (by omega) (by omega)]
theorem mx_at {a b : List Int} {i : Nat} (h : a.length = b.length) (hi : i < (mxR a b).length) : (mxR a b)[i] = max (a[i]'(by rw [mx_len h] at hi; exact hi)) (b[i]'(by rw [mx_len h] at hi; omega)) := by
  have := mx_len h
  rw [List.getElem_map, zp_at _ (by omega) (by omega)]
theorem isRow_mn {a b : List Int} (ha : IsRow a) (hb : IsRow b) (h : a.length = b.length) : IsRow (mnR a b) := by
  intro i hi
  have hl := mn_len h
  have h1 := ha i (by omega)
  have h2 := hb i (by omega)
  rw [mn_at h hi]
  refine ⟨by omega, by omega, fun h0 => ?_⟩
  rw [mn_at h (by omega)]
  have h3 := h1.2.2 h0
  have h4 := h2.2.2 h0
  omega
theorem isRow_mx {a b : List Int} (ha : IsRow a) (hb : IsRow b) (h : a.length = b.length) : IsRow (mxR a b) := by
  intro i hi
  have hl := mx_len h
  have h1 := ha i (by omega)
  have h2 := hb i (by omega)
  rw [mx_at h hi]
  refine ⟨by omega, by omega, fun h0 => ?_⟩
  rw [mx_at h (by omega)]
  have h3 := h1.2.2 h0
  have h4 := h2.2.2 h0
  omega
theorem ds_cons (x y : Int) (a b : List Int) : dsR (x :: a) (y :: b) = ((x - y).natAbs : Int) + dsR a b := by
  show ((dsL (x :: a) (y :: b))).sum = _
  unfold dsL zpL
  rw [List.zipWith_cons_cons, List.map_cons, List.sum_cons]
  rfl
theorem ds_nonneg : ∀ a b : List Int, 0 ≤ dsR a b
  | [], b => by simp [dsR, dsL, zpL]
  | _ :: _, [] => by simp [dsR, dsL, zpL]
  | x :: a, y :: b => by
    rw [ds_cons]
    have := ds_nonneg a b
    omega
theorem ds_self : ∀ a : List Int, dsR a a = 0
  | [] => by simp [dsR, dsL, zpL]
  | x :: a => by
    rw [ds_cons, ds_self a]
    omega
theorem ds_app : ∀ {a b : List Int} (c d : List Int), a.length = b.length → dsR (a ++ c) (b ++ d) = dsR a b + dsR c d
  | [], [], c, d, _ => by
    have : dsR [] [] = 0 := by simp [dsR, dsL, zpL]
    rw [this, List.nil_append, List.nil_append]
    omega
  | x :: a, y :: b, c, d, h => by
    rw [List.cons_append, List.cons_append, ds_cons, ds_cons, ds_app c d (by simpa using h)]
    omega
theorem ds_zero : ∀ {a b : List Int}, a.length = b.length → dsR a b = 0 → a = b
  | [], [], _, _ => rfl
  | x :: a, y :: b, h, h0 => by
    rw [ds_cons] at h0
    have h1 := ds_nonneg a b
    have h2 := ds_zero (a := a) (b := b) (by simpa using h) (by omega)
    rw [h2, show x = y by omega]
/-- one item is lowered by one -/
def Lw (x y : List Int) : Prop := ∃ (p : List Int) (c : Int) (q : List Int), x = p ++ c :: q ∧ y = p ++ (c - 1) :: q
theorem Lw.ds {x y : List Int} (h : Lw x y) : dsR x y = 1 ∧ dsR y x = 1 := by
  obtain ⟨p, c, q, rfl, rfl⟩ := h
  rw [ds_app _ _ rfl, ds_app _ _ rfl, ds_cons, ds_cons, ds_self, ds_self]
  omega
theorem ds_one : ∀ {a b : List Int}, a.length = b.length → dsR a b = 1 → Lw a b ∨ Lw b a
  | [], [], _, h => by simp [dsR, dsL, zpL] at h
  | x :: a, y :: b, h, h1 => by
    rw [ds_cons] at h1
    have h2 := ds_nonneg a b
    have hl : a.length = b.length := by simpa using h
    by_cases c : x = y
    · subst c
      rcases ds_one hl (by omega) with ⟨p, c, q, rfl, rfl⟩ | ⟨p, c, q, rfl, rfl⟩
      · exact .inl ⟨x :: p, c, q, rfl, rfl⟩
      · exact .inr ⟨x :: p, c, q, rfl, rfl⟩
    · obtain rfl := ds_zero hl (by omega)
      by_cases d : y = x - 1
      · exact .inl ⟨[], x, a, rfl, by rw [d]; rfl⟩
      · exact .inr ⟨[], y, a, rfl, by rw [show x = y - 1 by omega]; rfl⟩
theorem ds_mn : ∀ {a b : List Int}, a.length = b.length → dsR a (mnR a b) + dsR b (mnR a b) = dsR a b
  | [], [], _ => by simp [dsR, dsL, zpL]
  | x :: a, y :: b, h => by
    have e : mnR (x :: a) (y :: b) = min x y :: mnR a b := rfl
    rw [e, ds_cons, ds_cons, ds_cons]
    have := ds_mn (a := a) (b := b) (by simpa using h)
    omega
theorem ds_le : ∀ {a b : List Int} {m : Int}, 0 ≤ m → (∀ x ∈ a, 0 ≤ x ∧ x ≤ m) → (∀ x ∈ b, 0 ≤ x ∧ x ≤ m) → dsR a b ≤ (a.length : Int) * m
  | [], b, m, h0, _, _ => by simp [dsR, dsL, zpL]
  | x :: a, [], m, h0, _, _ => by
    have : dsR (x :: a) [] = 0 := by simp [dsR, dsL, zpL]
    rw [this]
    exact Int.mul_nonneg (by omega) h0
  | x :: a, y :: b, m, h0, ha, hb => by
    rw [ds_cons, List.length_cons]
    have h1 := ds_le (a := a) (b := b) h0 (fun z hz => ha z (List.mem_cons_of_mem _ hz)) fun z hz => hb z (List.mem_cons_of_mem _ hz)
    have h2 := ha x List.mem_cons_self
    have h3 := hb y List.mem_cons_self
    have e : ((a.length + 1 : Nat) : Int) * m = (a.length : Int) * m + m := by rw [Int.natCast_add, Int.add_mul]; simp
    rw [e]
    omega
/-! ### steps -/
def Sw (u v : List Bool) : Prop := ∃ A B, u = A ++ true :: false :: B ∧ v = A ++ false :: true :: B
theorem sw_lw {u v : List Bool} (h : Sw u v) : Lw (rowW u 0) (rowW v 0) := by
  obtain ⟨A, B, rfl, rfl⟩ := h
  refine ⟨rowW A 0, 0 + A.count true + 1, rowW B (0 + A.count true + 1), ?_, ?_⟩
  · rw [rowW_app]; rfl
  · rw [rowW_app, rowW, rowW, show 0 + (A.count true : Int) + 1 - 1 = 0 + A.count true by omega]
theorem up_app : ∀ {p rs : List Int} {c : Int}, Up (p ++ rs) c → Up rs (p.getLast?.getD c)
  | [], rs, c, h => h
  | x :: p, rs, c, h => by
    have := up_app (p := p) h.2
    rw [List.getLast?_cons]
    simpa using this
theorem wordR_app : ∀ (p rs : List Int) (c : Int), wordR (p ++ rs) c = wordR p c ++ wordR rs (p.getLast?.getD c)
  | [], rs, c => rfl
  | x :: p, rs, c => by
    rw [List.cons_append, wordR, wordR, wordR_app p rs x, List.getLast?_cons]
    simp
theorem lw_sw {u v : List Bool} (hu : Dyck u) (hv : Dyck v) {n : Nat} (lu : u.length = 2 * n) (lv : v.length = 2 * n) (h : Lw (rowW u 0) (rowW v 0)) : Sw u v := by
  obtain ⟨p, c, q, e1, e2⟩ := h
  have d1 := dyck_word hu
  have d2 := dyck_word hv
  obtain ⟨r1, l1⟩ := dyck_row hu lu
  obtain ⟨r2, l2⟩ := dyck_row hv lv
  rw [e1] at d1 r1 l1
  rw [e2] at d2 r2 l2
  have u1 := up_app r1.up
  have u2 := up_app r2.up
  cases q with
  | nil =>
    have a1 := r1 p.length (by simp)
    have a2 := r2 p.length (by simp)
    simp at a1 a2
    omega
  | cons d q =>
    have a1 := u1.2.1
    have a2 := u2.1
    rw [wordR_app] at d1 d2
    generalize p.getLast?.getD 0 = l at *
    refine ⟨wordR p 0 ++ List.replicate (c - 1 - l).toNat true, List.replicate (d - c).toNat true ++ (false :: wordR q d), ?_, ?_⟩
    · rw [← d1, wordR, wordR, show (c - l).toNat = (c - 1 - l).toNat + 1 by omega, List.replicate_succ']
      simp
    · rw [← d2, wordR, wordR, show (d - (c - 1)).toNat = (d - c).toNat + 1 by omega, List.replicate_succ]
      simp
/-- steps are what lies at distance one -/
theorem sw_iff {u v : List Bool} (hu : Dyck u) (hv : Dyck v) {n : Nat} (lu : u.length = 2 * n) (lv : v.length = 2 * n) : (Sw u v ∨ Sw v u) ↔ dsR (rowW u 0) (rowW v 0) = 1 := by
  obtain ⟨r1, l1⟩ := dyck_row hu lu
  obtain ⟨r2, l2⟩ := dyck_row hv lv
  constructor
  · rintro (h | h)
    · exact (sw_lw h).ds.1
    · exact (sw_lw h).ds.2
  · intro h
    rcases ds_one (by omega) h with h | h
    · exact .inl (lw_sw hu hv lu lv h)
    · exact .inr (lw_sw hv hu lv lu h)
def dfB : List Bool → List Bool → Int → List Int
  | x :: u, y :: v, k => if x = y then dfB u v (k + 1) else k :: dfB u v (k + 1)
  | _, _, _ => []
theorem df_self : ∀ (u : List Bool) (k : Int), dfB u u k = []
  | [], _ => rfl
  | x :: u, k => by rw [dfB, if_pos rfl, df_self u]
theorem df_nil : ∀ {u v : List Bool} {k : Int}, u.length = v.length → dfB u v k = [] → u = v
  | [], [], _, _, _ => rfl
  | x :: u, y :: v, k, h, h0 => by
    rw [dfB] at h0
    split at h0
    · rename_i e
      rw [e, df_nil (by simpa using h) h0]
    · cases h0
theorem df_ge : ∀ {u v : List Bool} {k : Int}, ∀ x ∈ dfB u v k, k ≤ x
  | [], _, _, x, h => by simp [dfB] at h
  | _ :: _, [], _, x, h => by simp [dfB] at h
  | a :: u, b :: v, k, x, h => by
    rw [dfB] at h
    split at h
    · have := df_ge x h
      omega
    · rcases List.mem_cons.mp h with rfl | h
      · omega
      · have := df_ge x h
        omega
theorem df_two : ∀ {u v : List Bool} {k i : Int}, u.length = v.length → dfB u v k = [i, i + 1] → ∃ A B x y, i = k + (A.length : Int) ∧ u = A ++ x :: y :: B ∧ v = A ++ (!x) :: (!y) :: B
  | [], [], k, i, _, h => by simp [dfB] at h
  | [a], [b], k, i, _, h => by
    rw [dfB] at h
    split at h <;> simp [dfB] at h
  | a :: c :: u, b :: d :: v, k, i, hl, h => by
    rw [dfB] at h
    split at h
    · rename_i e
      obtain ⟨A, B, x, y, e1, e2, e3⟩ := df_two (u := c :: u) (v := d :: v) (by simpa using hl) h
      exact ⟨a :: A, B, x, y, by simp; omega, by rw [e2]; rfl, by rw [e3, e]; rfl⟩
    · rename_i e
      obtain ⟨rfl, h⟩ := List.cons.inj h
      rw [dfB] at h
      split at h
      · have := df_ge (k + 1) (by rw [h]; simp)
        omega
      · rename_i e2
        have h3 := (List.cons.inj h).2
        obtain rfl := df_nil (by simpa using hl) h3
        refine ⟨[], u, a, c, by simp, rfl, ?_⟩
        rw [show (!a) = b by cases a <;> cases b <;> simp_all, show (!c) = d by cases c <;> cases d <;> simp_all]
        rfl
theorem df_app : ∀ (A : List Bool) (B : List Bool) (x y : Bool) (k : Int), dfB (A ++ x :: y :: B) (A ++ (!x) :: (!y) :: B) k = [k + (A.length : Int), k + (A.length : Int) + 1]
  | [], B, x, y, k => by
    rw [List.nil_append, List.nil_append, dfB, if_neg (by cases x <;> decide), dfB, if_neg (by cases y <;> decide), df_self]
    simp
  | a :: A, B, x, y, k => by
    rw [List.cons_append, List.cons_append, dfB, if_pos rfl, df_app A B x y (k + 1), List.length_cons]
    rw [show k + 1 + (A.length : Int) = k + ((A.length + 1 : Nat) : Int) by omega]
theorem df_filter : ∀ {u v : List Bool} {k : Int}, u.length = v.length → ((List.range u.length).map fun (i : Nat) => k + (i : Int)).filter (fun i => decide (u.getD (i - k).toNat false ≠ v.getD (i - k).toNat false)) = dfB u v k
  | [], [], k, _ => rfl
  | a :: u, b :: v, k, h => by
    have ih := df_filter (u := u) (v := v) (k := k + 1) (by simpa using h)
    have e : ((List.range (a :: u).length).map fun (i : Nat) => k + (i : Int)) = k :: ((List.range u.length).map fun (i : Nat) => k + 1 + (i : Int)) := by
      rw [List.length_cons, List.range_succ_eq_map, List.map_cons, List.map_map]
      congr 1
      · simp
      · refine List.map_congr_left fun i _ => ?_
        simp
        omega
    rw [e, List.filter_cons, dfB, ← ih]
    have e2 : ((List.range u.length).map fun (i : Nat) => k + 1 + (i : Int)).filter (fun i => decide ((a :: u).getD (i - k).toNat false ≠ (b :: v).getD (i - k).toNat false)) = ((List.range u.length).map fun (i : Nat) => k + 1 + (i : Int)).filter (fun i => decide (u.getD (i - (k + 1)).toNat false ≠ v.getD (i - (k + 1)).toNat false)) := by
      refine List.filter_congr fun x hx => ?_
      obtain ⟨i, _, rfl⟩ := List.mem_map.mp hx
      rw [show (k + 1 + (i : Int) - k).toNat = i + 1 by omega, show (k + 1 + (i : Int) - (k + 1)).toNat = i by omega]
      simp
    rw [e2]
    by_cases c : a = b
    · simp [c]
    · simp [c]
theorem df_len {u v : List Bool} {k : Int} (h : u.length = v.length) : (dfB u v k).length ≤ u.length := by
  rw [← df_filter h]
  refine Nat.le_trans (List.length_filter_le _ _) ?_
  simp
theorem sw_df {u v : List Bool} (h : Sw u v ∨ Sw v u) : ∃ i, dfB u v 0 = [i, i + 1] := by
  rcases h with ⟨A, B, rfl, rfl⟩ | ⟨A, B, rfl, rfl⟩
  · exact ⟨_, df_app A B true false 0⟩
  · exact ⟨_, df_app A B false true 0⟩
theorem sw_count {u v : List Bool} (h : Sw u v ∨ Sw v u) : u.count true = v.count true := by
  rcases h with ⟨A, B, rfl, rfl⟩ | ⟨A, B, rfl, rfl⟩ <;> simp
theorem lt_inj {x y : Bool} : ([lt x] = [lt y]) ↔ x = y := by cases x <;> cases y <;> decide
theorem at_wL {w : List Bool} {i : Nat} {b : Bool} (h : w[i]? = some b) : atI (wL w) (i : Int) = some (lt b) := by
  obtain ⟨hi, hb⟩ := List.getElem?_eq_some_iff.mp h
  rw [atI_ok (by omega) (by simp; omega)]
  simp [hb]
theorem step_ok {u v : List Bool} (hl : u.length = v.length) (h : u.length ≤ 100) : Ret (x__law_is_step (wL u) (wL v)) fun b => b = true ↔ (Sw u v ∨ Sw v u) := by
  unfold x__law_is_step
  have hz : szO (wL u) = some (wL u) := szO_ok (by simp; omega)
  have hz' : szO (wL v) = some (wL v) := szO_ok (by simp; omega)
  refine ret_eq hz (ret_rng (by decide) (by decide) (by simp <;> omega) (by simp <;> omega) ?_)
  have el := lcO_filter (xs := (List.range (((wL u).length : Int) - 0).toNat).map fun (i : Nat) => (0 : Int) + (i : Int)) (g := fun (at_ : Int) => ((szO (wL u)).bind fun z1 => (atI (wL u) at_).bind fun r1 => (szO (wL v)).bind fun z2 => (atI (wL v) at_).bind fun r2 => if (!decide ([r1] = [r2])) = true then (some (some at_)) else some none)) (p := fun i => decide (u.getD (i - 0).toNat false ≠ v.getD (i - 0).toNat false)) (fun x hx => by
    obtain ⟨i, hi, rfl⟩ := List.mem_map.mp hx
    have hi' : i < u.length := by have := List.mem_range.mp hi; simpa using this
    have e1 : u[i]? = some (u.getD i false) := by rw [List.getD_eq_getElem?_getD, List.getElem?_eq_getElem hi']; rfl
    have e2 : v[i]? = some (v.getD i false) := by rw [List.getD_eq_getElem?_getD, List.getElem?_eq_getElem (show i < v.length by omega)]; rfl
    rw [hz, Option.bind_some, Int.zero_add, at_wL e1, Option.bind_some, hz', Option.bind_some, at_wL e2, Option.bind_some, show ((i : Int) - 0).toNat = i by omega]
    by_cases c : u.getD i false = v.getD i false
    · rw [c]
      simp
    · rw [decide_eq_false (fun q => c (lt_inj.mp q)), decide_eq_true c]
      rfl)
  rw [show (((wL u).length : Int) - 0).toNat = u.length by simp] at el
  rw [df_filter hl] at el
  rw [show (((wL u).length : Int) - 0).toNat = u.length by simp]
  refine ret_eq el (ret_sz (by have := df_len (k := 0) hl; omega) ?_)
  by_cases c : ∃ i, dfB u v 0 = [i, i + 1]
  · obtain ⟨i, hi⟩ := c
    obtain ⟨A, B, x, y, rfl, rfl, rfl⟩ := df_two hl hi
    rw [hi]
    have a1 : atI [0 + (A.length : Int), 0 + (A.length : Int) + 1] 1 = some (0 + (A.length : Int) + 1) := rfl
    have a0 : atI [0 + (A.length : Int), 0 + (A.length : Int) + 1] 0 = some (0 + (A.length : Int)) := rfl
    have b0 : atI (wL (A ++ x :: y :: B)) (0 + (A.length : Int)) = some (lt x) := by
      rw [Int.zero_add]
      exact at_wL (by simp)
    have b1 : atI (wL (A ++ x :: y :: B)) (0 + (A.length : Int) + 1) = some (lt y) := by
      have := at_wL (w := A ++ x :: y :: B) (i := A.length + 1) (b := y) (by simp)
      rw [← this]
      congr 1
      omega
    have c0 : atI (wL (A ++ (!x) :: (!y) :: B)) (0 + (A.length : Int)) = some (lt !x) := by
      rw [Int.zero_add]
      exact at_wL (by simp)
    have c1 : atI (wL (A ++ (!x) :: (!y) :: B)) (0 + (A.length : Int) + 1) = some (lt !y) := by
      have := at_wL (w := A ++ (!x) :: (!y) :: B) (i := A.length + 1) (b := !y) (by simp)
      rw [← this]
      congr 1
      omega
    simp only [a1, a0, b0, b1, c0, c1, hz, hz', Option.bind_some, List.length_cons, List.length_nil, decide_true, if_true, Nat.zero_add, Int.natCast_add, Int.reduceAdd, Int.cast_ofNat_Int]
    have hct := @sw_count (A ++ x :: y :: B) (A ++ (!x) :: (!y) :: B)
    cases x <;> cases y
    · refine ret_of (b := false) (by rfl) ?_
      simp at hct ⊢
      exact ⟨fun q => by have := hct (.inl q); omega, fun q => by have := hct (.inr q); omega⟩
    · refine ret_of (b := true) (by rfl) ?_
      simp
      exact .inr ⟨A, B, rfl, rfl⟩
    · refine ret_of (b := true) (by rfl) ?_
      simp
      exact .inl ⟨A, B, rfl, rfl⟩
    · refine ret_of (b := false) (by rfl) ?_
      simp at hct ⊢
      exact ⟨fun q => by have := hct (.inl q); omega, fun q => by have := hct (.inr q); omega⟩
  · have hno : ¬ (Sw u v ∨ Sw v u) := fun q => c (sw_df q)
    generalize dfB u v 0 = D at *
    by_cases c2 : ((D.length : Nat) : Int) = 2
    · rw [if_pos (decide_eq_true c2)]
      obtain ⟨a, b, rfl⟩ : ∃ a b, D = [a, b] := by
        match D, c2 with
        | [a, b], _ => exact ⟨a, b, rfl⟩
        | [], h => simp at h
        | [a], h => simp at h
        | a :: b :: d :: D, h => simp at h; omega
      have hab : ¬ b = a + 1 := fun q => c ⟨a, by rw [q]⟩
      have a1 : atI [a, b] 1 = some b := rfl
      have a0 : atI [a, b] 0 = some a := rfl
      rw [a1, Option.bind_some, a0, Option.bind_some, if_neg (by simpa using hab)]
      exact ret_some (by simpa using hno)
    · rw [if_neg (by simpa using c2)]
      exact ret_some (by simpa using hno)
/-! ### paths -/
/-- neighbors are related -/
def Ch {α : Type} (R : α → α → Prop) (xs : List α) : Prop := ∀ (i : Nat) (x y : α), xs[i]? = some x → xs[i + 1]? = some y → R x y
theorem ch_snoc {α : Type} {R : α → α → Prop} {xs : List α} {x y : α} (h : Ch R (xs ++ [x])) (hr : R x y) : Ch R (xs ++ [x] ++ [y]) := by
  intro i a b ha hb
  have hl : i + 1 < (xs ++ [x] ++ [y]).length := (List.getElem?_eq_some_iff.mp hb).1
  simp at hl
  by_cases c : i + 1 < (xs ++ [x]).length
  · rw [List.getElem?_append_left (by omega)] at ha
    rw [List.getElem?_append_left c] at hb
    exact h i a b ha hb
  · simp at c
    obtain rfl : i = xs.length := by omega
    simp at ha hb
    rw [← ha, ← hb]
    exact hr
theorem ch_glue {α : Type} {R : α → α → Prop} {xs ys : List α} {t : α} (h1 : Ch R (xs ++ [t])) (h2 : Ch R (t :: ys)) : Ch R (xs ++ t :: ys) := by
  intro i a b ha hb
  by_cases c : i < xs.length
  · refine h1 i a b ?_ ?_
    · rw [List.getElem?_append_left c] at ha ⊢
      exact ha
    · by_cases d : i + 1 < xs.length
      · rw [List.getElem?_append_left d] at hb ⊢
        exact hb
      · rw [List.getElem?_append_right (by omega)] at hb ⊢
        rw [show i + 1 - xs.length = 0 by omega] at hb ⊢
        exact hb
  · rw [List.getElem?_append_right (by omega)] at ha hb
    refine h2 (i - xs.length) a b ha ?_
    rw [show i - xs.length + 1 = i + 1 - xs.length by omega]
    exact hb
theorem ch_rev {α : Type} {R : α → α → Prop} {xs : List α} (h : Ch R xs) : Ch (fun x y => R y x) xs.reverse := by
  intro i a b ha hb
  have hl : i + 1 < xs.reverse.length := (List.getElem?_eq_some_iff.mp hb).1
  simp at hl
  rw [List.getElem?_reverse (by omega)] at ha hb
  refine h (xs.length - 1 - (i + 1)) b a hb ?_
  rw [show xs.length - 1 - (i + 1) + 1 = xs.length - 1 - i by omega]
  exact ha
theorem Ch.imp {α : Type} {R Q : α → α → Prop} {xs : List α} (h : Ch R xs) (hi : ∀ x ∈ xs, ∀ y ∈ xs, R x y → Q x y) : Ch Q xs := fun i x y hx hy => hi x (List.mem_of_getElem? hx) y (List.mem_of_getElem? hy) (h i x y hx hy)
theorem ch_map {α β : Type} {R : α → α → Prop} {Q : β → β → Prop} {f : α → β} {xs : List α} (h : Ch R xs) (hi : ∀ x ∈ xs, ∀ y ∈ xs, R x y → Q (f x) (f y)) : Ch Q (xs.map f) := by
  intro i a b ha hb
  rw [List.getElem?_map] at ha hb
  obtain ⟨x, hx, rfl⟩ := Option.map_eq_some_iff.mp ha
  obtain ⟨y, hy, rfl⟩ := Option.map_eq_some_iff.mp hb
  exact hi x (List.mem_of_getElem? hx) y (List.mem_of_getElem? hy) (h i x y hx hy)
theorem ch_one {α : Type} {R : α → α → Prop} (x : α) : Ch R [x] := by
  intro i a b ha hb
  have := (List.getElem?_eq_some_iff.mp hb).1
  simp at this
/-- the first items of one row, then a number, then the last items of another row -/
theorem mix_row {a t : List Int} {n j : Nat} {c : Int} (ha : IsRow a) (ht : IsRow t) (la : a.length = n) (lt' : t.length = n) (hle : ∀ (i : Nat) (h : i < n), t[i] ≤ a[i]) (hj : j < n) (h1 : t[j] ≤ c) (h2 : c ≤ a[j]) : IsRow (t.take j ++ c :: a.drop (j + 1)) ∧ (t.take j ++ c :: a.drop (j + 1)).length = n := by
  have hl : (t.take j ++ c :: a.drop (j + 1)).length = n := by simp; omega
  have g1 : ∀ (i : Nat) (h : i < (t.take j ++ c :: a.drop (j + 1)).length) (hi : i < j), (t.take j ++ c :: a.drop (j + 1))[i] = t[i]'(by omega) := fun i h hi => by
    rw [List.getElem_append_left (by simp; omega), List.getElem_take]
  have g2 : ∀ (h : j < (t.take j ++ c :: a.drop (j + 1)).length), (t.take j ++ c :: a.drop (j + 1))[j] = c := fun h => by
    rw [List.getElem_append_right (by simp; omega)]
    simp [show j - min j t.length = 0 by omega]
  have g3 : ∀ (i : Nat) (h : i < (t.take j ++ c :: a.drop (j + 1)).length) (hi : j < i), (t.take j ++ c :: a.drop (j + 1))[i] = a[i]'(by omega) := fun i h hi => by
    rw [List.getElem_append_right (by simp; omega)]
    obtain ⟨d, hd⟩ : ∃ d, i - (t.take j).length = d + 1 := ⟨i - j - 1, by simp; omega⟩
    have hd' : i = j + 1 + d := by simp at hd; omega
    subst hd'
    simp only [hd, List.getElem_cons_succ, List.getElem_drop]
  refine ⟨fun i hi => ?_, hl⟩
  have r1 := ha i (by omega)
  have r2 := ht i (by omega)
  have hji := hle i (by omega)
  by_cases c1 : i < j
  · rw [g1 i hi c1]
    refine ⟨by omega, by omega, fun h0 => ?_⟩
    rw [g1 (i - 1) (by omega) (by omega)]
    exact r2.2.2 h0
  · by_cases c2 : i = j
    · subst c2
      rw [g2 hi]
      refine ⟨by omega, by omega, fun h0 => ?_⟩
      rw [g1 (i - 1) (by omega) (by omega)]
      have := r2.2.2 h0
      omega
    · rw [g3 i hi (by omega)]
      refine ⟨by omega, by omega, fun h0 => ?_⟩
      have h3 := r1.2.2 h0
      by_cases c3 : i - 1 = j
      · subst c3
        rw [g2 (by omega)]
        omega
      · rw [g3 (i - 1) (by omega) (by omega)]
        exact h3
/-- rows, each by one lower than the one before it -/
structure LP (n : Nat) (a t : List Int) (m : Int) (rs : List (List Int)) : Prop where
  hd : rs.head? = some a
  la : ∃ fs, rs = fs ++ [t]
  len : (rs.length : Int) = 1 + m
  row : ∀ r ∈ rs, IsRow r ∧ r.length = n
  ch : Ch Lw rs
theorem LP.snoc {n : Nat} {a t t' : List Int} {m : Int} {rs : List (List Int)} (h : LP n a t m rs) (hr : IsRow t' ∧ t'.length = n) (hw : Lw t t') : LP n a t' (m + 1) (rs ++ [t']) := by
  obtain ⟨fs, rfl⟩ := h.la
  refine ⟨?_, ⟨fs ++ [t], rfl⟩, ?_, fun r q => ?_, ch_snoc h.ch hw⟩
  · have := h.hd
    cases fs with
    | nil => simpa using this
    | cons f fs => simpa using this
  · have := h.len
    simp at this ⊢
    omega
  · rcases List.mem_append.mp q with q | q
    · exact h.row r q
    · rw [List.mem_singleton.mp q]
      exact hr
theorem lowered_ok {a t : List Int} {n : Nat} (hn : n ≤ 24) (ha : IsRow a) (ht : IsRow t) (la : a.length = n) (lt' : t.length = n) (hle : ∀ (i : Nat) (h : i < n), t[i] ≤ a[i]) : Ret (x_lowered_rows a t) fun rs => LP n a t (dsR a t) rs := by
  unfold x_lowered_rows
  refine ret_fold (fun j (rs : List (List Int)) => LP n a (t.take j ++ a.drop j) (dsR (a.take j) (t.take j)) rs) ?_ ?_ ?_
  · refine ⟨rfl, ⟨[], by simp⟩, by simp [dsR, dsL, zpL], fun r q => ?_, ch_one _⟩
    rw [List.mem_singleton.mp q]
    exact ⟨ha, la⟩
  · rintro j ⟨x, item⟩ rs hx hI
    obtain ⟨hj, hxj⟩ := enI_get hx
    dsimp only at hj hxj ⊢
    subst hxj
    obtain ⟨hjt, hit⟩ := List.getElem?_eq_some_iff.mp hj
    have hja : j < a.length := by omega
    have hle' := hle j (by omega)
    rw [hit] at hle'
    have hbA := isRow_le ha _ (List.getElem_mem hja)
    have hbt := isRow_le ht _ (List.getElem_mem hjt)
    rw [hit] at hbt
    have ea : atI a (j : Int) = some (a[j]) := by
      rw [atI_ok (by omega) (by omega)]
      simp
    have edrop : a.drop j = a[j] :: a.drop (j + 1) := (List.getElem_cons_drop hja).symm
    have etk : t.take (j + 1) = t.take j ++ [item] := by rw [← hit, List.take_append_getElem]
    have eak : a.take (j + 1) = a.take j ++ [a[j]] := by rw [List.take_append_getElem]
    have eds : dsR (a.take (j + 1)) (t.take (j + 1)) = dsR (a.take j) (t.take j) + (a[j] - item) := by
      rw [etk, eak, ds_app _ _ (by simp; omega), ds_cons]
      have : dsR [] [] = 0 := by simp [dsR, dsL, zpL]
      rw [this]
      omega
    rw [eds]
    rw [edrop] at hI
    rw [etk, List.append_assoc]
    have mix : ∀ c : Int, item ≤ c → c ≤ a[j] → IsRow (t.take j ++ c :: a.drop (j + 1)) ∧ (t.take j ++ c :: a.drop (j + 1)).length = n := fun c h1 h2 => mix_row ha ht la lt' hle (by omega) (by rw [hit]; exact h1) h2
    have hMb : dsR (a.take j) (t.take j) ≤ 24 * 24 := by
      have := ds_le (a := a.take j) (b := t.take j) (m := 24) (by decide) (fun x hx => by have := isRow_le ha x (List.mem_of_mem_take hx); omega) (fun x hx => by have := isRow_le ht x (List.mem_of_mem_take hx); omega)
      have h3 : ((a.take j).length : Int) * 24 ≤ 24 * 24 := Int.mul_le_mul_of_nonneg_right (by simp; omega) (by decide)
      omega
    generalize hA : a[j] = A at *
    generalize hM : dsR (a.take j) (t.take j) = M at *
    refine ret_eq ea (ret_eq (a := (List.range ((A - 1) - (item - 1)).toNat).map fun (i : Nat) => (A - 1) + (i : Int) * -1) (if_pos (by omega)) ?_)
    refine ret_fold (fun i (rs : List (List Int)) => LP n a (t.take j ++ (A - (i : Int)) :: a.drop (j + 1)) (M + (i : Int)) rs) (by simpa using hI) ?_ ?_
    · rintro i lower rs hx hI
      obtain ⟨hi, hlo⟩ : i < ((A - 1) - (item - 1)).toNat ∧ lower = (A - 1) + (i : Int) * -1 := by
        rw [List.getElem?_map] at hx
        obtain ⟨k, hk, rfl⟩ := Option.map_eq_some_iff.mp hx
        obtain ⟨h1, h2⟩ := List.getElem?_eq_some_iff.mp hk
        rw [List.getElem_range] at h2
        subst h2
        exact ⟨by simpa using h1, rfl⟩
      obtain ⟨fs, rfl⟩ := hI.la
      have hlen := hI.len
      have e1 : cutL (t.take j ++ (A - (i : Int)) :: a.drop (j + 1)) none (some (j : Int)) = t.take j := by
        rw [cut_to (by omega), Int.toNat_natCast, List.take_append_of_le_length (by simp; omega), List.take_take, Nat.min_self]
      have e2 : cutL (t.take j ++ (A - (i : Int)) :: a.drop (j + 1)) (some ((j : Int) + 1)) none = a.drop (j + 1) := by
        rw [cut_from (by omega), show ((j : Int) + 1).toNat = j + 1 by omega, List.drop_append, List.drop_of_length_le (by simp; omega)]
        simp [show j + 1 - min j t.length = 1 by omega]
      rw [atI_last, Option.bind_some, e1]
      have e3 : (A - 1) + (i : Int) * -1 = A - ((i + 1 : Nat) : Int) := by omega
      have hmx := mix (A - ((i + 1 : Nat) : Int)) (by omega) (by omega)
      rw [hlo, e3]
      refine ret_sz (by simp; omega) (ret_let ?_)
      rw [e2]
      refine ret_sz (by simp; omega) (ret_sz (by simp at hlen ⊢; omega) (ret_some ?_))
      rw [List.append_assoc (t.take j), List.singleton_append]
      have := hI.snoc hmx ⟨t.take j, A - (i : Int), a.drop (j + 1), rfl, by rw [show A - (i : Int) - 1 = A - ((i + 1 : Nat) : Int) by omega]⟩
      rw [show M + ((i + 1 : Nat) : Int) = M + (i : Int) + 1 by omega]
      exact this
    · intro rs hI
      rw [List.length_map, List.length_range] at hI
      refine ret_some ?_
      rw [show (((A - 1) - (item - 1)).toNat : Int) = A - item by omega, show A - (A - item) = item by omega] at hI
      exact hI
  · intro rs hI
    rw [enI_len, List.take_of_length_le (show t.length ≤ t.length by omega), List.drop_of_length_le (show a.length ≤ t.length by omega), List.append_nil, List.take_of_length_le (show a.length ≤ t.length by omega)] at hI
    exact ret_some hI
/-- the paths asked for -/
structure Good (u v : List Bool) (ws : List (List Bool)) : Prop where
  len : (ws.length : Int) = dsR (rowW u 0) (rowW v 0) + 1
  wd : ∀ w ∈ ws, Dyck w ∧ w.length = u.length
  hd : ws.head? = some u
  la : ws.getLast? = some v
  ch : Ch (fun x y => Sw x y ∨ Sw y x) ws
theorem path_ok {u v : List Bool} {n : Nat} (hn : n ≤ 24) (hu : Dyck u) (hv : Dyck v) (lu : u.length = 2 * n) (lv : v.length = 2 * n) : Ret (x_exchange_path (wL u) (wL v)) fun zs => ∃ ws, zs = ws.map wL ∧ Good u v ws := by
  obtain ⟨r1, l1⟩ := dyck_row hu lu
  obtain ⟨r2, l2⟩ := dyck_row hv lv
  have hl : (rowW u 0).length = (rowW v 0).length := by omega
  have rt := isRow_mn r1 r2 hl
  have lt' := mn_len hl
  have du := dyck_word hu
  have dv := dyck_word hv
  unfold x_exchange_path
  refine ret_eq (p_word_row_eq (by omega)) (ret_eq (p_word_row_eq (by omega)) ?_)
  have em : x_later_row (rowW u 0) (rowW v 0) = some (mnR (rowW u 0) (rowW v 0)) := by
    unfold x_later_row
    rw [szO_ok (by rw [mn_len hl]; omega)]
    rfl
  refine ret_eq em ?_
  have hmn := ds_mn hl
  have hds : dsR (rowW u 0) (rowW v 0) ≤ 24 * 24 := by
    have := ds_le (a := rowW u 0) (b := rowW v 0) (m := 24) (by decide) (fun x hx => by have := isRow_le r1 x hx; omega) (fun x hx => by have := isRow_le r2 x hx; omega)
    have h3 : ((rowW u 0).length : Int) * 24 ≤ 24 * 24 := Int.mul_le_mul_of_nonneg_right (by omega) (by decide)
    omega
  have n1 := ds_nonneg (rowW u 0) (mnR (rowW u 0) (rowW v 0))
  have n2 := ds_nonneg (rowW v 0) (mnR (rowW u 0) (rowW v 0))
  refine ret_bind (lowered_ok hn r1 rt l1 (by omega) fun i h => by rw [mn_at hl]; omega) fun fa ha => ?_
  refine ret_bind (lowered_ok hn r2 rt l2 (by omega) fun i h => by rw [mn_at hl]; omega) fun fb hb => ?_
  obtain ⟨xs, rfl⟩ := ha.la
  obtain ⟨ys, rfl⟩ := hb.la
  have ebk : bkL (ys ++ [mnR (rowW u 0) (rowW v 0)]) (-2) = ys.reverse := by
    unfold bkL
    rw [show bkN (ys ++ [mnR (rowW u 0) (rowW v 0)]).length (-2) = ys.length by unfold bkN; simp; omega]
    simp
  have la' := ha.len
  have lb' := hb.len
  simp only [List.length_append, List.length_singleton] at la' lb'
  rw [ebk]
  generalize mnR (rowW u 0) (rowW v 0) = T at *
  have eP : xs ++ [T] ++ ys.reverse = xs ++ T :: ys.reverse := by simp
  rw [eP]
  refine ret_sz (by simp; omega) ?_
  have hrow : ∀ r ∈ xs ++ T :: ys.reverse, IsRow r ∧ r.length = n := fun r hr => by
    rcases List.mem_append.mp hr with q | q
    · exact ha.row r (by simp [q])
    · rcases List.mem_cons.mp q with rfl | q
      · exact ha.row r (by simp)
      · exact hb.row r (by simp at q; simp [q])
  refine ret_lc (fun r => wL (wordR r 0)) (fun r hr => ?_) (ret_sz (by simp; omega) (ret_some ⟨(xs ++ T :: ys.reverse).map fun r => wordR r 0, by rw [List.map_map]; rfl, ?_⟩))
  · obtain ⟨q1, q2⟩ := hrow r hr
    rw [p_word_of_row_eq q1.up (fun x hx => by have := isRow_le q1 x hx; omega) (by omega)]
    rfl
  have hcw : ∀ x ∈ xs ++ T :: ys.reverse, ∀ y ∈ xs ++ T :: ys.reverse, (Lw x y ∨ Lw y x) → (Sw (wordR x 0) (wordR y 0) ∨ Sw (wordR y 0) (wordR x 0)) := fun x hx y hy h => by
    obtain ⟨a1, a2⟩ := hrow x hx
    obtain ⟨b1, b2⟩ := hrow y hy
    obtain ⟨c1, c2, c3⟩ := isRow_dyck a1
    obtain ⟨d1, d2, d3⟩ := isRow_dyck b1
    rcases h with h | h
    · exact .inl (lw_sw c1 d1 (n := n) (by omega) (by omega) (by rw [c3, d3]; exact h))
    · exact .inr (lw_sw d1 c1 (n := n) (by omega) (by omega) (by rw [c3, d3]; exact h))
  refine ⟨by simp; omega, fun w hw => ?_, ?_, ?_, ?_⟩
  · obtain ⟨r, hr, rfl⟩ := List.mem_map.mp hw
    obtain ⟨q1, q2⟩ := hrow r hr
    obtain ⟨c1, c2, c3⟩ := isRow_dyck q1
    exact ⟨c1, by omega⟩
  · have := ha.hd
    cases xs with
    | nil =>
      simp at this ⊢
      rw [this]
      exact du
    | cons f fs =>
      simp at this ⊢
      rw [this]
      exact du
  · have := hb.hd
    cases ys with
    | nil =>
      simp at this ⊢
      rw [this]
      exact dv
    | cons f fs =>
      simp at this ⊢
      rw [this, dv, ← List.cons_append, List.getLast?_concat]
  · refine ch_map (ch_glue (R := fun x y => Lw x y ∨ Lw y x) (ha.ch.imp fun x _ y _ h => .inl h) ?_) hcw
    have := ch_rev hb.ch
    rw [List.reverse_append, List.reverse_singleton, List.singleton_append] at this
    exact this.imp fun x _ y _ h => .inr h
/-! ### values judged -/
theorem dist_eq {u v : List Bool} (lu : u.length ≤ 48) (lv : v.length ≤ 48) : x_exchange_distance (wL u) (wL v) = some (dsR (rowW u 0) (rowW v 0)) := by
  unfold x_exchange_distance
  rw [p_word_row_eq (by omega), Option.bind_some, p_word_row_eq (by omega), Option.bind_some, szO_ok]
  · rfl
  · rw [List.length_map]
    unfold zpL
    rw [List.length_zipWith, rowW_len]
    have := List.count_le_length (a := false) (l := u)
    omega
theorem cdist_eq {u v : List Bool} (lu : u.length ≤ 48) (lv : v.length ≤ 48) : x__law_distance (wL u) (wL v) = some (dsR (rowW u 0) (rowW v 0)) := by
  unfold x__law_distance
  rw [c_row_eq (by omega), Option.bind_some, c_row_eq (by omega), Option.bind_some, szO_ok]
  · rfl
  · rw [List.length_map]
    unfold zpL
    rw [List.length_zipWith, rowW_len]
    have := List.count_le_length (a := false) (l := u)
    omega
theorem vdist_eq {u v : List Bool} (lu : u.length ≤ 48) (lv : v.length ≤ 48) : x_exchange_distancev (toV eS (wL u)) (toV eS (wL v)) = some (dsR (rowW u 0) (rowW v 0)) := by
  unfold x_exchange_distancev
  rw [asS_toV, Option.bind_some, asS_toV]
  exact dist_eq lu lv
/-- whether a value is a word with so many letters -/
def isWd (n : Nat) (v : VV) : Prop := ∃ w, v = toV eS (wL w) ∧ Dyck w ∧ w.length = n
theorem wscan_loop : ∀ (z : List Nat) (i : Nat) (s : Int), 0 ≤ s → s + (z.length : Int) ≤ 99 → ((forT (fun (size : Int) (letter : List Nat) =>
      (atI [(-100), (-1), 1] ((if (decide (letter = [82])) then 1 else 0 : Int) + (2 * (if (decide (letter = [73])) then 1 else 0 : Int)))).bind fun r2 =>
      if (decide ((size + r2) < 0)) = true then
        some (.ret false)
      else
        some (.go (size + r2))) (chS z) s).bind fun (o1 : Lp Bool Int) => lpK o1 id fun (size1 : Int) => some (decide (size1 = 0))) = some (WE.wScan z i s).isNone
  | [], i, s, _, _ => by
    have e : chS [] = [] := rfl
    rw [e, forT, WE.wScan, Option.bind_some, lpK_go]
    by_cases c : s = 0
    · simp [c]
    · simp [c]
  | c :: z, i, s, h0, h1 => by
    rw [List.length_cons] at h1
    have e : chS (c :: z) = [c] :: chS z := rfl
    rw [e, WE.wScan]
    by_cases c1 : c = 73
    · subst c1
      have e1 : WE.stp 73 = 1 := rfl
      rw [if_neg (by simp), e1, if_neg (by omega), ← wscan_loop z (i + 1) (s + 1) (by omega) (by omega), forT_go1 (s' := s + 1)]
      have e2 : atI [(-100 : Int), (-1), 1] ((if (decide (([73] : List Nat) = [82])) = true then 1 else 0 : Int) + (2 * (if (decide (([73] : List Nat) = [73])) = true then 1 else 0 : Int))) = some 1 := rfl
      rw [e2, Option.bind_some, if_neg (by simp; omega)]
    · by_cases c2 : c = 82
      · subst c2
        have e1 : WE.stp 82 = -1 := rfl
        have e2 : atI [(-100 : Int), (-1), 1] ((if (decide (([82] : List Nat) = [82])) = true then 1 else 0 : Int) + (2 * (if (decide (([82] : List Nat) = [73])) = true then 1 else 0 : Int))) = some (-1) := rfl
        rw [if_neg (by simp), e1]
        by_cases c3 : s + -1 < 0
        · rw [if_pos c3, forT_ret1 (r := false)]
          · rfl
          · rw [e2, Option.bind_some, if_pos (by simpa using c3)]
        · rw [if_neg c3, ← wscan_loop z (i + 1) (s + -1) (by omega) (by omega), forT_go1 (s' := s + -1)]
          rw [e2, Option.bind_some, if_neg (by simpa using c3)]
      · rw [if_pos ⟨c1, c2⟩, forT_ret1 (r := false)]
        · rfl
        · have e2 : atI [(-100 : Int), (-1), 1] ((if (decide (([c] : List Nat) = [82])) = true then 1 else 0 : Int) + (2 * (if (decide (([c] : List Nat) = [73])) = true then 1 else 0 : Int))) = some (-100) := by
            rw [if_neg (by simpa using c2), if_neg (by simpa using c1)]
            rfl
          rw [e2, Option.bind_some, if_pos (by simp; omega)]
theorem cword_ok {v : VV} (h : KnW v) {n : Nat} (hn : n ≤ 48) : Ret (x__law_is_word v (n : Int)) fun b => b = true ↔ isWd n v := by
  unfold x__law_is_word
  rcases h with ⟨z, rfl, hz⟩ | ⟨t, e, hne⟩
  · rw [WE.isi_S, Option.bind_some]
    simp only [Bool.not_true, Bool.false_eq_true, if_false]
    rw [asS_toV, Option.bind_some, szO_ok (by omega), Option.bind_some]
    by_cases c : z.length = n
    · refine ret_eq (a := false) (by simp [c]) ?_
      rw [if_neg (by decide)]
      refine ret_let ?_
      refine ret_of (wscan_loop z 0 0 (by decide) (by omega)) ?_
      rw [Option.isNone_iff_eq_none, scan_none z 0 0 (by decide)]
      constructor
      · rintro ⟨w, rfl, h2, h3⟩
        exact ⟨w, rfl, ⟨fun k => by have := h2 k; omega, by omega⟩, by simpa using c⟩
      · rintro ⟨w, hw, hd, hl⟩
        exact ⟨w, toV_inj_S hw, fun k => by have := hd.pos k; omega, by have := hd.fin; omega⟩
    · refine ret_eq (a := true) (by simp; omega) ?_
      rw [if_pos rfl]
      refine ret_some ⟨by simp, ?_⟩
      rintro ⟨w, e1, _, e2⟩
      rw [toV_inj_S e1] at c
      simp at c
      omega
  · rw [WE.isi_O e hne, Option.bind_some]
    simp only [Bool.not_false, if_true]
    refine ret_let ?_
    rw [if_pos rfl]
    refine ret_some ⟨by simp, ?_⟩
    rintro ⟨w, rfl, _, _⟩
    cases e
    exact absurd rfl hne
def wV (w : List Bool) : VV := toV eS (wL w)
theorem wV_inj {a b : List Bool} (h : wV a = wV b) : a = b := wL_inj (toV_inj_S h)
theorem wV_list : ∀ {a b : List (List Bool)}, a.map wV = b.map wV → a = b
  | [], [], _ => rfl
  | [], y :: b, h => by simp at h
  | x :: a, [], h => by simp at h
  | x :: a, y :: b, h => by
    rw [List.map_cons, List.map_cons] at h
    rw [wV_inj (List.cons.inj h).1, wV_list (List.cons.inj h).2]
theorem all_wd {n : Nat} : ∀ {xs : List VV}, (∀ x ∈ xs, isWd n x) → ∃ ws : List (List Bool), xs = ws.map wV ∧ ∀ w ∈ ws, Dyck w ∧ w.length = n
  | [], _ => ⟨[], rfl, by simp⟩
  | x :: xs, h => by
    obtain ⟨w, rfl, h1, h2⟩ := h x List.mem_cons_self
    obtain ⟨ws, rfl, h3⟩ := all_wd (xs := xs) fun y hy => h y (List.mem_cons_of_mem _ hy)
    refine ⟨w :: ws, rfl, fun z hz => ?_⟩
    rcases List.mem_cons.mp hz with rfl | hz
    · exact ⟨h1, h2⟩
    · exact h3 z hz
theorem toV_ws (ws : List (List Bool)) : toV (eT eS) (ws.map wL) = toV (eT eV) (ws.map wV) := by
  rw [toV_TV, List.map_map]
  rfl
theorem good_iff {u v : List Bool} {ws : List (List Bool)} : (∃ ws', toV (eT eV) (ws.map wV) = toV (eT eS) (ws'.map wL) ∧ Good u v ws') ↔ Good u v ws := by
  constructor
  · rintro ⟨ws', e, g⟩
    rw [toV_ws] at e
    rwa [wV_list (toV_inj_T e)]
  · intro g
    exact ⟨ws, (toV_ws ws).symm, g⟩
theorem ends_ok {u v : List Bool} {ws : List (List Bool)} {K : Option Bool} {C : Prop} (hne : ws ≠ []) (hK : Ret K fun b => b = true ↔ C) : Ret ((atI (ws.map wV) 0).bind fun r4 => (veqO r4 (toV eS (wL u))).bind fun r5 => (if (!r5) = true then some true else ((atI (ws.map wV) (-1)).bind fun r6 => (veqO r6 (toV eS (wL v))).bind fun r7 => some (!r7))).bind fun c3 => if c3 = true then some false else K) fun b => b = true ↔ (ws.head? = some u ∧ ws.getLast? = some v ∧ C) := by
  have e0 : ∃ w0, ws.head? = some w0 ∧ atI (ws.map wV) 0 = some (wV w0) := by
    cases ws with
    | nil => exact absurd rfl hne
    | cons w0 ws => exact ⟨w0, rfl, by rw [atI_ok (by decide) (by simp)]; rfl⟩
  have e1 : ∃ w1, ws.getLast? = some w1 ∧ atI (ws.map wV) (-1) = some (wV w1) := by
    rcases List.eq_nil_or_concat ws with rfl | ⟨fs, w1, rfl⟩
    · exact absurd rfl hne
    · rw [List.concat_eq_append]
      exact ⟨w1, by simp, by rw [List.map_append]; exact atI_last _ _⟩
  obtain ⟨w0, a0, b0⟩ := e0
  obtain ⟨w1, a1, b1⟩ := e1
  rw [a0, a1, b0, Option.bind_some, b1]
  have q0 : veqO (wV w0) (toV eS (wL u)) = some (decide (w0 = u)) := by
    unfold wV
    rw [veq_SS]
    congr 1
    exact decide_eq_decide.mpr ⟨fun h => wL_inj h, fun h => by rw [h]⟩
  have q1 : veqO (wV w1) (toV eS (wL v)) = some (decide (w1 = v)) := by
    unfold wV
    rw [veq_SS]
    congr 1
    exact decide_eq_decide.mpr ⟨fun h => wL_inj h, fun h => by rw [h]⟩
  rw [q0, Option.bind_some]
  by_cases c0 : w0 = u
  · rw [decide_eq_true c0, if_neg (by decide), Option.bind_some, q1, Option.bind_some, Option.bind_some]
    by_cases c1 : w1 = v
    · rw [decide_eq_true c1, if_neg (by decide)]
      refine hK.mono fun b hb => hb.trans ?_
      rw [c0, c1]
      simp
    · rw [decide_eq_false c1, if_pos (by decide)]
      refine ret_some ⟨by simp, ?_⟩
      rintro ⟨_, e, _⟩
      exact absurd (Option.some.inj e) c1
  · rw [decide_eq_false c0, if_pos (by decide), Option.bind_some, if_pos rfl]
    refine ret_some ⟨by simp, ?_⟩
    rintro ⟨e, _⟩
    exact absurd (Option.some.inj e) c0
theorem zp_map {α β γ δ : Type} (f : α → γ) (g : β → δ) (xs : List α) (ys : List β) : zpL (xs.map f) (ys.map g) = (zpL xs ys).map fun p => (f p.1, g p.2) := by
  unfold zpL
  rw [List.zipWith_map, List.map_zipWith]
theorem ch_zip {α : Type} {R : α → α → Prop} {ws : List α} : (∀ p ∈ zpL ws (ws.drop 1), R p.1 p.2) ↔ Ch R ws := by
  constructor
  · intro h i x y hx hy
    refine h (x, y) (List.mem_of_getElem? (i := i) ?_)
    show (List.zip ws (ws.drop 1))[i]? = _
    rw [List.getElem?_zip_eq_some]
    refine ⟨hx, ?_⟩
    rw [List.getElem?_drop, Nat.add_comm]
    exact hy
  · intro h p hp
    obtain ⟨i, hi⟩ := List.mem_iff_getElem?.mp hp
    have hi' : (List.zip ws (ws.drop 1))[i]? = some p := hi
    rw [List.getElem?_zip_eq_some] at hi'
    refine h i _ _ hi'.1 ?_
    have := hi'.2
    rw [List.getElem?_drop, Nat.add_comm] at this
    exact this
theorem isi_tup (xs : List VV) : isiO (toV (eT eV) xs) "tuple" = some true := rfl
open Classical in
theorem judge_ok {u v : List Bool} {n : Nat} (hn : n ≤ 24) (hu : Dyck u) (hv : Dyck v) (lu : u.length = 2 * n) (lv : v.length = 2 * n) {val : VV} (hk : Kt 1 val) : Ret (x_is_exchange_path (wL u) (wL v) val) fun b => b = true ↔ ∃ ws, val = toV (eT eS) (ws.map wL) ∧ Good u v ws := by
  unfold x_is_exchange_path
  rcases hk.2 with ⟨xs, rfl, hx⟩ | ⟨t, e, hne⟩
  · rw [isi_tup, Option.bind_some]
    simp only [Bool.not_true, Bool.false_eq_true, if_false]
    rw [asT_toV, Option.bind_some, dist_eq (by omega) (by omega), Option.bind_some]
    by_cases c : (xs.length : Int) = dsR (rowW u 0) (rowW v 0) + 1
    · refine ret_eq (a := false) (by simp [c]) ?_
      rw [if_neg (by decide)]
      refine ret_let ?_
      have hds : dsR (rowW u 0) (rowW v 0) ≤ 24 * 24 := by
        obtain ⟨r1, l1⟩ := dyck_row hu lu
        obtain ⟨r2, l2⟩ := dyck_row hv lv
        have := ds_le (a := rowW u 0) (b := rowW v 0) (m := 24) (by decide) (fun x hx => by have := isRow_le r1 x hx; omega) (fun x hx => by have := isRow_le r2 x hx; omega)
        have h3 : ((rowW u 0).length : Int) * 24 ≤ 24 * 24 := Int.mul_le_mul_of_nonneg_right (by omega) (by decide)
        omega
      have hd0 := ds_nonneg (rowW u 0) (rowW v 0)
      refine ret_lc (fun x => decide (isWd u.length x)) (fun x hx' => ?_) (ret_sz (by simp; omega) ?_)
      · obtain ⟨b, eb, hb⟩ := is_word_ok (hx x hx')
        rw [eb, Option.bind_some]
        cases b with
        | false =>
          rw [if_neg (by decide), Option.bind_some]
          congr 2
          symm
          rw [decide_eq_false_iff_not]
          rintro ⟨w, rfl, q1, q2⟩
          exact absurd (hb.mpr ⟨w, rfl, q1, by omega⟩) (by decide)
        | true =>
          obtain ⟨w, rfl, q1, q2⟩ := hb.mp rfl
          rw [if_pos rfl, asS_toV, Option.bind_some, szO_ok (by simp; omega), Option.bind_some, szO_ok (by simp; omega), Option.bind_some, Option.bind_some]
          congr 2
          rw [decide_eq_decide]
          constructor
          · intro q
            exact ⟨w, rfl, q1, by simp at q; omega⟩
          · rintro ⟨w', e', _, q3⟩
            rw [← wL_inj (toV_inj_S e')] at q3
            simp
            omega
      · by_cases call : ∀ x ∈ xs, isWd u.length x
        · rw [if_neg (by simpa using call)]
          obtain ⟨ws, rfl, hws⟩ := all_wd call
          have hne : ws ≠ [] := by
            rintro rfl
            simp at c
            omega
          have hwl : (ws.length : Int) = dsR (rowW u 0) (rowW v 0) + 1 := by simpa using c
          refine (ends_ok (C := Ch (fun x y => Sw x y ∨ Sw y x) ws) hne ?_).mono fun b hb => hb.trans ?_
          · rw [cut_from (by decide), show (1 : Int).toNat = 1 from rfl, ← List.map_drop, zp_map, lcO_mapL]
            have hzm : ∀ p ∈ zpL ws (ws.drop 1), p.1 ∈ ws ∧ p.2 ∈ ws := fun p hp => by
              have := List.of_mem_zip (show (p.1, p.2) ∈ List.zip ws (ws.drop 1) from hp)
              exact ⟨this.1, List.mem_of_mem_drop this.2⟩
            refine ret_lc (fun p => decide (dsR (rowW p.1 0) (rowW p.2 0) = 1)) (fun p hp => ?_) (ret_sz (by rw [List.length_map]; unfold zpL; rw [List.length_zipWith]; omega) (ret_some ?_))
            · obtain ⟨q1, q2⟩ := hzm p hp
              have q3 := hws _ q1
              have q4 := hws _ q2
              show ((x_exchange_distancev (toV eS (wL p.1)) (toV eS (wL p.2))).bind fun r8 => some (some (decide (r8 = 1)))) = _
              rw [vdist_eq (by omega) (by omega)]
              rfl
            · rw [← ch_zip]
              simp only [List.all_map, List.all_eq_true, Function.comp_apply, id, decide_eq_true_eq]
              constructor
              · intro h p hp
                obtain ⟨q1, q2⟩ := hzm p hp
                exact (sw_iff (hws _ q1).1 (hws _ q2).1 (n := n) (by rw [(hws _ q1).2]; exact lu) (by rw [(hws _ q2).2]; exact lu)).mpr (h p hp)
              · intro h p hp
                obtain ⟨q1, q2⟩ := hzm p hp
                exact (sw_iff (hws _ q1).1 (hws _ q2).1 (n := n) (by rw [(hws _ q1).2]; exact lu) (by rw [(hws _ q2).2]; exact lu)).mp (h p hp)
          · rw [good_iff]
            exact ⟨fun ⟨q1, q2, q3⟩ => ⟨hwl, hws, q1, q2, q3⟩, fun g => ⟨g.hd, g.la, g.ch⟩⟩
        · rw [if_pos (by simpa using call)]
          refine ret_some ⟨by simp, ?_⟩
          rintro ⟨ws, e, g⟩
          rw [toV_ws] at e
          refine absurd (fun x hx => ?_) call
          rw [toV_inj_T e] at hx
          obtain ⟨w, hw, rfl⟩ := List.mem_map.mp hx
          exact ⟨w, rfl, g.wd w hw⟩
    · refine ret_eq (a := true) (by simp [c]) ?_
      rw [if_pos rfl]
      refine ret_some ⟨by simp, ?_⟩
      rintro ⟨ws, e, g⟩
      rw [toV_ws] at e
      rw [toV_inj_T e] at c
      have := g.len
      simp at c
      omega
  · rw [isi_of_kind e, Option.bind_some]
    rw [show isiB t "tuple" = false by simp [isiB, hne]]
    simp only [Bool.not_false, if_true]
    refine ret_let ?_
    rw [if_pos rfl]
    refine ret_some ⟨by simp, ?_⟩
    rintro ⟨ws, rfl, _⟩
    cases e
    exact absurd rfl hne
open Classical in
theorem cjudge_ok {u v : List Bool} {n : Nat} (hn : n ≤ 24) (hu : Dyck u) (hv : Dyck v) (lu : u.length = 2 * n) (lv : v.length = 2 * n) {val : VV} (hk : Kt 1 val) : Ret (x__law_is_path (wL u) (wL v) val) fun b => b = true ↔ ∃ ws, val = toV (eT eS) (ws.map wL) ∧ Good u v ws := by
  unfold x__law_is_path
  rcases hk.2 with ⟨xs, rfl, hx⟩ | ⟨t, e, hne⟩
  · rw [isi_tup, Option.bind_some]
    simp only [Bool.not_true, Bool.false_eq_true, if_false]
    rw [asT_toV, Option.bind_some, cdist_eq (by omega) (by omega), Option.bind_some]
    by_cases c : (xs.length : Int) = dsR (rowW u 0) (rowW v 0) + 1
    · refine ret_eq (a := false) (by simp [c]) ?_
      rw [if_neg (by decide)]
      refine ret_let ?_
      have hds : dsR (rowW u 0) (rowW v 0) ≤ 24 * 24 := by
        obtain ⟨r1, l1⟩ := dyck_row hu lu
        obtain ⟨r2, l2⟩ := dyck_row hv lv
        have := ds_le (a := rowW u 0) (b := rowW v 0) (m := 24) (by decide) (fun x hx => by have := isRow_le r1 x hx; omega) (fun x hx => by have := isRow_le r2 x hx; omega)
        have h3 : ((rowW u 0).length : Int) * 24 ≤ 24 * 24 := Int.mul_le_mul_of_nonneg_right (by omega) (by decide)
        omega
      have hd0 := ds_nonneg (rowW u 0) (rowW v 0)
      have el := lcO_filter (xs := xs) (g := fun (word : VV) => ((szO (wL u)).bind fun z => (x__law_is_word word (z.length : Int)).bind fun r3 => if (!r3) = true then (some (some word)) else some none)) (p := fun x => !decide (isWd u.length x)) (fun x hx' => by
        obtain ⟨b, eb, hb⟩ := cword_ok (hx x hx') (n := u.length) (by omega)
        have e2 : ((wL u).length : Int) = (u.length : Int) := by simp
        rw [szO_ok (by simp; omega), Option.bind_some, e2, eb, Option.bind_some]
        have e3 : b = decide (isWd u.length x) := by rw [Bool.eq_iff_iff, hb, decide_eq_true_eq]
        rw [← e3]
        cases b <;> rfl)
      refine ret_eq el (ret_sz (by have := List.length_filter_le (fun x => !decide (isWd u.length x)) xs; omega) ?_)
      by_cases call : ∀ x ∈ xs, isWd u.length x
      · have ee : (xs.filter fun x => !decide (isWd u.length x)) = [] := by
          rw [List.filter_eq_nil_iff]
          intro x hx
          simpa using call x hx
        rw [ee, if_neg (by decide)]
        obtain ⟨ws, rfl, hws⟩ := all_wd call
        have hne : ws ≠ [] := by
          rintro rfl
          simp at c
          omega
        have hwl : (ws.length : Int) = dsR (rowW u 0) (rowW v 0) + 1 := by simpa using c
        refine (ends_ok (C := Ch (fun x y => Sw x y ∨ Sw y x) ws) hne ?_).mono fun b hb => hb.trans ?_
        · refine ret_rng (by decide) (by decide) (by simp <;> omega) (by simp; omega) ?_
          have hat : ∀ i : Nat, i < ws.length → atI (ws.map wV) (i : Int) = some (wV (ws.getD i [])) := fun i hi => by
            rw [atI_ok (by omega) (by simp; omega), List.getD_eq_getElem?_getD, List.getElem?_eq_getElem hi]
            simp
          have hgd : ∀ i : Nat, i < ws.length → ws.getD i [] ∈ ws := fun i hi => by
            rw [List.getD_eq_getElem?_getD, List.getElem?_eq_getElem hi]
            exact List.getElem_mem hi
          have es := lcO_filter (xs := (List.range (((ws.map wV).length : Int) - 1).toNat).map fun (i : Nat) => (1 : Int) + (i : Int)) (g := fun (at_ : Int) => ((atI (ws.map wV) (at_ - 1)).bind fun r8 => (atI (ws.map wV) at_).bind fun r9 => (asS r8).bind fun t => (asS r9).bind fun t1 => (x__law_is_step t t1).bind fun r10 => if (!r10) = true then (some (some at_)) else some none)) (p := fun a => !decide (Sw (ws.getD (a.toNat - 1) []) (ws.getD a.toNat []) ∨ Sw (ws.getD a.toNat []) (ws.getD (a.toNat - 1) []))) (fun x hx' => by
            obtain ⟨i, hi, rfl⟩ := List.mem_map.mp hx'
            have hi' : i + 1 < ws.length := by have := List.mem_range.mp hi; simp at this; omega
            have q1 := hws _ (hgd i (by omega))
            have q2 := hws _ (hgd (i + 1) (by omega))
            obtain ⟨b, eb, hb⟩ := step_ok (u := ws.getD i []) (v := ws.getD (i + 1) []) (by omega) (by omega)
            rw [show (1 : Int) + (i : Int) - 1 = (i : Int) by omega, hat i (by omega), Option.bind_some, show (1 : Int) + (i : Int) = ((i + 1 : Nat) : Int) by omega, hat (i + 1) (by omega), Option.bind_some]
            unfold wV
            rw [asS_toV, Option.bind_some, asS_toV, Option.bind_some, eb, Option.bind_some, Int.toNat_natCast, Nat.add_sub_cancel]
            have e3 : b = decide (Sw (ws.getD i []) (ws.getD (i + 1) []) ∨ Sw (ws.getD (i + 1) []) (ws.getD i [])) := by rw [Bool.eq_iff_iff, hb, decide_eq_true_eq]
            rw [← e3]
            cases b <;> rfl)
          refine ret_eq es (ret_sz (by refine Nat.le_trans (List.length_filter_le _ _) ?_; simp; omega) (ret_some ?_))
          rw [List.isEmpty_iff, List.filter_eq_nil_iff]
          constructor
          · intro h i x y hx hy
            obtain ⟨hi1, hx1⟩ := List.getElem?_eq_some_iff.mp hx
            obtain ⟨hi2, hy1⟩ := List.getElem?_eq_some_iff.mp hy
            have := h ((1 : Int) + (i : Int)) (List.mem_map.mpr ⟨i, List.mem_range.mpr (by simp; omega), rfl⟩)
            rw [show (1 : Int) + (i : Int) = ((i + 1 : Nat) : Int) by omega, Int.toNat_natCast, Nat.add_sub_cancel, List.getD_eq_getElem?_getD, hx, List.getD_eq_getElem?_getD, hy] at this
            exact Classical.or_iff_not_imp_left.mpr (by simpa using this)
          · intro h a ha
            obtain ⟨i, hi, rfl⟩ := List.mem_map.mp ha
            have hi' : i + 1 < ws.length := by have := List.mem_range.mp hi; simp at this; omega
            have := h i _ _ (List.getElem?_eq_getElem (by omega)) (List.getElem?_eq_getElem hi')
            rw [show (1 : Int) + (i : Int) = ((i + 1 : Nat) : Int) by omega, Int.toNat_natCast, Nat.add_sub_cancel, List.getD_eq_getElem?_getD, List.getElem?_eq_getElem (show i < ws.length by omega), List.getD_eq_getElem?_getD, List.getElem?_eq_getElem hi']
            have := Classical.or_iff_not_imp_left.mp this
            simpa using this
        · rw [good_iff]
          exact ⟨fun ⟨q1, q2, q3⟩ => ⟨hwl, hws, q1, q2, q3⟩, fun g => ⟨g.hd, g.la, g.ch⟩⟩
      · have ee : (xs.filter fun x => !decide (isWd u.length x)) ≠ [] := by
          intro q
          rw [List.filter_eq_nil_iff] at q
          refine call fun x hx => ?_
          simpa using q x hx
        rw [if_pos (by simpa using ee)]
        refine ret_some ⟨by simp, ?_⟩
        rintro ⟨ws, e, g⟩
        rw [toV_ws] at e
        refine absurd (fun x hx => ?_) call
        rw [toV_inj_T e] at hx
        obtain ⟨w, hw, rfl⟩ := List.mem_map.mp hx
        exact ⟨w, rfl, g.wd w hw⟩
    · refine ret_eq (a := true) (by simp [c]) ?_
      rw [if_pos rfl]
      refine ret_some ⟨by simp, ?_⟩
      rintro ⟨ws, e, g⟩
      rw [toV_ws] at e
      rw [toV_inj_T e] at c
      have := g.len
      simp at c
      omega
  · rw [isi_of_kind e, Option.bind_some]
    rw [show isiB t "tuple" = false by simp [isiB, hne]]
    simp only [Bool.not_false, if_true]
    refine ret_let ?_
    rw [if_pos rfl]
    refine ret_some ⟨by simp, ?_⟩
    rintro ⟨ws, rfl, _⟩
    cases e
    exact absurd rfl hne
/-! ### the law -/
theorem wordl_p (rs : List Int) : x_p_word_of_rowl rs = x_p_word_of_row rs := rfl
theorem wordl_c (rs : List Int) : x_c_word_ofl rs = x_c_word_of rs := rfl
theorem words_right_ok {u v : List Bool} {n : Nat} (hn : n ≤ 24) (hu : Dyck u) (hv : Dyck v) (lu : u.length = 2 * n) (lv : v.length = 2 * n) : x__law_words_right (wL u) (wL v) = some true := by
  obtain ⟨r1, l1⟩ := dyck_row hu lu
  obtain ⟨r2, l2⟩ := dyck_row hv lv
  have hl : (rowW u 0).length = (rowW v 0).length := by omega
  have m1 := isRow_mn r1 r2 hl
  have m2 := isRow_mx r1 r2 hl
  have k1 := mn_len hl
  have k2 := mx_len hl
  have em : x_later_row (rowW u 0) (rowW v 0) = some (mnR (rowW u 0) (rowW v 0)) := by
    unfold x_later_row
    rw [szO_ok (by rw [mn_len hl]; omega)]
    rfl
  have b1 : ∀ x ∈ mnR (rowW u 0) (rowW v 0), x ≤ 1000 := fun x hx => by have := isRow_le m1 x hx; omega
  have b2 : ∀ x ∈ mxR (rowW u 0) (rowW v 0), x ≤ 1000 := fun x hx => by have := isRow_le m2 x hx; omega
  have el : x_later_word (wL u) (wL v) = some (wL (wordR (mnR (rowW u 0) (rowW v 0)) 0)) := by
    unfold x_later_word
    rw [p_word_row_eq (by omega), Option.bind_some, p_word_row_eq (by omega), Option.bind_some, em, Option.bind_some, p_word_of_row_eq m1.up b1 (by omega), Option.bind_some]
  have ee : x_earlier_word (wL u) (wL v) = some (wL (wordR (mxR (rowW u 0) (rowW v 0)) 0)) := by
    unfold x_earlier_word
    rw [p_word_row_eq (by omega), Option.bind_some, p_word_row_eq (by omega), Option.bind_some, szO_ok (by rw [mx_len hl]; omega), Option.bind_some, wordl_p, p_word_of_row_eq m2.up b2 (by omega), Option.bind_some]
  have hds : dsR (rowW u 0) (rowW v 0) ≤ 24 * 24 := by
    have := ds_le (a := rowW u 0) (b := rowW v 0) (m := 24) (by decide) (fun x hx => by have := isRow_le r1 x hx; omega) (fun x hx => by have := isRow_le r2 x hx; omega)
    have h3 : ((rowW u 0).length : Int) * 24 ≤ 24 * 24 := Int.mul_le_mul_of_nonneg_right (by omega) (by decide)
    omega
  have hd0 := ds_nonneg (rowW u 0) (rowW v 0)
  obtain ⟨c1, c2, _⟩ := isRow_dyck m1
  obtain ⟨d1, d2, _⟩ := isRow_dyck m2
  obtain ⟨rp, er⟩ : ∃ rp, rpO ((eQ eS eS eI) (wL (wordR (mnR (rowW u 0) (rowW v 0)) 0), wL (wordR (mxR (rowW u 0) (rowW v 0)) 0), dsR (rowW u 0) (rowW v 0))) = some rp := by
    exact (sh_three (sh_wL (by omega)) (sh_wL (by omega)) ((sh_key (i := dsR (rowW u 0) (rowW v 0)) ⟨by omega, by omega⟩).mono (by decide) (Nat.le_refl _)) (w' := 70000) (by decide)).rp (by decide) (by decide)
  unfold x__law_words_right
  rw [c_row_eq (by omega), Option.bind_some, c_row_eq (by omega), Option.bind_some, szO_ok (by rw [mn_len hl]; omega), Option.bind_some, wordl_c, c_word_of_eq m1.up b1 (by omega), Option.bind_some, szO_ok (by rw [mx_len hl]; omega), Option.bind_some, wordl_c, c_word_of_eq m2.up b2 (by omega), Option.bind_some, el, Option.bind_some, ee, Option.bind_some, dist_eq (by omega) (by omega), Option.bind_some, er, Option.bind_some, cdist_eq (by omega) (by omega), Option.bind_some, er, Option.bind_some, decide_eq_true rfl]
theorem oddc_ok {c : Int} {s : Stm} (h : CS c s) (hc : c ≤ 900000) : Ret (x__law_odd s) fun p => p.1 ∈ oddC ∧ CS (c + 1) p.2 := by
  unfold x__law_odd
  refine ret_let (ret_sz (by simp) (ret_pick' h (by omega) (by decide) (by decide) fun r s' a b o => ?_))
  obtain ⟨v, ev, hm⟩ := atI_mem (xs := oddC) a (by simpa [oddC] using b)
  exact ret_eq ev (ret_some ⟨hm, o⟩)
/-- values that may be judged and shown -/
def Vl (v : VV) : Prop := Kt 1 v ∧ ∃ r, rpO v.1 = some r
def Wz (z : List Nat) : Prop := z.length ≤ 60 ∧ ∀ c ∈ z, c < 1000
theorem wz_wL {w : List Bool} (h : w.length ≤ 50) : Wz (wL w) := ⟨by simp; omega, wL_1000⟩
theorem bo_wz {z : List Nat} (h : Wz z) : Bo 700 0 (toV eS z) := bo_asc h.2 (by have := h.1; omega)
theorem vl_str {z : List Nat} (h : Wz z) : Vl (toV eS z) := ⟨kt_str (by have := h.1; omega) 1, (bo_wz h).ni.rp (by decide) (by decide)⟩
theorem vl_tup {zs : List (List Nat)} (h : ∀ z ∈ zs, Wz z) (hl : zs.length ≤ 3000) : Vl (toV (eT eS) zs) := by
  rw [toV_TV]
  refine ⟨kt_tup fun x hx => ?_, (bo_tup (w := 700) (w' := 4000000) (d := 0) (fun x hx => ?_) (by rw [List.length_map]; omega)).ni.rp (by decide) (by decide)⟩
  · obtain ⟨z, hz, rfl⟩ := List.mem_map.mp hx
    exact kt_str (by have := (h z hz).1; omega) 0
  · obtain ⟨z, hz, rfl⟩ := List.mem_map.mp hx
    exact bo_wz (h z hz)
theorem vl_lst {zs : List (List Nat)} (h : ∀ z ∈ zs, Wz z) (hl : zs.length ≤ 3000) : Vl (toV (eL eS) zs) := by
  rw [toV_LV]
  refine ⟨kt_lst _ 1, Ni.rp (w := 4000000) (d := 1) (.inl (fi_lst (w := 700) (w' := 4000000) (d := 0) (fun x hx => ?_) (by rw [List.length_map]; omega))) (by decide) (by decide)⟩
  obtain ⟨z, hz, rfl⟩ := List.mem_map.mp hx
  exact (bo_wz (h z hz)).1
theorem vl_mix {xs : List VV} {y : VV} (hk : Kt 0 y) (hn : Ni 800 1 y) (h : ∀ x ∈ xs, x = y ∨ ∃ z, Wz z ∧ x = toV eS z) (hl : xs.length ≤ 3000) : Vl (toV (eT eV) xs) := by
  refine ⟨kt_tup fun x hx => ?_, (ni_tup (w := 800) (w' := 4000000) (d := 1) y hn (fun x hx => ?_) (by omega)).rp (by decide) (by decide)⟩
  · rcases h x hx with rfl | ⟨z, hz, rfl⟩
    · exact hk
    · exact kt_str (by have := hz.1; omega) 0
  · rcases h x hx with rfl | ⟨z, hz, rfl⟩
    · exact .inl rfl
    · exact .inr ((bo_wz hz).mono (by decide) (by decide))
theorem vals_ok {c : Int} {s : Stm} (hs : CS c s) (hc : c ≤ 800000) {n : Nat} (hn : n ≤ 24) {ws : List (List Bool)} (h : ∀ w ∈ ws, w.length = 2 * n) (hne : ws ≠ []) (hl : ws.length ≤ 800) : Ret (x__law_values s (ws.map wL)) fun p => (∀ v ∈ p.1, Vl v) ∧ CS (c + 500) p.2 := by
  have hpos : 0 < ws.length := List.length_pos_iff.mpr hne
  have hW : ∀ z ∈ ws.map wL, Wz z := fun z hz => by
    obtain ⟨w, hw, rfl⟩ := List.mem_map.mp hz
    exact wz_wL (by have := h w hw; omega)
  have hL : (ws.map wL).length ≤ 800 := by simpa using hl
  have hP : 0 < (ws.map wL).length := by simpa using hpos
  have hz0 : ∀ z ∈ ws.map wL, z.length = 2 * n := fun z hz => by
    obtain ⟨w, hw, rfl⟩ := List.mem_map.mp hz
    have := h w hw
    simpa using this
  generalize ws.map wL = zs at *
  unfold x__law_values
  refine ret_pick' hs (by omega) (by omega) (by omega) fun r1 s1 a1 b1 o1 => ?_
  refine ret_pick' o1 (by omega) (by omega) (by omega) fun r2 s2 a2 b2 o2 => ?_
  obtain ⟨z0, e0, m0⟩ := atI_mem (xs := zs) (i := 0) (by decide) (by omega)
  obtain ⟨z1, e1, m1⟩ := atI_mem (xs := zs) a1 b1
  obtain ⟨z2, e2, m2⟩ := atI_mem (xs := zs) a2 b2
  have l0 := hz0 z0 m0
  refine ret_eq e0 (ret_sz (by omega) ?_)
  rw [show ((z0.length : Int) / 2) = (n : Int) by omega]
  refine ret_dword o2 (by omega) (by omega) (by omega) fun w s3 hd hw o3 => ?_
  have hww : Wz (wL w) := wz_wL (by omega)
  have c1 := cutZ_len zs none (some r1)
  have c2 := cutZ_len zs (some (r1 + 1)) none
  have c3 := cutZ_len zs (some r1) none
  have c4 := cutZ_len zs (some 1) none
  have c5 := cutZ_len zs (some (-1)) none
  have c6 := cutZ_len zs none (some 1)
  have l1 := hz0 z1 m1
  refine ret_sz (by simp; omega) (ret_eq e1 (ret_sz (by simp; omega) (ret_sz (by simp; omega) (ret_let ?_))))
  refine ret_sz (by simp; omega) (ret_sz (by simp; omega) (ret_eq e2 (ret_sz (by simp; omega) (ret_sz (by simp; omega) (ret_sz (by simp) ?_)))))
  refine ret_eq e1 (ret_sz (by simp; omega) (ret_sz (by simp; omega) (ret_sz (by simp; omega) (ret_eq e1 (ret_sz (by simp; omega) (ret_sz (by simp; omega) (ret_sz (by simp) ?_)))))))
  refine ret_sz (by simp; omega) (ret_sz (by simp; omega) (ret_sz (by simp; omega) (ret_eq e1 ?_)))
  refine ret_bind (oddc_ok o3 (by omega)) ?_
  rintro ⟨v, s4⟩ ⟨hv, o4⟩
  dsimp only at hv o4 ⊢
  refine ret_sz (by simp) (ret_some ⟨?_, o4.mono (by omega)⟩)
  have hcut : ∀ {lo hi' : Option Int}, ∀ z ∈ cutL zs lo hi', Wz z := fun z hz => hW z (cutL_mem hz)
  have w1 := hW z1 m1
  have w2 := hW z2 m2
  have wIR : Wz (z1 ++ [73, 82]) := ⟨by simp; omega, fun c hc => by
    rcases List.mem_append.mp hc with q | q
    · exact w1.2 c q
    · simp at q; omega⟩
  have hap : ∀ {xs ys : List (List Nat)}, (∀ z ∈ xs, Wz z) → (∀ z ∈ ys, Wz z) → ∀ z ∈ xs ++ ys, Wz z := fun h1 h2 z hz => by
    rcases List.mem_append.mp hz with q | q
    · exact h1 z q
    · exact h2 z q
  have hon : ∀ {z : List Nat}, Wz z → ∀ y ∈ [z], Wz y := fun hz y hy => by rw [List.mem_singleton.mp hy]; exact hz
  have hmix : ∀ {y : VV} {as bs : List (List Nat)}, (∀ z ∈ as, Wz z) → (∀ z ∈ bs, Wz z) → ∀ x ∈ as.map (toV eS) ++ [y] ++ bs.map (toV eS), x = y ∨ ∃ z, Wz z ∧ x = toV eS z := fun h1 h2 x hx => by
    rcases List.mem_append.mp hx with q | q
    · rcases List.mem_append.mp q with q | q
      · obtain ⟨z, hz, rfl⟩ := List.mem_map.mp q
        exact .inr ⟨z, h1 z hz, rfl⟩
      · exact .inl (List.mem_singleton.mp q)
    · obtain ⟨z, hz, rfl⟩ := List.mem_map.mp q
      exact .inr ⟨z, h2 z hz, rfl⟩
  intro x hx
  simp only [List.cons_append, List.nil_append, List.mem_cons, List.not_mem_nil, or_false] at hx
  rcases hx with rfl | rfl | rfl | rfl | rfl | rfl | rfl | rfl | rfl | rfl | rfl | rfl | rfl | rfl | rfl | rfl
  · exact vl_tup hW (by omega)
  · exact vl_tup (fun z hz => hW z (List.mem_reverse.mp hz)) (by rw [List.length_reverse]; omega)
  · exact vl_lst hW (by omega)
  · exact vl_tup (hap hcut hcut) (by simp; omega)
  · exact vl_tup (hap (hap hcut (hon w1)) hcut) (by simp; omega)
  · exact ⟨kt_tup (by simp), (bo_tup (w := 1) (w' := 10) (d := 0) (xs := []) (by simp) (by decide)).ni.rp (by decide) (by decide)⟩
  · exact vl_tup (hap (hap hcut (hon hww)) hcut) (by simp; omega)
  · exact vl_tup (hap (hap hcut (hon w2)) hcut) (by simp; omega)
  · exact vl_tup hcut (by omega)
  · exact vl_tup (hap (hap hcut (hon wIR)) hcut) (by simp; omega)
  · exact vl_mix (y := toV (eL eV) [toV eS z1]) (kt_lst _ 0) (.inl (fi_lst (w := 700) (w' := 800) (d := 0) (by simpa using (bo_wz w1).1) (by rw [List.length_singleton]; decide))) (hmix hcut hcut) (by simp; omega)
  · exact vl_tup (hap hW hcut) (by simp; omega)
  · exact vl_mix (y := vD []) (kt_dct _ 0) (ni_d0.mono (by decide) (by decide)) (hmix hcut hcut) (by simp; omega)
  · exact vl_str w1
  · exact ⟨oddC_kt 1 _ hv, (oddC_ni _ hv).rp (by decide) (by decide)⟩
  · exact vl_tup hcut (by omega)
theorem right_ok {c : Int} {s : Stm} (hs : CS c s) (hc : c ≤ 800000) {u v : List Bool} {n : Nat} (hn : n ≤ 24) (hu : Dyck u) (hv : Dyck v) (lu : u.length = 2 * n) (lv : v.length = 2 * n) : Ret (x__law_right s (wL u) (wL v)) fun p => p.1 = true ∧ CS (c + 500) p.2 := by
  unfold x__law_right
  obtain ⟨zs, ep, ws, rfl, g⟩ := path_ok hn hu hv lu lv
  have hds : dsR (rowW u 0) (rowW v 0) ≤ 24 * 24 := by
    obtain ⟨r1, l1⟩ := dyck_row hu lu
    obtain ⟨r2, l2⟩ := dyck_row hv lv
    have := ds_le (a := rowW u 0) (b := rowW v 0) (m := 24) (by decide) (fun x hx => by have := isRow_le r1 x hx; omega) (fun x hx => by have := isRow_le r2 x hx; omega)
    have h3 : ((rowW u 0).length : Int) * 24 ≤ 24 * 24 := Int.mul_le_mul_of_nonneg_right (by omega) (by decide)
    omega
  have hlen := g.len
  have hne : ws ≠ [] := by
    rintro rfl
    have := g.hd
    simp at this
  have hV : Vl (toV (eT eS) (ws.map wL)) := vl_tup (fun z hz => by
    obtain ⟨w, hw, rfl⟩ := List.mem_map.mp hz
    exact wz_wL (by have := (g.wd w hw).2; omega)) (by simp; omega)
  obtain ⟨hk, rp, er⟩ := hV
  obtain ⟨b, eb, hb⟩ := cjudge_ok hn hu hv lu lv hk
  obtain rfl : b = true := hb.mpr ⟨ws, rfl, g⟩
  have er' : rpO ((eT eS) (ws.map wL)) = some rp := er
  refine ret_eq ep (ret_eq eb ?_)
  rw [if_neg (by decide), ep, Option.bind_some, er', Option.bind_some, Option.bind_some, decide_eq_true rfl]
  refine ret_let ?_
  rw [if_neg (by decide)]
  refine ret_bind (vals_ok hs hc hn (fun w hw => by rw [(g.wd w hw).2]; exact lu) hne (by omega)) ?_
  rintro ⟨vs, s1⟩ ⟨hv', o1⟩
  dsimp only at hv' o1 ⊢
  refine ret_go (fun _ _ => True) trivial ?_ fun _ _ => ret_some ⟨rfl, o1⟩
  intro i val _ hx _
  obtain ⟨hk, rp, er⟩ := hv' val (List.mem_of_getElem? hx)
  have er' : rpO (eV val) = some rp := er
  obtain ⟨b1, eb1, hb1⟩ := judge_ok hn hu hv lu lv hk
  obtain ⟨b2, eb2, hb2⟩ := cjudge_ok hn hu hv lu lv hk
  have e12 : b1 = b2 := by rw [Bool.eq_iff_iff, hb1, hb2]
  subst e12
  refine ret_eq er' (ret_eq eb1 ?_)
  rw [if_neg (by decide), eb2, Option.bind_some, decide_eq_true rfl, if_neg (by decide), er', Option.bind_some, decide_eq_true rfl, Option.bind_some, Option.bind_some, if_neg (by decide)]
  exact ret_some ⟨(), rfl, trivial⟩
theorem law_ok (ns : List Int) (h : ns.length ≤ 63) : x_law ns = some true := by
  unfold x_law
  obtain ⟨s0, e0, o0⟩ := strC_ok h
  refine eq_of_ret (ret_eq e0 (ret_pick' o0 (by decide) (by decide) (by decide) fun r1 s1 a1 b1 o1 => ?_))
  obtain ⟨m, rfl⟩ := Int.eq_ofNat_of_zero_le a1
  refine ret_eq (c_all_words_eq (by omega)) ?_
  refine ret_go (fun _ _ => True) trivial ?_ ?_
  · intro i z1 _ hx _
    obtain ⟨u, hu', rfl⟩ := List.mem_map.mp (List.mem_of_getElem? hx)
    obtain ⟨hu, lu⟩ := WL_dyck.mp hu'
    refine ret_go (fun _ _ => True) trivial ?_ fun _ _ => ret_some ⟨(), rfl, trivial⟩
    intro i2 z2 _ hx2 _
    obtain ⟨v, hv', rfl⟩ := List.mem_map.mp (List.mem_of_getElem? hx2)
    obtain ⟨hv, lv⟩ := WL_dyck.mp hv'
    rw [words_right_ok (n := m) (by omega) hu hv lu lv, Option.bind_some, if_neg (by decide)]
    obtain ⟨zs, ep, ws, rfl, g⟩ := path_ok (n := m) (by omega) hu hv lu lv
    have hk : Kt 1 (toV (eT eS) (ws.map wL)) := by
      rw [toV_ws]
      refine kt_tup fun x hx => ?_
      obtain ⟨w, hw, rfl⟩ := List.mem_map.mp hx
      exact kt_str (by have := (g.wd w hw).2; simp; omega) 0
    obtain ⟨b, eb, hb⟩ := cjudge_ok (n := m) (by omega) hu hv lu lv hk
    obtain rfl : b = true := hb.mpr ⟨ws, rfl, g⟩
    rw [ep, Option.bind_some, eb, Option.bind_some, Option.bind_some, if_neg (by decide)]
    exact ret_some ⟨(), rfl, trivial⟩
  · intro _ _
    refine ret_rng (by decide) (by decide) (by decide) (by decide) ?_
    refine ret_go (fun j (s : Stm) => CS (1 + 10000 * (j : Int)) s) (by simpa using o1) ?_ fun _ _ => ret_some rfl
    intro j x s hx ok
    obtain ⟨hj, rfl⟩ := rng_get hx
    have hj' : (j : Int) < 4 := by omega
    refine ret_pick' ok (by omega) (by decide) (by decide) fun r6 s3 a3 b3 o3 => ?_
    obtain ⟨g, eg, hg⟩ : ∃ g : Int, atI [10, 25] ((0 + (j : Int)) / 2) = some g ∧ 0 < g ∧ g ≤ 25 := by
      obtain ⟨g, eg, hm⟩ := atI_mem (xs := [(10 : Int), 25]) (i := (0 + (j : Int)) / 2) (by omega) (by simp; omega)
      refine ⟨g, eg, ?_⟩
      simp at hm
      omega
    refine ret_eq eg (ret_pick' o3 (by omega) hg.1 (by omega) fun r8 s4 a4 b4 o4 => ?_)
    obtain ⟨n, en, hn⟩ : ∃ n, atI [r6, r8] ((0 + (j : Int)) % 2) = some n ∧ 0 ≤ n ∧ n < 25 := by
      obtain ⟨n, en, hm⟩ := atI_mem (xs := [r6, r8]) (i := (0 + (j : Int)) % 2) (Int.emod_nonneg _ (by decide)) (by have := Int.emod_lt_of_pos (0 + (j : Int)) (show (0 : Int) < 2 by decide); simpa using this)
      refine ⟨n, en, ?_⟩
      simp at hm
      omega
    obtain ⟨k, rfl⟩ := Int.eq_ofNat_of_zero_le hn.1
    refine ret_eq en (ret_dword o4 (by omega) (by omega) (by omega) fun u s5 hu lu o5 => ?_)
    refine ret_dword o5 (by omega) (by omega) (by omega) fun v s6 hv lv o6 => ?_
    dsimp only
    rw [words_right_ok (n := k) (by omega) hu hv (by omega) (by omega), Option.bind_some, if_neg (by decide)]
    obtain ⟨⟨b, s7⟩, er, hb, o7⟩ := right_ok o6 (by omega) (n := k) (by omega) hu hv (by omega) (by omega)
    dsimp only at hb o7
    subst hb
    rw [er]
    exact ret_some ⟨_, rfl, o7.mono (by omega)⟩

theorem law_true : ∀ ns : List Int, ns.length ≤ 63 → ∃ S', f_law [.scr ns] [] = some (.ok (.bl true) S') := fun ns h => ⟨[], tr_law ncS_nil (law_ok ns h)⟩
theorem ok__law_stream {P : Program} {w : World} {K : PySem.W.Frag} {mg : Str → Option Value} {base : Heap} {a : Addr} {fd : FuncData} (hB : ∃ mm, base.Ns sysModules mm) (D : DefAt K mg "_law_stream" s__law_stream ["_law_script"] a fd)
    (b_abs : mg "abs" = none)
    : FnG P w K mg base CX0 1 a fd ["_law_script"] (spF K mg 1 f_c_stream) := by
  refine fn_ok (k := 0) D.fn sc__law_stream (keeps_len (N := N_c_stream) rfl keeps_runK) (fun cdv A outer s H E hG0 hr0 => ?_) (okF_nox _)
  have hG : A.guards = some [] := hG0
  have hr := hr0
  have hu := hr0.units
  exact (gss_one (gs_ret (ge_new (ga_cons (ge_lc rfl sc__law_stream.nd (gi_val (ge_slice x_slice (ge_var 0) gp_none (gp_some ge_int))) (blkOk_by (N := ["_law_script", "_law_cell"]) (sc := defScope s__law_stream) (own := [("_law_cell", 1)]) (by decide +kernel)) (by decide) (fun _ _ _ _ _ => (gg_name 1 sc__law_stream.nd)) (fun _ _ _ _ _ => gts_nil) (fun _ _ _ _ _ => (ge_callB c_abs (by rfl) b_abs bt_abs (ga_cons (ge_var 1) ga_nil)))) (ga_cons ge_int (ga_cons ge_int (ga_cons ge_int ga_nil)))))))
theorem ok__law_all_words {P : Program} {w : World} {K : PySem.W.Frag} {mg : Str → Option Value} {base : Heap} {a : Addr} {fd : FuncData} (hB : ∃ mm, base.Ns sysModules mm) (D : DefAt K mg "_law_all_words" s__law_all_words ["_law_count"] a fd)
    (b_range : mg "range" = none)
    : FnG P w K mg base CX0 1 a fd ["_law_count"] (spF K mg 1 f_c_all_words) := by
  refine fn_ok (k := 0) D.fn sc__law_all_words (keeps_len (N := N_c_all_words) rfl keeps_runU) (fun cdv A outer s H E hG0 hr0 => ?_) (okF_nox _)
  have hG : A.guards = some [] := hG0
  have hr := hr0
  have hu := hr0.units
  exact (gss_cons (gs_set 1 sc__law_all_words.nd (ge_new (ga_cons ge_str ga_nil))) (gss_cons (gs_for PassesOwn.never rfl (gi_range1 (by rfl) b_range (ga_cons (ge_op o_mulI ge_int (ge_var 0)) ga_nil)) (gg_name 2 sc__law_all_words.nd) (gss_cons (gs_set 3 sc__law_all_words.nd (ge_new ga_nil)) (gss_cons (gs_for PassesOwn.never rfl (gi_val (ge_var 1)) (gg_name 4 sc__law_all_words.nd) (gss_cons (gs_set 5 sc__law_all_words.nd (ge_ms PySem.F.slot_str_count PySem.F.type_str_count m_countS (ge_var 4) (ga_cons ge_str ga_nil))) (gss_cons (gs_if (gt_cmp o_lt (ge_var 5) (ge_var 0)) (gss_one (gs_expr (ge_mt PySem.F.slot_list_append PySem.F.type_list_append m_append (ge_var 3) (ga_cons (ge_op o_add (ge_var 4) ge_str) ga_nil)))) gss_nil) (gss_one (gs_if (gt_cmp o_gt (ge_op o_mulI ge_int (ge_var 5)) (ge_var 2)) (gss_one (gs_expr (ge_mt PySem.F.slot_list_append PySem.F.type_list_append m_append (ge_var 3) (ga_cons (ge_op o_add (ge_var 4) ge_str) ga_nil)))) gss_nil))))) (gss_one (gs_set 1 sc__law_all_words.nd (ge_var 3)))))) (gss_one (gs_ret (ge_var 1)))))
theorem ok__law_pick {P : Program} {w : World} {K : PySem.W.Frag} {mg : Str → Option Value} {base : Heap} {a : Addr} {fd : FuncData} (hB : ∃ mm, base.Ns sysModules mm) (D : DefAt K mg "_law_pick" s__law_pick ["_law_stream_here", "_law_bound"] a fd)
    (b_len : mg "len" = none)
    (b_int : mg "int" = none)
    : FnG P w K mg base CX0 1 a fd ["_law_stream_here", "_law_bound"] (spF K mg 2 f__law_pick) := by
  refine fn_ok (k := 0) D.fn sc__law_pick (keeps_len (N := N__law_pick) rfl keeps_runU) (fun cdv A outer s H E hG0 hr0 => ?_) (okF_nox _)
  have hG : A.guards = some [] := hG0
  have hr := hr0
  have hu := hr0.units
  exact (gss_cons (gs_sub p_set (ge_var 0) ge_int (ge_op o_add (ge_ix x_ix (ge_var 0) ge_int) ge_int)) (gss_cons (gs_while PassesOwn.never (GW.gt (gw_and (gt_cmp (o_eq hu) (ge_ix x_ix (ge_var 0) ge_int) ge_int) (gw_and1 (gt_cmp o_lt (ge_ix x_ix (ge_var 0) ge_int) (ge_callB c_len (by rfl) b_len bt_len (ga_cons (ge_ix x_ix (ge_var 0) ge_int) ga_nil)))))) (gss_cons (gs_set 2 sc__law_pick.nd (ge_ix x_ix (ge_ix x_ix (ge_var 0) ge_int) (ge_ix x_ix (ge_var 0) ge_int))) (gss_cons (gs_sub p_set (ge_var 0) ge_int (ge_op o_add (ge_ix x_ix (ge_var 0) ge_int) ge_int)) (gss_one (gs_sub p_set (ge_var 0) ge_int (ge_op o_mulI (ge_var 2) (ge_callTy c_int (by rfl) b_int bt_int (ga_cons (ge_cmp o_ge (ge_var 2) (ge_op o_pow ge_int ge_int)) ga_nil)))))))) (gss_cons (gs_if (gt_cmp o_gt (ge_ix x_ix (ge_var 0) ge_int) ge_int) (gss_cons (gs_set 3 sc__law_pick.nd (ge_op o_mod (ge_ix x_ix (ge_var 0) ge_int) (ge_var 1))) (gss_cons (gs_sub p_set (ge_var 0) ge_int (ge_op o_div (ge_ix x_ix (ge_var 0) ge_int) (ge_var 1))) (gss_one (gs_ret (ge_var 3))))) gss_nil) (gss_cons (gs_set 4 sc__law_pick.nd (ge_op o_add (ge_ix x_ix (ge_var 0) ge_int) (ge_lst (ga_cons ge_int ga_nil)))) (gss_cons (gs_set 2 sc__law_pick.nd (ge_op o_add (ge_op o_mod (ge_ix x_ix (ge_var 4) (ge_op o_mod (ge_ix x_ix (ge_var 0) ge_int) (ge_callB c_len (by rfl) b_len bt_len (ga_cons (ge_var 4) ga_nil)))) ge_int) ge_int)) (gss_cons (gs_set 5 sc__law_pick.nd (ge_op o_mod (ge_op o_pow (ge_op o_add (ge_var 2) (ge_op o_mulI (ge_ix x_ix (ge_var 0) ge_int) (ge_op o_add (ge_ix x_ix (ge_var 0) ge_int) ge_int))) ge_int) ge_int)) (gss_one (gs_ret (ge_op o_mod (ge_op o_div (ge_op o_mod (ge_op o_add (ge_op o_mulI (ge_var 5) ge_int) (ge_op o_mulI ge_int (ge_ix x_ix (ge_var 0) ge_int))) ge_int) ge_int) (ge_var 1))))))))))
theorem ok__law_drawn_word {P : Program} {w : World} {K : PySem.W.Frag} {mg : Str → Option Value} {base : Heap} {a : Addr} {fd : FuncData} (hB : ∃ mm, base.Ns sysModules mm) (D : DefAt K mg "_law_drawn_word" s__law_drawn_word ["_law_stream_here", "_law_count"] a fd)
    {a__law_pick : Addr} {fd__law_pick : FuncData} (D__law_pick : DefAt K mg "_law_pick" s__law_pick ["_law_stream_here", "_law_bound"] a__law_pick fd__law_pick) (G__law_pick : FnG P w K mg base CX0 1 a__law_pick fd__law_pick ["_law_stream_here", "_law_bound"] (spF K mg 2 f__law_pick))
    (b_range : mg "range" = none)
    : FnG P w K mg base CX0 2 a fd ["_law_stream_here", "_law_count"] (spF K mg 2 f__law_drawn_word) := by
  refine fn_ok (k := 1) D.fn sc__law_drawn_word (keeps_len (N := N__law_drawn_word) rfl keeps_runU) (fun cdv A outer s H E hG0 hr0 => ?_) (okF_nox _)
  have hG : A.guards = some [] := hG0
  have hr := hr0
  have hu := hr0.units
  exact (gss_cons (gs_set 2 sc__law_drawn_word.nd (ge_fn D__law_pick G__law_pick hG hr (ga_cons (ge_var 0) (ga_cons ge_int ga_nil)))) (gss_cons (gs_asg (ge_tup (ga_cons ge_str (ga_cons ge_int ga_nil))) (gg_tup rfl (ggs_cons (gg_name 3 sc__law_drawn_word.nd) (ggs_cons (gg_name 4 sc__law_drawn_word.nd) ggs_nil)))) (gss_cons (gs_for PassesOwn.never rfl (gi_range1 (by rfl) b_range (ga_cons (ge_op o_mulI ge_int (ge_var 1)) ga_nil)) (gg_name 5 sc__law_drawn_word.nd) (gss_cons (gs_set 6 sc__law_drawn_word.nd (ge_fn D__law_pick G__law_pick hG hr (ga_cons (ge_var 0) (ga_cons ge_int ga_nil)))) (gss_cons (gs_set 7 sc__law_drawn_word.nd (ge_ix x_ix (ge_lst (ga_cons (ge_cmp o_lt (ge_var 6) ge_int) (ga_cons (ge_cmp o_gt (ge_var 6) ge_int) (ga_cons (ge_cmp (o_eq hu) (ge_var 6) ge_int) (ga_cons (ge_cmp o_lt (ge_op o_mod (ge_var 5) ge_int) ge_int) ga_nil))))) (ge_var 2))) (gss_one (gs_if (GW.gt (gw_or (gt_cmp (o_eq hu) (ge_op o_mulI ge_int (ge_var 4)) (ge_var 5)) (gw_or1 (GW.gt (gw_and (gt_cmp o_lt (ge_var 4) (ge_var 1)) (gw_and1 (gt_tr (ge_var 7)))))))) (gss_one (gs_par 3 4 rfl sc__law_drawn_word.nd (ga_cons (ge_op o_add (ge_var 3) ge_str) (ga_cons (ge_op o_add (ge_var 4) ge_int) ga_nil)))) (gss_one (gs_set 3 sc__law_drawn_word.nd (ge_op o_add (ge_var 3) ge_str)))))))) (gss_one (gs_ret (ge_var 3))))))
theorem ok__law_word_of {P : Program} {w : World} {K : PySem.W.Frag} {mg : Str → Option Value} {base : Heap} {a : Addr} {fd : FuncData} (hB : ∃ mm, base.Ns sysModules mm) (D : DefAt K mg "_law_word_of" s__law_word_of ["_law_row_here"] a fd)
    : FnG P w K mg base CX0 1 a fd ["_law_row_here"] (spF K mg 1 f_c_word_of) := by
  refine fn_ok (k := 0) D.fn sc__law_word_of (keeps_len (N := N_c_word_of) rfl keeps_runU) (fun cdv A outer s H E hG0 hr0 => ?_) (okF_nox _)
  have hG : A.guards = some [] := hG0
  have hr := hr0
  have hu := hr0.units
  exact (gss_cons (gs_asg (ge_tup (ga_cons ge_str (ga_cons ge_int ga_nil))) (gg_tup rfl (ggs_cons (gg_name 1 sc__law_word_of.nd) (ggs_cons (gg_name 2 sc__law_word_of.nd) ggs_nil)))) (gss_cons (gs_for PassesOwn.never rfl (gi_val (ge_var 0)) (gg_name 3 sc__law_word_of.nd) (gss_cons (gs_set 1 sc__law_word_of.nd (ge_op o_add (ge_op o_add (ge_var 1) (ge_op o_mul ge_str (ge_op o_sub (ge_var 3) (ge_var 2)))) ge_str)) (gss_one (gs_set 2 sc__law_word_of.nd (ge_var 3))))) (gss_one (gs_ret (ge_var 1)))))
theorem ok__law_row {P : Program} {w : World} {K : PySem.W.Frag} {mg : Str → Option Value} {base : Heap} {a : Addr} {fd : FuncData} (hB : ∃ mm, base.Ns sysModules mm) (D : DefAt K mg "_law_row" s__law_row ["_law_word"] a fd)
    (b_range : mg "range" = none)
    (b_len : mg "len" = none)
    (b_tuple : mg "tuple" = none)
    : FnG P w K mg base CX0 1 a fd ["_law_word"] (spF K mg 1 f_c_row) := by
  refine fn_ok (k := 0) D.fn sc__law_row (keeps_len (N := N_c_row) rfl keeps_runU) (fun cdv A outer s H E hG0 hr0 => ?_) (okF_nox _)
  have hG : A.guards = some [] := hG0
  have hr := hr0
  have hu := hr0.units
  exact (gss_one (gs_ret (ge_callTy (c_tupleX rfl) (by rfl) b_tuple bt_tuple (ga_cons (ge_lc rfl sc__law_row.nd (gi_range1 (by rfl) b_range (ga_cons (ge_callB c_len (by rfl) b_len bt_len (ga_cons (ge_var 0) ga_nil)) ga_nil)) (blkOk_by (N := ["_law_word", "_law_at"]) (sc := defScope s__law_row) (own := [("_law_at", 1)]) (by decide +kernel)) (by decide) (fun _ _ _ _ _ => (gg_name 1 sc__law_row.nd)) (fun _ _ _ _ _ => (gts_one (gt_cmp (o_eq hu) (ge_ix x_ix (ge_var 0) (ge_var 1)) ge_str))) (fun _ _ _ _ _ => (ge_ms PySem.F.slot_str_count PySem.F.type_str_count m_countS (ge_slice x_slice (ge_var 0) gp_none (gp_some (ge_var 1))) (ga_cons ge_str ga_nil)))) ga_nil))))
theorem ok_word_of_row {P : Program} {w : World} {K : PySem.W.Frag} {mg : Str → Option Value} {base : Heap} {a : Addr} {fd : FuncData} (hB : ∃ mm, base.Ns sysModules mm) (D : DefAt K mg "word_of_row" s_word_of_row ["row"] a fd)
    {t_INSERT : Tok} (c_INSERT : mg "INSERT" = some (.str "I" t_INSERT))
    {t_REMOVE : Tok} (c_REMOVE : mg "REMOVE" = some (.str "R" t_REMOVE))
    : FnG P w K mg base CX0 1 a fd ["row"] (spF K mg 1 f_p_word_of_row) := by
  refine fn_ok (k := 0) D.fn sc_word_of_row (keeps_len (N := N_p_word_of_row) rfl keeps_runU) (fun cdv A outer s H E hG0 hr0 => ?_) (okF_nox _)
  have hG : A.guards = some [] := hG0
  have hr := hr0
  have hu := hr0.units
  exact (gss_cons (gs_asg (ge_tup (ga_cons ge_str (ga_cons ge_int ga_nil))) (gg_tup rfl (ggs_cons (gg_name 1 sc_word_of_row.nd) (ggs_cons (gg_name 2 sc_word_of_row.nd) ggs_nil)))) (gss_cons (gs_for PassesOwn.never rfl (gi_val (ge_var 0)) (gg_name 3 sc_word_of_row.nd) (gss_cons (gs_aug 1 sc_word_of_row.nd o_iadd (ge_op o_add (ge_op o_mul (ge_glob (w := .str "I") (by rfl) c_INSERT ⟨_, rfl⟩ fun _ _ => .str) (ge_op o_sub (ge_var 3) (ge_var 2))) (ge_glob (w := .str "R") (by rfl) c_REMOVE ⟨_, rfl⟩ fun _ _ => .str))) (gss_one (gs_set 2 sc_word_of_row.nd (ge_var 3))))) (gss_one (gs_ret (ge_var 1)))))
theorem ok_later_row {P : Program} {w : World} {K : PySem.W.Frag} {mg : Str → Option Value} {base : Heap} {a : Addr} {fd : FuncData} (hB : ∃ mm, base.Ns sysModules mm) (D : DefAt K mg "later_row" s_later_row ["first", "second"] a fd)
    (b_zip : mg "zip" = none)
    (b_min : mg "min" = none)
    (b_tuple : mg "tuple" = none)
    : FnG P w K mg base CX0 1 a fd ["first", "second"] (spF K mg 2 f_later_row) := by
  refine fn_ok (k := 0) D.fn sc_later_row (keeps_len (N := N_later_row) rfl keeps_runU) (fun cdv A outer s H E hG0 hr0 => ?_) (okF_nox _)
  have hG : A.guards = some [] := hG0
  have hr := hr0
  have hu := hr0.units
  exact (gss_one (gs_ret (ge_callTy (c_tupleX rfl) (by rfl) b_tuple bt_tuple (ga_cons (ge_lc rfl sc_later_row.nd (gi_zipN (by rfl) b_zip (ga_cons (ge_var 0) (ga_cons (ge_var 1) ga_nil))) (blkOk_by (N := ["first", "second", "pair"]) (sc := defScope s_later_row) (own := [("pair", 2)]) (by decide +kernel)) (by decide) (fun _ _ _ _ _ => (gg_name 2 sc_later_row.nd)) (fun _ _ _ _ _ => gts_nil) (fun _ _ _ _ _ => (ge_callB (c_minP rfl hu) (by rfl) b_min bt_min (ga_cons (ge_var 2) ga_nil)))) ga_nil))))
theorem ok_word_row {P : Program} {w : World} {K : PySem.W.Frag} {mg : Str → Option Value} {base : Heap} {a : Addr} {fd : FuncData} (hB : ∃ mm, base.Ns sysModules mm) (D : DefAt K mg "word_row" s_word_row ["word"] a fd)
    (b_tuple : mg "tuple" = none)
    {t_INSERT : Tok} (c_INSERT : mg "INSERT" = some (.str "I" t_INSERT))
    : FnG P w K mg base CX0 1 a fd ["word"] (spF K mg 1 f_p_word_row) := by
  refine fn_ok (k := 0) D.fn sc_word_row (keeps_len (N := N_p_word_row) rfl keeps_runU) (fun cdv A outer s H E hG0 hr0 => ?_) (okF_nox _)
  have hG : A.guards = some [] := hG0
  have hr := hr0
  have hu := hr0.units
  exact (gss_cons (gs_par 1 2 rfl sc_word_row.nd (ga_cons (ge_new ga_nil) (ga_cons ge_int ga_nil))) (gss_cons (gs_for PassesOwn.never rfl (gi_val (ge_var 0)) (gg_name 3 sc_word_row.nd) (gss_one (gs_if (gt_cmp (o_eq hu) (ge_var 3) (ge_glob (w := .str "I") (by rfl) c_INSERT ⟨_, rfl⟩ fun _ _ => .str)) (gss_one (gs_aug 2 sc_word_row.nd o_iadd ge_int)) (gss_one (gs_expr (ge_mt PySem.F.slot_list_append PySem.F.type_list_append m_append (ge_var 1) (ga_cons (ge_var 2) ga_nil))))))) (gss_one (gs_ret (ge_callTy (c_tupleX rfl) (by rfl) b_tuple bt_tuple (ga_cons (ge_var 1) ga_nil))))))
theorem ok_later_word {P : Program} {w : World} {K : PySem.W.Frag} {mg : Str → Option Value} {base : Heap} {a : Addr} {fd : FuncData} (hB : ∃ mm, base.Ns sysModules mm) (D : DefAt K mg "later_word" s_later_word ["first", "second"] a fd)
    {a_word_row : Addr} {fd_word_row : FuncData} (D_word_row : DefAt K mg "word_row" s_word_row ["word"] a_word_row fd_word_row) (G_word_row : FnG P w K mg base CX0 1 a_word_row fd_word_row ["word"] (spF K mg 1 f_p_word_row))
    {a_later_row : Addr} {fd_later_row : FuncData} (D_later_row : DefAt K mg "later_row" s_later_row ["first", "second"] a_later_row fd_later_row) (G_later_row : FnG P w K mg base CX0 1 a_later_row fd_later_row ["first", "second"] (spF K mg 2 f_later_row))
    {a_word_of_row : Addr} {fd_word_of_row : FuncData} (D_word_of_row : DefAt K mg "word_of_row" s_word_of_row ["row"] a_word_of_row fd_word_of_row) (G_word_of_row : FnG P w K mg base CX0 1 a_word_of_row fd_word_of_row ["row"] (spF K mg 1 f_p_word_of_row))
    : FnG P w K mg base CX0 2 a fd ["first", "second"] (spF K mg 2 f_later_word) := by
  refine fn_ok (k := 1) D.fn sc_later_word (keeps_len (N := N_later_word) rfl keeps_runU) (fun cdv A outer s H E hG0 hr0 => ?_) (okF_nox _)
  have hG : A.guards = some [] := hG0
  have hr := hr0
  have hu := hr0.units
  exact (gss_one (gs_ret (ge_fn D_word_of_row G_word_of_row hG hr (ga_cons (ge_fn D_later_row G_later_row hG hr (ga_cons (ge_fn D_word_row G_word_row hG hr (ga_cons (ge_var 0) ga_nil)) (ga_cons (ge_fn D_word_row G_word_row hG hr (ga_cons (ge_var 1) ga_nil)) ga_nil))) ga_nil))))
theorem ok_earlier_word {P : Program} {w : World} {K : PySem.W.Frag} {mg : Str → Option Value} {base : Heap} {a : Addr} {fd : FuncData} (hB : ∃ mm, base.Ns sysModules mm) (D : DefAt K mg "earlier_word" s_earlier_word ["first", "second"] a fd)
    {a_word_row : Addr} {fd_word_row : FuncData} (D_word_row : DefAt K mg "word_row" s_word_row ["word"] a_word_row fd_word_row) (G_word_row : FnG P w K mg base CX0 1 a_word_row fd_word_row ["word"] (spF K mg 1 f_p_word_row))
    {a_word_of_row : Addr} {fd_word_of_row : FuncData} (D_word_of_row : DefAt K mg "word_of_row" s_word_of_row ["row"] a_word_of_row fd_word_of_row) (G_word_of_row : FnG P w K mg base CX0 1 a_word_of_row fd_word_of_row ["row"] (spF K mg 1 f_p_word_of_row))
    (b_zip : mg "zip" = none)
    (b_max : mg "max" = none)
    : FnG P w K mg base CX0 2 a fd ["first", "second"] (spF K mg 2 f_earlier_word) := by
  refine fn_ok (k := 1) D.fn sc_earlier_word (keeps_len (N := N_earlier_word) rfl keeps_runU) (fun cdv A outer s H E hG0 hr0 => ?_) (okF_nox _)
  have hG : A.guards = some [] := hG0
  have hr := hr0
  have hu := hr0.units
  exact (gss_one (gs_ret (ge_fn D_word_of_row G_word_of_row hG hr (ga_cons (ge_lc rfl sc_earlier_word.nd (gi_zipN (by rfl) b_zip (ga_cons (ge_fn D_word_row G_word_row hG hr (ga_cons (ge_var 0) ga_nil)) (ga_cons (ge_fn D_word_row G_word_row hG hr (ga_cons (ge_var 1) ga_nil)) ga_nil))) (blkOk_by (N := ["first", "second", "pair"]) (sc := defScope s_earlier_word) (own := [("pair", 2)]) (by decide +kernel)) (by decide) (fun _ _ _ _ _ => (gg_name 2 sc_earlier_word.nd)) (fun _ _ _ _ _ => gts_nil) (fun _ _ _ _ _ => (ge_callB (c_maxP rfl hu) (by rfl) b_max bt_max (ga_cons (ge_var 2) ga_nil)))) ga_nil))))
theorem ok_exchange_distance {P : Program} {w : World} {K : PySem.W.Frag} {mg : Str → Option Value} {base : Heap} {a : Addr} {fd : FuncData} (hB : ∃ mm, base.Ns sysModules mm) (D : DefAt K mg "exchange_distance" s_exchange_distance ["first", "second"] a fd)
    {a_word_row : Addr} {fd_word_row : FuncData} (D_word_row : DefAt K mg "word_row" s_word_row ["word"] a_word_row fd_word_row) (G_word_row : FnG P w K mg base CX0 1 a_word_row fd_word_row ["word"] (spF K mg 1 f_p_word_row))
    (b_zip : mg "zip" = none)
    (b_abs : mg "abs" = none)
    (b_sum : mg "sum" = none)
    : FnG P w K mg base CX0 2 a fd ["first", "second"] (spF K mg 2 f_exchange_distance) := by
  refine fn_ok (k := 1) D.fn sc_exchange_distance (keeps_len (N := N_exchange_distance) rfl keeps_runU) (fun cdv A outer s H E hG0 hr0 => ?_) (okF_nox _)
  have hG : A.guards = some [] := hG0
  have hr := hr0
  have hu := hr0.units
  exact (gss_one (gs_ret (ge_callB (c_sum rfl) (by rfl) b_sum bt_sum (ga_cons (ge_lc rfl sc_exchange_distance.nd (gi_zip (by rfl) b_zip (ga_cons (ge_fn D_word_row G_word_row hG hr (ga_cons (ge_var 0) ga_nil)) (ga_cons (ge_fn D_word_row G_word_row hG hr (ga_cons (ge_var 1) ga_nil)) ga_nil))) (blkOk_by (N := ["first", "second", "one", "other"]) (sc := defScope s_exchange_distance) (own := [("one", 2), ("other", 3)]) (by decide +kernel)) (by decide) (fun _ _ _ _ _ => (gg_tup rfl (ggs_cons (gg_name 2 sc_exchange_distance.nd) (ggs_cons (gg_name 3 sc_exchange_distance.nd) ggs_nil)))) (fun _ _ _ _ _ => gts_nil) (fun _ _ _ _ _ => (ge_callB c_abs (by rfl) b_abs bt_abs (ga_cons (ge_op o_sub (ge_var 2) (ge_var 3)) ga_nil)))) ga_nil))))
theorem ok__law_distance {P : Program} {w : World} {K : PySem.W.Frag} {mg : Str → Option Value} {base : Heap} {a : Addr} {fd : FuncData} (hB : ∃ mm, base.Ns sysModules mm) (D : DefAt K mg "_law_distance" s__law_distance ["_law_first", "_law_second"] a fd)
    {a__law_row : Addr} {fd__law_row : FuncData} (D__law_row : DefAt K mg "_law_row" s__law_row ["_law_word"] a__law_row fd__law_row) (G__law_row : FnG P w K mg base CX0 1 a__law_row fd__law_row ["_law_word"] (spF K mg 1 f_c_row))
    (b_zip : mg "zip" = none)
    (b_abs : mg "abs" = none)
    (b_sum : mg "sum" = none)
    : FnG P w K mg base CX0 2 a fd ["_law_first", "_law_second"] (spF K mg 2 f__law_distance) := by
  refine fn_ok (k := 1) D.fn sc__law_distance (keeps_len (N := N__law_distance) rfl keeps_runU) (fun cdv A outer s H E hG0 hr0 => ?_) (okF_nox _)
  have hG : A.guards = some [] := hG0
  have hr := hr0
  have hu := hr0.units
  exact (gss_one (gs_ret (ge_callB (c_sum rfl) (by rfl) b_sum bt_sum (ga_cons (ge_lc rfl sc__law_distance.nd (gi_zip (by rfl) b_zip (ga_cons (ge_fn D__law_row G__law_row hG hr (ga_cons (ge_var 0) ga_nil)) (ga_cons (ge_fn D__law_row G__law_row hG hr (ga_cons (ge_var 1) ga_nil)) ga_nil))) (blkOk_by (N := ["_law_first", "_law_second", "_law_one", "_law_other"]) (sc := defScope s__law_distance) (own := [("_law_one", 2), ("_law_other", 3)]) (by decide +kernel)) (by decide) (fun _ _ _ _ _ => (gg_tup rfl (ggs_cons (gg_name 2 sc__law_distance.nd) (ggs_cons (gg_name 3 sc__law_distance.nd) ggs_nil)))) (fun _ _ _ _ _ => gts_nil) (fun _ _ _ _ _ => (ge_callB c_abs (by rfl) b_abs bt_abs (ga_cons (ge_op o_sub (ge_var 2) (ge_var 3)) ga_nil)))) ga_nil))))
theorem ok__law_words_right {P : Program} {w : World} {K : PySem.W.Frag} {mg : Str → Option Value} {base : Heap} {a : Addr} {fd : FuncData} (hB : ∃ mm, base.Ns sysModules mm) (D : DefAt K mg "_law_words_right" s__law_words_right ["_law_first", "_law_second"] a fd)
    {a__law_row : Addr} {fd__law_row : FuncData} (D__law_row : DefAt K mg "_law_row" s__law_row ["_law_word"] a__law_row fd__law_row) (G__law_row : FnG P w K mg base CX0 1 a__law_row fd__law_row ["_law_word"] (spF K mg 1 f_c_row))
    {a__law_word_of : Addr} {fd__law_word_of : FuncData} (D__law_word_of : DefAt K mg "_law_word_of" s__law_word_of ["_law_row_here"] a__law_word_of fd__law_word_of) (G__law_word_of : FnG P w K mg base CX0 1 a__law_word_of fd__law_word_of ["_law_row_here"] (spF K mg 1 f_c_word_of))
    {a_later_word : Addr} {fd_later_word : FuncData} (D_later_word : DefAt K mg "later_word" s_later_word ["first", "second"] a_later_word fd_later_word) (G_later_word : FnG P w K mg base CX0 2 a_later_word fd_later_word ["first", "second"] (spF K mg 2 f_later_word))
    {a_earlier_word : Addr} {fd_earlier_word : FuncData} (D_earlier_word : DefAt K mg "earlier_word" s_earlier_word ["first", "second"] a_earlier_word fd_earlier_word) (G_earlier_word : FnG P w K mg base CX0 2 a_earlier_word fd_earlier_word ["first", "second"] (spF K mg 2 f_earlier_word))
    {a_exchange_distance : Addr} {fd_exchange_distance : FuncData} (D_exchange_distance : DefAt K mg "exchange_distance" s_exchange_distance ["first", "second"] a_exchange_distance fd_exchange_distance) (G_exchange_distance : FnG P w K mg base CX0 2 a_exchange_distance fd_exchange_distance ["first", "second"] (spF K mg 2 f_exchange_distance))
    {a__law_distance : Addr} {fd__law_distance : FuncData} (D__law_distance : DefAt K mg "_law_distance" s__law_distance ["_law_first", "_law_second"] a__law_distance fd__law_distance) (G__law_distance : FnG P w K mg base CX0 2 a__law_distance fd__law_distance ["_law_first", "_law_second"] (spF K mg 2 f__law_distance))
    (b_zip : mg "zip" = none)
    (b_min : mg "min" = none)
    (b_max : mg "max" = none)
    (b_repr : mg "repr" = none)
    : FnG P w K mg base CX0 3 a fd ["_law_first", "_law_second"] (spF K mg 2 f__law_words_right) := by
  refine fn_ok (k := 2) D.fn sc__law_words_right (keeps_len (N := N__law_words_right) rfl keeps_runU) (fun cdv A outer s H E hG0 hr0 => ?_) (okF_nox _)
  have hG : A.guards = some [] := hG0
  have hr := hr0
  have hu := hr0.units
  exact (gss_cons (gs_par 2 3 rfl sc__law_words_right.nd (ga_cons (ge_fn D__law_row G__law_row hG hr (ga_cons (ge_var 0) ga_nil)) (ga_cons (ge_fn D__law_row G__law_row hG hr (ga_cons (ge_var 1) ga_nil)) ga_nil))) (gss_cons (gs_set 4 sc__law_words_right.nd (ge_fn D__law_word_of G__law_word_of hG hr (ga_cons (ge_lc rfl sc__law_words_right.nd (gi_zipN (by rfl) b_zip (ga_cons (ge_var 2) (ga_cons (ge_var 3) ga_nil))) (blkOk_by (N := ["_law_first", "_law_second", "_law_one", "_law_other", "_law_less", "_law_more", "_law_found", "_law_pair"]) (sc := defScope s__law_words_right) (own := [("_law_pair", 7)]) (by decide +kernel)) (by decide) (fun _ _ _ _ _ => (gg_name 7 sc__law_words_right.nd)) (fun _ _ _ _ _ => gts_nil) (fun _ _ _ _ _ => (ge_callB (c_minP rfl hu) (by rfl) b_min bt_min (ga_cons (ge_var 7) ga_nil)))) ga_nil))) (gss_cons (gs_set 5 sc__law_words_right.nd (ge_fn D__law_word_of G__law_word_of hG hr (ga_cons (ge_lc rfl sc__law_words_right.nd (gi_zipN (by rfl) b_zip (ga_cons (ge_var 2) (ga_cons (ge_var 3) ga_nil))) (blkOk_by (N := ["_law_first", "_law_second", "_law_one", "_law_other", "_law_less", "_law_more", "_law_found", "_law_pair"]) (sc := defScope s__law_words_right) (own := [("_law_pair", 7)]) (by decide +kernel)) (by decide) (fun _ _ _ _ _ => (gg_name 7 sc__law_words_right.nd)) (fun _ _ _ _ _ => gts_nil) (fun _ _ _ _ _ => (ge_callB (c_maxP rfl hu) (by rfl) b_max bt_max (ga_cons (ge_var 7) ga_nil)))) ga_nil))) (gss_cons (gs_set 6 sc__law_words_right.nd (ge_tup (ga_cons (ge_fn D_later_word G_later_word hG hr (ga_cons (ge_var 0) (ga_cons (ge_var 1) ga_nil))) (ga_cons (ge_fn D_earlier_word G_earlier_word hG hr (ga_cons (ge_var 0) (ga_cons (ge_var 1) ga_nil))) (ga_cons (ge_fn D_exchange_distance G_exchange_distance hG hr (ga_cons (ge_var 0) (ga_cons (ge_var 1) ga_nil))) ga_nil))))) (gss_one (gs_ret (ge_cmp (o_eq hu) (ge_callB (c_reprX hG hB hu) (by rfl) b_repr bt_repr (ga_cons (ge_var 6) ga_nil)) (ge_callB (c_reprX hG hB hu) (by rfl) b_repr bt_repr (ga_cons (ge_tup (ga_cons (ge_var 4) (ga_cons (ge_var 5) (ga_cons (ge_fn D__law_distance G__law_distance hG hr (ga_cons (ge_var 0) (ga_cons (ge_var 1) ga_nil))) ga_nil)))) ga_nil)))))))))
theorem ok_lowered_rows {P : Program} {w : World} {K : PySem.W.Frag} {mg : Str → Option Value} {base : Heap} {a : Addr} {fd : FuncData} (hB : ∃ mm, base.Ns sysModules mm) (D : DefAt K mg "lowered_rows" s_lowered_rows ["row", "target"] a fd)
    (b_enumerate : mg "enumerate" = none)
    (b_range : mg "range" = none)
    : FnG P w K mg base CX0 1 a fd ["row", "target"] (spF K mg 2 f_lowered_rows) := by
  refine fn_ok (k := 0) D.fn sc_lowered_rows (keeps_len (N := N_lowered_rows) rfl keeps_runU) (fun cdv A outer s H E hG0 hr0 => ?_) (okF_nox _)
  have hG : A.guards = some [] := hG0
  have hr := hr0
  have hu := hr0.units
  exact (gss_cons (gs_set 2 sc_lowered_rows.nd (ge_new (ga_cons (ge_var 0) ga_nil))) (gss_cons (gs_for PassesOwn.never rfl (gi_enum (es := []) (by rfl) b_enumerate (ga_cons (ge_var 1) ga_nil)) (gg_tup rfl (ggs_cons (gg_name 3 sc_lowered_rows.nd) (ggs_cons (gg_name 4 sc_lowered_rows.nd) ggs_nil))) (gss_one (gs_for PassesOwn.never rfl (gi_range3 (by rfl) b_range (ga_cons (ge_op o_sub (ge_ix x_ix (ge_var 0) (ge_var 3)) ge_int) (ga_cons (ge_op o_sub (ge_var 4) ge_int) (ga_cons (ge_un o_neg ge_int) ga_nil)))) (gg_name 5 sc_lowered_rows.nd) (gss_one (gs_expr (ge_mt PySem.F.slot_list_append PySem.F.type_list_append m_append (ge_var 2) (ga_cons (ge_op o_add (ge_op o_add (ge_slice x_slice (ge_ix x_ix (ge_var 2) (ge_un o_neg ge_int)) gp_none (gp_some (ge_var 3))) (ge_tup (ga_cons (ge_var 5) ga_nil))) (ge_slice x_slice (ge_ix x_ix (ge_var 2) (ge_un o_neg ge_int)) (gp_some (ge_op o_add (ge_var 3) ge_int)) gp_none)) ga_nil))))))) (gss_one (gs_ret (ge_var 2)))))
theorem ok_exchange_path {P : Program} {w : World} {K : PySem.W.Frag} {mg : Str → Option Value} {base : Heap} {a : Addr} {fd : FuncData} (hB : ∃ mm, base.Ns sysModules mm) (D : DefAt K mg "exchange_path" s_exchange_path ["first", "second"] a fd)
    {a_word_row : Addr} {fd_word_row : FuncData} (D_word_row : DefAt K mg "word_row" s_word_row ["word"] a_word_row fd_word_row) (G_word_row : FnG P w K mg base CX0 1 a_word_row fd_word_row ["word"] (spF K mg 1 f_p_word_row))
    {a_later_row : Addr} {fd_later_row : FuncData} (D_later_row : DefAt K mg "later_row" s_later_row ["first", "second"] a_later_row fd_later_row) (G_later_row : FnG P w K mg base CX0 1 a_later_row fd_later_row ["first", "second"] (spF K mg 2 f_later_row))
    {a_lowered_rows : Addr} {fd_lowered_rows : FuncData} (D_lowered_rows : DefAt K mg "lowered_rows" s_lowered_rows ["row", "target"] a_lowered_rows fd_lowered_rows) (G_lowered_rows : FnG P w K mg base CX0 1 a_lowered_rows fd_lowered_rows ["row", "target"] (spF K mg 2 f_lowered_rows))
    {a_word_of_row : Addr} {fd_word_of_row : FuncData} (D_word_of_row : DefAt K mg "word_of_row" s_word_of_row ["row"] a_word_of_row fd_word_of_row) (G_word_of_row : FnG P w K mg base CX0 1 a_word_of_row fd_word_of_row ["row"] (spF K mg 1 f_p_word_of_row))
    (b_tuple : mg "tuple" = none)
    : FnG P w K mg base CX0 2 a fd ["first", "second"] (spF K mg 2 f_exchange_path) := by
  refine fn_ok (k := 1) D.fn sc_exchange_path (keeps_len (N := N_exchange_path) rfl keeps_runU) (fun cdv A outer s H E hG0 hr0 => ?_) (okF_nox _)
  have hG : A.guards = some [] := hG0
  have hr := hr0
  have hu := hr0.units
  exact (gss_cons (gs_par 2 3 rfl sc_exchange_path.nd (ga_cons (ge_fn D_word_row G_word_row hG hr (ga_cons (ge_var 0) ga_nil)) (ga_cons (ge_fn D_word_row G_word_row hG hr (ga_cons (ge_var 1) ga_nil)) ga_nil))) (gss_cons (gs_set 4 sc_exchange_path.nd (ge_fn D_later_row G_later_row hG hr (ga_cons (ge_var 2) (ga_cons (ge_var 3) ga_nil)))) (gss_cons (gs_set 5 sc_exchange_path.nd (ge_op o_add (ge_fn D_lowered_rows G_lowered_rows hG hr (ga_cons (ge_var 2) (ga_cons (ge_var 4) ga_nil))) (ge_back (ge_fn D_lowered_rows G_lowered_rows hG hr (ga_cons (ge_var 3) (ga_cons (ge_var 4) ga_nil))) (ge_un o_neg ge_int) (ge_un o_neg ge_int)))) (gss_one (gs_ret (ge_callTy (c_tupleX rfl) (by rfl) b_tuple bt_tuple (ga_cons (ge_lc rfl sc_exchange_path.nd (gi_val (ge_var 5)) (blkOk_by (N := ["first", "second", "one", "other", "target", "rows", "row"]) (sc := defScope s_exchange_path) (own := [("row", 6)]) (by decide +kernel)) (by decide) (fun _ _ _ _ _ => (gg_name 6 sc_exchange_path.nd)) (fun _ _ _ _ _ => gts_nil) (fun _ _ _ _ _ => (ge_fn D_word_of_row G_word_of_row hG hr (ga_cons (ge_var 6) ga_nil)))) ga_nil)))))))
theorem ok__law_odd {P : Program} {w : World} {K : PySem.W.Frag} {mg : Str → Option Value} {base : Heap} {a : Addr} {fd : FuncData} (hB : ∃ mm, base.Ns sysModules mm) (D : DefAt K mg "_law_odd" s__law_odd ["_law_stream_here"] a fd)
    {a__law_pick : Addr} {fd__law_pick : FuncData} (D__law_pick : DefAt K mg "_law_pick" s__law_pick ["_law_stream_here", "_law_bound"] a__law_pick fd__law_pick) (G__law_pick : FnG P w K mg base CX0 1 a__law_pick fd__law_pick ["_law_stream_here", "_law_bound"] (spF K mg 2 f__law_pick))
    : FnG P w K mg base CX0 2 a fd ["_law_stream_here"] (spF K mg 1 f__law_odd) := by
  refine fn_ok (k := 1) D.fn sc__law_odd (keeps_len (N := N__law_odd) rfl keeps_runU) (fun cdv A outer s H E hG0 hr0 => ?_) (okF_nox _)
  have hG : A.guards = some [] := hG0
  have hr := hr0
  have hu := hr0.units
  exact (gss_cons (gs_set 1 sc__law_odd.nd (ge_lst (ga_cons ge_non (ga_cons ge_bl (ga_cons ge_bl (ga_cons ge_int (ga_cons ge_int (ga_cons (ge_un o_neg ge_int) (ga_cons ge_int (ga_cons ge_int (ga_cons ge_int (ga_cons (ge_op o_pow ge_int ge_int) (ga_cons ge_str (ga_cons ge_str (ga_cons ge_str (ga_cons ge_str (ga_cons ge_str (ga_cons ge_str (ga_cons (ge_tup ga_nil) (ga_cons (ge_lst ga_nil) (ga_cons ge_dnew ga_nil))))))))))))))))))))) (gss_cons (gs_set 1 sc__law_odd.nd (ge_op o_add (ge_var 1) (ge_lst (ga_cons (ge_tup (ga_cons ge_str ga_nil)) (ga_cons (ge_lst (ga_cons ge_str ga_nil)) (ga_cons (ge_tup (ga_cons ge_int ga_nil)) (ga_cons (ge_lst (ga_cons ge_int ga_nil)) (ga_cons (ge_tup (ga_cons ge_bl ga_nil)) (ga_cons (ge_tup (ga_cons ge_int ga_nil)) (ga_cons (ge_disp (gps_str ge_int gps_nil)) (ga_cons (ge_tup (ga_cons ge_non ga_nil)) (ga_cons (ge_tup (ga_cons (ge_tup ga_nil) ga_nil)) ga_nil)))))))))))) (gss_one (gs_ret (ge_ix x_ix (ge_var 1) (ge_fn D__law_pick G__law_pick hG hr (ga_cons (ge_var 0) (ga_cons ge_int ga_nil))))))))
theorem ok__law_values {P : Program} {w : World} {K : PySem.W.Frag} {mg : Str → Option Value} {base : Heap} {a : Addr} {fd : FuncData} (hB : ∃ mm, base.Ns sysModules mm) (D : DefAt K mg "_law_values" s__law_values ["_law_stream_here", "_law_path"] a fd)
    {a__law_pick : Addr} {fd__law_pick : FuncData} (D__law_pick : DefAt K mg "_law_pick" s__law_pick ["_law_stream_here", "_law_bound"] a__law_pick fd__law_pick) (G__law_pick : FnG P w K mg base CX0 1 a__law_pick fd__law_pick ["_law_stream_here", "_law_bound"] (spF K mg 2 f__law_pick))
    {a__law_drawn_word : Addr} {fd__law_drawn_word : FuncData} (D__law_drawn_word : DefAt K mg "_law_drawn_word" s__law_drawn_word ["_law_stream_here", "_law_count"] a__law_drawn_word fd__law_drawn_word) (G__law_drawn_word : FnG P w K mg base CX0 2 a__law_drawn_word fd__law_drawn_word ["_law_stream_here", "_law_count"] (spF K mg 2 f__law_drawn_word))
    {a__law_odd : Addr} {fd__law_odd : FuncData} (D__law_odd : DefAt K mg "_law_odd" s__law_odd ["_law_stream_here"] a__law_odd fd__law_odd) (G__law_odd : FnG P w K mg base CX0 2 a__law_odd fd__law_odd ["_law_stream_here"] (spF K mg 1 f__law_odd))
    (b_len : mg "len" = none)
    (b_list : mg "list" = none)
    : FnG P w K mg base CX0 3 a fd ["_law_stream_here", "_law_path"] (spF K mg 2 f__law_values) := by
  refine fn_ok (k := 2) D.fn sc__law_values (keeps_len (N := N__law_values) rfl keeps_runU) (fun cdv A outer s H E hG0 hr0 => ?_) (okF_nox _)
  have hG : A.guards = some [] := hG0
  have hr := hr0
  have hu := hr0.units
  exact (gss_cons (gs_par 2 3 rfl sc__law_values.nd (ga_cons (ge_fn D__law_pick G__law_pick hG hr (ga_cons (ge_var 0) (ga_cons (ge_callB c_len (by rfl) b_len bt_len (ga_cons (ge_var 1) ga_nil)) ga_nil))) (ga_cons (ge_fn D__law_pick G__law_pick hG hr (ga_cons (ge_var 0) (ga_cons (ge_callB c_len (by rfl) b_len bt_len (ga_cons (ge_var 1) ga_nil)) ga_nil))) ga_nil))) (gss_cons (gs_set 4 sc__law_values.nd (ge_fn D__law_drawn_word G__law_drawn_word hG hr (ga_cons (ge_var 0) (ga_cons (ge_op o_div (ge_callB c_len (by rfl) b_len bt_len (ga_cons (ge_ix x_ix (ge_var 1) ge_int) ga_nil)) ge_int) ga_nil)))) (gss_cons (gs_set 5 sc__law_values.nd (ge_lst (ga_cons (ge_var 1) (ga_cons (ge_revX (ge_var 1)) (ga_cons (ge_callTy (c_listX rfl).val (by rfl) b_list bt_list (ga_cons (ge_var 1) ga_nil)) (ga_cons (ge_op o_add (ge_slice x_slice (ge_var 1) gp_none (gp_some (ge_var 2))) (ge_slice x_slice (ge_var 1) (gp_some (ge_op o_add (ge_var 2) ge_int)) gp_none)) (ga_cons (ge_op o_add (ge_op o_add (ge_slice x_slice (ge_var 1) gp_none (gp_some (ge_var 2))) (ge_tup (ga_cons (ge_ix x_ix (ge_var 1) (ge_var 2)) ga_nil))) (ge_slice x_slice (ge_var 1) (gp_some (ge_var 2)) gp_none)) (ga_cons (ge_tup ga_nil) ga_nil)))))))) (gss_cons (gs_set 5 sc__law_values.nd (ge_op o_add (ge_var 5) (ge_lst (ga_cons (ge_op o_add (ge_op o_add (ge_slice x_slice (ge_var 1) gp_none (gp_some (ge_var 2))) (ge_tup (ga_cons (ge_var 4) ga_nil))) (ge_slice x_slice (ge_var 1) (gp_some (ge_op o_add (ge_var 2) ge_int)) gp_none)) (ga_cons (ge_op o_add (ge_op o_add (ge_slice x_slice (ge_var 1) gp_none (gp_some (ge_var 2))) (ge_tup (ga_cons (ge_ix x_ix (ge_var 1) (ge_var 3)) ga_nil))) (ge_slice x_slice (ge_var 1) (gp_some (ge_op o_add (ge_var 2) ge_int)) gp_none)) (ga_cons (ge_slice x_slice (ge_var 1) (gp_some ge_int) gp_none) ga_nil)))))) (gss_cons (gs_set 5 sc__law_values.nd (ge_op o_add (ge_var 5) (ge_lst (ga_cons (ge_op o_add (ge_op o_add (ge_slice x_slice (ge_var 1) gp_none (gp_some (ge_var 2))) (ge_tup (ga_cons (ge_op o_add (ge_ix x_ix (ge_var 1) (ge_var 2)) ge_str) ga_nil))) (ge_slice x_slice (ge_var 1) (gp_some (ge_op o_add (ge_var 2) ge_int)) gp_none)) (ga_cons (ge_op o_add (ge_op o_add (ge_slice x_slice (ge_var 1) gp_none (gp_some (ge_var 2))) (ge_tup (ga_cons (ge_lst (ga_cons (ge_ix x_ix (ge_var 1) (ge_var 2)) ga_nil)) ga_nil))) (ge_slice x_slice (ge_var 1) (gp_some (ge_op o_add (ge_var 2) ge_int)) gp_none)) ga_nil))))) (gss_one (gs_ret (ge_op o_add (ge_var 5) (ge_lst (ga_cons (ge_op o_add (ge_var 1) (ge_slice x_slice (ge_var 1) (gp_some (ge_un o_neg ge_int)) gp_none)) (ga_cons (ge_op o_add (ge_op o_add (ge_slice x_slice (ge_var 1) gp_none (gp_some (ge_var 2))) (ge_tup (ga_cons ge_dnew ga_nil))) (ge_slice x_slice (ge_var 1) (gp_some (ge_op o_add (ge_var 2) ge_int)) gp_none)) (ga_cons (ge_ix x_ix (ge_var 1) (ge_var 2)) (ga_cons (ge_fn D__law_odd G__law_odd hG hr (ga_cons (ge_var 0) ga_nil)) (ga_cons (ge_slice x_slice (ge_var 1) gp_none (gp_some ge_int)) ga_nil))))))))))))))
theorem ok_word_error {P : Program} {w : World} {K : PySem.W.Frag} {mg : Str → Option Value} {base : Heap} {a : Addr} {fd : FuncData} (hB : ∃ mm, base.Ns sysModules mm) (D : DefAt K mg "word_error" s_word_error ["value"] a fd)
    (b_str : mg "str" = none)
    (b_isinstance : mg "isinstance" = none)
    (b_len : mg "len" = none)
    (b_enumerate : mg "enumerate" = none)
    {t_MAX_LENGTH : Tok} (c_MAX_LENGTH : mg "MAX_LENGTH" = some (.int 24 t_MAX_LENGTH))
    {t_INSERT : Tok} (c_INSERT : mg "INSERT" = some (.str "I" t_INSERT))
    {t_REMOVE : Tok} (c_REMOVE : mg "REMOVE" = some (.str "R" t_REMOVE))
    : FnG P w K mg base CX0 1 a fd ["value"] (spF K mg 1 f_p_word_error) := by
  refine fn_ok (k := 0) D.fn sc_word_error (keeps_len (N := N_p_word_error) rfl keeps_runU) (fun cdv A outer s H E hG0 hr0 => ?_) (okF_nox _)
  have hG : A.guards = some [] := hG0
  have hr := hr0
  have hu := hr0.units
  exact (gss_cons (gs_if (gt_not (gt_tr (ge_callB c_isi (by rfl) b_isinstance bt_isinstance (ga_cons (ge_var 0) (ga_cons (ge_bltn (w := .ty "str") (by rfl) b_str bt_str rfl) ga_nil))))) (gss_one (gs_ret (ge_tup (ga_cons ge_non (ga_cons ge_str ga_nil))))) gss_nil) (gss_cons (gs_if (gt_cmp o_gt (ge_callB c_len (by rfl) b_len bt_len (ga_cons (ge_var 0) ga_nil)) (ge_op o_mulI ge_int (ge_glob (w := .int 24) (by rfl) c_MAX_LENGTH ⟨_, rfl⟩ fun _ _ => .int))) (gss_one (gs_ret (ge_tup (ga_cons ge_non (ga_cons ge_str ga_nil))))) gss_nil) (gss_cons (gs_set 1 sc_word_error.nd ge_int) (gss_cons (gs_for PassesOwn.never rfl (gi_enum (es := []) (by rfl) b_enumerate (ga_cons (ge_var 0) ga_nil)) (gg_tup rfl (ggs_cons (gg_name 2 sc_word_error.nd) (ggs_cons (gg_name 3 sc_word_error.nd) ggs_nil))) (gss_cons (gs_if (gt_cmp o_notin (ge_var 3) (ge_tup (ga_cons (ge_glob (w := .str "I") (by rfl) c_INSERT ⟨_, rfl⟩ fun _ _ => .str) (ga_cons (ge_glob (w := .str "R") (by rfl) c_REMOVE ⟨_, rfl⟩ fun _ _ => .str) ga_nil)))) (gss_one (gs_ret (ge_tup (ga_cons (ge_var 2) (ga_cons ge_str ga_nil))))) gss_nil) (gss_cons (gs_aug 1 sc_word_error.nd o_iadd (ge_if (gt_cmp (o_eq hu) (ge_var 3) (ge_glob (w := .str "I") (by rfl) c_INSERT ⟨_, rfl⟩ fun _ _ => .str)) ge_int (ge_un o_neg ge_int))) (gss_one (gs_if (gt_cmp o_lt (ge_var 1) ge_int) (gss_one (gs_ret (ge_tup (ga_cons (ge_var 2) (ga_cons ge_str ga_nil))))) gss_nil))))) (gss_one (gs_ret (ge_if (gt_cmp (o_eq hu) (ge_var 1) ge_int) ge_non (ge_tup (ga_cons ge_non (ga_cons ge_str ga_nil))))))))))
theorem ok_is_word {P : Program} {w : World} {K : PySem.W.Frag} {mg : Str → Option Value} {base : Heap} {a : Addr} {fd : FuncData} (hB : ∃ mm, base.Ns sysModules mm) (D : DefAt K mg "is_word" s_is_word ["value"] a fd)
    {a_word_error : Addr} {fd_word_error : FuncData} (D_word_error : DefAt K mg "word_error" s_word_error ["value"] a_word_error fd_word_error) (G_word_error : FnG P w K mg base CX0 1 a_word_error fd_word_error ["value"] (spF K mg 1 f_p_word_error))
    : FnG P w K mg base CX0 2 a fd ["value"] (spF K mg 1 f_p_is_word) := by
  refine fn_ok (k := 1) D.fn sc_is_word (keeps_len (N := N_p_is_word) rfl keeps_runU) (fun cdv A outer s H E hG0 hr0 => ?_) (okF_nox _)
  have hG : A.guards = some [] := hG0
  have hr := hr0
  have hu := hr0.units
  exact (gss_one (gs_ret (ge_cmp o_is (ge_fn D_word_error G_word_error hG hr (ga_cons (ge_var 0) ga_nil)) ge_non)))
theorem ok_is_exchange_path {P : Program} {w : World} {K : PySem.W.Frag} {mg : Str → Option Value} {base : Heap} {a : Addr} {fd : FuncData} (hB : ∃ mm, base.Ns sysModules mm) (D : DefAt K mg "is_exchange_path" s_is_exchange_path ["first", "second", "value"] a fd)
    {a_exchange_distance : Addr} {fd_exchange_distance : FuncData} (D_exchange_distance : DefAt K mg "exchange_distance" s_exchange_distance ["first", "second"] a_exchange_distance fd_exchange_distance) (G_exchange_distance : FnG P w K mg base CX0 2 a_exchange_distance fd_exchange_distance ["first", "second"] (spF K mg 2 f_exchange_distance))
    {a_is_word : Addr} {fd_is_word : FuncData} (D_is_word : DefAt K mg "is_word" s_is_word ["value"] a_is_word fd_is_word) (G_is_word : FnG P w K mg base CX0 2 a_is_word fd_is_word ["value"] (spF K mg 1 f_p_is_word))
    (b_tuple : mg "tuple" = none)
    (b_isinstance : mg "isinstance" = none)
    (b_len : mg "len" = none)
    (b_all : mg "all" = none)
    (b_zip : mg "zip" = none)
    : FnG P w K mg base CX0 3 a fd ["first", "second", "value"] (spF K mg 3 f_is_exchange_path) := by
  refine fn_ok (k := 2) D.fn sc_is_exchange_path (keeps_len (N := N_is_exchange_path) rfl keeps_runU) (fun cdv A outer s H E hG0 hr0 => ?_) (okF_nox _)
  have hG : A.guards = some [] := hG0
  have hr := hr0
  have hu := hr0.units
  exact (gss_cons (gs_if (GW.gt (gw_or (gt_not (gt_tr (ge_callB c_isi (by rfl) b_isinstance bt_isinstance (ga_cons (ge_var 2) (ga_cons (ge_bltn (w := .ty "tuple") (by rfl) b_tuple bt_tuple rfl) ga_nil))))) (gw_or1 (gt_cmp (o_ne hu) (ge_callB c_len (by rfl) b_len bt_len (ga_cons (ge_var 2) ga_nil)) (ge_op o_add (ge_fn D_exchange_distance G_exchange_distance hG hr (ga_cons (ge_var 0) (ga_cons (ge_var 1) ga_nil))) ge_int))))) (gss_one (gs_ret ge_bl)) gss_nil) (gss_cons (gs_if (gt_not (gt_tr (ge_callB (c_all rfl) (by rfl) b_all bt_all (ga_cons (ge_lc rfl sc_is_exchange_path.nd (gi_val (ge_var 2)) (blkOk_by (N := ["first", "second", "value", "one", "other", "word"]) (sc := defScope s_is_exchange_path) (own := [("word", 5)]) (by decide +kernel)) (by decide) (fun _ _ _ _ _ => (gg_name 5 sc_is_exchange_path.nd)) (fun _ _ _ _ _ => gts_nil) (fun _ _ _ _ _ => (ge_and (ge_fn D_is_word G_is_word hG hr (ga_cons (ge_var 5) ga_nil)) (ge_one (ge_cmp (o_eq hu) (ge_callB c_len (by rfl) b_len bt_len (ga_cons (ge_var 5) ga_nil)) (ge_callB c_len (by rfl) b_len bt_len (ga_cons (ge_var 0) ga_nil))))))) ga_nil)))) (gss_one (gs_ret ge_bl)) gss_nil) (gss_cons (gs_if (GW.gt (gw_or (gt_cmp (o_ne hu) (ge_ix x_ix (ge_var 2) ge_int) (ge_var 0)) (gw_or1 (gt_cmp (o_ne hu) (ge_ix x_ix (ge_var 2) (ge_un o_neg ge_int)) (ge_var 1))))) (gss_one (gs_ret ge_bl)) gss_nil) (gss_one (gs_ret (ge_callB (c_all rfl) (by rfl) b_all bt_all (ga_cons (ge_lc rfl sc_is_exchange_path.nd (gi_zip (by rfl) b_zip (ga_cons (ge_var 2) (ga_cons (ge_slice x_slice (ge_var 2) (gp_some ge_int) gp_none) ga_nil))) (blkOk_by (N := ["first", "second", "value", "one", "other", "word"]) (sc := defScope s_is_exchange_path) (own := [("one", 3), ("other", 4)]) (by decide +kernel)) (by decide) (fun _ _ _ _ _ => (gg_tup rfl (ggs_cons (gg_name 3 sc_is_exchange_path.nd) (ggs_cons (gg_name 4 sc_is_exchange_path.nd) ggs_nil)))) (fun _ _ _ _ _ => gts_nil) (fun _ _ _ _ _ => (ge_cmp (o_eq hu) (ge_fn D_exchange_distance G_exchange_distance hG hr (ga_cons (ge_var 3) (ga_cons (ge_var 4) ga_nil))) ge_int))) ga_nil)))))))
theorem ok__law_is_word {P : Program} {w : World} {K : PySem.W.Frag} {mg : Str → Option Value} {base : Heap} {a : Addr} {fd : FuncData} (hB : ∃ mm, base.Ns sysModules mm) (D : DefAt K mg "_law_is_word" s__law_is_word ["_law_value", "_law_length"] a fd)
    (b_str : mg "str" = none)
    (b_isinstance : mg "isinstance" = none)
    (b_len : mg "len" = none)
    (b_int : mg "int" = none)
    : FnG P w K mg base CX0 1 a fd ["_law_value", "_law_length"] (spF K mg 2 f__law_is_word) := by
  refine fn_ok (k := 0) D.fn sc__law_is_word (keeps_len (N := N__law_is_word) rfl keeps_runU) (fun cdv A outer s H E hG0 hr0 => ?_) (okF_nox _)
  have hG : A.guards = some [] := hG0
  have hr := hr0
  have hu := hr0.units
  exact (gss_cons (gs_if (GW.gt (gw_or (gt_not (gt_tr (ge_callB c_isi (by rfl) b_isinstance bt_isinstance (ga_cons (ge_var 0) (ga_cons (ge_bltn (w := .ty "str") (by rfl) b_str bt_str rfl) ga_nil))))) (gw_or1 (gt_cmp (o_ne hu) (ge_callB c_len (by rfl) b_len bt_len (ga_cons (ge_var 0) ga_nil)) (ge_var 1))))) (gss_one (gs_ret ge_bl)) gss_nil) (gss_cons (gs_set 2 sc__law_is_word.nd ge_int) (gss_cons (gs_for PassesOwn.never rfl (gi_val (ge_var 0)) (gg_name 3 sc__law_is_word.nd) (gss_cons (gs_set 2 sc__law_is_word.nd (ge_op o_add (ge_var 2) (ge_ix x_ix (ge_lst (ga_cons (ge_un o_neg ge_int) (ga_cons (ge_un o_neg ge_int) (ga_cons ge_int ga_nil)))) (ge_op o_add (ge_callTy c_int (by rfl) b_int bt_int (ga_cons (ge_cmp (o_eq hu) (ge_var 3) ge_str) ga_nil)) (ge_op o_mulI ge_int (ge_callTy c_int (by rfl) b_int bt_int (ga_cons (ge_cmp (o_eq hu) (ge_var 3) ge_str) ga_nil))))))) (gss_one (gs_if (gt_cmp o_lt (ge_var 2) ge_int) (gss_one (gs_ret ge_bl)) gss_nil)))) (gss_one (gs_ret (ge_cmp (o_eq hu) (ge_var 2) ge_int))))))
theorem ok__law_is_step {P : Program} {w : World} {K : PySem.W.Frag} {mg : Str → Option Value} {base : Heap} {a : Addr} {fd : FuncData} (hB : ∃ mm, base.Ns sysModules mm) (D : DefAt K mg "_law_is_step" s__law_is_step ["_law_one", "_law_other"] a fd)
    (b_range : mg "range" = none)
    (b_len : mg "len" = none)
    : FnG P w K mg base CX0 1 a fd ["_law_one", "_law_other"] (spF K mg 2 f__law_is_step) := by
  refine fn_ok (k := 0) D.fn sc__law_is_step (keeps_len (N := N__law_is_step) rfl keeps_runU) (fun cdv A outer s H E hG0 hr0 => ?_) (okF_nox _)
  have hG : A.guards = some [] := hG0
  have hr := hr0
  have hu := hr0.units
  exact (gss_cons (gs_set 2 sc__law_is_step.nd (ge_lc rfl sc__law_is_step.nd (gi_range1 (by rfl) b_range (ga_cons (ge_callB c_len (by rfl) b_len bt_len (ga_cons (ge_var 0) ga_nil)) ga_nil)) (blkOk_by (N := ["_law_one", "_law_other", "_law_at"]) (sc := defScope s__law_is_step) (own := [("_law_at", 2)]) (by decide +kernel)) (by decide) (fun _ _ _ _ _ => (gg_name 2 sc__law_is_step.nd)) (fun _ _ _ _ _ => (gts_one (gt_cmp (o_ne hu) (ge_ix x_ix (ge_var 0) (ge_var 2)) (ge_ix x_ix (ge_var 1) (ge_var 2))))) (fun _ _ _ _ _ => (ge_var 2))) (hs := L2.sw_false (by decide +kernel))) (gss_one (gs_ret (ge_and (ge_cmp (o_eq hu) (ge_callB c_len (by rfl) b_len bt_len (ga_cons (ge_var 2) ga_nil)) ge_int) (ge_and (ge_cmp (o_eq hu) (ge_ix x_ix (ge_var 2) ge_int) (ge_op o_add (ge_ix x_ix (ge_var 2) ge_int) ge_int)) (ge_and (ge_cmp (o_eq hu) (ge_ix x_ix (ge_var 0) (ge_ix x_ix (ge_var 2) ge_int)) (ge_ix x_ix (ge_var 1) (ge_ix x_ix (ge_var 2) ge_int))) (ge_one (ge_cmp (o_eq hu) (ge_ix x_ix (ge_var 0) (ge_ix x_ix (ge_var 2) ge_int)) (ge_ix x_ix (ge_var 1) (ge_ix x_ix (ge_var 2) ge_int))))))))))
theorem ok__law_is_path {P : Program} {w : World} {K : PySem.W.Frag} {mg : Str → Option Value} {base : Heap} {a : Addr} {fd : FuncData} (hB : ∃ mm, base.Ns sysModules mm) (D : DefAt K mg "_law_is_path" s__law_is_path ["_law_first", "_law_second", "_law_value"] a fd)
    {a__law_distance : Addr} {fd__law_distance : FuncData} (D__law_distance : DefAt K mg "_law_distance" s__law_distance ["_law_first", "_law_second"] a__law_distance fd__law_distance) (G__law_distance : FnG P w K mg base CX0 2 a__law_distance fd__law_distance ["_law_first", "_law_second"] (spF K mg 2 f__law_distance))
    {a__law_is_word : Addr} {fd__law_is_word : FuncData} (D__law_is_word : DefAt K mg "_law_is_word" s__law_is_word ["_law_value", "_law_length"] a__law_is_word fd__law_is_word) (G__law_is_word : FnG P w K mg base CX0 1 a__law_is_word fd__law_is_word ["_law_value", "_law_length"] (spF K mg 2 f__law_is_word))
    {a__law_is_step : Addr} {fd__law_is_step : FuncData} (D__law_is_step : DefAt K mg "_law_is_step" s__law_is_step ["_law_one", "_law_other"] a__law_is_step fd__law_is_step) (G__law_is_step : FnG P w K mg base CX0 1 a__law_is_step fd__law_is_step ["_law_one", "_law_other"] (spF K mg 2 f__law_is_step))
    (b_tuple : mg "tuple" = none)
    (b_isinstance : mg "isinstance" = none)
    (b_len : mg "len" = none)
    (b_range : mg "range" = none)
    : FnG P w K mg base CX0 3 a fd ["_law_first", "_law_second", "_law_value"] (spF K mg 3 f__law_is_path) := by
  refine fn_ok (k := 2) D.fn sc__law_is_path (keeps_len (N := N__law_is_path) rfl keeps_runU) (fun cdv A outer s H E hG0 hr0 => ?_) (okF_nox _)
  have hG : A.guards = some [] := hG0
  have hr := hr0
  have hu := hr0.units
  exact (gss_cons (gs_if (GW.gt (gw_or (gt_not (gt_tr (ge_callB c_isi (by rfl) b_isinstance bt_isinstance (ga_cons (ge_var 2) (ga_cons (ge_bltn (w := .ty "tuple") (by rfl) b_tuple bt_tuple rfl) ga_nil))))) (gw_or1 (gt_cmp (o_ne hu) (ge_callB c_len (by rfl) b_len bt_len (ga_cons (ge_var 2) ga_nil)) (ge_op o_add (ge_fn D__law_distance G__law_distance hG hr (ga_cons (ge_var 0) (ga_cons (ge_var 1) ga_nil))) ge_int))))) (gss_one (gs_ret ge_bl)) gss_nil) (gss_cons (gs_if (gt_cmp (o_neX hu) (ge_lc rfl sc__law_is_path.nd (gi_val (ge_var 2)) (blkOk_by (N := ["_law_first", "_law_second", "_law_value", "_law_word", "_law_at"]) (sc := defScope s__law_is_path) (own := [("_law_word", 3)]) (by decide +kernel)) (by decide) (fun _ _ _ _ _ => (gg_name 3 sc__law_is_path.nd)) (fun _ _ _ _ _ => (gts_one (gt_not (gt_tr (ge_fn D__law_is_word G__law_is_word hG hr (ga_cons (ge_var 3) (ga_cons (ge_callB c_len (by rfl) b_len bt_len (ga_cons (ge_var 0) ga_nil)) ga_nil))))))) (fun _ _ _ _ _ => (ge_var 3))) (ge_lst ga_nil)) (gss_one (gs_ret ge_bl)) gss_nil) (gss_cons (gs_if (GW.gt (gw_or (gt_cmp (o_ne hu) (ge_ix x_ix (ge_var 2) ge_int) (ge_var 0)) (gw_or1 (gt_cmp (o_ne hu) (ge_ix x_ix (ge_var 2) (ge_un o_neg ge_int)) (ge_var 1))))) (gss_one (gs_ret ge_bl)) gss_nil) (gss_one (gs_ret (ge_cmp (o_eqX hu) (ge_lc rfl sc__law_is_path.nd (gi_range2 (by rfl) b_range (ga_cons ge_int (ga_cons (ge_callB c_len (by rfl) b_len bt_len (ga_cons (ge_var 2) ga_nil)) ga_nil))) (blkOk_by (N := ["_law_first", "_law_second", "_law_value", "_law_word", "_law_at"]) (sc := defScope s__law_is_path) (own := [("_law_at", 4)]) (by decide +kernel)) (by decide) (fun _ _ _ _ _ => (gg_name 4 sc__law_is_path.nd)) (fun _ _ _ _ _ => (gts_one (gt_not (gt_tr (ge_fn D__law_is_step G__law_is_step hG hr (ga_cons (ge_ix x_ix (ge_var 2) (ge_op o_sub (ge_var 4) ge_int)) (ga_cons (ge_ix x_ix (ge_var 2) (ge_var 4)) ga_nil))))))) (fun _ _ _ _ _ => (ge_var 4))) (ge_lst ga_nil)))))))
theorem ok__law_right {P : Program} {w : World} {K : PySem.W.Frag} {mg : Str → Option Value} {base : Heap} {a : Addr} {fd : FuncData} (hB : ∃ mm, base.Ns sysModules mm) (D : DefAt K mg "_law_right" s__law_right ["_law_stream_here", "_law_first", "_law_second"] a fd)
    {a_exchange_path : Addr} {fd_exchange_path : FuncData} (D_exchange_path : DefAt K mg "exchange_path" s_exchange_path ["first", "second"] a_exchange_path fd_exchange_path) (G_exchange_path : FnG P w K mg base CX0 2 a_exchange_path fd_exchange_path ["first", "second"] (spF K mg 2 f_exchange_path))
    {a__law_is_path : Addr} {fd__law_is_path : FuncData} (D__law_is_path : DefAt K mg "_law_is_path" s__law_is_path ["_law_first", "_law_second", "_law_value"] a__law_is_path fd__law_is_path) (G__law_is_path : FnG P w K mg base CX0 3 a__law_is_path fd__law_is_path ["_law_first", "_law_second", "_law_value"] (spF K mg 3 f__law_is_path))
    {a__law_values : Addr} {fd__law_values : FuncData} (D__law_values : DefAt K mg "_law_values" s__law_values ["_law_stream_here", "_law_path"] a__law_values fd__law_values) (G__law_values : FnG P w K mg base CX0 3 a__law_values fd__law_values ["_law_stream_here", "_law_path"] (spF K mg 2 f__law_values))
    {a_is_exchange_path : Addr} {fd_is_exchange_path : FuncData} (D_is_exchange_path : DefAt K mg "is_exchange_path" s_is_exchange_path ["first", "second", "value"] a_is_exchange_path fd_is_exchange_path) (G_is_exchange_path : FnG P w K mg base CX0 3 a_is_exchange_path fd_is_exchange_path ["first", "second", "value"] (spF K mg 3 f_is_exchange_path))
    (b_repr : mg "repr" = none)
    (b_bool : mg "bool" = none)
    (b_isinstance : mg "isinstance" = none)
    : FnG P w K mg base CX0 4 a fd ["_law_stream_here", "_law_first", "_law_second"] (spF K mg 3 f__law_right) := by
  refine fn_ok (k := 3) D.fn sc__law_right (keeps_len (N := N__law_right) rfl keeps_runU) (fun cdv A outer s H E hG0 hr0 => ?_) (okF_nox _)
  have hG : A.guards = some [] := hG0
  have hr := hr0
  have hu := hr0.units
  exact (gss_cons (gs_set 3 sc__law_right.nd (ge_fn D_exchange_path G_exchange_path hG hr (ga_cons (ge_var 1) (ga_cons (ge_var 2) ga_nil)))) (gss_cons (gs_if (GW.gt (gw_or (gt_not (gt_tr (ge_fn D__law_is_path G__law_is_path hG hr (ga_cons (ge_var 1) (ga_cons (ge_var 2) (ga_cons (ge_var 3) ga_nil)))))) (gw_or1 (gt_cmp (o_ne hu) (ge_callB (c_reprX hG hB hu) (by rfl) b_repr bt_repr (ga_cons (ge_fn D_exchange_path G_exchange_path hG hr (ga_cons (ge_var 1) (ga_cons (ge_var 2) ga_nil))) ga_nil)) (ge_callB (c_reprX hG hB hu) (by rfl) b_repr bt_repr (ga_cons (ge_var 3) ga_nil)))))) (gss_one (gs_ret ge_bl)) gss_nil) (gss_cons (gs_for PassesOwn.never rfl (gi_val (ge_fn D__law_values G__law_values hG hr (ga_cons (ge_var 0) (ga_cons (ge_var 3) ga_nil)))) (gg_name 4 sc__law_right.nd) (gss_cons (gs_set 5 sc__law_right.nd (ge_callB (c_reprX hG hB hu) (by rfl) b_repr bt_repr (ga_cons (ge_var 4) ga_nil))) (gss_cons (gs_set 6 sc__law_right.nd (ge_fn D_is_exchange_path G_is_exchange_path hG hr (ga_cons (ge_var 1) (ga_cons (ge_var 2) (ga_cons (ge_var 4) ga_nil))))) (gss_one (gs_if (GW.gt (gw_or (gt_not (gt_tr (ge_callB c_isi (by rfl) b_isinstance bt_isinstance (ga_cons (ge_var 6) (ga_cons (ge_bltn (w := .ty "bool") (by rfl) b_bool bt_bool rfl) ga_nil))))) (gw_or (gt_cmp (o_ne hu) (ge_var 6) (ge_fn D__law_is_path G__law_is_path hG hr (ga_cons (ge_var 1) (ga_cons (ge_var 2) (ga_cons (ge_var 4) ga_nil))))) (gw_or1 (gt_cmp (o_ne hu) (ge_callB (c_reprX hG hB hu) (by rfl) b_repr bt_repr (ga_cons (ge_var 4) ga_nil)) (ge_var 5)))))) (gss_one (gs_ret ge_bl)) gss_nil))))) (gss_one (gs_ret ge_bl)))))
theorem ok_law {P : Program} {w : World} {K : PySem.W.Frag} {mg : Str → Option Value} {base : Heap} {a : Addr} {fd : FuncData} (hB : ∃ mm, base.Ns sysModules mm) (D : DefAt K mg "law" s_law ["_law_script"] a fd)
    {a__law_stream : Addr} {fd__law_stream : FuncData} (D__law_stream : DefAt K mg "_law_stream" s__law_stream ["_law_script"] a__law_stream fd__law_stream) (G__law_stream : FnG P w K mg base CX0 1 a__law_stream fd__law_stream ["_law_script"] (spF K mg 1 f_c_stream))
    {a__law_pick : Addr} {fd__law_pick : FuncData} (D__law_pick : DefAt K mg "_law_pick" s__law_pick ["_law_stream_here", "_law_bound"] a__law_pick fd__law_pick) (G__law_pick : FnG P w K mg base CX0 1 a__law_pick fd__law_pick ["_law_stream_here", "_law_bound"] (spF K mg 2 f__law_pick))
    {a__law_all_words : Addr} {fd__law_all_words : FuncData} (D__law_all_words : DefAt K mg "_law_all_words" s__law_all_words ["_law_count"] a__law_all_words fd__law_all_words) (G__law_all_words : FnG P w K mg base CX0 1 a__law_all_words fd__law_all_words ["_law_count"] (spF K mg 1 f_c_all_words))
    {a__law_words_right : Addr} {fd__law_words_right : FuncData} (D__law_words_right : DefAt K mg "_law_words_right" s__law_words_right ["_law_first", "_law_second"] a__law_words_right fd__law_words_right) (G__law_words_right : FnG P w K mg base CX0 3 a__law_words_right fd__law_words_right ["_law_first", "_law_second"] (spF K mg 2 f__law_words_right))
    {a_exchange_path : Addr} {fd_exchange_path : FuncData} (D_exchange_path : DefAt K mg "exchange_path" s_exchange_path ["first", "second"] a_exchange_path fd_exchange_path) (G_exchange_path : FnG P w K mg base CX0 2 a_exchange_path fd_exchange_path ["first", "second"] (spF K mg 2 f_exchange_path))
    {a__law_is_path : Addr} {fd__law_is_path : FuncData} (D__law_is_path : DefAt K mg "_law_is_path" s__law_is_path ["_law_first", "_law_second", "_law_value"] a__law_is_path fd__law_is_path) (G__law_is_path : FnG P w K mg base CX0 3 a__law_is_path fd__law_is_path ["_law_first", "_law_second", "_law_value"] (spF K mg 3 f__law_is_path))
    {a__law_drawn_word : Addr} {fd__law_drawn_word : FuncData} (D__law_drawn_word : DefAt K mg "_law_drawn_word" s__law_drawn_word ["_law_stream_here", "_law_count"] a__law_drawn_word fd__law_drawn_word) (G__law_drawn_word : FnG P w K mg base CX0 2 a__law_drawn_word fd__law_drawn_word ["_law_stream_here", "_law_count"] (spF K mg 2 f__law_drawn_word))
    {a__law_right : Addr} {fd__law_right : FuncData} (D__law_right : DefAt K mg "_law_right" s__law_right ["_law_stream_here", "_law_first", "_law_second"] a__law_right fd__law_right) (G__law_right : FnG P w K mg base CX0 4 a__law_right fd__law_right ["_law_stream_here", "_law_first", "_law_second"] (spF K mg 3 f__law_right))
    (b_range : mg "range" = none)
    : FnG P w K mg base CX0 5 a fd ["_law_script"] (spF K mg 1 f_law) := by
  refine fn_ok (k := 4) D.fn sc_law (keeps_len (N := N_law) rfl keeps_runU) (fun cdv A outer s H E hG0 hr0 => ?_) (okF_nox _)
  have hG : A.guards = some [] := hG0
  have hr := hr0
  have hu := hr0.units
  exact (gss_cons (gs_set 1 sc_law.nd (ge_fn D__law_stream G__law_stream hG hr (ga_cons (ge_var 0) ga_nil))) (gss_cons (gs_set 2 sc_law.nd (ge_fn D__law_all_words G__law_all_words hG hr (ga_cons (ge_fn D__law_pick G__law_pick hG hr (ga_cons (ge_var 1) (ga_cons ge_int ga_nil))) ga_nil))) (gss_cons (gs_for PassesOwn.never rfl (gi_val (ge_var 2)) (gg_name 3 sc_law.nd) (gss_one (gs_for PassesOwn.never rfl (gi_val (ge_var 2)) (gg_name 4 sc_law.nd) (gss_one (gs_if (GW.gt (gw_or (gt_not (gt_tr (ge_fn D__law_words_right G__law_words_right hG hr (ga_cons (ge_var 3) (ga_cons (ge_var 4) ga_nil))))) (gw_or1 (gt_not (gt_tr (ge_fn D__law_is_path G__law_is_path hG hr (ga_cons (ge_var 3) (ga_cons (ge_var 4) (ga_cons (ge_fn D_exchange_path G_exchange_path hG hr (ga_cons (ge_var 3) (ga_cons (ge_var 4) ga_nil))) ga_nil))))))))) (gss_one (gs_ret ge_bl)) gss_nil))))) (gss_cons (gs_for PassesOwn.never rfl (gi_range1 (by rfl) b_range (ga_cons ge_int ga_nil)) (gg_name 5 sc_law.nd) (gss_cons (gs_set 6 sc_law.nd (ge_ix x_ix (ge_lst (ga_cons (ge_fn D__law_pick G__law_pick hG hr (ga_cons (ge_var 1) (ga_cons ge_int ga_nil))) (ga_cons (ge_fn D__law_pick G__law_pick hG hr (ga_cons (ge_var 1) (ga_cons (ge_ix x_ix (ge_lst (ga_cons ge_int (ga_cons ge_int ga_nil))) (ge_op o_div (ge_var 5) ge_int)) ga_nil))) ga_nil))) (ge_op o_mod (ge_var 5) ge_int))) (gss_cons (gs_par 3 4 rfl sc_law.nd (ga_cons (ge_fn D__law_drawn_word G__law_drawn_word hG hr (ga_cons (ge_var 1) (ga_cons (ge_var 6) ga_nil))) (ga_cons (ge_fn D__law_drawn_word G__law_drawn_word hG hr (ga_cons (ge_var 1) (ga_cons (ge_var 6) ga_nil))) ga_nil))) (gss_one (gs_if (GW.gt (gw_or (gt_not (gt_tr (ge_fn D__law_words_right G__law_words_right hG hr (ga_cons (ge_var 3) (ga_cons (ge_var 4) ga_nil))))) (gw_or1 (gt_not (gt_tr (ge_fn D__law_right G__law_right hG hr (ga_cons (ge_var 1) (ga_cons (ge_var 3) (ga_cons (ge_var 4) ga_nil))))))))) (gss_one (gs_ret ge_bl)) gss_nil))))) (gss_one (gs_ret ge_bl))))))
theorem all_mk {l : PySem.W.OpenLaw} {w : World} {K : PySem.W.Frag} {h : Heap} {mg : Str → Option Value} {fa : Addr} (X : K.In h) (Y : h.Ns mainGlobals mg) (hfa : mg "law" = some (.ref fa))
    {f__law_stream_ : Addr} {od__law_stream an__law_stream : Option Addr} {sl__law_stream : Array (Option Value)} {oc__law_stream kV__law_stream dc__law_stream pm__law_stream cd__law_stream ct__law_stream : Value}
    (a__law_stream : PySem.W.nsIn K mainGlobals "_law_stream" = some (some (.ref f__law_stream_))) (l__law_stream : K.lookup f__law_stream_ = some ⟨oc__law_stream, od__law_stream, .func (PySem.W.fnOf "_law_stream" "_law_stream" (defArgs s__law_stream) (defBody s__law_stream) (defScope s__law_stream) .none kV__law_stream dc__law_stream pm__law_stream an__law_stream cd__law_stream ct__law_stream), sl__law_stream⟩) (c__law_stream : PySem.W.codeIn K cd__law_stream "_law_stream" = true) (k__law_stream : PySem.W.keepIn K (.ref f__law_stream_) = true)
    {f__law_all_words_ : Addr} {od__law_all_words an__law_all_words : Option Addr} {sl__law_all_words : Array (Option Value)} {oc__law_all_words kV__law_all_words dc__law_all_words pm__law_all_words cd__law_all_words ct__law_all_words : Value}
    (a__law_all_words : PySem.W.nsIn K mainGlobals "_law_all_words" = some (some (.ref f__law_all_words_))) (l__law_all_words : K.lookup f__law_all_words_ = some ⟨oc__law_all_words, od__law_all_words, .func (PySem.W.fnOf "_law_all_words" "_law_all_words" (defArgs s__law_all_words) (defBody s__law_all_words) (defScope s__law_all_words) .none kV__law_all_words dc__law_all_words pm__law_all_words an__law_all_words cd__law_all_words ct__law_all_words), sl__law_all_words⟩) (c__law_all_words : PySem.W.codeIn K cd__law_all_words "_law_all_words" = true) (k__law_all_words : PySem.W.keepIn K (.ref f__law_all_words_) = true)
    {f__law_pick_ : Addr} {od__law_pick an__law_pick : Option Addr} {sl__law_pick : Array (Option Value)} {oc__law_pick kV__law_pick dc__law_pick pm__law_pick cd__law_pick ct__law_pick : Value}
    (a__law_pick : PySem.W.nsIn K mainGlobals "_law_pick" = some (some (.ref f__law_pick_))) (l__law_pick : K.lookup f__law_pick_ = some ⟨oc__law_pick, od__law_pick, .func (PySem.W.fnOf "_law_pick" "_law_pick" (defArgs s__law_pick) (defBody s__law_pick) (defScope s__law_pick) .none kV__law_pick dc__law_pick pm__law_pick an__law_pick cd__law_pick ct__law_pick), sl__law_pick⟩) (c__law_pick : PySem.W.codeIn K cd__law_pick "_law_pick" = true) (k__law_pick : PySem.W.keepIn K (.ref f__law_pick_) = true)
    {f__law_drawn_word_ : Addr} {od__law_drawn_word an__law_drawn_word : Option Addr} {sl__law_drawn_word : Array (Option Value)} {oc__law_drawn_word kV__law_drawn_word dc__law_drawn_word pm__law_drawn_word cd__law_drawn_word ct__law_drawn_word : Value}
    (a__law_drawn_word : PySem.W.nsIn K mainGlobals "_law_drawn_word" = some (some (.ref f__law_drawn_word_))) (l__law_drawn_word : K.lookup f__law_drawn_word_ = some ⟨oc__law_drawn_word, od__law_drawn_word, .func (PySem.W.fnOf "_law_drawn_word" "_law_drawn_word" (defArgs s__law_drawn_word) (defBody s__law_drawn_word) (defScope s__law_drawn_word) .none kV__law_drawn_word dc__law_drawn_word pm__law_drawn_word an__law_drawn_word cd__law_drawn_word ct__law_drawn_word), sl__law_drawn_word⟩) (c__law_drawn_word : PySem.W.codeIn K cd__law_drawn_word "_law_drawn_word" = true) (k__law_drawn_word : PySem.W.keepIn K (.ref f__law_drawn_word_) = true)
    {f__law_word_of_ : Addr} {od__law_word_of an__law_word_of : Option Addr} {sl__law_word_of : Array (Option Value)} {oc__law_word_of kV__law_word_of dc__law_word_of pm__law_word_of cd__law_word_of ct__law_word_of : Value}
    (a__law_word_of : PySem.W.nsIn K mainGlobals "_law_word_of" = some (some (.ref f__law_word_of_))) (l__law_word_of : K.lookup f__law_word_of_ = some ⟨oc__law_word_of, od__law_word_of, .func (PySem.W.fnOf "_law_word_of" "_law_word_of" (defArgs s__law_word_of) (defBody s__law_word_of) (defScope s__law_word_of) .none kV__law_word_of dc__law_word_of pm__law_word_of an__law_word_of cd__law_word_of ct__law_word_of), sl__law_word_of⟩) (c__law_word_of : PySem.W.codeIn K cd__law_word_of "_law_word_of" = true) (k__law_word_of : PySem.W.keepIn K (.ref f__law_word_of_) = true)
    {f__law_row_ : Addr} {od__law_row an__law_row : Option Addr} {sl__law_row : Array (Option Value)} {oc__law_row kV__law_row dc__law_row pm__law_row cd__law_row ct__law_row : Value}
    (a__law_row : PySem.W.nsIn K mainGlobals "_law_row" = some (some (.ref f__law_row_))) (l__law_row : K.lookup f__law_row_ = some ⟨oc__law_row, od__law_row, .func (PySem.W.fnOf "_law_row" "_law_row" (defArgs s__law_row) (defBody s__law_row) (defScope s__law_row) .none kV__law_row dc__law_row pm__law_row an__law_row cd__law_row ct__law_row), sl__law_row⟩) (c__law_row : PySem.W.codeIn K cd__law_row "_law_row" = true) (k__law_row : PySem.W.keepIn K (.ref f__law_row_) = true)
    {f_word_of_row_ : Addr} {od_word_of_row an_word_of_row : Option Addr} {sl_word_of_row : Array (Option Value)} {oc_word_of_row kV_word_of_row dc_word_of_row pm_word_of_row cd_word_of_row ct_word_of_row : Value}
    (a_word_of_row : PySem.W.nsIn K mainGlobals "word_of_row" = some (some (.ref f_word_of_row_))) (l_word_of_row : K.lookup f_word_of_row_ = some ⟨oc_word_of_row, od_word_of_row, .func (PySem.W.fnOf "word_of_row" "word_of_row" (defArgs s_word_of_row) (defBody s_word_of_row) (defScope s_word_of_row) .none kV_word_of_row dc_word_of_row pm_word_of_row an_word_of_row cd_word_of_row ct_word_of_row), sl_word_of_row⟩) (c_word_of_row : PySem.W.codeIn K cd_word_of_row "word_of_row" = true) (k_word_of_row : PySem.W.keepIn K (.ref f_word_of_row_) = true)
    {f_later_row_ : Addr} {od_later_row an_later_row : Option Addr} {sl_later_row : Array (Option Value)} {oc_later_row kV_later_row dc_later_row pm_later_row cd_later_row ct_later_row : Value}
    (a_later_row : PySem.W.nsIn K mainGlobals "later_row" = some (some (.ref f_later_row_))) (l_later_row : K.lookup f_later_row_ = some ⟨oc_later_row, od_later_row, .func (PySem.W.fnOf "later_row" "later_row" (defArgs s_later_row) (defBody s_later_row) (defScope s_later_row) .none kV_later_row dc_later_row pm_later_row an_later_row cd_later_row ct_later_row), sl_later_row⟩) (c_later_row : PySem.W.codeIn K cd_later_row "later_row" = true) (k_later_row : PySem.W.keepIn K (.ref f_later_row_) = true)
    {f_word_row_ : Addr} {od_word_row an_word_row : Option Addr} {sl_word_row : Array (Option Value)} {oc_word_row kV_word_row dc_word_row pm_word_row cd_word_row ct_word_row : Value}
    (a_word_row : PySem.W.nsIn K mainGlobals "word_row" = some (some (.ref f_word_row_))) (l_word_row : K.lookup f_word_row_ = some ⟨oc_word_row, od_word_row, .func (PySem.W.fnOf "word_row" "word_row" (defArgs s_word_row) (defBody s_word_row) (defScope s_word_row) .none kV_word_row dc_word_row pm_word_row an_word_row cd_word_row ct_word_row), sl_word_row⟩) (c_word_row : PySem.W.codeIn K cd_word_row "word_row" = true) (k_word_row : PySem.W.keepIn K (.ref f_word_row_) = true)
    {f_later_word_ : Addr} {od_later_word an_later_word : Option Addr} {sl_later_word : Array (Option Value)} {oc_later_word kV_later_word dc_later_word pm_later_word cd_later_word ct_later_word : Value}
    (a_later_word : PySem.W.nsIn K mainGlobals "later_word" = some (some (.ref f_later_word_))) (l_later_word : K.lookup f_later_word_ = some ⟨oc_later_word, od_later_word, .func (PySem.W.fnOf "later_word" "later_word" (defArgs s_later_word) (defBody s_later_word) (defScope s_later_word) .none kV_later_word dc_later_word pm_later_word an_later_word cd_later_word ct_later_word), sl_later_word⟩) (c_later_word : PySem.W.codeIn K cd_later_word "later_word" = true) (k_later_word : PySem.W.keepIn K (.ref f_later_word_) = true)
    {f_earlier_word_ : Addr} {od_earlier_word an_earlier_word : Option Addr} {sl_earlier_word : Array (Option Value)} {oc_earlier_word kV_earlier_word dc_earlier_word pm_earlier_word cd_earlier_word ct_earlier_word : Value}
    (a_earlier_word : PySem.W.nsIn K mainGlobals "earlier_word" = some (some (.ref f_earlier_word_))) (l_earlier_word : K.lookup f_earlier_word_ = some ⟨oc_earlier_word, od_earlier_word, .func (PySem.W.fnOf "earlier_word" "earlier_word" (defArgs s_earlier_word) (defBody s_earlier_word) (defScope s_earlier_word) .none kV_earlier_word dc_earlier_word pm_earlier_word an_earlier_word cd_earlier_word ct_earlier_word), sl_earlier_word⟩) (c_earlier_word : PySem.W.codeIn K cd_earlier_word "earlier_word" = true) (k_earlier_word : PySem.W.keepIn K (.ref f_earlier_word_) = true)
    {f_exchange_distance_ : Addr} {od_exchange_distance an_exchange_distance : Option Addr} {sl_exchange_distance : Array (Option Value)} {oc_exchange_distance kV_exchange_distance dc_exchange_distance pm_exchange_distance cd_exchange_distance ct_exchange_distance : Value}
    (a_exchange_distance : PySem.W.nsIn K mainGlobals "exchange_distance" = some (some (.ref f_exchange_distance_))) (l_exchange_distance : K.lookup f_exchange_distance_ = some ⟨oc_exchange_distance, od_exchange_distance, .func (PySem.W.fnOf "exchange_distance" "exchange_distance" (defArgs s_exchange_distance) (defBody s_exchange_distance) (defScope s_exchange_distance) .none kV_exchange_distance dc_exchange_distance pm_exchange_distance an_exchange_distance cd_exchange_distance ct_exchange_distance), sl_exchange_distance⟩) (c_exchange_distance : PySem.W.codeIn K cd_exchange_distance "exchange_distance" = true) (k_exchange_distance : PySem.W.keepIn K (.ref f_exchange_distance_) = true)
    {f__law_distance_ : Addr} {od__law_distance an__law_distance : Option Addr} {sl__law_distance : Array (Option Value)} {oc__law_distance kV__law_distance dc__law_distance pm__law_distance cd__law_distance ct__law_distance : Value}
    (a__law_distance : PySem.W.nsIn K mainGlobals "_law_distance" = some (some (.ref f__law_distance_))) (l__law_distance : K.lookup f__law_distance_ = some ⟨oc__law_distance, od__law_distance, .func (PySem.W.fnOf "_law_distance" "_law_distance" (defArgs s__law_distance) (defBody s__law_distance) (defScope s__law_distance) .none kV__law_distance dc__law_distance pm__law_distance an__law_distance cd__law_distance ct__law_distance), sl__law_distance⟩) (c__law_distance : PySem.W.codeIn K cd__law_distance "_law_distance" = true) (k__law_distance : PySem.W.keepIn K (.ref f__law_distance_) = true)
    {f__law_words_right_ : Addr} {od__law_words_right an__law_words_right : Option Addr} {sl__law_words_right : Array (Option Value)} {oc__law_words_right kV__law_words_right dc__law_words_right pm__law_words_right cd__law_words_right ct__law_words_right : Value}
    (a__law_words_right : PySem.W.nsIn K mainGlobals "_law_words_right" = some (some (.ref f__law_words_right_))) (l__law_words_right : K.lookup f__law_words_right_ = some ⟨oc__law_words_right, od__law_words_right, .func (PySem.W.fnOf "_law_words_right" "_law_words_right" (defArgs s__law_words_right) (defBody s__law_words_right) (defScope s__law_words_right) .none kV__law_words_right dc__law_words_right pm__law_words_right an__law_words_right cd__law_words_right ct__law_words_right), sl__law_words_right⟩) (c__law_words_right : PySem.W.codeIn K cd__law_words_right "_law_words_right" = true) (k__law_words_right : PySem.W.keepIn K (.ref f__law_words_right_) = true)
    {f_lowered_rows_ : Addr} {od_lowered_rows an_lowered_rows : Option Addr} {sl_lowered_rows : Array (Option Value)} {oc_lowered_rows kV_lowered_rows dc_lowered_rows pm_lowered_rows cd_lowered_rows ct_lowered_rows : Value}
    (a_lowered_rows : PySem.W.nsIn K mainGlobals "lowered_rows" = some (some (.ref f_lowered_rows_))) (l_lowered_rows : K.lookup f_lowered_rows_ = some ⟨oc_lowered_rows, od_lowered_rows, .func (PySem.W.fnOf "lowered_rows" "lowered_rows" (defArgs s_lowered_rows) (defBody s_lowered_rows) (defScope s_lowered_rows) .none kV_lowered_rows dc_lowered_rows pm_lowered_rows an_lowered_rows cd_lowered_rows ct_lowered_rows), sl_lowered_rows⟩) (c_lowered_rows : PySem.W.codeIn K cd_lowered_rows "lowered_rows" = true) (k_lowered_rows : PySem.W.keepIn K (.ref f_lowered_rows_) = true)
    {f_exchange_path_ : Addr} {od_exchange_path an_exchange_path : Option Addr} {sl_exchange_path : Array (Option Value)} {oc_exchange_path kV_exchange_path dc_exchange_path pm_exchange_path cd_exchange_path ct_exchange_path : Value}
    (a_exchange_path : PySem.W.nsIn K mainGlobals "exchange_path" = some (some (.ref f_exchange_path_))) (l_exchange_path : K.lookup f_exchange_path_ = some ⟨oc_exchange_path, od_exchange_path, .func (PySem.W.fnOf "exchange_path" "exchange_path" (defArgs s_exchange_path) (defBody s_exchange_path) (defScope s_exchange_path) .none kV_exchange_path dc_exchange_path pm_exchange_path an_exchange_path cd_exchange_path ct_exchange_path), sl_exchange_path⟩) (c_exchange_path : PySem.W.codeIn K cd_exchange_path "exchange_path" = true) (k_exchange_path : PySem.W.keepIn K (.ref f_exchange_path_) = true)
    {f__law_odd_ : Addr} {od__law_odd an__law_odd : Option Addr} {sl__law_odd : Array (Option Value)} {oc__law_odd kV__law_odd dc__law_odd pm__law_odd cd__law_odd ct__law_odd : Value}
    (a__law_odd : PySem.W.nsIn K mainGlobals "_law_odd" = some (some (.ref f__law_odd_))) (l__law_odd : K.lookup f__law_odd_ = some ⟨oc__law_odd, od__law_odd, .func (PySem.W.fnOf "_law_odd" "_law_odd" (defArgs s__law_odd) (defBody s__law_odd) (defScope s__law_odd) .none kV__law_odd dc__law_odd pm__law_odd an__law_odd cd__law_odd ct__law_odd), sl__law_odd⟩) (c__law_odd : PySem.W.codeIn K cd__law_odd "_law_odd" = true) (k__law_odd : PySem.W.keepIn K (.ref f__law_odd_) = true)
    {f__law_values_ : Addr} {od__law_values an__law_values : Option Addr} {sl__law_values : Array (Option Value)} {oc__law_values kV__law_values dc__law_values pm__law_values cd__law_values ct__law_values : Value}
    (a__law_values : PySem.W.nsIn K mainGlobals "_law_values" = some (some (.ref f__law_values_))) (l__law_values : K.lookup f__law_values_ = some ⟨oc__law_values, od__law_values, .func (PySem.W.fnOf "_law_values" "_law_values" (defArgs s__law_values) (defBody s__law_values) (defScope s__law_values) .none kV__law_values dc__law_values pm__law_values an__law_values cd__law_values ct__law_values), sl__law_values⟩) (c__law_values : PySem.W.codeIn K cd__law_values "_law_values" = true) (k__law_values : PySem.W.keepIn K (.ref f__law_values_) = true)
    {f_word_error_ : Addr} {od_word_error an_word_error : Option Addr} {sl_word_error : Array (Option Value)} {oc_word_error kV_word_error dc_word_error pm_word_error cd_word_error ct_word_error : Value}
    (a_word_error : PySem.W.nsIn K mainGlobals "word_error" = some (some (.ref f_word_error_))) (l_word_error : K.lookup f_word_error_ = some ⟨oc_word_error, od_word_error, .func (PySem.W.fnOf "word_error" "word_error" (defArgs s_word_error) (defBody s_word_error) (defScope s_word_error) .none kV_word_error dc_word_error pm_word_error an_word_error cd_word_error ct_word_error), sl_word_error⟩) (c_word_error : PySem.W.codeIn K cd_word_error "word_error" = true) (k_word_error : PySem.W.keepIn K (.ref f_word_error_) = true)
    {f_is_word_ : Addr} {od_is_word an_is_word : Option Addr} {sl_is_word : Array (Option Value)} {oc_is_word kV_is_word dc_is_word pm_is_word cd_is_word ct_is_word : Value}
    (a_is_word : PySem.W.nsIn K mainGlobals "is_word" = some (some (.ref f_is_word_))) (l_is_word : K.lookup f_is_word_ = some ⟨oc_is_word, od_is_word, .func (PySem.W.fnOf "is_word" "is_word" (defArgs s_is_word) (defBody s_is_word) (defScope s_is_word) .none kV_is_word dc_is_word pm_is_word an_is_word cd_is_word ct_is_word), sl_is_word⟩) (c_is_word : PySem.W.codeIn K cd_is_word "is_word" = true) (k_is_word : PySem.W.keepIn K (.ref f_is_word_) = true)
    {f_is_exchange_path_ : Addr} {od_is_exchange_path an_is_exchange_path : Option Addr} {sl_is_exchange_path : Array (Option Value)} {oc_is_exchange_path kV_is_exchange_path dc_is_exchange_path pm_is_exchange_path cd_is_exchange_path ct_is_exchange_path : Value}
    (a_is_exchange_path : PySem.W.nsIn K mainGlobals "is_exchange_path" = some (some (.ref f_is_exchange_path_))) (l_is_exchange_path : K.lookup f_is_exchange_path_ = some ⟨oc_is_exchange_path, od_is_exchange_path, .func (PySem.W.fnOf "is_exchange_path" "is_exchange_path" (defArgs s_is_exchange_path) (defBody s_is_exchange_path) (defScope s_is_exchange_path) .none kV_is_exchange_path dc_is_exchange_path pm_is_exchange_path an_is_exchange_path cd_is_exchange_path ct_is_exchange_path), sl_is_exchange_path⟩) (c_is_exchange_path : PySem.W.codeIn K cd_is_exchange_path "is_exchange_path" = true) (k_is_exchange_path : PySem.W.keepIn K (.ref f_is_exchange_path_) = true)
    {f__law_is_word_ : Addr} {od__law_is_word an__law_is_word : Option Addr} {sl__law_is_word : Array (Option Value)} {oc__law_is_word kV__law_is_word dc__law_is_word pm__law_is_word cd__law_is_word ct__law_is_word : Value}
    (a__law_is_word : PySem.W.nsIn K mainGlobals "_law_is_word" = some (some (.ref f__law_is_word_))) (l__law_is_word : K.lookup f__law_is_word_ = some ⟨oc__law_is_word, od__law_is_word, .func (PySem.W.fnOf "_law_is_word" "_law_is_word" (defArgs s__law_is_word) (defBody s__law_is_word) (defScope s__law_is_word) .none kV__law_is_word dc__law_is_word pm__law_is_word an__law_is_word cd__law_is_word ct__law_is_word), sl__law_is_word⟩) (c__law_is_word : PySem.W.codeIn K cd__law_is_word "_law_is_word" = true) (k__law_is_word : PySem.W.keepIn K (.ref f__law_is_word_) = true)
    {f__law_is_step_ : Addr} {od__law_is_step an__law_is_step : Option Addr} {sl__law_is_step : Array (Option Value)} {oc__law_is_step kV__law_is_step dc__law_is_step pm__law_is_step cd__law_is_step ct__law_is_step : Value}
    (a__law_is_step : PySem.W.nsIn K mainGlobals "_law_is_step" = some (some (.ref f__law_is_step_))) (l__law_is_step : K.lookup f__law_is_step_ = some ⟨oc__law_is_step, od__law_is_step, .func (PySem.W.fnOf "_law_is_step" "_law_is_step" (defArgs s__law_is_step) (defBody s__law_is_step) (defScope s__law_is_step) .none kV__law_is_step dc__law_is_step pm__law_is_step an__law_is_step cd__law_is_step ct__law_is_step), sl__law_is_step⟩) (c__law_is_step : PySem.W.codeIn K cd__law_is_step "_law_is_step" = true) (k__law_is_step : PySem.W.keepIn K (.ref f__law_is_step_) = true)
    {f__law_is_path_ : Addr} {od__law_is_path an__law_is_path : Option Addr} {sl__law_is_path : Array (Option Value)} {oc__law_is_path kV__law_is_path dc__law_is_path pm__law_is_path cd__law_is_path ct__law_is_path : Value}
    (a__law_is_path : PySem.W.nsIn K mainGlobals "_law_is_path" = some (some (.ref f__law_is_path_))) (l__law_is_path : K.lookup f__law_is_path_ = some ⟨oc__law_is_path, od__law_is_path, .func (PySem.W.fnOf "_law_is_path" "_law_is_path" (defArgs s__law_is_path) (defBody s__law_is_path) (defScope s__law_is_path) .none kV__law_is_path dc__law_is_path pm__law_is_path an__law_is_path cd__law_is_path ct__law_is_path), sl__law_is_path⟩) (c__law_is_path : PySem.W.codeIn K cd__law_is_path "_law_is_path" = true) (k__law_is_path : PySem.W.keepIn K (.ref f__law_is_path_) = true)
    {f__law_right_ : Addr} {od__law_right an__law_right : Option Addr} {sl__law_right : Array (Option Value)} {oc__law_right kV__law_right dc__law_right pm__law_right cd__law_right ct__law_right : Value}
    (a__law_right : PySem.W.nsIn K mainGlobals "_law_right" = some (some (.ref f__law_right_))) (l__law_right : K.lookup f__law_right_ = some ⟨oc__law_right, od__law_right, .func (PySem.W.fnOf "_law_right" "_law_right" (defArgs s__law_right) (defBody s__law_right) (defScope s__law_right) .none kV__law_right dc__law_right pm__law_right an__law_right cd__law_right ct__law_right), sl__law_right⟩) (c__law_right : PySem.W.codeIn K cd__law_right "_law_right" = true) (k__law_right : PySem.W.keepIn K (.ref f__law_right_) = true)
    {f_law_ : Addr} {od_law an_law : Option Addr} {sl_law : Array (Option Value)} {oc_law kV_law dc_law pm_law cd_law ct_law : Value}
    (a_law : PySem.W.nsIn K mainGlobals "law" = some (some (.ref f_law_))) (l_law : K.lookup f_law_ = some ⟨oc_law, od_law, .func (PySem.W.fnOf "law" "law" (defArgs s_law) (defBody s_law) (defScope s_law) .none kV_law dc_law pm_law an_law cd_law ct_law), sl_law⟩) (c_law : PySem.W.codeIn K cd_law "law" = true) (k_law : PySem.W.keepIn K (.ref f_law_) = true)
    (z_abs : PySem.W.nsIn K mainGlobals "abs" = some none)
    (z_range : PySem.W.nsIn K mainGlobals "range" = some none)
    (z_len : PySem.W.nsIn K mainGlobals "len" = some none)
    (z_int : PySem.W.nsIn K mainGlobals "int" = some none)
    (z_tuple : PySem.W.nsIn K mainGlobals "tuple" = some none)
    (z_zip : PySem.W.nsIn K mainGlobals "zip" = some none)
    (z_min : PySem.W.nsIn K mainGlobals "min" = some none)
    (z_max : PySem.W.nsIn K mainGlobals "max" = some none)
    (z_sum : PySem.W.nsIn K mainGlobals "sum" = some none)
    (z_repr : PySem.W.nsIn K mainGlobals "repr" = some none)
    (z_enumerate : PySem.W.nsIn K mainGlobals "enumerate" = some none)
    (z_list : PySem.W.nsIn K mainGlobals "list" = some none)
    (z_str : PySem.W.nsIn K mainGlobals "str" = some none)
    (z_isinstance : PySem.W.nsIn K mainGlobals "isinstance" = some none)
    (z_all : PySem.W.nsIn K mainGlobals "all" = some none)
    (z_bool : PySem.W.nsIn K mainGlobals "bool" = some none)
    {t_INSERT : Tok} (z_INSERT : PySem.W.nsIn K mainGlobals "INSERT" = some (some (.str "I" t_INSERT)))
    {t_REMOVE : Tok} (z_REMOVE : PySem.W.nsIn K mainGlobals "REMOVE" = some (some (.str "R" t_REMOVE)))
    {t_MAX_LENGTH : Tok} (z_MAX_LENGTH : PySem.W.nsIn K mainGlobals "MAX_LENGTH" = some (some (.int 24 t_MAX_LENGTH)))
    : ∃ fd : FuncData, (∀ (s : Shared) (v : Value), BindsTo s fd ⟨[v], []⟩ [("_law_script", v)]) ∧ ∀ base : Heap, K.In base → base.Ns mainGlobals mg → (∃ mm, base.Ns sysModules mm) → FnG l.prog w K mg base CX0 5 fa fd ["_law_script"] (spF K mg 1 f_law) := by
  cases hfa.symm.trans (PySem.W.mg_of X Y a_law)
  have D__law_stream : DefAt K mg "_law_stream" s__law_stream ["_law_script"] f__law_stream_ _ := ⟨fun_mk l__law_stream c__law_stream k__law_stream, PySem.W.mg_of X Y a__law_stream, (fun_mk (st := s__law_stream) l__law_stream c__law_stream k__law_stream).binds fun _ _ _ _ _ _ us hl => match us, hl with | [_], _ => rfl⟩
  have D__law_all_words : DefAt K mg "_law_all_words" s__law_all_words ["_law_count"] f__law_all_words_ _ := ⟨fun_mk l__law_all_words c__law_all_words k__law_all_words, PySem.W.mg_of X Y a__law_all_words, (fun_mk (st := s__law_all_words) l__law_all_words c__law_all_words k__law_all_words).binds fun _ _ _ _ _ _ us hl => match us, hl with | [_], _ => rfl⟩
  have D__law_pick : DefAt K mg "_law_pick" s__law_pick ["_law_stream_here", "_law_bound"] f__law_pick_ _ := ⟨fun_mk l__law_pick c__law_pick k__law_pick, PySem.W.mg_of X Y a__law_pick, (fun_mk (st := s__law_pick) l__law_pick c__law_pick k__law_pick).binds fun _ _ _ _ _ _ us hl => match us, hl with | [_, _], _ => rfl⟩
  have D__law_drawn_word : DefAt K mg "_law_drawn_word" s__law_drawn_word ["_law_stream_here", "_law_count"] f__law_drawn_word_ _ := ⟨fun_mk l__law_drawn_word c__law_drawn_word k__law_drawn_word, PySem.W.mg_of X Y a__law_drawn_word, (fun_mk (st := s__law_drawn_word) l__law_drawn_word c__law_drawn_word k__law_drawn_word).binds fun _ _ _ _ _ _ us hl => match us, hl with | [_, _], _ => rfl⟩
  have D__law_word_of : DefAt K mg "_law_word_of" s__law_word_of ["_law_row_here"] f__law_word_of_ _ := ⟨fun_mk l__law_word_of c__law_word_of k__law_word_of, PySem.W.mg_of X Y a__law_word_of, (fun_mk (st := s__law_word_of) l__law_word_of c__law_word_of k__law_word_of).binds fun _ _ _ _ _ _ us hl => match us, hl with | [_], _ => rfl⟩
  have D__law_row : DefAt K mg "_law_row" s__law_row ["_law_word"] f__law_row_ _ := ⟨fun_mk l__law_row c__law_row k__law_row, PySem.W.mg_of X Y a__law_row, (fun_mk (st := s__law_row) l__law_row c__law_row k__law_row).binds fun _ _ _ _ _ _ us hl => match us, hl with | [_], _ => rfl⟩
  have D_word_of_row : DefAt K mg "word_of_row" s_word_of_row ["row"] f_word_of_row_ _ := ⟨fun_mk l_word_of_row c_word_of_row k_word_of_row, PySem.W.mg_of X Y a_word_of_row, (fun_mk (st := s_word_of_row) l_word_of_row c_word_of_row k_word_of_row).binds fun _ _ _ _ _ _ us hl => match us, hl with | [_], _ => rfl⟩
  have D_later_row : DefAt K mg "later_row" s_later_row ["first", "second"] f_later_row_ _ := ⟨fun_mk l_later_row c_later_row k_later_row, PySem.W.mg_of X Y a_later_row, (fun_mk (st := s_later_row) l_later_row c_later_row k_later_row).binds fun _ _ _ _ _ _ us hl => match us, hl with | [_, _], _ => rfl⟩
  have D_word_row : DefAt K mg "word_row" s_word_row ["word"] f_word_row_ _ := ⟨fun_mk l_word_row c_word_row k_word_row, PySem.W.mg_of X Y a_word_row, (fun_mk (st := s_word_row) l_word_row c_word_row k_word_row).binds fun _ _ _ _ _ _ us hl => match us, hl with | [_], _ => rfl⟩
  have D_later_word : DefAt K mg "later_word" s_later_word ["first", "second"] f_later_word_ _ := ⟨fun_mk l_later_word c_later_word k_later_word, PySem.W.mg_of X Y a_later_word, (fun_mk (st := s_later_word) l_later_word c_later_word k_later_word).binds fun _ _ _ _ _ _ us hl => match us, hl with | [_, _], _ => rfl⟩
  have D_earlier_word : DefAt K mg "earlier_word" s_earlier_word ["first", "second"] f_earlier_word_ _ := ⟨fun_mk l_earlier_word c_earlier_word k_earlier_word, PySem.W.mg_of X Y a_earlier_word, (fun_mk (st := s_earlier_word) l_earlier_word c_earlier_word k_earlier_word).binds fun _ _ _ _ _ _ us hl => match us, hl with | [_, _], _ => rfl⟩
  have D_exchange_distance : DefAt K mg "exchange_distance" s_exchange_distance ["first", "second"] f_exchange_distance_ _ := ⟨fun_mk l_exchange_distance c_exchange_distance k_exchange_distance, PySem.W.mg_of X Y a_exchange_distance, (fun_mk (st := s_exchange_distance) l_exchange_distance c_exchange_distance k_exchange_distance).binds fun _ _ _ _ _ _ us hl => match us, hl with | [_, _], _ => rfl⟩
  have D__law_distance : DefAt K mg "_law_distance" s__law_distance ["_law_first", "_law_second"] f__law_distance_ _ := ⟨fun_mk l__law_distance c__law_distance k__law_distance, PySem.W.mg_of X Y a__law_distance, (fun_mk (st := s__law_distance) l__law_distance c__law_distance k__law_distance).binds fun _ _ _ _ _ _ us hl => match us, hl with | [_, _], _ => rfl⟩
  have D__law_words_right : DefAt K mg "_law_words_right" s__law_words_right ["_law_first", "_law_second"] f__law_words_right_ _ := ⟨fun_mk l__law_words_right c__law_words_right k__law_words_right, PySem.W.mg_of X Y a__law_words_right, (fun_mk (st := s__law_words_right) l__law_words_right c__law_words_right k__law_words_right).binds fun _ _ _ _ _ _ us hl => match us, hl with | [_, _], _ => rfl⟩
  have D_lowered_rows : DefAt K mg "lowered_rows" s_lowered_rows ["row", "target"] f_lowered_rows_ _ := ⟨fun_mk l_lowered_rows c_lowered_rows k_lowered_rows, PySem.W.mg_of X Y a_lowered_rows, (fun_mk (st := s_lowered_rows) l_lowered_rows c_lowered_rows k_lowered_rows).binds fun _ _ _ _ _ _ us hl => match us, hl with | [_, _], _ => rfl⟩
  have D_exchange_path : DefAt K mg "exchange_path" s_exchange_path ["first", "second"] f_exchange_path_ _ := ⟨fun_mk l_exchange_path c_exchange_path k_exchange_path, PySem.W.mg_of X Y a_exchange_path, (fun_mk (st := s_exchange_path) l_exchange_path c_exchange_path k_exchange_path).binds fun _ _ _ _ _ _ us hl => match us, hl with | [_, _], _ => rfl⟩
  have D__law_odd : DefAt K mg "_law_odd" s__law_odd ["_law_stream_here"] f__law_odd_ _ := ⟨fun_mk l__law_odd c__law_odd k__law_odd, PySem.W.mg_of X Y a__law_odd, (fun_mk (st := s__law_odd) l__law_odd c__law_odd k__law_odd).binds fun _ _ _ _ _ _ us hl => match us, hl with | [_], _ => rfl⟩
  have D__law_values : DefAt K mg "_law_values" s__law_values ["_law_stream_here", "_law_path"] f__law_values_ _ := ⟨fun_mk l__law_values c__law_values k__law_values, PySem.W.mg_of X Y a__law_values, (fun_mk (st := s__law_values) l__law_values c__law_values k__law_values).binds fun _ _ _ _ _ _ us hl => match us, hl with | [_, _], _ => rfl⟩
  have D_word_error : DefAt K mg "word_error" s_word_error ["value"] f_word_error_ _ := ⟨fun_mk l_word_error c_word_error k_word_error, PySem.W.mg_of X Y a_word_error, (fun_mk (st := s_word_error) l_word_error c_word_error k_word_error).binds fun _ _ _ _ _ _ us hl => match us, hl with | [_], _ => rfl⟩
  have D_is_word : DefAt K mg "is_word" s_is_word ["value"] f_is_word_ _ := ⟨fun_mk l_is_word c_is_word k_is_word, PySem.W.mg_of X Y a_is_word, (fun_mk (st := s_is_word) l_is_word c_is_word k_is_word).binds fun _ _ _ _ _ _ us hl => match us, hl with | [_], _ => rfl⟩
  have D_is_exchange_path : DefAt K mg "is_exchange_path" s_is_exchange_path ["first", "second", "value"] f_is_exchange_path_ _ := ⟨fun_mk l_is_exchange_path c_is_exchange_path k_is_exchange_path, PySem.W.mg_of X Y a_is_exchange_path, (fun_mk (st := s_is_exchange_path) l_is_exchange_path c_is_exchange_path k_is_exchange_path).binds fun _ _ _ _ _ _ us hl => match us, hl with | [_, _, _], _ => rfl⟩
  have D__law_is_word : DefAt K mg "_law_is_word" s__law_is_word ["_law_value", "_law_length"] f__law_is_word_ _ := ⟨fun_mk l__law_is_word c__law_is_word k__law_is_word, PySem.W.mg_of X Y a__law_is_word, (fun_mk (st := s__law_is_word) l__law_is_word c__law_is_word k__law_is_word).binds fun _ _ _ _ _ _ us hl => match us, hl with | [_, _], _ => rfl⟩
  have D__law_is_step : DefAt K mg "_law_is_step" s__law_is_step ["_law_one", "_law_other"] f__law_is_step_ _ := ⟨fun_mk l__law_is_step c__law_is_step k__law_is_step, PySem.W.mg_of X Y a__law_is_step, (fun_mk (st := s__law_is_step) l__law_is_step c__law_is_step k__law_is_step).binds fun _ _ _ _ _ _ us hl => match us, hl with | [_, _], _ => rfl⟩
  have D__law_is_path : DefAt K mg "_law_is_path" s__law_is_path ["_law_first", "_law_second", "_law_value"] f__law_is_path_ _ := ⟨fun_mk l__law_is_path c__law_is_path k__law_is_path, PySem.W.mg_of X Y a__law_is_path, (fun_mk (st := s__law_is_path) l__law_is_path c__law_is_path k__law_is_path).binds fun _ _ _ _ _ _ us hl => match us, hl with | [_, _, _], _ => rfl⟩
  have D__law_right : DefAt K mg "_law_right" s__law_right ["_law_stream_here", "_law_first", "_law_second"] f__law_right_ _ := ⟨fun_mk l__law_right c__law_right k__law_right, PySem.W.mg_of X Y a__law_right, (fun_mk (st := s__law_right) l__law_right c__law_right k__law_right).binds fun _ _ _ _ _ _ us hl => match us, hl with | [_, _, _], _ => rfl⟩
  have D_law : DefAt K mg "law" s_law ["_law_script"] fa _ := ⟨fun_mk l_law c_law k_law, PySem.W.mg_of X Y a_law, (fun_mk (st := s_law) l_law c_law k_law).binds fun _ _ _ _ _ _ us hl => match us, hl with | [_], _ => rfl⟩
  have b_abs := PySem.W.mg_none_of X Y z_abs
  have b_range := PySem.W.mg_none_of X Y z_range
  have b_len := PySem.W.mg_none_of X Y z_len
  have b_int := PySem.W.mg_none_of X Y z_int
  have b_tuple := PySem.W.mg_none_of X Y z_tuple
  have b_zip := PySem.W.mg_none_of X Y z_zip
  have b_min := PySem.W.mg_none_of X Y z_min
  have b_max := PySem.W.mg_none_of X Y z_max
  have b_sum := PySem.W.mg_none_of X Y z_sum
  have b_repr := PySem.W.mg_none_of X Y z_repr
  have b_enumerate := PySem.W.mg_none_of X Y z_enumerate
  have b_list := PySem.W.mg_none_of X Y z_list
  have b_str := PySem.W.mg_none_of X Y z_str
  have b_isinstance := PySem.W.mg_none_of X Y z_isinstance
  have b_all := PySem.W.mg_none_of X Y z_all
  have b_bool := PySem.W.mg_none_of X Y z_bool
  have c_INSERT := PySem.W.mg_of X Y z_INSERT
  have c_REMOVE := PySem.W.mg_of X Y z_REMOVE
  have c_MAX_LENGTH := PySem.W.mg_of X Y z_MAX_LENGTH
  refine ⟨?fd, ?b, fun base _ _ hB => ?g⟩
  case g =>
    have G__law_stream := ok__law_stream (P := l.prog) (w := w) (base := base) hB D__law_stream b_abs
    have G__law_all_words := ok__law_all_words (P := l.prog) (w := w) (base := base) hB D__law_all_words b_range
    have G__law_pick := ok__law_pick (P := l.prog) (w := w) (base := base) hB D__law_pick b_len b_int
    have G__law_drawn_word := ok__law_drawn_word (P := l.prog) (w := w) (base := base) hB D__law_drawn_word D__law_pick G__law_pick b_range
    have G__law_word_of := ok__law_word_of (P := l.prog) (w := w) (base := base) hB D__law_word_of 
    have G__law_row := ok__law_row (P := l.prog) (w := w) (base := base) hB D__law_row b_range b_len b_tuple
    have G_word_of_row := ok_word_of_row (P := l.prog) (w := w) (base := base) hB D_word_of_row c_INSERT c_REMOVE
    have G_later_row := ok_later_row (P := l.prog) (w := w) (base := base) hB D_later_row b_zip b_min b_tuple
    have G_word_row := ok_word_row (P := l.prog) (w := w) (base := base) hB D_word_row b_tuple c_INSERT
    have G_later_word := ok_later_word (P := l.prog) (w := w) (base := base) hB D_later_word D_word_row G_word_row D_later_row G_later_row D_word_of_row G_word_of_row
    have G_earlier_word := ok_earlier_word (P := l.prog) (w := w) (base := base) hB D_earlier_word D_word_row G_word_row D_word_of_row G_word_of_row b_zip b_max
    have G_exchange_distance := ok_exchange_distance (P := l.prog) (w := w) (base := base) hB D_exchange_distance D_word_row G_word_row b_zip b_abs b_sum
    have G__law_distance := ok__law_distance (P := l.prog) (w := w) (base := base) hB D__law_distance D__law_row G__law_row b_zip b_abs b_sum
    have G__law_words_right := ok__law_words_right (P := l.prog) (w := w) (base := base) hB D__law_words_right D__law_row G__law_row D__law_word_of G__law_word_of D_later_word G_later_word D_earlier_word G_earlier_word D_exchange_distance G_exchange_distance D__law_distance G__law_distance b_zip b_min b_max b_repr
    have G_lowered_rows := ok_lowered_rows (P := l.prog) (w := w) (base := base) hB D_lowered_rows b_enumerate b_range
    have G_exchange_path := ok_exchange_path (P := l.prog) (w := w) (base := base) hB D_exchange_path D_word_row G_word_row D_later_row G_later_row D_lowered_rows G_lowered_rows D_word_of_row G_word_of_row b_tuple
    have G__law_odd := ok__law_odd (P := l.prog) (w := w) (base := base) hB D__law_odd D__law_pick G__law_pick
    have G__law_values := ok__law_values (P := l.prog) (w := w) (base := base) hB D__law_values D__law_pick G__law_pick D__law_drawn_word G__law_drawn_word D__law_odd G__law_odd b_len b_list
    have G_word_error := ok_word_error (P := l.prog) (w := w) (base := base) hB D_word_error b_str b_isinstance b_len b_enumerate c_MAX_LENGTH c_INSERT c_REMOVE
    have G_is_word := ok_is_word (P := l.prog) (w := w) (base := base) hB D_is_word D_word_error G_word_error
    have G_is_exchange_path := ok_is_exchange_path (P := l.prog) (w := w) (base := base) hB D_is_exchange_path D_exchange_distance G_exchange_distance D_is_word G_is_word b_tuple b_isinstance b_len b_all b_zip
    have G__law_is_word := ok__law_is_word (P := l.prog) (w := w) (base := base) hB D__law_is_word b_str b_isinstance b_len b_int
    have G__law_is_step := ok__law_is_step (P := l.prog) (w := w) (base := base) hB D__law_is_step b_range b_len
    have G__law_is_path := ok__law_is_path (P := l.prog) (w := w) (base := base) hB D__law_is_path D__law_distance G__law_distance D__law_is_word G__law_is_word D__law_is_step G__law_is_step b_tuple b_isinstance b_len b_range
    have G__law_right := ok__law_right (P := l.prog) (w := w) (base := base) hB D__law_right D_exchange_path G_exchange_path D__law_is_path G__law_is_path D__law_values G__law_values D_is_exchange_path G_is_exchange_path b_repr b_bool b_isinstance
    have G_law := ok_law (P := l.prog) (w := w) (base := base) hB D_law D__law_stream G__law_stream D__law_pick G__law_pick D__law_all_words G__law_all_words D__law_words_right G__law_words_right D_exchange_path G_exchange_path D__law_is_path G__law_is_path D__law_drawn_word G__law_drawn_word D__law_right G__law_right b_range
    exact G_law
  case b => exact fun s v => .of_eq rfl
end G.L_heappairs_k28_exchanges_of_words
open PySem PySem.W PyProof.Rows
set_option maxHeartbeats 0 in
theorem PySem.Challenge.cw_heappairs_k28_exchanges_of_words_holds : PySem.Challenge.rw_heappairs_k28_exchanges_of_words.Holds := by
  w_on; o_law; k_head; (case hw => w_witness2)
  k_fill
  refine G.walk_g (l := PySem.Challenge.rw_heappairs_k28_exchanges_of_words) (n := 63) (k := 5) (x := "_law_script") (CX := fun _ => L2.CX0) (g := G.L_heappairs_k28_exchanges_of_words.f_law) rfl (by decide) rfl (by first | rfl | decide | decide +kernel) ⟨rfl, by decide, by decide⟩ (fun w h Y => PySem.W.kIn_of Y) ?F G.L_heappairs_k28_exchanges_of_words.law_true (fun _ _ _ _ _ h => h)
  case F =>
    intro w mg fa h KX Y hmg
    refine' G.L_heappairs_k28_exchanges_of_words.all_mk KX Y hmg ?a__law_stream ?l__law_stream ?c__law_stream ?k__law_stream ?a__law_all_words ?l__law_all_words ?c__law_all_words ?k__law_all_words ?a__law_pick ?l__law_pick ?c__law_pick ?k__law_pick ?a__law_drawn_word ?l__law_drawn_word ?c__law_drawn_word ?k__law_drawn_word ?a__law_word_of ?l__law_word_of ?c__law_word_of ?k__law_word_of ?a__law_row ?l__law_row ?c__law_row ?k__law_row ?a_word_of_row ?l_word_of_row ?c_word_of_row ?k_word_of_row ?a_later_row ?l_later_row ?c_later_row ?k_later_row ?a_word_row ?l_word_row ?c_word_row ?k_word_row ?a_later_word ?l_later_word ?c_later_word ?k_later_word ?a_earlier_word ?l_earlier_word ?c_earlier_word ?k_earlier_word ?a_exchange_distance ?l_exchange_distance ?c_exchange_distance ?k_exchange_distance ?a__law_distance ?l__law_distance ?c__law_distance ?k__law_distance ?a__law_words_right ?l__law_words_right ?c__law_words_right ?k__law_words_right ?a_lowered_rows ?l_lowered_rows ?c_lowered_rows ?k_lowered_rows ?a_exchange_path ?l_exchange_path ?c_exchange_path ?k_exchange_path ?a__law_odd ?l__law_odd ?c__law_odd ?k__law_odd ?a__law_values ?l__law_values ?c__law_values ?k__law_values ?a_word_error ?l_word_error ?c_word_error ?k_word_error ?a_is_word ?l_is_word ?c_is_word ?k_is_word ?a_is_exchange_path ?l_is_exchange_path ?c_is_exchange_path ?k_is_exchange_path ?a__law_is_word ?l__law_is_word ?c__law_is_word ?k__law_is_word ?a__law_is_step ?l__law_is_step ?c__law_is_step ?k__law_is_step ?a__law_is_path ?l__law_is_path ?c__law_is_path ?k__law_is_path ?a__law_right ?l__law_right ?c__law_right ?k__law_right ?a_law ?l_law ?c_law ?k_law ?z_abs ?z_range ?z_len ?z_int ?z_tuple ?z_zip ?z_min ?z_max ?z_sum ?z_repr ?z_enumerate ?z_list ?z_str ?z_isinstance ?z_all ?z_bool ?z_INSERT ?z_REMOVE ?z_MAX_LENGTH
    (case a__law_stream => k_is); (case l__law_stream => k_is); (case c__law_stream => k_is); (case k__law_stream => k_is); (case a__law_all_words => k_is); (case l__law_all_words => k_is); (case c__law_all_words => k_is); (case k__law_all_words => k_is); (case a__law_pick => k_is); (case l__law_pick => k_is); (case c__law_pick => k_is); (case k__law_pick => k_is); (case a__law_drawn_word => k_is); (case l__law_drawn_word => k_is); (case c__law_drawn_word => k_is); (case k__law_drawn_word => k_is); (case a__law_word_of => k_is); (case l__law_word_of => k_is); (case c__law_word_of => k_is); (case k__law_word_of => k_is); (case a__law_row => k_is); (case l__law_row => k_is); (case c__law_row => k_is); (case k__law_row => k_is); (case a_word_of_row => k_is); (case l_word_of_row => k_is); (case c_word_of_row => k_is); (case k_word_of_row => k_is); (case a_later_row => k_is); (case l_later_row => k_is); (case c_later_row => k_is); (case k_later_row => k_is); (case a_word_row => k_is); (case l_word_row => k_is); (case c_word_row => k_is); (case k_word_row => k_is); (case a_later_word => k_is); (case l_later_word => k_is); (case c_later_word => k_is); (case k_later_word => k_is); (case a_earlier_word => k_is); (case l_earlier_word => k_is); (case c_earlier_word => k_is); (case k_earlier_word => k_is); (case a_exchange_distance => k_is); (case l_exchange_distance => k_is); (case c_exchange_distance => k_is); (case k_exchange_distance => k_is); (case a__law_distance => k_is); (case l__law_distance => k_is); (case c__law_distance => k_is); (case k__law_distance => k_is); (case a__law_words_right => k_is); (case l__law_words_right => k_is); (case c__law_words_right => k_is); (case k__law_words_right => k_is); (case a_lowered_rows => k_is); (case l_lowered_rows => k_is); (case c_lowered_rows => k_is); (case k_lowered_rows => k_is); (case a_exchange_path => k_is); (case l_exchange_path => k_is); (case c_exchange_path => k_is); (case k_exchange_path => k_is); (case a__law_odd => k_is); (case l__law_odd => k_is); (case c__law_odd => k_is); (case k__law_odd => k_is); (case a__law_values => k_is); (case l__law_values => k_is); (case c__law_values => k_is); (case k__law_values => k_is); (case a_word_error => k_is); (case l_word_error => k_is); (case c_word_error => k_is); (case k_word_error => k_is); (case a_is_word => k_is); (case l_is_word => k_is); (case c_is_word => k_is); (case k_is_word => k_is); (case a_is_exchange_path => k_is); (case l_is_exchange_path => k_is); (case c_is_exchange_path => k_is); (case k_is_exchange_path => k_is); (case a__law_is_word => k_is); (case l__law_is_word => k_is); (case c__law_is_word => k_is); (case k__law_is_word => k_is); (case a__law_is_step => k_is); (case l__law_is_step => k_is); (case c__law_is_step => k_is); (case k__law_is_step => k_is); (case a__law_is_path => k_is); (case l__law_is_path => k_is); (case c__law_is_path => k_is); (case k__law_is_path => k_is); (case a__law_right => k_is); (case l__law_right => k_is); (case c__law_right => k_is); (case k__law_right => k_is); (case a_law => k_is); (case l_law => k_is); (case c_law => k_is); (case k_law => k_is); (case z_abs => k_is); (case z_range => k_is); (case z_len => k_is); (case z_int => k_is); (case z_tuple => k_is); (case z_zip => k_is); (case z_min => k_is); (case z_max => k_is); (case z_sum => k_is); (case z_repr => k_is); (case z_enumerate => k_is); (case z_list => k_is); (case z_str => k_is); (case z_isinstance => k_is); (case z_all => k_is); (case z_bool => k_is); (case z_INSERT => k_is); (case z_REMOVE => k_is); (case z_MAX_LENGTH => k_is)
