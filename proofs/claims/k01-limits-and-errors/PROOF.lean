import PyProof.Rows.All
import Wide.All
import OpenK.AllK
import Wide.FinOn
import HandS.ForMost
import HandS.Walk
import KE.KDictKeyed
import HandS.Lambda
import KE.KNest
import HandS.Exc
import HandS.TryOnly
import HandS.ExcOwn
import HandS.Flow
import HandS.TupAny
import HandS.Style
import HandS.Wide
import HandS.WideBits
import HandS.Deep
import HandS.Zip
import HandS.IsInst
import HandS.WordsExc
import HandS.SortInts
import HandS.SortRule
import HandS.RaiseMore
import KE.GoesMore
import HandS.SetFor
import HandS.Text
import HandS.More
import HandS.TupMul
import HandS.RevTup
import KE.DataMinMax
import HandS.Dict
import PyProof.ListStr
import PyProof.TupleOfStr
import HandS.ForExc
import KE.KExcIs
import KE.KIsAll
import HandS.Strs
import PyProof.ReprRoads
import PyProof.NeKinds
import HandS.Conv
import HandS.DictComp
import PyProof.P3In
import KE.KDictZip
import HandS.StrMore
import KE.DataFind
import HandS.TupLe
import PyProof.Rows.RowBridgeK
import HandS.HotCalls
import KE.KDictCopyH
import HandS.ExcValue
import HandS.Nested
import KE.KMinKey
import HandS.FStr
import HandS.Defaults
import KE.KCallOwn
import HandS.TupSets
import PyProof.Rows.ChunkLeaf
import HandS.List
import KE.OsRunLaw
import PySem.Challenge.RW_heappairs_k01_limits_and_errors
set_option Elab.async false
set_option linter.all false
set_option maxRecDepth 100000
set_option maxHeartbeats 4000000
namespace G
open PySem PySem.Spec PyProof.Rows L2

inductive Val where
  | non | bl (b : Bool) | int (i : Int) | str (x : Str)
  | tup (xs : List Val) | lst (xs : List Val) | dct (kvs : List (Key × Val))
  | scr (ns : List Int)
  | cell (k : Nat) | con (v : V) | fnv (x : Str)
  | err (c : Str) (fs : List (Str × Val)) (a : Addr) (d : Option Addr)
  | prs (xs : List Val)
  | ex0 (c : Str) | ex1 (c f : Str) (x : Val)
inductive Cell where
  | dead | lst (xs : List Val) | dct (kvs : List (Key × Val)) | ins (c : Str) (fs : List (Str × Val))
  | dN (kvs : List (NestedKey × Val)) | tab (P : Addr) (q : Str)
abbrev Sto := List Cell
abbrev Ev := List (Option Val)
structure Exc where
  cls : Str
  fs : List (Str × Val)
inductive Out (α : Type) where
  | ok (a : α) (S : Sto)
  | exc (e : Exc) (S : Sto)
abbrev Res (α : Type) := Option (Out α)
def bnd {α β : Type} (m : Res α) (k : α → Sto → Res β) : Res β :=
  match m with
  | some (.ok a S) => k a S
  | some (.exc e S) => some (.exc e S)
  | none => none

def SqN (K : PySem.W.Frag) (F : Hp) (a : Addr) (vs : List V) : Prop :=
  (∃ o, o.dict = none ∧ F a = some (.frz o (.tup vs))) ∨ ∃ (o : Obj) (its : Array Value) (n : Nat), K.lookup a = some o ∧ o.cls = .type "tuple" ∧ o.dict = none ∧ o.data = .seq its n ∧ its.size ≤ sizeLine ∧ Vals vs its.toList
theorem SqN.sq {K : PySem.W.Frag} {F : Hp} {a : Addr} {vs : List V} (h : SqN K F a vs) : SqT K F a vs := by
  rcases h with ⟨o, _, h⟩ | ⟨o, its, n, h1, h2, _, h3⟩
  · exact .inl (.inr ⟨o, h⟩)
  · exact .inr ⟨o, its, n, h1, h2, h3⟩
theorem SqN.same {K : PySem.W.Frag} {F F' : Hp} {a : Addr} {vs : List V} (e : Same F F') (h : SqN K F a vs) : SqN K F' a vs := by
  rcases h with ⟨o, h1, h⟩ | h
  · exact .inl ⟨o, h1, e _ _ h⟩
  · exact .inr h
theorem SqN.obj {X : Cx} {pins : List (Addr × Obj)} {σ : L2.St} {H : Hp} {s : Shared} {a : Addr} {vs : List V} (I : L2.Inv X pins σ H s) (h : SqN X.K H a vs) : ∃ o, s.heap.get? a = some o ∧ o.cls = .type "tuple" ∧ o.dict = none := by
  rcases h with ⟨o, h1, h⟩ | ⟨o, its, n, h1, h2, h3, _⟩
  · obtain ⟨q1, _, _, _, o', q2, q3, _⟩ := (show ObjOk X.prog X.w H s.heap a (.frz o (.tup vs)) from I.hok a _ h)
    rw [q1] at q2
    cases q2
    exact ⟨o, q1, q3, h1⟩
  · exact ⟨o, I.kIn _ _ h1, h2, h3⟩
def ErO (a C : Addr) (d : Option Addr) : HO := .ext fun h => ∃ (oe : Obj) (vs : Array Value), h.get? a = some oe ∧ oe.cls = .ref C ∧ oe.dict = d ∧ oe.data = .fields vs
mutual
inductive RepV (K : PySem.W.Frag) (F : Hp) (μ : List Addr) : Val → V → Prop where
  | non : RepV K F μ .non .non
  | bl {b : Bool} : RepV K F μ (.bl b) (.bl b)
  | int {i : Int} : RepV K F μ (.int i) (.int i)
  | str {x : Str} : RepV K F μ (.str x) (.str x)
  | tup {xs : List Val} {a : Addr} {vs : List V} : SqN K F a vs → RepL K F μ xs vs → RepV K F μ (.tup xs) (.ref a)
  | prs {xs : List Val} {a : Addr} {vs : List V} : SqT K F a vs → RepL K F μ xs vs → RepV K F μ (.prs xs) (.ref a)
  | lst {xs : List Val} {a : Addr} {vs : List V} : F a = some (.lst vs) → RepL K F μ xs vs → RepV K F μ (.lst xs) (.ref a)
  | dct {kvs : List (Key × Val)} {a : Addr} {kws : List (Key × V)} : F a = some (.dK kws) → RepD K F μ kvs kws → RepV K F μ (.dct kvs) (.ref a)
  | scr {ns : List Int} {a : Addr} : SqL K F a (ns.map V.int) → RepV K F μ (.scr ns) (.ref a)
  | cell {k : Nat} {a : Addr} : μ[k]? = some a → RepV K F μ (.cell k) (.ref a)
  | con {v : V} : RepV K F μ (.con v) v
  | fnv {x : Str} {a : Addr} : PySem.W.nsIn K mainGlobals x = some (some (.ref a)) → RepV K F μ (.fnv x) (.ref a)
  | err0 {c : Str} {a : Addr} : RepV K F μ (.err c [] a none) (.ref a)
  | err1 {c f : Str} {x : Val} {v : V} {a dx : Addr} : F dx = some (.xd [(f, v)]) → RepV K F μ x v → RepV K F μ (.err c [(f, x)] a (some dx)) (.ref a)
  | ex0 {c : Str} {a C : Addr} : PySem.W.nsIn K mainGlobals c = some (some (.ref C)) → F a = some (ErO a C none) → RepV K F μ (.ex0 c) (.ref a)
  | ex1 {c f : Str} {x : Val} {v : V} {a dx C : Addr} : PySem.W.nsIn K mainGlobals c = some (some (.ref C)) → F a = some (ErO a C (some dx)) → F dx = some (.xd [(f, v)]) → RepV K F μ x v → RepV K F μ (.ex1 c f x) (.ref a)
inductive RepL (K : PySem.W.Frag) (F : Hp) (μ : List Addr) : List Val → List V → Prop where
  | nil : RepL K F μ [] []
  | cons {x : Val} {v : V} {xs : List Val} {vs : List V} : RepV K F μ x v → RepL K F μ xs vs → RepL K F μ (x :: xs) (v :: vs)
inductive RepD (K : PySem.W.Frag) (F : Hp) (μ : List Addr) : List (Key × Val) → List (Key × V) → Prop where
  | nil : RepD K F μ [] []
  | cons {k : Key} {x : Val} {v : V} {xs : List (Key × Val)} {vs : List (Key × V)} : RepV K F μ x v → RepD K F μ xs vs → RepD K F μ ((k, x) :: xs) ((k, v) :: vs)
end
structure Ext (F : Hp) (μ : List Addr) (F' : Hp) (μ' : List Addr) : Prop where
  sub : Same F F'
  pre : μ <+: μ'
theorem Ext.refl (F : Hp) (μ : List Addr) : Ext F μ F μ := ⟨Same.refl F, List.prefix_refl μ⟩
theorem Ext.trans {F F1 F2 : Hp} {μ μ1 μ2 : List Addr} (a : Ext F μ F1 μ1) (b : Ext F1 μ1 F2 μ2) : Ext F μ F2 μ2 := ⟨a.sub.trans b.sub, a.pre.trans b.pre⟩
theorem prefix_get {α : Type} {l l' : List α} (h : l <+: l') {k : Nat} {a : α} (e : l[k]? = some a) : l'[k]? = some a := by
  obtain ⟨t, rfl⟩ := h
  have hk : k < l.length := (List.getElem?_eq_some_iff.mp e).1
  rw [List.getElem?_append_left hk]
  exact e
theorem same_seqT {K : PySem.W.Frag} {H H' : Hp} {a : Addr} {xs : List V} (e : Same H H') (h : SqT K H a xs) : SqT K H' a xs := by
  rcases h with (h | ⟨o, h⟩) | h
  · exact .inl (.inl (e _ _ h))
  · exact .inl (.inr ⟨o, e _ _ h⟩)
  · exact .inr h
section
variable {K : PySem.W.Frag} {F F' : Hp} {μ μ' : List Addr}
mutual
theorem RepV.mono (e : Ext F μ F' μ') : ∀ {x : Val} {v : V}, RepV K F μ x v → RepV K F' μ' x v
  | _, _, .non => .non
  | _, _, .bl => .bl
  | _, _, .int => .int
  | _, _, .str => .str
  | _, _, .tup h r => .tup (h.same e.sub) (RepL.mono e r)
  | _, _, .prs h r => .prs (same_seqT e.sub h) (RepL.mono e r)
  | _, _, .lst h r => .lst (e.sub _ _ h) (RepL.mono e r)
  | _, _, .dct h r => .dct (e.sub _ _ h) (RepD.mono e r)
  | _, _, .scr h => .scr (e.sub.seq h)
  | _, _, .cell h => .cell (prefix_get e.pre h)
  | _, _, .con => .con
  | _, _, .fnv h => .fnv h
  | _, _, .err0 => .err0
  | _, _, .err1 h r => .err1 (e.sub _ _ h) (RepV.mono e r)
  | _, _, .ex0 n h => .ex0 n (e.sub _ _ h)
  | _, _, .ex1 n h h2 r => .ex1 n (e.sub _ _ h) (e.sub _ _ h2) (RepV.mono e r)
theorem RepL.mono (e : Ext F μ F' μ') : ∀ {x : List Val} {v : List V}, RepL K F μ x v → RepL K F' μ' x v
  | _, _, .nil => .nil
  | _, _, .cons r t => .cons (RepV.mono e r) (RepL.mono e t)
theorem RepD.mono (e : Ext F μ F' μ') : ∀ {x : List (Key × Val)} {v : List (Key × V)}, RepD K F μ x v → RepD K F' μ' x v
  | _, _, .nil => .nil
  | _, _, .cons r t => .cons (RepV.mono e r) (RepD.mono e t)
end
theorem RepL.length : ∀ {xs : List Val} {vs : List V}, RepL K F μ xs vs → xs.length = vs.length
  | _, _, .nil => rfl
  | _, _, .cons _ t => congrArg (· + 1) (RepL.length t)
theorem RepL.get : ∀ {xs : List Val} {vs : List V}, RepL K F μ xs vs → ∀ {i : Nat} {x : Val}, xs[i]? = some x → ∃ v, vs[i]? = some v ∧ RepV K F μ x v
  | _, _, .nil, _, _, e => by simp at e
  | _, _, .cons r _, 0, _, e => by simp at e; subst e; exact ⟨_, rfl, r⟩
  | _, _, .cons _ t, i + 1, _, e => by
    obtain ⟨v, h1, h2⟩ := RepL.get t (i := i) (by simpa using e)
    exact ⟨v, by simpa using h1, h2⟩
theorem RepL.getV : ∀ {xs : List Val} {vs : List V}, RepL K F μ xs vs → ∀ {i : Nat} {v : V}, vs[i]? = some v → ∃ x, xs[i]? = some x ∧ RepV K F μ x v
  | _, _, .nil, _, _, e => by simp at e
  | _, _, .cons r _, 0, _, e => by simp at e; subst e; exact ⟨_, rfl, r⟩
  | _, _, .cons _ t, i + 1, _, e => by
    obtain ⟨v, h1, h2⟩ := RepL.getV t (i := i) (by simpa using e)
    exact ⟨v, by simpa using h1, h2⟩
theorem RepL.append : ∀ {xs ys : List Val} {vs ws : List V}, RepL K F μ xs vs → RepL K F μ ys ws → RepL K F μ (xs ++ ys) (vs ++ ws)
  | _, _, _, _, .nil, s => s
  | _, _, _, _, .cons r t, s => .cons r (RepL.append t s)
theorem RepL.take : ∀ {xs : List Val} {vs : List V} (n : Nat), RepL K F μ xs vs → RepL K F μ (xs.take n) (vs.take n)
  | _, _, 0, _ => .nil
  | _, _, _ + 1, .nil => .nil
  | _, _, n + 1, .cons r t => .cons r (RepL.take n t)
theorem RepL.drop : ∀ {xs : List Val} {vs : List V} (n : Nat), RepL K F μ xs vs → RepL K F μ (xs.drop n) (vs.drop n)
  | _, _, 0, r => r
  | _, _, _ + 1, .nil => .nil
  | _, _, n + 1, .cons _ t => RepL.drop n t
theorem RepL.set {x : Val} {v : V} (q : RepV K F μ x v) : ∀ {xs : List Val} {vs : List V} (n : Nat), RepL K F μ xs vs → RepL K F μ (xs.set n x) (vs.set n v)
  | _, _, _, .nil => .nil
  | _, _, 0, .cons _ t => .cons q t
  | _, _, n + 1, .cons r t => .cons r (RepL.set q n t)
theorem RepL.reverse {xs : List Val} {vs : List V} (h : RepL K F μ xs vs) : RepL K F μ xs.reverse vs.reverse := by
  have all : ∀ {xs : List Val} {vs : List V}, RepL K F μ xs vs → ∀ {ys : List Val} {ws : List V}, RepL K F μ ys ws → RepL K F μ (xs.reverseAux ys) (vs.reverseAux ws) := by
    intro xs
    induction xs with
    | nil => intro vs h ys ws r; cases h; exact r
    | cons x xs ih => intro vs h ys ws r; cases h with | cons p q => exact ih q (.cons p r)
  exact all h .nil
theorem RepL.one {x : Val} {vs : List V} (h : RepL K F μ [x] vs) : ∃ v, vs = [v] ∧ RepV K F μ x v := by
  cases h with | cons r t => cases t; exact ⟨_, rfl, r⟩
theorem RepL.two {x y : Val} {vs : List V} (h : RepL K F μ [x, y] vs) : ∃ v w, vs = [v, w] ∧ RepV K F μ x v ∧ RepV K F μ y w := by
  cases h with | cons r t => cases t with | cons r' t' => cases t'; exact ⟨_, _, rfl, r, r'⟩
theorem RepL.ofInts : ∀ {ns : List Int}, RepL K F μ (ns.map Val.int) (ns.map V.int)
  | [] => .nil
  | _ :: _ => .cons .int RepL.ofInts
end

theorem ne_mem {l : List Addr} {a p : Addr} (h : a ∈ l) (n : p ∉ l) : a ≠ p := fun z => n (z ▸ h)
theorem get_nodup : ∀ {l : List Addr}, l.Nodup → ∀ {i j : Nat} {a : Addr}, l[i]? = some a → l[j]? = some a → i = j := fun {l} nd {i j a} h1 h2 => by
  obtain ⟨hi, e1⟩ := List.getElem?_eq_some_iff.mp h1
  obtain ⟨hj, e2⟩ := List.getElem?_eq_some_iff.mp h2
  exact (List.getElem_inj nd).mp (e1.trans e2.symm)
mutual
def hashN : NestedKey → Int
  | .none => 0
  | .num i => hashInt i
  | .text _ => 0
  | .tup ks => reduceHash (Builtin.Tuple.tupleHashOf (hashesN ks))
def hashesN : List NestedKey → List Int
  | [] => []
  | k :: ks => hashN k :: hashesN ks
end
mutual
def okN : NestedKey → Bool
  | .none => false
  | .num _ => true
  | .text _ => false
  | .tup ks => okNs ks
def okNs : List NestedKey → Bool
  | [] => true
  | k :: ks => okN k && okNs ks
end
mutual
theorem hashN_ok (w : World) : ∀ k : NestedKey, okN k = true → k.hash w = hashN k
  | .none, h => by cases h
  | .num _, _ => rfl
  | .text _, h => by cases h
  | .tup ks, h => by rw [NestedKey.hash, hashN, hashesN_ok w ks (by simpa [okN] using h)]
theorem hashesN_ok (w : World) : ∀ ks : List NestedKey, okNs ks = true → NestedKey.hashes w ks = hashesN ks
  | [], _ => rfl
  | k :: ks, h => by
    have h' : okN k = true ∧ okNs ks = true := by simpa [okNs] using h
    rw [NestedKey.hashes, hashesN, hashN_ok w k h'.1, hashesN_ok w ks h'.2]
end
mutual
def valN : NestedKey → Val
  | .none => .non
  | .num i => .int i
  | .text x => .str x
  | .tup ks => .tup (valsN ks)
def valsN : List NestedKey → List Val
  | [] => []
  | k :: ks => valN k :: valsN ks
end
def entN (x : NestedKey × Addr × Value) : DictEntry := ⟨hashN x.1, .ref x.2.1, x.2.2⟩
def DnO (a : Addr) (xs : List (NestedKey × Addr × Value)) : HO := .ext fun h => ∃ o es, h.get? a = some o ∧ o.ExactDict ∧ o.data = .dict es xs.length ∧ es.toList = xs.map entN
inductive RepN (K : PySem.W.Frag) (F : Hp) (μ : List Addr) : List (NestedKey × Val) → List (NestedKey × Addr × Value) → Prop where
  | nil : RepN K F μ [] []
  | cons {k : NestedKey} {x : Val} {b : Addr} {u : Value} {v : V} {kvs : List (NestedKey × Val)} {xs : List (NestedKey × Addr × Value)} : okN k = true → k.depth ≤ 8 → RepV K F μ (valN k) (.ref b) → RepV K F μ x v → RelV v u → RepN K F μ kvs xs → RepN K F μ ((k, x) :: kvs) ((k, b, u) :: xs)
theorem RepN.mono {K : PySem.W.Frag} {F F' : Hp} {μ μ' : List Addr} (e : Ext F μ F' μ') : ∀ {kvs : List (NestedKey × Val)} {xs : List (NestedKey × Addr × Value)}, RepN K F μ kvs xs → RepN K F' μ' kvs xs
  | _, _, .nil => .nil
  | _, _, .cons h1 h2 h3 h4 h5 t => .cons h1 h2 (h3.mono e) (h4.mono e) h5 (RepN.mono e t)
theorem RepN.len {K : PySem.W.Frag} {F : Hp} {μ : List Addr} : ∀ {kvs : List (NestedKey × Val)} {xs : List (NestedKey × Addr × Value)}, RepN K F μ kvs xs → kvs.length = xs.length
  | _, _, .nil => rfl
  | _, _, .cons _ _ _ _ _ t => congrArg (· + 1) (RepN.len t)
def TabC (F H : Hp) (P : Addr) (q : Str) : Prop := ∃ ps : Array Value, H P = some (.tbl ps) ∧ TriplesOk ps.toList ∧ ∀ (pos : Pos) (cv : Value), codeAmong pos ps.toList = some cv → ∃ c, cv = .ref c ∧ F c = some (LamX.CodeO c q)
section
variable (K : PySem.W.Frag) (mg : Str → Option Value)
def RepF (F : Hp) (μ : List Addr) : List (Str × Val) → List (Str × V) → Prop := fun fs gs => fs.map (·.1) = gs.map (·.1) ∧ RepL K F μ (fs.map (·.2)) (gs.map (·.2))
def CellOk (F : Hp) (μ : List Addr) (H : Hp) (a : Addr) : Cell → Prop
  | .dead => True
  | .lst xs => ∃ vs, H a = some (.lst vs) ∧ RepL K F μ xs vs
  | .dct kvs => ∃ kws, H a = some (.dK kws) ∧ RepD K F μ kvs kws
  | .ins c fs => ∃ C dx gs, mg c = some (.ref C) ∧ H a = some (.ins C dx gs) ∧ RepF K F μ fs gs
  | .dN kvs => ∃ xs, H a = some (DnO a xs) ∧ (a == sysModules) = false ∧ kvs.length ≤ sizeLine ∧ (kvs.map (·.1)).Nodup ∧ RepN K F μ kvs xs
  | .tab P q => a = P ∧ TabC F H P q
def tabMeth (K : PySem.W.Frag) (C m : Str) : Option (Addr × Addr) := match PySem.W.nsIn K mainGlobals C with
  | some (some (.ref a)) => (match PySem.W.findIn K (.ref a) m with
    | some (some (.ref f)) => (match K.lookup f with
      | some ⟨_, _, .func fd, _⟩ => (match fd.code with
        | .ref c => (match K.lookup c with
          | some ⟨_, _, .fields vs, _⟩ => (match (vs[11]? : Option Value) with
            | some (.ref P) => some (c, P)
            | _ => none)
          | _ => none)
        | _ => none)
      | _ => none)
    | _ => none)
  | _ => none
def lamMeths : List (Str × Str × Str) := [("Rest.candidates", "Rest", "candidates"), ("Counts.cuts", "Counts", "cuts")]
def tabG (K : PySem.W.Frag) (x : Str) : Option (Addr × Addr) := match lamMeths.lookup x with
  | some (C, m) => tabMeth K C m
  | none => PySem.W.tabIn K x
abbrev lamNames : List Str := ["smaller_child", "law", "_law_codes_right", "_law_pair_right", "_law_long_right", "_law_small_right", "_law_sources_right", "_law_errors_right", "_law_wrong_right", "_law_bad_right", "_law_goal_right", "_law_busy", "_law_applied", "_law_rejected", "free_places", "Rest.candidates", "Counts.cuts", "_law_refused_right"]
def LamT (P : Addr) (q : Str) : Prop := ∃ x ∈ lamNames, ∃ c, tabG K x = some (c, P) ∧ q = x ++ ".<locals>.<lambda>"
def TabsOk (F H : Hp) (μ : List Addr) : Prop := ∀ P q, LamT K P q → P ∉ μ ∧ F P = none ∧ TabC F H P q
structure RepS (F H : Hp) (μ : List Addr) (S : Sto) : Prop where
  sub : Same F H
  len : μ.length = S.length
  nd : μ.Nodup
  off : ∀ a ∈ μ, F a = none
  there : ∀ a ∈ μ, ∃ o, H a = some o
  cells : ∀ (k : Nat) (a : Addr) (c : Cell), μ[k]? = some a → S[k]? = some c → CellOk K mg F μ H a c
  tabs : TabsOk K F H μ
def RepE (F : Hp) (μ : List Addr) (ρ : Ev) (σ : L2.St) : Prop := ρ.length = σ.length ∧ ∀ (i : Nat) (x : Val), ρ[i]? = some (some x) → ∃ v, σ[i]? = some (some v) ∧ RepV K F μ x v
def ExcOk (F : Hp) (μ : List Addr) (H : Hp) (e : Exc) (cls : Value) (d : Option Addr) : Prop :=
  ∃ C, mg e.cls = some (.ref C) ∧ cls = .ref C ∧ ((e.fs = [] ∧ d = none) ∨ ∃ (f : Str) (x : Val) (v : V) (dx : Addr), e.fs = [(f, x)] ∧ d = some dx ∧ F dx = some (.xd [(f, v)]) ∧ RepV K F μ x v)
end
section
variable {K : PySem.W.Frag} {mg : Str → Option Value} {F F' H H' : Hp} {μ μ' : List Addr} {S : Sto} {ρ : Ev} {σ : L2.St}
theorem RepF.mono (e : Ext F μ F' μ') {fs : List (Str × Val)} {gs : List (Str × V)} (h : RepF K F μ fs gs) : RepF K F' μ' fs gs := ⟨h.1, RepL.mono e h.2⟩
theorem CellOk.mono (e : Ext F μ F' μ') {a : Addr} (ha : H' a = H a) : ∀ {c : Cell}, CellOk K mg F μ H a c → CellOk K mg F' μ' H' a c
  | .dead, _ => trivial
  | .lst _, ⟨vs, h, r⟩ => ⟨vs, ha.trans h, RepL.mono e r⟩
  | .dct _, ⟨vs, h, r⟩ => ⟨vs, ha.trans h, RepD.mono e r⟩
  | .ins _ _, ⟨C, dx, gs, m, h, r⟩ => ⟨C, dx, gs, m, ha.trans h, r.mono e⟩
  | .dN _, ⟨xs, h, h2, h3, h4, r⟩ => ⟨xs, ha.trans h, h2, h3, h4, r.mono e⟩
  | .tab _ _, ⟨hp, ps, h, h2, h3⟩ => ⟨hp, ps, by rw [← hp, ha, hp]; exact h, h2, fun pos cv q => let ⟨c, e1, e2⟩ := h3 pos cv q; ⟨c, e1, e.sub _ _ e2⟩⟩
theorem RepE.mono (e : Ext F μ F' μ') (h : RepE K F μ ρ σ) : RepE K F' μ' ρ σ := ⟨h.1, fun i x q => let ⟨v, h1, h2⟩ := h.2 i x q; ⟨v, h1, RepV.mono e h2⟩⟩
theorem RepE.set (h : RepE K F μ ρ σ) {x : Val} {v : V} (r : RepV K F μ x v) (i : Nat) : RepE K F μ (ρ.set i (some x)) (σ.set i (some v)) := by
  refine ⟨by simp [h.1], fun j y q => ?_⟩
  by_cases hj : i = j
  · subst hj
    by_cases hi : i < ρ.length
    · rw [List.getElem?_set_self hi] at q
      cases q
      exact ⟨v, by rw [List.getElem?_set_self (h.1 ▸ hi)], r⟩
    · rw [List.getElem?_eq_none (by simpa using hi)] at q
      cases q
  · rw [List.getElem?_set_ne hj] at q
    rw [List.getElem?_set_ne hj]
    exact h.2 j y q
theorem RepE.unset (h : RepE K F μ ρ σ) (i : Nat) (z : Option V) : RepE K F μ (ρ.set i none) (σ.set i z) := by
  refine ⟨by simp [h.1], fun j y q => ?_⟩
  by_cases hj : i = j
  · subst hj
    by_cases hi : i < ρ.length
    · rw [List.getElem?_set_self hi] at q
      cases q
    · rw [List.getElem?_eq_none (by simpa using hi)] at q
      cases q
  · rw [List.getElem?_set_ne hj] at q
    rw [List.getElem?_set_ne hj]
    exact h.2 j y q
def Less (ρ ρ' : Ev) : Prop := ρ.length = ρ'.length ∧ ∀ (i : Nat) (x : Val), ρ[i]? = some (some x) → ρ'[i]? = some (some x)
theorem RepE.less {ρ' : Ev} (h : RepE K F μ ρ' σ) (l : Less ρ ρ') : RepE K F μ ρ σ := ⟨l.1.trans h.1, fun i x q => h.2 i x (l.2 i x q)⟩
theorem TabsOk.step (h : TabsOk K F H μ) (e : Same F F') (n : ∀ P ps, H P = some (.tbl ps) → P ∉ μ → F P = none → H' P = H P ∧ F' P = none ∧ P ∉ μ') : TabsOk K F' H' μ' := fun P q hl => by
  obtain ⟨h1, h2, ps, h3, h4, h5⟩ := h P q hl
  obtain ⟨n1, n2, n3⟩ := n P ps h3 h1 h2
  exact ⟨n3, n2, ps, n1.trans h3, h4, fun pos cv z => let ⟨c, z1, z2⟩ := h5 pos cv z; ⟨c, z1, e _ _ z2⟩⟩
theorem RepS.ne (h : RepS K mg F H μ S) {p : Addr} (hp : H p = none) : p ∉ μ := fun hm => by
  obtain ⟨o, e⟩ := h.there p hm
  rw [hp] at e; cases e
theorem RepS.nF (h : RepS K mg F H μ S) {p : Addr} (hp : H p = none) : F p = none := h.sub.free hp
theorem ext_upd (F : Hp) (μ : List Addr) {p : Addr} {o : HO} (hp : F p = none) : Ext F μ (upd F p o) μ :=
  ⟨fun b x e => by rw [upd_ne (ne_of_none e hp)]; exact e, List.prefix_refl μ⟩
theorem RepS.alloc (h : RepS K mg F H μ S) {p : Addr} (o : HO) (hp : H p = none) : RepS K mg (upd F p o) (upd H p o) μ S := by
  have e := ext_upd F μ (o := o) (h.nF hp)
  refine ⟨fun b x q => ?_, h.len, h.nd, fun a ha => ?_, fun a ha => ?_, fun k a c h1 h2 => ?_, h.tabs.step e.sub fun P ps h1 h2 h3 => ⟨upd_ne (ne_of_none h1 hp), (upd_ne (ne_of_none h1 hp)).trans h3, h2⟩⟩
  · by_cases hb : b = p
    · subst hb; rw [upd_same] at q ⊢; exact q
    · rw [upd_ne hb] at q ⊢; exact h.sub b x q
  · rw [upd_ne (ne_mem ha (h.ne hp))]; exact h.off a ha
  · rw [upd_ne (ne_mem ha (h.ne hp))]; exact h.there a ha
  · exact (h.cells k a c h1 h2).mono e (upd_ne (ne_mem (List.mem_of_getElem? h1) (h.ne hp)))
theorem RepS.cell (h : RepS K mg F H μ S) {p : Addr} {o : HO} {c : Cell} (hp : H p = none) (hc : CellOk K mg F (μ ++ [p]) (upd H p o) p c) : RepS K mg F (upd H p o) (μ ++ [p]) (S ++ [c]) := by
  have hn := h.ne hp
  refine ⟨fun b x q => ?_, by simp [h.len], ?_, fun a ha => ?_, fun a ha => ?_, fun k a c' h1 h2 => ?_, h.tabs.step (Same.refl F) fun P ps h1 h2 h3 => ⟨upd_ne (ne_of_none h1 hp), h3, fun z => (List.mem_append.mp z).elim h2 fun z => ne_of_none h1 hp (List.mem_singleton.mp z)⟩⟩
  · rw [upd_ne (ne_of_none (h.sub b x q) hp)]; exact h.sub b x q
  · exact List.nodup_append.mpr ⟨h.nd, by simp, fun a ha b hb => by
      simp only [List.mem_singleton] at hb
      subst hb
      exact fun z => hn (z ▸ ha)⟩
  · rcases List.mem_append.mp ha with ha | ha
    · exact h.off a ha
    · simp only [List.mem_singleton] at ha; subst ha; exact h.nF hp
  · rcases List.mem_append.mp ha with ha | ha
    · rw [upd_ne (ne_mem ha hn)]; exact h.there a ha
    · simp only [List.mem_singleton] at ha; subst ha; exact ⟨o, upd_same⟩
  · by_cases hk : k < μ.length
    · rw [List.getElem?_append_left hk] at h1
      rw [List.getElem?_append_left (h.len ▸ hk)] at h2
      exact (h.cells k a c' h1 h2).mono ⟨Same.refl F, List.prefix_append μ [p]⟩ (upd_ne (ne_mem (List.mem_of_getElem? h1) hn))
    · have e : k = μ.length := by
        have := (List.getElem?_eq_some_iff.mp h1).1
        simp at this
        omega
      subst e
      rw [List.getElem?_append_right (Nat.le_refl _)] at h1
      rw [h.len, List.getElem?_append_right (Nat.le_refl _)] at h2
      simp at h1 h2
      subst h1; subst h2
      exact hc
theorem RepS.put (h : RepS K mg F H μ S) {k : Nat} {a : Addr} {o : HO} {c : Cell} (hk : μ[k]? = some a) (hc : CellOk K mg F μ (upd H a o) a c) : RepS K mg F (upd H a o) μ (S.set k c) := by
  have hm := List.mem_of_getElem? hk
  refine ⟨fun b x q => ?_, by simp [h.len], h.nd, h.off, fun b hb => ?_, fun j b c' h1 h2 => ?_, h.tabs.step (Same.refl F) fun P ps h1 h2 h3 => ⟨upd_ne fun z => h2 (z ▸ hm), h3, h2⟩⟩
  · rw [upd_ne fun z => ?_]
    · exact h.sub b x q
    · subst z; rw [h.off b hm] at q; cases q
  · by_cases hb' : b = a
    · subst hb'; exact ⟨o, upd_same⟩
    · rw [upd_ne hb']; exact h.there b hb
  · by_cases hj : k = j
    · subst hj
      rw [hk] at h1
      cases h1
      have hl : k < S.length := h.len ▸ (List.getElem?_eq_some_iff.mp hk).1
      rw [List.getElem?_set_self hl] at h2
      cases h2
      exact hc
    · rw [List.getElem?_set_ne hj] at h2
      exact (h.cells j b c' h1 h2).mono (Ext.refl F μ) (upd_ne fun z => hj (get_nodup h.nd hk (by rw [← z]; exact h1)))
end
end G

set_option Elab.async false
set_option linter.all false
set_option maxRecDepth 100000
set_option maxHeartbeats 4000000
namespace G
open PySem PySem.Spec PyProof.Rows L2

abbrev ME := Ev → Sto → Res Val
abbrev MT := Ev → Sto → Res Bool
abbrev MA := Ev → Sto → Res (List Val)
inductive Fl where
  | next (ρ : Ev) | brk (ρ : Ev) | cont (ρ : Ev) | ret (v : Val) | exc (ρ : Ev) (e : Exc)
abbrev SRes := Option (Fl × Sto)
abbrev MS := Ev → Sto → SRes
def bns {α : Type} (ρ : Ev) (m : Res α) (k : α → Sto → SRes) : SRes :=
  match m with
  | some (.ok a S) => k a S
  | some (.exc e S) => some (.exc ρ e, S)
  | none => none
def pur {α : Type} (o : Option α) (S : Sto) : Res α :=
  match o with
  | some a => some (.ok a S)
  | none => none
def prs {α : Type} (o : Option (α × Sto)) : Res α :=
  match o with
  | some (a, S) => some (.ok a S)
  | none => none

structure Xt (F H : Hp) (μ : List Addr) (F' H' : Hp) (μ' : List Addr) : Prop extends Ext F μ F' μ' where
  keep : ∀ (a : Addr) (o : HO), H a = some o → a ∉ μ → (∀ ps, o ≠ .tbl ps) → H' a = some o ∧ a ∉ μ' ∧ (F a = none → F' a = none)
theorem Xt.refl (F H : Hp) (μ : List Addr) : Xt F H μ F H μ := ⟨Ext.refl F μ, fun a o h n _ => ⟨h, n, fun z => z⟩⟩
theorem Xt.trans {F F1 F2 H H1 H2 : Hp} {μ μ1 μ2 : List Addr} (a : Xt F H μ F1 H1 μ1) (b : Xt F1 H1 μ1 F2 H2 μ2) : Xt F H μ F2 H2 μ2 :=
  ⟨a.toExt.trans b.toExt, fun x o h n t => let ⟨h1, n1, f1⟩ := a.keep x o h n t; let ⟨h2, n2, f2⟩ := b.keep x o h1 n1 t; ⟨h2, n2, fun z => f2 (f1 z)⟩⟩
theorem Xt.new {F H : Hp} {μ : List Addr} {p : Addr} {o : HO} (hF : F p = none) (hp : H p = none) : Xt F H μ (upd F p o) (upd H p o) μ :=
  ⟨ext_upd F μ hF, fun a u h n _ => ⟨by rw [upd_ne (ne_of_none h hp)]; exact h, n, fun z => by rw [upd_ne (ne_of_none h hp)]; exact z⟩⟩
theorem Xt.cell {F H : Hp} {μ : List Addr} {p : Addr} {o : HO} (hp : H p = none) : Xt F H μ F (upd H p o) (μ ++ [p]) :=
  ⟨⟨Same.refl F, List.prefix_append μ [p]⟩, fun a u h n _ => ⟨by rw [upd_ne (ne_of_none h hp)]; exact h, fun z => by
    rcases List.mem_append.mp z with z | z
    · exact n z
    · exact ne_of_none h hp (List.mem_singleton.mp z), fun z => z⟩⟩
theorem Xt.put {F H : Hp} {μ : List Addr} {p : Addr} {o : HO} (hp : p ∈ μ) : Xt F H μ F (upd H p o) μ :=
  ⟨Ext.refl F μ, fun a u h n _ => ⟨by rw [upd_ne (Ne.symm (ne_mem hp n))]; exact h, n, fun z => z⟩⟩
section
variable (K : PySem.W.Frag) (mg : Str → Option Value)
def Post {α : Type} (W : XK) (F H : Hp) (μ : List Addr) (o : Res α) (R : Hp → List Addr → Sto → α → Hp → Prop) : Prop :=
  match o with
  | some (.ok a S') => ∀ F' μ' H', Xt F H μ F' H' μ' → RepS K mg F' H' μ' S' → R F' μ' S' a H'
  | some (.exc e S') => ∀ F' μ' H' c d, Xt F H μ F' H' μ' → RepS K mg F' H' μ' S' → ExcOk K mg F' μ' H' e c d → W c d H'
  | none => False
def RV (Q : VK) : Hp → List Addr → Sto → Val → Hp → Prop := fun F' μ' _ v H' => ∀ w, RepV K F' μ' v w → Q w H'
def RB (Q : Bool → Hp → Prop) : Hp → List Addr → Sto → Bool → Hp → Prop := fun _ _ _ b H' => Q b H'
def RA (Q : List V → Hp → Prop) : Hp → List Addr → Sto → List Val → Hp → Prop := fun F' μ' _ v H' => ∀ w, RepL K F' μ' v w → Q w H'
abbrev atS (W : WX) (σ : L2.St) : XK := fun c d H => W c d σ H
def tM (W : WX) (m : ME) : TE := fun σ H Q => ∃ ρ F μ S, RepS K mg F H μ S ∧ RepE K F μ ρ σ ∧ Post K mg (atS W σ) F H μ (m ρ S) (RV K Q)
def tMT (W : WX) (m : MT) : TT := fun σ H Q => ∃ ρ F μ S, RepS K mg F H μ S ∧ RepE K F μ ρ σ ∧ Post K mg (atS W σ) F H μ (m ρ S) (RB Q)
def tMA (W : WX) (m : MA) : TA := fun σ H Q => ∃ ρ F μ S, RepS K mg F H μ S ∧ RepE K F μ ρ σ ∧ Post K mg (atS W σ) F H μ (m ρ S) (RA K Q)
def RS (W : WX) (D : Ends) (F' : Hp) (μ' : List Addr) (H' : Hp) : Fl → Prop
  | .next ρ => ∀ σ, RepE K F' μ' ρ σ → D.nx σ H'
  | .brk ρ => ∀ σ, RepE K F' μ' ρ σ → D.bk σ H'
  | .cont ρ => ∀ σ, RepE K F' μ' ρ σ → D.ct σ H'
  | .ret v => ∀ w, RepV K F' μ' v w → D.rt w H'
  | .exc ρ e => ∀ σ c d, RepE K F' μ' ρ σ → ExcOk K mg F' μ' H' e c d → W c d σ H'
def PostS (W : WX) (F H : Hp) (μ : List Addr) (o : SRes) (D : Ends) : Prop :=
  match o with
  | some (f, S') => ∀ F' μ' H', Xt F H μ F' H' μ' → RepS K mg F' H' μ' S' → RS K mg W D F' μ' H' f
  | none => False
def tMS (W : WX) (m : MS) : TS := fun D σ H => ∃ ρ F μ S, RepS K mg F H μ S ∧ RepE K F μ ρ σ ∧ PostS K mg W F H μ (m ρ S) D
end
section
variable {K : PySem.W.Frag} {mg : Str → Option Value} {W : XK} {F F1 H H1 : Hp} {μ μ1 : List Addr} {α β : Type}
theorem Post.imp {o : Res α} {R R' : Hp → List Addr → Sto → α → Hp → Prop} (h : Post K mg W F H μ o R) (e : Xt F H μ F1 H1 μ1) (i : ∀ F' μ' S' a H', Xt F1 H1 μ1 F' H' μ' → RepS K mg F' H' μ' S' → R F' μ' S' a H' → R' F' μ' S' a H') : Post K mg W F1 H1 μ1 o R' := by
  cases o with
  | none => exact h
  | some o =>
    cases o with
    | ok a S => exact fun F' μ' H' e' r => i F' μ' S a H' e' r (h F' μ' H' (e.trans e') r)
    | exc x S => exact fun F' μ' H' c d e' r x' => h F' μ' H' c d (e.trans e') r x'
theorem Post.bind {o : Res α} {k : α → Sto → Res β} {R : Hp → List Addr → Sto → β → Hp → Prop} (h : Post K mg W F H μ (bnd o k) R) : Post K mg W F H μ o (fun F1 μ1 S1 a H1 => Post K mg W F1 H1 μ1 (k a S1) R) := by
  cases o with
  | none => exact h
  | some o =>
    cases o with
    | ok a S => exact fun F' μ' H' e' r => Post.imp h e' fun _ _ _ _ _ _ _ q => q
    | exc x S => exact h
theorem PostS.imp {W : WX} {o : SRes} {D D' : Ends} (h : PostS K mg W F H μ o D) (e : Xt F H μ F1 H1 μ1) (i : ∀ F' μ' S' f H', Xt F1 H1 μ1 F' H' μ' → RepS K mg F' H' μ' S' → RS K mg W D F' μ' H' f → RS K mg W D' F' μ' H' f) : PostS K mg W F1 H1 μ1 o D' := by
  cases o with
  | none => exact h
  | some o =>
    obtain ⟨f, S⟩ := o
    exact fun F' μ' H' e' r => i F' μ' S f H' e' r (h F' μ' H' (e.trans e') r)
theorem PostS.ext {W : WX} {o : SRes} {D : Ends} (h : PostS K mg W F H μ o D) (e : Xt F H μ F1 H1 μ1) : PostS K mg W F1 H1 μ1 o D := h.imp e fun _ _ _ _ _ _ _ q => q
theorem PostS.bind {W : WX} {o : Res α} {k : α → Sto → SRes} {D : Ends} {ρ : Ev} {σ : L2.St} (hE : RepE K F μ ρ σ) (h : PostS K mg W F H μ (bns ρ o k) D) : Post K mg (atS W σ) F H μ o (fun F1 μ1 S1 a H1 => PostS K mg W F1 H1 μ1 (k a S1) D) := by
  cases o with
  | none => exact h
  | some o =>
    cases o with
    | ok a S => exact fun F' μ' H' e' r => h.ext e'
    | exc x S => exact fun F' μ' H' c d e' r x' => h F' μ' H' e' r σ c d (hE.mono e'.toExt) x'
end

def GE (X : Cx) (W : WX) (e : Expr) (m : ME) : Prop := PE X e (tM X.K X.mg W m)
def GT (X : Cx) (W : WX) (e : Expr) (m : MT) : Prop := PT X e (tMT X.K X.mg W m)
def GW (X : Cx) (W : WX) (e : Expr) (m : MT) : Prop := PW X e (tMT X.K X.mg W m)
def GA (X : Cx) (W : WX) (es : List Expr) (m : MA) : Prop := PA X es (tMA X.K X.mg W m)
def GS (X : Cx) (W : WX) (st : Stmt) (m : MS) : Prop := PS X st (tMS X.K X.mg W m)
def GSs (X : Cx) (W : WX) (st : List Stmt) (m : MS) : Prop := PSs X st (tMS X.K X.mg W m)

section
variable {X : Cx} {W : WX} {e a b c : Expr} {pos : Pos} {t : TE}
theorem ge_of {m : ME} (h : PE X e t) (i : ∀ σ H Q, tM X.K X.mg W m σ H Q → t σ H Q) : GE X W e m := ⟨fun pins s σ H Q I hw => h.run pins s σ H Q I (i σ H Q hw)⟩
theorem gt_of {t : TT} {m : MT} (h : PT X e t) (i : ∀ σ H Q, tMT X.K X.mg W m σ H Q → t σ H Q) : GT X W e m := ⟨fun pins s σ H Q I hw => h.run pins s σ H Q I (i σ H Q hw)⟩
theorem gw_of {t : TT} {m : MT} (h : PW X e t) (i : ∀ σ H Q, tMT X.K X.mg W m σ H Q → t σ H Q) : GW X W e m := ⟨fun wh pins s σ H Q I hw => h.run wh pins s σ H Q I (i σ H Q hw)⟩
theorem ga_of {es : List Expr} {t : TA} {m : MA} (h : PA X es t) (i : ∀ σ H Q, tMA X.K X.mg W m σ H Q → t σ H Q) : GA X W es m := ⟨fun pos pins s σ H Q I hw => h.run pos pins s σ H Q I (i σ H Q hw)⟩
theorem gs_of {st : Stmt} {t : TS} {m : MS} (h : PS X st t) (i : ∀ D σ H, tMS X.K X.mg W m D σ H → t D σ H) : GS X W st m := ⟨fun pins s σ H D I hw => h.run pins s σ H D I (i D σ H hw)⟩
theorem gss_of {st : List Stmt} {t : TS} {m : MS} (h : PSs X st t) (i : ∀ D σ H, tMS X.K X.mg W m D σ H → t D σ H) : GSs X W st m := ⟨fun pins s σ H D I hw => h.run pins s σ H D I (i D σ H hw)⟩

def mVar (i : Nat) : ME := fun ρ S => match ρ[i]? with
  | some (some v) => some (.ok v S)
  | _ => none
def mC (v : Val) : ME := fun _ S => some (.ok v S)
theorem tM_ok {K : PySem.W.Frag} {mg : Str → Option Value} {W : XK} {F H : Hp} {μ : List Addr} {S : Sto} {v : Val} {w : V} {Q : VK} (h : Post K mg W F H μ (some (.ok v S)) (RV K Q)) (r : RepS K mg F H μ S) (q : RepV K F μ v w) : Q w H := h F μ H (Xt.refl F H μ) r w q
theorem ge_var (i : Nat) {x : Str} (hN : X.N[i]? = some x := by rfl) (hv : Vis X.env.scope x := by first | exact Or.inl rfl | exact Or.inr (Or.inl rfl) | exact Or.inr (Or.inr rfl)) (hd : (x == ("__debug__" : Str)) = false := by decide)
    (hcd : (x == ("__classdict__" : Str)) = false := by decide) : GE X W (.Name x pos) (mVar i) := by
  refine ge_of (pe_var hN hv hd hcd) fun σ H Q h => ?_
  obtain ⟨ρ, F, μ, S, hS, hE, hP⟩ := h
  unfold mVar at hP
  split at hP
  · rename_i v e
    obtain ⟨w, hw, r⟩ := hE.2 i v e
    exact ⟨w, hw, tM_ok hP hS r⟩
  · exact hP.elim
theorem ge_tC {v : Val} {w : V} (h : PE X e (tC w)) (r : ∀ F μ, RepV X.K F μ v w) : GE X W e (mC v) := by
  refine ge_of h fun σ H Q h => ?_
  obtain ⟨ρ, F, μ, S, hS, hE, hP⟩ := h
  exact tM_ok hP hS (r F μ)
theorem ge_int {i j} : GE X W (.Constant (.int i) j pos) (mC (.int i)) := ge_tC pe_int fun _ _ => .int
theorem ge_bl {b j} : GE X W (.Constant (.bool b) j pos) (mC (.bl b)) := ge_tC pe_bl fun _ _ => .bl
theorem ge_non {j} : GE X W (.Constant .none j pos) (mC .non) := ge_tC pe_non fun _ _ => .non
theorem ge_str {x j} : GE X W (.Constant (.str x) j pos) (mC (.str x)) := ge_tC pe_str fun _ _ => .str
theorem ge_glob {x : Str} {v : Val} {w : V} {u : Value} (hg : Gl X x) (hm : X.mg x = some u) (r : RelV w u) (q : ∀ F μ, RepV X.K F μ v w) (hd : (x == ("__debug__" : Str)) = false := by decide) : GE X W (.Name x pos) (mC v) := ge_tC (pe_glob hg hm r hd) q
theorem ge_bltn {x : Str} {w : V} {u : Value} (hg : Gl X x) (hm : X.mg x = none) (hv : bootBuiltins x = some u) (r : RelV w u) (hn : x ≠ "__name__" := by decide) (hd : (x == ("__debug__" : Str)) = false := by decide) : GE X W (.Name x pos) (mC (.con w)) :=
  ge_tC (pe_bltn hg hm hv r hn hd) fun _ _ => .con

theorem bind_tM {K : PySem.W.Frag} {mg : Str → Option Value} {W : WX} {m : ME} {ρ : Ev} {F H : Hp} {μ : List Addr} {S : Sto} {σ : L2.St} {R : Hp → List Addr → Sto → Val → Hp → Prop} {T : VK}
    (hS : RepS K mg F H μ S) (hE : RepE K F μ ρ σ) (hP : Post K mg (atS W σ) F H μ (m ρ S) R)
    (h : ∀ F1 μ1 S1 v w H1, Xt F H μ F1 H1 μ1 → RepS K mg F1 H1 μ1 S1 → RepE K F1 μ1 ρ σ → RepV K F1 μ1 v w → R F1 μ1 S1 v H1 → T w H1) : tM K mg W m σ H T :=
  ⟨ρ, F, μ, S, hS, hE, hP.imp (Xt.refl F H μ) fun F' μ' S' v H' e r q w rw => h F' μ' S' v w H' e r (hE.mono e.toExt) rw q⟩
theorem bind_tMT {K : PySem.W.Frag} {mg : Str → Option Value} {W : WX} {m : MT} {ρ : Ev} {F H : Hp} {μ : List Addr} {S : Sto} {σ : L2.St} {R : Hp → List Addr → Sto → Bool → Hp → Prop} {T : Bool → Hp → Prop}
    (hS : RepS K mg F H μ S) (hE : RepE K F μ ρ σ) (hP : Post K mg (atS W σ) F H μ (m ρ S) R)
    (h : ∀ F1 μ1 S1 v H1, Xt F H μ F1 H1 μ1 → RepS K mg F1 H1 μ1 S1 → RepE K F1 μ1 ρ σ → R F1 μ1 S1 v H1 → T v H1) : tMT K mg W m σ H T :=
  ⟨ρ, F, μ, S, hS, hE, hP.imp (Xt.refl F H μ) fun F' μ' S' v H' e r q => h F' μ' S' v H' e r (hE.mono e.toExt) q⟩
theorem bind_tMA {K : PySem.W.Frag} {mg : Str → Option Value} {W : WX} {m : MA} {ρ : Ev} {F H : Hp} {μ : List Addr} {S : Sto} {σ : L2.St} {R : Hp → List Addr → Sto → List Val → Hp → Prop} {T : List V → Hp → Prop}
    (hS : RepS K mg F H μ S) (hE : RepE K F μ ρ σ) (hP : Post K mg (atS W σ) F H μ (m ρ S) R)
    (h : ∀ F1 μ1 S1 v w H1, Xt F H μ F1 H1 μ1 → RepS K mg F1 H1 μ1 S1 → RepE K F1 μ1 ρ σ → RepL K F1 μ1 v w → R F1 μ1 S1 v H1 → T w H1) : tMA K mg W m σ H T :=
  ⟨ρ, F, μ, S, hS, hE, hP.imp (Xt.refl F H μ) fun F' μ' S' v H' e r q w rw => h F' μ' S' v w H' e r (hE.mono e.toExt) rw q⟩

def rP2 (K : PySem.W.Frag) (mg : Str → Option Value) (f : Sto → Val → Val → Option Val) : R2 := fun x y H Q => ∃ vx vy F μ S r, RepS K mg F H μ S ∧ RepV K F μ vx x ∧ RepV K F μ vy y ∧ f S vx vy = some r ∧
  ∀ F' H' w, Xt F H μ F' H' μ → RepS K mg F' H' μ S → RepV K F' μ r w → Q w H'
def rP1 (K : PySem.W.Frag) (mg : Str → Option Value) (f : Sto → Val → Option Val) : V → Hp → VK → Prop := fun x H Q => ∃ vx F μ S r, RepS K mg F H μ S ∧ RepV K F μ vx x ∧ f S vx = some r ∧
  ∀ F' H' w, Xt F H μ F' H' μ → RepS K mg F' H' μ S → RepV K F' μ r w → Q w H'
def rPC (K : PySem.W.Frag) (mg : Str → Option Value) (f : Sto → List Val → Option Val) : List V → Hp → VK → Prop := fun xs H Q => ∃ vs F μ S r, RepS K mg F H μ S ∧ RepL K F μ vs xs ∧ f S vs = some r ∧
  ∀ F' H' w, Xt F H μ F' H' μ → RepS K mg F' H' μ S → RepV K F' μ r w → Q w H'
def rSC (K : PySem.W.Frag) (mg : Str → Option Value) (f : Sto → List Val → Option (Val × Sto)) : List V → Hp → VK → Prop := fun xs H Q => ∃ vs F μ S r S', RepS K mg F H μ S ∧ RepL K F μ vs xs ∧ f S vs = some (r, S') ∧
  ∀ F' μ' H' w, Xt F H μ F' H' μ' → RepS K mg F' H' μ' S' → RepV K F' μ' r w → Q w H'
abbrev GO2 (X : Cx) (op : Value → Value → Sem Value) (f : Sto → Val → Val → Option Val) : Prop := OpR X op (rP2 X.K X.mg f)
abbrev GO1 (X : Cx) (op : Value → Sem Value) (f : Sto → Val → Option Val) : Prop := UnR X op (rP1 X.K X.mg f)
abbrev GCa (X : Cx) (fn : Value) (f : Sto → List Val → Option Val) : Prop := CallR X fn (rPC X.K X.mg f)
abbrev GCs (X : Cx) (fn : Value) (f : Sto → List Val → Option (Val × Sto)) : Prop := CallR X fn (rSC X.K X.mg f)
def mO2 (f : Sto → Val → Val → Option Val) (ma mb : ME) : ME := fun ρ S => bnd (ma ρ S) fun x S1 => bnd (mb ρ S1) fun y S2 => pur (f S2 x y) S2
def mO1 (f : Sto → Val → Option Val) (ma : ME) : ME := fun ρ S => bnd (ma ρ S) fun x S1 => pur (f S1 x) S1
def mNil : MA := fun _ S => some (.ok [] S)
def mCons (m : ME) (ms : MA) : MA := fun ρ S => bnd (m ρ S) fun x S1 => bnd (ms ρ S1) fun xs S2 => some (.ok (x :: xs) S2)
def mCa (f : Sto → List Val → Option Val) (ms : MA) : ME := fun ρ S => bnd (ms ρ S) fun xs S1 => pur (f S1 xs) S1
def mCs (f : Sto → List Val → Option (Val × Sto)) (ms : MA) : ME := fun ρ S => bnd (ms ρ S) fun xs S1 => prs (f S1 xs)
theorem pur_post {K : PySem.W.Frag} {mg : Str → Option Value} {W : XK} {F H : Hp} {μ : List Addr} {o : Option Val} {S : Sto} {Q : VK} (h : Post K mg W F H μ (pur o S) (RV K Q)) : ∃ r, o = some r ∧ ∀ F' H' w, Xt F H μ F' H' μ → RepS K mg F' H' μ S → RepV K F' μ r w → Q w H' := by
  cases o with
  | none => exact h.elim
  | some r => exact ⟨r, rfl, fun F' H' w e s q => h F' μ H' e s w q⟩
theorem tOp_of {r : R2} {ma mb : ME} {f : Sto → Val → Val → Option Val} (hr : r = rP2 X.K X.mg f) : ∀ σ H Q, tM X.K X.mg W (mO2 f ma mb) σ H Q → tOp r (tM X.K X.mg W ma) (tM X.K X.mg W mb) σ H Q := by
  subst hr
  intro σ H Q h
  obtain ⟨ρ, F, μ, S, hS, hE, hP⟩ := h
  refine bind_tM hS hE hP.bind fun F1 μ1 S1 v w H1 e1 s1 q1 r1 p1 => ?_
  refine bind_tM s1 q1 p1.bind fun F2 μ2 S2 v2 w2 H2 e2 s2 q2 r2 p2 => ?_
  obtain ⟨r, e, k⟩ := pur_post p2
  exact ⟨v, v2, F2, μ2, S2, r, s2, r1.mono e2.toExt, r2, e, k⟩
theorem ge_op {op : Operator} {f : Sto → Val → Val → Option Val} {ma mb : ME} (ho : GO2 X (binaryOp op) f) (ha : GE X W a ma) (hb : GE X W b mb) : GE X W (.BinOp a op b pos) (mO2 f ma mb) := ge_of (pe_op ho ha hb) (tOp_of rfl)
theorem ge_cmp {op : CmpOp} {f : Sto → Val → Val → Option Val} {ma mb : ME} (ho : GO2 X (compareOp op) f) (ha : GE X W a ma) (hb : GE X W b mb) (hm : behindInMarks op b = false := by rfl) : GE X W (.Compare a [op] [b] pos) (mO2 f ma mb) := ge_of (pe_cmpR ho ha hb hm) (tOp_of rfl)
theorem ge_ix {f : Sto → Val → Val → Option Val} {ma mb : ME} (ho : IxR X (rP2 X.K X.mg f)) (ha : GE X W a ma) (hb : GE X W b mb) (hs : PlainIx b := by intro _ _; rfl) : GE X W (.Subscript a b pos) (mO2 f ma mb) := ge_of (pe_ix ho ha hb hs) (tOp_of rfl)
theorem ge_un {op : UnaryOp} {f : Sto → Val → Option Val} {ma : ME} (ho : GO1 X (unaryOp op) f) (ha : GE X W a ma) : GE X W (.UnaryOp op a pos) (mO1 f ma) := by
  refine ge_of (pe_un ho ha) fun σ H Q h => ?_
  obtain ⟨ρ, F, μ, S, hS, hE, hP⟩ := h
  refine bind_tM hS hE hP.bind fun F1 μ1 S1 v w H1 e1 s1 q1 r1 p1 => ?_
  obtain ⟨r, e, k⟩ := pur_post p1
  exact ⟨v, F1, μ1, S1, r, s1, r1, e, k⟩

theorem ga_nil : GA X W [] mNil := by
  refine ga_of pa_nil fun σ H Q h => ?_
  obtain ⟨ρ, F, μ, S, hS, hE, hP⟩ := h
  exact hP F μ H (Xt.refl F H μ) hS [] .nil
theorem ga_cons {es : List Expr} {m : ME} {ms : MA} (ha : GE X W e m) (hr : GA X W es ms) (hs : starEach (e :: es) X.env = (false, eval e X.env) :: starEach es X.env := by rfl) : GA X W (e :: es) (mCons m ms) := by
  refine ga_of (pa_cons ha hr hs) fun σ H Q h => ?_
  obtain ⟨ρ, F, μ, S, hS, hE, hP⟩ := h
  refine bind_tM hS hE hP.bind fun F1 μ1 S1 v w H1 e1 s1 q1 r1 p1 => ?_
  refine bind_tMA s1 q1 p1.bind fun F2 μ2 S2 v2 w2 H2 e2 s2 q2 r2 p2 => ?_
  exact p2 F2 μ2 H2 (Xt.refl _ _ _) s2 _ (.cons (r1.mono e2.toExt) r2)
def mTup (ms : MA) : ME := fun ρ S => bnd (ms ρ S) fun xs S1 => if xs.length ≤ sizeLine then some (.ok (.tup xs) S1) else none
def mLst (ms : MA) : ME := fun ρ S => bnd (ms ρ S) fun xs S1 => if xs.length ≤ sizeLine then some (.ok (.lst xs) S1) else none
def mNew (ms : MA) : ME := fun ρ S => bnd (ms ρ S) fun xs S1 => if xs.length ≤ sizeLine then some (.ok (.cell S1.length) (S1 ++ [.lst xs])) else none
abbrev nT (o : Obj) (ws : List V) : HO := .frz o (.tup ws)
theorem RepS.newTup {K : PySem.W.Frag} {mg : Str → Option Value} {F H : Hp} {μ : List Addr} {S : Sto} {p : Addr} {o : Obj} {xs : List Val} {ws : List V} (h : RepS K mg F H μ S) (hp : H p = none) (ho : o.dict = none) (r : RepL K F μ xs ws) :
    Xt F H μ (upd F p (nT o ws)) (upd H p (nT o ws)) μ ∧ RepS K mg (upd F p (nT o ws)) (upd H p (nT o ws)) μ S ∧ RepV K (upd F p (nT o ws)) μ (.tup xs) (.ref p) :=
  ⟨Xt.new (h.nF hp) hp, h.alloc _ hp, .tup (.inl ⟨o, ho, upd_same⟩) (r.mono (ext_upd F μ (h.nF hp)))⟩
def tTupN (t : TA) : TE := fun σ H Q => t σ H fun xs H1 => xs.length ≤ sizeLine ∧ ∀ p o, o.dict = none → H1 p = none → Q (.ref p) (upd H1 p (nT o xs))
theorem pe_tupN {X : Cx} {es : List Expr} {t : TA} {x1} {pos : Pos} (h : PA X es t) : PE X (.Tuple es x1 pos) (tTupN t) := by
  refine ⟨fun pins s σ H Q I hq => ?_⟩
  refine wpAny_Tuple_spliced (thn (h.run pos pins s σ H _ I hq) fun us s1 ⟨xs, H1, I1, r, z, q⟩ => ⟨by rw [← r.length]; exact z, ?_⟩)
  have hf : H1 s1.heap.objs.size = none := I1.hok.fresh (Nat.le_refl _)
  exact ⟨.ref s1.heap.objs.size, upd H1 s1.heap.objs.size (nT _ xs), I1.laid (t' := s1.toks) (fun b u e => Heap.get?_push_of_some _ e) (Nat.le_refl _) ⟨Heap.get?_push_size _ rfl, z, us, r, ⟨_, Heap.get?_push_size _ rfl, rfl, _, rfl⟩⟩, rfl, q _ _ rfl hf⟩
theorem RepS.newLst {K : PySem.W.Frag} {mg : Str → Option Value} {F H : Hp} {μ : List Addr} {S : Sto} {p : Addr} {xs : List Val} {ws : List V} (h : RepS K mg F H μ S) (hp : H p = none) (r : RepL K F μ xs ws) :
    Xt F H μ (upd F p (.lst ws)) (upd H p (.lst ws)) μ ∧ RepS K mg (upd F p (.lst ws)) (upd H p (.lst ws)) μ S ∧ RepV K (upd F p (.lst ws)) μ (.lst xs) (.ref p) :=
  ⟨Xt.new (h.nF hp) hp, h.alloc _ hp, .lst upd_same (r.mono (ext_upd F μ (h.nF hp)))⟩
theorem RepS.newCell {K : PySem.W.Frag} {mg : Str → Option Value} {F H : Hp} {μ : List Addr} {S : Sto} {p : Addr} {xs : List Val} {ws : List V} (h : RepS K mg F H μ S) (hp : H p = none) (r : RepL K F μ xs ws) :
    Xt F H μ F (upd H p (.lst ws)) (μ ++ [p]) ∧ RepS K mg F (upd H p (.lst ws)) (μ ++ [p]) (S ++ [.lst xs]) ∧ RepV K F (μ ++ [p]) (.cell S.length) (.ref p) := by
  have e : Xt F H μ F (upd H p (.lst ws)) (μ ++ [p]) := Xt.cell hp
  exact ⟨e, h.cell hp ⟨ws, upd_same, r.mono e.toExt⟩, .cell (by rw [← h.len]; simp)⟩
theorem ge_tup {es : List Expr} {ms : MA} {x1} (h : GA X W es ms) : GE X W (.Tuple es x1 pos) (mTup ms) := by
  refine ge_of (pe_tupN h) fun σ H Q h => ?_
  obtain ⟨ρ, F, μ, S, hS, hE, hP⟩ := h
  refine bind_tMA hS hE hP.bind fun F1 μ1 S1 v w H1 e1 s1 q1 r1 p1 => ?_
  split at p1
  · rename_i hz
    refine ⟨by rw [← r1.length]; exact hz, fun p o ho hp => ?_⟩
    obtain ⟨k1, k2, k3⟩ := s1.newTup hp ho r1
    exact p1 _ _ _ k1 k2 _ k3
  · exact p1.elim
theorem ge_lst {es : List Expr} {ms : MA} (h : GA X W es ms) : GE X W (.List es pos) (mLst ms) := by
  refine ge_of (pe_lst h) fun σ H Q h => ?_
  obtain ⟨ρ, F, μ, S, hS, hE, hP⟩ := h
  refine bind_tMA hS hE hP.bind fun F1 μ1 S1 v w H1 e1 s1 q1 r1 p1 => ?_
  split at p1
  · rename_i hz
    refine ⟨by rw [← r1.length]; exact hz, fun p hp => ?_⟩
    obtain ⟨k1, k2, k3⟩ := s1.newLst hp r1
    exact p1 _ _ _ k1 k2 _ k3
  · exact p1.elim
theorem ge_new {es : List Expr} {ms : MA} (h : GA X W es ms) : GE X W (.List es pos) (mNew ms) := by
  refine ge_of (pe_lst h) fun σ H Q h => ?_
  obtain ⟨ρ, F, μ, S, hS, hE, hP⟩ := h
  refine bind_tMA hS hE hP.bind fun F1 μ1 S1 v w H1 e1 s1 q1 r1 p1 => ?_
  split at p1
  · rename_i hz
    refine ⟨by rw [← r1.length]; exact hz, fun p hp => ?_⟩
    obtain ⟨k1, k2, k3⟩ := s1.newCell hp r1
    exact p1 _ _ _ k1 k2 _ k3
  · exact p1.elim
theorem tCB_of {ms : MA} {f : Sto → List Val → Option Val} : ∀ σ H Q, tM X.K X.mg W (mCa f ms) σ H Q → tCB (rPC X.K X.mg f) (tMA X.K X.mg W ms) σ H Q := by
  intro σ H Q h
  obtain ⟨ρ, F, μ, S, hS, hE, hP⟩ := h
  refine bind_tMA hS hE hP.bind fun F1 μ1 S1 v w H1 e1 s1 q1 r1 p1 => ?_
  obtain ⟨r, e, k⟩ := pur_post p1
  exact ⟨v, F1, μ1, S1, r, s1, r1, e, k⟩
variable {x : Str} {p : Pos} {es : List Expr} {id T : String}
theorem ge_callB {f : Sto → List Val → Option Val} {ms : MA} (hc : GCa X (.builtin id) f) (hg : Gl X x) (hm : X.mg x = none) (hv : bootBuiltins x = some (.builtin id)) (ha : GA X W (e :: es) ms) (hn : x ≠ "__name__" := by decide) (hdb : (x == ("__debug__" : Str)) = false := by decide)
    (he : starEach (e :: es) X.env = (false, eval e X.env) :: starEach es X.env := by rfl) (hpl : (backTo pos (starEach es X.env)).any (·.1) = false := by rfl) : GE X W (.Call (.Name x p) (e :: es) [] pos) (mCa f ms) := ge_of (pe_callB hc hg hm hv ha hn hdb he hpl) tCB_of
theorem ge_callTy {f : Sto → List Val → Option Val} {ms : MA} (hc : GCa X (.type T) f) (hg : Gl X x) (hm : X.mg x = none) (hv : bootBuiltins x = some (.type T)) (ha : GA X W (e :: es) ms) (hn : x ≠ "__name__" := by decide) (hdb : (x == ("__debug__" : Str)) = false := by decide)
    (he : starEach (e :: es) X.env = (false, eval e X.env) :: starEach es X.env := by rfl) (hpl : (backTo pos (starEach es X.env)).any (·.1) = false := by rfl) : GE X W (.Call (.Name x p) (e :: es) [] pos) (mCa f ms) := ge_of (pe_callTy hc hg hm hv ha hn hdb he hpl) tCB_of
end
end G

set_option Elab.async false
set_option linter.all false
set_option maxRecDepth 100000
set_option maxHeartbeats 4000000
namespace G
open PySem PySem.Spec PyProof.Rows L2

def lstOf (S : Sto) : Val → Option (List Val)
  | .lst xs => some xs
  | .cell k => match S[k]? with
    | some (.lst xs) => some xs
    | _ => none
  | _ => none
theorem lstOf_ok {K : PySem.W.Frag} {mg : Str → Option Value} {F H : Hp} {μ : List Addr} {S : Sto} {v : Val} {w : V} {xs : List Val} (h : RepS K mg F H μ S) (r : RepV K F μ v w) (e : lstOf S v = some xs) : ∃ a vs, w = .ref a ∧ H a = some (.lst vs) ∧ RepL K F μ xs vs := by
  cases v with
  | lst ys =>
    cases e
    cases r with
    | lst q l => exact ⟨_, _, rfl, h.sub _ _ q, l⟩
  | cell k =>
    cases r with
    | cell hk =>
      rename_i a
      unfold lstOf at e
      simp only at e
      split at e
      · rename_i ys q
        cases e
        obtain ⟨vs, h1, h2⟩ := h.cells k a _ hk q
        exact ⟨a, vs, rfl, h1, h2⟩
      · cases e
  | _ => cases e
def seqOf (S : Sto) : Val → Option (Bool × List Val)
  | .tup xs => some (true, xs)
  | .scr ns => some (false, ns.map Val.int)
  | v => match lstOf S v with
    | some xs => some (false, xs)
    | none => none
theorem seqOf_ok {K : PySem.W.Frag} {mg : Str → Option Value} {F H : Hp} {μ : List Addr} {S : Sto} {v : Val} {w : V} {b : Bool} {xs : List Val} (h : RepS K mg F H μ S) (r : RepV K F μ v w) (e : seqOf S v = some (b, xs)) :
    ∃ a vs, w = .ref a ∧ RepL K F μ xs vs ∧ ((b = true ∧ SqT K H a vs ∧ v = .tup xs) ∨ (b = false ∧ SqL K H a vs)) := by
  have go : ∀ ys, lstOf S v = some ys → b = false → xs = ys → ∃ a vs, w = .ref a ∧ RepL K F μ xs vs ∧ ((b = true ∧ SqT K H a vs ∧ v = .tup xs) ∨ (b = false ∧ SqL K H a vs)) := fun ys q hb hx => by
    obtain ⟨a, vs, e1, e2, e3⟩ := lstOf_ok h r q
    exact ⟨a, vs, e1, hx ▸ e3, .inr ⟨hb, SqL.of e2⟩⟩
  cases v with
  | tup ys =>
    cases e
    cases r with
    | tup q l => exact ⟨_, _, rfl, l, .inl ⟨rfl, same_seqT h.sub q.sq, rfl⟩⟩
  | scr ns =>
    cases e
    cases r with
    | scr q => exact ⟨_, _, rfl, RepL.ofInts, .inr ⟨rfl, h.sub.seq q⟩⟩
  | lst ys => cases e; exact go xs rfl rfl rfl
  | cell k =>
    unfold seqOf at e
    simp only at e
    split at e
    · rename_i ys q; cases e; exact go _ q rfl rfl
    · cases e
  | _ => cases e

def truth (S : Sto) : Val → Option Bool
  | .non => some false
  | .bl b => some b
  | .int i => some (i != 0)
  | .str x => if x.length ≤ sizeLine then some ((x.length : Int) != 0) else none
  | v => match seqOf S v with
    | some (_, xs) => some (!xs.isEmpty)
    | none => none
theorem RepL.empty {K : PySem.W.Frag} {F : Hp} {μ : List Addr} {xs : List Val} {vs : List V} (r : RepL K F μ xs vs) : xs.isEmpty = vs.isEmpty := by cases r <;> rfl
theorem truth_ok {K : PySem.W.Frag} {mg : Str → Option Value} {F H : Hp} {μ : List Addr} {S : Sto} {v : Val} {w : V} {b : Bool} (h : RepS K mg F H μ S) (r : RepV K F μ v w) (e : truth S v = some b) : TruV K w H b := by
  have go : ∀ c xs, seqOf S v = some (c, xs) → b = !xs.isEmpty → TruV K w H b := fun c xs q hb => by
    obtain ⟨a, vs, rfl, l, z⟩ := seqOf_ok h r q
    rw [hb, l.empty]
    rcases z with ⟨_, z, _⟩ | ⟨_, z⟩
    · exact .inr (.inl ⟨vs, z, rfl⟩)
    · exact .inl ⟨vs, z, rfl⟩
  cases v with
  | non => cases e; cases r; rfl
  | bl c => cases e; cases r; rfl
  | int i => cases e; cases r; rfl
  | str x =>
    unfold truth at e
    simp only at e
    split at e
    · rename_i hz; cases e; cases r; exact ⟨hz, rfl⟩
    · cases e
  | tup ys => cases e; exact go true ys rfl rfl
  | lst ys => cases e; exact go false ys rfl rfl
  | scr ns => cases e; exact go false _ rfl rfl
  | cell k =>
    unfold truth at e
    simp only at e
    split at e
    · rename_i c xs q; cases e; exact go c xs q rfl
    · cases e
  | dct kvs => cases e
  | con v => cases e
  | fnv x => cases e
  | err c fs a d => cases e
  | ex0 c => cases e
  | ex1 c f x => cases e
  | prs xs => cases e
def mTr (m : ME) : MT := fun ρ S => bnd (m ρ S) fun v S1 => pur (truth S1 v) S1
def toB : Val → Option Bool
  | .bl b => some b
  | _ => none
def mTB (m : ME) : MT := fun ρ S => bnd (m ρ S) fun v S1 => pur (toB v) S1
theorem purB_post {K : PySem.W.Frag} {mg : Str → Option Value} {W : XK} {F H : Hp} {μ : List Addr} {o : Option Bool} {S : Sto} {Q : Bool → Hp → Prop} (h : Post K mg W F H μ (pur o S) (RB Q)) (s : RepS K mg F H μ S) : ∃ r, o = some r ∧ Q r H := by
  cases o with
  | none => exact h.elim
  | some r => exact ⟨r, rfl, h F μ H (Xt.refl _ _ _) s⟩
theorem toB_ok {K : PySem.W.Frag} {F : Hp} {μ : List Addr} {v : Val} {w : V} {b : Bool} (r : RepV K F μ v w) (e : toB v = some b) : w = .bl b := by
  cases v <;> first | (cases e; cases r; rfl) | cases e
section
variable {X : Cx} {W : WX} {e a b c : Expr} {pos : Pos} {ma mb mc : ME} {ta tb : MT} {rest : List Expr}
theorem gt_cmp {op : CmpOp} {f : Sto → Val → Val → Option Val} (ho : GO2 X (compareOp op) f) (ha : GE X W a ma) (hb : GE X W b mb) (hm : behindInMarks op b = false := by rfl) : GT X W (.Compare a [op] [b] pos) (mTB (mO2 f ma mb)) := by
  refine gt_of (pt_cmpR ho ha hb hm) fun σ H Q h => ?_
  obtain ⟨ρ, F, μ, S, hS, hE, hP⟩ := h
  refine tOp_of (W := W) rfl σ H _ ?_
  refine bind_tM hS hE hP.bind fun F1 μ1 S1 v w H1 e1 s1 q1 r1 p1 => ?_
  obtain ⟨r, e, k⟩ := purB_post p1 s1
  exact ⟨r, toB_ok r1 e, k⟩
theorem gt_tr (ha : GE X W a ma) (he : ∀ whole, isTrue a X.env whole = (do let v ← whole; standAt a.pos; holding [v] (truthy v)) := by intro _; rfl) : GT X W a (mTr ma) := by
  refine gt_of (pt_truth ha he) fun σ H Q h => ?_
  obtain ⟨ρ, F, μ, S, hS, hE, hP⟩ := h
  refine bind_tM hS hE hP.bind fun F1 μ1 S1 v w H1 e1 s1 q1 r1 p1 => ?_
  obtain ⟨r, e, k⟩ := purB_post p1 s1
  exact ⟨r, truth_ok s1 r1 e, k⟩
def mAndT (m n : MT) : MT := fun ρ S => bnd (m ρ S) fun b S1 => if b then n ρ S1 else some (.ok false S1)
def mOrT (m n : MT) : MT := fun ρ S => bnd (m ρ S) fun b S1 => if b then some (.ok true S1) else n ρ S1
def mNotT (m : MT) : MT := fun ρ S => bnd (m ρ S) fun b S1 => some (.ok (!b) S1)
theorem GW.gt (h : GW X W a ta) : GT X W a ta := PW.pt h
theorem gw_and1 (ha : GT X W a ta) : GW X W (.BoolOp .And [a] pos) ta := pw_and1 ha
theorem gw_or1 (ha : GT X W a ta) : GW X W (.BoolOp .Or [a] pos) ta := pw_or1 ha
theorem gw_and (ha : GT X W a ta) (hb : GW X W (.BoolOp .And (b :: rest) pos) tb) : GW X W (.BoolOp .And (a :: b :: rest) pos) (mAndT ta tb) := by
  refine gw_of (pw_and ha hb) fun σ H Q h => ?_
  obtain ⟨ρ, F, μ, S, hS, hE, hP⟩ := h
  refine bind_tMT hS hE hP.bind fun F1 μ1 S1 v H1 e1 s1 q1 p1 => ?_
  cases v with
  | true => exact ⟨ρ, F1, μ1, S1, s1, q1, p1⟩
  | false => exact p1 F1 μ1 H1 (Xt.refl _ _ _) s1
theorem gw_or (ha : GT X W a ta) (hb : GW X W (.BoolOp .Or (b :: rest) pos) tb) : GW X W (.BoolOp .Or (a :: b :: rest) pos) (mOrT ta tb) := by
  refine gw_of (pw_or ha hb) fun σ H Q h => ?_
  obtain ⟨ρ, F, μ, S, hS, hE, hP⟩ := h
  refine bind_tMT hS hE hP.bind fun F1 μ1 S1 v H1 e1 s1 q1 p1 => ?_
  cases v with
  | false => exact ⟨ρ, F1, μ1, S1, s1, q1, p1⟩
  | true => exact p1 F1 μ1 H1 (Xt.refl _ _ _) s1
theorem gt_not (ha : GT X W a ta) : GT X W (.UnaryOp .Not a pos) (mNotT ta) := by
  refine gt_of (pt_not ha) fun σ H Q h => ?_
  obtain ⟨ρ, F, μ, S, hS, hE, hP⟩ := h
  refine bind_tMT hS hE hP.bind fun F1 μ1 S1 v H1 e1 s1 q1 p1 => ?_
  exact p1 F1 μ1 H1 (Xt.refl _ _ _) s1
def mAnd (m n : ME) : ME := fun ρ S => bnd (m ρ S) fun v S1 => match truth S1 v with
  | some true => n ρ S1
  | some false => some (.ok v S1)
  | none => none
def mOr (m n : ME) : ME := fun ρ S => bnd (m ρ S) fun v S1 => match truth S1 v with
  | some true => some (.ok v S1)
  | some false => n ρ S1
  | none => none
def mNot (m : ME) : ME := fun ρ S => bnd (m ρ S) fun v S1 => match truth S1 v with
  | some b => some (.ok (.bl (!b)) S1)
  | none => none
theorem ge_one {op} (h : GE X W a ma) : GE X W (.BoolOp op [a] pos) ma := pe_one h
theorem ge_and (ha : GE X W a ma) (hb : GE X W (.BoolOp .And (b :: rest) pos) mb) : GE X W (.BoolOp .And (a :: b :: rest) pos) (mAnd ma mb) := by
  refine ge_of (pe_andT ha hb) fun σ H Q h => ?_
  obtain ⟨ρ, F, μ, S, hS, hE, hP⟩ := h
  refine bind_tM hS hE hP.bind fun F1 μ1 S1 v w H1 e1 s1 q1 r1 p1 => ?_
  split at p1
  · rename_i e; exact ⟨true, truth_ok s1 r1 e, ⟨ρ, F1, μ1, S1, s1, q1, p1⟩⟩
  · rename_i e; exact ⟨false, truth_ok s1 r1 e, p1 F1 μ1 H1 (Xt.refl _ _ _) s1 w r1⟩
  · exact p1.elim
def mIf (t : MT) (m n : ME) : ME := fun ρ S => bnd (t ρ S) fun b S1 => if b then m ρ S1 else n ρ S1
def mChain (f g : Sto → Val → Val → Option Val) (ma mb mc : ME) : ME := fun ρ S => bnd (ma ρ S) fun x S1 => bnd (mb ρ S1) fun y S2 => match f S2 x y with
  | some (.bl true) => bnd (mc ρ S2) fun z S3 => pur (g S3 y z) S3
  | some (.bl false) => some (.ok (.bl false) S2)
  | _ => none
end

abbrev MO := Ev → Sto → Res (Option Int)
def tMO (K : PySem.W.Frag) (mg : Str → Option Value) (W : WX) (m : MO) : TO := fun σ H Q => ∃ ρ F μ S, RepS K mg F H μ S ∧ RepE K F μ ρ σ ∧ Post K mg (atS W σ) F H μ (m ρ S) (fun _ _ _ o H' => Q o H')
def GOp (X : Cx) (W : WX) (e : Option Expr) (m : MO) : Prop := PO X e (tMO X.K X.mg W m)
def mNo : MO := fun _ S => some (.ok none S)
def mPart (m : ME) : MO := fun ρ S => bnd (m ρ S) fun v S1 => match v with
  | .int i => some (.ok (some i) S1)
  | .non => none
  | _ => none
section
variable {X : Cx} {W : WX} {e : Expr} {lo hi : Option Expr} {pos p2 : Pos} {m : ME} {ml mh : MO}
theorem gp_none : GOp X W none mNo := ⟨fun pins s σ H Q I h => by
  obtain ⟨ρ, F, μ, S, hS, hE, hP⟩ := h
  exact po_none.run pins s σ H Q I (hP F μ H (Xt.refl _ _ _) hS)⟩
theorem gp_some (h : GE X W e m) : GOp X W (some e) (mPart m) := ⟨fun pins s σ H Q I hw => by
  refine (po_some h).run pins s σ H Q I ?_
  obtain ⟨ρ, F, μ, S, hS, hE, hP⟩ := hw
  refine bind_tM hS hE hP.bind fun F1 μ1 S1 v w H1 e1 s1 q1 r1 p1 => ?_
  split at p1
  · cases r1; exact ⟨_, rfl, p1 F1 μ1 H1 (Xt.refl _ _ _) s1⟩
  · exact p1.elim
  · exact p1.elim⟩
def rPS (K : PySem.W.Frag) (mg : Str → Option Value) (f : Sto → Val → Option Int → Option Int → Option Val) : V → Option Int → Option Int → Hp → VK → Prop := fun x lo hi H Q => ∃ vx F μ S r, RepS K mg F H μ S ∧ RepV K F μ vx x ∧ f S vx lo hi = some r ∧
  ∀ F' H' w, Xt F H μ F' H' μ → RepS K mg F' H' μ S → RepV K F' μ r w → Q w H'
def mSl (f : Sto → Val → Option Int → Option Int → Option Val) (m : ME) (ml mh : MO) : ME := fun ρ S => bnd (m ρ S) fun x S1 => bnd (ml ρ S1) fun l S2 => bnd (mh ρ S2) fun h S3 => pur (f S3 x l h) S3
theorem ge_slice {f : Sto → Val → Option Int → Option Int → Option Val} (hr : SlR X (rPS X.K X.mg f)) (he : GE X W e m) (hl : GOp X W lo ml) (hu : GOp X W hi mh) : GE X W (.Subscript e (.Slice lo hi none p2) pos) (mSl f m ml mh) := by
  refine ge_of (pe_slice hr he hl hu) fun σ H Q h => ?_
  obtain ⟨ρ, F, μ, S, hS, hE, hP⟩ := h
  refine bind_tM hS hE hP.bind fun F1 μ1 S1 v w H1 e1 s1 q1 r1 p1 => ?_
  refine ⟨ρ, F1, μ1, S1, s1, q1, p1.bind.imp (Xt.refl _ _ _) fun F2 μ2 S2 o2 H2 e2 s2 p2 => ?_⟩
  refine ⟨ρ, F2, μ2, S2, s2, q1.mono e2.toExt, p2.bind.imp (Xt.refl _ _ _) fun F3 μ3 S3 o3 H3 e3 s3 p3 => ?_⟩
  obtain ⟨r, e', k⟩ := pur_post p3
  exact ⟨v, F3, μ3, S3, r, s3, r1.mono (e2.toExt.trans e3.toExt), e', k⟩
end
end G

set_option Elab.async false
set_option linter.all false
set_option maxRecDepth 100000
set_option maxHeartbeats 4000000
namespace G
open PySem PySem.Spec PyProof.Rows L2

def sNil : MS := fun ρ S => some (.next ρ, S)
def sSeq (m n : MS) : MS := fun ρ S => match m ρ S with
  | some (.next ρ', S') => n ρ' S'
  | r => r
def sExpr (m : ME) : MS := fun ρ S => bns ρ (m ρ S) fun _ S1 => some (.next ρ, S1)
def sRet (m : ME) : MS := fun ρ S => bns ρ (m ρ S) fun v S1 => some (.ret v, S1)
def sRetN : MS := fun ρ S => some (.ret .non, S)
def sIf (t : MT) (m n : MS) : MS := fun ρ S => bns ρ (t ρ S) fun b S1 => if b then m ρ S1 else n ρ S1
def sBrk : MS := fun ρ S => some (.brk ρ, S)
def sCont : MS := fun ρ S => some (.cont ρ, S)
def sSet (i : Nat) (m : ME) : MS := fun ρ S => bns ρ (m ρ S) fun v S1 => some (.next (ρ.set i (some v)), S1)
section
variable {X : Cx} {W : WX} {st : Stmt} {rest : List Stmt} {e c : Expr} {pos : Pos} {me : ME} {mt : MT} {m n : MS}
theorem stop {K : PySem.W.Frag} {mg : Str → Option Value} {F H : Hp} {μ : List Addr} {S : Sto} {D : Ends} {f : Fl} (h : PostS K mg W F H μ (some (f, S)) D) (s : RepS K mg F H μ S) : RS K mg W D F μ H f := h F μ H (Xt.refl _ _ _) s
theorem gss_nil : GSs X W [] sNil := by
  refine gss_of pss_nil fun D σ H h => ?_
  obtain ⟨ρ, F, μ, S, hS, hE, hP⟩ := h
  exact stop hP hS σ hE
theorem RS.next_imp {K : PySem.W.Frag} {mg : Str → Option Value} {F H : Hp} {μ : List Addr} {D D' : Ends} {f : Fl} (h : RS K mg W D F μ H f) (hn : ∀ ρ, f ≠ .next ρ) (hr : D.rt = D'.rt) (hb : D.bk = D'.bk) (hc : D.ct = D'.ct) : RS K mg W D' F μ H f := by
  cases f with
  | next ρ => exact absurd rfl (hn ρ)
  | brk ρ => exact fun σ r => hb ▸ h σ r
  | cont ρ => exact fun σ r => hc ▸ h σ r
  | ret v => exact fun w r => hr ▸ h w r
  | exc ρ x => exact h
theorem seq_tMS {K : PySem.W.Frag} {mg : Str → Option Value} {D : Ends} {σ : L2.St} {H : Hp} (h : tMS K mg W (sSeq m n) D σ H) : tMS K mg W m { D with nx := tMS K mg W n D } σ H := by
  obtain ⟨ρ, F, μ, S, hS, hE, hP⟩ := h
  refine ⟨ρ, F, μ, S, hS, hE, ?_⟩
  unfold sSeq at hP
  split at hP
  · rename_i ρ' S' e
    rw [e]
    exact fun F' μ' H' e' r' σ' q' => ⟨ρ', F', μ', S', r', q', hP.ext e'⟩
  · rename_i hne
    cases q : m ρ S with
    | none => rw [q] at hP; exact hP.elim
    | some o =>
      obtain ⟨f, S'⟩ := o
      rw [q] at hP
      refine fun F' μ' H' e' r' => (hP F' μ' H' e' r').next_imp (fun ρ' z => ?_) rfl rfl rfl
      subst z
      exact hne ρ' S' q
theorem gss_cons (h1 : GS X W st m) (h2 : GSs X W rest n) : GSs X W (st :: rest) (sSeq m n) := gss_of (pss_cons h1 h2) fun D σ H h => seq_tMS h
theorem gss_one (h1 : GS X W st m) : GSs X W [st] m := pss_one h1
theorem gs_ret (he : GE X W e me) : GS X W (.Return (some e) pos) (sRet me) := by
  refine gs_of (ps_ret he) fun D σ H h => ?_
  obtain ⟨ρ, F, μ, S, hS, hE, hP⟩ := h
  exact bind_tM hS hE (hP.bind hE) fun F1 μ1 S1 v w H1 e1 s1 q1 r1 p1 => stop p1 s1 w r1
theorem gs_if {a b : List Stmt} (hc : GT X W c mt) (ha : GSs X W a m) (hb : GSs X W b n) : GS X W (.If c a b pos) (sIf mt m n) := by
  refine gs_of (ps_if hc ha hb) fun D σ H h => ?_
  obtain ⟨ρ, F, μ, S, hS, hE, hP⟩ := h
  refine bind_tMT hS hE (hP.bind hE) fun F1 μ1 S1 v H1 e1 s1 q1 p1 => ?_
  cases v with
  | true => exact ⟨ρ, F1, μ1, S1, s1, q1, p1⟩
  | false => exact ⟨ρ, F1, μ1, S1, s1, q1, p1⟩
theorem gs_set (i : Nat) {x : Str} {pos' : Pos} (hN : X.N.Nodup) (he : GE X W e me) (hi : X.N[i]? = some x := by rfl) (hx : Loc X.env.scope x := by first | exact Or.inl rfl | exact Or.inr rfl) (hs : swapsWith e (some (.Name x pos')) pos.line X.env = pure false := by rfl) (hf : X.fn x = true ∨ X.env.scope.names.lookup x = some .local := by first | exact .inl rfl | exact .inr rfl | assumption) :
    GS X W (.Assign [.Name x pos'] e pos) (sSet i me) := by
  refine gs_of (ps_set hN hi hx he hs hf) fun D σ H h => ?_
  obtain ⟨ρ, F, μ, S, hS, hE, hP⟩ := h
  exact bind_tM hS hE (hP.bind hE) fun F1 μ1 S1 v w H1 e1 s1 q1 r1 p1 => stop p1 s1 _ (q1.set r1 i)
def sPar (i j : Nat) (ms : MA) : MS := fun ρ S => bns ρ (ms ρ S) fun vs S1 => match vs with
  | [v, w] => some (.next ((ρ.set i (some v)).set j (some w)), S1)
  | _ => none
theorem gs_par (i j : Nat) {x y : Str} {a b : Expr} {ms : MA} {px py pt : Pos} {kt k2 pt2} (hc : X.calm = true) (hN : X.N.Nodup) (ha : GA X W [a, b] ms) (hi : X.N[i]? = some x := by rfl) (hj : X.N[j]? = some y := by rfl) (hij : i ≠ j := by decide)
    (hx : X.env.scope.names.lookup x = some .local := by rfl) (hy : X.env.scope.names.lookup y = some .local := by rfl)
    (hw : swappedStores [.Tuple [.Name x px, .Name y py] kt pt] (.Tuple [a, b] k2 pt2) X.env = pure (some [x, y]) := by rfl)
    (hs : swapsWithSole [.Tuple [.Name x px, .Name y py] kt pt] (.Tuple [a, b] k2 pt2) pos.line X.env = pure false := by rfl) :
    GS X W (.Assign [.Tuple [.Name x px, .Name y py] kt pt] (.Tuple [a, b] k2 pt2) pos) (sPar i j ms) := by
  refine gs_of (ps_par hc hN hi hj hij hx hy ha hw hs) fun D σ H h => ?_
  obtain ⟨ρ, F, μ, S, hS, hE, hP⟩ := h
  refine bind_tMA hS hE (hP.bind hE) fun F1 μ1 S1 v w H1 e1 s1 q1 r1 p1 => ?_
  split at p1
  · obtain ⟨w1, w2, rfl, r1, r2⟩ := r1.two
    exact ⟨w1, w2, rfl, stop p1 s1 _ ((q1.set r1 i).set r2 j)⟩
  · exact p1.elim
def sPar3 (i j l : Nat) (ms : MA) : MS := fun ρ S => bns ρ (ms ρ S) fun vs S1 => match vs with
  | [u, v, w] => some (.next (((ρ.set i (some u)).set j (some v)).set l (some w)), S1)
  | _ => none
theorem RepL.three {K : PySem.W.Frag} {F : Hp} {μ : List Addr} {x y z : Val} {vs : List V} (h : RepL K F μ [x, y, z] vs) : ∃ v w u, vs = [v, w, u] ∧ RepV K F μ x v ∧ RepV K F μ y w ∧ RepV K F μ z u := by
  cases h with | cons r t => cases t with | cons r' t' => cases t' with | cons r2 t2 => cases t2; exact ⟨_, _, _, rfl, r, r', r2⟩
theorem gs_par3 (i j l : Nat) {x y z : Str} {a b c : Expr} {ms : MA} {px py pz pt pos : Pos} {kt k2 pt2} (hc : X.calm = true) (hN : X.N.Nodup) (ha : GA X W [a, b, c] ms) (hi : X.N[i]? = some x := by rfl) (hj : X.N[j]? = some y := by rfl) (hl : X.N[l]? = some z := by rfl) (hij : i ≠ j := by decide) (hil : i ≠ l := by decide) (hjl : j ≠ l := by decide)
    (hx : X.env.scope.names.lookup x = some .local := by rfl) (hy : X.env.scope.names.lookup y = some .local := by rfl) (hz : X.env.scope.names.lookup z = some .local := by rfl)
    (hw : swappedStores [.Tuple [.Name x px, .Name y py, .Name z pz] kt pt] (.Tuple [a, b, c] k2 pt2) X.env = pure (some [x, y, z]) := by rfl)
    (hs : swapsWithSole [.Tuple [.Name x px, .Name y py, .Name z pz] kt pt] (.Tuple [a, b, c] k2 pt2) pos.line X.env = pure false := by rfl) :
    GS X W (.Assign [.Tuple [.Name x px, .Name y py, .Name z pz] kt pt] (.Tuple [a, b, c] k2 pt2) pos) (sPar3 i j l ms) := by
  refine gs_of (ps_par3 hc hN hi hj hl hij hil hjl hx hy hz ha hw hs) fun D σ H h => ?_
  obtain ⟨ρ, F, μ, S, hS, hE, hP⟩ := h
  refine bind_tMA hS hE (hP.bind hE) fun F1 μ1 S1 v w H1 e1 s1 q1 r1 p1 => ?_
  split at p1
  · obtain ⟨w1, w2, w3, rfl, r1, r2, r3⟩ := r1.three
    exact ⟨w1, w2, w3, rfl, stop p1 s1 _ (((q1.set r1 i).set r2 j).set r3 l)⟩
  · exact p1.elim
def sAug (i : Nat) (f : Sto → Val → Val → Option Val) (m : ME) : MS := fun ρ S => match ρ[i]? with
  | some (some x) => bns ρ (m ρ S) fun y S1 => match f S1 x y with
    | some z => some (.next (ρ.set i (some z)), S1)
    | none => none
  | _ => none
end

abbrev MG := Sto → Val → Ev → Option Ev
abbrev MGs := Sto → List Val → Ev → Option Ev
def Off (ts : List Nat) (σ σ1 : L2.St) : Prop := σ1.length = σ.length ∧ ∀ i, i ∉ ts → σ1[i]? = σ[i]?
theorem Off.refl (ts : List Nat) (σ : L2.St) : Off ts σ σ := ⟨rfl, fun _ _ => rfl⟩
theorem Off.set (i : Nat) (σ : L2.St) (z : Option V) : Off [i] σ (σ.set i z) := ⟨by simp, fun j hj => List.getElem?_set_ne fun e => hj (by simp [e])⟩
theorem Off.both {ts us : List Nat} {σ σ1 σ2 : L2.St} (a : Off ts σ σ1) (b : Off us σ1 σ2) : Off (ts ++ us) σ σ2 :=
  ⟨b.1.trans a.1, fun i hi => (b.2 i fun z => hi (List.mem_append_right _ z)).trans (a.2 i fun z => hi (List.mem_append_left _ z))⟩
def tG (K : PySem.W.Frag) (mg : Str → Option Value) (ts : List Nat) (f : MG) : TG := fun v σ H Q => ∃ x ρ F μ S ρ1, RepS K mg F H μ S ∧ RepE K F μ ρ σ ∧ RepV K F μ x v ∧ f S x ρ = some ρ1 ∧ ∀ σ1, RepE K F μ ρ1 σ1 → Off ts σ σ1 → Q σ1 H
def tGs (K : PySem.W.Frag) (mg : Str → Option Value) (ts : List Nat) (f : MGs) : TGs := fun v σ H Q => ∃ x ρ F μ S ρ1, RepS K mg F H μ S ∧ RepE K F μ ρ σ ∧ RepL K F μ x v ∧ f S x ρ = some ρ1 ∧ ∀ σ1, RepE K F μ ρ1 σ1 → Off ts σ σ1 → Q σ1 H
def GG (X : Cx) (tg : Expr) (ts : List Nat) (f : MG) : Prop := PG X tg (tG X.K X.mg ts f)
def GGs (X : Cx) (es : List Expr) (ts : List Nat) (f : MGs) : Prop := PGs X es (tGs X.K X.mg ts f)
def gN (i : Nat) : MG := fun _ v ρ => some (ρ.set i (some v))
def gsNil : MGs := fun _ vs ρ => match vs with
  | [] => some ρ
  | _ => none
def gsCons (f : MG) (g : MGs) : MGs := fun S vs ρ => match vs with
  | v :: r => (f S v ρ).bind fun ρ1 => g S r ρ1
  | [] => none
def prsOf : Val → Option (List Val)
  | .prs xs => some xs
  | _ => none
def gT (n : Nat) (g : MGs) : MG := fun S v ρ => match prsOf v with
  | some xs => if xs.length = n then g S xs ρ else none
  | none => match seqOf S v with
    | some (_, xs) => if xs.length = n then g S xs ρ else none
    | none => none
section
variable {X : Cx} {pos : Pos}
theorem gg_name (i : Nat) {x : Str} (hN : X.N.Nodup) (hi : X.N[i]? = some x := by rfl) (hx : Loc X.env.scope x := by first | exact Or.inl rfl | exact Or.inr rfl) (hf : X.fn x = true ∨ X.env.scope.names.lookup x = some .local := by first | exact .inl rfl | exact .inr rfl | assumption) : GG X (.Name x pos) [i] (gN i) := ⟨fun pins s σ H v u Q I r h => by
  obtain ⟨x, ρ, F, μ, S, ρ1, hS, hE, rv, e, k⟩ := h
  cases e
  exact (pg_name hN hi hx hf).run pins s σ H v u Q I r (k _ (hE.set rv i) (Off.set i σ _))⟩
theorem ggs_nil : GGs X [] [] gsNil := ⟨fun pins s σ H vs us Q I r h => by
  obtain ⟨x, ρ, F, μ, S, ρ1, hS, hE, rv, e, k⟩ := h
  cases rv with
  | nil => cases e; exact pgs_nil.run pins s σ H _ us Q I r ⟨rfl, k _ hE (Off.refl _ _)⟩
  | cons _ _ => cases e⟩
theorem ggs_cons {e : Expr} {es : List Expr} {f : MG} {g : MGs} {ts us : List Nat} (h1 : GG X e ts f) (h2 : GGs X es us g)
    (hs : (assignEach (e :: es) X.env).map (·.2) = assign e X.env :: (assignEach es X.env).map (·.2) := by rfl) : GGs X (e :: es) (ts ++ us) (gsCons f g) := ⟨fun pins s σ H vs us Q I r h => by
  obtain ⟨x, ρ, F, μ, S, ρ1, hS, hE, rv, e, k⟩ := h
  cases rv with
  | nil => cases e
  | cons rv rt =>
    rename_i v vr xs vs
    obtain ⟨ρ2, e2, e3⟩ := Option.bind_eq_some_iff.mp e
    exact (pgs_cons h1 h2 hs).run pins s σ H _ us Q I r ⟨_, _, rfl, v, ρ, F, μ, S, ρ2, hS, hE, rv, e2, fun σ1 q1 o1 => ⟨_, ρ2, F, μ, S, ρ1, hS, q1, rt, e3, fun σ2 q2 o2 => k σ2 q2 (o1.both o2)⟩⟩⟩
theorem gg_tup {es : List Expr} {k : Nat} {g : MGs} {n : Nat} {ts : List Nat} (hc : X.calm = true) (h : GGs X es ts g)
    (hn : (assignEach es X.env).length = n := by rfl) (hst : (assignEach es X.env).findIdx? (·.1) = none := by rfl) : GG X (.Tuple es k pos) ts (gT n g) := ⟨fun pins s σ H v u Q I r hw => by
  obtain ⟨x, ρ, F, μ, S, ρ1, hS, hE, rv, e, kk⟩ := hw
  unfold gT at e
  split at e
  · rename_i xs es'
    split at e
    · rename_i hl
      unfold prsOf at es'
      split at es'
      · cases es'
        cases rv with
        | prs z rl => exact (pg_tup hc h hn hst).run pins s σ H _ u Q I r ⟨_, _, rfl, same_seqT hS.sub z, by rw [← rl.length]; exact hl, _, ρ, F, μ, S, ρ1, hS, hE, rl, e, kk⟩
      · cases es'
    · cases e
  · split at e
    · rename_i b xs es'
      split at e
      · rename_i hl
        obtain ⟨a, vs, rfl, rl, z⟩ := seqOf_ok hS rv es'
        rcases z with ⟨_, z, _⟩ | ⟨_, z⟩
        · exact (pg_tup hc h hn hst).run pins s σ H _ u Q I r ⟨a, vs, rfl, z, by rw [← rl.length]; exact hl, xs, ρ, F, μ, S, ρ1, hS, hE, rl, e, kk⟩
        · exact (pg_lst hc h hn hst).run pins s σ H _ u Q I r ⟨a, vs, rfl, z, by rw [← rl.length]; exact hl, xs, ρ, F, μ, S, ρ1, hS, hE, rl, e, kk⟩
      · cases e
    · cases e⟩
end
section
variable {X : Cx} {W : WX} {e tg : Expr} {pos : Pos} {me : ME}
def sAsg (g : MG) (m : ME) : MS := fun ρ S => bns ρ (m ρ S) fun v S1 => match g S1 v ρ with
  | some ρ1 => some (.next ρ1, S1)
  | none => none
theorem gs_asg {g : MG} {ts : List Nat} (he : GE X W e me) (hg : GG X tg ts g) (hs : swapsWithSole [tg] e pos.line X.env = pure false := by rfl) (hw : swappedStores [tg] e X.env = pure none := by rfl)
    (h1 : (assignEach [tg] X.env).map (·.2) = [assign tg X.env] := by rfl) : GS X W (.Assign [tg] e pos) (sAsg g me) := by
  refine gs_of (ps_asg he hg hs hw h1) fun D σ H h => ?_
  obtain ⟨ρ, F, μ, S, hS, hE, hP⟩ := h
  refine bind_tM hS hE (hP.bind hE) fun F1 μ1 S1 v w H1 e1 s1 q1 r1 p1 => ?_
  split at p1
  · rename_i ρ1 e'
    exact ⟨v, ρ, F1, μ1, S1, ρ1, s1, q1, r1, e', fun σ1 q _ => stop p1 s1 σ1 q⟩
  · exact p1.elim
def rSI (K : PySem.W.Frag) (mg : Str → Option Value) (f : Sto → Val → Val → Val → Option Sto) : TSet := fun o i v H Q => ∃ vo vi vv F μ S S', RepS K mg F H μ S ∧ RepV K F μ vo o ∧ RepV K F μ vi i ∧ RepV K F μ vv v ∧ f S vo vi vv = some S' ∧
  ∀ F' μ' H', Xt F H μ F' H' μ' → RepS K mg F' H' μ' S' → Q H'
def sSub (f : Sto → Val → Val → Val → Option Sto) (mo mi m : ME) : MS := fun ρ S => bns ρ (m ρ S) fun v S1 => bns ρ (mo ρ S1) fun o S2 => bns ρ (mi ρ S2) fun i S3 => match f S3 o i v with
  | some S4 => some (.next ρ, S4)
  | none => none
theorem gs_sub {o i : Expr} {p' : Pos} {f : Sto → Val → Val → Val → Option Sto} {mo mi : ME} (hf : PSet X (rSI X.K X.mg f)) (ho : GE X W o mo) (hi : GE X W i mi) (he : GE X W e me)
    (ha : ∀ v, assign (.Subscript o i p') X.env v = (do
      let ov ← holding [v] (eval o X.env)
      let iv ← holding [v, ov] (eval i X.env)
      standAt p'
      holding [v, ov, iv] (setItem ov iv v)
      release [v, ov, iv] []) := by intro _; rfl)
    (hs : swapsWithSole [.Subscript o i p'] e pos.line X.env = pure false := by rfl) (hw : swappedStores [.Subscript o i p'] e X.env = pure none := by rfl)
    (h1 : (assignEach [.Subscript o i p'] X.env).map (·.2) = [assign (.Subscript o i p') X.env] := by rfl) : GS X W (.Assign [.Subscript o i p'] e pos) (sSub f mo mi me) := by
  refine gs_of (ps_asg he (pg_sub ho hi hf ha) hs hw h1) fun D σ H h => ?_
  obtain ⟨ρ, F, μ, S, hS, hE, hP⟩ := h
  refine bind_tM hS hE (hP.bind hE) fun F1 μ1 S1 v w H1 e1 s1 q1 r1 p1 => ?_
  refine bind_tM s1 q1 (p1.bind q1) fun F2 μ2 S2 v2 w2 H2 e2 s2 q2 r2 p2 => ?_
  refine bind_tM s2 q2 (p2.bind q2) fun F3 μ3 S3 v3 w3 H3 e3 s3 q3 r3 p3 => ?_
  split at p3
  · rename_i S4 e'
    exact ⟨v2, v3, v, F3, μ3, S3, S4, s3, r2.mono e3.toExt, r3, r1.mono (e2.toExt.trans e3.toExt), e', fun F' μ' H' e4 s4 => p3 F' μ' H' e4 s4 σ (q3.mono e4.toExt)⟩
  · exact p3.elim
end

abbrev Gd := List (Nat × Cell)
def gOk (g : Gd) (S : Sto) : Prop := ∀ p ∈ g, S[p.1]? = some p.2
abbrev MI := Ev → Sto → Res (List Val × Gd)
structure Walks (K : PySem.W.Frag) (mg : Str → Option Value) (J : It) (F H : Hp) (μ : List Addr) (xs : List Val) (g : Gd) : Prop where
  goes : ∀ F1 H1 μ1 S1 i x, Xt F H μ F1 H1 μ1 → RepS K mg F1 H1 μ1 S1 → gOk g S1 → xs[i]? = some x → J.go i H1 ∧ ∀ w H2, J.yld i H1 w H2 → ∃ F2, Xt F1 H1 μ1 F2 H2 μ1 ∧ RepS K mg F2 H2 μ1 S1 ∧ RepV K F2 μ1 x w
  stops : ∀ F1 H1 μ1 S1, Xt F H μ F1 H1 μ1 → RepS K mg F1 H1 μ1 S1 → gOk g S1 → J.stop xs.length H1
def tMI (K : PySem.W.Frag) (mg : Str → Option Value) (W : WX) (m : MI) : TI := fun σ H R => ∃ ρ F μ S, RepS K mg F H μ S ∧ RepE K F μ ρ σ ∧ Post K mg (atS W σ) F H μ (m ρ S) (fun F' μ' S' a H' => ∀ J, Walks K mg J F' H' μ' a.1 a.2 → R J H')
def GI (X : Cx) (W : WX) (tg iter : Expr) (m : MI) : Prop := PI X tg iter (tMI X.K X.mg W m)

open Classical in
noncomputable def forL (g : Gd) (t : MG) (b : MS) : List Val → MS
  | [], ρ, S => if gOk g S then some (.next ρ, S) else none
  | x :: xs, ρ, S => if gOk g S then match t S x ρ with
      | some ρ1 => match b ρ1 S with
        | some (.next ρ2, S2) => forL g t b xs ρ2 S2
        | some (.cont ρ2, S2) => forL g t b xs ρ2 S2
        | some (.brk ρ2, S2) => some (.next ρ2, S2)
        | r => r
      | none => none
    else none
noncomputable def sFor (mi : MI) (t : MG) (b : MS) : MS := fun ρ S => bns ρ (mi ρ S) fun a S1 => forL a.2 t b a.1 ρ S1
section
variable {X : Cx} {W : WX} {tg iter : Expr} {pos : Pos} {mi : MI} {t : MG} {b : MS}
theorem gs_for {body : List Stmt} {ts : List Nat} (hp : PassesOwn (model X.prog X.w) X.A X.env X.xe) (hc : X.calm = true) (hi : GI X W tg iter mi) (hg : GG X tg ts t) (hb : GSs X W body b)
    (hs : ∀ x, foldedSetIterable iter X.env x = pure x := by intro _; rfl) : GS X W (.For tg iter body [] pos) (sFor mi t b) := by
  refine gs_of (ps_for hp hc hi hg hb hs) fun D σ H h => ?_
  obtain ⟨ρ, F, μ, S, hS, hE, hP⟩ := h
  refine ⟨ρ, F, μ, S, hS, hE, (hP.bind hE).imp (Xt.refl _ _ _) fun F1 μ1 S1 a H1 e1 s1 p1 J wk => ?_⟩
  obtain ⟨xs, g⟩ := a
  -- the invariant: what is left to be walked brings the end
  refine ⟨fun i m σ' H' => m = xs.length - i ∧ i ≤ xs.length ∧ ∃ ρ' F' μ' S', Xt F1 H1 μ1 F' H' μ' ∧ RepS X.K X.mg F' H' μ' S' ∧ RepE X.K F' μ' ρ' σ' ∧ PostS X.K X.mg W F' H' μ' (forL g t b (xs.drop i) ρ' S') D,
    ⟨xs.length, rfl, Nat.zero_le _, ρ, F1, μ1, S1, Xt.refl _ _ _, s1, hE.mono e1.toExt, p1⟩, ?_⟩
  rintro i m σ' H' ⟨rfl, hi', ρ', F', μ', S', x', s', q', p'⟩
  by_cases hlt : i < xs.length
  · have hx : xs[i]? = some xs[i] := List.getElem?_eq_getElem hlt
    rw [List.drop_eq_getElem_cons hlt] at p'
    unfold forL at p'
    split at p'
    · rename_i hg'
      obtain ⟨go, yl⟩ := wk.goes F' H' μ' S' i _ x' s' hg' hx
      refine .inr ⟨go, fun σ2 H2 => i + 1 ≤ xs.length ∧ ∃ ρ' F' μ' S', Xt F1 H1 μ1 F' H2 μ' ∧ RepS X.K X.mg F' H2 μ' S' ∧ RepE X.K F' μ' ρ' σ2 ∧ PostS X.K X.mg W F' H2 μ' (forL g t b (xs.drop (i + 1)) ρ' S') D,
        fun σ2 H2 ⟨l2, z⟩ => ⟨xs.length - (i + 1), by omega, rfl, l2, z⟩, fun w H2 y => ?_⟩
      obtain ⟨F2, x2, s2, r2⟩ := yl w H2 y
      split at p'
      · rename_i ρ1 et
        refine ⟨xs[i], ρ', F2, μ', S', ρ1, s2, q'.mono x2.toExt, r2, et, fun σ1 q1 _ => ?_⟩
        refine ⟨ρ1, F2, μ', S', s2, q1, ?_⟩
        have p2 := p'.ext x2
        split at p2
        · rename_i ρ2 S2 eb
          rw [eb]
          exact fun F3 μ3 H3 x3 s3 σ3 q3 => ⟨hlt, ρ2, F3, μ3, S2, (x'.trans x2).trans x3, s3, q3, p2.ext x3⟩
        · rename_i ρ2 S2 eb
          rw [eb]
          exact fun F3 μ3 H3 x3 s3 σ3 q3 => ⟨hlt, ρ2, F3, μ3, S2, (x'.trans x2).trans x3, s3, q3, p2.ext x3⟩
        · rename_i ρ2 S2 eb
          rw [eb]
          exact fun F3 μ3 H3 x3 s3 σ3 q3 => p2 F3 μ3 H3 x3 s3 σ3 q3
        · rename_i n1 n2 n3
          cases eb : b ρ1 S' with
          | none => rw [eb] at p2; exact p2.elim
          | some o =>
            obtain ⟨f, S2⟩ := o
            rw [eb] at p2
            intro F3 μ3 H3 x3 s3
            have p3 := p2 F3 μ3 H3 x3 s3
            cases f with
            | next ρ2 => exact absurd eb (n1 ρ2 S2)
            | cont ρ2 => exact absurd eb (n2 ρ2 S2)
            | brk ρ2 => exact absurd eb (n3 ρ2 S2)
            | ret v => exact p3
            | exc ρ2 x => exact p3
      · exact p'.elim
    · exact p'.elim
  · have e : i = xs.length := by omega
    subst e
    rw [List.drop_length] at p'
    unfold forL at p'
    split at p'
    · rename_i hg'
      exact .inl ⟨wk.stops F' H' μ' S' x' s' hg', stop p' s' σ' q'⟩
    · exact p'.elim
end

section
variable {X : Cx} {W : WX} {c : Expr} {pos : Pos} {t : MT} {b : MS}
end
end G

set_option Elab.async false
set_option linter.all false
set_option maxRecDepth 100000
set_option maxHeartbeats 4000000
namespace G
open PySem PySem.Spec PyProof.Rows L2

section
variable {K : PySem.W.Frag} {mg : Str → Option Value} {F H : Hp} {μ : List Addr} {S : Sto} {p : Addr} {o : HO}
theorem RepS.junk (h : RepS K mg F H μ S) (hF : F p = none) (hm : p ∉ μ) (ht : ∀ ps, H p ≠ some (.tbl ps)) : RepS K mg F (upd H p o) μ S := by
  refine ⟨fun b x q => ?_, h.len, h.nd, h.off, fun a ha => ?_, fun k a c h1 h2 => ?_, h.tabs.step (Same.refl F) fun P ps h1 h2 h3 => ⟨upd_ne fun z => ht ps (z ▸ h1), h3, h2⟩⟩
  · rw [upd_ne (ne_of_none q hF)]; exact h.sub b x q
  · rw [upd_ne (ne_mem ha hm)]; exact h.there a ha
  · exact (h.cells k a c h1 h2).mono (Ext.refl F μ) (upd_ne (ne_mem (List.mem_of_getElem? h1) hm))
theorem RepS.froze (h : RepS K mg F H μ S) (hF : F p = none) (hm : p ∉ μ) (hp : H p = some o) (ht : ∀ ps, o ≠ .tbl ps) : RepS K mg (upd F p o) H μ S := by
  have e := ext_upd F μ (o := o) hF
  refine ⟨fun b x q => ?_, h.len, h.nd, fun a ha => ?_, h.there, fun k a c h1 h2 => (h.cells k a c h1 h2).mono e rfl, h.tabs.step e.sub fun P ps h1 h2 h3 => ⟨rfl, (upd_ne fun z => ht ps (Option.some.inj (hp.symm.trans (by rw [← z]; exact h1)))).trans h3, h2⟩⟩
  · by_cases hb : b = p
    · subst hb; rw [upd_same] at q; cases q; exact hp
    · rw [upd_ne hb] at q; exact h.sub b x q
  · rw [upd_ne (ne_mem ha hm)]; exact h.off a ha
end

def bndN {α β : Type} (m : Res α) (k : α → Sto → Res β) : Res β :=
  match m with
  | some (.ok a S) => k a S
  | _ => none
def wipeE (ρ : Ev) : List Nat → Ev
  | [] => ρ
  | v :: vs => (wipeE ρ vs).set v none
theorem wipe_rep {K : PySem.W.Frag} {F : Hp} {μ : List Addr} {ρ : Ev} {σ : L2.St} (h : RepE K F μ ρ σ) : ∀ vs, RepE K F μ (wipeE ρ vs) (wipe σ vs)
  | [] => h
  | v :: vs => (wipe_rep h vs).unset v none
theorem wipe_in {σ : L2.St} {i : Nat} : ∀ {vs : List Nat}, i ∈ vs → (wipe σ vs)[i]? = if i < σ.length then some none else none
  | v :: vs, hi => by
    unfold wipe
    by_cases hv : v = i
    · subst hv
      by_cases hl : v < σ.length
      · rw [List.getElem?_set_self (by rw [wipe_length]; exact hl), if_pos hl]
      · rw [List.getElem?_eq_none (by rw [List.length_set, wipe_length]; omega), if_neg hl]
    · rw [List.getElem?_set_ne hv]
      rcases List.mem_cons.mp hi with z | z
      · exact absurd z.symm hv
      · exact wipe_in z
theorem wipe_off {σ σ1 : L2.St} {ts vs : List Nat} (h : Off ts (wipe σ vs) σ1) (hs : ∀ i ∈ ts, i ∈ vs) : wipe σ1 vs = wipe σ vs := by
  have hl : σ1.length = σ.length := by rw [h.1, wipe_length]
  apply List.ext_getElem?
  intro i
  by_cases hi : i ∈ vs
  · rw [wipe_in hi, wipe_in hi, hl]
  · rw [wipe_out hi, h.2 i fun z => hi (hs i z)]
noncomputable def lcL (g : Gd) (t : MG) (tt : MT) (te : ME) (ρ : Ev) : List Val → Sto → List Val → Res (List Val)
  | [], S, acc => open Classical in if gOk g S then some (.ok acc S) else none
  | x :: xs, S, acc => open Classical in if gOk g S then match t S x ρ with
      | some ρ2 => bndN (tt ρ2 S) fun b S1 => if b then bndN (te ρ2 S1) fun y S2 => if acc.length < sizeLine then lcL g t tt te ρ xs S2 (acc ++ [y]) else none else lcL g t tt te ρ xs S1 acc
      | none => none
    else none
noncomputable def mLc (mi : MI) (t : MG) (tt : MT) (te : ME) (vs : List Nat) : ME := fun ρ S => bnd (mi ρ S) fun a S1 => bndN (lcL a.2 t tt te (wipeE ρ vs) a.1 S1 []) fun ys S2 => some (.ok (.lst ys) S2)
noncomputable def mLcC (mi : MI) (t : MG) (tt : MT) (te : ME) (vs : List Nat) : ME := fun ρ S => bnd (mi ρ S) fun a S1 => bndN (lcL a.2 t tt te (wipeE ρ vs) a.1 S1 []) fun ys S2 => some (.ok (.cell S2.length) (S2 ++ [.lst ys]))
abbrev W0 : WX := fun _ _ _ _ => False
def GTs (X : Cx) (W : WX) (ifs : List Expr) (m : MT) : Prop := PTs X ifs (tMT X.K X.mg W m)
def mYes : MT := fun _ S => some (.ok true S)
theorem gts_nil {X : Cx} {W : WX} : GTs X W [] mYes := ⟨fun pins s σ H Q I h => by
  obtain ⟨ρ, F, μ, S, hS, hE, hP⟩ := h
  exact pts_nil.run pins s σ H Q I (hP F μ H (Xt.refl _ _ _) hS)⟩
theorem gts_one {X : Cx} {W : WX} {c : Expr} {m : MT} (h : GT X W c m) : GTs X W [c] m := pts_one h
theorem bndN_some {α β : Type} {m : Res α} {k : α → Sto → Res β} {o : Out β} (h : bndN m k = some o) : ∃ a S, m = some (.ok a S) ∧ k a S = some o := by
  cases m with
  | none => cases h
  | some x =>
    cases x with
    | ok a S => exact ⟨a, S, rfl, h⟩
    | exc e S => cases h
section
variable {X : Cx} {W : WX} {elt tg iter : Expr} {ifs : List Expr} {scope : Scope} {own : List (Str × Nat)} {pos : Pos} {mi : MI} {t : MG} {tt : MT} {te : ME}
theorem lc_walk {K : PySem.W.Frag} {mg : Str → Option Value} {J : It} {F1 H1 : Hp} {μ1 : List Addr} {S1 Sf : Sto} {xs ys : List Val} {g : Gd} {ρ : Ev} {σ : L2.St} {vs ts : List Nat} {D : Addr} {Qd : Hp → Prop}
    (hts : ∀ i ∈ ts, i ∈ vs) (wk : Walks K mg J F1 H1 μ1 xs g) (s1 : RepS K mg F1 H1 μ1 S1) (hE : RepE K F1 μ1 ρ σ) (hD : H1 D = none) (hr : lcL g t tt te (wipeE ρ vs) xs S1 [] = some (.ok ys Sf))
    (fin : ∀ F' H' μ' ws, Xt F1 H1 μ1 F' H' μ' → RepS K mg F' H' μ' Sf → RepL K F' μ' ys ws → H' D = some (.lst ws) → D ∉ μ' → F' D = none → Qd H') :
    ∃ Wv : Nat → Nat → Hp → Prop, (∃ m, Wv 0 m (upd H1 D (.lst []))) ∧ ∀ i m H, Wv i m H →
      (J.stop i H ∧ Qd H) ∨ (J.go i H ∧ ∃ Nx : Hp → Prop, (∀ H', Nx H' → ∃ m', m' < m ∧ Wv (i + 1) m' H') ∧ ∀ x H', J.yld i H x H' → tG K mg ts t x (wipe σ vs) H' fun σ2 H2 => wipe σ2 vs = wipe σ vs ∧ tMT K mg W0 tt σ2 H2 fun b H3 =>
        if b = true then tM K mg W0 te σ2 H3 fun y H4 => ∃ acc, H4 D = some (.lst acc) ∧ acc.length < sizeLine ∧ Nx (upd H4 D (.lst (acc ++ [y]))) else Nx H3) := by
  have inv : ∀ i, i ≤ xs.length → Hp → Prop := fun _ _ _ => True
  refine ⟨fun i m H => m = xs.length - i ∧ i ≤ xs.length ∧ ∃ F' μ' S' acc ws, Xt F1 H1 μ1 F' H μ' ∧ RepS K mg F' H μ' S' ∧ RepL K F' μ' acc ws ∧ H D = some (.lst ws) ∧ D ∉ μ' ∧ F' D = none ∧ lcL g t tt te (wipeE ρ vs) (xs.drop i) S' acc = some (.ok ys Sf),
    ⟨xs.length, rfl, Nat.zero_le _, F1, μ1, S1, [], [], ⟨Ext.refl _ _, fun a o h n _ => ⟨by rw [upd_ne (ne_of_none h hD)]; exact h, n, fun z => z⟩⟩, s1.junk (s1.nF hD) (s1.ne hD) (fun _ z => by rw [hD] at z; cases z), .nil, upd_same, s1.ne hD, s1.nF hD, hr⟩, ?_⟩
  rintro i m H ⟨rfl, hi, F', μ', S', acc, ws, x', s', ra, hd, hm, hf, hr'⟩
  by_cases hlt : i < xs.length
  · have hx : xs[i]? = some xs[i] := List.getElem?_eq_getElem hlt
    rw [List.drop_eq_getElem_cons hlt] at hr'
    unfold lcL at hr'
    split at hr'
    · rename_i hg'
      obtain ⟨go, yl⟩ := wk.goes F' H μ' S' i _ x' s' hg' hx
      refine .inr ⟨go, fun H2 => i + 1 ≤ xs.length ∧ ∃ F' μ' S' acc ws, Xt F1 H1 μ1 F' H2 μ' ∧ RepS K mg F' H2 μ' S' ∧ RepL K F' μ' acc ws ∧ H2 D = some (.lst ws) ∧ D ∉ μ' ∧ F' D = none ∧ lcL g t tt te (wipeE ρ vs) (xs.drop (i + 1)) S' acc = some (.ok ys Sf),
        fun H2 ⟨l2, z⟩ => ⟨xs.length - (i + 1), by omega, rfl, l2, z⟩, fun w H2 y => ?_⟩
      obtain ⟨F2, x2, s2, r2⟩ := yl w H2 y
      split at hr'
      · rename_i ρ1 et
        have hE' : RepE K F2 μ' (wipeE ρ vs) (wipe σ vs) := wipe_rep (hE.mono (x'.toExt.trans x2.toExt)) vs
        refine ⟨xs[i], _, F2, μ', S', ρ1, s2, hE', r2, et, fun σ1 q1 o1 => ⟨wipe_off o1 hts, ?_⟩⟩
        obtain ⟨b, S3, etb, hk⟩ := bndN_some hr'
        obtain ⟨hd2, hm2, hf2⟩ := x2.keep D _ hd hm (fun _ z => by cases z)
        refine ⟨ρ1, F2, μ', S', s2, q1, ?_⟩
        rw [etb]
        intro F3 μ3 H3 x3 s3
        obtain ⟨hd3, hm3, hf3⟩ := x3.keep D _ hd2 hm2 (fun _ z => by cases z)
        show if b = true then _ else _
        cases b with
        | false => exact ⟨hlt, F3, μ3, S3, acc, ws, (x'.trans x2).trans x3, s3, ra.mono (x2.toExt.trans x3.toExt), hd3, hm3, hf3 (hf2 hf), hk⟩
        | true =>
          simp only [if_true] at hk ⊢
          obtain ⟨y, S4, ete, hk⟩ := bndN_some hk
          split at hk
          · rename_i hz
            refine ⟨ρ1, F3, μ3, S3, s3, q1.mono x3.toExt, ?_⟩
            rw [ete]
            intro F4 μ4 H4 x4 s4 w4 r4
            obtain ⟨hd4, hm4, hf4⟩ := x4.keep D _ hd3 hm3 (fun _ z => by cases z)
            have hf' := hf4 (hf3 (hf2 hf))
            refine ⟨ws, hd4, by rw [← ra.length]; exact hz, hlt, F4, μ4, S4, acc ++ [y], ws ++ [w4], ?_, s4.junk hf' hm4 (fun _ z => by rw [hd4] at z; cases z), (ra.mono (x2.toExt.trans (x3.toExt.trans x4.toExt))).append (.cons r4 .nil), upd_same, hm4, hf', hk⟩
            have xx := ((x'.trans x2).trans x3).trans x4
            exact ⟨xx.toExt, fun a o h n t => by
              obtain ⟨k1, k2, k3⟩ := xx.keep a o h n t
              exact ⟨by rw [upd_ne (ne_of_none h hD)]; exact k1, k2, k3⟩⟩
          · cases hk
      · cases hr'
    · cases hr'
  · have e : i = xs.length := by omega
    subst e
    rw [List.drop_length] at hr'
    unfold lcL at hr'
    split at hr'
    · rename_i hg'
      cases hr'
      exact .inl ⟨wk.stops F' H μ' _ x' s' hg', fin F' H μ' ws x' s' ra hd hm hf⟩
    · cases hr'
theorem tLc_of {vs ts : List Nat} (hts : ∀ i ∈ ts, i ∈ vs) : ∀ σ H Q, tM X.K X.mg W (mLc mi t tt te vs) σ H Q → tLc (tMI X.K X.mg W mi) (tG X.K X.mg ts t) (tMT X.K X.mg W0 tt) (tM X.K X.mg W0 te) vs σ H Q := by
  intro σ H Q h
  obtain ⟨ρ, F, μ, S, hS, hE, hP⟩ := h
  refine ⟨ρ, F, μ, S, hS, hE, hP.bind.imp (Xt.refl _ _ _) fun F1 μ1 S1 a H1 e1 s1 p1 J wk D hD => ?_⟩
  obtain ⟨xs, g⟩ := a
  simp only at p1 wk
  cases e : bndN (lcL g t tt te (wipeE ρ vs) xs S1 []) fun ys S2 => some (Out.ok (Val.lst ys) S2) with
  | none => rw [e] at p1; exact p1.elim
  | some o =>
    obtain ⟨ys, Sf, hr, ho⟩ := bndN_some e
    cases ho
    rw [e] at p1
    refine lc_walk hts wk s1 (hE.mono e1.toExt) hD hr fun F' H' μ' ws x' s' r' hd hm hf => ?_
    refine p1 (upd F' D (.lst ws)) μ' H' ?_ (s'.froze hf hm hd (fun _ z => by cases z)) (.ref D) (.lst upd_same (r'.mono (ext_upd F' μ' hf)))
    exact ⟨x'.toExt.trans (ext_upd F' μ' hf), fun a o h n t => by
      obtain ⟨k1, k2, k3⟩ := x'.keep a o h n t
      exact ⟨k1, k2, fun z => by rw [upd_ne (ne_of_none h hD)]; exact k3 z⟩⟩
def Blk (X : Cx) (scope : Scope) (P : Cx → Prop) : Prop := ∀ (s : Shared) (H : Hp) (C : Addr) (cl : List (Str × Addr)) (fp : List Addr), P (X.blk s H scope (compEnvC scope cl C X.env) fp)
theorem ge_lc {ts vs : List Nat} (hc : X.calm = true) (hN : X.N.Nodup) (hi : GI X W tg iter mi) (ok : BlkOk X.N X.env.scope scope own) (hts : ∀ i ∈ ts, i ∈ own.map (·.2)) (hg : Blk X scope fun Y => GG Y tg ts t) (ht : Blk X scope fun Y => GTs Y W0 ifs tt) (he : Blk X scope fun Y => GE Y W0 elt te)
    (hs : ∀ x, foldedSetIterable iter X.env x = pure x := by intro _; rfl) (hvs : own.map (·.2) = vs := by rfl) : GE X W (.ListComp elt [⟨tg, iter, ifs, 0⟩] scope pos) (mLc mi t tt te vs) := by
  subst hvs
  exact ge_of (pe_lc (g := tG X.K X.mg ts t) (tt := tMT X.K X.mg W0 tt) (te := tM X.K X.mg W0 te) hc hN hi ok (fun s H C cl fp => hg s H C cl fp) (fun s H C cl fp => ht s H C cl fp) (fun s H C cl fp => he s H C cl fp) hs) (tLc_of hts)
theorem tAsgSet_of {i : Nat} {m : ME} {te' : TE} (h : ∀ σ H Q, tM X.K X.mg W m σ H Q → te' σ H Q) : ∀ D σ H, tMS X.K X.mg W (sSet i m) D σ H → tAsg te' (gName i) D σ H := by
  intro D σ H hw
  obtain ⟨ρ, F, μ, S, hS, hE, hP⟩ := hw
  refine h σ H _ ?_
  exact bind_tM hS hE (hP.bind hE) fun F1 μ1 S1 v w H1 e1 s1 q1 r1 p1 => stop p1 s1 _ (q1.set r1 i)
theorem gs_setLc (i : Nat) {y : Str} {py spos : Pos} {ts vs : List Nat} (hc : X.calm = true) (hN : X.N.Nodup) (hsw : swapsWith (.ListComp elt [⟨tg, iter, ifs, 0⟩] scope pos) (some (.Name y py)) spos.line X.env = pure true) (hi : GI X W tg iter mi) (ok : BlkOk X.N X.env.scope scope own) (hts : ∀ i ∈ ts, i ∈ own.map (·.2)) (hg : Blk X scope fun Y => GG Y tg ts t) (ht : Blk X scope fun Y => GTs Y W0 ifs tt) (he : Blk X scope fun Y => GE Y W0 elt te)
    (hy : X.N[i]? = some y := by rfl) (hyl : X.env.scope.names.lookup y = some .local := by rfl) (hs : ∀ x, foldedSetIterable iter X.env x = pure x := by intro _; rfl) (hvs : own.map (·.2) = vs := by rfl) : GS X W (.Assign [.Name y py] (.ListComp elt [⟨tg, iter, ifs, 0⟩] scope pos) spos) (sSet i (mLc mi t tt te vs)) := by
  subst hvs
  exact gs_of (ps_setLc (g := tG X.K X.mg ts t) (tt := tMT X.K X.mg W0 tt) (te := tM X.K X.mg W0 te) hc hN hy hyl hsw hi ok (fun s H C cl fp => hg s H C cl fp) (fun s H C cl fp => ht s H C cl fp) (fun s H C cl fp => he s H C cl fp) hs) (tAsgSet_of (tLc_of hts))
end

abbrev Fn := List Val → Sto → Res Val
def spF (K : PySem.W.Frag) (mg : Str → Option Value) (n : Nat) (f : Fn) : Sp := fun vs H Q E => vs.length = n ∧ ∃ ds F μ S, RepS K mg F H μ S ∧ RepL K F μ ds vs ∧ Post K mg E F H μ (f ds S) (RV K Q)
structure FnG (P : Program) (w : World) (K : PySem.W.Frag) (mg : Str → Option Value) (base : Heap) (CX : CXT) (k : Nat) (f : Addr) (fd : FuncData) (ps : List Str) (sp : Sp) : Prop where
  len : ∀ vs H Q E, sp vs H Q E → vs.length = ps.length
  run : ∀ (A : Around) (outer : List Env) (s : Shared) (H : Hp) (args : Args) (us : List Value) (vs : List V) (Q : VK) (E : XK), A.guards = some [] → Room k A → Env0 P w K mg base A outer s H → BindsTo s fd args (ps.zip us) →
    Vals vs us → sp vs H Q E → codeAny (model P w) A (.call (.ref f) args) (CR CX outer P w H s Q E) s
section
variable {X : Cx} {W : WX} {CX : CXT} {k : Nat} {f : Addr} {fd : FuncData} {ps : List Str} {F : Fn} {x : Str} {p pos : Pos} {e : Expr} {es : List Expr} {ms : MA}
theorem run_fnG {pins : List (Addr × Obj)} {σ : L2.St} {H : Hp} {s : Shared} {Q : VK} {us : List Value} {vs : List V} {sp : Sp} {E : XK} (Go : FnG X.prog X.w X.K X.mg X.base CX k f fd ps sp) (hG : X.A.guards = some []) (hr : Room k X.A) (hb : Binds X.K fd ps []) (hx : PassesAt CX X σ E)
    (I : L2.Inv X pins σ H s) (r : Vals vs us) (h : sp vs H Q E) : wpAny (model X.prog X.w) X.A (call (.ref f) us) (EP X pins σ Q) X.xe s := by
  have hl : us.length = ps.length := r.length ▸ Go.len vs H Q E h
  have bb := hb s us I.kIn ((congrArg List.length (List.append_nil us)).trans hl)
  rw [List.append_nil] at bb
  refine wpAny_call (codeAny_mono (Go.run X.A X.stack s H ⟨us, []⟩ us vs Q E hG hr I.env0 bb r h) ?_)
  rintro (e | fl) s' hq
  · exact hx pins H s e s' I hq
  · cases fl with
    | ret u => exact I.after hq
    | next => cases hq
    | brk => cases hq
    | cont => cases hq
theorem ge_call (Go : FnG X.prog X.w X.K X.mg X.base CX k f fd ps (spF X.K X.mg ps.length F)) (hG : X.A.guards = some []) (hr : Room k X.A) (hg : Gl X x) (hm : X.mg x = some (.ref f)) (hk : PySem.W.keepIn X.K (.ref f) = true) (hb : Binds X.K fd ps []) (hx : ∀ σ, PassesAt CX X σ (atS W σ))
    (ha : GA X W (e :: es) ms) (hdb : (x == ("__debug__" : Str)) = false := by decide) (he : starEach (e :: es) X.env = (false, eval e X.env) :: starEach es X.env := by rfl) (hpl : (backTo pos (starEach es X.env)).any (·.1) = false := by rfl) :
    GE X W (.Call (.Name x p) (e :: es) [] pos) (fun ρ S => bnd (ms ρ S) fun vs S1 => if vs.length = ps.length then F vs S1 else none) := ⟨fun pins s σ H Q I h => by
  refine wpAny_Call_Name_kw (ld_glob I hg hm ?_ hdb)
  have hw : tMA X.K X.mg W ms σ H fun vs H1 => spF X.K X.mg ps.length F vs H1 Q (atS W σ) := by
    obtain ⟨ρ, F', μ, S, hS, hE, hP⟩ := h
    refine bind_tMA hS hE hP.bind fun F1 μ1 S1 v w H1 e1 s1 q1 r1 p1 => ?_
    split at p1
    · rename_i hlen
      exact ⟨by rw [← r1.length]; exact hlen, v, F1, μ1, S1, s1, r1, p1⟩
    · exact p1.elim
  exact PySem.W.callWith_K (h₀ := X.base) I.ok.mod.kin hk (thn (ha.run pos pins s σ H _ I hw) fun us s1 ⟨vs, H1, I1, r, q⟩ => ⟨I1.kIn, run_fnG Go hG hr hb (hx σ) I1 r q⟩) he hpl⟩
end

mutual
inductive Fz (n : Nat) (S : Sto) : Val → Val → Prop where
  | non : Fz n S .non .non
  | bl {b : Bool} : Fz n S (.bl b) (.bl b)
  | int {i : Int} : Fz n S (.int i) (.int i)
  | str {x : Str} : Fz n S (.str x) (.str x)
  | tup {xs ys : List Val} : FzL n S xs ys → Fz n S (.tup xs) (.tup ys)
  | lst {xs ys : List Val} : FzL n S xs ys → Fz n S (.lst xs) (.lst ys)
  | scr {ns : List Int} : Fz n S (.scr ns) (.scr ns)
  | con {v : V} : Fz n S (.con v) (.con v)
  | fnv {x : Str} : Fz n S (.fnv x) (.fnv x)
  | ex0 {c : Str} : Fz n S (.ex0 c) (.ex0 c)
  | ex1 {c f : Str} {x y : Val} : Fz n S x y → Fz n S (.ex1 c f x) (.ex1 c f y)
  | old {k : Nat} : k < n → Fz n S (.cell k) (.cell k)
  | new {k : Nat} {xs ys : List Val} : n ≤ k → S[k]? = some (.lst xs) → FzL n S xs ys → Fz n S (.cell k) (.lst ys)
  | dct {xs ys : List (Key × Val)} : FzD n S xs ys → Fz n S (.dct xs) (.dct ys)
  | newD {k : Nat} {xs ys : List (Key × Val)} : n ≤ k → S[k]? = some (.dct xs) → FzD n S xs ys → Fz n S (.cell k) (.dct ys)
inductive FzL (n : Nat) (S : Sto) : List Val → List Val → Prop where
  | nil : FzL n S [] []
  | cons {x y : Val} {xs ys : List Val} : Fz n S x y → FzL n S xs ys → FzL n S (x :: xs) (y :: ys)
inductive FzD (n : Nat) (S : Sto) : List (Key × Val) → List (Key × Val) → Prop where
  | nil : FzD n S [] []
  | cons {k : Key} {x y : Val} {xs ys : List (Key × Val)} : Fz n S x y → FzD n S xs ys → FzD n S ((k, x) :: xs) ((k, y) :: ys)
end
inductive FzN (n : Nat) (S : Sto) : List (NestedKey × Val) → List (NestedKey × Val) → Prop where
  | nil : FzN n S [] []
  | cons {k : NestedKey} {x y : Val} {xs ys : List (NestedKey × Val)} : Fz n S x y → FzN n S xs ys → FzN n S ((k, x) :: xs) ((k, y) :: ys)
inductive FzC (n : Nat) (S : Sto) : Cell → Cell → Prop where
  | dead {c : Cell} : FzC n S c .dead
  | lst {xs ys : List Val} : FzL n S xs ys → FzC n S (.lst xs) (.lst ys)
  | dct {xs ys : List (Key × Val)} : FzD n S xs ys → FzC n S (.dct xs) (.dct ys)
  | ins {c : Str} {fs gs : List (Str × Val)} : fs.map (·.1) = gs.map (·.1) → FzL n S (fs.map (·.2)) (gs.map (·.2)) → FzC n S (.ins c fs) (.ins c gs)
  | dN {kvs kvs' : List (NestedKey × Val)} : FzN n S kvs kvs' → FzC n S (.dN kvs) (.dN kvs')
  | tab {P : Addr} {q : Str} : FzC n S (.tab P q) (.tab P q)
structure FzS (n : Nat) (S S' : Sto) : Prop where
  len : S'.length = n
  le : n ≤ S.length
  cells : ∀ (k : Nat) (c : Cell), S'[k]? = some c → ∃ c0, S[k]? = some c0 ∧ FzC n S c0 c
section
variable {K : PySem.W.Frag} {mg : Str → Option Value} {F H : Hp} {μ : List Addr} {S S' : Sto} {n : Nat}
def thaw (F H : Hp) (μ : List Addr) (n : Nat) : Hp := fun a => if a ∈ μ.drop n then (match H a with
  | some (.lst vs) => some (.lst vs)
  | some (.dK vs) => some (.dK vs)
  | _ => F a) else F a
theorem take_get {α : Type} {l : List α} {n k : Nat} {a : α} (hk : k < n) (h : l[k]? = some a) : (l.take n)[k]? = some a := by rw [List.getElem?_take_of_lt hk]; exact h
theorem drop_mem {l : List Addr} {n k : Nat} {a : Addr} (hk : n ≤ k) (h : l[k]? = some a) : a ∈ l.drop n := by
  refine List.mem_of_getElem? (i := k - n) ?_
  rw [List.getElem?_drop]
  rw [show n + (k - n) = k by omega]
  exact h
theorem not_drop {l : List Addr} (nd : l.Nodup) {n : Nat} {a : Addr} (h : a ∈ l.take n) : a ∉ l.drop n := fun z => by
  have q := List.nodup_append.mp (show (l.take n ++ l.drop n).Nodup by rw [List.take_append_drop]; exact nd)
  exact q.2.2 a h a z rfl
theorem thaw_sub (h : RepS K mg F H μ S) : Same F (thaw F H μ n) := fun a o q => by
  unfold thaw
  split
  · rename_i hm
    rw [h.off a (List.mem_of_mem_drop hm)] at q
    cases q
  · exact q
mutual
theorem Fz.rep (h : RepS K mg F H μ S) : ∀ {x y : Val} {w : V}, Fz n S x y → RepV K F μ x w → RepV K (thaw F H μ n) (μ.take n) y w
  | _, _, _, .non, q => by cases q; exact .non
  | _, _, _, .bl, q => by cases q; exact .bl
  | _, _, _, .int, q => by cases q; exact .int
  | _, _, _, .str, q => by cases q; exact .str
  | _, _, _, .tup z, q => by cases q with | tup q r => exact .tup (q.same (thaw_sub h)) (FzL.rep h z r)
  | _, _, _, .lst z, q => by cases q with | lst q r => exact .lst (thaw_sub h _ _ q) (FzL.rep h z r)
  | _, _, _, .scr, q => by cases q with | scr q => exact .scr ((thaw_sub h).seq q)
  | _, _, _, .con, q => by cases q; exact .con
  | _, _, _, .fnv, q => by cases q with | fnv q => exact .fnv q
  | _, _, _, .ex0, q => by cases q with | ex0 n q => exact .ex0 n (thaw_sub h _ _ q)
  | _, _, _, .ex1 z, q => by cases q with | ex1 n q q2 r => exact .ex1 n (thaw_sub h _ _ q) (thaw_sub h _ _ q2) (Fz.rep h z r)
  | _, _, _, .old hk, q => by cases q with | cell e => exact .cell (take_get hk e)
  | _, _, _, .new hk hs z, q => by
    cases q with
    | @cell _ a e =>
      obtain ⟨vs, h1, h2⟩ := h.cells _ a _ e hs
      refine .lst (vs := vs) ?_ (FzL.rep h z h2)
      unfold thaw
      rw [if_pos (drop_mem hk e), h1]
  | _, _, _, .dct z, q => by cases q with | dct q r => exact .dct (thaw_sub h _ _ q) (FzD.rep h z r)
  | _, _, _, .newD hk hs z, q => by
    cases q with
    | @cell _ a e =>
      obtain ⟨vs, h1, h2⟩ := h.cells _ a _ e hs
      refine .dct (kws := vs) ?_ (FzD.rep h z h2)
      unfold thaw
      rw [if_pos (drop_mem hk e), h1]
theorem FzL.rep (h : RepS K mg F H μ S) : ∀ {x y : List Val} {w : List V}, FzL n S x y → RepL K F μ x w → RepL K (thaw F H μ n) (μ.take n) y w
  | _, _, _, .nil, q => by cases q; exact .nil
  | _, _, _, .cons z zs, q => by cases q with | cons r rs => exact .cons (Fz.rep h z r) (FzL.rep h zs rs)
theorem FzD.rep (h : RepS K mg F H μ S) : ∀ {x y : List (Key × Val)} {w : List (Key × V)}, FzD n S x y → RepD K F μ x w → RepD K (thaw F H μ n) (μ.take n) y w
  | _, _, _, .nil, q => by cases q; exact .nil
  | _, _, _, .cons z zs, q => by cases q with | cons r rs => exact .cons (Fz.rep h z r) (FzD.rep h zs rs)
end
mutual
theorem fz_valN {n : Nat} {S : Sto} : ∀ k : NestedKey, Fz n S (valN k) (valN k)
  | .none => .non
  | .num _ => .int
  | .text _ => .str
  | .tup ks => .tup (fz_valsN ks)
theorem fz_valsN {n : Nat} {S : Sto} : ∀ ks : List NestedKey, FzL n S (valsN ks) (valsN ks)
  | [] => .nil
  | k :: ks => .cons (fz_valN k) (fz_valsN ks)
end
theorem FzN.rep (h : RepS K mg F H μ S) : ∀ {x y : List (NestedKey × Val)} {w : List (NestedKey × Addr × Value)}, FzN n S x y → RepN K F μ x w → RepN K (thaw F H μ n) (μ.take n) y w
  | _, _, _, .nil, .nil => .nil
  | _, _, _, .cons z zs, .cons h1 h2 h3 h4 h5 t => .cons h1 h2 ((fz_valN _).rep h h3) (z.rep h h4) h5 (FzN.rep h zs t)
theorem FzN.keys {n : Nat} {S : Sto} : ∀ {x y : List (NestedKey × Val)}, FzN n S x y → y.map (·.1) = x.map (·.1)
  | _, _, .nil => rfl
  | _, _, .cons _ zs => by rw [List.map_cons, List.map_cons, zs.keys]
theorem FzS.rep (h : RepS K mg F H μ S) (z : FzS n S S') : RepS K mg (thaw F H μ n) H (μ.take n) S' := by
  have hl : (μ.take n).length = n := by rw [List.length_take, h.len]; have := z.le; omega
  refine ⟨fun a o q => ?_, hl.trans z.len.symm, h.nd.sublist (List.take_sublist _ _), fun a ha => ?_, fun a ha => h.there a (List.mem_of_mem_take ha), fun k a c h1 h2 => ?_, h.tabs.step (fun a o q => thaw_sub h a o q) fun P ps h1 h2 h3 => ⟨rfl, ?_, fun z => h2 (List.mem_of_mem_take z)⟩⟩
  rotate_right
  · unfold thaw
    rw [if_neg fun z => h2 (List.mem_of_mem_drop z)]
    exact h3
  · unfold thaw at q
    split at q
    · split at q
      · rename_i vs e; cases q; exact e
      · rename_i vs e; cases q; exact e
      · exact h.sub a o q
    · exact h.sub a o q
  · unfold thaw
    rw [if_neg (not_drop h.nd ha)]
    exact h.off a (List.mem_of_mem_take ha)
  · obtain ⟨c0, e0, zc⟩ := z.cells k c h2
    have hk : k < n := by rw [← hl]; exact (List.getElem?_eq_some_iff.mp h1).1
    rw [List.getElem?_take_of_lt hk] at h1
    have ok := h.cells k a c0 h1 e0
    cases zc with
    | dead => trivial
    | lst zl => obtain ⟨vs, q1, q2⟩ := ok; exact ⟨vs, q1, zl.rep h q2⟩
    | dct zl => obtain ⟨vs, q1, q2⟩ := ok; exact ⟨vs, q1, zl.rep h q2⟩
    | ins hn zl => obtain ⟨C, dx, gs, q1, q2, q3, q4⟩ := ok; exact ⟨C, dx, gs, q1, q2, hn ▸ q3, zl.rep h q4⟩
    | dN zl =>
      obtain ⟨xs, q1, q2, q3, q4, q5⟩ := ok
      have hk := zl.keys
      have hl : _ := congrArg List.length hk
      rw [List.length_map, List.length_map] at hl
      exact ⟨xs, q1, q2, by rw [hl]; exact q3, by rw [hk]; exact q4, zl.rep h q5⟩
    | tab => obtain ⟨hp, ps, q1, q2, q3⟩ := ok; exact ⟨hp, ps, q1, q2, fun pos cv q => let ⟨c, e1, e2⟩ := q3 pos cv q; ⟨c, e1, thaw_sub h _ _ e2⟩⟩
end
inductive Leaves (n : Nat) : Val × Sto → Val × Sto → Prop where
  | same {v : Val} {S : Sto} : Leaves n (v, S) (v, S)
  | trim {v v' : Val} {S S' : Sto} : Fz n S v v' → FzS n S S' → Leaves n (v, S) (v', S')
theorem Leaves.ok {K : PySem.W.Frag} {mg : Str → Option Value} {F0 H0 F H : Hp} {μ0 μ : List Addr} {S S' : Sto} {v v' : Val} {w : V} {n : Nat} {Q : VK} (z : Leaves n (v, S) (v', S')) (hn : μ0.length = n) (x : Xt F0 H0 μ0 F H μ) (h : RepS K mg F H μ S) (r : RepV K F μ v w)
    (q : ∀ F' μ' H', Xt F0 H0 μ0 F' H' μ' → RepS K mg F' H' μ' S' → ∀ w, RepV K F' μ' v' w → Q w H') : Q w H := by
  cases z with
  | same => exact q F μ H x h w r
  | trim zv zs =>
    have e : μ.take n = μ0 := by
      obtain ⟨t, rfl⟩ := x.pre
      rw [← hn, List.take_left]
    refine q (thaw F H μ n) μ0 H ⟨⟨fun a o q => thaw_sub h a o (x.sub a o q), List.prefix_refl _⟩, fun a o k nm t => ?_⟩ (e ▸ zs.rep h) w (e ▸ zv.rep h r)
    obtain ⟨k1, k2, k3⟩ := x.keep a o k nm t
    refine ⟨k1, nm, fun z => ?_⟩
    unfold thaw
    rw [if_neg fun z => k2 (List.mem_of_mem_drop z)]
    exact k3 z
def startE (N : List Str) (ds : List Val) : Ev := ds.map some ++ List.replicate (N.length - ds.length) none
theorem start_rep {K : PySem.W.Frag} {F : Hp} {μ : List Addr} {N : List Str} {ds : List Val} {vs : List V} (r : RepL K F μ ds vs) : RepE K F μ (startE N ds) (L2.start N vs) := by
  unfold startE L2.start
  have hl := r.length
  refine ⟨by simp [hl], fun i x q => ?_⟩
  by_cases hi : i < ds.length
  · rw [List.getElem?_append_left (by simpa using hi), List.getElem?_map] at q
    cases e : ds[i]? with
    | none => rw [e] at q; cases q
    | some y =>
      rw [e] at q; cases q
      obtain ⟨v, h1, h2⟩ := r.get e
      refine ⟨v, ?_, h2⟩
      rw [List.getElem?_append_left (by rw [List.length_map, ← hl]; exact hi), List.getElem?_map, h1]
      rfl
  · rw [List.getElem?_append_right (by simpa using hi), List.getElem?_replicate] at q
    split at q <;> cases q
def retOf : Fl → Option Val
  | .ret v => some v
  | .next _ => some .non
  | _ => none
def Keeps (N : List Str) (n : Nat) (m : MS) (f : Fn) : Prop := ∀ ds S o, ds.length = n → f ds S = some o → match o with
  | .ok v' S' => ∃ fl v S1, m (startE N ds) S = some (fl, S1) ∧ retOf fl = some v ∧ Leaves S.length (v, S1) (v', S')
  | .exc x S' => ∃ ρ, m (startE N ds) S = some (.exc ρ x, S')
section
variable {P : Program} {w : World} {K : PySem.W.Frag} {mg : Str → Option Value} {base : Heap}
theorem keeps_run {N : List Str} {n : Nat} {m : MS} {f : Fn} {W : WX} {F H : Hp} {μ : List Addr} {S : Sto} {ds : List Val} {vs : List V} {Q : VK} {E : XK} (k : Keeps N n m f) (hW : ∀ c d σ H, E c d H → W c d σ H) (hl : ds.length = n) (hS : RepS K mg F H μ S) (r : RepL K F μ ds vs)
    (hP : Post K mg E F H μ (f ds S) (RV K Q)) : tMS K mg W m { nx := fun _ H' => Q .non H', rt := Q } (L2.start N vs) H := by
  refine ⟨startE N ds, F, μ, S, hS, start_rep r, ?_⟩
  cases e : f ds S with
  | none => rw [e] at hP; exact hP.elim
  | some o =>
    rw [e] at hP
    have kk := k ds S o hl e
    cases o with
    | ok v' S' =>
      obtain ⟨fl, v, S1, em, er, fin⟩ := kk
      rw [em]
      intro F' μ' H' x' s'
      cases fl with
      | ret u =>
        cases er
        exact fun w rw => fin.ok hS.len x' s' rw fun F2 μ2 H2 x2 s2 w2 r2 => hP F2 μ2 H2 x2 s2 w2 r2
      | next ρ =>
        cases er
        exact fun σ _ => fin.ok hS.len x' s' .non fun F2 μ2 H2 x2 s2 w2 r2 => hP F2 μ2 H2 x2 s2 w2 r2
      | brk ρ => cases er
      | cont ρ => cases er
      | exc ρ x => cases er
    | exc x S' =>
      obtain ⟨ρ, em⟩ := kk
      rw [em]
      exact fun F' μ' H' x' s' σ c d q z => hW c d σ H' (hP F' μ' H' c d x' s' z)
theorem fnG_of {CX : CXT} {k : Nat} {f : Addr} {x qual : Str} {st : Stmt} {fd : FuncData} {N ps : List Str} {sp : Sp} (F : Fun K x qual st f fd) (S : FnScope N ps (defScope st)) (len : ∀ vs H Q E, sp vs H Q E → vs.length = ps.length)
    (hbody : ∀ (cdv : Value) (A : Around) (outer : List Env) (s : Shared) (H : Hp) (vs : List V) (Q : VK) (E : XK), A.guards = some [] → Room k (A.deeper (envOfC qual (defScope st) s.heap.objs.size f cdv)) → sp vs H Q E →
      ∃ t, PSs (cxOf CX P w K mg base N qual (defScope st) f cdv A outer s H E) (defBody st) t ∧ t { nx := fun _ H' => Q .non H', rt := Q } (L2.start N vs) H) : FnG P w K mg base CX (k + 1) f fd ps sp := by
  obtain ⟨oc, od, kV, doc, pm, an, cdv, ct, osl, rfl, lk, hcd⟩ := F.ex
  refine ⟨len, fun A outer s H args us vs Q E hG hr e0 hb r hsp => ?_⟩
  have hl := len vs H Q E hsp
  have old : ∀ b o, base.get? b = some o → s.heap.get? b = some o := fun b o e => (e0.bs b o e).1
  have KX : K.In s.heap := e0.mod.kin.keeps old
  have hkind : ∀ y ∈ ps.zip us, (defScope st).names.lookup y.1 = some .local ∨ ((defScope st).names.lookup y.1 = some .cell ∧ ((cellsFrom (s.heap.objs.size + 1) (defScope st).names []).lookup y.1).isSome = true) := by
    rintro ⟨n, v⟩ hy
    rcases S.par n (List.of_mem_zip hy).1 with q | q
    · exact .inl q
    · exact .inr ⟨q, PySem.W.cellsFrom_some _ _ _ (.inl q)⟩
  refine codeAny_call_function hr.depth (KX _ _ lk) rfl S.co S.gen rfl (PySem.W.codeRec_of KX hcd) (hb _ _ _ _ (wpAny_newFunctionEnv_cells S.kind hkind fun env he s1 hin => ?_))
  subst he
  refine ⟨(e0.mod.nolimit.keeps old).keeps hin.toInCall.keep, codeAny_func ?_⟩
  obtain ⟨t, ht, hq⟩ := hbody cdv A outer s H vs Q E hG (hr.deeper _) hsp
  have I0 := inv_start (CX := CX) (E := E) S hr.hd e0 hl r hin
  refine wpAny_mono (ht.run [] s1 (L2.start N vs) H _ I0 hq) (fun fl s' hs => ?_) fun e s' hs => hs
  cases fl with
  | ret u => obtain ⟨v, _, H', J, rv, q⟩ := hs; exact ⟨v, H', J.os, J.bare, J.base, J.hok, rv, q⟩
  | next => obtain ⟨_, H', J, q⟩ := hs; exact ⟨V.non, H', J.os, J.bare, J.base, J.hok, rfl, q⟩
  | brk => obtain ⟨_, _, _, q⟩ := hs; cases q
  | cont => obtain ⟨_, _, _, q⟩ := hs; cases q
theorem fn_ok {x qual : Str} {st : Stmt} {f : Addr} {fd : FuncData} {N ps : List Str} {k : Nat} {m : MS} {g : Fn} (F : Fun K x qual st f fd) (S : FnScope N ps (defScope st)) (kp : Keeps N ps.length m g)
    (hbody : ∀ (cdv : Value) (A : Around) (outer : List Env) (s : Shared) (H : Hp) (E : XK), A.guards = some [] → Room k (A.deeper (envOfC qual (defScope st) s.heap.objs.size f cdv)) → GSs (cxOf CX0 P w K mg base N qual (defScope st) f cdv A outer s H E).nox W0 (defBody st) m)
    (nox : ∀ ds S x S', g ds S ≠ some (.exc x S')) : FnG P w K mg base CX0 (k + 1) f fd ps (spF K mg ps.length g) := by
  refine fnG_of F S (fun vs H Q E h => h.1) fun cdv A outer s H vs Q E hG hr h => ?_
  obtain ⟨hl, ds, F', μ, S', hS, r, hP⟩ := h
  refine ⟨_, PSs.nox (hbody cdv A outer s H E hG hr), ?_⟩
  refine keeps_run (E := fun _ _ _ => False) kp (fun _ _ _ _ z => z) (r.length.trans hl) hS r ?_
  cases e : g ds S' with
  | none => rw [e] at hP; exact hP
  | some o =>
    cases o with
    | ok v S1 => rw [e] at hP; exact hP
    | exc x S1 => exact absurd e (nox ds S' x S1)
end

structure BOk (K : PySem.W.Frag) (mg : Str → Option Value) (base : Heap) : Prop where
  mods : ∃ mm, base.Ns sysModules mm
  tabs : ∀ x ∈ lamNames, ∀ c P, tabG K x = some (c, P) → LamX.TabB base mg c P
  uniq : ∀ x ∈ lamNames, ∀ y ∈ lamNames, ∀ c c' P, tabG K x = some (c, P) → tabG K y = some (c', P) → x = y
  kin : K.In base
  glob : base.Ns mainGlobals mg
def lamTabs (K : PySem.W.Frag) : List Addr := lamNames.filterMap fun x => (tabG K x).map (·.2)
theorem mem_lamTabs {K : PySem.W.Frag} {P : Addr} : P ∈ lamTabs K ↔ ∃ x ∈ lamNames, ∃ c, tabG K x = some (c, P) := by
  unfold lamTabs
  rw [List.mem_filterMap]
  refine ⟨fun ⟨x, hx, e⟩ => ?_, fun ⟨x, hx, c, e⟩ => ⟨x, hx, by rw [e]; rfl⟩⟩
  rw [Option.map_eq_some_iff] at e
  obtain ⟨⟨c, P'⟩, e, rfl⟩ := e
  exact ⟨x, hx, c, e⟩
theorem law_callG {P : Program} {w : World} {K : PySem.W.Frag} {mg mb : Str → Option Value} {CX : CXT} {k : Nat} {fa a : Addr} {fd : FuncData} {x : Str} {s₁ : Shared} {vs : List Value} {ns : List Int} {g : Fn}
    (KX : K.In s₁.heap) (hns : s₁.heap.Ns mainGlobals mg) (hb : s₁.heap.Ns builtinsNs mb) (hbb : ∀ x : Str, x ≠ "__name__" → mb x = bootBuiltins x) (hlim : s₁.heap.NoLimit) (hmo : ∃ mm, s₁.heap.Ns sysModules mm) (hg : s₁.gens = #[])
    (hT : ∀ x ∈ lamNames, ∀ c P, tabG K x = some (c, P) → (PySem.W.CodeHd s₁.heap c P ∧ s₁.heap.get? P = some { cls := .none, data := .fields #[] }) ∧ K.lookup P = none)
    (hU : ∀ x ∈ lamNames, ∀ y ∈ lamNames, ∀ c c' P, tabG K x = some (c, P) → tabG K y = some (c', P) → x = y)
    (hbm : ∃ (bm : Addr) (ob : Obj), mg "__builtins__" = some (.ref bm) ∧ bm ≠ builtinsNs ∧ s₁.heap.get? bm = some ob ∧ ob.cls = .type "module" ∧ ob.dict = some builtinsNs ∧ ob.data = .plain)
    (ha : s₁.heap.get? a = some { cls := .type "list", data := .seq vs.toArray }) (hi : IntsAre vs ns) (hl : ns.length ≤ sizeLine) (hr : Room k callerA)
    (F : ∀ base : Heap, K.In base → base.Ns mainGlobals mg → BOk K mg base → FnG P w K mg base CX k fa fd [x] (spF K mg 1 g)) (hbind : ∀ (s : Shared) (u : Value), BindsTo s fd ⟨[u], []⟩ [(x, u)])
    (hsp : ∃ S', g [.scr ns] [] = some (.ok (.bl true) S')) (hCX : ∀ H e s', CX [] H s₁ (fun _ _ _ => False) e s' → False) :
    codeAny (model P w) callerA (.call (.ref fa) ⟨[.ref a], []⟩) (fun r s' => r = .ok (.ret (.bool true)) ∧ OldK s₁.heap s'.heap ∧ s'.os = s₁.os ∧ AllBare s'.gens) s₁ := by
  have rv : Vals (ns.map V.int) vs := vals_ints hi
  have lv : vs.length = ns.length := hi.length
  have isT : ∀ b ∈ lamTabs K, s₁.heap.get? b = some { cls := .none, data := .fields #[] } ∧ K.lookup b = none := fun b hb => by
    obtain ⟨x, hx, c, e⟩ := mem_lamTabs.mp hb
    exact ⟨(hT x hx c b e).1.2, (hT x hx c b e).2⟩
  have aT : a ∉ lamTabs K := fun z => by
    have q := (isT a z).1
    rw [ha] at q
    have z' : Data.seq vs.toArray _ = Data.fields #[] := congrArg Obj.data (Option.some.inj q)
    cases z'
  -- a tracked heap that holds nothing, or the script alone
  suffices core : ∀ H0 : Hp, (∀ b, H0 b = none ∨ (b = a ∧ H0 b = some (.frz { cls := .type "list", data := .seq vs.toArray } (.lst (ns.map V.int))))) → SqL K H0 a (ns.map V.int) → HOk P w H0 s₁.heap → (H0 a ≠ none → K.lookup a = none) → _ by
    cases hk : K.lookup a with
    | some o =>
      have e := (KX a o hk).symm.trans ha
      cases e
      exact core (fun _ => none) (fun _ => .inl rfl) (.inr ⟨_, vs.toArray, _, hk, rfl, rfl, rfl, by simpa [lv] using hl, by simpa using rv⟩) (fun b u z => nomatch z) fun z => absurd rfl z
    | none =>
      refine core (upd (fun _ => none) a (.frz { cls := .type "list", data := .seq vs.toArray } (.lst (ns.map V.int)))) (fun b => ?_) (.inl (.inr ⟨_, upd_same⟩)) (fun b u z => ?_) fun _ => hk
      · by_cases hb' : b = a
        · subst hb'; exact .inr ⟨rfl, upd_same⟩
        · exact .inl (upd_ne hb')
      · by_cases hb' : b = a
        · subst hb'
          rw [upd_same] at z
          cases z
          exact ⟨ha, by simpa using hl, vs, _, rv, ha⟩
        · rw [upd_ne hb'] at z; cases z
  intro H0 hO0 hS0 hok0 hK0
  obtain ⟨H, hH⟩ : ∃ H : Hp, H = fun b => if b ∈ lamTabs K then some (.tbl #[]) else H0 b := ⟨_, rfl⟩
  have hT1 : ∀ b, b ∈ lamTabs K → H b = some (.tbl #[]) := fun b hb => by rw [hH]; exact if_pos hb
  have hT0 : ∀ b, b ∉ lamTabs K → H b = H0 b := fun b hb => by rw [hH]; exact if_neg hb
  have n0 : ∀ b ∈ lamTabs K, H0 b = none := fun b hb => (hO0 b).elim id fun ⟨e, _⟩ => absurd (e ▸ hb) aT
  have hok : HOk P w H s₁.heap := fun b u z => by
    by_cases hb : b ∈ lamTabs K
    · rw [hT1 b hb] at z
      cases z
      exact (isT b hb).1
    · rw [hT0 b hb] at z
      have q := hok0 b u z
      rcases hO0 b with e | ⟨rfl, e⟩
      · rw [e] at z; cases z
      · rw [e] at z
        cases z
        obtain ⟨q1, q2⟩ := q
        exact ⟨q1, q2⟩
  have noD : ∀ {b : Addr} {o : Obj}, s₁.heap.get? b = some o → (∀ vs n, o.data ≠ .seq vs n) → o.data ≠ .fields #[] → H b = none := fun {b o} e h1 h2 => by
    by_cases hb : b ∈ lamTabs K
    · rw [(isT b hb).1] at e
      cases e
      exact (h2 rfl).elim
    · rw [hT0 b hb]
      rcases hO0 b with q | ⟨rfl, _⟩
      · exact q
      · rw [ha] at e
        cases e
        exact (h1 _ _ rfl).elim
  have notA : ∀ {b : Addr} {o : Obj} {es : Array DictEntry} {ep : Nat}, s₁.heap.get? b = some o → o.data = .dict es ep → H b = none := fun {b o es ep} e d =>
    noD e (fun vs n z => by rw [d] at z; cases z) fun z => by rw [d] at z; cases z
  have nsK : ∀ {b : Addr} {m : Str → Option Value}, s₁.heap.Ns b m → (hidT s₁.heap H).Ns b m := fun ⟨o, es, ep, e, d, r⟩ => ⟨o, es, ep, hidT_get e (notA e d), d, r⟩
  have hKb : K.In (hidT s₁.heap H) := fun b o e => hidT_get (KX b o e) (by
    by_cases hb : b ∈ lamTabs K
    · rw [(isT b hb).2] at e
      cases e
    · rw [hT0 b hb]
      rcases hO0 b with q | ⟨rfl, q⟩
      · exact q
      · exact absurd (hK0 (by rw [q]; simp)) (by rw [e]; simp))
  have hM : Mod K mg (hidT s₁.heap H) := ⟨hKb, nsK hns, ⟨mb, nsK hb, hbb⟩, hlim.imp fun mc h => ⟨nsK h.1, h.2⟩⟩
  have TB : ∀ x ∈ lamNames, ∀ c P, tabG K x = some (c, P) → LamX.TabB (hidT s₁.heap H) mg c P := fun x hx c P e => by
    obtain ⟨⟨C, hTp⟩, _⟩ := hT x hx c P e
    refine ⟨?_, ?_, fun z => ?_⟩
    · obtain ⟨o, us, file, tf, flags, tg, inF, text, tt, e1, r1, r2, r3, r4, r5, r6, r7, r8, hne⟩ := C
      refine ⟨o, us, file, tf, flags, tg, inF, text, tt, hidT_get e1 (noD e1 (fun vs n z => ?_) fun z => ?_), r1, r2, r3, r4, r5, r6, r7, r8, hne⟩
      · rw [r2] at z
        cases z
      · rw [r2] at z
        cases z
        simp at r3
    · obtain ⟨bm, ob, b1, b2, b3, b4, b5, b6⟩ := hbm
      have nG : bm ≠ mainGlobals := fun q => by
        obtain ⟨o, es, ep, e, hd, _⟩ := hns
        rw [q, e] at b3
        cases b3
        rw [hd] at b6
        cases b6
      have nP : bm ≠ P := fun q => by
        rw [q, hTp] at b3
        cases b3
        cases b6
      refine ⟨bm, ob, b1, b2, nG, nP, hidT_get b3 (noD b3 (fun vs n z => ?_) fun z => ?_), b4, b5, b6⟩
      · rw [b6] at z
        cases z
      · rw [b6] at z
        cases z
    · obtain ⟨o, es, ep, e, hd, _⟩ := hns
      rw [z, hTp] at e
      cases e
      cases hd
  have e0 : Env0 P w K mg (hidT s₁.heap H) callerA [] s₁ H := ⟨rfl, hM, fun b o e => of_hidT e, Nat.le_of_eq (hidT_size _ _), trivial, fun b z => absurd z (List.not_mem_nil), hok, .of_eq hg⟩
  obtain ⟨Sf, hf⟩ := hsp
  have sp0 : spF K mg 1 g [.ref a] H (fun v _ => v = .bl true) fun _ _ _ => False := by
    refine ⟨rfl, [.scr ns], H0, [], [], ⟨fun b o e => ?_, rfl, .nil, fun b z => absurd z List.not_mem_nil, fun b z => absurd z List.not_mem_nil, fun k b c z => by simp at z, fun P q ⟨x, hx, c, e, _⟩ => ?_⟩, .cons (.scr hS0) .nil, ?_⟩
    · rw [hT0 b fun hb => by rw [n0 b hb] at e; cases e]
      exact e
    · have hb : P ∈ lamTabs K := mem_lamTabs.mpr ⟨x, hx, c, e⟩
      exact ⟨List.not_mem_nil, n0 P hb, #[], hT1 P hb, True.intro, fun pos cv z => by
        have z : codeAmong pos [] = some cv := z
        simp [codeAmong] at z⟩
    rw [hf]
    intro F' μ' H' _ _ w q
    cases q
    rfl
  refine codeAny_mono ((F _ hKb (nsK hns) ⟨hmo.imp fun _ h => nsK h, TB, hU, hKb, nsK hns⟩).run callerA [] s₁ H ⟨[.ref a], []⟩ [.ref a] [.ref a] _ _ rfl hr e0 (hbind s₁ (.ref a)) (.cons rfl .nil) sp0) ?_
  rintro (e | fl) s' h
  · exact (hCX H e s' h).elim
  · cases fl with
    | next => cases h
    | brk => cases h
    | cont => cases h
    | ret u =>
      obtain ⟨v, H', os, bare, un, hok', r', q⟩ := h
      have q' : v = .bl true := q
      subst q'
      obtain rfl : u = Value.bool true := r'
      have key : ∀ b o, b ∉ lamTabs K → s₁.heap.get? b = some o → s'.heap.get? b = some o := fun b o nb e => by
        rcases hO0 b with q | ⟨rfl, q⟩
        · exact un.keep b o e ((hT0 b nb).trans q) (List.not_mem_nil) (List.not_mem_nil)
        · obtain ⟨e2, _⟩ := hok' b _ (un.frzs b _ _ ((hT0 b nb).trans q))
          cases e.symm.trans ha
          exact e2
      have grown : ∀ b ∈ lamTabs K, ∃ more : Array Value, s'.heap.get? b = some { cls := .none, data := .fields more } := fun b hb => by
        obtain ⟨more, z⟩ := un.tbls b #[] (hT1 b hb)
        exact ⟨_, hok' b _ z⟩
      refine ⟨rfl, ⟨fun b o e => ?_, fun b o e => ?_⟩, os, bare⟩
      · by_cases hb : b ∈ lamTabs K
        · obtain ⟨more, hm⟩ := grown b hb
          obtain ⟨x, hx, c, ex⟩ := mem_lamTabs.mp hb
          have hTp := (hT x hx c b ex).1
          rw [hTp.2] at e
          cases e
          exact .inr (.inl ⟨(hTp.1.tab hTp.2).isCodeTable, rfl, #[], more, rfl, by rw [Array.empty_append]; exact hm⟩)
        · exact .inl (key b o hb e)
      · by_cases hb : b ∈ lamTabs K
        · obtain ⟨more, hm⟩ := grown b hb
          exact ⟨_, hm⟩
        · exact ⟨o, key b o hb e⟩
def tabsB (q : Program) (K : PySem.W.Frag) : Bool :=
  (lamNames.all fun x => match tabG K x with
    | none => true
    | some (_, P) => ((lamMeths.lookup x).isSome || ((recsOf q).find? fun e => e.name == x).isSome) && (K.lookup P).isNone) &&
  (lamNames.all fun x => lamNames.all fun y => match tabG K x, tabG K y with
    | some (_, P), some (_, P') => !(P == P') || x == y
    | _, _ => true)
def MethsOk (K : PySem.W.Frag) (h : Heap) : Prop := ∀ x C m, lamMeths.lookup x = some (C, m) → ∀ c P, tabMeth K C m = some (c, P) → PySem.W.CodeHd h c P ∧ h.get? P = some { cls := .none, data := .fields #[] }
theorem lookup_mem' {x : Str} {q : Str × Str} : ∀ {l : List (Str × Str × Str)}, l.lookup x = some q → (x, q) ∈ l
  | [], h => by cases h
  | (a, b) :: l, h => by
    unfold List.lookup at h
    split at h
    · rename_i e
      cases h
      rw [beq_iff_eq.mp e]
      exact List.mem_cons_self
    · exact List.mem_cons_of_mem _ (lookup_mem' h)
theorem meths_none {K : PySem.W.Frag} {h : Heap} (e : (lamMeths.all fun x => (tabMeth K x.2.1 x.2.2).isNone) = true) : MethsOk K h := fun x C m hx c P q => by
  have := List.all_eq_true.mp e _ (lookup_mem' hx)
  rw [q] at this
  cases this
theorem walk_g {l : PySem.W.OpenLaw} {n k : Nat} {q : Program} {loose : List Str} {XP : (Str → Option Value) → Heap → Prop} {YP : World → Heap → Prop} {d : DefRec} {K : Params → PySem.W.Frag} {CX : World → CXT} {x : Str} {g : Fn}
    (hn : l.most = some n) (hn2 : n ≤ sizeLine) (hdf : d.params.defaults = []) (hi : importsNone q = true) (hTB : ∀ w : World, tabsB q (K w.params) = true) (hr : Room k callerA) (hY : ∀ (w : World) (h : Heap), YP w h → (K w.params).In h) (hMe : ∀ (w : World) (h : Heap), YP w h → MethsOk (K w.params) h)
    (F : ∀ (w : World) (mg : Str → Option Value) (fa : Addr) (h : Heap), (K w.params).In h → h.Ns mainGlobals mg → mg d.name = some (.ref fa) →
      ∃ fd : FuncData, (∀ (s : Shared) (u : Value), BindsTo s fd ⟨[u], []⟩ [(x, u)]) ∧ ∀ base : Heap, (K w.params).In base → base.Ns mainGlobals mg → BOk (K w.params) mg base → FnG l.prog w (K w.params) mg base (CX w) k fa fd [x] (spF (K w.params) mg 1 g))
    (hsp : ∀ ns : List Int, ns.length ≤ n → ∃ S', g [.scr ns] [] = some (.ok (.bl true) S')) (hCX : ∀ (w : World) (H : Hp) (s : Shared) (e : Value) (s' : Shared), CX w [] H s (fun _ _ _ => False) e s' → False) :
    PySem.W.WalkO q loose XP YP l.row.toRowW d [] (fun f vs => PySem.call f vs) := by
  refine Att.attach_call hn hdf fun w s₀ s₁ mg mb fa o pm cd doc a vs ns Gs Y ho hd hcd hmg hobj hints hlen hg => ?_
  obtain ⟨fd, hb, hF⟩ := F w mg fa _ (hY w _ Y) Gs.T.g hmg
  have hTw := hTB w
  unfold tabsB at hTw
  rw [Bool.and_eq_true] at hTw
  obtain ⟨t1, t2⟩ := hTw
  refine law_callG (hY w _ Y) Gs.T.g Gs.T.b Gs.T.builtins Gs.T.nolimit ((Gs.T.seer hi).mods.imp fun _ h => h.1) hg (fun x hx c P e => ?_) (fun x hx y hy c c' P e e' => ?_) Gs.T.bmain hobj hints (Nat.le_trans hlen hn2) hr hF hb (hsp ns hlen) fun H e s' => hCX w H s₁ e s'
  · have z := List.all_eq_true.mp t1 x hx
    rw [e] at z
    simp only [Bool.and_eq_true] at z
    obtain ⟨z1, z2⟩ := z
    refine ⟨?_, Option.isNone_iff_eq_none.mp z2⟩
    unfold tabG at e
    cases hl : lamMeths.lookup x with
    | none =>
      rw [hl] at z1 e
      simp only [Option.isSome_none, Bool.false_or] at z1
      obtain ⟨d', z1⟩ := Option.isSome_iff_exists.mp z1
      exact PySem.W.tab_of Gs.T (hY w _ Y) z1 e
    | some q =>
      rw [hl] at e
      exact hMe w _ Y x q.1 q.2 hl c P e
  · have z := List.all_eq_true.mp (List.all_eq_true.mp t2 x hx) y hy
    rw [e, e'] at z
    simpa using z
end G

set_option Elab.async false
set_option linter.all false
set_option maxRecDepth 100000
set_option maxHeartbeats 4000000
namespace G
open PySem PySem.Spec PyProof.Rows L2
section
variable {X : Cx}
theorem same_k {K : PySem.W.Frag} {mg : Str → Option Value} {F H : Hp} {μ : List Addr} {S : Sto} {r : Val} {w : V} {Q : VK} (k : ∀ F' H' w, Xt F H μ F' H' μ → RepS K mg F' H' μ S → RepV K F' μ r w → Q w H') (h : RepS K mg F H μ S) (q : RepV K F μ r w) : Q w H := k F H w (Xt.refl _ _ _) h q

def big : Nat := 2 ^ 4000
theorem lt_big {i : Int} (h : i.natAbs < big) : Builtin.Int.intBits i ≤ 4001 := by
  have h1 : i.natAbs < 2 ^ 4000 := h
  have h2 := PySem.Flt.log2_lt_of (n := i.natAbs) (k := 4000) (by decide) h1
  unfold Builtin.Int.intBits
  split <;> omega
def mulOk (i j : Int) : Bool := decide (-(2 ^ 64) < i ∧ i < 2 ^ 64) || decide (-(2 ^ 64) < j ∧ j < 2 ^ 64) || (decide (i.natAbs < big) && decide (j.natAbs < big))
theorem mulOk_ok {i j : Int} (h : mulOk i j = true) : IntMulOk i j := by
  unfold mulOk at h
  simp only [Bool.or_eq_true, Bool.and_eq_true, decide_eq_true_eq] at h
  rcases h with h | ⟨h1, h2⟩
  · exact CMul.ok h
  · refine CMulX.ok ?_
    have a := lt_big h1
    have b := lt_big h2
    unfold CMulX
    omega
def iOp (f : Int → Int → Option Int) : Sto → Val → Val → Option Val := fun _ x y => match x, y with
  | .int i, .int j => (f i j).map Val.int
  | _, _ => none
def iCmp (f : Int → Int → Bool) : Sto → Val → Val → Option Val := fun _ x y => match x, y with
  | .int i, .int j => some (.bl (f i j))
  | _, _ => none
theorem o_int {op : Value → Value → Sem Value} {C : Int → Int → Prop} {g : Int → Int → Int} {f : Int → Int → Option Int} (ho : OpR X op (rI C fun i j => .int (g i j))) (hf : ∀ i j r, f i j = some r → C i j ∧ r = g i j) : GO2 X op (iOp f) := by
  intro pins s σ H x y v u Q I rx ry h
  obtain ⟨vx, vy, F, μ, S, r, hS, r1, r2, e, k⟩ := h
  unfold iOp at e
  split at e
  · rename_i i j
    cases r1; cases r2
    obtain ⟨z, ez, e⟩ := Option.map_eq_some_iff.mp e
    subst e
    obtain ⟨hC, rfl⟩ := hf i j z ez
    exact ho pins s σ H _ _ v u Q I rx ry ⟨i, j, rfl, rfl, hC, same_k k hS .int⟩
  · cases e
theorem o_cmp {op : Value → Value → Sem Value} {g : Int → Int → Bool} (ho : OpR X op (rI0 fun i j => .bl (g i j))) : GO2 X op (iCmp g) := by
  intro pins s σ H x y v u Q I rx ry h
  obtain ⟨vx, vy, F, μ, S, r, hS, r1, r2, e, k⟩ := h
  unfold iCmp at e
  split at e
  · rename_i i j
    cases r1; cases r2
    cases e
    exact ho pins s σ H _ _ v u Q I rx ry ⟨i, j, rfl, rfl, same_k k hS .bl⟩
  · cases e
def fMul (i j : Int) : Option Int := if mulOk i j = true then some (i * j) else none
def fDiv (i j : Int) : Option Int := if 0 < j ∧ j.natAbs < big then some (i / j) else none
def fMod (i j : Int) : Option Int := if 0 < j then some (i % j) else none
def fPow (i j : Int) : Option Int := if 0 ≤ j ∧ j ≤ 1000000 ∧ i.natAbs < 2 ^ 64 then some (i ^ j.toNat) else none
theorem ite_some {c : Prop} [Decidable c] {α : Type} {a b : α} (h : (if c then some a else none) = some b) : c ∧ b = a := by
  split at h
  · cases h; exact ⟨by assumption, rfl⟩
  · cases h
theorem o_div : GO2 X (binaryOp .FloorDiv) (iOp fDiv) := o_int op_fdivW fun i j r h => by
  obtain ⟨⟨h1, h2⟩, e⟩ := ite_some h
  exact ⟨wide_div h1 h2 (by decide) (by decide), e⟩
theorem o_mod : GO2 X (binaryOp .Mod) (iOp fMod) := o_int op_mod fun i j r h => ite_some h
theorem o_pow : GO2 X (binaryOp .Pow) (iOp fPow) := o_int op_pow fun i j r h => by
  obtain ⟨h, e⟩ := ite_some h
  exact ⟨h, e⟩
theorem o_lt : GO2 X (compareOp .Lt) (iCmp fun i j => decide (i < j)) := o_cmp op_lt
theorem o_gt : GO2 X (compareOp .Gt) (iCmp fun i j => decide (j < i)) := o_cmp op_gt
theorem o_ge : GO2 X (compareOp .GtE) (iCmp fun i j => decide (j ≤ i)) := o_cmp op_ge
def sNeg : Sto → Val → Option Val := fun _ x => match x with
  | .int i => some (.int (-i))
  | _ => none
theorem o_neg : GO1 X (unaryOp .USub) sNeg := by
  intro pins s σ H x v Q I rx h
  obtain ⟨vx, F, μ, S, r, hS, r1, e, k⟩ := h
  unfold sNeg at e
  split at e
  · rename_i i
    cases r1
    cases e
    exact un_neg pins s σ H _ v Q I rx ⟨i, rfl, same_k k hS .int⟩
  · cases e

def sAdd : Sto → Val → Val → Option Val := fun S x y => match x, y with
  | .int i, .int j => some (.int (i + j))
  | .str a, .str b => if a.length + b.length ≤ sizeLine then some (.str (a ++ b)) else none
  | .tup xs, .tup ys => if xs.length + ys.length ≤ sizeLine then some (.tup (xs ++ ys)) else none
  | x, y => match lstOf S x, lstOf S y with
    | some xs, some ys => if xs.length + ys.length ≤ sizeLine then some (.lst (xs ++ ys)) else none
    | _, _ => none
theorem nil_of {K : PySem.W.Frag} {F : Hp} {μ : List Addr} {xs : List Val} {vs : List V} (r : RepL K F μ xs vs) : vs = [] ↔ xs = [] := by cases r <;> simp
theorem op_catN {X : Cx} : OpR X (binaryOp .Add) (fun x y H Q => ∃ a b xs ys, x = .ref a ∧ y = .ref b ∧ SqT X.K H a xs ∧ SqT X.K H b ys ∧ xs.length + ys.length ≤ sizeLine ∧ xs ≠ [] ∧ ys ≠ [] ∧ ∀ p o, o.dict = none → H p = none → Q (.ref p) (upd H p (nT o (xs ++ ys)))) := by
  intro pins s σ H x y v u Q I rx ry h
  obtain ⟨a, b, xs, ys, rfl, rfl, ha, hb, hz, n1, n2, q⟩ := h
  cases rx
  cases ry
  obtain ⟨i1, r1, p1, _⟩ := I.tuple ha
  obtain ⟨i2, r2, p2, _⟩ := I.tuple hb
  refine HT.cat_tup p1 p2 (fun z => n1 (r1.nil_iff.mp z)) (fun z => absurd (r2.nil_iff.mp z) n2) (fun _ => ?_) (by rw [← r1.length, ← r2.length]; exact hz)
  exact ⟨.ref s.heap.objs.size, _, I.laid (t' := s.toks) (o := nT _ (xs ++ ys)) (fun b ob q => Heap.get?_push_of_some _ q) (Nat.le_refl _) ⟨Heap.get?_push_size _ rfl, by rw [List.length_append]; exact hz, _, r1.append r2, IsTup.new _ _⟩, rfl, q _ _ rfl (I.hok.fresh (Nat.le_refl _))⟩
theorem o_add : GO2 X (binaryOp .Add) sAdd := by
  intro pins s σ H x y v u Q I rx ry h
  obtain ⟨vx, vy, F, μ, S, r, hS, r1, r2, e, k⟩ := h
  unfold sAdd at e
  split at e
  · cases r1; cases r2; cases e
    exact op_add pins s σ H _ _ v u Q I rx ry ⟨_, _, rfl, rfl, same_k k hS .int⟩
  · obtain ⟨hz, e⟩ := ite_some e
    subst e
    cases r1; cases r2
    exact op_add_str pins s σ H _ _ v u Q I rx ry ⟨_, _, rfl, rfl, hz, same_k k hS .str⟩
  · obtain ⟨hz, e⟩ := ite_some e
    subst e
    cases r1 with
    | tup q1 l1 =>
      cases r2 with
      | tup q2 l2 =>
        have s1 := same_seqT hS.sub q1.sq
        have s2 := same_seqT hS.sub q2.sq
        rename_i a1 vs1 a2 vs2
        by_cases z1 : vs1 = []
        · refine op_catA pins s σ H _ _ v u Q I rx ry ⟨_, _, _, _, rfl, rfl, s1, s2, by rw [← l1.length, ← l2.length]; exact hz, fun z => ?_, fun z => absurd z1 z, fun z => absurd z1 z⟩
          have z' := (nil_of l1).mp z
          subst z'
          exact same_k k hS (.tup q2 l2)
        · by_cases z2 : vs2 = []
          · refine op_catA pins s σ H _ _ v u Q I rx ry ⟨_, _, _, _, rfl, rfl, s1, s2, by rw [← l1.length, ← l2.length]; exact hz, fun z => absurd z z1, fun _ _ => ?_, fun _ z => absurd z2 z⟩
            have z' := (nil_of l2).mp z2
            subst z'
            rw [List.append_nil] at k
            exact same_k k hS (.tup q1 l1)
          · refine op_catN pins s σ H _ _ v u Q I rx ry ⟨_, _, _, _, rfl, rfl, s1, s2, by rw [← l1.length, ← l2.length]; exact hz, z1, z2, fun p o ho hp => ?_⟩
            obtain ⟨k1, k2, k3⟩ := hS.newTup hp ho (l1.append l2)
            exact k _ _ _ k1 k2 k3
  · split at e
    · rename_i xs ys e1 e2
      obtain ⟨hz, e⟩ := ite_some e
      subst e
      obtain ⟨a, vs, rfl, h1, l1⟩ := lstOf_ok hS r1 e1
      obtain ⟨b, ws, rfl, h2, l2⟩ := lstOf_ok hS r2 e2
      refine op_cat pins s σ H _ _ v u Q I rx ry ⟨a, b, vs, ws, rfl, rfl, h1, h2, by rw [← l1.length, ← l2.length]; exact hz, fun p hp => ?_⟩
      obtain ⟨k1, k2, k3⟩ := hS.newLst hp (l1.append l2)
      exact k _ _ _ k1 k2 k3
    · cases e
def sIadd : Sto → Val → Val → Option Val := fun S x y => match x, y with
  | .int i, .int j => some (.int (i + j))
  | .str a, .str b => if a.length + b.length ≤ sizeLine then some (.str (a ++ b)) else none
  | _, _ => none
theorem op_mulB : OpR X (binaryOp .Mult) (rI (fun i j => mulOk i j = true) fun i j => .int (i * j)) := opI fun _ _ _ _ _ _ _ hc q => mul_int q (mulOk_ok hc)
theorem o_mulI : GO2 X (binaryOp .Mult) (iOp fMul) := o_int op_mulB fun i j r h => ite_some h
mutual
def toD : Val → Option PyData
  | .non => some .none
  | .bl b => some (.bool b)
  | .int i => some (.int i)
  | .str x => some (.str x)
  | .tup xs => (toDL xs).map PyData.tuple
  | .lst xs => (toDL xs).map PyData.list
  | .scr ns => some (.list (ns.map PyData.int))
  | .dct _ => none
  | .cell _ => none
  | .con _ => none
  | .fnv _ => none
  | .err _ _ _ _ => none
  | .ex0 _ => none
  | .ex1 _ _ _ => none
  | .prs _ => none
def toDL : List Val → Option (List PyData)
  | [] => some []
  | x :: xs => match toD x, toDL xs with
    | some d, some ds => some (d :: ds)
    | _, _ => none
end
mutual
def dat (S : Sto) : Val → Option PyData
  | .non => some .none
  | .bl b => some (.bool b)
  | .int i => some (.int i)
  | .str x => some (.str x)
  | .tup xs => (datL S xs).map PyData.tuple
  | .lst xs => (datL S xs).map PyData.list
  | .scr ns => some (.list (ns.map PyData.int))
  | .dct _ => none
  | .cell k => match S[k]? with
    | some (.lst xs) => (toDL xs).map PyData.list
    | _ => none
  | .con _ => none
  | .fnv _ => none
  | .err _ _ _ _ => none
  | .ex0 _ => none
  | .ex1 _ _ _ => none
  | .prs _ => none
def datL (S : Sto) : List Val → Option (List PyData)
  | [] => some []
  | x :: xs => match dat S x, datL S xs with
    | some d, some ds => some (d :: ds)
    | _, _ => none
end
theorem dpInts {K : PySem.W.Frag} {H : Hp} : ∀ ns : List Int, DpAll K H (ns.map V.int) (ns.map PyData.int)
  | [] => .nil
  | n :: ns => .cons (.int n) (dpInts ns)
section
variable {K : PySem.W.Frag} {mg : Str → Option Value} {F H : Hp} {μ : List Addr} {S : Sto}
mutual
theorem toD_ok (h : Same F H) : ∀ {v : Val} {w : V} {d : PyData}, RepV K F μ v w → toD v = some d → Dp K H w d
  | _, _, _, .non, e => by cases e; exact .non
  | _, _, _, .bl, e => by cases e; exact .bl _
  | _, _, _, .int, e => by cases e; exact .int _
  | _, _, _, .str, e => by cases e; exact .str _
  | _, _, _, .tup q r, e => by
    unfold toD at e
    obtain ⟨ds, e1, e2⟩ := Option.map_eq_some_iff.mp e
    subst e2
    exact .tup (same_seqT h q.sq) (toDL_ok h r e1)
  | _, _, _, .lst q r, e => by
    unfold toD at e
    obtain ⟨ds, e1, e2⟩ := Option.map_eq_some_iff.mp e
    subst e2
    exact .lst (SqL.of (h _ _ q)) (toDL_ok h r e1)
  | _, _, _, .dct _ _, e => by unfold toD at e; cases e
  | _, _, _, .scr q, e => by unfold toD at e; cases e; exact .lst (h.seq q) (dpInts _)
  | _, _, _, .cell _, e => by unfold toD at e; cases e
  | _, _, _, .con, e => by unfold toD at e; cases e
  | _, _, _, .fnv _, e => by unfold toD at e; cases e
  | _, _, _, .err0, e => by unfold toD at e; cases e
  | _, _, _, .err1 _ _, e => by unfold toD at e; cases e
  | _, _, _, .ex0 _ _, e => by unfold toD at e; cases e
  | _, _, _, .ex1 _ _ _ _, e => by unfold toD at e; cases e
  | _, _, _, .prs _ _, e => by unfold toD at e; cases e
theorem toDL_ok (h : Same F H) : ∀ {v : List Val} {w : List V} {d : List PyData}, RepL K F μ v w → toDL v = some d → DpAll K H w d
  | _, _, _, .nil, e => by unfold toDL at e; cases e; exact .nil
  | _, _, _, .cons r t, e => by
    unfold toDL at e
    split at e
    · rename_i e1 e2
      cases e
      exact .cons (toD_ok h r e1) (toDL_ok h t e2)
    · cases e
end
mutual
theorem dat_ok (h : RepS K mg F H μ S) : ∀ {v : Val} {w : V} {d : PyData}, RepV K F μ v w → dat S v = some d → Dp K H w d
  | _, _, _, .non, e => by unfold dat at e; cases e; exact .non
  | _, _, _, .bl, e => by unfold dat at e; cases e; exact .bl _
  | _, _, _, .int, e => by unfold dat at e; cases e; exact .int _
  | _, _, _, .str, e => by unfold dat at e; cases e; exact .str _
  | _, _, _, .tup q r, e => by
    unfold dat at e
    obtain ⟨ds, e1, e2⟩ := Option.map_eq_some_iff.mp e
    subst e2
    exact .tup (same_seqT h.sub q.sq) (datL_ok h r e1)
  | _, _, _, .lst q r, e => by
    unfold dat at e
    obtain ⟨ds, e1, e2⟩ := Option.map_eq_some_iff.mp e
    subst e2
    exact .lst (SqL.of (h.sub _ _ q)) (datL_ok h r e1)
  | _, _, _, .dct _ _, e => by unfold dat at e; cases e
  | _, _, _, .scr q, e => by unfold dat at e; cases e; exact .lst (h.sub.seq q) (dpInts _)
  | _, _, _, .cell (k := k) (a := a) q, e => by
    unfold dat at e
    split at e
    · rename_i xs ek
      obtain ⟨ds, e1, e2⟩ := Option.map_eq_some_iff.mp e
      subst e2
      obtain ⟨vs, h1, h2⟩ := h.cells k a _ q ek
      exact .lst (SqL.of h1) (toDL_ok h.sub h2 e1)
    · cases e
  | _, _, _, .con, e => by unfold dat at e; cases e
  | _, _, _, .fnv _, e => by unfold dat at e; cases e
  | _, _, _, .err0, e => by unfold dat at e; cases e
  | _, _, _, .err1 _ _, e => by unfold dat at e; cases e
  | _, _, _, .ex0 _ _, e => by unfold dat at e; cases e
  | _, _, _, .ex1 _ _ _ _, e => by unfold dat at e; cases e
  | _, _, _, .prs _ _, e => by unfold dat at e; cases e
theorem datL_ok (h : RepS K mg F H μ S) : ∀ {v : List Val} {w : List V} {d : List PyData}, RepL K F μ v w → datL S v = some d → DpAll K H w d
  | _, _, _, .nil, e => by unfold datL at e; cases e; exact .nil
  | _, _, _, .cons r t, e => by
    unfold datL at e
    split at e
    · rename_i e1 e2
      cases e
      exact .cons (dat_ok h r e1) (datL_ok h t e2)
    · cases e
end
end
def sEqD (S : Sto) (x y : Val) : Option Bool := match dat S x, dat S y with
  | some d, some e => if SeqAt.shaped d = true ∧ SeqAt.shaped e = true then some (PyData.eqv d e) else none
  | _, _ => none
def sEqB (S : Sto) (x y : Val) : Option Bool := match x, y with
  | .str a, .str b => some (decide (a = b))
  | x, y => sEqD S x y
def sEq : Sto → Val → Val → Option Val := fun S x y => (sEqB S x y).map Val.bl
def sNe : Sto → Val → Val → Option Val := fun S x y => (sEqB S x y).map fun b => .bl (!b)
theorem sEqD_ok {K : PySem.W.Frag} {mg : Str → Option Value} {F H : Hp} {μ : List Addr} {S : Sto} {vx vy : Val} {x y : V} {b : Bool} (h : RepS K mg F H μ S) (r1 : RepV K F μ vx x) (r2 : RepV K F μ vy y) (e : sEqD S vx vy = some b) :
    ∃ d d', Dp K H x d ∧ Dp K H y d' ∧ SeqAt.shaped d = true ∧ SeqAt.shaped d' = true ∧ b = PyData.eqv d d' := by
  unfold sEqD at e
  split at e
  · rename_i d d' e1 e2
    obtain ⟨⟨h1, h2⟩, e⟩ := ite_some e
    exact ⟨d, d', dat_ok h r1 e1, dat_ok h r2 e2, h1, h2, e⟩
  · cases e
theorem op_eqD' (hu : X.A.units + 64 < cLine) : OpR X (compareOp .Eq) (rEqD X.K) := by
  intro pins s σ H x y v u Q I rx ry h
  obtain ⟨d, e, hd, he, sd, se, q⟩ := h
  obtain ⟨as, r1⟩ := Dp.reads I d x v hd rx
  obtain ⟨bs, r2⟩ := Dp.reads I e y u he ry
  exact SeqAt.compareEq_shaped r1 r2 sd se hu ⟨.bl _, H, I, rfl, q⟩
theorem op_neD' (hu : X.A.units + 64 < cLine) : OpR X (compareOp .NotEq) (rNeD X.K) := by
  intro pins s σ H x y v u Q I rx ry h
  obtain ⟨d, e, hd, he, sd, se, q⟩ := h
  obtain ⟨as, r1⟩ := Dp.reads I d x v hd rx
  obtain ⟨bs, r2⟩ := Dp.reads I e y u he ry
  exact SeqAt.compareNe_shaped r1 r2 sd se hu ⟨.bl _, H, I, rfl, q⟩
theorem o_eq (hu : X.A.units + 64 < cLine) : GO2 X (compareOp .Eq) sEq := by
  intro pins s σ H x y v u Q I rx ry h
  obtain ⟨vx, vy, F, μ, S, r, hS, r1, r2, e, k⟩ := h
  obtain ⟨b, eb, e⟩ := Option.map_eq_some_iff.mp e
  subst e
  unfold sEqB at eb
  split at eb
  · cases eb
    cases r1
    cases r2
    refine L2.op_eq pins s σ H _ _ v u Q I rx ry ⟨rfl, ?_⟩
    have hd : ∀ a b : Str, decide (V.str a = V.str b) = decide (a = b) := fun a b => by simp
    rw [hd]
    exact same_k k hS .bl
  obtain ⟨d, d', h1, h2, h3, h4, e⟩ := sEqD_ok hS r1 r2 eb
  subst e
  exact op_eqD' hu pins s σ H x y v u Q I rx ry ⟨d, d', h1, h2, h3, h4, same_k k hS .bl⟩
theorem o_ne (hu : X.A.units + 64 < cLine) : GO2 X (compareOp .NotEq) sNe := by
  intro pins s σ H x y v u Q I rx ry h
  obtain ⟨vx, vy, F, μ, S, r, hS, r1, r2, e, k⟩ := h
  obtain ⟨b, eb, e⟩ := Option.map_eq_some_iff.mp e
  subst e
  unfold sEqB at eb
  split at eb
  · cases eb
    cases r1
    cases r2
    refine L2.op_ne pins s σ H _ _ v u Q I rx ry ⟨rfl, ?_⟩
    have hd : ∀ a b : Str, decide (V.str a = V.str b) = decide (a = b) := fun a b => by simp
    rw [hd]
    exact same_k k hS .bl
  obtain ⟨d, d', h1, h2, h3, h4, e⟩ := sEqD_ok hS r1 r2 eb
  subst e
  exact op_neD' hu pins s σ H x y v u Q I rx ry ⟨d, d', h1, h2, h3, h4, same_k k hS .bl⟩
def isNon : Val → Option Bool
  | .non => some true
  | .con _ => none
  | .fnv _ => none
  | .err _ _ _ _ => none
  | .ex0 _ => none
  | .ex1 _ _ _ => none
  | .prs _ => none
  | _ => some false
end
end G

set_option Elab.async false
set_option linter.all false
set_option maxRecDepth 100000
set_option maxHeartbeats 4000000
namespace PySem
open Sem (wp)
open AutoSeq1 (wpAny_loadPart')
theorem g_meets_enumerate_newT (l : Addr) (items : Array Value) (n : Nat) (dct : Option Addr) (sl : Array (Option Value)) :
    Meets (Builtin.«enumerate.__new__» ⟨[.type "enumerate", .ref l], []⟩) (fun _ R s => s.heap.get? l = some { cls := .type "tuple", dict := dct, data := .seq items n, slots := sl } ∧
      R (.ok (.ret (.ref (s.heap.push { cls := .type "tuple_iterator", data := .fields #[.ref l, .int 0 0] }).objs.size)))
        { s with heap := (s.heap.push { cls := .type "tuple_iterator", data := .fields #[.ref l, .int 0 0] }).push { cls := .type "enumerate", data := .fields #[.none, .bool false, .ref s.heap.objs.size, rawInt 0, .none, .none] } }) :=
  .of_wp fun prog w A R s h => by
    obtain ⟨hp, g, d, tk, os⟩ := s; obtain ⟨hl, h⟩ := h
    have hsub := sub_enumerate
    have hL : Heap.IsTuple (Shared.heap ⟨hp, g, d, tk, os⟩) l items := ⟨_, hl, rfl, n, rfl⟩
    wp_walk using wpAny_loadPart' hl
    refine wpAny_stack_any fun st => wpAny_pure ?_
    split
    · rename_i c _ _ _ _ _
      cases (c == Value.type "enumerate")
      · wp_walk using wpAny_loadPart' hl, wpAny_pyIter_tuple hL
        exact ⟨_, rfl, h⟩
      · wp_walk using wpAny_loadPart' hl, wpAny_pyIter_tuple hL
        exact ⟨_, rfl, h⟩
    · wp_walk using wpAny_loadPart' hl, wpAny_pyIter_tuple hL
      exact ⟨_, rfl, h⟩
theorem g_call_enumerate_tuple {prog : Program} {w : World} {A : Around} {E : Value → Shared → Prop} {s : Shared} {l : Addr} {items : Array Value} {Q : Value → Shared → Prop} (hL : s.heap.IsTuple l items)
    (h : ∀ h', IsEnum h' (s.heap.objs.size + 1) s.heap.objs.size 0 .none → h'.IsTupleIter s.heap.objs.size l 0 → h'.objs.size = s.heap.objs.size + 2 →
      (∀ b o, s.heap.get? b = some o → h'.get? b = some o) → Q (.ref (s.heap.objs.size + 1)) { s with heap := h' }) :
    wpAny (model prog w) A (call (.type "enumerate") [.ref l]) Q E s := by
  obtain ⟨⟨c, dct, dt, sl⟩, hl, hc, n, hd⟩ := hL
  replace hc : c = .type "tuple" := hc
  replace hd : dt = .seq items n := hd
  subst hc hd
  refine callType_new F.called_enumerate (by decide) (F.typeCall_enumerate_1 _) (F.newCall_enumerate_1 _) (fun obj => F.args_object_init_2 obj _) F.entry_enumerate_new
    (g_meets_enumerate_newT l items n dct sl) ⟨hl, ?_⟩
  have hz : (s.heap.push { cls := .type "tuple_iterator", data := .fields #[.ref l, .int 0 0] }).objs.size = s.heap.objs.size + 1 := Heap.size_push ..
  show _ ∧ _
  rw [hz]
  have he : IsEnum ((s.heap.push { cls := .type "tuple_iterator", data := .fields #[.ref l, .int 0 0] }).push
      { cls := .type "enumerate", data := .fields #[.none, .bool false, .ref s.heap.objs.size, rawInt 0, .none, .none] }) (s.heap.objs.size + 1) s.heap.objs.size 0 .none := by
    have := Heap.get?_push_size (s.heap.push { cls := .type "tuple_iterator", data := .fields #[.ref l, .int 0 0] })
      (o := { cls := .type "enumerate", data := .fields #[.none, .bool false, .ref s.heap.objs.size, rawInt 0, .none, .none] }) rfl
    rw [hz] at this; exact this
  refine ⟨⟨_, he, rfl⟩, h _ he ⟨_, Heap.get?_push_of_some _ (Heap.get?_push_size _ rfl), rfl, rfl⟩ (by rw [Heap.size_push, hz]) fun b o x => Heap.get?_push_of_some _ (Heap.get?_push_of_some _ x)⟩
end PySem
namespace G
open PySem PySem.Spec PyProof.Rows L2
def ItE (go : Nat → Hp → Prop) (at_ : Nat → Hp → V → Prop) (stop : Nat → Hp → Prop) : It :=
  ⟨go, fun i H v H' => ∃ T x, v = .ref T ∧ H T = none ∧ H' = upd H T (.tup [.int (i : Nat), x]) ∧ at_ i H x, stop⟩
theorem turn_enumD {P : Program} {w : World} {K : PySem.W.Frag} {elts : List Expr} {kk : Nat} {tpos : Pos} {go : Nat → Hp → Prop} {at_ : Nat → Hp → V → Prop} {stp : Nat → Hp → Prop} (e it : Addr) (hne : e ≠ it) (St : Nat → Heap → Prop)
    (so : ∀ i h, St i h → ∃ o, h.get? it = some o ∧ ∀ v, o.data ≠ .cell v) (sk : ∀ i h h', St i h → (∀ o, h.get? it = some o → h'.get? it = some o) → St i h')
    (dr : ∀ (X : Cx), X.prog = P → X.w = w → X.K = K → X.calm = true → ∀ (i : Nat) (pins : List (Addr × Obj)) (s : Shared) (σ : L2.St) (H : Hp), Inv X pins σ H s → St i s.heap → go i H →
      ∃ (fp : List Addr) (n : Nat) (Pv : Nat → Value → Prop) (S2 : Nat → Heap → Prop), Draws P w X.A.in1 it fp n Pv S2 ∧ S2 i s.heap ∧ i < n ∧ e ∉ fp ∧ (∀ h, S2 (i + 1) h → St (i + 1) h) ∧ ∀ u, Pv i u → ∃ x, RelV x u ∧ at_ i H x)
    (dn : ∀ (X : Cx), X.prog = P → X.w = w → X.K = K → X.calm = true → ∀ (i : Nat) (pins : List (Addr × Obj)) (s : Shared) (σ : L2.St) (H : Hp), Inv X pins σ H s → St i s.heap → stp i H →
      ∃ (fp : List Addr) (n : Nat) (Pv : Nat → Value → Prop) (S2 : Nat → Heap → Prop), Draws P w X.A.in1 it fp n Pv S2 ∧ S2 n s.heap) :
    Turn P w K (.Tuple elts kk tpos) (ItE go at_ stp) [e, it] e (fun i h => (∃ old, IsEnum h e it ((i : Nat) : Int) old) ∧ St i h) where
  mem := by simp
  obj := fun i h st b hb => by
    obtain ⟨⟨old, he⟩, hs⟩ := st
    have e' : b = e ∨ b = it := by simpa using hb
    rcases e' with z | z
    · rw [z]; exact ⟨_, he, fun v q => nomatch q⟩
    · rw [z]; exact so i h hs
  keep := fun i h h' st k => let ⟨⟨old, he⟩, hi⟩ := st; ⟨⟨old, k e (by simp) _ he⟩, sk i h h' hi fun o q => k it (by simp) o q⟩
  item := by
    intro X hP hw hK hc i pins s σ H E I hf st hg
    obtain ⟨fp, n, Pv, S2, D, s2, hn, hef, s3, hv⟩ := dr X hP hw hK hc i pins s σ H I st.2 hg
    subst hP hw hK
    obtain ⟨⟨old, he⟩, hs⟩ := st
    have hel : e < s.heap.objs.size := Heap.lt_size he
    have hil : it < s.heap.objs.size := by obtain ⟨_, q, _⟩ := so i _ hs; exact Heap.lt_size q
    refine wpAny_pyNext_enum_itemD D he s2 hn hne hef fun u h' tk hu ho hit' hT hsz hk => ?_
    obtain ⟨x, ru, hx⟩ := hv u hu
    refine ⟨_, rfl, wpAny_letOwnedTupleGo_enum (s := { s with heap := h', toks := tk + 1 }) ho fun h'' he' sb => ?_⟩
    have hT2 : h''.get? s.heap.objs.size = some { cls := .type "tuple", data := .seq #[.int i tk, u] } := (sb.2 _ (Nat.ne_of_gt hel)).trans hT
    have new : ObjOk X.prog X.w (upd H s.heap.objs.size (.tup [.int (i : Nat), x])) h'' s.heap.objs.size (.tup [.int (i : Nat), x]) :=
      ⟨by show 2 ≤ sizeLine; decide, [.int i tk, u], .cons ⟨_, rfl⟩ (.cons ru .nil), ⟨_, hT2, rfl, _, rfl⟩⟩
    have I1 : Inv X pins σ (upd H s.heap.objs.size (.tup [.int (i : Nat), x])) { s with heap := h'', toks := tk + 1 } :=
      I.turnedNew (ch := [e, it]) (fun b ob hb q => (sb.2 b (fun z => hb (by simp [z]))).trans (hk b ob (fun z => hb (by simp [z])) (fun z => hb (by simp [z])) q)) hf (Nat.le_refl _) new
    refine ⟨.ref s.heap.objs.size, _, I1, rfl, ⟨_, x, rfl, I.hok.fresh (Nat.le_refl _), rfl, hx⟩, ⟨⟨u, ?_⟩, sk _ _ _ (s3 _ hit') fun o q => (sb.2 it (Ne.symm hne)).trans q⟩, fun b hb => ?_⟩
    · have e1 : ((i + 1 : Nat) : Int) = (i : Int) + 1 := by omega
      rw [e1]; exact he'
    · have hb' : b < s.heap.objs.size := by
        have e' : b = e ∨ b = it := by simpa using hb
        rcases e' with z | z
        · rw [z]; exact hel
        · rw [z]; exact hil
      rw [upd_ne (Nat.ne_of_lt hb')]
      exact (hf b hb).1
  done := by
    intro X hP hw hK hc i pins s σ H E I hf st hg
    obtain ⟨fp, n, Pv, S2, D, s2⟩ := dn X hP hw hK hc i pins s σ H I st.2 hg
    subst hP hw hK
    obtain ⟨⟨old, he⟩, hs⟩ := st
    obtain ⟨f0, f1, f2, f3, f4, f5⟩ := hf it (by simp)
    exact wpAny_pyNext_enum_endD D he s2 fun h' eb => ⟨rfl, I.turned (t' := s.toks) (fun b o hb q => eb b o hb q) f0 f1 f3 f4 f5⟩
  self := fun A i s Q E st h => let ⟨⟨_, he⟩, _⟩ := st; wpAny_pyIter_enum he h
def ItT (K : PySem.W.Frag) (a : Addr) : It := ItE (fun i H => ∃ xs x, SqT K H a xs ∧ xs[i]? = some x) (fun i H x => ∀ xs, SqT K H a xs → xs[i]? = some x) (fun i H => ∃ xs, SqT K H a xs ∧ xs.length = i)
def ItS (z : Str) : It := ItE (fun i _ => i < z.cps.size) (fun i _ x => ∃ c, z.cps[i]? = some c ∧ x = .str ⟨#[c]⟩) (fun i _ => z.cps.size = i)
theorem turn_enumT {P : Program} {w : World} {K : PySem.W.Frag} {elts : List Expr} {kk : Nat} {tpos : Pos} (a e it : Addr) (hne : e ≠ it) (hea : e ≠ a) (hai : a ≠ it) :
    Turn P w K (.Tuple elts kk tpos) (ItT K a) [e, it] e (fun i h => (∃ old, IsEnum h e it ((i : Nat) : Int) old) ∧ h.IsTupleIter it a i) := by
  refine turn_enumD e it hne (fun i h => h.IsTupleIter it a i) (fun i h ⟨o, ho, hc, hd⟩ => ⟨o, ho, fun v q => by rw [hd] at q; cases q⟩) (fun i h h' st k => st.at fun o q => k o q) ?_ ?_
  · intro X hP hw hK hc i pins s σ H I st hg
    subst hP hw hK
    obtain ⟨xs, x, hq, hx⟩ := hg
    obtain ⟨its, rv, p, hz⟩ := I.tuple hq
    refine ⟨[it, a], _, _, _, Draws.tuple (show X.A.in1.handled = none from I.ok.hd hc) it a hai its.toArray, ⟨st, p⟩, ?_, by simp [hne, hea], fun h q => q.1, fun u hu => ?_⟩
    · have := (List.getElem?_eq_some_iff.mp hx).1
      have := rv.length
      simp; omega
    · obtain ⟨u', hu', ru⟩ := rv.get hx
      have e1 : its[i]? = some u := by simpa using hu
      rw [e1] at hu'
      cases hu'
      exact ⟨x, ru, fun ys hy => by rw [I.tuple_inj hy hq]; exact hx⟩
  · intro X hP hw hK hc i pins s σ H I st hg
    subst hP hw hK
    obtain ⟨xs, hq, hx⟩ := hg
    obtain ⟨its, rv, p, hz⟩ := I.tuple hq
    have hl := rv.length
    have e1 : its.toArray.size = i := by simp; omega
    exact ⟨[it, a], _, _, _, Draws.tuple (show X.A.in1.handled = none from I.ok.hd hc) it a hai its.toArray, by rw [e1]; exact st, p⟩
theorem turn_enumS {P : Program} {w : World} {K : PySem.W.Frag} {elts : List Expr} {kk : Nat} {tpos : Pos} (z : Str) (t : Tok) (e it : Addr) (hne : e ≠ it) :
    Turn P w K (.Tuple elts kk tpos) (ItS z) [e, it] e (fun i h => (∃ old, IsEnum h e it ((i : Nat) : Int) old) ∧ h.IsStrIter it (strIterType z) z t i) := by
  refine turn_enumD e it hne (fun i h => h.IsStrIter it (strIterType z) z t i) (fun i h ⟨o, ho, hc, hd⟩ => ⟨o, ho, fun v q => by rw [hd] at q; cases q⟩) (fun i h h' st k => let ⟨o, ho, r⟩ := st; ⟨o, k o ho, r⟩) ?_ ?_
  · intro X hP hw hK hc i pins s σ H I st hg
    subst hP hw hK
    refine ⟨[it], _, _, _, Draws.text (show X.A.in1.handled = none from I.ok.hd hc) it z t, st, hg, by simp [hne], fun h q => q, fun u hu => ?_⟩
    obtain ⟨c, t', hc', rfl⟩ := hu
    exact ⟨.str ⟨#[c]⟩, ⟨_, rfl⟩, c, hc', rfl⟩
  · intro X hP hw hK hc i pins s σ H I st hg
    subst hP hw hK
    have e1 : z.cps.size = i := hg
    exact ⟨[it], _, _, _, Draws.text (show X.A.in1.handled = none from I.ok.hd hc) it z t, by rw [e1]; exact st⟩
def iEnA (K : PySem.W.Frag) (ta : TA) : TI := fun σ H R => ta σ H fun vs H1 => (∃ a xs, vs = [.ref a] ∧ SqL K H1 a xs ∧ R (Ite K a) H1) ∨ (∃ a xs, vs = [.ref a] ∧ SqT K H1 a xs ∧ R (ItT K a) H1) ∨ ∃ z, vs = [.str z] ∧ R (ItS z) H1
theorem pi_enA {X : Cx} {e : Expr} {ta : TA} {p pos tpos : Pos} {elts : List Expr} {kk : Nat} (hg : Gl X "enumerate") (hm : X.mg "enumerate" = none) (ha : PA X [e] ta) (hs : starEach [e] X.env = [(false, eval e X.env)] := by rfl) :
    PI X (.Tuple elts kk tpos) (.Call (.Name "enumerate" p) [e] [] pos) (iEnA X.K ta) := by
  refine ⟨fun pins s σ H R I h => ?_⟩
  refine Call_ (ld_blt I hg hm boot_enumerate (PyProof.Rows.callWith_type1 (thn (ha.run pos pins s σ H _ I h) fun us s1 ⟨vs, H1, I1, r1, q1⟩ => ?_) hs rfl))
  have fp : ∀ b, b ∈ [s1.heap.objs.size + 1, s1.heap.objs.size] → FpOk X pins H1 b := fun b hb => by
    have e' : b = s1.heap.objs.size + 1 ∨ b = s1.heap.objs.size := by simpa using hb
    have hle : s1.heap.objs.size ≤ b := by
      rcases e' with z | z
      · rw [z]; exact Nat.le_add_right _ _
      · rw [z]; exact Nat.le_refl _
    exact I1.fpOk hle (I1.hok.fresh hle)
  rcases q1 with ⟨a, xs, ex, hq, q⟩ | ⟨a, xs, ex, hq, q⟩ | ⟨z, ex, q⟩
  · subst ex
    obtain ⟨u, rfl, r⟩ := vals1 r1
    cases r
    obtain ⟨its, rv, p', hz⟩ := I1.list hq
    refine call_enumerate_list p'.isList fun h' he hit hsz hk => wpAny_pyIter_enum he ?_
    have I2 : Inv X pins σ H1 { s1 with heap := h' } := I1.kept (t' := s1.toks) hk
    exact ⟨s1.heap.objs.size + 1, [s1.heap.objs.size + 1, s1.heap.objs.size], _, _, H1, rfl, I2, turn_enum a (s1.heap.objs.size + 1) s1.heap.objs.size, ⟨⟨.none, he⟩, hit, Nat.succ_ne_self _⟩, fp, q⟩
  · subst ex
    obtain ⟨u, rfl, r⟩ := vals1 r1
    cases r
    obtain ⟨its, rv, p', hz⟩ := I1.tuple hq
    have hal : a < s1.heap.objs.size := IsTup.lt p'
    refine g_call_enumerate_tuple (show s1.heap.IsTuple a its.toArray from p') fun h' he hit hsz hk => wpAny_pyIter_enum he ?_
    have I2 : Inv X pins σ H1 { s1 with heap := h' } := I1.kept (t' := s1.toks) hk
    exact ⟨s1.heap.objs.size + 1, [s1.heap.objs.size + 1, s1.heap.objs.size], _, _, H1, rfl, I2, turn_enumT a (s1.heap.objs.size + 1) s1.heap.objs.size (Nat.succ_ne_self _) (Nat.ne_of_gt (Nat.lt_succ_of_lt hal)) (Nat.ne_of_lt hal), ⟨⟨.none, he⟩, hit⟩, fp, q⟩
  · subst ex
    obtain ⟨u, rfl, r⟩ := vals1 r1
    obtain ⟨t, rfl⟩ := r
    refine call_enumerate_str fun h' he hit hsz hk => wpAny_pyIter_enum he ?_
    have I2 : Inv X pins σ H1 { s1 with heap := h' } := I1.kept (t' := s1.toks) hk
    exact ⟨s1.heap.objs.size + 1, [s1.heap.objs.size + 1, s1.heap.objs.size], _, _, H1, rfl, I2, turn_enumS z t (s1.heap.objs.size + 1) s1.heap.objs.size (Nat.succ_ne_self _), ⟨⟨.none, he⟩, hit⟩, fp, q⟩
def iAny (K : PySem.W.Frag) (tl : TE) : TI := fun σ H R => tl σ H fun x H1 => (∃ a, x = .ref a ∧ (∃ xs, SqL K H1 a xs) ∧ R (Itl K a) H1) ∨ (∃ a, x = .ref a ∧ (∃ xs, SqT K H1 a xs) ∧ R (Itt K a) H1) ∨ ∃ z, x = .str z ∧ R (Its z) H1
theorem pi_any {X : Cx} {tg l : Expr} {tl : TE} (hl : PE X l tl) : PI X tg l (iAny X.K tl) := by
  refine ⟨fun pins s σ H R I h => ?_⟩
  refine thn (hl.run pins s σ H _ I h) fun v s1 ⟨x, H1, I1, r1, q1⟩ => ?_
  rcases q1 with ⟨a, e, ⟨xs, hq⟩, q⟩ | ⟨a, e, ⟨xs, hq⟩, q⟩ | ⟨z, e, q⟩
  · subst e
    cases r1
    obtain ⟨its, rv, p, hz⟩ := I1.list hq
    exact wpAny_pyIter_list p.isList (pi_one (tk := s1.toks) I1 _ (turn_list a _) ⟨_, Heap.get?_push_size _ rfl, rfl, rfl⟩ q)
  · subst e
    cases r1
    obtain ⟨its, rv, p, hz⟩ := I1.tuple hq
    exact wpAny_pyIter_tuple (show s1.heap.IsTuple a its.toArray from p) (pi_one (tk := s1.toks) I1 _ (turn_tuple a _) ⟨_, Heap.get?_push_size _ rfl, rfl, rfl⟩ q)
  · subst e
    obtain ⟨t, rfl⟩ := r1
    cases ha : z.cps.all (· < 128)
    · exact wpAny_pyIter_wide ha (pi_one (tk := s1.toks) I1 _ (turn_str _ z t "str_iterator" (.inr rfl)) ⟨_, Heap.get?_push_size _ rfl, rfl, rfl⟩ q)
    · exact wpAny_pyIter_ascii ha (pi_one (tk := s1.toks) I1 _ (turn_str _ z t "str_ascii_iterator" (.inl rfl)) ⟨_, Heap.get?_push_size _ rfl, rfl, rfl⟩ q)

def signs (z : Str) : List Val := z.cps.toList.map fun c => .str ⟨#[c]⟩
theorem signs_len (z : Str) : (signs z).length = z.cps.size := by simp [signs]
theorem signs_get {z : Str} {i : Nat} {x : Val} (h : (signs z)[i]? = some x) : ∃ c, z.cps[i]? = some c ∧ x = .str ⟨#[c]⟩ := by
  unfold signs at h
  rw [List.getElem?_map] at h
  obtain ⟨c, h1, h2⟩ := Option.map_eq_some_iff.mp h
  exact ⟨c, by simpa using h1, h2.symm⟩
def itemsOf (S : Sto) : Val → Option (List Val × Gd)
  | .tup xs => some (xs, [])
  | .lst xs => some (xs, [])
  | .scr ns => some (ns.map Val.int, [])
  | .str z => some (signs z, [])
  | .cell k => match S[k]? with
    | some (.lst xs) => some (xs, [(k, .lst xs)])
    | _ => none
  | _ => none
inductive Src (K : PySem.W.Frag) (F : Hp) (μ : List Addr) : Val → V → List Val → Gd → Prop where
  | tup {xs : List Val} {a : Addr} {vs : List V} : SqT K F a vs → RepL K F μ xs vs → Src K F μ (.tup xs) (.ref a) xs []
  | lst {v : Val} {xs : List Val} {a : Addr} {vs : List V} : SqL K F a vs → RepL K F μ xs vs → Src K F μ v (.ref a) xs []
  | str {z : Str} : Src K F μ (.str z) (.str z) (signs z) []
  | cell {k : Nat} {a : Addr} {xs : List Val} : μ[k]? = some a → Src K F μ (.cell k) (.ref a) xs [(k, .lst xs)]
theorem itemsOf_ok {K : PySem.W.Frag} {F : Hp} {μ : List Addr} {S : Sto} {v : Val} {w : V} {xs : List Val} {g : Gd} (r : RepV K F μ v w) (e : itemsOf S v = some (xs, g)) : Src K F μ v w xs g := by
  cases r with
  | tup q l => cases e; exact .tup q.sq l
  | lst q l => cases e; exact .lst (SqL.of q) l
  | scr q => cases e; exact .lst q RepL.ofInts
  | str => cases e; exact .str
  | cell q =>
    unfold itemsOf at e
    simp only at e
    split at e
    · cases e; exact .cell q
    · cases e
  | _ => cases e
section
variable {K : PySem.W.Frag} {mg : Str → Option Value} {F H F1 H1 : Hp} {μ μ1 : List Addr} {S1 : Sto}
theorem cell_at (x : Xt F H μ F1 H1 μ1) (s : RepS K mg F1 H1 μ1 S1) {k : Nat} {a : Addr} {xs : List Val} (hk : μ[k]? = some a) (g : gOk [(k, .lst xs)] S1) : ∃ vs, SqL K H1 a vs ∧ RepL K F1 μ1 xs vs := by
  obtain ⟨vs, h1, h2⟩ := s.cells k a _ (prefix_get x.pre hk) (g (k, .lst xs) (by simp))
  exact ⟨vs, SqL.of h1, h2⟩
theorem walks_list {v : Val} {a : Addr} {xs : List Val} {g : Gd} (hl : ∀ F1 H1 μ1 S1, Xt F H μ F1 H1 μ1 → RepS K mg F1 H1 μ1 S1 → gOk g S1 → ∃ vs, SqL K H1 a vs ∧ RepL K F1 μ1 xs vs) : Walks K mg (Itl K a) F H μ xs g where
  goes := fun F1 H1 μ1 S1 i x xt s go hx => by
    obtain ⟨vs, q, l⟩ := hl F1 H1 μ1 S1 xt s go
    obtain ⟨w, hw, r⟩ := l.get hx
    refine ⟨⟨vs, w, q, hw⟩, fun w' H2 y => ?_⟩
    obtain ⟨rfl, hy⟩ := y
    have e := hy vs q
    rw [hw] at e
    cases e
    exact ⟨F1, Xt.refl _ _ _, s, r⟩
  stops := fun F1 H1 μ1 S1 xt s go => by
    obtain ⟨vs, q, l⟩ := hl F1 H1 μ1 S1 xt s go
    exact ⟨vs, q, by rw [← l.length]; exact Nat.le_refl _⟩
theorem walks_tup {a : Addr} {xs : List Val} {vs : List V} (q : SqT K F a vs) (l : RepL K F μ xs vs) : Walks K mg (Itt K a) F H μ xs [] where
  goes := fun F1 H1 μ1 S1 i x xt s go hx => by
    have q1 := same_seqT s.sub (same_seqT xt.sub q)
    obtain ⟨w, hw, r⟩ := l.get hx
    refine ⟨⟨vs, w, q1, hw⟩, fun w' H2 y => ?_⟩
    obtain ⟨rfl, hy⟩ := y
    have e := hy vs q1
    rw [hw] at e
    cases e
    exact ⟨F1, Xt.refl _ _ _, s, r.mono xt.toExt⟩
  stops := fun F1 H1 μ1 S1 xt s go => ⟨vs, same_seqT s.sub (same_seqT xt.sub q), by rw [← l.length]; exact Nat.le_refl _⟩
theorem walks_str (z : Str) : Walks K mg (Its z) F H μ (signs z) [] where
  goes := fun F1 H1 μ1 S1 i x xt s go hx => by
    obtain ⟨c, hc, rfl⟩ := signs_get hx
    have hi : i < z.cps.size := (Array.getElem?_eq_some_iff.mp hc).1
    refine ⟨hi, fun w' H2 y => ?_⟩
    obtain ⟨rfl, c', hc', rfl⟩ := y
    rw [hc] at hc'
    cases hc'
    exact ⟨F1, Xt.refl _ _ _, s, .str⟩
  stops := fun F1 H1 μ1 S1 xt s go => by
    show z.cps.size ≤ (signs z).length
    rw [signs_len]
    exact Nat.le_refl _
end
def mVal (m : ME) : MI := fun ρ S => bnd (m ρ S) fun v S1 => pur (itemsOf S1 v) S1
def pairsOf' (xs : List Val) : List Val := (List.range xs.length).zipWith (fun (i : Nat) x => Val.prs [.int (i : Int), x]) xs
def mEnum (m : MA) : MI := fun ρ S => bnd (m ρ S) fun vs S1 => match vs with
  | [v] => match itemsOf S1 v with
    | some (xs, g) => some (.ok (pairsOf' xs, g) S1)
    | none => none
  | _ => none
theorem pairs_get {xs : List Val} {i : Nat} {y : Val} (h : (pairsOf' xs)[i]? = some y) : ∃ x, xs[i]? = some x ∧ y = .prs [.int (i : Int), x] := by
  unfold pairsOf' at h
  rw [List.getElem?_zipWith] at h
  cases e : xs[i]? with
  | none => rw [e] at h; cases e2 : (List.range xs.length)[i]? <;> rw [e2] at h <;> cases h
  | some x =>
    have hi := (List.getElem?_eq_some_iff.mp e).1
    rw [e, List.getElem?_range hi] at h
    exact ⟨x, rfl, (Option.some.inj h).symm⟩
theorem pairs_len (xs : List Val) : (pairsOf' xs).length = xs.length := by simp [pairsOf']
section
variable {X : Cx} {W : WX} {tg e : Expr} {m : ME}
theorem gi_val (he : GE X W e m) : GI X W tg e (mVal m) := ⟨fun pins s σ H R I h => by
  refine (pi_any he).run pins s σ H R I ?_
  obtain ⟨ρ, F, μ, S, hS, hE, hP⟩ := h
  refine bind_tM hS hE hP.bind fun F1 μ1 S1 v w H1 e1 s1 q1 r1 p1 => ?_
  cases ei : itemsOf S1 v with
  | none => rw [ei] at p1; exact p1.elim
  | some a =>
    obtain ⟨xs, g⟩ := a
    rw [ei] at p1
    have fin := fun J wk => p1 F1 μ1 H1 (Xt.refl _ _ _) s1 J wk
    cases itemsOf_ok r1 ei with
    | tup q l => exact .inr (.inl ⟨_, rfl, ⟨_, same_seqT s1.sub q⟩, fin _ (walks_tup q l)⟩)
    | lst q l => exact .inl ⟨_, rfl, ⟨_, s1.sub.seq q⟩, fin _ (walks_list (v := v) fun F2 H2 μ2 S2 xt s2 _ => ⟨_, s2.sub.seq (xt.sub.seq q), l.mono xt.toExt⟩)⟩
    | str => exact .inr (.inr ⟨_, rfl, fin _ (walks_str _)⟩)
    | @cell k _ _ hk =>
      have hg : gOk [(k, .lst xs)] S1 := by
        unfold itemsOf at ei
        simp only at ei
        split at ei
        · rename_i q
          cases ei
          intro p hp
          simp at hp
          subst hp
          exact q
        · cases ei
      obtain ⟨vs, q, l⟩ := cell_at (Xt.refl F1 H1 μ1) s1 hk hg
      exact .inl ⟨_, rfl, ⟨vs, q⟩, fin _ (walks_list (v := .non) fun F2 H2 μ2 S2 xt s2 g2 => cell_at xt s2 hk g2)⟩⟩
theorem pair_new {K : PySem.W.Frag} {mg : Str → Option Value} {F1 H1 : Hp} {μ1 : List Addr} {S1 : Sto} {T : Addr} {x y : Val} {v w : V} (s : RepS K mg F1 H1 μ1 S1) (hT : H1 T = none) (rx : RepV K F1 μ1 x v) (ry : RepV K F1 μ1 y w) :
    ∃ F2, Xt F1 H1 μ1 F2 (upd H1 T (.tup [v, w])) μ1 ∧ RepS K mg F2 (upd H1 T (.tup [v, w])) μ1 S1 ∧ RepV K F2 μ1 (.prs [x, y]) (.ref T) := by
  have e := ext_upd F1 μ1 (o := .tup [v, w]) (s.nF hT)
  exact ⟨upd F1 T (.tup [v, w]), Xt.new (s.nF hT) hT, s.alloc _ hT, .prs (SqT.of upd_same) (.cons (rx.mono e) (.cons (ry.mono e) .nil))⟩
theorem gi_enum {es : List Expr} {ms : MA} {p pos tpos : Pos} {elts : List Expr} {kk : Nat} (hg : Gl X "enumerate") (hm : X.mg "enumerate" = none) (ha : GA X W [e] ms) (hs : starEach [e] X.env = [(false, eval e X.env)] := by rfl) :
    GI X W (.Tuple elts kk tpos) (.Call (.Name "enumerate" p) [e] [] pos) (mEnum ms) := ⟨fun pins s σ H R I h => by
  refine (pi_enA hg hm ha hs).run pins s σ H R I ?_
  obtain ⟨ρ, F, μ, S, hS, hE, hP⟩ := h
  refine bind_tMA hS hE hP.bind fun F1 μ1 S1 v w H1 e1 s1 q1 r1 p1 => ?_
  split at p1
  · rename_i v
    obtain ⟨w1, rfl, rr⟩ := r1.one
    split at p1
    · rename_i xs g ei
      have fin := fun J wk => p1 F1 μ1 H1 (Xt.refl _ _ _) s1 J wk
      cases itemsOf_ok rr ei with
      | tup q l =>
        refine .inr (.inl ⟨_, _, rfl, same_seqT s1.sub q, fin _ ⟨fun F2 H2 μ2 S2 i y xt s2 go hy => ?_, fun F2 H2 μ2 S2 xt s2 go => ⟨_, same_seqT s2.sub (same_seqT xt.sub q), by rw [pairs_len, l.length]⟩⟩⟩)
        obtain ⟨x, hx, rfl⟩ := pairs_get hy
        obtain ⟨u, hu, ru⟩ := l.get hx
        have q2 := same_seqT s2.sub (same_seqT xt.sub q)
        refine ⟨⟨_, u, q2, hu⟩, fun w' H3 y => ?_⟩
        obtain ⟨T, z, rfl, hT, rfl, hz⟩ := y
        have e2 := hz _ q2
        rw [hu] at e2
        cases e2
        exact pair_new s2 hT .int (ru.mono xt.toExt)
      | lst q l =>
        refine .inl ⟨_, _, rfl, s1.sub.seq q, fin _ ⟨fun F2 H2 μ2 S2 i y xt s2 go hy => ?_, fun F2 H2 μ2 S2 xt s2 go => ⟨_, s2.sub.seq (xt.sub.seq q), by rw [pairs_len, l.length]; exact Nat.le_refl _⟩⟩⟩
        obtain ⟨x, hx, rfl⟩ := pairs_get hy
        obtain ⟨u, hu, ru⟩ := l.get hx
        have q2 := s2.sub.seq (xt.sub.seq q)
        refine ⟨⟨_, u, q2, hu⟩, fun w' H3 y => ?_⟩
        obtain ⟨T, z, rfl, hT, rfl, hz⟩ := y
        have e2 := hz _ q2
        rw [hu] at e2
        cases e2
        exact pair_new s2 hT .int (ru.mono xt.toExt)
      | str =>
        refine .inr (.inr ⟨_, rfl, fin _ ⟨fun F2 H2 μ2 S2 i y xt s2 go hy => ?_, fun F2 H2 μ2 S2 xt s2 go => ?_⟩⟩)
        · obtain ⟨x, hx, rfl⟩ := pairs_get hy
          obtain ⟨c, hc, rfl⟩ := signs_get hx
          refine ⟨(Array.getElem?_eq_some_iff.mp hc).1, fun w' H3 y => ?_⟩
          obtain ⟨T, z, rfl, hT, rfl, c', hc', rfl⟩ := y
          rw [hc] at hc'
          cases hc'
          exact pair_new s2 hT .int .str
        · show _ = _
          rw [pairs_len, signs_len]
      | @cell k _ _ hk =>
        have hg : gOk [(k, .lst xs)] S1 := by
          unfold itemsOf at ei
          simp only at ei
          split at ei
          · rename_i q
            cases ei
            intro p hp
            simp at hp
            subst hp
            exact q
          · cases ei
        obtain ⟨vs, q, l⟩ := cell_at (Xt.refl F1 H1 μ1) s1 hk hg
        refine .inl ⟨_, vs, rfl, q, fin _ ⟨fun F2 H2 μ2 S2 i y xt s2 go hy => ?_, fun F2 H2 μ2 S2 xt s2 go => ?_⟩⟩
        · obtain ⟨x, hx, rfl⟩ := pairs_get hy
          obtain ⟨vs2, q2, l2⟩ := cell_at xt s2 hk go
          obtain ⟨u, hu, ru⟩ := l2.get hx
          refine ⟨⟨_, u, q2, hu⟩, fun w' H3 y => ?_⟩
          obtain ⟨T, z, rfl, hT, rfl, hz⟩ := y
          have e2 := hz _ q2
          rw [hu] at e2
          cases e2
          exact pair_new s2 hT .int ru
        · obtain ⟨vs2, q2, l2⟩ := cell_at xt s2 hk go
          exact ⟨_, q2, by rw [pairs_len, l2.length]; exact Nat.le_refl _⟩
    · exact p1.elim
  · exact p1.elim⟩
def rangeL (a b : Int) : List Val := (List.range (b - a).toNat).map fun (i : Nat) => Val.int (a + (i : Int))
def mRange1 (ms : MA) : MI := fun ρ S => bnd (ms ρ S) fun vs S1 => match vs with
  | [.int j] => if -(2 ^ 62) ≤ j ∧ j < 2 ^ 62 then some (.ok (rangeL 0 j, []) S1) else none
  | _ => none
def mRange2 (ms : MA) : MI := fun ρ S => bnd (ms ρ S) fun vs S1 => match vs with
  | [.int i, .int j] => if -(2 ^ 62) ≤ i ∧ i < 2 ^ 62 ∧ -(2 ^ 62) ≤ j ∧ j < 2 ^ 62 then some (.ok (rangeL i j, []) S1) else none
  | _ => none
theorem range_get {a b : Int} {i : Nat} {x : Val} (h : (rangeL a b)[i]? = some x) : i < (b - a).toNat ∧ x = .int (a + (i : Int)) := by
  unfold rangeL at h
  rw [List.getElem?_map] at h
  obtain ⟨c, h1, h2⟩ := Option.map_eq_some_iff.mp h
  obtain ⟨hi, e⟩ := List.getElem?_eq_some_iff.mp h1
  rw [List.getElem_range] at e
  subst e
  exact ⟨by simpa using hi, h2.symm⟩
theorem walks_range {K : PySem.W.Frag} {mg : Str → Option Value} {F H : Hp} {μ : List Addr} (a b : Int) : Walks K mg (Itr a (b - a).toNat) F H μ (rangeL a b) [] where
  goes := fun F1 H1 μ1 S1 i x xt s go hx => by
    obtain ⟨hi, rfl⟩ := range_get hx
    refine ⟨hi, fun w' H2 y => ?_⟩
    obtain ⟨rfl, rfl⟩ := y
    exact ⟨F1, Xt.refl _ _ _, s, .int⟩
  stops := fun F1 H1 μ1 S1 xt s go => by
    show (b - a).toNat ≤ (rangeL a b).length
    simp [rangeL]
theorem gi_range1 {a : Expr} {ms : MA} {p pos : Pos} (hg : Gl X "range") (hm : X.mg "range" = none) (ha : GA X W [a] ms) (hs : starEach [a] X.env = [(false, eval a X.env)] := by rfl) : GI X W tg (.Call (.Name "range" p) [a] [] pos) (mRange1 ms) := ⟨fun pins s σ H R I h => by
  refine (pi_range1 hg hm ha hs).run pins s σ H R I ?_
  obtain ⟨ρ, F, μ, S, hS, hE, hP⟩ := h
  refine bind_tMA hS hE hP.bind fun F1 μ1 S1 v w H1 e1 s1 q1 r1 p1 => ?_
  split at p1
  · rename_i j
    obtain ⟨w1, rfl, rr⟩ := r1.one
    cases rr
    split at p1
    · rename_i hj
      refine ⟨j, rfl, hj.1, hj.2, p1 F1 μ1 H1 (Xt.refl _ _ _) s1 _ ?_⟩
      have := walks_range (K := X.K) (mg := X.mg) (F := F1) (H := H1) (μ := μ1) 0 j
      rw [Int.sub_zero] at this
      exact this
    · exact p1.elim
  · exact p1.elim⟩
end
end G

set_option Elab.async false
set_option linter.all false
set_option maxRecDepth 100000
set_option maxHeartbeats 4000000
namespace G
open PySem PySem.Spec PyProof.Rows L2
section
variable {X : Cx}
def sReprS (S : Sto) (v : Val) : Option Str := match dat S v with
  | some d => if d.showable = true ∧ d.shown.length ≤ sizeLine ∧ d.depth ≤ 60 ∧ d.hasDict = false then some d.shown else none
  | none => none
def sRepr : Sto → List Val → Option Val := fun S vs => match vs with
  | [v] => (sReprS S v).map Val.str
  | _ => none
theorem c_repr (hG : X.A.guards = some []) (hu : X.A.units + 64 < cLine) : GCa X (.builtin "repr") sRepr := by
  intro pins s σ H xs us Q I r h
  obtain ⟨vs, F, μ, S, z, hS, rl, e, k⟩ := h
  unfold sRepr at e
  split at e
  · rename_i v
    obtain ⟨w, rfl, rv⟩ := rl.one
    obtain ⟨u, rfl, ru⟩ := vals1 r
    obtain ⟨t, et, e⟩ := Option.map_eq_some_iff.mp e
    subst e
    unfold sReprS at et
    split at et
    · rename_i d ed
      obtain ⟨⟨h1, h2, h3, h4⟩, e⟩ := ite_some et
      subst e
      obtain ⟨as, rd⟩ := Dp.reads I d w u (dat_ok hS rv ed) ru
      have fin : ∀ (h' : Heap) (t : Tok) (tk : Nat), (∀ b o, s.heap.get? b = some o → h'.get? b = some o) → EP X pins σ Q (.str d.shown t) { s with heap := h', toks := tk } := fun h' t tk kp =>
        ⟨.str d.shown, H, I.kept kp, ⟨t, rfl⟩, same_k k hS .str⟩
      cases u with
      | ref a => exact repr_of_reads' rd h1 (fun z => by rw [h4] at z; cases z) hG (by omega) (fun _ _ q => q) (fun h' t tk kp => fin h' t tk kp) h2
      | none => cases rd; exact P.repr_of_none (by simpa [PyData.shown] using fin s.heap s.toks (s.toks + 1) fun _ _ q => q)
      | bool b => cases rd; exact P.repr_of_bool (by simpa [PyData.shown] using fin s.heap s.toks (s.toks + 1) fun _ _ q => q)
      | int i t => cases rd; exact P.repr_of_int (by simpa [PyData.showable] using h1) (by simpa [PyData.shown] using fin s.heap s.toks (s.toks + 1) fun _ _ q => q)
      | str x t => cases rd; exact P.repr_of_str (by simpa [PyData.shown] using fin s.heap s.toks (s.toks + 1) fun _ _ q => q) (by simpa [PyData.shown] using h2)
      | _ => cases rd
    · cases et
  · cases e
def sIx : Sto → Val → Val → Option Val := fun S o i => match i with
  | .int i => match o with
    | .str z => if z.length ≤ sizeLine then (atI z.cps.toList i).map fun c => Val.str ⟨#[c]⟩ else none
    | o => match seqOf S o with
      | some (_, xs) => atI xs i
      | none => none
  | _ => none
theorem atI_rep {K : PySem.W.Frag} {F : Hp} {μ : List Addr} {xs : List Val} {vs : List V} (l : RepL K F μ xs vs) {i : Int} {x : Val} (h : atI xs i = some x) : ∃ v, atI vs i = some v ∧ RepV K F μ x v := by
  unfold atI at h ⊢
  rw [← l.length]
  obtain ⟨j, h1, h2⟩ := Option.bind_eq_some_iff.mp h
  obtain ⟨v, h3, h4⟩ := l.get h2
  exact ⟨v, by rw [h1]; exact h3, h4⟩
theorem x_ix : IxR X (rP2 X.K X.mg sIx) := by
  intro va sc pins s σ H x y v u Q I rx ry h hsub
  obtain ⟨vx, vy, F, μ, S, r, hS, r1, r2, e, k⟩ := h
  unfold sIx at e
  split at e
  · rename_i i
    cases r2
    split at e
    · rename_i z
      split at e
      · rename_i hz
        obtain ⟨c, ec, e⟩ := Option.map_eq_some_iff.mp e
        subst e
        cases r1
        exact ix_str va sc pins s σ H _ _ v u Q I rx ry ⟨z, i, c, rfl, rfl, hz, ec, same_k k hS .str⟩ hsub
      · cases e
    · split at e
      · rename_i c xs es
        obtain ⟨a, vs, rfl, l, q⟩ := seqOf_ok hS r1 es
        obtain ⟨w, hw, rw⟩ := atI_rep l e
        rcases q with ⟨_, q, _⟩ | ⟨_, q⟩
        · exact ix_tup va sc pins s σ H _ _ v u Q I rx ry ⟨a, vs, i, w, rfl, rfl, q, hw, same_k k hS rw⟩ hsub
        · exact ix_list va sc pins s σ H _ _ v u Q I rx ry ⟨a, vs, i, w, rfl, rfl, q, hw, same_k k hS rw⟩ hsub
      · cases e
  · cases e
def cutL {α : Type} (xs : List α) (lo hi : Option Int) : List α := (xs.drop (HT.sIx xs.length 0 lo)).take (HT.sIx xs.length xs.length hi - HT.sIx xs.length 0 lo)
theorem cutL_rep {K : PySem.W.Frag} {F : Hp} {μ : List Addr} {xs : List Val} {vs : List V} (l : RepL K F μ xs vs) (lo hi : Option Int) : RepL K F μ (cutL xs lo hi) (cutV vs lo hi) := by
  unfold cutL cutV
  rw [← l.length]
  exact (l.drop _).take _
def sSlice : Sto → Val → Option Int → Option Int → Option Val := fun S o lo hi => match o with
  | .str z => if z.length ≤ sizeLine then some (.str (cutS z lo hi)) else none
  | o => match seqOf S o with
    | some (true, xs) => some (.tup (cutL xs lo hi))
    | some (false, xs) => some (.lst (cutL xs lo hi))
    | none => none
theorem cutL_all {α : Type} {xs : List α} {lo hi : Option Int} (h : HT.sIx xs.length 0 lo = 0 ∧ HT.sIx xs.length xs.length hi = xs.length) : cutL xs lo hi = xs := by
  unfold cutL
  rw [h.1, h.2]
  simp
theorem sl_tupN : SlR X (fun x lo hi H Q => ∃ a xs, x = .ref a ∧ SqT X.K H a xs ∧ ¬ (HT.sIx xs.length 0 lo = 0 ∧ HT.sIx xs.length xs.length hi = xs.length) ∧ ∀ p o, o.dict = none → H p = none → Q (.ref p) (upd H p (nT o (cutV xs lo hi)))) := by
  intro pins s σ H x v vl vu lo hi sl Q I rx hs pl pu h
  obtain ⟨a, xs, rfl, hx, hw, q⟩ := h
  cases rx
  obtain ⟨its, r, ht, hz⟩ := I.tuple hx
  have hlen : its.toArray.size = xs.length := by rw [List.size_toArray]; exact r.length.symm
  refine ⟨"tuple", _, PyProof.Rows.slot_tuple_getitem.lookup, ht.typeIs, HT.getItem_tuple_cut ht hs pl pu (by rw [hlen]; exact hw) ?_ (by rw [hlen]; exact hz)⟩
  rw [hlen]
  exact ⟨.ref s.heap.objs.size, _, I.laid (t' := s.toks) (o := nT _ (cutV xs lo hi)) (fun b ob q => Heap.get?_push_of_some _ q) (Nat.le_refl _) ⟨Heap.get?_push_size _ rfl, Nat.le_trans (cutV_length xs lo hi) hz, _, (r.drop (HT.sIx xs.length 0 lo)).take (HT.sIx xs.length xs.length hi - HT.sIx xs.length 0 lo), IsTup.new _ _⟩, rfl, q _ _ rfl (I.hok.fresh (Nat.le_refl _))⟩
theorem x_slice : SlR X (rPS X.K X.mg sSlice) := by
  intro pins s σ H x v vl vu lo hi sl Q I rx hs pl pu h
  obtain ⟨vx, F, μ, S, r, hS, r1, e, k⟩ := h
  unfold sSlice at e
  split at e
  · obtain ⟨hz, e⟩ := ite_some e
    subst e
    cases r1
    exact sl_str pins s σ H _ v vl vu lo hi sl Q I rx hs pl pu ⟨_, rfl, hz, same_k k hS .str⟩
  · split at e
    · rename_i xs es
      cases e
      obtain ⟨a, vs, rfl, l, q⟩ := seqOf_ok hS r1 es
      rcases q with ⟨_, q, ev⟩ | ⟨z, _⟩
      · by_cases hw : HT.sIx vs.length 0 lo = 0 ∧ HT.sIx vs.length vs.length hi = vs.length
        · refine sl_tupA pins s σ H _ v vl vu lo hi sl Q I rx hs pl pu ⟨a, vs, rfl, q, fun _ => ?_, fun z => absurd hw z⟩
          rw [← l.length] at hw
          rw [cutL_all hw] at k
          subst ev
          exact same_k k hS r1
        · refine sl_tupN pins s σ H _ v vl vu lo hi sl Q I rx hs pl pu ⟨a, vs, rfl, q, hw, fun p o ho hp => ?_⟩
          obtain ⟨k1, k2, k3⟩ := hS.newTup hp ho (cutL_rep l lo hi)
          exact k _ _ _ k1 k2 k3
      · cases z
    · rename_i xs es
      cases e
      obtain ⟨a, vs, rfl, l, q⟩ := seqOf_ok hS r1 es
      rcases q with ⟨z, _⟩ | ⟨_, q⟩
      · cases z
      · refine sl_list pins s σ H _ v vl vu lo hi sl Q I rx hs pl pu ⟨a, vs, rfl, q, fun p hp => ?_⟩
        obtain ⟨k1, k2, k3⟩ := hS.newLst hp (cutL_rep l lo hi)
        exact k _ _ _ k1 k2 k3
    · cases e
def sLen : Sto → List Val → Option Val := fun S vs => match vs with
  | [.str z] => if z.length ≤ sizeLine then some (.int z.length) else none
  | [v] => match seqOf S v with
    | some (_, xs) => some (.int xs.length)
    | none => none
  | _ => none
theorem c_len : GCa X (.builtin "len") sLen := by
  intro pins s σ H xs us Q I r h
  obtain ⟨vs, F, μ, S, z, hS, rl, e, k⟩ := h
  unfold sLen at e
  split at e
  · obtain ⟨w, rfl, rv⟩ := rl.one
    obtain ⟨hz, e⟩ := ite_some e
    subst e
    cases rv
    exact call_len_str pins s σ H _ us Q I r ⟨_, rfl, hz, same_k k hS .int⟩
  · obtain ⟨w, rfl, rv⟩ := rl.one
    split at e
    · rename_i c ys es
      cases e
      obtain ⟨a, ws, rfl, l, q⟩ := seqOf_ok hS rv es
      refine call_len_seq pins s σ H _ us Q I r ⟨a, ws, rfl, ?_, same_k k hS (by rw [l.length]; exact .int)⟩
      rcases q with ⟨_, q, _⟩ | ⟨_, q⟩
      · exact .inr q
      · exact .inl q
    · cases e
  · cases e
def sTuple : Sto → List Val → Option Val := fun S vs => match vs with
  | [v] => match seqOf S v with
    | some (_, xs) => some (.tup xs)
    | none => none
  | _ => none
def rNL (K : PySem.W.Frag) (mg : Str → Option Value) (f : Sto → List Val → Option (List Val)) : List V → Hp → VK → Prop := fun xs H Q => ∃ vs F μ S ys, RepS K mg F H μ S ∧ RepL K F μ vs xs ∧ f S vs = some ys ∧ ∀ p ws, H p = none → RepL K F μ ys ws → Q (.ref p) (upd H p (.lst ws))
abbrev GNL (X : Cx) (fn : Value) (f : Sto → List Val → Option (List Val)) : Prop := CallR X fn (rNL X.K X.mg f)
theorem GNL.val {fn : Value} {f : Sto → List Val → Option (List Val)} (h : GNL X fn f) : GCa X fn (fun S vs => (f S vs).map Val.lst) := by
  intro pins s σ H xs us Q I r hw
  obtain ⟨vs, F, μ, S, z, hS, rl, e, k⟩ := hw
  obtain ⟨ys, ey, e⟩ := Option.map_eq_some_iff.mp e
  subst e
  refine h pins s σ H xs us Q I r ⟨vs, F, μ, S, ys, hS, rl, ey, fun p ws hp l => ?_⟩
  obtain ⟨k1, k2, k3⟩ := hS.newLst hp l
  exact k _ _ _ k1 k2 k3
theorem GNL.cell {fn : Value} {f : Sto → List Val → Option (List Val)} (h : GNL X fn f) : GCs X fn (fun S vs => (f S vs).map fun ys => (Val.cell S.length, S ++ [.lst ys])) := by
  intro pins s σ H xs us Q I r hw
  obtain ⟨vs, F, μ, S, z, S', hS, rl, e, k⟩ := hw
  obtain ⟨ys, ey, e⟩ := Option.map_eq_some_iff.mp e
  cases e
  refine h pins s σ H xs us Q I r ⟨vs, F, μ, S, ys, hS, rl, ey, fun p ws hp l => ?_⟩
  obtain ⟨k1, k2, k3⟩ := hS.newCell hp l
  exact k _ _ _ _ k1 k2 k3
end
end G
namespace PyProof.Rows
open PySem
end PyProof.Rows
namespace SrtO
open PySem PyProof.Rows
end SrtO
namespace G
open PySem PySem.Spec PyProof.Rows L2
section
variable {X : Cx}
def sortI (ns : List Int) : List Int := ns.mergeSort fun a b => decide (a ≤ b)
def mMt (f : Sto → Val → List Val → Option (Val × Sto)) (mo : ME) (ms : MA) : ME := fun ρ S => bnd (mo ρ S) fun o S1 => if (lstOf S1 o).isSome = true then bnd (ms ρ S1) fun vs S2 => prs (f S2 o vs) else none
def cellOf (S : Sto) : Val → Option (Nat × List Val)
  | .cell k => match S[k]? with
    | some (.lst xs) => some (k, xs)
    | _ => none
  | _ => none
theorem cellOf_ok {K : PySem.W.Frag} {mg : Str → Option Value} {F H : Hp} {μ : List Addr} {S : Sto} {v : Val} {w : V} {k : Nat} {xs : List Val} (h : RepS K mg F H μ S) (r : RepV K F μ v w) (e : cellOf S v = some (k, xs)) :
    ∃ a vs, w = .ref a ∧ μ[k]? = some a ∧ H a = some (.lst vs) ∧ RepL K F μ xs vs := by
  cases r with
  | cell q =>
    unfold cellOf at e
    simp only at e
    split at e
    · rename_i es
      cases e
      obtain ⟨vs, h1, h2⟩ := h.cells _ _ _ q es
      exact ⟨_, vs, rfl, q, h1, h2⟩
    · cases e
  | _ => cases e
theorem put_k {K : PySem.W.Frag} {mg : Str → Option Value} {F H : Hp} {μ : List Addr} {S : Sto} {k : Nat} {a : Addr} {xs : List Val} {vs : List V} (h : RepS K mg F H μ S) (hk : μ[k]? = some a) (l : RepL K F μ xs vs) :
    Xt F H μ F (upd H a (.lst vs)) μ ∧ RepS K mg F (upd H a (.lst vs)) μ (S.set k (.lst xs)) := ⟨Xt.put (List.mem_of_getElem? hk), h.put hk ⟨vs, upd_same, l⟩⟩
def sSetI : Sto → Val → Val → Val → Option Sto := fun S o i v => match cellOf S o, i with
  | some (k, xs), .int i => match ixN xs.length i with
    | some j => some (S.set k (.lst (xs.set j v)))
    | none => none
  | _, _ => none
theorem p_set : PSet X (rSI X.K X.mg sSetI) := by
  intro pins s σ H o i v ov iv u Q I ro ri rv h
  obtain ⟨vo, vi, vv, F, μ, S, S', hS, r1, r2, r3, e, k⟩ := h
  unfold sSetI at e
  split at e
  · rename_i k' ys i ec
    split at e
    · rename_i j ej
      cases e
      cases r2
      obtain ⟨a, ws, rfl, hk, ha, l⟩ := cellOf_ok hS r1 ec
      obtain ⟨k1, k2⟩ := put_k hS hk (l.set r3 j)
      exact set_list pins s σ H _ _ v ov iv u Q I ro ri rv ⟨a, ws, i, j, rfl, rfl, ha, by rw [← l.length]; exact ej, k _ _ _ k1 k2⟩
    · cases e
  · cases e
end
end G

set_option Elab.async false
set_option linter.all false
set_option maxRecDepth 100000
set_option maxHeartbeats 4000000
namespace HT
open PySem PySem.Spec PyProof.Rows L2
section
variable {prog : Program} {w : World} {A : Around} {E : Value → Shared → Prop} {s : Shared}
end
end HT
namespace G
open PySem PySem.Spec PyProof.Rows L2
section
variable {X : Cx} {W : WX}
def sRev : Sto → Val → Option Val := fun S v => match seqOf S v with
  | some (true, xs) => some (.tup xs.reverse)
  | some (false, xs) => some (.lst xs.reverse)
  | none => none
def sAbs : Sto → List Val → Option Val := fun _ vs => match vs with
  | [.int i] => some (.int (if i < 0 then -i else i))
  | _ => none
theorem c_abs : GCa X (.builtin "abs") sAbs := by
  intro pins s σ H xs us Q I r h
  obtain ⟨vs, F, μ, S, z, hS, rl, e, k⟩ := h
  unfold sAbs at e
  split at e
  · obtain ⟨w, rfl, rv⟩ := rl.one
    cases rv; cases e
    exact call_abs pins s σ H _ us Q I r ⟨_, rfl, same_k k hS .int⟩
  · cases e
def sInt : Sto → List Val → Option Val := fun _ vs => match vs with
  | [.int i] => some (.int i)
  | [.bl b] => some (.int (if b then 1 else 0))
  | _ => none
theorem c_int : GCa X (.type "int") sInt := by
  intro pins s σ H xs us Q I r h
  obtain ⟨vs, F, μ, S, z, hS, rl, e, k⟩ := h
  unfold sInt at e
  split at e
  · obtain ⟨w, rfl, rv⟩ := rl.one
    cases rv; cases e
    exact call_int1 pins s σ H _ us Q I r (.inl ⟨_, rfl, same_k k hS .int⟩)
  · obtain ⟨w, rfl, rv⟩ := rl.one
    cases rv; cases e
    exact call_int1 pins s σ H _ us Q I r (.inr ⟨_, rfl, same_k k hS .int⟩)
  · cases e
def sMax2 : Sto → List Val → Option Val := fun _ vs => match vs with
  | [.int i, .int j] => some (.int (if j > i then j else i))
  | _ => none
def sMin2 : Sto → List Val → Option Val := fun _ vs => match vs with
  | [.int i, .int j] => some (.int (if j < i then j else i))
  | _ => none
end
end G

set_option Elab.async false
set_option linter.all false
set_option maxRecDepth 100000
set_option maxHeartbeats 4000000
namespace G
open PySem PySem.Spec PyProof.Rows L2
def IsIT (h : Heap) (v : Value) (ns : List Int) : Prop := ∃ a o us n, v = .ref a ∧ h.get? a = some o ∧ o.cls = .type "tuple" ∧ o.data = .seq (List.toArray us) n ∧ IntsAre us ns
theorem IsIT.keeps {h h' : Heap} {v : Value} {ns : List Int} (p : IsIT h v ns) (k : ∀ b o, h.get? b = some o → o.cls = .type "tuple" → h'.get? b = some o) : IsIT h' v ns := by
  obtain ⟨a, o, us, n, e, ho, hc, r⟩ := p
  exact ⟨a, o, us, n, e, k _ _ ho hc, hc, r⟩
section
variable {prog : Program} {w : World} {A : Around} {E : Value → Shared → Prop} {s : Shared}
end
section
variable {X : Cx}
end
end G

set_option Elab.async false
set_option linter.all false
set_option maxRecDepth 100000
set_option maxHeartbeats 4000000
namespace G
open PySem PySem.Spec PyProof.Rows L2
structure DefAt (K : PySem.W.Frag) (mg : Str → Option Value) (x : Str) (st : Stmt) (ps : List Str) (f : Addr) (fd : FuncData) : Prop where
  fn : Fun K x x st f fd
  loc : mg x = some (.ref f)
  bd : Binds K fd ps []
def okF (g : List Val → Sto → Option (Val × Sto)) : Fn := fun ds S => prs (g ds S)
theorem okF_nox (g : List Val → Sto → Option (Val × Sto)) : ∀ ds S x S', okF g ds S ≠ some (.exc x S') := by
  intro ds S x S' h
  unfold okF prs at h
  split at h <;> cases h
def mCal (n : Nat) (f : Fn) (ms : MA) : ME := fun ρ S => bnd (ms ρ S) fun vs S1 => if vs.length = n then f vs S1 else none
theorem pass_at0 {X : Cx} {W : WX} (σ : L2.St) : PassesAt CX0 X σ (atS W σ) := fun _ _ _ _ _ _ h => h.elim
section
variable {X : Cx} {W : WX} {k j : Nat} {f : Addr} {fd : FuncData} {ps : List Str} {F : Fn} {x : Str} {st : Stmt} {p pos : Pos} {e : Expr} {es : List Expr} {ms : MA}
theorem ge_fn {n : Nat} (D : DefAt X.K X.mg x st ps f fd) (Go : FnG X.prog X.w X.K X.mg X.base CX0 k f fd ps (spF X.K X.mg n F)) (hG : X.A.guards = some []) (hr : Room j X.A) (ha : GA X W (e :: es) ms) (hj : k ≤ j := by decide) (hg : Gl X x := by rfl) (hdb : (x == ("__debug__" : Str)) = false := by decide)
    (he : starEach (e :: es) X.env = (false, eval e X.env) :: starEach es X.env := by rfl) (hpl : (backTo pos (starEach es X.env)).any (·.1) = false := by rfl) (hn : ps.length = n := by rfl) : GE X W (.Call (.Name x p) (e :: es) [] pos) (mCal n F ms) := by
  subst hn
  exact ge_call Go hG (hr.mono hj) hg D.loc D.fn.kp D.bd pass_at0 ha hdb he hpl
end
abbrev cLt := iCmp fun i j => decide (i < j)
abbrev cGt := iCmp fun i j => decide (j < i)
abbrev cGe := iCmp fun i j => decide (j ≤ i)
abbrev aMul := iOp fMul
abbrev aDiv := iOp fDiv
abbrev aMod := iOp fMod
abbrev aPow := iOp fPow
theorem bt_len : bootBuiltins "len" = some (.builtin "len") := by decide +kernel
theorem bt_repr : bootBuiltins "repr" = some (.builtin "repr") := by decide +kernel
theorem bt_abs : bootBuiltins "abs" = some (.builtin "abs") := by decide +kernel
theorem bt_isinstance : bootBuiltins "isinstance" = some (.builtin "isinstance") := by decide +kernel
theorem bt_int : bootBuiltins "int" = some (.type "int") := by decide +kernel
end G

set_option Elab.async false
set_option linter.all false
set_option maxRecDepth 100000
set_option maxHeartbeats 4000000
namespace G
open PySem PySem.Spec PyProof.Rows L2
section
variable {X : Cx}
def sMul : Sto → Val → Val → Option Val := fun S x y => match x, y with
  | .int i, .int j => (fMul i j).map Val.int
  | .str a, .int n => if 0 ≤ n ∧ n ≤ 1000000 ∧ a.length * n.toNat ≤ sizeLine then some (.str (Txt.mul a n)) else none
  | .lst xs, .int n => if 0 ≤ n ∧ n ≤ 1000000 ∧ xs.length * n.toNat ≤ sizeLine then some (.lst (List.replicate n.toNat xs).flatten) else none
  | _, _ => none
theorem RepL.rep {K : PySem.W.Frag} {F : Hp} {μ : List Addr} {xs : List Val} {vs : List V} (l : RepL K F μ xs vs) : ∀ n : Nat, RepL K F μ (List.replicate n xs).flatten (List.replicate n vs).flatten
  | 0 => .nil
  | n + 1 => by
    rw [List.replicate_succ, List.replicate_succ, List.flatten_cons, List.flatten_cons]
    exact l.append (l.rep n)
def kMx (f : Sto → Val → List Val → Option (Val × Sto)) (o : Val) (vs : List Val) (S : Sto) : Res Val := prs (f S o vs)
def kMs (f : Sto → Val → List Val → Option (Val × Sto)) (ms : MA) (ρ : Ev) (o : Val) (S : Sto) : Res Val := match o with
  | .str _ => bnd (ms ρ S) (kMx f o)
  | _ => none
def mMs (f : Sto → Val → List Val → Option (Val × Sto)) (mo : ME) (ms : MA) : ME := fun ρ S => bnd (mo ρ S) (kMs f ms ρ)
def sCountS : Sto → Val → List Val → Option (Val × Sto) := fun S o vs => match o, vs with
  | .str a, [.str b] => some (.int (Txt.count a b), S)
  | _, _ => none
end
end G

set_option Elab.async false
set_option linter.all false
set_option maxRecDepth 100000
set_option maxHeartbeats 4000000
namespace G
open PySem PySem.Spec PyProof.Rows L2
def putD (kvs : List (Key × Val)) (k : Key) (v : Val) : List (Key × Val) := if (kvs.any fun kv => decide (kv.1 = k)) = true then kvs.map fun kv => if kv.1 = k then (kv.1, v) else kv else kvs ++ [(k, v)]
def mergeD (kvs more : List (Key × Val)) : List (Key × Val) := more.foldl (fun acc kv => putD acc kv.1 kv.2) kvs
section
variable {K : PySem.W.Frag} {mg : Str → Option Value} {F H : Hp} {μ : List Addr} {S : Sto}
theorem RepD.len : ∀ {kvs : List (Key × Val)} {kws : List (Key × V)}, RepD K F μ kvs kws → kvs.length = kws.length
  | _, _, .nil => rfl
  | _, _, .cons r t => by simp [t.len]
theorem RepD.anyK : ∀ {kvs : List (Key × Val)} {kws : List (Key × V)}, RepD K F μ kvs kws → ∀ k : Key, (kvs.any fun kv => decide (kv.1 = k)) = (kws.any fun kv => decide (kv.1 = k))
  | _, _, .nil, k => rfl
  | _, _, .cons r t, k => by rw [List.any_cons, List.any_cons, t.anyK k]
theorem RepD.snoc {k : Key} {v : Val} {w : V} (r : RepV K F μ v w) : ∀ {kvs : List (Key × Val)} {kws : List (Key × V)}, RepD K F μ kvs kws → RepD K F μ (kvs ++ [(k, v)]) (kws ++ [(k, w)])
  | _, _, .nil => .cons r .nil
  | _, _, .cons q t => .cons q (t.snoc r)
theorem RepD.repl {k : Key} {v : Val} {w : V} (r : RepV K F μ v w) : ∀ {kvs : List (Key × Val)} {kws : List (Key × V)}, RepD K F μ kvs kws → RepD K F μ (kvs.map fun kv => if kv.1 = k then (kv.1, v) else kv) (kws.map fun kv => if kv.1 = k then (kv.1, w) else kv)
  | _, _, .nil => .nil
  | _, _, .cons (k := k0) q t => by
    rw [List.map_cons, List.map_cons]
    by_cases h : k0 = k
    · simp only [h, if_true]; exact .cons r (t.repl r)
    · simp only [h, if_false]; exact .cons q (t.repl r)
theorem RepD.put {kvs : List (Key × Val)} {kws : List (Key × V)} (t : RepD K F μ kvs kws) (k : Key) {v : Val} {w : V} (r : RepV K F μ v w) : RepD K F μ (putD kvs k v) (putK kws k w) := by
  unfold putD putK
  rw [t.anyK k]
  split
  · exact t.repl r
  · exact t.snoc r
theorem RepD.merge : ∀ {more : List (Key × Val)} {mw : List (Key × V)}, RepD K F μ more mw → ∀ {kvs : List (Key × Val)} {kws : List (Key × V)}, RepD K F μ kvs kws → RepD K F μ (mergeD kvs more) (mergeK kws mw)
  | _, _, .nil, _, _, t => t
  | _, _, .cons r q, _, _, t => q.merge (t.put _ r)
theorem RepD.zip : ∀ {ks : List Key} {vs : List Val} {ws : List V}, RepL K F μ vs ws → RepD K F μ (ks.zip vs) (ks.zip ws)
  | [], _, _, _ => by simp; exact .nil
  | k :: ks, _, _, .nil => by simp; exact .nil
  | k :: ks, _, _, .cons r t => .cons r (RepD.zip t)
end
section
variable {X : Cx} {W : WX} {pos : Pos}
def GPs (X : Cx) (W : WX) (pos : Pos) (keys : List (Option Expr)) (values : List Expr) (ks : List Key) (ms : MA) : Prop :=
  ∃ trs, PPs X pos keys values trs ∧ keys.length = ks.length ∧ values.length = ks.length ∧ keys.all (·.isSome) = true ∧ ∀ σ H Q, tMA X.K X.mg W ms σ H (fun vs H' => ∀ kvs : List (Key × V), kvs = ks.zip vs → vs.length = ks.length → Q (kvs.map fun kv => (kV kv.1, kv.2)) H') → tPairs trs σ H Q
theorem gps_nil : GPs X W pos [] [] [] mNil := ⟨[], pps_nil, rfl, rfl, rfl, fun σ H Q h => by
  obtain ⟨ρ, F, μ, S, hS, hE, hP⟩ := h
  exact hP F μ H (Xt.refl _ _ _) hS [] .nil [] rfl rfl⟩
theorem gps_str {x : Str} {j : Nat} {p : Pos} {v : Expr} {keys : List (Option Expr)} {values : List Expr} {ks : List Key} {m : ME} {ms : MA} (hv : GE X W v m) (hr : GPs X W pos keys values ks ms) : GPs X W pos (some (.Constant (.str x) j p) :: keys) (v :: values) (.inr x :: ks) (mCons m ms) := by
  obtain ⟨trs, h1, h2, h3, h4, h5⟩ := hr
  refine ⟨_, pps_cons pe_str hv h1, by simp [h2], by simp [h3], by simpa using h4, fun σ H Q h => ?_⟩
  obtain ⟨ρ, F, μ, S, hS, hE, hP⟩ := h
  show tM X.K X.mg W m σ H _
  refine bind_tM hS hE hP.bind fun F1 μ1 S1 v w H1 e1 s1 q1 r1 p1 => ?_
  refine h5 σ H1 _ ?_
  refine bind_tMA s1 q1 p1.bind fun F2 μ2 S2 v2 w2 H2 e2 s2 q2 r2 p2 => ?_
  intro kvs hk hl
  subst hk
  exact p2 F2 μ2 H2 (Xt.refl _ _ _) s2 _ (.cons (r1.mono e2.toExt) r2) _ rfl (by simp [hl])
def kDisp (ks : List Key) (vs : List Val) (S : Sto) : Res Val := if ks.length ≤ 15 then some (.ok (.dct (mergeD [] (ks.zip vs))) S) else none
def mDisp (ks : List Key) (ms : MA) : ME := fun ρ S => bnd (ms ρ S) (kDisp ks)
theorem RepS.newDct {K : PySem.W.Frag} {mg : Str → Option Value} {F H : Hp} {μ : List Addr} {S : Sto} {p : Addr} {xs : List (Key × Val)} {ws : List (Key × V)} (h : RepS K mg F H μ S) (hp : H p = none) (r : RepD K F μ xs ws) :
    Xt F H μ (upd F p (.dK ws)) (upd H p (.dK ws)) μ ∧ RepS K mg (upd F p (.dK ws)) (upd H p (.dK ws)) μ S ∧ RepV K (upd F p (.dK ws)) μ (.dct xs) (.ref p) :=
  ⟨Xt.new (h.nF hp) hp, h.alloc _ hp, .dct upd_same (r.mono (ext_upd F μ (h.nF hp)))⟩
theorem ge_dnew : GE X W (.Dict [] [] pos) (mC (.dct [])) := by
  refine ge_of pe_dnewK fun σ H Q h => ?_
  obtain ⟨ρ, F, μ, S, hS, hE, hP⟩ := h
  intro p hp
  obtain ⟨k1, k2, k3⟩ := hS.newDct (xs := []) hp .nil
  exact hP _ _ _ k1 k2 _ k3
theorem empty_step {K : PySem.W.Frag} {mg : Str → Option Value} {F H : Hp} {μ : List Addr} {S : Sto} {p : Addr} {o : HO} (h : RepS K mg F H μ S) (hp : H p = none) : RepS K mg F (upd H p o) μ S ∧ p ∉ μ ∧ F p = none := by
  have hn : p ∉ μ := fun z => by
    obtain ⟨o, q⟩ := h.there p z
    rw [hp] at q
    cases q
  refine ⟨⟨fun a u q => ?_, h.len, h.nd, h.off, fun a ha => ?_, fun k a c q e => ?_, h.tabs.step (Same.refl F) fun P ps h1 h2 h3 => ⟨upd_ne (ne_of_none h1 hp), h3, h2⟩⟩, hn, h.nF hp⟩
  · have := h.sub a u q
    rw [upd_ne (ne_of_none this hp)]
    exact this
  · obtain ⟨o, q⟩ := h.there a ha
    exact ⟨o, by rw [upd_ne (ne_of_none q hp)]; exact q⟩
  · have ok := h.cells k a c q e
    cases c with
    | dead => trivial
    | lst xs => obtain ⟨vs, q1, q2⟩ := ok; exact ⟨vs, by rw [upd_ne (ne_of_none q1 hp)]; exact q1, q2⟩
    | dct xs => obtain ⟨vs, q1, q2⟩ := ok; exact ⟨vs, by rw [upd_ne (ne_of_none q1 hp)]; exact q1, q2⟩
    | ins c fs => obtain ⟨C, dx, gs, q1, q2, q3⟩ := ok; exact ⟨C, dx, gs, q1, by rw [upd_ne (ne_of_none q2 hp)]; exact q2, q3⟩
    | dN kvs => obtain ⟨xs, q1, q2⟩ := ok; exact ⟨xs, by rw [upd_ne (ne_of_none q1 hp)]; exact q1, q2⟩
    | tab P q => obtain ⟨hp', ps, q1, q2⟩ := ok; exact ⟨hp', ps, by rw [upd_ne (ne_of_none q1 hp)]; exact q1, q2⟩
theorem Xt.skip {F H F' H' : Hp} {μ μ' : List Addr} {p : Addr} {o : HO} (x : Xt F (upd H p o) μ F' H' μ') (hp : H p = none) : Xt F H μ F' H' μ' :=
  ⟨x.toExt, fun a u h n t => x.keep a u (by rw [upd_ne (ne_of_none h hp)]; exact h) n t⟩
theorem RepS.fill {K : PySem.W.Frag} {mg : Str → Option Value} {F H : Hp} {μ : List Addr} {S : Sto} {p : Addr} {o : HO} (h : RepS K mg F H μ S) (hF : F p = none) (hm : p ∉ μ) (ht : ∀ ps, H p ≠ some (.tbl ps)) : RepS K mg (upd F p o) (upd H p o) μ S := by
  have ex := ext_upd (o := o) F μ hF
  refine ⟨fun a u q => ?_, h.len, h.nd, fun a ha => ?_, fun a ha => ?_, fun k a c q e => ?_, h.tabs.step ex.sub fun P ps h1 h2 h3 => ⟨upd_ne fun z => ht ps (by rw [← z]; exact h1), (upd_ne fun z => ht ps (by rw [← z]; exact h1)).trans h3, h2⟩⟩
  · by_cases e : a = p
    · subst e; rw [upd_same] at q ⊢; exact q
    · rw [upd_ne e] at q ⊢; exact h.sub a u q
  · rw [upd_ne (ne_mem ha hm)]; exact h.off a ha
  · rw [upd_ne (ne_mem ha hm)]; exact h.there a ha
  · have ha : a ≠ p := fun e => hm (e ▸ List.mem_of_getElem? q)
    have ok := h.cells k a c q e
    cases c with
    | dead => trivial
    | lst xs => obtain ⟨vs, q1, q2⟩ := ok; exact ⟨vs, by rw [upd_ne ha]; exact q1, q2.mono ex⟩
    | dct xs => obtain ⟨vs, q1, q2⟩ := ok; exact ⟨vs, by rw [upd_ne ha]; exact q1, q2.mono ex⟩
    | ins c fs => obtain ⟨C, dx, gs, q1, q2, q3, q4⟩ := ok; exact ⟨C, dx, gs, q1, by rw [upd_ne ha]; exact q2, q3, q4.mono ex⟩
    | dN kvs => exact CellOk.mono ex (upd_ne ha) ok
    | tab P q => exact CellOk.mono ex (upd_ne ha) ok
theorem ge_disp {keys : List (Option Expr)} {values : List Expr} {ks : List Key} {ms : MA} (h : GPs X W pos keys values ks ms) (h0 : keys ≠ [] := by simp) (h15 : keys.length ≤ 15 := by decide) : GE X W (.Dict keys values pos) (mDisp ks ms) := by
  obtain ⟨trs, h1, h2, h3, h4, h5⟩ := h
  refine ge_of (pe_disp h1 h4 (by omega) h0 h15) fun σ H Q h => ?_
  obtain ⟨ρ, F, μ, S, hS, hE, hP⟩ := h
  intro p hp
  obtain ⟨k1, k2, k3⟩ := empty_step (o := .dK []) hS hp
  refine h5 σ _ _ ⟨ρ, F, μ, S, k1, hE, ?_⟩
  unfold mDisp at hP
  revert hP
  cases e : ms ρ S with
  | none => intro hP; exact hP.elim
  | some o =>
    cases o with
    | exc x S' => intro hP F' μ' H' c d x1 s1 ok; exact hP F' μ' H' c d (x1.skip hp) s1 ok
    | ok vs S1 =>
      intro hP F1 μ1 H1 x1 s1 ws r1 kvs hk hl
      subst hk
      obtain ⟨j1, j2, j3⟩ := x1.keep p (.dK []) upd_same k2 (fun _ z => by cases z)
      have hP' : Post X.K X.mg (atS W σ) F H μ (kDisp ks vs S1) (RV X.K Q) := hP
      unfold kDisp at hP'
      rw [if_pos (by omega)] at hP'
      have rd : RepD X.K F1 μ1 (mergeD [] (ks.zip vs)) (mergeK [] (ks.zip ws)) := (RepD.zip r1).merge .nil
      have hF1 := j3 k3
      refine ⟨j1, _, rfl, by rw [List.length_zip]; omega, ?_⟩
      have ex := ext_upd (o := HO.dK (mergeK [] (ks.zip ws))) F1 μ1 hF1
      refine hP' (upd F1 p (.dK (mergeK [] (ks.zip ws)))) μ1 _ ?_ (s1.fill hF1 j2 (fun _ z => by rw [j1] at z; cases z)) _ (.dct upd_same (rd.mono ex))
      refine ⟨x1.toExt.trans ex, fun a u q n t => ?_⟩
      have hap := ne_of_none q hp
      obtain ⟨i1, i2, i3⟩ := (x1.skip hp).keep a u q n t
      exact ⟨by rw [upd_ne hap]; exact i1, i2, fun z => by rw [upd_ne hap]; exact i3 z⟩
variable {o i : Expr} {mo mi : ME}
end
end G

set_option Elab.async false
set_option linter.all false
set_option maxRecDepth 100000
set_option maxHeartbeats 4000000
namespace G
open PySem PySem.Spec PyProof.Rows L2
section
variable {X : Cx}
end
end G
namespace G
open PySem PySem.Spec PyProof.Rows L2
section
variable {X : Cx} {W : WX}
end
end G

set_option Elab.async false
set_option linter.all false
set_option maxRecDepth 100000
set_option maxHeartbeats 4000000
namespace G
open PySem PySem.Spec PyProof.Rows L2

def tMkF (C : Addr) (f : Str) (ta : TA) : L2.St → Hp → XK → Prop := fun σ H Q => ta σ H fun vs H1 => ∃ v, vs = [v] ∧ ∀ d, H1 d = none → Q (.ref C) (some d) (upd H1 d (.xd [(f, v)]))
theorem pmk_none {X : Cx} {C : Addr} {bmB : List Value} {B newId initId : String} {x : Str} {p pos : Pos} (F : ExcBaseFacts B newId initId bmB) (q : PySem.W.excIn X.K C bmB newId = true) (gC : X.mg x = some (.ref C)) (kC : PySem.W.keepIn X.K (.ref C) = true) (r : Raises X (.ref C)) (hg : Gl X x)
    (hdb : (x == ("__debug__" : Str)) = false) : PMk X (.Call (.Name x p) [] [] pos) (fun _ H Q => Q (.ref C) none H) := by
  intro pins s σ H Q I h
  refine wpAny_Call_Name_kw (ld_glob I hg gC ?_ hdb)
  refine PySem.W.callWith_K0 I.kIn kC ?_
  show wpAny _ _ (call (.ref C) []) _ _ _
  obtain ⟨bm, N, nm, qn, bs, hdct, sn, sub, ab, col, dd, k0, k1, k2, k3, k5, mN, hC, hN, hni, T⟩ := exc_obj I.kIn q
  refine wpAny_call_exc_subT F T hC hN hni (fun h' e hm => ?_) (by show 0 ≤ sizeLine; exact Nat.zero_le _)
  exact mk_of I hm r h (I.hok.gone hm.new)

namespace E_length
open PySem.W PySem.Calls PySem.HandSPX
def argsI (p1 p2 : Pos) : Arguments := { posonlyargs := [], args := [{ arg := "self", annotation := none, pos := p1 }, { arg := "length", annotation := none, pos := p2 }], vararg := none, kwonlyargs := [], kw_defaults := [], kwarg := none, defaults := [] }
def bodyI (q1 q2 q3 q4 : Pos) : List Stmt := [.Assign [.Attribute (.Name "self" q1) "length" q2] (.Name "length" q3) q4]
def scopeI : Scope := { kind := .function, names := [(PySem.Str.ofString "self", .local), (PySem.Str.ofString "length", .local)], isGenerator := false, isCoroutine := false, more := [] }
structure Txt (K : Frag) (mg : Str → Option Value) (cn qn : Str) (C fI : Addr) : Prop where
  gC : mg cn = some (.ref C)
  cls : ∃ nm q N bs bm sn sub ab col dd k0 k1 k2 k3 k5, K.lookup C = some (excClassObj nm q C N bs bm true sn sub ab col dd k0 k1 k2 k3 k5 "ValueError.__new__") ∧ refsVE bm = true
  sa : findIn K (.ref C) "__setattr__" = some (some (.builtin "object.__setattr__"))
  ga : findIn K (.ref C) "__getattribute__" = some (some (.builtin "BaseException.__getattribute__"))
  gg : findIn K (.ref C) "__getattr__" = some none
  noN : findIn K (.ref C) "length" = some none
  iC : findIn K (.ref C) "__init__" = some (some (.ref fI))
  tC : typeIn K (.ref fI) = some (.type "function")
  kC : keepIn K (.ref C) = true
  exC : subIn K (.ref C) (.type "BaseException") = some true
  tyC : typeIn K (.ref C) = some (.type "type")
  hdC : hasDictIn K C = true
  fn : ∃ (oc : Value) (od : Option Addr) (doc pm : Value) (an : Option Addr) (cdv ct : Value) (osl : Array (Option Value)) (p1 p2 q1 q2 q3 q4 : Pos),
    K.lookup fI = some ⟨oc, od, .func (fnOf "__init__" qn (argsI p1 p2) (bodyI q1 q2 q3 q4) scopeI .none .none doc pm an cdv ct), osl⟩ ∧ codeIn K cdv qn = true
structure Left (h h' : Heap) (x C dx t1 : Addr) (v : Value) : Prop where
  keep : ∀ b o, b ≠ x → h.get? b = some o → h'.get? b = some o
  obj : h'.get? x = some { cls := .ref C, dict := some dx, data := .fields #[.ref t1, .none, .none, .none, .bool false, .none] }
  dbig : h.objs.size ≤ dx
  dne : dx ≠ x
  ns : h'.Ns1 dx (fun y => if y = "length" then some v else none)
structure Made (h h' : Heap) (e C d : Addr) (v : Value) : Prop where
  keep : ∀ b o, h.get? b = some o → h'.get? b = some o
  new : h.objs.size ≤ e
  obj : ∃ oe vs, h'.get? e = some oe ∧ oe.cls = .ref C ∧ oe.dict = some d ∧ oe.data = .fields vs ∧ vs[1]? = some .none
  dbig : h.objs.size ≤ d
  dne : d ≠ e
  ns : h'.Ns1 d (fun y => if y = "length" then some v else none)
section
variable {prog : Program} {w : World} {A : Around} {E : Value → Shared → Prop} {R : Result → Shared → Prop} {s : Shared} {K : Frag} {mg : Str → Option Value} {C fI : Addr} {cn qn : Str}
theorem init_ok (T : Txt K mg cn qn C fI) {x t0 : Addr} {v : Value} (X : K.In s.heap) (hlim : s.heap.NoLimit) (hx : s.heap.get? x = some (excO C t0)) (hroom : A.depth < recursionLimit)
    (hq : ∀ h' tk dx, Left s.heap h' x C dx t0 v → R (.ok (.ret .none)) { s with heap := h', toks := tk }) :
    codeAny (model prog w) A (.call (.ref fI) ⟨[.ref x, v], []⟩) R s := by
  obtain ⟨oc, od, doc, pm, an, cdv, ct, osl, p1, p2, q1, q2, q3, q4, ho, hcd⟩ := T.fn
  obtain ⟨nm, q, N, bs, bm, sn, sub, ab, col, dd, k0, k1, k2, k3, k5, hC, hbm⟩ := T.cls
  have hcl : clsIn K C = some { name := nm, bases := bs, mro := .ref C :: bm, ns := N, qualname := q, hasDict := true, slotNames := sn, subclasses := sub, abstract := ab, collection := col, hasDel := false } := by unfold clsIn; rw [hC] <;> rfl
  refine Att.call_fn (binds := [("self", .ref x), ("length", v)]) X hlim ho hcd hroom (BindsTo.of_eq (by first | rfl | with_unfolding_all rfl)) (by first | rfl | decide | with_unfolding_all rfl) (fun s₁ IC => ?_) rfl rfl rfl
  obtain ⟨h₁, tk₁, rfl⟩ := IC.toInCall.same
  have k : ∀ b o, s.heap.get? b = some o → h₁.get? b = some o := IC.toInCall.keep
  have hn := IC.toInCall.ns
  have X₁ : K.In h₁ := X.keeps k
  have hx₁ := k _ _ hx
  have ld : ∀ {name : Str} {scope : Scope} {L a : Addr} {cd : Value} {m : Str → Option Value} {y : Str} {pos : Pos} {u : Value} {Q : Value → Shared → Prop} {A' : Around} {E' : Value → Shared → Prop} {s' : Shared}, s'.heap.Ns L m → m y = some u → Q u s' → scope.kind = .function → (envOfC name scope L a cd).kindOf y = some .local → (y == ("__debug__" : Str)) = false →
      wpAny (model prog w) A' (eval (.Name y pos) (envOfC name scope L a cd)) Q E' s' := fun hn hv h hk hl hd => wpAny_Name (wpAny_loadName_local hk hl hn hv h) hd
  show wpAny _ _ (execs _ _) _ _ _
  refine wpAny_execs_cons (plainObj_wpAny_Assign_Attribute ?_)
  refine ld (u := v) hn (by first | rfl | with_unfolding_all rfl | kernel_rfl) (ld (u := .ref x) hn (by first | rfl | with_unfolding_all rfl | kernel_rfl) ?_ rfl rfl (by decide)) rfl rfl (by decide)
  refine set_plain X₁ (ox := excO C t0) (od := none) ⟨hx₁, rfl, rfl, trivial⟩ T.sa ?_
  refine exc_osa X₁ hx₁ hcl (show refsVE (.ref C :: bm) = true from hbm) rfl T.noN (fun h₃ tk₃ dx k₃ dn dne hx₃ hn₃ => ?_)
  show wpAny _ _ (execs _ _) _ _ _
  have z : s.heap.objs.size < h₁.objs.size := hn.lt
  exact wpAny_execs_nil (hq h₃ tk₃ dx ⟨fun b o hb e => k₃ b o hb (k b o e), hx₃, Nat.le_of_lt (Nat.lt_of_lt_of_le z dn), dne, hn₃⟩)
theorem made_ok (T : Txt K mg cn qn C fI) {v : Value} (X : K.In s.heap) (hlim : s.heap.NoLimit) (hroom : A.depth + 1 < recursionLimit)
    (hq : ∀ h' tk e d, Made s.heap h' e C d v → R (.ok (.ret (.ref e))) { s with heap := h', toks := tk }) :
    codeAny (model prog w) A (.call (.ref C) ⟨[v], []⟩) R s := by
  obtain ⟨nm, q, N, bs, bm, sn, sub, ab, col, dd, k0, k1, k2, k3, k5, hC, hbm⟩ := T.cls
  obtain ⟨hp, g, dr, tk, os⟩ := s
  have k : ∀ b o, hp.get? b = some o → ((hp.push (kdv_tup [v])).push (excO C hp.objs.size)).get? b = some o := fun b o e => Heap.get?_push_of_some _ (Heap.get?_push_of_some _ e)
  have hget : ((hp.push (kdv_tup [v])).push (excO C hp.objs.size)).get? (hp.objs.size + 1) = some (excO C hp.objs.size) := by heap_get
  refine call_own F.excBase_ValueError (fun X => refsVE_contains X bm hbm) (X _ _ hC) (looks_findIn X T.iC) (fun self => bind_fn X self T.tC) (by rw [sizeLine_eq]; exact (by decide : 1 ≤ 16777216)) ?_
  refine init_ok (s := ⟨(hp.push (kdv_tup [v])).push (excO C hp.objs.size), g, dr, tk, os⟩) T (X.keeps k) (hlim.keeps k) hget ?_ fun h' tk' dx ⟨k', hx, dn, dne, hns⟩ => ?_
  · show A.depth + 1 < recursionLimit
    exact hroom
  · have old : ∀ b o, hp.get? b = some o → h'.get? b = some o := fun b o e => k' b o (Nat.ne_of_lt (Nat.lt_succ_of_lt (Heap.lt_size e))) (k b o e)
    have z : hp.objs.size + 1 + 1 ≤ dx := by
      first
        | (simpa only [Heap.size_push] using dn)
        | exact dn
        | (have q := dn; rw [Heap.size_push, Heap.size_push] at q; exact q)
    exact ⟨rfl, hq h' tk' (hp.objs.size + 1) dx ⟨old, Nat.le_succ _, ⟨_, _, hx, rfl, rfl, rfl, rfl⟩, Nat.le_trans (Nat.le_trans (Nat.le_succ _) (Nat.le_succ _)) z, dne, hns⟩⟩
end
theorem rel_one {v : V} {v' : Value} (r : RelV v v') (f : Str) : RelO (List.lookup f [(("length" : Str), v)]) (if f = "length" then some v' else none) := by
  by_cases hw : f = "length"
  · subst hw
    rw [if_pos rfl]
    have q : List.lookup ("length" : Str) [(("length" : Str), v)] = some v := by simp [List.lookup]
    rw [q]
    exact r
  · rw [if_neg hw]
    have qw : (f == ("length" : Str)) = false := by simpa using hw
    have q2 : List.lookup f [(("length" : Str), v)] = none := by simp [List.lookup, qw]
    rw [q2]
    trivial
section
variable {X : Cx} {C fI : Addr} {cn qn : Str}
theorem pmk {a : Expr} {ta : TA} {p pos : Pos} {k : Nat} (T : Txt X.K X.mg cn qn C fI) (hr : Room k X.A) (ha : PA X [a] ta) (hg : Gl X cn) (hdb : (cn == ("__debug__" : Str)) = false)
    (he : starEach (a :: []) X.env = (false, eval a X.env) :: starEach [] X.env) (hpl : (backTo pos (starEach [] X.env)).any (·.1) = false) :
    PMk X (.Call (.Name cn p) [a] [] pos) (tMkF C "length" ta) := by
  intro pins s σ H Q I h
  refine wpAny_Call_Name_kw (ld_glob I hg T.gC ?_ hdb)
  refine PySem.W.callWith_K (h₀ := X.base) I.ok.mod.kin T.kC (thn (ha.run pos pins s σ H _ I h) fun us s1 hh => ?_) he hpl
  obtain ⟨vs, H1, I1, r1, v, ev, q1⟩ := hh
  subst ev
  refine ⟨I1.kIn, ?_⟩
  cases r1 with
  | cons rv rn =>
    rename_i v' us'
    cases rn
    show wpAny _ _ (call (.ref C) [v']) _ _ _
    have hlim := I1.nolimit
    obtain ⟨hp, g, dr, tk, os⟩ := s1
    refine wpAny_call (made_ok T I1.kIn hlim (by have := hr.dp; omega) fun h' tk' e d M => ?_)
    show MkP X pins σ Q (.ref e) ⟨h', g, dr, tk', os⟩
    obtain ⟨oe, fv, hoe, hc, hd, hdat, h1⟩ := M.obj
    have hns := M.ns
    obtain ⟨G', g1, g2⟩ := restrict h' fun b => decide (b ≠ e)
    have gk : ∀ b, b ≠ e → G'.get? b = h'.get? b := fun b hb => g1 b (decide_eq_true hb)
    have ge : G'.get? e = none := g2 e (by simp)
    have old : ∀ b o, hp.get? b = some o → G'.get? b = some o := fun b o q => (gk b (Nat.ne_of_lt (Nat.lt_of_lt_of_le (Heap.lt_size q) M.new))).trans (M.keep b o q)
    have ob : ObjOk X.prog X.w (upd H1 d (.xd [(("length" : Str), v)])) G' d (.xd [(("length" : Str), v)]) :=
      ⟨_, hns.at (fun o q => (gk d M.dne).trans q), fun f => rel_one rv f⟩
    have J : Inv X pins σ (upd H1 d (.xd [(("length" : Str), v)])) ⟨G', g, dr, tk', os⟩ := I1.laid (t' := tk') old M.dbig ob
    refine ⟨e, oe, fv, ⟨G', g, dr, tk', os⟩, _, .ref C, some d, rfl, J, fun b o q => ?_, ge, hoe, ⟨hc, hd⟩, hdat, h1, ?_, rfl, I1.bare, raises_own T.exC T.tyC, q1 d (I1.hok.fresh M.dbig)⟩
    · by_cases hb : b = e
      · have q' : G'.get? b = some o := q
        rw [hb, ge] at q'; cases q'
      · exact (gk b hb).symm.trans q
    · rw [upd_ne (Ne.symm M.dne)]
      exact I1.hok.fresh M.new
end
end E_length

namespace E_index
open PySem.W PySem.Calls PySem.HandSPX
def argsI (p1 p2 : Pos) : Arguments := { posonlyargs := [], args := [{ arg := "self", annotation := none, pos := p1 }, { arg := "index", annotation := none, pos := p2 }], vararg := none, kwonlyargs := [], kw_defaults := [], kwarg := none, defaults := [] }
def bodyI (q1 q2 q3 q4 : Pos) : List Stmt := [.Assign [.Attribute (.Name "self" q1) "index" q2] (.Name "index" q3) q4]
def scopeI : Scope := { kind := .function, names := [(PySem.Str.ofString "self", .local), (PySem.Str.ofString "index", .local)], isGenerator := false, isCoroutine := false, more := [] }
structure Txt (K : Frag) (mg : Str → Option Value) (cn qn : Str) (C fI : Addr) : Prop where
  gC : mg cn = some (.ref C)
  cls : ∃ nm q N bs bm sn sub ab col dd k0 k1 k2 k3 k5, K.lookup C = some (excClassObj nm q C N bs bm true sn sub ab col dd k0 k1 k2 k3 k5 "ValueError.__new__") ∧ refsVE bm = true
  sa : findIn K (.ref C) "__setattr__" = some (some (.builtin "object.__setattr__"))
  ga : findIn K (.ref C) "__getattribute__" = some (some (.builtin "BaseException.__getattribute__"))
  gg : findIn K (.ref C) "__getattr__" = some none
  noN : findIn K (.ref C) "index" = some none
  iC : findIn K (.ref C) "__init__" = some (some (.ref fI))
  tC : typeIn K (.ref fI) = some (.type "function")
  kC : keepIn K (.ref C) = true
  exC : subIn K (.ref C) (.type "BaseException") = some true
  tyC : typeIn K (.ref C) = some (.type "type")
  hdC : hasDictIn K C = true
  fn : ∃ (oc : Value) (od : Option Addr) (doc pm : Value) (an : Option Addr) (cdv ct : Value) (osl : Array (Option Value)) (p1 p2 q1 q2 q3 q4 : Pos),
    K.lookup fI = some ⟨oc, od, .func (fnOf "__init__" qn (argsI p1 p2) (bodyI q1 q2 q3 q4) scopeI .none .none doc pm an cdv ct), osl⟩ ∧ codeIn K cdv qn = true
structure Left (h h' : Heap) (x C dx t1 : Addr) (v : Value) : Prop where
  keep : ∀ b o, b ≠ x → h.get? b = some o → h'.get? b = some o
  obj : h'.get? x = some { cls := .ref C, dict := some dx, data := .fields #[.ref t1, .none, .none, .none, .bool false, .none] }
  dbig : h.objs.size ≤ dx
  dne : dx ≠ x
  ns : h'.Ns1 dx (fun y => if y = "index" then some v else none)
structure Made (h h' : Heap) (e C d : Addr) (v : Value) : Prop where
  keep : ∀ b o, h.get? b = some o → h'.get? b = some o
  new : h.objs.size ≤ e
  obj : ∃ oe vs, h'.get? e = some oe ∧ oe.cls = .ref C ∧ oe.dict = some d ∧ oe.data = .fields vs ∧ vs[1]? = some .none
  dbig : h.objs.size ≤ d
  dne : d ≠ e
  ns : h'.Ns1 d (fun y => if y = "index" then some v else none)
section
variable {prog : Program} {w : World} {A : Around} {E : Value → Shared → Prop} {R : Result → Shared → Prop} {s : Shared} {K : Frag} {mg : Str → Option Value} {C fI : Addr} {cn qn : Str}
theorem init_ok (T : Txt K mg cn qn C fI) {x t0 : Addr} {v : Value} (X : K.In s.heap) (hlim : s.heap.NoLimit) (hx : s.heap.get? x = some (excO C t0)) (hroom : A.depth < recursionLimit)
    (hq : ∀ h' tk dx, Left s.heap h' x C dx t0 v → R (.ok (.ret .none)) { s with heap := h', toks := tk }) :
    codeAny (model prog w) A (.call (.ref fI) ⟨[.ref x, v], []⟩) R s := by
  obtain ⟨oc, od, doc, pm, an, cdv, ct, osl, p1, p2, q1, q2, q3, q4, ho, hcd⟩ := T.fn
  obtain ⟨nm, q, N, bs, bm, sn, sub, ab, col, dd, k0, k1, k2, k3, k5, hC, hbm⟩ := T.cls
  have hcl : clsIn K C = some { name := nm, bases := bs, mro := .ref C :: bm, ns := N, qualname := q, hasDict := true, slotNames := sn, subclasses := sub, abstract := ab, collection := col, hasDel := false } := by unfold clsIn; rw [hC] <;> rfl
  refine Att.call_fn (binds := [("self", .ref x), ("index", v)]) X hlim ho hcd hroom (BindsTo.of_eq (by first | rfl | with_unfolding_all rfl)) (by first | rfl | decide | with_unfolding_all rfl) (fun s₁ IC => ?_) rfl rfl rfl
  obtain ⟨h₁, tk₁, rfl⟩ := IC.toInCall.same
  have k : ∀ b o, s.heap.get? b = some o → h₁.get? b = some o := IC.toInCall.keep
  have hn := IC.toInCall.ns
  have X₁ : K.In h₁ := X.keeps k
  have hx₁ := k _ _ hx
  have ld : ∀ {name : Str} {scope : Scope} {L a : Addr} {cd : Value} {m : Str → Option Value} {y : Str} {pos : Pos} {u : Value} {Q : Value → Shared → Prop} {A' : Around} {E' : Value → Shared → Prop} {s' : Shared}, s'.heap.Ns L m → m y = some u → Q u s' → scope.kind = .function → (envOfC name scope L a cd).kindOf y = some .local → (y == ("__debug__" : Str)) = false →
      wpAny (model prog w) A' (eval (.Name y pos) (envOfC name scope L a cd)) Q E' s' := fun hn hv h hk hl hd => wpAny_Name (wpAny_loadName_local hk hl hn hv h) hd
  show wpAny _ _ (execs _ _) _ _ _
  refine wpAny_execs_cons (plainObj_wpAny_Assign_Attribute ?_)
  refine ld (u := v) hn (by first | rfl | with_unfolding_all rfl | kernel_rfl) (ld (u := .ref x) hn (by first | rfl | with_unfolding_all rfl | kernel_rfl) ?_ rfl rfl (by decide)) rfl rfl (by decide)
  refine set_plain X₁ (ox := excO C t0) (od := none) ⟨hx₁, rfl, rfl, trivial⟩ T.sa ?_
  refine exc_osa X₁ hx₁ hcl (show refsVE (.ref C :: bm) = true from hbm) rfl T.noN (fun h₃ tk₃ dx k₃ dn dne hx₃ hn₃ => ?_)
  show wpAny _ _ (execs _ _) _ _ _
  have z : s.heap.objs.size < h₁.objs.size := hn.lt
  exact wpAny_execs_nil (hq h₃ tk₃ dx ⟨fun b o hb e => k₃ b o hb (k b o e), hx₃, Nat.le_of_lt (Nat.lt_of_lt_of_le z dn), dne, hn₃⟩)
theorem made_ok (T : Txt K mg cn qn C fI) {v : Value} (X : K.In s.heap) (hlim : s.heap.NoLimit) (hroom : A.depth + 1 < recursionLimit)
    (hq : ∀ h' tk e d, Made s.heap h' e C d v → R (.ok (.ret (.ref e))) { s with heap := h', toks := tk }) :
    codeAny (model prog w) A (.call (.ref C) ⟨[v], []⟩) R s := by
  obtain ⟨nm, q, N, bs, bm, sn, sub, ab, col, dd, k0, k1, k2, k3, k5, hC, hbm⟩ := T.cls
  obtain ⟨hp, g, dr, tk, os⟩ := s
  have k : ∀ b o, hp.get? b = some o → ((hp.push (kdv_tup [v])).push (excO C hp.objs.size)).get? b = some o := fun b o e => Heap.get?_push_of_some _ (Heap.get?_push_of_some _ e)
  have hget : ((hp.push (kdv_tup [v])).push (excO C hp.objs.size)).get? (hp.objs.size + 1) = some (excO C hp.objs.size) := by heap_get
  refine call_own F.excBase_ValueError (fun X => refsVE_contains X bm hbm) (X _ _ hC) (looks_findIn X T.iC) (fun self => bind_fn X self T.tC) (by rw [sizeLine_eq]; exact (by decide : 1 ≤ 16777216)) ?_
  refine init_ok (s := ⟨(hp.push (kdv_tup [v])).push (excO C hp.objs.size), g, dr, tk, os⟩) T (X.keeps k) (hlim.keeps k) hget ?_ fun h' tk' dx ⟨k', hx, dn, dne, hns⟩ => ?_
  · show A.depth + 1 < recursionLimit
    exact hroom
  · have old : ∀ b o, hp.get? b = some o → h'.get? b = some o := fun b o e => k' b o (Nat.ne_of_lt (Nat.lt_succ_of_lt (Heap.lt_size e))) (k b o e)
    have z : hp.objs.size + 1 + 1 ≤ dx := by
      first
        | (simpa only [Heap.size_push] using dn)
        | exact dn
        | (have q := dn; rw [Heap.size_push, Heap.size_push] at q; exact q)
    exact ⟨rfl, hq h' tk' (hp.objs.size + 1) dx ⟨old, Nat.le_succ _, ⟨_, _, hx, rfl, rfl, rfl, rfl⟩, Nat.le_trans (Nat.le_trans (Nat.le_succ _) (Nat.le_succ _)) z, dne, hns⟩⟩
end
theorem rel_one {v : V} {v' : Value} (r : RelV v v') (f : Str) : RelO (List.lookup f [(("index" : Str), v)]) (if f = "index" then some v' else none) := by
  by_cases hw : f = "index"
  · subst hw
    rw [if_pos rfl]
    have q : List.lookup ("index" : Str) [(("index" : Str), v)] = some v := by simp [List.lookup]
    rw [q]
    exact r
  · rw [if_neg hw]
    have qw : (f == ("index" : Str)) = false := by simpa using hw
    have q2 : List.lookup f [(("index" : Str), v)] = none := by simp [List.lookup, qw]
    rw [q2]
    trivial
section
variable {X : Cx} {C fI : Addr} {cn qn : Str}
theorem pmk {a : Expr} {ta : TA} {p pos : Pos} {k : Nat} (T : Txt X.K X.mg cn qn C fI) (hr : Room k X.A) (ha : PA X [a] ta) (hg : Gl X cn) (hdb : (cn == ("__debug__" : Str)) = false)
    (he : starEach (a :: []) X.env = (false, eval a X.env) :: starEach [] X.env) (hpl : (backTo pos (starEach [] X.env)).any (·.1) = false) :
    PMk X (.Call (.Name cn p) [a] [] pos) (tMkF C "index" ta) := by
  intro pins s σ H Q I h
  refine wpAny_Call_Name_kw (ld_glob I hg T.gC ?_ hdb)
  refine PySem.W.callWith_K (h₀ := X.base) I.ok.mod.kin T.kC (thn (ha.run pos pins s σ H _ I h) fun us s1 hh => ?_) he hpl
  obtain ⟨vs, H1, I1, r1, v, ev, q1⟩ := hh
  subst ev
  refine ⟨I1.kIn, ?_⟩
  cases r1 with
  | cons rv rn =>
    rename_i v' us'
    cases rn
    show wpAny _ _ (call (.ref C) [v']) _ _ _
    have hlim := I1.nolimit
    obtain ⟨hp, g, dr, tk, os⟩ := s1
    refine wpAny_call (made_ok T I1.kIn hlim (by have := hr.dp; omega) fun h' tk' e d M => ?_)
    show MkP X pins σ Q (.ref e) ⟨h', g, dr, tk', os⟩
    obtain ⟨oe, fv, hoe, hc, hd, hdat, h1⟩ := M.obj
    have hns := M.ns
    obtain ⟨G', g1, g2⟩ := restrict h' fun b => decide (b ≠ e)
    have gk : ∀ b, b ≠ e → G'.get? b = h'.get? b := fun b hb => g1 b (decide_eq_true hb)
    have ge : G'.get? e = none := g2 e (by simp)
    have old : ∀ b o, hp.get? b = some o → G'.get? b = some o := fun b o q => (gk b (Nat.ne_of_lt (Nat.lt_of_lt_of_le (Heap.lt_size q) M.new))).trans (M.keep b o q)
    have ob : ObjOk X.prog X.w (upd H1 d (.xd [(("index" : Str), v)])) G' d (.xd [(("index" : Str), v)]) :=
      ⟨_, hns.at (fun o q => (gk d M.dne).trans q), fun f => rel_one rv f⟩
    have J : Inv X pins σ (upd H1 d (.xd [(("index" : Str), v)])) ⟨G', g, dr, tk', os⟩ := I1.laid (t' := tk') old M.dbig ob
    refine ⟨e, oe, fv, ⟨G', g, dr, tk', os⟩, _, .ref C, some d, rfl, J, fun b o q => ?_, ge, hoe, ⟨hc, hd⟩, hdat, h1, ?_, rfl, I1.bare, raises_own T.exC T.tyC, q1 d (I1.hok.fresh M.dbig)⟩
    · by_cases hb : b = e
      · have q' : G'.get? b = some o := q
        rw [hb, ge] at q'; cases q'
      · exact (gk b hb).symm.trans q
    · rw [upd_ne (Ne.symm M.dne)]
      exact I1.hok.fresh M.new
end
end E_index

namespace E_obstruction
open PySem.W PySem.Calls PySem.HandSPX
def argsI (p1 p2 : Pos) : Arguments := { posonlyargs := [], args := [{ arg := "self", annotation := none, pos := p1 }, { arg := "obstruction", annotation := none, pos := p2 }], vararg := none, kwonlyargs := [], kw_defaults := [], kwarg := none, defaults := [] }
def bodyI (q1 q2 q3 q4 : Pos) : List Stmt := [.Assign [.Attribute (.Name "self" q1) "obstruction" q2] (.Name "obstruction" q3) q4]
def scopeI : Scope := { kind := .function, names := [(PySem.Str.ofString "self", .local), (PySem.Str.ofString "obstruction", .local)], isGenerator := false, isCoroutine := false, more := [] }
structure Txt (K : Frag) (mg : Str → Option Value) (cn qn : Str) (C fI : Addr) : Prop where
  gC : mg cn = some (.ref C)
  cls : ∃ nm q N bs bm sn sub ab col dd k0 k1 k2 k3 k5, K.lookup C = some (excClassObj nm q C N bs bm true sn sub ab col dd k0 k1 k2 k3 k5 "ValueError.__new__") ∧ refsVE bm = true
  sa : findIn K (.ref C) "__setattr__" = some (some (.builtin "object.__setattr__"))
  ga : findIn K (.ref C) "__getattribute__" = some (some (.builtin "BaseException.__getattribute__"))
  gg : findIn K (.ref C) "__getattr__" = some none
  noN : findIn K (.ref C) "obstruction" = some none
  iC : findIn K (.ref C) "__init__" = some (some (.ref fI))
  tC : typeIn K (.ref fI) = some (.type "function")
  kC : keepIn K (.ref C) = true
  exC : subIn K (.ref C) (.type "BaseException") = some true
  tyC : typeIn K (.ref C) = some (.type "type")
  hdC : hasDictIn K C = true
  fn : ∃ (oc : Value) (od : Option Addr) (doc pm : Value) (an : Option Addr) (cdv ct : Value) (osl : Array (Option Value)) (p1 p2 q1 q2 q3 q4 : Pos),
    K.lookup fI = some ⟨oc, od, .func (fnOf "__init__" qn (argsI p1 p2) (bodyI q1 q2 q3 q4) scopeI .none .none doc pm an cdv ct), osl⟩ ∧ codeIn K cdv qn = true
structure Left (h h' : Heap) (x C dx t1 : Addr) (v : Value) : Prop where
  keep : ∀ b o, b ≠ x → h.get? b = some o → h'.get? b = some o
  obj : h'.get? x = some { cls := .ref C, dict := some dx, data := .fields #[.ref t1, .none, .none, .none, .bool false, .none] }
  dbig : h.objs.size ≤ dx
  dne : dx ≠ x
  ns : h'.Ns1 dx (fun y => if y = "obstruction" then some v else none)
structure Made (h h' : Heap) (e C d : Addr) (v : Value) : Prop where
  keep : ∀ b o, h.get? b = some o → h'.get? b = some o
  new : h.objs.size ≤ e
  obj : ∃ oe vs, h'.get? e = some oe ∧ oe.cls = .ref C ∧ oe.dict = some d ∧ oe.data = .fields vs ∧ vs[1]? = some .none
  dbig : h.objs.size ≤ d
  dne : d ≠ e
  ns : h'.Ns1 d (fun y => if y = "obstruction" then some v else none)
section
variable {prog : Program} {w : World} {A : Around} {E : Value → Shared → Prop} {R : Result → Shared → Prop} {s : Shared} {K : Frag} {mg : Str → Option Value} {C fI : Addr} {cn qn : Str}
theorem init_ok (T : Txt K mg cn qn C fI) {x t0 : Addr} {v : Value} (X : K.In s.heap) (hlim : s.heap.NoLimit) (hx : s.heap.get? x = some (excO C t0)) (hroom : A.depth < recursionLimit)
    (hq : ∀ h' tk dx, Left s.heap h' x C dx t0 v → R (.ok (.ret .none)) { s with heap := h', toks := tk }) :
    codeAny (model prog w) A (.call (.ref fI) ⟨[.ref x, v], []⟩) R s := by
  obtain ⟨oc, od, doc, pm, an, cdv, ct, osl, p1, p2, q1, q2, q3, q4, ho, hcd⟩ := T.fn
  obtain ⟨nm, q, N, bs, bm, sn, sub, ab, col, dd, k0, k1, k2, k3, k5, hC, hbm⟩ := T.cls
  have hcl : clsIn K C = some { name := nm, bases := bs, mro := .ref C :: bm, ns := N, qualname := q, hasDict := true, slotNames := sn, subclasses := sub, abstract := ab, collection := col, hasDel := false } := by unfold clsIn; rw [hC] <;> rfl
  refine Att.call_fn (binds := [("self", .ref x), ("obstruction", v)]) X hlim ho hcd hroom (BindsTo.of_eq (by first | rfl | with_unfolding_all rfl)) (by first | rfl | decide | with_unfolding_all rfl) (fun s₁ IC => ?_) rfl rfl rfl
  obtain ⟨h₁, tk₁, rfl⟩ := IC.toInCall.same
  have k : ∀ b o, s.heap.get? b = some o → h₁.get? b = some o := IC.toInCall.keep
  have hn := IC.toInCall.ns
  have X₁ : K.In h₁ := X.keeps k
  have hx₁ := k _ _ hx
  have ld : ∀ {name : Str} {scope : Scope} {L a : Addr} {cd : Value} {m : Str → Option Value} {y : Str} {pos : Pos} {u : Value} {Q : Value → Shared → Prop} {A' : Around} {E' : Value → Shared → Prop} {s' : Shared}, s'.heap.Ns L m → m y = some u → Q u s' → scope.kind = .function → (envOfC name scope L a cd).kindOf y = some .local → (y == ("__debug__" : Str)) = false →
      wpAny (model prog w) A' (eval (.Name y pos) (envOfC name scope L a cd)) Q E' s' := fun hn hv h hk hl hd => wpAny_Name (wpAny_loadName_local hk hl hn hv h) hd
  show wpAny _ _ (execs _ _) _ _ _
  refine wpAny_execs_cons (plainObj_wpAny_Assign_Attribute ?_)
  refine ld (u := v) hn (by first | rfl | with_unfolding_all rfl | kernel_rfl) (ld (u := .ref x) hn (by first | rfl | with_unfolding_all rfl | kernel_rfl) ?_ rfl rfl (by decide)) rfl rfl (by decide)
  refine set_plain X₁ (ox := excO C t0) (od := none) ⟨hx₁, rfl, rfl, trivial⟩ T.sa ?_
  refine exc_osa X₁ hx₁ hcl (show refsVE (.ref C :: bm) = true from hbm) rfl T.noN (fun h₃ tk₃ dx k₃ dn dne hx₃ hn₃ => ?_)
  show wpAny _ _ (execs _ _) _ _ _
  have z : s.heap.objs.size < h₁.objs.size := hn.lt
  exact wpAny_execs_nil (hq h₃ tk₃ dx ⟨fun b o hb e => k₃ b o hb (k b o e), hx₃, Nat.le_of_lt (Nat.lt_of_lt_of_le z dn), dne, hn₃⟩)
theorem made_ok (T : Txt K mg cn qn C fI) {v : Value} (X : K.In s.heap) (hlim : s.heap.NoLimit) (hroom : A.depth + 1 < recursionLimit)
    (hq : ∀ h' tk e d, Made s.heap h' e C d v → R (.ok (.ret (.ref e))) { s with heap := h', toks := tk }) :
    codeAny (model prog w) A (.call (.ref C) ⟨[v], []⟩) R s := by
  obtain ⟨nm, q, N, bs, bm, sn, sub, ab, col, dd, k0, k1, k2, k3, k5, hC, hbm⟩ := T.cls
  obtain ⟨hp, g, dr, tk, os⟩ := s
  have k : ∀ b o, hp.get? b = some o → ((hp.push (kdv_tup [v])).push (excO C hp.objs.size)).get? b = some o := fun b o e => Heap.get?_push_of_some _ (Heap.get?_push_of_some _ e)
  have hget : ((hp.push (kdv_tup [v])).push (excO C hp.objs.size)).get? (hp.objs.size + 1) = some (excO C hp.objs.size) := by heap_get
  refine call_own F.excBase_ValueError (fun X => refsVE_contains X bm hbm) (X _ _ hC) (looks_findIn X T.iC) (fun self => bind_fn X self T.tC) (by rw [sizeLine_eq]; exact (by decide : 1 ≤ 16777216)) ?_
  refine init_ok (s := ⟨(hp.push (kdv_tup [v])).push (excO C hp.objs.size), g, dr, tk, os⟩) T (X.keeps k) (hlim.keeps k) hget ?_ fun h' tk' dx ⟨k', hx, dn, dne, hns⟩ => ?_
  · show A.depth + 1 < recursionLimit
    exact hroom
  · have old : ∀ b o, hp.get? b = some o → h'.get? b = some o := fun b o e => k' b o (Nat.ne_of_lt (Nat.lt_succ_of_lt (Heap.lt_size e))) (k b o e)
    have z : hp.objs.size + 1 + 1 ≤ dx := by
      first
        | (simpa only [Heap.size_push] using dn)
        | exact dn
        | (have q := dn; rw [Heap.size_push, Heap.size_push] at q; exact q)
    exact ⟨rfl, hq h' tk' (hp.objs.size + 1) dx ⟨old, Nat.le_succ _, ⟨_, _, hx, rfl, rfl, rfl, rfl⟩, Nat.le_trans (Nat.le_trans (Nat.le_succ _) (Nat.le_succ _)) z, dne, hns⟩⟩
end
theorem rel_one {v : V} {v' : Value} (r : RelV v v') (f : Str) : RelO (List.lookup f [(("obstruction" : Str), v)]) (if f = "obstruction" then some v' else none) := by
  by_cases hw : f = "obstruction"
  · subst hw
    rw [if_pos rfl]
    have q : List.lookup ("obstruction" : Str) [(("obstruction" : Str), v)] = some v := by simp [List.lookup]
    rw [q]
    exact r
  · rw [if_neg hw]
    have qw : (f == ("obstruction" : Str)) = false := by simpa using hw
    have q2 : List.lookup f [(("obstruction" : Str), v)] = none := by simp [List.lookup, qw]
    rw [q2]
    trivial
section
variable {X : Cx} {C fI : Addr} {cn qn : Str}
theorem pmk {a : Expr} {ta : TA} {p pos : Pos} {k : Nat} (T : Txt X.K X.mg cn qn C fI) (hr : Room k X.A) (ha : PA X [a] ta) (hg : Gl X cn) (hdb : (cn == ("__debug__" : Str)) = false)
    (he : starEach (a :: []) X.env = (false, eval a X.env) :: starEach [] X.env) (hpl : (backTo pos (starEach [] X.env)).any (·.1) = false) :
    PMk X (.Call (.Name cn p) [a] [] pos) (tMkF C "obstruction" ta) := by
  intro pins s σ H Q I h
  refine wpAny_Call_Name_kw (ld_glob I hg T.gC ?_ hdb)
  refine PySem.W.callWith_K (h₀ := X.base) I.ok.mod.kin T.kC (thn (ha.run pos pins s σ H _ I h) fun us s1 hh => ?_) he hpl
  obtain ⟨vs, H1, I1, r1, v, ev, q1⟩ := hh
  subst ev
  refine ⟨I1.kIn, ?_⟩
  cases r1 with
  | cons rv rn =>
    rename_i v' us'
    cases rn
    show wpAny _ _ (call (.ref C) [v']) _ _ _
    have hlim := I1.nolimit
    obtain ⟨hp, g, dr, tk, os⟩ := s1
    refine wpAny_call (made_ok T I1.kIn hlim (by have := hr.dp; omega) fun h' tk' e d M => ?_)
    show MkP X pins σ Q (.ref e) ⟨h', g, dr, tk', os⟩
    obtain ⟨oe, fv, hoe, hc, hd, hdat, h1⟩ := M.obj
    have hns := M.ns
    obtain ⟨G', g1, g2⟩ := restrict h' fun b => decide (b ≠ e)
    have gk : ∀ b, b ≠ e → G'.get? b = h'.get? b := fun b hb => g1 b (decide_eq_true hb)
    have ge : G'.get? e = none := g2 e (by simp)
    have old : ∀ b o, hp.get? b = some o → G'.get? b = some o := fun b o q => (gk b (Nat.ne_of_lt (Nat.lt_of_lt_of_le (Heap.lt_size q) M.new))).trans (M.keep b o q)
    have ob : ObjOk X.prog X.w (upd H1 d (.xd [(("obstruction" : Str), v)])) G' d (.xd [(("obstruction" : Str), v)]) :=
      ⟨_, hns.at (fun o q => (gk d M.dne).trans q), fun f => rel_one rv f⟩
    have J : Inv X pins σ (upd H1 d (.xd [(("obstruction" : Str), v)])) ⟨G', g, dr, tk', os⟩ := I1.laid (t' := tk') old M.dbig ob
    refine ⟨e, oe, fv, ⟨G', g, dr, tk', os⟩, _, .ref C, some d, rfl, J, fun b o q => ?_, ge, hoe, ⟨hc, hd⟩, hdat, h1, ?_, rfl, I1.bare, raises_own T.exC T.tyC, q1 d (I1.hok.fresh M.dbig)⟩
    · by_cases hb : b = e
      · have q' : G'.get? b = some o := q
        rw [hb, ge] at q'; cases q'
      · exact (gk b hb).symm.trans q
    · rw [upd_ne (Ne.symm M.dne)]
      exact I1.hok.fresh M.new
end
end E_obstruction

namespace E_limit
open PySem.W PySem.Calls PySem.HandSPX
def argsI (p1 p2 : Pos) : Arguments := { posonlyargs := [], args := [{ arg := "self", annotation := none, pos := p1 }, { arg := "limit", annotation := none, pos := p2 }], vararg := none, kwonlyargs := [], kw_defaults := [], kwarg := none, defaults := [] }
def bodyI (q1 q2 q3 q4 : Pos) : List Stmt := [.Assign [.Attribute (.Name "self" q1) "limit" q2] (.Name "limit" q3) q4]
def scopeI : Scope := { kind := .function, names := [(PySem.Str.ofString "self", .local), (PySem.Str.ofString "limit", .local)], isGenerator := false, isCoroutine := false, more := [] }
structure Txt (K : Frag) (mg : Str → Option Value) (cn qn : Str) (C fI : Addr) : Prop where
  gC : mg cn = some (.ref C)
  cls : ∃ nm q N bs bm sn sub ab col dd k0 k1 k2 k3 k5, K.lookup C = some (excClassObj nm q C N bs bm true sn sub ab col dd k0 k1 k2 k3 k5 "ValueError.__new__") ∧ refsVE bm = true
  sa : findIn K (.ref C) "__setattr__" = some (some (.builtin "object.__setattr__"))
  ga : findIn K (.ref C) "__getattribute__" = some (some (.builtin "BaseException.__getattribute__"))
  gg : findIn K (.ref C) "__getattr__" = some none
  noN : findIn K (.ref C) "limit" = some none
  iC : findIn K (.ref C) "__init__" = some (some (.ref fI))
  tC : typeIn K (.ref fI) = some (.type "function")
  kC : keepIn K (.ref C) = true
  exC : subIn K (.ref C) (.type "BaseException") = some true
  tyC : typeIn K (.ref C) = some (.type "type")
  hdC : hasDictIn K C = true
  fn : ∃ (oc : Value) (od : Option Addr) (doc pm : Value) (an : Option Addr) (cdv ct : Value) (osl : Array (Option Value)) (p1 p2 q1 q2 q3 q4 : Pos),
    K.lookup fI = some ⟨oc, od, .func (fnOf "__init__" qn (argsI p1 p2) (bodyI q1 q2 q3 q4) scopeI .none .none doc pm an cdv ct), osl⟩ ∧ codeIn K cdv qn = true
structure Left (h h' : Heap) (x C dx t1 : Addr) (v : Value) : Prop where
  keep : ∀ b o, b ≠ x → h.get? b = some o → h'.get? b = some o
  obj : h'.get? x = some { cls := .ref C, dict := some dx, data := .fields #[.ref t1, .none, .none, .none, .bool false, .none] }
  dbig : h.objs.size ≤ dx
  dne : dx ≠ x
  ns : h'.Ns1 dx (fun y => if y = "limit" then some v else none)
structure Made (h h' : Heap) (e C d : Addr) (v : Value) : Prop where
  keep : ∀ b o, h.get? b = some o → h'.get? b = some o
  new : h.objs.size ≤ e
  obj : ∃ oe vs, h'.get? e = some oe ∧ oe.cls = .ref C ∧ oe.dict = some d ∧ oe.data = .fields vs ∧ vs[1]? = some .none
  dbig : h.objs.size ≤ d
  dne : d ≠ e
  ns : h'.Ns1 d (fun y => if y = "limit" then some v else none)
section
variable {prog : Program} {w : World} {A : Around} {E : Value → Shared → Prop} {R : Result → Shared → Prop} {s : Shared} {K : Frag} {mg : Str → Option Value} {C fI : Addr} {cn qn : Str}
theorem init_ok (T : Txt K mg cn qn C fI) {x t0 : Addr} {v : Value} (X : K.In s.heap) (hlim : s.heap.NoLimit) (hx : s.heap.get? x = some (excO C t0)) (hroom : A.depth < recursionLimit)
    (hq : ∀ h' tk dx, Left s.heap h' x C dx t0 v → R (.ok (.ret .none)) { s with heap := h', toks := tk }) :
    codeAny (model prog w) A (.call (.ref fI) ⟨[.ref x, v], []⟩) R s := by
  obtain ⟨oc, od, doc, pm, an, cdv, ct, osl, p1, p2, q1, q2, q3, q4, ho, hcd⟩ := T.fn
  obtain ⟨nm, q, N, bs, bm, sn, sub, ab, col, dd, k0, k1, k2, k3, k5, hC, hbm⟩ := T.cls
  have hcl : clsIn K C = some { name := nm, bases := bs, mro := .ref C :: bm, ns := N, qualname := q, hasDict := true, slotNames := sn, subclasses := sub, abstract := ab, collection := col, hasDel := false } := by unfold clsIn; rw [hC] <;> rfl
  refine Att.call_fn (binds := [("self", .ref x), ("limit", v)]) X hlim ho hcd hroom (BindsTo.of_eq (by first | rfl | with_unfolding_all rfl)) (by first | rfl | decide | with_unfolding_all rfl) (fun s₁ IC => ?_) rfl rfl rfl
  obtain ⟨h₁, tk₁, rfl⟩ := IC.toInCall.same
  have k : ∀ b o, s.heap.get? b = some o → h₁.get? b = some o := IC.toInCall.keep
  have hn := IC.toInCall.ns
  have X₁ : K.In h₁ := X.keeps k
  have hx₁ := k _ _ hx
  have ld : ∀ {name : Str} {scope : Scope} {L a : Addr} {cd : Value} {m : Str → Option Value} {y : Str} {pos : Pos} {u : Value} {Q : Value → Shared → Prop} {A' : Around} {E' : Value → Shared → Prop} {s' : Shared}, s'.heap.Ns L m → m y = some u → Q u s' → scope.kind = .function → (envOfC name scope L a cd).kindOf y = some .local → (y == ("__debug__" : Str)) = false →
      wpAny (model prog w) A' (eval (.Name y pos) (envOfC name scope L a cd)) Q E' s' := fun hn hv h hk hl hd => wpAny_Name (wpAny_loadName_local hk hl hn hv h) hd
  show wpAny _ _ (execs _ _) _ _ _
  refine wpAny_execs_cons (plainObj_wpAny_Assign_Attribute ?_)
  refine ld (u := v) hn (by first | rfl | with_unfolding_all rfl | kernel_rfl) (ld (u := .ref x) hn (by first | rfl | with_unfolding_all rfl | kernel_rfl) ?_ rfl rfl (by decide)) rfl rfl (by decide)
  refine set_plain X₁ (ox := excO C t0) (od := none) ⟨hx₁, rfl, rfl, trivial⟩ T.sa ?_
  refine exc_osa X₁ hx₁ hcl (show refsVE (.ref C :: bm) = true from hbm) rfl T.noN (fun h₃ tk₃ dx k₃ dn dne hx₃ hn₃ => ?_)
  show wpAny _ _ (execs _ _) _ _ _
  have z : s.heap.objs.size < h₁.objs.size := hn.lt
  exact wpAny_execs_nil (hq h₃ tk₃ dx ⟨fun b o hb e => k₃ b o hb (k b o e), hx₃, Nat.le_of_lt (Nat.lt_of_lt_of_le z dn), dne, hn₃⟩)
theorem made_ok (T : Txt K mg cn qn C fI) {v : Value} (X : K.In s.heap) (hlim : s.heap.NoLimit) (hroom : A.depth + 1 < recursionLimit)
    (hq : ∀ h' tk e d, Made s.heap h' e C d v → R (.ok (.ret (.ref e))) { s with heap := h', toks := tk }) :
    codeAny (model prog w) A (.call (.ref C) ⟨[v], []⟩) R s := by
  obtain ⟨nm, q, N, bs, bm, sn, sub, ab, col, dd, k0, k1, k2, k3, k5, hC, hbm⟩ := T.cls
  obtain ⟨hp, g, dr, tk, os⟩ := s
  have k : ∀ b o, hp.get? b = some o → ((hp.push (kdv_tup [v])).push (excO C hp.objs.size)).get? b = some o := fun b o e => Heap.get?_push_of_some _ (Heap.get?_push_of_some _ e)
  have hget : ((hp.push (kdv_tup [v])).push (excO C hp.objs.size)).get? (hp.objs.size + 1) = some (excO C hp.objs.size) := by heap_get
  refine call_own F.excBase_ValueError (fun X => refsVE_contains X bm hbm) (X _ _ hC) (looks_findIn X T.iC) (fun self => bind_fn X self T.tC) (by rw [sizeLine_eq]; exact (by decide : 1 ≤ 16777216)) ?_
  refine init_ok (s := ⟨(hp.push (kdv_tup [v])).push (excO C hp.objs.size), g, dr, tk, os⟩) T (X.keeps k) (hlim.keeps k) hget ?_ fun h' tk' dx ⟨k', hx, dn, dne, hns⟩ => ?_
  · show A.depth + 1 < recursionLimit
    exact hroom
  · have old : ∀ b o, hp.get? b = some o → h'.get? b = some o := fun b o e => k' b o (Nat.ne_of_lt (Nat.lt_succ_of_lt (Heap.lt_size e))) (k b o e)
    have z : hp.objs.size + 1 + 1 ≤ dx := by
      first
        | (simpa only [Heap.size_push] using dn)
        | exact dn
        | (have q := dn; rw [Heap.size_push, Heap.size_push] at q; exact q)
    exact ⟨rfl, hq h' tk' (hp.objs.size + 1) dx ⟨old, Nat.le_succ _, ⟨_, _, hx, rfl, rfl, rfl, rfl⟩, Nat.le_trans (Nat.le_trans (Nat.le_succ _) (Nat.le_succ _)) z, dne, hns⟩⟩
end
theorem rel_one {v : V} {v' : Value} (r : RelV v v') (f : Str) : RelO (List.lookup f [(("limit" : Str), v)]) (if f = "limit" then some v' else none) := by
  by_cases hw : f = "limit"
  · subst hw
    rw [if_pos rfl]
    have q : List.lookup ("limit" : Str) [(("limit" : Str), v)] = some v := by simp [List.lookup]
    rw [q]
    exact r
  · rw [if_neg hw]
    have qw : (f == ("limit" : Str)) = false := by simpa using hw
    have q2 : List.lookup f [(("limit" : Str), v)] = none := by simp [List.lookup, qw]
    rw [q2]
    trivial
section
variable {X : Cx} {C fI : Addr} {cn qn : Str}
theorem pmk {a : Expr} {ta : TA} {p pos : Pos} {k : Nat} (T : Txt X.K X.mg cn qn C fI) (hr : Room k X.A) (ha : PA X [a] ta) (hg : Gl X cn) (hdb : (cn == ("__debug__" : Str)) = false)
    (he : starEach (a :: []) X.env = (false, eval a X.env) :: starEach [] X.env) (hpl : (backTo pos (starEach [] X.env)).any (·.1) = false) :
    PMk X (.Call (.Name cn p) [a] [] pos) (tMkF C "limit" ta) := by
  intro pins s σ H Q I h
  refine wpAny_Call_Name_kw (ld_glob I hg T.gC ?_ hdb)
  refine PySem.W.callWith_K (h₀ := X.base) I.ok.mod.kin T.kC (thn (ha.run pos pins s σ H _ I h) fun us s1 hh => ?_) he hpl
  obtain ⟨vs, H1, I1, r1, v, ev, q1⟩ := hh
  subst ev
  refine ⟨I1.kIn, ?_⟩
  cases r1 with
  | cons rv rn =>
    rename_i v' us'
    cases rn
    show wpAny _ _ (call (.ref C) [v']) _ _ _
    have hlim := I1.nolimit
    obtain ⟨hp, g, dr, tk, os⟩ := s1
    refine wpAny_call (made_ok T I1.kIn hlim (by have := hr.dp; omega) fun h' tk' e d M => ?_)
    show MkP X pins σ Q (.ref e) ⟨h', g, dr, tk', os⟩
    obtain ⟨oe, fv, hoe, hc, hd, hdat, h1⟩ := M.obj
    have hns := M.ns
    obtain ⟨G', g1, g2⟩ := restrict h' fun b => decide (b ≠ e)
    have gk : ∀ b, b ≠ e → G'.get? b = h'.get? b := fun b hb => g1 b (decide_eq_true hb)
    have ge : G'.get? e = none := g2 e (by simp)
    have old : ∀ b o, hp.get? b = some o → G'.get? b = some o := fun b o q => (gk b (Nat.ne_of_lt (Nat.lt_of_lt_of_le (Heap.lt_size q) M.new))).trans (M.keep b o q)
    have ob : ObjOk X.prog X.w (upd H1 d (.xd [(("limit" : Str), v)])) G' d (.xd [(("limit" : Str), v)]) :=
      ⟨_, hns.at (fun o q => (gk d M.dne).trans q), fun f => rel_one rv f⟩
    have J : Inv X pins σ (upd H1 d (.xd [(("limit" : Str), v)])) ⟨G', g, dr, tk', os⟩ := I1.laid (t' := tk') old M.dbig ob
    refine ⟨e, oe, fv, ⟨G', g, dr, tk', os⟩, _, .ref C, some d, rfl, J, fun b o q => ?_, ge, hoe, ⟨hc, hd⟩, hdat, h1, ?_, rfl, I1.bare, raises_own T.exC T.tyC, q1 d (I1.hok.fresh M.dbig)⟩
    · by_cases hb : b = e
      · have q' : G'.get? b = some o := q
        rw [hb, ge] at q'; cases q'
      · exact (gk b hb).symm.trans q
    · rw [upd_ne (Ne.symm M.dne)]
      exact I1.hok.fresh M.new
end
end E_limit

namespace E_error
open PySem.W PySem.Calls PySem.HandSPX
def argsI (p1 p2 : Pos) : Arguments := { posonlyargs := [], args := [{ arg := "self", annotation := none, pos := p1 }, { arg := "error", annotation := none, pos := p2 }], vararg := none, kwonlyargs := [], kw_defaults := [], kwarg := none, defaults := [] }
def bodyI (q1 q2 q3 q4 : Pos) : List Stmt := [.Assign [.Attribute (.Name "self" q1) "error" q2] (.Name "error" q3) q4]
def scopeI : Scope := { kind := .function, names := [(PySem.Str.ofString "self", .local), (PySem.Str.ofString "error", .local)], isGenerator := false, isCoroutine := false, more := [] }
structure Txt (K : Frag) (mg : Str → Option Value) (cn qn : Str) (C fI : Addr) : Prop where
  gC : mg cn = some (.ref C)
  cls : ∃ nm q N bs bm sn sub ab col dd k0 k1 k2 k3 k5, K.lookup C = some (excClassObj nm q C N bs bm true sn sub ab col dd k0 k1 k2 k3 k5 "ValueError.__new__") ∧ refsVE bm = true
  sa : findIn K (.ref C) "__setattr__" = some (some (.builtin "object.__setattr__"))
  ga : findIn K (.ref C) "__getattribute__" = some (some (.builtin "BaseException.__getattribute__"))
  gg : findIn K (.ref C) "__getattr__" = some none
  noN : findIn K (.ref C) "error" = some none
  iC : findIn K (.ref C) "__init__" = some (some (.ref fI))
  tC : typeIn K (.ref fI) = some (.type "function")
  kC : keepIn K (.ref C) = true
  exC : subIn K (.ref C) (.type "BaseException") = some true
  tyC : typeIn K (.ref C) = some (.type "type")
  hdC : hasDictIn K C = true
  fn : ∃ (oc : Value) (od : Option Addr) (doc pm : Value) (an : Option Addr) (cdv ct : Value) (osl : Array (Option Value)) (p1 p2 q1 q2 q3 q4 : Pos),
    K.lookup fI = some ⟨oc, od, .func (fnOf "__init__" qn (argsI p1 p2) (bodyI q1 q2 q3 q4) scopeI .none .none doc pm an cdv ct), osl⟩ ∧ codeIn K cdv qn = true
structure Left (h h' : Heap) (x C dx t1 : Addr) (v : Value) : Prop where
  keep : ∀ b o, b ≠ x → h.get? b = some o → h'.get? b = some o
  obj : h'.get? x = some { cls := .ref C, dict := some dx, data := .fields #[.ref t1, .none, .none, .none, .bool false, .none] }
  dbig : h.objs.size ≤ dx
  dne : dx ≠ x
  ns : h'.Ns1 dx (fun y => if y = "error" then some v else none)
structure Made (h h' : Heap) (e C d : Addr) (v : Value) : Prop where
  keep : ∀ b o, h.get? b = some o → h'.get? b = some o
  new : h.objs.size ≤ e
  obj : ∃ oe vs, h'.get? e = some oe ∧ oe.cls = .ref C ∧ oe.dict = some d ∧ oe.data = .fields vs ∧ vs[1]? = some .none
  dbig : h.objs.size ≤ d
  dne : d ≠ e
  ns : h'.Ns1 d (fun y => if y = "error" then some v else none)
section
variable {prog : Program} {w : World} {A : Around} {E : Value → Shared → Prop} {R : Result → Shared → Prop} {s : Shared} {K : Frag} {mg : Str → Option Value} {C fI : Addr} {cn qn : Str}
theorem init_ok (T : Txt K mg cn qn C fI) {x t0 : Addr} {v : Value} (X : K.In s.heap) (hlim : s.heap.NoLimit) (hx : s.heap.get? x = some (excO C t0)) (hroom : A.depth < recursionLimit)
    (hq : ∀ h' tk dx, Left s.heap h' x C dx t0 v → R (.ok (.ret .none)) { s with heap := h', toks := tk }) :
    codeAny (model prog w) A (.call (.ref fI) ⟨[.ref x, v], []⟩) R s := by
  obtain ⟨oc, od, doc, pm, an, cdv, ct, osl, p1, p2, q1, q2, q3, q4, ho, hcd⟩ := T.fn
  obtain ⟨nm, q, N, bs, bm, sn, sub, ab, col, dd, k0, k1, k2, k3, k5, hC, hbm⟩ := T.cls
  have hcl : clsIn K C = some { name := nm, bases := bs, mro := .ref C :: bm, ns := N, qualname := q, hasDict := true, slotNames := sn, subclasses := sub, abstract := ab, collection := col, hasDel := false } := by unfold clsIn; rw [hC] <;> rfl
  refine Att.call_fn (binds := [("self", .ref x), ("error", v)]) X hlim ho hcd hroom (BindsTo.of_eq (by first | rfl | with_unfolding_all rfl)) (by first | rfl | decide | with_unfolding_all rfl) (fun s₁ IC => ?_) rfl rfl rfl
  obtain ⟨h₁, tk₁, rfl⟩ := IC.toInCall.same
  have k : ∀ b o, s.heap.get? b = some o → h₁.get? b = some o := IC.toInCall.keep
  have hn := IC.toInCall.ns
  have X₁ : K.In h₁ := X.keeps k
  have hx₁ := k _ _ hx
  have ld : ∀ {name : Str} {scope : Scope} {L a : Addr} {cd : Value} {m : Str → Option Value} {y : Str} {pos : Pos} {u : Value} {Q : Value → Shared → Prop} {A' : Around} {E' : Value → Shared → Prop} {s' : Shared}, s'.heap.Ns L m → m y = some u → Q u s' → scope.kind = .function → (envOfC name scope L a cd).kindOf y = some .local → (y == ("__debug__" : Str)) = false →
      wpAny (model prog w) A' (eval (.Name y pos) (envOfC name scope L a cd)) Q E' s' := fun hn hv h hk hl hd => wpAny_Name (wpAny_loadName_local hk hl hn hv h) hd
  show wpAny _ _ (execs _ _) _ _ _
  refine wpAny_execs_cons (plainObj_wpAny_Assign_Attribute ?_)
  refine ld (u := v) hn (by first | rfl | with_unfolding_all rfl | kernel_rfl) (ld (u := .ref x) hn (by first | rfl | with_unfolding_all rfl | kernel_rfl) ?_ rfl rfl (by decide)) rfl rfl (by decide)
  refine set_plain X₁ (ox := excO C t0) (od := none) ⟨hx₁, rfl, rfl, trivial⟩ T.sa ?_
  refine exc_osa X₁ hx₁ hcl (show refsVE (.ref C :: bm) = true from hbm) rfl T.noN (fun h₃ tk₃ dx k₃ dn dne hx₃ hn₃ => ?_)
  show wpAny _ _ (execs _ _) _ _ _
  have z : s.heap.objs.size < h₁.objs.size := hn.lt
  exact wpAny_execs_nil (hq h₃ tk₃ dx ⟨fun b o hb e => k₃ b o hb (k b o e), hx₃, Nat.le_of_lt (Nat.lt_of_lt_of_le z dn), dne, hn₃⟩)
theorem made_ok (T : Txt K mg cn qn C fI) {v : Value} (X : K.In s.heap) (hlim : s.heap.NoLimit) (hroom : A.depth + 1 < recursionLimit)
    (hq : ∀ h' tk e d, Made s.heap h' e C d v → R (.ok (.ret (.ref e))) { s with heap := h', toks := tk }) :
    codeAny (model prog w) A (.call (.ref C) ⟨[v], []⟩) R s := by
  obtain ⟨nm, q, N, bs, bm, sn, sub, ab, col, dd, k0, k1, k2, k3, k5, hC, hbm⟩ := T.cls
  obtain ⟨hp, g, dr, tk, os⟩ := s
  have k : ∀ b o, hp.get? b = some o → ((hp.push (kdv_tup [v])).push (excO C hp.objs.size)).get? b = some o := fun b o e => Heap.get?_push_of_some _ (Heap.get?_push_of_some _ e)
  have hget : ((hp.push (kdv_tup [v])).push (excO C hp.objs.size)).get? (hp.objs.size + 1) = some (excO C hp.objs.size) := by heap_get
  refine call_own F.excBase_ValueError (fun X => refsVE_contains X bm hbm) (X _ _ hC) (looks_findIn X T.iC) (fun self => bind_fn X self T.tC) (by rw [sizeLine_eq]; exact (by decide : 1 ≤ 16777216)) ?_
  refine init_ok (s := ⟨(hp.push (kdv_tup [v])).push (excO C hp.objs.size), g, dr, tk, os⟩) T (X.keeps k) (hlim.keeps k) hget ?_ fun h' tk' dx ⟨k', hx, dn, dne, hns⟩ => ?_
  · show A.depth + 1 < recursionLimit
    exact hroom
  · have old : ∀ b o, hp.get? b = some o → h'.get? b = some o := fun b o e => k' b o (Nat.ne_of_lt (Nat.lt_succ_of_lt (Heap.lt_size e))) (k b o e)
    have z : hp.objs.size + 1 + 1 ≤ dx := by
      first
        | (simpa only [Heap.size_push] using dn)
        | exact dn
        | (have q := dn; rw [Heap.size_push, Heap.size_push] at q; exact q)
    exact ⟨rfl, hq h' tk' (hp.objs.size + 1) dx ⟨old, Nat.le_succ _, ⟨_, _, hx, rfl, rfl, rfl, rfl⟩, Nat.le_trans (Nat.le_trans (Nat.le_succ _) (Nat.le_succ _)) z, dne, hns⟩⟩
end
theorem rel_one {v : V} {v' : Value} (r : RelV v v') (f : Str) : RelO (List.lookup f [(("error" : Str), v)]) (if f = "error" then some v' else none) := by
  by_cases hw : f = "error"
  · subst hw
    rw [if_pos rfl]
    have q : List.lookup ("error" : Str) [(("error" : Str), v)] = some v := by simp [List.lookup]
    rw [q]
    exact r
  · rw [if_neg hw]
    have qw : (f == ("error" : Str)) = false := by simpa using hw
    have q2 : List.lookup f [(("error" : Str), v)] = none := by simp [List.lookup, qw]
    rw [q2]
    trivial
section
variable {X : Cx} {C fI : Addr} {cn qn : Str}
theorem pmk {a : Expr} {ta : TA} {p pos : Pos} {k : Nat} (T : Txt X.K X.mg cn qn C fI) (hr : Room k X.A) (ha : PA X [a] ta) (hg : Gl X cn) (hdb : (cn == ("__debug__" : Str)) = false)
    (he : starEach (a :: []) X.env = (false, eval a X.env) :: starEach [] X.env) (hpl : (backTo pos (starEach [] X.env)).any (·.1) = false) :
    PMk X (.Call (.Name cn p) [a] [] pos) (tMkF C "error" ta) := by
  intro pins s σ H Q I h
  refine wpAny_Call_Name_kw (ld_glob I hg T.gC ?_ hdb)
  refine PySem.W.callWith_K (h₀ := X.base) I.ok.mod.kin T.kC (thn (ha.run pos pins s σ H _ I h) fun us s1 hh => ?_) he hpl
  obtain ⟨vs, H1, I1, r1, v, ev, q1⟩ := hh
  subst ev
  refine ⟨I1.kIn, ?_⟩
  cases r1 with
  | cons rv rn =>
    rename_i v' us'
    cases rn
    show wpAny _ _ (call (.ref C) [v']) _ _ _
    have hlim := I1.nolimit
    obtain ⟨hp, g, dr, tk, os⟩ := s1
    refine wpAny_call (made_ok T I1.kIn hlim (by have := hr.dp; omega) fun h' tk' e d M => ?_)
    show MkP X pins σ Q (.ref e) ⟨h', g, dr, tk', os⟩
    obtain ⟨oe, fv, hoe, hc, hd, hdat, h1⟩ := M.obj
    have hns := M.ns
    obtain ⟨G', g1, g2⟩ := restrict h' fun b => decide (b ≠ e)
    have gk : ∀ b, b ≠ e → G'.get? b = h'.get? b := fun b hb => g1 b (decide_eq_true hb)
    have ge : G'.get? e = none := g2 e (by simp)
    have old : ∀ b o, hp.get? b = some o → G'.get? b = some o := fun b o q => (gk b (Nat.ne_of_lt (Nat.lt_of_lt_of_le (Heap.lt_size q) M.new))).trans (M.keep b o q)
    have ob : ObjOk X.prog X.w (upd H1 d (.xd [(("error" : Str), v)])) G' d (.xd [(("error" : Str), v)]) :=
      ⟨_, hns.at (fun o q => (gk d M.dne).trans q), fun f => rel_one rv f⟩
    have J : Inv X pins σ (upd H1 d (.xd [(("error" : Str), v)])) ⟨G', g, dr, tk', os⟩ := I1.laid (t' := tk') old M.dbig ob
    refine ⟨e, oe, fv, ⟨G', g, dr, tk', os⟩, _, .ref C, some d, rfl, J, fun b o q => ?_, ge, hoe, ⟨hc, hd⟩, hdat, h1, ?_, rfl, I1.bare, raises_own T.exC T.tyC, q1 d (I1.hok.fresh M.dbig)⟩
    · by_cases hb : b = e
      · have q' : G'.get? b = some o := q
        rw [hb, ge] at q'; cases q'
      · exact (gk b hb).symm.trans q
    · rw [upd_ne (Ne.symm M.dne)]
      exact I1.hok.fresh M.new
end
end E_error

namespace E_key
open PySem.W PySem.Calls PySem.HandSPX
def argsI (p1 p2 : Pos) : Arguments := { posonlyargs := [], args := [{ arg := "self", annotation := none, pos := p1 }, { arg := "key", annotation := none, pos := p2 }], vararg := none, kwonlyargs := [], kw_defaults := [], kwarg := none, defaults := [] }
def bodyI (q1 q2 q3 q4 : Pos) : List Stmt := [.Assign [.Attribute (.Name "self" q1) "key" q2] (.Name "key" q3) q4]
def scopeI : Scope := { kind := .function, names := [(PySem.Str.ofString "self", .local), (PySem.Str.ofString "key", .local)], isGenerator := false, isCoroutine := false, more := [] }
structure Txt (K : Frag) (mg : Str → Option Value) (cn qn : Str) (C fI : Addr) : Prop where
  gC : mg cn = some (.ref C)
  cls : ∃ nm q N bs bm sn sub ab col dd k0 k1 k2 k3 k5, K.lookup C = some (excClassObj nm q C N bs bm true sn sub ab col dd k0 k1 k2 k3 k5 "ValueError.__new__") ∧ refsVE bm = true
  sa : findIn K (.ref C) "__setattr__" = some (some (.builtin "object.__setattr__"))
  ga : findIn K (.ref C) "__getattribute__" = some (some (.builtin "BaseException.__getattribute__"))
  gg : findIn K (.ref C) "__getattr__" = some none
  noN : findIn K (.ref C) "key" = some none
  iC : findIn K (.ref C) "__init__" = some (some (.ref fI))
  tC : typeIn K (.ref fI) = some (.type "function")
  kC : keepIn K (.ref C) = true
  exC : subIn K (.ref C) (.type "BaseException") = some true
  tyC : typeIn K (.ref C) = some (.type "type")
  hdC : hasDictIn K C = true
  fn : ∃ (oc : Value) (od : Option Addr) (doc pm : Value) (an : Option Addr) (cdv ct : Value) (osl : Array (Option Value)) (p1 p2 q1 q2 q3 q4 : Pos),
    K.lookup fI = some ⟨oc, od, .func (fnOf "__init__" qn (argsI p1 p2) (bodyI q1 q2 q3 q4) scopeI .none .none doc pm an cdv ct), osl⟩ ∧ codeIn K cdv qn = true
structure Left (h h' : Heap) (x C dx t1 : Addr) (v : Value) : Prop where
  keep : ∀ b o, b ≠ x → h.get? b = some o → h'.get? b = some o
  obj : h'.get? x = some { cls := .ref C, dict := some dx, data := .fields #[.ref t1, .none, .none, .none, .bool false, .none] }
  dbig : h.objs.size ≤ dx
  dne : dx ≠ x
  ns : h'.Ns1 dx (fun y => if y = "key" then some v else none)
structure Made (h h' : Heap) (e C d : Addr) (v : Value) : Prop where
  keep : ∀ b o, h.get? b = some o → h'.get? b = some o
  new : h.objs.size ≤ e
  obj : ∃ oe vs, h'.get? e = some oe ∧ oe.cls = .ref C ∧ oe.dict = some d ∧ oe.data = .fields vs ∧ vs[1]? = some .none
  dbig : h.objs.size ≤ d
  dne : d ≠ e
  ns : h'.Ns1 d (fun y => if y = "key" then some v else none)
section
variable {prog : Program} {w : World} {A : Around} {E : Value → Shared → Prop} {R : Result → Shared → Prop} {s : Shared} {K : Frag} {mg : Str → Option Value} {C fI : Addr} {cn qn : Str}
theorem init_ok (T : Txt K mg cn qn C fI) {x t0 : Addr} {v : Value} (X : K.In s.heap) (hlim : s.heap.NoLimit) (hx : s.heap.get? x = some (excO C t0)) (hroom : A.depth < recursionLimit)
    (hq : ∀ h' tk dx, Left s.heap h' x C dx t0 v → R (.ok (.ret .none)) { s with heap := h', toks := tk }) :
    codeAny (model prog w) A (.call (.ref fI) ⟨[.ref x, v], []⟩) R s := by
  obtain ⟨oc, od, doc, pm, an, cdv, ct, osl, p1, p2, q1, q2, q3, q4, ho, hcd⟩ := T.fn
  obtain ⟨nm, q, N, bs, bm, sn, sub, ab, col, dd, k0, k1, k2, k3, k5, hC, hbm⟩ := T.cls
  have hcl : clsIn K C = some { name := nm, bases := bs, mro := .ref C :: bm, ns := N, qualname := q, hasDict := true, slotNames := sn, subclasses := sub, abstract := ab, collection := col, hasDel := false } := by unfold clsIn; rw [hC] <;> rfl
  refine Att.call_fn (binds := [("self", .ref x), ("key", v)]) X hlim ho hcd hroom (BindsTo.of_eq (by first | rfl | with_unfolding_all rfl)) (by first | rfl | decide | with_unfolding_all rfl) (fun s₁ IC => ?_) rfl rfl rfl
  obtain ⟨h₁, tk₁, rfl⟩ := IC.toInCall.same
  have k : ∀ b o, s.heap.get? b = some o → h₁.get? b = some o := IC.toInCall.keep
  have hn := IC.toInCall.ns
  have X₁ : K.In h₁ := X.keeps k
  have hx₁ := k _ _ hx
  have ld : ∀ {name : Str} {scope : Scope} {L a : Addr} {cd : Value} {m : Str → Option Value} {y : Str} {pos : Pos} {u : Value} {Q : Value → Shared → Prop} {A' : Around} {E' : Value → Shared → Prop} {s' : Shared}, s'.heap.Ns L m → m y = some u → Q u s' → scope.kind = .function → (envOfC name scope L a cd).kindOf y = some .local → (y == ("__debug__" : Str)) = false →
      wpAny (model prog w) A' (eval (.Name y pos) (envOfC name scope L a cd)) Q E' s' := fun hn hv h hk hl hd => wpAny_Name (wpAny_loadName_local hk hl hn hv h) hd
  show wpAny _ _ (execs _ _) _ _ _
  refine wpAny_execs_cons (plainObj_wpAny_Assign_Attribute ?_)
  refine ld (u := v) hn (by first | rfl | with_unfolding_all rfl | kernel_rfl) (ld (u := .ref x) hn (by first | rfl | with_unfolding_all rfl | kernel_rfl) ?_ rfl rfl (by decide)) rfl rfl (by decide)
  refine set_plain X₁ (ox := excO C t0) (od := none) ⟨hx₁, rfl, rfl, trivial⟩ T.sa ?_
  refine exc_osa X₁ hx₁ hcl (show refsVE (.ref C :: bm) = true from hbm) rfl T.noN (fun h₃ tk₃ dx k₃ dn dne hx₃ hn₃ => ?_)
  show wpAny _ _ (execs _ _) _ _ _
  have z : s.heap.objs.size < h₁.objs.size := hn.lt
  exact wpAny_execs_nil (hq h₃ tk₃ dx ⟨fun b o hb e => k₃ b o hb (k b o e), hx₃, Nat.le_of_lt (Nat.lt_of_lt_of_le z dn), dne, hn₃⟩)
theorem made_ok (T : Txt K mg cn qn C fI) {v : Value} (X : K.In s.heap) (hlim : s.heap.NoLimit) (hroom : A.depth + 1 < recursionLimit)
    (hq : ∀ h' tk e d, Made s.heap h' e C d v → R (.ok (.ret (.ref e))) { s with heap := h', toks := tk }) :
    codeAny (model prog w) A (.call (.ref C) ⟨[v], []⟩) R s := by
  obtain ⟨nm, q, N, bs, bm, sn, sub, ab, col, dd, k0, k1, k2, k3, k5, hC, hbm⟩ := T.cls
  obtain ⟨hp, g, dr, tk, os⟩ := s
  have k : ∀ b o, hp.get? b = some o → ((hp.push (kdv_tup [v])).push (excO C hp.objs.size)).get? b = some o := fun b o e => Heap.get?_push_of_some _ (Heap.get?_push_of_some _ e)
  have hget : ((hp.push (kdv_tup [v])).push (excO C hp.objs.size)).get? (hp.objs.size + 1) = some (excO C hp.objs.size) := by heap_get
  refine call_own F.excBase_ValueError (fun X => refsVE_contains X bm hbm) (X _ _ hC) (looks_findIn X T.iC) (fun self => bind_fn X self T.tC) (by rw [sizeLine_eq]; exact (by decide : 1 ≤ 16777216)) ?_
  refine init_ok (s := ⟨(hp.push (kdv_tup [v])).push (excO C hp.objs.size), g, dr, tk, os⟩) T (X.keeps k) (hlim.keeps k) hget ?_ fun h' tk' dx ⟨k', hx, dn, dne, hns⟩ => ?_
  · show A.depth + 1 < recursionLimit
    exact hroom
  · have old : ∀ b o, hp.get? b = some o → h'.get? b = some o := fun b o e => k' b o (Nat.ne_of_lt (Nat.lt_succ_of_lt (Heap.lt_size e))) (k b o e)
    have z : hp.objs.size + 1 + 1 ≤ dx := by
      first
        | (simpa only [Heap.size_push] using dn)
        | exact dn
        | (have q := dn; rw [Heap.size_push, Heap.size_push] at q; exact q)
    exact ⟨rfl, hq h' tk' (hp.objs.size + 1) dx ⟨old, Nat.le_succ _, ⟨_, _, hx, rfl, rfl, rfl, rfl⟩, Nat.le_trans (Nat.le_trans (Nat.le_succ _) (Nat.le_succ _)) z, dne, hns⟩⟩
end
theorem rel_one {v : V} {v' : Value} (r : RelV v v') (f : Str) : RelO (List.lookup f [(("key" : Str), v)]) (if f = "key" then some v' else none) := by
  by_cases hw : f = "key"
  · subst hw
    rw [if_pos rfl]
    have q : List.lookup ("key" : Str) [(("key" : Str), v)] = some v := by simp [List.lookup]
    rw [q]
    exact r
  · rw [if_neg hw]
    have qw : (f == ("key" : Str)) = false := by simpa using hw
    have q2 : List.lookup f [(("key" : Str), v)] = none := by simp [List.lookup, qw]
    rw [q2]
    trivial
section
variable {X : Cx} {C fI : Addr} {cn qn : Str}
theorem pmk {a : Expr} {ta : TA} {p pos : Pos} {k : Nat} (T : Txt X.K X.mg cn qn C fI) (hr : Room k X.A) (ha : PA X [a] ta) (hg : Gl X cn) (hdb : (cn == ("__debug__" : Str)) = false)
    (he : starEach (a :: []) X.env = (false, eval a X.env) :: starEach [] X.env) (hpl : (backTo pos (starEach [] X.env)).any (·.1) = false) :
    PMk X (.Call (.Name cn p) [a] [] pos) (tMkF C "key" ta) := by
  intro pins s σ H Q I h
  refine wpAny_Call_Name_kw (ld_glob I hg T.gC ?_ hdb)
  refine PySem.W.callWith_K (h₀ := X.base) I.ok.mod.kin T.kC (thn (ha.run pos pins s σ H _ I h) fun us s1 hh => ?_) he hpl
  obtain ⟨vs, H1, I1, r1, v, ev, q1⟩ := hh
  subst ev
  refine ⟨I1.kIn, ?_⟩
  cases r1 with
  | cons rv rn =>
    rename_i v' us'
    cases rn
    show wpAny _ _ (call (.ref C) [v']) _ _ _
    have hlim := I1.nolimit
    obtain ⟨hp, g, dr, tk, os⟩ := s1
    refine wpAny_call (made_ok T I1.kIn hlim (by have := hr.dp; omega) fun h' tk' e d M => ?_)
    show MkP X pins σ Q (.ref e) ⟨h', g, dr, tk', os⟩
    obtain ⟨oe, fv, hoe, hc, hd, hdat, h1⟩ := M.obj
    have hns := M.ns
    obtain ⟨G', g1, g2⟩ := restrict h' fun b => decide (b ≠ e)
    have gk : ∀ b, b ≠ e → G'.get? b = h'.get? b := fun b hb => g1 b (decide_eq_true hb)
    have ge : G'.get? e = none := g2 e (by simp)
    have old : ∀ b o, hp.get? b = some o → G'.get? b = some o := fun b o q => (gk b (Nat.ne_of_lt (Nat.lt_of_lt_of_le (Heap.lt_size q) M.new))).trans (M.keep b o q)
    have ob : ObjOk X.prog X.w (upd H1 d (.xd [(("key" : Str), v)])) G' d (.xd [(("key" : Str), v)]) :=
      ⟨_, hns.at (fun o q => (gk d M.dne).trans q), fun f => rel_one rv f⟩
    have J : Inv X pins σ (upd H1 d (.xd [(("key" : Str), v)])) ⟨G', g, dr, tk', os⟩ := I1.laid (t' := tk') old M.dbig ob
    refine ⟨e, oe, fv, ⟨G', g, dr, tk', os⟩, _, .ref C, some d, rfl, J, fun b o q => ?_, ge, hoe, ⟨hc, hd⟩, hdat, h1, ?_, rfl, I1.bare, raises_own T.exC T.tyC, q1 d (I1.hok.fresh M.dbig)⟩
    · by_cases hb : b = e
      · have q' : G'.get? b = some o := q
        rw [hb, ge] at q'; cases q'
      · exact (gk b hb).symm.trans q
    · rw [upd_ne (Ne.symm M.dne)]
      exact I1.hok.fresh M.new
end
end E_key

namespace E_value
open PySem.W PySem.Calls PySem.HandSPX
def argsI (p1 p2 : Pos) : Arguments := { posonlyargs := [], args := [{ arg := "self", annotation := none, pos := p1 }, { arg := "value", annotation := none, pos := p2 }], vararg := none, kwonlyargs := [], kw_defaults := [], kwarg := none, defaults := [] }
def bodyI (q1 q2 q3 q4 : Pos) : List Stmt := [.Assign [.Attribute (.Name "self" q1) "value" q2] (.Name "value" q3) q4]
def scopeI : Scope := { kind := .function, names := [(PySem.Str.ofString "self", .local), (PySem.Str.ofString "value", .local)], isGenerator := false, isCoroutine := false, more := [] }
structure Txt (K : Frag) (mg : Str → Option Value) (cn qn : Str) (C fI : Addr) : Prop where
  gC : mg cn = some (.ref C)
  cls : ∃ nm q N bs bm sn sub ab col dd k0 k1 k2 k3 k5, K.lookup C = some (excClassObj nm q C N bs bm true sn sub ab col dd k0 k1 k2 k3 k5 "ValueError.__new__") ∧ refsVE bm = true
  sa : findIn K (.ref C) "__setattr__" = some (some (.builtin "object.__setattr__"))
  ga : findIn K (.ref C) "__getattribute__" = some (some (.builtin "BaseException.__getattribute__"))
  gg : findIn K (.ref C) "__getattr__" = some none
  noN : findIn K (.ref C) "value" = some none
  iC : findIn K (.ref C) "__init__" = some (some (.ref fI))
  tC : typeIn K (.ref fI) = some (.type "function")
  kC : keepIn K (.ref C) = true
  exC : subIn K (.ref C) (.type "BaseException") = some true
  tyC : typeIn K (.ref C) = some (.type "type")
  hdC : hasDictIn K C = true
  fn : ∃ (oc : Value) (od : Option Addr) (doc pm : Value) (an : Option Addr) (cdv ct : Value) (osl : Array (Option Value)) (p1 p2 q1 q2 q3 q4 : Pos),
    K.lookup fI = some ⟨oc, od, .func (fnOf "__init__" qn (argsI p1 p2) (bodyI q1 q2 q3 q4) scopeI .none .none doc pm an cdv ct), osl⟩ ∧ codeIn K cdv qn = true
structure Left (h h' : Heap) (x C dx t1 : Addr) (v : Value) : Prop where
  keep : ∀ b o, b ≠ x → h.get? b = some o → h'.get? b = some o
  obj : h'.get? x = some { cls := .ref C, dict := some dx, data := .fields #[.ref t1, .none, .none, .none, .bool false, .none] }
  dbig : h.objs.size ≤ dx
  dne : dx ≠ x
  ns : h'.Ns1 dx (fun y => if y = "value" then some v else none)
structure Made (h h' : Heap) (e C d : Addr) (v : Value) : Prop where
  keep : ∀ b o, h.get? b = some o → h'.get? b = some o
  new : h.objs.size ≤ e
  obj : ∃ oe vs, h'.get? e = some oe ∧ oe.cls = .ref C ∧ oe.dict = some d ∧ oe.data = .fields vs ∧ vs[1]? = some .none
  dbig : h.objs.size ≤ d
  dne : d ≠ e
  ns : h'.Ns1 d (fun y => if y = "value" then some v else none)
section
variable {prog : Program} {w : World} {A : Around} {E : Value → Shared → Prop} {R : Result → Shared → Prop} {s : Shared} {K : Frag} {mg : Str → Option Value} {C fI : Addr} {cn qn : Str}
theorem init_ok (T : Txt K mg cn qn C fI) {x t0 : Addr} {v : Value} (X : K.In s.heap) (hlim : s.heap.NoLimit) (hx : s.heap.get? x = some (excO C t0)) (hroom : A.depth < recursionLimit)
    (hq : ∀ h' tk dx, Left s.heap h' x C dx t0 v → R (.ok (.ret .none)) { s with heap := h', toks := tk }) :
    codeAny (model prog w) A (.call (.ref fI) ⟨[.ref x, v], []⟩) R s := by
  obtain ⟨oc, od, doc, pm, an, cdv, ct, osl, p1, p2, q1, q2, q3, q4, ho, hcd⟩ := T.fn
  obtain ⟨nm, q, N, bs, bm, sn, sub, ab, col, dd, k0, k1, k2, k3, k5, hC, hbm⟩ := T.cls
  have hcl : clsIn K C = some { name := nm, bases := bs, mro := .ref C :: bm, ns := N, qualname := q, hasDict := true, slotNames := sn, subclasses := sub, abstract := ab, collection := col, hasDel := false } := by unfold clsIn; rw [hC] <;> rfl
  refine Att.call_fn (binds := [("self", .ref x), ("value", v)]) X hlim ho hcd hroom (BindsTo.of_eq (by first | rfl | with_unfolding_all rfl)) (by first | rfl | decide | with_unfolding_all rfl) (fun s₁ IC => ?_) rfl rfl rfl
  obtain ⟨h₁, tk₁, rfl⟩ := IC.toInCall.same
  have k : ∀ b o, s.heap.get? b = some o → h₁.get? b = some o := IC.toInCall.keep
  have hn := IC.toInCall.ns
  have X₁ : K.In h₁ := X.keeps k
  have hx₁ := k _ _ hx
  have ld : ∀ {name : Str} {scope : Scope} {L a : Addr} {cd : Value} {m : Str → Option Value} {y : Str} {pos : Pos} {u : Value} {Q : Value → Shared → Prop} {A' : Around} {E' : Value → Shared → Prop} {s' : Shared}, s'.heap.Ns L m → m y = some u → Q u s' → scope.kind = .function → (envOfC name scope L a cd).kindOf y = some .local → (y == ("__debug__" : Str)) = false →
      wpAny (model prog w) A' (eval (.Name y pos) (envOfC name scope L a cd)) Q E' s' := fun hn hv h hk hl hd => wpAny_Name (wpAny_loadName_local hk hl hn hv h) hd
  show wpAny _ _ (execs _ _) _ _ _
  refine wpAny_execs_cons (plainObj_wpAny_Assign_Attribute ?_)
  refine ld (u := v) hn (by first | rfl | with_unfolding_all rfl | kernel_rfl) (ld (u := .ref x) hn (by first | rfl | with_unfolding_all rfl | kernel_rfl) ?_ rfl rfl (by decide)) rfl rfl (by decide)
  refine set_plain X₁ (ox := excO C t0) (od := none) ⟨hx₁, rfl, rfl, trivial⟩ T.sa ?_
  refine exc_osa X₁ hx₁ hcl (show refsVE (.ref C :: bm) = true from hbm) rfl T.noN (fun h₃ tk₃ dx k₃ dn dne hx₃ hn₃ => ?_)
  show wpAny _ _ (execs _ _) _ _ _
  have z : s.heap.objs.size < h₁.objs.size := hn.lt
  exact wpAny_execs_nil (hq h₃ tk₃ dx ⟨fun b o hb e => k₃ b o hb (k b o e), hx₃, Nat.le_of_lt (Nat.lt_of_lt_of_le z dn), dne, hn₃⟩)
theorem made_ok (T : Txt K mg cn qn C fI) {v : Value} (X : K.In s.heap) (hlim : s.heap.NoLimit) (hroom : A.depth + 1 < recursionLimit)
    (hq : ∀ h' tk e d, Made s.heap h' e C d v → R (.ok (.ret (.ref e))) { s with heap := h', toks := tk }) :
    codeAny (model prog w) A (.call (.ref C) ⟨[v], []⟩) R s := by
  obtain ⟨nm, q, N, bs, bm, sn, sub, ab, col, dd, k0, k1, k2, k3, k5, hC, hbm⟩ := T.cls
  obtain ⟨hp, g, dr, tk, os⟩ := s
  have k : ∀ b o, hp.get? b = some o → ((hp.push (kdv_tup [v])).push (excO C hp.objs.size)).get? b = some o := fun b o e => Heap.get?_push_of_some _ (Heap.get?_push_of_some _ e)
  have hget : ((hp.push (kdv_tup [v])).push (excO C hp.objs.size)).get? (hp.objs.size + 1) = some (excO C hp.objs.size) := by heap_get
  refine call_own F.excBase_ValueError (fun X => refsVE_contains X bm hbm) (X _ _ hC) (looks_findIn X T.iC) (fun self => bind_fn X self T.tC) (by rw [sizeLine_eq]; exact (by decide : 1 ≤ 16777216)) ?_
  refine init_ok (s := ⟨(hp.push (kdv_tup [v])).push (excO C hp.objs.size), g, dr, tk, os⟩) T (X.keeps k) (hlim.keeps k) hget ?_ fun h' tk' dx ⟨k', hx, dn, dne, hns⟩ => ?_
  · show A.depth + 1 < recursionLimit
    exact hroom
  · have old : ∀ b o, hp.get? b = some o → h'.get? b = some o := fun b o e => k' b o (Nat.ne_of_lt (Nat.lt_succ_of_lt (Heap.lt_size e))) (k b o e)
    have z : hp.objs.size + 1 + 1 ≤ dx := by
      first
        | (simpa only [Heap.size_push] using dn)
        | exact dn
        | (have q := dn; rw [Heap.size_push, Heap.size_push] at q; exact q)
    exact ⟨rfl, hq h' tk' (hp.objs.size + 1) dx ⟨old, Nat.le_succ _, ⟨_, _, hx, rfl, rfl, rfl, rfl⟩, Nat.le_trans (Nat.le_trans (Nat.le_succ _) (Nat.le_succ _)) z, dne, hns⟩⟩
end
theorem rel_one {v : V} {v' : Value} (r : RelV v v') (f : Str) : RelO (List.lookup f [(("value" : Str), v)]) (if f = "value" then some v' else none) := by
  by_cases hw : f = "value"
  · subst hw
    rw [if_pos rfl]
    have q : List.lookup ("value" : Str) [(("value" : Str), v)] = some v := by simp [List.lookup]
    rw [q]
    exact r
  · rw [if_neg hw]
    have qw : (f == ("value" : Str)) = false := by simpa using hw
    have q2 : List.lookup f [(("value" : Str), v)] = none := by simp [List.lookup, qw]
    rw [q2]
    trivial
section
variable {X : Cx} {C fI : Addr} {cn qn : Str}
theorem pmk {a : Expr} {ta : TA} {p pos : Pos} {k : Nat} (T : Txt X.K X.mg cn qn C fI) (hr : Room k X.A) (ha : PA X [a] ta) (hg : Gl X cn) (hdb : (cn == ("__debug__" : Str)) = false)
    (he : starEach (a :: []) X.env = (false, eval a X.env) :: starEach [] X.env) (hpl : (backTo pos (starEach [] X.env)).any (·.1) = false) :
    PMk X (.Call (.Name cn p) [a] [] pos) (tMkF C "value" ta) := by
  intro pins s σ H Q I h
  refine wpAny_Call_Name_kw (ld_glob I hg T.gC ?_ hdb)
  refine PySem.W.callWith_K (h₀ := X.base) I.ok.mod.kin T.kC (thn (ha.run pos pins s σ H _ I h) fun us s1 hh => ?_) he hpl
  obtain ⟨vs, H1, I1, r1, v, ev, q1⟩ := hh
  subst ev
  refine ⟨I1.kIn, ?_⟩
  cases r1 with
  | cons rv rn =>
    rename_i v' us'
    cases rn
    show wpAny _ _ (call (.ref C) [v']) _ _ _
    have hlim := I1.nolimit
    obtain ⟨hp, g, dr, tk, os⟩ := s1
    refine wpAny_call (made_ok T I1.kIn hlim (by have := hr.dp; omega) fun h' tk' e d M => ?_)
    show MkP X pins σ Q (.ref e) ⟨h', g, dr, tk', os⟩
    obtain ⟨oe, fv, hoe, hc, hd, hdat, h1⟩ := M.obj
    have hns := M.ns
    obtain ⟨G', g1, g2⟩ := restrict h' fun b => decide (b ≠ e)
    have gk : ∀ b, b ≠ e → G'.get? b = h'.get? b := fun b hb => g1 b (decide_eq_true hb)
    have ge : G'.get? e = none := g2 e (by simp)
    have old : ∀ b o, hp.get? b = some o → G'.get? b = some o := fun b o q => (gk b (Nat.ne_of_lt (Nat.lt_of_lt_of_le (Heap.lt_size q) M.new))).trans (M.keep b o q)
    have ob : ObjOk X.prog X.w (upd H1 d (.xd [(("value" : Str), v)])) G' d (.xd [(("value" : Str), v)]) :=
      ⟨_, hns.at (fun o q => (gk d M.dne).trans q), fun f => rel_one rv f⟩
    have J : Inv X pins σ (upd H1 d (.xd [(("value" : Str), v)])) ⟨G', g, dr, tk', os⟩ := I1.laid (t' := tk') old M.dbig ob
    refine ⟨e, oe, fv, ⟨G', g, dr, tk', os⟩, _, .ref C, some d, rfl, J, fun b o q => ?_, ge, hoe, ⟨hc, hd⟩, hdat, h1, ?_, rfl, I1.bare, raises_own T.exC T.tyC, q1 d (I1.hok.fresh M.dbig)⟩
    · by_cases hb : b = e
      · have q' : G'.get? b = some o := q
        rw [hb, ge] at q'; cases q'
      · exact (gk b hb).symm.trans q
    · rw [upd_ne (Ne.symm M.dne)]
      exact I1.hok.fresh M.new
end
end E_value

namespace E_version
open PySem.W PySem.Calls PySem.HandSPX
def argsI (p1 p2 : Pos) : Arguments := { posonlyargs := [], args := [{ arg := "self", annotation := none, pos := p1 }, { arg := "version", annotation := none, pos := p2 }], vararg := none, kwonlyargs := [], kw_defaults := [], kwarg := none, defaults := [] }
def bodyI (q1 q2 q3 q4 : Pos) : List Stmt := [.Assign [.Attribute (.Name "self" q1) "version" q2] (.Name "version" q3) q4]
def scopeI : Scope := { kind := .function, names := [(PySem.Str.ofString "self", .local), (PySem.Str.ofString "version", .local)], isGenerator := false, isCoroutine := false, more := [] }
structure Txt (K : Frag) (mg : Str → Option Value) (cn qn : Str) (C fI : Addr) : Prop where
  gC : mg cn = some (.ref C)
  cls : ∃ nm q N bs bm sn sub ab col dd k0 k1 k2 k3 k5, K.lookup C = some (excClassObj nm q C N bs bm true sn sub ab col dd k0 k1 k2 k3 k5 "ValueError.__new__") ∧ refsVE bm = true
  sa : findIn K (.ref C) "__setattr__" = some (some (.builtin "object.__setattr__"))
  ga : findIn K (.ref C) "__getattribute__" = some (some (.builtin "BaseException.__getattribute__"))
  gg : findIn K (.ref C) "__getattr__" = some none
  noN : findIn K (.ref C) "version" = some none
  iC : findIn K (.ref C) "__init__" = some (some (.ref fI))
  tC : typeIn K (.ref fI) = some (.type "function")
  kC : keepIn K (.ref C) = true
  exC : subIn K (.ref C) (.type "BaseException") = some true
  tyC : typeIn K (.ref C) = some (.type "type")
  hdC : hasDictIn K C = true
  fn : ∃ (oc : Value) (od : Option Addr) (doc pm : Value) (an : Option Addr) (cdv ct : Value) (osl : Array (Option Value)) (p1 p2 q1 q2 q3 q4 : Pos),
    K.lookup fI = some ⟨oc, od, .func (fnOf "__init__" qn (argsI p1 p2) (bodyI q1 q2 q3 q4) scopeI .none .none doc pm an cdv ct), osl⟩ ∧ codeIn K cdv qn = true
structure Left (h h' : Heap) (x C dx t1 : Addr) (v : Value) : Prop where
  keep : ∀ b o, b ≠ x → h.get? b = some o → h'.get? b = some o
  obj : h'.get? x = some { cls := .ref C, dict := some dx, data := .fields #[.ref t1, .none, .none, .none, .bool false, .none] }
  dbig : h.objs.size ≤ dx
  dne : dx ≠ x
  ns : h'.Ns1 dx (fun y => if y = "version" then some v else none)
structure Made (h h' : Heap) (e C d : Addr) (v : Value) : Prop where
  keep : ∀ b o, h.get? b = some o → h'.get? b = some o
  new : h.objs.size ≤ e
  obj : ∃ oe vs, h'.get? e = some oe ∧ oe.cls = .ref C ∧ oe.dict = some d ∧ oe.data = .fields vs ∧ vs[1]? = some .none
  dbig : h.objs.size ≤ d
  dne : d ≠ e
  ns : h'.Ns1 d (fun y => if y = "version" then some v else none)
section
variable {prog : Program} {w : World} {A : Around} {E : Value → Shared → Prop} {R : Result → Shared → Prop} {s : Shared} {K : Frag} {mg : Str → Option Value} {C fI : Addr} {cn qn : Str}
theorem init_ok (T : Txt K mg cn qn C fI) {x t0 : Addr} {v : Value} (X : K.In s.heap) (hlim : s.heap.NoLimit) (hx : s.heap.get? x = some (excO C t0)) (hroom : A.depth < recursionLimit)
    (hq : ∀ h' tk dx, Left s.heap h' x C dx t0 v → R (.ok (.ret .none)) { s with heap := h', toks := tk }) :
    codeAny (model prog w) A (.call (.ref fI) ⟨[.ref x, v], []⟩) R s := by
  obtain ⟨oc, od, doc, pm, an, cdv, ct, osl, p1, p2, q1, q2, q3, q4, ho, hcd⟩ := T.fn
  obtain ⟨nm, q, N, bs, bm, sn, sub, ab, col, dd, k0, k1, k2, k3, k5, hC, hbm⟩ := T.cls
  have hcl : clsIn K C = some { name := nm, bases := bs, mro := .ref C :: bm, ns := N, qualname := q, hasDict := true, slotNames := sn, subclasses := sub, abstract := ab, collection := col, hasDel := false } := by unfold clsIn; rw [hC] <;> rfl
  refine Att.call_fn (binds := [("self", .ref x), ("version", v)]) X hlim ho hcd hroom (BindsTo.of_eq (by first | rfl | with_unfolding_all rfl)) (by first | rfl | decide | with_unfolding_all rfl) (fun s₁ IC => ?_) rfl rfl rfl
  obtain ⟨h₁, tk₁, rfl⟩ := IC.toInCall.same
  have k : ∀ b o, s.heap.get? b = some o → h₁.get? b = some o := IC.toInCall.keep
  have hn := IC.toInCall.ns
  have X₁ : K.In h₁ := X.keeps k
  have hx₁ := k _ _ hx
  have ld : ∀ {name : Str} {scope : Scope} {L a : Addr} {cd : Value} {m : Str → Option Value} {y : Str} {pos : Pos} {u : Value} {Q : Value → Shared → Prop} {A' : Around} {E' : Value → Shared → Prop} {s' : Shared}, s'.heap.Ns L m → m y = some u → Q u s' → scope.kind = .function → (envOfC name scope L a cd).kindOf y = some .local → (y == ("__debug__" : Str)) = false →
      wpAny (model prog w) A' (eval (.Name y pos) (envOfC name scope L a cd)) Q E' s' := fun hn hv h hk hl hd => wpAny_Name (wpAny_loadName_local hk hl hn hv h) hd
  show wpAny _ _ (execs _ _) _ _ _
  refine wpAny_execs_cons (plainObj_wpAny_Assign_Attribute ?_)
  refine ld (u := v) hn (by first | rfl | with_unfolding_all rfl | kernel_rfl) (ld (u := .ref x) hn (by first | rfl | with_unfolding_all rfl | kernel_rfl) ?_ rfl rfl (by decide)) rfl rfl (by decide)
  refine set_plain X₁ (ox := excO C t0) (od := none) ⟨hx₁, rfl, rfl, trivial⟩ T.sa ?_
  refine exc_osa X₁ hx₁ hcl (show refsVE (.ref C :: bm) = true from hbm) rfl T.noN (fun h₃ tk₃ dx k₃ dn dne hx₃ hn₃ => ?_)
  show wpAny _ _ (execs _ _) _ _ _
  have z : s.heap.objs.size < h₁.objs.size := hn.lt
  exact wpAny_execs_nil (hq h₃ tk₃ dx ⟨fun b o hb e => k₃ b o hb (k b o e), hx₃, Nat.le_of_lt (Nat.lt_of_lt_of_le z dn), dne, hn₃⟩)
theorem made_ok (T : Txt K mg cn qn C fI) {v : Value} (X : K.In s.heap) (hlim : s.heap.NoLimit) (hroom : A.depth + 1 < recursionLimit)
    (hq : ∀ h' tk e d, Made s.heap h' e C d v → R (.ok (.ret (.ref e))) { s with heap := h', toks := tk }) :
    codeAny (model prog w) A (.call (.ref C) ⟨[v], []⟩) R s := by
  obtain ⟨nm, q, N, bs, bm, sn, sub, ab, col, dd, k0, k1, k2, k3, k5, hC, hbm⟩ := T.cls
  obtain ⟨hp, g, dr, tk, os⟩ := s
  have k : ∀ b o, hp.get? b = some o → ((hp.push (kdv_tup [v])).push (excO C hp.objs.size)).get? b = some o := fun b o e => Heap.get?_push_of_some _ (Heap.get?_push_of_some _ e)
  have hget : ((hp.push (kdv_tup [v])).push (excO C hp.objs.size)).get? (hp.objs.size + 1) = some (excO C hp.objs.size) := by heap_get
  refine call_own F.excBase_ValueError (fun X => refsVE_contains X bm hbm) (X _ _ hC) (looks_findIn X T.iC) (fun self => bind_fn X self T.tC) (by rw [sizeLine_eq]; exact (by decide : 1 ≤ 16777216)) ?_
  refine init_ok (s := ⟨(hp.push (kdv_tup [v])).push (excO C hp.objs.size), g, dr, tk, os⟩) T (X.keeps k) (hlim.keeps k) hget ?_ fun h' tk' dx ⟨k', hx, dn, dne, hns⟩ => ?_
  · show A.depth + 1 < recursionLimit
    exact hroom
  · have old : ∀ b o, hp.get? b = some o → h'.get? b = some o := fun b o e => k' b o (Nat.ne_of_lt (Nat.lt_succ_of_lt (Heap.lt_size e))) (k b o e)
    have z : hp.objs.size + 1 + 1 ≤ dx := by
      first
        | (simpa only [Heap.size_push] using dn)
        | exact dn
        | (have q := dn; rw [Heap.size_push, Heap.size_push] at q; exact q)
    exact ⟨rfl, hq h' tk' (hp.objs.size + 1) dx ⟨old, Nat.le_succ _, ⟨_, _, hx, rfl, rfl, rfl, rfl⟩, Nat.le_trans (Nat.le_trans (Nat.le_succ _) (Nat.le_succ _)) z, dne, hns⟩⟩
end
theorem rel_one {v : V} {v' : Value} (r : RelV v v') (f : Str) : RelO (List.lookup f [(("version" : Str), v)]) (if f = "version" then some v' else none) := by
  by_cases hw : f = "version"
  · subst hw
    rw [if_pos rfl]
    have q : List.lookup ("version" : Str) [(("version" : Str), v)] = some v := by simp [List.lookup]
    rw [q]
    exact r
  · rw [if_neg hw]
    have qw : (f == ("version" : Str)) = false := by simpa using hw
    have q2 : List.lookup f [(("version" : Str), v)] = none := by simp [List.lookup, qw]
    rw [q2]
    trivial
section
variable {X : Cx} {C fI : Addr} {cn qn : Str}
theorem pmk {a : Expr} {ta : TA} {p pos : Pos} {k : Nat} (T : Txt X.K X.mg cn qn C fI) (hr : Room k X.A) (ha : PA X [a] ta) (hg : Gl X cn) (hdb : (cn == ("__debug__" : Str)) = false)
    (he : starEach (a :: []) X.env = (false, eval a X.env) :: starEach [] X.env) (hpl : (backTo pos (starEach [] X.env)).any (·.1) = false) :
    PMk X (.Call (.Name cn p) [a] [] pos) (tMkF C "version" ta) := by
  intro pins s σ H Q I h
  refine wpAny_Call_Name_kw (ld_glob I hg T.gC ?_ hdb)
  refine PySem.W.callWith_K (h₀ := X.base) I.ok.mod.kin T.kC (thn (ha.run pos pins s σ H _ I h) fun us s1 hh => ?_) he hpl
  obtain ⟨vs, H1, I1, r1, v, ev, q1⟩ := hh
  subst ev
  refine ⟨I1.kIn, ?_⟩
  cases r1 with
  | cons rv rn =>
    rename_i v' us'
    cases rn
    show wpAny _ _ (call (.ref C) [v']) _ _ _
    have hlim := I1.nolimit
    obtain ⟨hp, g, dr, tk, os⟩ := s1
    refine wpAny_call (made_ok T I1.kIn hlim (by have := hr.dp; omega) fun h' tk' e d M => ?_)
    show MkP X pins σ Q (.ref e) ⟨h', g, dr, tk', os⟩
    obtain ⟨oe, fv, hoe, hc, hd, hdat, h1⟩ := M.obj
    have hns := M.ns
    obtain ⟨G', g1, g2⟩ := restrict h' fun b => decide (b ≠ e)
    have gk : ∀ b, b ≠ e → G'.get? b = h'.get? b := fun b hb => g1 b (decide_eq_true hb)
    have ge : G'.get? e = none := g2 e (by simp)
    have old : ∀ b o, hp.get? b = some o → G'.get? b = some o := fun b o q => (gk b (Nat.ne_of_lt (Nat.lt_of_lt_of_le (Heap.lt_size q) M.new))).trans (M.keep b o q)
    have ob : ObjOk X.prog X.w (upd H1 d (.xd [(("version" : Str), v)])) G' d (.xd [(("version" : Str), v)]) :=
      ⟨_, hns.at (fun o q => (gk d M.dne).trans q), fun f => rel_one rv f⟩
    have J : Inv X pins σ (upd H1 d (.xd [(("version" : Str), v)])) ⟨G', g, dr, tk', os⟩ := I1.laid (t' := tk') old M.dbig ob
    refine ⟨e, oe, fv, ⟨G', g, dr, tk', os⟩, _, .ref C, some d, rfl, J, fun b o q => ?_, ge, hoe, ⟨hc, hd⟩, hdat, h1, ?_, rfl, I1.bare, raises_own T.exC T.tyC, q1 d (I1.hok.fresh M.dbig)⟩
    · by_cases hb : b = e
      · have q' : G'.get? b = some o := q
        rw [hb, ge] at q'; cases q'
      · exact (gk b hb).symm.trans q
    · rw [upd_ne (Ne.symm M.dne)]
      exact I1.hok.fresh M.new
end
end E_version

namespace E_width
open PySem.W PySem.Calls PySem.HandSPX
def argsI (p1 p2 : Pos) : Arguments := { posonlyargs := [], args := [{ arg := "self", annotation := none, pos := p1 }, { arg := "width", annotation := none, pos := p2 }], vararg := none, kwonlyargs := [], kw_defaults := [], kwarg := none, defaults := [] }
def bodyI (q1 q2 q3 q4 : Pos) : List Stmt := [.Assign [.Attribute (.Name "self" q1) "width" q2] (.Name "width" q3) q4]
def scopeI : Scope := { kind := .function, names := [(PySem.Str.ofString "self", .local), (PySem.Str.ofString "width", .local)], isGenerator := false, isCoroutine := false, more := [] }
structure Txt (K : Frag) (mg : Str → Option Value) (cn qn : Str) (C fI : Addr) : Prop where
  gC : mg cn = some (.ref C)
  cls : ∃ nm q N bs bm sn sub ab col dd k0 k1 k2 k3 k5, K.lookup C = some (excClassObj nm q C N bs bm true sn sub ab col dd k0 k1 k2 k3 k5 "ValueError.__new__") ∧ refsVE bm = true
  sa : findIn K (.ref C) "__setattr__" = some (some (.builtin "object.__setattr__"))
  ga : findIn K (.ref C) "__getattribute__" = some (some (.builtin "BaseException.__getattribute__"))
  gg : findIn K (.ref C) "__getattr__" = some none
  noN : findIn K (.ref C) "width" = some none
  iC : findIn K (.ref C) "__init__" = some (some (.ref fI))
  tC : typeIn K (.ref fI) = some (.type "function")
  kC : keepIn K (.ref C) = true
  exC : subIn K (.ref C) (.type "BaseException") = some true
  tyC : typeIn K (.ref C) = some (.type "type")
  hdC : hasDictIn K C = true
  fn : ∃ (oc : Value) (od : Option Addr) (doc pm : Value) (an : Option Addr) (cdv ct : Value) (osl : Array (Option Value)) (p1 p2 q1 q2 q3 q4 : Pos),
    K.lookup fI = some ⟨oc, od, .func (fnOf "__init__" qn (argsI p1 p2) (bodyI q1 q2 q3 q4) scopeI .none .none doc pm an cdv ct), osl⟩ ∧ codeIn K cdv qn = true
structure Left (h h' : Heap) (x C dx t1 : Addr) (v : Value) : Prop where
  keep : ∀ b o, b ≠ x → h.get? b = some o → h'.get? b = some o
  obj : h'.get? x = some { cls := .ref C, dict := some dx, data := .fields #[.ref t1, .none, .none, .none, .bool false, .none] }
  dbig : h.objs.size ≤ dx
  dne : dx ≠ x
  ns : h'.Ns1 dx (fun y => if y = "width" then some v else none)
structure Made (h h' : Heap) (e C d : Addr) (v : Value) : Prop where
  keep : ∀ b o, h.get? b = some o → h'.get? b = some o
  new : h.objs.size ≤ e
  obj : ∃ oe vs, h'.get? e = some oe ∧ oe.cls = .ref C ∧ oe.dict = some d ∧ oe.data = .fields vs ∧ vs[1]? = some .none
  dbig : h.objs.size ≤ d
  dne : d ≠ e
  ns : h'.Ns1 d (fun y => if y = "width" then some v else none)
section
variable {prog : Program} {w : World} {A : Around} {E : Value → Shared → Prop} {R : Result → Shared → Prop} {s : Shared} {K : Frag} {mg : Str → Option Value} {C fI : Addr} {cn qn : Str}
theorem init_ok (T : Txt K mg cn qn C fI) {x t0 : Addr} {v : Value} (X : K.In s.heap) (hlim : s.heap.NoLimit) (hx : s.heap.get? x = some (excO C t0)) (hroom : A.depth < recursionLimit)
    (hq : ∀ h' tk dx, Left s.heap h' x C dx t0 v → R (.ok (.ret .none)) { s with heap := h', toks := tk }) :
    codeAny (model prog w) A (.call (.ref fI) ⟨[.ref x, v], []⟩) R s := by
  obtain ⟨oc, od, doc, pm, an, cdv, ct, osl, p1, p2, q1, q2, q3, q4, ho, hcd⟩ := T.fn
  obtain ⟨nm, q, N, bs, bm, sn, sub, ab, col, dd, k0, k1, k2, k3, k5, hC, hbm⟩ := T.cls
  have hcl : clsIn K C = some { name := nm, bases := bs, mro := .ref C :: bm, ns := N, qualname := q, hasDict := true, slotNames := sn, subclasses := sub, abstract := ab, collection := col, hasDel := false } := by unfold clsIn; rw [hC] <;> rfl
  refine Att.call_fn (binds := [("self", .ref x), ("width", v)]) X hlim ho hcd hroom (BindsTo.of_eq (by first | rfl | with_unfolding_all rfl)) (by first | rfl | decide | with_unfolding_all rfl) (fun s₁ IC => ?_) rfl rfl rfl
  obtain ⟨h₁, tk₁, rfl⟩ := IC.toInCall.same
  have k : ∀ b o, s.heap.get? b = some o → h₁.get? b = some o := IC.toInCall.keep
  have hn := IC.toInCall.ns
  have X₁ : K.In h₁ := X.keeps k
  have hx₁ := k _ _ hx
  have ld : ∀ {name : Str} {scope : Scope} {L a : Addr} {cd : Value} {m : Str → Option Value} {y : Str} {pos : Pos} {u : Value} {Q : Value → Shared → Prop} {A' : Around} {E' : Value → Shared → Prop} {s' : Shared}, s'.heap.Ns L m → m y = some u → Q u s' → scope.kind = .function → (envOfC name scope L a cd).kindOf y = some .local → (y == ("__debug__" : Str)) = false →
      wpAny (model prog w) A' (eval (.Name y pos) (envOfC name scope L a cd)) Q E' s' := fun hn hv h hk hl hd => wpAny_Name (wpAny_loadName_local hk hl hn hv h) hd
  show wpAny _ _ (execs _ _) _ _ _
  refine wpAny_execs_cons (plainObj_wpAny_Assign_Attribute ?_)
  refine ld (u := v) hn (by first | rfl | with_unfolding_all rfl | kernel_rfl) (ld (u := .ref x) hn (by first | rfl | with_unfolding_all rfl | kernel_rfl) ?_ rfl rfl (by decide)) rfl rfl (by decide)
  refine set_plain X₁ (ox := excO C t0) (od := none) ⟨hx₁, rfl, rfl, trivial⟩ T.sa ?_
  refine exc_osa X₁ hx₁ hcl (show refsVE (.ref C :: bm) = true from hbm) rfl T.noN (fun h₃ tk₃ dx k₃ dn dne hx₃ hn₃ => ?_)
  show wpAny _ _ (execs _ _) _ _ _
  have z : s.heap.objs.size < h₁.objs.size := hn.lt
  exact wpAny_execs_nil (hq h₃ tk₃ dx ⟨fun b o hb e => k₃ b o hb (k b o e), hx₃, Nat.le_of_lt (Nat.lt_of_lt_of_le z dn), dne, hn₃⟩)
theorem made_ok (T : Txt K mg cn qn C fI) {v : Value} (X : K.In s.heap) (hlim : s.heap.NoLimit) (hroom : A.depth + 1 < recursionLimit)
    (hq : ∀ h' tk e d, Made s.heap h' e C d v → R (.ok (.ret (.ref e))) { s with heap := h', toks := tk }) :
    codeAny (model prog w) A (.call (.ref C) ⟨[v], []⟩) R s := by
  obtain ⟨nm, q, N, bs, bm, sn, sub, ab, col, dd, k0, k1, k2, k3, k5, hC, hbm⟩ := T.cls
  obtain ⟨hp, g, dr, tk, os⟩ := s
  have k : ∀ b o, hp.get? b = some o → ((hp.push (kdv_tup [v])).push (excO C hp.objs.size)).get? b = some o := fun b o e => Heap.get?_push_of_some _ (Heap.get?_push_of_some _ e)
  have hget : ((hp.push (kdv_tup [v])).push (excO C hp.objs.size)).get? (hp.objs.size + 1) = some (excO C hp.objs.size) := by heap_get
  refine call_own F.excBase_ValueError (fun X => refsVE_contains X bm hbm) (X _ _ hC) (looks_findIn X T.iC) (fun self => bind_fn X self T.tC) (by rw [sizeLine_eq]; exact (by decide : 1 ≤ 16777216)) ?_
  refine init_ok (s := ⟨(hp.push (kdv_tup [v])).push (excO C hp.objs.size), g, dr, tk, os⟩) T (X.keeps k) (hlim.keeps k) hget ?_ fun h' tk' dx ⟨k', hx, dn, dne, hns⟩ => ?_
  · show A.depth + 1 < recursionLimit
    exact hroom
  · have old : ∀ b o, hp.get? b = some o → h'.get? b = some o := fun b o e => k' b o (Nat.ne_of_lt (Nat.lt_succ_of_lt (Heap.lt_size e))) (k b o e)
    have z : hp.objs.size + 1 + 1 ≤ dx := by
      first
        | (simpa only [Heap.size_push] using dn)
        | exact dn
        | (have q := dn; rw [Heap.size_push, Heap.size_push] at q; exact q)
    exact ⟨rfl, hq h' tk' (hp.objs.size + 1) dx ⟨old, Nat.le_succ _, ⟨_, _, hx, rfl, rfl, rfl, rfl⟩, Nat.le_trans (Nat.le_trans (Nat.le_succ _) (Nat.le_succ _)) z, dne, hns⟩⟩
end
theorem rel_one {v : V} {v' : Value} (r : RelV v v') (f : Str) : RelO (List.lookup f [(("width" : Str), v)]) (if f = "width" then some v' else none) := by
  by_cases hw : f = "width"
  · subst hw
    rw [if_pos rfl]
    have q : List.lookup ("width" : Str) [(("width" : Str), v)] = some v := by simp [List.lookup]
    rw [q]
    exact r
  · rw [if_neg hw]
    have qw : (f == ("width" : Str)) = false := by simpa using hw
    have q2 : List.lookup f [(("width" : Str), v)] = none := by simp [List.lookup, qw]
    rw [q2]
    trivial
section
variable {X : Cx} {C fI : Addr} {cn qn : Str}
theorem pmk {a : Expr} {ta : TA} {p pos : Pos} {k : Nat} (T : Txt X.K X.mg cn qn C fI) (hr : Room k X.A) (ha : PA X [a] ta) (hg : Gl X cn) (hdb : (cn == ("__debug__" : Str)) = false)
    (he : starEach (a :: []) X.env = (false, eval a X.env) :: starEach [] X.env) (hpl : (backTo pos (starEach [] X.env)).any (·.1) = false) :
    PMk X (.Call (.Name cn p) [a] [] pos) (tMkF C "width" ta) := by
  intro pins s σ H Q I h
  refine wpAny_Call_Name_kw (ld_glob I hg T.gC ?_ hdb)
  refine PySem.W.callWith_K (h₀ := X.base) I.ok.mod.kin T.kC (thn (ha.run pos pins s σ H _ I h) fun us s1 hh => ?_) he hpl
  obtain ⟨vs, H1, I1, r1, v, ev, q1⟩ := hh
  subst ev
  refine ⟨I1.kIn, ?_⟩
  cases r1 with
  | cons rv rn =>
    rename_i v' us'
    cases rn
    show wpAny _ _ (call (.ref C) [v']) _ _ _
    have hlim := I1.nolimit
    obtain ⟨hp, g, dr, tk, os⟩ := s1
    refine wpAny_call (made_ok T I1.kIn hlim (by have := hr.dp; omega) fun h' tk' e d M => ?_)
    show MkP X pins σ Q (.ref e) ⟨h', g, dr, tk', os⟩
    obtain ⟨oe, fv, hoe, hc, hd, hdat, h1⟩ := M.obj
    have hns := M.ns
    obtain ⟨G', g1, g2⟩ := restrict h' fun b => decide (b ≠ e)
    have gk : ∀ b, b ≠ e → G'.get? b = h'.get? b := fun b hb => g1 b (decide_eq_true hb)
    have ge : G'.get? e = none := g2 e (by simp)
    have old : ∀ b o, hp.get? b = some o → G'.get? b = some o := fun b o q => (gk b (Nat.ne_of_lt (Nat.lt_of_lt_of_le (Heap.lt_size q) M.new))).trans (M.keep b o q)
    have ob : ObjOk X.prog X.w (upd H1 d (.xd [(("width" : Str), v)])) G' d (.xd [(("width" : Str), v)]) :=
      ⟨_, hns.at (fun o q => (gk d M.dne).trans q), fun f => rel_one rv f⟩
    have J : Inv X pins σ (upd H1 d (.xd [(("width" : Str), v)])) ⟨G', g, dr, tk', os⟩ := I1.laid (t' := tk') old M.dbig ob
    refine ⟨e, oe, fv, ⟨G', g, dr, tk', os⟩, _, .ref C, some d, rfl, J, fun b o q => ?_, ge, hoe, ⟨hc, hd⟩, hdat, h1, ?_, rfl, I1.bare, raises_own T.exC T.tyC, q1 d (I1.hok.fresh M.dbig)⟩
    · by_cases hb : b = e
      · have q' : G'.get? b = some o := q
        rw [hb, ge] at q'; cases q'
      · exact (gk b hb).symm.trans q
    · rw [upd_ne (Ne.symm M.dne)]
      exact I1.hok.fresh M.new
end
end E_width
end G

set_option Elab.async false
set_option linter.all false
set_option maxRecDepth 100000
set_option maxHeartbeats 4000000
namespace G
open PySem PySem.Spec PyProof.Rows L2
section
variable {X : Cx} {W : WX} {cn f : Str} {C : Addr} {a : Expr} {ma : ME} {p pos pos2 : Pos}
end
section
variable {X : Cx} {W : WX} {k j : Nat} {f : Addr} {fd : FuncData} {ps : List Str} {F : Fn} {x : Str} {st : Stmt} {p pos : Pos} {e : Expr} {es : List Expr} {ms : MA}
end
section
variable {X : Cx} {W : WX} {x n : Str} {c : Value} {i : Nat} {body suite : List Stmt} {b₀ : Stmt} {np pos pos' : Pos} {mb : MS} {su : Exc → Addr → Option Addr → MS} {yes : List Str}
end
end G

set_option Elab.async false
set_option linter.all false
set_option maxRecDepth 100000
set_option maxHeartbeats 4000000
namespace G
open PySem PySem.Spec PyProof.Rows L2
theorem ge_less {X : Cx} {W : WX} {e : Expr} {m m' : ME} (h : GE X W e m) (i : ∀ ρ S r, m' ρ S = some r → m ρ S = some r) : GE X W e m' := by
  refine ⟨fun pins s σ H Q I hw => h.run pins s σ H Q I ?_⟩
  obtain ⟨ρ, F, μ, S, hS, hE, hP⟩ := hw
  refine ⟨ρ, F, μ, S, hS, hE, ?_⟩
  cases e : m' ρ S with
  | none => rw [e] at hP; exact hP.elim
  | some r => rw [e] at hP; rw [i ρ S r e]; exact hP
structure ExI (K : PySem.W.Frag) (C : Addr) : Prop where
  hcl : (PySem.W.clsIn K C).isSome = true
  ga : PySem.W.findIn K (.ref C) "__getattribute__" = some (some (.builtin "BaseException.__getattribute__"))
  gg : PySem.W.findIn K (.ref C) "__getattr__" = some none
  sub : PySem.W.subIn K (.ref C) (.type "BaseException") = some true
  cls : PySem.W.findIn K (.ref C) "__class__" = some (some (.builtin "object.__class__"))
  mro : PySem.W.mroIn K C (.type "object") = some true
  gt : PySem.W.specialIn K (.builtin "object.__class__") "__get__" = some (some (.builtin "getset_descriptor.__get__"))
  tk : PySem.W.takesIn K (.builtin "object.__class__") = some true
section
variable {X : Cx} {C a : Addr} {oe : Obj} {d : Option Addr} {pn : List (Addr × Obj)}
end
section
variable {X : Cx} {C a : Addr} {oe : Obj} {d : Option Addr} {pn : List (Addr × Obj)} {e : Exc} {tb : Str → Option Bool} {i : Nat} {W : WX} {en ec : Expr} {p pos : Pos}
end
section
variable {X : Cx} {C a : Addr} {oe : Obj} {d : Option Addr} {pn : List (Addr × Obj)} {e : Exc} {i : Nat} {W : WX} {en : Expr} {p pos : Pos} {f : Str} {ok : List Str}
end
end G

set_option Elab.async false
set_option linter.all false
set_option maxRecDepth 100000
set_option maxHeartbeats 4000000
namespace G
open PySem PySem.Spec PyProof.Rows L2
inductive LeavesX (n : Nat) : Exc × Sto → Exc × Sto → Prop where
  | trim0 {c : Str} {S S' : Sto} : FzS n S S' → LeavesX n (⟨c, []⟩, S) (⟨c, []⟩, S')
  | trim1 {c f : Str} {v v' : Val} {S S' : Sto} : Fz n S v v' → FzS n S S' → LeavesX n (⟨c, [(f, v)]⟩, S) (⟨c, [(f, v')]⟩, S')
theorem LeavesX.ok {K : PySem.W.Frag} {mg : Str → Option Value} {F0 H0 F H : Hp} {μ0 μ : List Addr} {S S' : Sto} {y x : Exc} {n : Nat} {c : Value} {d : Option Addr} {E : XK} (z : LeavesX n (y, S) (x, S')) (hn : μ0.length = n) (xt : Xt F0 H0 μ0 F H μ) (h : RepS K mg F H μ S) (r : ExcOk K mg F μ H y c d)
    (q : ∀ F' μ' H' c d, Xt F0 H0 μ0 F' H' μ' → RepS K mg F' H' μ' S' → ExcOk K mg F' μ' H' x c d → E c d H') : E c d H := by
  have e : μ.take n = μ0 := by
    obtain ⟨t, rfl⟩ := xt.pre
    rw [← hn, List.take_left]
  have x2 : Xt F0 H0 μ0 (thaw F H μ n) H μ0 := ⟨⟨fun a o q => thaw_sub h a o (xt.sub a o q), List.prefix_refl _⟩, fun a o k nm t => by
    obtain ⟨k1, k2, k3⟩ := xt.keep a o k nm t
    refine ⟨k1, nm, fun z => ?_⟩
    unfold thaw
    rw [if_neg fun z => k2 (List.mem_of_mem_drop z)]
    exact k3 z⟩
  cases z with
  | trim0 zs =>
    refine q (thaw F H μ n) μ0 H c d x2 (e ▸ zs.rep h) ?_
    obtain ⟨C, g, rfl, h1 | ⟨f, u, v, dx, h1, _⟩⟩ := r
    · exact ⟨C, g, rfl, .inl h1⟩
    · cases h1
  | trim1 zv zs =>
    refine q (thaw F H μ n) μ0 H c d x2 (e ▸ zs.rep h) ?_
    obtain ⟨C, g, rfl, h1 | ⟨f, u, v, dx, h1, rfl, h3, h4⟩⟩ := r
    · cases h1.1
    · cases h1
      exact ⟨C, g, rfl, .inr ⟨_, _, v, dx, rfl, rfl, thaw_sub h _ _ h3, e ▸ zv.rep h h4⟩⟩
section
variable {P : Program} {w : World} {K : PySem.W.Frag} {mg : Str → Option Value} {base : Heap}
end
section
variable {K : PySem.W.Frag} {mg : Str → Option Value}
end
theorem bt_ValueError : bootBuiltins "ValueError" = some (.type "ValueError") := by decide +kernel
section
variable {X : Cx}
end
end G

set_option Elab.async false
set_option linter.all false
set_option maxRecDepth 100000
set_option maxHeartbeats 4000000
namespace G
open PySem PySem.Spec PyProof.Rows L2
namespace E_length
end E_length
namespace E_index
end E_index
namespace E_obstruction
end E_obstruction
namespace E_limit
end E_limit
namespace E_error
end E_error
namespace E_key
end E_key
namespace E_value
end E_value
namespace E_version
end E_version
namespace E_width
end E_width
end G

set_option Elab.async false
set_option linter.all false
set_option maxRecDepth 100000
set_option maxHeartbeats 4000000
namespace G
open PySem PySem.Spec PyProof.Rows L2
section
variable {X : Cx} {W : WX} {x : Str} {c : Value} {body suite : List Stmt} {b₀ : Stmt} {np pos pos' : Pos} {mb su : MS} {yes : List Str}
end
section
variable {X : Cx} {W : WX} {CX : CXT} {i j k n : Nat} {f : Addr} {fd : FuncData} {ps : List Str} {x y : Str} {F : Fn} {st : Stmt} {p pos : Pos} {e : Expr} {es : List Expr} {ms : MA} {tbl : List (Str × Fn)}
end
section
variable {X : Cx}
end
end G

set_option Elab.async false
set_option linter.all false
set_option maxRecDepth 100000
set_option maxHeartbeats 4000000
namespace G
open PySem PySem.Spec PyProof.Rows L2
def keyD : Key → PyData
  | .inl i => .int i
  | .inr x => .str x
def rdXD : List (Key × Val) → Option (List (PyData × PyData))
  | [] => some []
  | (k, .int i) :: t => (rdXD t).map fun ds => (keyD k, .int i) :: ds
  | _ => none
mutual
def rdX : Val → Option PyData
  | .non => some .none
  | .bl b => some (.bool b)
  | .int i => some (.int i)
  | .str x => some (.str x)
  | .tup xs => (rdXL xs).map PyData.tuple
  | .lst xs => (rdXL xs).map PyData.list
  | .dct kvs => (rdXD kvs).map PyData.dict
  | .scr _ => none
  | .cell _ => none
  | .con _ => none
  | .fnv _ => none
  | .err _ _ _ _ => none
  | .ex0 _ => none
  | .ex1 _ _ _ => none
  | .prs _ => none
def rdXL : List Val → Option (List PyData)
  | [] => some []
  | x :: xs => match rdX x, rdXL xs with
    | some d, some ds => some (d :: ds)
    | _, _ => none
end
section
variable {X : Cx} {pins : List (Addr × Obj)} {σ : L2.St} {F H : Hp} {μ : List Addr} {S : Sto} {s : Shared}
theorem rdXD_reads {h : Heap} {K : PySem.W.Frag} {P : Program} {w : World} {kvs : List (Key × Val)} : ∀ {kws : List (Key × V)} {vs : List (Key × Value)} {es : List DictEntry} {ds : List (PyData × PyData)}, RepD K F μ kvs kws → KV kws vs → Pairs (mixKind P w) es vs → rdXD kvs = some ds → ReadsAll h (es.map (·.key)) (ds.map (·.1)) [] ∧ ReadsAll h (es.map (·.val)) (ds.map (·.2)) [] := by
  induction kvs with
  | nil =>
    intro kws vs es ds r kv p e
    cases r
    cases kv
    cases p
    simp only [rdXD] at e
    cases e
    exact ⟨.nil, .nil⟩
  | cons kx kvs ih =>
    intro kws vs es ds r kv p e
    cases r with
    | cons rv rd =>
    cases kv with
    | cons hk kv =>
    cases p with
    | cons pk pv pp =>
    rename_i k x v kws q vs e0 es
    cases x with
    | int i =>
      simp only [rdXD] at e
      obtain ⟨ds, e1, rfl⟩ := Option.map_eq_some_iff.mp e
      obtain ⟨h1, h2⟩ := ih rd kv pp e1
      cases rv
      obtain ⟨q1, t, q2⟩ := hk
      dsimp only at q1 q2
      refine ⟨?_, ?_⟩
      · simp only [List.map_cons]
        refine ReadsAll.cons (as := []) ?_ h1
        rcases keyIs_shape pk with ⟨j, t', e3, e4⟩ | ⟨y, t', e3, e4⟩
        · rw [e4, q1, e3]; exact .int j t'
        · rw [e4, q1, e3]; exact .str y t'
      · simp only [List.map_cons]
        refine ReadsAll.cons (as := []) ?_ h2
        rw [pv, q2]
        exact .int i t
    | _ => simp [rdXD] at e
mutual
theorem rdX_reads (hB : ∃ mm, X.base.Ns sysModules mm) (I : L2.Inv X pins σ H s) (hS : RepS X.K X.mg F H μ S) : ∀ {v : Val} {w : V} {d : PyData} {u : Value}, RepV X.K F μ v w → rdX v = some d → RelV w u → ∃ as, Reads s.heap u d as ∧ sysModules ∉ as
  | _, _, _, _, .non, e, r => by rw [rdX] at e; cases e; cases r; exact ⟨_, .none, by simp⟩
  | _, _, _, _, .bl, e, r => by rw [rdX] at e; cases e; cases r; exact ⟨_, .bool _, by simp⟩
  | _, _, _, _, .int, e, r => by rw [rdX] at e; cases e; obtain ⟨t, rfl⟩ := r; exact ⟨_, .int _ t, by simp⟩
  | _, _, _, _, .str, e, r => by rw [rdX] at e; cases e; obtain ⟨t, rfl⟩ := r; exact ⟨_, .str _ t, by simp⟩
  | _, _, _, _, .tup q l, e, r => by
    simp only [rdX] at e
    obtain ⟨ds, e1, rfl⟩ := Option.map_eq_some_iff.mp e
    cases r
    obtain ⟨its, rv, ⟨o, ho, hc, n, hd⟩, _⟩ := I.tuple (same_seqT hS.sub q.sq)
    obtain ⟨as, hr, hn⟩ := rdXL_reads hB I hS l e1 rv
    exact ⟨_, Reads.tuple ho hc hd hr, hn⟩
  | _, _, _, _, .lst q l, e, r => by
    simp only [rdX] at e
    obtain ⟨ds, e1, rfl⟩ := Option.map_eq_some_iff.mp e
    cases r
    obtain ⟨its, rv, ⟨o, n, ho, hc, _, hd⟩, _⟩ := I.list (SqL.of (hS.sub _ _ q))
    obtain ⟨as, hr, hn⟩ := rdXL_reads hB I hS l e1 rv
    refine ⟨_, Reads.list ho hc hd hr, fun z => ?_⟩
    rcases List.mem_cons.mp z with z | z
    · obtain ⟨mm, om, es, ep, hm, hdm, _⟩ := hB
      have hm' := I.bk _ _ hm
      rw [z] at hm'
      rw [hm'] at ho
      cases ho
      rw [hdm] at hd
      cases hd
    · exact hn z
  | _, _, _, _, .dct q l, e, r => by
    simp only [rdX] at e
    obtain ⟨ds, e1, rfl⟩ := Option.map_eq_some_iff.mp e
    cases r
    obtain ⟨_, hsm, vs, kv, o, es, ep, ho, hx, hd, hko, hp, hnd⟩ := dk_of I.hok (hS.sub _ _ q)
    obtain ⟨h1, h2⟩ := rdXD_reads (h := s.heap) l kv hp e1
    refine ⟨_, Reads.dict ho hx.1 hd h1 h2, fun z => ?_⟩
    simp only [List.append_nil, List.mem_singleton] at z
    rw [← z] at hsm
    simp at hsm
  | _, _, _, _, .scr _, e, r => by rw [rdX] at e; cases e
  | _, _, _, _, .cell _, e, r => by rw [rdX] at e; cases e
  | _, _, _, _, .con, e, r => by rw [rdX] at e; cases e
  | _, _, _, _, .fnv _, e, r => by rw [rdX] at e; cases e
  | _, _, _, _, .err0, e, r => by rw [rdX] at e; cases e
  | _, _, _, _, .err1 _ _, e, r => by rw [rdX] at e; cases e
  | _, _, _, _, .ex0 _ _, e, r => by rw [rdX] at e; cases e
  | _, _, _, _, .ex1 _ _ _ _, e, r => by rw [rdX] at e; cases e
  | _, _, _, _, .prs _ _, e, r => by rw [rdX] at e; cases e
theorem rdXL_reads (hB : ∃ mm, X.base.Ns sysModules mm) (I : L2.Inv X pins σ H s) (hS : RepS X.K X.mg F H μ S) : ∀ {v : List Val} {w : List V} {d : List PyData} {u : List Value}, RepL X.K F μ v w → rdXL v = some d → Vals w u → ∃ as, ReadsAll s.heap u d as ∧ sysModules ∉ as
  | _, _, _, _, .nil, e, r => by
    simp only [rdXL] at e
    cases e
    cases r
    exact ⟨_, .nil, by simp⟩
  | _, _, _, _, .cons h1 h2, e, r => by
    simp only [rdXL] at e
    split at e
    · rename_i d ds e1 e2
      cases e
      cases r with
      | cons r1 r2 =>
        obtain ⟨as, q1, n1⟩ := rdX_reads hB I hS h1 e1 r1
        obtain ⟨bs, q2, n2⟩ := rdXL_reads hB I hS h2 e2 r2
        refine ⟨_, ReadsAll.cons q1 q2, fun m => ?_⟩
        rcases List.mem_append.mp m with m | m
        · exact n1 m
        · exact n2 m
    · cases e
end
end
def sReprD (d : PyData) : Option Val := if d.showable = true ∧ d.shown.length ≤ sizeLine ∧ d.depth ≤ 60 then some (.str d.shown) else none
def sReprX : Sto → List Val → Option Val := fun S vs => match vs with
  | [v] => match toD v, rdX v with
    | none, some d => sReprD d
    | _, _ => sRepr S [v]
  | _ => none
theorem c_reprX {X : Cx} (hG : X.A.guards = some []) (hB : ∃ mm, X.base.Ns sysModules mm) (hu : X.A.units + 64 < cLine) : GCa X (.builtin "repr") sReprX := by
  intro pins s σ H xs us Q I r h
  obtain ⟨vs, F, μ, S, z, hS, rl, e, k⟩ := h
  unfold sReprX at e
  split at e
  · rename_i v
    split at e
    · rename_i d _ hd
      obtain ⟨w, rfl, rv⟩ := rl.one
      obtain ⟨u, rfl, ru⟩ := vals1 r
      unfold sReprD at e
      obtain ⟨⟨h1, h2, h3⟩, e⟩ := ite_some e
      subst e
      have fin : ∀ (h' : Heap) (t : Tok) (tk : Nat), (∀ b o, s.heap.get? b = some o → h'.get? b = some o) → EP X pins σ Q (.str d.shown t) { s with heap := h', toks := tk } := fun h' t tk kp =>
        ⟨.str d.shown, H, I.kept kp, ⟨t, rfl⟩, same_k k hS .str⟩
      obtain ⟨as, rd, hn⟩ := rdX_reads hB I hS rv hd ru
      cases v with
      | lst ys =>
        cases rv
        cases ru
        exact repr_of_reads' rd h1 (fun _ => hn) hG (by omega) (fun _ _ q => q) (fun h' t tk kp => fin h' t tk kp) h2
      | tup ys =>
        cases rv
        cases ru
        exact repr_of_reads' rd h1 (fun _ => hn) hG (by omega) (fun _ _ q => q) (fun h' t tk kp => fin h' t tk kp) h2
      | dct ys =>
        cases rv
        cases ru
        exact repr_of_reads' rd h1 (fun _ => hn) hG (by omega) (fun _ _ q => q) (fun h' t tk kp => fin h' t tk kp) h2
      | _ =>
        rename_i ht
        simp [toD, rdX] at ht hd
    · exact c_repr hG hu pins s σ H xs us Q I r ⟨_, F, μ, S, z, hS, rl, e, k⟩
  · cases e
end G

set_option Elab.async false
set_option linter.all false
set_option maxRecDepth 100000
set_option maxHeartbeats 4000000
namespace G
open PySem PySem.Spec PyProof.Rows L2
def sNeX : Sto → Val → Val → Option Val := fun S x y => match sNe S x y with
  | some r => some r
  | none => match seqOf S x, y with
    | some (false, _ :: _), .lst [] => some (.bl true)
    | _, _ => none
theorem o_neX {X : Cx} (hu : X.A.units + 64 < cLine) : GO2 X (compareOp .NotEq) sNeX := by
  intro pins s σ H x y v u Q I rx ry h
  obtain ⟨vx, vy, F, μ, S, r, hS, r1, r2, e, k⟩ := h
  unfold sNeX at e
  split at e
  · rename_i r' e'
    cases e
    exact o_ne hu pins s σ H x y v u Q I rx ry ⟨vx, vy, F, μ, S, _, hS, r1, r2, e', k⟩
  · split at e
    · rename_i z zs hq _
      cases e
      obtain ⟨a, vs, rfl, rl, hh⟩ := seqOf_ok hS r1 hq
      rcases hh with ⟨hb, _⟩ | ⟨_, sq⟩
      · cases hb
      cases r2 with
      | lst q l =>
      cases l
      cases rx
      cases ry
      obtain ⟨its, rv, ⟨o, n, ho, hc, hx, hd⟩, _⟩ := I.list sq
      obtain ⟨its2, rv2, ⟨o2, n2, ho2, hc2, hx2, hd2⟩, _⟩ := I.list (SqL.of (hS.sub _ _ q))
      cases rv2
      have hl : its.length ≠ 0 := by
        have e1 := rv.length
        have e2 := rl.length
        rw [← e1, ← e2]
        simp
      refine SeqAt.RcNeAt.lists_lengths (items := its.toArray) (items2 := #[]) ⟨o, ho, hc, n, hd⟩ ⟨o2, ho2, hc2, n2, hd2⟩ (by simpa using hl) (by omega) _ _ _ _ ⟨.bl true, H, I, rfl, same_k k hS .bl⟩
    · cases e
section
open AutoSeq1 (wpAny_loadPart')
end
end G

set_option Elab.async false
set_option linter.all false
set_option maxRecDepth 100000
set_option maxHeartbeats 4000000
namespace G
open PySem PySem.Spec PyProof.Rows L2
end G

set_option Elab.async false
set_option linter.all false
set_option maxRecDepth 100000
set_option maxHeartbeats 4000000
namespace G
open PySem PySem.Spec PyProof.Rows L2
end G

set_option Elab.async false
set_option linter.all false
set_option maxRecDepth 100000
set_option maxHeartbeats 4000000
namespace G
open PySem PySem.Spec PyProof.Rows L2
section
variable {X : Cx} {W : WX}
end
end G

set_option Elab.async false
set_option linter.all false
set_option maxRecDepth 100000
set_option maxHeartbeats 4000000
namespace G
open PySem PySem.Spec PyProof.Rows L2
section
variable {X : Cx} {W : WX} {kx vx tg iter : Expr} {ifs : List Expr} {scope : Scope} {own : List (Str × Nat)} {pos : Pos} {mi : MI} {t : MG} {tt : MT} {tk tv : ME}
end
end G

set_option Elab.async false
set_option linter.all false
set_option maxRecDepth 100000
set_option maxHeartbeats 4000000
namespace G
open PySem PySem.Spec PyProof.Rows L2
def rgOkB (a b : Int) : Prop := -4611686018427387904 ≤ a ∧ a < 4611686018427387904 ∧ -4611686018427387904 ≤ b ∧ b < 4611686018427387904 ∧ (b - a).toNat ≤ 16777216
instance (a b : Int) : Decidable (rgOkB a b) := by unfold rgOkB; infer_instance
section
variable {X : Cx} {W : WX} {a b : Expr} {ma mb : ME} {p p' pos pos' : Pos}
end
end G

set_option Elab.async false
set_option linter.all false
set_option maxRecDepth 100000
set_option maxHeartbeats 4000000
namespace G
open PySem PySem.Spec PyProof.Rows L2
def sEqX : Sto → Val → Val → Option Val := fun S x y => match sEq S x y with
  | some r => some r
  | none => match seqOf S x, y with
    | some (false, _ :: _), .lst [] => some (.bl false)
    | _, _ => none
theorem o_eqX {X : Cx} (hu : X.A.units + 64 < cLine) : GO2 X (compareOp .Eq) sEqX := by
  intro pins s σ H x y v u Q I rx ry h
  obtain ⟨vx, vy, F, μ, S, r, hS, r1, r2, e, k⟩ := h
  unfold sEqX at e
  split at e
  · rename_i r' e'
    cases e
    exact o_eq hu pins s σ H x y v u Q I rx ry ⟨vx, vy, F, μ, S, _, hS, r1, r2, e', k⟩
  · split at e
    · rename_i z zs hq _
      cases e
      obtain ⟨a, vs, rfl, rl, hh⟩ := seqOf_ok hS r1 hq
      rcases hh with ⟨hb, _⟩ | ⟨_, sq⟩
      · cases hb
      cases r2 with
      | lst q l =>
      cases l
      cases rx
      cases ry
      obtain ⟨its, rv, ⟨o, n, ho, hc, hx, hd⟩, _⟩ := I.list sq
      obtain ⟨its2, rv2, ⟨o2, n2, ho2, hc2, hx2, hd2⟩, _⟩ := I.list (SqL.of (hS.sub _ _ q))
      cases rv2
      have hl : its.length ≠ 0 := by
        have e1 := rv.length
        have e2 := rl.length
        rw [← e1, ← e2]
        simp
      refine SeqAt.RcAt.lists_lengths (items := its.toArray) (items2 := #[]) ⟨o, ho, hc, n, hd⟩ ⟨o2, ho2, hc2, n2, hd2⟩ (by simpa using hl) (by omega) _ _ _ _ ⟨.bl false, H, I, rfl, same_k k hS .bl⟩
    · cases e
end G

set_option Elab.async false
set_option linter.all false
set_option maxRecDepth 100000
set_option maxHeartbeats 4000000
namespace G
open PySem PySem.Spec PyProof.Rows L2
section
variable {X : Cx}
end
end G

set_option Elab.async false
set_option linter.all false
set_option maxRecDepth 100000
set_option maxHeartbeats 4000000
namespace GZ
open PySem
open PySem.Sem (wp)
section
variable {prog : Program} {w : World} {A : Around} {E : Value → Shared → Prop} {s : Shared} {z TI TO T i1 i2 : Addr} {f : Bool} {oT : Obj} {fp1 fp2 : List Addr} {n1 n2 i : Nat} {P1 P2 : Nat → Value → Prop} {St1 St2 : Nat → Heap → Prop}

theorem nextOf_range_item {it : Addr} {x left step : Int} {Q : Value → Shared → Prop} (hit : IsRangeIter s.heap it x left step) (hleft : 0 < left)
    (hQ : ∀ h', IsRangeIter h' it (x + step) (left - 1) step → Heap.SameBut it s.heap h' → Q (.int x s.toks) { s with heap := h', toks := s.toks + 1 }) :
    wpAny (model prog w) A (Builtin.SmallTypes.nextOf (.ref it)) Q E s := by
  have hT : s.TypeIs (.ref it) "range_iterator" := ⟨_, hit, rfl⟩
  unfold Builtin.SmallTypes.nextOf
  refine wpAny_bind (wpAny_callSpecial?_slot (name := Str.ofString "__next__") hT F.slot_range_iterator_next
    (call_meets F.slot_range_iterator_next hT F.entry_range_iterator_next (F.args_range_iterator_next_1 _) (AutoRange.range_iterator___next___range_iterator_1 it x left step (by omega)) ⟨hit, ?_⟩))
  exact wpAny_pure (hQ _ (Heap.get?_update_self _ (Heap.get?_update_self _ hit rfl) rfl) ((Heap.SameBut.update ..).trans (Heap.SameBut.update ..)))
theorem nextOf_range_end {it : Addr} {x left step : Int} {Q : Value → Shared → Prop} (hh : A.handled = none) (hit : IsRangeIter s.heap it x left step) (hleft : left ≤ 0)
    (hE : ∀ h' e, Heap.ExtBut it s.heap h' → (∃ o, h'.get? e = some o ∧ o.cls = .type "StopIteration") → E (.ref e) { s with heap := h' }) :
    wpAny (model prog w) A (Builtin.SmallTypes.nextOf (.ref it)) Q E s := by
  have hT : s.TypeIs (.ref it) "range_iterator" := ⟨_, hit, rfl⟩
  unfold Builtin.SmallTypes.nextOf
  refine wpAny_bind (wpAny_callSpecial?_slot (name := Str.ofString "__next__") hT F.slot_range_iterator_next
    (wpAny_call_entry F.slot_range_iterator_next hT F.entry_range_iterator_next ?_ (F.args_range_iterator_next_1 _)))
  show wpAny _ _ (field (.ref it) 0 >>= _) _ _ s
  refine wpAny_bind (wpAny_field hit rfl (x := rawInt x) rfl ?_)
  show wpAny _ _ (field (.ref it) 1 >>= _) _ _ s
  refine wpAny_bind (wpAny_field hit rfl (x := rawInt left) rfl ?_)
  show wpAny _ _ (field (.ref it) 2 >>= _) _ _ s
  refine wpAny_bind (wpAny_field hit rfl (x := rawInt step) rfl ?_)
  show wpAny _ _ (if left ≤ 0 then _ else _) _ _ s
  rw [if_pos hleft]
  refine wpAny_bind (wpAny_rule ?_)
  refine wpAny_bind ?_
  show wpAny _ _ (newExc (.type "StopIteration") [] >>= _) _ _ _
  refine wpAny_bind ?_
  simp only [newExc, newTuple]
  refine wpAny_bind (wpAny_newObj_type ?_ (by size_fits))
  refine wpAny_bind (m := firstArgMember _ _) (wpAny_of_eq (a := Value.none) (by first | rfl | (simp only [firstArgMember]; rfl)) ?_)
  refine wpAny_newObj_type ?_ (by size_fits)
  simp only [raiseNew]
  refine wpAny_bind (wpAny_handled ?_)
  first | rw [show A.in1.handled = none from hh] | rw [hh]
  refine wpAny_bind (wpAny_pure (wpAny_throw ?_))
  exact hE _ _ (((Heap.ExtBut.refl it s.heap).push _).push _) ⟨_, Heap.get?_push_size _ rfl, rfl⟩
end
theorem Draws.range {prog : Program} {w : World} {A : Around} (hh : A.handled = none) (it : Addr) (a : Int) (n : Nat) :
    Draws prog w A it [it] n (fun i v => ∃ t, v = .int (a + (i : Nat)) t) (fun i h => IsRangeIter h it (a + (i : Nat)) ((n : Int) - (i : Nat)) 1) where
  live := fun _ _ st => ⟨_, st⟩
  frame := fun _ _ _ st hk => hk it (by simp) _ st
  item := fun i s Q E hi st hQ => by
    refine nextOf_range_item st (by omega) fun h' hit' hs' => ?_
    refine hQ _ h' _ ⟨_, rfl⟩ ?_ hs'
    rw [show a + ((i + 1 : Nat) : Int) = a + (i : Int) + 1 by omega, show (n : Int) - ((i + 1 : Nat) : Int) = (n : Int) - (i : Int) - 1 by omega]
    exact hit'
  done := fun s Q E st hE => nextOf_range_end hh st (by omega) hE
section
variable {prog : Program} {w : World}
end
end GZ

set_option Elab.async false
set_option linter.all false
set_option maxRecDepth 100000
set_option maxHeartbeats 4000000
namespace G
open PySem PySem.Spec PyProof.Rows L2
section
variable {X : Cx} {a e : Expr} {ta : TE} {te : L2.St → Hp → (Int → Int → Hp → Prop) → Prop} {p p2 pos pos2 : Pos}
end
end G

set_option Elab.async false
set_option linter.all false
set_option maxRecDepth 100000
set_option maxHeartbeats 4000000
namespace G
open PySem PySem.Spec PyProof.Rows L2
end G

set_option Elab.async false
set_option linter.all false
set_option maxRecDepth 100000
set_option maxHeartbeats 4000000
namespace G
open PySem PySem.Spec PyProof.Rows L2
end G

set_option Elab.async false
set_option linter.all false
set_option maxRecDepth 100000
set_option maxHeartbeats 4000000
namespace G
open PySem PySem.Spec PyProof.Rows L2
section
variable {X : Cx}
end
end G

set_option Elab.async false
set_option linter.all false
set_option maxRecDepth 100000
set_option maxHeartbeats 4000000
namespace G
open PySem PySem.Spec PyProof.Rows L2
end G

set_option Elab.async false
set_option linter.all false
set_option maxRecDepth 100000
set_option maxHeartbeats 4000000
namespace G
open PySem PySem.Spec PyProof.Rows L2
inductive Sc where
  | ls (a : Addr)
  | tu (a : Addr)
  | tx (x : Str)
def Sc.at (K : PySem.W.Frag) (H : Hp) : Sc → List V → Prop
  | .ls a, xs => SqL K H a xs
  | .tu a, xs => SqT K H a xs
  | .tx x, xs => xs = x.cps.toList.map fun c => V.str ⟨#[c]⟩
def Sc.it (h : Heap) (o : Addr) (i : Nat) : Sc → Prop
  | .ls a => h.IsListIter o a i
  | .tu a => h.IsTupleIter o a i
  | .tx x => ∃ t, h.IsStrIter o (strIterType x) x t i
def Sc.cells : Sc → List Addr
  | .ls a => [a]
  | .tu a => [a]
  | .tx _ => []
def Sc.val (c : Sc) (v : V) : Prop := match c with
  | .ls a => v = .ref a
  | .tu a => v = .ref a
  | .tx x => v = .str x
section
variable {X : Cx} {pins : List (Addr × Obj)} {σ : L2.St} {H : Hp} {s : Shared}
theorem Sc.inj (I : Inv X pins σ H s) : ∀ {c : Sc} {xs ys : List V}, c.at X.K H xs → c.at X.K H ys → xs = ys
  | .ls _, _, _, h, h' => I.list_inj h h'
  | .tu _, _, _, h, h' => I.tuple_inj h h'
  | .tx _, _, _, h, h' => Eq.trans h (Eq.symm h')
end
section
variable {X : Cx} {W : WX}
end
end G

set_option Elab.async false
set_option linter.all false
set_option maxRecDepth 100000
set_option maxHeartbeats 4000000
namespace G
open PySem PySem.Spec PyProof.Rows L2
end G

set_option Elab.async false
set_option linter.all false
set_option maxRecDepth 100000
set_option maxHeartbeats 4000000
namespace L2
open PySem PySem.Spec PyProof.Rows
section
variable {X : Cx}
end
end L2
namespace G
open PySem PySem.Spec PyProof.Rows L2
section
variable {X : Cx} {W : WX} {kx vx tg iter : Expr} {ifs : List Expr} {scope : Scope} {own : List (Str × Nat)} {pos : Pos} {mi : MI} {t : MG} {tt : MT} {tk tv : ME}
end
end G

set_option Elab.async false
set_option linter.all false
set_option maxRecDepth 100000
set_option maxHeartbeats 4000000
namespace G
open PySem PySem.Spec PyProof.Rows L2
end G

set_option Elab.async false
set_option linter.all false
set_option maxRecDepth 100000
set_option maxHeartbeats 4000000
namespace G
open PySem PySem.Spec PyProof.Rows L2
def Made (w : World) (s : Shared) (ns : List Int) (Q : Value → Shared → Prop) : Prop :=
  ∀ (h' : Heap) (tk c : Nat), SetR w h' s.heap.objs.size (fun j => decide (j ∈ ns)) c → c ≤ ns.length → (∀ b o, s.heap.get? b = some o → h'.get? b = some o) → Q (.ref s.heap.objs.size) { s with heap := h', toks := tk }
section
variable {P : Program} {w : World} {A : Around} {E : Value → Shared → Prop} {s : Shared}
end
end G

set_option Elab.async false
set_option linter.all false
set_option maxRecDepth 100000
set_option maxHeartbeats 4000000
namespace G
open PySem PySem.Spec PyProof.Rows L2
section
variable {X : Cx} {pins : List (Addr × Obj)} {σ : L2.St} {H : Hp} {s : Shared}
variable {a : Expr} {ta : TE} {p p2 q pos : Pos}
end
end G

set_option Elab.async false
set_option linter.all false
set_option maxRecDepth 100000
set_option maxHeartbeats 4000000
namespace G
open PySem PySem.Spec PyProof.Rows L2
theorem Xt.less {F1 H1 F' H' : Hp} {μ1 μ' : List Addr} {D : Addr} {o : HO} (hD : H1 D = none) (e : Xt F1 (upd H1 D o) (μ1 ++ [D]) F' H' μ') : Xt F1 H1 μ1 F' H' μ' :=
  ⟨⟨e.sub, (List.prefix_append _ _).trans e.pre⟩, fun a u h n t => e.keep a u (by rw [upd_ne (ne_of_none h hD)]; exact h) (fun z => (List.mem_append.mp z).elim n fun z => ne_of_none h hD (List.mem_singleton.mp z)) t⟩
section
variable {X : Cx} {W : WX} {mi mi1 : MI} {t t1 : MG} {tt tt1 : MT} {te : ME}
variable {elt tg iter tg1 iter1 : Expr} {ifs ifs1 : List Expr} {scope : Scope} {own : List (Str × Nat)} {pos : Pos}
end
end G

set_option Elab.async false
set_option linter.all false
set_option maxRecDepth 100000
set_option maxHeartbeats 4000000
namespace G
open PySem PySem.Spec PyProof.Rows L2
section
variable {X : Cx}
end
end G

set_option Elab.async false
set_option linter.all false
set_option maxRecDepth 100000
set_option maxHeartbeats 4000000
namespace G
open PySem PySem.Spec PyProof.Rows L2
section
variable {X : Cx} {W : WX}
end
end G

set_option Elab.async false
set_option linter.all false
set_option maxRecDepth 100000
set_option maxHeartbeats 4000000
namespace G
open PySem PySem.Spec PyProof.Rows L2
section
variable {X : Cx}
end
end G

set_option Elab.async false
set_option linter.all false
set_option maxRecDepth 100000
set_option maxHeartbeats 4000000
namespace G
open PySem PySem.Spec PyProof.Rows L2
section
variable {X : Cx}
end
end G

set_option Elab.async false
set_option linter.all false
set_option maxRecDepth 100000
set_option maxHeartbeats 4000000
namespace GZN
open PySem RZ
open PySem.Sem (wp)
section
variable {prog : Program} {w : World} {A : Around} {E : Value → Shared → Prop} {s : Shared} {z TI TO T i1 i2 l1 l2 : Addr} {f : Bool} {k1 k2 : Nat} {xs ys : Array Value} {x y a b : Value}
end
section
variable {prog : Program} {w : World} {A : Around} {E : Value → Shared → Prop} {s : Shared} {z TI TO i1 i2 l1 l2 : Addr} {k1 k2 : Nat} {xs ys : Array Value} {x y a b : Value}
end
end GZN
namespace L2
open PySem PySem.Spec PyProof.Rows RZ GZN
end L2
namespace G
open PySem PySem.Spec PyProof.Rows L2
end G

set_option Elab.async false
set_option linter.all false
set_option maxRecDepth 100000
set_option maxHeartbeats 4000000
namespace G
open PySem PySem.Spec PyProof.Rows L2
section
open AutoSeq1 (wpAny_loadPart')
end
end G

set_option Elab.async false
set_option linter.all false
set_option maxRecDepth 100000
set_option maxHeartbeats 4000000
namespace L2
open PySem PySem.Spec PyProof.Rows
end L2
namespace G
open PySem PySem.Spec PyProof.Rows L2
end G

set_option Elab.async false
set_option linter.all false
set_option maxRecDepth 100000
set_option maxHeartbeats 4000000
namespace G
open PySem PySem.Spec PyProof.Rows L2
section
variable {X : Cx} {W : WX} {e : Expr} {me : ME} {pos : Pos}
end
end G

set_option Elab.async false
set_option linter.all false
set_option maxRecDepth 100000
set_option maxHeartbeats 4000000
namespace G
open PySem PySem.Spec PyProof.Rows L2
section
variable {X : Cx} {W : WX} {cn f : Str} {C : Addr} {a : Expr} {ma : ME} {p pos pos2 : Pos}
end
section
variable {X : Cx} {W : WX} {k j : Nat} {f : Addr} {fd : FuncData} {ps : List Str} {F : Fn} {x : Str} {st : Stmt} {p pos : Pos} {e : Expr} {es : List Expr} {ms : MA}
end
section
variable {X : Cx} {W : WX} {x n : Str} {c : Value} {i : Nat} {body suite : List Stmt} {b₀ : Stmt} {np pos pos' : Pos} {mb : MS} {su : Exc → Addr → Option Addr → MS} {yes : List Str}
end
section
variable {P : Program} {w : World} {K : PySem.W.Frag} {mg : Str → Option Value} {base : Heap}
end
namespace E_limit
open PySem.W PySem.Calls PySem.HandSPX
section
variable {prog : Program} {w : World} {A : Around} {E : Value → Shared → Prop} {R : Result → Shared → Prop} {s : Shared} {K : Frag} {mg : Str → Option Value} {C fI : Addr} {cn qn : Str}
end
section
variable {X : Cx} {C fI : Addr} {cn qn : Str}
end
end E_limit
section
variable {X : Cx} {W : WX} {k j : Nat} {f C a : Addr} {fd : FuncData} {ps : List Str} {F : Fn} {x : Str} {st : Stmt} {p pos : Pos} {e : Expr} {es : List Expr} {ms : MA} {oe : Obj} {d : Option Addr} {pn : List (Addr × Obj)}
end
section
variable {P : Program} {w : World} {K : PySem.W.Frag} {mg : Str → Option Value} {base : Heap}
end
end G

set_option Elab.async false
set_option linter.all false
set_option maxRecDepth 100000
set_option maxHeartbeats 4000000
namespace G
open PySem PySem.Spec PyProof.Rows L2
end G

set_option Elab.async false
set_option linter.all false
set_option maxRecDepth 100000
set_option maxHeartbeats 4000000
namespace G
open PySem PySem.Spec PyProof.Rows L2
section
variable {X : Cx} {W : WX} {pos : Pos}
end
section
variable {X : Cx} {e : Expr} {td : TE} {apos cpos pos p : Pos}
end
theorem RepD.vals {K : PySem.W.Frag} {F : Hp} {μ : List Addr} : ∀ {kvs : List (Key × Val)} {kws : List (Key × V)}, RepD K F μ kvs kws → RepL K F μ (kvs.map (·.2)) (kws.map (·.2))
  | _, _, .nil => .nil
  | _, _, .cons r t => .cons r t.vals
section
variable {X : Cx} {W : WX} {e : Expr} {me : ME} {apos cpos pos p : Pos}
end
theorem RepD.at {K : PySem.W.Frag} {F : Hp} {μ : List Addr} : ∀ {kvs : List (Key × Val)} {kws : List (Key × V)}, RepD K F μ kvs kws → ∀ {i : Nat} {k : Key} {w : V}, kws[i]? = some (k, w) → ∃ v, kvs[i]? = some (k, v)
  | _, _, .nil, _, _, _, e => by simp at e
  | _, _, .cons r t, 0, _, _, e => by simp at e; obtain ⟨rfl, rfl⟩ := e; exact ⟨_, rfl⟩
  | _, _, .cons r t, i + 1, _, _, e => by
    obtain ⟨v, h⟩ := t.at (i := i) (by simpa using e)
    exact ⟨v, by simpa using h⟩
section
variable {X : Cx} {W : WX} {o b m : Str} {po po1 pb pb1 pb2 pm ps pc pos : Pos} {scope : Scope} {io ib ii : Nat}
end
end G

set_option Elab.async false
set_option linter.all false
set_option maxRecDepth 100000
set_option maxHeartbeats 4000000
namespace GZT
open PySem
open PySem.Sem (wp)
structure ZL (z TI TO i1 i2 l1 l2 S : Addr) (xs ys : Array Value) (i : Nat) (h : Heap) : Prop where
  ti : IsPair h TI (.ref i1) (.ref i2)
  h1 : h.IsListIter i1 l1 i
  h2 : h.IsListIter i2 l2 i
  hl1 : h.IsList l1 xs
  hl2 : h.IsList l2 ys
  st : (IsZip h z TI TO .none ∧ ∃ a b, IsPair h TO a b) ∨ ∃ (T : Addr) (f : Bool) (oT : Obj), IsZipHeld h z TI TO T f ∧ h.get? T = some oT ∧ T ≠ z ∧ T ≠ i1 ∧ T ≠ i2 ∧ T ≠ S
structure Off (z TI TO i1 i2 l1 l2 S : Addr) : Prop where
  z : z ≠ S
  ti : TI ≠ S
  to : TO ≠ S
  i1 : i1 ≠ S
  i2 : i2 ≠ S
  l1 : l1 ≠ S
  l2 : l2 ≠ S
structure Prs (h : Heap) (N : Nat) (xs ys : Array Value) (Ts : List Addr) (i : Nat) : Prop where
  len : Ts.length = i
  up : Ts.Pairwise (fun a b : Nat => a < b)
  in_ : ∀ T ∈ Ts, N ≤ T ∧ (T : Nat) < h.objs.size
  at_ : ∀ (j : Nat) (T : Addr), Ts[j]? = some T → ∃ x y, xs[j]? = some x ∧ ys[j]? = some y ∧ IsPair h T x y
section
variable {prog : Program} {w : World} {A : Around} {E : Value → Shared → Prop} {s : Shared} {z TI TO i1 i2 l1 l2 S : Addr} {xs ys : Array Value} {i : Nat} {h h' : Heap}
theorem ZL.frame (O : Off z TI TO i1 i2 l1 l2 S) (st : ZL z TI TO i1 i2 l1 l2 S xs ys i h) (hk : ∀ b o, b ≠ S → h.get? b = some o → h'.get? b = some o) : ZL z TI TO i1 i2 l1 l2 S xs ys i h' := by
  obtain ⟨hTI, h1, h2, hl1, hl2, hz⟩ := st
  refine ⟨hk _ _ O.ti hTI, h1.at fun o e => hk _ o O.i1 e, h2.at fun o e => hk _ o O.i2 e, hl1.at fun o e => hk _ o O.l1 e, hl2.at fun o e => hk _ o O.l2 e, ?_⟩
  rcases hz with ⟨hz, a, b, hTO⟩ | ⟨T, f, oT, hz, hT, r1, r2, r3, r4⟩
  · exact .inl ⟨hk _ _ O.z hz, a, b, hk _ _ O.to hTO⟩
  · exact .inr ⟨T, f, oT, hk _ _ O.z hz, hk _ _ r4 hT, r1, r2, r3, r4⟩
theorem ZL.item (D : ZipApart z TI TO i1 i2 l1 l2) (st : ZL z TI TO i1 i2 l1 l2 S xs ys i s.heap) (hix : i < xs.size) (hiy : i < ys.size) (hS : S < s.heap.objs.size) {Q : Option Value → Shared → Prop}
    (hQ : ∀ h' x y, xs[i]? = some x → ys[i]? = some y → ZL z TI TO i1 i2 l1 l2 S xs ys (i + 1) h' → IsPair h' s.heap.objs.size x y → h'.objs.size = s.heap.objs.size + 1 → (∀ c o, c ≠ z → c ≠ TO → c ≠ i1 → c ≠ i2 → s.heap.get? c = some o → h'.get? c = some o) → Q (some (.ref s.heap.objs.size)) { s with heap := h' }) :
    wpAny (model prog w) A (pyNext (.ref z)) Q E s := by
  obtain ⟨hTI, h1, h2, hl1, hl2, hz⟩ := st
  have ex := Array.getElem?_eq_getElem hix
  have ey := Array.getElem?_eq_getElem hiy
  have lt : ∀ {c o}, s.heap.get? c = some o → s.heap.objs.size ≠ c := fun e => Nat.ne_of_gt (Heap.lt_size e)
  have n1 : s.heap.objs.size ≠ i1 := let ⟨_, e, _⟩ := h1; lt e
  have n2 : s.heap.objs.size ≠ i2 := let ⟨_, e, _⟩ := h2; lt e
  rcases hz with ⟨hz, a, b, hTO⟩ | ⟨T, f, oT, hz, hT, r1, r2, r3, r4⟩
  · refine wpAny_pyNext_zip_item D hz hTI hTO h1 h2 hl1 hl2 ex ey fun h' a1 a2 a3 a4 a5 a6 hk => ?_
    exact hQ h' _ _ ex ey
      ⟨hk _ _ D.TIz D.TITO D.TIi1 D.TIi2 hTI, a3, a4, hl1.at fun o e => hk _ o D.l1z D.l1TO D.l1i1 D.l1i2 e, hl2.at fun o e => hk _ o D.l2z D.l2TO D.l2i1 D.l2i2 e,
        .inr ⟨s.heap.objs.size, false, _, a1, a5, lt hz, n1, n2, Nat.ne_of_gt hS⟩⟩ a5 a6 hk
  · refine wpAny_pyNext_zip_item_held D hz hT hTI h1 h2 hl1 hl2 ex ey fun h' a1 a3 a4 a5 a6 hk => ?_
    exact hQ h' _ _ ex ey
      ⟨hk _ _ D.TIz D.TIi1 D.TIi2 hTI, a3, a4, hl1.at fun o e => hk _ o D.l1z D.l1i1 D.l1i2 e, hl2.at fun o e => hk _ o D.l2z D.l2i1 D.l2i2 e,
        .inr ⟨T, true, oT, a1, hk _ _ r1 r2 r3 hT, r1, r2, r3, r4⟩⟩ a5 a6 fun c o c1 _ c3 c4 e => hk c o c1 c3 c4 e
theorem ZL.done (hh : A.handled = none) (D : ZipApart z TI TO i1 i2 l1 l2) (st : ZL z TI TO i1 i2 l1 l2 S xs ys (min xs.size ys.size) s.heap) {Q : Option Value → Shared → Prop}
    (hQ : ∀ h', (∀ c o, c ≠ z → c ≠ TO → c ≠ i1 → c ≠ i2 → s.heap.get? c = some o → h'.get? c = some o) → s.heap.objs.size ≤ h'.objs.size ∨ True → Q none { s with heap := h' }) : wpAny (model prog w) A (pyNext (.ref z)) Q E s := by
  obtain ⟨hTI, h1, h2, hl1, hl2, hz⟩ := st
  have hend : xs[min xs.size ys.size]? = none ∨ ys[min xs.size ys.size]? = none := by
    rcases Nat.le_total xs.size ys.size with h | h
    · exact .inl (Array.getElem?_eq_none (by rw [Nat.min_eq_left h]; exact Nat.le_refl _))
    · exact .inr (Array.getElem?_eq_none (by rw [Nat.min_eq_right h]; exact Nat.le_refl _))
  rcases hz with ⟨hz, a, b, hTO⟩ | ⟨T, f, oT, hz, hT, r1, r2, r3, r4⟩
  · exact wpAny_pyNext_zip_end hh D hz hTI hTO h1 h2 hl1 hl2 hend fun h' hk => hQ h' hk (.inr trivial)
  · exact wpAny_pyNext_zip_end_held hh D hz hT hTI h1 h2 hl1 hl2 hend fun h' hk => hQ h' (fun c o c1 _ c3 c4 e => hk c o c1 c3 c4 e) (.inr trivial)
theorem Prs.keeps {N : Nat} {Ts : List Addr} (p : Prs h N xs ys Ts i) (k : ∀ T ∈ Ts, ∀ o, h.get? T = some o → h'.get? T = some o) : Prs h' N xs ys Ts i :=
  ⟨p.len, p.up, fun T hT => ⟨(p.in_ T hT).1, by
    obtain ⟨j, hj⟩ := List.mem_iff_getElem?.mp hT
    obtain ⟨x, y, _, _, q⟩ := p.at_ j T hj
    exact Heap.lt_size (k T hT _ q)⟩, fun j T hj => by
    obtain ⟨x, y, e1, e2, q⟩ := p.at_ j T hj
    exact ⟨x, y, e1, e2, k T (List.mem_of_getElem? hj) _ q⟩⟩
theorem Prs.push {N : Nat} {Ts : List Addr} {T : Addr} {x y : Value} (p : Prs h N xs ys Ts i) (hT : h.objs.size ≤ T) (hN : N ≤ h.objs.size) (k : ∀ T ∈ Ts, ∀ o, h.get? T = some o → h'.get? T = some o) (hp : IsPair h' T x y) (hx : xs[i]? = some x) (hy : ys[i]? = some y) : Prs h' N xs ys (Ts ++ [T]) (i + 1) := by
  have q := p.keeps k
  refine ⟨by simp [p.len], List.pairwise_append.mpr ⟨p.up, List.pairwise_singleton _ _, fun a ha b hb => ?_⟩, fun U hU => ?_, fun j U hj => ?_⟩
  · rw [List.mem_singleton.mp hb]
    exact Nat.lt_of_lt_of_le (p.in_ a ha).2 hT
  · rcases List.mem_append.mp hU with hU | hU
    · exact q.in_ U hU
    · rw [List.mem_singleton.mp hU]
      exact ⟨Nat.le_trans hN hT, Heap.lt_size hp⟩
  · by_cases hj' : j < i
    · rw [List.getElem?_append_left (by rw [p.len]; exact hj')] at hj
      exact q.at_ j U hj
    · rw [List.getElem?_append_right (by rw [p.len]; omega), p.len] at hj
      have hj0 : j - i = 0 := by
        have := (List.getElem?_eq_some_iff.mp hj).1
        simp at this
        omega
      rw [hj0] at hj
      cases hj
      have : j = i := by omega
      subst this
      exact ⟨x, y, hx, hy, hp⟩
end
end GZT
namespace L2
open PySem PySem.Spec PyProof.Rows GZT
section
variable {X : Cx} {pins : List (Addr × Obj)} {σ : L2.St} {H : Hp} {s : Shared}
end
end L2
namespace G
open PySem PySem.Spec PyProof.Rows L2
end G

set_option Elab.async false
set_option linter.all false
set_option maxRecDepth 100000
set_option maxHeartbeats 4000000
namespace L2
open PySem PySem.Spec PyProof.Rows
section
variable {prog : Program} {w : World} {A : Around} {E : Value → Shared → Prop} {s : Shared} {l : Addr} {its : List Value} {ns : List Int} {Q : Value → Shared → Prop}
end
end L2
namespace G
open PySem PySem.Spec PyProof.Rows L2
end G

set_option Elab.async false
set_option linter.all false
set_option maxRecDepth 100000
set_option maxHeartbeats 4000000
namespace G
open PySem PySem.Spec PyProof.Rows L2
section
variable {X : Cx} {e1 e2 : Expr} {ta : TA} {p p2 pos pos2 : Pos}
end
end G

set_option Elab.async false
set_option linter.all false
set_option maxRecDepth 100000
set_option maxHeartbeats 4000000
namespace G
open PySem PySem.Spec PyProof.Rows L2

abbrev tI (xs : List Int) : Val := .tup (xs.map Val.int)
abbrev lI (xs : List Int) : Val := .lst (xs.map Val.int)
def Runs (N : List Str) (m : MS) (ds : List Val) (S : Sto) (v' : Val) (S' : Sto) : Prop := ∃ fl v S1, m (startE N ds) S = some (fl, S1) ∧ retOf fl = some v ∧ Leaves S.length (v, S1) (v', S')
open Classical in
noncomputable def runK (N : List Str) (m : MS) (R : List Val → Sto → Val → Sto → Prop) : Fn := okF fun ds S => if h : ∃ p : Val × Sto, Runs N m ds S p.1 p.2 ∧ R ds S p.1 p.2 then some h.choose else none
theorem keeps_runK {N : List Str} {n : Nat} {m : MS} {R : List Val → Sto → Val → Sto → Prop} : Keeps N n m (runK N m R) := by
  intro ds S o hl h
  unfold runK okF prs at h
  split at h
  · rename_i v S' e
    cases h
    have e' : (open Classical in if h : ∃ p : Val × Sto, Runs N m ds S p.1 p.2 ∧ R ds S p.1 p.2 then some h.choose else none) = some (v, S') := e
    split at e'
    · rename_i hx
      have h1 := hx.choose_spec.1
      rw [Option.some.inj e'] at h1
      exact h1
    · cases e'
  · cases h
theorem keeps_len {N N' : List Str} {n : Nat} {m : MS} {f : Fn} (h : N.length = N'.length) (k : Keeps N n m f) : Keeps N' n m f := by
  intro ds S o hl e
  have := k ds S o hl e
  unfold startE at this ⊢
  rw [← h]
  exact this
theorem runK_ok {N : List Str} {m : MS} {R : List Val → Sto → Val → Sto → Prop} {ds : List Val} {S : Sto} {v : Val} {S' : Sto} (h : Runs N m ds S v S') (r : R ds S v S') : ∃ v1 S1, runK N m R ds S = some (.ok v1 S1) ∧ R ds S v1 S1 := by
  have hx : ∃ p : Val × Sto, Runs N m ds S p.1 p.2 ∧ R ds S p.1 p.2 := ⟨(v, S'), h, r⟩
  refine ⟨hx.choose.1, hx.choose.2, ?_, hx.choose_spec.2⟩
  unfold runK okF
  simp only [dif_pos hx]
  rfl
theorem runs_same {N : List Str} {m : MS} {ds : List Val} {S S1 : Sto} {v : Val} (h : m (startE N ds) S = some (.ret v, S1)) : Runs N m ds S v S1 := ⟨_, _, _, h, rfl, .same⟩
def seqK (r : SRes) (n : MS) : SRes := match r with
  | some (.next ρ, S) => n ρ S
  | r => r
theorem e_seq (m n : MS) (ρ : Ev) (S : Sto) : sSeq m n ρ S = seqK (m ρ S) n := by
  show (match m ρ S with | some (.next ρ', S') => n ρ' S' | r => r) = _
  rfl
theorem seqK_next (ρ : Ev) (S : Sto) (n : MS) : seqK (some (.next ρ, S)) n = n ρ S := rfl
theorem seqK_ret (v : Val) (S : Sto) (n : MS) : seqK (some (.ret v, S)) n = some (.ret v, S) := rfl
theorem seqK_brk (ρ : Ev) (S : Sto) (n : MS) : seqK (some (.brk ρ, S)) n = some (.brk ρ, S) := rfl
theorem seqK_exc (ρ : Ev) (e : Exc) (S : Sto) (n : MS) : seqK (some (.exc ρ e, S)) n = some (.exc ρ e, S) := rfl
theorem seqK_cont (ρ : Ev) (S : Sto) (n : MS) : seqK (some (.cont ρ, S)) n = some (.cont ρ, S) := rfl
theorem bnd_ok {α β : Type} (a : α) (S : Sto) (k : α → Sto → Res β) : bnd (some (.ok a S)) k = k a S := rfl
theorem bndN_ok {α β : Type} (a : α) (S : Sto) (k : α → Sto → Res β) : bndN (some (.ok a S)) k = k a S := rfl
theorem bns_ok {α : Type} (ρ : Ev) (a : α) (S : Sto) (k : α → Sto → SRes) : bns ρ (some (.ok a S)) k = k a S := rfl
theorem pur_some {α : Type} (a : α) (S : Sto) : pur (some a) S = some (.ok a S) := rfl
theorem prs_some {α : Type} (a : α) (S : Sto) : prs (some (a, S)) = some (.ok a S) := rfl
def varK (o : Option (Option Val)) (S : Sto) : Res Val := match o with
  | some (some v) => some (.ok v S)
  | _ => none
theorem e_var (i : Nat) (ρ : Ev) (S : Sto) : mVar i ρ S = varK ρ[i]? S := by
  rfl
theorem varK_some (v : Val) (S : Sto) : varK (some (some v)) S = some (.ok v S) := rfl
theorem toB_bl (b : Bool) : toB (.bl b) = some b := rfl
theorem op_int (f : Int → Int → Option Int) (S : Sto) (i j : Int) : iOp f S (.int i) (.int j) = (f i j).map Val.int := rfl
theorem cmp_int (f : Int → Int → Bool) (S : Sto) (i j : Int) : iCmp f S (.int i) (.int j) = some (.bl (f i j)) := rfl
theorem add_int (S : Sto) (i j : Int) : sAdd S (.int i) (.int j) = some (.int (i + j)) := rfl
theorem iadd_int (S : Sto) (i j : Int) : sIadd S (.int i) (.int j) = some (.int (i + j)) := rfl
theorem some_map {α β : Type} (f : α → β) (a : α) : Option.map f (some a) = some (f a) := rfl
theorem seq_tup (S : Sto) (xs : List Val) : seqOf S (.tup xs) = some (true, xs) := rfl
theorem seq_lst (S : Sto) (xs : List Val) : seqOf S (.lst xs) = some (false, xs) := rfl
theorem seq_scr (S : Sto) (xs : List Int) : seqOf S (.scr xs) = some (false, xs.map Val.int) := rfl
theorem seq_cell {S : Sto} {k : Nat} {xs : List Val} (h : S[k]? = some (.lst xs)) : seqOf S (.cell k) = some (false, xs) := by simp [seqOf, lstOf, h]
theorem cell_of {S : Sto} {k : Nat} {xs : List Val} (h : S[k]? = some (.lst xs)) : cellOf S (.cell k) = some (k, xs) := by simp [cellOf, h]
theorem lst_lst (S : Sto) (xs : List Val) : lstOf S (.lst xs) = some xs := rfl
theorem len_tup (S : Sto) (xs : List Val) : sLen S [.tup xs] = some (.int xs.length) := rfl
theorem len_lst (S : Sto) (xs : List Val) : sLen S [.lst xs] = some (.int xs.length) := rfl
theorem len_scr (S : Sto) (xs : List Int) : sLen S [.scr xs] = some (.int xs.length) := by simp [sLen, seqOf]
theorem gT_of {n : Nat} {g : MGs} {S : Sto} {v : Val} {ρ : Ev} {c : Bool} {xs : List Val} (h : seqOf S v = some (c, xs)) (hl : xs.length = n) : gT n g S v ρ = g S xs ρ := by
  have e : prsOf v = none := by
    cases v <;> first | rfl | (simp [seqOf, lstOf] at h)
  simp [gT, e, h, hl]
theorem gT_tup (n : Nat) (g : MGs) (S : Sto) (xs : List Val) (ρ : Ev) : gT n g S (.tup xs) ρ = if xs.length = n then g S xs ρ else none := rfl
theorem gT_lst (n : Nat) (g : MGs) (S : Sto) (xs : List Val) (ρ : Ev) : gT n g S (.lst xs) ρ = if xs.length = n then g S xs ρ else none := rfl
theorem gs_cons (f : MG) (g : MGs) (S : Sto) (v : Val) (r : List Val) (ρ : Ev) : gsCons f g S (v :: r) ρ = (f S v ρ).bind (g S r) := rfl
theorem gs_nil (S : Sto) (ρ : Ev) : gsNil S [] ρ = some ρ := rfl
theorem bind_some {α β : Type} (a : α) (f : α → Option β) : (some a).bind f = f a := rfl
def asgK (o : Option Ev) (S : Sto) : SRes := match o with
  | some ρ1 => some (.next ρ1, S)
  | none => none
theorem asgK_some (ρ : Ev) (S : Sto) : asgK (some ρ) S = some (.next ρ, S) := rfl
def subK (ρ : Ev) (o : Option Sto) : SRes := match o with
  | some S => some (.next ρ, S)
  | none => none
theorem subK_some (ρ : Ev) (S : Sto) : subK ρ (some S) = some (.next ρ, S) := rfl
theorem set_cell {S : Sto} {k : Nat} {xs : List Val} {i : Int} {v : Val} (h : S[k]? = some (.lst xs)) (h0 : 0 ≤ i) (h1 : i < xs.length) : sSetI S (.cell k) (.int i) v = some (S.set k (.lst (xs.set i.toNat v))) := by
  simp only [sSetI, cell_of h]
  rw [show ixN xs.length i = some i.toNat from by unfold ixN; simp [h0, h1]]
theorem atI_nat {α : Type} {xs : List α} {i : Int} (h0 : 0 ≤ i) (h1 : i < xs.length) : atI xs i = xs[i.toNat]? := by
  unfold atI
  rw [show ixN xs.length i = some i.toNat from by unfold ixN; simp [show ¬ i < 0 by omega, h0, h1]]
  rfl
theorem ix_seq {S : Sto} {v : Val} {i : Int} {c : Bool} {xs : List Val} {x : Val} (h : seqOf S v = some (c, xs)) (hx : atI xs i = some x) : sIx S v (.int i) = some x := by
  cases v <;> simp_all [sIx, seqOf, lstOf]
theorem ix_lI {S : Sto} {xs : List Int} {i : Int} (h0 : 0 ≤ i) (h1 : i < xs.length) : sIx S (lI xs) (.int i) = some (.int (xs.getD i.toNat 0)) := by
  refine ix_seq rfl ?_
  rw [atI_nat h0 (by simpa using h1), List.getElem?_map, List.getD_eq_getElem?_getD]
  rw [List.getElem?_eq_getElem (by omega)]
  rfl
theorem int_bl (S : Sto) (b : Bool) : sInt S [.bl b] = some (.int (if b then 1 else 0)) := rfl
theorem int_int (S : Sto) (i : Int) : sInt S [.int i] = some (.int i) := rfl
theorem abs_int (S : Sto) (i : Int) : sAbs S [.int i] = some (.int (if i < 0 then -i else i)) := rfl
theorem max2_int (S : Sto) (i j : Int) : sMax2 S [.int i, .int j] = some (.int (if j > i then j else i)) := rfl
theorem min2_int (S : Sto) (i j : Int) : sMin2 S [.int i, .int j] = some (.int (if j < i then j else i)) := rfl
theorem tuple_tup (S : Sto) (xs : List Val) : sTuple S [.tup xs] = some (.tup xs) := rfl
theorem tuple_lst (S : Sto) (xs : List Val) : sTuple S [.lst xs] = some (.tup xs) := rfl
theorem rev_tup (S : Sto) (xs : List Val) : sRev S (.tup xs) = some (.tup xs.reverse) := rfl
theorem rev_lst (S : Sto) (xs : List Val) : sRev S (.lst xs) = some (.lst xs.reverse) := rfl
theorem sz : sizeLine = 16777216 := by decide
def rgK1 (vs : List Val) (S : Sto) : Res (List Val × Gd) := match vs with
  | [.int j] => if -(2 ^ 62) ≤ j ∧ j < 2 ^ 62 then some (.ok (rangeL 0 j, []) S) else none
  | _ => none
def rgK2 (vs : List Val) (S : Sto) : Res (List Val × Gd) := match vs with
  | [.int i, .int j] => if -(2 ^ 62) ≤ i ∧ i < 2 ^ 62 ∧ -(2 ^ 62) ≤ j ∧ j < 2 ^ 62 then some (.ok (rangeL i j, []) S) else none
  | _ => none
theorem e_range1 (ms : MA) (ρ : Ev) (S : Sto) : mRange1 ms ρ S = bnd (ms ρ S) rgK1 := rfl
theorem e_range2 (ms : MA) (ρ : Ev) (S : Sto) : mRange2 ms ρ S = bnd (ms ρ S) rgK2 := rfl
theorem range1_ok {j : Int} {S : Sto} (h0 : -4611686018427387904 ≤ j) (h1 : j < 4611686018427387904) : rgK1 [.int j] S = some (.ok (rangeL 0 j, []) S) := by
  unfold rgK1
  simp only
  rw [if_pos ⟨h0, h1⟩]
theorem range2_ok {i j : Int} {S : Sto} (h0 : -4611686018427387904 ≤ i) (h1 : i < 4611686018427387904) (h2 : -4611686018427387904 ≤ j) (h3 : j < 4611686018427387904) : rgK2 [.int i, .int j] S = some (.ok (rangeL i j, []) S) := by
  unfold rgK2
  simp only
  rw [if_pos ⟨h0, h1, h2, h3⟩]
theorem p10_6 : fPow 10 6 = some 1000000 := by decide
theorem p10_10 : fPow 10 10 = some 10000000000 := by decide
theorem p10_12 : fPow 10 12 = some 1000000000000 := by decide
theorem p10_18 : fPow 10 18 = some 1000000000000000000 := by decide
theorem cut_to {α : Type} {xs : List α} {i : Int} (h : 0 ≤ i) : cutL xs none (some i) = xs.take i.toNat := by
  unfold cutL
  simp only [HT.sIx, if_neg (show ¬ i < 0 by omega), List.drop_zero, Nat.sub_zero]
  rw [List.take_eq_take_iff]
  omega
theorem sl_tup (S : Sto) (xs : List Val) (lo hi : Option Int) : sSlice S (.tup xs) lo hi = some (.tup (cutL xs lo hi)) := rfl
theorem sl_lst (S : Sto) (xs : List Val) (lo hi : Option Int) : sSlice S (.lst xs) lo hi = some (.lst (cutL xs lo hi)) := rfl
theorem sl_scr (S : Sto) (xs : List Int) (lo hi : Option Int) : sSlice S (.scr xs) lo hi = some (.lst (cutL (xs.map Val.int) lo hi)) := rfl
theorem items_tup (S : Sto) (xs : List Val) : itemsOf S (.tup xs) = some (xs, []) := rfl
theorem items_lst (S : Sto) (xs : List Val) : itemsOf S (.lst xs) = some (xs, []) := rfl

def kO2b (f : Sto → Val → Val → Option Val) (x y : Val) (S : Sto) : Res Val := pur (f S x y) S
def kO2 (f : Sto → Val → Val → Option Val) (mb : ME) (ρ : Ev) (x : Val) (S : Sto) : Res Val := bnd (mb ρ S) (kO2b f x)
theorem e_o2 (f : Sto → Val → Val → Option Val) (ma mb : ME) (ρ : Ev) (S : Sto) : mO2 f ma mb ρ S = bnd (ma ρ S) (kO2 f mb ρ) := rfl
theorem e_kO2 (f : Sto → Val → Val → Option Val) (mb : ME) (ρ : Ev) (x : Val) (S : Sto) : kO2 f mb ρ x S = bnd (mb ρ S) (kO2b f x) := rfl
theorem e_kO2b (f : Sto → Val → Val → Option Val) (x y : Val) (S : Sto) : kO2b f x y S = pur (f S x y) S := rfl
def kO1 (f : Sto → Val → Option Val) (x : Val) (S : Sto) : Res Val := pur (f S x) S
theorem e_o1 (f : Sto → Val → Option Val) (ma : ME) (ρ : Ev) (S : Sto) : mO1 f ma ρ S = bnd (ma ρ S) (kO1 f) := rfl
theorem e_kO1 (f : Sto → Val → Option Val) (x : Val) (S : Sto) : kO1 f x S = pur (f S x) S := rfl
def kConsb (x : Val) (xs : List Val) (S : Sto) : Res (List Val) := some (.ok (x :: xs) S)
def kCons (ms : MA) (ρ : Ev) (x : Val) (S : Sto) : Res (List Val) := bnd (ms ρ S) (kConsb x)
theorem e_cons (m : ME) (ms : MA) (ρ : Ev) (S : Sto) : mCons m ms ρ S = bnd (m ρ S) (kCons ms ρ) := rfl
theorem e_kCons (ms : MA) (ρ : Ev) (x : Val) (S : Sto) : kCons ms ρ x S = bnd (ms ρ S) (kConsb x) := rfl
theorem e_kConsb (x : Val) (xs : List Val) (S : Sto) : kConsb x xs S = some (.ok (x :: xs) S) := rfl
theorem e_nil (ρ : Ev) (S : Sto) : mNil ρ S = some (.ok [] S) := rfl
theorem e_c (v : Val) (ρ : Ev) (S : Sto) : mC v ρ S = some (.ok v S) := rfl
def kCa (f : Sto → List Val → Option Val) (xs : List Val) (S : Sto) : Res Val := pur (f S xs) S
theorem e_ca (f : Sto → List Val → Option Val) (ms : MA) (ρ : Ev) (S : Sto) : mCa f ms ρ S = bnd (ms ρ S) (kCa f) := rfl
theorem e_kCa (f : Sto → List Val → Option Val) (xs : List Val) (S : Sto) : kCa f xs S = pur (f S xs) S := rfl
def kCs (f : Sto → List Val → Option (Val × Sto)) (xs : List Val) (S : Sto) : Res Val := prs (f S xs)
theorem e_cs (f : Sto → List Val → Option (Val × Sto)) (ms : MA) (ρ : Ev) (S : Sto) : mCs f ms ρ S = bnd (ms ρ S) (kCs f) := rfl
theorem e_kCs (f : Sto → List Val → Option (Val × Sto)) (xs : List Val) (S : Sto) : kCs f xs S = prs (f S xs) := rfl
def kTB (v : Val) (S : Sto) : Res Bool := pur (toB v) S
theorem e_tb (m : ME) (ρ : Ev) (S : Sto) : mTB m ρ S = bnd (m ρ S) kTB := rfl
theorem e_kTB (v : Val) (S : Sto) : kTB v S = pur (toB v) S := rfl
def kTr (v : Val) (S : Sto) : Res Bool := pur (truth S v) S
theorem e_tr (m : ME) (ρ : Ev) (S : Sto) : mTr m ρ S = bnd (m ρ S) kTr := rfl
theorem e_kTr (v : Val) (S : Sto) : kTr v S = pur (truth S v) S := rfl
def kAndT (n : MT) (ρ : Ev) (b : Bool) (S : Sto) : Res Bool := if b then n ρ S else some (.ok false S)
theorem e_andT (m n : MT) (ρ : Ev) (S : Sto) : mAndT m n ρ S = bnd (m ρ S) (kAndT n ρ) := rfl
theorem e_kAndT (n : MT) (ρ : Ev) (b : Bool) (S : Sto) : kAndT n ρ b S = if b then n ρ S else some (.ok false S) := rfl
def kOrT (n : MT) (ρ : Ev) (b : Bool) (S : Sto) : Res Bool := if b then some (.ok true S) else n ρ S
theorem e_orT (m n : MT) (ρ : Ev) (S : Sto) : mOrT m n ρ S = bnd (m ρ S) (kOrT n ρ) := rfl
theorem e_kOrT (n : MT) (ρ : Ev) (b : Bool) (S : Sto) : kOrT n ρ b S = if b then some (.ok true S) else n ρ S := rfl
def kNotT (b : Bool) (S : Sto) : Res Bool := some (.ok (!b) S)
theorem e_notT (m : MT) (ρ : Ev) (S : Sto) : mNotT m ρ S = bnd (m ρ S) kNotT := rfl
theorem e_kNotT (b : Bool) (S : Sto) : kNotT b S = some (.ok (!b) S) := rfl
def kIf (m n : ME) (ρ : Ev) (b : Bool) (S : Sto) : Res Val := if b then m ρ S else n ρ S
theorem e_if (t : MT) (m n : ME) (ρ : Ev) (S : Sto) : mIf t m n ρ S = bnd (t ρ S) (kIf m n ρ) := rfl
theorem e_kIf (m n : ME) (ρ : Ev) (b : Bool) (S : Sto) : kIf m n ρ b S = if b then m ρ S else n ρ S := rfl
theorem e_no (ρ : Ev) (S : Sto) : mNo ρ S = some (.ok none S) := rfl
def kPart (v : Val) (S : Sto) : Res (Option Int) := mPart (mC v) [] S
theorem e_part (m : ME) (ρ : Ev) (S : Sto) : mPart m ρ S = bnd (m ρ S) kPart := by
  unfold mPart kPart
  rfl
theorem e_kPart (i : Int) (S : Sto) : kPart (.int i) S = some (.ok (some i) S) := by
  unfold kPart mPart mC
  simp [bnd]
def kSlc (f : Sto → Val → Option Int → Option Int → Option Val) (x : Val) (l h : Option Int) (S : Sto) : Res Val := pur (f S x l h) S
def kSlb (f : Sto → Val → Option Int → Option Int → Option Val) (mh : MO) (ρ : Ev) (x : Val) (l : Option Int) (S : Sto) : Res Val := bnd (mh ρ S) (kSlc f x l)
def kSl (f : Sto → Val → Option Int → Option Int → Option Val) (ml mh : MO) (ρ : Ev) (x : Val) (S : Sto) : Res Val := bnd (ml ρ S) (kSlb f mh ρ x)
theorem e_sl (f : Sto → Val → Option Int → Option Int → Option Val) (m : ME) (ml mh : MO) (ρ : Ev) (S : Sto) : mSl f m ml mh ρ S = bnd (m ρ S) (kSl f ml mh ρ) := rfl
theorem e_kSl (f : Sto → Val → Option Int → Option Int → Option Val) (ml mh : MO) (ρ : Ev) (x : Val) (S : Sto) : kSl f ml mh ρ x S = bnd (ml ρ S) (kSlb f mh ρ x) := rfl
theorem e_kSlb (f : Sto → Val → Option Int → Option Int → Option Val) (mh : MO) (ρ : Ev) (x : Val) (l : Option Int) (S : Sto) : kSlb f mh ρ x l S = bnd (mh ρ S) (kSlc f x l) := rfl
theorem e_kSlc (f : Sto → Val → Option Int → Option Int → Option Val) (x : Val) (l h : Option Int) (S : Sto) : kSlc f x l h S = pur (f S x l h) S := rfl
def kMtb (f : Sto → Val → List Val → Option (Val × Sto)) (o : Val) (vs : List Val) (S : Sto) : Res Val := prs (f S o vs)
def kMt (f : Sto → Val → List Val → Option (Val × Sto)) (ms : MA) (ρ : Ev) (o : Val) (S : Sto) : Res Val := if (lstOf S o).isSome = true then bnd (ms ρ S) (kMtb f o) else none
theorem e_mt (f : Sto → Val → List Val → Option (Val × Sto)) (mo : ME) (ms : MA) (ρ : Ev) (S : Sto) : mMt f mo ms ρ S = bnd (mo ρ S) (kMt f ms ρ) := rfl
theorem e_kMt (f : Sto → Val → List Val → Option (Val × Sto)) (ms : MA) (ρ : Ev) (o : Val) (S : Sto) : kMt f ms ρ o S = if (lstOf S o).isSome = true then bnd (ms ρ S) (kMtb f o) else none := rfl
theorem e_kMtb (f : Sto → Val → List Val → Option (Val × Sto)) (o : Val) (vs : List Val) (S : Sto) : kMtb f o vs S = prs (f S o vs) := rfl
def kVal (v : Val) (S : Sto) : Res (List Val × Gd) := pur (itemsOf S v) S
theorem e_val (m : ME) (ρ : Ev) (S : Sto) : mVal m ρ S = bnd (m ρ S) kVal := rfl
theorem e_kVal (v : Val) (S : Sto) : kVal v S = pur (itemsOf S v) S := rfl
def kEnumb (o : Option (List Val × Gd)) (S : Sto) : Res (List Val × Gd) := match o with
  | some (xs, g) => some (.ok (pairsOf' xs, g) S)
  | none => none
def kEnum (vs : List Val) (S : Sto) : Res (List Val × Gd) := match vs with
  | [v] => kEnumb (itemsOf S v) S
  | _ => none
theorem e_enum (m : MA) (ρ : Ev) (S : Sto) : mEnum m ρ S = bnd (m ρ S) kEnum := rfl
theorem e_kEnum (v : Val) (S : Sto) : kEnum [v] S = kEnumb (itemsOf S v) S := rfl
theorem e_kEnumb (xs : List Val) (g : Gd) (S : Sto) : kEnumb (some (xs, g)) S = some (.ok (pairsOf' xs, g) S) := rfl
theorem e_yes (ρ : Ev) (S : Sto) : mYes ρ S = some (.ok true S) := rfl
def kCal (n : Nat) (f : Fn) (vs : List Val) (S : Sto) : Res Val := if vs.length = n then f vs S else none
theorem e_call (n : Nat) (f : Fn) (ms : MA) (ρ : Ev) (S : Sto) : mCal n f ms ρ S = bnd (ms ρ S) (kCal n f) := rfl
theorem e_kCal (n : Nat) (f : Fn) (vs : List Val) (S : Sto) : kCal n f vs S = if vs.length = n then f vs S else none := rfl
theorem e_snil (ρ : Ev) (S : Sto) : sNil ρ S = some (.next ρ, S) := rfl
theorem e_brk (ρ : Ev) (S : Sto) : sBrk ρ S = some (.brk ρ, S) := rfl
theorem e_cont (ρ : Ev) (S : Sto) : sCont ρ S = some (.cont ρ, S) := rfl
theorem e_retN (ρ : Ev) (S : Sto) : sRetN ρ S = some (.ret .non, S) := rfl
def kExpr (ρ : Ev) (v : Val) (S : Sto) : SRes := some (.next ρ, S)
theorem e_expr (m : ME) (ρ : Ev) (S : Sto) : sExpr m ρ S = bns ρ (m ρ S) (kExpr ρ) := rfl
theorem e_kExpr (ρ : Ev) (v : Val) (S : Sto) : kExpr ρ v S = some (.next ρ, S) := rfl
def kRet (v : Val) (S : Sto) : SRes := some (.ret v, S)
theorem e_ret (m : ME) (ρ : Ev) (S : Sto) : sRet m ρ S = bns ρ (m ρ S) kRet := rfl
theorem e_kRet (v : Val) (S : Sto) : kRet v S = some (.ret v, S) := rfl
def kSIf (m n : MS) (ρ : Ev) (b : Bool) (S : Sto) : SRes := if b then m ρ S else n ρ S
theorem e_sif (t : MT) (m n : MS) (ρ : Ev) (S : Sto) : sIf t m n ρ S = bns ρ (t ρ S) (kSIf m n ρ) := rfl
theorem e_kSIf (m n : MS) (ρ : Ev) (b : Bool) (S : Sto) : kSIf m n ρ b S = if b then m ρ S else n ρ S := rfl
def kSet (i : Nat) (ρ : Ev) (v : Val) (S : Sto) : SRes := some (.next (ρ.set i (some v)), S)
theorem e_set (i : Nat) (m : ME) (ρ : Ev) (S : Sto) : sSet i m ρ S = bns ρ (m ρ S) (kSet i ρ) := rfl
theorem e_kSet (i : Nat) (ρ : Ev) (v : Val) (S : Sto) : kSet i ρ v S = some (.next (ρ.set i (some v)), S) := rfl
def kPar (i j : Nat) (ρ : Ev) (vs : List Val) (S : Sto) : SRes := match vs with
  | [v, w] => some (.next ((ρ.set i (some v)).set j (some w)), S)
  | _ => none
theorem e_par (i j : Nat) (ms : MA) (ρ : Ev) (S : Sto) : sPar i j ms ρ S = bns ρ (ms ρ S) (kPar i j ρ) := rfl
theorem e_kPar (i j : Nat) (ρ : Ev) (v w : Val) (S : Sto) : kPar i j ρ [v, w] S = some (.next ((ρ.set i (some v)).set j (some w)), S) := rfl
def kPar3 (i j l : Nat) (ρ : Ev) (vs : List Val) (S : Sto) : SRes := match vs with
  | [u, v, w] => some (.next (((ρ.set i (some u)).set j (some v)).set l (some w)), S)
  | _ => none
theorem e_par3 (i j l : Nat) (ms : MA) (ρ : Ev) (S : Sto) : sPar3 i j l ms ρ S = bns ρ (ms ρ S) (kPar3 i j l ρ) := rfl
theorem e_kPar3 (i j l : Nat) (ρ : Ev) (u v w : Val) (S : Sto) : kPar3 i j l ρ [u, v, w] S = some (.next (((ρ.set i (some u)).set j (some v)).set l (some w)), S) := rfl
def kAugc (i : Nat) (ρ : Ev) (o : Option Val) (S : Sto) : SRes := match o with
  | some z => some (.next (ρ.set i (some z)), S)
  | none => none
def kAugb (i : Nat) (f : Sto → Val → Val → Option Val) (ρ : Ev) (x y : Val) (S : Sto) : SRes := kAugc i ρ (f S x y) S
def kAug (i : Nat) (f : Sto → Val → Val → Option Val) (m : ME) (ρ : Ev) (S : Sto) (o : Option (Option Val)) : SRes := match o with
  | some (some x) => bns ρ (m ρ S) (kAugb i f ρ x)
  | _ => none
theorem e_aug (i : Nat) (f : Sto → Val → Val → Option Val) (m : ME) (ρ : Ev) (S : Sto) : sAug i f m ρ S = kAug i f m ρ S ρ[i]? := rfl
theorem e_kAug (i : Nat) (f : Sto → Val → Val → Option Val) (m : ME) (ρ : Ev) (S : Sto) (x : Val) : kAug i f m ρ S (some (some x)) = bns ρ (m ρ S) (kAugb i f ρ x) := rfl
theorem e_kAugb (i : Nat) (f : Sto → Val → Val → Option Val) (ρ : Ev) (x y : Val) (S : Sto) : kAugb i f ρ x y S = kAugc i ρ (f S x y) S := rfl
theorem e_kAugc (i : Nat) (ρ : Ev) (z : Val) (S : Sto) : kAugc i ρ (some z) S = some (.next (ρ.set i (some z)), S) := rfl
def kTup (xs : List Val) (S : Sto) : Res Val := if xs.length ≤ sizeLine then some (.ok (.tup xs) S) else none
theorem e_tup (ms : MA) (ρ : Ev) (S : Sto) : mTup ms ρ S = bnd (ms ρ S) kTup := rfl
theorem e_kTup (xs : List Val) (S : Sto) : kTup xs S = if xs.length ≤ sizeLine then some (.ok (.tup xs) S) else none := rfl
def kLst (xs : List Val) (S : Sto) : Res Val := if xs.length ≤ sizeLine then some (.ok (.lst xs) S) else none
theorem e_lst (ms : MA) (ρ : Ev) (S : Sto) : mLst ms ρ S = bnd (ms ρ S) kLst := rfl
theorem e_kLst (xs : List Val) (S : Sto) : kLst xs S = if xs.length ≤ sizeLine then some (.ok (.lst xs) S) else none := rfl
def kNew (xs : List Val) (S : Sto) : Res Val := if xs.length ≤ sizeLine then some (.ok (.cell S.length) (S ++ [.lst xs])) else none
theorem e_new (ms : MA) (ρ : Ev) (S : Sto) : mNew ms ρ S = bnd (ms ρ S) kNew := rfl
theorem e_kNew (xs : List Val) (S : Sto) : kNew xs S = if xs.length ≤ sizeLine then some (.ok (.cell S.length) (S ++ [.lst xs])) else none := rfl
def kLcb (ys : List Val) (S : Sto) : Res Val := some (.ok (.lst ys) S)
noncomputable def kLc (t : MG) (tt : MT) (te : ME) (ρ : Ev) (a : List Val × Gd) (S : Sto) : Res Val := bndN (lcL a.2 t tt te ρ a.1 S []) kLcb
theorem e_lc (mi : MI) (t : MG) (tt : MT) (te : ME) (vs : List Nat) (ρ : Ev) (S : Sto) : mLc mi t tt te vs ρ S = bnd (mi ρ S) (kLc t tt te (wipeE ρ vs)) := rfl
theorem e_kLc (t : MG) (tt : MT) (te : ME) (ρ : Ev) (xs : List Val) (g : Gd) (S : Sto) : kLc t tt te ρ (xs, g) S = bndN (lcL g t tt te ρ xs S []) kLcb := rfl
theorem e_kLcb (ys : List Val) (S : Sto) : kLcb ys S = some (.ok (.lst ys) S) := rfl
def kLcCb (ys : List Val) (S : Sto) : Res Val := some (.ok (.cell S.length) (S ++ [.lst ys]))
noncomputable def kLcC (t : MG) (tt : MT) (te : ME) (ρ : Ev) (a : List Val × Gd) (S : Sto) : Res Val := bndN (lcL a.2 t tt te ρ a.1 S []) kLcCb
theorem e_lcC (mi : MI) (t : MG) (tt : MT) (te : ME) (vs : List Nat) (ρ : Ev) (S : Sto) : mLcC mi t tt te vs ρ S = bnd (mi ρ S) (kLcC t tt te (wipeE ρ vs)) := rfl
theorem e_kLcC (t : MG) (tt : MT) (te : ME) (ρ : Ev) (xs : List Val) (g : Gd) (S : Sto) : kLcC t tt te ρ (xs, g) S = bndN (lcL g t tt te ρ xs S []) kLcCb := rfl
theorem e_kLcCb (ys : List Val) (S : Sto) : kLcCb ys S = some (.ok (.cell S.length) (S ++ [.lst ys])) := rfl
noncomputable def kFor (t : MG) (b : MS) (ρ : Ev) (a : List Val × Gd) (S : Sto) : SRes := forL a.2 t b a.1 ρ S
theorem e_for (mi : MI) (t : MG) (b : MS) (ρ : Ev) (S : Sto) : sFor mi t b ρ S = bns ρ (mi ρ S) (kFor t b ρ) := rfl
theorem e_kFor (t : MG) (b : MS) (ρ : Ev) (xs : List Val) (g : Gd) (S : Sto) : kFor t b ρ (xs, g) S = forL g t b xs ρ S := rfl
theorem e_gN (i : Nat) (S : Sto) (v : Val) (ρ : Ev) : gN i S v ρ = some (ρ.set i (some v)) := rfl
def kGs (g : MGs) (S : Sto) (r : List Val) (ρ : Ev) : Option Ev := g S r ρ
theorem e_kGs (g : MGs) (S : Sto) (r : List Val) (ρ : Ev) : kGs g S r ρ = g S r ρ := rfl
def kAsg (g : MG) (ρ : Ev) (v : Val) (S : Sto) : SRes := asgK (g S v ρ) S
theorem e_kAsg (g : MG) (ρ : Ev) (v : Val) (S : Sto) : kAsg g ρ v S = asgK (g S v ρ) S := rfl
theorem e_asg (g : MG) (m : ME) (ρ : Ev) (S : Sto) : sAsg g m ρ S = bns ρ (m ρ S) (kAsg g ρ) := by
  unfold sAsg
  congr
def kSubc (f : Sto → Val → Val → Val → Option Sto) (ρ : Ev) (v o i : Val) (S : Sto) : SRes := subK ρ (f S o i v)
def kSubb (f : Sto → Val → Val → Val → Option Sto) (mi : ME) (ρ : Ev) (v o : Val) (S : Sto) : SRes := bns ρ (mi ρ S) (kSubc f ρ v o)
def kSub (f : Sto → Val → Val → Val → Option Sto) (mo mi : ME) (ρ : Ev) (v : Val) (S : Sto) : SRes := bns ρ (mo ρ S) (kSubb f mi ρ v)
theorem e_kSubc (f : Sto → Val → Val → Val → Option Sto) (ρ : Ev) (v o i : Val) (S : Sto) : kSubc f ρ v o i S = subK ρ (f S o i v) := rfl
theorem e_kSubb (f : Sto → Val → Val → Val → Option Sto) (mi : ME) (ρ : Ev) (v o : Val) (S : Sto) : kSubb f mi ρ v o S = bns ρ (mi ρ S) (kSubc f ρ v o) := rfl
theorem e_kSub (f : Sto → Val → Val → Val → Option Sto) (mo mi : ME) (ρ : Ev) (v : Val) (S : Sto) : kSub f mo mi ρ v S = bns ρ (mo ρ S) (kSubb f mi ρ v) := rfl
theorem e_sub (f : Sto → Val → Val → Val → Option Sto) (mo mi m : ME) (ρ : Ev) (S : Sto) : sSub f mo mi m ρ S = bns ρ (m ρ S) (kSub f mo mi ρ) := by
  unfold sSub
  congr
def kAndV (n : ME) (ρ : Ev) (v : Val) (S : Sto) (o : Option Bool) : Res Val := match o with
  | some true => n ρ S
  | some false => some (.ok v S)
  | none => none
def kOrV (n : ME) (ρ : Ev) (v : Val) (S : Sto) (o : Option Bool) : Res Val := match o with
  | some true => some (.ok v S)
  | some false => n ρ S
  | none => none
def kNotV (S : Sto) (o : Option Bool) : Res Val := match o with
  | some b => some (.ok (.bl (!b)) S)
  | none => none
def kAnd (n : ME) (ρ : Ev) (v : Val) (S : Sto) : Res Val := kAndV n ρ v S (truth S v)
def kOr (n : ME) (ρ : Ev) (v : Val) (S : Sto) : Res Val := kOrV n ρ v S (truth S v)
def kNot (v : Val) (S : Sto) : Res Val := kNotV S (truth S v)
theorem e_and (m n : ME) (ρ : Ev) (S : Sto) : mAnd m n ρ S = bnd (m ρ S) (kAnd n ρ) := by
  unfold mAnd
  congr
theorem e_or (m n : ME) (ρ : Ev) (S : Sto) : mOr m n ρ S = bnd (m ρ S) (kOr n ρ) := by
  unfold mOr
  congr
theorem e_not (m : ME) (ρ : Ev) (S : Sto) : mNot m ρ S = bnd (m ρ S) kNot := by
  unfold mNot
  congr
theorem e_kAnd (n : ME) (ρ : Ev) (v : Val) (S : Sto) : kAnd n ρ v S = kAndV n ρ v S (truth S v) := rfl
theorem e_kOr (n : ME) (ρ : Ev) (v : Val) (S : Sto) : kOr n ρ v S = kOrV n ρ v S (truth S v) := rfl
theorem e_kNot (v : Val) (S : Sto) : kNot v S = kNotV S (truth S v) := rfl
theorem and_t (n : ME) (ρ : Ev) (v : Val) (S : Sto) : kAndV n ρ v S (some true) = n ρ S := rfl
theorem and_f (n : ME) (ρ : Ev) (v : Val) (S : Sto) : kAndV n ρ v S (some false) = some (.ok v S) := rfl
theorem or_t (n : ME) (ρ : Ev) (v : Val) (S : Sto) : kOrV n ρ v S (some true) = some (.ok v S) := rfl
theorem or_f (n : ME) (ρ : Ev) (v : Val) (S : Sto) : kOrV n ρ v S (some false) = n ρ S := rfl
theorem not_b (S : Sto) (b : Bool) : kNotV S (some b) = some (.ok (.bl (!b)) S) := rfl
def kChc (g : Sto → Val → Val → Option Val) (y z : Val) (S : Sto) : Res Val := pur (g S y z) S
def kChv (g : Sto → Val → Val → Option Val) (mc : ME) (ρ : Ev) (y : Val) (S : Sto) (o : Option Val) : Res Val := match o with
  | some (.bl true) => bnd (mc ρ S) (kChc g y)
  | some (.bl false) => some (.ok (.bl false) S)
  | _ => none
def kChb (f g : Sto → Val → Val → Option Val) (mc : ME) (ρ : Ev) (x y : Val) (S : Sto) : Res Val := kChv g mc ρ y S (f S x y)
def kCh (f g : Sto → Val → Val → Option Val) (mb mc : ME) (ρ : Ev) (x : Val) (S : Sto) : Res Val := bnd (mb ρ S) (kChb f g mc ρ x)
theorem e_chain (f g : Sto → Val → Val → Option Val) (ma mb mc : ME) (ρ : Ev) (S : Sto) : mChain f g ma mb mc ρ S = bnd (ma ρ S) (kCh f g mb mc ρ) := rfl
theorem e_kCh (f g : Sto → Val → Val → Option Val) (mb mc : ME) (ρ : Ev) (x : Val) (S : Sto) : kCh f g mb mc ρ x S = bnd (mb ρ S) (kChb f g mc ρ x) := rfl
theorem e_kChb (f g : Sto → Val → Val → Option Val) (mc : ME) (ρ : Ev) (x y : Val) (S : Sto) : kChb f g mc ρ x y S = kChv g mc ρ y S (f S x y) := rfl
theorem e_kChv (g : Sto → Val → Val → Option Val) (mc : ME) (ρ : Ev) (y : Val) (S : Sto) (b : Bool) : kChv g mc ρ y S (some (.bl b)) = if b then bnd (mc ρ S) (kChc g y) else some (.ok (.bl false) S) := by cases b <;> rfl
theorem e_kChc (g : Sto → Val → Val → Option Val) (y z : Val) (S : Sto) : kChc g y z S = pur (g S y z) S := rfl
theorem tr_bl (S : Sto) (b : Bool) : truth S (.bl b) = some b := rfl
theorem tr_int (S : Sto) (i : Int) : truth S (.int i) = some (i != 0) := rfl
theorem tr_non (S : Sto) : truth S .non = some false := rfl
theorem neg_int (S : Sto) (i : Int) : sNeg S (.int i) = some (.int (-i)) := rfl
theorem items_str (S : Sto) (z : Str) : itemsOf S (.str z) = some (signs z, []) := rfl
theorem e_ms (f : Sto → Val → List Val → Option (Val × Sto)) (mo : ME) (ms : MA) (ρ : Ev) (S : Sto) : mMs f mo ms ρ S = bnd (mo ρ S) (kMs f ms ρ) := rfl
theorem e_kMs (f : Sto → Val → List Val → Option (Val × Sto)) (ms : MA) (ρ : Ev) (a : Str) (S : Sto) : kMs f ms ρ (.str a) S = bnd (ms ρ S) (kMx f (.str a)) := rfl
theorem e_kMx (f : Sto → Val → List Val → Option (Val × Sto)) (o : Val) (vs : List Val) (S : Sto) : kMx f o vs S = prs (f S o vs) := rfl
theorem count_str (S : Sto) (a b : Str) : sCountS S (.str a) [.str b] = some (.int (Txt.count a b), S) := rfl
theorem mul_int (S : Sto) (i j : Int) : sMul S (.int i) (.int j) = (fMul i j).map Val.int := rfl
mutual
def nc : Val → Bool
  | .tup xs => ncL xs
  | .lst xs => ncL xs
  | .dct kvs => ncD kvs
  | .cell _ => false
  | .err _ _ _ _ => false
  | .prs _ => false
  | .ex1 _ _ x => nc x
  | _ => true
def ncL : List Val → Bool
  | [] => true
  | x :: xs => nc x && ncL xs
def ncD : List (Key × Val) → Bool
  | [] => true
  | (_, x) :: xs => nc x && ncD xs
end
def ncNs : List (NestedKey × Val) → Bool
  | [] => true
  | (_, x) :: xs => nc x && ncNs xs
def ncC : Cell → Bool
  | .dead => true
  | .lst xs => ncL xs
  | .dct kvs => ncD kvs
  | .ins _ fs => ncL (fs.map (·.2))
  | .dN kvs => ncNs kvs
  | .tab _ _ => true
def ncN (n : Nat) (c : Cell) : Prop := ncC c = true ∨ ∃ xs j, c = .lst xs ∧ j < n ∧ ∀ x ∈ xs, nc x = true ∨ x = .cell j
def ncW (c : Cell) : Prop := ∃ cn fs, c = .ins cn fs ∧ ∀ x ∈ fs.map (·.2), nc x = true ∨ ∃ j, x = .cell j
def clC (n : Nat) (c : Cell) : Prop := ∀ cn fs, c = .ins cn fs → ∀ x ∈ fs.map (·.2), ∀ j, x = .cell j → j < n
def clS (S : Sto) : Prop := ∀ (k : Nat) (c : Cell), S[k]? = some c → clC S.length c
structure ncS (S : Sto) : Prop where
  nk : ∀ (k : Nat) (c : Cell), S[k]? = some c → ncN k c ∨ ncW c
  cl : clS S
theorem ncN.le {n m : Nat} {c : Cell} (h : ncN n c) (l : n ≤ m) : ncN m c := by
  rcases h with h | ⟨xs, j, h1, h2, h3⟩
  · exact .inl h
  · exact .inr ⟨xs, j, h1, by omega, h3⟩
mutual
theorem fz_nc {n : Nat} {S : Sto} : ∀ v : Val, nc v = true → Fz n S v v
  | .non, _ => .non
  | .bl _, _ => .bl
  | .int _, _ => .int
  | .str _, _ => .str
  | .tup xs, h => .tup (fzl_nc xs (by simpa [nc] using h))
  | .lst xs, h => .lst (fzl_nc xs (by simpa [nc] using h))
  | .dct kvs, h => .dct (fzd_nc kvs (by simpa [nc] using h))
  | .scr _, _ => .scr
  | .cell _, h => by simp [nc] at h
  | .con _, _ => .con
  | .fnv _, _ => .fnv
  | .err _ _ _ _, h => by simp [nc] at h
  | .prs _, h => by simp [nc] at h
  | .ex0 _, _ => .ex0
  | .ex1 _ _ x, h => .ex1 (fz_nc x (by simpa [nc] using h))
theorem fzl_nc {n : Nat} {S : Sto} : ∀ xs : List Val, ncL xs = true → FzL n S xs xs
  | [], _ => .nil
  | x :: xs, h => by
    have h' : nc x = true ∧ ncL xs = true := by simpa [ncL] using h
    exact .cons (fz_nc x h'.1) (fzl_nc xs h'.2)
theorem fzd_nc {n : Nat} {S : Sto} : ∀ xs : List (Key × Val), ncD xs = true → FzD n S xs xs
  | [], _ => .nil
  | (k, x) :: xs, h => by
    have h' : nc x = true ∧ ncD xs = true := by simpa [ncD] using h
    exact .cons (fz_nc x h'.1) (fzd_nc xs h'.2)
end
theorem ncL_all : ∀ {xs : List Val}, ncL xs = true ↔ ∀ x ∈ xs, nc x = true
  | [] => by simp [ncL]
  | x :: xs => by simp [ncL, ncL_all (xs := xs)]
theorem ncL_int : ∀ xs : List Int, ncL (xs.map Val.int) = true
  | [] => by simp [ncL]
  | x :: xs => by simp [ncL, nc, ncL_int xs]
theorem fzn_nc {n : Nat} {S : Sto} : ∀ xs : List (NestedKey × Val), ncNs xs = true → FzN n S xs xs
  | [], _ => .nil
  | (k, x) :: xs, h => by
    have h' : nc x = true ∧ ncNs xs = true := by simpa [ncNs] using h
    exact .cons (fz_nc x h'.1) (fzn_nc xs h'.2)
theorem fzC_nc {n : Nat} {S : Sto} : ∀ {c : Cell}, ncC c = true → FzC n S c c
  | .dead, _ => .dead
  | .lst xs, h => .lst (fzl_nc xs (by simpa [ncC] using h))
  | .dct kvs, h => .dct (fzd_nc kvs (by simpa [ncC] using h))
  | .ins c fs, h => .ins rfl (fzl_nc _ (by simpa [ncC] using h))
  | .dN kvs, h => .dN (fzn_nc kvs (by simpa [ncC] using h))
  | .tab _ _, _ => .tab
theorem fzl_one {n : Nat} {S : Sto} {j : Nat} (hj : j < n) : ∀ xs : List Val, (∀ x ∈ xs, nc x = true ∨ x = .cell j) → FzL n S xs xs
  | [], _ => .nil
  | x :: xs, h => by
    refine .cons ?_ (fzl_one hj xs fun y hy => h y (List.mem_cons_of_mem _ hy))
    rcases h x List.mem_cons_self with h | rfl
    · exact fz_nc x h
    · exact .old hj
theorem ncN.clC {n m : Nat} {c : Cell} (h : ncN n c) : clC m c := by
  rintro cn fs rfl x hx j rfl
  rcases h with h | ⟨_, _, e, _⟩
  · have := ncL_all.mp (show ncL (fs.map (·.2)) = true by simpa [ncC] using h) _ hx
    simp [nc] at this
  · cases e
theorem clC.le {n m : Nat} {c : Cell} (h : clC n c) (l : n ≤ m) : clC m c := fun cn fs e x hx j ej => Nat.lt_of_lt_of_le (h cn fs e x hx j ej) l
theorem fzl_old {n : Nat} {S : Sto} : ∀ xs : List Val, (∀ x ∈ xs, nc x = true ∨ ∃ j, x = .cell j ∧ j < n) → FzL n S xs xs
  | [], _ => .nil
  | x :: xs, h => by
    refine .cons ?_ (fzl_old xs fun y hy => h y (List.mem_cons_of_mem _ hy))
    rcases h x List.mem_cons_self with h | ⟨j, rfl, hj⟩
    · exact fz_nc x h
    · exact .old hj
theorem fzC_ncW {n : Nat} {S : Sto} {c : Cell} (h : ncW c) (hc : clC n c) : FzC n S c c := by
  obtain ⟨cn, fs, rfl, h⟩ := h
  refine .ins rfl (fzl_old _ fun x hx => ?_)
  rcases h x hx with h | ⟨j, rfl⟩
  · exact .inl h
  · exact .inr ⟨j, rfl, hc cn fs rfl _ hx j rfl⟩
theorem fzC_ncN {n : Nat} {S : Sto} {c : Cell} (h : ncN n c) : FzC n S c c := by
  rcases h with h | ⟨xs, j, rfl, h2, h3⟩
  · exact fzC_nc h
  · exact .lst (fzl_one h2 xs h3)
theorem fzS_app {A B : Sto} {n : Nat} (hn : A.length = n) (h : ncS A) : FzS n (A ++ B) A :=
  ⟨hn, by simp [← hn], fun k c e => ⟨c, by rw [List.getElem?_append_left (by rw [List.getElem?_eq_some_iff] at e; exact e.1)]; exact e, (h.nk k c e).elim (fun q => fzC_ncN (q.le (by have := (List.getElem?_eq_some_iff.mp e).1; omega))) fun q => fzC_ncW q (hn ▸ h.cl k c e)⟩⟩
theorem ncS_nil : ncS [] := ⟨fun _ _ h => by simp at h, fun _ _ h => by simp at h⟩
theorem clS_set {S : Sto} {k : Nat} {c : Cell} (h : clS S) (hc : clC S.length c) : clS (S.set k c) := fun i d hd => by
  rw [List.length_set]
  by_cases e : k = i
  · subst e
    obtain ⟨h1, h2⟩ := List.getElem?_eq_some_iff.mp hd
    rw [List.getElem_set_self] at h2
    exact h2 ▸ hc
  · rw [List.getElem?_set_ne e] at hd
    exact h i d hd
theorem ncS_setW {S : Sto} {k : Nat} {c : Cell} (h : ncS S) (hc : ncN k c ∨ ncW c) (hl : clC S.length c) : ncS (S.set k c) := ⟨fun i d hd => by
  by_cases e : k = i
  · subst e
    obtain ⟨h1, h2⟩ := List.getElem?_eq_some_iff.mp hd
    rw [List.getElem_set_self] at h2
    exact h2 ▸ hc
  · rw [List.getElem?_set_ne e] at hd
    exact h.nk i d hd, clS_set h.cl hl⟩
theorem ncS_setN {S : Sto} {k : Nat} {c : Cell} (h : ncS S) (hc : ncN k c) : ncS (S.set k c) := ncS_setW h (.inl hc) hc.clC
theorem ncS_set {S : Sto} {k : Nat} {c : Cell} (h : ncS S) (hc : ncC c = true) : ncS (S.set k c) := ncS_setN h (.inl hc)
theorem ncS_app {A B : Sto} (h : ncS A) (k : ncS B) : ncS (A ++ B) := ⟨fun i c hc => by
  by_cases e : i < A.length
  · rw [List.getElem?_append_left e] at hc
    exact h.nk i c hc
  · rw [List.getElem?_append_right (by omega)] at hc
    exact (k.nk _ c hc).imp (fun q => q.le (by omega)) id, fun i c hc => by
  by_cases e : i < A.length
  · rw [List.getElem?_append_left e] at hc
    exact (h.cl i c hc).le (by simp)
  · rw [List.getElem?_append_right (by omega)] at hc
    exact (k.cl _ c hc).le (by simp)⟩
theorem ncS_one {c : Cell} (h : ncC c = true) : ncS [c] := ⟨fun i d hd => by
  cases i with
  | zero => simp at hd; subst hd; exact .inl (.inl h)
  | succ i => simp at hd, fun i d hd => by
  cases i with
  | zero => simp at hd; subst hd; exact (show ncN 0 c from .inl h).clC
  | succ i => simp at hd⟩
theorem ncS_left {A B : Sto} (h : ncS (A ++ B)) (hA : clS A) : ncS A := ⟨fun i c hc => h.nk i c (by rw [List.getElem?_append_left (List.getElem?_eq_some_iff.mp hc).1]; exact hc), hA⟩

theorem gOk_nil (S : Sto) : gOk [] S := fun _ h => by cases h
theorem lc_pure {g : Gd} {t : MG} {tt : MT} {te : ME} {ρ : Ev} {S : Sto} (p : Val → Bool) (f : Val → Val) (hg : gOk g S) : ∀ {xs acc : List Val}, acc.length + xs.length ≤ sizeLine →
    (∀ x ∈ xs, ∃ ρ2, t S x ρ = some ρ2 ∧ tt ρ2 S = some (.ok (p x) S) ∧ (p x = true → te ρ2 S = some (.ok (f x) S))) → lcL g t tt te ρ xs S acc = some (.ok (acc ++ (xs.filter p).map f) S)
  | [], acc, _, _ => by unfold lcL; rw [if_pos hg]; simp
  | x :: xs, acc, hl, h => by
    obtain ⟨ρ2, h1, h2, h3⟩ := h x List.mem_cons_self
    have hl' : acc.length + xs.length + 1 ≤ sizeLine := by simpa [Nat.add_assoc] using hl
    rw [lcL, if_pos hg, h1]
    simp only [h2, bndN]
    by_cases hp : p x = true
    · simp only [hp, if_true, h3 hp, if_pos (show acc.length < sizeLine by omega), List.filter_cons_of_pos hp]
      rw [lc_pure p f hg (by simp; omega) fun y hy => h y (List.mem_cons_of_mem _ hy)]
      simp
    · simp only [hp, if_false, List.filter_cons_of_neg hp]
      rw [lc_pure p f hg (by omega) fun y hy => h y (List.mem_cons_of_mem _ hy)]
      simp
theorem lc_map {g : Gd} {t : MG} {tt : MT} {te : ME} {ρ : Ev} {S : Sto} (f : Val → Val) (hg : gOk g S) {xs : List Val} (hl : xs.length ≤ sizeLine)
    (h : ∀ x ∈ xs, ∃ ρ2, t S x ρ = some ρ2 ∧ tt ρ2 S = some (.ok true S) ∧ te ρ2 S = some (.ok (f x) S)) : lcL g t tt te ρ xs S [] = some (.ok (xs.map f) S) := by
  have := lc_pure (tt := tt) (te := te) (ρ := ρ) (t := t) (fun _ => true) f hg (xs := xs) (acc := []) (by simpa using hl) fun x hx => by
    obtain ⟨ρ2, h1, h2, h3⟩ := h x hx
    exact ⟨ρ2, h1, h2, fun _ => h3⟩
  rwa [List.nil_append, List.filter_eq_self.mpr fun _ _ => rfl] at this
structure Fine (v : Val) (w dp : Nat) : Prop where
  ex : ∃ d, ((∀ S, dat S v = some d) ∧ toD v = some d) ∧ d.showable = true ∧ d.shown.length ≤ w ∧ d.depth ≤ dp ∧ d.hasDict = false ∧ d.canLay0 = true
theorem Fine.mono {v : Val} {w dp w' dp' : Nat} (h : Fine v w dp) (h1 : w ≤ w') (h2 : dp ≤ dp') : Fine v w' dp' := by
  obtain ⟨d, a, b, c, e, f, g⟩ := h.ex
  exact ⟨d, a, b, Nat.le_trans c h1, Nat.le_trans e h2, f, g⟩
noncomputable def rp (v : Val) : Str := match dat [] v with
  | some d => d.shown
  | none => ""
theorem Fine.repr {v : Val} {w dp : Nat} (h : Fine v w dp) (S : Sto) (h1 : w ≤ sizeLine) (h2 : dp ≤ 60) : sRepr S [v] = some (.str (rp v)) := by
  obtain ⟨d, a, b, c, e, f, g⟩ := h.ex
  unfold sRepr sReprS rp
  simp only [a.1]
  rw [if_pos ⟨b, Nat.le_trans c h1, Nat.le_trans e h2, f⟩]
  rfl
theorem Fine.len {v : Val} {w dp : Nat} (h : Fine v w dp) : (rp v).length ≤ w := by
  obtain ⟨d, a, b, c, e, f, g⟩ := h.ex
  unfold rp
  simp only [a.1]
  exact c
theorem Fine.eq {v : Val} {w dp : Nat} (h : Fine v w dp) (S : Sto) (h2 : dp ≤ 64) : sEqB S v v = some true := by
  obtain ⟨d, a, b, c, e, f, g⟩ := h.ex
  have hh : sEqD S v v = some true → sEqB S v v = some true := by
    intro h
    unfold sEqB
    split
    · simp
    · exact h
  apply hh
  unfold sEqD
  have hs : SeqAt.shaped d = true := by unfold SeqAt.shaped; rw [g]; simp; omega
  simp only [a.1, hs, and_self, if_true]
  rw [SeqAt.eqv_refl d g]
theorem Fine.int {i : Int} (h : i.natAbs.log2 < 1920) : Fine (.int i) 1921 0 := by
  refine ⟨.int i, ⟨fun S => by simp [dat], by simp [toD]⟩, by simp [PyData.showable, h], ?_, by simp [PyData.depth], by simp [PyData.hasDict], by simp [PyData.canLay0]⟩
  rw [PyData.shown]
  exact int_text_len_1921 h
theorem Fine.bl {b : Bool} : Fine (.bl b) 5 0 := by
  refine ⟨.bool b, ⟨fun S => by simp [dat], by simp [toD]⟩, by simp [PyData.showable], ?_, by simp [PyData.depth], by simp [PyData.hasDict], by simp [PyData.canLay0]⟩
  cases b <;> simp only [PyData.shown] <;> decide +kernel
theorem Fine.non : Fine .non 4 0 := by
  refine ⟨.none, ⟨fun S => by simp [dat], by simp [toD]⟩, by simp [PyData.showable], ?_, by simp [PyData.depth], by simp [PyData.hasDict], by simp [PyData.canLay0]⟩
  simp only [PyData.shown]; decide +kernel
theorem textFrom_le {w : Nat} : ∀ (ts : List Str) (k : Nat) (acc : Str), (∀ t ∈ ts, t.length ≤ w) → (textFrom k acc ts).length ≤ acc.length + ts.length * (w + 2)
  | [], k, acc, _ => by simp [textFrom]
  | t :: ts, k, acc, h => by
    rw [textFrom]
    refine Nat.le_trans (textFrom_le ts _ _ fun t' ht => h t' (List.mem_cons_of_mem _ ht)) ?_
    rw [Str.length_append, Str.length_append]
    have h1 := h t List.mem_cons_self
    have h2 : (if k > 0 then (", " : String) else "" : Str).length ≤ 2 := by split <;> decide +kernel
    have h3 : (Str.ofString (if k > 0 then (", " : String) else "")).length ≤ 2 := by split <;> decide +kernel
    rw [List.length_cons, Nat.add_mul]
    omega
theorem join_le {w : Nat} : ∀ (ts : List Str), (∀ t ∈ ts, t.length ≤ w) → (Str.join ", " ts).length ≤ ts.length * (w + 2)
  | [], _ => by show (Str.join ", " []).length ≤ 0 * _; rw [Nat.zero_mul]; decide +kernel
  | t :: ts, h => by
    have e := join_length_add (t :: ts) (by simp)
    have : ∀ ts : List Str, (∀ t ∈ ts, t.length ≤ w) → piled ts ≤ ts.length * (w + 2) := by
      intro ts
      induction ts with
      | nil => intro _; show piled [] ≤ 0 * _; rw [Nat.zero_mul]; decide +kernel
      | cons t ts ih =>
        intro h
        have h1 := h t List.mem_cons_self
        have h2 := ih fun t' ht => h t' (List.mem_cons_of_mem _ ht)
        rw [List.length_cons, Nat.add_mul]
        unfold piled at h2 ⊢
        simp at h2 ⊢
        omega
    have := this (t :: ts) h
    omega
theorem fineL {w dp : Nat} : ∀ {xs : List Val}, (∀ x ∈ xs, Fine x w dp) → ∃ ds : List PyData, ((∀ S, datL S xs = some ds) ∧ toDL xs = some ds) ∧ PyData.showableAll ds = true ∧ (∀ t ∈ PyData.shownAll ds, t.length ≤ w) ∧ PyData.depthAll ds ≤ dp ∧ PyData.hasDictAll ds = false ∧ PyData.canLayAll0 ds = true ∧ ds.length = xs.length
  | [], _ => ⟨[], ⟨fun S => by simp [datL], by simp [toDL]⟩, by simp [PyData.showableAll], by simp [PyData.shownAll], by simp [PyData.depthAll], by simp [PyData.hasDictAll], by simp [PyData.canLayAll0], rfl⟩
  | x :: xs, h => by
    obtain ⟨d, a1, b1, c1, e1, f1, g1⟩ := (h x List.mem_cons_self).ex
    obtain ⟨ds, a2, b2, c2, e2, f2, g2, l2⟩ := fineL fun y hy => h y (List.mem_cons_of_mem _ hy)
    refine ⟨d :: ds, ⟨fun S => by simp [datL, a1.1, a2.1], by simp [toDL, a1.2, a2.2]⟩, by simp [PyData.showableAll, b1, b2], ?_, by simp [PyData.depthAll]; omega, by simp [PyData.hasDictAll, f1, f2], by simp [PyData.canLayAll0, g1, g2], by simp [l2]⟩
    intro t ht
    rw [PyData.shownAll] at ht
    rcases List.mem_cons.mp ht with rfl | ht
    · exact c1
    · exact c2 t ht
theorem Fine.tup {xs : List Val} {w dp : Nat} (h : ∀ x ∈ xs, Fine x w dp) : Fine (.tup xs) (xs.length * (w + 2) + 3) (dp + 1) := by
  obtain ⟨ds, a, b, c, e, f, g, l⟩ := fineL h
  refine ⟨.tuple ds, ⟨fun S => by simp [dat, a.1], by simp [toD, a.2]⟩, by simp [PyData.showable, b], ?_, by simp [PyData.depth, e], by simp [PyData.hasDict, f], by simp [PyData.canLay0, g]⟩
  rw [PyData.shown]
  unfold tupleText
  rw [Str.length_append, Str.length_append]
  have h1 := join_le _ c
  rw [PyData.shownAll_length, l] at h1
  have h2 : (Str.ofString (if (PyData.shownAll ds).length == 1 then (",)" : String) else ")")).length ≤ 2 := by split <;> decide +kernel
  have h3 : (Str.ofString "(").length = 1 := by decide +kernel
  omega
theorem Fine.lst {xs : List Val} {w dp : Nat} (h : ∀ x ∈ xs, Fine x w dp) : Fine (.lst xs) (xs.length * (w + 2) + 3) (dp + 1) := by
  obtain ⟨ds, a, b, c, e, f, g, l⟩ := fineL h
  refine ⟨.list ds, ⟨fun S => by simp [dat, a.1], by simp [toD, a.2]⟩, by simp [PyData.showable, b], ?_, by simp [PyData.depth, e], by simp [PyData.hasDict, f], by simp [PyData.canLay0, g]⟩
  rw [PyData.shown]
  unfold listText
  rw [Str.length_append]
  have h1 := textFrom_le _ 0 (Str.ofString "[") c
  rw [PyData.shownAll_length, l] at h1
  have h2 : (Str.ofString "]").length = 1 := by decide +kernel
  have h3 : (Str.ofString "[").length = 1 := by decide +kernel
  omega
theorem log2_lt_of {i : Int} {k : Nat} (h : i.natAbs < 2 ^ k) (hk : 0 < k) : i.natAbs.log2 < k := by
  by_cases h0 : i.natAbs = 0
  · rw [h0]; simpa using hk
  · exact (Nat.log2_lt h0).mpr h
theorem beq_dec (x y : Int) : (x == y) = decide (x = y) := by rw [Bool.eq_iff_iff]; simp
theorem sEqB_str (S : Sto) (a b : Str) : sEqB S (.str a) (.str b) = some (decide (a = b)) := by
  rfl
theorem sEqB_int (S : Sto) (a b : Int) : sEqB S (.int a) (.int b) = some (decide (a = b)) := by
  simp only [sEqB]
  unfold sEqD
  have h1 : ∀ x, SeqAt.shaped (.int x) = true := fun x => by simp [SeqAt.shaped, PyData.canLay0, PyData.depth]
  simp only [dat, h1, and_self, if_true, PyData.eqv]
  rw [beq_dec]
theorem datL_ints (S : Sto) : ∀ xs : List Int, datL S (xs.map Val.int) = some (xs.map PyData.int)
  | [] => by simp [datL]
  | x :: xs => by simp [datL, dat, datL_ints S xs]
theorem canLay_ints : ∀ xs : List Int, PyData.canLayAll0 (xs.map PyData.int) = true
  | [] => by simp [PyData.canLayAll0]
  | x :: xs => by simp [PyData.canLayAll0, PyData.canLay0, canLay_ints xs]
theorem depth_ints : ∀ xs : List Int, PyData.depthAll (xs.map PyData.int) = 0
  | [] => by simp [PyData.depthAll]
  | x :: xs => by simp [PyData.depthAll, PyData.depth, depth_ints xs]
theorem eqvAll_ints : ∀ xs ys : List Int, PyData.eqvAll (xs.map PyData.int) (ys.map PyData.int) = decide (xs = ys)
  | [], [] => by simp [PyData.eqvAll]
  | [], y :: ys => by simp [PyData.eqvAll]
  | x :: xs, [] => by simp [PyData.eqvAll]
  | x :: xs, y :: ys => by simp [PyData.eqvAll, PyData.eqv, eqvAll_ints xs ys, beq_dec]
theorem sEqB_tI (S : Sto) (xs ys : List Int) : sEqB S (tI xs) (tI ys) = some (decide (xs = ys)) := by
  simp only [sEqB]
  unfold sEqD
  have h1 : ∀ x : List Int, SeqAt.shaped (.tuple (x.map PyData.int)) = true := fun x => by simp [SeqAt.shaped, PyData.canLay0, PyData.depth, canLay_ints, depth_ints]
  simp only [tI, dat, datL_ints, Option.map_some, h1, and_self, if_true, PyData.eqv, eqvAll_ints]
theorem sEqB_lI (S : Sto) (xs ys : List Int) : sEqB S (lI xs) (lI ys) = some (decide (xs = ys)) := by
  simp only [sEqB]
  unfold sEqD
  have h1 : ∀ x : List Int, SeqAt.shaped (.list (x.map PyData.int)) = true := fun x => by simp [SeqAt.shaped, PyData.canLay0, PyData.depth, canLay_ints, depth_ints]
  simp only [lI, dat, datL_ints, Option.map_some, h1, and_self, if_true, PyData.eqv, eqvAll_ints]
end G

set_option Elab.async false
set_option linter.all false
set_option maxRecDepth 100000
set_option maxHeartbeats 4000000
namespace G
open PySem PySem.Spec PyProof.Rows L2
structure Stm where
  cells : List Int
  pos : Int
  rest : Int
  st : Int
def Stm.vals (s : Stm) : List Val := [lI s.cells, .int s.pos, .int s.rest, .int s.st]
def Stm.cell (s : Stm) : Cell := .lst s.vals
structure Stm.Ok (s : Stm) : Prop where
  cells : ∀ c ∈ s.cells, 0 ≤ c
  pos : 0 ≤ s.pos
  rest : 0 ≤ s.rest
  st : 0 ≤ s.st
def Sm (S : Sto) (k : Nat) : Prop := ∃ s : Stm, S[k]? = some s.cell ∧ s.Ok
theorem Sm.lt {S : Sto} {k : Nat} (h : Sm S k) : k < S.length := by
  obtain ⟨s, h, _⟩ := h
  exact (List.getElem?_eq_some_iff.mp h).1
theorem Stm.nc (s : Stm) : ncC s.cell = true := by
  simp [Stm.cell, Stm.vals, ncC, ncL, G.nc, ncL_int]
def Nx (k : Nat) (S S' : Sto) : Prop := ∃ s : Stm, S' = S.set k s.cell ∧ s.Ok ∧ k < S.length
theorem Nx.trans {k : Nat} {S S1 S2 : Sto} (h : Nx k S S1) (h' : Nx k S1 S2) : Nx k S S2 := by
  obtain ⟨s, rfl, h1, h2⟩ := h
  obtain ⟨s', rfl, h3, h4⟩ := h'
  exact ⟨s', by rw [List.set_set], h3, h2⟩
theorem Nx.len {k : Nat} {S S' : Sto} (h : Nx k S S') : S'.length = S.length := by
  obtain ⟨s, rfl, h1, h2⟩ := h
  simp
theorem Nx.nc {k : Nat} {S S' : Sto} (h : Nx k S S') (n : ncS S) : ncS S' := by
  obtain ⟨s, rfl, h1, h2⟩ := h
  exact ncS_set n s.nc
theorem Nx.get {k j : Nat} {S S' : Sto} (h : Nx k S S') (hj : j ≠ k) : S'[j]? = S[j]? := by
  obtain ⟨s, rfl, h1, h2⟩ := h
  rw [List.getElem?_set_ne (Ne.symm hj)]
theorem Sm.nx {S : Sto} {k : Nat} (h : Sm S k) : Nx k S S := by
  obtain ⟨s, h1, h2⟩ := h
  obtain ⟨h3, h4⟩ := List.getElem?_eq_some_iff.mp h1
  exact ⟨s, by rw [← h4, List.set_getElem_self], h2, h3⟩
theorem big64 {n : Nat} (h : n < 2 ^ 64) : n < big := Nat.lt_of_lt_of_le h (Nat.pow_le_pow_right (by decide) (by decide))
theorem mulOk_l {i j : Int} (h0 : -(2 ^ 64) < i) (h1 : i < 2 ^ 64) : mulOk i j = true := by
  unfold mulOk
  rw [decide_eq_true ⟨h0, h1⟩]
  rfl
theorem mulOk_r {i j : Int} (h0 : -(2 ^ 64) < j) (h1 : j < 2 ^ 64) : mulOk i j = true := by
  unfold mulOk
  rw [decide_eq_true (p := -(2 ^ 64) < j ∧ j < 2 ^ 64) ⟨h0, h1⟩]
  simp
theorem fMul_l {i j : Int} (h0 : -(2 ^ 64) < i) (h1 : i < 2 ^ 64) : fMul i j = some (i * j) := by unfold fMul; rw [if_pos (mulOk_l h0 h1)]
theorem fMul_r {i j : Int} (h0 : -(2 ^ 64) < j) (h1 : j < 2 ^ 64) : fMul i j = some (i * j) := by unfold fMul; rw [if_pos (mulOk_r h0 h1)]
theorem fDiv_ok {i j : Int} (h0 : 0 < j) (h1 : j < 2 ^ 64) : fDiv i j = some (i / j) := by unfold fDiv; rw [if_pos ⟨h0, big64 (by omega)⟩]
theorem fMod_ok {i j : Int} (h0 : 0 < j) : fMod i j = some (i % j) := by unfold fMod; rw [if_pos h0]
theorem fPow_ok {i j : Int} (h0 : 0 ≤ j) (h1 : j ≤ 1000000) (h2 : i.natAbs < 2 ^ 64) : fPow i j = some (i ^ j.toNat) := by unfold fPow; rw [if_pos ⟨h0, h1, h2⟩]
abbrev N__law_below : List Str := ["_law_stream_here", "_law_limit", "_law_cells", "_law_at", "_law_rest", "_law_state"]
noncomputable def m__law_below : MS := sSeq (sAsg (gT 4 (gsCons (gN 2) (gsCons (gN 3) (gsCons (gN 4) (gsCons (gN 5) (gsNil)))))) (mVar 0)) (sSeq (sIf (mAndT (mTB (mO2 sEq (mVar 4) (mC (.int 0)))) (mTB (mO2 cLt (mVar 3) (mCa sLen (mCons (mVar 2) (mNil)))))) (sSeq (sSub sSetI (mVar 0) (mC (.int 1)) (mO2 sAdd (mVar 3) (mC (.int 1)))) (sSeq (sSet 4 (mO2 aMul (mO2 sIx (mVar 2) (mVar 3)) (mCa sInt (mCons (mO2 cGe (mO2 sIx (mVar 2) (mVar 3)) (mO2 aPow (mC (.int 10)) (mC (.int 18)))) (mNil))))) (sSet 5 (mO2 sAdd (mO2 sAdd (mO2 aMul (mVar 5) (mC (.int 69069))) (mO2 aMod (mO2 sIx (mVar 2) (mVar 3)) (mC (.int 4294967291)))) (mC (.int 1)))))) (sNil)) (sSeq (sSub sSetI (mVar 0) (mC (.int 2)) (mO2 aDiv (mVar 4) (mVar 1))) (sSeq (sSet 5 (mO2 aMod (mO2 sAdd (mO2 sAdd (mO2 aMul (mVar 5) (mC (.int 1103515245))) (mC (.int 12345))) (mVar 3)) (mC (.int 2305843009213693951)))) (sSeq (sSub sSetI (mVar 0) (mC (.int 3)) (mVar 5)) (sSeq (sIf (mTB (mO2 cGt (mVar 4) (mC (.int 0)))) (sRet (mO2 aMod (mVar 4) (mVar 1))) (sNil)) (sRet (mO2 aMod (mO2 aDiv (mO2 aMod (mO2 aMul (mVar 5) (mVar 5)) (mC (.int 2305843009213693951))) (mC (.int 64))) (mVar 1))))))))
theorem pow18 : (10 : Int) ^ Int.toNat 18 = 1000000000000000000 := by decide
end G

set_option Elab.async false
set_option linter.all false
set_option maxRecDepth 100000
set_option maxHeartbeats 4000000
namespace G
open PySem PySem.Spec PyProof.Rows L2
structure KeyL (ks : List Int) : Prop where
  lt : ks.Pairwise (· < ·)
  bd : ∀ x ∈ ks, 0 ≤ x ∧ x ≤ 1000000000000
structure SeqL (ks : List Int) : Prop where
  nd : ks.Nodup
  bd : ∀ x ∈ ks, 0 ≤ x ∧ x ≤ 1000000000000
theorem KeyL.seq {ks : List Int} (h : KeyL ks) : SeqL ks := ⟨h.lt.imp fun h => Int.ne_of_lt h, h.bd⟩
end G

set_option Elab.async false
set_option linter.all false
set_option maxRecDepth 100000
set_option maxHeartbeats 4000000
namespace G
open PySem PySem.Spec PyProof.Rows L2
end G

set_option Elab.async false
set_option linter.all false
set_option maxRecDepth 100000
set_option maxHeartbeats 4000000
namespace G
open PySem PySem.Spec PyProof.Rows L2
def tx (cs : List Nat) : Str := ⟨cs.toArray⟩
abbrev lt (b : Bool) : Nat := if b then 73 else 82
end G

set_option Elab.async false
set_option linter.all false
set_option maxRecDepth 100000
set_option maxHeartbeats 4000000
namespace G
open PySem PySem.Spec PyProof.Rows L2
end G

set_option Elab.async false
set_option linter.all false
set_option maxRecDepth 100000
set_option maxHeartbeats 4000000
namespace G
open PySem PySem.Spec PyProof.Rows L2

abbrev eI : Int → Val := Val.int
abbrev eB : Bool → Val := Val.bl
def eS (cs : List Nat) : Val := .str (tx cs)
def eT {α : Type} (e : α → Val) (xs : List α) : Val := .tup (xs.map e)
def eL {α : Type} (e : α → Val) (xs : List α) : Val := .lst (xs.map e)
def eP {α β : Type} (e : α → Val) (f : β → Val) (p : α × β) : Val := .tup [e p.1, f p.2]
def eQ {α β γ : Type} (e : α → Val) (f : β → Val) (g : γ → Val) (p : α × β × γ) : Val := .tup [e p.1, f p.2.1, g p.2.2]
def eO {α : Type} (e : α → Val) : Option α → Val
  | none => .non
  | some a => e a
def eU (_ : Unit) : Val := .non
structure VV where
  val : Val
  ok : nc val = true
def eV (v : VV) : Val := v.1
class NC {α : Type} (e : α → Val) : Prop where
  nc : ∀ a, nc (e a) = true
instance : NC eI := ⟨fun _ => by simp [nc]⟩
instance : NC eB := ⟨fun _ => by simp [nc]⟩
instance : NC eS := ⟨fun _ => by simp [nc, eS]⟩
instance : NC eU := ⟨fun _ => by simp [nc, eU]⟩
instance : NC eV := ⟨fun v => v.2⟩
theorem ncL_map {α : Type} (e : α → Val) [NC e] (xs : List α) : ncL (xs.map e) = true := ncL_all.mpr fun x hx => by
  obtain ⟨a, _, rfl⟩ := List.mem_map.mp hx
  exact NC.nc a
instance {α : Type} (e : α → Val) [NC e] : NC (eT e) := ⟨fun xs => by simp [nc, eT, ncL_map]⟩
instance {α : Type} (e : α → Val) [NC e] : NC (eL e) := ⟨fun xs => by simp [nc, eL, ncL_map]⟩
instance {α β : Type} (e : α → Val) (f : β → Val) [NC e] [NC f] : NC (eP e f) := ⟨fun p => by simp [nc, eP, ncL, NC.nc]⟩
instance {α β γ : Type} (e : α → Val) (f : β → Val) (g : γ → Val) [NC e] [NC f] [NC g] : NC (eQ e f g) := ⟨fun p => by simp [nc, eQ, ncL, NC.nc]⟩
instance {α : Type} (e : α → Val) [NC e] : NC (eO e) := ⟨fun o => by cases o <;> simp [nc, eO, NC.nc]⟩
structure St (B S : Sto) (cs : List (Nat × Cell)) : Prop where
  pre : B <+: S
  nd : (cs.map (·.1)).Nodup
  get : ∀ p ∈ cs, S[p.1]? = some p.2
  nc : ncS S
  cb : clS B
section
variable {B S : Sto} {cs : List (Nat × Cell)} {k : Nat} {c c' : Cell}
theorem St.start (h : ncS S) : St S S [] := ⟨List.prefix_refl S, by simp, by simp, h, h.cl⟩
theorem St.startK (h : ncS S) (hk : S[k]? = some c) : St S S [(k, c)] := ⟨List.prefix_refl S, by simp, by simpa using hk, h, h.cl⟩
theorem St.at (h : St B S cs) (i : Nat) (e : cs[i]? = some (k, c)) : S[k]? = some c := h.get (k, c) (List.mem_of_getElem? e)
theorem St.lt (h : St B S cs) (i : Nat) (e : cs[i]? = some (k, c)) : k < S.length := (List.getElem?_eq_some_iff.mp (h.at i e)).1
theorem St.le (h : St B S cs) : B.length ≤ S.length := h.pre.length_le
theorem keys_set {cs : List (Nat × Cell)} {i : Nat} (e : cs[i]? = some (k, c)) : (cs.set i (k, c')).map (·.1) = cs.map (·.1) := by
  rw [List.map_set]
  obtain ⟨h1, h2⟩ := List.getElem?_eq_some_iff.mp e
  have : (cs.map (·.1))[i]'(by simpa using h1) = k := by simp [h2]
  rw [← this, List.set_getElem_self]
theorem St.put_ (h : St B S cs) (i : Nat) (e : cs[i]? = some (k, c)) (hc : ncC c' = true) : ((cs.set i (k, c')).map (·.1)).Nodup ∧ (∀ p ∈ cs.set i (k, c'), (S.set k c')[p.1]? = some p.2) ∧ ncS (S.set k c') := by
  refine ⟨by rw [keys_set e]; exact h.nd, fun p hp => ?_, ncS_set h.nc hc⟩
  obtain ⟨j, hj, ep⟩ := List.getElem_of_mem hp
  rw [List.length_set] at hj
  by_cases hij : i = j
  · subst hij
    rw [List.getElem_set_self] at ep
    subst ep
    exact List.getElem?_set_self (h.lt i e)
  · rw [List.getElem_set_ne hij] at ep
    have hm : p ∈ cs := ep ▸ List.getElem_mem hj
    have hne : k ≠ p.1 := by
      intro z
      obtain ⟨hi, ei⟩ := List.getElem?_eq_some_iff.mp e
      have := (List.getElem_inj (xs := cs.map (·.1)) (i := i) (j := j) (h₀ := by simpa using hi) (h₁ := by simpa using hj) h.nd).mp (by simp [ei, ep, z])
      exact hij this
    rw [List.getElem?_set_ne hne]
    exact h.get p hm
theorem St.own (h : St B S cs) (i : Nat) (e : cs[i]? = some (k, c)) (hk : B.length ≤ k) (hc : ncC c' = true) : St B (S.set k c') (cs.set i (k, c')) := by
  obtain ⟨a1, a2, a3⟩ := h.put_ i e hc
  refine ⟨?_, a1, a2, a3, h.cb⟩
  obtain ⟨T, rfl⟩ := h.pre
  rw [List.set_append_right _ _ hk]
  exact List.prefix_append _ _
theorem St.out (h : St B S cs) (i : Nat) (e : cs[i]? = some (k, c)) (hk : k < B.length) (hc : ncC c' = true) : St (B.set k c') (S.set k c') (cs.set i (k, c')) := by
  obtain ⟨a1, a2, a3⟩ := h.put_ i e hc
  refine ⟨?_, a1, a2, a3, clS_set h.cb (show ncN 0 c' from .inl hc).clC⟩
  obtain ⟨T, rfl⟩ := h.pre
  rw [List.set_append_left _ _ hk]
  exact List.prefix_append _ _
theorem St.new (h : St B S cs) (c : Cell) (hc : ncC c = true) : St B (S ++ [c]) ((S.length, c) :: cs) := by
  refine ⟨h.pre.trans (List.prefix_append _ _), ?_, fun p hp => ?_, ncS_app h.nc (ncS_one hc), h.cb⟩
  · rw [List.map_cons, List.nodup_cons]
    refine ⟨fun hm => ?_, h.nd⟩
    obtain ⟨p, hp, e⟩ := List.mem_map.mp hm
    have := (List.getElem?_eq_some_iff.mp (h.get p hp)).1
    simp at e
    omega
  · rcases List.mem_cons.mp hp with rfl | hp
    · simp
    · rw [List.getElem?_append_left (List.getElem?_eq_some_iff.mp (h.get p hp)).1]
      exact h.get p hp
theorem St.less (h : St B S cs) {cs' : List (Nat × Cell)} (l : List.Sublist cs' cs) : St B S cs' := ⟨h.pre, (l.map _).nodup h.nd, fun p hp => h.get p (l.subset hp), h.nc, h.cb⟩
theorem St.nil (h : St B S cs) : St B S [] := h.less (List.nil_sublist _)
end

def X {α : Type} (B : Sto) (cs : List (Nat × Cell)) (m : Ev → Sto → Res α) (ρ : Ev) (a : α) (B' : Sto) (cs' : List (Nat × Cell)) : Prop := ∀ S, St B S cs → ∃ S', m ρ S = some (.ok a S') ∧ St B' S' cs'
def Run (B : Sto) (cs : List (Nat × Cell)) (m : MS) (ρ : Ev) (P : Fl → Sto → Prop) : Prop := ∀ S, St B S cs → ∃ fl S', m ρ S = some (fl, S') ∧ P fl S'
section
variable {B B' B1 B2 B3 : Sto} {cs cs' cs1 cs2 cs3 : List (Nat × Cell)} {m n a b : MS} {ρ ρ' : Ev} {P Q : Fl → Sto → Prop} {e : ME} {v x y z : Val} {i j l : Nat} {t : MT} {c : Bool}
theorem run_one (h : Run B cs (sSeq m sNil) ρ P) : Run B cs m ρ P := by
  intro S hS
  obtain ⟨fl, S', h1, h2⟩ := h S hS
  refine ⟨fl, S', ?_, h2⟩
  unfold sSeq at h1
  split at h1
  · rename_i ρ' S1 e
    cases h1
    exact e
  · exact h1
theorem run_nil (h : ∀ S, St B S cs → P (.next ρ) S) : Run B cs sNil ρ P := fun S hS => ⟨_, _, rfl, h S hS⟩
theorem run_skip (h : Run B cs n ρ P) : Run B cs (sSeq sNil n) ρ P := h
theorem run_assoc (h : Run B cs (sSeq a (sSeq b n)) ρ P) : Run B cs (sSeq (sSeq a b) n) ρ P := by
  intro S hS
  obtain ⟨fl, S', h1, h2⟩ := h S hS
  refine ⟨fl, S', ?_, h2⟩
  rw [← h1]
  show (match (match a ρ S with | some (.next ρ', S') => b ρ' S' | r => r) with | some (.next ρ', S') => n ρ' S' | r => r) = (match a ρ S with | some (.next ρ', S') => (match b ρ' S' with | some (.next ρ', S') => n ρ' S' | r => r) | r => r)
  cases q : a ρ S with
  | none => rfl
  | some o =>
    obtain ⟨f, T⟩ := o
    cases f <;> rfl
theorem run_set (hs : ρ.set i (some v) = ρ') (he : X B cs e ρ v B' cs') (h : Run B' cs' n ρ' P) : Run B cs (sSeq (sSet i e) n) ρ P := by
  intro S hS
  obtain ⟨S1, h1, hS1⟩ := he S hS
  obtain ⟨fl, S2, h2, h3⟩ := h S1 hS1
  exact ⟨fl, S2, by rw [e_seq, e_set, h1, bns_ok, e_kSet, seqK_next, hs]; exact h2, h3⟩
theorem run_ret (he : X B cs e ρ v B' cs') (h : ∀ S, St B' S cs' → P (.ret v) S) : Run B cs (sSeq (sRet e) n) ρ P := by
  intro S hS
  obtain ⟨S1, h1, hS1⟩ := he S hS
  exact ⟨_, _, by rw [e_seq, e_ret, h1, bns_ok, e_kRet, seqK_ret], h S1 hS1⟩
theorem run_if (c : Bool) (ht : X B cs t ρ c B' cs') (h1 : c = true → Run B' cs' (sSeq a n) ρ P) (h0 : c = false → Run B' cs' (sSeq b n) ρ P) : Run B cs (sSeq (sIf t a b) n) ρ P := by
  intro S hS
  obtain ⟨S1, q, hS1⟩ := ht S hS
  have key : ∀ k : MS, Run B' cs' (sSeq k n) ρ P → sIf t a b ρ S = k ρ S1 → ∃ fl S', sSeq (sIf t a b) n ρ S = some (fl, S') ∧ P fl S' := by
    intro k h q
    obtain ⟨fl, S2, h1, h2⟩ := h S1 hS1
    exact ⟨fl, S2, by rw [e_seq, q, ← e_seq]; exact h1, h2⟩
  cases c with
  | true => exact key a (h1 rfl) (by rw [e_sif, q, bns_ok, e_kSIf, if_pos rfl])
  | false => exact key b (h0 rfl) (by rw [e_sif, q, bns_ok, e_kSIf, if_neg (by decide)])
theorem run_par {ms : MA} {v w : Val} {ρ1 : Ev} (h1 : ρ.set i (some v) = ρ1) (h2 : ρ1.set j (some w) = ρ') (hs : X B cs ms ρ [v, w] B' cs') (h : Run B' cs' n ρ' P) : Run B cs (sSeq (sPar i j ms) n) ρ P := by
  intro S hS
  obtain ⟨S1, q, hS1⟩ := hs S hS
  obtain ⟨fl, S2, q1, q2⟩ := h S1 hS1
  exact ⟨fl, S2, by rw [e_seq, e_par, q, bns_ok, e_kPar, seqK_next, h1, h2]; exact q1, q2⟩
theorem run_par3 {ms : MA} {u v w : Val} {ρ1 ρ2 : Ev} (h1 : ρ.set i (some u) = ρ1) (h2 : ρ1.set j (some v) = ρ2) (h3 : ρ2.set l (some w) = ρ') (hs : X B cs ms ρ [u, v, w] B' cs') (h : Run B' cs' n ρ' P) : Run B cs (sSeq (sPar3 i j l ms) n) ρ P := by
  intro S hS
  obtain ⟨S1, q, hS1⟩ := hs S hS
  obtain ⟨fl, S2, q1, q2⟩ := h S1 hS1
  exact ⟨fl, S2, by rw [e_seq, e_par3, q, bns_ok, e_kPar3, seqK_next, h1, h2, h3]; exact q1, q2⟩
end

section
variable {S : Sto} {ρ ρ' : Ev} {v : Val} {i : Nat}
theorem tg_n (h : ρ.set i (some v) = ρ') : gN i S v ρ = some ρ' := by rw [e_gN, h]
theorem tg_p {n : Nat} {g : MGs} {xs : List Val} (hl : xs.length = n) (h : g S xs ρ = some ρ') : gT n g S (.prs xs) ρ = some ρ' := by simp only [gT, prsOf, if_pos hl, h]
theorem tg_c {f : MG} {g : MGs} {r : List Val} {ρ1 : Ev} (h1 : f S v ρ = some ρ1) (h2 : g S r ρ1 = some ρ') : gsCons f g S (v :: r) ρ = some ρ' := by rw [gs_cons, h1, bind_some, h2]
theorem tg_z : gsNil S [] ρ = some ρ := rfl
end

section
variable {B B1 B2 B3 : Sto} {cs cs1 cs2 cs3 : List (Nat × Cell)} {ρ : Ev} {ma mb mc : ME} {x y z v w : Val} {ms : MA} {xs : List Val} {t t' : MT} {a b c : Bool}
theorem X.of {α : Type} {m : Ev → Sto → Res α} {a : α} (h : ∀ S, m ρ S = some (.ok a S)) : X B cs m ρ a B cs := fun S hS => ⟨S, h S, hS⟩
theorem ev_c : X B cs (mC v) ρ v B cs := .of fun _ => rfl
theorem ev_o2 {f : Sto → Val → Val → Option Val} (ha : X B cs ma ρ x B1 cs1) (hb : X B1 cs1 mb ρ y B2 cs2) (hf : ∀ S, St B2 S cs2 → f S x y = some z) : X B cs (mO2 f ma mb) ρ z B2 cs2 := by
  intro S hS
  obtain ⟨S1, q1, h1⟩ := ha S hS
  obtain ⟨S2, q2, h2⟩ := hb S1 h1
  exact ⟨S2, by rw [e_o2, q1, bnd_ok, e_kO2, q2, bnd_ok, e_kO2b, hf S2 h2, pur_some], h2⟩
theorem ev_o1 {f : Sto → Val → Option Val} (ha : X B cs ma ρ x B1 cs1) (hf : ∀ S, St B1 S cs1 → f S x = some z) : X B cs (mO1 f ma) ρ z B1 cs1 := by
  intro S hS
  obtain ⟨S1, q1, h1⟩ := ha S hS
  exact ⟨S1, by rw [e_o1, q1, bnd_ok, e_kO1, hf S1 h1, pur_some], h1⟩
theorem ev_nil : X B cs mNil ρ [] B cs := .of fun _ => rfl
theorem ev_cons (ha : X B cs ma ρ x B1 cs1) (hs : X B1 cs1 ms ρ xs B2 cs2) : X B cs (mCons ma ms) ρ (x :: xs) B2 cs2 := by
  intro S hS
  obtain ⟨S1, q1, h1⟩ := ha S hS
  obtain ⟨S2, q2, h2⟩ := hs S1 h1
  exact ⟨S2, by rw [e_cons, q1, bnd_ok, e_kCons, q2, bnd_ok, e_kConsb], h2⟩
theorem ev_ca {f : Sto → List Val → Option Val} (hs : X B cs ms ρ xs B1 cs1) (hf : ∀ S, St B1 S cs1 → f S xs = some z) : X B cs (mCa f ms) ρ z B1 cs1 := by
  intro S hS
  obtain ⟨S1, q1, h1⟩ := hs S hS
  exact ⟨S1, by rw [e_ca, q1, bnd_ok, e_kCa, hf S1 h1, pur_some], h1⟩
theorem ev_tup (hs : X B cs ms ρ xs B1 cs1) (hl : xs.length ≤ 16777216) : X B cs (mTup ms) ρ (.tup xs) B1 cs1 := by
  intro S hS
  obtain ⟨S1, q1, h1⟩ := hs S hS
  exact ⟨S1, by rw [e_tup, q1, bnd_ok, e_kTup, if_pos (by rw [sz]; exact hl)], h1⟩
theorem ev_lst (hs : X B cs ms ρ xs B1 cs1) (hl : xs.length ≤ 16777216) : X B cs (mLst ms) ρ (.lst xs) B1 cs1 := by
  intro S hS
  obtain ⟨S1, q1, h1⟩ := hs S hS
  exact ⟨S1, by rw [e_lst, q1, bnd_ok, e_kLst, if_pos (by rw [sz]; exact hl)], h1⟩
theorem ev_tb (h : X B cs ma ρ (.bl b) B1 cs1) : X B cs (mTB ma) ρ b B1 cs1 := by
  intro S hS
  obtain ⟨S1, q1, h1⟩ := h S hS
  exact ⟨S1, by rw [e_tb, q1, bnd_ok, e_kTB, toB_bl, pur_some], h1⟩
theorem ev_tr (h : X B cs ma ρ v B1 cs1) (ht : ∀ S, St B1 S cs1 → truth S v = some b) : X B cs (mTr ma) ρ b B1 cs1 := by
  intro S hS
  obtain ⟨S1, q1, h1⟩ := h S hS
  exact ⟨S1, by rw [e_tr, q1, bnd_ok, e_kTr, ht S1 h1, pur_some], h1⟩
theorem ev_orP (c : Bool) (h : X B cs t ρ a B1 cs1) (h1 : a = true → c = true ∧ B2 = B1 ∧ cs2 = cs1) (h0 : a = false → X B1 cs1 t' ρ c B2 cs2) : X B cs (mOrT t t') ρ c B2 cs2 := by
  intro S hS
  obtain ⟨S1, q1, hS1⟩ := h S hS
  rw [e_orT, q1, bnd_ok, e_kOrT]
  cases a with
  | true =>
    obtain ⟨rfl, rfl, rfl⟩ := h1 rfl
    exact ⟨S1, rfl, hS1⟩
  | false => exact h0 rfl S1 hS1
theorem ev_notT (h : X B cs t ρ a B1 cs1) : X B cs (mNotT t) ρ (!a) B1 cs1 := by
  intro S hS
  obtain ⟨S1, q1, hS1⟩ := h S hS
  exact ⟨S1, by rw [e_notT, q1, bnd_ok, e_kNotT], hS1⟩
theorem ev_andVP (c : Bool) (h : X B cs ma ρ (.bl a) B1 cs1) (h1 : a = true → X B1 cs1 mb ρ (.bl c) B2 cs2) (h0 : a = false → c = false ∧ B2 = B1 ∧ cs2 = cs1) : X B cs (mAnd ma mb) ρ (.bl c) B2 cs2 := by
  intro S hS
  obtain ⟨S1, q1, hS1⟩ := h S hS
  rw [e_and, q1, bnd_ok, e_kAnd, tr_bl]
  cases a with
  | true => exact h1 rfl S1 hS1
  | false =>
    obtain ⟨rfl, rfl, rfl⟩ := h0 rfl
    exact ⟨S1, rfl, hS1⟩
theorem ev_no : X B cs mNo ρ none B cs := .of fun _ => rfl
theorem ev_part {i : Int} (h : X B cs ma ρ (.int i) B1 cs1) : X B cs (mPart ma) ρ (some i) B1 cs1 := by
  intro S hS
  obtain ⟨S1, q1, hS1⟩ := h S hS
  exact ⟨S1, by rw [e_part, q1, bnd_ok, e_kPart], hS1⟩
theorem ev_sl {f : Sto → Val → Option Int → Option Int → Option Val} {ml mh : MO} {lo hi : Option Int} (ha : X B cs ma ρ x B1 cs1) (hl : X B1 cs1 ml ρ lo B2 cs2) (hh : X B2 cs2 mh ρ hi B3 cs3) (hf : ∀ S, St B3 S cs3 → f S x lo hi = some z) : X B cs (mSl f ma ml mh) ρ z B3 cs3 := by
  intro S hS
  obtain ⟨S1, q1, h1⟩ := ha S hS
  obtain ⟨S2, q2, h2⟩ := hl S1 h1
  obtain ⟨S3, q3, h3⟩ := hh S2 h2
  exact ⟨S3, by rw [e_sl, q1, bnd_ok, e_kSl, q2, bnd_ok, e_kSlb, q3, bnd_ok, e_kSlc, hf S3 h3, pur_some], h3⟩
theorem ev_call {n : Nat} {f : Fn} (hs : X B cs ms ρ xs B1 cs1) (hl : xs.length = n) (hf : ∀ S, ncS S → f xs S = some (.ok v S)) : X B cs (mCal n f ms) ρ v B1 cs1 := by
  intro S hS
  obtain ⟨S1, q1, h1⟩ := hs S hS
  exact ⟨S1, by rw [e_call, q1, bnd_ok, e_kCal, if_pos hl, hf S1 h1.nc], h1⟩
theorem ev_callK {n k : Nat} {f : Fn} {c c' : Cell} (i : Nat) (hs : X B cs ms ρ xs B1 cs1) (hl : xs.length = n) (hc : cs1[i]? = some (k, c)) (hk : k < B1.length) (hn : ncC c' = true) (hB : B1.set k c' = B2) (hq : cs1.set i (k, c') = cs2)
    (hf : ∀ S, ncS S → S[k]? = some c → f xs S = some (.ok v (S.set k c'))) : X B cs (mCal n f ms) ρ v B2 cs2 := by
  intro S hS
  obtain ⟨S1, q1, h1⟩ := hs S hS
  refine ⟨S1.set k c', by rw [e_call, q1, bnd_ok, e_kCal, if_pos hl, hf S1 h1.nc (h1.at i hc)], ?_⟩
  rw [← hB, ← hq]
  exact h1.out i hc hk hn
theorem ev_callO {n k : Nat} {f : Fn} {c c' : Cell} (i : Nat) (hs : X B cs ms ρ xs B1 cs1) (hl : xs.length = n) (hc : cs1[i]? = some (k, c)) (hk : B1.length ≤ k) (hn : ncC c' = true) (hq : cs1.set i (k, c') = cs2)
    (hf : ∀ S, ncS S → S[k]? = some c → f xs S = some (.ok v (S.set k c'))) : X B cs (mCal n f ms) ρ v B1 cs2 := by
  intro S hS
  obtain ⟨S1, q1, h1⟩ := hs S hS
  refine ⟨S1.set k c', by rw [e_call, q1, bnd_ok, e_kCal, if_pos hl, hf S1 h1.nc (h1.at i hc)], ?_⟩
  rw [← hq]
  exact h1.own i hc hk hn
theorem it_val {p : List Val × Gd} (h : X B cs ma ρ v B1 cs1) (hi : ∀ S, St B1 S cs1 → itemsOf S v = some p) : X B cs (mVal ma) ρ p B1 cs1 := by
  intro S hS
  obtain ⟨S1, q1, h1⟩ := h S hS
  exact ⟨S1, by rw [e_val, q1, bnd_ok, e_kVal, hi S1 h1, pur_some], h1⟩
end
def szO {α : Type} (xs : List α) : Option (List α) := if xs.length ≤ 16777216 then some xs else none
theorem szO_ok {α : Type} {xs : List α} (h : xs.length ≤ 16777216) : szO xs = some xs := if_pos h
theorem szO_some {α : Type} {xs ys : List α} (h : szO xs = some ys) : xs.length ≤ sizeLine ∧ xs = ys := by
  unfold szO at h
  split at h
  · rename_i hl
    cases h
    exact ⟨by rw [sz]; exact hl, rfl⟩
  · cases h
def rngO (a b : Int) : Option (List Int) := if -4611686018427387904 ≤ a ∧ a < 4611686018427387904 ∧ -4611686018427387904 ≤ b ∧ b < 4611686018427387904 then some ((List.range (b - a).toNat).map fun (i : Nat) => a + (i : Int)) else none
def enI {α : Type} (xs : List α) : List (Int × α) := (List.range xs.length).zipWith (fun (i : Nat) x => ((i : Int), x)) xs
def eR {α β : Type} (e : α → Val) (f : β → Val) : α × β → Val := fun p => .prs [e p.1, f p.2]
theorem enum_map {α : Type} (e : α → Val) (xs : List α) : pairsOf' (xs.map e) = (enI xs).map (eR eI e) := by
  unfold pairsOf' enI
  rw [List.length_map, List.zipWith_map_right, List.map_zipWith]
  rfl
section
variable {S : Sto}
theorem items_L {α : Type} {e : α → Val} {xs : List α} : itemsOf S (eL e xs) = some (xs.map e, []) := rfl
end
section
variable {B B1 : Sto} {cs cs1 : List (Nat × Cell)} {ρ : Ev} {ms : MA} {v : Val}
theorem it_enum {α : Type} {en : α → Val} {ys : List α} {g : Gd} (h : X B cs ms ρ [v] B1 cs1) (hi : ∀ S, St B1 S cs1 → itemsOf S v = some (ys.map en, g)) : X B cs (mEnum ms) ρ ((enI ys).map (eR eI en), g) B1 cs1 := by
  intro S hS
  obtain ⟨S1, q1, h1⟩ := h S hS
  exact ⟨S1, by rw [e_enum, q1, bnd_ok, e_kEnum, hi S1 h1, e_kEnumb, enum_map], h1⟩
theorem it_range1 {j : Int} {xs : List Int} (h : X B cs ms ρ [.int j] B1 cs1) (hr : rngO 0 j = some xs) : X B cs (mRange1 ms) ρ (xs.map eI, []) B1 cs1 := by
  intro S hS
  obtain ⟨S1, q1, h1⟩ := h S hS
  refine ⟨S1, ?_, h1⟩
  unfold rngO at hr
  split at hr
  · rename_i q
    cases hr
    rw [e_range1, q1, bnd_ok, range1_ok q.2.2.1 q.2.2.2]
    simp [rangeL]
  · cases hr
end

inductive Lp (R σ : Type) where
  | go (s : σ) | ret (r : R) | brk (s : σ)
def forT {R σ α : Type} (step : σ → α → Option (Lp R σ)) : List α → σ → Option (Lp R σ)
  | [], s => some (.go s)
  | x :: xs, s => match step s x with
    | some (.go s') => forT step xs s'
    | some (.brk s') => some (.go s')
    | some (.ret r) => some (.ret r)
    | none => none
section
variable {R σ α : Type} {enc : α → Val} {g : Gd} {t : MG} {b n : MS} {P : Fl → Sto → Prop} {B B1 : Sto} {cs cs1 : List (Nat × Cell)}
def RunA (m : MS) (ρ : Ev) (S : Sto) (P : Fl → Sto → Prop) : Prop := ∃ fl S', m ρ S = some (fl, S') ∧ P fl S'
theorem Run.go {m : MS} {ρ : Ev} {S : Sto} (hS : St B S cs) (h : Run B cs m ρ P) : RunA m ρ S P := h S hS
def Turn (Inv : σ → Ev → Sto → Prop) (s : σ) (fl : Fl) (S : Sto) : Prop := ∃ ρ, (fl = .next ρ ∨ fl = .cont ρ) ∧ Inv s ρ S
def Exits (fl : Fl) : Prop := (∃ v, fl = .ret v) ∨ ∃ ρ e, fl = .exc ρ e
def TurnL (Inv : σ → Ev → Sto → Prop) (F : R → Fl → Sto → Prop) : Lp R σ → Fl → Sto → Prop
  | .go s, fl, S => ∃ ρ, (fl = .next ρ ∨ fl = .cont ρ) ∧ Inv s ρ S
  | .brk s, fl, S => ∃ ρ, fl = .brk ρ ∧ Inv s ρ S
  | .ret r, fl, S => Exits fl ∧ F r fl S
theorem loop_T {step : σ → α → Option (Lp R σ)} (Inv : σ → Ev → Sto → Prop) (F : R → Fl → Sto → Prop) (hg : ∀ s ρ S, Inv s ρ S → gOk g S)
    (hb : ∀ s x o ρ S, Inv s ρ S → step s x = some o → ∃ ρ1, t S (enc x) ρ = some ρ1 ∧ RunA b ρ1 S (TurnL Inv F o)) : ∀ (xs : List α) (s : σ) (o : Lp R σ) (ρ : Ev) (S : Sto), Inv s ρ S → forT step xs s = some o →
      ∃ fl S', forL g t b (xs.map enc) ρ S = some (fl, S') ∧ match o with | .ret r => Exits fl ∧ F r fl S' | .go s' => ∃ ρ', fl = .next ρ' ∧ Inv s' ρ' S' | .brk _ => False
  | [], s, o, ρ, S, hI, h => by
    cases h
    exact ⟨_, S, by rw [List.map_nil, forL, if_pos (hg _ _ _ hI)], ρ, rfl, hI⟩
  | x :: xs, s, o, ρ, S, hI, h => by
    rw [forT] at h
    split at h
    · rename_i s1 h1
      obtain ⟨ρ1, e1, fl, S2, e2, ρ2, hf, hI2⟩ := hb s x _ ρ S hI h1
      obtain ⟨fl', S', e3, hI3⟩ := loop_T Inv F hg hb xs s1 o ρ2 S2 hI2 h
      refine ⟨fl', S', ?_, hI3⟩
      rw [List.map_cons, forL, if_pos (hg _ _ _ hI), e1]
      rcases hf with rfl | rfl <;> simp only [e2] <;> exact e3
    · rename_i s1 h1
      obtain ⟨ρ1, e1, fl, S2, e2, ρ2, rfl, hI2⟩ := hb s x _ ρ S hI h1
      cases h
      exact ⟨.next ρ2, S2, by rw [List.map_cons, forL, if_pos (hg _ _ _ hI), e1]; simp only [e2], ρ2, rfl, hI2⟩
    · rename_i r h1
      obtain ⟨ρ1, e1, fl, S2, e2, ⟨v, rfl⟩ | ⟨ρx, ex, rfl⟩, hF⟩ := hb s x _ ρ S hI h1
      · cases h
        exact ⟨.ret v, S2, by rw [List.map_cons, forL, if_pos (hg _ _ _ hI), e1]; simp only [e2], .inl ⟨v, rfl⟩, hF⟩
      · cases h
        exact ⟨.exc ρx ex, S2, by rw [List.map_cons, forL, if_pos (hg _ _ _ hI), e1]; simp only [e2], .inr ⟨ρx, ex, rfl⟩, hF⟩
    · cases h
theorem run_forT {step : σ → α → Option (Lp R σ)} {mi : MI} {xs : List α} {s : σ} {o : Lp R σ} {ρ : Ev} (Inv : σ → Ev → Sto → Prop) (F : R → Fl → Sto → Prop) (hi : X B cs mi ρ (xs.map enc, g) B1 cs1) (h : forT step xs s = some o) (h0 : ∀ S, St B1 S cs1 → Inv s ρ S) (hg : ∀ s ρ S, Inv s ρ S → gOk g S)
    (hb : ∀ s x o ρ S, Inv s ρ S → step s x = some o → ∃ ρ1, t S (enc x) ρ = some ρ1 ∧ RunA b ρ1 S (TurnL Inv F o))
    (hr : ∀ r fl S, o = .ret r → Exits fl → F r fl S → P fl S) (hn : ∀ s' ρ S, o = .go s' → Inv s' ρ S → RunA n ρ S P) : Run B cs (sSeq (sFor mi t b) n) ρ P := by
  intro S hS
  obtain ⟨S1, hi, hS1⟩ := hi S hS
  obtain ⟨fl, S', e, hI⟩ := loop_T Inv F hg hb xs s o ρ S1 (h0 S1 hS1) h
  cases o with
  | go s' =>
    obtain ⟨ρ', rfl, hI⟩ := hI
    obtain ⟨fl, S2, q1, q2⟩ := hn s' ρ' S' rfl hI
    exact ⟨fl, S2, by rw [e_seq, e_for, hi, bns_ok, e_kFor, e, seqK_next]; exact q1, q2⟩
  | ret r =>
    obtain ⟨⟨v, rfl⟩ | ⟨ρx, ex, rfl⟩, hF⟩ := hI
    · exact ⟨.ret v, S', by rw [e_seq, e_for, hi, bns_ok, e_kFor, e, seqK_ret], hr r _ S' rfl (.inl ⟨v, rfl⟩) hF⟩
    · exact ⟨.exc ρx ex, S', by rw [e_seq, e_for, hi, bns_ok, e_kFor, e, seqK_exc], hr r _ S' rfl (.inr ⟨ρx, ex, rfl⟩) hF⟩
  | brk s' => exact hI.elim
end

mutual
theorem fz_fun {n : Nat} {S : Sto} : ∀ {v a b : Val}, Fz n S v a → Fz n S v b → a = b
  | _, _, _, .non, q => by cases q; rfl
  | _, _, _, .bl, q => by cases q; rfl
  | _, _, _, .int, q => by cases q; rfl
  | _, _, _, .str, q => by cases q; rfl
  | _, _, _, .tup h, q => by cases q with | tup h' => rw [fzl_fun h h']
  | _, _, _, .lst h, q => by cases q with | lst h' => rw [fzl_fun h h']
  | _, _, _, .scr, q => by cases q; rfl
  | _, _, _, .con, q => by cases q; rfl
  | _, _, _, .fnv, q => by cases q; rfl
  | _, _, _, .ex0, q => by cases q; rfl
  | _, _, _, .ex1 h, q => by cases q with | ex1 h' => rw [fz_fun h h']
  | _, _, _, .old h, q => by cases q with
    | old _ => rfl
    | new h' _ _ => exact absurd h (Nat.not_lt.mpr h')
    | newD h' _ _ => exact absurd h (Nat.not_lt.mpr h')
  | _, _, _, .new h' e h, q => by cases q with
    | old k => exact absurd k (Nat.not_lt.mpr h')
    | new _ e' h2 => rw [e] at e'; cases e'; rw [fzl_fun h h2]
    | newD _ e' _ => rw [e] at e'; cases e'
  | _, _, _, .dct h, q => by cases q with | dct h' => rw [fzd_fun h h']
  | _, _, _, .newD h' e h, q => by cases q with
    | old k => exact absurd k (Nat.not_lt.mpr h')
    | newD _ e' h2 => rw [e] at e'; cases e'; rw [fzd_fun h h2]
    | new _ e' _ => rw [e] at e'; cases e'
theorem fzl_fun {n : Nat} {S : Sto} : ∀ {v a b : List Val}, FzL n S v a → FzL n S v b → a = b
  | _, _, _, .nil, q => by cases q; rfl
  | _, _, _, .cons h t, q => by cases q with | cons h' t' => rw [fz_fun h h', fzl_fun t t']
theorem fzd_fun {n : Nat} {S : Sto} : ∀ {v a b : List (Key × Val)}, FzD n S v a → FzD n S v b → a = b
  | _, _, _, .nil, q => by cases q; rfl
  | _, _, _, .cons h t, q => by cases q with | cons h' t' => rw [fz_fun h h', fzd_fun t t']
end
def Ends (N : List Str) (m : MS) (ds : List Val) (S : Sto) (v' : Val) (S' : Sto) : Prop := ∃ fl v S1, m (startE N ds) S = some (fl, S1) ∧ retOf fl = some v ∧ Fz S.length S1 v v' ∧ FzS S.length S1 S' ∧ S' = S1.take S.length
open Classical in
noncomputable def runU (N : List Str) (m : MS) : Fn := okF fun ds S => if h : ∃ p : Val × Sto, Ends N m ds S p.1 p.2 then some h.choose else none
theorem keeps_runU {N : List Str} {n : Nat} {m : MS} : Keeps N n m (runU N m) := by
  intro ds S o hl h
  unfold runU okF prs at h
  split at h
  · rename_i v S' e
    cases h
    have e' : (open Classical in if h : ∃ p : Val × Sto, Ends N m ds S p.1 p.2 then some h.choose else none) = some (v, S') := e
    split at e'
    · rename_i hx
      have h1 := hx.choose_spec
      rw [Option.some.inj e'] at h1
      obtain ⟨fl, v1, S1, q1, q2, q3, q4, q5⟩ := h1
      exact ⟨fl, v1, S1, q1, q2, .trim q3 q4⟩
    · cases e'
  · cases h
theorem runU_ok {N : List Str} {m : MS} {ds : List Val} {S : Sto} {v : Val} {S' : Sto} (h : Ends N m ds S v S') : runU N m ds S = some (.ok v S') := by
  have hx : ∃ p : Val × Sto, Ends N m ds S p.1 p.2 := ⟨(v, S'), h⟩
  have e : hx.choose = (v, S') := by
    obtain ⟨fl, v1, S1, q1, q2, q3, q4, q5⟩ := hx.choose_spec
    obtain ⟨fl', v1', S1', p1, p2, p3, p4, p5⟩ := h
    rw [q1] at p1
    cases p1
    rw [q2] at p2
    cases p2
    exact Prod.ext (fz_fun q3 p3) (q5.trans p5.symm)
  unfold runU okF
  simp only [dif_pos hx, e]
  rfl
def Fin {α : Type} (B : Sto) (en : α → Val) (r : α) (fl : Fl) (S : Sto) : Prop := ∃ v, retOf fl = some v ∧ Fz B.length S v (en r) ∧ St B S []
theorem fin_ok {α : Type} {en : α → Val} {r : α} {N : List Str} {m : MS} {ds : List Val} {S B B0 : Sto} {cs : List (Nat × Cell)} (hS : St B0 S cs) (hl : B.length = S.length) (h : Run B0 cs m (startE N ds) (Fin B en r)) : runU N m ds S = some (.ok (en r) B) := by
  obtain ⟨fl, S1, h1, v, h2, h3, h4⟩ := h S hS
  rw [hl] at h3
  refine runU_ok ⟨fl, v, S1, h1, h2, h3, ?_, ?_⟩
  · obtain ⟨T, rfl⟩ := h4.pre
    exact fzS_app hl (ncS_left h4.nc h4.cb)
  · obtain ⟨T, rfl⟩ := h4.pre
    rw [← hl]
    simp
section
variable {α : Type} {en : α → Val} [NC en] {B S : Sto} {cs : List (Nat × Cell)}
theorem fin_val {r : α} {v : Val} (hv : v = en r) (h : St B S cs) : Fin B en r (.ret v) S := ⟨v, rfl, by rw [hv]; exact fz_nc _ (NC.nc r), h.nil⟩
end
def lcO {α β : Type} (g : α → Option (Option β)) : List α → Option (List β)
  | [] => some []
  | x :: xs => (g x).bind fun o => (lcO g xs).bind fun ys => match o with
    | some y => some (y :: ys)
    | none => some ys
theorem wipe1 {ρ ρ' : Ev} {i : Nat} (h : ρ.set i none = ρ') : wipeE ρ [i] = ρ' := h
section
variable {α β : Type} {enc : α → Val} {en : β → Val} {B B1 : Sto} {cs cs1 : List (Nat × Cell)} {ρ ρw : Ev} {mi : MI} {t : MG} {tt : MT} {te : ME} {vs : List Nat} {xs : List α} {g : Gd}
theorem lcw {h : α → Option (Option β)}  (hg : ∀ S, St B1 S cs1 → gOk g S)
    (hb : ∀ x o, h x = some o → ∃ ρ2, (∀ S, St B1 S cs1 → t S (enc x) ρ = some ρ2) ∧ match o with | none => X B1 cs1 tt ρ2 false B1 cs1 | some y => X B1 cs1 tt ρ2 true B1 cs1 ∧ X B1 cs1 te ρ2 (en y) B1 cs1) :
    ∀ (xs : List α) (ys : List β) (acc : List Val) (S : Sto), St B1 S cs1 → lcO h xs = some ys → acc.length + ys.length ≤ sizeLine → ∃ S', lcL g t tt te ρ (xs.map enc) S acc = some (.ok (acc ++ ys.map en) S') ∧ St B1 S' cs1
  | [], ys, acc, S, hS, q, hl => by cases q; exact ⟨S, by rw [List.map_nil, lcL, if_pos (hg S hS)]; simp, hS⟩
  | x :: xs, ys, acc, S, hS, q, hl => by
    obtain ⟨o, h1, q⟩ := Option.bind_eq_some_iff.mp q
    obtain ⟨zs, h2, q⟩ := Option.bind_eq_some_iff.mp q
    obtain ⟨ρ2, e1, e2⟩ := hb x o h1
    rw [List.map_cons, lcL, if_pos (hg S hS), e1 S hS]
    cases o with
    | none =>
      cases q
      obtain ⟨S1, q1, hS1⟩ := e2 S hS
      simp only [q1, bndN]
      exact lcw hg hb xs _ acc S1 hS1 h2 hl
    | some y =>
      cases q
      obtain ⟨e2, e3⟩ := e2
      obtain ⟨S1, q1, hS1⟩ := e2 S hS
      obtain ⟨S2, q2, hS2⟩ := e3 S1 hS1
      simp only [List.length_cons] at hl
      simp only [q1, bndN, if_true, q2, if_pos (show acc.length < sizeLine by omega)]
      obtain ⟨S', q3, hS3⟩ := lcw hg hb xs zs (acc ++ [en y]) S2 hS2 h2 (by simp; omega)
      refine ⟨S', ?_, hS3⟩
      rw [q3]
      simp
theorem lc_st {h : α → Option (Option β)} {zs ys : List β} (hi : X B cs mi ρ (xs.map enc, g) B1 cs1) (hw : wipeE ρ vs = ρw) (hg : ∀ S, St B1 S cs1 → gOk g S) (q : lcO h xs = some zs) (hz : szO zs = some ys)
    (hb : ∀ x o, h x = some o → ∃ ρ2, (∀ S, St B1 S cs1 → t S (enc x) ρw = some ρ2) ∧ match o with | none => X B1 cs1 tt ρ2 false B1 cs1 | some y => X B1 cs1 tt ρ2 true B1 cs1 ∧ X B1 cs1 te ρ2 (en y) B1 cs1) :
    ∀ S, St B S cs → ∃ S1 S', mi ρ S = some (.ok (xs.map enc, g) S1) ∧ lcL g t tt te (wipeE ρ vs) (xs.map enc) S1 [] = some (.ok (ys.map en) S') ∧ St B1 S' cs1 := by
  intro S hS
  obtain ⟨S1, q1, hS1⟩ := hi S hS
  obtain ⟨hl, rfl⟩ := szO_some hz
  obtain ⟨S', q2, hS2⟩ := lcw hg hb xs zs [] S1 hS1 q (by simpa using hl)
  exact ⟨S1, S', q1, by rw [hw]; simpa using q2, hS2⟩
theorem ev_lcO {h : α → Option (Option β)} {zs ys : List β} (hi : X B cs mi ρ (xs.map enc, g) B1 cs1) (hw : wipeE ρ vs = ρw) (hg : ∀ S, St B1 S cs1 → gOk g S) (q : lcO h xs = some zs) (hz : szO zs = some ys)
    (hb : ∀ x o, h x = some o → ∃ ρ2, (∀ S, St B1 S cs1 → t S (enc x) ρw = some ρ2) ∧ match o with | none => X B1 cs1 tt ρ2 false B1 cs1 | some y => X B1 cs1 tt ρ2 true B1 cs1 ∧ X B1 cs1 te ρ2 (en y) B1 cs1) : X B cs (mLc mi t tt te vs) ρ (eL en ys) B1 cs1 := by
  intro S hS
  obtain ⟨S1, S', q1, q2, hS2⟩ := lc_st hi hw hg q hz hb S hS
  exact ⟨S', by rw [e_lc, q1, bnd_ok, e_kLc, q2, bndN_ok, e_kLcb]; rfl, hS2⟩
theorem ev_yes : X B cs mYes ρ true B cs := .of fun _ => rfl
def lcS {σ : Type} (step : σ → α → Option (Option β × σ)) : List α → σ → Option (List β × σ)
  | [], s => some ([], s)
  | x :: xs, s => (step s x).bind fun p => (lcS step xs p.2).bind fun q => match p.1 with
    | some y => some (y :: q.1, q.2)
    | none => some q
theorem lc_draw {σ : Type} {step : σ → α → Option (Option β × σ)} (Inv : σ → Sto → Prop) (hg : ∀ s S, Inv s S → gOk g S)
    (hb : ∀ s x o s' S, Inv s S → step s x = some (o, s') → ∃ ρ2, t S (enc x) ρ = some ρ2 ∧ match o with | none => ∃ S', tt ρ2 S = some (.ok false S') ∧ Inv s' S' | some y => ∃ S1 S', tt ρ2 S = some (.ok true S1) ∧ te ρ2 S1 = some (.ok (en y) S') ∧ Inv s' S') :
    ∀ (xs : List α) (ys : List β) (acc : List Val) (s s' : σ) (S : Sto), Inv s S → lcS step xs s = some (ys, s') → acc.length + ys.length ≤ sizeLine → ∃ S', lcL g t tt te ρ (xs.map enc) S acc = some (.ok (acc ++ ys.map en) S') ∧ Inv s' S'
  | [], ys, acc, s, s', S, hS, q, hl => by cases q; exact ⟨S, by rw [List.map_nil, lcL, if_pos (hg s S hS)]; simp, hS⟩
  | x :: xs, ys, acc, s, s', S, hS, q, hl => by
    obtain ⟨⟨o, s1⟩, h1, q⟩ := Option.bind_eq_some_iff.mp q
    obtain ⟨⟨zs, s2⟩, h2, q⟩ := Option.bind_eq_some_iff.mp q
    obtain ⟨ρ2, e1, e2⟩ := hb s x o s1 S hS h1
    rw [List.map_cons, lcL, if_pos (hg s S hS), e1]
    cases o with
    | none =>
      cases q
      obtain ⟨S1, q1, hS1⟩ := e2
      simp only [q1, bndN]
      exact lc_draw Inv hg hb xs _ acc s1 _ S1 hS1 h2 hl
    | some y =>
      cases q
      obtain ⟨S1, S2, q1, q2, hS2⟩ := e2
      simp only [List.length_cons] at hl
      simp only [q1, bndN, if_true, q2, if_pos (show acc.length < sizeLine by omega)]
      obtain ⟨S', q3, hS3⟩ := lc_draw Inv hg hb xs zs (acc ++ [en y]) s1 s2 S2 hS2 h2 (by simp; omega)
      refine ⟨S', ?_, hS3⟩
      rw [q3]
      simp
theorem ev_lcS {σ : Type} {step : σ → α → Option (Option β × σ)} {s s' : σ} {zs ys : List β} {BF : σ → Sto} {CF : σ → List (Nat × Cell)} (hi : X B cs mi ρ (xs.map enc, g) (BF s) (CF s)) (hw : wipeE ρ vs = ρw) (hg : ∀ s S, St (BF s) S (CF s) → gOk g S) (q : lcS step xs s = some (zs, s')) (hz : szO zs = some ys)
    (hb : ∀ s x o s', step s x = some (o, s') → ∃ ρ2, (∀ S, St (BF s) S (CF s) → t S (enc x) ρw = some ρ2) ∧ match o with | none => X (BF s) (CF s) tt ρ2 false (BF s') (CF s') | some y => ∃ s1, X (BF s) (CF s) tt ρ2 true (BF s1) (CF s1) ∧ X (BF s1) (CF s1) te ρ2 (en y) (BF s') (CF s')) : X B cs (mLc mi t tt te vs) ρ (eL en ys) (BF s') (CF s') := by
  intro S hS
  obtain ⟨S1, q1, hS1⟩ := hi S hS
  obtain ⟨hl, rfl⟩ := szO_some hz
  obtain ⟨S', q2, hS2⟩ := lc_draw (g := g) (t := t) (tt := tt) (te := te) (ρ := ρw) (enc := enc) (en := en) (fun s S => St (BF s) S (CF s)) hg (fun s x o s' S hS h => by
    obtain ⟨ρ2, h1, h2⟩ := hb s x o s' h
    refine ⟨ρ2, h1 S hS, ?_⟩
    cases o with
    | none =>
      obtain ⟨S1, q1, hS1⟩ := h2 S hS
      exact ⟨S1, q1, hS1⟩
    | some y =>
      obtain ⟨s1, h3, h4⟩ := h2
      obtain ⟨S1, q1, hS1⟩ := h3 S hS
      obtain ⟨S2, q2, hS2⟩ := h4 S1 hS1
      exact ⟨S1, S2, q1, q2, hS2⟩) xs zs [] s s' S1 hS1 q (by simpa using hl)
  exact ⟨S', by rw [e_lc, q1, bnd_ok, e_kLc, hw, q2, bndN_ok, e_kLcb]; rfl, hS2⟩
end
theorem v0 {v : Val} {ρ : Ev} {B : Sto} {cs : List (Nat × Cell)} : X B cs (mVar 0) (some v :: ρ) v B cs := .of fun _ => rfl
theorem st0 {A : Type} {b x : A} {ρ : List A} : List.set (b :: ρ) 0 x = x :: ρ := rfl
theorem gt0 {A : Type} {x : A} {ρ : List A} : (x :: ρ)[0]? = some x := rfl
theorem v1 {a0 : Option Val} {v : Val} {ρ : Ev} {B : Sto} {cs : List (Nat × Cell)} : X B cs (mVar 1) (a0 :: some v :: ρ) v B cs := .of fun _ => rfl
theorem st1 {A : Type} {a0 : A} {b x : A} {ρ : List A} : List.set (a0 :: b :: ρ) 1 x = a0 :: x :: ρ := rfl
theorem v2 {a0 a1 : Option Val} {v : Val} {ρ : Ev} {B : Sto} {cs : List (Nat × Cell)} : X B cs (mVar 2) (a0 :: a1 :: some v :: ρ) v B cs := .of fun _ => rfl
theorem st2 {A : Type} {a0 a1 : A} {b x : A} {ρ : List A} : List.set (a0 :: a1 :: b :: ρ) 2 x = a0 :: a1 :: x :: ρ := rfl
theorem v3 {a0 a1 a2 : Option Val} {v : Val} {ρ : Ev} {B : Sto} {cs : List (Nat × Cell)} : X B cs (mVar 3) (a0 :: a1 :: a2 :: some v :: ρ) v B cs := .of fun _ => rfl
theorem st3 {A : Type} {a0 a1 a2 : A} {b x : A} {ρ : List A} : List.set (a0 :: a1 :: a2 :: b :: ρ) 3 x = a0 :: a1 :: a2 :: x :: ρ := rfl
theorem v4 {a0 a1 a2 a3 : Option Val} {v : Val} {ρ : Ev} {B : Sto} {cs : List (Nat × Cell)} : X B cs (mVar 4) (a0 :: a1 :: a2 :: a3 :: some v :: ρ) v B cs := .of fun _ => rfl
theorem st4 {A : Type} {a0 a1 a2 a3 : A} {b x : A} {ρ : List A} : List.set (a0 :: a1 :: a2 :: a3 :: b :: ρ) 4 x = a0 :: a1 :: a2 :: a3 :: x :: ρ := rfl
theorem v5 {a0 a1 a2 a3 a4 : Option Val} {v : Val} {ρ : Ev} {B : Sto} {cs : List (Nat × Cell)} : X B cs (mVar 5) (a0 :: a1 :: a2 :: a3 :: a4 :: some v :: ρ) v B cs := .of fun _ => rfl
theorem st5 {A : Type} {a0 a1 a2 a3 a4 : A} {b x : A} {ρ : List A} : List.set (a0 :: a1 :: a2 :: a3 :: a4 :: b :: ρ) 5 x = a0 :: a1 :: a2 :: a3 :: a4 :: x :: ρ := rfl
theorem v6 {a0 a1 a2 a3 a4 a5 : Option Val} {v : Val} {ρ : Ev} {B : Sto} {cs : List (Nat × Cell)} : X B cs (mVar 6) (a0 :: a1 :: a2 :: a3 :: a4 :: a5 :: some v :: ρ) v B cs := .of fun _ => rfl
theorem st6 {A : Type} {a0 a1 a2 a3 a4 a5 : A} {b x : A} {ρ : List A} : List.set (a0 :: a1 :: a2 :: a3 :: a4 :: a5 :: b :: ρ) 6 x = a0 :: a1 :: a2 :: a3 :: a4 :: a5 :: x :: ρ := rfl
theorem v7 {a0 a1 a2 a3 a4 a5 a6 : Option Val} {v : Val} {ρ : Ev} {B : Sto} {cs : List (Nat × Cell)} : X B cs (mVar 7) (a0 :: a1 :: a2 :: a3 :: a4 :: a5 :: a6 :: some v :: ρ) v B cs := .of fun _ => rfl
theorem st7 {A : Type} {a0 a1 a2 a3 a4 a5 a6 : A} {b x : A} {ρ : List A} : List.set (a0 :: a1 :: a2 :: a3 :: a4 :: a5 :: a6 :: b :: ρ) 7 x = a0 :: a1 :: a2 :: a3 :: a4 :: a5 :: a6 :: x :: ρ := rfl
theorem v8 {a0 a1 a2 a3 a4 a5 a6 a7 : Option Val} {v : Val} {ρ : Ev} {B : Sto} {cs : List (Nat × Cell)} : X B cs (mVar 8) (a0 :: a1 :: a2 :: a3 :: a4 :: a5 :: a6 :: a7 :: some v :: ρ) v B cs := .of fun _ => rfl
theorem st8 {A : Type} {a0 a1 a2 a3 a4 a5 a6 a7 : A} {b x : A} {ρ : List A} : List.set (a0 :: a1 :: a2 :: a3 :: a4 :: a5 :: a6 :: a7 :: b :: ρ) 8 x = a0 :: a1 :: a2 :: a3 :: a4 :: a5 :: a6 :: a7 :: x :: ρ := rfl
theorem v9 {a0 a1 a2 a3 a4 a5 a6 a7 a8 : Option Val} {v : Val} {ρ : Ev} {B : Sto} {cs : List (Nat × Cell)} : X B cs (mVar 9) (a0 :: a1 :: a2 :: a3 :: a4 :: a5 :: a6 :: a7 :: a8 :: some v :: ρ) v B cs := .of fun _ => rfl
theorem st9 {A : Type} {a0 a1 a2 a3 a4 a5 a6 a7 a8 : A} {b x : A} {ρ : List A} : List.set (a0 :: a1 :: a2 :: a3 :: a4 :: a5 :: a6 :: a7 :: a8 :: b :: ρ) 9 x = a0 :: a1 :: a2 :: a3 :: a4 :: a5 :: a6 :: a7 :: a8 :: x :: ρ := rfl
theorem v10 {a0 a1 a2 a3 a4 a5 a6 a7 a8 a9 : Option Val} {v : Val} {ρ : Ev} {B : Sto} {cs : List (Nat × Cell)} : X B cs (mVar 10) (a0 :: a1 :: a2 :: a3 :: a4 :: a5 :: a6 :: a7 :: a8 :: a9 :: some v :: ρ) v B cs := .of fun _ => rfl
theorem st10 {A : Type} {a0 a1 a2 a3 a4 a5 a6 a7 a8 a9 : A} {b x : A} {ρ : List A} : List.set (a0 :: a1 :: a2 :: a3 :: a4 :: a5 :: a6 :: a7 :: a8 :: a9 :: b :: ρ) 10 x = a0 :: a1 :: a2 :: a3 :: a4 :: a5 :: a6 :: a7 :: a8 :: a9 :: x :: ρ := rfl
theorem v11 {a0 a1 a2 a3 a4 a5 a6 a7 a8 a9 a10 : Option Val} {v : Val} {ρ : Ev} {B : Sto} {cs : List (Nat × Cell)} : X B cs (mVar 11) (a0 :: a1 :: a2 :: a3 :: a4 :: a5 :: a6 :: a7 :: a8 :: a9 :: a10 :: some v :: ρ) v B cs := .of fun _ => rfl
theorem st11 {A : Type} {a0 a1 a2 a3 a4 a5 a6 a7 a8 a9 a10 : A} {b x : A} {ρ : List A} : List.set (a0 :: a1 :: a2 :: a3 :: a4 :: a5 :: a6 :: a7 :: a8 :: a9 :: a10 :: b :: ρ) 11 x = a0 :: a1 :: a2 :: a3 :: a4 :: a5 :: a6 :: a7 :: a8 :: a9 :: a10 :: x :: ρ := rfl
theorem v12 {a0 a1 a2 a3 a4 a5 a6 a7 a8 a9 a10 a11 : Option Val} {v : Val} {ρ : Ev} {B : Sto} {cs : List (Nat × Cell)} : X B cs (mVar 12) (a0 :: a1 :: a2 :: a3 :: a4 :: a5 :: a6 :: a7 :: a8 :: a9 :: a10 :: a11 :: some v :: ρ) v B cs := .of fun _ => rfl
theorem st12 {A : Type} {a0 a1 a2 a3 a4 a5 a6 a7 a8 a9 a10 a11 : A} {b x : A} {ρ : List A} : List.set (a0 :: a1 :: a2 :: a3 :: a4 :: a5 :: a6 :: a7 :: a8 :: a9 :: a10 :: a11 :: b :: ρ) 12 x = a0 :: a1 :: a2 :: a3 :: a4 :: a5 :: a6 :: a7 :: a8 :: a9 :: a10 :: a11 :: x :: ρ := rfl
end G

set_option Elab.async false
set_option linter.all false
set_option maxRecDepth 100000
set_option maxHeartbeats 4000000
namespace G
open PySem PySem.Spec PyProof.Rows L2
section
variable {S : Sto} {α β : Type} {e : α → Val} {f : β → Val} {x y : Val} {b c : Bool} {xs ys zs : List α} {i j : Int} {k : Nat}
theorem sqL : seqOf S (eL e xs) = some (false, xs.map e) := rfl
theorem lsL : lstOf S (eL e xs) = some (xs.map e) := rfl
theorem atI_map (e : α → Val) (xs : List α) (i : Int) : atI (xs.map e) i = (atI xs i).map e := by
  unfold atI
  rw [List.length_map]
  cases ixN xs.length i with
  | none => rfl
  | some j => simp
theorem cutL_map (e : α → Val) (xs : List α) (lo hi : Option Int) : cutL (xs.map e) lo hi = (cutL xs lo hi).map e := by
  unfold cutL
  rw [List.length_map, List.map_take, List.map_drop]
theorem op_mod {r : Int} (h : fMod i j = some r) : aMod S (.int i) (.int j) = some (.int r) := by show (fMod i j).map Val.int = _; rw [h]; rfl
theorem op_pow {r : Int} (h : fPow i j = some r) : aPow S (.int i) (.int j) = some (.int r) := by show (fPow i j).map Val.int = _; rw [h]; rfl
theorem op_add : sAdd S (.int i) (.int j) = some (.int (i + j)) := rfl
theorem op_neg : sNeg S (.int i) = some (.int (-i)) := rfl
theorem sAdd_ls {us vs : List Val} (h1 : lstOf S x = some us) (h2 : lstOf S y = some vs) (hl : us.length + vs.length ≤ sizeLine) : sAdd S x y = some (.lst (us ++ vs)) := by
  cases x <;> simp only [lstOf, reduceCtorEq] at h1 <;> cases y <;> simp only [lstOf, reduceCtorEq] at h2 <;> simp only [sAdd, lstOf, h1, h2, hl, if_true]
theorem op_addL (h1 : lstOf S x = some (xs.map e)) (h2 : lstOf S y = some (ys.map e)) (h : szO (xs ++ ys) = some zs) : sAdd S x y = some (eL e zs) := by
  obtain ⟨hl, rfl⟩ := szO_some h
  rw [sAdd_ls h1 h2 (by simpa using hl)]
  simp [eL]
theorem op_len (h : seqOf S x = some (b, xs.map e)) : sLen S [x] = some (.int xs.length) := by
  cases x <;> simp_all [sLen, seqOf, lstOf]
theorem op_ix {r : α} (h : seqOf S x = some (b, xs.map e)) (q : atI xs i = some r) : sIx S x (.int i) = some (e r) := ix_seq h (by rw [atI_map, q]; rfl)
theorem op_slL {lo hi : Option Int} (h : seqOf S x = some (false, xs.map e)) : sSlice S x lo hi = some (eL e (cutL xs lo hi)) := by
  unfold eL
  rw [← cutL_map]
  cases x <;> simp_all [sSlice, seqOf, lstOf]
class DE {α : Type} (e : α → Val) (n : outParam Nat) where
  d : α → PyData
  dat : ∀ S a, dat S (e a) = some (d a)
  toD : ∀ a, toD (e a) = some (d a)
  lay : ∀ a, (d a).canLay0 = true
  dep : ∀ a, (d a).depth ≤ n
  eqv : ∀ a b, PyData.eqv (d a) (d b) = true ↔ a = b
instance : DE eI 0 := ⟨PyData.int, fun _ _ => by simp [G.dat], fun _ => by simp [G.toD], fun _ => by simp [PyData.canLay0], fun _ => by simp [PyData.depth], fun a b => by simp [PyData.eqv]⟩
instance : DE eB 0 := ⟨PyData.bool, fun _ _ => by simp [G.dat], fun _ => by simp [G.toD], fun _ => by simp [PyData.canLay0], fun _ => by simp [PyData.depth], fun a b => by cases a <;> cases b <;> simp [PyData.eqv]⟩
theorem DE.datL {e : α → Val} {n : Nat} [DE e n] (S : Sto) : ∀ xs : List α, datL S (xs.map e) = some (xs.map (DE.d e))
  | [] => by simp [G.datL]
  | x :: xs => by simp [G.datL, DE.dat, DE.datL S xs]
theorem DE.toDL {e : α → Val} {n : Nat} [DE e n] : ∀ xs : List α, toDL (xs.map e) = some (xs.map (DE.d e))
  | [] => by simp [G.toDL]
  | x :: xs => by simp [G.toDL, DE.toD, DE.toDL xs]
theorem DE.layL {e : α → Val} {n : Nat} [DE e n] : ∀ xs : List α, PyData.canLayAll0 (xs.map (DE.d e)) = true
  | [] => by simp [PyData.canLayAll0]
  | x :: xs => by simp [PyData.canLayAll0, DE.lay, DE.layL xs]
theorem DE.depL {e : α → Val} {n : Nat} [DE e n] : ∀ xs : List α, PyData.depthAll (xs.map (DE.d e)) ≤ n
  | [] => by simp [PyData.depthAll]
  | x :: xs => by
    have := DE.dep (e := e) x
    have := DE.depL (e := e) xs
    simp [PyData.depthAll]
    omega
theorem DE.eqvL {e : α → Val} {n : Nat} [DE e n] : ∀ xs ys : List α, PyData.eqvAll (xs.map (DE.d e)) (ys.map (DE.d e)) = true ↔ xs = ys
  | [], [] => by simp [PyData.eqvAll]
  | [], y :: ys => by simp [PyData.eqvAll]
  | x :: xs, [] => by simp [PyData.eqvAll]
  | x :: xs, y :: ys => by simp [PyData.eqvAll, DE.eqv, DE.eqvL xs ys]
instance {e : α → Val} {n : Nat} [DE e n] : DE (eT e) (n + 1) := ⟨fun xs => .tuple (xs.map (DE.d e)), fun S xs => by simp [G.dat, eT, DE.datL], fun xs => by simp [G.toD, eT, DE.toDL], fun xs => by simp [PyData.canLay0, DE.layL], fun xs => by
  have := DE.depL (e := e) xs
  simp [PyData.depth]; omega, fun xs ys => by simp [PyData.eqv, DE.eqvL]⟩
instance {e : α → Val} {n : Nat} [DE e n] : DE (eL e) (n + 1) := ⟨fun xs => .list (xs.map (DE.d e)), fun S xs => by simp [G.dat, eL, DE.datL], fun xs => by simp [G.toD, eL, DE.toDL], fun xs => by simp [PyData.canLay0, DE.layL], fun xs => by
  have := DE.depL (e := e) xs
  simp [PyData.depth]; omega, fun xs ys => by simp [PyData.eqv, DE.eqvL]⟩
theorem DE.shaped {e : α → Val} {n : Nat} [DE e n] (h : n ≤ 60) (a : α) : SeqAt.shaped (DE.d e a) = true := by
  have := DE.dep (e := e) a
  unfold SeqAt.shaped
  rw [DE.lay]
  simp
  omega
theorem sEqD_of {n : Nat} [DecidableEq α] [DE e n] (h : n ≤ 60) {x y : Val} {a b : α} (hx : dat S x = some (DE.d e a)) (hy : dat S y = some (DE.d e b)) : sEqD S x y = some (decide (a = b)) := by
  unfold sEqD
  simp only [hx, hy, DE.shaped h, and_self, if_true, Option.some.injEq]
  rw [Bool.eq_iff_iff, DE.eqv]
  simp
theorem sEqB_of {n : Nat} [DecidableEq α] [DE e n] (h : n ≤ 60) {x y : Val} {a b : α} (hx : dat S x = some (DE.d e a)) (hy : dat S y = some (DE.d e b)) : sEqB S x y = some (decide (a = b)) := by
  have q := sEqD_of h hx hy
  unfold sEqB
  split
  · rename_i s t
    have hs : DE.d e a = .str s := by rw [G.dat] at hx; exact (Option.some.inj hx).symm
    have ht : DE.d e b = .str t := by rw [G.dat] at hy; exact (Option.some.inj hy).symm
    have := DE.eqv (e := e) a b
    rw [hs, ht] at this
    simp only [PyData.eqv] at this
    congr 1
    rw [decide_eq_decide]
    simpa using this
  · exact q
theorem op_eq {n : Nat} [DecidableEq α] [DE e n] {a b : α} (h : n ≤ 60) : sEq S (e a) (e b) = some (.bl (decide (a = b))) := by
  unfold sEq; rw [sEqB_of h (DE.dat S a) (DE.dat S b)]; rfl
theorem op_ne {n : Nat} [DecidableEq α] [DE e n] {a b : α} (h : n ≤ 60) : sNe S (e a) (e b) = some (.bl (!decide (a = b))) := by
  unfold sNe; rw [sEqB_of h (DE.dat S a) (DE.dat S b)]; rfl
class NN {α : Type} (e : α → Val) : Prop where
  nn : ∀ a, isNon (e a) = some false
instance : NN eI := ⟨fun _ => rfl⟩
instance : NN eB := ⟨fun _ => rfl⟩
instance : NN eS := ⟨fun _ => rfl⟩
instance {e : α → Val} : NN (eT e) := ⟨fun _ => rfl⟩
instance {e : α → Val} : NN (eL e) := ⟨fun _ => rfl⟩
instance {e : α → Val} {f : β → Val} : NN (eP e f) := ⟨fun _ => rfl⟩
instance {γ : Type} {e : α → Val} {f : β → Val} {g : γ → Val} : NN (eQ e f g) := ⟨fun _ => rfl⟩
end

section
variable {α : Type} {e : α → Val} [NC e] {B : Sto} {cs cs' : List (Nat × Cell)} {xs ys zs : List α} {k : Nat} {y : Val} {i : Int}
end
section
variable {α : Type} {en : α → Val} [NC en] {B B1 : Sto} {cs cs1 : List (Nat × Cell)} {xs : List α} {ρ : Ev} {ms : MA} {n : MS} {P : Fl → Sto → Prop} {i : Nat}
end
end G

set_option Elab.async false
set_option linter.all false
set_option maxRecDepth 100000
set_option maxHeartbeats 4000000
namespace G
open PySem PySem.Spec PyProof.Rows L2
theorem ifT {c : Bool} {α : Type} {a b : α} (h : c = true) : (if c = true then a else b) = a := if_pos h
theorem ifF {c : Bool} {α : Type} {a b : α} (h : c = false) : (if c = true then a else b) = b := if_neg (by rw [h]; decide)
theorem ltset {S : Sto} {k j : Nat} {c : Cell} (h : k < S.length) : k < (S.set j c).length := by rw [List.length_set]; exact h
theorem X.cast {α : Type} {B B' : Sto} {cs cs' : List (Nat × Cell)} {m : Ev → Sto → Res α} {ρ : Ev} {a b : α} (h : a = b) (d : X B cs m ρ a B' cs') : X B cs m ρ b B' cs' := h ▸ d
section
variable {B B1 B2 : Sto} {cs cs1 cs2 : List (Nat × Cell)} {ρ : Ev} {ms : MA} {ma : ME}
theorem strc {x : Str} {a : List Nat} (h : x = tx a) : X B cs (mC (.str x)) ρ (eS a) B cs := .of fun _ => by rw [h]; rfl
theorem tup0 {α : Type} {e : α → Val} : X B cs (mTup mNil) ρ (eT e []) B cs := .of fun S => by rw [e_tup, e_nil, bnd_ok, e_kTup, if_pos (by decide)]; rfl
theorem lst0 {α : Type} {e : α → Val} : X B cs (mLst mNil) ρ (eL e []) B cs := .of fun S => by rw [e_lst, e_nil, bnd_ok, e_kLst, if_pos (by decide)]; rfl
theorem tupT {α : Type} {e : α → Val} {xs : List α} (hs : X B cs ms ρ (xs.map e) B1 cs1) (hl : xs.length ≤ 16777216) : X B cs (mTup ms) ρ (eT e xs) B1 cs1 := ev_tup hs (by rw [List.length_map]; exact hl)
theorem lstT {α : Type} {e : α → Val} {xs : List α} (hs : X B cs ms ρ (xs.map e) B1 cs1) (hl : xs.length ≤ 16777216) : X B cs (mLst ms) ρ (eL e xs) B1 cs1 := ev_lst hs (by rw [List.length_map]; exact hl)
end
def lpK {R σ β : Type} (o : Lp R σ) (kr : R → β) (k : σ → Option β) : Option β := match o with
  | .ret r => some (kr r)
  | .go s => k s
  | .brk _ => none
noncomputable def rpO (v : Val) : Option Str := match toD v with
  | some d => if d.showable = true ∧ d.shown.length ≤ 16777216 ∧ d.depth ≤ 60 ∧ d.hasDict = false then some d.shown else none
  | none => match rdX v with
    | some d => if d.showable = true ∧ d.shown.length ≤ 16777216 ∧ d.depth ≤ 60 then some d.shown else none
    | none => none
end G

set_option Elab.async false
set_option linter.all false
set_option maxRecDepth 100000
set_option maxHeartbeats 4000000
namespace G
open PySem PySem.Spec PyProof.Rows L2
theorem St.startB {S : Sto} {k : Nat} {c : Cell} (h : ncS S) (hk : S[k]? = some c) : St (S.set k c) S [(k, c)] := by
  obtain ⟨h1, h2⟩ := List.getElem?_eq_some_iff.mp hk
  have : S.set k c = S := by rw [← h2, List.set_getElem_self]
  rw [this]
  exact St.startK h hk
section
variable {S : Sto} {α : Type} {e : α → Val} {x : Val} {b : Bool} {xs : List α}
end
section
variable {B B1 : Sto} {cs cs1 : List (Nat × Cell)} {ρ ρ' : Ev} {ms ms' : MA} {ma : ME} {n : MS} {P : Fl → Sto → Prop} {i j l : Nat}
def Y (B : Sto) (cs : List (Nat × Cell)) (m : MA) (ρ : Ev) (Q : List Val → Sto → Prop) : Prop := ∀ S, St B S cs → ∃ vs S', m ρ S = some (.ok vs S') ∧ Q vs S'
end
end G

set_option Elab.async false
set_option linter.all false
set_option maxRecDepth 100000
set_option maxHeartbeats 4000000
namespace G
open PySem PySem.Spec PyProof.Rows L2
mutual
theorem toD_dat (S : Sto) : ∀ (v : Val) (d : PyData), toD v = some d → dat S v = some d
  | .non, d, h => by simpa [toD, dat] using h
  | .bl b, d, h => by simpa [toD, dat] using h
  | .int i, d, h => by simpa [toD, dat] using h
  | .str x, d, h => by simpa [toD, dat] using h
  | .tup xs, d, h => by
    rw [toD] at h
    obtain ⟨ds, h1, rfl⟩ := Option.map_eq_some_iff.mp h
    rw [dat, toDL_datL S xs ds h1]
    rfl
  | .lst xs, d, h => by
    rw [toD] at h
    obtain ⟨ds, h1, rfl⟩ := Option.map_eq_some_iff.mp h
    rw [dat, toDL_datL S xs ds h1]
    rfl
  | .scr ns, d, h => by simpa [toD, dat] using h
  | .dct _, d, h => by simp [toD] at h
  | .cell _, d, h => by simp [toD] at h
  | .con _, d, h => by simp [toD] at h
  | .fnv _, d, h => by simp [toD] at h
  | .err _ _ _ _, d, h => by simp [toD] at h
  | .ex0 _, d, h => by simp [toD] at h
  | .ex1 _ _ _, d, h => by simp [toD] at h
  | .prs _, d, h => by simp [toD] at h
theorem toDL_datL (S : Sto) : ∀ (v : List Val) (d : List PyData), toDL v = some d → datL S v = some d
  | [], d, h => by simpa [toDL, datL] using h
  | x :: xs, d, h => by
    rw [toDL] at h
    split at h
    · rename_i a b h1 h2
      rw [datL, toD_dat S x a h1, toDL_datL S xs b h2]
      exact h
    · cases h
end
theorem op_repr {S : Sto} {v : Val} {r : Str} (h : rpO v = some r) : sReprX S [v] = some (.str r) := by
  unfold rpO at h
  unfold sReprX
  split at h
  · rename_i d hd
    split at h
    · rename_i q
      cases h
      simp only [hd]
      unfold sRepr sReprS
      simp only [toD_dat S v d hd]
      rw [if_pos (by rw [sz]; exact q)]
      rfl
    · cases h
  · rename_i hd
    split at h
    · rename_i d he
      split at h
      · rename_i q
        cases h
        simp only [hd, he]
        unfold sReprD
        rw [if_pos (by rw [sz]; exact q)]
      · cases h
    · cases h
theorem Fine.rpO {v : Val} {w dp : Nat} (h : Fine v w dp) (h1 : w ≤ 16777216) (h2 : dp ≤ 60) : ∃ r, rpO v = some r := by
  obtain ⟨d, a, b, c, e, f, g⟩ := h.ex
  unfold G.rpO
  simp only [a.2]
  rw [if_pos ⟨b, Nat.le_trans c h1, Nat.le_trans e h2, f⟩]
  exact ⟨_, rfl⟩
theorem op_eqR {S : Sto} {a b : Str} : sEq S (.str a) (.str b) = some (.bl (decide (a = b))) := rfl
def bel (s : Stm) (n : Int) : Int × Stm :=
  let c := s.cells.getD s.pos.toNat 0
  let fresh : Bool := decide (s.rest = 0) && decide (s.pos < s.cells.length)
  let rest := if fresh then c * (if 1000000000000000000 ≤ c then 1 else 0) else s.rest
  let st0 := if fresh then s.st * 69069 + c % 4294967291 + 1 else s.st
  let st1 := (st0 * 1103515245 + 12345 + s.pos) % 2305843009213693951
  (if 0 < rest then rest % n else st1 * st1 % 2305843009213693951 / 64 % n, ⟨s.cells, if fresh then s.pos + 1 else s.pos, rest / n, st1⟩)
theorem bel_lt (s : Stm) {n : Int} (hn : 0 < n) : 0 ≤ (bel s n).1 ∧ (bel s n).1 < n := by
  unfold bel
  dsimp only
  generalize (if (decide (s.rest = 0) && decide (s.pos < s.cells.length)) = true then s.cells.getD s.pos.toNat 0 * (if 1000000000000000000 ≤ s.cells.getD s.pos.toNat 0 then 1 else 0) else s.rest) = q
  by_cases h : 0 < q
  · rw [if_pos h]
    exact ⟨Int.emod_nonneg _ (by omega), Int.emod_lt_of_pos _ hn⟩
  · rw [if_neg h]
    exact ⟨Int.emod_nonneg _ (by omega), Int.emod_lt_of_pos _ hn⟩
theorem bel_ok {s : Stm} {n : Int} (h : s.Ok) (hn : 0 < n) : (bel s n).2.Ok := by
  obtain ⟨ok1, ok2, ok3, ok4⟩ := h
  unfold bel
  refine ⟨ok1, ?_, ?_, Int.emod_nonneg _ (by decide)⟩
  · dsimp only
    split <;> omega
  · dsimp only
    refine Int.ediv_nonneg ?_ (by omega)
    split
    · rename_i hf
      rw [Bool.and_eq_true, decide_eq_true_eq, decide_eq_true_eq] at hf
      refine Int.mul_nonneg ?_ (by split <;> decide)
      rw [List.getD_eq_getElem?_getD, List.getElem?_eq_getElem (by omega)]
      exact ok1 _ (List.getElem_mem _)
    · exact ok3
theorem run_t_below {k : Nat} {n : Int} {s : Stm} {S : Sto} (hk : S[k]? = some s.cell) (ok : s.Ok) (hn : 0 < n) (hb : n < 2 ^ 64) : m__law_below (startE N__law_below [.cell k, .int n]) S = some (.ret (.int (bel s n).1), S.set k (bel s n).2.cell) := by
  obtain ⟨cells, pos, rest, st⟩ := s
  obtain ⟨ok1, ok2, ok3, ok4⟩ := ok
  simp only at ok1 ok2 ok3 ok4
  have hlt := (List.getElem?_eq_some_iff.mp hk).1
  have hk' : S[k]? = some (.lst [lI cells, .int pos, .int rest, .int st]) := hk
  have e0 : startE N__law_below [.cell k, .int n] = [some (.cell k), some (.int n), none, none, none, none] := rfl
  have hc : ∀ xs, (S.set k (.lst xs))[k]? = some (.lst xs) := fun xs => List.getElem?_set_self hlt
  rw [e0]
  unfold m__law_below
  have tail : ∀ (pos' rest' st0 : Int), 0 ≤ rest' → ∀ S1, S1 = S.set k (.lst [lI cells, .int pos', .int rest, .int st]) → (sSeq (sSub sSetI (mVar 0) (mC (.int 2)) (mO2 aDiv (mVar 4) (mVar 1))) (sSeq (sSet 5 (mO2 aMod (mO2 sAdd (mO2 sAdd (mO2 aMul (mVar 5) (mC (.int 1103515245))) (mC (.int 12345))) (mVar 3)) (mC (.int 2305843009213693951)))) (sSeq (sSub sSetI (mVar 0) (mC (.int 3)) (mVar 5)) (sSeq (sIf (mTB (mO2 cGt (mVar 4) (mC (.int 0)))) (sRet (mO2 aMod (mVar 4) (mVar 1))) (sNil)) (sRet (mO2 aMod (mO2 aDiv (mO2 aMod (mO2 aMul (mVar 5) (mVar 5)) (mC (.int 2305843009213693951))) (mC (.int 64))) (mVar 1)))))))
      [some (.cell k), some (.int n), some (lI cells), some (.int pos), some (.int rest'), some (.int st0)] S1 = some (.ret (.int (if 0 < rest' then rest' % n else (st0 * 1103515245 + 12345 + pos) % 2305843009213693951 * ((st0 * 1103515245 + 12345 + pos) % 2305843009213693951) % 2305843009213693951 / 64 % n)), S.set k (.lst [lI cells, .int pos', .int (rest' / n), .int ((st0 * 1103515245 + 12345 + pos) % 2305843009213693951)])) := by
    intro pos' rest' st0 h2 S1 hS
    subst hS
    have m1 : 0 ≤ (st0 * 1103515245 + 12345 + pos) % 2305843009213693951 := Int.emod_nonneg _ (by decide)
    have m2 : (st0 * 1103515245 + 12345 + pos) % 2305843009213693951 < 2305843009213693951 := Int.emod_lt_of_pos _ (by decide)
    simp -implicitDefEqProofs only [e_seq, seqK_next, seqK_ret, seqK_brk, seqK_cont, bnd_ok, bndN_ok, bns_ok, pur_some, prs_some, e_var, varK_some, toB_bl, asgK_some, subK_some, e_o2, e_kO2, e_kO2b, e_o1, e_kO1, e_cons, e_kCons, e_kConsb, e_nil, e_c, e_ca, e_kCa, e_cs, e_kCs, e_tb, e_kTB, e_tr, e_kTr, e_andT, e_kAndT, e_orT, e_kOrT, e_notT, e_kNotT, e_if, e_kIf, e_no, e_part, e_kPart, e_sl, e_kSl, e_kSlb, e_kSlc, e_mt, e_kMt, e_kMtb, e_val, e_kVal, e_enum, e_kEnum, e_kEnumb, e_yes, e_call, e_kCal, e_snil, e_brk, e_cont, e_retN, e_expr, e_kExpr, e_ret, e_kRet, e_sif, e_kSIf, e_set, e_kSet, e_par, e_kPar, e_par3, e_kPar3, e_aug, e_kAug, e_kAugb, e_kAugc, e_tup, e_kTup, e_lst, e_kLst, e_new, e_kNew, e_lc, e_kLc, e_kLcb, e_lcC, e_kLcC, e_kLcCb, e_for, e_kFor, e_gN, e_kGs, e_kAsg, e_asg, e_kSubc, e_kSubb, e_kSub, e_sub, e_and, e_or, e_not, e_kAnd, e_kOr, e_kNot, e_chain, e_kCh, e_kChb, e_kChv, e_kChc, and_t, and_f, or_t, or_f, not_b, tr_bl, tr_int, tr_non, neg_int, items_str, e_ms, e_kMs, e_kMx, count_str, mul_int, gT_tup, gT_lst, gs_cons, gs_nil, bind_some, op_int, cmp_int, add_int, iadd_int, some_map, seq_tup, seq_lst, seq_scr, sl_tup, sl_lst, sl_scr, items_tup, items_lst, len_tup, len_lst, len_scr, lst_lst, sz, e_range1, e_range2, range1_ok, range2_ok, p10_6, p10_10, p10_12, p10_18, int_bl, int_int, abs_int, max2_int, min2_int, tuple_tup, tuple_lst, rev_tup, rev_lst, sEq, sNe, sEqB_int, sEqB_str, sEqB_tI, sEqB_lI, List.getElem?_cons_zero, List.getElem?_cons_succ, List.set_cons_zero, List.set_cons_succ, wipeE, List.length_cons, List.length_nil, List.length_map, Nat.zero_add, Nat.reduceAdd, Int.cast_ofNat_Int, Int.reduceLE, Int.reduceLT, Int.reduceToNat, Nat.reduceLT, Nat.reduceLeDiff, Nat.reduceSub, Int.reduceEq, Nat.reduceEqDiff, ↓reduceIte, if_true, Bool.false_eq_true, if_false, ite_true, ite_false, decide_eq_true_eq, fDiv_ok hn hb, set_cell (hc _), fMul_r (show -(2 ^ 64) < (1103515245 : Int) by decide) (by decide), fMod_ok (show (0 : Int) < 2305843009213693951 by decide), List.set_set, Int.reduceToNat, List.length_cons]
    by_cases hp : 0 < rest'
    · simp -implicitDefEqProofs only [e_seq, seqK_next, seqK_ret, seqK_brk, seqK_cont, bnd_ok, bndN_ok, bns_ok, pur_some, prs_some, e_var, varK_some, toB_bl, asgK_some, subK_some, e_o2, e_kO2, e_kO2b, e_o1, e_kO1, e_cons, e_kCons, e_kConsb, e_nil, e_c, e_ca, e_kCa, e_cs, e_kCs, e_tb, e_kTB, e_tr, e_kTr, e_andT, e_kAndT, e_orT, e_kOrT, e_notT, e_kNotT, e_if, e_kIf, e_no, e_part, e_kPart, e_sl, e_kSl, e_kSlb, e_kSlc, e_mt, e_kMt, e_kMtb, e_val, e_kVal, e_enum, e_kEnum, e_kEnumb, e_yes, e_call, e_kCal, e_snil, e_brk, e_cont, e_retN, e_expr, e_kExpr, e_ret, e_kRet, e_sif, e_kSIf, e_set, e_kSet, e_par, e_kPar, e_par3, e_kPar3, e_aug, e_kAug, e_kAugb, e_kAugc, e_tup, e_kTup, e_lst, e_kLst, e_new, e_kNew, e_lc, e_kLc, e_kLcb, e_lcC, e_kLcC, e_kLcCb, e_for, e_kFor, e_gN, e_kGs, e_kAsg, e_asg, e_kSubc, e_kSubb, e_kSub, e_sub, e_and, e_or, e_not, e_kAnd, e_kOr, e_kNot, e_chain, e_kCh, e_kChb, e_kChv, e_kChc, and_t, and_f, or_t, or_f, not_b, tr_bl, tr_int, tr_non, neg_int, items_str, e_ms, e_kMs, e_kMx, count_str, mul_int, gT_tup, gT_lst, gs_cons, gs_nil, bind_some, op_int, cmp_int, add_int, iadd_int, some_map, seq_tup, seq_lst, seq_scr, sl_tup, sl_lst, sl_scr, items_tup, items_lst, len_tup, len_lst, len_scr, lst_lst, sz, e_range1, e_range2, range1_ok, range2_ok, p10_6, p10_10, p10_12, p10_18, int_bl, int_int, abs_int, max2_int, min2_int, tuple_tup, tuple_lst, rev_tup, rev_lst, sEq, sNe, sEqB_int, sEqB_str, sEqB_tI, sEqB_lI, List.getElem?_cons_zero, List.getElem?_cons_succ, List.set_cons_zero, List.set_cons_succ, wipeE, List.length_cons, List.length_nil, List.length_map, Nat.zero_add, Nat.reduceAdd, Int.cast_ofNat_Int, Int.reduceLE, Int.reduceLT, Int.reduceToNat, Nat.reduceLT, Nat.reduceLeDiff, Nat.reduceSub, Int.reduceEq, Nat.reduceEqDiff, ↓reduceIte, if_true, Bool.false_eq_true, if_false, ite_true, ite_false, decide_eq_true_eq, hp, decide_true, fMod_ok hn]
    · simp -implicitDefEqProofs only [e_seq, seqK_next, seqK_ret, seqK_brk, seqK_cont, bnd_ok, bndN_ok, bns_ok, pur_some, prs_some, e_var, varK_some, toB_bl, asgK_some, subK_some, e_o2, e_kO2, e_kO2b, e_o1, e_kO1, e_cons, e_kCons, e_kConsb, e_nil, e_c, e_ca, e_kCa, e_cs, e_kCs, e_tb, e_kTB, e_tr, e_kTr, e_andT, e_kAndT, e_orT, e_kOrT, e_notT, e_kNotT, e_if, e_kIf, e_no, e_part, e_kPart, e_sl, e_kSl, e_kSlb, e_kSlc, e_mt, e_kMt, e_kMtb, e_val, e_kVal, e_enum, e_kEnum, e_kEnumb, e_yes, e_call, e_kCal, e_snil, e_brk, e_cont, e_retN, e_expr, e_kExpr, e_ret, e_kRet, e_sif, e_kSIf, e_set, e_kSet, e_par, e_kPar, e_par3, e_kPar3, e_aug, e_kAug, e_kAugb, e_kAugc, e_tup, e_kTup, e_lst, e_kLst, e_new, e_kNew, e_lc, e_kLc, e_kLcb, e_lcC, e_kLcC, e_kLcCb, e_for, e_kFor, e_gN, e_kGs, e_kAsg, e_asg, e_kSubc, e_kSubb, e_kSub, e_sub, e_and, e_or, e_not, e_kAnd, e_kOr, e_kNot, e_chain, e_kCh, e_kChb, e_kChv, e_kChc, and_t, and_f, or_t, or_f, not_b, tr_bl, tr_int, tr_non, neg_int, items_str, e_ms, e_kMs, e_kMx, count_str, mul_int, gT_tup, gT_lst, gs_cons, gs_nil, bind_some, op_int, cmp_int, add_int, iadd_int, some_map, seq_tup, seq_lst, seq_scr, sl_tup, sl_lst, sl_scr, items_tup, items_lst, len_tup, len_lst, len_scr, lst_lst, sz, e_range1, e_range2, range1_ok, range2_ok, p10_6, p10_10, p10_12, p10_18, int_bl, int_int, abs_int, max2_int, min2_int, tuple_tup, tuple_lst, rev_tup, rev_lst, sEq, sNe, sEqB_int, sEqB_str, sEqB_tI, sEqB_lI, List.getElem?_cons_zero, List.getElem?_cons_succ, List.set_cons_zero, List.set_cons_succ, wipeE, List.length_cons, List.length_nil, List.length_map, Nat.zero_add, Nat.reduceAdd, Int.cast_ofNat_Int, Int.reduceLE, Int.reduceLT, Int.reduceToNat, Nat.reduceLT, Nat.reduceLeDiff, Nat.reduceSub, Int.reduceEq, Nat.reduceEqDiff, ↓reduceIte, if_true, Bool.false_eq_true, if_false, ite_true, ite_false, decide_eq_true_eq, hp, decide_false, fMod_ok hn, fMul_r (show -(2 ^ 64) < (st0 * 1103515245 + 12345 + pos) % 2305843009213693951 by omega) (by omega), fMod_ok (show (0 : Int) < 2305843009213693951 by decide), fDiv_ok (show (0 : Int) < 64 by decide) (by decide)]
  generalize (sSeq (sSub sSetI (mVar 0) (mC (.int 2)) (mO2 aDiv (mVar 4) (mVar 1))) _) = T at tail ⊢
  simp -implicitDefEqProofs only [e_seq, seqK_next, seqK_ret, seqK_brk, seqK_cont, bnd_ok, bndN_ok, bns_ok, pur_some, prs_some, e_var, varK_some, toB_bl, asgK_some, subK_some, e_o2, e_kO2, e_kO2b, e_o1, e_kO1, e_cons, e_kCons, e_kConsb, e_nil, e_c, e_ca, e_kCa, e_cs, e_kCs, e_tb, e_kTB, e_tr, e_kTr, e_andT, e_kAndT, e_orT, e_kOrT, e_notT, e_kNotT, e_if, e_kIf, e_no, e_part, e_kPart, e_sl, e_kSl, e_kSlb, e_kSlc, e_mt, e_kMt, e_kMtb, e_val, e_kVal, e_enum, e_kEnum, e_kEnumb, e_yes, e_call, e_kCal, e_snil, e_brk, e_cont, e_retN, e_expr, e_kExpr, e_ret, e_kRet, e_sif, e_kSIf, e_set, e_kSet, e_par, e_kPar, e_par3, e_kPar3, e_aug, e_kAug, e_kAugb, e_kAugc, e_tup, e_kTup, e_lst, e_kLst, e_new, e_kNew, e_lc, e_kLc, e_kLcb, e_lcC, e_kLcC, e_kLcCb, e_for, e_kFor, e_gN, e_kGs, e_kAsg, e_asg, e_kSubc, e_kSubb, e_kSub, e_sub, e_and, e_or, e_not, e_kAnd, e_kOr, e_kNot, e_chain, e_kCh, e_kChb, e_kChv, e_kChc, and_t, and_f, or_t, or_f, not_b, tr_bl, tr_int, tr_non, neg_int, items_str, e_ms, e_kMs, e_kMx, count_str, mul_int, gT_tup, gT_lst, gs_cons, gs_nil, bind_some, op_int, cmp_int, add_int, iadd_int, some_map, seq_tup, seq_lst, seq_scr, sl_tup, sl_lst, sl_scr, items_tup, items_lst, len_tup, len_lst, len_scr, lst_lst, sz, e_range1, e_range2, range1_ok, range2_ok, p10_6, p10_10, p10_12, p10_18, int_bl, int_int, abs_int, max2_int, min2_int, tuple_tup, tuple_lst, rev_tup, rev_lst, sEq, sNe, sEqB_int, sEqB_str, sEqB_tI, sEqB_lI, List.getElem?_cons_zero, List.getElem?_cons_succ, List.set_cons_zero, List.set_cons_succ, wipeE, List.length_cons, List.length_nil, List.length_map, Nat.zero_add, Nat.reduceAdd, Int.cast_ofNat_Int, Int.reduceLE, Int.reduceLT, Int.reduceToNat, Nat.reduceLT, Nat.reduceLeDiff, Nat.reduceSub, Int.reduceEq, Nat.reduceEqDiff, ↓reduceIte, if_true, Bool.false_eq_true, if_false, ite_true, ite_false, decide_eq_true_eq, gT_of (seq_cell hk')]
  have hset : S = S.set k (.lst [lI cells, .int pos, .int rest, .int st]) := by rw [← (List.getElem?_eq_some_iff.mp hk').2, List.set_getElem_self]
  by_cases c1 : rest = 0
  · subst c1
    by_cases c2 : pos < cells.length
    · simp -implicitDefEqProofs only [e_seq, seqK_next, seqK_ret, seqK_brk, seqK_cont, bnd_ok, bndN_ok, bns_ok, pur_some, prs_some, e_var, varK_some, toB_bl, asgK_some, subK_some, e_o2, e_kO2, e_kO2b, e_o1, e_kO1, e_cons, e_kCons, e_kConsb, e_nil, e_c, e_ca, e_kCa, e_cs, e_kCs, e_tb, e_kTB, e_tr, e_kTr, e_andT, e_kAndT, e_orT, e_kOrT, e_notT, e_kNotT, e_if, e_kIf, e_no, e_part, e_kPart, e_sl, e_kSl, e_kSlb, e_kSlc, e_mt, e_kMt, e_kMtb, e_val, e_kVal, e_enum, e_kEnum, e_kEnumb, e_yes, e_call, e_kCal, e_snil, e_brk, e_cont, e_retN, e_expr, e_kExpr, e_ret, e_kRet, e_sif, e_kSIf, e_set, e_kSet, e_par, e_kPar, e_par3, e_kPar3, e_aug, e_kAug, e_kAugb, e_kAugc, e_tup, e_kTup, e_lst, e_kLst, e_new, e_kNew, e_lc, e_kLc, e_kLcb, e_lcC, e_kLcC, e_kLcCb, e_for, e_kFor, e_gN, e_kGs, e_kAsg, e_asg, e_kSubc, e_kSubb, e_kSub, e_sub, e_and, e_or, e_not, e_kAnd, e_kOr, e_kNot, e_chain, e_kCh, e_kChb, e_kChv, e_kChc, and_t, and_f, or_t, or_f, not_b, tr_bl, tr_int, tr_non, neg_int, items_str, e_ms, e_kMs, e_kMx, count_str, mul_int, gT_tup, gT_lst, gs_cons, gs_nil, bind_some, op_int, cmp_int, add_int, iadd_int, some_map, seq_tup, seq_lst, seq_scr, sl_tup, sl_lst, sl_scr, items_tup, items_lst, len_tup, len_lst, len_scr, lst_lst, sz, e_range1, e_range2, range1_ok, range2_ok, p10_6, p10_10, p10_12, p10_18, int_bl, int_int, abs_int, max2_int, min2_int, tuple_tup, tuple_lst, rev_tup, rev_lst, sEq, sNe, sEqB_int, sEqB_str, sEqB_tI, sEqB_lI, List.getElem?_cons_zero, List.getElem?_cons_succ, List.set_cons_zero, List.set_cons_succ, wipeE, List.length_cons, List.length_nil, List.length_map, Nat.zero_add, Nat.reduceAdd, Int.cast_ofNat_Int, Int.reduceLE, Int.reduceLT, Int.reduceToNat, Nat.reduceLT, Nat.reduceLeDiff, Nat.reduceSub, Int.reduceEq, Nat.reduceEqDiff, ↓reduceIte, if_true, Bool.false_eq_true, if_false, ite_true, ite_false, decide_eq_true_eq, c2, decide_true, set_cell hk' (i := 1) (by decide) (by simp), Int.reduceToNat, ix_lI ok2 c2, fPow_ok (i := 10) (j := 18) (by decide) (by decide) (by decide), pow18]
      have c0 : 0 ≤ cells.getD pos.toNat 0 := by
        rw [List.getD_eq_getElem?_getD, List.getElem?_eq_getElem (by omega)]
        exact ok1 _ (List.getElem_mem _)
      have hm : fMul (cells.getD pos.toNat 0) (if 10 ^ 18 ≤ cells.getD pos.toNat 0 then 1 else 0) = some (cells.getD pos.toNat 0 * if 10 ^ 18 ≤ cells.getD pos.toNat 0 then 1 else 0) := fMul_r (by split <;> decide) (by split <;> decide)
      simp -implicitDefEqProofs only [e_seq, seqK_next, seqK_ret, seqK_brk, seqK_cont, bnd_ok, bndN_ok, bns_ok, pur_some, prs_some, e_var, varK_some, toB_bl, asgK_some, subK_some, e_o2, e_kO2, e_kO2b, e_o1, e_kO1, e_cons, e_kCons, e_kConsb, e_nil, e_c, e_ca, e_kCa, e_cs, e_kCs, e_tb, e_kTB, e_tr, e_kTr, e_andT, e_kAndT, e_orT, e_kOrT, e_notT, e_kNotT, e_if, e_kIf, e_no, e_part, e_kPart, e_sl, e_kSl, e_kSlb, e_kSlc, e_mt, e_kMt, e_kMtb, e_val, e_kVal, e_enum, e_kEnum, e_kEnumb, e_yes, e_call, e_kCal, e_snil, e_brk, e_cont, e_retN, e_expr, e_kExpr, e_ret, e_kRet, e_sif, e_kSIf, e_set, e_kSet, e_par, e_kPar, e_par3, e_kPar3, e_aug, e_kAug, e_kAugb, e_kAugc, e_tup, e_kTup, e_lst, e_kLst, e_new, e_kNew, e_lc, e_kLc, e_kLcb, e_lcC, e_kLcC, e_kLcCb, e_for, e_kFor, e_gN, e_kGs, e_kAsg, e_asg, e_kSubc, e_kSubb, e_kSub, e_sub, e_and, e_or, e_not, e_kAnd, e_kOr, e_kNot, e_chain, e_kCh, e_kChb, e_kChv, e_kChc, and_t, and_f, or_t, or_f, not_b, tr_bl, tr_int, tr_non, neg_int, items_str, e_ms, e_kMs, e_kMx, count_str, mul_int, gT_tup, gT_lst, gs_cons, gs_nil, bind_some, op_int, cmp_int, add_int, iadd_int, some_map, seq_tup, seq_lst, seq_scr, sl_tup, sl_lst, sl_scr, items_tup, items_lst, len_tup, len_lst, len_scr, lst_lst, sz, e_range1, e_range2, range1_ok, range2_ok, p10_6, p10_10, p10_12, p10_18, int_bl, int_int, abs_int, max2_int, min2_int, tuple_tup, tuple_lst, rev_tup, rev_lst, sEq, sNe, sEqB_int, sEqB_str, sEqB_tI, sEqB_lI, List.getElem?_cons_zero, List.getElem?_cons_succ, List.set_cons_zero, List.set_cons_succ, wipeE, List.length_cons, List.length_nil, List.length_map, Nat.zero_add, Nat.reduceAdd, Int.cast_ofNat_Int, Int.reduceLE, Int.reduceLT, Int.reduceToNat, Nat.reduceLT, Nat.reduceLeDiff, Nat.reduceSub, Int.reduceEq, Nat.reduceEqDiff, ↓reduceIte, if_true, Bool.false_eq_true, if_false, ite_true, ite_false, decide_eq_true_eq, hm, fMul_r (show -(2 ^ 64) < (69069 : Int) by decide) (by decide), fMod_ok (show (0 : Int) < 4294967291 by decide), ix_lI ok2 c2]
      rw [tail _ _ _ (Int.mul_nonneg c0 (by split <;> decide)) _ rfl]
      simp [bel, c2, Stm.cell, Stm.vals]
    · simp -implicitDefEqProofs only [e_seq, seqK_next, seqK_ret, seqK_brk, seqK_cont, bnd_ok, bndN_ok, bns_ok, pur_some, prs_some, e_var, varK_some, toB_bl, asgK_some, subK_some, e_o2, e_kO2, e_kO2b, e_o1, e_kO1, e_cons, e_kCons, e_kConsb, e_nil, e_c, e_ca, e_kCa, e_cs, e_kCs, e_tb, e_kTB, e_tr, e_kTr, e_andT, e_kAndT, e_orT, e_kOrT, e_notT, e_kNotT, e_if, e_kIf, e_no, e_part, e_kPart, e_sl, e_kSl, e_kSlb, e_kSlc, e_mt, e_kMt, e_kMtb, e_val, e_kVal, e_enum, e_kEnum, e_kEnumb, e_yes, e_call, e_kCal, e_snil, e_brk, e_cont, e_retN, e_expr, e_kExpr, e_ret, e_kRet, e_sif, e_kSIf, e_set, e_kSet, e_par, e_kPar, e_par3, e_kPar3, e_aug, e_kAug, e_kAugb, e_kAugc, e_tup, e_kTup, e_lst, e_kLst, e_new, e_kNew, e_lc, e_kLc, e_kLcb, e_lcC, e_kLcC, e_kLcCb, e_for, e_kFor, e_gN, e_kGs, e_kAsg, e_asg, e_kSubc, e_kSubb, e_kSub, e_sub, e_and, e_or, e_not, e_kAnd, e_kOr, e_kNot, e_chain, e_kCh, e_kChb, e_kChv, e_kChc, and_t, and_f, or_t, or_f, not_b, tr_bl, tr_int, tr_non, neg_int, items_str, e_ms, e_kMs, e_kMx, count_str, mul_int, gT_tup, gT_lst, gs_cons, gs_nil, bind_some, op_int, cmp_int, add_int, iadd_int, some_map, seq_tup, seq_lst, seq_scr, sl_tup, sl_lst, sl_scr, items_tup, items_lst, len_tup, len_lst, len_scr, lst_lst, sz, e_range1, e_range2, range1_ok, range2_ok, p10_6, p10_10, p10_12, p10_18, int_bl, int_int, abs_int, max2_int, min2_int, tuple_tup, tuple_lst, rev_tup, rev_lst, sEq, sNe, sEqB_int, sEqB_str, sEqB_tI, sEqB_lI, List.getElem?_cons_zero, List.getElem?_cons_succ, List.set_cons_zero, List.set_cons_succ, wipeE, List.length_cons, List.length_nil, List.length_map, Nat.zero_add, Nat.reduceAdd, Int.cast_ofNat_Int, Int.reduceLE, Int.reduceLT, Int.reduceToNat, Nat.reduceLT, Nat.reduceLeDiff, Nat.reduceSub, Int.reduceEq, Nat.reduceEqDiff, ↓reduceIte, if_true, Bool.false_eq_true, if_false, ite_true, ite_false, decide_eq_true_eq, c2, decide_true, decide_false]
      rw [tail pos 0 st ok3 S hset]
      simp [bel, c2, Stm.cell, Stm.vals]
  · simp -implicitDefEqProofs only [e_seq, seqK_next, seqK_ret, seqK_brk, seqK_cont, bnd_ok, bndN_ok, bns_ok, pur_some, prs_some, e_var, varK_some, toB_bl, asgK_some, subK_some, e_o2, e_kO2, e_kO2b, e_o1, e_kO1, e_cons, e_kCons, e_kConsb, e_nil, e_c, e_ca, e_kCa, e_cs, e_kCs, e_tb, e_kTB, e_tr, e_kTr, e_andT, e_kAndT, e_orT, e_kOrT, e_notT, e_kNotT, e_if, e_kIf, e_no, e_part, e_kPart, e_sl, e_kSl, e_kSlb, e_kSlc, e_mt, e_kMt, e_kMtb, e_val, e_kVal, e_enum, e_kEnum, e_kEnumb, e_yes, e_call, e_kCal, e_snil, e_brk, e_cont, e_retN, e_expr, e_kExpr, e_ret, e_kRet, e_sif, e_kSIf, e_set, e_kSet, e_par, e_kPar, e_par3, e_kPar3, e_aug, e_kAug, e_kAugb, e_kAugc, e_tup, e_kTup, e_lst, e_kLst, e_new, e_kNew, e_lc, e_kLc, e_kLcb, e_lcC, e_kLcC, e_kLcCb, e_for, e_kFor, e_gN, e_kGs, e_kAsg, e_asg, e_kSubc, e_kSubb, e_kSub, e_sub, e_and, e_or, e_not, e_kAnd, e_kOr, e_kNot, e_chain, e_kCh, e_kChb, e_kChv, e_kChc, and_t, and_f, or_t, or_f, not_b, tr_bl, tr_int, tr_non, neg_int, items_str, e_ms, e_kMs, e_kMx, count_str, mul_int, gT_tup, gT_lst, gs_cons, gs_nil, bind_some, op_int, cmp_int, add_int, iadd_int, some_map, seq_tup, seq_lst, seq_scr, sl_tup, sl_lst, sl_scr, items_tup, items_lst, len_tup, len_lst, len_scr, lst_lst, sz, e_range1, e_range2, range1_ok, range2_ok, p10_6, p10_10, p10_12, p10_18, int_bl, int_int, abs_int, max2_int, min2_int, tuple_tup, tuple_lst, rev_tup, rev_lst, sEq, sNe, sEqB_int, sEqB_str, sEqB_tI, sEqB_lI, List.getElem?_cons_zero, List.getElem?_cons_succ, List.set_cons_zero, List.set_cons_succ, wipeE, List.length_cons, List.length_nil, List.length_map, Nat.zero_add, Nat.reduceAdd, Int.cast_ofNat_Int, Int.reduceLE, Int.reduceLT, Int.reduceToNat, Nat.reduceLT, Nat.reduceLeDiff, Nat.reduceSub, Int.reduceEq, Nat.reduceEqDiff, ↓reduceIte, if_true, Bool.false_eq_true, if_false, ite_true, ite_false, decide_eq_true_eq, c1, decide_false]
    rw [tail pos rest st ok3 S hset]
    simp [bel, c1, Stm.cell, Stm.vals]
open Classical in
noncomputable def x_t_below (s : Stm) (n : Int) : Option (Int × Stm) := if s.Ok ∧ 0 < n ∧ n < 2 ^ 64 then some (bel s n) else none
abbrev N_t_below : List Str := ["_law_stream_here", "_law_limit", "_law_cells", "_law_at", "_law_rest", "_law_state"]
noncomputable def m_t_below : MS := sSeq (sAsg (gT 4 (gsCons (gN 2) (gsCons (gN 3) (gsCons (gN 4) (gsCons (gN 5) (gsNil)))))) (mVar 0)) (sSeq (sIf (mAndT (mTB (mO2 sEq (mVar 4) (mC (.int 0)))) (mTB (mO2 cLt (mVar 3) (mCa sLen (mCons (mVar 2) (mNil)))))) (sSeq (sSub sSetI (mVar 0) (mC (.int 1)) (mO2 sAdd (mVar 3) (mC (.int 1)))) (sSeq (sSet 4 (mO2 aMul (mO2 sIx (mVar 2) (mVar 3)) (mCa sInt (mCons (mO2 cGe (mO2 sIx (mVar 2) (mVar 3)) (mO2 aPow (mC (.int 10)) (mC (.int 18)))) (mNil))))) (sSet 5 (mO2 sAdd (mO2 sAdd (mO2 aMul (mVar 5) (mC (.int 69069))) (mO2 aMod (mO2 sIx (mVar 2) (mVar 3)) (mC (.int 4294967291)))) (mC (.int 1)))))) (sNil)) (sSeq (sSub sSetI (mVar 0) (mC (.int 2)) (mO2 aDiv (mVar 4) (mVar 1))) (sSeq (sSet 5 (mO2 aMod (mO2 sAdd (mO2 sAdd (mO2 aMul (mVar 5) (mC (.int 1103515245))) (mC (.int 12345))) (mVar 3)) (mC (.int 2305843009213693951)))) (sSeq (sSub sSetI (mVar 0) (mC (.int 3)) (mVar 5)) (sSeq (sIf (mTB (mO2 cGt (mVar 4) (mC (.int 0)))) (sRet (mO2 aMod (mVar 4) (mVar 1))) (sNil)) (sRet (mO2 aMod (mO2 aDiv (mO2 aMod (mO2 aMul (mVar 5) (mVar 5)) (mC (.int 2305843009213693951))) (mC (.int 64))) (mVar 1))))))))
noncomputable def f_t_below : Fn := runU N_t_below m_t_below
theorem tr_t_below {S0 : Sto} (hn : ncS S0) {k : Nat} {s : Stm} (hk : S0[k]? = some s.cell) {n : Int} {r : Int} {s' : Stm} (h : x_t_below s n = some (r, s')) : f_t_below [.cell k, eI n] S0 = some (.ok (eI r) (S0.set k s'.cell)) := by
  unfold x_t_below at h
  split at h
  · rename_i q
    have e := run_t_below hk q.1 q.2.1 q.2.2
    have h' := Option.some.inj h
    rw [h'] at e
    refine runU_ok ⟨_, _, _, e, rfl, .int, ?_, ?_⟩
    · have := fzS_app (A := S0.set k s'.cell) (B := []) (n := S0.length) List.length_set (ncS_set hn s'.nc)
      rwa [List.append_nil] at this
    · rw [List.take_of_length_le (by simp)]
  · cases h
theorem below_ok {s : Stm} {n : Int} (h : s.Ok) (hn : 0 < n) (hb : n < 2 ^ 64) : ∃ r s', x_t_below s n = some (r, s') ∧ 0 ≤ r ∧ r < n ∧ s'.Ok := by
  refine ⟨(bel s n).1, (bel s n).2, ?_, (bel_lt s hn).1, (bel_lt s hn).2, bel_ok h hn⟩
  unfold x_t_below
  rw [if_pos ⟨h, hn, hb⟩]
def x_t_stream (ns : List Int) : Stm := ⟨ns.map fun i => if i < 0 then -i else i, 0, 0, 40503 + 7 * ns.length⟩
theorem stream_ok (ns : List Int) : (x_t_stream ns).Ok := ⟨fun c hc => by
    obtain ⟨i, _, rfl⟩ := List.mem_map.mp hc
    split <;> omega, by simp [x_t_stream], by simp [x_t_stream], by simp [x_t_stream]; omega⟩
abbrev N_t_stream : List Str := ["_law_script", "_law_cell"]
noncomputable def m_t_stream : MS := sRet (mNew (mCons (mLc (mVal (mSl sSlice (mVar 0) mNo (mPart (mC (.int 64))))) (gN 1) (mYes) (mCa sAbs (mCons (mVar 1) (mNil))) [1]) (mCons (mC (.int 0)) (mCons (mC (.int 0)) (mCons (mO2 sAdd (mC (.int 40503)) (mO2 aMul (mC (.int 7)) (mCa sLen (mCons (mVar 0) (mNil))))) (mNil))))))
def R_t_stream (ds : List Val) (S : Sto) (v : Val) (S' : Sto) : Prop := ∃ ns, ds = [.scr ns] ∧ v = .cell S.length ∧ S' = S ++ [(x_t_stream ns).cell]
noncomputable def f_t_stream : Fn := runK N_t_stream m_t_stream R_t_stream
theorem tr_t_stream {ns : List Int} {S : Sto} (h : ns.length ≤ 63) : f_t_stream [.scr ns] S = some (.ok (.cell S.length) (S ++ [(x_t_stream ns).cell])) := by
  have e0 : startE N_t_stream [.scr ns] = [some (.scr ns), none] := rfl
  have hl : lcL [] (gN 1) mYes (mCa sAbs (mCons (mVar 1) mNil)) [some (.scr ns), none] (ns.map Val.int) S [] = some (.ok ((ns.map Val.int).map fun v => match v with | .int i => .int (if i < 0 then -i else i) | v => v) S) := by
    refine lc_map _ (gOk_nil S) (by simp [sz]; omega) fun x hx => ?_
    obtain ⟨i, _, rfl⟩ := List.mem_map.mp hx
    refine ⟨[some (.scr ns), some (.int i)], rfl, rfl, ?_⟩
    simp -implicitDefEqProofs only [e_seq, seqK_next, seqK_ret, seqK_brk, seqK_cont, bnd_ok, bndN_ok, bns_ok, pur_some, prs_some, e_var, varK_some, toB_bl, asgK_some, subK_some, e_o2, e_kO2, e_kO2b, e_o1, e_kO1, e_cons, e_kCons, e_kConsb, e_nil, e_c, e_ca, e_kCa, e_cs, e_kCs, e_tb, e_kTB, e_tr, e_kTr, e_andT, e_kAndT, e_orT, e_kOrT, e_notT, e_kNotT, e_if, e_kIf, e_no, e_part, e_kPart, e_sl, e_kSl, e_kSlb, e_kSlc, e_mt, e_kMt, e_kMtb, e_val, e_kVal, e_enum, e_kEnum, e_kEnumb, e_yes, e_call, e_kCal, e_snil, e_brk, e_cont, e_retN, e_expr, e_kExpr, e_ret, e_kRet, e_sif, e_kSIf, e_set, e_kSet, e_par, e_kPar, e_par3, e_kPar3, e_aug, e_kAug, e_kAugb, e_kAugc, e_tup, e_kTup, e_lst, e_kLst, e_new, e_kNew, e_lc, e_kLc, e_kLcb, e_lcC, e_kLcC, e_kLcCb, e_for, e_kFor, e_gN, e_kGs, e_kAsg, e_asg, e_kSubc, e_kSubb, e_kSub, e_sub, e_and, e_or, e_not, e_kAnd, e_kOr, e_kNot, e_chain, e_kCh, e_kChb, e_kChv, e_kChc, and_t, and_f, or_t, or_f, not_b, tr_bl, tr_int, tr_non, neg_int, items_str, e_ms, e_kMs, e_kMx, count_str, mul_int, gT_tup, gT_lst, gs_cons, gs_nil, bind_some, op_int, cmp_int, add_int, iadd_int, some_map, seq_tup, seq_lst, seq_scr, sl_tup, sl_lst, sl_scr, items_tup, items_lst, len_tup, len_lst, len_scr, lst_lst, sz, e_range1, e_range2, range1_ok, range2_ok, p10_6, p10_10, p10_12, p10_18, int_bl, int_int, abs_int, max2_int, min2_int, tuple_tup, tuple_lst, rev_tup, rev_lst, sEq, sNe, sEqB_int, sEqB_str, sEqB_tI, sEqB_lI, List.getElem?_cons_zero, List.getElem?_cons_succ, List.set_cons_zero, List.set_cons_succ, wipeE, List.length_cons, List.length_nil, List.length_map, Nat.zero_add, Nat.reduceAdd, Int.cast_ofNat_Int, Int.reduceLE, Int.reduceLT, Int.reduceToNat, Nat.reduceLT, Nat.reduceLeDiff, Nat.reduceSub, Int.reduceEq, Nat.reduceEqDiff, ↓reduceIte, if_true, Bool.false_eq_true, if_false, ite_true, ite_false, decide_eq_true_eq]
  have hr : m_t_stream (startE N_t_stream [.scr ns]) S = some (.ret (.cell S.length), S ++ [(x_t_stream ns).cell]) := by
    rw [e0]
    unfold m_t_stream
    simp -implicitDefEqProofs only [e_seq, seqK_next, seqK_ret, seqK_brk, seqK_cont, bnd_ok, bndN_ok, bns_ok, pur_some, prs_some, e_var, varK_some, toB_bl, asgK_some, subK_some, e_o2, e_kO2, e_kO2b, e_o1, e_kO1, e_cons, e_kCons, e_kConsb, e_nil, e_c, e_ca, e_kCa, e_cs, e_kCs, e_tb, e_kTB, e_tr, e_kTr, e_andT, e_kAndT, e_orT, e_kOrT, e_notT, e_kNotT, e_if, e_kIf, e_no, e_part, e_kPart, e_sl, e_kSl, e_kSlb, e_kSlc, e_mt, e_kMt, e_kMtb, e_val, e_kVal, e_enum, e_kEnum, e_kEnumb, e_yes, e_call, e_kCal, e_snil, e_brk, e_cont, e_retN, e_expr, e_kExpr, e_ret, e_kRet, e_sif, e_kSIf, e_set, e_kSet, e_par, e_kPar, e_par3, e_kPar3, e_aug, e_kAug, e_kAugb, e_kAugc, e_tup, e_kTup, e_lst, e_kLst, e_new, e_kNew, e_lc, e_kLc, e_kLcb, e_lcC, e_kLcC, e_kLcCb, e_for, e_kFor, e_gN, e_kGs, e_kAsg, e_asg, e_kSubc, e_kSubb, e_kSub, e_sub, e_and, e_or, e_not, e_kAnd, e_kOr, e_kNot, e_chain, e_kCh, e_kChb, e_kChv, e_kChc, and_t, and_f, or_t, or_f, not_b, tr_bl, tr_int, tr_non, neg_int, items_str, e_ms, e_kMs, e_kMx, count_str, mul_int, gT_tup, gT_lst, gs_cons, gs_nil, bind_some, op_int, cmp_int, add_int, iadd_int, some_map, seq_tup, seq_lst, seq_scr, sl_tup, sl_lst, sl_scr, items_tup, items_lst, len_tup, len_lst, len_scr, lst_lst, sz, e_range1, e_range2, range1_ok, range2_ok, p10_6, p10_10, p10_12, p10_18, int_bl, int_int, abs_int, max2_int, min2_int, tuple_tup, tuple_lst, rev_tup, rev_lst, sEq, sNe, sEqB_int, sEqB_str, sEqB_tI, sEqB_lI, List.getElem?_cons_zero, List.getElem?_cons_succ, List.set_cons_zero, List.set_cons_succ, wipeE, List.length_cons, List.length_nil, List.length_map, Nat.zero_add, Nat.reduceAdd, Int.cast_ofNat_Int, Int.reduceLE, Int.reduceLT, Int.reduceToNat, Nat.reduceLT, Nat.reduceLeDiff, Nat.reduceSub, Int.reduceEq, Nat.reduceEqDiff, ↓reduceIte, if_true, Bool.false_eq_true, if_false, ite_true, ite_false, decide_eq_true_eq, cut_to, List.take_of_length_le (show (ns.map Val.int).length ≤ 64 by simp; omega), hl, fMul_l (show -(2 ^ 64) < (7 : Int) by decide) (by decide)]
    simp [x_t_stream, Stm.cell, Stm.vals, lI, Function.comp_def]
  obtain ⟨v, S1, e1, ns', q1, q2, q3⟩ := runK_ok (R := R_t_stream) (runs_same hr) ⟨_, rfl, rfl, rfl⟩
  cases q1
  subst q2
  subst q3
  exact e1
def strO (ns : List Int) : Option Stm := if ns.length ≤ 63 then some (x_t_stream ns) else none
theorem strO_ok {ns : List Int} (h : ns.length ≤ 63) : ∃ s, strO ns = some s ∧ s.Ok := ⟨_, if_pos h, stream_ok ns⟩
theorem run_stream {B B1 : Sto} {cs cs1 : List (Nat × Cell)} {ρ : Ev} {ma : ME} {n : MS} {P : Fl → Sto → Prop} {i : Nat} {ns : List Int} {s : Stm} (hs : strO ns = some s) (he : X B cs ma ρ (.scr ns) B1 cs1) (h : ∀ k ρ', B1.length ≤ k → ρ.set i (some (.cell k)) = ρ' → Run B1 ((k, s.cell) :: cs1) n ρ' P) : Run B cs (sSeq (sSet i (mCal 1 f_t_stream (mCons ma mNil))) n) ρ P := by
  intro S hS
  unfold strO at hs
  split at hs
  · rename_i hl
    cases hs
    obtain ⟨S1, q1, h1⟩ := he S hS
    obtain ⟨fl, S2, q2, q3⟩ := h S1.length _ h1.le rfl _ (h1.new (x_t_stream ns).cell (Stm.nc _))
    refine ⟨fl, S2, ?_, q3⟩
    rw [e_seq, e_set, e_call, e_cons, q1, bnd_ok, e_kCons, e_nil, bnd_ok, e_kConsb, bnd_ok, e_kCal, if_pos (show [Val.scr ns].length = 1 from rfl), tr_t_stream hl, bns_ok, e_kSet, seqK_next]
    exact q2
  · cases hs
end G

set_option Elab.async false
set_option linter.all false
set_option maxRecDepth 100000
set_option maxHeartbeats 4000000
namespace G
open PySem PySem.Spec PyProof.Rows L2
abbrev N_t_pick : List Str := ["_law_stream_here", "_law_items"]
noncomputable def m_t_pick : MS := sRet (mO2 sIx (mVar 1) (mCal 2 f_t_below (mCons (mVar 0) (mCons (mCa sLen (mCons (mVar 1) (mNil))) (mNil)))))
noncomputable def x_t_pick {A : Type} (stream_here : Stm) (items : List A) : Option (A × Stm) :=
  (x_t_below stream_here (items.length : Int)).bind fun (r1, s1) =>
  (atI items r1).bind fun r2 =>
  some (r2, s1)
noncomputable def f_t_pick : Fn := runU N_t_pick m_t_pick
theorem tr_t_pick {S0 : Sto} {A : Type} {eA : A → Val} [NC eA] (hn : ncS S0) {k : Nat} {stream_here : Stm} (hk : S0[k]? = some stream_here.cell) {items : List A} {r : A} {s' : Stm} (h : x_t_pick stream_here items = some (r, s')) : f_t_pick [.cell k, (eL eA) items] S0 = some (.ok (eA r) (S0.set k s'.cell)) := by
  have hk_k : k < S0.length := (List.getElem?_eq_some_iff.mp hk).1
  refine fin_ok (St.startB hn hk) List.length_set ?_
  show Run (S0.set k stream_here.cell) [(k, stream_here.cell)] m_t_pick [some (.cell k), some ((eL eA) items)] (Fin (S0.set k s'.cell) eA r)
  unfold x_t_pick at h
  unfold m_t_pick
  refine run_one ?_
  replace h := Option.bind_eq_some_iff.mp h; obtain ⟨⟨r1, s1⟩, q1, h⟩ := h
  dsimp only at h
  replace h := Option.bind_eq_some_iff.mp h; obtain ⟨r2, q2, h⟩ := h
  refine run_ret (ev_o2 v1 (ev_callK 0 (ev_cons v0 (ev_cons (ev_ca (ev_cons v1 ev_nil) fun _ h => op_len sqL) ev_nil)) rfl gt0 (ltset hk_k) (Stm.nc _) (List.set_set _) st0 fun _ hn hk => tr_t_below hn hk q1) fun _ h => op_ix sqL q2) fun _ hS => ?_
  cases h
  exact fin_val rfl hS
end G

set_option Elab.async false
set_option linter.all false
set_option maxRecDepth 100000
set_option maxHeartbeats 4000000
namespace G
open PySem PySem.Spec PyProof.Rows L2
section
variable {σ α R : Type}
theorem rngO_ok {a b : Int} (h1 : -4611686018427387904 ≤ a) (h2 : a < 4611686018427387904) (h3 : -4611686018427387904 ≤ b) (h4 : b < 4611686018427387904) : rngO a b = some ((List.range (b - a).toNat).map fun (i : Nat) => a + (i : Int)) := if_pos ⟨h1, h2, h3, h4⟩
theorem atI_ok {xs : List α} {i : Int} (h0 : 0 ≤ i) (h1 : i < xs.length) : atI xs i = some (xs[i.toNat]'(by omega)) := by rw [atI_nat h0 h1, List.getElem?_eq_getElem (by omega)]
end
def Ret {β : Type} (o : Option β) (R : β → Prop) : Prop := ∃ b, o = some b ∧ R b
section
variable {σ α β γ R' : Type} {R : β → Prop} {k : α → Option β}
theorem ret_some {b : β} (h : R b) : Ret (some b) R := ⟨b, rfl, h⟩
theorem ret_bind {o : Option α} {Q : α → Prop} (h : Ret o Q) (hk : ∀ a, Q a → Ret (k a) R) : Ret (o.bind k) R := by
  obtain ⟨a, rfl, hq⟩ := h
  exact hk a hq
theorem ret_eq {o : Option α} {a : α} (h : o = some a) (hk : Ret (k a) R) : Ret (o.bind k) R := by
  subst h
  exact hk
theorem Ret.mono {o : Option β} {R1 : β → Prop} (h : Ret o R1) (i : ∀ b, R1 b → R b) : Ret o R := by
  obtain ⟨b, e, r⟩ := h
  exact ⟨b, e, i b r⟩
theorem ret_sz {xs : List α} {k : List α → Option β} (h : xs.length ≤ 16777216) (hk : Ret (k xs) R) : Ret ((szO xs).bind k) R := ret_eq (szO_ok h) hk
theorem ret_let {a : α} (hk : Ret (k a) R) : Ret ((some a).bind k) R := hk
theorem ret_at {xs : List α} {i : Int} (h0 : 0 ≤ i) (h1 : i < xs.length) (hk : Ret (k (xs[i.toNat]'(by omega))) R) : Ret ((atI xs i).bind k) R := ret_eq (atI_ok h0 h1) hk
theorem ret_rng {a b : Int} {k : List Int → Option β} (h1 : -4611686018427387904 ≤ a) (h2 : a < 4611686018427387904) (h3 : -4611686018427387904 ≤ b) (h4 : b < 4611686018427387904) (hk : Ret (k ((List.range (b - a).toNat).map fun (i : Nat) => a + (i : Int))) R) : Ret ((rngO a b).bind k) R := ret_eq (rngO_ok h1 h2 h3 h4) hk
end
theorem ret_below {β : Type} {R : β → Prop} {s : Stm} {n : Int} {k : Int × Stm → Option β} (h : s.Ok) (hn : 0 < n) (hb : n < 2 ^ 64) (hk : ∀ r s', 0 ≤ r → r < n → s'.Ok → Ret (k (r, s')) R) : Ret ((x_t_below s n).bind k) R := by
  obtain ⟨r, s', e, h1, h2, h3⟩ := below_ok h hn hb
  exact ret_eq e (hk r s' h1 h2 h3)
theorem pick_ok {A : Type} {s : Stm} {xs : List A} (h : s.Ok) (h0 : xs ≠ []) (hl : xs.length ≤ 1000000) : Ret (x_t_pick s xs) fun p => p.1 ∈ xs ∧ p.2.Ok := by
  have hpos : 0 < xs.length := List.length_pos_iff.mpr h0
  unfold x_t_pick
  refine ret_below h (by omega) (by omega) fun r s1 a b ok => ?_
  exact ret_at a b (ret_some ⟨List.getElem_mem _, ok⟩)
theorem ret_pick {β : Type} {R : β → Prop} {A : Type} {s : Stm} {xs : List A} {k : A × Stm → Option β} (h : s.Ok) (h0 : xs ≠ []) (hl : xs.length ≤ 1000000) (hk : ∀ x s', x ∈ xs → s'.Ok → Ret (k (x, s')) R) : Ret ((x_t_pick s xs).bind k) R := ret_bind (pick_ok h h0 hl) fun p hp => hk p.1 p.2 hp.1 hp.2
end G

set_option Elab.async false
set_option linter.all false
set_option maxRecDepth 100000
set_option maxHeartbeats 4000000
namespace G
open PySem PySem.Spec PyProof.Rows L2
def toV {α : Type} (e : α → Val) [NC e] (a : α) : VV := ⟨e a, NC.nc a⟩
instance {α β : Type} {e : α → Val} {f : β → Val} {n m : Nat} [DE e n] [DE f m] : DE (eP e f) (n + m + 1) := ⟨fun p => .tuple [DE.d e p.1, DE.d f p.2], fun S p => by simp [G.dat, G.datL, eP, DE.dat], fun p => by simp [G.toD, G.toDL, eP, DE.toD], fun p => by simp [PyData.canLay0, PyData.canLayAll0, DE.lay], fun p => by
  have := DE.dep (e := e) p.1
  have := DE.dep (e := f) p.2
  simp [PyData.depth, PyData.depthAll]; omega, fun p q => by
  simp [PyData.eqv, PyData.eqvAll, DE.eqv, Prod.ext_iff]⟩
instance {α β γ : Type} {e : α → Val} {f : β → Val} {g : γ → Val} {n m l : Nat} [DE e n] [DE f m] [DE g l] : DE (eQ e f g) (n + m + l + 1) := ⟨fun p => .tuple [DE.d e p.1, DE.d f p.2.1, DE.d g p.2.2], fun S p => by simp [G.dat, G.datL, eQ, DE.dat], fun p => by simp [G.toD, G.toDL, eQ, DE.toD], fun p => by simp [PyData.canLay0, PyData.canLayAll0, DE.lay], fun p => by
  have := DE.dep (e := e) p.1
  have := DE.dep (e := f) p.2.1
  have := DE.dep (e := g) p.2.2
  simp [PyData.depth, PyData.depthAll]; omega, fun p q => by
  simp [PyData.eqv, PyData.eqvAll, DE.eqv, Prod.ext_iff]⟩
theorem ncD_map (kvs : List (Key × VV)) : ncD (kvs.map fun p => (p.1, eV p.2)) = true := by
  induction kvs with
  | nil => simp [ncD]
  | cons p kvs ih =>
    simp only [List.map_cons, ncD, ih, Bool.and_true]
    exact p.2.2
def vD (kvs : List (Key × VV)) : VV := ⟨.dct (kvs.map fun p => (p.1, eV p.2)), by rw [nc]; exact ncD_map kvs⟩
theorem ev_disp {B B1 : Sto} {cs cs1 : List (Nat × Cell)} {ρ : Ev} {ms : MA} {ks : List Key} {vs : List Val} {v : Val} (hs : X B cs ms ρ vs B1 cs1) (hl : ks.length ≤ 15) (hv : .dct (mergeD [] (ks.zip vs)) = v) : X B cs (mDisp ks ms) ρ v B1 cs1 := by
  intro S hS
  obtain ⟨S1, q1, h1⟩ := hs S hS
  refine ⟨S1, ?_, h1⟩
  show bnd (ms ρ S) (kDisp ks) = _
  rw [q1, bnd_ok, ← hv]
  unfold kDisp
  rw [if_pos hl]
end G

set_option Elab.async false
set_option linter.all false
set_option maxRecDepth 100000
set_option maxHeartbeats 4000000
namespace G
open PySem PySem.Spec PyProof.Rows L2
inductive XE where
  | e0 (c : Str)
  | e1 (c f : Str) (v : VV)
def XE.exc : XE → Exc
  | .e0 c => ⟨c, []⟩
  | .e1 c f v => ⟨c, [(f, v.1)]⟩
section
variable {B B1 : Sto} {cs cs1 : List (Nat × Cell)} {ρ : Ev} {n : MS} {m : ME} {P : Fl → Sto → Prop}
end
def XX (B : Sto) (cs : List (Nat × Cell)) (m : ME) (ρ : Ev) (o : Except XE Val) (B' : Sto) (cs' : List (Nat × Cell)) : Prop := ∀ S, St B S cs → ∃ S', (m ρ S = match o with | .ok v => some (.ok v S') | .error e => some (.exc e.exc S')) ∧ St B' S' cs'
section
variable {B B1 B2 : Sto} {cs cs1 cs2 : List (Nat × Cell)} {ρ ρ' : Ev} {n : MS} {m : ME} {ms : MA} {P : Fl → Sto → Prop} {vs : List Val} {v : Val} {e : XE} {i : Nat}
theorem XX.val (h : XX B cs m ρ (.ok v) B1 cs1) : X B cs m ρ v B1 cs1 := h
end
def XE.is0 (c : Str) : XE → Bool
  | .e0 c' => decide (c' = c)
  | _ => false
def XE.is1 (c f : Str) : XE → Option VV
  | .e1 c' f' v => if c' = c ∧ f' = f then some v else none
  | _ => none
end G

set_option Elab.async false
set_option linter.all false
set_option maxRecDepth 100000
set_option maxHeartbeats 4000000
namespace G
open PySem PySem.Spec PyProof.Rows L2
def Pu {α : Type} (m : Ev → Sto → Res α) : Prop := ∀ ρ S v S', m ρ S = some (.ok v S') → S' = S
section
variable {m n k : ME} {s t : MT} {ms : MA}
end
section
variable {B B1 : Sto} {cs cs1 : List (Nat × Cell)} {ρ ρ' : Ev} {S : Sto} {m n : MS} {fl : Fl} {i j : Nat} {v : Val} {me : ME}
end
def cas0 {β : Type} (e : XE) (c : Str) (y z : Option β) : Option β := if e.is0 c then y else z
def cas1 {β : Type} (e : XE) (c f : Str) (k : VV → Option β) (z : Option β) : Option β := match e.is1 c f with
  | some v => k v
  | none => z
@[simp] theorem cas0_hit {β : Type} {c : Str} {y z : Option β} : cas0 (.e0 c) c y z = y := by simp [cas0, XE.is0]
@[simp] theorem cas1_hit {β : Type} {c f : Str} {v : VV} {k : VV → Option β} {z : Option β} : cas1 (.e1 c f v) c f k z = k v := by simp [cas1, XE.is1]
instance : NC Val.str := ⟨fun _ => by simp [nc]⟩
def eF (x : Str) : Unit → Val := fun _ => .fnv x
instance {x : Str} : NC (eF x) := ⟨fun _ => rfl⟩
section
variable {B B1 : Sto} {cs cs1 : List (Nat × Cell)} {ρ : Ev} {i n : Nat} {tbl : List (Str × Fn)} {ms : MA} {x : Str} {f : Fn} {v : Val} {o : Except XE Val}
end
structure Shw (v : Val) (w dp : Nat) : Prop where
  ex : ∃ d, rdX v = some d ∧ d.showable = true ∧ d.shown.length ≤ w ∧ d.depth ≤ dp
theorem Shw.mono {v : Val} {w dp w' dp' : Nat} (h : Shw v w dp) (h1 : w ≤ w') (h2 : dp ≤ dp') : Shw v w' dp' := by
  obtain ⟨d, a, b, c, e⟩ := h.ex
  exact ⟨d, a, b, Nat.le_trans c h1, Nat.le_trans e h2⟩
mutual
theorem rdX_toD : ∀ (v : Val) (d d' : PyData), rdX v = some d → toD v = some d' → d = d' ∧ d.hasDict = false
  | .non, d, d', h, h' => by simp [rdX] at h; simp [toD] at h'; subst h; subst h'; exact ⟨rfl, by simp [PyData.hasDict]⟩
  | .bl _, d, d', h, h' => by simp [rdX] at h; simp [toD] at h'; subst h; subst h'; exact ⟨rfl, by simp [PyData.hasDict]⟩
  | .int _, d, d', h, h' => by simp [rdX] at h; simp [toD] at h'; subst h; subst h'; exact ⟨rfl, by simp [PyData.hasDict]⟩
  | .str _, d, d', h, h' => by simp [rdX] at h; simp [toD] at h'; subst h; subst h'; exact ⟨rfl, by simp [PyData.hasDict]⟩
  | .tup xs, d, d', h, h' => by
    rw [rdX] at h
    rw [toD] at h'
    obtain ⟨ds, h1, rfl⟩ := Option.map_eq_some_iff.mp h
    obtain ⟨ds', h2, rfl⟩ := Option.map_eq_some_iff.mp h'
    obtain ⟨e1, e2⟩ := rdXL_toDL xs ds ds' h1 h2
    exact ⟨by rw [e1], by simpa [PyData.hasDict] using e2⟩
  | .lst xs, d, d', h, h' => by
    rw [rdX] at h
    rw [toD] at h'
    obtain ⟨ds, h1, rfl⟩ := Option.map_eq_some_iff.mp h
    obtain ⟨ds', h2, rfl⟩ := Option.map_eq_some_iff.mp h'
    obtain ⟨e1, e2⟩ := rdXL_toDL xs ds ds' h1 h2
    exact ⟨by rw [e1], by simpa [PyData.hasDict] using e2⟩
  | .dct _, d, d', h, h' => by simp [toD] at h'
  | .scr _, d, d', h, h' => by simp [rdX] at h
  | .cell _, d, d', h, h' => by simp [rdX] at h
  | .con _, d, d', h, h' => by simp [rdX] at h
  | .fnv _, d, d', h, h' => by simp [rdX] at h
  | .err _ _ _ _, d, d', h, h' => by simp [rdX] at h
  | .ex0 _, d, d', h, h' => by simp [rdX] at h
  | .ex1 _ _ _, d, d', h, h' => by simp [rdX] at h
  | .prs _, d, d', h, h' => by simp [rdX] at h
theorem rdXL_toDL : ∀ (v : List Val) (d d' : List PyData), rdXL v = some d → toDL v = some d' → d = d' ∧ PyData.hasDictAll d = false
  | [], d, d', h, h' => by simp [rdXL] at h; simp [toDL] at h'; subst h; subst h'; exact ⟨rfl, by simp [PyData.hasDictAll]⟩
  | x :: xs, d, d', h, h' => by
    rw [rdXL] at h
    rw [toDL] at h'
    split at h
    · rename_i a as h1 h2
      split at h'
      · rename_i b bs h3 h4
        cases h
        cases h'
        obtain ⟨e1, e2⟩ := rdX_toD x _ _ h1 h3
        obtain ⟨e3, e4⟩ := rdXL_toDL xs _ _ h2 h4
        exact ⟨by rw [e1, e3], by simp [PyData.hasDictAll, e2, e4]⟩
      · cases h'
    · cases h
end
theorem rpO_of {v : Val} {d : PyData} (h : rdX v = some d) (h1 : d.showable = true) (h2 : d.shown.length ≤ 16777216) (h3 : d.depth ≤ 60) : rpO v = some d.shown := by
  unfold rpO
  cases e : toD v with
  | some d' =>
    obtain ⟨e1, e2⟩ := rdX_toD v d d' h e
    subst e1
    exact if_pos ⟨h1, h2, h3, e2⟩
  | none =>
    simp only [h]
    exact if_pos ⟨h1, h2, h3⟩
theorem Shw.rpO {v : Val} {w dp : Nat} (h : Shw v w dp) (hw : w ≤ 16777216) (hd : dp ≤ 60) : ∃ r, rpO v = some r := by
  obtain ⟨d, a, b, c, e⟩ := h.ex
  exact ⟨_, rpO_of a b (Nat.le_trans c hw) (Nat.le_trans e hd)⟩
theorem Shw.int {i : Int} (h : i.natAbs.log2 < 1920) : Shw (.int i) 1921 0 := by
  refine ⟨.int i, by simp [rdX], by simp [PyData.showable, h], ?_, by simp [PyData.depth]⟩
  rw [PyData.shown]
  exact int_text_len_1921 h
theorem Shw.bl {b : Bool} : Shw (.bl b) 5 0 := by
  refine ⟨.bool b, by simp [rdX], by simp [PyData.showable], ?_, by simp [PyData.depth]⟩
  cases b <;> simp only [PyData.shown] <;> decide +kernel
theorem Shw.non : Shw .non 4 0 := by
  refine ⟨.none, by simp [rdX], by simp [PyData.showable], ?_, by simp [PyData.depth]⟩
  simp only [PyData.shown]; decide +kernel
theorem Shw.str {x : Str} {w : Nat} (h : (reprText x).length ≤ w) : Shw (.str x) w 0 := by
  refine ⟨.str x, by simp [rdX], by simp [PyData.showable], by rw [PyData.shown]; exact h, by simp [PyData.depth]⟩
theorem shwL {w dp : Nat} : ∀ {xs : List Val}, (∀ x ∈ xs, Shw x w dp) → ∃ ds : List PyData, rdXL xs = some ds ∧ PyData.showableAll ds = true ∧ (∀ t ∈ PyData.shownAll ds, t.length ≤ w) ∧ PyData.depthAll ds ≤ dp ∧ ds.length = xs.length
  | [], _ => ⟨[], by simp [rdXL], by simp [PyData.showableAll], by simp [PyData.shownAll], by simp [PyData.depthAll], rfl⟩
  | x :: xs, h => by
    obtain ⟨d, a1, b1, c1, e1⟩ := (h x List.mem_cons_self).ex
    obtain ⟨ds, a2, b2, c2, e2, l2⟩ := shwL fun y hy => h y (List.mem_cons_of_mem _ hy)
    refine ⟨d :: ds, by simp [rdXL, a1, a2], by simp [PyData.showableAll, b1, b2], ?_, by simp [PyData.depthAll]; omega, by simp [l2]⟩
    intro t ht
    rw [PyData.shownAll] at ht
    rcases List.mem_cons.mp ht with rfl | ht
    · exact c1
    · exact c2 t ht
theorem Shw.tup {xs : List Val} {w dp : Nat} (h : ∀ x ∈ xs, Shw x w dp) : Shw (.tup xs) (xs.length * (w + 2) + 3) (dp + 1) := by
  obtain ⟨ds, a, b, c, e, l⟩ := shwL h
  refine ⟨.tuple ds, by simp [rdX, a], by simp [PyData.showable, b], ?_, by simp [PyData.depth, e]⟩
  rw [PyData.shown]
  unfold tupleText
  rw [Str.length_append, Str.length_append]
  have h1 := join_le _ c
  rw [PyData.shownAll_length, l] at h1
  have h2 : (Str.ofString (if (PyData.shownAll ds).length == 1 then (",)" : String) else ")")).length ≤ 2 := by split <;> decide +kernel
  have h3 : (Str.ofString "(").length = 1 := by decide +kernel
  omega
theorem Shw.lst' {xs : List Val} {w dp : Nat} (h : ∀ x ∈ xs, Shw x w dp) : Shw (.lst xs) (xs.length * (w + 2) + 3) (dp + 1) := by
  obtain ⟨ds, a, b, c, e, l⟩ := shwL h
  refine ⟨.list ds, by simp [rdX, a], by simp [PyData.showable, b], ?_, by simp [PyData.depth, e]⟩
  rw [PyData.shown]
  unfold listText
  rw [Str.length_append]
  have h1 := textFrom_le _ 0 (Str.ofString "[") c
  rw [PyData.shownAll_length, l] at h1
  have h2 : (Str.ofString "]").length = 1 := by decide +kernel
  have h3 : (Str.ofString "[").length = 1 := by decide +kernel
  omega
theorem Shw.lst {xs : List Val} {w dp : Nat} (h : ∀ x ∈ xs, Shw x w dp) (hw : xs.length * (w + 2) + 3 ≤ 16777216) (hd : dp + 1 ≤ 60) : ∃ r, G.rpO (.lst xs) = some r := (Shw.lst' h).rpO hw hd
end G

set_option Elab.async false
set_option linter.all false
set_option maxRecDepth 100000
set_option maxHeartbeats 4000000
namespace G
open PySem PySem.Spec PyProof.Rows L2
section
variable {B B' : Sto} {cs cs' : List (Nat × Cell)} {S : Sto} {k : Nat} {s s' : Stm} {v : Val} {i : Int}
end
end G

set_option Elab.async false
set_option linter.all false
set_option maxRecDepth 100000
set_option maxHeartbeats 4000000
namespace G
open PySem PySem.Spec PyProof.Rows L2
def Stm.kvs (s : Stm) : List (Key × Val) := [(.inr "cells", lI s.cells), (.inr "turn", .int s.pos), (.inr "left", .int s.rest), (.inr "mixed", .int s.st)]
def Stm.cellD (s : Stm) : Cell := .dct s.kvs
theorem Stm.ncD (s : Stm) : ncC s.cellD = true := by simp [Stm.cellD, Stm.kvs, ncC, G.ncD, G.nc, lI, ncL_int]
section
variable {B B' : Sto} {cs cs' : List (Nat × Cell)} {S : Sto} {k : Nat} {s s' : Stm} {v : Val} {x : Str}
end
theorem lpK_go {R σ β : Type} (s : σ) (kr : R → β) (k : σ → Option β) : lpK (.go s) kr k = k s := rfl
end G

set_option Elab.async false
set_option linter.all false
set_option maxRecDepth 100000
set_option maxHeartbeats 4000000
namespace G
open PySem PySem.Spec PyProof.Rows L2
section
variable {B B1 B2 S : Sto} {cs cs1 cs2 : List (Nat × Cell)} {ρ : Ev} {ma mb : ME} {ms : MA} {x v : Val} {xs : List Val} {k j n : Nat} {c c' d d' : Cell}
def isB (j : Nat) (c : Cell) : Prop := ∃ xs, c = .lst xs ∧ .cell j ∈ xs ∧ ∀ x ∈ xs, nc x = true ∨ x = .cell j
theorem ncS.lt (h : ncS S) (hk : S[k]? = some c) (hc : isB j c) : j < k := by
  obtain ⟨xs, rfl, h1, h2⟩ := hc
  rcases h.nk k _ hk with (h | ⟨ys, i, e, hi, hy⟩) | ⟨_, _, e, _⟩
  · have := ncL_all.mp (show ncL xs = true by simpa [ncC] using h) _ h1
    simp [nc] at this
  · cases e
    rcases hy _ h1 with h | h
    · simp [nc] at h
    · cases h; exact hi
  · cases e
theorem isB.nc (h : isB j c) (hjk : j < k) : ncN k c := by
  obtain ⟨xs, rfl, h1, h2⟩ := h
  exact .inr ⟨xs, j, rfl, hjk, h2⟩
end
theorem op_neXe {α : Type} {e : α → Val} {S : Sto} {xs : List α} : sNeX S (eL e xs) (eL e ([] : List α)) = some (.bl (!xs.isEmpty)) := by
  have h0 : (eL e ([] : List α)) = .lst [] := rfl
  rw [h0]
  unfold sNeX
  cases xs with
  | nil =>
    have : sNe S (eL e []) (.lst []) = some (.bl false) := by
      unfold sNe sEqB sEqD eL
      simp only [List.map_nil, dat, datL, Option.map_some]
      rfl
    rw [this]
    rfl
  | cons x xs =>
    cases e0 : sNe S (eL e (x :: xs)) (.lst []) with
    | none => rfl
    | some r =>
      dsimp only
      unfold sNe sEqB at e0
      simp only [eL] at e0
      unfold sEqD at e0
      obtain ⟨b, e1, rfl⟩ := Option.map_eq_some_iff.mp e0
      split at e1
      · rename_i d d' h1 h2
        simp only [dat, datL, Option.map_some] at h2
        cases h2
        obtain ⟨_, rfl⟩ := ite_some e1
        rw [dat] at h1
        obtain ⟨ds, h3, rfl⟩ := Option.map_eq_some_iff.mp h1
        rw [List.map_cons, datL] at h3
        split at h3
        · cases h3
          simp [PyData.eqv, PyData.eqvAll]
        · cases h3
      · cases e1
structure StB where
  cells : List Int
  rests : List Int
  count : Int
def StB.cellB (s : StB) (j : Nat) : Cell := .lst [lI s.cells, .cell j, .int s.count]
def StB.cellR (s : StB) : Cell := .lst (s.rests.map Val.int)
theorem StB.isB (s : StB) (j : Nat) : isB j (s.cellB j) := ⟨_, rfl, by simp, fun x hx => by
  simp at hx
  rcases hx with rfl | rfl | rfl
  · exact .inl (by simp [nc, lI, ncL_int])
  · exact .inr rfl
  · exact .inl rfl⟩
theorem StB.nc (s : StB) : ncC s.cellR = true := by simp [StB.cellR, ncC, ncL_int]
end G

set_option Elab.async false
set_option linter.all false
set_option maxRecDepth 100000
set_option maxHeartbeats 4000000
namespace G
open PySem PySem.Spec PyProof.Rows L2
section
variable {β : Type}
def eD (en : β → Val) (kvs : List (Int × β)) : Val := .dct (kvs.map fun p => (.inl p.1, en p.2))
theorem ncDct_map (en : β → Val) [NC en] : ∀ kvs : List (Int × β), ncD (kvs.map fun p => ((.inl p.1 : Key), en p.2)) = true
  | [] => rfl
  | p :: ps => by simp [ncD, NC.nc, ncDct_map en ps]
instance (en : β → Val) [NC en] : NC (eD en) := ⟨fun kvs => by simp [nc, eD, ncDct_map]⟩
instance (en : β → Val) : NN (eD en) := ⟨fun _ => rfl⟩
end
section
variable {α β : Type} {enc : α → Val} {en : β → Val} {B B1 : Sto} {cs cs1 : List (Nat × Cell)} {ρ ρw : Ev} {mi : MI} {t : MG} {tk tv : ME} {vs : List Nat} {xs : List α} {g : Gd}
end
section
variable {β : Type}
end
end G

set_option Elab.async false
set_option linter.all false
set_option maxRecDepth 100000
set_option maxHeartbeats 4000000
namespace G
open PySem PySem.Spec PyProof.Rows L2
def PuA {α : Type} (m : Ev → Sto → Res α) (ρ : Ev) (S : Sto) : Prop := ∀ v S', m ρ S = some (.ok v S') → S' = S
theorem Pu.at {α : Type} {m : Ev → Sto → Res α} (h : Pu m) (ρ : Ev) (S : Sto) : PuA m ρ S := fun v S' q => h ρ S v S' q
section
variable {m n k : ME} {s t : MT} {ms : MA} {ρ : Ev} {S : Sto}
end
section
variable {B B1 : Sto} {cs cs1 : List (Nat × Cell)} {ρ ρ' : Ev} {S S1 S2 : Sto} {m n : MS} {fl : Fl} {i j : Nat} {v : Val} {me mo : ME}
end
theorem op_eqXe {α : Type} {e : α → Val} {S : Sto} {xs : List α} : sEqX S (eL e xs) (eL e ([] : List α)) = some (.bl xs.isEmpty) := by
  have h0 : (eL e ([] : List α)) = .lst [] := rfl
  rw [h0]
  unfold sEqX
  cases xs with
  | nil =>
    have : sEq S (eL e []) (.lst []) = some (.bl true) := by
      unfold sEq sEqB sEqD eL
      simp only [List.map_nil, dat, datL, Option.map_some]
      rfl
    rw [this]
    rfl
  | cons x xs =>
    cases e0 : sEq S (eL e (x :: xs)) (.lst []) with
    | none => rfl
    | some r =>
      dsimp only
      unfold sEq sEqB at e0
      simp only [eL] at e0
      unfold sEqD at e0
      obtain ⟨b, e1, rfl⟩ := Option.map_eq_some_iff.mp e0
      split at e1
      · rename_i d d' h1 h2
        simp only [dat, datL, Option.map_some] at h2
        cases h2
        obtain ⟨_, rfl⟩ := ite_some e1
        rw [dat] at h1
        obtain ⟨ds, h3, rfl⟩ := Option.map_eq_some_iff.mp h1
        rw [List.map_cons, datL] at h3
        split at h3
        · cases h3
          simp [PyData.eqv, PyData.eqvAll]
        · cases h3
      · cases e1
end G

set_option Elab.async false
set_option linter.all false
set_option maxRecDepth 100000
set_option maxHeartbeats 4000000
namespace G
open PySem PySem.Spec PyProof.Rows L2
end G

set_option Elab.async false
set_option linter.all false
set_option maxRecDepth 100000
set_option maxHeartbeats 4000000
namespace G
open PySem PySem.Spec PyProof.Rows L2
end G

set_option Elab.async false
set_option linter.all false
set_option maxRecDepth 100000
set_option maxHeartbeats 4000000
namespace G
open PySem PySem.Spec PyProof.Rows L2
section
variable {B : Sto} {cs : List (Nat × Cell)}
end
section
variable {ρ : Ev} {S : Sto} {m : ME} {ms : MA}
end
end G

set_option Elab.async false
set_option linter.all false
set_option maxRecDepth 100000
set_option maxHeartbeats 4000000
namespace G
open PySem PySem.Spec PyProof.Rows L2
end G

set_option Elab.async false
set_option linter.all false
set_option maxRecDepth 100000
set_option maxHeartbeats 4000000
namespace G
open PySem PySem.Spec PyProof.Rows L2
section
variable {B B1 : Sto} {cs cs1 : List (Nat × Cell)} {ρ : Ev} {ms : MA}
end
end G

set_option Elab.async false
set_option linter.all false
set_option maxRecDepth 100000
set_option maxHeartbeats 4000000
namespace G
open PySem PySem.Spec PyProof.Rows L2
end G

set_option Elab.async false
set_option linter.all false
set_option maxRecDepth 100000
set_option maxHeartbeats 4000000
namespace G
open PySem PySem.Spec PyProof.Rows L2
end G

set_option Elab.async false
set_option linter.all false
set_option maxRecDepth 100000
set_option maxHeartbeats 4000000
namespace G
open PySem PySem.Spec PyProof.Rows L2
end G

set_option Elab.async false
set_option linter.all false
set_option maxRecDepth 100000
set_option maxHeartbeats 4000000
namespace G
open PySem PySem.Spec PyProof.Rows L2
section
variable {α β γ : Type} {enc : α → Val} {en : β → Val} {encG : γ → Val} {B B1 : Sto} {cs cs1 : List (Nat × Cell)} {ρ ρw : Ev} {mi mi1 : MI} {t t1 : MG} {tt tt1 : MT} {te : ME} {vs vs1 : List Nat} {xs : List α} {g : Gd}
end
section
variable {α β : Type} {enc : α → Val} {en : β → Val} {B B1 : Sto} {cs cs1 : List (Nat × Cell)} {ρ ρw : Ev} {mi mi1 : MI} {t t1 : MG} {te : ME} {vs vs1 : List Nat} {xs : List α} {g : Gd}
end
end G

set_option Elab.async false
set_option linter.all false
set_option maxRecDepth 100000
set_option maxHeartbeats 4000000
namespace G
open PySem PySem.Spec PyProof.Rows L2
end G

set_option Elab.async false
set_option linter.all false
set_option maxRecDepth 100000
set_option maxHeartbeats 4000000
namespace G
open PySem PySem.Spec PyProof.Rows L2
section
variable {B B1 : Sto} {cs cs1 : List (Nat × Cell)} {ρ : Ev} {ma ml ms : ME} {x : Val}
end
end G

set_option Elab.async false
set_option linter.all false
set_option maxRecDepth 100000
set_option maxHeartbeats 4000000
namespace G
open PySem PySem.Spec PyProof.Rows L2
end G

set_option Elab.async false
set_option linter.all false
set_option maxRecDepth 100000
set_option maxHeartbeats 4000000
namespace G
open PySem PySem.Spec PyProof.Rows L2
end G

set_option Elab.async false
set_option linter.all false
set_option maxRecDepth 100000
set_option maxHeartbeats 4000000
namespace G
open PySem PySem.Spec PyProof.Rows L2
section
variable {B B1 B2 : Sto} {cs cs1 cs2 : List (Nat × Cell)} {ρ : Ev} {ms : MA} {ma mb : ME} {P : Fl → Sto → Prop}
end
end G

set_option Elab.async false
set_option linter.all false
set_option maxRecDepth 100000
set_option maxHeartbeats 4000000
namespace G
open PySem PySem.Spec PyProof.Rows L2
end G

set_option Elab.async false
set_option linter.all false
set_option maxRecDepth 100000
set_option maxHeartbeats 4000000
namespace G
open PySem PySem.Spec PyProof.Rows L2
section
variable {B B1 B2 B3 B4 B5 B6 B7 : Sto} {cs cs1 cs2 cs3 cs4 cs5 cs6 cs7 : List (Nat × Cell)} {ρ : Ev} {P : Fl → Sto → Prop} {n : MS}
end
end G

set_option Elab.async false
set_option linter.all false
set_option maxRecDepth 100000
set_option maxHeartbeats 4000000
namespace G
open PySem PySem.Spec PyProof.Rows L2
end G

set_option Elab.async false
set_option linter.all false
set_option maxRecDepth 100000
set_option maxHeartbeats 4000000
namespace G
open PySem PySem.Spec PyProof.Rows L2
section
variable {β : Type}
end
section
variable {β : Type} {en : β → Val} [NC en] {B B1 B2 S0 : Sto} {cs cs1 cs2 cs' : List (Nat × Cell)} {ρ : Ev} {mk mv : ME} {n : MS} {P : Fl → Sto → Prop} {i : Nat} {k : Nat} {xs zs : List (Int × β)}
end
end G

set_option Elab.async false
set_option linter.all false
set_option maxRecDepth 100000
set_option maxHeartbeats 4000000
namespace G
open PySem PySem.Spec PyProof.Rows L2
end G

set_option Elab.async false
set_option linter.all false
set_option maxRecDepth 100000
set_option maxHeartbeats 4000000
namespace G
open PySem PySem.Spec PyProof.Rows L2
section
variable {β : Type}
abbrev dS (en : β → Val) (l : List (List Nat × β)) : List (Key × Val) := l.map fun p => (.inr (tx p.1), en p.2)
def eDS (en : β → Val) (l : List (List Nat × β)) : Val := .dct (dS en l)
theorem ncDctS_map (en : β → Val) [NC en] : ∀ kvs : List (List Nat × β), ncD (dS en kvs) = true
  | [] => rfl
  | p :: ps => by
    have ih := ncDctS_map en ps
    simp only [dS, List.map_cons] at ih ⊢
    simp [ncD, NC.nc, ih]
instance (en : β → Val) [NC en] : NC (eDS en) := ⟨fun kvs => by simp only [nc, eDS]; exact ncDctS_map en kvs⟩
instance (en : β → Val) : NN (eDS en) := ⟨fun _ => rfl⟩
end
section
variable {β : Type} {en : β → Val} [NC en] {B B1 B2 S0 : Sto} {cs cs1 cs2 cs' : List (Nat × Cell)} {ρ : Ev} {mk mv : ME} {ms : MA} {n : MS} {P : Fl → Sto → Prop} {i : Nat} {k : Nat} {xs zs : List (List Nat × β)}
end
end G

set_option Elab.async false
set_option linter.all false
set_option maxRecDepth 100000
set_option maxHeartbeats 4000000
namespace G
open PySem PySem.Spec PyProof.Rows L2
def Mono (f : Int → Int) (xs : List Int) : Prop := ∀ a ∈ xs, ∀ b ∈ xs, a < b → f a < f b
theorem Mono.sub {f : Int → Int} {xs ys : List Int} (h : Mono f xs) (i : ∀ y ∈ ys, y ∈ xs) : Mono f ys := fun a ha b hb hl => h a (i a ha) b (i b hb) hl
theorem Mono.le {f : Int → Int} {xs : List Int} (h : Mono f xs) {a b : Int} (ha : a ∈ xs) (hb : b ∈ xs) : a ≤ b ↔ f a ≤ f b := by
  constructor
  · intro hl
    by_cases e : a = b
    · rw [e]; exact Int.le_refl _
    · exact Int.le_of_lt (h a ha b hb (by omega))
  · intro hl
    by_cases e : b < a
    · have := h b hb a ha e; omega
    · omega
theorem Mono.lt {f : Int → Int} {xs : List Int} (h : Mono f xs) {a b : Int} (ha : a ∈ xs) (hb : b ∈ xs) : a < b ↔ f a < f b := by
  have := h.le hb ha
  omega
theorem Mono.inj {f : Int → Int} {xs : List Int} (h : Mono f xs) {a b : Int} (ha : a ∈ xs) (hb : b ∈ xs) (e : f a = f b) : a = b := by
  have h1 := h.lt ha hb
  have h2 := h.lt hb ha
  omega
abbrev N_t_odd : List Str := ["_law_stream_here", "_law_items"]
noncomputable def m_t_odd : MS := sSeq (sSet 1 (mLst (mCons (mC .non) (mCons (mC (.bl true)) (mCons (mC (.bl false)) (mCons (mC (.int 0)) (mCons (mC (.int 1)) (mCons (mO1 sNeg (mC (.int 1))) (mCons (mO2 aPow (mC (.int 10)) (mC (.int 12))) (mCons (mO2 sAdd (mO2 aPow (mC (.int 10)) (mC (.int 12))) (mC (.int 1))) (mCons (mO2 aPow (mC (.int 10)) (mC (.int 39))) (mCons (mC (.str "")) (mCons (mC (.str "I")) (mCons (mC (.str "IR")) (mCons (mC (.str "3 1")) (mCons (mC (.str "none")) (mCons (mTup (mNil)) (mCons (mLst (mNil)) (mCons (mC (.dct [])) (mNil)))))))))))))))))))) (sRet (mCal 2 f_t_pick (mCons (mVar 0) (mCons (mO2 sAdd (mVar 1) (mLst (mCons (mTup (mCons (mC (.int 0)) (mNil))) (mCons (mLst (mCons (mC (.int 0)) (mNil))) (mCons (mTup (mCons (mC (.bl true)) (mNil))) (mCons (mTup (mCons (mTup (mNil)) (mNil))) (mCons (mDisp [.inr "I"] (mCons (mC (.int 1)) (mNil))) (mCons (mTup (mCons (mC (.str "I")) (mCons (mC (.str "R")) (mNil)))) (mCons (mTup (mCons (mC (.int 1)) (mCons (mC .non) (mNil)))) (mNil)))))))))) (mNil)))))
noncomputable def x_t_odd (stream_here : Stm) : Option (VV × Stm) :=
  (some [(toV eU ()), (toV eB true), (toV eB false), (toV eI 0), (toV eI 1), (toV eI (-1)), (toV eI 1000000000000), (toV eI (1000000000000 + 1)), (toV eI 1000000000000000000000000000000000000000), (toV eS []), (toV eS [73]), (toV eS [73, 82]), (toV eS [51, 32, 49]), (toV eS [110, 111, 110, 101]), (toV (eT eV) []), (toV (eL eV) []), (vD [])]).bind fun items =>
  (szO (items ++ [(toV (eT eV) [(toV eI 0)]), (toV (eL eV) [(toV eI 0)]), (toV (eT eV) [(toV eB true)]), (toV (eT eV) [(toV (eT eV) [])]), (vD [(.inr "I", (toV eI 1))]), (toV (eT eV) [(toV eS [73]), (toV eS [82])]), (toV (eT eV) [(toV eI 1), (toV eU ())])])).bind fun r1 =>
  (x_t_pick stream_here r1).bind fun (r2, s1) =>
  some (r2, s1)
noncomputable def f_t_odd : Fn := runU N_t_odd m_t_odd
theorem tr_t_odd {S0 : Sto} (hn : ncS S0) {k : Nat} {stream_here : Stm} (hk : S0[k]? = some stream_here.cell) {r : VV} {s' : Stm} (h : x_t_odd stream_here = some (r, s')) : f_t_odd [.cell k] S0 = some (.ok (eV r) (S0.set k s'.cell)) := by
  have hk_k : k < S0.length := (List.getElem?_eq_some_iff.mp hk).1
  refine fin_ok (St.startB hn hk) List.length_set ?_
  show Run (S0.set k stream_here.cell) [(k, stream_here.cell)] m_t_odd [some (.cell k), none] (Fin (S0.set k s'.cell) eV r)
  unfold x_t_odd at h
  unfold m_t_odd
  refine run_one ?_
  refine run_assoc ?_
  replace h := Option.bind_eq_some_iff.mp h; obtain ⟨items, q1, h⟩ := h
  refine run_set st1 (X.cast (congrArg (eL eV) (Option.some.inj q1)) (lstT (e := eV) (xs := [(toV eU ()), (toV eB true), (toV eB false), (toV eI 0), (toV eI 1), (toV eI (-1)), (toV eI 1000000000000), (toV eI (1000000000000 + 1)), (toV eI 1000000000000000000000000000000000000000), (toV eS []), (toV eS [73]), (toV eS [73, 82]), (toV eS [51, 32, 49]), (toV eS [110, 111, 110, 101]), (toV (eT eV) []), (toV (eL eV) []), (vD [])]) (ev_cons ev_c (ev_cons ev_c (ev_cons ev_c (ev_cons ev_c (ev_cons ev_c (ev_cons (ev_o1 ev_c fun _ _ => op_neg) (ev_cons (ev_o2 ev_c ev_c fun _ _ => op_pow (by decide)) (ev_cons (ev_o2 (ev_o2 ev_c ev_c fun _ _ => op_pow (by decide)) ev_c fun _ _ => op_add) (ev_cons (ev_o2 ev_c ev_c fun _ _ => op_pow (by decide)) (ev_cons (strc (a := []) (by decide +kernel)) (ev_cons (strc (a := [73]) (by decide +kernel)) (ev_cons (strc (a := [73, 82]) (by decide +kernel)) (ev_cons (strc (a := [51, 32, 49]) (by decide +kernel)) (ev_cons (strc (a := [110, 111, 110, 101]) (by decide +kernel)) (ev_cons (X.cast (show (eT eV) [] = eV (toV (eT eV) []) from rfl) (tup0 (e := eV))) (ev_cons (X.cast (show (eL eV) [] = eV (toV (eL eV) []) from rfl) (lst0 (e := eV))) (ev_cons ev_c ev_nil))))))))))))))))) (by simp))) ?_
  replace h := Option.bind_eq_some_iff.mp h; obtain ⟨r1, q2, h⟩ := h
  replace h := Option.bind_eq_some_iff.mp h; obtain ⟨⟨r2, s1⟩, q3, h⟩ := h
  dsimp only at h
  refine run_ret (ev_callK 0 (ev_cons v0 (ev_cons (ev_o2 v1 (lstT (e := eV) (xs := [(toV (eT eV) [(toV eI 0)]), (toV (eL eV) [(toV eI 0)]), (toV (eT eV) [(toV eB true)]), (toV (eT eV) [(toV (eT eV) [])]), (vD [(.inr "I", (toV eI 1))]), (toV (eT eV) [(toV eS [73]), (toV eS [82])]), (toV (eT eV) [(toV eI 1), (toV eU ())])]) (ev_cons (X.cast (show (eT eV) [(toV eI 0)] = eV (toV (eT eV) [(toV eI 0)]) from rfl) (tupT (e := eV) (xs := [(toV eI 0)]) (ev_cons ev_c ev_nil) (by simp))) (ev_cons (X.cast (show (eL eV) [(toV eI 0)] = eV (toV (eL eV) [(toV eI 0)]) from rfl) (lstT (e := eV) (xs := [(toV eI 0)]) (ev_cons ev_c ev_nil) (by simp))) (ev_cons (X.cast (show (eT eV) [(toV eB true)] = eV (toV (eT eV) [(toV eB true)]) from rfl) (tupT (e := eV) (xs := [(toV eB true)]) (ev_cons ev_c ev_nil) (by simp))) (ev_cons (X.cast (show (eT eV) [(toV (eT eV) [])] = eV (toV (eT eV) [(toV (eT eV) [])]) from rfl) (tupT (e := eV) (xs := [(toV (eT eV) [])]) (ev_cons (X.cast (show (eT eV) [] = eV (toV (eT eV) []) from rfl) (tup0 (e := eV))) ev_nil) (by simp))) (ev_cons (ev_disp (ev_cons ev_c ev_nil) (by decide) (by rfl)) (ev_cons (X.cast (show (eT eV) [(toV eS [73]), (toV eS [82])] = eV (toV (eT eV) [(toV eS [73]), (toV eS [82])]) from rfl) (tupT (e := eV) (xs := [(toV eS [73]), (toV eS [82])]) (ev_cons (strc (a := [73]) (by decide +kernel)) (ev_cons (strc (a := [82]) (by decide +kernel)) ev_nil)) (by simp))) (ev_cons (X.cast (show (eT eV) [(toV eI 1), (toV eU ())] = eV (toV (eT eV) [(toV eI 1), (toV eU ())]) from rfl) (tupT (e := eV) (xs := [(toV eI 1), (toV eU ())]) (ev_cons ev_c (ev_cons ev_c ev_nil)) (by simp))) ev_nil))))))) (by simp)) fun _ h => op_addL lsL lsL q2) ev_nil)) rfl gt0 (ltset hk_k) (Stm.nc _) (List.set_set _) st0 fun _ hn hk => tr_t_pick hn hk q3) fun _ hS => ?_
  cases h
  exact fin_val rfl hS
def oddsV : List VV := [(toV eU ()), (toV eB true), (toV eB false), (toV eI 0), (toV eI 1), (toV eI (-1)), (toV eI 1000000000000), (toV eI (1000000000000 + 1)), (toV eI 1000000000000000000000000000000000000000), (toV eS []), (toV eS [73]), (toV eS [73, 82]), (toV eS [51, 32, 49]), (toV eS [110, 111, 110, 101]), (toV (eT eV) []), (toV (eL eV) []), (vD []), (toV (eT eV) [(toV eI 0)]), (toV (eL eV) [(toV eI 0)]), (toV (eT eV) [(toV eB true)]), (toV (eT eV) [(toV (eT eV) [])]), (vD [(.inr "I", (toV eI 1))]), (toV (eT eV) [(toV eS [73]), (toV eS [82])]), (toV (eT eV) [(toV eI 1), (toV eU ())])]
theorem odd_ok {s : Stm} (h : s.Ok) : Ret (x_t_odd s) fun p => p.1 ∈ oddsV ∧ p.2.Ok := by
  unfold x_t_odd
  refine ret_let (ret_sz (by simp) ?_)
  refine ret_pick h (by simp) (by simp) fun x s1 hx o1 => ret_some ⟨?_, o1⟩
  exact hx
theorem ret_odd {β : Type} {R : β → Prop} {s : Stm} {k : VV × Stm → Option β} (h : s.Ok) (hk : ∀ v s', v ∈ oddsV → s'.Ok → Ret (k (v, s')) R) : Ret ((x_t_odd s).bind k) R := ret_bind (odd_ok h) fun p hp => hk p.1 p.2 hp.1 hp.2
def isKey (k : Int) : Bool := decide (0 ≤ k) && decide (k ≤ 1000000000000)
def rk (xs : List Int) (k : Int) : Nat := (sortI xs).idxOf k
def nk (xs ks : List Int) (k : Int) : Int := ks.getD (rk xs k) 0
def Fit : List Bool → Nat → Nat → Prop
  | [], n, q => n = 0 ∧ q = 0
  | true :: w, n, q => 0 < n ∧ Fit w (n - 1) (q + 1)
  | false :: w, n, q => 0 < q ∧ Fit w n (q - 1)
theorem Fit.len : ∀ {w : List Bool} {n q : Nat}, Fit w n q → w.length = 2 * n + q
  | [], n, q, h => by obtain ⟨rfl, rfl⟩ := h; rfl
  | true :: w, n, q, h => by have := Fit.len h.2; have := h.1; simp; omega
  | false :: w, n, q, h => by have := Fit.len h.2; have := h.1; simp; omega
theorem KeyL.key {ks : List Int} (h : KeyL ks) : ∀ k ∈ ks, isKey k = true := fun k hk => by
  have := h.bd k hk
  simp [isKey]
  omega
theorem SeqL.key {ks : List Int} (h : SeqL ks) : ∀ k ∈ ks, isKey k = true := fun k hk => by
  have := h.bd k hk
  simp [isKey]
  omega
end G

set_option Elab.async false
set_option linter.all false
set_option maxRecDepth 100000
set_option maxHeartbeats 4000000
namespace G
open PySem PySem.Spec PyProof.Rows L2
end G

set_option Elab.async false
set_option linter.all false
set_option maxRecDepth 100000
set_option maxHeartbeats 4000000
namespace G
open PySem PySem.Spec PyProof.Rows L2
end G

set_option Elab.async false
set_option linter.all false
set_option maxRecDepth 100000
set_option maxHeartbeats 4000000
namespace G
open PySem PySem.Spec PyProof.Rows L2
end G

set_option Elab.async false
set_option linter.all false
set_option maxRecDepth 100000
set_option maxHeartbeats 4000000
namespace G
open PySem PySem.Spec PyProof.Rows L2
end G

set_option Elab.async false
set_option linter.all false
set_option maxRecDepth 100000
set_option maxHeartbeats 4000000
namespace G
open PySem PySem.Spec PyProof.Rows L2
end G

set_option Elab.async false
set_option linter.all false
set_option maxRecDepth 100000
set_option maxHeartbeats 4000000
namespace G
open PySem PySem.Spec PyProof.Rows L2
theorem lcS_idx {σ α β : Type} {step : σ → α → Option (Option β × σ)} (I : σ → Prop) (P : α → β → Prop) : ∀ {xs : List α} {s : σ}, I s → (∀ x ∈ xs, ∀ s, I s → Ret (step s x) fun p => (∃ y, p.1 = some y ∧ P x y) ∧ I p.2) → Ret (lcS step xs s) fun p => p.1.length = xs.length ∧ (∀ (i : Nat) (x : α) (y : β), xs[i]? = some x → p.1[i]? = some y → P x y) ∧ I p.2
  | [], s, h0, _ => ⟨([], s), rfl, rfl, by simp, h0⟩
  | x :: xs, s, h0, hs => by
    obtain ⟨⟨o, s1⟩, e1, ⟨y, h1, h1p⟩, h2⟩ := hs x List.mem_cons_self s h0
    obtain ⟨⟨ys, s2⟩, e2, h3, h4, h5⟩ := lcS_idx I P (xs := xs) h2 fun y hy => hs y (List.mem_cons_of_mem _ hy)
    dsimp only at h1 h3 h4 h5
    subst h1
    refine ⟨(y :: ys, s2), by rw [lcS, e1, Option.bind_some]; dsimp only; rw [e2]; rfl, by simp [h3], fun i a b ha hb => ?_, h5⟩
    cases i with
    | zero => simp at ha hb; subst ha; subst hb; exact h1p
    | succ i => exact h4 i a b (by simpa using ha) (by simpa using hb)
def rn (k : Int) (rest : List Int) : Nat := (rest.takeWhile fun x => decide (x < k)).length
end G

set_option Elab.async false
set_option linter.all false
set_option maxRecDepth 100000
set_option maxHeartbeats 4000000
namespace NDE
open PySem
open PySem.Sem (wp)
section
variable {prog : Program} {w : World} {K : Type} [DecidableEq K] {knd : HeapKind prog w K} {A : Around} {E : Value → Shared → Prop} {s : Shared}
def EpD (knd : HeapKind prog w K) (h : Heap) (d : Addr) (xs : List (K × Addr × Value)) : Prop :=
  ∃ o es, h.get? d = some o ∧ o.ExactDict ∧ o.data = .dict es xs.length ∧ es.toList = xs.map (entryOfKey knd) ∧ (∀ x ∈ xs, knd.is h x.1 x.2.1) ∧ (xs.map (·.1)).Nodup
theorem EpD.dict {h : Heap} {d : Addr} {xs : List (K × Addr × Value)} (x : EpD knd h d xs) : h.DictOfH knd d xs := by
  obtain ⟨o, es, h1, h2, h3, h4, h5, h6⟩ := x
  exact ⟨o, es, _, h1, h2, h3, h4, h5, h6⟩
end
end NDE
namespace G
open PySem PySem.Spec PyProof.Rows L2
mutual
def nkO : Val → Option NestedKey
  | .int i => some (.num i)
  | .tup xs => (nkOs xs).map NestedKey.tup
  | _ => none
def nkOs : List Val → Option (List NestedKey)
  | [] => some []
  | x :: xs => match nkO x, nkOs xs with
    | some k, some ks => some (k :: ks)
    | _, _ => none
end
section
variable {X : Cx} {pins : List (Addr × Obj)} {σ : L2.St} {H : Hp} {s : Shared} {μ : List Addr}
theorem SqN.items {a : Addr} {vs : List V} (I : L2.Inv X pins σ H s) (h : SqN X.K H a vs) : ∃ o its n, s.heap.get? a = some o ∧ o.cls = .type "tuple" ∧ o.data = .seq its n ∧ Vals vs its.toList := by
  rcases h with ⟨o, h1, h⟩ | ⟨o, its, n, h1, h2, h3, h4, h5, h6⟩
  · obtain ⟨q1, _, its, q3, o', q4, q5, n, q6⟩ := (show ObjOk X.prog X.w H s.heap a (.frz o (.tup vs)) from I.hok a _ h)
    exact ⟨o', its.toArray, n, q4, q5, q6, by simpa using q3⟩
  · exact ⟨o, its, n, I.kIn _ _ h1, h2, h4, h6⟩
mutual
theorem nested_at (I : L2.Inv X pins σ H s) : ∀ (k : NestedKey) {v : V} {u : Value}, okN k = true → RepV X.K H μ (valN k) v → RelV v u → NestedIs s.heap k u
  | .none, _, _, h, _, _ => by cases h
  | .num i, _, _, _, r, q => by
    rw [valN] at r
    cases r
    obtain ⟨t, rfl⟩ := q
    exact .int i t
  | .text _, _, _, h, _, _ => by cases h
  | .tup ks, _, _, h, r, q => by
    rw [valN] at r
    cases r with
    | tup sq rl =>
      obtain ⟨o, its, n, h1, h2, h3, h4⟩ := sq.items I
      obtain rfl := q
      exact .tup h1 h2 h3 (nested_all I ks (by simpa [okN] using h) rl h4)
theorem nested_all (I : L2.Inv X pins σ H s) : ∀ (ks : List NestedKey) {vs : List V} {us : List Value}, okNs ks = true → RepL X.K H μ (valsN ks) vs → Vals vs us → NestedAll s.heap ks us
  | [], _, _, _, r, q => by
    rw [valsN] at r
    cases r
    cases q
    exact .nil
  | k :: ks, _, _, h, r, q => by
    have h' : okN k = true ∧ okNs ks = true := by simpa [okNs] using h
    rw [valsN] at r
    cases r with
    | cons r1 r2 =>
      cases q with
      | cons q1 q2 => exact .cons (nested_at I k h'.1 r1 q1) (nested_all I ks h'.2 r2 q2)
end
end
def valNk (kvs : List (NestedKey × Val)) (k : NestedKey) : Option Val := (kvs.find? fun kv => decide (kv.1 = k)).map (·.2)
def putNk (kvs : List (NestedKey × Val)) (k : NestedKey) (v : Val) : List (NestedKey × Val) := if (kvs.any fun kv => decide (kv.1 = k)) = true then kvs.map fun kv => if kv.1 = k then (kv.1, v) else kv else kvs ++ [(k, v)]
section
variable {K : PySem.W.Frag} {mg : Str → Option Value} {F H : Hp} {μ : List Addr} {S : Sto}
theorem RepN.val : ∀ {kvs : List (NestedKey × Val)} {xs : List (NestedKey × Addr × Value)}, RepN K F μ kvs xs → ∀ {k : NestedKey} {v : Val}, valNk kvs k = some v → ∃ p w, atKey xs k = some p ∧ RepV K F μ v w ∧ RelV w p.2
  | _, _, .nil, k, v, e => by cases e
  | _, _, .cons (k := k0) (x := x) (b := b) (u := u) (v := w) (kvs := kvs) (xs := xs) h1 h2 h3 h4 h5 t, k, v, e => by
    by_cases h : k0 = k
    · subst h
      have : x = v := by simpa [valNk] using e
      subst this
      exact ⟨(b, u), w, by simp [atKey], h4, h5⟩
    · have e' : valNk kvs k = some v := by simpa [valNk, List.find?_cons, h] using e
      obtain ⟨p, w', q1, q2, q3⟩ := t.val e'
      exact ⟨p, w', by simpa [atKey, List.find?_cons, h] using q1, q2, q3⟩
theorem RepN.isSome : ∀ {kvs : List (NestedKey × Val)} {xs : List (NestedKey × Addr × Value)}, RepN K F μ kvs xs → ∀ k : NestedKey, (atKey xs k).isSome = (valNk kvs k).isSome
  | _, _, .nil, k => rfl
  | _, _, .cons (k := k0) h1 h2 h3 h4 h5 t, k => by
    by_cases h : k0 = k
    · subst h
      simp [atKey, valNk]
    · have := t.isSome k
      simpa [atKey, valNk, List.find?_cons, h] using this
theorem valNk_any (kvs : List (NestedKey × Val)) (k : NestedKey) : (kvs.any fun kv => decide (kv.1 = k)) = (valNk kvs k).isSome := by
  unfold valNk
  rw [Option.isSome_map, List.isSome_find?]
theorem RepN.snoc {k : NestedKey} {x : Val} {b : Addr} {u : Value} {v : V} (h1 : okN k = true) (h2 : k.depth ≤ 8) (h3 : RepV K F μ (valN k) (.ref b)) (h4 : RepV K F μ x v) (h5 : RelV v u) : ∀ {kvs : List (NestedKey × Val)} {xs : List (NestedKey × Addr × Value)}, RepN K F μ kvs xs → RepN K F μ (kvs ++ [(k, x)]) (xs ++ [(k, b, u)])
  | _, _, .nil => .cons h1 h2 h3 h4 h5 .nil
  | _, _, .cons a1 a2 a3 a4 a5 t => .cons a1 a2 a3 a4 a5 (RepN.snoc h1 h2 h3 h4 h5 t)
theorem RepN.repl {k : NestedKey} {x : Val} {u : Value} {v : V} (h4 : RepV K F μ x v) (h5 : RelV v u) : ∀ {kvs : List (NestedKey × Val)} {xs : List (NestedKey × Addr × Value)}, RepN K F μ kvs xs → RepN K F μ (kvs.map fun kv => if kv.1 = k then (kv.1, x) else kv) (xs.map (putAt k u))
  | _, _, .nil => .nil
  | _, _, .cons (k := k0) a1 a2 a3 a4 a5 t => by
    rw [List.map_cons, List.map_cons]
    by_cases h : k0 = k
    · subst h
      simp only [if_true, putAt]
      exact .cons a1 a2 a3 h4 h5 (RepN.repl h4 h5 t)
    · simp only [h, if_false, putAt]
      exact .cons a1 a2 a3 a4 a5 (RepN.repl h4 h5 t)
theorem RepN.put {kvs : List (NestedKey × Val)} {xs : List (NestedKey × Addr × Value)} (t : RepN K F μ kvs xs) {k : NestedKey} {x : Val} {b : Addr} {u : Value} {v : V} (h1 : okN k = true) (h2 : k.depth ≤ 8) (h3 : RepV K F μ (valN k) (.ref b)) (h4 : RepV K F μ x v) (h5 : RelV v u) : RepN K F μ (putNk kvs k x) (storedH xs k b u) := by
  unfold putNk storedH
  rw [valNk_any, t.isSome k]
  split
  · exact t.repl h4 h5
  · exact t.snoc h1 h2 h3 h4 h5
structure DnAt (K : PySem.W.Frag) (mg : Str → Option Value) (F H : Hp) (μ : List Addr) (S : Sto) (k : Nat) (a : Addr) (kvs : List (NestedKey × Val)) (xs : List (NestedKey × Addr × Value)) : Prop where
  at_ : μ[k]? = some a
  st : S[k]? = some (.dN kvs)
  o : H a = some (DnO a xs)
  no : (a == sysModules) = false
  sz : kvs.length ≤ sizeLine
  nd : (kvs.map (·.1)).Nodup
  rep : RepN K F μ kvs xs
theorem RepN.nodup {kvs : List (NestedKey × Val)} {xs : List (NestedKey × Addr × Value)} (t : RepN K F μ kvs xs) : xs.map (·.1) = kvs.map (·.1) := by
  induction t with
  | nil => rfl
  | cons _ _ _ _ _ _ ih => rw [List.map_cons, List.map_cons, ih]
end
section
variable {X : Cx} {pins : List (Addr × Obj)} {σ : L2.St} {s : Shared} {mg : Str → Option Value} {F H : Hp} {μ : List Addr} {S : Sto} {k : Nat} {a : Addr} {kvs : List (NestedKey × Val)} {xs : List (NestedKey × Addr × Value)}
theorem repN_is (I : L2.Inv X pins σ H s) (hs : Same F H) : ∀ {kvs : List (NestedKey × Val)} {xs : List (NestedKey × Addr × Value)}, RepN X.K F μ kvs xs → (∀ x ∈ xs, (nestedKind X.prog X.w).is s.heap x.1 x.2.1) ∧ xs.map entN = xs.map (entryOfKey (nestedKind X.prog X.w))
  | _, _, .nil => ⟨(fun _ h => nomatch h), rfl⟩
  | _, _, .cons h1 h2 h3 h4 h5 t => by
    obtain ⟨i1, i2⟩ := repN_is I hs t
    refine ⟨fun x hx => ?_, ?_⟩
    · rcases List.mem_cons.mp hx with rfl | hx
      · exact ⟨nested_at I _ h1 (h3.mono ⟨hs, List.prefix_refl _⟩) rfl, h2⟩
      · exact i1 x hx
    · rw [List.map_cons, List.map_cons, i2]
      congr 1
      unfold entN entryOfKey
      rw [show (nestedKind X.prog X.w).hash _ = _ from hashN_ok X.w _ h1]
theorem DnAt.ep (I : L2.Inv X pins σ H s) (hS : RepS X.K mg F H μ S) (d : DnAt X.K mg F H μ S k a kvs xs) : NDE.EpD (nestedKind X.prog X.w) s.heap a xs := by
  obtain ⟨⟨o, es, h1, h2, h3, h4⟩, _, _⟩ := (show ObjOk X.prog X.w H s.heap a (DnO a xs) from I.hok a _ d.o)
  obtain ⟨i1, i2⟩ := repN_is I hS.sub d.rep
  exact ⟨o, es, h1, h2, h3, by rw [h4, i2], i1, by rw [d.rep.nodup]; exact d.nd⟩
theorem DnAt.dict (I : L2.Inv X pins σ H s) (hS : RepS X.K mg F H μ S) (d : DnAt X.K mg F H μ S k a kvs xs) : s.heap.DictOfH (nestedKind X.prog X.w) a xs := (d.ep I hS).dict
variable {W : WX} {pos : Pos} {o i : Expr} {mo mi : ME}
end
end G

set_option Elab.async false
set_option linter.all false
set_option maxRecDepth 100000
set_option maxHeartbeats 4000000
namespace G
open PySem PySem.Spec PyProof.Rows L2
theorem RepN.get {K : PySem.W.Frag} {F : Hp} {μ : List Addr} : ∀ {kvs : List (NestedKey × Val)} {xs : List (NestedKey × Addr × Value)}, RepN K F μ kvs xs → ∀ {i : Nat} {p : NestedKey × Val}, kvs[i]? = some p → ∃ b u, xs[i]? = some (p.1, b, u) ∧ RepV K F μ (valN p.1) (.ref b)
  | _, _, .nil, i, p, e => by simp at e
  | _, _, .cons h1 h2 h3 h4 h5 t, 0, p, e => by simp at e; subst e; exact ⟨_, _, rfl, h3⟩
  | _, _, .cons h1 h2 h3 h4 h5 t, i + 1, p, e => by
    obtain ⟨b, u, q1, q2⟩ := RepN.get t (i := i) (p := p) (by simpa using e)
    exact ⟨b, u, by simpa using q1, q2⟩
end G

set_option Elab.async false
set_option linter.all false
set_option maxRecDepth 100000
set_option maxHeartbeats 4000000
namespace GZ
open PySem
open PySem.Sem (wp)
section
variable {prog : Program} {w : World}
end
end GZ
namespace G
open PySem PySem.Spec PyProof.Rows L2
section
variable {X : Cx} {e1 e2 : Expr} {ta : TA} {p p2 pos pos2 : Pos}
end
end G

set_option Elab.async false
set_option linter.all false
set_option maxRecDepth 100000
set_option maxHeartbeats 4000000
namespace G
open PySem PySem.Spec PyProof.Rows L2
end G

set_option Elab.async false
set_option linter.all false
set_option maxRecDepth 100000
set_option maxHeartbeats 4000000
namespace G
open PySem PySem.Spec PyProof.Rows L2

section
variable {X : Cx} {pins : List (Addr × Obj)} {σ : L2.St} {H F : Hp} {μ : List Addr} {S : Sto} {s : Shared}
end

section
open NdefX
end

section
variable {prog : Program} {w : World} {A : Around} {q l S I : Addr} {n : Nat} {Pv : Nat → Value → Prop} {kf : Nat → Int} {Gd : Obj → Obj → Shared → Prop} {Gf : Shared → Prop} {R : Result → Shared → Prop} {Q : Value → Shared → Prop} {E : Value → Shared → Prop}
end

section
open NdefX
variable {X : Cx} {pins : List (Addr × Obj)} {σ : L2.St} {H : Hp} {s : Shared}
end

section
variable {P : Program} {w : World} {K : PySem.W.Frag} {mg : Str → Option Value} {base : Heap}
end
end G

set_option Elab.async false
set_option linter.all false
set_option maxRecDepth 100000
set_option maxHeartbeats 4000000
namespace G
open PySem PySem.Spec PyProof.Rows L2
def eG {α β : Type} (e : α → Val) (f : β → Val) (p : α × β) : Val := .lst [e p.1, f p.2]
instance {α β : Type} (e : α → Val) (f : β → Val) [NC e] [NC f] : NC (eG e f) := ⟨fun p => by simp [nc, eG, ncL, NC.nc]⟩
theorem fin_lst {α : Type} {en : α → Val} {r : α} {B S : Sto} {cs : List (Nat × Cell)} {us vs : List Val} (z : FzL B.length S us vs) (h : St B S cs) (e : .lst vs = en r := by rfl) : Fin B en r (.ret (.lst us)) S := ⟨_, rfl, by rw [← e]; exact .lst z, h.nil⟩
end G

set_option Elab.async false
set_option linter.all false
set_option maxRecDepth 100000
set_option maxHeartbeats 4000000
namespace G
open PySem PySem.Spec PyProof.Rows L2
section
variable {X : Cx} {W : WX}
end
end G

set_option Elab.async false
set_option linter.all false
set_option maxRecDepth 100000
set_option maxHeartbeats 4000000
namespace G
open PySem PySem.Spec PyProof.Rows L2
section
variable {B B1 B2 : Sto} {cs cs1 cs2 : List (Nat × Cell)} {ρ : Ev}
end
end G

set_option Elab.async false
set_option linter.all false
set_option maxRecDepth 100000
set_option maxHeartbeats 4000000
namespace G
open PySem PySem.Spec PyProof.Rows L2
section
variable {X : Cx} {W : WX}
end
end G

set_option Elab.async false
set_option linter.all false
set_option maxRecDepth 100000
set_option maxHeartbeats 4000000
namespace G
open PySem PySem.Spec PyProof.Rows L2
section
variable {B B1 B2 : Sto} {cs cs1 cs2 : List (Nat × Cell)} {ρ : Ev} {mf : ME} {n : Nat} {tbl : List (Str × Fn)} {ms : MA} {x : Str} {f : Fn} {v : Val}
end
end G

set_option Elab.async false
set_option linter.all false
set_option maxRecDepth 100000
set_option maxHeartbeats 4000000
namespace G
open PySem PySem.Spec PyProof.Rows L2
section
variable {P : Program} {w : World} {K : PySem.W.Frag} {mg : Str → Option Value} {base : Heap}
end
section
variable {X : Cx} {W : WX} {k j : Nat} {f C a : Addr} {fd : FuncData} {ps : List Str} {F : Fn} {x : Str} {st : Stmt} {p pos : Pos} {e : Expr} {es : List Expr} {ms : MA} {oe : Obj} {pn : List (Addr × Obj)}
end
end G

set_option Elab.async false
set_option linter.all false
set_option maxRecDepth 100000
set_option maxHeartbeats 4000000
namespace G
open PySem PySem.Spec PyProof.Rows L2
theorem CellsAt.un {cl : List (Str × Addr)} {fr : List Str} {ws : List (Option V)} {fs : List Addr} {H H' : Hp} {h h' : Heap} (C : NdefX.CellsAt cl fr ws h H) (u : Un fs [] H H' h h') : NdefX.CellsAt cl fr ws h' H' := by
  have cell : ∀ {c : Addr} {v : Option Value}, H c = none → h.IsCell c v → h'.IsCell c v := fun {c v} n ⟨o, ho, hd⟩ => by
    obtain ⟨sl, q⟩ := u.any ho n (by simp)
    exact ⟨_, q, hd⟩
  refine ⟨C.len, fun y c e => ?_, C.inj, fun i y e => ?_⟩
  · obtain ⟨n, v, hv⟩ := C.all y c e
    refine ⟨?_, v, cell n hv⟩
    obtain ⟨o, ho, _⟩ := hv
    exact u.free c o ho n (by simp)
  · obtain ⟨c, e1, h1⟩ := C.has i y e
    refine ⟨c, e1, fun v hv => ?_⟩
    obtain ⟨w, r, hc⟩ := h1 v hv
    exact ⟨w, r, cell (C.all y c e1).1 hc⟩
section
open NdefX
variable {X : Cx} {W : WX} {yes : List Str} {i : Nat} {su : Exc → Addr → Option Addr → MS}
end
end G

set_option Elab.async false
set_option linter.all false
set_option maxRecDepth 100000
set_option maxHeartbeats 4000000
namespace G
open PySem PySem.Spec PyProof.Rows L2
section
variable {X : Cx} {W : WX} {a b : Expr} {ma mb : ME} {p p' pos pos' : Pos}
end
end G

set_option Elab.async false
set_option linter.all false
set_option maxRecDepth 100000
set_option maxHeartbeats 4000000
namespace G
open PySem PySem.Spec PyProof.Rows L2
end G

set_option Elab.async false
set_option linter.all false
set_option maxRecDepth 100000
set_option maxHeartbeats 4000000
namespace G
open PySem PySem.Spec PyProof.Rows L2
section
variable {B B1 : Sto} {cs cs1 : List (Nat × Cell)} {ρ : Ev} {n b : MS} {m : ME} {ms : MA} {P : Fl → Sto → Prop} {e : XE} {t : MG}
end
end G

set_option Elab.async false
set_option linter.all false
set_option maxRecDepth 100000
set_option maxHeartbeats 4000000
namespace G
open PySem PySem.Spec PyProof.Rows L2
def putV (f : Str) (v : Val) : List (Str × Val) → List (Str × Val)
  | [] => [(f, v)]
  | (g, x) :: r => if g = f then (g, v) :: r else (g, x) :: putV f v r
section
variable {K : PySem.W.Frag} {mg : Str → Option Value} {F H : Hp} {μ : List Addr} {S : Sto} {cn : Str} {v : Val} {w : V} {fs : List (Str × Val)} {gs : List (Str × V)}
theorem RepF.none : ∀ {fs : List (Str × Val)} {gs : List (Str × V)} {f : Str}, RepF K F μ fs gs → fs.lookup f = none → gs.lookup f = none
  | [], gs, f, ⟨h1, _⟩, _ => by
    cases gs with
    | nil => rfl
    | cons g gs => cases h1
  | (a, x) :: fs, gs, f, ⟨h1, h2⟩, e => by
    cases gs with
    | nil => cases h1
    | cons g gs =>
      obtain ⟨b, y⟩ := g
      obtain ⟨e1, e2⟩ := List.cons.inj h1
      dsimp only at e1
      subst e1
      cases h2 with
      | cons r t =>
        cases hb : (f == a) with
        | true =>
          simp only [List.lookup, hb] at e
          cases e
        | false =>
          simp only [List.lookup, hb] at e ⊢
          exact RepF.none ⟨e2, t⟩ e
theorem RepF.get : ∀ {fs : List (Str × Val)} {gs : List (Str × V)} {f : Str} {x : Val}, RepF K F μ fs gs → fs.lookup f = some x → ∃ y, gs.lookup f = some y ∧ RepV K F μ x y
  | [], gs, f, x, _, e => by cases e
  | (a, x) :: fs, gs, f, z, ⟨h1, h2⟩, e => by
    cases gs with
    | nil => cases h1
    | cons g gs =>
      obtain ⟨b, y⟩ := g
      obtain ⟨e1, e2⟩ := List.cons.inj h1
      dsimp only at e1
      subst e1
      cases h2 with
      | cons r t =>
        cases hb : (f == a) with
        | true =>
          simp only [List.lookup, hb] at e ⊢
          cases e
          exact ⟨y, rfl, r⟩
        | false =>
          simp only [List.lookup, hb] at e ⊢
          exact RepF.get ⟨e2, t⟩ e
theorem RepF.put {f : Str} {x : Val} {y : V} (r : RepV K F μ x y) : ∀ {fs : List (Str × Val)} {gs : List (Str × V)}, RepF K F μ fs gs → RepF K F μ (putV f x fs) (putF f y gs)
  | [], gs, ⟨h1, _⟩ => by
    cases gs with
    | nil => exact ⟨rfl, .cons r .nil⟩
    | cons g gs => cases h1
  | (a, z) :: fs, gs, ⟨h1, h2⟩ => by
    cases gs with
    | nil => cases h1
    | cons g gs =>
      obtain ⟨b, u⟩ := g
      obtain ⟨e1, e2⟩ := List.cons.inj h1
      dsimp only at e1
      subst e1
      cases h2 with
      | cons r1 t =>
        unfold putV putF
        by_cases c : a = f
        · rw [if_pos c, if_pos c]
          exact ⟨congrArg _ e2, .cons r t⟩
        · rw [if_neg c, if_neg c]
          obtain ⟨q1, q2⟩ := RepF.put r ⟨e2, t⟩
          exact ⟨congrArg _ q1, .cons r1 q2⟩
theorem RepF.len {fs : List (Str × Val)} {gs : List (Str × V)} (h : RepF K F μ fs gs) : fs.length = gs.length := by
  have := congrArg List.length h.1
  rwa [List.length_map, List.length_map] at this
end
section
variable {X : Cx} {W : WX} {e o : Expr} {m mo mv : ME} {cn f : Str} {C : Addr} {pos : Pos}
end
section
variable {X : Cx} {W : WX} {CX : CXT} {k : Nat} {f C : Addr} {fd : FuncData} {ps : List Str} {F : Fn} {x m cn : Str} {p pos apos : Pos} {e o : Expr} {es : List Expr} {ms : MA} {mo : ME} {dvs : List V} {ds : List Value} {dd : List Val}
end
end G

set_option Elab.async false
set_option linter.all false
set_option maxRecDepth 100000
set_option maxHeartbeats 4000000
namespace G
open PySem PySem.Spec PyProof.Rows L2
section
variable {B B0 B1 B2 B' : Sto} {cs cs0 cs1 cs2 cs' : List (Nat × Cell)} {ρ : Ev} {n : MS} {mo mv : ME} {ms : MA} {P : Fl → Sto → Prop} {k : Nat} {cn f m : Str} {fs fs' : List (Str × Val)} {v : Val} {xs : List Val}
end
structure Rcd where
  states : List VV
  kept : List VV
  busy : Bool
def Rcd.fs (r : Rcd) : List (Str × Val) := [("states", eT eV r.states), ("kept", eT eV r.kept), ("is_busy", eB r.busy)]
def Rcd.cell (r : Rcd) : Cell := .ins "Recorder" r.fs
theorem Rcd.nc (r : Rcd) : ncC r.cell = true := by
  have h : ∀ xs : List VV, G.nc (eT eV xs) = true := fun xs => NC.nc xs
  simp [Rcd.cell, Rcd.fs, ncC, ncL, h, eB, G.nc]
theorem Rcd.len (r : Rcd) : r.fs.length < 1000 := by simp [Rcd.fs]
section
variable {B B0 B1 B2 B' : Sto} {cs cs0 cs1 cs2 cs' : List (Nat × Cell)} {ρ : Ev} {n : MS} {mo mv : ME} {ms : MA} {P : Fl → Sto → Prop} {k : Nat} {f m : Str} {v : Val} {xs : List Val} {r r' : Rcd}
end
end G

set_option Elab.async false
set_option linter.all false
set_option maxRecDepth 100000
set_option maxHeartbeats 4000000
namespace G
open PySem PySem.Spec PyProof.Rows L2
section
open NdefX
variable {X : Cx} {W : WX} {yes : List Str} {i : Nat} {su : Exc → Addr → Option Addr → MS}
end
end G

set_option Elab.async false
set_option linter.all false
set_option maxRecDepth 100000
set_option maxHeartbeats 4000000
namespace G
open PySem PySem.Spec PyProof.Rows L2
section
variable {P : Program} {w : World} {K : PySem.W.Frag} {mg : Str → Option Value} {base : Heap}
end
end G

set_option Elab.async false
set_option linter.all false
set_option maxRecDepth 100000
set_option maxHeartbeats 4000000
namespace G
open PySem PySem.Spec PyProof.Rows L2
section
variable {B B0 B1 B2 B3 B' : Sto} {cs cs0 cs1 cs2 cs3 cs' : List (Nat × Cell)} {ρ : Ev} {n : MS} {m m1 m2 mo mv : ME} {ms : MA} {P : Fl → Sto → Prop} {k : Nat} {f : Str} {v : Val} {xs vs : List Val} {r r' : Rcd} {e : XE}
theorem St.stack {S S1 : Sto} (h : St B S cs) (g : St S S1 cs1) (hn : ∀ p ∈ cs1, S.length ≤ p.1) : St B S1 (cs1 ++ cs) := by
  refine ⟨h.pre.trans g.pre, ?_, fun p hp => ?_, g.nc, h.cb⟩
  · rw [List.map_append, List.nodup_append]
    refine ⟨g.nd, h.nd, fun a ha b hb e => ?_⟩
    subst e
    obtain ⟨p, hp, rfl⟩ := List.mem_map.mp ha
    obtain ⟨q, hq, e⟩ := List.mem_map.mp hb
    have h1 := hn p hp
    have h2 := (List.getElem?_eq_some_iff.mp (h.get q hq)).1
    omega
  · rcases List.mem_append.mp hp with q | q
    · exact g.get p q
    · exact prefix_get g.pre (h.get p q)
end
end G

set_option Elab.async false
set_option linter.all false
set_option maxRecDepth 100000
set_option maxHeartbeats 4000000
namespace G
open PySem PySem.Spec PyProof.Rows L2
end G

set_option Elab.async false
set_option linter.all false
set_option maxRecDepth 100000
set_option maxHeartbeats 4000000
namespace G
open PySem PySem.Spec PyProof.Rows L2
section
open AutoSeq1 (wpAny_loadPart')
end
end G

set_option Elab.async false
set_option linter.all false
set_option maxRecDepth 100000
set_option maxHeartbeats 4000000
namespace G
open PySem PySem.Spec PyProof.Rows L2
section
variable {B B1 : Sto} {cs cs1 : List (Nat × Cell)} {ρ : Ev} {n : MS} {mk : ME} {ml : ME} {P : Fl → Sto → Prop}
end
end G

set_option Elab.async false
set_option linter.all false
set_option maxRecDepth 100000
set_option maxHeartbeats 4000000
namespace G
open PySem PySem.Spec PyProof.Rows L2
end G

set_option Elab.async false
set_option linter.all false
set_option maxRecDepth 100000
set_option maxHeartbeats 4000000
namespace G
open PySem PySem.Spec PyProof.Rows L2
end G

set_option Elab.async false
set_option linter.all false
set_option maxRecDepth 100000
set_option maxHeartbeats 4000000
namespace G
open PySem PySem.Spec PyProof.Rows L2
section
variable {X : Cx}
end
section
variable {prog : Program} {w : World} {A : Around} {E : Value → Shared → Prop} {s : Shared} {q kS a l : Addr} {vs : List Value} {kz : List Int} {keys : Array Value} {e e1 : Nat} {P : PySem.Fin → Shared → Prop} {Gd : Obj → Obj → Shared → Prop} {Q : Value → Shared → Prop}
end
section
open NdefX
variable {X : Cx} {pins : List (Addr × Obj)} {σ : L2.St} {H : Hp} {s : Shared}
end
end G

set_option Elab.async false
set_option linter.all false
set_option maxRecDepth 100000
set_option maxHeartbeats 4000000
namespace G
open PySem PySem.Spec PyProof.Rows L2
def stpL {α : Type} (d : Nat) (xs : List α) : List α := (List.range ((xs.length + d - 1) / d)).filterMap fun k => xs[d * k]?
theorem RepL.stp {K : PySem.W.Frag} {F : Hp} {μ : List Addr} {xs : List Val} {vs : List V} (r : RepL K F μ xs vs) (d : Nat) : RepL K F μ (stpL d xs) (stpL d vs) := by
  unfold stpL
  rw [r.length]
  generalize List.range _ = ks
  induction ks with
  | nil => exact .nil
  | cons k ks ih =>
    rw [List.filterMap_cons, List.filterMap_cons]
    cases e : xs[d * k]? with
    | none =>
      cases ev : vs[d * k]? with
      | none => exact ih
      | some v =>
        obtain ⟨x, ex, _⟩ := RepL.getV r ev
        rw [e] at ex
        cases ex
    | some x =>
      obtain ⟨u, eu, ru⟩ := RepL.get r e
      rw [eu]
      exact .cons ru ih
section
variable {X : Cx} {W : WX}
end
end G

set_option Elab.async false
set_option linter.all false
set_option maxRecDepth 100000
set_option maxHeartbeats 4000000
namespace G
open PySem PySem.Spec PyProof.Rows L2
end G

set_option Elab.async false
set_option linter.all false
set_option maxRecDepth 100000
set_option maxHeartbeats 4000000
namespace G
open PySem PySem.Spec PyProof.Rows L2
end G

set_option Elab.async false
set_option linter.all false
set_option maxRecDepth 100000
set_option maxHeartbeats 4000000
namespace G
open PySem PySem.Spec PyProof.Rows L2
end G

set_option Elab.async false
set_option linter.all false
set_option maxRecDepth 100000
set_option maxHeartbeats 4000000
namespace G
open PySem PySem.Spec PyProof.Rows L2
section
variable {B B0 B1 B2 B' S : Sto} {cs cs0 cs1 cs2 cs' : List (Nat × Cell)} {ρ : Ev} {n : MS} {mo mv : ME} {ms : MA} {P : Fl → Sto → Prop} {k : Nat} {c c' : Cell} {cn f m : Str} {fs fs' : List (Str × Val)} {v : Val} {xs : List Val}
end
end G

set_option Elab.async false
set_option linter.all false
set_option maxRecDepth 100000
set_option maxHeartbeats 4000000
namespace G
open PySem PySem.Spec PyProof.Rows L2
end G

set_option Elab.async false
set_option linter.all false
set_option maxRecDepth 100000
set_option maxHeartbeats 4000000
namespace G
open PySem PySem.Spec PyProof.Rows L2
structure Thk where
  params : Arguments
  body : Expr
  scope : Scope
  fr : List Str
  js : List Nat
  mE : ME
def lamO (f : Addr) (o : Obj) : HO := .ext fun h => h.get? f = some o
def ThkO (X : Cx) (t : Thk) (f c' : Addr) (pm ctv : Value) : HO := lamO f (PySem.W.kla_obj "<lambda>" (X.env.qual ++ "<lambda>") t.params t.body t.scope (cloFrom X.env.cells t.scope.names []) pm c' ctv)
def Held (X : Cx) (t : Thk) (F : Hp) (f : Addr) : Prop := ∃ c' pm ctv, F f = some (ThkO X t f c' pm ctv) ∧ F c' = some (LamX.CodeO c' (X.env.qual ++ "<lambda>"))
theorem Held.same {X : Cx} {t : Thk} {F F' : Hp} {f : Addr} (e : Same F F') (h : Held X t F f) : Held X t F' f := by
  obtain ⟨c', pm, ctv, h1, h2⟩ := h
  exact ⟨c', pm, ctv, e _ _ h1, e _ _ h2⟩
inductive HeldT (X : Cx) (F : Hp) : List Thk → List Addr → Prop
  | nil : HeldT X F [] []
  | cons {t : Thk} {ts : List Thk} {f : Addr} {fs : List Addr} : Held X t F f → HeldT X F ts fs → HeldT X F (t :: ts) (f :: fs)
theorem HeldT.same {X : Cx} {F F' : Hp} (e : Same F F') : ∀ {ts : List Thk} {fs : List Addr}, HeldT X F ts fs → HeldT X F' ts fs
  | _, _, .nil => .nil
  | _, _, .cons h t => .cons (h.same e) (t.same e)
theorem HeldT.snoc {X : Cx} {F : Hp} {t : Thk} {f : Addr} (h : Held X t F f) : ∀ {ts : List Thk} {fs : List Addr}, HeldT X F ts fs → HeldT X F (ts ++ [t]) (fs ++ [f])
  | _, _, .nil => .cons h .nil
  | _, _, .cons q r => .cons q (r.snoc h)
theorem HeldT.len {X : Cx} {F : Hp} : ∀ {ts : List Thk} {fs : List Addr}, HeldT X F ts fs → ts.length = fs.length
  | _, _, .nil => rfl
  | _, _, .cons _ r => congrArg (· + 1) r.len
theorem HeldT.get {X : Cx} {F : Hp} : ∀ {ts : List Thk} {fs : List Addr}, HeldT X F ts fs → ∀ {i : Nat} {t : Thk}, ts[i]? = some t → ∃ f, fs[i]? = some f ∧ Held X t F f
  | _, _, .nil, i, t, e => by simp at e
  | _, _, .cons q r, 0, t, e => by simp at e; subst e; exact ⟨_, rfl, q⟩
  | _, _, .cons q r, i + 1, t, e => by
    obtain ⟨f, h1, h2⟩ := r.get (i := i) (t := t) (by simpa using e)
    exact ⟨f, by simpa using h1, h2⟩
theorem RepE.wipe {K : PySem.W.Frag} {F : Hp} {μ : List Addr} {ρ : Ev} {σ : L2.St} (h : RepE K F μ ρ σ) (vs : List Nat) : RepE K F μ (wipeE ρ vs) σ := by
  induction vs with
  | nil => exact h
  | cons v vs ih =>
    refine ih.less ⟨by simp [wipeE], fun i x q => ?_⟩
    unfold wipeE at q
    by_cases hj : v = i
    · subst hj
      by_cases hi : v < (wipeE ρ vs).length
      · rw [List.getElem?_set_self hi] at q; cases q
      · rw [List.getElem?_eq_none (by simpa using hi)] at q; cases q
    · rw [List.getElem?_set_ne hj] at q; exact q
section
variable {X : Cx} {pins : List (Addr × Obj)} {σ : L2.St} {H F : Hp} {μ : List Addr} {S : Sto} {s : Shared}
end
section
open NdefX
variable {X : Cx} {W : WX} {yes : List Str} {i : Nat} {su : Exc → Addr → Option Addr → MS}
variable (X) (W) in
section
variable {FR : Res Val → Fn} {it ic iv : Nat} {b n : MS} {all done : List Thk} {rest : List Stmt} {calls : Str} {nm : Str} {c P : Addr} {k : Nat}
end
end
end G

set_option Elab.async false
set_option linter.all false
set_option maxRecDepth 100000
set_option maxHeartbeats 4000000
namespace PySem.SeqAt
open PySem PyProof.Rows
open PySem.Sem (wp)
section
variable {A : Around} {s : Shared}
end
end PySem.SeqAt
namespace G
open PySem PySem.Spec PyProof.Rows L2
end G

set_option Elab.async false
set_option linter.all false
set_option maxRecDepth 100000
set_option maxHeartbeats 4000000
namespace G
open PySem PySem.Spec PyProof.Rows L2
end G

set_option Elab.async false
set_option linter.all false
set_option maxRecDepth 100000
set_option maxHeartbeats 4000000
namespace G
open PySem PySem.Spec PyProof.Rows L2
class NK {α : Type} (e : α → Val) (d : outParam Nat) where
  nk : α → NestedKey
  eq : ∀ x, nkO (e x) = some (nk x)
  inj : ∀ x y, nk x = nk y → x = y
  dep : ∀ x, (nk x).depth ≤ d
instance : NK eI 0 where
  nk := .num
  eq := fun x => rfl
  inj := fun x y h => by cases h; rfl
  dep := fun x => by simp [NestedKey.depth]
theorem nkOs_map {α : Type} {e : α → Val} {d : Nat} [NK e d] : ∀ xs : List α, nkOs (xs.map e) = some (xs.map (NK.nk e))
  | [] => rfl
  | x :: xs => by rw [List.map_cons, nkOs, NK.eq x, nkOs_map xs]; rfl
theorem depA_map {α : Type} {e : α → Val} {d : Nat} [NK e d] : ∀ xs : List α, NestedKey.depthAll (xs.map (NK.nk e)) ≤ d
  | [] => by simp [NestedKey.depthAll]
  | x :: xs => by
    have h1 := NK.dep (e := e) x
    have h2 := depA_map (e := e) xs
    rw [List.map_cons, NestedKey.depthAll]
    omega
instance {α : Type} {e : α → Val} {d : Nat} [NK e d] : NK (eT e) (d + 1) where
  nk := fun xs => .tup (xs.map (NK.nk e))
  eq := fun xs => by unfold eT; rw [nkO, nkOs_map]; rfl
  inj := fun x y h => by
    injection h with h
    exact (List.map_inj_right (f := NK.nk e) fun a b q => NK.inj (e := e) a b q).mp h
  dep := fun xs => by
    have := depA_map (e := e) xs
    rw [NestedKey.depth]
    omega
instance {α β : Type} {e : α → Val} {f : β → Val} {d d' : Nat} [NK e d] [NK f d'] : NK (eP e f) (max d d' + 1) where
  nk := fun p => .tup [NK.nk e p.1, NK.nk f p.2]
  eq := fun p => by unfold eP; simp [nkO, nkOs, NK.eq]
  inj := fun x y h => by
    injection h with h
    injection h with h1 h
    injection h with h2 h
    exact Prod.ext (NK.inj (e := e) _ _ h1) (NK.inj (e := f) _ _ h2)
  dep := fun p => by
    have h1 := NK.dep (e := e) p.1
    have h2 := NK.dep (e := f) p.2
    simp only [NestedKey.depth, NestedKey.depthAll]
    omega
instance {α β γ : Type} {e : α → Val} {f : β → Val} {g : γ → Val} {d d' d2 : Nat} [NK e d] [NK f d'] [NK g d2] : NK (eQ e f g) (max d (max d' d2) + 1) where
  nk := fun p => .tup [NK.nk e p.1, NK.nk f p.2.1, NK.nk g p.2.2]
  eq := fun p => by unfold eQ; simp [nkO, nkOs, NK.eq]
  inj := fun x y h => by
    injection h with h
    injection h with h1 h
    injection h with h2 h
    injection h with h3 h
    exact Prod.ext (NK.inj (e := e) _ _ h1) (Prod.ext (NK.inj (e := f) _ _ h2) (NK.inj (e := g) _ _ h3))
  dep := fun p => by
    have h1 := NK.dep (e := e) p.1
    have h2 := NK.dep (e := f) p.2.1
    have h3 := NK.dep (e := g) p.2.2
    simp only [NestedKey.depth, NestedKey.depthAll]
    omega
class NKT {α : Type} (e : α → Val) (d : outParam Nat) extends NK e d where
  tup : ∀ x, ∃ xs, e x = .tup xs
instance {α : Type} {e : α → Val} {d : Nat} [NK e d] : NKT (eT e) (d + 1) where
  tup := fun x => ⟨_, rfl⟩
instance {α β : Type} {e : α → Val} {f : β → Val} {d d' : Nat} [NK e d] [NK f d'] : NKT (eP e f) (max d d' + 1) where
  tup := fun x => ⟨_, rfl⟩
instance {α β γ : Type} {e : α → Val} {f : β → Val} {g : γ → Val} {d d' d2 : Nat} [NK e d] [NK f d'] [NK g d2] : NKT (eQ e f g) (max d (max d' d2) + 1) where
  tup := fun x => ⟨_, rfl⟩
section
variable {α β : Type} [DecidableEq α] {ek : α → Val} {en : β → Val} {d : Nat} [NKT ek d]
end
section
variable {α β : Type} [DecidableEq α] {ek : α → Val} {en : β → Val} {d : Nat} [NKT ek d] [NC en] {B B1 B2 S0 : Sto} {cs cs1 cs2 cs' : List (Nat × Cell)} {ρ : Ev} {mk mv : ME} {ms : MA} {n : MS} {P : Fl → Sto → Prop} {i : Nat} {k : Nat} {xs zs : List (α × β)}
end
end G

set_option Elab.async false
set_option linter.all false
set_option maxRecDepth 100000
set_option maxHeartbeats 4000000
namespace G
open PySem PySem.Spec PyProof.Rows L2
section
variable {X : Cx} {W : WX} {CX : CXT} {k : Nat} {f C : Addr} {fd : FuncData} {ps : List Str} {F : Fn} {m cn : Str} {pos apos : Pos} {e o : Expr} {mo : ME}
end
end G

set_option Elab.async false
set_option linter.all false
set_option maxRecDepth 100000
set_option maxHeartbeats 4000000
namespace G
open PySem PySem.Spec PyProof.Rows L2
def TurnE (X : Cx) (tg : Expr) (J : It) (fp : List Addr) (it : Addr) (tn : Nat → Heap → Prop) : Prop :=
  (L2.Turn X.prog X.w X.K tg J fp it tn ∧ X.calm = true) ∨ (L2H.TurnH X.prog X.w X.K tg J fp it tn ∧ L2H.HotC X)
section
variable {X : Cx} {tg : Expr} {J : It} {fp : List Addr} {it : Addr} {tn : Nat → Heap → Prop}
theorem TurnE.obj (T : TurnE X tg J fp it tn) {i : Nat} {h : Heap} (t : tn i h) : ∀ b ∈ fp, ∃ o, h.get? b = some o ∧ ∀ v, o.data ≠ .cell v := T.elim (fun q => q.1.obj i h t) fun q => q.1.obj i h t
theorem TurnE.keep (T : TurnE X tg J fp it tn) {i : Nat} {h h' : Heap} (t : tn i h) (k : ∀ b ∈ fp, ∀ o, h.get? b = some o → h'.get? b = some o) : tn i h' := T.elim (fun q => q.1.keep i h h' t k) fun q => q.1.keep i h h' t k
theorem TurnE.self (T : TurnE X tg J fp it tn) {A : Around} {i : Nat} {s : Shared} {Q E : Value → Shared → Prop} (t : tn i s.heap) (q : Q (.ref it) s) : wpAny (model X.prog X.w) A (pyIter (.ref it)) Q E s :=
  T.elim (fun z => z.1.self A i s Q E t q) fun z => z.1.self A i s Q E t q
theorem TurnE.done (T : TurnE X tg J fp it tn) {i : Nat} {pins : List (Addr × Obj)} {s : Shared} {σ : L2.St} {H : Hp} {E : Value → Shared → Prop} (I : Inv X pins σ H s) (f : ∀ b ∈ fp, FpOk X pins H b) (t : tn i s.heap) (q : J.stop i H) :
    wpAny (model X.prog X.w) X.A (pyNext (.ref it)) (fun r s1 => r = none ∧ Inv X pins σ H s1) E s :=
  T.elim (fun z => z.1.done X rfl rfl rfl z.2 i pins s σ H E I f t q) fun z => z.1.done X rfl rfl rfl z.2 i pins s σ H E I f t q
theorem TurnE.item (T : TurnE X tg J fp it tn) {i : Nat} {pins : List (Addr × Obj)} {s : Shared} {σ : L2.St} {H : Hp} {E : Value → Shared → Prop} (I : Inv X pins σ H s) (f : ∀ b ∈ fp, FpOk X pins H b) (t : tn i s.heap) (q : J.go i H) :
    wpAny (model X.prog X.w) X.A (pyNext (.ref it)) (fun r s1 => ∃ u, r = some u ∧
      wpAny (model X.prog X.w) X.A (letOwnedTupleGo tg (.ref it) u) (fun _ s2 => ∃ x H', Inv X pins σ H' s2 ∧ RelV x u ∧ J.yld i H x H' ∧ tn (i + 1) s2.heap ∧ ∀ b ∈ fp, H' b = none) E s1) E s :=
  T.elim (fun z => z.1.item X rfl rfl rfl z.2 i pins s σ H E I f t q) fun z => z.1.item X rfl rfl rfl z.2 i pins s σ H E I f t q
end
abbrev bkP (X : Cx) (s : Shared) (H : Hp) (scope : Scope) (ce : Env) (fp : List Addr) : Cx := { X.blk s H scope ce fp with pn := X.pn }
section
variable {X : Cx} {pins : List (Addr × Obj)} {σ : L2.St} {H : Hp} {s : Shared}
theorem TurnE.blk {tg : Expr} {J : It} {fp : List Addr} {it : Addr} {tn : Nat → Heap → Prop} (T : TurnE X tg J fp it tn) {scope : Scope} {ce : Env} {fp' : List Addr} : TurnE (bkP X s H scope ce fp') tg J fp it tn := T
variable {elt tg iter : Expr} {ifs : List Expr} {scope : Scope} {own : List (Str × Nat)} {pos : Pos} {wi : TI} {g : TG} {tt : TT} {te : TE}
end
end G

set_option Elab.async false
set_option linter.all false
set_option maxRecDepth 100000
set_option maxHeartbeats 4000000
namespace G
open PySem PySem.Spec PyProof.Rows L2
theorem wipe_out {σ : L2.St} {j : Nat} : ∀ {vs : List Nat}, j ∉ vs → (wipe σ vs)[j]? = σ[j]?
  | [], _ => rfl
  | v :: vs, h => by
    rw [List.mem_cons, not_or] at h
    unfold wipe
    rw [List.getElem?_set_ne (fun z => h.1 z.symm)]
    exact wipe_out h.2
section
open NdefX
variable {X : Cx} {W : WX} {yes : List Str} {i : Nat} {su : Exc → Addr → Option Addr → MS} {scope : Scope} {ce : Env} {fp : List Addr}
end
end G

set_option Elab.async false
set_option linter.all false
set_option maxRecDepth 100000
set_option maxHeartbeats 4000000
namespace G
open PySem PySem.Spec PyProof.Rows L2
section
variable {X : Cx} {W : WX} {FR : Res Val → Fn} {ic iv : Nat} {vs : List Nat} {m : ME} {all done : List Thk} {rest : List Stmt} {calls : Str} {nm : Str} {c P : Addr} {k : Nat}
variable (X) (W) in
end
end G

set_option Elab.async false
set_option linter.all false
set_option maxRecDepth 100000
set_option maxHeartbeats 4000000
namespace G
open PySem PySem.Spec PyProof.Rows L2
section
variable {B B1 B2 B' : Sto} {cs cs1 cs2 cs' : List (Nat × Cell)} {FR : Res Val → Fn} {rhs mE : ME} {js vs : List Nat} {ts : List (List Nat × ME)} {ρ ρ' : Ev} {b c : Bool}
end
section
variable {B B1 B2 : Sto} {cs cs1 cs2 : List (Nat × Cell)} {ρ : Ev} {ms : MA} {n : MS} {P : Fl → Sto → Prop} {xs : List Val}
end
end G

set_option Elab.async false
set_option linter.all false
set_option maxRecDepth 100000
set_option maxHeartbeats 4000000
namespace G
open PySem PySem.Spec PyProof.Rows L2
section
variable {X : Cx} {W : WX} {o i x : Expr} {mo mi mx : ME} {apos cpos : Pos}
end
end G

set_option Elab.async false
set_option linter.all false
set_option maxRecDepth 100000
set_option maxHeartbeats 4000000
namespace G
open PySem PySem.Spec PyProof.Rows L2
section
variable {α β : Type} [DecidableEq α] {ek : α → Val} {en : β → Val} {d : Nat} [NKT ek d] {B B1 B2 B3 : Sto} {cs cs1 cs2 cs3 : List (Nat × Cell)} {ρ : Ev} {mo mi mx : ME} {k : Nat} {xs zs : List (α × β)}
end
end G

set_option Elab.async false
set_option linter.all false
set_option maxRecDepth 100000
set_option maxHeartbeats 4000000
namespace G
open PySem PySem.Spec PyProof.Rows L2
end G

set_option Elab.async false
set_option linter.all false
set_option maxRecDepth 100000
set_option maxHeartbeats 4000000
namespace G
open PySem PySem.Spec PyProof.Rows L2
section
variable {B B1 B2 : Sto} {cs cs1 cs2 : List (Nat × Cell)} {ρ : Ev} {m : ME} {ms : MA} {v : Val} {vs : List Val}
end
end G

set_option Elab.async false
set_option linter.all false
set_option maxRecDepth 100000
set_option maxHeartbeats 4000000
namespace G
open PySem PySem.Spec PyProof.Rows L2
section
variable {X : Cx} {pins : List (Addr × Obj)} {σ : L2.St} {H : Hp} {sI s' : Shared} {a : Addr} {o : HO}
theorem inv_adoptE (I : Inv X pins σ H sI) (k : ∀ b o, sI.heap.get? b = some o → s'.heap.get? b = some o) (hn : sI.heap.get? a = none) (na : H a = none) (os : s'.os = sI.os) (bare : AllBare s'.gens)
    (new : ObjOk X.prog X.w (upd H a o) s'.heap a o) : Inv X pins σ (upd H a o) s' := by
  obtain ⟨hp, g, dr, tk, os'⟩ := s'
  obtain rfl : os' = sI.os := os
  have ne : ∀ b u, sI.heap.get? b = some u → b ≠ a := fun b u e z => by rw [z, hn] at e; cases e
  have neH : ∀ b u, H b = some u → b ≠ a := fun b u e => ne_of_none e na
  refine I.step (g' := g) (d' := dr) (t' := tk) (ch := []) (fun b z => by cases z) (fun b u _ _ _ e _ => k b u e) (fun b u _ _ _ e _ => ⟨u.slots, k b u e⟩) (fun b u _ e n => by rw [upd_ne (ne b u e)]; exact n)
    (fun b u _ e => ⟨u, k b u e⟩) (fun b xs e => by rw [upd_ne (neH b _ e)]; exact e) (fun b u v e => by rw [upd_ne (neH b _ e)]; exact e) (fun b ps e => ⟨#[], by rw [upd_ne (neH b _ e), e]; simp⟩) (fun m hm => ?_) (fun b u e => ?_) bare
  · obtain ⟨u, es, ep, hu, r⟩ := hm
    exact ⟨u, es, ep, k _ u hu, r⟩
  · by_cases hb : b = a
    · subst hb; rw [upd_same] at e; cases e; exact new
    · rw [upd_ne hb] at e
      exact (I.hok b u e).stay (fun c v _ q => k c v q) (fun c q => by rw [upd_ne (neH c _ q)]; exact q) fun c xs q => by rw [upd_ne (neH c _ q)]; exact q
theorem erO_ok {H' : Hp} {h : Heap} {C : Addr} {d : Option Addr} {oe : Obj} {vs : Array Value} (ha : h.get? a = some oe) (hz : Zc (.ref C) d oe) (hd : oe.data = .fields vs) : ObjOk X.prog X.w H' h a (ErO a C d) :=
  ⟨⟨oe, vs, ha, hz.1, hz.2, hd⟩, ⟨oe, ha⟩, fun h1 h2 ⟨u, ws, e, r⟩ k => ⟨u, ws, k u e, r⟩⟩
end
def mMk1 (c f : Str) (m : ME) : ME := fun ρ S => bnd (m ρ S) fun v S1 => some (.ok (.ex1 c f v) S1)
def mMk0 (c : Str) : ME := fun _ S => some (.ok (.ex0 c) S)
section
variable {X : Cx} {W : WX} {cn f : Str} {C : Addr} {a e : Expr} {ma m : ME} {p pos : Pos}
theorem mk_adopt {pins : List (Addr × Obj)} {σ : L2.St} {Q : VK} {u : Value} {s' : Shared} {R : XK} (hm : MkP X pins σ R u s') (h : ∀ cls d H', R cls d H' → ∃ C, cls = .ref C ∧ ∀ a, H' a = none → Q (.ref a) (upd H' a (ErO a C d))) :
    ∃ v H', Inv X pins σ H' s' ∧ RelV v u ∧ Q v H' := by
  obtain ⟨a, oe, vs, sI, H', cls, d, rfl, I, k, hne, ha, hz, hd, h1, na, os, bare, _, q⟩ := hm
  obtain ⟨C, rfl, q'⟩ := h _ _ _ q
  exact ⟨.ref a, upd H' a (ErO a C d), inv_adoptE I k hne na os bare (erO_ok ha hz hd), rfl, q' a na⟩
theorem ge_mk1 (nC : PySem.W.nsIn X.K mainGlobals cn = some (some (.ref C))) (hp : PMk X (.Call (.Name cn p) [a] [] pos) (tMkF C f (tCons (tM X.K X.mg W ma) tNil))) :
    GE X W (.Call (.Name cn p) [a] [] pos) (mMk1 cn f ma) := ⟨fun pins s σ H Q I h => by
  obtain ⟨ρ, F, μ, S, hS, hE, hP⟩ := h
  refine wpAny_mono (hp pins s σ H (fun cls d H' => ∃ C', cls = .ref C' ∧ ∀ a, H' a = none → Q (.ref a) (upd H' a (ErO a C' d))) I ?_) (fun u s' hm => mk_adopt hm fun _ _ _ q => q) fun _ _ x => x
  refine bind_tM hS hE hP.bind fun F1 μ1 S1 v w H1 e1 s1 q1 r1 p1 => ⟨w, rfl, fun d hd => ⟨C, rfl, fun a ha => ?_⟩⟩
  have x2 : Xt F1 H1 μ1 (upd F1 d (.xd [(f, w)])) (upd H1 d (.xd [(f, w)])) μ1 := Xt.new (s1.nF hd) hd
  have s2 := s1.alloc (.xd [(f, w)]) hd
  have x3 := Xt.new (o := ErO a C (some d)) (μ := μ1) (s2.nF ha) ha
  have hne : d ≠ a := ne_of_none (upd_same : upd H1 d (.xd [(f, w)]) d = _) ha
  exact p1 _ _ _ (x2.trans x3) (s2.alloc _ ha) (.ref a) (.ex1 nC upd_same (by rw [upd_ne hne]; exact upd_same) (r1.mono (x2.trans x3).toExt))⟩
theorem ge_mk0 (nC : PySem.W.nsIn X.K mainGlobals cn = some (some (.ref C))) (hp : PMk X (.Call (.Name cn p) [] [] pos) (fun _ H Q => Q (.ref C) none H)) :
    GE X W (.Call (.Name cn p) [] [] pos) (mMk0 cn) := ⟨fun pins s σ H Q I h => by
  obtain ⟨ρ, F, μ, S, hS, hE, hP⟩ := h
  refine wpAny_mono (hp pins s σ H (fun cls d H' => ∃ C', cls = .ref C' ∧ ∀ a, H' a = none → Q (.ref a) (upd H' a (ErO a C' d))) I ?_) (fun u s' hm => mk_adopt hm fun _ _ _ q => q) fun _ _ x => x
  refine ⟨C, rfl, fun a ha => ?_⟩
  have x3 := Xt.new (o := ErO a C none) (μ := μ) (hS.nF ha) ha
  exact hP _ _ _ x3 (hS.alloc _ ha) (.ref a) (.ex0 nC upd_same)⟩
def fldX (c f : Str) : Val → Option Val
  | .ex1 c' f' x => if c' = c ∧ f' = f then some x else none
  | _ => none
def mFldX (c f : Str) (m : ME) : ME := fun ρ S => bnd (m ρ S) fun v S1 => pur (fldX c f v) S1
theorem ge_fldX (nC : PySem.W.nsIn X.K mainGlobals cn = some (some (.ref C))) (E : ExI X.K C) (hdC : PySem.W.hasDictIn X.K C = true) (noN : PySem.W.findIn X.K (.ref C) f = some none) (he : GE X W e m)
    (hb : attributeBase e f X.env (eval e X.env) = eval e X.env := by rfl) : GE X W (.Attribute e f pos) (mFldX cn f m) := ⟨fun pins s σ H Q I h => by
  obtain ⟨ρ, F, μ, S, hS, hE, hP⟩ := h
  refine attr_of hb (thn (he.run pins s σ H (fun w H1 => ∃ (a dd : Addr) (v : V), w = .ref a ∧ H1 a = some (ErO a C (some dd)) ∧ H1 dd = some (.xd [(f, v)]) ∧ Q v H1) I ?_) fun u s1 hh => ?_)
  · refine bind_tM hS hE hP.bind fun F1 μ1 S1 v w H1 e1 s1 q1 r1 p1 => ?_
    obtain ⟨r, er, k⟩ := pur_post p1
    unfold fldX at er
    split at er
    · rename_i c' f' x
      split at er
      · rename_i hc
        obtain ⟨rfl, rfl⟩ := hc
        cases er
        cases r1 with
        | ex1 n h1 h2 r2 =>
          rename_i v' a dx C'
          rw [nC] at n
          cases n
          exact ⟨a, dx, v', rfl, s1.sub _ _ h1, s1.sub _ _ h2, k F1 H1 _ (Xt.refl _ _ _) s1 r2⟩
      · cases er
    · cases er
  · obtain ⟨x, H1, I1, rx, a, dd, v, rfl, h1, h2, q⟩ := hh
    obtain rfl : u = Value.ref a := rx
    obtain ⟨⟨oe, vs, g1, g2, g3, g4⟩, _⟩ := (show ObjOk X.prog X.w H1 s1.heap a (ErO a C (some dd)) from I1.hok a _ h1)
    have hx : ObjOk X.prog X.w H1 s1.heap dd (.xd [(f, v)]) := I1.hok dd _ h2
    obtain ⟨mA, hns, hr⟩ := hx
    obtain ⟨od, ho, hl⟩ := lookIn_ns hns
    have l : List.lookup f [(f, v)] = some v := by simp [List.lookup]
    obtain ⟨u, hu, ru⟩ := RelO.some_of (v := v) (o := mA f) (by rw [← l]; exact hr f)
    have J : PySem.W.InstAt s1.heap a oe C (some od) := ⟨g1, g2, by unfold PySem.W.notCls; rw [g4] <;> rfl, by rw [g3]; exact ho⟩
    exact HandSPX.exc_get I1.kIn J E.ga E.gg E.sub (PySem.W.findObj_own hdC noN rfl (by rw [hl, hu])) (handed_of ru) ⟨v, H1, I1.tok _, ru, q⟩⟩
end
abbrev excR : List Value := [.type "ValueError", .type "Exception", .type "BaseException", .type "object"]
structure ExC (K : PySem.W.Frag) (P : Addr) (c : Str) (C : Addr) : Prop where
  at_ : PySem.W.nsIn K mainGlobals c = some (some (.ref C))
  I : ExI K C
  ty : PySem.W.typeIn K (.ref C) = some (.type "type")
  mro : (PySem.W.clsIn K C).map (·.mro) = some (.ref C :: (if C = P then excR else .ref P :: excR))
structure ExL (K : PySem.W.Frag) (P : Addr) (L : List (Str × Addr)) : Prop where
  all : ∀ p ∈ L, ExC K P p.1 p.2
  nd : (L.map (·.2)).Nodup
  base : (("PairError" : Str), P) ∈ L
theorem exC_base {K : PySem.W.Frag} {P : Addr} {c : Str} (a : PySem.W.nsIn K mainGlobals c = some (some (.ref P))) (I : ExI K P) (ty : PySem.W.typeIn K (.ref P) = some (.type "type")) (mr : (PySem.W.clsIn K P).map (·.mro) = some (.ref P :: excR)) : ExC K P c P := ⟨a, I, ty, by rw [if_pos rfl]; exact mr⟩
theorem exC_of {K : PySem.W.Frag} {P C : Addr} {c : Str} (a : PySem.W.nsIn K mainGlobals c = some (some (.ref C))) (I : ExI K C) (ty : PySem.W.typeIn K (.ref C) = some (.type "type")) (mr : (PySem.W.clsIn K C).map (·.mro) = some (.ref C :: .ref P :: excR)) (ne : C ≠ P) : ExC K P c C := ⟨a, I, ty, by rw [if_neg ne]; exact mr⟩
theorem exl_nil {K : PySem.W.Frag} {P : Addr} : ∀ p ∈ ([] : List (Str × Addr)), ExC K P p.1 p.2 := fun _ h => by cases h
theorem exl_cons {K : PySem.W.Frag} {P : Addr} {c : Str} {C : Addr} {L : List (Str × Addr)} (h : ExC K P c C) (t : ∀ p ∈ L, ExC K P p.1 p.2) : ∀ p ∈ (c, C) :: L, ExC K P p.1 p.2 := fun p hp => by
  rcases List.mem_cons.mp hp with rfl | hp
  · exact h
  · exact t p hp
def isN (c D : Str) : Bool := c == D || D == "PairError" || D == "ValueError"
theorem ExL.uniq {K : PySem.W.Frag} {P : Addr} {L : List (Str × Addr)} (x : ExL K P L) {p q : Str × Addr} (hp : p ∈ L) (hq : q ∈ L) (e : p.2 = q.2) : p = q := by
  have h : ∀ (l : List (Str × Addr)), (l.map (·.2)).Nodup → p ∈ l → q ∈ l → p = q := by
    intro l
    induction l with
    | nil => intro _ h; cases h
    | cons r l ih =>
      intro nd h1 h2
      rw [List.map_cons] at nd
      obtain ⟨n1, n2⟩ := List.nodup_cons.mp nd
      rcases List.mem_cons.mp h1 with e1 | h1
      · rcases List.mem_cons.mp h2 with e2 | h2
        · rw [e1, e2]
        · exact absurd (List.mem_map.mpr ⟨q, h2, by rw [← e, e1]⟩) n1
      · rcases List.mem_cons.mp h2 with e2 | h2
        · exact absurd (List.mem_map.mpr ⟨p, h1, by rw [e, e2]⟩) n1
        · exact ih n2 h1 h2
  exact h L x.nd hp hq
theorem ExC.subIn {K : PySem.W.Frag} {P C : Addr} {c : Str} (x : ExC K P c C) (b : Value) : PySem.W.subIn K (.ref C) b = some ((.ref C :: (if C = P then excR else .ref P :: excR)).contains b) := by
  obtain ⟨cd, h1, h2⟩ := Option.map_eq_some_iff.mp x.mro
  show PySem.W.mroIn K C b = _
  unfold PySem.W.mroIn
  rw [h1, Option.bind_some, h2] <;> rfl
theorem ExL.kit {K : PySem.W.Frag} {P C CD : Addr} {L : List (Str × Addr)} (x : ExL K P L) {c D : Str} (h1 : (c, C) ∈ L) (h2 : (D, CD) ∈ L) (hD : D ≠ "ValueError") : PySem.W.kitOne K (.ref C) (.ref CD) = some (isN c D) := by
  unfold PySem.W.kitOne
  have hD' : (D == "ValueError") = false := by simpa using hD
  by_cases e : C = CD
  · subst e
    have := x.uniq h1 h2 rfl
    cases this
    simp [isN]
  · have hb : ((Value.ref C == Value.ref CD) = true) = False := by simpa using e
    rw [if_neg (by rw [hb]; exact id)]
    have X2 := x.all _ h2
    show (if _ then _ else _) = _
    rw [if_pos (by rw [X2.I.hcl, X2.ty]; rfl), (x.all _ h1).subIn]
    have ncD : c ≠ D := fun z => by
      subst z
      have n1 := (x.all _ h1).at_
      rw [X2.at_] at n1
      cases n1
      exact e rfl
    have k1 : (c == D) = false := by simpa using ncD
    have k2 : (Value.ref CD == Value.ref C) = false := by simpa using fun z : CD = C => e z.symm
    unfold isN
    rw [k1, hD', Bool.false_or, Bool.or_false]
    by_cases hP : CD = P
    · subst hP
      have := x.uniq h2 x.base rfl
      cases this
      rw [if_neg e]
      simp
    · have k3 : (D == "PairError") = false := by
        simp only [beq_eq_false_iff_ne]
        rintro rfl
        have n1 := X2.at_
        rw [(x.all _ x.base).at_] at n1
        cases n1
        exact hP rfl
      have k4 : (Value.ref CD == Value.ref P) = false := by simpa using hP
      rw [k3]
      have e' : ¬ CD = C := fun z => e z.symm
      split
      · simp [List.contains_cons, e']
      · simp [List.contains_cons, e', hP]
theorem ExL.kitV {K : PySem.W.Frag} {P C : Addr} {L : List (Str × Addr)} (x : ExL K P L) {c : Str} (h1 : (c, C) ∈ L) : PySem.W.kitOne K (.ref C) (.type "ValueError") = some (isN c "ValueError") := by
  unfold PySem.W.kitOne
  have hb : (Value.ref C == Value.type "ValueError") = false := by simp
  rw [if_neg (by rw [hb]; exact Bool.false_ne_true)]
  have hk : PySem.W.kitMeta "ValueError" = true := by decide +kernel
  show (if PySem.W.kitMeta "ValueError" = true then PySem.W.subIn K (.ref C) (.type "ValueError") else none) = _
  rw [if_pos hk, (x.all _ h1).subIn]
  unfold isN
  split <;> simp
open Classical in
noncomputable def sIsX (L : List Str) (D : Str) (u : V) : Sto → List Val → Option Val := fun _ vs => match vs with
  | [.ex0 c, .con v] => if c ∈ L ∧ v = u then some (.bl (isN c D)) else none
  | [.ex1 c _ _, .con v] => if c ∈ L ∧ v = u then some (.bl (isN c D)) else none
  | _ => none
section
variable {X : Cx} {P : Addr} {L : List (Str × Addr)}
theorem c_isX (x : ExL X.K P L) {u : V} {uv : Value} {D : Str} (hu : ClsV u uv) (hk : ∀ c C, (c, C) ∈ L → PySem.W.kitOne X.K (.ref C) uv = some (isN c D)) : GCa X (.builtin "isinstance") (sIsX (L.map (·.1)) D u) := by
  intro pins s σ H xs us Q I r h
  obtain ⟨vs, F, μ, S, z, hS, rl, e, k⟩ := h
  unfold sIsX at e
  split at e
  · rename_i c v
    split at e
    · rename_i q
      obtain ⟨hc, rfl⟩ := q
      cases e
      obtain ⟨⟨c', C⟩, hm, rfl⟩ := List.mem_map.mp hc
      have T := x.all _ hm
      obtain ⟨w1, w2, rfl, r1, r2⟩ := rl.two
      cases r2
      cases r1 with
      | ex0 n h1 =>
        rename_i a C'
        rw [T.at_] at n
        cases n
        obtain ⟨⟨oe, ws, g1, g2, g3, g4⟩, _⟩ := (show ObjOk X.prog X.w H s.heap a (ErO a C none) from I.hok a _ (hS.sub _ _ h1))
        obtain ⟨u1, u2, rfl, x1, x2⟩ := vals2 r
        have e2 := hu.eq x2
        subst e2
        cases x1
        have J : PySem.W.InstAt s.heap a oe C none := ⟨g1, g2, by unfold PySem.W.notCls; rw [g4] <;> rfl, by rw [g3]; trivial⟩
        exact PySem.W.kia_one (PySem.W.kitx_exc T.I.hcl T.I.ga T.I.gg T.I.sub T.I.cls T.I.gt T.I.tk T.I.mro) I.kIn J (hk _ _ hm) (by simp) fun tk => ⟨.bl _, H, I.tok tk, rfl, same_k k hS .bl⟩
    · cases e
  · rename_i c f y v
    split at e
    · rename_i q
      obtain ⟨hc, rfl⟩ := q
      cases e
      obtain ⟨⟨c', C⟩, hm, rfl⟩ := List.mem_map.mp hc
      have T := x.all _ hm
      obtain ⟨w1, w2, rfl, r1, r2⟩ := rl.two
      cases r2
      cases r1 with
      | ex1 n h1 h2 h3 =>
        rename_i v' a dx C'
        rw [T.at_] at n
        cases n
        obtain ⟨⟨oe, ws, g1, g2, g3, g4⟩, _⟩ := (show ObjOk X.prog X.w H s.heap a (ErO a C (some dx)) from I.hok a _ (hS.sub _ _ h1))
        have hx : ObjOk X.prog X.w H s.heap dx (.xd [(f, v')]) := I.hok dx _ (hS.sub _ _ h2)
        obtain ⟨mA, hns, hr⟩ := hx
        obtain ⟨od, ho, hl⟩ := lookIn_ns hns
        obtain ⟨u1, u2, rfl, x1, x2⟩ := vals2 r
        have e2 := hu.eq x2
        subst e2
        cases x1
        have J : PySem.W.InstAt s.heap a oe C (some od) := ⟨g1, g2, by unfold PySem.W.notCls; rw [g4] <;> rfl, by rw [g3]; exact ho⟩
        exact PySem.W.kia_one (PySem.W.kitx_exc T.I.hcl T.I.ga T.I.gg T.I.sub T.I.cls T.I.gt T.I.tk T.I.mro) I.kIn J (hk _ _ hm) (by simp) fun tk => ⟨.bl _, H, I.tok tk, rfl, same_k k hS .bl⟩
    · cases e
  · cases e
end
abbrev exNames : List Str := ["PairError", "BadBatch", "BadGoal", "BadKeys", "Busy", "EmptyQueue", "NoRow", "NothingToUndo", "NothingWaiting", "NoWord", "TooManyOperations", "BadKey", "BadSequence", "BadText", "Duplicate", "NoCode", "NoIndex", "NoLimit", "NoSource", "NotLast", "NotPossible", "NoTree", "NoVersion", "Rejected", "TooLong", "TooMany", "TooNarrow", "UnknownKey", "WrongLength"]
def isXV (D : Str) : Val → Option Val
  | .ex0 c => if c ∈ exNames then some (.bl (isN c D)) else none
  | .ex1 c _ _ => if c ∈ exNames then some (.bl (isN c D)) else none
  | _ => none
def mIsX (D : Str) (m : ME) : ME := fun ρ S => bnd (m ρ S) fun v S1 => pur (isXV D v) S1
theorem mIsX_less {L : List (Str × Addr)} (hL : L.map (·.1) = exNames) {D : Str} {u : V} {m : ME} : ∀ ρ S r, mIsX D m ρ S = some r → mCa (sIsX (L.map (·.1)) D u) (mCons m (mCons (mC (.con u)) mNil)) ρ S = some r := by
  intro ρ S r h
  unfold mIsX at h
  cases e : m ρ S with
  | none => rw [e] at h; cases h
  | some o =>
    cases o with
    | exc x S1 =>
      rw [e] at h
      simp only [bnd] at h
      cases h
      simp [mCa, mCons, bnd, e]
    | ok v S1 =>
      rw [e] at h
      simp only [bnd] at h
      unfold isXV at h
      split at h
      · split at h
        · rename_i c hc
          cases h
          simp [mCa, mCons, mC, mNil, bnd, e, sIsX, hL, hc, pur]
        · cases h
      · split at h
        · rename_i c _ _ hc
          cases h
          simp [mCa, mCons, mC, mNil, bnd, e, sIsX, hL, hc, pur]
        · cases h
      · cases h
section
variable {X : Cx} {P : Addr} {L : List (Str × Addr)}
theorem ge_isX {W : WX} (x : ExL X.K P L) {D : Str} {CD : Addr} (gD : X.mg D = some (.ref CD)) {en : Expr} {m : ME} {p p2 pos : Pos} (hv : GE X W en m) (hm : X.mg "isinstance" = none) (hD : (D, CD) ∈ L := by simp) (hn : D ≠ "ValueError" := by decide)
    (hL : L.map (·.1) = exNames := by rfl) (hgD : Gl X D := by rfl) (hdb : (D == ("__debug__" : Str)) = false := by decide) (hg : Gl X "isinstance" := by rfl)
    (he : starEach (en :: [.Name D p2]) X.env = (false, eval en X.env) :: starEach [.Name D p2] X.env := by rfl) (hpl : (backTo pos (starEach [.Name D p2] X.env)).any (·.1) = false := by rfl)
    (he2 : starEach ((.Name D p2) :: []) X.env = (false, eval (.Name D p2) X.env) :: starEach [] X.env := by rfl) :
    GE X W (.Call (.Name "isinstance" p) [en, .Name D p2] [] pos) (mIsX D m) :=
  ge_less (ge_callB (c_isX x (.own CD) fun c C h => x.kit h hD hn) hg hm bt_isinstance (ga_cons hv (ga_cons (ge_glob (v := .con (.ref CD)) (w := .ref CD) hgD gD rfl (fun _ _ => .con) hdb) ga_nil he2) he) (hpl := hpl) (he := he)) (mIsX_less hL)
theorem ge_isXV {W : WX} (x : ExL X.K P L) {en : Expr} {m : ME} {p p2 pos : Pos} (hV : X.mg "ValueError" = none) (hv : GE X W en m) (hm : X.mg "isinstance" = none) (hL : L.map (·.1) = exNames := by rfl) (hgD : Gl X "ValueError" := by rfl) (hg : Gl X "isinstance" := by rfl)
    (he : starEach (en :: [.Name "ValueError" p2]) X.env = (false, eval en X.env) :: starEach [.Name "ValueError" p2] X.env := by rfl) (hpl : (backTo pos (starEach [.Name "ValueError" p2] X.env)).any (·.1) = false := by rfl)
    (he2 : starEach ((.Name "ValueError" p2) :: []) X.env = (false, eval (.Name "ValueError" p2) X.env) :: starEach [] X.env := by rfl) :
    GE X W (.Call (.Name "isinstance" p) [en, .Name "ValueError" p2] [] pos) (mIsX "ValueError" m) :=
  ge_less (ge_callB (c_isX x (.ty _) fun c C h => x.kitV h) hg hm bt_isinstance (ga_cons hv (ga_cons (ge_bltn (w := .ty "ValueError") hgD hV bt_ValueError rfl) ga_nil he2) he) (hpl := hpl) (he := he)) (mIsX_less hL)
end
end G

set_option Elab.async false
set_option linter.all false
set_option maxRecDepth 100000
set_option maxHeartbeats 4000000
namespace G
open PySem PySem.Spec PyProof.Rows L2 PySem.W PySem.Calls PySem.HandSPX
theorem E_length.txt_of {K : Frag} {mg : Str → Option Value} {cn qn : Str} {C fI : Addr} {nm qq : Str} {N : Addr} {bs bm : List Value} {sn : List Str} {sub : List Value} {ab : Bool} {col : Option Bool} {dd : Option Addr} {m0 m1 m2 m3 m5 : Option Value} {oc dc pm cd ct : Value} {od an : Option Addr} {sl : Array (Option Value)} {p1 p2 q1 q2 q3 q4 : Pos}
    (gC : mg cn = some (.ref C)) (xL : K.lookup C = some (excClassObj nm qq C N bs bm true sn sub ab col dd m0 m1 m2 m3 m5 "ValueError.__new__")) (rb : refsVE bm = true)
    (sa : findIn K (.ref C) "__setattr__" = some (some (.builtin "object.__setattr__"))) (ga : findIn K (.ref C) "__getattribute__" = some (some (.builtin "BaseException.__getattribute__"))) (gg : findIn K (.ref C) "__getattr__" = some none) (nb : findIn K (.ref C) "length" = some none)
    (i1 : findIn K (.ref C) "__init__" = some (some (.ref fI))) (t1 : typeIn K (.ref fI) = some (.type "function"))
    (l1 : K.lookup fI = some ⟨oc, od, .func (fnOf "__init__" qn (E_length.argsI p1 p2) (E_length.bodyI q1 q2 q3 q4) E_length.scopeI .none .none dc pm an cd ct), sl⟩) (c1 : codeIn K cd qn = true)
    (kC : keepIn K (.ref C) = true) (eC : subIn K (.ref C) (.type "BaseException") = some true) (tC : typeIn K (.ref C) = some (.type "type")) (hC : hasDictIn K C = true) : E_length.Txt K mg cn qn C fI :=
  { gC := gC, cls := ⟨_, _, _, _, _, _, _, _, _, _, _, _, _, _, _, xL, rb⟩, sa := sa, ga := ga, gg := gg, noN := nb, iC := i1, tC := t1, kC := kC, exC := eC, tyC := tC, hdC := hC, fn := ⟨_, _, _, _, _, _, _, _, _, _, _, _, _, _, l1, c1⟩ }
theorem E_index.txt_of {K : Frag} {mg : Str → Option Value} {cn qn : Str} {C fI : Addr} {nm qq : Str} {N : Addr} {bs bm : List Value} {sn : List Str} {sub : List Value} {ab : Bool} {col : Option Bool} {dd : Option Addr} {m0 m1 m2 m3 m5 : Option Value} {oc dc pm cd ct : Value} {od an : Option Addr} {sl : Array (Option Value)} {p1 p2 q1 q2 q3 q4 : Pos}
    (gC : mg cn = some (.ref C)) (xL : K.lookup C = some (excClassObj nm qq C N bs bm true sn sub ab col dd m0 m1 m2 m3 m5 "ValueError.__new__")) (rb : refsVE bm = true)
    (sa : findIn K (.ref C) "__setattr__" = some (some (.builtin "object.__setattr__"))) (ga : findIn K (.ref C) "__getattribute__" = some (some (.builtin "BaseException.__getattribute__"))) (gg : findIn K (.ref C) "__getattr__" = some none) (nb : findIn K (.ref C) "index" = some none)
    (i1 : findIn K (.ref C) "__init__" = some (some (.ref fI))) (t1 : typeIn K (.ref fI) = some (.type "function"))
    (l1 : K.lookup fI = some ⟨oc, od, .func (fnOf "__init__" qn (E_index.argsI p1 p2) (E_index.bodyI q1 q2 q3 q4) E_index.scopeI .none .none dc pm an cd ct), sl⟩) (c1 : codeIn K cd qn = true)
    (kC : keepIn K (.ref C) = true) (eC : subIn K (.ref C) (.type "BaseException") = some true) (tC : typeIn K (.ref C) = some (.type "type")) (hC : hasDictIn K C = true) : E_index.Txt K mg cn qn C fI :=
  { gC := gC, cls := ⟨_, _, _, _, _, _, _, _, _, _, _, _, _, _, _, xL, rb⟩, sa := sa, ga := ga, gg := gg, noN := nb, iC := i1, tC := t1, kC := kC, exC := eC, tyC := tC, hdC := hC, fn := ⟨_, _, _, _, _, _, _, _, _, _, _, _, _, _, l1, c1⟩ }
theorem E_obstruction.txt_of {K : Frag} {mg : Str → Option Value} {cn qn : Str} {C fI : Addr} {nm qq : Str} {N : Addr} {bs bm : List Value} {sn : List Str} {sub : List Value} {ab : Bool} {col : Option Bool} {dd : Option Addr} {m0 m1 m2 m3 m5 : Option Value} {oc dc pm cd ct : Value} {od an : Option Addr} {sl : Array (Option Value)} {p1 p2 q1 q2 q3 q4 : Pos}
    (gC : mg cn = some (.ref C)) (xL : K.lookup C = some (excClassObj nm qq C N bs bm true sn sub ab col dd m0 m1 m2 m3 m5 "ValueError.__new__")) (rb : refsVE bm = true)
    (sa : findIn K (.ref C) "__setattr__" = some (some (.builtin "object.__setattr__"))) (ga : findIn K (.ref C) "__getattribute__" = some (some (.builtin "BaseException.__getattribute__"))) (gg : findIn K (.ref C) "__getattr__" = some none) (nb : findIn K (.ref C) "obstruction" = some none)
    (i1 : findIn K (.ref C) "__init__" = some (some (.ref fI))) (t1 : typeIn K (.ref fI) = some (.type "function"))
    (l1 : K.lookup fI = some ⟨oc, od, .func (fnOf "__init__" qn (E_obstruction.argsI p1 p2) (E_obstruction.bodyI q1 q2 q3 q4) E_obstruction.scopeI .none .none dc pm an cd ct), sl⟩) (c1 : codeIn K cd qn = true)
    (kC : keepIn K (.ref C) = true) (eC : subIn K (.ref C) (.type "BaseException") = some true) (tC : typeIn K (.ref C) = some (.type "type")) (hC : hasDictIn K C = true) : E_obstruction.Txt K mg cn qn C fI :=
  { gC := gC, cls := ⟨_, _, _, _, _, _, _, _, _, _, _, _, _, _, _, xL, rb⟩, sa := sa, ga := ga, gg := gg, noN := nb, iC := i1, tC := t1, kC := kC, exC := eC, tyC := tC, hdC := hC, fn := ⟨_, _, _, _, _, _, _, _, _, _, _, _, _, _, l1, c1⟩ }
theorem E_limit.txt_of {K : Frag} {mg : Str → Option Value} {cn qn : Str} {C fI : Addr} {nm qq : Str} {N : Addr} {bs bm : List Value} {sn : List Str} {sub : List Value} {ab : Bool} {col : Option Bool} {dd : Option Addr} {m0 m1 m2 m3 m5 : Option Value} {oc dc pm cd ct : Value} {od an : Option Addr} {sl : Array (Option Value)} {p1 p2 q1 q2 q3 q4 : Pos}
    (gC : mg cn = some (.ref C)) (xL : K.lookup C = some (excClassObj nm qq C N bs bm true sn sub ab col dd m0 m1 m2 m3 m5 "ValueError.__new__")) (rb : refsVE bm = true)
    (sa : findIn K (.ref C) "__setattr__" = some (some (.builtin "object.__setattr__"))) (ga : findIn K (.ref C) "__getattribute__" = some (some (.builtin "BaseException.__getattribute__"))) (gg : findIn K (.ref C) "__getattr__" = some none) (nb : findIn K (.ref C) "limit" = some none)
    (i1 : findIn K (.ref C) "__init__" = some (some (.ref fI))) (t1 : typeIn K (.ref fI) = some (.type "function"))
    (l1 : K.lookup fI = some ⟨oc, od, .func (fnOf "__init__" qn (E_limit.argsI p1 p2) (E_limit.bodyI q1 q2 q3 q4) E_limit.scopeI .none .none dc pm an cd ct), sl⟩) (c1 : codeIn K cd qn = true)
    (kC : keepIn K (.ref C) = true) (eC : subIn K (.ref C) (.type "BaseException") = some true) (tC : typeIn K (.ref C) = some (.type "type")) (hC : hasDictIn K C = true) : E_limit.Txt K mg cn qn C fI :=
  { gC := gC, cls := ⟨_, _, _, _, _, _, _, _, _, _, _, _, _, _, _, xL, rb⟩, sa := sa, ga := ga, gg := gg, noN := nb, iC := i1, tC := t1, kC := kC, exC := eC, tyC := tC, hdC := hC, fn := ⟨_, _, _, _, _, _, _, _, _, _, _, _, _, _, l1, c1⟩ }
theorem E_error.txt_of {K : Frag} {mg : Str → Option Value} {cn qn : Str} {C fI : Addr} {nm qq : Str} {N : Addr} {bs bm : List Value} {sn : List Str} {sub : List Value} {ab : Bool} {col : Option Bool} {dd : Option Addr} {m0 m1 m2 m3 m5 : Option Value} {oc dc pm cd ct : Value} {od an : Option Addr} {sl : Array (Option Value)} {p1 p2 q1 q2 q3 q4 : Pos}
    (gC : mg cn = some (.ref C)) (xL : K.lookup C = some (excClassObj nm qq C N bs bm true sn sub ab col dd m0 m1 m2 m3 m5 "ValueError.__new__")) (rb : refsVE bm = true)
    (sa : findIn K (.ref C) "__setattr__" = some (some (.builtin "object.__setattr__"))) (ga : findIn K (.ref C) "__getattribute__" = some (some (.builtin "BaseException.__getattribute__"))) (gg : findIn K (.ref C) "__getattr__" = some none) (nb : findIn K (.ref C) "error" = some none)
    (i1 : findIn K (.ref C) "__init__" = some (some (.ref fI))) (t1 : typeIn K (.ref fI) = some (.type "function"))
    (l1 : K.lookup fI = some ⟨oc, od, .func (fnOf "__init__" qn (E_error.argsI p1 p2) (E_error.bodyI q1 q2 q3 q4) E_error.scopeI .none .none dc pm an cd ct), sl⟩) (c1 : codeIn K cd qn = true)
    (kC : keepIn K (.ref C) = true) (eC : subIn K (.ref C) (.type "BaseException") = some true) (tC : typeIn K (.ref C) = some (.type "type")) (hC : hasDictIn K C = true) : E_error.Txt K mg cn qn C fI :=
  { gC := gC, cls := ⟨_, _, _, _, _, _, _, _, _, _, _, _, _, _, _, xL, rb⟩, sa := sa, ga := ga, gg := gg, noN := nb, iC := i1, tC := t1, kC := kC, exC := eC, tyC := tC, hdC := hC, fn := ⟨_, _, _, _, _, _, _, _, _, _, _, _, _, _, l1, c1⟩ }
theorem E_key.txt_of {K : Frag} {mg : Str → Option Value} {cn qn : Str} {C fI : Addr} {nm qq : Str} {N : Addr} {bs bm : List Value} {sn : List Str} {sub : List Value} {ab : Bool} {col : Option Bool} {dd : Option Addr} {m0 m1 m2 m3 m5 : Option Value} {oc dc pm cd ct : Value} {od an : Option Addr} {sl : Array (Option Value)} {p1 p2 q1 q2 q3 q4 : Pos}
    (gC : mg cn = some (.ref C)) (xL : K.lookup C = some (excClassObj nm qq C N bs bm true sn sub ab col dd m0 m1 m2 m3 m5 "ValueError.__new__")) (rb : refsVE bm = true)
    (sa : findIn K (.ref C) "__setattr__" = some (some (.builtin "object.__setattr__"))) (ga : findIn K (.ref C) "__getattribute__" = some (some (.builtin "BaseException.__getattribute__"))) (gg : findIn K (.ref C) "__getattr__" = some none) (nb : findIn K (.ref C) "key" = some none)
    (i1 : findIn K (.ref C) "__init__" = some (some (.ref fI))) (t1 : typeIn K (.ref fI) = some (.type "function"))
    (l1 : K.lookup fI = some ⟨oc, od, .func (fnOf "__init__" qn (E_key.argsI p1 p2) (E_key.bodyI q1 q2 q3 q4) E_key.scopeI .none .none dc pm an cd ct), sl⟩) (c1 : codeIn K cd qn = true)
    (kC : keepIn K (.ref C) = true) (eC : subIn K (.ref C) (.type "BaseException") = some true) (tC : typeIn K (.ref C) = some (.type "type")) (hC : hasDictIn K C = true) : E_key.Txt K mg cn qn C fI :=
  { gC := gC, cls := ⟨_, _, _, _, _, _, _, _, _, _, _, _, _, _, _, xL, rb⟩, sa := sa, ga := ga, gg := gg, noN := nb, iC := i1, tC := t1, kC := kC, exC := eC, tyC := tC, hdC := hC, fn := ⟨_, _, _, _, _, _, _, _, _, _, _, _, _, _, l1, c1⟩ }
theorem E_value.txt_of {K : Frag} {mg : Str → Option Value} {cn qn : Str} {C fI : Addr} {nm qq : Str} {N : Addr} {bs bm : List Value} {sn : List Str} {sub : List Value} {ab : Bool} {col : Option Bool} {dd : Option Addr} {m0 m1 m2 m3 m5 : Option Value} {oc dc pm cd ct : Value} {od an : Option Addr} {sl : Array (Option Value)} {p1 p2 q1 q2 q3 q4 : Pos}
    (gC : mg cn = some (.ref C)) (xL : K.lookup C = some (excClassObj nm qq C N bs bm true sn sub ab col dd m0 m1 m2 m3 m5 "ValueError.__new__")) (rb : refsVE bm = true)
    (sa : findIn K (.ref C) "__setattr__" = some (some (.builtin "object.__setattr__"))) (ga : findIn K (.ref C) "__getattribute__" = some (some (.builtin "BaseException.__getattribute__"))) (gg : findIn K (.ref C) "__getattr__" = some none) (nb : findIn K (.ref C) "value" = some none)
    (i1 : findIn K (.ref C) "__init__" = some (some (.ref fI))) (t1 : typeIn K (.ref fI) = some (.type "function"))
    (l1 : K.lookup fI = some ⟨oc, od, .func (fnOf "__init__" qn (E_value.argsI p1 p2) (E_value.bodyI q1 q2 q3 q4) E_value.scopeI .none .none dc pm an cd ct), sl⟩) (c1 : codeIn K cd qn = true)
    (kC : keepIn K (.ref C) = true) (eC : subIn K (.ref C) (.type "BaseException") = some true) (tC : typeIn K (.ref C) = some (.type "type")) (hC : hasDictIn K C = true) : E_value.Txt K mg cn qn C fI :=
  { gC := gC, cls := ⟨_, _, _, _, _, _, _, _, _, _, _, _, _, _, _, xL, rb⟩, sa := sa, ga := ga, gg := gg, noN := nb, iC := i1, tC := t1, kC := kC, exC := eC, tyC := tC, hdC := hC, fn := ⟨_, _, _, _, _, _, _, _, _, _, _, _, _, _, l1, c1⟩ }
theorem E_version.txt_of {K : Frag} {mg : Str → Option Value} {cn qn : Str} {C fI : Addr} {nm qq : Str} {N : Addr} {bs bm : List Value} {sn : List Str} {sub : List Value} {ab : Bool} {col : Option Bool} {dd : Option Addr} {m0 m1 m2 m3 m5 : Option Value} {oc dc pm cd ct : Value} {od an : Option Addr} {sl : Array (Option Value)} {p1 p2 q1 q2 q3 q4 : Pos}
    (gC : mg cn = some (.ref C)) (xL : K.lookup C = some (excClassObj nm qq C N bs bm true sn sub ab col dd m0 m1 m2 m3 m5 "ValueError.__new__")) (rb : refsVE bm = true)
    (sa : findIn K (.ref C) "__setattr__" = some (some (.builtin "object.__setattr__"))) (ga : findIn K (.ref C) "__getattribute__" = some (some (.builtin "BaseException.__getattribute__"))) (gg : findIn K (.ref C) "__getattr__" = some none) (nb : findIn K (.ref C) "version" = some none)
    (i1 : findIn K (.ref C) "__init__" = some (some (.ref fI))) (t1 : typeIn K (.ref fI) = some (.type "function"))
    (l1 : K.lookup fI = some ⟨oc, od, .func (fnOf "__init__" qn (E_version.argsI p1 p2) (E_version.bodyI q1 q2 q3 q4) E_version.scopeI .none .none dc pm an cd ct), sl⟩) (c1 : codeIn K cd qn = true)
    (kC : keepIn K (.ref C) = true) (eC : subIn K (.ref C) (.type "BaseException") = some true) (tC : typeIn K (.ref C) = some (.type "type")) (hC : hasDictIn K C = true) : E_version.Txt K mg cn qn C fI :=
  { gC := gC, cls := ⟨_, _, _, _, _, _, _, _, _, _, _, _, _, _, _, xL, rb⟩, sa := sa, ga := ga, gg := gg, noN := nb, iC := i1, tC := t1, kC := kC, exC := eC, tyC := tC, hdC := hC, fn := ⟨_, _, _, _, _, _, _, _, _, _, _, _, _, _, l1, c1⟩ }
theorem E_width.txt_of {K : Frag} {mg : Str → Option Value} {cn qn : Str} {C fI : Addr} {nm qq : Str} {N : Addr} {bs bm : List Value} {sn : List Str} {sub : List Value} {ab : Bool} {col : Option Bool} {dd : Option Addr} {m0 m1 m2 m3 m5 : Option Value} {oc dc pm cd ct : Value} {od an : Option Addr} {sl : Array (Option Value)} {p1 p2 q1 q2 q3 q4 : Pos}
    (gC : mg cn = some (.ref C)) (xL : K.lookup C = some (excClassObj nm qq C N bs bm true sn sub ab col dd m0 m1 m2 m3 m5 "ValueError.__new__")) (rb : refsVE bm = true)
    (sa : findIn K (.ref C) "__setattr__" = some (some (.builtin "object.__setattr__"))) (ga : findIn K (.ref C) "__getattribute__" = some (some (.builtin "BaseException.__getattribute__"))) (gg : findIn K (.ref C) "__getattr__" = some none) (nb : findIn K (.ref C) "width" = some none)
    (i1 : findIn K (.ref C) "__init__" = some (some (.ref fI))) (t1 : typeIn K (.ref fI) = some (.type "function"))
    (l1 : K.lookup fI = some ⟨oc, od, .func (fnOf "__init__" qn (E_width.argsI p1 p2) (E_width.bodyI q1 q2 q3 q4) E_width.scopeI .none .none dc pm an cd ct), sl⟩) (c1 : codeIn K cd qn = true)
    (kC : keepIn K (.ref C) = true) (eC : subIn K (.ref C) (.type "BaseException") = some true) (tC : typeIn K (.ref C) = some (.type "type")) (hC : hasDictIn K C = true) : E_width.Txt K mg cn qn C fI :=
  { gC := gC, cls := ⟨_, _, _, _, _, _, _, _, _, _, _, _, _, _, _, xL, rb⟩, sa := sa, ga := ga, gg := gg, noN := nb, iC := i1, tC := t1, kC := kC, exC := eC, tyC := tC, hdC := hC, fn := ⟨_, _, _, _, _, _, _, _, _, _, _, _, _, _, l1, c1⟩ }
theorem exI_of {K : Frag} {C : Addr} (h1 : isClsIn K C = true) (h2 : findIn K (.ref C) "__getattribute__" = some (some (.builtin "BaseException.__getattribute__"))) (h3 : findIn K (.ref C) "__getattr__" = some none) (h4 : subIn K (.ref C) (.type "BaseException") = some true)
    (h5 : findIn K (.ref C) "__class__" = some (some (.builtin "object.__class__"))) (h6 : mroIn K C (.type "object") = some true) (h7 : specialIn K (.builtin "object.__class__") "__get__" = some (some (.builtin "getset_descriptor.__get__"))) (h8 : takesIn K (.builtin "object.__class__") = some true) : ExI K C := ⟨h1, h2, h3, h4, h5, h6, h7, h8⟩
end G

set_option Elab.async false
set_option linter.all false
set_option maxRecDepth 100000
set_option maxHeartbeats 4000000
namespace G
open PySem PySem.Spec PyProof.Rows L2
abbrev EXt := Str × Option (Str × VV)
def eX : EXt → Val
  | (c, none) => .ex0 c
  | (c, some (f, v)) => .ex1 c f v.1
instance : NC eX := ⟨fun x => by
  obtain ⟨c, _ | ⟨f, v⟩⟩ := x
  · simp [nc, eX]
  · simpa [nc, eX] using v.2⟩
def isXo (D : Str) (x : EXt) : Option Bool := if x.1 ∈ exNames then some (isN x.1 D) else none
def fldXo (c f : Str) : EXt → Option VV
  | (c', some (f', v)) => if c' = c ∧ f' = f then some v else none
  | _ => none
section
variable {B B1 : Sto} {cs cs1 : List (Nat × Cell)} {ρ : Ev} {m : ME}
theorem ev_mk0 {c : Str} : X B cs (mMk0 c) ρ (eX (c, none)) B cs := .of fun _ => rfl
theorem ev_mk1 {c f : Str} {v : VV} (h : X B cs m ρ (eV v) B1 cs1) : X B cs (mMk1 c f m) ρ (eX (c, some (f, v))) B1 cs1 := fun S hS => by
  obtain ⟨S1, e, h1⟩ := h S hS
  exact ⟨S1, by unfold mMk1; rw [e]; rfl, h1⟩
theorem ev_isX {D : Str} {x : EXt} {b : Bool} (h : X B cs m ρ (eX x) B1 cs1) (q : isXo D x = some b) : X B cs (mIsX D m) ρ (eB b) B1 cs1 := fun S hS => by
  obtain ⟨S1, e, h1⟩ := h S hS
  unfold isXo at q
  split at q
  · rename_i hc
    cases q
    obtain ⟨c, _ | ⟨f, v⟩⟩ := x
    · exact ⟨S1, by unfold mIsX; rw [e]; simp only [bnd, eX, isXV, if_pos hc, pur], h1⟩
    · exact ⟨S1, by unfold mIsX; rw [e]; simp only [bnd, eX, isXV, if_pos hc, pur], h1⟩
  · cases q
theorem ev_fldX {c f : Str} {x : EXt} {v : VV} (h : X B cs m ρ (eX x) B1 cs1) (q : fldXo c f x = some v) : X B cs (mFldX c f m) ρ (eV v) B1 cs1 := fun S hS => by
  obtain ⟨S1, e, h1⟩ := h S hS
  unfold fldXo at q
  split at q
  · rename_i c' f' v'
    split at q
    · rename_i hc
      cases q
      exact ⟨S1, by unfold mFldX; rw [e]; simp only [bnd, eX, fldX, if_pos hc, pur]; rfl, h1⟩
    · cases q
  · cases q
end
end G

set_option Elab.async false
set_option linter.all false
set_option maxRecDepth 100000
set_option maxHeartbeats 4000000
namespace G.L_heappairs_k01_limits_and_errors
open PySem PySem.Spec PyProof.Rows L2
def topS (i : Nat) : Stmt := PySem.Challenge.pw_heappairs_k01_limits_and_errors.main.body.getD i (.Pass ⟨0, 0, 0, 0⟩)
abbrev s__law_stream : Stmt := topS 44
theorem sc__law_stream : FnScope ["_law_script", "_law_cell"] ["_law_script"] (defScope s__law_stream) := ⟨rfl, rfl, rfl, by decide +kernel, rfl, by decide +kernel, by decide +kernel⟩
abbrev s__law_first_right : Stmt := topS 51
theorem sc__law_first_right : FnScope ["_law_values", "_law_key", "_law_sequence", "_law_text", "_law_twice", "_law_code", "_law_index", "_law_limit", "_law_source", "_law_last", "_law_fields", "_law_good", "_law_made"] ["_law_values"] (defScope s__law_first_right) := ⟨rfl, rfl, rfl, by decide +kernel, rfl, by decide +kernel, by decide +kernel⟩
abbrev s__law_second_right : Stmt := topS 52
theorem sc__law_second_right : FnScope ["_law_values", "_law_possible", "_law_tree", "_law_version", "_law_batch", "_law_long", "_law_many", "_law_narrow", "_law_key", "_law_word", "_law_fields", "_law_good", "_law_made"] ["_law_values"] (defScope s__law_second_right) := ⟨rfl, rfl, rfl, by decide +kernel, rfl, by decide +kernel, by decide +kernel⟩
abbrev s__law_below : Stmt := topS 45
theorem sc__law_below : FnScope ["_law_stream_here", "_law_limit", "_law_cells", "_law_at", "_law_rest", "_law_state"] ["_law_stream_here", "_law_limit"] (defScope s__law_below) := ⟨rfl, rfl, rfl, by decide +kernel, rfl, by decide +kernel, by decide +kernel⟩
abbrev s__law_pick : Stmt := topS 46
theorem sc__law_pick : FnScope ["_law_stream_here", "_law_items"] ["_law_stream_here", "_law_items"] (defScope s__law_pick) := ⟨rfl, rfl, rfl, by decide +kernel, rfl, by decide +kernel, by decide +kernel⟩
abbrev s__law_odd : Stmt := topS 47
theorem sc__law_odd : FnScope ["_law_stream_here", "_law_items"] ["_law_stream_here"] (defScope s__law_odd) := ⟨rfl, rfl, rfl, by decide +kernel, rfl, by decide +kernel, by decide +kernel⟩
abbrev s__law_plain : Stmt := topS 48
theorem sc__law_plain : FnScope ["_law_error", "_law_kinds", "_law_k"] ["_law_error"] (defScope s__law_plain) := ⟨rfl, rfl, rfl, by decide +kernel, rfl, by decide +kernel, by decide +kernel⟩
abbrev s__law_filled : Stmt := topS 49
theorem sc__law_filled : FnScope ["_law_error", "_law_kinds", "_law_k"] ["_law_error"] (defScope s__law_filled) := ⟨rfl, rfl, rfl, by decide +kernel, rfl, by decide +kernel, by decide +kernel⟩
abbrev s__law_alone : Stmt := topS 50
theorem sc__law_alone : FnScope ["_law_errors", "_law_others", "_law_k", "_law_error", "_law_found"] ["_law_errors", "_law_others"] (defScope s__law_alone) := ⟨rfl, rfl, rfl, by decide +kernel, rfl, by decide +kernel, by decide +kernel⟩
abbrev s_law : Stmt := topS 53
theorem sc_law : FnScope ["_law_script", "_law_stream_here", "_law_one", "_law_two", "_law_errors", "_law_limits", "_law_k"] ["_law_script"] (defScope s_law) := ⟨rfl, rfl, rfl, by decide +kernel, rfl, by decide +kernel, by decide +kernel⟩
abbrev N_t_pick : List Str := ["_law_stream_here", "_law_items"]
noncomputable def m_t_pick : MS := sRet (mO2 sIx (mVar 1) (mCal 2 f_t_below (mCons (mVar 0) (mCons (mCa sLen (mCons (mVar 1) (mNil))) (mNil)))))
noncomputable def x_t_pick (stream_here : Stm) (items : List VV) : Option (VV × Stm) :=
  (x_t_below stream_here (items.length : Int)).bind fun (r1, s1) =>
  (atI items r1).bind fun r2 =>
  some (r2, s1)
noncomputable def f_t_pick : Fn := runU N_t_pick m_t_pick
theorem tr_t_pick {S0 : Sto} (hn : ncS S0) {k : Nat} {stream_here : Stm} (hk : S0[k]? = some stream_here.cell) {items : List VV} {r : VV} {s' : Stm} (h : x_t_pick stream_here items = some (r, s')) : f_t_pick [.cell k, (eL eV) items] S0 = some (.ok (eV r) (S0.set k s'.cell)) := by
  have hk_k : k < S0.length := (List.getElem?_eq_some_iff.mp hk).1
  refine fin_ok (St.startB hn hk) List.length_set ?_
  show Run (S0.set k stream_here.cell) [(k, stream_here.cell)] m_t_pick [some (.cell k), some ((eL eV) items)] (Fin (S0.set k s'.cell) eV r)
  unfold x_t_pick at h
  unfold m_t_pick
  refine run_one ?_
  replace h := Option.bind_eq_some_iff.mp h; obtain ⟨⟨r1, s1⟩, q1, h⟩ := h
  dsimp only at h
  replace h := Option.bind_eq_some_iff.mp h; obtain ⟨r2, q2, h⟩ := h
  refine run_ret (ev_o2 v1 (ev_callK 0 (ev_cons v0 (ev_cons (ev_ca (ev_cons v1 ev_nil) fun _ h => op_len sqL) ev_nil)) rfl gt0 (ltset hk_k) (Stm.nc _) (List.set_set _) st0 fun _ hn hk => tr_t_below hn hk q1) fun _ h => op_ix sqL q2) fun _ hS => ?_
  cases h
  exact fin_val rfl hS
abbrev N_t_odd : List Str := ["_law_stream_here", "_law_items"]
noncomputable def m_t_odd : MS := sSeq (sSet 1 (mLst (mCons (mC .non) (mCons (mC (.bl true)) (mCons (mC (.bl false)) (mCons (mC (.int 0)) (mCons (mC (.int 1)) (mCons (mO1 sNeg (mC (.int 1))) (mCons (mO2 aPow (mC (.int 10)) (mC (.int 12))) (mCons (mO2 sAdd (mO2 aPow (mC (.int 10)) (mC (.int 12))) (mC (.int 1))) (mCons (mO2 aPow (mC (.int 10)) (mC (.int 39))) (mCons (mC (.str "")) (mCons (mC (.str "I")) (mCons (mC (.str "IR")) (mCons (mC (.str "3 1")) (mCons (mC (.str "none")) (mCons (mTup (mNil)) (mCons (mLst (mNil)) (mCons (mC (.dct [])) (mNil)))))))))))))))))))) (sRet (mCal 2 f_t_pick (mCons (mVar 0) (mCons (mO2 sAdd (mVar 1) (mLst (mCons (mTup (mCons (mC (.int 0)) (mNil))) (mCons (mLst (mCons (mC (.int 0)) (mNil))) (mCons (mTup (mCons (mC (.bl true)) (mNil))) (mCons (mTup (mCons (mTup (mNil)) (mNil))) (mCons (mDisp [.inr "I"] (mCons (mC (.int 1)) (mNil))) (mCons (mTup (mCons (mC (.str "I")) (mCons (mC (.str "R")) (mNil)))) (mCons (mTup (mCons (mC (.int 1)) (mCons (mC .non) (mNil)))) (mNil)))))))))) (mNil)))))
noncomputable def x_t_odd (stream_here : Stm) : Option (VV × Stm) :=
  (some [(toV eU ()), (toV eB true), (toV eB false), (toV eI 0), (toV eI 1), (toV eI (-1)), (toV eI 1000000000000), (toV eI (1000000000000 + 1)), (toV eI 1000000000000000000000000000000000000000), (toV eS []), (toV eS [73]), (toV eS [73, 82]), (toV eS [51, 32, 49]), (toV eS [110, 111, 110, 101]), (toV (eT eV) []), (toV (eL eV) []), (vD [])]).bind fun items =>
  (szO (items ++ [(toV (eT eV) [(toV eI 0)]), (toV (eL eV) [(toV eI 0)]), (toV (eT eV) [(toV eB true)]), (toV (eT eV) [(toV (eT eV) [])]), (vD [(.inr "I", (toV eI 1))]), (toV (eT eV) [(toV eS [73]), (toV eS [82])]), (toV (eT eV) [(toV eI 1), (toV eU ())])])).bind fun r1 =>
  (x_t_pick stream_here r1).bind fun (r2, s1) =>
  some (r2, s1)
noncomputable def f_t_odd : Fn := runU N_t_odd m_t_odd
theorem tr_t_odd {S0 : Sto} (hn : ncS S0) {k : Nat} {stream_here : Stm} (hk : S0[k]? = some stream_here.cell) {r : VV} {s' : Stm} (h : x_t_odd stream_here = some (r, s')) : f_t_odd [.cell k] S0 = some (.ok (eV r) (S0.set k s'.cell)) := by
  have hk_k : k < S0.length := (List.getElem?_eq_some_iff.mp hk).1
  refine fin_ok (St.startB hn hk) List.length_set ?_
  show Run (S0.set k stream_here.cell) [(k, stream_here.cell)] m_t_odd [some (.cell k), none] (Fin (S0.set k s'.cell) eV r)
  unfold x_t_odd at h
  unfold m_t_odd
  refine run_one ?_
  refine run_assoc ?_
  replace h := Option.bind_eq_some_iff.mp h; obtain ⟨items, q1, h⟩ := h
  refine run_set st1 (X.cast (congrArg (eL eV) (Option.some.inj q1)) (lstT (e := eV) (xs := [(toV eU ()), (toV eB true), (toV eB false), (toV eI 0), (toV eI 1), (toV eI (-1)), (toV eI 1000000000000), (toV eI (1000000000000 + 1)), (toV eI 1000000000000000000000000000000000000000), (toV eS []), (toV eS [73]), (toV eS [73, 82]), (toV eS [51, 32, 49]), (toV eS [110, 111, 110, 101]), (toV (eT eV) []), (toV (eL eV) []), (vD [])]) (ev_cons ev_c (ev_cons ev_c (ev_cons ev_c (ev_cons ev_c (ev_cons ev_c (ev_cons (ev_o1 ev_c fun _ _ => op_neg) (ev_cons (ev_o2 ev_c ev_c fun _ _ => op_pow (show fPow 10 12 = some 1000000000000 by decide)) (ev_cons (ev_o2 (ev_o2 ev_c ev_c fun _ _ => op_pow (show fPow 10 12 = some 1000000000000 by decide)) ev_c fun _ _ => op_add) (ev_cons (ev_o2 ev_c ev_c fun _ _ => op_pow (show fPow 10 39 = some 1000000000000000000000000000000000000000 by decide)) (ev_cons (strc (a := []) (by decide +kernel)) (ev_cons (strc (a := [73]) (by decide +kernel)) (ev_cons (strc (a := [73, 82]) (by decide +kernel)) (ev_cons (strc (a := [51, 32, 49]) (by decide +kernel)) (ev_cons (strc (a := [110, 111, 110, 101]) (by decide +kernel)) (ev_cons (X.cast (show (eT eV) [] = eV (toV (eT eV) []) from rfl) (tup0 (e := eV))) (ev_cons (X.cast (show (eL eV) [] = eV (toV (eL eV) []) from rfl) (lst0 (e := eV))) (ev_cons ev_c ev_nil))))))))))))))))) (by simp))) ?_
  replace h := Option.bind_eq_some_iff.mp h; obtain ⟨r1, q2, h⟩ := h
  replace h := Option.bind_eq_some_iff.mp h; obtain ⟨⟨r2, s1⟩, q3, h⟩ := h
  dsimp only at h
  refine run_ret (ev_callK 0 (ev_cons v0 (ev_cons (ev_o2 v1 (lstT (e := eV) (xs := [(toV (eT eV) [(toV eI 0)]), (toV (eL eV) [(toV eI 0)]), (toV (eT eV) [(toV eB true)]), (toV (eT eV) [(toV (eT eV) [])]), (vD [(.inr "I", (toV eI 1))]), (toV (eT eV) [(toV eS [73]), (toV eS [82])]), (toV (eT eV) [(toV eI 1), (toV eU ())])]) (ev_cons (X.cast (show (eT eV) [(toV eI 0)] = eV (toV (eT eV) [(toV eI 0)]) from rfl) (tupT (e := eV) (xs := [(toV eI 0)]) (ev_cons ev_c ev_nil) (by simp))) (ev_cons (X.cast (show (eL eV) [(toV eI 0)] = eV (toV (eL eV) [(toV eI 0)]) from rfl) (lstT (e := eV) (xs := [(toV eI 0)]) (ev_cons ev_c ev_nil) (by simp))) (ev_cons (X.cast (show (eT eV) [(toV eB true)] = eV (toV (eT eV) [(toV eB true)]) from rfl) (tupT (e := eV) (xs := [(toV eB true)]) (ev_cons ev_c ev_nil) (by simp))) (ev_cons (X.cast (show (eT eV) [(toV (eT eV) [])] = eV (toV (eT eV) [(toV (eT eV) [])]) from rfl) (tupT (e := eV) (xs := [(toV (eT eV) [])]) (ev_cons (X.cast (show (eT eV) [] = eV (toV (eT eV) []) from rfl) (tup0 (e := eV))) ev_nil) (by simp))) (ev_cons (ev_disp (ev_cons ev_c ev_nil) (by decide) (by rfl)) (ev_cons (X.cast (show (eT eV) [(toV eS [73]), (toV eS [82])] = eV (toV (eT eV) [(toV eS [73]), (toV eS [82])]) from rfl) (tupT (e := eV) (xs := [(toV eS [73]), (toV eS [82])]) (ev_cons (strc (a := [73]) (by decide +kernel)) (ev_cons (strc (a := [82]) (by decide +kernel)) ev_nil)) (by simp))) (ev_cons (X.cast (show (eT eV) [(toV eI 1), (toV eU ())] = eV (toV (eT eV) [(toV eI 1), (toV eU ())]) from rfl) (tupT (e := eV) (xs := [(toV eI 1), (toV eU ())]) (ev_cons ev_c (ev_cons ev_c ev_nil)) (by simp))) ev_nil))))))) (by simp)) fun _ h => op_addL lsL lsL q2) ev_nil)) rfl gt0 (ltset hk_k) (Stm.nc _) (List.set_set _) st0 fun _ hn hk => tr_t_pick hn hk q3) fun _ hS => ?_
  cases h
  exact fin_val rfl hS
abbrev N__law_plain : List Str := ["_law_error", "_law_kinds", "_law_k"]
noncomputable def m__law_plain : MS := sSeq (sSet 1 (mLst (mCons (mIsX "BadBatch" (mVar 0)) (mCons (mIsX "BadGoal" (mVar 0)) (mCons (mIsX "BadKeys" (mVar 0)) (mNil)))))) (sSeq (sSet 1 (mO2 sAdd (mVar 1) (mLst (mCons (mIsX "Busy" (mVar 0)) (mCons (mIsX "EmptyQueue" (mVar 0)) (mCons (mIsX "NoRow" (mVar 0)) (mNil))))))) (sSeq (sSet 1 (mO2 sAdd (mVar 1) (mLst (mCons (mIsX "NothingToUndo" (mVar 0)) (mCons (mIsX "NothingWaiting" (mVar 0)) (mNil)))))) (sSeq (sSet 1 (mO2 sAdd (mVar 1) (mLst (mCons (mIsX "NoWord" (mVar 0)) (mCons (mIsX "TooManyOperations" (mVar 0)) (mNil)))))) (sRet (mLc (mRange1 (mCons (mC (.int 10)) (mNil))) (gN 2) (mTr (mO2 sIx (mVar 1) (mVar 2))) (mVar 2) [2])))))
noncomputable def x__law_plain (error : EXt) : Option (List Int) :=
  (isXo "BadBatch" error).bind fun r1 =>
  (isXo "BadGoal" error).bind fun r2 =>
  (isXo "BadKeys" error).bind fun r3 =>
  (isXo "Busy" error).bind fun r4 =>
  (isXo "EmptyQueue" error).bind fun r5 =>
  (isXo "NoRow" error).bind fun r6 =>
  (szO ([r1, r2, r3] ++ [r4, r5, r6])).bind fun r7 =>
  (isXo "NothingToUndo" error).bind fun r8 =>
  (isXo "NothingWaiting" error).bind fun r9 =>
  (szO (r7 ++ [r8, r9])).bind fun r10 =>
  (isXo "NoWord" error).bind fun r11 =>
  (isXo "TooManyOperations" error).bind fun r12 =>
  (szO (r10 ++ [r11, r12])).bind fun r13 =>
  (rngO 0 10).bind fun rg =>
  (lcO (fun (k : Int) => ((atI r13 k).bind fun r14 => if r14 then (some (some k)) else some none)) rg).bind fun z1 =>
  (szO z1).bind fun z =>
  some z
noncomputable def f__law_plain : Fn := runU N__law_plain m__law_plain
theorem tr__law_plain {S0 : Sto} (hn : ncS S0) {error : EXt} {r : List Int} (h : x__law_plain error = some r) : f__law_plain [eX error] S0 = some (.ok ((eL eI) r) S0) := by
  refine fin_ok (St.start hn) rfl ?_
  show Run S0 [] m__law_plain [some (eX error), none, none] (Fin S0 (eL eI) r)
  unfold x__law_plain at h
  unfold m__law_plain
  refine run_one ?_
  refine run_assoc ?_
  replace h := Option.bind_eq_some_iff.mp h; obtain ⟨r1, q1, h⟩ := h
  replace h := Option.bind_eq_some_iff.mp h; obtain ⟨r2, q2, h⟩ := h
  replace h := Option.bind_eq_some_iff.mp h; obtain ⟨r3, q3, h⟩ := h
  refine run_set st1 (lstT (e := eB) (xs := [r1, r2, r3]) (ev_cons (ev_isX v0 q1) (ev_cons (ev_isX v0 q2) (ev_cons (ev_isX v0 q3) ev_nil))) (by simp)) ?_
  refine run_assoc ?_
  replace h := Option.bind_eq_some_iff.mp h; obtain ⟨r4, q4, h⟩ := h
  replace h := Option.bind_eq_some_iff.mp h; obtain ⟨r5, q5, h⟩ := h
  replace h := Option.bind_eq_some_iff.mp h; obtain ⟨r6, q6, h⟩ := h
  replace h := Option.bind_eq_some_iff.mp h; obtain ⟨r7, q7, h⟩ := h
  refine run_set st1 (ev_o2 v1 (lstT (e := eB) (xs := [r4, r5, r6]) (ev_cons (ev_isX v0 q4) (ev_cons (ev_isX v0 q5) (ev_cons (ev_isX v0 q6) ev_nil))) (by simp)) fun _ h => op_addL lsL lsL q7) ?_
  refine run_assoc ?_
  replace h := Option.bind_eq_some_iff.mp h; obtain ⟨r8, q8, h⟩ := h
  replace h := Option.bind_eq_some_iff.mp h; obtain ⟨r9, q9, h⟩ := h
  replace h := Option.bind_eq_some_iff.mp h; obtain ⟨r10, q10, h⟩ := h
  refine run_set st1 (ev_o2 v1 (lstT (e := eB) (xs := [r8, r9]) (ev_cons (ev_isX v0 q8) (ev_cons (ev_isX v0 q9) ev_nil)) (by simp)) fun _ h => op_addL lsL lsL q10) ?_
  refine run_assoc ?_
  replace h := Option.bind_eq_some_iff.mp h; obtain ⟨r11, q11, h⟩ := h
  replace h := Option.bind_eq_some_iff.mp h; obtain ⟨r12, q12, h⟩ := h
  replace h := Option.bind_eq_some_iff.mp h; obtain ⟨r13, q13, h⟩ := h
  refine run_set st1 (ev_o2 v1 (lstT (e := eB) (xs := [r11, r12]) (ev_cons (ev_isX v0 q11) (ev_cons (ev_isX v0 q12) ev_nil)) (by simp)) fun _ h => op_addL lsL lsL q13) ?_
  replace h := Option.bind_eq_some_iff.mp h; obtain ⟨rg, q14, h⟩ := h
  replace h := Option.bind_eq_some_iff.mp h; obtain ⟨z1, q16, h⟩ := h
  replace h := Option.bind_eq_some_iff.mp h; obtain ⟨z, q17, h⟩ := h
  refine run_ret (ev_lcO (en := eI) (it_range1 (ev_cons ev_c ev_nil) q14) (wipe1 st2) (fun _ h => gOk_nil _) q16 q17 fun k o g => (by replace g := Option.bind_eq_some_iff.mp g; obtain ⟨r14, q15, g⟩ := g; cases hc : r14 with | true => (rw [ifT hc] at g; obtain rfl := Option.some.inj g; exact ⟨_, fun _ _ => (tg_n st2), X.cast hc (ev_tr (ev_o2 v1 v2 fun _ h => op_ix sqL q15) fun _ h => tr_bl _ _), v2⟩) | false => (rw [ifF hc] at g; obtain rfl := Option.some.inj g; exact ⟨_, fun _ _ => (tg_n st2), X.cast hc (ev_tr (ev_o2 v1 v2 fun _ h => op_ix sqL q15) fun _ h => tr_bl _ _)⟩))) fun _ hS => ?_
  cases h
  exact fin_val rfl hS
abbrev N__law_filled : List Str := ["_law_error", "_law_kinds", "_law_k"]
noncomputable def m__law_filled : MS := sSeq (sSet 1 (mLst (mCons (mIsX "BadKey" (mVar 0)) (mCons (mIsX "BadSequence" (mVar 0)) (mCons (mIsX "BadText" (mVar 0)) (mNil)))))) (sSeq (sSet 1 (mO2 sAdd (mVar 1) (mLst (mCons (mIsX "Duplicate" (mVar 0)) (mCons (mIsX "NoCode" (mVar 0)) (mCons (mIsX "NoIndex" (mVar 0)) (mNil))))))) (sSeq (sSet 1 (mO2 sAdd (mVar 1) (mLst (mCons (mIsX "NoLimit" (mVar 0)) (mCons (mIsX "NoSource" (mVar 0)) (mCons (mIsX "NotLast" (mVar 0)) (mNil))))))) (sSeq (sSet 1 (mO2 sAdd (mVar 1) (mLst (mCons (mIsX "NotPossible" (mVar 0)) (mCons (mIsX "NoTree" (mVar 0)) (mCons (mIsX "NoVersion" (mVar 0)) (mNil))))))) (sSeq (sSet 1 (mO2 sAdd (mVar 1) (mLst (mCons (mIsX "Rejected" (mVar 0)) (mCons (mIsX "TooLong" (mVar 0)) (mCons (mIsX "TooMany" (mVar 0)) (mNil))))))) (sSeq (sSet 1 (mO2 sAdd (mVar 1) (mLst (mCons (mIsX "TooNarrow" (mVar 0)) (mCons (mIsX "UnknownKey" (mVar 0)) (mCons (mIsX "WrongLength" (mVar 0)) (mNil))))))) (sRet (mLc (mRange1 (mCons (mC (.int 18)) (mNil))) (gN 2) (mTr (mO2 sIx (mVar 1) (mVar 2))) (mVar 2) [2])))))))
noncomputable def x__law_filled (error : EXt) : Option (List Int) :=
  (isXo "BadKey" error).bind fun r1 =>
  (isXo "BadSequence" error).bind fun r2 =>
  (isXo "BadText" error).bind fun r3 =>
  (isXo "Duplicate" error).bind fun r4 =>
  (isXo "NoCode" error).bind fun r5 =>
  (isXo "NoIndex" error).bind fun r6 =>
  (szO ([r1, r2, r3] ++ [r4, r5, r6])).bind fun r7 =>
  (isXo "NoLimit" error).bind fun r8 =>
  (isXo "NoSource" error).bind fun r9 =>
  (isXo "NotLast" error).bind fun r10 =>
  (szO (r7 ++ [r8, r9, r10])).bind fun r11 =>
  (isXo "NotPossible" error).bind fun r12 =>
  (isXo "NoTree" error).bind fun r13 =>
  (isXo "NoVersion" error).bind fun r14 =>
  (szO (r11 ++ [r12, r13, r14])).bind fun r15 =>
  (isXo "Rejected" error).bind fun r16 =>
  (isXo "TooLong" error).bind fun r17 =>
  (isXo "TooMany" error).bind fun r18 =>
  (szO (r15 ++ [r16, r17, r18])).bind fun r19 =>
  (isXo "TooNarrow" error).bind fun r20 =>
  (isXo "UnknownKey" error).bind fun r21 =>
  (isXo "WrongLength" error).bind fun r22 =>
  (szO (r19 ++ [r20, r21, r22])).bind fun r23 =>
  (rngO 0 18).bind fun rg =>
  (lcO (fun (k : Int) => ((atI r23 k).bind fun r24 => if r24 then (some (some k)) else some none)) rg).bind fun z1 =>
  (szO z1).bind fun z =>
  some z
noncomputable def f__law_filled : Fn := runU N__law_filled m__law_filled
theorem tr__law_filled {S0 : Sto} (hn : ncS S0) {error : EXt} {r : List Int} (h : x__law_filled error = some r) : f__law_filled [eX error] S0 = some (.ok ((eL eI) r) S0) := by
  refine fin_ok (St.start hn) rfl ?_
  show Run S0 [] m__law_filled [some (eX error), none, none] (Fin S0 (eL eI) r)
  unfold x__law_filled at h
  unfold m__law_filled
  refine run_one ?_
  refine run_assoc ?_
  replace h := Option.bind_eq_some_iff.mp h; obtain ⟨r1, q1, h⟩ := h
  replace h := Option.bind_eq_some_iff.mp h; obtain ⟨r2, q2, h⟩ := h
  replace h := Option.bind_eq_some_iff.mp h; obtain ⟨r3, q3, h⟩ := h
  refine run_set st1 (lstT (e := eB) (xs := [r1, r2, r3]) (ev_cons (ev_isX v0 q1) (ev_cons (ev_isX v0 q2) (ev_cons (ev_isX v0 q3) ev_nil))) (by simp)) ?_
  refine run_assoc ?_
  replace h := Option.bind_eq_some_iff.mp h; obtain ⟨r4, q4, h⟩ := h
  replace h := Option.bind_eq_some_iff.mp h; obtain ⟨r5, q5, h⟩ := h
  replace h := Option.bind_eq_some_iff.mp h; obtain ⟨r6, q6, h⟩ := h
  replace h := Option.bind_eq_some_iff.mp h; obtain ⟨r7, q7, h⟩ := h
  refine run_set st1 (ev_o2 v1 (lstT (e := eB) (xs := [r4, r5, r6]) (ev_cons (ev_isX v0 q4) (ev_cons (ev_isX v0 q5) (ev_cons (ev_isX v0 q6) ev_nil))) (by simp)) fun _ h => op_addL lsL lsL q7) ?_
  refine run_assoc ?_
  replace h := Option.bind_eq_some_iff.mp h; obtain ⟨r8, q8, h⟩ := h
  replace h := Option.bind_eq_some_iff.mp h; obtain ⟨r9, q9, h⟩ := h
  replace h := Option.bind_eq_some_iff.mp h; obtain ⟨r10, q10, h⟩ := h
  replace h := Option.bind_eq_some_iff.mp h; obtain ⟨r11, q11, h⟩ := h
  refine run_set st1 (ev_o2 v1 (lstT (e := eB) (xs := [r8, r9, r10]) (ev_cons (ev_isX v0 q8) (ev_cons (ev_isX v0 q9) (ev_cons (ev_isX v0 q10) ev_nil))) (by simp)) fun _ h => op_addL lsL lsL q11) ?_
  refine run_assoc ?_
  replace h := Option.bind_eq_some_iff.mp h; obtain ⟨r12, q12, h⟩ := h
  replace h := Option.bind_eq_some_iff.mp h; obtain ⟨r13, q13, h⟩ := h
  replace h := Option.bind_eq_some_iff.mp h; obtain ⟨r14, q14, h⟩ := h
  replace h := Option.bind_eq_some_iff.mp h; obtain ⟨r15, q15, h⟩ := h
  refine run_set st1 (ev_o2 v1 (lstT (e := eB) (xs := [r12, r13, r14]) (ev_cons (ev_isX v0 q12) (ev_cons (ev_isX v0 q13) (ev_cons (ev_isX v0 q14) ev_nil))) (by simp)) fun _ h => op_addL lsL lsL q15) ?_
  refine run_assoc ?_
  replace h := Option.bind_eq_some_iff.mp h; obtain ⟨r16, q16, h⟩ := h
  replace h := Option.bind_eq_some_iff.mp h; obtain ⟨r17, q17, h⟩ := h
  replace h := Option.bind_eq_some_iff.mp h; obtain ⟨r18, q18, h⟩ := h
  replace h := Option.bind_eq_some_iff.mp h; obtain ⟨r19, q19, h⟩ := h
  refine run_set st1 (ev_o2 v1 (lstT (e := eB) (xs := [r16, r17, r18]) (ev_cons (ev_isX v0 q16) (ev_cons (ev_isX v0 q17) (ev_cons (ev_isX v0 q18) ev_nil))) (by simp)) fun _ h => op_addL lsL lsL q19) ?_
  refine run_assoc ?_
  replace h := Option.bind_eq_some_iff.mp h; obtain ⟨r20, q20, h⟩ := h
  replace h := Option.bind_eq_some_iff.mp h; obtain ⟨r21, q21, h⟩ := h
  replace h := Option.bind_eq_some_iff.mp h; obtain ⟨r22, q22, h⟩ := h
  replace h := Option.bind_eq_some_iff.mp h; obtain ⟨r23, q23, h⟩ := h
  refine run_set st1 (ev_o2 v1 (lstT (e := eB) (xs := [r20, r21, r22]) (ev_cons (ev_isX v0 q20) (ev_cons (ev_isX v0 q21) (ev_cons (ev_isX v0 q22) ev_nil))) (by simp)) fun _ h => op_addL lsL lsL q23) ?_
  replace h := Option.bind_eq_some_iff.mp h; obtain ⟨rg, q24, h⟩ := h
  replace h := Option.bind_eq_some_iff.mp h; obtain ⟨z1, q26, h⟩ := h
  replace h := Option.bind_eq_some_iff.mp h; obtain ⟨z, q27, h⟩ := h
  refine run_ret (ev_lcO (en := eI) (it_range1 (ev_cons ev_c ev_nil) q24) (wipe1 st2) (fun _ h => gOk_nil _) q26 q27 fun k o g => (by replace g := Option.bind_eq_some_iff.mp g; obtain ⟨r24, q25, g⟩ := g; cases hc : r24 with | true => (rw [ifT hc] at g; obtain rfl := Option.some.inj g; exact ⟨_, fun _ _ => (tg_n st2), X.cast hc (ev_tr (ev_o2 v1 v2 fun _ h => op_ix sqL q25) fun _ h => tr_bl _ _), v2⟩) | false => (rw [ifF hc] at g; obtain rfl := Option.some.inj g; exact ⟨_, fun _ _ => (tg_n st2), X.cast hc (ev_tr (ev_o2 v1 v2 fun _ h => op_ix sqL q25) fun _ h => tr_bl _ _)⟩))) fun _ hS => ?_
  cases h
  exact fin_val rfl hS
abbrev N__law_alone : List Str := ["_law_errors", "_law_others", "_law_k", "_law_error", "_law_found"]
noncomputable def m__law_alone : MS := sSeq (sFor (mEnum (mCons (mVar 0) (mNil))) (gT 2 (gsCons (gN 2) (gsCons (gN 3) (gsNil)))) (sIf (mOrT (mTB (mO2 sNe (mCal 1 f__law_plain (mCons (mVar 3) (mNil))) (mLst (mCons (mVar 2) (mNil))))) (mOrT (mTB (mO2 sNeX (mCal 1 f__law_filled (mCons (mVar 3) (mNil))) (mLst (mNil)))) (mNotT (mTr (mIsX "PairError" (mVar 3)))))) (sRet (mC (.bl false))) (sNil))) (sSeq (sFor (mEnum (mCons (mVar 1) (mNil))) (gT 2 (gsCons (gN 2) (gsCons (gN 3) (gsNil)))) (sIf (mOrT (mTB (mO2 sNe (mCal 1 f__law_filled (mCons (mVar 3) (mNil))) (mLst (mCons (mVar 2) (mNil))))) (mOrT (mTB (mO2 sNeX (mCal 1 f__law_plain (mCons (mVar 3) (mNil))) (mLst (mNil)))) (mNotT (mTr (mIsX "PairError" (mVar 3)))))) (sRet (mC (.bl false))) (sNil))) (sSeq (sSet 4 (mLc (mVal (mO2 sAdd (mVar 0) (mVar 1))) (gN 3) (mNotT (mTr (mIsX "ValueError" (mVar 3)))) (mVar 3) [3])) (sRet (mAnd (mO2 sEqX (mVar 4) (mLst (mNil))) (mO2 sEqX (mO2 sAdd (mCal 1 f__law_plain (mCons (mMk0 "PairError") (mNil))) (mCal 1 f__law_filled (mCons (mMk0 "PairError") (mNil)))) (mLst (mNil)))))))
noncomputable def x__law_alone (errors : List EXt) (others : List EXt) : Option Bool :=
  (forT (fun (_ : Unit) ((k, error) : Int × EXt) =>
    (x__law_plain error).bind fun r1 =>
    (if (!decide (r1 = [k])) then some true else ((x__law_filled error).bind fun r2 => (if (!r2.isEmpty) then some true else ((isXo "PairError" error).bind fun r3 => some (!r3))).bind fun c1 => some c1)).bind fun c2 =>
    if c2 then
      some (.ret false)
    else
      some (.go ())) (enI errors) (() : Unit)).bind fun (o1 : Lp Bool Unit) =>
  lpK o1 id fun _ =>
  (forT (fun (_ : Unit) ((k1, error1) : Int × EXt) =>
    (x__law_filled error1).bind fun r4 =>
    (if (!decide (r4 = [k1])) then some true else ((x__law_plain error1).bind fun r5 => (if (!r5.isEmpty) then some true else ((isXo "PairError" error1).bind fun r6 => some (!r6))).bind fun c3 => some c3)).bind fun c4 =>
    if c4 then
      some (.ret false)
    else
      some (.go ())) (enI others) (() : Unit)).bind fun (o2 : Lp Bool Unit) =>
  lpK o2 id fun _ =>
  (szO (errors ++ others)).bind fun r7 =>
  (lcO (fun (error2 : EXt) => ((isXo "ValueError" error2).bind fun r8 => if (!r8) then (some (some error2)) else some none)) r7).bind fun z1 =>
  (szO z1).bind fun z =>
  (if (z.isEmpty) then ((x__law_plain ((("PairError", none) : EXt))).bind fun r9 => (x__law_filled ((("PairError", none) : EXt))).bind fun r10 => (szO (r9 ++ r10)).bind fun r11 => some (r11.isEmpty)) else some false).bind fun c5 =>
  some c5
noncomputable def f__law_alone : Fn := runU N__law_alone m__law_alone
theorem tr__law_alone {S0 : Sto} (hn : ncS S0) {errors : List EXt} {others : List EXt} {r : Bool} (h : x__law_alone errors others = some r) : f__law_alone [(eL eX) errors, (eL eX) others] S0 = some (.ok (eB r) S0) := by
  refine fin_ok (St.start hn) rfl ?_
  show Run S0 [] m__law_alone [some ((eL eX) errors), some ((eL eX) others), none, none, none] (Fin S0 eB r)
  unfold x__law_alone at h
  unfold m__law_alone
  refine run_one ?_
  refine run_assoc ?_
  replace h := Option.bind_eq_some_iff.mp h; obtain ⟨o1, ql, h⟩ := h
  refine run_forT (enc := (eR eI eX)) (s := ()) (fun (s : Unit) ρ S => ∃ j_2 j_3 : Option Val, ρ = [some ((eL eX) errors), some ((eL eX) others), j_2, j_3, none] ∧ St S0 S []) (fun (r : Bool) fl S => Fin S0 eB r fl S) (it_enum (en := eX) (ev_cons v0 ev_nil) fun _ h => items_L) ql (fun S hS => ⟨_, _, rfl, hS⟩) (fun _ _ _ _ => gOk_nil _) ?_ ?_ ?_
  · clear h ql
    rintro _ ⟨k, error⟩ o ρ S ⟨j_2, j_3, rfl, hS⟩ h
    try dsimp only at h hS
    try dsimp only
    refine ⟨_, (tg_p rfl (tg_c (tg_n st2) (tg_c (tg_n st3) tg_z))), Run.go hS (run_one ?_)⟩
    replace h := Option.bind_eq_some_iff.mp h; obtain ⟨r1, q1, h⟩ := h
    replace h := Option.bind_eq_some_iff.mp h; obtain ⟨c2, q5, h⟩ := h
    refine run_if c2 (ev_orP c2 (ev_tb (ev_o2 (ev_call (ev_cons v3 ev_nil) rfl fun _ hn => tr__law_plain hn q1) (lstT (e := eI) (xs := [k]) (ev_cons v2 ev_nil) (by simp)) fun _ h => (op_ne (e := (eL eI)) (by omega)))) (fun hc => by rw [ifT hc] at q5; cases q5; exact ⟨rfl, rfl, rfl⟩) (fun hc => by rw [ifF hc] at q5; replace q5 := Option.bind_eq_some_iff.mp q5; obtain ⟨r2, q2, q5⟩ := q5; replace q5 := Option.bind_eq_some_iff.mp q5; obtain ⟨c1, q4, q5⟩ := q5; obtain rfl := Option.some.inj q5; exact (ev_orP c1 (ev_tb (ev_o2 (ev_call (ev_cons v3 ev_nil) rfl fun _ hn => tr__law_filled hn q2) (lst0) fun _ h => op_neXe)) (fun hc => by rw [ifT hc] at q4; cases q4; exact ⟨rfl, rfl, rfl⟩) (fun hc => by rw [ifF hc] at q4; replace q4 := Option.bind_eq_some_iff.mp q4; obtain ⟨r3, q3, q4⟩ := q4; obtain rfl := Option.some.inj q4; exact (ev_notT (ev_tr (ev_isX v3 q3) fun _ h => tr_bl _ _)))))) (fun hc => ?_) (fun hc => ?_)
    · rw [ifT hc] at h
      refine run_ret ev_c fun _ hS => ?_
      cases h
      exact ⟨.inl ⟨_, rfl⟩, fin_val rfl hS⟩
    · rw [ifF hc] at h
      refine run_skip ?_
      cases h
      exact run_nil fun _ hS => ⟨_, .inl rfl, ⟨_, _, rfl, hS⟩⟩
  · rintro r fl S rfl hxx hF
    cases h
    exact hF
  rintro _ ρ S rfl ⟨j_2, j_3, rfl, hS⟩
  try rw [lpK_go] at h
  try dsimp only [lpK] at h hS
  try dsimp only
  refine Run.go hS ?_
  refine run_assoc ?_
  replace h := Option.bind_eq_some_iff.mp h; obtain ⟨o2, ql1, h⟩ := h
  refine run_forT (enc := (eR eI eX)) (s := ()) (fun (s : Unit) ρ S => ∃ j_2 j_3 : Option Val, ρ = [some ((eL eX) errors), some ((eL eX) others), j_2, j_3, none] ∧ St S0 S []) (fun (r : Bool) fl S => Fin S0 eB r fl S) (it_enum (en := eX) (ev_cons v1 ev_nil) fun _ h => items_L) ql1 (fun S hS => ⟨_, _, rfl, hS⟩) (fun _ _ _ _ => gOk_nil _) ?_ ?_ ?_
  · clear h ql1
    rintro _ ⟨k1, error1⟩ o ρ S ⟨j_2, j_3, rfl, hS⟩ h
    try dsimp only at h hS
    try dsimp only
    refine ⟨_, (tg_p rfl (tg_c (tg_n st2) (tg_c (tg_n st3) tg_z))), Run.go hS (run_one ?_)⟩
    replace h := Option.bind_eq_some_iff.mp h; obtain ⟨r4, q6, h⟩ := h
    replace h := Option.bind_eq_some_iff.mp h; obtain ⟨c4, q10, h⟩ := h
    refine run_if c4 (ev_orP c4 (ev_tb (ev_o2 (ev_call (ev_cons v3 ev_nil) rfl fun _ hn => tr__law_filled hn q6) (lstT (e := eI) (xs := [k1]) (ev_cons v2 ev_nil) (by simp)) fun _ h => (op_ne (e := (eL eI)) (by omega)))) (fun hc => by rw [ifT hc] at q10; cases q10; exact ⟨rfl, rfl, rfl⟩) (fun hc => by rw [ifF hc] at q10; replace q10 := Option.bind_eq_some_iff.mp q10; obtain ⟨r5, q7, q10⟩ := q10; replace q10 := Option.bind_eq_some_iff.mp q10; obtain ⟨c3, q9, q10⟩ := q10; obtain rfl := Option.some.inj q10; exact (ev_orP c3 (ev_tb (ev_o2 (ev_call (ev_cons v3 ev_nil) rfl fun _ hn => tr__law_plain hn q7) (lst0) fun _ h => op_neXe)) (fun hc => by rw [ifT hc] at q9; cases q9; exact ⟨rfl, rfl, rfl⟩) (fun hc => by rw [ifF hc] at q9; replace q9 := Option.bind_eq_some_iff.mp q9; obtain ⟨r6, q8, q9⟩ := q9; obtain rfl := Option.some.inj q9; exact (ev_notT (ev_tr (ev_isX v3 q8) fun _ h => tr_bl _ _)))))) (fun hc => ?_) (fun hc => ?_)
    · rw [ifT hc] at h
      refine run_ret ev_c fun _ hS => ?_
      cases h
      exact ⟨.inl ⟨_, rfl⟩, fin_val rfl hS⟩
    · rw [ifF hc] at h
      refine run_skip ?_
      cases h
      exact run_nil fun _ hS => ⟨_, .inl rfl, ⟨_, _, rfl, hS⟩⟩
  · rintro r fl S rfl hxx hF
    cases h
    exact hF
  rintro _ ρ S rfl ⟨j_2, j_3, rfl, hS⟩
  try rw [lpK_go] at h
  try dsimp only [lpK] at h hS
  try dsimp only
  refine Run.go hS ?_
  refine run_assoc ?_
  replace h := Option.bind_eq_some_iff.mp h; obtain ⟨r7, q11, h⟩ := h
  replace h := Option.bind_eq_some_iff.mp h; obtain ⟨z1, q13, h⟩ := h
  replace h := Option.bind_eq_some_iff.mp h; obtain ⟨z, q14, h⟩ := h
  refine run_set st4 (ev_lcO (en := eX) (it_val (ev_o2 v0 v1 fun _ h => op_addL lsL lsL q11) fun _ h => items_L) (wipe1 st3) (fun _ h => gOk_nil _) q13 q14 fun error2 o g => (by replace g := Option.bind_eq_some_iff.mp g; obtain ⟨r8, q12, g⟩ := g; cases hc : (!r8) with | true => (rw [ifT hc] at g; obtain rfl := Option.some.inj g; exact ⟨_, fun _ _ => (tg_n st3), X.cast hc (ev_notT (ev_tr (ev_isX v3 q12) fun _ h => tr_bl _ _)), v3⟩) | false => (rw [ifF hc] at g; obtain rfl := Option.some.inj g; exact ⟨_, fun _ _ => (tg_n st3), X.cast hc (ev_notT (ev_tr (ev_isX v3 q12) fun _ h => tr_bl _ _))⟩))) ?_
  replace h := Option.bind_eq_some_iff.mp h; obtain ⟨c5, q18, h⟩ := h
  refine run_ret (ev_andVP c5 (ev_o2 v4 (lst0) fun _ h => op_eqXe) (fun hc => by rw [ifT hc] at q18; replace q18 := Option.bind_eq_some_iff.mp q18; obtain ⟨r9, q15, q18⟩ := q18; replace q18 := Option.bind_eq_some_iff.mp q18; obtain ⟨r10, q16, q18⟩ := q18; replace q18 := Option.bind_eq_some_iff.mp q18; obtain ⟨r11, q17, q18⟩ := q18; obtain rfl := Option.some.inj q18; exact (ev_o2 (ev_o2 (ev_call (ev_cons ev_mk0 ev_nil) rfl fun _ hn => tr__law_plain hn q15) (ev_call (ev_cons ev_mk0 ev_nil) rfl fun _ hn => tr__law_filled hn q16) fun _ h => op_addL lsL lsL q17) (lst0) fun _ h => op_eqXe)) (fun hc => by rw [ifF hc] at q18; cases q18; exact ⟨rfl, rfl, rfl⟩)) fun _ hS => ?_
  cases h
  exact fin_val rfl hS
abbrev N__law_first_right : List Str := ["_law_values", "_law_key", "_law_sequence", "_law_text", "_law_twice", "_law_code", "_law_index", "_law_limit", "_law_source", "_law_last", "_law_fields", "_law_good", "_law_made"]
noncomputable def m__law_first_right : MS := sSeq (sPar3 1 2 3 (mCons (mMk1 "BadKey" "key" (mO2 sIx (mVar 0) (mC (.int 0)))) (mCons (mMk1 "BadSequence" "error" (mO2 sIx (mVar 0) (mC (.int 1)))) (mCons (mMk1 "BadText" "index" (mO2 sIx (mVar 0) (mC (.int 2)))) (mNil))))) (sSeq (sPar3 4 5 6 (mCons (mMk1 "Duplicate" "key" (mO2 sIx (mVar 0) (mC (.int 3)))) (mCons (mMk1 "NoCode" "value" (mO2 sIx (mVar 0) (mC (.int 4)))) (mCons (mMk1 "NoIndex" "index" (mO2 sIx (mVar 0) (mC (.int 5)))) (mNil))))) (sSeq (sPar3 7 8 9 (mCons (mMk1 "NoLimit" "limit" (mO2 sIx (mVar 0) (mC (.int 6)))) (mCons (mMk1 "NoSource" "value" (mO2 sIx (mVar 0) (mC (.int 7)))) (mCons (mMk1 "NotLast" "key" (mO2 sIx (mVar 0) (mC (.int 8)))) (mNil))))) (sSeq (sSet 10 (mLst (mCons (mFldX "BadKey" "key" (mVar 1)) (mCons (mFldX "BadSequence" "error" (mVar 2)) (mCons (mFldX "BadText" "index" (mVar 3)) (mCons (mFldX "Duplicate" "key" (mVar 4)) (mCons (mFldX "NoCode" "value" (mVar 5)) (mNil)))))))) (sSeq (sSet 10 (mO2 sAdd (mVar 10) (mLst (mCons (mFldX "NoIndex" "index" (mVar 6)) (mCons (mFldX "NoLimit" "limit" (mVar 7)) (mNil)))))) (sSeq (sSet 11 (mO2 sEq (mCa sReprX (mCons (mO2 sAdd (mVar 10) (mLst (mCons (mFldX "NoSource" "value" (mVar 8)) (mCons (mFldX "NotLast" "key" (mVar 9)) (mNil))))) (mNil))) (mCa sReprX (mCons (mSl sSlice (mVar 0) mNo (mPart (mC (.int 9)))) (mNil))))) (sSeq (sSet 12 (mLst (mCons (mVar 1) (mCons (mVar 2) (mCons (mVar 3) (mCons (mVar 4) (mCons (mVar 5) (mNil)))))))) (sRet (mLst (mCons (mVar 11) (mCons (mO2 sAdd (mVar 12) (mLst (mCons (mVar 6) (mCons (mVar 7) (mCons (mVar 8) (mCons (mVar 9) (mNil))))))) (mNil)))))))))))
noncomputable def x__law_first_right (values : List VV) : Option (Bool × (List EXt)) :=
  (atI values 0).bind fun r1 =>
  (atI values 1).bind fun r2 =>
  (atI values 2).bind fun r3 =>
  (some ((("BadKey", some ("key", r1)) : EXt))).bind fun key =>
  (some ((("BadSequence", some ("error", r2)) : EXt))).bind fun sequence =>
  (some ((("BadText", some ("index", r3)) : EXt))).bind fun text =>
  (atI values 3).bind fun r4 =>
  (atI values 4).bind fun r5 =>
  (atI values 5).bind fun r6 =>
  (some ((("Duplicate", some ("key", r4)) : EXt))).bind fun twice =>
  (some ((("NoCode", some ("value", r5)) : EXt))).bind fun code =>
  (some ((("NoIndex", some ("index", r6)) : EXt))).bind fun index =>
  (atI values 6).bind fun r7 =>
  (atI values 7).bind fun r8 =>
  (atI values 8).bind fun r9 =>
  (some ((("NoLimit", some ("limit", r7)) : EXt))).bind fun limit =>
  (some ((("NoSource", some ("value", r8)) : EXt))).bind fun source =>
  (some ((("NotLast", some ("key", r9)) : EXt))).bind fun last =>
  (fldXo "BadKey" "key" key).bind fun r10 =>
  (fldXo "BadSequence" "error" sequence).bind fun r11 =>
  (fldXo "BadText" "index" text).bind fun r12 =>
  (fldXo "Duplicate" "key" twice).bind fun r13 =>
  (fldXo "NoCode" "value" code).bind fun r14 =>
  (some [r10, r11, r12, r13, r14]).bind fun fields =>
  (fldXo "NoIndex" "index" index).bind fun r15 =>
  (fldXo "NoLimit" "limit" limit).bind fun r16 =>
  (szO (fields ++ [r15, r16])).bind fun r17 =>
  (fldXo "NoSource" "value" source).bind fun r18 =>
  (fldXo "NotLast" "key" last).bind fun r19 =>
  (szO (r17 ++ [r18, r19])).bind fun r20 =>
  (rpO ((eL eV) r20)).bind fun r21 =>
  (rpO ((eL eV) (cutL values none (some 9)))).bind fun r22 =>
  (some [key, sequence, text, twice, code]).bind fun made =>
  (szO (made ++ [index, limit, source, last])).bind fun r23 =>
  some ((decide (r21 = r22)), r23)
noncomputable def f__law_first_right : Fn := runU N__law_first_right m__law_first_right
theorem tr__law_first_right {S0 : Sto} (hn : ncS S0) {values : List VV} {r : Bool × (List EXt)} (h : x__law_first_right values = some r) : f__law_first_right [(eL eV) values] S0 = some (.ok ((eG eB (eL eX)) r) S0) := by
  refine fin_ok (St.start hn) rfl ?_
  show Run S0 [] m__law_first_right [some ((eL eV) values), none, none, none, none, none, none, none, none, none, none, none, none] (Fin S0 (eG eB (eL eX)) r)
  unfold x__law_first_right at h
  unfold m__law_first_right
  refine run_one ?_
  refine run_assoc ?_
  replace h := Option.bind_eq_some_iff.mp h; obtain ⟨r1, q1, h⟩ := h
  replace h := Option.bind_eq_some_iff.mp h; obtain ⟨r2, q2, h⟩ := h
  replace h := Option.bind_eq_some_iff.mp h; obtain ⟨r3, q3, h⟩ := h
  replace h := Option.bind_eq_some_iff.mp h; obtain ⟨key, q4, h⟩ := h
  replace h := Option.bind_eq_some_iff.mp h; obtain ⟨sequence, q5, h⟩ := h
  replace h := Option.bind_eq_some_iff.mp h; obtain ⟨text, q6, h⟩ := h
  refine run_par3 st1 st2 st3 (ev_cons (X.cast (congrArg eX (Option.some.inj q4)) (ev_mk1 (ev_o2 v0 ev_c fun _ h => op_ix sqL q1))) (ev_cons (X.cast (congrArg eX (Option.some.inj q5)) (ev_mk1 (ev_o2 v0 ev_c fun _ h => op_ix sqL q2))) (ev_cons (X.cast (congrArg eX (Option.some.inj q6)) (ev_mk1 (ev_o2 v0 ev_c fun _ h => op_ix sqL q3))) ev_nil))) ?_
  refine run_assoc ?_
  replace h := Option.bind_eq_some_iff.mp h; obtain ⟨r4, q7, h⟩ := h
  replace h := Option.bind_eq_some_iff.mp h; obtain ⟨r5, q8, h⟩ := h
  replace h := Option.bind_eq_some_iff.mp h; obtain ⟨r6, q9, h⟩ := h
  replace h := Option.bind_eq_some_iff.mp h; obtain ⟨twice, q10, h⟩ := h
  replace h := Option.bind_eq_some_iff.mp h; obtain ⟨code, q11, h⟩ := h
  replace h := Option.bind_eq_some_iff.mp h; obtain ⟨index, q12, h⟩ := h
  refine run_par3 st4 st5 st6 (ev_cons (X.cast (congrArg eX (Option.some.inj q10)) (ev_mk1 (ev_o2 v0 ev_c fun _ h => op_ix sqL q7))) (ev_cons (X.cast (congrArg eX (Option.some.inj q11)) (ev_mk1 (ev_o2 v0 ev_c fun _ h => op_ix sqL q8))) (ev_cons (X.cast (congrArg eX (Option.some.inj q12)) (ev_mk1 (ev_o2 v0 ev_c fun _ h => op_ix sqL q9))) ev_nil))) ?_
  refine run_assoc ?_
  replace h := Option.bind_eq_some_iff.mp h; obtain ⟨r7, q13, h⟩ := h
  replace h := Option.bind_eq_some_iff.mp h; obtain ⟨r8, q14, h⟩ := h
  replace h := Option.bind_eq_some_iff.mp h; obtain ⟨r9, q15, h⟩ := h
  replace h := Option.bind_eq_some_iff.mp h; obtain ⟨limit, q16, h⟩ := h
  replace h := Option.bind_eq_some_iff.mp h; obtain ⟨source, q17, h⟩ := h
  replace h := Option.bind_eq_some_iff.mp h; obtain ⟨last, q18, h⟩ := h
  refine run_par3 st7 st8 st9 (ev_cons (X.cast (congrArg eX (Option.some.inj q16)) (ev_mk1 (ev_o2 v0 ev_c fun _ h => op_ix sqL q13))) (ev_cons (X.cast (congrArg eX (Option.some.inj q17)) (ev_mk1 (ev_o2 v0 ev_c fun _ h => op_ix sqL q14))) (ev_cons (X.cast (congrArg eX (Option.some.inj q18)) (ev_mk1 (ev_o2 v0 ev_c fun _ h => op_ix sqL q15))) ev_nil))) ?_
  refine run_assoc ?_
  replace h := Option.bind_eq_some_iff.mp h; obtain ⟨r10, q19, h⟩ := h
  replace h := Option.bind_eq_some_iff.mp h; obtain ⟨r11, q20, h⟩ := h
  replace h := Option.bind_eq_some_iff.mp h; obtain ⟨r12, q21, h⟩ := h
  replace h := Option.bind_eq_some_iff.mp h; obtain ⟨r13, q22, h⟩ := h
  replace h := Option.bind_eq_some_iff.mp h; obtain ⟨r14, q23, h⟩ := h
  replace h := Option.bind_eq_some_iff.mp h; obtain ⟨fields, q24, h⟩ := h
  refine run_set st10 (X.cast (congrArg (eL eV) (Option.some.inj q24)) (lstT (e := eV) (xs := [r10, r11, r12, r13, r14]) (ev_cons (ev_fldX v1 q19) (ev_cons (ev_fldX v2 q20) (ev_cons (ev_fldX v3 q21) (ev_cons (ev_fldX v4 q22) (ev_cons (ev_fldX v5 q23) ev_nil))))) (by simp))) ?_
  refine run_assoc ?_
  replace h := Option.bind_eq_some_iff.mp h; obtain ⟨r15, q25, h⟩ := h
  replace h := Option.bind_eq_some_iff.mp h; obtain ⟨r16, q26, h⟩ := h
  replace h := Option.bind_eq_some_iff.mp h; obtain ⟨r17, q27, h⟩ := h
  refine run_set st10 (ev_o2 v10 (lstT (e := eV) (xs := [r15, r16]) (ev_cons (ev_fldX v6 q25) (ev_cons (ev_fldX v7 q26) ev_nil)) (by simp)) fun _ h => op_addL lsL lsL q27) ?_
  refine run_assoc ?_
  replace h := Option.bind_eq_some_iff.mp h; obtain ⟨r18, q28, h⟩ := h
  replace h := Option.bind_eq_some_iff.mp h; obtain ⟨r19, q29, h⟩ := h
  replace h := Option.bind_eq_some_iff.mp h; obtain ⟨r20, q30, h⟩ := h
  replace h := Option.bind_eq_some_iff.mp h; obtain ⟨r21, q31, h⟩ := h
  replace h := Option.bind_eq_some_iff.mp h; obtain ⟨r22, q32, h⟩ := h
  refine run_set st11 (ev_o2 (ev_ca (ev_cons (ev_o2 v10 (lstT (e := eV) (xs := [r18, r19]) (ev_cons (ev_fldX v8 q28) (ev_cons (ev_fldX v9 q29) ev_nil)) (by simp)) fun _ h => op_addL lsL lsL q30) ev_nil) fun _ _ => op_repr q31) (ev_ca (ev_cons (ev_sl v0 ev_no (ev_part ev_c) fun _ h => op_slL sqL) ev_nil) fun _ _ => op_repr q32) fun _ h => op_eqR) ?_
  refine run_assoc ?_
  replace h := Option.bind_eq_some_iff.mp h; obtain ⟨made, q33, h⟩ := h
  refine run_set st12 (X.cast (congrArg (eL eX) (Option.some.inj q33)) (lstT (e := eX) (xs := [key, sequence, text, twice, code]) (ev_cons v1 (ev_cons v2 (ev_cons v3 (ev_cons v4 (ev_cons v5 ev_nil))))) (by simp))) ?_
  replace h := Option.bind_eq_some_iff.mp h; obtain ⟨r23, q34, h⟩ := h
  refine run_ret (ev_lst (ev_cons v11 (ev_cons (ev_o2 v12 (lstT (e := eX) (xs := [index, limit, source, last]) (ev_cons v6 (ev_cons v7 (ev_cons v8 (ev_cons v9 ev_nil)))) (by simp)) fun _ h => op_addL lsL lsL q34) ev_nil)) (by simp)) fun _ hS => ?_
  cases h
  exact fin_lst (.cons (fz_nc _ (NC.nc (e := eB) _)) (.cons (fz_nc _ (NC.nc (e := (eL eX)) _)) .nil)) hS
abbrev N__law_second_right : List Str := ["_law_values", "_law_possible", "_law_tree", "_law_version", "_law_batch", "_law_long", "_law_many", "_law_narrow", "_law_key", "_law_word", "_law_fields", "_law_good", "_law_made"]
noncomputable def m__law_second_right : MS := sSeq (sPar 1 2 (mCons (mMk1 "NotPossible" "obstruction" (mO2 sIx (mVar 0) (mC (.int 0)))) (mCons (mMk1 "NoTree" "value" (mO2 sIx (mVar 0) (mC (.int 1)))) (mNil)))) (sSeq (sSet 3 (mMk1 "NoVersion" "version" (mO2 sIx (mVar 0) (mC (.int 2))))) (sSeq (sPar3 4 5 6 (mCons (mMk1 "Rejected" "index" (mO2 sIx (mVar 0) (mC (.int 3)))) (mCons (mMk1 "TooLong" "limit" (mO2 sIx (mVar 0) (mC (.int 4)))) (mCons (mMk1 "TooMany" "limit" (mO2 sIx (mVar 0) (mC (.int 5)))) (mNil))))) (sSeq (sPar 7 8 (mCons (mMk1 "TooNarrow" "width" (mO2 sIx (mVar 0) (mC (.int 6)))) (mCons (mMk1 "UnknownKey" "key" (mO2 sIx (mVar 0) (mC (.int 7)))) (mNil)))) (sSeq (sSet 9 (mMk1 "WrongLength" "length" (mO2 sIx (mVar 0) (mC (.int 8))))) (sSeq (sSet 10 (mLst (mCons (mFldX "NotPossible" "obstruction" (mVar 1)) (mCons (mFldX "NoTree" "value" (mVar 2)) (mCons (mFldX "NoVersion" "version" (mVar 3)) (mCons (mFldX "Rejected" "index" (mVar 4)) (mNil))))))) (sSeq (sSet 10 (mO2 sAdd (mVar 10) (mLst (mCons (mFldX "TooLong" "limit" (mVar 5)) (mCons (mFldX "TooMany" "limit" (mVar 6)) (mCons (mFldX "TooNarrow" "width" (mVar 7)) (mNil))))))) (sSeq (sSet 11 (mO2 sEq (mCa sReprX (mCons (mO2 sAdd (mVar 10) (mLst (mCons (mFldX "UnknownKey" "key" (mVar 8)) (mCons (mFldX "WrongLength" "length" (mVar 9)) (mNil))))) (mNil))) (mCa sReprX (mCons (mSl sSlice (mVar 0) mNo (mPart (mC (.int 9)))) (mNil))))) (sSeq (sSet 12 (mLst (mCons (mVar 1) (mCons (mVar 2) (mCons (mVar 3) (mCons (mVar 4) (mCons (mVar 5) (mNil)))))))) (sRet (mLst (mCons (mVar 11) (mCons (mO2 sAdd (mVar 12) (mLst (mCons (mVar 6) (mCons (mVar 7) (mCons (mVar 8) (mCons (mVar 9) (mNil))))))) (mNil)))))))))))))
noncomputable def x__law_second_right (values : List VV) : Option (Bool × (List EXt)) :=
  (atI values 0).bind fun r1 =>
  (atI values 1).bind fun r2 =>
  (some ((("NotPossible", some ("obstruction", r1)) : EXt))).bind fun possible =>
  (some ((("NoTree", some ("value", r2)) : EXt))).bind fun tree =>
  (atI values 2).bind fun r3 =>
  (some ((("NoVersion", some ("version", r3)) : EXt))).bind fun version =>
  (atI values 3).bind fun r4 =>
  (atI values 4).bind fun r5 =>
  (atI values 5).bind fun r6 =>
  (some ((("Rejected", some ("index", r4)) : EXt))).bind fun batch =>
  (some ((("TooLong", some ("limit", r5)) : EXt))).bind fun long =>
  (some ((("TooMany", some ("limit", r6)) : EXt))).bind fun many =>
  (atI values 6).bind fun r7 =>
  (atI values 7).bind fun r8 =>
  (some ((("TooNarrow", some ("width", r7)) : EXt))).bind fun narrow =>
  (some ((("UnknownKey", some ("key", r8)) : EXt))).bind fun key =>
  (atI values 8).bind fun r9 =>
  (some ((("WrongLength", some ("length", r9)) : EXt))).bind fun word =>
  (fldXo "NotPossible" "obstruction" possible).bind fun r10 =>
  (fldXo "NoTree" "value" tree).bind fun r11 =>
  (fldXo "NoVersion" "version" version).bind fun r12 =>
  (fldXo "Rejected" "index" batch).bind fun r13 =>
  (fldXo "TooLong" "limit" long).bind fun r14 =>
  (fldXo "TooMany" "limit" many).bind fun r15 =>
  (fldXo "TooNarrow" "width" narrow).bind fun r16 =>
  (szO ([r10, r11, r12, r13] ++ [r14, r15, r16])).bind fun r17 =>
  (fldXo "UnknownKey" "key" key).bind fun r18 =>
  (fldXo "WrongLength" "length" word).bind fun r19 =>
  (szO (r17 ++ [r18, r19])).bind fun r20 =>
  (rpO ((eL eV) r20)).bind fun r21 =>
  (rpO ((eL eV) (cutL values none (some 9)))).bind fun r22 =>
  (some [possible, tree, version, batch, long]).bind fun made =>
  (szO (made ++ [many, narrow, key, word])).bind fun r23 =>
  some ((decide (r21 = r22)), r23)
noncomputable def f__law_second_right : Fn := runU N__law_second_right m__law_second_right
theorem tr__law_second_right {S0 : Sto} (hn : ncS S0) {values : List VV} {r : Bool × (List EXt)} (h : x__law_second_right values = some r) : f__law_second_right [(eL eV) values] S0 = some (.ok ((eG eB (eL eX)) r) S0) := by
  refine fin_ok (St.start hn) rfl ?_
  show Run S0 [] m__law_second_right [some ((eL eV) values), none, none, none, none, none, none, none, none, none, none, none, none] (Fin S0 (eG eB (eL eX)) r)
  unfold x__law_second_right at h
  unfold m__law_second_right
  refine run_one ?_
  refine run_assoc ?_
  replace h := Option.bind_eq_some_iff.mp h; obtain ⟨r1, q1, h⟩ := h
  replace h := Option.bind_eq_some_iff.mp h; obtain ⟨r2, q2, h⟩ := h
  replace h := Option.bind_eq_some_iff.mp h; obtain ⟨possible, q3, h⟩ := h
  replace h := Option.bind_eq_some_iff.mp h; obtain ⟨tree, q4, h⟩ := h
  refine run_par st1 st2 (ev_cons (X.cast (congrArg eX (Option.some.inj q3)) (ev_mk1 (ev_o2 v0 ev_c fun _ h => op_ix sqL q1))) (ev_cons (X.cast (congrArg eX (Option.some.inj q4)) (ev_mk1 (ev_o2 v0 ev_c fun _ h => op_ix sqL q2))) ev_nil)) ?_
  refine run_assoc ?_
  replace h := Option.bind_eq_some_iff.mp h; obtain ⟨r3, q5, h⟩ := h
  replace h := Option.bind_eq_some_iff.mp h; obtain ⟨version, q6, h⟩ := h
  refine run_set st3 (X.cast (congrArg eX (Option.some.inj q6)) (ev_mk1 (ev_o2 v0 ev_c fun _ h => op_ix sqL q5))) ?_
  refine run_assoc ?_
  replace h := Option.bind_eq_some_iff.mp h; obtain ⟨r4, q7, h⟩ := h
  replace h := Option.bind_eq_some_iff.mp h; obtain ⟨r5, q8, h⟩ := h
  replace h := Option.bind_eq_some_iff.mp h; obtain ⟨r6, q9, h⟩ := h
  replace h := Option.bind_eq_some_iff.mp h; obtain ⟨batch, q10, h⟩ := h
  replace h := Option.bind_eq_some_iff.mp h; obtain ⟨long, q11, h⟩ := h
  replace h := Option.bind_eq_some_iff.mp h; obtain ⟨many, q12, h⟩ := h
  refine run_par3 st4 st5 st6 (ev_cons (X.cast (congrArg eX (Option.some.inj q10)) (ev_mk1 (ev_o2 v0 ev_c fun _ h => op_ix sqL q7))) (ev_cons (X.cast (congrArg eX (Option.some.inj q11)) (ev_mk1 (ev_o2 v0 ev_c fun _ h => op_ix sqL q8))) (ev_cons (X.cast (congrArg eX (Option.some.inj q12)) (ev_mk1 (ev_o2 v0 ev_c fun _ h => op_ix sqL q9))) ev_nil))) ?_
  refine run_assoc ?_
  replace h := Option.bind_eq_some_iff.mp h; obtain ⟨r7, q13, h⟩ := h
  replace h := Option.bind_eq_some_iff.mp h; obtain ⟨r8, q14, h⟩ := h
  replace h := Option.bind_eq_some_iff.mp h; obtain ⟨narrow, q15, h⟩ := h
  replace h := Option.bind_eq_some_iff.mp h; obtain ⟨key, q16, h⟩ := h
  refine run_par st7 st8 (ev_cons (X.cast (congrArg eX (Option.some.inj q15)) (ev_mk1 (ev_o2 v0 ev_c fun _ h => op_ix sqL q13))) (ev_cons (X.cast (congrArg eX (Option.some.inj q16)) (ev_mk1 (ev_o2 v0 ev_c fun _ h => op_ix sqL q14))) ev_nil)) ?_
  refine run_assoc ?_
  replace h := Option.bind_eq_some_iff.mp h; obtain ⟨r9, q17, h⟩ := h
  replace h := Option.bind_eq_some_iff.mp h; obtain ⟨word, q18, h⟩ := h
  refine run_set st9 (X.cast (congrArg eX (Option.some.inj q18)) (ev_mk1 (ev_o2 v0 ev_c fun _ h => op_ix sqL q17))) ?_
  refine run_assoc ?_
  replace h := Option.bind_eq_some_iff.mp h; obtain ⟨r10, q19, h⟩ := h
  replace h := Option.bind_eq_some_iff.mp h; obtain ⟨r11, q20, h⟩ := h
  replace h := Option.bind_eq_some_iff.mp h; obtain ⟨r12, q21, h⟩ := h
  replace h := Option.bind_eq_some_iff.mp h; obtain ⟨r13, q22, h⟩ := h
  refine run_set st10 (lstT (e := eV) (xs := [r10, r11, r12, r13]) (ev_cons (ev_fldX v1 q19) (ev_cons (ev_fldX v2 q20) (ev_cons (ev_fldX v3 q21) (ev_cons (ev_fldX v4 q22) ev_nil)))) (by simp)) ?_
  refine run_assoc ?_
  replace h := Option.bind_eq_some_iff.mp h; obtain ⟨r14, q23, h⟩ := h
  replace h := Option.bind_eq_some_iff.mp h; obtain ⟨r15, q24, h⟩ := h
  replace h := Option.bind_eq_some_iff.mp h; obtain ⟨r16, q25, h⟩ := h
  replace h := Option.bind_eq_some_iff.mp h; obtain ⟨r17, q26, h⟩ := h
  refine run_set st10 (ev_o2 v10 (lstT (e := eV) (xs := [r14, r15, r16]) (ev_cons (ev_fldX v5 q23) (ev_cons (ev_fldX v6 q24) (ev_cons (ev_fldX v7 q25) ev_nil))) (by simp)) fun _ h => op_addL lsL lsL q26) ?_
  refine run_assoc ?_
  replace h := Option.bind_eq_some_iff.mp h; obtain ⟨r18, q27, h⟩ := h
  replace h := Option.bind_eq_some_iff.mp h; obtain ⟨r19, q28, h⟩ := h
  replace h := Option.bind_eq_some_iff.mp h; obtain ⟨r20, q29, h⟩ := h
  replace h := Option.bind_eq_some_iff.mp h; obtain ⟨r21, q30, h⟩ := h
  replace h := Option.bind_eq_some_iff.mp h; obtain ⟨r22, q31, h⟩ := h
  refine run_set st11 (ev_o2 (ev_ca (ev_cons (ev_o2 v10 (lstT (e := eV) (xs := [r18, r19]) (ev_cons (ev_fldX v8 q27) (ev_cons (ev_fldX v9 q28) ev_nil)) (by simp)) fun _ h => op_addL lsL lsL q29) ev_nil) fun _ _ => op_repr q30) (ev_ca (ev_cons (ev_sl v0 ev_no (ev_part ev_c) fun _ h => op_slL sqL) ev_nil) fun _ _ => op_repr q31) fun _ h => op_eqR) ?_
  refine run_assoc ?_
  replace h := Option.bind_eq_some_iff.mp h; obtain ⟨made, q32, h⟩ := h
  refine run_set st12 (X.cast (congrArg (eL eX) (Option.some.inj q32)) (lstT (e := eX) (xs := [possible, tree, version, batch, long]) (ev_cons v1 (ev_cons v2 (ev_cons v3 (ev_cons v4 (ev_cons v5 ev_nil))))) (by simp))) ?_
  replace h := Option.bind_eq_some_iff.mp h; obtain ⟨r23, q33, h⟩ := h
  refine run_ret (ev_lst (ev_cons v11 (ev_cons (ev_o2 v12 (lstT (e := eX) (xs := [many, narrow, key, word]) (ev_cons v6 (ev_cons v7 (ev_cons v8 (ev_cons v9 ev_nil)))) (by simp)) fun _ h => op_addL lsL lsL q33) ev_nil)) (by simp)) fun _ hS => ?_
  cases h
  exact fin_lst (.cons (fz_nc _ (NC.nc (e := eB) _)) (.cons (fz_nc _ (NC.nc (e := (eL eX)) _)) .nil)) hS
abbrev N_law : List Str := ["_law_script", "_law_stream_here", "_law_one", "_law_two", "_law_errors", "_law_limits", "_law_k"]
noncomputable def m_law : MS := sSeq (sSet 1 (mCal 1 f_t_stream (mCons (mVar 0) (mNil)))) (sSeq (sSet 2 (mCal 1 f__law_first_right (mCons (mLc (mRange1 (mCons (mC (.int 9)) (mNil))) (gN 6) (mYes) (mCal 1 f_t_odd (mCons (mVar 1) (mNil))) [6]) (mNil)))) (sSeq (sSet 3 (mCal 1 f__law_second_right (mCons (mLc (mRange1 (mCons (mC (.int 9)) (mNil))) (gN 6) (mYes) (mCal 1 f_t_odd (mCons (mVar 1) (mNil))) [6]) (mNil)))) (sSeq (sSet 4 (mLst (mCons (mMk0 "BadBatch") (mCons (mMk0 "BadGoal") (mCons (mMk0 "BadKeys") (mCons (mMk0 "Busy") (mCons (mMk0 "EmptyQueue") (mCons (mMk0 "NoRow") (mCons (mMk0 "NothingToUndo") (mNil)))))))))) (sSeq (sSet 4 (mO2 sAdd (mVar 4) (mLst (mCons (mMk0 "NothingWaiting") (mCons (mMk0 "NoWord") (mCons (mMk0 "TooManyOperations") (mNil))))))) (sSeq (sIf (mOrT (mNotT (mTr (mO2 sIx (mVar 2) (mC (.int 0))))) (mOrT (mNotT (mTr (mO2 sIx (mVar 3) (mC (.int 0))))) (mNotT (mTr (mCal 2 f__law_alone (mCons (mVar 4) (mCons (mO2 sAdd (mO2 sIx (mVar 2) (mC (.int 1))) (mO2 sIx (mVar 3) (mC (.int 1)))) (mNil)))))))) (sRet (mC (.bl false))) (sNil)) (sSeq (sSet 5 (mLst (mCons (mC (.int 1000000000000)) (mCons (mC (.int 24)) (mCons (mC (.int 2000)) (mCons (mC (.int 12)) (mCons (mC (.int 8)) (mCons (mC (.int 8)) (mCons (mC (.int 5)) (mCons (mC (.int 10)) (mNil))))))))))) (sSeq (sSet 5 (mO2 sAdd (mVar 5) (mLst (mCons (mC (.int 60)) (mCons (mC (.int 30)) (mCons (mC (.int 40)) (mCons (mC (.int 8)) (mCons (mC (.int 5)) (mNil))))))))) (sRet (mO2 sEq (mCa sReprX (mCons (mVar 5) (mNil))) (mCa sReprX (mCons (mLst (mCons (mO2 aPow (mC (.int 10)) (mC (.int 12))) (mCons (mC (.int 24)) (mCons (mC (.int 2000)) (mCons (mC (.int 12)) (mCons (mC (.int 8)) (mCons (mC (.int 8)) (mCons (mC (.int 5)) (mCons (mC (.int 10)) (mCons (mC (.int 60)) (mCons (mC (.int 30)) (mCons (mC (.int 40)) (mCons (mC (.int 8)) (mCons (mC (.int 5)) (mNil))))))))))))))) (mNil))))))))))))
noncomputable def x_law (script : List Int) : Option Bool :=
  (strO script).bind fun s1 =>
  (rngO 0 9).bind fun rg =>
  (lcS (fun (s3 : Stm) (k : Int) => ((x_t_odd s3).bind fun (r2, s4) => some (some r2, s4))) rg s1).bind fun (z1, s5) =>
  (szO z1).bind fun z2 =>
  (x__law_first_right z2).bind fun r3 =>
  (rngO 0 9).bind fun rg1 =>
  (lcS (fun (s7 : Stm) (k1 : Int) => ((x_t_odd s7).bind fun (r5, s8) => some (some r5, s8))) rg1 s5).bind fun (z4, s9) =>
  (szO z4).bind fun z5 =>
  (x__law_second_right z5).bind fun r6 =>
  (some [((("BadBatch", none) : EXt)), ((("BadGoal", none) : EXt)), ((("BadKeys", none) : EXt)), ((("Busy", none) : EXt)), ((("EmptyQueue", none) : EXt)), ((("NoRow", none) : EXt)), ((("NothingToUndo", none) : EXt))]).bind fun errors =>
  (szO (errors ++ [((("NothingWaiting", none) : EXt)), ((("NoWord", none) : EXt)), ((("TooManyOperations", none) : EXt))])).bind fun r7 =>
  (if (!r3.1) then some true else ((if (!r6.1) then some true else ((szO (r3.2 ++ r6.2)).bind fun r8 => (x__law_alone r7 r8).bind fun r9 => some (!r9))).bind fun c1 => some c1)).bind fun c2 =>
  if c2 then
    some false
  else
    (some [1000000000000, 24, 2000, 12, 8, 8, 5, 10]).bind fun limits =>
    (szO (limits ++ [60, 30, 40, 8, 5])).bind fun r10 =>
    (rpO ((eL eI) r10)).bind fun r11 =>
    (rpO ((eL eI) [1000000000000, 24, 2000, 12, 8, 8, 5, 10, 60, 30, 40, 8, 5])).bind fun r12 =>
    some (decide (r11 = r12))
noncomputable def f_law : Fn := runU N_law m_law
theorem tr_law {S0 : Sto} (hn : ncS S0) {script : List Int} {r : Bool} (h : x_law script = some r) : f_law [Val.scr script] S0 = some (.ok (eB r) S0) := by
  refine fin_ok (St.start hn) rfl ?_
  show Run S0 [] m_law [some (Val.scr script), none, none, none, none, none, none] (Fin S0 eB r)
  unfold x_law at h
  unfold m_law
  refine run_one ?_
  refine run_assoc ?_
  replace h := Option.bind_eq_some_iff.mp h; obtain ⟨s1, q1, h⟩ := h
  refine run_stream q1 v0 fun k_stream_here ρ_ hk_k_stream_here hρ => ?_
  obtain rfl := st1.symm.trans hρ
  refine run_assoc ?_
  replace h := Option.bind_eq_some_iff.mp h; obtain ⟨rg, q2, h⟩ := h
  replace h := Option.bind_eq_some_iff.mp h; obtain ⟨⟨z1, s5⟩, q5, h⟩ := h
  dsimp only at h
  replace h := Option.bind_eq_some_iff.mp h; obtain ⟨z2, q6, h⟩ := h
  replace h := Option.bind_eq_some_iff.mp h; obtain ⟨r3, q7, h⟩ := h
  refine run_set st2 (ev_call (ev_cons (ev_lcS (en := eV) (BF := fun (s : Stm) => S0) (CF := fun (s : Stm) => [(k_stream_here, s.cell)]) (it_range1 (ev_cons ev_c ev_nil) q2) (wipe1 st6) (fun _ _ h => gOk_nil _) q5 q6 fun s3 k o s' g => (by replace g := Option.bind_eq_some_iff.mp g; obtain ⟨⟨r2, s4⟩, q4, g⟩ := g; dsimp only at g; cases g; exact ⟨_, fun _ _ => (tg_n st6), _, ev_yes, (ev_callO 0 (ev_cons v1 ev_nil) rfl gt0 hk_k_stream_here (Stm.nc _) st0 fun _ hn hk => tr_t_odd hn hk q4)⟩)) ev_nil) rfl fun _ hn => tr__law_first_right hn q7) ?_
  refine run_assoc ?_
  replace h := Option.bind_eq_some_iff.mp h; obtain ⟨rg1, q8, h⟩ := h
  replace h := Option.bind_eq_some_iff.mp h; obtain ⟨⟨z4, s9⟩, q11, h⟩ := h
  dsimp only at h
  replace h := Option.bind_eq_some_iff.mp h; obtain ⟨z5, q12, h⟩ := h
  replace h := Option.bind_eq_some_iff.mp h; obtain ⟨r6, q13, h⟩ := h
  refine run_set st3 (ev_call (ev_cons (ev_lcS (en := eV) (BF := fun (s : Stm) => S0) (CF := fun (s : Stm) => [(k_stream_here, s.cell)]) (it_range1 (ev_cons ev_c ev_nil) q8) (wipe1 st6) (fun _ _ h => gOk_nil _) q11 q12 fun s7 k1 o s' g => (by replace g := Option.bind_eq_some_iff.mp g; obtain ⟨⟨r5, s8⟩, q10, g⟩ := g; dsimp only at g; cases g; exact ⟨_, fun _ _ => (tg_n st6), _, ev_yes, (ev_callO 0 (ev_cons v1 ev_nil) rfl gt0 hk_k_stream_here (Stm.nc _) st0 fun _ hn hk => tr_t_odd hn hk q10)⟩)) ev_nil) rfl fun _ hn => tr__law_second_right hn q13) ?_
  refine run_assoc ?_
  replace h := Option.bind_eq_some_iff.mp h; obtain ⟨errors, q14, h⟩ := h
  refine run_set st4 (X.cast (congrArg (eL eX) (Option.some.inj q14)) (lstT (e := eX) (xs := [((("BadBatch", none) : EXt)), ((("BadGoal", none) : EXt)), ((("BadKeys", none) : EXt)), ((("Busy", none) : EXt)), ((("EmptyQueue", none) : EXt)), ((("NoRow", none) : EXt)), ((("NothingToUndo", none) : EXt))]) (ev_cons ev_mk0 (ev_cons ev_mk0 (ev_cons ev_mk0 (ev_cons ev_mk0 (ev_cons ev_mk0 (ev_cons ev_mk0 (ev_cons ev_mk0 ev_nil))))))) (by simp))) ?_
  refine run_assoc ?_
  replace h := Option.bind_eq_some_iff.mp h; obtain ⟨r7, q15, h⟩ := h
  refine run_set st4 (ev_o2 v4 (lstT (e := eX) (xs := [((("NothingWaiting", none) : EXt)), ((("NoWord", none) : EXt)), ((("TooManyOperations", none) : EXt))]) (ev_cons ev_mk0 (ev_cons ev_mk0 (ev_cons ev_mk0 ev_nil))) (by simp)) fun _ h => op_addL lsL lsL q15) ?_
  refine run_assoc ?_
  replace h := Option.bind_eq_some_iff.mp h; obtain ⟨c2, q19, h⟩ := h
  refine run_if c2 (ev_orP c2 (ev_notT (ev_tr (ev_o2 v2 ev_c fun _ _ => rfl) fun _ h => tr_bl _ _)) (fun hc => by rw [ifT hc] at q19; cases q19; exact ⟨rfl, rfl, rfl⟩) (fun hc => by rw [ifF hc] at q19; replace q19 := Option.bind_eq_some_iff.mp q19; obtain ⟨c1, q18, q19⟩ := q19; obtain rfl := Option.some.inj q19; exact (ev_orP c1 (ev_notT (ev_tr (ev_o2 v3 ev_c fun _ _ => rfl) fun _ h => tr_bl _ _)) (fun hc => by rw [ifT hc] at q18; cases q18; exact ⟨rfl, rfl, rfl⟩) (fun hc => by rw [ifF hc] at q18; replace q18 := Option.bind_eq_some_iff.mp q18; obtain ⟨r8, q16, q18⟩ := q18; replace q18 := Option.bind_eq_some_iff.mp q18; obtain ⟨r9, q17, q18⟩ := q18; obtain rfl := Option.some.inj q18; exact (ev_notT (ev_tr (ev_call (ev_cons v4 (ev_cons (ev_o2 (ev_o2 v2 ev_c fun _ _ => rfl) (ev_o2 v3 ev_c fun _ _ => rfl) fun _ h => op_addL lsL lsL q16) ev_nil)) rfl fun _ hn => tr__law_alone hn q17) fun _ h => tr_bl _ _)))))) (fun hc => ?_) (fun hc => ?_)
  · rw [ifT hc] at h
    refine run_ret ev_c fun _ hS => ?_
    cases h
    exact fin_val rfl hS
  · rw [ifF hc] at h
    refine run_skip ?_
    refine run_assoc ?_
    replace h := Option.bind_eq_some_iff.mp h; obtain ⟨limits, q20, h⟩ := h
    refine run_set st5 (X.cast (congrArg (eL eI) (Option.some.inj q20)) (lstT (e := eI) (xs := [1000000000000, 24, 2000, 12, 8, 8, 5, 10]) (ev_cons ev_c (ev_cons ev_c (ev_cons ev_c (ev_cons ev_c (ev_cons ev_c (ev_cons ev_c (ev_cons ev_c (ev_cons ev_c ev_nil)))))))) (by simp))) ?_
    refine run_assoc ?_
    replace h := Option.bind_eq_some_iff.mp h; obtain ⟨r10, q21, h⟩ := h
    refine run_set st5 (ev_o2 v5 (lstT (e := eI) (xs := [60, 30, 40, 8, 5]) (ev_cons ev_c (ev_cons ev_c (ev_cons ev_c (ev_cons ev_c (ev_cons ev_c ev_nil))))) (by simp)) fun _ h => op_addL lsL lsL q21) ?_
    replace h := Option.bind_eq_some_iff.mp h; obtain ⟨r11, q22, h⟩ := h
    replace h := Option.bind_eq_some_iff.mp h; obtain ⟨r12, q23, h⟩ := h
    refine run_ret (ev_o2 (ev_ca (ev_cons v5 ev_nil) fun _ _ => op_repr q22) (ev_ca (ev_cons (lstT (e := eI) (xs := [1000000000000, 24, 2000, 12, 8, 8, 5, 10, 60, 30, 40, 8, 5]) (ev_cons (ev_o2 ev_c ev_c fun _ _ => op_pow (show fPow 10 12 = some 1000000000000 by decide)) (ev_cons ev_c (ev_cons ev_c (ev_cons ev_c (ev_cons ev_c (ev_cons ev_c (ev_cons ev_c (ev_cons ev_c (ev_cons ev_c (ev_cons ev_c (ev_cons ev_c (ev_cons ev_c (ev_cons ev_c ev_nil))))))))))))) (by simp)) ev_nil) fun _ _ => op_repr q23) fun _ h => op_eqR) fun _ hS => ?_
    cases h
    exact fin_val rfl hS
--@plain
def shwB (w d : Nat) (v : Val) : Bool := match rdX v with
  | some x => x.showable && decide (x.shown.length ≤ w) && decide (x.depth ≤ d)
  | none => false
theorem shw_of {w d : Nat} {v : Val} (h : shwB w d v = true) : Shw v w d := by
  unfold shwB at h
  split at h
  · rename_i x e
    simp only [Bool.and_eq_true, decide_eq_true_eq] at h
    exact ⟨x, e, h.1.1, h.1.2, h.2⟩
  · cases h
theorem odds_shw : ∀ v ∈ oddsV, Shw v.1 300 3 := by
  have h : oddsV.all (fun v => shwB 300 3 v.1) = true := by decide +kernel
  exact fun v hv => shw_of (List.all_eq_true.mp h v hv)
theorem nine {xs : List VV} (h : xs.length = 9) : ∃ a b c d e f g i j, xs = [a, b, c, d, e, f, g, i, j] := by
  match xs, h with
  | [a, b, c, d, e, f, g, i, j], _ => exact ⟨a, b, c, d, e, f, g, i, j, rfl⟩
theorem rp_nine {xs : List VV} (h : xs.length = 9) (hx : ∀ v ∈ xs, v ∈ oddsV) : ∃ r, rpO (eL eV xs) = some r := by
  refine Shw.lst (w := 300) (dp := 3) (fun x hm => ?_) (by simp [h]) (by decide)
  obtain ⟨v, hv, rfl⟩ := List.mem_map.mp hm
  exact odds_shw v (hx v hv)
def made1 : List VV → List EXt
  | [a, b, c, d, e, f, g, i, j] => [("BadKey", some ("key", a)), ("BadSequence", some ("error", b)), ("BadText", some ("index", c)), ("Duplicate", some ("key", d)), ("NoCode", some ("value", e)), ("NoIndex", some ("index", f)), ("NoLimit", some ("limit", g)), ("NoSource", some ("value", i)), ("NotLast", some ("key", j))]
  | _ => []
def made2 : List VV → List EXt
  | [a, b, c, d, e, f, g, i, j] => [("NotPossible", some ("obstruction", a)), ("NoTree", some ("value", b)), ("NoVersion", some ("version", c)), ("Rejected", some ("index", d)), ("TooLong", some ("limit", e)), ("TooMany", some ("limit", f)), ("TooNarrow", some ("width", g)), ("UnknownKey", some ("key", i)), ("WrongLength", some ("length", j))]
  | _ => []
theorem first_ok {xs : List VV} (h : xs.length = 9) (hx : ∀ v ∈ xs, v ∈ oddsV) : x__law_first_right xs = some (true, made1 xs) := by
  obtain ⟨r, hr⟩ := rp_nine h hx
  obtain ⟨a, b, c, d, e, f, g, i, j, rfl⟩ := nine h
  have h9 : cutL [a, b, c, d, e, f, g, i, j] none (some 9) = [a, b, c, d, e, f, g, i, j] := by rfl
  unfold x__law_first_right
  rw [h9]
  show (rpO (eL eV [a, b, c, d, e, f, g, i, j])).bind _ = _
  rw [hr, Option.bind_some, Option.bind_some]
  show some (decide (r = r), made1 [a, b, c, d, e, f, g, i, j]) = _
  rw [decide_eq_true rfl]
theorem second_ok {xs : List VV} (h : xs.length = 9) (hx : ∀ v ∈ xs, v ∈ oddsV) : x__law_second_right xs = some (true, made2 xs) := by
  obtain ⟨r, hr⟩ := rp_nine h hx
  obtain ⟨a, b, c, d, e, f, g, i, j, rfl⟩ := nine h
  have h9 : cutL [a, b, c, d, e, f, g, i, j] none (some 9) = [a, b, c, d, e, f, g, i, j] := by rfl
  unfold x__law_second_right
  rw [h9]
  show (rpO (eL eV [a, b, c, d, e, f, g, i, j])).bind _ = _
  rw [hr, Option.bind_some, Option.bind_some]
  show some (decide (r = r), made2 [a, b, c, d, e, f, g, i, j]) = _
  rw [decide_eq_true rfl]
def errs : List EXt := [("BadBatch", none), ("BadGoal", none), ("BadKeys", none), ("Busy", none), ("EmptyQueue", none), ("NoRow", none), ("NothingToUndo", none), ("NothingWaiting", none), ("NoWord", none), ("TooManyOperations", none)]
theorem alone_ok {xs ys : List VV} (h : xs.length = 9) (h' : ys.length = 9) : x__law_alone errs (made1 xs ++ made2 ys) = some true := by
  obtain ⟨a, b, c, d, e, f, g, i, j, rfl⟩ := nine h
  obtain ⟨a', b', c', d', e', f', g', i', j', rfl⟩ := nine h'
  kernel_rfl
theorem law_ok (ns : List Int) (h : ns.length ≤ 63) : x_law ns = some true := by
  have : Ret (x_law ns) fun b => b = true := by
    obtain ⟨s, e, ok⟩ := strO_ok h
    unfold x_law
    refine ret_eq e ?_
    refine ret_rng (by decide) (by decide) (by decide) (by decide) ?_
    refine ret_bind (lcS_idx (fun s : Stm => s.Ok) (fun _ v => v ∈ oddsV) ok fun x _ s ok => ret_odd ok fun v s' hv o => ret_some ⟨⟨v, rfl, hv⟩, o⟩) fun p hp => ?_
    obtain ⟨xs, s1⟩ := p
    obtain ⟨l1, m1, o1⟩ := hp
    dsimp only at l1 m1 o1 ⊢
    have l1' : xs.length = 9 := l1.trans (by decide)
    have hm1 : ∀ v ∈ xs, v ∈ oddsV := fun v hv => by
      obtain ⟨i, hi, e⟩ := List.getElem_of_mem hv
      exact m1 i _ v (List.getElem?_eq_getElem (by rw [← l1]; exact hi)) (by rw [← e]; exact List.getElem?_eq_getElem hi)
    refine ret_sz (by omega) (ret_eq (first_ok l1' hm1) ?_)
    refine ret_rng (by decide) (by decide) (by decide) (by decide) ?_
    refine ret_bind (lcS_idx (fun s : Stm => s.Ok) (fun _ v => v ∈ oddsV) o1 fun x _ s ok => ret_odd ok fun v s' hv o => ret_some ⟨⟨v, rfl, hv⟩, o⟩) fun p hp => ?_
    obtain ⟨ys, s2⟩ := p
    obtain ⟨l2, m2, o2⟩ := hp
    dsimp only at l2 m2 o2 ⊢
    have l2' : ys.length = 9 := l2.trans (by decide)
    have hm2 : ∀ v ∈ ys, v ∈ oddsV := fun v hv => by
      obtain ⟨i, hi, e⟩ := List.getElem_of_mem hv
      exact m2 i _ v (List.getElem?_eq_getElem (by rw [← l2]; exact hi)) (by rw [← e]; exact List.getElem?_eq_getElem hi)
    refine ret_sz (by omega) (ret_eq (second_ok l2' hm2) ?_)
    refine ret_let (ret_sz (by simp) ?_)
    have hl : (made1 xs ++ made2 ys).length ≤ 16777216 := by
      obtain ⟨a, b, c, d, e, f, g, i, j, rfl⟩ := nine l1'
      obtain ⟨a', b', c', d', e', f', g', i', j', rfl⟩ := nine l2'
      simp [made1, made2]
    simp only [Bool.not_true, Bool.false_eq_true, if_false]
    rw [szO_ok hl, Option.bind_some]
    refine ret_eq (a := false) ?_ ?_
    · show ((x__law_alone errs (made1 xs ++ made2 ys)).bind _).bind _ = _
      rw [alone_ok l1' l2']
      rfl
    simp only [Bool.false_eq_true, if_false]
    refine ret_eq (a := ([1000000000000, 24, 2000, 12, 8, 8, 5, 10] : List Int)) rfl ?_
    refine ret_sz (by decide) ?_
    have hs : shwB 300 3 (eL eI [1000000000000, 24, 2000, 12, 8, 8, 5, 10, 60, 30, 40, 8, 5]) = true := by decide +kernel
    obtain ⟨r, hr⟩ := (shw_of hs).rpO (by decide) (by decide)
    refine ret_eq hr (ret_eq hr (ret_some (by simp)))
  obtain ⟨b, e, rfl⟩ := this
  exact e

theorem law_true : ∀ ns : List Int, ns.length ≤ 63 → ∃ S', f_law [.scr ns] [] = some (.ok (.bl true) S') := fun ns h => ⟨[], tr_law ncS_nil (law_ok ns h)⟩
theorem ok__law_stream {P : Program} {w : World} {K : PySem.W.Frag} {mg : Str → Option Value} {base : Heap} {a : Addr} {fd : FuncData} (hB : BOk K mg base) (D : DefAt K mg "_law_stream" s__law_stream ["_law_script"] a fd)
    (b_abs : mg "abs" = none)
    (b_len : mg "len" = none)
    : FnG P w K mg base CX0 1 a fd ["_law_script"] (spF K mg 1 f_t_stream) := by
  refine fn_ok (k := 0) D.fn sc__law_stream (keeps_len (N := N_t_stream) rfl keeps_runK) (fun cdv A outer s H E hG0 hr0 => ?_) (okF_nox _)
  have hG : A.guards = some [] := hG0
  have hr := hr0
  have hu := hr0.units
  exact (gss_one (gs_ret (ge_new (ga_cons (ge_lc rfl sc__law_stream.nd (gi_val (ge_slice x_slice (ge_var 0) gp_none (gp_some ge_int))) (blkOk_by (N := ["_law_script", "_law_cell"]) (sc := defScope s__law_stream) (own := [("_law_cell", 1)]) (by decide +kernel)) (by decide) (fun _ _ _ _ _ => (gg_name 1 sc__law_stream.nd)) (fun _ _ _ _ _ => gts_nil) (fun _ _ _ _ _ => (ge_callB c_abs (by rfl) b_abs bt_abs (ga_cons (ge_var 1) ga_nil)))) (ga_cons ge_int (ga_cons ge_int (ga_cons (ge_op o_add ge_int (ge_op o_mulI ge_int (ge_callB c_len (by rfl) b_len bt_len (ga_cons (ge_var 0) ga_nil)))) ga_nil)))))))
theorem ok__law_first_right {P : Program} {w : World} {K : PySem.W.Frag} {mg : Str → Option Value} {base : Heap} {a : Addr} {fd : FuncData} (hB : BOk K mg base) (D : DefAt K mg "_law_first_right" s__law_first_right ["_law_values"] a fd)
    {C_PairError : Addr} (g_PairError : mg "PairError" = some (.ref C_PairError))
    {C_BadBatch : Addr} (g_BadBatch : mg "BadBatch" = some (.ref C_BadBatch))
    {C_BadGoal : Addr} (g_BadGoal : mg "BadGoal" = some (.ref C_BadGoal))
    {C_BadKeys : Addr} (g_BadKeys : mg "BadKeys" = some (.ref C_BadKeys))
    {C_Busy : Addr} (g_Busy : mg "Busy" = some (.ref C_Busy))
    {C_EmptyQueue : Addr} (g_EmptyQueue : mg "EmptyQueue" = some (.ref C_EmptyQueue))
    {C_NoRow : Addr} (g_NoRow : mg "NoRow" = some (.ref C_NoRow))
    {C_NothingToUndo : Addr} (g_NothingToUndo : mg "NothingToUndo" = some (.ref C_NothingToUndo))
    {C_NothingWaiting : Addr} (g_NothingWaiting : mg "NothingWaiting" = some (.ref C_NothingWaiting))
    {C_NoWord : Addr} (g_NoWord : mg "NoWord" = some (.ref C_NoWord))
    {C_TooManyOperations : Addr} (g_TooManyOperations : mg "TooManyOperations" = some (.ref C_TooManyOperations))
    {C_BadKey : Addr} (g_BadKey : mg "BadKey" = some (.ref C_BadKey))
    {C_BadSequence : Addr} (g_BadSequence : mg "BadSequence" = some (.ref C_BadSequence))
    {C_BadText : Addr} (g_BadText : mg "BadText" = some (.ref C_BadText))
    {C_Duplicate : Addr} (g_Duplicate : mg "Duplicate" = some (.ref C_Duplicate))
    {C_NoCode : Addr} (g_NoCode : mg "NoCode" = some (.ref C_NoCode))
    {C_NoIndex : Addr} (g_NoIndex : mg "NoIndex" = some (.ref C_NoIndex))
    {C_NoLimit : Addr} (g_NoLimit : mg "NoLimit" = some (.ref C_NoLimit))
    {C_NoSource : Addr} (g_NoSource : mg "NoSource" = some (.ref C_NoSource))
    {C_NotLast : Addr} (g_NotLast : mg "NotLast" = some (.ref C_NotLast))
    {C_NotPossible : Addr} (g_NotPossible : mg "NotPossible" = some (.ref C_NotPossible))
    {C_NoTree : Addr} (g_NoTree : mg "NoTree" = some (.ref C_NoTree))
    {C_NoVersion : Addr} (g_NoVersion : mg "NoVersion" = some (.ref C_NoVersion))
    {C_Rejected : Addr} (g_Rejected : mg "Rejected" = some (.ref C_Rejected))
    {C_TooLong : Addr} (g_TooLong : mg "TooLong" = some (.ref C_TooLong))
    {C_TooMany : Addr} (g_TooMany : mg "TooMany" = some (.ref C_TooMany))
    {C_TooNarrow : Addr} (g_TooNarrow : mg "TooNarrow" = some (.ref C_TooNarrow))
    {C_UnknownKey : Addr} (g_UnknownKey : mg "UnknownKey" = some (.ref C_UnknownKey))
    {C_WrongLength : Addr} (g_WrongLength : mg "WrongLength" = some (.ref C_WrongLength))
    {fI_BadKey : Addr} {qn_BadKey : Str} (T_BadKey : E_key.Txt K mg "BadKey" qn_BadKey C_BadKey fI_BadKey)
    {fI_BadSequence : Addr} {qn_BadSequence : Str} (T_BadSequence : E_error.Txt K mg "BadSequence" qn_BadSequence C_BadSequence fI_BadSequence)
    {fI_BadText : Addr} {qn_BadText : Str} (T_BadText : E_index.Txt K mg "BadText" qn_BadText C_BadText fI_BadText)
    {fI_Duplicate : Addr} {qn_Duplicate : Str} (T_Duplicate : E_key.Txt K mg "Duplicate" qn_Duplicate C_Duplicate fI_Duplicate)
    {fI_NoCode : Addr} {qn_NoCode : Str} (T_NoCode : E_value.Txt K mg "NoCode" qn_NoCode C_NoCode fI_NoCode)
    {fI_NoIndex : Addr} {qn_NoIndex : Str} (T_NoIndex : E_index.Txt K mg "NoIndex" qn_NoIndex C_NoIndex fI_NoIndex)
    {fI_NoLimit : Addr} {qn_NoLimit : Str} (T_NoLimit : E_limit.Txt K mg "NoLimit" qn_NoLimit C_NoLimit fI_NoLimit)
    {fI_NoSource : Addr} {qn_NoSource : Str} (T_NoSource : E_value.Txt K mg "NoSource" qn_NoSource C_NoSource fI_NoSource)
    {fI_NotLast : Addr} {qn_NotLast : Str} (T_NotLast : E_key.Txt K mg "NotLast" qn_NotLast C_NotLast fI_NotLast)
    (XL : ExL K C_PairError [("PairError", C_PairError), ("BadBatch", C_BadBatch), ("BadGoal", C_BadGoal), ("BadKeys", C_BadKeys), ("Busy", C_Busy), ("EmptyQueue", C_EmptyQueue), ("NoRow", C_NoRow), ("NothingToUndo", C_NothingToUndo), ("NothingWaiting", C_NothingWaiting), ("NoWord", C_NoWord), ("TooManyOperations", C_TooManyOperations), ("BadKey", C_BadKey), ("BadSequence", C_BadSequence), ("BadText", C_BadText), ("Duplicate", C_Duplicate), ("NoCode", C_NoCode), ("NoIndex", C_NoIndex), ("NoLimit", C_NoLimit), ("NoSource", C_NoSource), ("NotLast", C_NotLast), ("NotPossible", C_NotPossible), ("NoTree", C_NoTree), ("NoVersion", C_NoVersion), ("Rejected", C_Rejected), ("TooLong", C_TooLong), ("TooMany", C_TooMany), ("TooNarrow", C_TooNarrow), ("UnknownKey", C_UnknownKey), ("WrongLength", C_WrongLength)])
    (b_repr : mg "repr" = none)
    : FnG P w K mg base CX0 1 a fd ["_law_values"] (spF K mg 1 f__law_first_right) := by
  refine fn_ok (k := 0) D.fn sc__law_first_right (keeps_len (N := N__law_first_right) rfl keeps_runU) (fun cdv A outer s H E hG0 hr0 => ?_) (okF_nox _)
  have hG : A.guards = some [] := hG0
  have hr := hr0
  have hu := hr0.units
  exact (gss_cons (gs_par3 1 2 3 rfl sc__law_first_right.nd (ga_cons (ge_mk1 (XL.all ("BadKey", C_BadKey) (by simp)).at_ (E_key.pmk T_BadKey hr (pa_cons (ge_ix x_ix (ge_var 0) ge_int) pa_nil) rfl (by decide) rfl rfl)) (ga_cons (ge_mk1 (XL.all ("BadSequence", C_BadSequence) (by simp)).at_ (E_error.pmk T_BadSequence hr (pa_cons (ge_ix x_ix (ge_var 0) ge_int) pa_nil) rfl (by decide) rfl rfl)) (ga_cons (ge_mk1 (XL.all ("BadText", C_BadText) (by simp)).at_ (E_index.pmk T_BadText hr (pa_cons (ge_ix x_ix (ge_var 0) ge_int) pa_nil) rfl (by decide) rfl rfl)) ga_nil)))) (gss_cons (gs_par3 4 5 6 rfl sc__law_first_right.nd (ga_cons (ge_mk1 (XL.all ("Duplicate", C_Duplicate) (by simp)).at_ (E_key.pmk T_Duplicate hr (pa_cons (ge_ix x_ix (ge_var 0) ge_int) pa_nil) rfl (by decide) rfl rfl)) (ga_cons (ge_mk1 (XL.all ("NoCode", C_NoCode) (by simp)).at_ (E_value.pmk T_NoCode hr (pa_cons (ge_ix x_ix (ge_var 0) ge_int) pa_nil) rfl (by decide) rfl rfl)) (ga_cons (ge_mk1 (XL.all ("NoIndex", C_NoIndex) (by simp)).at_ (E_index.pmk T_NoIndex hr (pa_cons (ge_ix x_ix (ge_var 0) ge_int) pa_nil) rfl (by decide) rfl rfl)) ga_nil)))) (gss_cons (gs_par3 7 8 9 rfl sc__law_first_right.nd (ga_cons (ge_mk1 (XL.all ("NoLimit", C_NoLimit) (by simp)).at_ (E_limit.pmk T_NoLimit hr (pa_cons (ge_ix x_ix (ge_var 0) ge_int) pa_nil) rfl (by decide) rfl rfl)) (ga_cons (ge_mk1 (XL.all ("NoSource", C_NoSource) (by simp)).at_ (E_value.pmk T_NoSource hr (pa_cons (ge_ix x_ix (ge_var 0) ge_int) pa_nil) rfl (by decide) rfl rfl)) (ga_cons (ge_mk1 (XL.all ("NotLast", C_NotLast) (by simp)).at_ (E_key.pmk T_NotLast hr (pa_cons (ge_ix x_ix (ge_var 0) ge_int) pa_nil) rfl (by decide) rfl rfl)) ga_nil)))) (gss_cons (gs_set 10 sc__law_first_right.nd (ge_lst (ga_cons (ge_fldX (XL.all ("BadKey", C_BadKey) (by simp)).at_ (XL.all ("BadKey", C_BadKey) (by simp)).I T_BadKey.hdC T_BadKey.noN (ge_var 1)) (ga_cons (ge_fldX (XL.all ("BadSequence", C_BadSequence) (by simp)).at_ (XL.all ("BadSequence", C_BadSequence) (by simp)).I T_BadSequence.hdC T_BadSequence.noN (ge_var 2)) (ga_cons (ge_fldX (XL.all ("BadText", C_BadText) (by simp)).at_ (XL.all ("BadText", C_BadText) (by simp)).I T_BadText.hdC T_BadText.noN (ge_var 3)) (ga_cons (ge_fldX (XL.all ("Duplicate", C_Duplicate) (by simp)).at_ (XL.all ("Duplicate", C_Duplicate) (by simp)).I T_Duplicate.hdC T_Duplicate.noN (ge_var 4)) (ga_cons (ge_fldX (XL.all ("NoCode", C_NoCode) (by simp)).at_ (XL.all ("NoCode", C_NoCode) (by simp)).I T_NoCode.hdC T_NoCode.noN (ge_var 5)) ga_nil))))))) (gss_cons (gs_set 10 sc__law_first_right.nd (ge_op o_add (ge_var 10) (ge_lst (ga_cons (ge_fldX (XL.all ("NoIndex", C_NoIndex) (by simp)).at_ (XL.all ("NoIndex", C_NoIndex) (by simp)).I T_NoIndex.hdC T_NoIndex.noN (ge_var 6)) (ga_cons (ge_fldX (XL.all ("NoLimit", C_NoLimit) (by simp)).at_ (XL.all ("NoLimit", C_NoLimit) (by simp)).I T_NoLimit.hdC T_NoLimit.noN (ge_var 7)) ga_nil))))) (gss_cons (gs_set 11 sc__law_first_right.nd (ge_cmp (o_eq hu) (ge_callB (c_reprX hG hB.mods hu) (by rfl) b_repr bt_repr (ga_cons (ge_op o_add (ge_var 10) (ge_lst (ga_cons (ge_fldX (XL.all ("NoSource", C_NoSource) (by simp)).at_ (XL.all ("NoSource", C_NoSource) (by simp)).I T_NoSource.hdC T_NoSource.noN (ge_var 8)) (ga_cons (ge_fldX (XL.all ("NotLast", C_NotLast) (by simp)).at_ (XL.all ("NotLast", C_NotLast) (by simp)).I T_NotLast.hdC T_NotLast.noN (ge_var 9)) ga_nil)))) ga_nil)) (ge_callB (c_reprX hG hB.mods hu) (by rfl) b_repr bt_repr (ga_cons (ge_slice x_slice (ge_var 0) gp_none (gp_some ge_int)) ga_nil)))) (gss_cons (gs_set 12 sc__law_first_right.nd (ge_lst (ga_cons (ge_var 1) (ga_cons (ge_var 2) (ga_cons (ge_var 3) (ga_cons (ge_var 4) (ga_cons (ge_var 5) ga_nil))))))) (gss_one (gs_ret (ge_lst (ga_cons (ge_var 11) (ga_cons (ge_op o_add (ge_var 12) (ge_lst (ga_cons (ge_var 6) (ga_cons (ge_var 7) (ga_cons (ge_var 8) (ga_cons (ge_var 9) ga_nil)))))) ga_nil))))))))))))
theorem ok__law_second_right {P : Program} {w : World} {K : PySem.W.Frag} {mg : Str → Option Value} {base : Heap} {a : Addr} {fd : FuncData} (hB : BOk K mg base) (D : DefAt K mg "_law_second_right" s__law_second_right ["_law_values"] a fd)
    {C_PairError : Addr} (g_PairError : mg "PairError" = some (.ref C_PairError))
    {C_BadBatch : Addr} (g_BadBatch : mg "BadBatch" = some (.ref C_BadBatch))
    {C_BadGoal : Addr} (g_BadGoal : mg "BadGoal" = some (.ref C_BadGoal))
    {C_BadKeys : Addr} (g_BadKeys : mg "BadKeys" = some (.ref C_BadKeys))
    {C_Busy : Addr} (g_Busy : mg "Busy" = some (.ref C_Busy))
    {C_EmptyQueue : Addr} (g_EmptyQueue : mg "EmptyQueue" = some (.ref C_EmptyQueue))
    {C_NoRow : Addr} (g_NoRow : mg "NoRow" = some (.ref C_NoRow))
    {C_NothingToUndo : Addr} (g_NothingToUndo : mg "NothingToUndo" = some (.ref C_NothingToUndo))
    {C_NothingWaiting : Addr} (g_NothingWaiting : mg "NothingWaiting" = some (.ref C_NothingWaiting))
    {C_NoWord : Addr} (g_NoWord : mg "NoWord" = some (.ref C_NoWord))
    {C_TooManyOperations : Addr} (g_TooManyOperations : mg "TooManyOperations" = some (.ref C_TooManyOperations))
    {C_BadKey : Addr} (g_BadKey : mg "BadKey" = some (.ref C_BadKey))
    {C_BadSequence : Addr} (g_BadSequence : mg "BadSequence" = some (.ref C_BadSequence))
    {C_BadText : Addr} (g_BadText : mg "BadText" = some (.ref C_BadText))
    {C_Duplicate : Addr} (g_Duplicate : mg "Duplicate" = some (.ref C_Duplicate))
    {C_NoCode : Addr} (g_NoCode : mg "NoCode" = some (.ref C_NoCode))
    {C_NoIndex : Addr} (g_NoIndex : mg "NoIndex" = some (.ref C_NoIndex))
    {C_NoLimit : Addr} (g_NoLimit : mg "NoLimit" = some (.ref C_NoLimit))
    {C_NoSource : Addr} (g_NoSource : mg "NoSource" = some (.ref C_NoSource))
    {C_NotLast : Addr} (g_NotLast : mg "NotLast" = some (.ref C_NotLast))
    {C_NotPossible : Addr} (g_NotPossible : mg "NotPossible" = some (.ref C_NotPossible))
    {C_NoTree : Addr} (g_NoTree : mg "NoTree" = some (.ref C_NoTree))
    {C_NoVersion : Addr} (g_NoVersion : mg "NoVersion" = some (.ref C_NoVersion))
    {C_Rejected : Addr} (g_Rejected : mg "Rejected" = some (.ref C_Rejected))
    {C_TooLong : Addr} (g_TooLong : mg "TooLong" = some (.ref C_TooLong))
    {C_TooMany : Addr} (g_TooMany : mg "TooMany" = some (.ref C_TooMany))
    {C_TooNarrow : Addr} (g_TooNarrow : mg "TooNarrow" = some (.ref C_TooNarrow))
    {C_UnknownKey : Addr} (g_UnknownKey : mg "UnknownKey" = some (.ref C_UnknownKey))
    {C_WrongLength : Addr} (g_WrongLength : mg "WrongLength" = some (.ref C_WrongLength))
    {fI_NotPossible : Addr} {qn_NotPossible : Str} (T_NotPossible : E_obstruction.Txt K mg "NotPossible" qn_NotPossible C_NotPossible fI_NotPossible)
    {fI_NoTree : Addr} {qn_NoTree : Str} (T_NoTree : E_value.Txt K mg "NoTree" qn_NoTree C_NoTree fI_NoTree)
    {fI_NoVersion : Addr} {qn_NoVersion : Str} (T_NoVersion : E_version.Txt K mg "NoVersion" qn_NoVersion C_NoVersion fI_NoVersion)
    {fI_Rejected : Addr} {qn_Rejected : Str} (T_Rejected : E_index.Txt K mg "Rejected" qn_Rejected C_Rejected fI_Rejected)
    {fI_TooLong : Addr} {qn_TooLong : Str} (T_TooLong : E_limit.Txt K mg "TooLong" qn_TooLong C_TooLong fI_TooLong)
    {fI_TooMany : Addr} {qn_TooMany : Str} (T_TooMany : E_limit.Txt K mg "TooMany" qn_TooMany C_TooMany fI_TooMany)
    {fI_TooNarrow : Addr} {qn_TooNarrow : Str} (T_TooNarrow : E_width.Txt K mg "TooNarrow" qn_TooNarrow C_TooNarrow fI_TooNarrow)
    {fI_UnknownKey : Addr} {qn_UnknownKey : Str} (T_UnknownKey : E_key.Txt K mg "UnknownKey" qn_UnknownKey C_UnknownKey fI_UnknownKey)
    {fI_WrongLength : Addr} {qn_WrongLength : Str} (T_WrongLength : E_length.Txt K mg "WrongLength" qn_WrongLength C_WrongLength fI_WrongLength)
    (XL : ExL K C_PairError [("PairError", C_PairError), ("BadBatch", C_BadBatch), ("BadGoal", C_BadGoal), ("BadKeys", C_BadKeys), ("Busy", C_Busy), ("EmptyQueue", C_EmptyQueue), ("NoRow", C_NoRow), ("NothingToUndo", C_NothingToUndo), ("NothingWaiting", C_NothingWaiting), ("NoWord", C_NoWord), ("TooManyOperations", C_TooManyOperations), ("BadKey", C_BadKey), ("BadSequence", C_BadSequence), ("BadText", C_BadText), ("Duplicate", C_Duplicate), ("NoCode", C_NoCode), ("NoIndex", C_NoIndex), ("NoLimit", C_NoLimit), ("NoSource", C_NoSource), ("NotLast", C_NotLast), ("NotPossible", C_NotPossible), ("NoTree", C_NoTree), ("NoVersion", C_NoVersion), ("Rejected", C_Rejected), ("TooLong", C_TooLong), ("TooMany", C_TooMany), ("TooNarrow", C_TooNarrow), ("UnknownKey", C_UnknownKey), ("WrongLength", C_WrongLength)])
    (b_repr : mg "repr" = none)
    : FnG P w K mg base CX0 1 a fd ["_law_values"] (spF K mg 1 f__law_second_right) := by
  refine fn_ok (k := 0) D.fn sc__law_second_right (keeps_len (N := N__law_second_right) rfl keeps_runU) (fun cdv A outer s H E hG0 hr0 => ?_) (okF_nox _)
  have hG : A.guards = some [] := hG0
  have hr := hr0
  have hu := hr0.units
  exact (gss_cons (gs_par 1 2 rfl sc__law_second_right.nd (ga_cons (ge_mk1 (XL.all ("NotPossible", C_NotPossible) (by simp)).at_ (E_obstruction.pmk T_NotPossible hr (pa_cons (ge_ix x_ix (ge_var 0) ge_int) pa_nil) rfl (by decide) rfl rfl)) (ga_cons (ge_mk1 (XL.all ("NoTree", C_NoTree) (by simp)).at_ (E_value.pmk T_NoTree hr (pa_cons (ge_ix x_ix (ge_var 0) ge_int) pa_nil) rfl (by decide) rfl rfl)) ga_nil))) (gss_cons (gs_set 3 sc__law_second_right.nd (ge_mk1 (XL.all ("NoVersion", C_NoVersion) (by simp)).at_ (E_version.pmk T_NoVersion hr (pa_cons (ge_ix x_ix (ge_var 0) ge_int) pa_nil) rfl (by decide) rfl rfl))) (gss_cons (gs_par3 4 5 6 rfl sc__law_second_right.nd (ga_cons (ge_mk1 (XL.all ("Rejected", C_Rejected) (by simp)).at_ (E_index.pmk T_Rejected hr (pa_cons (ge_ix x_ix (ge_var 0) ge_int) pa_nil) rfl (by decide) rfl rfl)) (ga_cons (ge_mk1 (XL.all ("TooLong", C_TooLong) (by simp)).at_ (E_limit.pmk T_TooLong hr (pa_cons (ge_ix x_ix (ge_var 0) ge_int) pa_nil) rfl (by decide) rfl rfl)) (ga_cons (ge_mk1 (XL.all ("TooMany", C_TooMany) (by simp)).at_ (E_limit.pmk T_TooMany hr (pa_cons (ge_ix x_ix (ge_var 0) ge_int) pa_nil) rfl (by decide) rfl rfl)) ga_nil)))) (gss_cons (gs_par 7 8 rfl sc__law_second_right.nd (ga_cons (ge_mk1 (XL.all ("TooNarrow", C_TooNarrow) (by simp)).at_ (E_width.pmk T_TooNarrow hr (pa_cons (ge_ix x_ix (ge_var 0) ge_int) pa_nil) rfl (by decide) rfl rfl)) (ga_cons (ge_mk1 (XL.all ("UnknownKey", C_UnknownKey) (by simp)).at_ (E_key.pmk T_UnknownKey hr (pa_cons (ge_ix x_ix (ge_var 0) ge_int) pa_nil) rfl (by decide) rfl rfl)) ga_nil))) (gss_cons (gs_set 9 sc__law_second_right.nd (ge_mk1 (XL.all ("WrongLength", C_WrongLength) (by simp)).at_ (E_length.pmk T_WrongLength hr (pa_cons (ge_ix x_ix (ge_var 0) ge_int) pa_nil) rfl (by decide) rfl rfl))) (gss_cons (gs_set 10 sc__law_second_right.nd (ge_lst (ga_cons (ge_fldX (XL.all ("NotPossible", C_NotPossible) (by simp)).at_ (XL.all ("NotPossible", C_NotPossible) (by simp)).I T_NotPossible.hdC T_NotPossible.noN (ge_var 1)) (ga_cons (ge_fldX (XL.all ("NoTree", C_NoTree) (by simp)).at_ (XL.all ("NoTree", C_NoTree) (by simp)).I T_NoTree.hdC T_NoTree.noN (ge_var 2)) (ga_cons (ge_fldX (XL.all ("NoVersion", C_NoVersion) (by simp)).at_ (XL.all ("NoVersion", C_NoVersion) (by simp)).I T_NoVersion.hdC T_NoVersion.noN (ge_var 3)) (ga_cons (ge_fldX (XL.all ("Rejected", C_Rejected) (by simp)).at_ (XL.all ("Rejected", C_Rejected) (by simp)).I T_Rejected.hdC T_Rejected.noN (ge_var 4)) ga_nil)))))) (gss_cons (gs_set 10 sc__law_second_right.nd (ge_op o_add (ge_var 10) (ge_lst (ga_cons (ge_fldX (XL.all ("TooLong", C_TooLong) (by simp)).at_ (XL.all ("TooLong", C_TooLong) (by simp)).I T_TooLong.hdC T_TooLong.noN (ge_var 5)) (ga_cons (ge_fldX (XL.all ("TooMany", C_TooMany) (by simp)).at_ (XL.all ("TooMany", C_TooMany) (by simp)).I T_TooMany.hdC T_TooMany.noN (ge_var 6)) (ga_cons (ge_fldX (XL.all ("TooNarrow", C_TooNarrow) (by simp)).at_ (XL.all ("TooNarrow", C_TooNarrow) (by simp)).I T_TooNarrow.hdC T_TooNarrow.noN (ge_var 7)) ga_nil)))))) (gss_cons (gs_set 11 sc__law_second_right.nd (ge_cmp (o_eq hu) (ge_callB (c_reprX hG hB.mods hu) (by rfl) b_repr bt_repr (ga_cons (ge_op o_add (ge_var 10) (ge_lst (ga_cons (ge_fldX (XL.all ("UnknownKey", C_UnknownKey) (by simp)).at_ (XL.all ("UnknownKey", C_UnknownKey) (by simp)).I T_UnknownKey.hdC T_UnknownKey.noN (ge_var 8)) (ga_cons (ge_fldX (XL.all ("WrongLength", C_WrongLength) (by simp)).at_ (XL.all ("WrongLength", C_WrongLength) (by simp)).I T_WrongLength.hdC T_WrongLength.noN (ge_var 9)) ga_nil)))) ga_nil)) (ge_callB (c_reprX hG hB.mods hu) (by rfl) b_repr bt_repr (ga_cons (ge_slice x_slice (ge_var 0) gp_none (gp_some ge_int)) ga_nil)))) (gss_cons (gs_set 12 sc__law_second_right.nd (ge_lst (ga_cons (ge_var 1) (ga_cons (ge_var 2) (ga_cons (ge_var 3) (ga_cons (ge_var 4) (ga_cons (ge_var 5) ga_nil))))))) (gss_one (gs_ret (ge_lst (ga_cons (ge_var 11) (ga_cons (ge_op o_add (ge_var 12) (ge_lst (ga_cons (ge_var 6) (ga_cons (ge_var 7) (ga_cons (ge_var 8) (ga_cons (ge_var 9) ga_nil)))))) ga_nil))))))))))))))
theorem ok__law_below {P : Program} {w : World} {K : PySem.W.Frag} {mg : Str → Option Value} {base : Heap} {a : Addr} {fd : FuncData} (hB : BOk K mg base) (D : DefAt K mg "_law_below" s__law_below ["_law_stream_here", "_law_limit"] a fd)
    (b_len : mg "len" = none)
    (b_int : mg "int" = none)
    : FnG P w K mg base CX0 1 a fd ["_law_stream_here", "_law_limit"] (spF K mg 2 f_t_below) := by
  refine fn_ok (k := 0) D.fn sc__law_below (keeps_len (N := N_t_below) rfl keeps_runU) (fun cdv A outer s H E hG0 hr0 => ?_) (okF_nox _)
  have hG : A.guards = some [] := hG0
  have hr := hr0
  have hu := hr0.units
  exact (gss_cons (gs_asg (ge_var 0) (gg_tup rfl (ggs_cons (gg_name 2 sc__law_below.nd) (ggs_cons (gg_name 3 sc__law_below.nd) (ggs_cons (gg_name 4 sc__law_below.nd) (ggs_cons (gg_name 5 sc__law_below.nd) ggs_nil)))))) (gss_cons (gs_if (GW.gt (gw_and (gt_cmp (o_eq hu) (ge_var 4) ge_int) (gw_and1 (gt_cmp o_lt (ge_var 3) (ge_callB c_len (by rfl) b_len bt_len (ga_cons (ge_var 2) ga_nil)))))) (gss_cons (gs_sub p_set (ge_var 0) ge_int (ge_op o_add (ge_var 3) ge_int)) (gss_cons (gs_set 4 sc__law_below.nd (ge_op o_mulI (ge_ix x_ix (ge_var 2) (ge_var 3)) (ge_callTy c_int (by rfl) b_int bt_int (ga_cons (ge_cmp o_ge (ge_ix x_ix (ge_var 2) (ge_var 3)) (ge_op o_pow ge_int ge_int)) ga_nil)))) (gss_one (gs_set 5 sc__law_below.nd (ge_op o_add (ge_op o_add (ge_op o_mulI (ge_var 5) ge_int) (ge_op o_mod (ge_ix x_ix (ge_var 2) (ge_var 3)) ge_int)) ge_int))))) gss_nil) (gss_cons (gs_sub p_set (ge_var 0) ge_int (ge_op o_div (ge_var 4) (ge_var 1))) (gss_cons (gs_set 5 sc__law_below.nd (ge_op o_mod (ge_op o_add (ge_op o_add (ge_op o_mulI (ge_var 5) ge_int) ge_int) (ge_var 3)) ge_int)) (gss_cons (gs_sub p_set (ge_var 0) ge_int (ge_var 5)) (gss_cons (gs_if (gt_cmp o_gt (ge_var 4) ge_int) (gss_one (gs_ret (ge_op o_mod (ge_var 4) (ge_var 1)))) gss_nil) (gss_one (gs_ret (ge_op o_mod (ge_op o_div (ge_op o_mod (ge_op o_mulI (ge_var 5) (ge_var 5)) ge_int) ge_int) (ge_var 1))))))))))
theorem ok__law_pick {P : Program} {w : World} {K : PySem.W.Frag} {mg : Str → Option Value} {base : Heap} {a : Addr} {fd : FuncData} (hB : BOk K mg base) (D : DefAt K mg "_law_pick" s__law_pick ["_law_stream_here", "_law_items"] a fd)
    {a__law_below : Addr} {fd__law_below : FuncData} (D__law_below : DefAt K mg "_law_below" s__law_below ["_law_stream_here", "_law_limit"] a__law_below fd__law_below) (G__law_below : FnG P w K mg base CX0 1 a__law_below fd__law_below ["_law_stream_here", "_law_limit"] (spF K mg 2 f_t_below))
    (b_len : mg "len" = none)
    : FnG P w K mg base CX0 2 a fd ["_law_stream_here", "_law_items"] (spF K mg 2 f_t_pick) := by
  refine fn_ok (k := 1) D.fn sc__law_pick (keeps_len (N := N_t_pick) rfl keeps_runU) (fun cdv A outer s H E hG0 hr0 => ?_) (okF_nox _)
  have hG : A.guards = some [] := hG0
  have hr := hr0
  have hu := hr0.units
  exact (gss_one (gs_ret (ge_ix x_ix (ge_var 1) (ge_fn D__law_below G__law_below hG hr (ga_cons (ge_var 0) (ga_cons (ge_callB c_len (by rfl) b_len bt_len (ga_cons (ge_var 1) ga_nil)) ga_nil))))))
theorem ok__law_odd {P : Program} {w : World} {K : PySem.W.Frag} {mg : Str → Option Value} {base : Heap} {a : Addr} {fd : FuncData} (hB : BOk K mg base) (D : DefAt K mg "_law_odd" s__law_odd ["_law_stream_here"] a fd)
    {a__law_pick : Addr} {fd__law_pick : FuncData} (D__law_pick : DefAt K mg "_law_pick" s__law_pick ["_law_stream_here", "_law_items"] a__law_pick fd__law_pick) (G__law_pick : FnG P w K mg base CX0 2 a__law_pick fd__law_pick ["_law_stream_here", "_law_items"] (spF K mg 2 f_t_pick))
    : FnG P w K mg base CX0 3 a fd ["_law_stream_here"] (spF K mg 1 f_t_odd) := by
  refine fn_ok (k := 2) D.fn sc__law_odd (keeps_len (N := N_t_odd) rfl keeps_runU) (fun cdv A outer s H E hG0 hr0 => ?_) (okF_nox _)
  have hG : A.guards = some [] := hG0
  have hr := hr0
  have hu := hr0.units
  exact (gss_cons (gs_set 1 sc__law_odd.nd (ge_lst (ga_cons ge_non (ga_cons ge_bl (ga_cons ge_bl (ga_cons ge_int (ga_cons ge_int (ga_cons (ge_un o_neg ge_int) (ga_cons (ge_op o_pow ge_int ge_int) (ga_cons (ge_op o_add (ge_op o_pow ge_int ge_int) ge_int) (ga_cons (ge_op o_pow ge_int ge_int) (ga_cons ge_str (ga_cons ge_str (ga_cons ge_str (ga_cons ge_str (ga_cons ge_str (ga_cons (ge_tup ga_nil) (ga_cons (ge_lst ga_nil) (ga_cons ge_dnew ga_nil))))))))))))))))))) (gss_one (gs_ret (ge_fn D__law_pick G__law_pick hG hr (ga_cons (ge_var 0) (ga_cons (ge_op o_add (ge_var 1) (ge_lst (ga_cons (ge_tup (ga_cons ge_int ga_nil)) (ga_cons (ge_lst (ga_cons ge_int ga_nil)) (ga_cons (ge_tup (ga_cons ge_bl ga_nil)) (ga_cons (ge_tup (ga_cons (ge_tup ga_nil) ga_nil)) (ga_cons (ge_disp (gps_str ge_int gps_nil)) (ga_cons (ge_tup (ga_cons ge_str (ga_cons ge_str ga_nil))) (ga_cons (ge_tup (ga_cons ge_int (ga_cons ge_non ga_nil))) ga_nil))))))))) ga_nil))))))
theorem ok__law_plain {P : Program} {w : World} {K : PySem.W.Frag} {mg : Str → Option Value} {base : Heap} {a : Addr} {fd : FuncData} (hB : BOk K mg base) (D : DefAt K mg "_law_plain" s__law_plain ["_law_error"] a fd)
    {C_PairError : Addr} (g_PairError : mg "PairError" = some (.ref C_PairError))
    {C_BadBatch : Addr} (g_BadBatch : mg "BadBatch" = some (.ref C_BadBatch))
    {C_BadGoal : Addr} (g_BadGoal : mg "BadGoal" = some (.ref C_BadGoal))
    {C_BadKeys : Addr} (g_BadKeys : mg "BadKeys" = some (.ref C_BadKeys))
    {C_Busy : Addr} (g_Busy : mg "Busy" = some (.ref C_Busy))
    {C_EmptyQueue : Addr} (g_EmptyQueue : mg "EmptyQueue" = some (.ref C_EmptyQueue))
    {C_NoRow : Addr} (g_NoRow : mg "NoRow" = some (.ref C_NoRow))
    {C_NothingToUndo : Addr} (g_NothingToUndo : mg "NothingToUndo" = some (.ref C_NothingToUndo))
    {C_NothingWaiting : Addr} (g_NothingWaiting : mg "NothingWaiting" = some (.ref C_NothingWaiting))
    {C_NoWord : Addr} (g_NoWord : mg "NoWord" = some (.ref C_NoWord))
    {C_TooManyOperations : Addr} (g_TooManyOperations : mg "TooManyOperations" = some (.ref C_TooManyOperations))
    {C_BadKey : Addr} (g_BadKey : mg "BadKey" = some (.ref C_BadKey))
    {C_BadSequence : Addr} (g_BadSequence : mg "BadSequence" = some (.ref C_BadSequence))
    {C_BadText : Addr} (g_BadText : mg "BadText" = some (.ref C_BadText))
    {C_Duplicate : Addr} (g_Duplicate : mg "Duplicate" = some (.ref C_Duplicate))
    {C_NoCode : Addr} (g_NoCode : mg "NoCode" = some (.ref C_NoCode))
    {C_NoIndex : Addr} (g_NoIndex : mg "NoIndex" = some (.ref C_NoIndex))
    {C_NoLimit : Addr} (g_NoLimit : mg "NoLimit" = some (.ref C_NoLimit))
    {C_NoSource : Addr} (g_NoSource : mg "NoSource" = some (.ref C_NoSource))
    {C_NotLast : Addr} (g_NotLast : mg "NotLast" = some (.ref C_NotLast))
    {C_NotPossible : Addr} (g_NotPossible : mg "NotPossible" = some (.ref C_NotPossible))
    {C_NoTree : Addr} (g_NoTree : mg "NoTree" = some (.ref C_NoTree))
    {C_NoVersion : Addr} (g_NoVersion : mg "NoVersion" = some (.ref C_NoVersion))
    {C_Rejected : Addr} (g_Rejected : mg "Rejected" = some (.ref C_Rejected))
    {C_TooLong : Addr} (g_TooLong : mg "TooLong" = some (.ref C_TooLong))
    {C_TooMany : Addr} (g_TooMany : mg "TooMany" = some (.ref C_TooMany))
    {C_TooNarrow : Addr} (g_TooNarrow : mg "TooNarrow" = some (.ref C_TooNarrow))
    {C_UnknownKey : Addr} (g_UnknownKey : mg "UnknownKey" = some (.ref C_UnknownKey))
    {C_WrongLength : Addr} (g_WrongLength : mg "WrongLength" = some (.ref C_WrongLength))
    (XL : ExL K C_PairError [("PairError", C_PairError), ("BadBatch", C_BadBatch), ("BadGoal", C_BadGoal), ("BadKeys", C_BadKeys), ("Busy", C_Busy), ("EmptyQueue", C_EmptyQueue), ("NoRow", C_NoRow), ("NothingToUndo", C_NothingToUndo), ("NothingWaiting", C_NothingWaiting), ("NoWord", C_NoWord), ("TooManyOperations", C_TooManyOperations), ("BadKey", C_BadKey), ("BadSequence", C_BadSequence), ("BadText", C_BadText), ("Duplicate", C_Duplicate), ("NoCode", C_NoCode), ("NoIndex", C_NoIndex), ("NoLimit", C_NoLimit), ("NoSource", C_NoSource), ("NotLast", C_NotLast), ("NotPossible", C_NotPossible), ("NoTree", C_NoTree), ("NoVersion", C_NoVersion), ("Rejected", C_Rejected), ("TooLong", C_TooLong), ("TooMany", C_TooMany), ("TooNarrow", C_TooNarrow), ("UnknownKey", C_UnknownKey), ("WrongLength", C_WrongLength)])
    (b_isinstance : mg "isinstance" = none)
    (b_range : mg "range" = none)
    : FnG P w K mg base CX0 1 a fd ["_law_error"] (spF K mg 1 f__law_plain) := by
  refine fn_ok (k := 0) D.fn sc__law_plain (keeps_len (N := N__law_plain) rfl keeps_runU) (fun cdv A outer s H E hG0 hr0 => ?_) (okF_nox _)
  have hG : A.guards = some [] := hG0
  have hr := hr0
  have hu := hr0.units
  exact (gss_cons (gs_set 1 sc__law_plain.nd (ge_lst (ga_cons (ge_isX XL g_BadBatch (ge_var 0) b_isinstance) (ga_cons (ge_isX XL g_BadGoal (ge_var 0) b_isinstance) (ga_cons (ge_isX XL g_BadKeys (ge_var 0) b_isinstance) ga_nil))))) (gss_cons (gs_set 1 sc__law_plain.nd (ge_op o_add (ge_var 1) (ge_lst (ga_cons (ge_isX XL g_Busy (ge_var 0) b_isinstance) (ga_cons (ge_isX XL g_EmptyQueue (ge_var 0) b_isinstance) (ga_cons (ge_isX XL g_NoRow (ge_var 0) b_isinstance) ga_nil)))))) (gss_cons (gs_set 1 sc__law_plain.nd (ge_op o_add (ge_var 1) (ge_lst (ga_cons (ge_isX XL g_NothingToUndo (ge_var 0) b_isinstance) (ga_cons (ge_isX XL g_NothingWaiting (ge_var 0) b_isinstance) ga_nil))))) (gss_cons (gs_set 1 sc__law_plain.nd (ge_op o_add (ge_var 1) (ge_lst (ga_cons (ge_isX XL g_NoWord (ge_var 0) b_isinstance) (ga_cons (ge_isX XL g_TooManyOperations (ge_var 0) b_isinstance) ga_nil))))) (gss_one (gs_ret (ge_lc rfl sc__law_plain.nd (gi_range1 (by rfl) b_range (ga_cons ge_int ga_nil)) (blkOk_by (N := ["_law_error", "_law_kinds", "_law_k"]) (sc := defScope s__law_plain) (own := [("_law_k", 2)]) (by decide +kernel)) (by decide) (fun _ _ _ _ _ => (gg_name 2 sc__law_plain.nd)) (fun _ _ _ _ _ => (gts_one (gt_tr (ge_ix x_ix (ge_var 1) (ge_var 2))))) (fun _ _ _ _ _ => (ge_var 2)))))))))
theorem ok__law_filled {P : Program} {w : World} {K : PySem.W.Frag} {mg : Str → Option Value} {base : Heap} {a : Addr} {fd : FuncData} (hB : BOk K mg base) (D : DefAt K mg "_law_filled" s__law_filled ["_law_error"] a fd)
    {C_PairError : Addr} (g_PairError : mg "PairError" = some (.ref C_PairError))
    {C_BadBatch : Addr} (g_BadBatch : mg "BadBatch" = some (.ref C_BadBatch))
    {C_BadGoal : Addr} (g_BadGoal : mg "BadGoal" = some (.ref C_BadGoal))
    {C_BadKeys : Addr} (g_BadKeys : mg "BadKeys" = some (.ref C_BadKeys))
    {C_Busy : Addr} (g_Busy : mg "Busy" = some (.ref C_Busy))
    {C_EmptyQueue : Addr} (g_EmptyQueue : mg "EmptyQueue" = some (.ref C_EmptyQueue))
    {C_NoRow : Addr} (g_NoRow : mg "NoRow" = some (.ref C_NoRow))
    {C_NothingToUndo : Addr} (g_NothingToUndo : mg "NothingToUndo" = some (.ref C_NothingToUndo))
    {C_NothingWaiting : Addr} (g_NothingWaiting : mg "NothingWaiting" = some (.ref C_NothingWaiting))
    {C_NoWord : Addr} (g_NoWord : mg "NoWord" = some (.ref C_NoWord))
    {C_TooManyOperations : Addr} (g_TooManyOperations : mg "TooManyOperations" = some (.ref C_TooManyOperations))
    {C_BadKey : Addr} (g_BadKey : mg "BadKey" = some (.ref C_BadKey))
    {C_BadSequence : Addr} (g_BadSequence : mg "BadSequence" = some (.ref C_BadSequence))
    {C_BadText : Addr} (g_BadText : mg "BadText" = some (.ref C_BadText))
    {C_Duplicate : Addr} (g_Duplicate : mg "Duplicate" = some (.ref C_Duplicate))
    {C_NoCode : Addr} (g_NoCode : mg "NoCode" = some (.ref C_NoCode))
    {C_NoIndex : Addr} (g_NoIndex : mg "NoIndex" = some (.ref C_NoIndex))
    {C_NoLimit : Addr} (g_NoLimit : mg "NoLimit" = some (.ref C_NoLimit))
    {C_NoSource : Addr} (g_NoSource : mg "NoSource" = some (.ref C_NoSource))
    {C_NotLast : Addr} (g_NotLast : mg "NotLast" = some (.ref C_NotLast))
    {C_NotPossible : Addr} (g_NotPossible : mg "NotPossible" = some (.ref C_NotPossible))
    {C_NoTree : Addr} (g_NoTree : mg "NoTree" = some (.ref C_NoTree))
    {C_NoVersion : Addr} (g_NoVersion : mg "NoVersion" = some (.ref C_NoVersion))
    {C_Rejected : Addr} (g_Rejected : mg "Rejected" = some (.ref C_Rejected))
    {C_TooLong : Addr} (g_TooLong : mg "TooLong" = some (.ref C_TooLong))
    {C_TooMany : Addr} (g_TooMany : mg "TooMany" = some (.ref C_TooMany))
    {C_TooNarrow : Addr} (g_TooNarrow : mg "TooNarrow" = some (.ref C_TooNarrow))
    {C_UnknownKey : Addr} (g_UnknownKey : mg "UnknownKey" = some (.ref C_UnknownKey))
    {C_WrongLength : Addr} (g_WrongLength : mg "WrongLength" = some (.ref C_WrongLength))
    (XL : ExL K C_PairError [("PairError", C_PairError), ("BadBatch", C_BadBatch), ("BadGoal", C_BadGoal), ("BadKeys", C_BadKeys), ("Busy", C_Busy), ("EmptyQueue", C_EmptyQueue), ("NoRow", C_NoRow), ("NothingToUndo", C_NothingToUndo), ("NothingWaiting", C_NothingWaiting), ("NoWord", C_NoWord), ("TooManyOperations", C_TooManyOperations), ("BadKey", C_BadKey), ("BadSequence", C_BadSequence), ("BadText", C_BadText), ("Duplicate", C_Duplicate), ("NoCode", C_NoCode), ("NoIndex", C_NoIndex), ("NoLimit", C_NoLimit), ("NoSource", C_NoSource), ("NotLast", C_NotLast), ("NotPossible", C_NotPossible), ("NoTree", C_NoTree), ("NoVersion", C_NoVersion), ("Rejected", C_Rejected), ("TooLong", C_TooLong), ("TooMany", C_TooMany), ("TooNarrow", C_TooNarrow), ("UnknownKey", C_UnknownKey), ("WrongLength", C_WrongLength)])
    (b_isinstance : mg "isinstance" = none)
    (b_range : mg "range" = none)
    : FnG P w K mg base CX0 1 a fd ["_law_error"] (spF K mg 1 f__law_filled) := by
  refine fn_ok (k := 0) D.fn sc__law_filled (keeps_len (N := N__law_filled) rfl keeps_runU) (fun cdv A outer s H E hG0 hr0 => ?_) (okF_nox _)
  have hG : A.guards = some [] := hG0
  have hr := hr0
  have hu := hr0.units
  exact (gss_cons (gs_set 1 sc__law_filled.nd (ge_lst (ga_cons (ge_isX XL g_BadKey (ge_var 0) b_isinstance) (ga_cons (ge_isX XL g_BadSequence (ge_var 0) b_isinstance) (ga_cons (ge_isX XL g_BadText (ge_var 0) b_isinstance) ga_nil))))) (gss_cons (gs_set 1 sc__law_filled.nd (ge_op o_add (ge_var 1) (ge_lst (ga_cons (ge_isX XL g_Duplicate (ge_var 0) b_isinstance) (ga_cons (ge_isX XL g_NoCode (ge_var 0) b_isinstance) (ga_cons (ge_isX XL g_NoIndex (ge_var 0) b_isinstance) ga_nil)))))) (gss_cons (gs_set 1 sc__law_filled.nd (ge_op o_add (ge_var 1) (ge_lst (ga_cons (ge_isX XL g_NoLimit (ge_var 0) b_isinstance) (ga_cons (ge_isX XL g_NoSource (ge_var 0) b_isinstance) (ga_cons (ge_isX XL g_NotLast (ge_var 0) b_isinstance) ga_nil)))))) (gss_cons (gs_set 1 sc__law_filled.nd (ge_op o_add (ge_var 1) (ge_lst (ga_cons (ge_isX XL g_NotPossible (ge_var 0) b_isinstance) (ga_cons (ge_isX XL g_NoTree (ge_var 0) b_isinstance) (ga_cons (ge_isX XL g_NoVersion (ge_var 0) b_isinstance) ga_nil)))))) (gss_cons (gs_set 1 sc__law_filled.nd (ge_op o_add (ge_var 1) (ge_lst (ga_cons (ge_isX XL g_Rejected (ge_var 0) b_isinstance) (ga_cons (ge_isX XL g_TooLong (ge_var 0) b_isinstance) (ga_cons (ge_isX XL g_TooMany (ge_var 0) b_isinstance) ga_nil)))))) (gss_cons (gs_set 1 sc__law_filled.nd (ge_op o_add (ge_var 1) (ge_lst (ga_cons (ge_isX XL g_TooNarrow (ge_var 0) b_isinstance) (ga_cons (ge_isX XL g_UnknownKey (ge_var 0) b_isinstance) (ga_cons (ge_isX XL g_WrongLength (ge_var 0) b_isinstance) ga_nil)))))) (gss_one (gs_ret (ge_lc rfl sc__law_filled.nd (gi_range1 (by rfl) b_range (ga_cons ge_int ga_nil)) (blkOk_by (N := ["_law_error", "_law_kinds", "_law_k"]) (sc := defScope s__law_filled) (own := [("_law_k", 2)]) (by decide +kernel)) (by decide) (fun _ _ _ _ _ => (gg_name 2 sc__law_filled.nd)) (fun _ _ _ _ _ => (gts_one (gt_tr (ge_ix x_ix (ge_var 1) (ge_var 2))))) (fun _ _ _ _ _ => (ge_var 2)))))))))))
theorem ok__law_alone {P : Program} {w : World} {K : PySem.W.Frag} {mg : Str → Option Value} {base : Heap} {a : Addr} {fd : FuncData} (hB : BOk K mg base) (D : DefAt K mg "_law_alone" s__law_alone ["_law_errors", "_law_others"] a fd)
    {a__law_plain : Addr} {fd__law_plain : FuncData} (D__law_plain : DefAt K mg "_law_plain" s__law_plain ["_law_error"] a__law_plain fd__law_plain) (G__law_plain : FnG P w K mg base CX0 1 a__law_plain fd__law_plain ["_law_error"] (spF K mg 1 f__law_plain))
    {a__law_filled : Addr} {fd__law_filled : FuncData} (D__law_filled : DefAt K mg "_law_filled" s__law_filled ["_law_error"] a__law_filled fd__law_filled) (G__law_filled : FnG P w K mg base CX0 1 a__law_filled fd__law_filled ["_law_error"] (spF K mg 1 f__law_filled))
    {C_PairError : Addr} (g_PairError : mg "PairError" = some (.ref C_PairError))
    {C_BadBatch : Addr} (g_BadBatch : mg "BadBatch" = some (.ref C_BadBatch))
    {C_BadGoal : Addr} (g_BadGoal : mg "BadGoal" = some (.ref C_BadGoal))
    {C_BadKeys : Addr} (g_BadKeys : mg "BadKeys" = some (.ref C_BadKeys))
    {C_Busy : Addr} (g_Busy : mg "Busy" = some (.ref C_Busy))
    {C_EmptyQueue : Addr} (g_EmptyQueue : mg "EmptyQueue" = some (.ref C_EmptyQueue))
    {C_NoRow : Addr} (g_NoRow : mg "NoRow" = some (.ref C_NoRow))
    {C_NothingToUndo : Addr} (g_NothingToUndo : mg "NothingToUndo" = some (.ref C_NothingToUndo))
    {C_NothingWaiting : Addr} (g_NothingWaiting : mg "NothingWaiting" = some (.ref C_NothingWaiting))
    {C_NoWord : Addr} (g_NoWord : mg "NoWord" = some (.ref C_NoWord))
    {C_TooManyOperations : Addr} (g_TooManyOperations : mg "TooManyOperations" = some (.ref C_TooManyOperations))
    {C_BadKey : Addr} (g_BadKey : mg "BadKey" = some (.ref C_BadKey))
    {C_BadSequence : Addr} (g_BadSequence : mg "BadSequence" = some (.ref C_BadSequence))
    {C_BadText : Addr} (g_BadText : mg "BadText" = some (.ref C_BadText))
    {C_Duplicate : Addr} (g_Duplicate : mg "Duplicate" = some (.ref C_Duplicate))
    {C_NoCode : Addr} (g_NoCode : mg "NoCode" = some (.ref C_NoCode))
    {C_NoIndex : Addr} (g_NoIndex : mg "NoIndex" = some (.ref C_NoIndex))
    {C_NoLimit : Addr} (g_NoLimit : mg "NoLimit" = some (.ref C_NoLimit))
    {C_NoSource : Addr} (g_NoSource : mg "NoSource" = some (.ref C_NoSource))
    {C_NotLast : Addr} (g_NotLast : mg "NotLast" = some (.ref C_NotLast))
    {C_NotPossible : Addr} (g_NotPossible : mg "NotPossible" = some (.ref C_NotPossible))
    {C_NoTree : Addr} (g_NoTree : mg "NoTree" = some (.ref C_NoTree))
    {C_NoVersion : Addr} (g_NoVersion : mg "NoVersion" = some (.ref C_NoVersion))
    {C_Rejected : Addr} (g_Rejected : mg "Rejected" = some (.ref C_Rejected))
    {C_TooLong : Addr} (g_TooLong : mg "TooLong" = some (.ref C_TooLong))
    {C_TooMany : Addr} (g_TooMany : mg "TooMany" = some (.ref C_TooMany))
    {C_TooNarrow : Addr} (g_TooNarrow : mg "TooNarrow" = some (.ref C_TooNarrow))
    {C_UnknownKey : Addr} (g_UnknownKey : mg "UnknownKey" = some (.ref C_UnknownKey))
    {C_WrongLength : Addr} (g_WrongLength : mg "WrongLength" = some (.ref C_WrongLength))
    (x_PairError : PySem.W.excIn K C_PairError [.type "ValueError", .type "Exception", .type "BaseException", .type "object"] "ValueError.__new__" = true) (k_PairError : PySem.W.keepIn K (.ref C_PairError) = true) (b_PairError : PySem.W.subIn K (.ref C_PairError) (.type "BaseException") = some true) (t_PairError : PySem.W.typeIn K (.ref C_PairError) = some (.type "type"))
    (XL : ExL K C_PairError [("PairError", C_PairError), ("BadBatch", C_BadBatch), ("BadGoal", C_BadGoal), ("BadKeys", C_BadKeys), ("Busy", C_Busy), ("EmptyQueue", C_EmptyQueue), ("NoRow", C_NoRow), ("NothingToUndo", C_NothingToUndo), ("NothingWaiting", C_NothingWaiting), ("NoWord", C_NoWord), ("TooManyOperations", C_TooManyOperations), ("BadKey", C_BadKey), ("BadSequence", C_BadSequence), ("BadText", C_BadText), ("Duplicate", C_Duplicate), ("NoCode", C_NoCode), ("NoIndex", C_NoIndex), ("NoLimit", C_NoLimit), ("NoSource", C_NoSource), ("NotLast", C_NotLast), ("NotPossible", C_NotPossible), ("NoTree", C_NoTree), ("NoVersion", C_NoVersion), ("Rejected", C_Rejected), ("TooLong", C_TooLong), ("TooMany", C_TooMany), ("TooNarrow", C_TooNarrow), ("UnknownKey", C_UnknownKey), ("WrongLength", C_WrongLength)])
    (b_enumerate : mg "enumerate" = none)
    (b_isinstance : mg "isinstance" = none)
    (b_ValueError : mg "ValueError" = none)
    : FnG P w K mg base CX0 2 a fd ["_law_errors", "_law_others"] (spF K mg 2 f__law_alone) := by
  refine fn_ok (k := 1) D.fn sc__law_alone (keeps_len (N := N__law_alone) rfl keeps_runU) (fun cdv A outer s H E hG0 hr0 => ?_) (okF_nox _)
  have hG : A.guards = some [] := hG0
  have hr := hr0
  have hu := hr0.units
  exact (gss_cons (gs_for PassesOwn.never rfl (gi_enum (es := []) (by rfl) b_enumerate (ga_cons (ge_var 0) ga_nil)) (gg_tup rfl (ggs_cons (gg_name 2 sc__law_alone.nd) (ggs_cons (gg_name 3 sc__law_alone.nd) ggs_nil))) (gss_one (gs_if (GW.gt (gw_or (gt_cmp (o_ne hu) (ge_fn D__law_plain G__law_plain hG hr (ga_cons (ge_var 3) ga_nil)) (ge_lst (ga_cons (ge_var 2) ga_nil))) (gw_or (gt_cmp (o_neX hu) (ge_fn D__law_filled G__law_filled hG hr (ga_cons (ge_var 3) ga_nil)) (ge_lst ga_nil)) (gw_or1 (gt_not (gt_tr (ge_isX XL g_PairError (ge_var 3) b_isinstance))))))) (gss_one (gs_ret ge_bl)) gss_nil))) (gss_cons (gs_for PassesOwn.never rfl (gi_enum (es := []) (by rfl) b_enumerate (ga_cons (ge_var 1) ga_nil)) (gg_tup rfl (ggs_cons (gg_name 2 sc__law_alone.nd) (ggs_cons (gg_name 3 sc__law_alone.nd) ggs_nil))) (gss_one (gs_if (GW.gt (gw_or (gt_cmp (o_ne hu) (ge_fn D__law_filled G__law_filled hG hr (ga_cons (ge_var 3) ga_nil)) (ge_lst (ga_cons (ge_var 2) ga_nil))) (gw_or (gt_cmp (o_neX hu) (ge_fn D__law_plain G__law_plain hG hr (ga_cons (ge_var 3) ga_nil)) (ge_lst ga_nil)) (gw_or1 (gt_not (gt_tr (ge_isX XL g_PairError (ge_var 3) b_isinstance))))))) (gss_one (gs_ret ge_bl)) gss_nil))) (gss_cons (gs_setLc 4 rfl sc__law_alone.nd (sw_true rfl rfl rfl (by decide +kernel)) (gi_val (ge_op o_add (ge_var 0) (ge_var 1))) (blkOk_by (N := ["_law_errors", "_law_others", "_law_k", "_law_error", "_law_found"]) (sc := defScope s__law_alone) (own := [("_law_error", 3)]) (by decide +kernel)) (by decide) (fun _ _ _ _ _ => (gg_name 3 sc__law_alone.nd)) (fun _ _ _ _ _ => (gts_one (gt_not (gt_tr (ge_isXV XL b_ValueError (ge_var 3) b_isinstance))))) (fun _ _ _ _ _ => (ge_var 3))) (gss_one (gs_ret (ge_and (ge_cmp (o_eqX hu) (ge_var 4) (ge_lst ga_nil)) (ge_one (ge_cmp (o_eqX hu) (ge_op o_add (ge_fn D__law_plain G__law_plain hG hr (ga_cons (ge_mk0 (XL.all ("PairError", C_PairError) (by simp)).at_ (pmk_none PySem.F.excBase_ValueError x_PairError g_PairError k_PairError (raises_own b_PairError t_PairError) rfl (by decide))) ga_nil)) (ge_fn D__law_filled G__law_filled hG hr (ga_cons (ge_mk0 (XL.all ("PairError", C_PairError) (by simp)).at_ (pmk_none PySem.F.excBase_ValueError x_PairError g_PairError k_PairError (raises_own b_PairError t_PairError) rfl (by decide))) ga_nil))) (ge_lst ga_nil)))))))))
theorem ok_law {P : Program} {w : World} {K : PySem.W.Frag} {mg : Str → Option Value} {base : Heap} {a : Addr} {fd : FuncData} (hB : BOk K mg base) (D : DefAt K mg "law" s_law ["_law_script"] a fd)
    {a__law_stream : Addr} {fd__law_stream : FuncData} (D__law_stream : DefAt K mg "_law_stream" s__law_stream ["_law_script"] a__law_stream fd__law_stream) (G__law_stream : FnG P w K mg base CX0 1 a__law_stream fd__law_stream ["_law_script"] (spF K mg 1 f_t_stream))
    {a__law_odd : Addr} {fd__law_odd : FuncData} (D__law_odd : DefAt K mg "_law_odd" s__law_odd ["_law_stream_here"] a__law_odd fd__law_odd) (G__law_odd : FnG P w K mg base CX0 3 a__law_odd fd__law_odd ["_law_stream_here"] (spF K mg 1 f_t_odd))
    {a__law_first_right : Addr} {fd__law_first_right : FuncData} (D__law_first_right : DefAt K mg "_law_first_right" s__law_first_right ["_law_values"] a__law_first_right fd__law_first_right) (G__law_first_right : FnG P w K mg base CX0 1 a__law_first_right fd__law_first_right ["_law_values"] (spF K mg 1 f__law_first_right))
    {a__law_second_right : Addr} {fd__law_second_right : FuncData} (D__law_second_right : DefAt K mg "_law_second_right" s__law_second_right ["_law_values"] a__law_second_right fd__law_second_right) (G__law_second_right : FnG P w K mg base CX0 1 a__law_second_right fd__law_second_right ["_law_values"] (spF K mg 1 f__law_second_right))
    {a__law_alone : Addr} {fd__law_alone : FuncData} (D__law_alone : DefAt K mg "_law_alone" s__law_alone ["_law_errors", "_law_others"] a__law_alone fd__law_alone) (G__law_alone : FnG P w K mg base CX0 2 a__law_alone fd__law_alone ["_law_errors", "_law_others"] (spF K mg 2 f__law_alone))
    {C_PairError : Addr} (g_PairError : mg "PairError" = some (.ref C_PairError))
    {C_BadBatch : Addr} (g_BadBatch : mg "BadBatch" = some (.ref C_BadBatch))
    {C_BadGoal : Addr} (g_BadGoal : mg "BadGoal" = some (.ref C_BadGoal))
    {C_BadKeys : Addr} (g_BadKeys : mg "BadKeys" = some (.ref C_BadKeys))
    {C_Busy : Addr} (g_Busy : mg "Busy" = some (.ref C_Busy))
    {C_EmptyQueue : Addr} (g_EmptyQueue : mg "EmptyQueue" = some (.ref C_EmptyQueue))
    {C_NoRow : Addr} (g_NoRow : mg "NoRow" = some (.ref C_NoRow))
    {C_NothingToUndo : Addr} (g_NothingToUndo : mg "NothingToUndo" = some (.ref C_NothingToUndo))
    {C_NothingWaiting : Addr} (g_NothingWaiting : mg "NothingWaiting" = some (.ref C_NothingWaiting))
    {C_NoWord : Addr} (g_NoWord : mg "NoWord" = some (.ref C_NoWord))
    {C_TooManyOperations : Addr} (g_TooManyOperations : mg "TooManyOperations" = some (.ref C_TooManyOperations))
    {C_BadKey : Addr} (g_BadKey : mg "BadKey" = some (.ref C_BadKey))
    {C_BadSequence : Addr} (g_BadSequence : mg "BadSequence" = some (.ref C_BadSequence))
    {C_BadText : Addr} (g_BadText : mg "BadText" = some (.ref C_BadText))
    {C_Duplicate : Addr} (g_Duplicate : mg "Duplicate" = some (.ref C_Duplicate))
    {C_NoCode : Addr} (g_NoCode : mg "NoCode" = some (.ref C_NoCode))
    {C_NoIndex : Addr} (g_NoIndex : mg "NoIndex" = some (.ref C_NoIndex))
    {C_NoLimit : Addr} (g_NoLimit : mg "NoLimit" = some (.ref C_NoLimit))
    {C_NoSource : Addr} (g_NoSource : mg "NoSource" = some (.ref C_NoSource))
    {C_NotLast : Addr} (g_NotLast : mg "NotLast" = some (.ref C_NotLast))
    {C_NotPossible : Addr} (g_NotPossible : mg "NotPossible" = some (.ref C_NotPossible))
    {C_NoTree : Addr} (g_NoTree : mg "NoTree" = some (.ref C_NoTree))
    {C_NoVersion : Addr} (g_NoVersion : mg "NoVersion" = some (.ref C_NoVersion))
    {C_Rejected : Addr} (g_Rejected : mg "Rejected" = some (.ref C_Rejected))
    {C_TooLong : Addr} (g_TooLong : mg "TooLong" = some (.ref C_TooLong))
    {C_TooMany : Addr} (g_TooMany : mg "TooMany" = some (.ref C_TooMany))
    {C_TooNarrow : Addr} (g_TooNarrow : mg "TooNarrow" = some (.ref C_TooNarrow))
    {C_UnknownKey : Addr} (g_UnknownKey : mg "UnknownKey" = some (.ref C_UnknownKey))
    {C_WrongLength : Addr} (g_WrongLength : mg "WrongLength" = some (.ref C_WrongLength))
    (x_BadBatch : PySem.W.excIn K C_BadBatch [.type "ValueError", .type "Exception", .type "BaseException", .type "object"] "ValueError.__new__" = true) (k_BadBatch : PySem.W.keepIn K (.ref C_BadBatch) = true) (b_BadBatch : PySem.W.subIn K (.ref C_BadBatch) (.type "BaseException") = some true) (t_BadBatch : PySem.W.typeIn K (.ref C_BadBatch) = some (.type "type"))
    (x_BadGoal : PySem.W.excIn K C_BadGoal [.type "ValueError", .type "Exception", .type "BaseException", .type "object"] "ValueError.__new__" = true) (k_BadGoal : PySem.W.keepIn K (.ref C_BadGoal) = true) (b_BadGoal : PySem.W.subIn K (.ref C_BadGoal) (.type "BaseException") = some true) (t_BadGoal : PySem.W.typeIn K (.ref C_BadGoal) = some (.type "type"))
    (x_BadKeys : PySem.W.excIn K C_BadKeys [.type "ValueError", .type "Exception", .type "BaseException", .type "object"] "ValueError.__new__" = true) (k_BadKeys : PySem.W.keepIn K (.ref C_BadKeys) = true) (b_BadKeys : PySem.W.subIn K (.ref C_BadKeys) (.type "BaseException") = some true) (t_BadKeys : PySem.W.typeIn K (.ref C_BadKeys) = some (.type "type"))
    (x_Busy : PySem.W.excIn K C_Busy [.type "ValueError", .type "Exception", .type "BaseException", .type "object"] "ValueError.__new__" = true) (k_Busy : PySem.W.keepIn K (.ref C_Busy) = true) (b_Busy : PySem.W.subIn K (.ref C_Busy) (.type "BaseException") = some true) (t_Busy : PySem.W.typeIn K (.ref C_Busy) = some (.type "type"))
    (x_EmptyQueue : PySem.W.excIn K C_EmptyQueue [.type "ValueError", .type "Exception", .type "BaseException", .type "object"] "ValueError.__new__" = true) (k_EmptyQueue : PySem.W.keepIn K (.ref C_EmptyQueue) = true) (b_EmptyQueue : PySem.W.subIn K (.ref C_EmptyQueue) (.type "BaseException") = some true) (t_EmptyQueue : PySem.W.typeIn K (.ref C_EmptyQueue) = some (.type "type"))
    (x_NoRow : PySem.W.excIn K C_NoRow [.type "ValueError", .type "Exception", .type "BaseException", .type "object"] "ValueError.__new__" = true) (k_NoRow : PySem.W.keepIn K (.ref C_NoRow) = true) (b_NoRow : PySem.W.subIn K (.ref C_NoRow) (.type "BaseException") = some true) (t_NoRow : PySem.W.typeIn K (.ref C_NoRow) = some (.type "type"))
    (x_NothingToUndo : PySem.W.excIn K C_NothingToUndo [.type "ValueError", .type "Exception", .type "BaseException", .type "object"] "ValueError.__new__" = true) (k_NothingToUndo : PySem.W.keepIn K (.ref C_NothingToUndo) = true) (b_NothingToUndo : PySem.W.subIn K (.ref C_NothingToUndo) (.type "BaseException") = some true) (t_NothingToUndo : PySem.W.typeIn K (.ref C_NothingToUndo) = some (.type "type"))
    (x_NothingWaiting : PySem.W.excIn K C_NothingWaiting [.type "ValueError", .type "Exception", .type "BaseException", .type "object"] "ValueError.__new__" = true) (k_NothingWaiting : PySem.W.keepIn K (.ref C_NothingWaiting) = true) (b_NothingWaiting : PySem.W.subIn K (.ref C_NothingWaiting) (.type "BaseException") = some true) (t_NothingWaiting : PySem.W.typeIn K (.ref C_NothingWaiting) = some (.type "type"))
    (x_NoWord : PySem.W.excIn K C_NoWord [.type "ValueError", .type "Exception", .type "BaseException", .type "object"] "ValueError.__new__" = true) (k_NoWord : PySem.W.keepIn K (.ref C_NoWord) = true) (b_NoWord : PySem.W.subIn K (.ref C_NoWord) (.type "BaseException") = some true) (t_NoWord : PySem.W.typeIn K (.ref C_NoWord) = some (.type "type"))
    (x_TooManyOperations : PySem.W.excIn K C_TooManyOperations [.type "ValueError", .type "Exception", .type "BaseException", .type "object"] "ValueError.__new__" = true) (k_TooManyOperations : PySem.W.keepIn K (.ref C_TooManyOperations) = true) (b_TooManyOperations : PySem.W.subIn K (.ref C_TooManyOperations) (.type "BaseException") = some true) (t_TooManyOperations : PySem.W.typeIn K (.ref C_TooManyOperations) = some (.type "type"))
    (XL : ExL K C_PairError [("PairError", C_PairError), ("BadBatch", C_BadBatch), ("BadGoal", C_BadGoal), ("BadKeys", C_BadKeys), ("Busy", C_Busy), ("EmptyQueue", C_EmptyQueue), ("NoRow", C_NoRow), ("NothingToUndo", C_NothingToUndo), ("NothingWaiting", C_NothingWaiting), ("NoWord", C_NoWord), ("TooManyOperations", C_TooManyOperations), ("BadKey", C_BadKey), ("BadSequence", C_BadSequence), ("BadText", C_BadText), ("Duplicate", C_Duplicate), ("NoCode", C_NoCode), ("NoIndex", C_NoIndex), ("NoLimit", C_NoLimit), ("NoSource", C_NoSource), ("NotLast", C_NotLast), ("NotPossible", C_NotPossible), ("NoTree", C_NoTree), ("NoVersion", C_NoVersion), ("Rejected", C_Rejected), ("TooLong", C_TooLong), ("TooMany", C_TooMany), ("TooNarrow", C_TooNarrow), ("UnknownKey", C_UnknownKey), ("WrongLength", C_WrongLength)])
    (b_range : mg "range" = none)
    (b_repr : mg "repr" = none)
    {t_MAX_KEY : Tok} (c_MAX_KEY : mg "MAX_KEY" = some (.int 1000000000000 t_MAX_KEY))
    {t_MAX_LENGTH : Tok} (c_MAX_LENGTH : mg "MAX_LENGTH" = some (.int 24 t_MAX_LENGTH))
    {t_LISTED : Tok} (c_LISTED : mg "LISTED" = some (.int 2000 t_LISTED))
    {t_WIDTH_LENGTH : Tok} (c_WIDTH_LENGTH : mg "WIDTH_LENGTH" = some (.int 12 t_WIDTH_LENGTH))
    {t_PUSH_LENGTH : Tok} (c_PUSH_LENGTH : mg "PUSH_LENGTH" = some (.int 8 t_PUSH_LENGTH))
    {t_MAX_OUTPUTS : Tok} (c_MAX_OUTPUTS : mg "MAX_OUTPUTS" = some (.int 8 t_MAX_OUTPUTS))
    {t_QUEUE_LENGTH : Tok} (c_QUEUE_LENGTH : mg "QUEUE_LENGTH" = some (.int 5 t_QUEUE_LENGTH))
    {t_REACH_LENGTH : Tok} (c_REACH_LENGTH : mg "REACH_LENGTH" = some (.int 10 t_REACH_LENGTH))
    {t_MAX_OPERATIONS : Tok} (c_MAX_OPERATIONS : mg "MAX_OPERATIONS" = some (.int 60 t_MAX_OPERATIONS))
    {t_BATCH : Tok} (c_BATCH : mg "BATCH" = some (.int 30 t_BATCH))
    {t_HISTORY : Tok} (c_HISTORY : mg "HISTORY" = some (.int 40 t_HISTORY))
    {t_MAX_PAIRS : Tok} (c_MAX_PAIRS : mg "MAX_PAIRS" = some (.int 8 t_MAX_PAIRS))
    {t_PAIRS_LENGTH : Tok} (c_PAIRS_LENGTH : mg "PAIRS_LENGTH" = some (.int 5 t_PAIRS_LENGTH))
    : FnG P w K mg base CX0 4 a fd ["_law_script"] (spF K mg 1 f_law) := by
  refine fn_ok (k := 3) D.fn sc_law (keeps_len (N := N_law) rfl keeps_runU) (fun cdv A outer s H E hG0 hr0 => ?_) (okF_nox _)
  have hG : A.guards = some [] := hG0
  have hr := hr0
  have hu := hr0.units
  exact (gss_cons (gs_set 1 sc_law.nd (ge_fn D__law_stream G__law_stream hG hr (ga_cons (ge_var 0) ga_nil))) (gss_cons (gs_set 2 sc_law.nd (ge_fn D__law_first_right G__law_first_right hG hr (ga_cons (ge_lc rfl sc_law.nd (gi_range1 (by rfl) b_range (ga_cons ge_int ga_nil)) (blkOk_by (N := ["_law_script", "_law_stream_here", "_law_one", "_law_two", "_law_errors", "_law_limits", "_law_k"]) (sc := defScope s_law) (own := [("_law_k", 6)]) (by decide +kernel)) (by decide) (fun _ _ _ _ _ => (gg_name 6 sc_law.nd)) (fun _ _ _ _ _ => gts_nil) (fun _ _ _ _ _ => (ge_fn D__law_odd G__law_odd hG hr (ga_cons (ge_var 1) ga_nil)))) ga_nil))) (gss_cons (gs_set 3 sc_law.nd (ge_fn D__law_second_right G__law_second_right hG hr (ga_cons (ge_lc rfl sc_law.nd (gi_range1 (by rfl) b_range (ga_cons ge_int ga_nil)) (blkOk_by (N := ["_law_script", "_law_stream_here", "_law_one", "_law_two", "_law_errors", "_law_limits", "_law_k"]) (sc := defScope s_law) (own := [("_law_k", 6)]) (by decide +kernel)) (by decide) (fun _ _ _ _ _ => (gg_name 6 sc_law.nd)) (fun _ _ _ _ _ => gts_nil) (fun _ _ _ _ _ => (ge_fn D__law_odd G__law_odd hG hr (ga_cons (ge_var 1) ga_nil)))) ga_nil))) (gss_cons (gs_set 4 sc_law.nd (ge_lst (ga_cons (ge_mk0 (XL.all ("BadBatch", C_BadBatch) (by simp)).at_ (pmk_none PySem.F.excBase_ValueError x_BadBatch g_BadBatch k_BadBatch (raises_own b_BadBatch t_BadBatch) rfl (by decide))) (ga_cons (ge_mk0 (XL.all ("BadGoal", C_BadGoal) (by simp)).at_ (pmk_none PySem.F.excBase_ValueError x_BadGoal g_BadGoal k_BadGoal (raises_own b_BadGoal t_BadGoal) rfl (by decide))) (ga_cons (ge_mk0 (XL.all ("BadKeys", C_BadKeys) (by simp)).at_ (pmk_none PySem.F.excBase_ValueError x_BadKeys g_BadKeys k_BadKeys (raises_own b_BadKeys t_BadKeys) rfl (by decide))) (ga_cons (ge_mk0 (XL.all ("Busy", C_Busy) (by simp)).at_ (pmk_none PySem.F.excBase_ValueError x_Busy g_Busy k_Busy (raises_own b_Busy t_Busy) rfl (by decide))) (ga_cons (ge_mk0 (XL.all ("EmptyQueue", C_EmptyQueue) (by simp)).at_ (pmk_none PySem.F.excBase_ValueError x_EmptyQueue g_EmptyQueue k_EmptyQueue (raises_own b_EmptyQueue t_EmptyQueue) rfl (by decide))) (ga_cons (ge_mk0 (XL.all ("NoRow", C_NoRow) (by simp)).at_ (pmk_none PySem.F.excBase_ValueError x_NoRow g_NoRow k_NoRow (raises_own b_NoRow t_NoRow) rfl (by decide))) (ga_cons (ge_mk0 (XL.all ("NothingToUndo", C_NothingToUndo) (by simp)).at_ (pmk_none PySem.F.excBase_ValueError x_NothingToUndo g_NothingToUndo k_NothingToUndo (raises_own b_NothingToUndo t_NothingToUndo) rfl (by decide))) ga_nil))))))))) (gss_cons (gs_set 4 sc_law.nd (ge_op o_add (ge_var 4) (ge_lst (ga_cons (ge_mk0 (XL.all ("NothingWaiting", C_NothingWaiting) (by simp)).at_ (pmk_none PySem.F.excBase_ValueError x_NothingWaiting g_NothingWaiting k_NothingWaiting (raises_own b_NothingWaiting t_NothingWaiting) rfl (by decide))) (ga_cons (ge_mk0 (XL.all ("NoWord", C_NoWord) (by simp)).at_ (pmk_none PySem.F.excBase_ValueError x_NoWord g_NoWord k_NoWord (raises_own b_NoWord t_NoWord) rfl (by decide))) (ga_cons (ge_mk0 (XL.all ("TooManyOperations", C_TooManyOperations) (by simp)).at_ (pmk_none PySem.F.excBase_ValueError x_TooManyOperations g_TooManyOperations k_TooManyOperations (raises_own b_TooManyOperations t_TooManyOperations) rfl (by decide))) ga_nil)))))) (gss_cons (gs_if (GW.gt (gw_or (gt_not (gt_tr (ge_ix x_ix (ge_var 2) ge_int))) (gw_or (gt_not (gt_tr (ge_ix x_ix (ge_var 3) ge_int))) (gw_or1 (gt_not (gt_tr (ge_fn D__law_alone G__law_alone hG hr (ga_cons (ge_var 4) (ga_cons (ge_op o_add (ge_ix x_ix (ge_var 2) ge_int) (ge_ix x_ix (ge_var 3) ge_int)) ga_nil))))))))) (gss_one (gs_ret ge_bl)) gss_nil) (gss_cons (gs_set 5 sc_law.nd (ge_lst (ga_cons (ge_glob (w := .int 1000000000000) (by rfl) c_MAX_KEY ⟨_, rfl⟩ fun _ _ => .int) (ga_cons (ge_glob (w := .int 24) (by rfl) c_MAX_LENGTH ⟨_, rfl⟩ fun _ _ => .int) (ga_cons (ge_glob (w := .int 2000) (by rfl) c_LISTED ⟨_, rfl⟩ fun _ _ => .int) (ga_cons (ge_glob (w := .int 12) (by rfl) c_WIDTH_LENGTH ⟨_, rfl⟩ fun _ _ => .int) (ga_cons (ge_glob (w := .int 8) (by rfl) c_PUSH_LENGTH ⟨_, rfl⟩ fun _ _ => .int) (ga_cons (ge_glob (w := .int 8) (by rfl) c_MAX_OUTPUTS ⟨_, rfl⟩ fun _ _ => .int) (ga_cons (ge_glob (w := .int 5) (by rfl) c_QUEUE_LENGTH ⟨_, rfl⟩ fun _ _ => .int) (ga_cons (ge_glob (w := .int 10) (by rfl) c_REACH_LENGTH ⟨_, rfl⟩ fun _ _ => .int) ga_nil)))))))))) (gss_cons (gs_set 5 sc_law.nd (ge_op o_add (ge_var 5) (ge_lst (ga_cons (ge_glob (w := .int 60) (by rfl) c_MAX_OPERATIONS ⟨_, rfl⟩ fun _ _ => .int) (ga_cons (ge_glob (w := .int 30) (by rfl) c_BATCH ⟨_, rfl⟩ fun _ _ => .int) (ga_cons (ge_glob (w := .int 40) (by rfl) c_HISTORY ⟨_, rfl⟩ fun _ _ => .int) (ga_cons (ge_glob (w := .int 8) (by rfl) c_MAX_PAIRS ⟨_, rfl⟩ fun _ _ => .int) (ga_cons (ge_glob (w := .int 5) (by rfl) c_PAIRS_LENGTH ⟨_, rfl⟩ fun _ _ => .int) ga_nil)))))))) (gss_one (gs_ret (ge_cmp (o_eq hu) (ge_callB (c_reprX hG hB.mods hu) (by rfl) b_repr bt_repr (ga_cons (ge_var 5) ga_nil)) (ge_callB (c_reprX hG hB.mods hu) (by rfl) b_repr bt_repr (ga_cons (ge_lst (ga_cons (ge_op o_pow ge_int ge_int) (ga_cons ge_int (ga_cons ge_int (ga_cons ge_int (ga_cons ge_int (ga_cons ge_int (ga_cons ge_int (ga_cons ge_int (ga_cons ge_int (ga_cons ge_int (ga_cons ge_int (ga_cons ge_int (ga_cons ge_int ga_nil)))))))))))))) ga_nil)))))))))))))
theorem all_mk {l : PySem.W.OpenLaw} {w : World} {K : PySem.W.Frag} {h : Heap} {mg : Str → Option Value} {fa : Addr} (X : K.In h) (Y : h.Ns mainGlobals mg) (hfa : mg "law" = some (.ref fa))
    {f__law_stream_ : Addr} {od__law_stream an__law_stream : Option Addr} {sl__law_stream : Array (Option Value)} {oc__law_stream kV__law_stream dc__law_stream pm__law_stream cd__law_stream ct__law_stream : Value}
    (a__law_stream : PySem.W.nsIn K mainGlobals "_law_stream" = some (some (.ref f__law_stream_))) (l__law_stream : K.lookup f__law_stream_ = some ⟨oc__law_stream, od__law_stream, .func (PySem.W.fnOf "_law_stream" "_law_stream" (defArgs s__law_stream) (defBody s__law_stream) (defScope s__law_stream) .none kV__law_stream dc__law_stream pm__law_stream an__law_stream cd__law_stream ct__law_stream), sl__law_stream⟩) (c__law_stream : PySem.W.codeIn K cd__law_stream "_law_stream" = true) (k__law_stream : PySem.W.keepIn K (.ref f__law_stream_) = true)
    {f__law_first_right_ : Addr} {od__law_first_right an__law_first_right : Option Addr} {sl__law_first_right : Array (Option Value)} {oc__law_first_right kV__law_first_right dc__law_first_right pm__law_first_right cd__law_first_right ct__law_first_right : Value}
    (a__law_first_right : PySem.W.nsIn K mainGlobals "_law_first_right" = some (some (.ref f__law_first_right_))) (l__law_first_right : K.lookup f__law_first_right_ = some ⟨oc__law_first_right, od__law_first_right, .func (PySem.W.fnOf "_law_first_right" "_law_first_right" (defArgs s__law_first_right) (defBody s__law_first_right) (defScope s__law_first_right) .none kV__law_first_right dc__law_first_right pm__law_first_right an__law_first_right cd__law_first_right ct__law_first_right), sl__law_first_right⟩) (c__law_first_right : PySem.W.codeIn K cd__law_first_right "_law_first_right" = true) (k__law_first_right : PySem.W.keepIn K (.ref f__law_first_right_) = true)
    {f__law_second_right_ : Addr} {od__law_second_right an__law_second_right : Option Addr} {sl__law_second_right : Array (Option Value)} {oc__law_second_right kV__law_second_right dc__law_second_right pm__law_second_right cd__law_second_right ct__law_second_right : Value}
    (a__law_second_right : PySem.W.nsIn K mainGlobals "_law_second_right" = some (some (.ref f__law_second_right_))) (l__law_second_right : K.lookup f__law_second_right_ = some ⟨oc__law_second_right, od__law_second_right, .func (PySem.W.fnOf "_law_second_right" "_law_second_right" (defArgs s__law_second_right) (defBody s__law_second_right) (defScope s__law_second_right) .none kV__law_second_right dc__law_second_right pm__law_second_right an__law_second_right cd__law_second_right ct__law_second_right), sl__law_second_right⟩) (c__law_second_right : PySem.W.codeIn K cd__law_second_right "_law_second_right" = true) (k__law_second_right : PySem.W.keepIn K (.ref f__law_second_right_) = true)
    {f__law_below_ : Addr} {od__law_below an__law_below : Option Addr} {sl__law_below : Array (Option Value)} {oc__law_below kV__law_below dc__law_below pm__law_below cd__law_below ct__law_below : Value}
    (a__law_below : PySem.W.nsIn K mainGlobals "_law_below" = some (some (.ref f__law_below_))) (l__law_below : K.lookup f__law_below_ = some ⟨oc__law_below, od__law_below, .func (PySem.W.fnOf "_law_below" "_law_below" (defArgs s__law_below) (defBody s__law_below) (defScope s__law_below) .none kV__law_below dc__law_below pm__law_below an__law_below cd__law_below ct__law_below), sl__law_below⟩) (c__law_below : PySem.W.codeIn K cd__law_below "_law_below" = true) (k__law_below : PySem.W.keepIn K (.ref f__law_below_) = true)
    {f__law_pick_ : Addr} {od__law_pick an__law_pick : Option Addr} {sl__law_pick : Array (Option Value)} {oc__law_pick kV__law_pick dc__law_pick pm__law_pick cd__law_pick ct__law_pick : Value}
    (a__law_pick : PySem.W.nsIn K mainGlobals "_law_pick" = some (some (.ref f__law_pick_))) (l__law_pick : K.lookup f__law_pick_ = some ⟨oc__law_pick, od__law_pick, .func (PySem.W.fnOf "_law_pick" "_law_pick" (defArgs s__law_pick) (defBody s__law_pick) (defScope s__law_pick) .none kV__law_pick dc__law_pick pm__law_pick an__law_pick cd__law_pick ct__law_pick), sl__law_pick⟩) (c__law_pick : PySem.W.codeIn K cd__law_pick "_law_pick" = true) (k__law_pick : PySem.W.keepIn K (.ref f__law_pick_) = true)
    {f__law_odd_ : Addr} {od__law_odd an__law_odd : Option Addr} {sl__law_odd : Array (Option Value)} {oc__law_odd kV__law_odd dc__law_odd pm__law_odd cd__law_odd ct__law_odd : Value}
    (a__law_odd : PySem.W.nsIn K mainGlobals "_law_odd" = some (some (.ref f__law_odd_))) (l__law_odd : K.lookup f__law_odd_ = some ⟨oc__law_odd, od__law_odd, .func (PySem.W.fnOf "_law_odd" "_law_odd" (defArgs s__law_odd) (defBody s__law_odd) (defScope s__law_odd) .none kV__law_odd dc__law_odd pm__law_odd an__law_odd cd__law_odd ct__law_odd), sl__law_odd⟩) (c__law_odd : PySem.W.codeIn K cd__law_odd "_law_odd" = true) (k__law_odd : PySem.W.keepIn K (.ref f__law_odd_) = true)
    {f__law_plain_ : Addr} {od__law_plain an__law_plain : Option Addr} {sl__law_plain : Array (Option Value)} {oc__law_plain kV__law_plain dc__law_plain pm__law_plain cd__law_plain ct__law_plain : Value}
    (a__law_plain : PySem.W.nsIn K mainGlobals "_law_plain" = some (some (.ref f__law_plain_))) (l__law_plain : K.lookup f__law_plain_ = some ⟨oc__law_plain, od__law_plain, .func (PySem.W.fnOf "_law_plain" "_law_plain" (defArgs s__law_plain) (defBody s__law_plain) (defScope s__law_plain) .none kV__law_plain dc__law_plain pm__law_plain an__law_plain cd__law_plain ct__law_plain), sl__law_plain⟩) (c__law_plain : PySem.W.codeIn K cd__law_plain "_law_plain" = true) (k__law_plain : PySem.W.keepIn K (.ref f__law_plain_) = true)
    {f__law_filled_ : Addr} {od__law_filled an__law_filled : Option Addr} {sl__law_filled : Array (Option Value)} {oc__law_filled kV__law_filled dc__law_filled pm__law_filled cd__law_filled ct__law_filled : Value}
    (a__law_filled : PySem.W.nsIn K mainGlobals "_law_filled" = some (some (.ref f__law_filled_))) (l__law_filled : K.lookup f__law_filled_ = some ⟨oc__law_filled, od__law_filled, .func (PySem.W.fnOf "_law_filled" "_law_filled" (defArgs s__law_filled) (defBody s__law_filled) (defScope s__law_filled) .none kV__law_filled dc__law_filled pm__law_filled an__law_filled cd__law_filled ct__law_filled), sl__law_filled⟩) (c__law_filled : PySem.W.codeIn K cd__law_filled "_law_filled" = true) (k__law_filled : PySem.W.keepIn K (.ref f__law_filled_) = true)
    {f__law_alone_ : Addr} {od__law_alone an__law_alone : Option Addr} {sl__law_alone : Array (Option Value)} {oc__law_alone kV__law_alone dc__law_alone pm__law_alone cd__law_alone ct__law_alone : Value}
    (a__law_alone : PySem.W.nsIn K mainGlobals "_law_alone" = some (some (.ref f__law_alone_))) (l__law_alone : K.lookup f__law_alone_ = some ⟨oc__law_alone, od__law_alone, .func (PySem.W.fnOf "_law_alone" "_law_alone" (defArgs s__law_alone) (defBody s__law_alone) (defScope s__law_alone) .none kV__law_alone dc__law_alone pm__law_alone an__law_alone cd__law_alone ct__law_alone), sl__law_alone⟩) (c__law_alone : PySem.W.codeIn K cd__law_alone "_law_alone" = true) (k__law_alone : PySem.W.keepIn K (.ref f__law_alone_) = true)
    {f_law_ : Addr} {od_law an_law : Option Addr} {sl_law : Array (Option Value)} {oc_law kV_law dc_law pm_law cd_law ct_law : Value}
    (a_law : PySem.W.nsIn K mainGlobals "law" = some (some (.ref f_law_))) (l_law : K.lookup f_law_ = some ⟨oc_law, od_law, .func (PySem.W.fnOf "law" "law" (defArgs s_law) (defBody s_law) (defScope s_law) .none kV_law dc_law pm_law an_law cd_law ct_law), sl_law⟩) (c_law : PySem.W.codeIn K cd_law "law" = true) (k_law : PySem.W.keepIn K (.ref f_law_) = true)
    {C_PairError : Addr} (a_PairError : PySem.W.nsIn K mainGlobals "PairError" = some (some (.ref C_PairError)))
    {C_BadBatch : Addr} (a_BadBatch : PySem.W.nsIn K mainGlobals "BadBatch" = some (some (.ref C_BadBatch)))
    {C_BadGoal : Addr} (a_BadGoal : PySem.W.nsIn K mainGlobals "BadGoal" = some (some (.ref C_BadGoal)))
    {C_BadKeys : Addr} (a_BadKeys : PySem.W.nsIn K mainGlobals "BadKeys" = some (some (.ref C_BadKeys)))
    {C_Busy : Addr} (a_Busy : PySem.W.nsIn K mainGlobals "Busy" = some (some (.ref C_Busy)))
    {C_EmptyQueue : Addr} (a_EmptyQueue : PySem.W.nsIn K mainGlobals "EmptyQueue" = some (some (.ref C_EmptyQueue)))
    {C_NoRow : Addr} (a_NoRow : PySem.W.nsIn K mainGlobals "NoRow" = some (some (.ref C_NoRow)))
    {C_NothingToUndo : Addr} (a_NothingToUndo : PySem.W.nsIn K mainGlobals "NothingToUndo" = some (some (.ref C_NothingToUndo)))
    {C_NothingWaiting : Addr} (a_NothingWaiting : PySem.W.nsIn K mainGlobals "NothingWaiting" = some (some (.ref C_NothingWaiting)))
    {C_NoWord : Addr} (a_NoWord : PySem.W.nsIn K mainGlobals "NoWord" = some (some (.ref C_NoWord)))
    {C_TooManyOperations : Addr} (a_TooManyOperations : PySem.W.nsIn K mainGlobals "TooManyOperations" = some (some (.ref C_TooManyOperations)))
    {C_BadKey : Addr} (a_BadKey : PySem.W.nsIn K mainGlobals "BadKey" = some (some (.ref C_BadKey)))
    {C_BadSequence : Addr} (a_BadSequence : PySem.W.nsIn K mainGlobals "BadSequence" = some (some (.ref C_BadSequence)))
    {C_BadText : Addr} (a_BadText : PySem.W.nsIn K mainGlobals "BadText" = some (some (.ref C_BadText)))
    {C_Duplicate : Addr} (a_Duplicate : PySem.W.nsIn K mainGlobals "Duplicate" = some (some (.ref C_Duplicate)))
    {C_NoCode : Addr} (a_NoCode : PySem.W.nsIn K mainGlobals "NoCode" = some (some (.ref C_NoCode)))
    {C_NoIndex : Addr} (a_NoIndex : PySem.W.nsIn K mainGlobals "NoIndex" = some (some (.ref C_NoIndex)))
    {C_NoLimit : Addr} (a_NoLimit : PySem.W.nsIn K mainGlobals "NoLimit" = some (some (.ref C_NoLimit)))
    {C_NoSource : Addr} (a_NoSource : PySem.W.nsIn K mainGlobals "NoSource" = some (some (.ref C_NoSource)))
    {C_NotLast : Addr} (a_NotLast : PySem.W.nsIn K mainGlobals "NotLast" = some (some (.ref C_NotLast)))
    {C_NotPossible : Addr} (a_NotPossible : PySem.W.nsIn K mainGlobals "NotPossible" = some (some (.ref C_NotPossible)))
    {C_NoTree : Addr} (a_NoTree : PySem.W.nsIn K mainGlobals "NoTree" = some (some (.ref C_NoTree)))
    {C_NoVersion : Addr} (a_NoVersion : PySem.W.nsIn K mainGlobals "NoVersion" = some (some (.ref C_NoVersion)))
    {C_Rejected : Addr} (a_Rejected : PySem.W.nsIn K mainGlobals "Rejected" = some (some (.ref C_Rejected)))
    {C_TooLong : Addr} (a_TooLong : PySem.W.nsIn K mainGlobals "TooLong" = some (some (.ref C_TooLong)))
    {C_TooMany : Addr} (a_TooMany : PySem.W.nsIn K mainGlobals "TooMany" = some (some (.ref C_TooMany)))
    {C_TooNarrow : Addr} (a_TooNarrow : PySem.W.nsIn K mainGlobals "TooNarrow" = some (some (.ref C_TooNarrow)))
    {C_UnknownKey : Addr} (a_UnknownKey : PySem.W.nsIn K mainGlobals "UnknownKey" = some (some (.ref C_UnknownKey)))
    {C_WrongLength : Addr} (a_WrongLength : PySem.W.nsIn K mainGlobals "WrongLength" = some (some (.ref C_WrongLength)))
    {fI_BadKey : Addr} (T_BadKey : E_key.Txt K mg "BadKey" "BadKey.__init__" C_BadKey fI_BadKey)
    {fI_BadSequence : Addr} (T_BadSequence : E_error.Txt K mg "BadSequence" "BadSequence.__init__" C_BadSequence fI_BadSequence)
    {fI_BadText : Addr} (T_BadText : E_index.Txt K mg "BadText" "BadText.__init__" C_BadText fI_BadText)
    {fI_Duplicate : Addr} (T_Duplicate : E_key.Txt K mg "Duplicate" "Duplicate.__init__" C_Duplicate fI_Duplicate)
    {fI_NoCode : Addr} (T_NoCode : E_value.Txt K mg "NoCode" "NoCode.__init__" C_NoCode fI_NoCode)
    {fI_NoIndex : Addr} (T_NoIndex : E_index.Txt K mg "NoIndex" "NoIndex.__init__" C_NoIndex fI_NoIndex)
    {fI_NoLimit : Addr} (T_NoLimit : E_limit.Txt K mg "NoLimit" "NoLimit.__init__" C_NoLimit fI_NoLimit)
    {fI_NoSource : Addr} (T_NoSource : E_value.Txt K mg "NoSource" "NoSource.__init__" C_NoSource fI_NoSource)
    {fI_NotLast : Addr} (T_NotLast : E_key.Txt K mg "NotLast" "NotLast.__init__" C_NotLast fI_NotLast)
    {fI_NotPossible : Addr} (T_NotPossible : E_obstruction.Txt K mg "NotPossible" "NotPossible.__init__" C_NotPossible fI_NotPossible)
    {fI_NoTree : Addr} (T_NoTree : E_value.Txt K mg "NoTree" "NoTree.__init__" C_NoTree fI_NoTree)
    {fI_NoVersion : Addr} (T_NoVersion : E_version.Txt K mg "NoVersion" "NoVersion.__init__" C_NoVersion fI_NoVersion)
    {fI_Rejected : Addr} (T_Rejected : E_index.Txt K mg "Rejected" "Rejected.__init__" C_Rejected fI_Rejected)
    {fI_TooLong : Addr} (T_TooLong : E_limit.Txt K mg "TooLong" "TooLong.__init__" C_TooLong fI_TooLong)
    {fI_TooMany : Addr} (T_TooMany : E_limit.Txt K mg "TooMany" "TooMany.__init__" C_TooMany fI_TooMany)
    {fI_TooNarrow : Addr} (T_TooNarrow : E_width.Txt K mg "TooNarrow" "TooNarrow.__init__" C_TooNarrow fI_TooNarrow)
    {fI_UnknownKey : Addr} (T_UnknownKey : E_key.Txt K mg "UnknownKey" "UnknownKey.__init__" C_UnknownKey fI_UnknownKey)
    {fI_WrongLength : Addr} (T_WrongLength : E_length.Txt K mg "WrongLength" "WrongLength.__init__" C_WrongLength fI_WrongLength)
    (x_PairError : PySem.W.excIn K C_PairError [.type "ValueError", .type "Exception", .type "BaseException", .type "object"] "ValueError.__new__" = true) (k_PairError : PySem.W.keepIn K (.ref C_PairError) = true) (b_PairError : PySem.W.subIn K (.ref C_PairError) (.type "BaseException") = some true) (t_PairError : PySem.W.typeIn K (.ref C_PairError) = some (.type "type"))
    (x_BadBatch : PySem.W.excIn K C_BadBatch [.type "ValueError", .type "Exception", .type "BaseException", .type "object"] "ValueError.__new__" = true) (k_BadBatch : PySem.W.keepIn K (.ref C_BadBatch) = true) (b_BadBatch : PySem.W.subIn K (.ref C_BadBatch) (.type "BaseException") = some true) (t_BadBatch : PySem.W.typeIn K (.ref C_BadBatch) = some (.type "type"))
    (x_BadGoal : PySem.W.excIn K C_BadGoal [.type "ValueError", .type "Exception", .type "BaseException", .type "object"] "ValueError.__new__" = true) (k_BadGoal : PySem.W.keepIn K (.ref C_BadGoal) = true) (b_BadGoal : PySem.W.subIn K (.ref C_BadGoal) (.type "BaseException") = some true) (t_BadGoal : PySem.W.typeIn K (.ref C_BadGoal) = some (.type "type"))
    (x_BadKeys : PySem.W.excIn K C_BadKeys [.type "ValueError", .type "Exception", .type "BaseException", .type "object"] "ValueError.__new__" = true) (k_BadKeys : PySem.W.keepIn K (.ref C_BadKeys) = true) (b_BadKeys : PySem.W.subIn K (.ref C_BadKeys) (.type "BaseException") = some true) (t_BadKeys : PySem.W.typeIn K (.ref C_BadKeys) = some (.type "type"))
    (x_Busy : PySem.W.excIn K C_Busy [.type "ValueError", .type "Exception", .type "BaseException", .type "object"] "ValueError.__new__" = true) (k_Busy : PySem.W.keepIn K (.ref C_Busy) = true) (b_Busy : PySem.W.subIn K (.ref C_Busy) (.type "BaseException") = some true) (t_Busy : PySem.W.typeIn K (.ref C_Busy) = some (.type "type"))
    (x_EmptyQueue : PySem.W.excIn K C_EmptyQueue [.type "ValueError", .type "Exception", .type "BaseException", .type "object"] "ValueError.__new__" = true) (k_EmptyQueue : PySem.W.keepIn K (.ref C_EmptyQueue) = true) (b_EmptyQueue : PySem.W.subIn K (.ref C_EmptyQueue) (.type "BaseException") = some true) (t_EmptyQueue : PySem.W.typeIn K (.ref C_EmptyQueue) = some (.type "type"))
    (x_NoRow : PySem.W.excIn K C_NoRow [.type "ValueError", .type "Exception", .type "BaseException", .type "object"] "ValueError.__new__" = true) (k_NoRow : PySem.W.keepIn K (.ref C_NoRow) = true) (b_NoRow : PySem.W.subIn K (.ref C_NoRow) (.type "BaseException") = some true) (t_NoRow : PySem.W.typeIn K (.ref C_NoRow) = some (.type "type"))
    (x_NothingToUndo : PySem.W.excIn K C_NothingToUndo [.type "ValueError", .type "Exception", .type "BaseException", .type "object"] "ValueError.__new__" = true) (k_NothingToUndo : PySem.W.keepIn K (.ref C_NothingToUndo) = true) (b_NothingToUndo : PySem.W.subIn K (.ref C_NothingToUndo) (.type "BaseException") = some true) (t_NothingToUndo : PySem.W.typeIn K (.ref C_NothingToUndo) = some (.type "type"))
    (x_NothingWaiting : PySem.W.excIn K C_NothingWaiting [.type "ValueError", .type "Exception", .type "BaseException", .type "object"] "ValueError.__new__" = true) (k_NothingWaiting : PySem.W.keepIn K (.ref C_NothingWaiting) = true) (b_NothingWaiting : PySem.W.subIn K (.ref C_NothingWaiting) (.type "BaseException") = some true) (t_NothingWaiting : PySem.W.typeIn K (.ref C_NothingWaiting) = some (.type "type"))
    (x_NoWord : PySem.W.excIn K C_NoWord [.type "ValueError", .type "Exception", .type "BaseException", .type "object"] "ValueError.__new__" = true) (k_NoWord : PySem.W.keepIn K (.ref C_NoWord) = true) (b_NoWord : PySem.W.subIn K (.ref C_NoWord) (.type "BaseException") = some true) (t_NoWord : PySem.W.typeIn K (.ref C_NoWord) = some (.type "type"))
    (x_TooManyOperations : PySem.W.excIn K C_TooManyOperations [.type "ValueError", .type "Exception", .type "BaseException", .type "object"] "ValueError.__new__" = true) (k_TooManyOperations : PySem.W.keepIn K (.ref C_TooManyOperations) = true) (b_TooManyOperations : PySem.W.subIn K (.ref C_TooManyOperations) (.type "BaseException") = some true) (t_TooManyOperations : PySem.W.typeIn K (.ref C_TooManyOperations) = some (.type "type"))
    (I_PairError : ExI K C_PairError)
    (I_BadBatch : ExI K C_BadBatch)
    (I_BadGoal : ExI K C_BadGoal)
    (I_BadKeys : ExI K C_BadKeys)
    (I_Busy : ExI K C_Busy)
    (I_EmptyQueue : ExI K C_EmptyQueue)
    (I_NoRow : ExI K C_NoRow)
    (I_NothingToUndo : ExI K C_NothingToUndo)
    (I_NothingWaiting : ExI K C_NothingWaiting)
    (I_NoWord : ExI K C_NoWord)
    (I_TooManyOperations : ExI K C_TooManyOperations)
    (I_BadKey : ExI K C_BadKey)
    (I_BadSequence : ExI K C_BadSequence)
    (I_BadText : ExI K C_BadText)
    (I_Duplicate : ExI K C_Duplicate)
    (I_NoCode : ExI K C_NoCode)
    (I_NoIndex : ExI K C_NoIndex)
    (I_NoLimit : ExI K C_NoLimit)
    (I_NoSource : ExI K C_NoSource)
    (I_NotLast : ExI K C_NotLast)
    (I_NotPossible : ExI K C_NotPossible)
    (I_NoTree : ExI K C_NoTree)
    (I_NoVersion : ExI K C_NoVersion)
    (I_Rejected : ExI K C_Rejected)
    (I_TooLong : ExI K C_TooLong)
    (I_TooMany : ExI K C_TooMany)
    (I_TooNarrow : ExI K C_TooNarrow)
    (I_UnknownKey : ExI K C_UnknownKey)
    (I_WrongLength : ExI K C_WrongLength)
    (XC_PairError : ExC K C_PairError "PairError" C_PairError)
    (XC_BadBatch : ExC K C_PairError "BadBatch" C_BadBatch)
    (XC_BadGoal : ExC K C_PairError "BadGoal" C_BadGoal)
    (XC_BadKeys : ExC K C_PairError "BadKeys" C_BadKeys)
    (XC_Busy : ExC K C_PairError "Busy" C_Busy)
    (XC_EmptyQueue : ExC K C_PairError "EmptyQueue" C_EmptyQueue)
    (XC_NoRow : ExC K C_PairError "NoRow" C_NoRow)
    (XC_NothingToUndo : ExC K C_PairError "NothingToUndo" C_NothingToUndo)
    (XC_NothingWaiting : ExC K C_PairError "NothingWaiting" C_NothingWaiting)
    (XC_NoWord : ExC K C_PairError "NoWord" C_NoWord)
    (XC_TooManyOperations : ExC K C_PairError "TooManyOperations" C_TooManyOperations)
    (XC_BadKey : ExC K C_PairError "BadKey" C_BadKey)
    (XC_BadSequence : ExC K C_PairError "BadSequence" C_BadSequence)
    (XC_BadText : ExC K C_PairError "BadText" C_BadText)
    (XC_Duplicate : ExC K C_PairError "Duplicate" C_Duplicate)
    (XC_NoCode : ExC K C_PairError "NoCode" C_NoCode)
    (XC_NoIndex : ExC K C_PairError "NoIndex" C_NoIndex)
    (XC_NoLimit : ExC K C_PairError "NoLimit" C_NoLimit)
    (XC_NoSource : ExC K C_PairError "NoSource" C_NoSource)
    (XC_NotLast : ExC K C_PairError "NotLast" C_NotLast)
    (XC_NotPossible : ExC K C_PairError "NotPossible" C_NotPossible)
    (XC_NoTree : ExC K C_PairError "NoTree" C_NoTree)
    (XC_NoVersion : ExC K C_PairError "NoVersion" C_NoVersion)
    (XC_Rejected : ExC K C_PairError "Rejected" C_Rejected)
    (XC_TooLong : ExC K C_PairError "TooLong" C_TooLong)
    (XC_TooMany : ExC K C_PairError "TooMany" C_TooMany)
    (XC_TooNarrow : ExC K C_PairError "TooNarrow" C_TooNarrow)
    (XC_UnknownKey : ExC K C_PairError "UnknownKey" C_UnknownKey)
    (XC_WrongLength : ExC K C_PairError "WrongLength" C_WrongLength)
    (nd_ : [C_PairError, C_BadBatch, C_BadGoal, C_BadKeys, C_Busy, C_EmptyQueue, C_NoRow, C_NothingToUndo, C_NothingWaiting, C_NoWord, C_TooManyOperations, C_BadKey, C_BadSequence, C_BadText, C_Duplicate, C_NoCode, C_NoIndex, C_NoLimit, C_NoSource, C_NotLast, C_NotPossible, C_NoTree, C_NoVersion, C_Rejected, C_TooLong, C_TooMany, C_TooNarrow, C_UnknownKey, C_WrongLength].Nodup)
    (z_abs : PySem.W.nsIn K mainGlobals "abs" = some none)
    (z_len : PySem.W.nsIn K mainGlobals "len" = some none)
    (z_repr : PySem.W.nsIn K mainGlobals "repr" = some none)
    (z_int : PySem.W.nsIn K mainGlobals "int" = some none)
    (z_isinstance : PySem.W.nsIn K mainGlobals "isinstance" = some none)
    (z_range : PySem.W.nsIn K mainGlobals "range" = some none)
    (z_enumerate : PySem.W.nsIn K mainGlobals "enumerate" = some none)
    (z_ValueError : PySem.W.nsIn K mainGlobals "ValueError" = some none)
    {t_MAX_KEY : Tok} (z_MAX_KEY : PySem.W.nsIn K mainGlobals "MAX_KEY" = some (some (.int 1000000000000 t_MAX_KEY)))
    {t_MAX_LENGTH : Tok} (z_MAX_LENGTH : PySem.W.nsIn K mainGlobals "MAX_LENGTH" = some (some (.int 24 t_MAX_LENGTH)))
    {t_LISTED : Tok} (z_LISTED : PySem.W.nsIn K mainGlobals "LISTED" = some (some (.int 2000 t_LISTED)))
    {t_WIDTH_LENGTH : Tok} (z_WIDTH_LENGTH : PySem.W.nsIn K mainGlobals "WIDTH_LENGTH" = some (some (.int 12 t_WIDTH_LENGTH)))
    {t_PUSH_LENGTH : Tok} (z_PUSH_LENGTH : PySem.W.nsIn K mainGlobals "PUSH_LENGTH" = some (some (.int 8 t_PUSH_LENGTH)))
    {t_MAX_OUTPUTS : Tok} (z_MAX_OUTPUTS : PySem.W.nsIn K mainGlobals "MAX_OUTPUTS" = some (some (.int 8 t_MAX_OUTPUTS)))
    {t_QUEUE_LENGTH : Tok} (z_QUEUE_LENGTH : PySem.W.nsIn K mainGlobals "QUEUE_LENGTH" = some (some (.int 5 t_QUEUE_LENGTH)))
    {t_REACH_LENGTH : Tok} (z_REACH_LENGTH : PySem.W.nsIn K mainGlobals "REACH_LENGTH" = some (some (.int 10 t_REACH_LENGTH)))
    {t_MAX_OPERATIONS : Tok} (z_MAX_OPERATIONS : PySem.W.nsIn K mainGlobals "MAX_OPERATIONS" = some (some (.int 60 t_MAX_OPERATIONS)))
    {t_BATCH : Tok} (z_BATCH : PySem.W.nsIn K mainGlobals "BATCH" = some (some (.int 30 t_BATCH)))
    {t_HISTORY : Tok} (z_HISTORY : PySem.W.nsIn K mainGlobals "HISTORY" = some (some (.int 40 t_HISTORY)))
    {t_MAX_PAIRS : Tok} (z_MAX_PAIRS : PySem.W.nsIn K mainGlobals "MAX_PAIRS" = some (some (.int 8 t_MAX_PAIRS)))
    {t_PAIRS_LENGTH : Tok} (z_PAIRS_LENGTH : PySem.W.nsIn K mainGlobals "PAIRS_LENGTH" = some (some (.int 5 t_PAIRS_LENGTH)))
    : ∃ fd : FuncData, (∀ (s : Shared) (v : Value), BindsTo s fd ⟨[v], []⟩ [("_law_script", v)]) ∧ ∀ base : Heap, K.In base → base.Ns mainGlobals mg → BOk K mg base → FnG l.prog w K mg base CX0 4 fa fd ["_law_script"] (spF K mg 1 f_law) := by
  cases hfa.symm.trans (PySem.W.mg_of X Y a_law)
  have D__law_stream : DefAt K mg "_law_stream" s__law_stream ["_law_script"] f__law_stream_ _ := ⟨fun_mk l__law_stream c__law_stream k__law_stream, PySem.W.mg_of X Y a__law_stream, (fun_mk (st := s__law_stream) l__law_stream c__law_stream k__law_stream).binds fun _ _ _ _ _ _ us hl => match us, hl with | [_], _ => rfl⟩
  have D__law_first_right : DefAt K mg "_law_first_right" s__law_first_right ["_law_values"] f__law_first_right_ _ := ⟨fun_mk l__law_first_right c__law_first_right k__law_first_right, PySem.W.mg_of X Y a__law_first_right, (fun_mk (st := s__law_first_right) l__law_first_right c__law_first_right k__law_first_right).binds fun _ _ _ _ _ _ us hl => match us, hl with | [_], _ => rfl⟩
  have D__law_second_right : DefAt K mg "_law_second_right" s__law_second_right ["_law_values"] f__law_second_right_ _ := ⟨fun_mk l__law_second_right c__law_second_right k__law_second_right, PySem.W.mg_of X Y a__law_second_right, (fun_mk (st := s__law_second_right) l__law_second_right c__law_second_right k__law_second_right).binds fun _ _ _ _ _ _ us hl => match us, hl with | [_], _ => rfl⟩
  have D__law_below : DefAt K mg "_law_below" s__law_below ["_law_stream_here", "_law_limit"] f__law_below_ _ := ⟨fun_mk l__law_below c__law_below k__law_below, PySem.W.mg_of X Y a__law_below, (fun_mk (st := s__law_below) l__law_below c__law_below k__law_below).binds fun _ _ _ _ _ _ us hl => match us, hl with | [_, _], _ => rfl⟩
  have D__law_pick : DefAt K mg "_law_pick" s__law_pick ["_law_stream_here", "_law_items"] f__law_pick_ _ := ⟨fun_mk l__law_pick c__law_pick k__law_pick, PySem.W.mg_of X Y a__law_pick, (fun_mk (st := s__law_pick) l__law_pick c__law_pick k__law_pick).binds fun _ _ _ _ _ _ us hl => match us, hl with | [_, _], _ => rfl⟩
  have D__law_odd : DefAt K mg "_law_odd" s__law_odd ["_law_stream_here"] f__law_odd_ _ := ⟨fun_mk l__law_odd c__law_odd k__law_odd, PySem.W.mg_of X Y a__law_odd, (fun_mk (st := s__law_odd) l__law_odd c__law_odd k__law_odd).binds fun _ _ _ _ _ _ us hl => match us, hl with | [_], _ => rfl⟩
  have D__law_plain : DefAt K mg "_law_plain" s__law_plain ["_law_error"] f__law_plain_ _ := ⟨fun_mk l__law_plain c__law_plain k__law_plain, PySem.W.mg_of X Y a__law_plain, (fun_mk (st := s__law_plain) l__law_plain c__law_plain k__law_plain).binds fun _ _ _ _ _ _ us hl => match us, hl with | [_], _ => rfl⟩
  have D__law_filled : DefAt K mg "_law_filled" s__law_filled ["_law_error"] f__law_filled_ _ := ⟨fun_mk l__law_filled c__law_filled k__law_filled, PySem.W.mg_of X Y a__law_filled, (fun_mk (st := s__law_filled) l__law_filled c__law_filled k__law_filled).binds fun _ _ _ _ _ _ us hl => match us, hl with | [_], _ => rfl⟩
  have D__law_alone : DefAt K mg "_law_alone" s__law_alone ["_law_errors", "_law_others"] f__law_alone_ _ := ⟨fun_mk l__law_alone c__law_alone k__law_alone, PySem.W.mg_of X Y a__law_alone, (fun_mk (st := s__law_alone) l__law_alone c__law_alone k__law_alone).binds fun _ _ _ _ _ _ us hl => match us, hl with | [_, _], _ => rfl⟩
  have D_law : DefAt K mg "law" s_law ["_law_script"] fa _ := ⟨fun_mk l_law c_law k_law, PySem.W.mg_of X Y a_law, (fun_mk (st := s_law) l_law c_law k_law).binds fun _ _ _ _ _ _ us hl => match us, hl with | [_], _ => rfl⟩
  have g_PairError := PySem.W.mg_of X Y a_PairError
  have g_BadBatch := PySem.W.mg_of X Y a_BadBatch
  have g_BadGoal := PySem.W.mg_of X Y a_BadGoal
  have g_BadKeys := PySem.W.mg_of X Y a_BadKeys
  have g_Busy := PySem.W.mg_of X Y a_Busy
  have g_EmptyQueue := PySem.W.mg_of X Y a_EmptyQueue
  have g_NoRow := PySem.W.mg_of X Y a_NoRow
  have g_NothingToUndo := PySem.W.mg_of X Y a_NothingToUndo
  have g_NothingWaiting := PySem.W.mg_of X Y a_NothingWaiting
  have g_NoWord := PySem.W.mg_of X Y a_NoWord
  have g_TooManyOperations := PySem.W.mg_of X Y a_TooManyOperations
  have g_BadKey := PySem.W.mg_of X Y a_BadKey
  have g_BadSequence := PySem.W.mg_of X Y a_BadSequence
  have g_BadText := PySem.W.mg_of X Y a_BadText
  have g_Duplicate := PySem.W.mg_of X Y a_Duplicate
  have g_NoCode := PySem.W.mg_of X Y a_NoCode
  have g_NoIndex := PySem.W.mg_of X Y a_NoIndex
  have g_NoLimit := PySem.W.mg_of X Y a_NoLimit
  have g_NoSource := PySem.W.mg_of X Y a_NoSource
  have g_NotLast := PySem.W.mg_of X Y a_NotLast
  have g_NotPossible := PySem.W.mg_of X Y a_NotPossible
  have g_NoTree := PySem.W.mg_of X Y a_NoTree
  have g_NoVersion := PySem.W.mg_of X Y a_NoVersion
  have g_Rejected := PySem.W.mg_of X Y a_Rejected
  have g_TooLong := PySem.W.mg_of X Y a_TooLong
  have g_TooMany := PySem.W.mg_of X Y a_TooMany
  have g_TooNarrow := PySem.W.mg_of X Y a_TooNarrow
  have g_UnknownKey := PySem.W.mg_of X Y a_UnknownKey
  have g_WrongLength := PySem.W.mg_of X Y a_WrongLength
  have XL : ExL K C_PairError [("PairError", C_PairError), ("BadBatch", C_BadBatch), ("BadGoal", C_BadGoal), ("BadKeys", C_BadKeys), ("Busy", C_Busy), ("EmptyQueue", C_EmptyQueue), ("NoRow", C_NoRow), ("NothingToUndo", C_NothingToUndo), ("NothingWaiting", C_NothingWaiting), ("NoWord", C_NoWord), ("TooManyOperations", C_TooManyOperations), ("BadKey", C_BadKey), ("BadSequence", C_BadSequence), ("BadText", C_BadText), ("Duplicate", C_Duplicate), ("NoCode", C_NoCode), ("NoIndex", C_NoIndex), ("NoLimit", C_NoLimit), ("NoSource", C_NoSource), ("NotLast", C_NotLast), ("NotPossible", C_NotPossible), ("NoTree", C_NoTree), ("NoVersion", C_NoVersion), ("Rejected", C_Rejected), ("TooLong", C_TooLong), ("TooMany", C_TooMany), ("TooNarrow", C_TooNarrow), ("UnknownKey", C_UnknownKey), ("WrongLength", C_WrongLength)] := ⟨(exl_cons XC_PairError (exl_cons XC_BadBatch (exl_cons XC_BadGoal (exl_cons XC_BadKeys (exl_cons XC_Busy (exl_cons XC_EmptyQueue (exl_cons XC_NoRow (exl_cons XC_NothingToUndo (exl_cons XC_NothingWaiting (exl_cons XC_NoWord (exl_cons XC_TooManyOperations (exl_cons XC_BadKey (exl_cons XC_BadSequence (exl_cons XC_BadText (exl_cons XC_Duplicate (exl_cons XC_NoCode (exl_cons XC_NoIndex (exl_cons XC_NoLimit (exl_cons XC_NoSource (exl_cons XC_NotLast (exl_cons XC_NotPossible (exl_cons XC_NoTree (exl_cons XC_NoVersion (exl_cons XC_Rejected (exl_cons XC_TooLong (exl_cons XC_TooMany (exl_cons XC_TooNarrow (exl_cons XC_UnknownKey (exl_cons XC_WrongLength exl_nil))))))))))))))))))))))))))))), nd_, by simp⟩
  have b_abs := PySem.W.mg_none_of X Y z_abs
  have b_len := PySem.W.mg_none_of X Y z_len
  have b_repr := PySem.W.mg_none_of X Y z_repr
  have b_int := PySem.W.mg_none_of X Y z_int
  have b_isinstance := PySem.W.mg_none_of X Y z_isinstance
  have b_range := PySem.W.mg_none_of X Y z_range
  have b_enumerate := PySem.W.mg_none_of X Y z_enumerate
  have b_ValueError := PySem.W.mg_none_of X Y z_ValueError
  have c_MAX_KEY := PySem.W.mg_of X Y z_MAX_KEY
  have c_MAX_LENGTH := PySem.W.mg_of X Y z_MAX_LENGTH
  have c_LISTED := PySem.W.mg_of X Y z_LISTED
  have c_WIDTH_LENGTH := PySem.W.mg_of X Y z_WIDTH_LENGTH
  have c_PUSH_LENGTH := PySem.W.mg_of X Y z_PUSH_LENGTH
  have c_MAX_OUTPUTS := PySem.W.mg_of X Y z_MAX_OUTPUTS
  have c_QUEUE_LENGTH := PySem.W.mg_of X Y z_QUEUE_LENGTH
  have c_REACH_LENGTH := PySem.W.mg_of X Y z_REACH_LENGTH
  have c_MAX_OPERATIONS := PySem.W.mg_of X Y z_MAX_OPERATIONS
  have c_BATCH := PySem.W.mg_of X Y z_BATCH
  have c_HISTORY := PySem.W.mg_of X Y z_HISTORY
  have c_MAX_PAIRS := PySem.W.mg_of X Y z_MAX_PAIRS
  have c_PAIRS_LENGTH := PySem.W.mg_of X Y z_PAIRS_LENGTH
  refine ⟨?fd, ?b, fun base _ _ hB => ?g⟩
  case g =>
    have G__law_stream := ok__law_stream (P := l.prog) (w := w) (base := base) hB D__law_stream b_abs b_len
    have G__law_first_right := ok__law_first_right (P := l.prog) (w := w) (base := base) hB D__law_first_right g_PairError g_BadBatch g_BadGoal g_BadKeys g_Busy g_EmptyQueue g_NoRow g_NothingToUndo g_NothingWaiting g_NoWord g_TooManyOperations g_BadKey g_BadSequence g_BadText g_Duplicate g_NoCode g_NoIndex g_NoLimit g_NoSource g_NotLast g_NotPossible g_NoTree g_NoVersion g_Rejected g_TooLong g_TooMany g_TooNarrow g_UnknownKey g_WrongLength T_BadKey T_BadSequence T_BadText T_Duplicate T_NoCode T_NoIndex T_NoLimit T_NoSource T_NotLast XL b_repr
    have G__law_second_right := ok__law_second_right (P := l.prog) (w := w) (base := base) hB D__law_second_right g_PairError g_BadBatch g_BadGoal g_BadKeys g_Busy g_EmptyQueue g_NoRow g_NothingToUndo g_NothingWaiting g_NoWord g_TooManyOperations g_BadKey g_BadSequence g_BadText g_Duplicate g_NoCode g_NoIndex g_NoLimit g_NoSource g_NotLast g_NotPossible g_NoTree g_NoVersion g_Rejected g_TooLong g_TooMany g_TooNarrow g_UnknownKey g_WrongLength T_NotPossible T_NoTree T_NoVersion T_Rejected T_TooLong T_TooMany T_TooNarrow T_UnknownKey T_WrongLength XL b_repr
    have G__law_below := ok__law_below (P := l.prog) (w := w) (base := base) hB D__law_below b_len b_int
    have G__law_pick := ok__law_pick (P := l.prog) (w := w) (base := base) hB D__law_pick D__law_below G__law_below b_len
    have G__law_odd := ok__law_odd (P := l.prog) (w := w) (base := base) hB D__law_odd D__law_pick G__law_pick
    have G__law_plain := ok__law_plain (P := l.prog) (w := w) (base := base) hB D__law_plain g_PairError g_BadBatch g_BadGoal g_BadKeys g_Busy g_EmptyQueue g_NoRow g_NothingToUndo g_NothingWaiting g_NoWord g_TooManyOperations g_BadKey g_BadSequence g_BadText g_Duplicate g_NoCode g_NoIndex g_NoLimit g_NoSource g_NotLast g_NotPossible g_NoTree g_NoVersion g_Rejected g_TooLong g_TooMany g_TooNarrow g_UnknownKey g_WrongLength XL b_isinstance b_range
    have G__law_filled := ok__law_filled (P := l.prog) (w := w) (base := base) hB D__law_filled g_PairError g_BadBatch g_BadGoal g_BadKeys g_Busy g_EmptyQueue g_NoRow g_NothingToUndo g_NothingWaiting g_NoWord g_TooManyOperations g_BadKey g_BadSequence g_BadText g_Duplicate g_NoCode g_NoIndex g_NoLimit g_NoSource g_NotLast g_NotPossible g_NoTree g_NoVersion g_Rejected g_TooLong g_TooMany g_TooNarrow g_UnknownKey g_WrongLength XL b_isinstance b_range
    have G__law_alone := ok__law_alone (P := l.prog) (w := w) (base := base) hB D__law_alone D__law_plain G__law_plain D__law_filled G__law_filled g_PairError g_BadBatch g_BadGoal g_BadKeys g_Busy g_EmptyQueue g_NoRow g_NothingToUndo g_NothingWaiting g_NoWord g_TooManyOperations g_BadKey g_BadSequence g_BadText g_Duplicate g_NoCode g_NoIndex g_NoLimit g_NoSource g_NotLast g_NotPossible g_NoTree g_NoVersion g_Rejected g_TooLong g_TooMany g_TooNarrow g_UnknownKey g_WrongLength x_PairError k_PairError b_PairError t_PairError XL b_enumerate b_isinstance b_ValueError
    have G_law := ok_law (P := l.prog) (w := w) (base := base) hB D_law D__law_stream G__law_stream D__law_odd G__law_odd D__law_first_right G__law_first_right D__law_second_right G__law_second_right D__law_alone G__law_alone g_PairError g_BadBatch g_BadGoal g_BadKeys g_Busy g_EmptyQueue g_NoRow g_NothingToUndo g_NothingWaiting g_NoWord g_TooManyOperations g_BadKey g_BadSequence g_BadText g_Duplicate g_NoCode g_NoIndex g_NoLimit g_NoSource g_NotLast g_NotPossible g_NoTree g_NoVersion g_Rejected g_TooLong g_TooMany g_TooNarrow g_UnknownKey g_WrongLength x_BadBatch k_BadBatch b_BadBatch t_BadBatch x_BadGoal k_BadGoal b_BadGoal t_BadGoal x_BadKeys k_BadKeys b_BadKeys t_BadKeys x_Busy k_Busy b_Busy t_Busy x_EmptyQueue k_EmptyQueue b_EmptyQueue t_EmptyQueue x_NoRow k_NoRow b_NoRow t_NoRow x_NothingToUndo k_NothingToUndo b_NothingToUndo t_NothingToUndo x_NothingWaiting k_NothingWaiting b_NothingWaiting t_NothingWaiting x_NoWord k_NoWord b_NoWord t_NoWord x_TooManyOperations k_TooManyOperations b_TooManyOperations t_TooManyOperations XL b_range b_repr c_MAX_KEY c_MAX_LENGTH c_LISTED c_WIDTH_LENGTH c_PUSH_LENGTH c_MAX_OUTPUTS c_QUEUE_LENGTH c_REACH_LENGTH c_MAX_OPERATIONS c_BATCH c_HISTORY c_MAX_PAIRS c_PAIRS_LENGTH
    exact G_law
  case b => exact fun s v => .of_eq rfl
end G.L_heappairs_k01_limits_and_errors
open PySem PySem.W PyProof.Rows
set_option maxHeartbeats 0 in
theorem PySem.Challenge.cw_heappairs_k01_limits_and_errors_holds : PySem.Challenge.rw_heappairs_k01_limits_and_errors.Holds := by
  w_on; o_law; k_headLK; (case hw => w_witness2)
  k_fill
  refine G.walk_g (l := PySem.Challenge.rw_heappairs_k01_limits_and_errors) (n := 63) (k := 4) (x := "_law_script") (CX := fun _ => L2.CX0) (g := G.L_heappairs_k01_limits_and_errors.f_law) rfl (by decide) rfl (by first | rfl | decide | decide +kernel) (by intro w; kernel_rfl) ⟨rfl, by decide, by decide⟩ (fun w h Y => PySem.W.kIn_of Y) (fun w h Y => G.meths_none (by kernel_rfl)) ?F G.L_heappairs_k01_limits_and_errors.law_true (fun _ _ _ _ _ h => h)
  case F =>
    intro w mg fa h KX Y hmg
    refine' G.L_heappairs_k01_limits_and_errors.all_mk KX Y hmg ?a__law_stream ?l__law_stream ?c__law_stream ?k__law_stream ?a__law_first_right ?l__law_first_right ?c__law_first_right ?k__law_first_right ?a__law_second_right ?l__law_second_right ?c__law_second_right ?k__law_second_right ?a__law_below ?l__law_below ?c__law_below ?k__law_below ?a__law_pick ?l__law_pick ?c__law_pick ?k__law_pick ?a__law_odd ?l__law_odd ?c__law_odd ?k__law_odd ?a__law_plain ?l__law_plain ?c__law_plain ?k__law_plain ?a__law_filled ?l__law_filled ?c__law_filled ?k__law_filled ?a__law_alone ?l__law_alone ?c__law_alone ?k__law_alone ?a_law ?l_law ?c_law ?k_law ?a_PairError ?a_BadBatch ?a_BadGoal ?a_BadKeys ?a_Busy ?a_EmptyQueue ?a_NoRow ?a_NothingToUndo ?a_NothingWaiting ?a_NoWord ?a_TooManyOperations ?a_BadKey ?a_BadSequence ?a_BadText ?a_Duplicate ?a_NoCode ?a_NoIndex ?a_NoLimit ?a_NoSource ?a_NotLast ?a_NotPossible ?a_NoTree ?a_NoVersion ?a_Rejected ?a_TooLong ?a_TooMany ?a_TooNarrow ?a_UnknownKey ?a_WrongLength ?T_BadKey ?T_BadSequence ?T_BadText ?T_Duplicate ?T_NoCode ?T_NoIndex ?T_NoLimit ?T_NoSource ?T_NotLast ?T_NotPossible ?T_NoTree ?T_NoVersion ?T_Rejected ?T_TooLong ?T_TooMany ?T_TooNarrow ?T_UnknownKey ?T_WrongLength ?x_PairError ?k_PairError ?b_PairError ?t_PairError ?x_BadBatch ?k_BadBatch ?b_BadBatch ?t_BadBatch ?x_BadGoal ?k_BadGoal ?b_BadGoal ?t_BadGoal ?x_BadKeys ?k_BadKeys ?b_BadKeys ?t_BadKeys ?x_Busy ?k_Busy ?b_Busy ?t_Busy ?x_EmptyQueue ?k_EmptyQueue ?b_EmptyQueue ?t_EmptyQueue ?x_NoRow ?k_NoRow ?b_NoRow ?t_NoRow ?x_NothingToUndo ?k_NothingToUndo ?b_NothingToUndo ?t_NothingToUndo ?x_NothingWaiting ?k_NothingWaiting ?b_NothingWaiting ?t_NothingWaiting ?x_NoWord ?k_NoWord ?b_NoWord ?t_NoWord ?x_TooManyOperations ?k_TooManyOperations ?b_TooManyOperations ?t_TooManyOperations ?I_PairError ?I_BadBatch ?I_BadGoal ?I_BadKeys ?I_Busy ?I_EmptyQueue ?I_NoRow ?I_NothingToUndo ?I_NothingWaiting ?I_NoWord ?I_TooManyOperations ?I_BadKey ?I_BadSequence ?I_BadText ?I_Duplicate ?I_NoCode ?I_NoIndex ?I_NoLimit ?I_NoSource ?I_NotLast ?I_NotPossible ?I_NoTree ?I_NoVersion ?I_Rejected ?I_TooLong ?I_TooMany ?I_TooNarrow ?I_UnknownKey ?I_WrongLength ?XC_PairError ?XC_BadBatch ?XC_BadGoal ?XC_BadKeys ?XC_Busy ?XC_EmptyQueue ?XC_NoRow ?XC_NothingToUndo ?XC_NothingWaiting ?XC_NoWord ?XC_TooManyOperations ?XC_BadKey ?XC_BadSequence ?XC_BadText ?XC_Duplicate ?XC_NoCode ?XC_NoIndex ?XC_NoLimit ?XC_NoSource ?XC_NotLast ?XC_NotPossible ?XC_NoTree ?XC_NoVersion ?XC_Rejected ?XC_TooLong ?XC_TooMany ?XC_TooNarrow ?XC_UnknownKey ?XC_WrongLength ?nd_ ?z_abs ?z_len ?z_repr ?z_int ?z_isinstance ?z_range ?z_enumerate ?z_ValueError ?z_MAX_KEY ?z_MAX_LENGTH ?z_LISTED ?z_WIDTH_LENGTH ?z_PUSH_LENGTH ?z_MAX_OUTPUTS ?z_QUEUE_LENGTH ?z_REACH_LENGTH ?z_MAX_OPERATIONS ?z_BATCH ?z_HISTORY ?z_MAX_PAIRS ?z_PAIRS_LENGTH
    (case a__law_stream => k_is); (case l__law_stream => k_is); (case c__law_stream => k_is); (case k__law_stream => k_is); (case a__law_first_right => k_is); (case l__law_first_right => k_is); (case c__law_first_right => k_is); (case k__law_first_right => k_is); (case a__law_second_right => k_is); (case l__law_second_right => k_is); (case c__law_second_right => k_is); (case k__law_second_right => k_is); (case a__law_below => k_is); (case l__law_below => k_is); (case c__law_below => k_is); (case k__law_below => k_is); (case a__law_pick => k_is); (case l__law_pick => k_is); (case c__law_pick => k_is); (case k__law_pick => k_is); (case a__law_odd => k_is); (case l__law_odd => k_is); (case c__law_odd => k_is); (case k__law_odd => k_is); (case a__law_plain => k_is); (case l__law_plain => k_is); (case c__law_plain => k_is); (case k__law_plain => k_is); (case a__law_filled => k_is); (case l__law_filled => k_is); (case c__law_filled => k_is); (case k__law_filled => k_is); (case a__law_alone => k_is); (case l__law_alone => k_is); (case c__law_alone => k_is); (case k__law_alone => k_is); (case a_law => k_is); (case l_law => k_is); (case c_law => k_is); (case k_law => k_is); (case a_PairError => k_is); (case a_BadBatch => k_is); (case a_BadGoal => k_is); (case a_BadKeys => k_is); (case a_Busy => k_is); (case a_EmptyQueue => k_is); (case a_NoRow => k_is); (case a_NothingToUndo => k_is); (case a_NothingWaiting => k_is); (case a_NoWord => k_is); (case a_TooManyOperations => k_is); (case a_BadKey => k_is); (case a_BadSequence => k_is); (case a_BadText => k_is); (case a_Duplicate => k_is); (case a_NoCode => k_is); (case a_NoIndex => k_is); (case a_NoLimit => k_is); (case a_NoSource => k_is); (case a_NotLast => k_is); (case a_NotPossible => k_is); (case a_NoTree => k_is); (case a_NoVersion => k_is); (case a_Rejected => k_is); (case a_TooLong => k_is); (case a_TooMany => k_is); (case a_TooNarrow => k_is); (case a_UnknownKey => k_is); (case a_WrongLength => k_is); (case T_BadKey => refine' G.E_key.txt_of (PySem.W.mg_of KX Y ?gC) ?xL ?rb ?sa ?ga ?gg ?nb ?i1 ?t1 ?l1 ?c1 ?kC ?eC ?tC ?hC; (case gC => k_is); (case xL => k_is); (case sa => k_is); (case ga => k_is); (case gg => k_is); (case nb => k_is); (case i1 => k_is); (case t1 => k_is); (case l1 => k_is); (case c1 => k_is); (case kC => k_is); (case eC => k_is); (case tC => k_is); (case hC => k_is); (case rb => rfl)); (case T_BadSequence => refine' G.E_error.txt_of (PySem.W.mg_of KX Y ?gC) ?xL ?rb ?sa ?ga ?gg ?nb ?i1 ?t1 ?l1 ?c1 ?kC ?eC ?tC ?hC; (case gC => k_is); (case xL => k_is); (case sa => k_is); (case ga => k_is); (case gg => k_is); (case nb => k_is); (case i1 => k_is); (case t1 => k_is); (case l1 => k_is); (case c1 => k_is); (case kC => k_is); (case eC => k_is); (case tC => k_is); (case hC => k_is); (case rb => rfl)); (case T_BadText => refine' G.E_index.txt_of (PySem.W.mg_of KX Y ?gC) ?xL ?rb ?sa ?ga ?gg ?nb ?i1 ?t1 ?l1 ?c1 ?kC ?eC ?tC ?hC; (case gC => k_is); (case xL => k_is); (case sa => k_is); (case ga => k_is); (case gg => k_is); (case nb => k_is); (case i1 => k_is); (case t1 => k_is); (case l1 => k_is); (case c1 => k_is); (case kC => k_is); (case eC => k_is); (case tC => k_is); (case hC => k_is); (case rb => rfl)); (case T_Duplicate => refine' G.E_key.txt_of (PySem.W.mg_of KX Y ?gC) ?xL ?rb ?sa ?ga ?gg ?nb ?i1 ?t1 ?l1 ?c1 ?kC ?eC ?tC ?hC; (case gC => k_is); (case xL => k_is); (case sa => k_is); (case ga => k_is); (case gg => k_is); (case nb => k_is); (case i1 => k_is); (case t1 => k_is); (case l1 => k_is); (case c1 => k_is); (case kC => k_is); (case eC => k_is); (case tC => k_is); (case hC => k_is); (case rb => rfl)); (case T_NoCode => refine' G.E_value.txt_of (PySem.W.mg_of KX Y ?gC) ?xL ?rb ?sa ?ga ?gg ?nb ?i1 ?t1 ?l1 ?c1 ?kC ?eC ?tC ?hC; (case gC => k_is); (case xL => k_is); (case sa => k_is); (case ga => k_is); (case gg => k_is); (case nb => k_is); (case i1 => k_is); (case t1 => k_is); (case l1 => k_is); (case c1 => k_is); (case kC => k_is); (case eC => k_is); (case tC => k_is); (case hC => k_is); (case rb => rfl)); (case T_NoIndex => refine' G.E_index.txt_of (PySem.W.mg_of KX Y ?gC) ?xL ?rb ?sa ?ga ?gg ?nb ?i1 ?t1 ?l1 ?c1 ?kC ?eC ?tC ?hC; (case gC => k_is); (case xL => k_is); (case sa => k_is); (case ga => k_is); (case gg => k_is); (case nb => k_is); (case i1 => k_is); (case t1 => k_is); (case l1 => k_is); (case c1 => k_is); (case kC => k_is); (case eC => k_is); (case tC => k_is); (case hC => k_is); (case rb => rfl)); (case T_NoLimit => refine' G.E_limit.txt_of (PySem.W.mg_of KX Y ?gC) ?xL ?rb ?sa ?ga ?gg ?nb ?i1 ?t1 ?l1 ?c1 ?kC ?eC ?tC ?hC; (case gC => k_is); (case xL => k_is); (case sa => k_is); (case ga => k_is); (case gg => k_is); (case nb => k_is); (case i1 => k_is); (case t1 => k_is); (case l1 => k_is); (case c1 => k_is); (case kC => k_is); (case eC => k_is); (case tC => k_is); (case hC => k_is); (case rb => rfl)); (case T_NoSource => refine' G.E_value.txt_of (PySem.W.mg_of KX Y ?gC) ?xL ?rb ?sa ?ga ?gg ?nb ?i1 ?t1 ?l1 ?c1 ?kC ?eC ?tC ?hC; (case gC => k_is); (case xL => k_is); (case sa => k_is); (case ga => k_is); (case gg => k_is); (case nb => k_is); (case i1 => k_is); (case t1 => k_is); (case l1 => k_is); (case c1 => k_is); (case kC => k_is); (case eC => k_is); (case tC => k_is); (case hC => k_is); (case rb => rfl)); (case T_NotLast => refine' G.E_key.txt_of (PySem.W.mg_of KX Y ?gC) ?xL ?rb ?sa ?ga ?gg ?nb ?i1 ?t1 ?l1 ?c1 ?kC ?eC ?tC ?hC; (case gC => k_is); (case xL => k_is); (case sa => k_is); (case ga => k_is); (case gg => k_is); (case nb => k_is); (case i1 => k_is); (case t1 => k_is); (case l1 => k_is); (case c1 => k_is); (case kC => k_is); (case eC => k_is); (case tC => k_is); (case hC => k_is); (case rb => rfl)); (case T_NotPossible => refine' G.E_obstruction.txt_of (PySem.W.mg_of KX Y ?gC) ?xL ?rb ?sa ?ga ?gg ?nb ?i1 ?t1 ?l1 ?c1 ?kC ?eC ?tC ?hC; (case gC => k_is); (case xL => k_is); (case sa => k_is); (case ga => k_is); (case gg => k_is); (case nb => k_is); (case i1 => k_is); (case t1 => k_is); (case l1 => k_is); (case c1 => k_is); (case kC => k_is); (case eC => k_is); (case tC => k_is); (case hC => k_is); (case rb => rfl)); (case T_NoTree => refine' G.E_value.txt_of (PySem.W.mg_of KX Y ?gC) ?xL ?rb ?sa ?ga ?gg ?nb ?i1 ?t1 ?l1 ?c1 ?kC ?eC ?tC ?hC; (case gC => k_is); (case xL => k_is); (case sa => k_is); (case ga => k_is); (case gg => k_is); (case nb => k_is); (case i1 => k_is); (case t1 => k_is); (case l1 => k_is); (case c1 => k_is); (case kC => k_is); (case eC => k_is); (case tC => k_is); (case hC => k_is); (case rb => rfl)); (case T_NoVersion => refine' G.E_version.txt_of (PySem.W.mg_of KX Y ?gC) ?xL ?rb ?sa ?ga ?gg ?nb ?i1 ?t1 ?l1 ?c1 ?kC ?eC ?tC ?hC; (case gC => k_is); (case xL => k_is); (case sa => k_is); (case ga => k_is); (case gg => k_is); (case nb => k_is); (case i1 => k_is); (case t1 => k_is); (case l1 => k_is); (case c1 => k_is); (case kC => k_is); (case eC => k_is); (case tC => k_is); (case hC => k_is); (case rb => rfl)); (case T_Rejected => refine' G.E_index.txt_of (PySem.W.mg_of KX Y ?gC) ?xL ?rb ?sa ?ga ?gg ?nb ?i1 ?t1 ?l1 ?c1 ?kC ?eC ?tC ?hC; (case gC => k_is); (case xL => k_is); (case sa => k_is); (case ga => k_is); (case gg => k_is); (case nb => k_is); (case i1 => k_is); (case t1 => k_is); (case l1 => k_is); (case c1 => k_is); (case kC => k_is); (case eC => k_is); (case tC => k_is); (case hC => k_is); (case rb => rfl)); (case T_TooLong => refine' G.E_limit.txt_of (PySem.W.mg_of KX Y ?gC) ?xL ?rb ?sa ?ga ?gg ?nb ?i1 ?t1 ?l1 ?c1 ?kC ?eC ?tC ?hC; (case gC => k_is); (case xL => k_is); (case sa => k_is); (case ga => k_is); (case gg => k_is); (case nb => k_is); (case i1 => k_is); (case t1 => k_is); (case l1 => k_is); (case c1 => k_is); (case kC => k_is); (case eC => k_is); (case tC => k_is); (case hC => k_is); (case rb => rfl)); (case T_TooMany => refine' G.E_limit.txt_of (PySem.W.mg_of KX Y ?gC) ?xL ?rb ?sa ?ga ?gg ?nb ?i1 ?t1 ?l1 ?c1 ?kC ?eC ?tC ?hC; (case gC => k_is); (case xL => k_is); (case sa => k_is); (case ga => k_is); (case gg => k_is); (case nb => k_is); (case i1 => k_is); (case t1 => k_is); (case l1 => k_is); (case c1 => k_is); (case kC => k_is); (case eC => k_is); (case tC => k_is); (case hC => k_is); (case rb => rfl)); (case T_TooNarrow => refine' G.E_width.txt_of (PySem.W.mg_of KX Y ?gC) ?xL ?rb ?sa ?ga ?gg ?nb ?i1 ?t1 ?l1 ?c1 ?kC ?eC ?tC ?hC; (case gC => k_is); (case xL => k_is); (case sa => k_is); (case ga => k_is); (case gg => k_is); (case nb => k_is); (case i1 => k_is); (case t1 => k_is); (case l1 => k_is); (case c1 => k_is); (case kC => k_is); (case eC => k_is); (case tC => k_is); (case hC => k_is); (case rb => rfl)); (case T_UnknownKey => refine' G.E_key.txt_of (PySem.W.mg_of KX Y ?gC) ?xL ?rb ?sa ?ga ?gg ?nb ?i1 ?t1 ?l1 ?c1 ?kC ?eC ?tC ?hC; (case gC => k_is); (case xL => k_is); (case sa => k_is); (case ga => k_is); (case gg => k_is); (case nb => k_is); (case i1 => k_is); (case t1 => k_is); (case l1 => k_is); (case c1 => k_is); (case kC => k_is); (case eC => k_is); (case tC => k_is); (case hC => k_is); (case rb => rfl)); (case T_WrongLength => refine' G.E_length.txt_of (PySem.W.mg_of KX Y ?gC) ?xL ?rb ?sa ?ga ?gg ?nb ?i1 ?t1 ?l1 ?c1 ?kC ?eC ?tC ?hC; (case gC => k_is); (case xL => k_is); (case sa => k_is); (case ga => k_is); (case gg => k_is); (case nb => k_is); (case i1 => k_is); (case t1 => k_is); (case l1 => k_is); (case c1 => k_is); (case kC => k_is); (case eC => k_is); (case tC => k_is); (case hC => k_is); (case rb => rfl)); (case x_PairError => k_exc); (case k_PairError => k_is); (case b_PairError => k_is); (case t_PairError => k_is); (case x_BadBatch => k_exc); (case k_BadBatch => k_is); (case b_BadBatch => k_is); (case t_BadBatch => k_is); (case x_BadGoal => k_exc); (case k_BadGoal => k_is); (case b_BadGoal => k_is); (case t_BadGoal => k_is); (case x_BadKeys => k_exc); (case k_BadKeys => k_is); (case b_BadKeys => k_is); (case t_BadKeys => k_is); (case x_Busy => k_exc); (case k_Busy => k_is); (case b_Busy => k_is); (case t_Busy => k_is); (case x_EmptyQueue => k_exc); (case k_EmptyQueue => k_is); (case b_EmptyQueue => k_is); (case t_EmptyQueue => k_is); (case x_NoRow => k_exc); (case k_NoRow => k_is); (case b_NoRow => k_is); (case t_NoRow => k_is); (case x_NothingToUndo => k_exc); (case k_NothingToUndo => k_is); (case b_NothingToUndo => k_is); (case t_NothingToUndo => k_is); (case x_NothingWaiting => k_exc); (case k_NothingWaiting => k_is); (case b_NothingWaiting => k_is); (case t_NothingWaiting => k_is); (case x_NoWord => k_exc); (case k_NoWord => k_is); (case b_NoWord => k_is); (case t_NoWord => k_is); (case x_TooManyOperations => k_exc); (case k_TooManyOperations => k_is); (case b_TooManyOperations => k_is); (case t_TooManyOperations => k_is); (case I_PairError => refine' G.exI_of ?h1 ?h2 ?h3 ?h4 ?h5 ?h6 ?h7 ?h8; (case h1 => k_is); (case h2 => k_is); (case h3 => k_is); (case h4 => k_is); (case h5 => k_is); (case h6 => k_is); (case h7 => k_is); (case h8 => k_is)); (case I_BadBatch => refine' G.exI_of ?h1 ?h2 ?h3 ?h4 ?h5 ?h6 ?h7 ?h8; (case h1 => k_is); (case h2 => k_is); (case h3 => k_is); (case h4 => k_is); (case h5 => k_is); (case h6 => k_is); (case h7 => k_is); (case h8 => k_is)); (case I_BadGoal => refine' G.exI_of ?h1 ?h2 ?h3 ?h4 ?h5 ?h6 ?h7 ?h8; (case h1 => k_is); (case h2 => k_is); (case h3 => k_is); (case h4 => k_is); (case h5 => k_is); (case h6 => k_is); (case h7 => k_is); (case h8 => k_is)); (case I_BadKeys => refine' G.exI_of ?h1 ?h2 ?h3 ?h4 ?h5 ?h6 ?h7 ?h8; (case h1 => k_is); (case h2 => k_is); (case h3 => k_is); (case h4 => k_is); (case h5 => k_is); (case h6 => k_is); (case h7 => k_is); (case h8 => k_is)); (case I_Busy => refine' G.exI_of ?h1 ?h2 ?h3 ?h4 ?h5 ?h6 ?h7 ?h8; (case h1 => k_is); (case h2 => k_is); (case h3 => k_is); (case h4 => k_is); (case h5 => k_is); (case h6 => k_is); (case h7 => k_is); (case h8 => k_is)); (case I_EmptyQueue => refine' G.exI_of ?h1 ?h2 ?h3 ?h4 ?h5 ?h6 ?h7 ?h8; (case h1 => k_is); (case h2 => k_is); (case h3 => k_is); (case h4 => k_is); (case h5 => k_is); (case h6 => k_is); (case h7 => k_is); (case h8 => k_is)); (case I_NoRow => refine' G.exI_of ?h1 ?h2 ?h3 ?h4 ?h5 ?h6 ?h7 ?h8; (case h1 => k_is); (case h2 => k_is); (case h3 => k_is); (case h4 => k_is); (case h5 => k_is); (case h6 => k_is); (case h7 => k_is); (case h8 => k_is)); (case I_NothingToUndo => refine' G.exI_of ?h1 ?h2 ?h3 ?h4 ?h5 ?h6 ?h7 ?h8; (case h1 => k_is); (case h2 => k_is); (case h3 => k_is); (case h4 => k_is); (case h5 => k_is); (case h6 => k_is); (case h7 => k_is); (case h8 => k_is)); (case I_NothingWaiting => refine' G.exI_of ?h1 ?h2 ?h3 ?h4 ?h5 ?h6 ?h7 ?h8; (case h1 => k_is); (case h2 => k_is); (case h3 => k_is); (case h4 => k_is); (case h5 => k_is); (case h6 => k_is); (case h7 => k_is); (case h8 => k_is)); (case I_NoWord => refine' G.exI_of ?h1 ?h2 ?h3 ?h4 ?h5 ?h6 ?h7 ?h8; (case h1 => k_is); (case h2 => k_is); (case h3 => k_is); (case h4 => k_is); (case h5 => k_is); (case h6 => k_is); (case h7 => k_is); (case h8 => k_is)); (case I_TooManyOperations => refine' G.exI_of ?h1 ?h2 ?h3 ?h4 ?h5 ?h6 ?h7 ?h8; (case h1 => k_is); (case h2 => k_is); (case h3 => k_is); (case h4 => k_is); (case h5 => k_is); (case h6 => k_is); (case h7 => k_is); (case h8 => k_is)); (case I_BadKey => refine' G.exI_of ?h1 ?h2 ?h3 ?h4 ?h5 ?h6 ?h7 ?h8; (case h1 => k_is); (case h2 => k_is); (case h3 => k_is); (case h4 => k_is); (case h5 => k_is); (case h6 => k_is); (case h7 => k_is); (case h8 => k_is)); (case I_BadSequence => refine' G.exI_of ?h1 ?h2 ?h3 ?h4 ?h5 ?h6 ?h7 ?h8; (case h1 => k_is); (case h2 => k_is); (case h3 => k_is); (case h4 => k_is); (case h5 => k_is); (case h6 => k_is); (case h7 => k_is); (case h8 => k_is)); (case I_BadText => refine' G.exI_of ?h1 ?h2 ?h3 ?h4 ?h5 ?h6 ?h7 ?h8; (case h1 => k_is); (case h2 => k_is); (case h3 => k_is); (case h4 => k_is); (case h5 => k_is); (case h6 => k_is); (case h7 => k_is); (case h8 => k_is)); (case I_Duplicate => refine' G.exI_of ?h1 ?h2 ?h3 ?h4 ?h5 ?h6 ?h7 ?h8; (case h1 => k_is); (case h2 => k_is); (case h3 => k_is); (case h4 => k_is); (case h5 => k_is); (case h6 => k_is); (case h7 => k_is); (case h8 => k_is)); (case I_NoCode => refine' G.exI_of ?h1 ?h2 ?h3 ?h4 ?h5 ?h6 ?h7 ?h8; (case h1 => k_is); (case h2 => k_is); (case h3 => k_is); (case h4 => k_is); (case h5 => k_is); (case h6 => k_is); (case h7 => k_is); (case h8 => k_is)); (case I_NoIndex => refine' G.exI_of ?h1 ?h2 ?h3 ?h4 ?h5 ?h6 ?h7 ?h8; (case h1 => k_is); (case h2 => k_is); (case h3 => k_is); (case h4 => k_is); (case h5 => k_is); (case h6 => k_is); (case h7 => k_is); (case h8 => k_is)); (case I_NoLimit => refine' G.exI_of ?h1 ?h2 ?h3 ?h4 ?h5 ?h6 ?h7 ?h8; (case h1 => k_is); (case h2 => k_is); (case h3 => k_is); (case h4 => k_is); (case h5 => k_is); (case h6 => k_is); (case h7 => k_is); (case h8 => k_is)); (case I_NoSource => refine' G.exI_of ?h1 ?h2 ?h3 ?h4 ?h5 ?h6 ?h7 ?h8; (case h1 => k_is); (case h2 => k_is); (case h3 => k_is); (case h4 => k_is); (case h5 => k_is); (case h6 => k_is); (case h7 => k_is); (case h8 => k_is)); (case I_NotLast => refine' G.exI_of ?h1 ?h2 ?h3 ?h4 ?h5 ?h6 ?h7 ?h8; (case h1 => k_is); (case h2 => k_is); (case h3 => k_is); (case h4 => k_is); (case h5 => k_is); (case h6 => k_is); (case h7 => k_is); (case h8 => k_is)); (case I_NotPossible => refine' G.exI_of ?h1 ?h2 ?h3 ?h4 ?h5 ?h6 ?h7 ?h8; (case h1 => k_is); (case h2 => k_is); (case h3 => k_is); (case h4 => k_is); (case h5 => k_is); (case h6 => k_is); (case h7 => k_is); (case h8 => k_is)); (case I_NoTree => refine' G.exI_of ?h1 ?h2 ?h3 ?h4 ?h5 ?h6 ?h7 ?h8; (case h1 => k_is); (case h2 => k_is); (case h3 => k_is); (case h4 => k_is); (case h5 => k_is); (case h6 => k_is); (case h7 => k_is); (case h8 => k_is)); (case I_NoVersion => refine' G.exI_of ?h1 ?h2 ?h3 ?h4 ?h5 ?h6 ?h7 ?h8; (case h1 => k_is); (case h2 => k_is); (case h3 => k_is); (case h4 => k_is); (case h5 => k_is); (case h6 => k_is); (case h7 => k_is); (case h8 => k_is)); (case I_Rejected => refine' G.exI_of ?h1 ?h2 ?h3 ?h4 ?h5 ?h6 ?h7 ?h8; (case h1 => k_is); (case h2 => k_is); (case h3 => k_is); (case h4 => k_is); (case h5 => k_is); (case h6 => k_is); (case h7 => k_is); (case h8 => k_is)); (case I_TooLong => refine' G.exI_of ?h1 ?h2 ?h3 ?h4 ?h5 ?h6 ?h7 ?h8; (case h1 => k_is); (case h2 => k_is); (case h3 => k_is); (case h4 => k_is); (case h5 => k_is); (case h6 => k_is); (case h7 => k_is); (case h8 => k_is)); (case I_TooMany => refine' G.exI_of ?h1 ?h2 ?h3 ?h4 ?h5 ?h6 ?h7 ?h8; (case h1 => k_is); (case h2 => k_is); (case h3 => k_is); (case h4 => k_is); (case h5 => k_is); (case h6 => k_is); (case h7 => k_is); (case h8 => k_is)); (case I_TooNarrow => refine' G.exI_of ?h1 ?h2 ?h3 ?h4 ?h5 ?h6 ?h7 ?h8; (case h1 => k_is); (case h2 => k_is); (case h3 => k_is); (case h4 => k_is); (case h5 => k_is); (case h6 => k_is); (case h7 => k_is); (case h8 => k_is)); (case I_UnknownKey => refine' G.exI_of ?h1 ?h2 ?h3 ?h4 ?h5 ?h6 ?h7 ?h8; (case h1 => k_is); (case h2 => k_is); (case h3 => k_is); (case h4 => k_is); (case h5 => k_is); (case h6 => k_is); (case h7 => k_is); (case h8 => k_is)); (case I_WrongLength => refine' G.exI_of ?h1 ?h2 ?h3 ?h4 ?h5 ?h6 ?h7 ?h8; (case h1 => k_is); (case h2 => k_is); (case h3 => k_is); (case h4 => k_is); (case h5 => k_is); (case h6 => k_is); (case h7 => k_is); (case h8 => k_is)); (case XC_PairError => refine' G.exC_base ?a0 (G.exI_of ?h1 ?h2 ?h3 ?h4 ?h5 ?h6 ?h7 ?h8) ?ty ?mr; (case a0 => k_is); (case h1 => k_is); (case h2 => k_is); (case h3 => k_is); (case h4 => k_is); (case h5 => k_is); (case h6 => k_is); (case h7 => k_is); (case h8 => k_is); (case ty => k_is); (case mr => kernel_rfl)); (case XC_BadBatch => refine' G.exC_of ?a0 (G.exI_of ?h1 ?h2 ?h3 ?h4 ?h5 ?h6 ?h7 ?h8) ?ty ?mr ?ne; (case a0 => k_is); (case h1 => k_is); (case h2 => k_is); (case h3 => k_is); (case h4 => k_is); (case h5 => k_is); (case h6 => k_is); (case h7 => k_is); (case h8 => k_is); (case ty => k_is); (case mr => kernel_rfl); (case ne => decide)); (case XC_BadGoal => refine' G.exC_of ?a0 (G.exI_of ?h1 ?h2 ?h3 ?h4 ?h5 ?h6 ?h7 ?h8) ?ty ?mr ?ne; (case a0 => k_is); (case h1 => k_is); (case h2 => k_is); (case h3 => k_is); (case h4 => k_is); (case h5 => k_is); (case h6 => k_is); (case h7 => k_is); (case h8 => k_is); (case ty => k_is); (case mr => kernel_rfl); (case ne => decide)); (case XC_BadKeys => refine' G.exC_of ?a0 (G.exI_of ?h1 ?h2 ?h3 ?h4 ?h5 ?h6 ?h7 ?h8) ?ty ?mr ?ne; (case a0 => k_is); (case h1 => k_is); (case h2 => k_is); (case h3 => k_is); (case h4 => k_is); (case h5 => k_is); (case h6 => k_is); (case h7 => k_is); (case h8 => k_is); (case ty => k_is); (case mr => kernel_rfl); (case ne => decide)); (case XC_Busy => refine' G.exC_of ?a0 (G.exI_of ?h1 ?h2 ?h3 ?h4 ?h5 ?h6 ?h7 ?h8) ?ty ?mr ?ne; (case a0 => k_is); (case h1 => k_is); (case h2 => k_is); (case h3 => k_is); (case h4 => k_is); (case h5 => k_is); (case h6 => k_is); (case h7 => k_is); (case h8 => k_is); (case ty => k_is); (case mr => kernel_rfl); (case ne => decide)); (case XC_EmptyQueue => refine' G.exC_of ?a0 (G.exI_of ?h1 ?h2 ?h3 ?h4 ?h5 ?h6 ?h7 ?h8) ?ty ?mr ?ne; (case a0 => k_is); (case h1 => k_is); (case h2 => k_is); (case h3 => k_is); (case h4 => k_is); (case h5 => k_is); (case h6 => k_is); (case h7 => k_is); (case h8 => k_is); (case ty => k_is); (case mr => kernel_rfl); (case ne => decide)); (case XC_NoRow => refine' G.exC_of ?a0 (G.exI_of ?h1 ?h2 ?h3 ?h4 ?h5 ?h6 ?h7 ?h8) ?ty ?mr ?ne; (case a0 => k_is); (case h1 => k_is); (case h2 => k_is); (case h3 => k_is); (case h4 => k_is); (case h5 => k_is); (case h6 => k_is); (case h7 => k_is); (case h8 => k_is); (case ty => k_is); (case mr => kernel_rfl); (case ne => decide)); (case XC_NothingToUndo => refine' G.exC_of ?a0 (G.exI_of ?h1 ?h2 ?h3 ?h4 ?h5 ?h6 ?h7 ?h8) ?ty ?mr ?ne; (case a0 => k_is); (case h1 => k_is); (case h2 => k_is); (case h3 => k_is); (case h4 => k_is); (case h5 => k_is); (case h6 => k_is); (case h7 => k_is); (case h8 => k_is); (case ty => k_is); (case mr => kernel_rfl); (case ne => decide)); (case XC_NothingWaiting => refine' G.exC_of ?a0 (G.exI_of ?h1 ?h2 ?h3 ?h4 ?h5 ?h6 ?h7 ?h8) ?ty ?mr ?ne; (case a0 => k_is); (case h1 => k_is); (case h2 => k_is); (case h3 => k_is); (case h4 => k_is); (case h5 => k_is); (case h6 => k_is); (case h7 => k_is); (case h8 => k_is); (case ty => k_is); (case mr => kernel_rfl); (case ne => decide)); (case XC_NoWord => refine' G.exC_of ?a0 (G.exI_of ?h1 ?h2 ?h3 ?h4 ?h5 ?h6 ?h7 ?h8) ?ty ?mr ?ne; (case a0 => k_is); (case h1 => k_is); (case h2 => k_is); (case h3 => k_is); (case h4 => k_is); (case h5 => k_is); (case h6 => k_is); (case h7 => k_is); (case h8 => k_is); (case ty => k_is); (case mr => kernel_rfl); (case ne => decide)); (case XC_TooManyOperations => refine' G.exC_of ?a0 (G.exI_of ?h1 ?h2 ?h3 ?h4 ?h5 ?h6 ?h7 ?h8) ?ty ?mr ?ne; (case a0 => k_is); (case h1 => k_is); (case h2 => k_is); (case h3 => k_is); (case h4 => k_is); (case h5 => k_is); (case h6 => k_is); (case h7 => k_is); (case h8 => k_is); (case ty => k_is); (case mr => kernel_rfl); (case ne => decide)); (case XC_BadKey => refine' G.exC_of ?a0 (G.exI_of ?h1 ?h2 ?h3 ?h4 ?h5 ?h6 ?h7 ?h8) ?ty ?mr ?ne; (case a0 => k_is); (case h1 => k_is); (case h2 => k_is); (case h3 => k_is); (case h4 => k_is); (case h5 => k_is); (case h6 => k_is); (case h7 => k_is); (case h8 => k_is); (case ty => k_is); (case mr => kernel_rfl); (case ne => decide)); (case XC_BadSequence => refine' G.exC_of ?a0 (G.exI_of ?h1 ?h2 ?h3 ?h4 ?h5 ?h6 ?h7 ?h8) ?ty ?mr ?ne; (case a0 => k_is); (case h1 => k_is); (case h2 => k_is); (case h3 => k_is); (case h4 => k_is); (case h5 => k_is); (case h6 => k_is); (case h7 => k_is); (case h8 => k_is); (case ty => k_is); (case mr => kernel_rfl); (case ne => decide)); (case XC_BadText => refine' G.exC_of ?a0 (G.exI_of ?h1 ?h2 ?h3 ?h4 ?h5 ?h6 ?h7 ?h8) ?ty ?mr ?ne; (case a0 => k_is); (case h1 => k_is); (case h2 => k_is); (case h3 => k_is); (case h4 => k_is); (case h5 => k_is); (case h6 => k_is); (case h7 => k_is); (case h8 => k_is); (case ty => k_is); (case mr => kernel_rfl); (case ne => decide)); (case XC_Duplicate => refine' G.exC_of ?a0 (G.exI_of ?h1 ?h2 ?h3 ?h4 ?h5 ?h6 ?h7 ?h8) ?ty ?mr ?ne; (case a0 => k_is); (case h1 => k_is); (case h2 => k_is); (case h3 => k_is); (case h4 => k_is); (case h5 => k_is); (case h6 => k_is); (case h7 => k_is); (case h8 => k_is); (case ty => k_is); (case mr => kernel_rfl); (case ne => decide)); (case XC_NoCode => refine' G.exC_of ?a0 (G.exI_of ?h1 ?h2 ?h3 ?h4 ?h5 ?h6 ?h7 ?h8) ?ty ?mr ?ne; (case a0 => k_is); (case h1 => k_is); (case h2 => k_is); (case h3 => k_is); (case h4 => k_is); (case h5 => k_is); (case h6 => k_is); (case h7 => k_is); (case h8 => k_is); (case ty => k_is); (case mr => kernel_rfl); (case ne => decide)); (case XC_NoIndex => refine' G.exC_of ?a0 (G.exI_of ?h1 ?h2 ?h3 ?h4 ?h5 ?h6 ?h7 ?h8) ?ty ?mr ?ne; (case a0 => k_is); (case h1 => k_is); (case h2 => k_is); (case h3 => k_is); (case h4 => k_is); (case h5 => k_is); (case h6 => k_is); (case h7 => k_is); (case h8 => k_is); (case ty => k_is); (case mr => kernel_rfl); (case ne => decide)); (case XC_NoLimit => refine' G.exC_of ?a0 (G.exI_of ?h1 ?h2 ?h3 ?h4 ?h5 ?h6 ?h7 ?h8) ?ty ?mr ?ne; (case a0 => k_is); (case h1 => k_is); (case h2 => k_is); (case h3 => k_is); (case h4 => k_is); (case h5 => k_is); (case h6 => k_is); (case h7 => k_is); (case h8 => k_is); (case ty => k_is); (case mr => kernel_rfl); (case ne => decide)); (case XC_NoSource => refine' G.exC_of ?a0 (G.exI_of ?h1 ?h2 ?h3 ?h4 ?h5 ?h6 ?h7 ?h8) ?ty ?mr ?ne; (case a0 => k_is); (case h1 => k_is); (case h2 => k_is); (case h3 => k_is); (case h4 => k_is); (case h5 => k_is); (case h6 => k_is); (case h7 => k_is); (case h8 => k_is); (case ty => k_is); (case mr => kernel_rfl); (case ne => decide)); (case XC_NotLast => refine' G.exC_of ?a0 (G.exI_of ?h1 ?h2 ?h3 ?h4 ?h5 ?h6 ?h7 ?h8) ?ty ?mr ?ne; (case a0 => k_is); (case h1 => k_is); (case h2 => k_is); (case h3 => k_is); (case h4 => k_is); (case h5 => k_is); (case h6 => k_is); (case h7 => k_is); (case h8 => k_is); (case ty => k_is); (case mr => kernel_rfl); (case ne => decide)); (case XC_NotPossible => refine' G.exC_of ?a0 (G.exI_of ?h1 ?h2 ?h3 ?h4 ?h5 ?h6 ?h7 ?h8) ?ty ?mr ?ne; (case a0 => k_is); (case h1 => k_is); (case h2 => k_is); (case h3 => k_is); (case h4 => k_is); (case h5 => k_is); (case h6 => k_is); (case h7 => k_is); (case h8 => k_is); (case ty => k_is); (case mr => kernel_rfl); (case ne => decide)); (case XC_NoTree => refine' G.exC_of ?a0 (G.exI_of ?h1 ?h2 ?h3 ?h4 ?h5 ?h6 ?h7 ?h8) ?ty ?mr ?ne; (case a0 => k_is); (case h1 => k_is); (case h2 => k_is); (case h3 => k_is); (case h4 => k_is); (case h5 => k_is); (case h6 => k_is); (case h7 => k_is); (case h8 => k_is); (case ty => k_is); (case mr => kernel_rfl); (case ne => decide)); (case XC_NoVersion => refine' G.exC_of ?a0 (G.exI_of ?h1 ?h2 ?h3 ?h4 ?h5 ?h6 ?h7 ?h8) ?ty ?mr ?ne; (case a0 => k_is); (case h1 => k_is); (case h2 => k_is); (case h3 => k_is); (case h4 => k_is); (case h5 => k_is); (case h6 => k_is); (case h7 => k_is); (case h8 => k_is); (case ty => k_is); (case mr => kernel_rfl); (case ne => decide)); (case XC_Rejected => refine' G.exC_of ?a0 (G.exI_of ?h1 ?h2 ?h3 ?h4 ?h5 ?h6 ?h7 ?h8) ?ty ?mr ?ne; (case a0 => k_is); (case h1 => k_is); (case h2 => k_is); (case h3 => k_is); (case h4 => k_is); (case h5 => k_is); (case h6 => k_is); (case h7 => k_is); (case h8 => k_is); (case ty => k_is); (case mr => kernel_rfl); (case ne => decide)); (case XC_TooLong => refine' G.exC_of ?a0 (G.exI_of ?h1 ?h2 ?h3 ?h4 ?h5 ?h6 ?h7 ?h8) ?ty ?mr ?ne; (case a0 => k_is); (case h1 => k_is); (case h2 => k_is); (case h3 => k_is); (case h4 => k_is); (case h5 => k_is); (case h6 => k_is); (case h7 => k_is); (case h8 => k_is); (case ty => k_is); (case mr => kernel_rfl); (case ne => decide)); (case XC_TooMany => refine' G.exC_of ?a0 (G.exI_of ?h1 ?h2 ?h3 ?h4 ?h5 ?h6 ?h7 ?h8) ?ty ?mr ?ne; (case a0 => k_is); (case h1 => k_is); (case h2 => k_is); (case h3 => k_is); (case h4 => k_is); (case h5 => k_is); (case h6 => k_is); (case h7 => k_is); (case h8 => k_is); (case ty => k_is); (case mr => kernel_rfl); (case ne => decide)); (case XC_TooNarrow => refine' G.exC_of ?a0 (G.exI_of ?h1 ?h2 ?h3 ?h4 ?h5 ?h6 ?h7 ?h8) ?ty ?mr ?ne; (case a0 => k_is); (case h1 => k_is); (case h2 => k_is); (case h3 => k_is); (case h4 => k_is); (case h5 => k_is); (case h6 => k_is); (case h7 => k_is); (case h8 => k_is); (case ty => k_is); (case mr => kernel_rfl); (case ne => decide)); (case XC_UnknownKey => refine' G.exC_of ?a0 (G.exI_of ?h1 ?h2 ?h3 ?h4 ?h5 ?h6 ?h7 ?h8) ?ty ?mr ?ne; (case a0 => k_is); (case h1 => k_is); (case h2 => k_is); (case h3 => k_is); (case h4 => k_is); (case h5 => k_is); (case h6 => k_is); (case h7 => k_is); (case h8 => k_is); (case ty => k_is); (case mr => kernel_rfl); (case ne => decide)); (case XC_WrongLength => refine' G.exC_of ?a0 (G.exI_of ?h1 ?h2 ?h3 ?h4 ?h5 ?h6 ?h7 ?h8) ?ty ?mr ?ne; (case a0 => k_is); (case h1 => k_is); (case h2 => k_is); (case h3 => k_is); (case h4 => k_is); (case h5 => k_is); (case h6 => k_is); (case h7 => k_is); (case h8 => k_is); (case ty => k_is); (case mr => kernel_rfl); (case ne => decide)); (case nd_ => decide); (case z_abs => k_is); (case z_len => k_is); (case z_repr => k_is); (case z_int => k_is); (case z_isinstance => k_is); (case z_range => k_is); (case z_enumerate => k_is); (case z_ValueError => k_is); (case z_MAX_KEY => k_is); (case z_MAX_LENGTH => k_is); (case z_LISTED => k_is); (case z_WIDTH_LENGTH => k_is); (case z_PUSH_LENGTH => k_is); (case z_MAX_OUTPUTS => k_is); (case z_QUEUE_LENGTH => k_is); (case z_REACH_LENGTH => k_is); (case z_MAX_OPERATIONS => k_is); (case z_BATCH => k_is); (case z_HISTORY => k_is); (case z_MAX_PAIRS => k_is); (case z_PAIRS_LENGTH => k_is)
