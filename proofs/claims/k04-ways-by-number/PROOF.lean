import PyProof.Rows.All
import Wide.All
import OpenK.AllK
import Wide.FinOn
import HandS.ForMost
import HandS.ForExc
import HandS.Slots
import HandS.SlotsOwn
import HandS.Walk
import HandS.Gcd
import HandS.TryMany
import HandS.Lambda
import HandS.Flow
import HandS.Wide
import HandS.IsInst
import HandS.CallSlots
import HandS.TupAny
import HandS.Style
import PyProof.StrOps2
import HandS.StrMore
import KE.KMathGC
import HandS.RevRange
import PyProof.ListStr
import HandS.AnyAll
import HandS.Sort
import KE.KRevSl
import HandS.Zip
import KE.GoesMore
import KE.GoesZip
import KE.DataCmp
import KE.KExcSuper
import KE.KSuper
import HandS.ExcField
import KE.KExcLine
import KE.RegKSuper
import HandS.ExcOwn
import PyProof.ReprRoads
import PyProof.StrLawsRepr
import PyProof.ReprLen
import HandS.Conv
import KE.DataMinMax
import KE.GoesEnum
import HandS.EndTab
import HandS.EndOwn
import KE.SortData
import PySem.Challenge.RW_slantways_k04_whole_ways_by_number
set_option Elab.async false
set_option linter.all false
set_option maxRecDepth 100000
set_option maxHeartbeats 4000000
namespace L2.DL
open PySem PySem.Spec PyProof.Rows
/-! ### data by value -/
inductive D where
  | non | bl (b : Bool) | int (i : Int) | str (x : Str) | ty (n : String) | glb (a : Nat)
  | lst (xs : List D) | ro (xs : List D) | tup (xs : List D) | obj (c : Nat) (fs : List D) | dct (kvs : List (Key × D))
  deriving Inhabited
/-- the addresses of classes and defs by their numbers; the field of an exception class -/
structure Cl where
  cls : Nat → Addr
  xf : Nat → Str
  /-- the tables of code objects, with the names of what is made there -/
  tb : List (Addr × Str)
/-- no table -/
def NT (o : HO) : Prop := ∀ ps, o ≠ .tbl ps
def NoT (H : Hp) : Prop := ∀ b ps, H b ≠ some (.tbl ps)
/-- a table: its code objects stand among the data -/
def TabG (G H : Hp) (P : Addr) (q : Str) : Prop := ∃ ps : Array Value, H P = some (.tbl ps) ∧ TriplesOk ps.toList ∧ ∀ (pos : Pos) (cv : Value), codeAmong pos ps.toList = some cv → ∃ a, cv = .ref a ∧ G a = some (LamX.CodeO a q)
def Tbs (c : Cl) (G H : Hp) : Prop := ∀ p ∈ c.tb, TabG G H p.1 p.2
structure Tb (c : Cl) (F G H : Hp) : Prop where
  tabs : Tbs c G H
  nf : NoT F
  ng : NoT G
mutual
inductive Rep (K : PySem.W.Frag) (c : Cl) (G : Hp) : V → D → Prop
  | non : Rep K c G .non .non
  | bl (b : Bool) : Rep K c G (.bl b) (.bl b)
  | int (i : Int) : Rep K c G (.int i) (.int i)
  | str (x : Str) : Rep K c G (.str x) (.str x)
  | ty (n : String) : Rep K c G (.ty n) (.ty n)
  | glb (a : Nat) : Rep K c G (.ref (c.cls a)) (.glb a)
  | lst {a vs ds} : G a = some (.lst vs) → Reps K c G vs ds → Rep K c G (.ref a) (.lst ds)
  | ro {a vs ds} : SqL K G a vs → Reps K c G vs ds → Rep K c G (.ref a) (.ro ds)
  | tup {a vs ds} : SqT K G a vs → Reps K c G vs ds → Rep K c G (.ref a) (.tup ds)
  | obj {a dx vs ds n} : SlX.Slt G a (c.cls n) dx (vs.map some) → Reps K c G vs ds → Rep K c G (.ref a) (.obj n ds)
  | dct {a kvs kds} : Rd G a (.dK kvs) → RepK K c G kvs kds → Rep K c G (.ref a) (.dct kds)
inductive Reps (K : PySem.W.Frag) (c : Cl) (G : Hp) : List V → List D → Prop
  | nil : Reps K c G [] []
  | cons {v d vs ds} : Rep K c G v d → Reps K c G vs ds → Reps K c G (v :: vs) (d :: ds)
inductive RepK (K : PySem.W.Frag) (c : Cl) (G : Hp) : List (Key × V) → List (Key × D) → Prop
  | nil : RepK K c G [] []
  | cons {k v d vs ds} : Rep K c G v d → RepK K c G vs ds → RepK K c G ((k, v) :: vs) ((k, d) :: ds)
end
theorem Same.seqT {K : PySem.W.Frag} {H H' : Hp} {a : Addr} {xs : List V} (e : Same H H') (h : SqT K H a xs) : SqT K H' a xs := by
  rcases h with (h | ⟨o, h⟩) | h
  · exact .inl (.inl (e _ _ h))
  · exact .inl (.inr ⟨o, e _ _ h⟩)
  · exact .inr h
theorem Same.rd {H H' : Hp} {a : Addr} {u : HO} (e : Same H H') (h : Rd H a u) : Rd H' a u := by
  rcases h with h | ⟨o, h⟩
  · exact .inl (e _ _ h)
  · exact .inr ⟨o, e _ _ h⟩
theorem Same.slt {H H' : Hp} {a C dx : Addr} {vs : List (Option V)} (e : Same H H') (h : SlX.Slt H a C dx vs) : SlX.Slt H' a C dx vs := by
  rcases h with ⟨h, r⟩ | ⟨h, r⟩
  · exact .inl ⟨e _ _ h, r⟩
  · exact .inr ⟨e _ _ h, e _ _ r⟩
section
variable {K : PySem.W.Frag} {c : Cl} {G G' : Hp}
mutual
theorem Rep.mono (e : Same G G') : ∀ {v d}, Rep K c G v d → Rep K c G' v d
  | _, _, .non => .non
  | _, _, .bl b => .bl b
  | _, _, .int b => .int b
  | _, _, .str b => .str b
  | _, _, .ty b => .ty b
  | _, _, .glb b => .glb b
  | _, _, .lst h r => .lst (e _ _ h) (Reps.mono e r)
  | _, _, .ro h r => .ro (e.seq h) (Reps.mono e r)
  | _, _, .tup h r => .tup (Same.seqT e h) (Reps.mono e r)
  | _, _, .obj h r => .obj (Same.slt e h) (Reps.mono e r)
  | _, _, .dct h r => .dct (Same.rd e h) (RepK.mono e r)
theorem Reps.mono (e : Same G G') : ∀ {v d}, Reps K c G v d → Reps K c G' v d
  | _, _, .nil => .nil
  | _, _, .cons h r => .cons (Rep.mono e h) (Reps.mono e r)
theorem RepK.mono (e : Same G G') : ∀ {v d}, RepK K c G v d → RepK K c G' v d
  | _, _, .nil => .nil
  | _, _, .cons h r => .cons (Rep.mono e h) (RepK.mono e r)
end
theorem Reps.length : ∀ {vs : List V} {ds : List D}, Reps K c G vs ds → vs.length = ds.length
  | _, _, .nil => rfl
  | _, _, .cons _ r => by simp [Reps.length r]
theorem Reps.get : ∀ {vs : List V} {ds : List D} {i : Nat} {d : D}, Reps K c G vs ds → ds[i]? = some d → ∃ v, vs[i]? = some v ∧ Rep K c G v d
  | _, _, _, _, .nil, e => by simp at e
  | _, _, 0, _, .cons r _, e => by simp at e; subst e; exact ⟨_, rfl, r⟩
  | _, _, i + 1, _, .cons _ t, e => by
    obtain ⟨v, h1, h2⟩ := Reps.get (i := i) t (by simpa using e)
    exact ⟨v, by simpa using h1, h2⟩
theorem Reps.get' : ∀ {vs : List V} {ds : List D} {i : Nat} {v : V}, Reps K c G vs ds → vs[i]? = some v → ∃ d, ds[i]? = some d ∧ Rep K c G v d
  | _, _, _, _, .nil, e => by simp at e
  | _, _, 0, _, .cons r _, e => by simp at e; subst e; exact ⟨_, rfl, r⟩
  | _, _, i + 1, _, .cons _ t, e => by
    obtain ⟨v, h1, h2⟩ := Reps.get' (i := i) t (by simpa using e)
    exact ⟨v, by simpa using h1, h2⟩
theorem Reps.append : ∀ {vs ws : List V} {ds es : List D}, Reps K c G vs ds → Reps K c G ws es → Reps K c G (vs ++ ws) (ds ++ es)
  | _, _, _, _, .nil, s => s
  | _, _, _, _, .cons r t, s => .cons r (Reps.append t s)
theorem Reps.set {v : V} {d : D} (h : Rep K c G v d) : ∀ {vs : List V} {ds : List D} (i : Nat), Reps K c G vs ds → Reps K c G (vs.set i v) (ds.set i d)
  | _, _, _, .nil => .nil
  | _, _, 0, .cons _ t => .cons h t
  | _, _, i + 1, .cons q t => .cons q (Reps.set h i t)
theorem Reps.take : ∀ {vs : List V} {ds : List D} (n : Nat), Reps K c G vs ds → Reps K c G (vs.take n) (ds.take n)
  | _, _, 0, _ => .nil
  | _, _, _ + 1, .nil => .nil
  | _, _, n + 1, .cons r t => .cons r (Reps.take n t)
theorem Reps.drop : ∀ {vs : List V} {ds : List D} (n : Nat), Reps K c G vs ds → Reps K c G (vs.drop n) (ds.drop n)
  | _, _, 0, r => r
  | _, _, _ + 1, .nil => .nil
  | _, _, n + 1, .cons _ t => Reps.drop n t
end
/-! ### the state: slots -/
/-- a thing of one's own that may change -/
inductive Cell where
  | lst (xs : List D) | dct (kvs : List (Key × D)) | ob (c : Nat) (fs : List (Option D))
/-- what stands in a slot: nothing that is known, data, a thing that may change (lent by the caller or not) -/
inductive Sl where
  | no | val (d : D) | cell (lent : Bool) (c : Cell)
abbrev Ev := List Sl
inductive RepO (K : PySem.W.Frag) (c : Cl) (G : Hp) : List (Option V) → List (Option D) → Prop
  | nil : RepO K c G [] []
  | none {vs ds} : RepO K c G vs ds → RepO K c G (none :: vs) (none :: ds)
  | some {v d vs ds} : Rep K c G v d → RepO K c G vs ds → RepO K c G (some v :: vs) (some d :: ds)
inductive CellAt (K : PySem.W.Frag) (c : Cl) (G H : Hp) : List Addr → V → Cell → Prop
  | lst {p vs xs} : H p = some (.lst vs) → Reps K c G vs xs → CellAt K c G H [p] (.ref p) (.lst xs)
  | dct {p kvs kds} : H p = some (.dK kvs) → RepK K c G kvs kds → CellAt K c G H [p] (.ref p) (.dct kds)
  | ob {a dx n vs fs} : SlX.Slt H a (c.cls n) dx vs → dx ≠ a → (∃ o, H dx = some o ∧ NT o) → RepO K c G vs fs → CellAt K c G H [a, dx] (.ref a) (.ob n fs)
inductive Slr (K : PySem.W.Frag) (c : Cl) (G H : Hp) : List Addr → Option V → Sl → Prop
  | no {x} : Slr K c G H [] x .no
  | val {v d} : Rep K c G v d → Slr K c G H [] (some v) (.val d)
  | cell {p v l z} : CellAt K c G H p v z → Slr K c G H p (some v) (.cell l z)
inductive Rels (K : PySem.W.Frag) (c : Cl) (G H : Hp) : List (List Addr) → St → Ev → Prop
  | nil : Rels K c G H [] [] []
  | cons {p P x σ s env} : Slr K c G H p x s → Rels K c G H P σ env → Rels K c G H (p :: P) (x :: σ) (s :: env)
/-- F: the frame, what stays; G: what the data stand in -/
structure Rel (K : PySem.W.Frag) (c : Cl) (F G H : Hp) (P : List (List Addr)) (σ : St) (env : Ev) : Prop where
  fs : Same F H
  gs : Same G H
  all : Rels K c G H P σ env
  out : ∀ b, b ∈ P.flatten → F b = none ∧ G b = none
  nd : P.flatten.Nodup
  tb : Tb c F G H
structure Ext (F G G' : Hp) : Prop where
  same : Same G G'
  fresh : ∀ b, G b = none → F b ≠ none → G' b = none
/-- what was lent stays so, and where it is -/
structure Keep (P P' : List (List Addr)) (env env' : Ev) : Prop where
  len : env'.length = env.length
  at_ : ∀ (i : Nat) (z : Cell), env[i]? = some (Sl.cell true z) → P'[i]? = P[i]? ∧ ∃ z' : Cell, env'[i]? = some (Sl.cell true z')
theorem Ext.refl (F G : Hp) : Ext F G G := ⟨Same.refl G, fun _ h _ => h⟩
theorem Ext.trans {F G G1 G2 : Hp} (a : Ext F G G1) (b : Ext F G1 G2) : Ext F G G2 := ⟨a.same.trans b.same, fun x h f => b.fresh x (a.fresh x h f) f⟩
theorem Keep.refl (P : List (List Addr)) (env : Ev) : Keep P P env env := ⟨rfl, fun _ z h => ⟨rfl, z, h⟩⟩
theorem Keep.trans {P P1 P2 : List (List Addr)} {e e1 e2 : Ev} (a : Keep P P1 e e1) (b : Keep P1 P2 e1 e2) : Keep P P2 e e2 := ⟨b.len.trans a.len, fun i z h => by
  obtain ⟨q, z1, h1⟩ := a.at_ i z h
  obtain ⟨q2, z2, h2⟩ := b.at_ i z1 h1
  exact ⟨q2.trans q, z2, h2⟩⟩
section
variable {K : PySem.W.Frag} {c : Cl} {F G G' H H' : Hp} {P : List (List Addr)} {σ : St} {env : Ev}
theorem RepO.mono (e : Same G G') : ∀ {v d}, RepO K c G v d → RepO K c G' v d
  | _, _, .nil => .nil
  | _, _, .none r => .none (RepO.mono e r)
  | _, _, .some h r => .some (Rep.mono e h) (RepO.mono e r)
theorem slt_move {a C dx : Addr} {vs : List (Option V)} (h1 : ∀ o, H a = some o → H' a = some o) (h2 : ∀ o, H dx = some o → H' dx = some o) (h : SlX.Slt H a C dx vs) : SlX.Slt H' a C dx vs := by
  rcases h with ⟨h, r⟩ | ⟨h, r⟩
  · exact .inl ⟨h1 _ h, r⟩
  · exact .inr ⟨h1 _ h, h2 _ r⟩
theorem CellAt.move {p : List Addr} {v : V} {z : Cell} (x : CellAt K c G H p v z) (e : Same G G') (k : ∀ b, b ∈ p → ∀ o, H b = some o → H' b = some o) : CellAt K c G' H' p v z := by
  cases x with
  | lst h r => exact .lst (k _ (by simp) _ h) (r.mono e)
  | dct h r => exact .dct (k _ (by simp) _ h) (r.mono e)
  | ob h n q r =>
    obtain ⟨o, q1, q2⟩ := q
    exact .ob (slt_move (k _ (by simp)) (k _ (by simp)) h) n ⟨o, k _ (by simp) o q1, q2⟩ (r.mono e)
theorem Slr.move {p : List Addr} {x : Option V} {s : Sl} (h : Slr K c G H p x s) (e : Same G G') (k : ∀ b, b ∈ p → ∀ o, H b = some o → H' b = some o) : Slr K c G' H' p x s := by
  cases h with
  | no => exact .no
  | val r => exact .val (r.mono e)
  | cell r => exact .cell (r.move e k)
theorem Rels.move (h : Rels K c G H P σ env) (e : Same G G') (k : ∀ b, b ∈ P.flatten → ∀ o, H b = some o → H' b = some o) : Rels K c G' H' P σ env := by
  induction h with
  | nil => exact .nil
  | cons r _ ih =>
    refine .cons (r.move e fun b hb => k b (by simp [hb])) (ih fun b hb => k b ?_)
    rw [List.flatten_cons]
    exact List.mem_append_right _ hb
theorem Rels.len (h : Rels K c G H P σ env) : σ.length = env.length ∧ P.length = env.length := by
  induction h with
  | nil => exact ⟨rfl, rfl⟩
  | cons _ _ ih => simp [ih.1, ih.2]
theorem Rels.get (h : Rels K c G H P σ env) : ∀ {i : Nat} {s : Sl}, env[i]? = some s → ∃ p x, P[i]? = some p ∧ σ[i]? = some x ∧ Slr K c G H p x s := by
  induction h with
  | nil => intro i s e; simp at e
  | cons r _ ih =>
    intro i s e
    cases i with
    | zero => simp at e; subst e; exact ⟨_, _, rfl, rfl, r⟩
    | succ i => simpa using ih (by simpa using e)
theorem Rels.set {p : List Addr} {x : Option V} {s : Sl} (h : Rels K c G H P σ env) : ∀ (i : Nat), Slr K c G H p x s → Rels K c G H (P.set i p) (σ.set i x) (env.set i s) := by
  induction h with
  | nil => intro i _; exact .nil
  | cons r t ih =>
    intro i q
    cases i with
    | zero => exact .cons q t
    | succ i => exact .cons r (ih i q)
theorem mem_flat {P : List (List Addr)} {i : Nat} {p : List Addr} (e : P[i]? = some p) {b : Addr} (hb : b ∈ p) : b ∈ P.flatten :=
  List.mem_flatten.mpr ⟨p, List.mem_of_getElem? e, hb⟩
theorem flat_set {P : List (List Addr)} {i : Nat} {q : List Addr} {b : Addr} (hb : b ∈ (P.set i q).flatten) : b ∈ q ∨ b ∈ P.flatten := by
  obtain ⟨l, hl, hb⟩ := List.mem_flatten.mp hb
  rcases List.mem_or_eq_of_mem_set hl with h | h
  · exact .inr (List.mem_flatten.mpr ⟨l, h, hb⟩)
  · exact .inl (by rw [h] at hb; exact hb)
theorem nd_set_nil {P : List (List Addr)} (h : P.flatten.Nodup) (i : Nat) : (P.set i []).flatten.Nodup := by
  induction P generalizing i with
  | nil => exact h
  | cons p P ih =>
    rw [List.flatten_cons] at h
    have h' := List.nodup_append.mp h
    cases i with
    | zero => rw [List.set_cons_zero, List.flatten_cons, List.nil_append]; exact h'.2.1
    | succ i =>
      rw [List.set_cons_succ, List.flatten_cons]
      refine List.nodup_append.mpr ⟨h'.1, ih h'.2.1 i, fun a ha b hb => ?_⟩
      rcases flat_set hb with z | z
      · simp at z
      · exact h'.2.2 a ha b z
theorem nd_set_new {P : List (List Addr)} {q : List Addr} (h : P.flatten.Nodup) (hq : q.Nodup) (hn : ∀ b, b ∈ q → b ∉ P.flatten) (i : Nat) : (P.set i q).flatten.Nodup := by
  induction P generalizing i with
  | nil => exact h
  | cons p P ih =>
    rw [List.flatten_cons] at h hn
    have h' := List.nodup_append.mp h
    cases i with
    | zero =>
      rw [List.set_cons_zero, List.flatten_cons]
      refine List.nodup_append.mpr ⟨hq, h'.2.1, fun a ha b hb e => ?_⟩
      subst e
      exact hn a ha (List.mem_append_right _ hb)
    | succ i =>
      rw [List.set_cons_succ, List.flatten_cons]
      refine List.nodup_append.mpr ⟨h'.1, ih h'.2.1 (fun b hb z => hn b hb (List.mem_append_right _ z)) i, fun a ha b hb e => ?_⟩
      subst e
      rcases flat_set hb with z | z
      · exact hn a z (List.mem_append_left _ ha)
      · exact h'.2.2 a ha a z rfl
theorem nd_at {P : List (List Addr)} (h : P.flatten.Nodup) : ∀ {i j : Nat} {p q : List Addr} {b : Addr}, P[i]? = some p → P[j]? = some q → b ∈ p → b ∈ q → i = j := by
  induction P with
  | nil => intro i j p q b e; simp at e
  | cons a P ih =>
    intro i j p q b e1 e2 h1 h2
    rw [List.flatten_cons] at h
    have h' := List.nodup_append.mp h
    cases i with
    | zero =>
      cases j with
      | zero => rfl
      | succ j =>
        simp at e1 e2; subst e1
        exact (h'.2.2 b h1 b (mem_flat e2 h2) rfl).elim
    | succ i =>
      cases j with
      | zero =>
        simp at e1 e2; subst e2
        exact (h'.2.2 b h2 b (mem_flat e1 h1) rfl).elim
      | succ j =>
        simp at e1 e2
        rw [ih h'.2.1 e1 e2 h1 h2]
end
/-! ### mirrors -/
inductive Exn where
  | own (c : Nat) (d : Option D) | ty (n : String)
inductive Res (α : Type) where
  | ok (a : α) (e : Ev) | exc (x : Exn) (e : Ev) | bad
abbrev M (α : Type) := Ev → Res α
inductive Fl where
  | next | ret (d : D) | brk | cont | retO (z : Cell)
abbrev MS := Ev → Res Fl
def M.ret {α : Type} (a : α) : M α := fun e => .ok a e
def M.bind {α β : Type} (m : M α) (f : α → M β) : M β := fun e => match m e with
  | .ok a e' => f a e'
  | .exc x e' => .exc x e'
  | .bad => .bad
def M.opt {α : Type} : Option α → M α
  | some a => fun e => .ok a e
  | none => fun _ => .bad
inductive RepX (K : PySem.W.Frag) (c : Cl) (G H : Hp) : Value → Option Addr → Exn → Prop
  | own0 {n dd} : RepX K c G H (.ref (c.cls n)) dd (.own n none)
  | own1 {n dx v d} : H dx = some (.xd [(c.xf n, v)]) → Rep K c G v d → RepX K c G H (.ref (c.cls n)) (some dx) (.own n (some d))
  | ty {n dd} : RepX K c G H (.type n) dd (.ty n)
def Fl.fin (K : PySem.W.Frag) (c : Cl) (F G H : Hp) (P : List (List Addr)) (σ : St) (D : Ends) : Fl → Prop
  | .next => D.nx σ H
  | .ret d => ∀ v, Rep K c G v d → D.rt v H
  | .brk => D.bk σ H
  | .cont => D.ct σ H
  | .retO z => ∀ v p, CellAt K c G H p v z → p.Nodup → (∀ b, b ∈ p → F b = none ∧ G b = none ∧ b ∉ P.flatten) → D.rt v H
section
variable (K : PySem.W.Frag) (c : Cl) (W : WX)
def Post {α : Type} (F G : Hp) (P : List (List Addr)) (σ : St) (env : Ev) (r : Res α) (k : α → Hp → Hp → List (List Addr) → Prop) : Prop :=
  match r with
  | .ok a env' => ∀ G' H' P', Ext F G G' → Keep P P' env env' → Rel K c F G' H' P' σ env' → k a G' H' P'
  | .exc x env' => ∀ G' H' P' cv dd, Ext F G G' → Keep P P' env env' → Rel K c F G' H' P' σ env' → RepX K c G' H' cv dd x → W cv dd σ H'
  | .bad => False
def tE (m : M D) : TE := fun σ H Q => ∃ F G P env, Rel K c F G H P σ env ∧ Post K c W F G P σ env (m env) fun d G' H' _ => ∀ v, Rep K c G' v d → Q v H'
def tA (m : M (List D)) : TA := fun σ H Q => ∃ F G P env, Rel K c F G H P σ env ∧ Post K c W F G P σ env (m env) fun ds G' H' _ => ∀ vs, Reps K c G' vs ds → Q vs H'
def tT (m : M Bool) : TT := fun σ H Q => ∃ F G P env, Rel K c F G H P σ env ∧ Post K c W F G P σ env (m env) fun b _ H' _ => Q b H'
/-- a new thing that may change -/
def tO (m : M Cell) : TE := fun σ H Q => ∃ F G P env, Rel K c F G H P σ env ∧ Post K c W F G P σ env (m env) fun z G' H' P' => ∀ v p, CellAt K c G' H' p v z → p.Nodup → (∀ b, b ∈ p → F b = none ∧ G' b = none ∧ b ∉ P'.flatten) → Q v H'
def PostS (F G : Hp) (P : List (List Addr)) (env : Ev) (r : Res Fl) (D : Ends) : Prop :=
  match r with
  | .ok f env' => ∀ G' H' P' σ', Ext F G G' → Keep P P' env env' → Rel K c F G' H' P' σ' env' → f.fin K c F G' H' P' σ' D
  | .exc x env' => ∀ G' H' P' σ' cv dd, Ext F G G' → Keep P P' env env' → Rel K c F G' H' P' σ' env' → RepX K c G' H' cv dd x → W cv dd σ' H'
  | .bad => False
def tS (m : MS) : TS := fun D σ H => ∃ F G P env, Rel K c F G H P σ env ∧ PostS K c W F G P env (m env) D
end
section
variable {K : PySem.W.Frag} {c : Cl} {W : WX} {F G G1 H : Hp} {P P1 : List (List Addr)} {σ : St} {env env1 : Ev}
theorem Post.chain {α : Type} {r : Res α} {k : α → Hp → Hp → List (List Addr) → Prop} (h : Post K c W F G P σ env r k) (e : Ext F G G1) (q : Keep P P1 env env1) : Post K c W F G1 P1 σ env1 r k := by
  cases r with
  | ok a env' => exact fun G' H' P' e1 q1 r => h G' H' P' (e.trans e1) (q.trans q1) r
  | exc x env' => exact fun G' H' P' cv dd e1 q1 r => h G' H' P' cv dd (e.trans e1) (q.trans q1) r
  | bad => exact h
theorem Post.imp {α : Type} {r : Res α} {k k' : α → Hp → Hp → List (List Addr) → Prop} (h : Post K c W F G P σ env r k) (i : ∀ a G' H' P', Ext F G G' → k a G' H' P' → k' a G' H' P') : Post K c W F G P σ env r k' := by
  cases r with
  | ok a env' => exact fun G' H' P' e1 q1 r => i _ _ _ _ e1 (h G' H' P' e1 q1 r)
  | exc x env' => exact h
  | bad => exact h
theorem PostS.chain {r : Res Fl} {D : Ends} (h : PostS K c W F G P env r D) (e : Ext F G G1) (q : Keep P P1 env env1) : PostS K c W F G1 P1 env1 r D := by
  cases r with
  | ok a env' => exact fun G' H' P' σ' e1 q1 r => h G' H' P' σ' (e.trans e1) (q.trans q1) r
  | exc x env' => exact fun G' H' P' σ' cv dd e1 q1 r => h G' H' P' σ' cv dd (e.trans e1) (q.trans q1) r
  | bad => exact h
/-- one computation, then a further one -/
theorem Post.bind {α β : Type} {m : M α} {f : α → M β} {k : β → Hp → Hp → List (List Addr) → Prop} (h : Post K c W F G P σ env (M.bind m f env) k) :
    Post K c W F G P σ env (m env) fun a G' H' P' => ∃ env', Rel K c F G' H' P' σ env' ∧ Post K c W F G' P' σ env' (f a env') k := by
  unfold M.bind at h
  cases e : m env with
  | ok a env' =>
    rw [e] at h
    exact fun G' H' P' e1 q1 r => ⟨env', r, h.chain e1 q1⟩
  | exc x env' => rw [e] at h; exact h
  | bad => rw [e] at h; exact h
theorem Post.bindS {α : Type} {m : M α} {f : α → MS} {D : Ends} (h : PostS K c W F G P env (M.bind m f env) D) :
    Post K c W F G P σ env (m env) fun a G' H' P' => ∃ env', Rel K c F G' H' P' σ env' ∧ PostS K c W F G' P' env' (f a env') D := by
  unfold M.bind at h
  cases e : m env with
  | ok a env' =>
    rw [e] at h
    exact fun G' H' P' e1 q1 r => ⟨env', r, h.chain e1 q1⟩
  | exc x env' => rw [e] at h; exact fun G' H' P' cv dd e1 q1 r => h G' H' P' σ cv dd e1 q1 r
  | bad => rw [e] at h; exact h
/-- behind a pure operation -/
structure Pure (c : Cl) (H G H' G' : Hp) : Prop where
  same : Same G G'
  hs : LamX.ExtN H H'
  gs : Same G' H'
  fresh : ∀ b o, H b = some o → NT o → G b = none → G' b = none
  tabs : Tbs c G H → Tbs c G' H'
  ng : NoT G → NoT G'
/-- tables and steps -/
theorem Tbs.same {c : Cl} {G H H' : Hp} (t : Tbs c G H) (s : Same H H') : Tbs c G H' := fun p hp => by
  obtain ⟨ps, h1, h2, h3⟩ := t p hp
  exact ⟨ps, s _ _ h1, h2, h3⟩
theorem Tbs.mono {c : Cl} {G G' H : Hp} (t : Tbs c G H) (s : Same G G') : Tbs c G' H := fun p hp => by
  obtain ⟨ps, h1, h2, h3⟩ := t p hp
  exact ⟨ps, h1, h2, fun pos cv e => by
    obtain ⟨a, e1, e2⟩ := h3 pos cv e
    exact ⟨a, e1, s _ _ e2⟩⟩
theorem Tbs.upd {c : Cl} {G H : Hp} {a : Addr} {o : HO} (t : Tbs c G H) (h : ∀ ps, H a ≠ some (.tbl ps)) : Tbs c G (upd H a o) := fun p hp => by
  obtain ⟨ps, h1, h2, h3⟩ := t p hp
  exact ⟨ps, by rw [upd_ne fun z => h ps (by rw [← z]; exact h1)]; exact h1, h2, h3⟩
theorem Tb.same {c : Cl} {F G H H' : Hp} (t : Tb c F G H) (s : Same H H') : Tb c F G H' := ⟨t.tabs.same s, t.nf, t.ng⟩
theorem Tb.upd {c : Cl} {F G H : Hp} {a : Addr} {o : HO} (t : Tb c F G H) (h : ∀ ps, H a ≠ some (.tbl ps)) : Tb c F G (upd H a o) := ⟨t.tabs.upd h, t.nf, t.ng⟩
theorem Same.ext {H H' : Hp} (s : Same H H') : LamX.ExtN H H' := .of s
theorem ext_nt {F H H' : Hp} (s : Same F H) (n : NoT F) (e : LamX.ExtN H H') : Same F H' := fun b o h => e b o (s b o h) fun ps z => n b ps (by rw [h, z])
/-- all but the tables -/
def nt (H : Hp) : Hp := fun b => match H b with
  | some (.tbl _) => none
  | x => x
theorem nt_not (H : Hp) : NoT (nt H) := fun b ps h => by
  unfold nt at h
  split at h
  · cases h
  · rename_i h2
    exact h2 _ h
theorem nt_same (H : Hp) : Same (nt H) H := fun b o h => by
  unfold nt at h
  split at h
  · cases h
  · exact h
theorem nt_at {H : Hp} {b : Addr} {o : HO} (h : H b = some o) (n : NT o) : nt H b = some o := by
  unfold nt
  split
  · rename_i ps h2
    rw [h] at h2
    exact absurd (Option.some.inj h2) (n ps)
  · exact h
theorem nt_none {H : Hp} {b : Addr} (h : H b = none) : nt H b = none := by
  unfold nt
  rw [h]
theorem same_nt {G H : Hp} (s : Same G H) (n : NoT G) : Same G (nt H) := fun b o h => nt_at (s b o h) fun ps z => n b ps (by rw [h, z])
theorem nt_ext {H H' : Hp} (s : Same (nt H) H') : LamX.ExtN H H' := fun b o h n => s b o (nt_at h n)
theorem some_ne {H : Hp} {b : Addr} {o : HO} (h : H b = some o) : H b ≠ none := by rw [h]; exact fun z => nomatch z
theorem cell_obj {G H : Hp} {p : List Addr} {v : V} {z : Cell} (x : CellAt K c G H p v z) : ∀ b, b ∈ p → ∃ o, H b = some o ∧ NT o := by
  cases x with
  | lst h r => intro b hb; obtain rfl : b = _ := by simpa using hb
               exact ⟨_, h, fun _ z => nomatch z⟩
  | dct h r => intro b hb; obtain rfl : b = _ := by simpa using hb
               exact ⟨_, h, fun _ z => nomatch z⟩
  | ob h n q r =>
    rename_i a dx _ _ _
    intro b hb
    rcases (by simpa using hb : b = a ∨ b = dx) with rfl | rfl
    · rcases h with ⟨h1, _⟩ | ⟨h1, h2⟩
      · exact ⟨_, h1, fun _ z => nomatch z⟩
      · exact ⟨_, h1, fun _ z => by unfold SlX.SlO at z; nomatch z⟩
    · exact q
theorem cell_there {G H : Hp} {p : List Addr} {v : V} {z : Cell} (x : CellAt K c G H p v z) : ∀ b, b ∈ p → H b ≠ none := fun b hb => by
  obtain ⟨o, h, _⟩ := cell_obj x b hb
  exact some_ne h
/-- what is one's own stands there, and is no table -/
theorem Rels.obj {G H : Hp} {P : List (List Addr)} {σ : St} {env : Ev} (R : Rels K c G H P σ env) : ∀ b, b ∈ P.flatten → ∃ o, H b = some o ∧ NT o := fun b hb => by
  obtain ⟨q, hq, hb⟩ := List.mem_flatten.mp hb
  obtain ⟨i, hi, e⟩ := List.mem_iff_getElem.mp hq
  have hl := R.len
  have e1 : P[i]? = some q := by rw [List.getElem?_eq_getElem hi, e]
  obtain ⟨s, hs⟩ : ∃ s, env[i]? = some s := ⟨env[i]'(by omega), by simp [show i < env.length by omega]⟩
  obtain ⟨p', x, e2, _, r⟩ := R.get hs
  rw [e1] at e2; cases e2
  cases r with
  | no => cases hb
  | val _ => cases hb
  | cell z => exact cell_obj z b hb
end
end L2.DL
set_option Elab.async false
set_option linter.all false
set_option maxRecDepth 100000
set_option maxHeartbeats 4000000
namespace L2.DL
open PySem PySem.Spec PyProof.Rows
theorem PE.weak {X : Cx} {e : Expr} {t t' : TE} (h : PE X e t) (w : ∀ σ H Q, t' σ H Q → t σ H Q) : PE X e t' := ⟨fun pins s σ H Q I q => h.run pins s σ H Q I (w σ H Q q)⟩
theorem PT.weak {X : Cx} {e : Expr} {t t' : TT} (h : PT X e t) (w : ∀ σ H Q, t' σ H Q → t σ H Q) : PT X e t' := ⟨fun pins s σ H Q I q => h.run pins s σ H Q I (w σ H Q q)⟩
theorem PW.weak {X : Cx} {e : Expr} {t t' : TT} (h : PW X e t) (w : ∀ σ H Q, t' σ H Q → t σ H Q) : PW X e t' := ⟨fun wh pins s σ H Q I q => h.run wh pins s σ H Q I (w σ H Q q)⟩
theorem PA.weak {X : Cx} {e : List Expr} {t t' : TA} (h : PA X e t) (w : ∀ σ H Q, t' σ H Q → t σ H Q) : PA X e t' := ⟨fun ps pins s σ H Q I q => h.run ps pins s σ H Q I (w σ H Q q)⟩
theorem PS.weak {X : Cx} {e : Stmt} {t t' : TS} (h : PS X e t) (w : ∀ D σ H, t' D σ H → t D σ H) : PS X e t' := ⟨fun pins s σ H D I q => h.run pins s σ H D I (w D σ H q)⟩
theorem PSs.weak {X : Cx} {e : List Stmt} {t t' : TS} (h : PSs X e t) (w : ∀ D σ H, t' D σ H → t D σ H) : PSs X e t' := ⟨fun pins s σ H D I q => h.run pins s σ H D I (w D σ H q)⟩
section
variable {K : PySem.W.Frag} {c : Cl} {W : WX} {F G H H' : Hp} {P : List (List Addr)} {σ : St} {env : Ev}
theorem Post.here {α : Type} {a : α} {k : α → Hp → Hp → List (List Addr) → Prop} (R : Rel K c F G H P σ env) (h : Post K c W F G P σ env (.ok a env) k) : k a G H P :=
  h G H P (Ext.refl _ _) (Keep.refl _ _) R
/-! ### pure steps -/
theorem Pure.refl (h : Same G H) : Pure c H G H G := ⟨Same.refl _, LamX.ExtN.refl _, h, fun _ _ _ _ h => h, id, id⟩
theorem none_of {p : Addr} (h : Same G H) (n : H p = none) : G p = none := by
  cases e : G p with
  | none => rfl
  | some o => rw [h _ _ e] at n; cases n
theorem same_new {p : Addr} {o : HO} (n : H p = none) : Same H (upd H p o) := fun b q h => by rw [upd_ne (ne_of_none h n)]; exact h
theorem same_upd {p : Addr} {o : HO} (h : Same G H) (n : G p = none) : Same (upd G p o) (upd H p o) := fun b q e => by
  by_cases hb : b = p
  · subst hb; rw [upd_same] at e ⊢; exact e
  · rw [upd_ne hb] at e ⊢; exact h _ _ e
theorem not_upd {p : Addr} {o : HO} (h : NoT G) (ho : NT o) : NoT (upd G p o) := fun b ps e => by
  by_cases hb : b = p
  · subst hb; rw [upd_same] at e; exact ho ps (Option.some.inj e)
  · rw [upd_ne hb] at e; exact h b ps e
theorem Pure.new {p : Addr} (o : HO) (h : Same G H) (n : H p = none) (ho : NT o := by exact fun _ z => nomatch z) : Pure c H G (upd H p o) (upd G p o) :=
  ⟨same_new (none_of h n), Same.ext (same_new n), same_upd h (none_of h n), fun b o' hn _ hb => by
    have : b ≠ p := fun e => by rw [e, n] at hn; cases hn
    rw [upd_ne this]; exact hb, fun t => (t.same (same_new n)).mono (same_new (none_of h n)), fun hg => not_upd hg ho⟩
theorem Rel.pure {G' : Hp} (R : Rel K c F G H P σ env) (p : Pure c H G H' G') : Ext F G G' ∧ Rel K c F G' H' P σ env := by
  have fr : ∀ b, b ∈ P.flatten → G' b = none := fun b hb => by
    obtain ⟨o, h1, h2⟩ := R.all.obj b hb
    exact p.fresh b o h1 h2 (R.out b hb).2
  have fs : Same F H' := ext_nt R.fs R.tb.nf p.hs
  refine ⟨⟨p.same, fun b h1 h2 => ?_⟩, ⟨fs, p.gs, R.all.move p.same fun b hb o h => ?_, fun b hb => ⟨(R.out b hb).1, fr b hb⟩, R.nd, ⟨p.tabs R.tb.tabs, R.tb.nf, p.ng R.tb.ng⟩⟩⟩
  · cases e : F b with
    | none => exact absurd e h2
    | some o => exact p.fresh b o (R.fs b o e) (fun ps z => R.tb.nf b ps (by rw [e, z])) h1
  · obtain ⟨o', h1, h2⟩ := R.all.obj b hb
    rw [h] at h1
    cases h1
    exact p.hs b o h h2
end
/-! ### constants and names -/
def Cell.frz : Cell → Option D
  | .lst xs => some (.lst xs)
  | .dct kvs => some (.dct kvs)
  | .ob n fs => if fs.all (·.isSome) then some (.obj n (fs.filterMap id)) else none
def mC (d : D) : M D := fun env => .ok d env
def mName (i : Nat) : M D := fun env => match env[i]? with
  | some (.val d) => .ok d env
  | some (.cell false z) => match z.frz with
    | some d => .ok d (env.set i (.val d))
    | none => .bad
  | _ => .bad
section
variable {X : Cx} {c : Cl} {W : WX} {pos : Pos}
theorem de_const {e : Expr} {v : V} {d : D} (h : PE X e (tC v)) (r : ∀ G, Rep X.K c G v d) : PE X e (tE X.K c W (mC d)) :=
  PE.weak h fun σ H Q ⟨F, G, P, env, R, h⟩ => Post.here R h _ (r G)
theorem de_int {i : Int} {j} : PE X (.Constant (.int i) j pos) (tE X.K c W (mC (.int i))) := de_const pe_int fun _ => .int i
theorem de_bl {b : Bool} {j} : PE X (.Constant (.bool b) j pos) (tE X.K c W (mC (.bl b))) := de_const pe_bl fun _ => .bl b
theorem de_non {j} : PE X (.Constant .none j pos) (tE X.K c W (mC .non)) := de_const pe_non fun _ => .non
theorem de_str {x : Str} {j} : PE X (.Constant (.str x) j pos) (tE X.K c W (mC (.str x))) := de_const pe_str fun _ => .str x
/-- a module's own constant -/
theorem de_gint {x : Str} {i : Int} {t : Tok} (hg : Gl X x) (hm : X.mg x = some (.int i t)) (hd : (x == ("__debug__" : Str)) = false := by decide) : PE X (.Name x pos) (tE X.K c W (mC (.int i))) := de_const (pe_glob (v := .int i) hg hm ⟨_, rfl⟩ hd) fun _ => .int i
theorem de_gstr {x z : Str} {t : Tok} (hg : Gl X x) (hm : X.mg x = some (.str z t)) (hd : (x == ("__debug__" : Str)) = false := by decide) : PE X (.Name x pos) (tE X.K c W (mC (.str z))) := de_const (pe_glob (v := .str z) hg hm ⟨_, rfl⟩ hd) fun _ => .str z
end
section
variable {K : PySem.W.Frag} {c : Cl} {W : WX} {F G H H' : Hp} {P : List (List Addr)} {σ : St} {env : Ev}
/-- a part of the heap is data from now on -/
def frzH (G H : Hp) (p : List Addr) : Hp := fun b => if b ∈ p then H b else G b
theorem repO_all : ∀ {vs : List (Option V)} {fs : List (Option D)}, RepO K c G vs fs → fs.all (·.isSome) = true → ∃ us, vs = us.map some ∧ Reps K c G us (fs.filterMap id)
  | _, _, .nil, _ => ⟨[], rfl, .nil⟩
  | _, _, .none r, h => by simp at h
  | _, _, .some h r, q => by
    obtain ⟨us, e, s⟩ := repO_all r (by simpa using q)
    exact ⟨_ :: us, by rw [e]; rfl, .cons h s⟩
theorem CellAt.frz {p : List Addr} {v : V} {z : Cell} {d : D} (x : CellAt K c G H p v z) (hg : Same G H) (hn : ∀ b, b ∈ p → G b = none) (e : z.frz = some d) :
    Same G (frzH G H p) ∧ Same (frzH G H p) H ∧ Rep K c (frzH G H p) v d := by
  have s1 : Same G (frzH G H p) := fun b o h => by
    unfold frzH
    rw [if_neg (fun hb => by rw [hn b hb] at h; cases h)]; exact h
  have s2 : Same (frzH G H p) H := fun b o h => by
    unfold frzH at h
    split at h
    · exact h
    · exact hg _ _ h
  refine ⟨s1, s2, ?_⟩
  cases x with
  | lst h r =>
    cases e
    exact .lst (by unfold frzH; rw [if_pos (by simp)]; exact h) (r.mono s1)
  | dct h r =>
    cases e
    exact .dct (.inl (by unfold frzH; rw [if_pos (by simp)]; exact h)) (r.mono s1)
  | ob h n q r =>
    simp only [Cell.frz] at e
    split at e
    · rename_i ha
      cases e
      obtain ⟨us, e1, rr⟩ := repO_all r ha
      subst e1
      refine .obj (slt_move (fun o ho => ?_) (fun o ho => ?_) h) (rr.mono s1)
      · unfold frzH; rw [if_pos (by simp)]; exact ho
      · unfold frzH; rw [if_pos (by simp)]; exact ho
    · cases e
theorem not_frz {p : List Addr} {v : V} {z : Cell} (h : NoT G) (x : CellAt K c G H p v z) : NoT (frzH G H p) := fun b ps e => by
  unfold frzH at e
  split at e
  · rename_i hb
    obtain ⟨o, h1, h2⟩ := cell_obj x b hb
    rw [h1] at e
    exact h2 ps (Option.some.inj e)
  · exact h b ps e
theorem Rel.freeze {i : Nat} {z : Cell} {d : D} (R : Rel K c F G H P σ env) (e : env[i]? = some (.cell false z)) (q : z.frz = some d) :
    ∃ v G' P', σ[i]? = some (some v) ∧ Ext F G G' ∧ Keep P P' env (env.set i (.val d)) ∧ Rel K c F G' H P' σ (env.set i (.val d)) ∧ Rep K c G' v d := by
  obtain ⟨p, x, e1, e2, r⟩ := R.all.get e
  cases r with
  | cell r =>
    rename_i v
    obtain ⟨s1, s2, rr⟩ := r.frz R.gs (fun b hb => (R.out b (mem_flat e1 hb)).2) q
    have hσ : σ.set i (some v) = σ := by
      apply List.ext_getElem?
      intro j
      by_cases hj : i = j
      · subst hj
        rw [List.getElem?_set_self (by have := List.getElem?_eq_some_iff.mp e2; exact this.1), e2]
      · rw [List.getElem?_set_ne hj]
    refine ⟨v, _, P.set i [], e2, ⟨s1, fun b h1 h2 => ?_⟩, ⟨by simp, fun j z' hj => ?_⟩, ⟨R.fs, s2, ?_, fun b hb => ?_, nd_set_nil R.nd i, ⟨R.tb.tabs.mono s1, R.tb.nf, not_frz R.tb.ng r⟩⟩, rr⟩
    · unfold frzH
      split
      · rename_i hb
        exact absurd (R.out b (mem_flat e1 hb)).1 h2
      · exact h1
    · have hij : i ≠ j := fun h => by rw [← h, e] at hj; cases hj
      rw [List.getElem?_set_ne hij, List.getElem?_set_ne hij]
      exact ⟨rfl, z', hj⟩
    · have := (R.all.move s1 (fun b _ o h => h)).set (p := []) (x := some v) (s := .val d) i (.val rr)
      rw [hσ] at this
      exact this
    · rcases flat_set hb with hb' | hb'
      · cases hb'
      · refine ⟨(R.out b hb').1, ?_⟩
        unfold frzH
        split
        · rename_i hp
          -- b is in p and elsewhere
          exfalso
          obtain ⟨l, hl, hbl⟩ := List.mem_flatten.mp hb
          obtain ⟨j, hj, ej⟩ := List.mem_iff_getElem.mp hl
          have ej' : (P.set i [])[j]? = some l := by rw [List.getElem?_eq_getElem hj, ej]
          by_cases hij : i = j
          · subst hij
            rw [List.getElem?_set_self (by simpa using hj)] at ej'
            cases ej'
            cases hbl
          · rw [List.getElem?_set_ne hij] at ej'
            exact hij (nd_at R.nd e1 ej' hp hbl)
        · exact (R.out b hb').2
end
section
variable {X : Cx} {c : Cl} {W : WX} {pos : Pos}
theorem de_name (i : Nat) {x : Str} (hN : X.N[i]? = some x := by rfl) (hv : Vis X.env.scope x := by first | exact Or.inl rfl | exact Or.inr (Or.inl rfl) | exact Or.inr (Or.inr rfl)) (hd : (x == ("__debug__" : Str)) = false := by decide)
    (hcd : (x == ("__classdict__" : Str)) = false := by decide) : PE X (.Name x pos) (tE X.K c W (mName i)) := by
  refine PE.weak (pe_var (i := i) hN hv hd hcd) fun σ H Q h => ?_
  obtain ⟨F, G, P, env, R, h⟩ := h
  unfold mName at h
  cases e : env[i]? with
  | none => rw [e] at h; exact h.elim
  | some s =>
    rw [e] at h
    cases s with
    | no => exact h.elim
    | val d =>
      obtain ⟨p, x, e1, e2, r⟩ := R.all.get e
      cases r with
      | val r => exact ⟨_, e2, Post.here R h _ r⟩
    | cell l z =>
      cases l with
      | true => exact h.elim
      | false =>
        cases q : z.frz with
        | none => simp only [q] at h; exact h.elim
        | some d =>
          simp only [q] at h
          obtain ⟨v, G', P', e2, x1, k1, R1, r⟩ := R.freeze e q
          exact ⟨v, e2, h G' H P' x1 k1 R1 v r⟩
end
/-! ### operations on data -/
def OpD (X : Cx) (c : Cl) (f : Value → Value → Sem Value) (g : D → D → Option D) : Prop :=
  OpR X f fun x y H Q => ∃ G dx dy d, Same G H ∧ (Tbs c G H ∧ NoT G) ∧ Rep X.K c G x dx ∧ Rep X.K c G y dy ∧ g dx dy = some d ∧ ∀ G' H' v, Pure c H G H' G' → Rep X.K c G' v d → Q v H'
def mBin (g : D → D → Option D) (a b : M D) : M D := M.bind a fun x => M.bind b fun y => M.opt (g x y)
section
variable {X : Cx} {c : Cl} {W : WX} {pos : Pos} {a b : Expr} {ma mb : M D}
theorem Post.opt {K : PySem.W.Frag} {F G : Hp} {P : List (List Addr)} {σ : St} {env : Ev} {α : Type} {o : Option α} {k : α → Hp → Hp → List (List Addr) → Prop}
    (h : Post K c W F G P σ env (M.opt o env) k) : ∃ d, o = some d ∧ Post K c W F G P σ env (.ok d env) k := by
  cases o with
  | none => exact h.elim
  | some d => exact ⟨d, rfl, h⟩
theorem two_pure {K : PySem.W.Frag} {σ : St} {H : Hp} {Q : VK} {g : D → D → Option D} (h : tE K c W (mBin g ma mb) σ H Q) :
    tE K c W ma σ H fun x H1 => tE K c W mb σ H1 fun y H2 => ∃ G dx dy d, Same G H2 ∧ (Tbs c G H2 ∧ NoT G) ∧ Rep K c G x dx ∧ Rep K c G y dy ∧ g dx dy = some d ∧ ∀ G' H' v, Pure c H2 G H' G' → Rep K c G' v d → Q v H' := by
  obtain ⟨F, G, P, env, R, h⟩ := h
  refine ⟨F, G, P, env, R, (Post.bind h).imp fun x G1 H1 P1 _ ⟨env1, R1, h1⟩ v1 r1 => ⟨F, G1, P1, env1, R1, (Post.bind h1).imp fun y G2 H2 P2 x2 ⟨env2, R2, h2⟩ v2 r2 => ?_⟩⟩
  obtain ⟨d, e, h2⟩ := Post.opt h2
  refine ⟨G2, x, y, d, R2.gs, ⟨R2.tb.tabs, R2.tb.ng⟩, r1.mono x2.same, r2, e, fun G' H' v p r => ?_⟩
  obtain ⟨x3, R3⟩ := R2.pure p
  exact h2 G' H' P2 x3 (Keep.refl _ _) R3 v r
theorem de_bin {op : Operator} {g : D → D → Option D} (ho : OpD X c (binaryOp op) g) (ha : PE X a (tE X.K c W ma)) (hb : PE X b (tE X.K c W mb)) : PE X (.BinOp a op b pos) (tE X.K c W (mBin g ma mb)) :=
  PE.weak (pe_op ho ha hb) fun _ _ _ h => two_pure h
theorem de_cmp {op : CmpOp} {g : D → D → Option D} (ho : OpD X c (compareOp op) g) (ha : PE X a (tE X.K c W ma)) (hb : PE X b (tE X.K c W mb)) (hm : behindInMarks op b = false := by first | exact nomark _ | rfl) : PE X (.Compare a [op] [b] pos) (tE X.K c W (mBin g ma mb)) :=
  PE.weak (pe_cmpR ho ha hb hm) fun _ _ _ h => two_pure h
end
end L2.DL
set_option Elab.async false
set_option linter.all false
set_option maxRecDepth 100000
set_option maxHeartbeats 4000000
namespace L2.DL
open PySem PySem.Spec PyProof.Rows
/-! ### tests -/
def D.tru : D → Option Bool
  | .non => some false
  | .bl b => some b
  | .int i => some (i != 0)
  | .str y => if y.length ≤ 16777216 then some ((y.length : Int) != 0) else none
  | .lst xs => some (!xs.isEmpty)
  | .ro xs => some (!xs.isEmpty)
  | .tup xs => some (!xs.isEmpty)
  | _ => none
def D.isB : D → Option Bool
  | .bl b => some b
  | _ => none
def mTru (m : M D) : M Bool := M.bind m fun x => M.opt x.tru
def mTest (m : M D) : M Bool := M.bind m fun x => M.opt x.isB
def mAndT (a b : M Bool) : M Bool := M.bind a fun x => if x = true then b else M.ret false
def mOrT (a b : M Bool) : M Bool := M.bind a fun x => if x = true then M.ret true else b
def mNotT (a : M Bool) : M Bool := M.bind a fun x => M.ret (!x)
def mOfT (a : M Bool) : M D := M.bind a fun x => M.ret (.bl x)
def mIf {α : Type} (t : M Bool) (a b : M α) : M α := M.bind t fun x => if x = true then a else b
/-- and, or as values -/
def mAnd (a b : M D) : M D := M.bind a fun x => M.bind (M.opt x.tru) fun k => if k = true then b else M.ret x
def mOr (a b : M D) : M D := M.bind a fun x => M.bind (M.opt x.tru) fun k => if k = true then M.ret x else b
def mNot (a : M D) : M D := M.bind a fun x => M.bind (M.opt x.tru) fun k => M.ret (.bl (!k))
section
variable {K : PySem.W.Frag} {c : Cl} {W : WX} {F G H H' : Hp} {P : List (List Addr)} {σ : St} {env : Ev}
theorem isEmpty_reps {vs : List V} {ds : List D} (r : Reps K c G vs ds) : (!vs.isEmpty) = !ds.isEmpty := by cases r <;> rfl
theorem tru_rep (hs : Same G H) {v : V} {d : D} {k : Bool} (r : Rep K c G v d) (e : d.tru = some k) : TruV K v H k := by
  cases r with
  | non => cases e; rfl
  | bl b => cases e; rfl
  | int i => cases e; rfl
  | str x =>
    simp only [D.tru] at e
    split at e
    · rename_i h
      cases e
      exact ⟨by rw [sizeLine_eq]; exact h, rfl⟩
    · cases e
  | ty n => cases e
  | glb a => cases e
  | lst h r => cases e; exact .inl ⟨_, SqL.of (hs _ _ h), (isEmpty_reps r).symm⟩
  | ro h r => cases e; exact .inl ⟨_, hs.seq h, (isEmpty_reps r).symm⟩
  | tup h r => cases e; exact .inr (.inl ⟨_, Same.seqT hs h, (isEmpty_reps r).symm⟩)
  | obj _ _ => cases e
  | dct _ _ => cases e
theorem isB_rep {v : V} {d : D} {k : Bool} (r : Rep K c G v d) (e : d.isB = some k) : v = .bl k := by
  cases r with
  | bl b => cases e; rfl
  | _ => cases e
end
section
variable {X : Cx} {c : Cl} {W : WX} {pos : Pos} {a b t : Expr} {rest : List Expr} {ma mb : M D} {ta tb : M Bool}
theorem dt_val (h : PE X a (tE X.K c W ma)) (he : ∀ whole, isTrue a X.env whole = (do let v ← whole; standAt a.pos; holding [v] (truthy v)) := by intro _; rfl) : PT X a (tT X.K c W (mTru ma)) := by
  refine PT.weak (pt_truth h he) fun σ H Q h => ?_
  obtain ⟨F, G, P, env, R, h⟩ := h
  refine ⟨F, G, P, env, R, (Post.bind h).imp fun x G1 H1 P1 _ ⟨env1, R1, h1⟩ v r => ?_⟩
  obtain ⟨k, e, h1⟩ := Post.opt h1
  exact ⟨k, tru_rep R1.gs r e, Post.here R1 h1⟩
theorem test_imp {K : PySem.W.Frag} {σ : St} {H : Hp} {Q : Bool → Hp → Prop} (h : tT K c W (mTest ma) σ H Q) : tE K c W ma σ H fun x H' => ∃ k, x = .bl k ∧ Q k H' := by
  obtain ⟨F, G, P, env, R, h⟩ := h
  refine ⟨F, G, P, env, R, (Post.bind h).imp fun x G1 H1 P1 _ ⟨env1, R1, h1⟩ v r => ?_⟩
  obtain ⟨k, e, h1⟩ := Post.opt h1
  exact ⟨k, isB_rep r e, Post.here R1 h1⟩
theorem dt_cmp {op : CmpOp} {g : D → D → Option D} (ho : OpD X c (compareOp op) g) (ha : PE X a (tE X.K c W ma)) (hb : PE X b (tE X.K c W mb)) (hm : behindInMarks op b = false := by first | exact nomark _ | rfl) :
    PT X (.Compare a [op] [b] pos) (tT X.K c W (mTest (mBin g ma mb))) := by
  refine PT.weak (pt_cmpR ho ha hb hm) fun σ H Q h => ?_
  show tOp _ _ _ σ H _
  exact two_pure (test_imp h)
theorem dt_and1 (ha : PT X a (tT X.K c W ta)) : PW X (.BoolOp .And [a] pos) (tT X.K c W ta) := pw_and1 ha
theorem dt_or1 (ha : PT X a (tT X.K c W ta)) : PW X (.BoolOp .Or [a] pos) (tT X.K c W ta) := pw_or1 ha
theorem dt_and (ha : PT X a (tT X.K c W ta)) (hb : PW X (.BoolOp .And (b :: rest) pos) (tT X.K c W tb)) : PW X (.BoolOp .And (a :: b :: rest) pos) (tT X.K c W (mAndT ta tb)) := by
  refine PW.weak (pw_and ha hb) fun σ H Q h => ?_
  obtain ⟨F, G, P, env, R, h⟩ := h
  refine ⟨F, G, P, env, R, (Post.bind h).imp fun x G1 H1 P1 _ ⟨env1, R1, h1⟩ => ?_⟩
  cases x with
  | true => exact ⟨F, G1, P1, env1, R1, h1⟩
  | false => exact Post.here R1 h1
theorem dt_or (ha : PT X a (tT X.K c W ta)) (hb : PW X (.BoolOp .Or (b :: rest) pos) (tT X.K c W tb)) : PW X (.BoolOp .Or (a :: b :: rest) pos) (tT X.K c W (mOrT ta tb)) := by
  refine PW.weak (pw_or ha hb) fun σ H Q h => ?_
  obtain ⟨F, G, P, env, R, h⟩ := h
  refine ⟨F, G, P, env, R, (Post.bind h).imp fun x G1 H1 P1 _ ⟨env1, R1, h1⟩ => ?_⟩
  cases x with
  | true => exact Post.here R1 h1
  | false => exact ⟨F, G1, P1, env1, R1, h1⟩
theorem dt_not (ha : PT X a (tT X.K c W ta)) : PT X (.UnaryOp .Not a pos) (tT X.K c W (mNotT ta)) := by
  refine PT.weak (pt_not ha) fun σ H Q h => ?_
  obtain ⟨F, G, P, env, R, h⟩ := h
  exact ⟨F, G, P, env, R, (Post.bind h).imp fun x G1 H1 P1 _ ⟨env1, R1, h1⟩ => Post.here R1 h1⟩
theorem de_if {x y : Expr} {mx my : M D} (ht : PT X t (tT X.K c W ta)) (hx : PE X x (tE X.K c W mx)) (hy : PE X y (tE X.K c W my)) : PE X (.IfExp t x y pos) (tE X.K c W (mIf ta mx my)) := by
  refine PE.weak (pe_ifExp ht hx hy) fun σ H Q h => ?_
  obtain ⟨F, G, P, env, R, h⟩ := h
  refine ⟨F, G, P, env, R, (Post.bind h).imp fun x G1 H1 P1 _ ⟨env1, R1, h1⟩ => ?_⟩
  cases x with
  | true => exact ⟨F, G1, P1, env1, R1, h1⟩
  | false => exact ⟨F, G1, P1, env1, R1, h1⟩
/-- and, or, not as values -/
theorem de_one {op} (h : PE X a (tE X.K c W ma)) : PE X (.BoolOp op [a] pos) (tE X.K c W ma) := pe_one h
theorem de_and (ha : PE X a (tE X.K c W ma)) (hb : PE X (.BoolOp .And (b :: rest) pos) (tE X.K c W mb)) : PE X (.BoolOp .And (a :: b :: rest) pos) (tE X.K c W (mAnd ma mb)) := by
  refine PE.weak (pe_andT ha hb) fun σ H Q h => ?_
  obtain ⟨F, G, P, env, R, h⟩ := h
  refine ⟨F, G, P, env, R, (Post.bind h).imp fun x G1 H1 P1 _ ⟨env1, R1, h1⟩ v r => ?_⟩
  cases e : x.tru with
  | none => rw [e] at h1; exact h1.elim
  | some k =>
    rw [e] at h1
    refine ⟨k, tru_rep R1.gs r e, ?_⟩
    cases k with
    | true => exact ⟨F, G1, P1, env1, R1, h1⟩
    | false => exact Post.here R1 h1 v r
theorem de_or (ha : PE X a (tE X.K c W ma)) (hb : PE X (.BoolOp .Or (b :: rest) pos) (tE X.K c W mb)) : PE X (.BoolOp .Or (a :: b :: rest) pos) (tE X.K c W (mOr ma mb)) := by
  refine PE.weak (pe_orT ha hb) fun σ H Q h => ?_
  obtain ⟨F, G, P, env, R, h⟩ := h
  refine ⟨F, G, P, env, R, (Post.bind h).imp fun x G1 H1 P1 _ ⟨env1, R1, h1⟩ v r => ?_⟩
  cases e : x.tru with
  | none => rw [e] at h1; exact h1.elim
  | some k =>
    rw [e] at h1
    refine ⟨k, tru_rep R1.gs r e, ?_⟩
    cases k with
    | true => exact Post.here R1 h1 v r
    | false => exact ⟨F, G1, P1, env1, R1, h1⟩
theorem de_not (ha : PE X a (tE X.K c W ma)) : PE X (.UnaryOp .Not a pos) (tE X.K c W (mNot ma)) := by
  refine PE.weak (pe_notT ha) fun σ H Q h => ?_
  obtain ⟨F, G, P, env, R, h⟩ := h
  refine ⟨F, G, P, env, R, (Post.bind h).imp fun x G1 H1 P1 _ ⟨env1, R1, h1⟩ v r => ?_⟩
  cases e : x.tru with
  | none => rw [e] at h1; exact h1.elim
  | some k =>
    rw [e] at h1
    exact ⟨k, tru_rep R1.gs r e, Post.here R1 h1 _ (.bl _)⟩
/-- a op b op' c -/
def mChain (g g' : D → D → Option D) (a b d : M D) : M D := M.bind a fun x => M.bind b fun y => M.bind (M.opt (g x y)) fun z => M.bind (M.opt z.isB) fun k => if k = true then M.bind d fun w => M.opt (g' y w) else M.ret (.bl false)
theorem de_chain {op op' : CmpOp} {g g' : D → D → Option D} {d : Expr} {md : M D} (ho : OpD X c (compareOp op) g) (ho' : OpD X c (compareOp op') g') (ha : PE X a (tE X.K c W ma)) (hb : PE X b (tE X.K c W mb)) (hd : PE X d (tE X.K c W md))
    (hm : lastMarks [op, op'] [b, d] = false := by with_unfolding_all rfl) : PE X (.Compare a [op, op'] [b, d] pos) (tE X.K c W (mChain g g' ma mb md)) := by
  refine PE.weak (pe_chain ho ho' ha hb hd hm) fun σ H Q h => ?_
  obtain ⟨F, G, P, env, R, h⟩ := h
  refine ⟨F, G, P, env, R, (Post.bind h).imp fun x G1 H1 P1 _ ⟨env1, R1, h1⟩ v1 r1 => ⟨F, G1, P1, env1, R1, (Post.bind h1).imp fun y G2 H2 P2 x2 ⟨env2, R2, h2⟩ v2 r2 => ?_⟩⟩
  cases e : g x y with
  | none => rw [e] at h2; exact h2.elim
  | some z =>
    rw [e] at h2
    refine ⟨G2, x, y, z, R2.gs, ⟨R2.tb.tabs, R2.tb.ng⟩, r1.mono x2.same, r2, e, fun G3 H3 v3 p r3 => ?_⟩
    obtain ⟨x3, R3⟩ := R2.pure p
    have h2 : Post X.K c W F G2 P2 σ env2 (M.bind (M.opt z.isB) (fun k => if k = true then M.bind md fun w => M.opt (g' y w) else M.ret (.bl false)) env2) _ := h2
    cases q : z.isB with
    | none => rw [q] at h2; exact h2.elim
    | some k =>
      rw [q] at h2
      refine ⟨k, isB_rep r3 q, ?_⟩
      cases k with
      | false => exact h2 G3 H3 P2 x3 (Keep.refl _ _) R3 _ (.bl false)
      | true =>
        have h3 : Post X.K c W F G2 P2 σ env2 (M.bind md (fun w => M.opt (g' y w)) env2) _ := h2
        refine ⟨F, G3, P2, env2, R3, (Post.bind (h3.chain x3 (Keep.refl _ _))).imp fun w G4 H4 P4 x4 ⟨env4, R4, h4⟩ v4 r4 => ?_⟩
        obtain ⟨d4, e4, h4⟩ := Post.opt h4
        refine ⟨G4, y, w, d4, R4.gs, ⟨R4.tb.tabs, R4.tb.ng⟩, r2.mono (x3.same.trans x4.same), r4, e4, fun G5 H5 v5 p5 r5 => ?_⟩
        obtain ⟨x5, R5⟩ := R4.pure p5
        exact h4 G5 H5 P4 x5 (Keep.refl _ _) R5 v5 r5
end
/-! ### arithmetic -/
section
variable {X : Cx} {c : Cl}
theorem opd_of {f : Value → Value → Sem Value} {g : D → D → Option D}
    (h : ∀ (G H : Hp) (x y : V) (dx dy d : D), Same G H → Rep X.K c G x dx → Rep X.K c G y dy → g dx dy = some d → ∃ r : R2, OpR X f r ∧ ∀ Q : VK, (∀ G' H' v, Pure c H G H' G' → Rep X.K c G' v d → Q v H') → r x y H Q) : OpD X c f g := by
  intro pins s σ H x y v u Q I rx ry hq
  obtain ⟨G, dx, dy, d, hs, _, r1, r2, e, q⟩ := hq
  obtain ⟨r, ho, hr⟩ := h G H x y dx dy d hs r1 r2 e
  exact ho pins s σ H x y v u Q I rx ry (hr Q q)
theorem opd_ofT {f : Value → Value → Sem Value} {g : D → D → Option D}
    (h : ∀ (G H : Hp) (x y : V) (dx dy d : D), Same G H → (Tbs c G H ∧ NoT G) → Rep X.K c G x dx → Rep X.K c G y dy → g dx dy = some d → ∃ r : R2, OpR X f r ∧ ∀ Q : VK, (∀ G' H' v, Pure c H G H' G' → Rep X.K c G' v d → Q v H') → r x y H Q) : OpD X c f g := by
  intro pins s σ H x y v u Q I rx ry hq
  obtain ⟨G, dx, dy, d, hs, ht, r1, r2, e, q⟩ := hq
  obtain ⟨r, ho, hr⟩ := h G H x y dx dy d hs ht r1 r2 e
  exact ho pins s σ H x y v u Q I rx ry (hr Q q)
def wB : Nat := 2 ^ 65536
def dSub : D → D → Option D
  | .int a, .int b => some (.int (a - b))
  | _, _ => none
theorem do_sub : OpD X c (binaryOp .Sub) dSub := opd_of fun G H x y dx dy d hs r1 r2 e => by
  cases r1 with
  | int i =>
    cases r2 with
    | int j => cases e; exact ⟨_, op_sub, fun Q q => ⟨i, j, rfl, rfl, q G H _ (Pure.refl hs) (.int _)⟩⟩
    | _ => cases e
  | _ => cases e
def dMod : D → D → Option D
  | .int a, .int b => if 0 < b then some (.int (a % b)) else if b < 0 then some (.int (a.fmod b)) else none
  | _, _ => none
theorem do_mod : OpD X c (binaryOp .Mod) dMod := opd_of fun G H x y dx dy d hs r1 r2 e => by
  cases r1 with
  | int i =>
    cases r2 with
    | int j =>
      simp only [dMod] at e
      split at e
      · rename_i h
        cases e; exact ⟨_, op_mod, fun Q q => ⟨i, j, rfl, rfl, h, q G H _ (Pure.refl hs) (.int _)⟩⟩
      · split at e
        · cases e; exact ⟨_, op_modN, fun Q q => ⟨i, j, rfl, rfl, (by show j ≠ 0; omega), q G H _ (Pure.refl hs) (.int _)⟩⟩
        · cases e
    | _ => cases e
  | _ => cases e
def dDiv : D → D → Option D
  | .int a, .int b => if 0 < b ∧ b.natAbs.log2 < 9000 then some (.int (a / b)) else if b < 0 ∧ b.natAbs < 1073741824 then some (.int (a.fdiv b)) else none
  | _, _ => none
theorem do_div : OpD X c (binaryOp .FloorDiv) dDiv := opd_of fun G H x y dx dy d hs r1 r2 e => by
  cases r1 with
  | int i =>
    cases r2 with
    | int j =>
      simp only [dDiv] at e
      split at e
      · rename_i h
        cases e; exact ⟨_, op_fdivW, fun Q q => ⟨i, j, rfl, rfl, h, q G H _ (Pure.refl hs) (.int _)⟩⟩
      · split at e
        · rename_i h
          cases e; exact ⟨_, op_fdivN, fun Q q => ⟨i, j, rfl, rfl, (⟨by omega, h.2⟩ : j ≠ 0 ∧ _), q G H _ (Pure.refl hs) (.int _)⟩⟩
        · cases e
    | _ => cases e
  | _ => cases e
def dPow : D → D → Option D
  | .int a, .int b => if 0 ≤ b ∧ b ≤ 1000000 ∧ a.natAbs < 2 ^ 64 then some (.int (a ^ b.toNat)) else none
  | _, _ => none
theorem do_pow : OpD X c (binaryOp .Pow) dPow := opd_of fun G H x y dx dy d hs r1 r2 e => by
  cases r1 with
  | int i =>
    cases r2 with
    | int j =>
      simp only [dPow] at e
      split at e
      · rename_i h
        cases e; exact ⟨_, op_pow, fun Q q => ⟨i, j, rfl, rfl, h, q G H _ (Pure.refl hs) (.int _)⟩⟩
      · cases e
    | _ => cases e
  | _ => cases e
def dNeg : D → Option D
  | .int a => some (.int (-a))
  | _ => none
def mUn (g : D → Option D) (a : M D) : M D := M.bind a fun x => M.opt (g x)
theorem de_neg {W : WX} {a : Expr} {ma : M D} {pos : Pos} (ha : PE X a (tE X.K c W ma)) : PE X (.UnaryOp .USub a pos) (tE X.K c W (mUn dNeg ma)) := by
  refine PE.weak (pe_un un_neg ha) fun σ H Q h => ?_
  obtain ⟨F, G, P, env, R, h⟩ := h
  refine ⟨F, G, P, env, R, (Post.bind h).imp fun x G1 H1 P1 _ ⟨env1, R1, h1⟩ v r => ?_⟩
  obtain ⟨d, e, h1⟩ := Post.opt h1
  cases r with
  | int i => cases e; exact ⟨i, rfl, Post.here R1 h1 _ (.int _)⟩
  | _ => cases e
/-! ### order -/
def dLt : D → D → Option D
  | .int a, .int b => some (.bl (decide (a < b)))
  | .str a, .str b => some (.bl (decide (a.cps.toList < b.cps.toList)))
  | _, _ => none
theorem do_lt : OpD X c (compareOp .Lt) dLt := opd_of fun G H x y dx dy d hs r1 r2 e => by
  cases r1 with
  | int i =>
    cases r2 with
    | int j => cases e; exact ⟨_, op_lt, fun Q q => ⟨i, j, rfl, rfl, q G H _ (Pure.refl hs) (.bl _)⟩⟩
    | _ => cases e
  | str i =>
    cases r2 with
    | str j => cases e; exact ⟨_, op_lt_str, fun Q q => ⟨i, j, rfl, rfl, q G H _ (Pure.refl hs) (.bl _)⟩⟩
    | _ => cases e
  | _ => cases e
def dLe : D → D → Option D
  | .int a, .int b => some (.bl (decide (a ≤ b)))
  | _, _ => none
theorem do_le : OpD X c (compareOp .LtE) dLe := opd_of fun G H x y dx dy d hs r1 r2 e => by
  cases r1 with
  | int i =>
    cases r2 with
    | int j => cases e; exact ⟨_, op_le, fun Q q => ⟨i, j, rfl, rfl, q G H _ (Pure.refl hs) (.bl _)⟩⟩
    | _ => cases e
  | _ => cases e
def dGt : D → D → Option D
  | .int a, .int b => some (.bl (decide (b < a)))
  | _, _ => none
theorem do_gt : OpD X c (compareOp .Gt) dGt := opd_of fun G H x y dx dy d hs r1 r2 e => by
  cases r1 with
  | int i =>
    cases r2 with
    | int j => cases e; exact ⟨_, op_gt, fun Q q => ⟨i, j, rfl, rfl, q G H _ (Pure.refl hs) (.bl _)⟩⟩
    | _ => cases e
  | _ => cases e
def dGe : D → D → Option D
  | .int a, .int b => some (.bl (decide (b ≤ a)))
  | _, _ => none
theorem do_ge : OpD X c (compareOp .GtE) dGe := opd_of fun G H x y dx dy d hs r1 r2 e => by
  cases r1 with
  | int i =>
    cases r2 with
    | int j => cases e; exact ⟨_, op_ge, fun Q q => ⟨i, j, rfl, rfl, q G H _ (Pure.refl hs) (.bl _)⟩⟩
    | _ => cases e
  | _ => cases e
end
end L2.DL
set_option Elab.async false
set_option linter.all false
set_option maxRecDepth 100000
set_option maxHeartbeats 4000000
namespace L2.DL
open PySem PySem.Spec PyProof.Rows
section
variable {X : Cx} {c : Cl}
def dAdd : D → D → Option D
  | .int a, .int b => some (.int (a + b))
  | .str a, .str b => if a.length + b.length ≤ 16777216 then some (.str (a ++ b)) else none
  | .lst a, .lst b => if a.length + b.length ≤ 16777216 then some (.lst (a ++ b)) else none
  | .tup a, .tup b => if a.length + b.length ≤ 16777216 then some (.tup (a ++ b)) else none
  | .int a, .bl b => some (.int (a + b2i b))
  | _, _ => none
theorem do_add : OpD X c (binaryOp .Add) dAdd := opd_of fun G H x y dx dy d hs r1 r2 e => by
  cases r1 with
  | int i =>
    cases r2 with
    | int j => cases e; exact ⟨_, op_add, fun Q q => ⟨i, j, rfl, rfl, q G H _ (Pure.refl hs) (.int _)⟩⟩
    | bl j => cases e; exact ⟨_, op_add_ib, fun Q q => ⟨i, j, rfl, rfl, q G H _ (Pure.refl hs) (.int _)⟩⟩
    | _ => cases e
  | str i =>
    cases r2 with
    | str j =>
      simp only [dAdd] at e
      split at e
      · rename_i h
        cases e
        exact ⟨_, op_add_str, fun Q q => ⟨i, j, rfl, rfl, by rw [sizeLine_eq]; exact h, q G H _ (Pure.refl hs) (.str _)⟩⟩
      · cases e
    | _ => cases e
  | lst h1 s1 =>
    cases r2 with
    | lst h2 s2 =>
      simp only [dAdd] at e
      split at e
      · rename_i h
        cases e
        refine ⟨_, op_cat, fun Q q => ⟨_, _, _, _, rfl, rfl, hs _ _ h1, hs _ _ h2, by rw [s1.length, s2.length, sizeLine_eq]; exact h, fun p n => ?_⟩⟩
        exact q _ _ _ (Pure.new _ hs n) (.lst upd_same ((s1.append s2).mono (same_new (none_of hs n))))
      · cases e
    | _ => cases e
  | tup h1 s1 =>
    cases r2 with
    | tup h2 s2 =>
      simp only [dAdd] at e
      split at e
      · rename_i h
        cases e
        refine ⟨_, op_catA, fun Q q => ⟨_, _, _, _, rfl, rfl, Same.seqT hs h1, Same.seqT hs h2, by rw [s1.length, s2.length, sizeLine_eq]; exact h, fun z => ?_, fun z1 z2 => ?_, fun z1 z2 p n => ?_⟩⟩
        · subst z
          cases s1
          exact q G H _ (Pure.refl hs) (.tup h2 s2)
        · subst z2
          cases s2
          exact q G H _ (Pure.refl hs) (.tup h1 (by rw [List.append_nil]; exact s1))
        · exact q _ _ _ (Pure.new _ hs n) (.tup (SqT.of upd_same) ((s1.append s2).mono (same_new (none_of hs n))))
      · cases e
    | _ => cases e
  | _ => cases e
/-! ### times -/
theorem Reps.rep {K : PySem.W.Frag} {G : Hp} {vs : List V} {ds : List D} (r : Reps K c G vs ds) : ∀ n : Nat, Reps K c G (List.replicate n vs).flatten (List.replicate n ds).flatten
  | 0 => .nil
  | n + 1 => by rw [List.replicate_succ, List.replicate_succ, List.flatten_cons, List.flatten_cons]; exact r.append (Reps.rep r n)
def strRep (x : Str) (n : Nat) : Str := ⟨(List.replicate n x.cps.toList).flatten.toArray⟩
theorem strRep_fold (x : Str) (n : Nat) : (List.replicate n x.cps).foldl (· ++ ·) #[] = (strRep x n).cps := by
  have : ∀ (n : Nat) (a : Array Nat), (List.replicate n x.cps).foldl (· ++ ·) a = a ++ (List.replicate n x.cps.toList).flatten.toArray := by
    intro n
    induction n with
    | zero => intro a; simp
    | succ n ih => intro a; rw [List.replicate_succ, List.foldl_cons, ih, List.replicate_succ, List.flatten_cons, Array.append_assoc]; congr 1; apply Array.ext'; simp
  rw [this n #[]]
  simp [strRep]
def rMulS : R2 := fun x y H Q => ∃ z n, x = .str z ∧ y = .int n ∧ n ≤ 1000000 ∧ -1000000 ≤ n ∧ z.length ≤ 10 ∧ Q (.str (strRep z n.toNat)) H
theorem op_mulS : OpR X (binaryOp .Mult) rMulS := by
  intro pins s σ H x y v u Q I rx ry h
  obtain ⟨z, n, rfl, rfl, h1, h0, h2, q⟩ := h
  obtain ⟨t, rfl⟩ := rx
  obtain ⟨t', rfl⟩ := ry
  have hb : z.length * n.toNat ≤ 10000000 := by
    have : z.length * n.toNat ≤ 10 * 1000000 := Nat.mul_le_mul h2 (by omega)
    omega
  have hl : Builtin.Str.tooLong (z.length * n.toNat) = false := by
    unfold Builtin.Str.tooLong
    have : sizeLine = 16777216 := sizeLine_eq
    first
    | exact decide_eq_false (by omega)
    | (simp; omega)
  refine PySem.P.mul_str (by rw [decide_eq_false (by omega), decide_eq_false (by omega)]; rfl) (fun g1 g2 g3 => ?_) (fun _ _ => hl) ?_
  · have hn : 0 < n := by omega
    have h3 : n * (z.length : Int) ≤ 10000000 := by
      have e1 : n * (z.length : Int) = ((z.length * n.toNat : Nat) : Int) := by
        rw [Nat.mul_comm, Int.natCast_mul, Int.toNat_of_nonneg (by omega)]
      rw [e1]; omega
    have h4 : (z.length : Int) ≤ (2 ^ 63 - 1) / n := (Int.le_ediv_iff_mul_le hn).mpr (by rw [Int.mul_comm]; omega)
    omega
  · by_cases g1 : n < 1
    · rw [if_pos g1]
      have e : strRep z n.toNat = Str.empty := by
        have : n.toNat = 0 := by omega
        rw [this]; rfl
      rw [e] at q
      exact ⟨by decide, ⟨.str Str.empty, H, I.tok _, ⟨_, rfl⟩, q⟩⟩
    · rw [if_neg g1]
      by_cases g2 : (n == 1 || z.length == 0) = true
      · rw [if_pos g2]
        have e : strRep z n.toNat = z := by
          rcases Bool.or_eq_true_iff.mp g2 with g | g
          · have : n = 1 := by simpa using g
            subst this
            show (⟨_⟩ : Str) = z
            have : (List.replicate (1 : Int).toNat z.cps.toList).flatten = z.cps.toList := by simp [show (1 : Int).toNat = 1 from rfl]
            rw [this]
          · have hz : z.cps.toList = [] := by
              have : z.cps.size = 0 := by simpa [Str.length] using g
              exact List.eq_nil_of_length_eq_zero (by simpa using this)
            obtain ⟨a⟩ := z
            simp only at hz
            have : a = #[] := by simpa using congrArg List.toArray hz
            subst this
            simp [strRep]
        rw [e] at q
        exact ⟨.str z, H, I, ⟨_, rfl⟩, q⟩
      · rw [if_neg g2, strRep_fold]
        refine ⟨?_, ⟨.str (strRep z n.toNat), H, I.tok _, ⟨_, rfl⟩, q⟩⟩
        have e : (strRep z n.toNat).length = z.length * n.toNat := by
          simp [strRep, Str.length, Nat.mul_comm]
        first
        | (rw [e]; have : sizeLine = 16777216 := sizeLine_eq; omega)
        | (show (strRep z n.toNat).length ≤ sizeLine; rw [e, sizeLine_eq]; omega)
def dMul : D → D → Option D
  | .int a, .int b => if a.natAbs.log2 + b.natAbs.log2 < 1000000 then some (.int (a * b)) else none
  | .str a, .int b => if b ≤ 1000000 ∧ -1000000 ≤ b ∧ a.length ≤ 10 then some (.str (strRep a b.toNat)) else none
  | .lst a, .int b => if -(2 ^ 63) ≤ b ∧ b < 2 ^ 63 ∧ a.length * b.toNat ≤ 16777216 then some (.lst (List.replicate b.toNat a).flatten) else none
  | _, _ => none
theorem do_mul : OpD X c (binaryOp .Mult) dMul := opd_of fun G H x y dx dy d hs r1 r2 e => by
  cases r1 with
  | int i =>
    cases r2 with
    | int j =>
      simp only [dMul] at e
      split at e
      · rename_i h
        cases e; exact ⟨_, op_mulW, fun Q q => ⟨i, j, rfl, rfl, h, q G H _ (Pure.refl hs) (.int _)⟩⟩
      · cases e
    | _ => cases e
  | str i =>
    cases r2 with
    | int j =>
      simp only [dMul] at e
      split at e
      · rename_i h
        cases e; exact ⟨_, op_mulS, fun Q q => ⟨i, j, rfl, rfl, h.1, h.2.1, h.2.2, q G H _ (Pure.refl hs) (.str _)⟩⟩
      · cases e
    | _ => cases e
  | lst h1 s1 =>
    cases r2 with
    | int j =>
      simp only [dMul] at e
      split at e
      · rename_i h
        cases e
        refine ⟨_, op_rep, fun Q q => ⟨_, j, _, rfl, rfl, hs _ _ h1, h.1, h.2.1, by rw [s1.length, sizeLine_eq]; exact h.2.2, fun p n => ?_⟩⟩
        exact q _ _ _ (Pure.new _ hs n) (.lst upd_same ((s1.rep _).mono (same_new (none_of hs n))))
      · cases e
    | _ => cases e
  | _ => cases e
/-! ### equality of data -/
mutual
def D.py : D → Option PyData
  | .non => some .none
  | .bl b => some (.bool b)
  | .int i => some (.int i)
  | .str x => some (.str x)
  | .lst xs => (D.pys xs).map .list
  | .ro xs => (D.pys xs).map .list
  | .tup xs => (D.pys xs).map .tuple
  | _ => none
def D.pys : List D → Option (List PyData)
  | [] => some []
  | x :: xs => (D.py x).bind fun y => (D.pys xs).map (y :: ·)
end
mutual
theorem dp_rep {K : PySem.W.Frag} {G H : Hp} (hs : Same G H) : ∀ {v : V} {d : D} {p : PyData}, Rep K c G v d → d.py = some p → Dp K H v p
  | _, _, _, .non, e => by simp only [D.py] at e; cases e; exact .non
  | _, _, _, .bl b, e => by simp only [D.py] at e; cases e; exact .bl b
  | _, _, _, .int b, e => by simp only [D.py] at e; cases e; exact .int b
  | _, _, _, .str b, e => by simp only [D.py] at e; cases e; exact .str b
  | _, _, _, .ty b, e => by simp only [D.py] at e; cases e
  | _, _, _, .glb b, e => by simp only [D.py] at e; cases e
  | _, _, _, .obj _ _, e => by simp only [D.py] at e; cases e
  | _, _, _, .dct _ _, e => by simp only [D.py] at e; cases e
  | _, _, _, .lst h r, e => by
    simp only [D.py] at e
    obtain ⟨ps, e1, e2⟩ := Option.map_eq_some_iff.mp e
    cases e2
    exact .lst (SqL.of (hs _ _ h)) (dps_rep hs r e1)
  | _, _, _, .ro h r, e => by
    simp only [D.py] at e
    obtain ⟨ps, e1, e2⟩ := Option.map_eq_some_iff.mp e
    cases e2
    exact .lst (hs.seq h) (dps_rep hs r e1)
  | _, _, _, .tup h r, e => by
    simp only [D.py] at e
    obtain ⟨ps, e1, e2⟩ := Option.map_eq_some_iff.mp e
    cases e2
    exact .tup (Same.seqT hs h) (dps_rep hs r e1)
theorem dps_rep {K : PySem.W.Frag} {G H : Hp} (hs : Same G H) : ∀ {v : List V} {d : List D} {p : List PyData}, Reps K c G v d → D.pys d = some p → DpAll K H v p
  | _, _, _, .nil, e => by simp only [D.pys] at e; cases e; exact .nil
  | _, _, _, .cons h r, e => by
    simp only [D.pys] at e
    obtain ⟨y, e1, e2⟩ := Option.bind_eq_some_iff.mp e
    obtain ⟨ys, e3, e4⟩ := Option.map_eq_some_iff.mp e2
    cases e4
    exact .cons (dp_rep hs h e1) (dps_rep hs r e3)
end
def dEqv (x y : D) : Option Bool := match x, y with
  | .int a, .int b => some (decide (a = b))
  | .str a, .str b => some (decide (a = b))
  | .bl a, .bl b => some (decide (a = b))
  | x, y => x.py.bind fun a => y.py.bind fun b => if SeqAt.shaped a && SeqAt.shaped b then some (PyData.eqv a b) else none
def dEq (x y : D) : Option D := (dEqv x y).map .bl
def dNe (x y : D) : Option D := (dEqv x y).map fun b => .bl (!b)
theorem eqD_gen {K : PySem.W.Frag} {G H : Hp} (hs : Same G H) {x y : V} {dx dy : D} {b : Bool} (r1 : Rep K c G x dx) (r2 : Rep K c G y dy)
    (e : (dx.py.bind fun a => dy.py.bind fun b => if SeqAt.shaped a && SeqAt.shaped b then some (PyData.eqv a b) else none) = some b) :
    ∃ p q, Dp K H x p ∧ Dp K H y q ∧ SeqAt.shaped p = true ∧ SeqAt.shaped q = true ∧ PyData.eqv p q = b := by
  obtain ⟨p, e1, e⟩ := Option.bind_eq_some_iff.mp e
  obtain ⟨q, e2, e⟩ := Option.bind_eq_some_iff.mp e
  split at e
  · rename_i h
    obtain ⟨h1, h2⟩ := Bool.and_eq_true_iff.mp h
    exact ⟨p, q, dp_rep hs r1 e1, dp_rep hs r2 e2, h1, h2, Option.some.inj e⟩
  · cases e
theorem eqv_cases {K : PySem.W.Frag} {G H : Hp} (hs : Same G H) {x y : V} {dx dy : D} {b : Bool} (r1 : Rep K c G x dx) (r2 : Rep K c G y dy) (e : dEqv dx dy = some b) :
    (scal x y = true ∧ decide (x = y) = b) ∨ ∃ p q, Dp K H x p ∧ Dp K H y q ∧ SeqAt.shaped p = true ∧ SeqAt.shaped q = true ∧ PyData.eqv p q = b := by
  unfold dEqv at e
  split at e
  · cases r1; cases r2; cases e; exact .inl ⟨rfl, by simp⟩
  · cases r1; cases r2; cases e; exact .inl ⟨rfl, by simp⟩
  · cases r1; cases r2; cases e; exact .inl ⟨rfl, by simp⟩
  · exact .inr (eqD_gen hs r1 r2 e)
theorem do_eq (hu : X.A.units + 64 < cLine) : OpD X c (compareOp .Eq) dEq := opd_of fun G H x y dx dy d hs r1 r2 e => by
  obtain ⟨b, e1, e2⟩ := Option.map_eq_some_iff.mp e
  subst e2
  rcases eqv_cases hs r1 r2 e1 with ⟨h1, h2⟩ | ⟨p, q, h1, h2, h3, h4, h5⟩
  · exact ⟨_, op_eq, fun Q k => ⟨h1, by rw [h2]; exact k G H _ (Pure.refl hs) (.bl _)⟩⟩
  · exact ⟨_, op_eqD hu, fun Q k => ⟨p, q, h1, h2, h3, h4, by rw [h5]; exact k G H _ (Pure.refl hs) (.bl _)⟩⟩
theorem do_ne (hu : X.A.units + 64 < cLine) : OpD X c (compareOp .NotEq) dNe := opd_of fun G H x y dx dy d hs r1 r2 e => by
  obtain ⟨b, e1, e2⟩ := Option.map_eq_some_iff.mp e
  subst e2
  rcases eqv_cases hs r1 r2 e1 with ⟨h1, h2⟩ | ⟨p, q, h1, h2, h3, h4, h5⟩
  · exact ⟨_, op_ne, fun Q k => ⟨h1, by rw [h2]; exact k G H _ (Pure.refl hs) (.bl _)⟩⟩
  · exact ⟨_, op_neD hu, fun Q k => ⟨p, q, h1, h2, h3, h4, by rw [h5]; exact k G H _ (Pure.refl hs) (.bl _)⟩⟩
end
end L2.DL
set_option Elab.async false
set_option linter.all false
set_option maxRecDepth 100000
set_option maxHeartbeats 4000000
namespace L2.DL
open PySem PySem.Spec PyProof.Rows
/-! ### lists of arguments, displays -/
def mNil : M (List D) := M.ret []
def mCons (a : M D) (b : M (List D)) : M (List D) := M.bind a fun x => M.bind b fun xs => M.ret (x :: xs)
section
variable {X : Cx} {c : Cl} {W : WX} {pos : Pos} {e a b : Expr} {es : List Expr} {ma mb : M D} {ms : M (List D)}
theorem da_nil : PA X [] (tA X.K c W mNil) := PA.weak pa_nil fun σ H Q ⟨F, G, P, env, R, h⟩ => Post.here R h _ .nil
theorem da_cons (ha : PE X e (tE X.K c W ma)) (hr : PA X es (tA X.K c W ms)) (hs : starEach (e :: es) X.env = (false, eval e X.env) :: starEach es X.env := by rfl) : PA X (e :: es) (tA X.K c W (mCons ma ms)) := by
  refine PA.weak (pa_cons ha hr hs) fun σ H Q h => ?_
  obtain ⟨F, G, P, env, R, h⟩ := h
  refine ⟨F, G, P, env, R, (Post.bind h).imp fun x G1 H1 P1 _ ⟨env1, R1, h1⟩ v r => ⟨F, G1, P1, env1, R1, (Post.bind h1).imp fun ds G2 H2 P2 x2 ⟨env2, R2, h2⟩ vs rs => ?_⟩⟩
  exact Post.here R2 h2 _ (.cons (r.mono x2.same) rs)
/-- a tuple of written items -/
def mTup (ms : M (List D)) : M D := M.bind ms fun xs => if xs.length ≤ 16777216 then M.ret (.tup xs) else fun _ => .bad
theorem new_val {K : PySem.W.Frag} {F G H : Hp} {P : List (List Addr)} {σ : St} {env : Ev} {Q : VK} {d : D} {p : Addr} {o : HO} (R : Rel K c F G H P σ env) (h : Post K c W F G P σ env (.ok d env) fun d G' H' _ => ∀ v, Rep K c G' v d → Q v H') (n : H p = none)
    (r : Rep K c (upd G p o) (.ref p) d) (ho : NT o := by exact fun _ z => nomatch z) : Q (.ref p) (upd H p o) := by
  obtain ⟨x3, R3⟩ := R.pure (Pure.new o R.gs n ho)
  exact h _ _ _ x3 (Keep.refl _ _) R3 _ r
theorem de_tup {x1} (h : PA X es (tA X.K c W ms)) : PE X (.Tuple es x1 pos) (tE X.K c W (mTup ms)) := by
  refine PE.weak (pe_tup h) fun σ H Q h => ?_
  obtain ⟨F, G, P, env, R, h⟩ := h
  refine ⟨F, G, P, env, R, (Post.bind h).imp fun ds G1 H1 P1 _ ⟨env1, R1, h1⟩ vs rs => ?_⟩
  split at h1
  · rename_i hl
    refine ⟨by rw [rs.length, sizeLine_eq]; exact hl, fun p n => new_val R1 h1 n (.tup (SqT.of upd_same) (rs.mono (same_new (none_of R1.gs n))))⟩
  · exact h1.elim
/-- a list of written items, a thing of its own -/
def mLst (ms : M (List D)) : M Cell := M.bind ms fun xs => if xs.length ≤ 16777216 then M.ret (.lst xs) else fun _ => .bad
theorem new_cell {K : PySem.W.Frag} {F G H : Hp} {P : List (List Addr)} {σ : St} {env : Ev} {Q : VK} {z : Cell} {p : Addr} {o : HO} (R : Rel K c F G H P σ env)
    (h : Post K c W F G P σ env (.ok z env) fun z G' H' P' => ∀ v p, CellAt K c G' H' p v z → p.Nodup → (∀ b, b ∈ p → F b = none ∧ G' b = none ∧ b ∉ P'.flatten) → Q v H') (n : H p = none)
    (r : CellAt K c G (upd H p o) [p] (.ref p) z) : Q (.ref p) (upd H p o) := by
  have hs := same_new (o := o) n
  have nG := none_of R.gs n
  have nF := none_of R.fs n
  have nP : p ∉ P.flatten := fun hb => by
    obtain ⟨q, hq, hb⟩ := List.mem_flatten.mp hb
    obtain ⟨i, hi, e⟩ := List.mem_iff_getElem.mp hq
    have hl := R.all.len
    have e1 : P[i]? = some q := by rw [List.getElem?_eq_getElem hi, e]
    obtain ⟨s, hs⟩ : ∃ s, env[i]? = some s := ⟨env[i]'(by omega), by simp [show i < env.length by omega]⟩
    obtain ⟨p', x, e2, _, r⟩ := R.all.get hs
    rw [e1] at e2; cases e2
    cases r with
    | no => cases hb
    | val _ => cases hb
    | cell z => exact cell_there z p hb n
  refine h G (upd H p o) P (Ext.refl _ _) (Keep.refl _ _) ⟨R.fs.trans hs, R.gs.trans hs, R.all.move (Same.refl _) fun b _ o h => hs b o h, R.out, R.nd, R.tb.same hs⟩ _ [p] r (by simp) fun b hb => ?_
  obtain rfl : b = p := by simpa using hb
  exact ⟨nF, nG, nP⟩
theorem do_lst (h : PA X es (tA X.K c W ms)) : PE X (.List es pos) (tO X.K c W (mLst ms)) := by
  refine PE.weak (pe_lst h) fun σ H Q h => ?_
  obtain ⟨F, G, P, env, R, h⟩ := h
  refine ⟨F, G, P, env, R, (Post.bind h).imp fun ds G1 H1 P1 _ ⟨env1, R1, h1⟩ vs rs => ?_⟩
  split at h1
  · rename_i hl
    refine ⟨by rw [rs.length, sizeLine_eq]; exact hl, fun p n => new_cell R1 h1 n (.lst upd_same rs)⟩
  · exact h1.elim
/-- a thing of its own becomes data -/
def mFrz (m : M Cell) : M D := M.bind m fun z => M.opt z.frz
theorem de_frz (h : PE X e (tO X.K c W (m := mz))) : PE X e (tE X.K c W (mFrz mz)) := by
  refine PE.weak h fun σ H Q h => ?_
  obtain ⟨F, G, P, env, R, h⟩ := h
  refine ⟨F, G, P, env, R, (Post.bind h).imp fun z G1 H1 P1 _ ⟨env1, R1, h1⟩ v p ca nd out => ?_⟩
  obtain ⟨d, e, h1⟩ := Post.opt h1
  obtain ⟨s1, s2, rr⟩ := ca.frz R1.gs (fun b hb => (out b hb).2.1) e
  have hfr : ∀ b, b ∉ p → frzH G1 H1 p b = G1 b := fun b hb => by unfold frzH; rw [if_neg hb]
  refine h1 (frzH G1 H1 p) H1 P1 ⟨s1, fun b g1 g2 => ?_⟩ (Keep.refl _ _) ⟨R1.fs, s2, R1.all.move s1 fun b _ o h => h, fun b hb => ⟨(R1.out b hb).1, ?_⟩, R1.nd, ⟨R1.tb.tabs.mono s1, R1.tb.nf, not_frz R1.tb.ng ca⟩⟩ v rr
  · by_cases hb : b ∈ p
    · exact absurd (out b hb).1 g2
    · rw [hfr b hb]; exact g1
  · rw [hfr b fun z => (out b z).2.2 hb]; exact (R1.out b hb).2
end
/-! ### calls of built-ins on data -/
def CallD (X : Cx) (c : Cl) (f : Value) (g : List D → Option D) : Prop :=
  CallR X f fun xs H Q => ∃ G ds d, Same G H ∧ Reps X.K c G xs ds ∧ g ds = some d ∧ ∀ G' H' v, Pure c H G H' G' → Rep X.K c G' v d → Q v H'
def mFn (g : List D → Option D) (ms : M (List D)) : M D := M.bind ms fun ds => M.opt (g ds)
section
variable {X : Cx} {c : Cl} {W : WX} {pos : Pos} {e a b : Expr} {es : List Expr} {ma mb : M D} {ms : M (List D)} {x : Str} {p : Pos} {id T : String} {g : List D → Option D}
theorem fn_imp {K : PySem.W.Frag} {σ : St} {H : Hp} {Q : VK} (h : tE K c W (mFn g ms) σ H Q) : tA K c W ms σ H fun xs H1 => ∃ G ds d, Same G H1 ∧ Reps K c G xs ds ∧ g ds = some d ∧ ∀ G' H' v, Pure c H1 G H' G' → Rep K c G' v d → Q v H' := by
  obtain ⟨F, G, P, env, R, h⟩ := h
  refine ⟨F, G, P, env, R, (Post.bind h).imp fun ds G1 H1 P1 _ ⟨env1, R1, h1⟩ vs rs => ?_⟩
  obtain ⟨d, e, h1⟩ := Post.opt h1
  refine ⟨G1, ds, d, R1.gs, rs, e, fun G' H' v p r => ?_⟩
  obtain ⟨x3, R3⟩ := R1.pure p
  exact h1 G' H' P1 x3 (Keep.refl _ _) R3 v r
theorem de_callB (hc : CallD X c (.builtin id) g) (hg : Gl X x) (hm : X.mg x = none) (hv : bootBuiltins x = some (.builtin id)) (ha : PA X (e :: es) (tA X.K c W ms)) (hn : x ≠ "__name__" := by decide) (hdb : (x == ("__debug__" : Str)) = false := by decide)
    (he : starEach (e :: es) X.env = (false, eval e X.env) :: starEach es X.env := by rfl) (hpl : (backTo pos (starEach es X.env)).any (·.1) = false := by rfl) : PE X (.Call (.Name x p) (e :: es) [] pos) (tE X.K c W (mFn g ms)) :=
  PE.weak (pe_callB hc hg hm hv ha hn hdb he hpl) fun _ _ _ h => fn_imp h
theorem de_callTy (hc : CallD X c (.type T) g) (hg : Gl X x) (hm : X.mg x = none) (hv : bootBuiltins x = some (.type T)) (ha : PA X (e :: es) (tA X.K c W ms)) (hn : x ≠ "__name__" := by decide) (hdb : (x == ("__debug__" : Str)) = false := by decide)
    (he : starEach (e :: es) X.env = (false, eval e X.env) :: starEach es X.env := by rfl) (hpl : (backTo pos (starEach es X.env)).any (·.1) = false := by rfl) : PE X (.Call (.Name x p) (e :: es) [] pos) (tE X.K c W (mFn g ms)) :=
  PE.weak (pe_callTy hc hg hm hv ha hn hdb he hpl) fun _ _ _ h => fn_imp h
theorem de_callM (hc : CallD X c (.builtin id) g) (hg : Gl X x) (hm : X.mg x = some (.builtin id)) (ha : PA X (e :: es) (tA X.K c W ms)) (hdb : (x == ("__debug__" : Str)) = false := by decide)
    (he : starEach (e :: es) X.env = (false, eval e X.env) :: starEach es X.env := by rfl) (hpl : (backTo pos (starEach es X.env)).any (·.1) = false := by rfl) : PE X (.Call (.Name x p) (e :: es) [] pos) (tE X.K c W (mFn g ms)) :=
  PE.weak (pe_callBfun hc hg hm ha hdb he hpl) fun _ _ _ h => fn_imp h
end
section
variable {X : Cx} {c : Cl}
theorem calld_of {f : Value} {g : List D → Option D}
    (h : ∀ (G H : Hp) (xs : List V) (ds : List D) (d : D), Same G H → Reps X.K c G xs ds → g ds = some d → ∃ r : List V → Hp → VK → Prop, CallR X f r ∧ ∀ Q : VK, (∀ G' H' v, Pure c H G H' G' → Rep X.K c G' v d → Q v H') → r xs H Q) : CallD X c f g := by
  intro pins s σ H xs us Q I rx hq
  obtain ⟨G, ds, d, hs, r1, e, q⟩ := hq
  obtain ⟨r, ho, hr⟩ := h G H xs ds d hs r1 e
  exact ho pins s σ H xs us Q I rx (hr Q q)
theorem Reps.one {K : PySem.W.Frag} {G : Hp} {xs : List V} {d : D} (r : Reps K c G xs [d]) : ∃ x, xs = [x] ∧ Rep K c G x d := by
  cases r with
  | cons h t => cases t; exact ⟨_, rfl, h⟩
theorem Reps.two {K : PySem.W.Frag} {G : Hp} {xs : List V} {d d' : D} (r : Reps K c G xs [d, d']) : ∃ x y, xs = [x, y] ∧ Rep K c G x d ∧ Rep K c G y d' := by
  cases r with
  | cons h t =>
    obtain ⟨y, rfl, q⟩ := t.one
    exact ⟨_, _, rfl, h, q⟩
/-- len -/
def fLen : List D → Option D
  | [.str x] => if x.length ≤ 16777216 then some (.int x.length) else none
  | [.lst xs] => some (.int xs.length)
  | [.ro xs] => some (.int xs.length)
  | [.tup xs] => some (.int xs.length)
  | _ => none
theorem cd_len : CallD X c (.builtin "len") fLen := calld_of fun G H xs ds d hs rs e => by
  unfold fLen at e
  split at e
  · obtain ⟨x, rfl, r⟩ := rs.one
    cases r
    split at e
    · rename_i h
      cases e
      exact ⟨_, call_len, fun Q q => ⟨.str _, _, rfl, ⟨by rw [sizeLine_eq]; exact h, rfl⟩, q G H _ (Pure.refl hs) (.int _)⟩⟩
    · cases e
  · obtain ⟨x, rfl, r⟩ := rs.one
    cases r with
    | lst h s => cases e; exact ⟨_, call_len, fun Q q => ⟨_, _, rfl, .inl ⟨_, SqL.of (hs _ _ h), s.length.symm⟩, q G H _ (Pure.refl hs) (.int _)⟩⟩
  · obtain ⟨x, rfl, r⟩ := rs.one
    cases r with
    | ro h s => cases e; exact ⟨_, call_len, fun Q q => ⟨_, _, rfl, .inl ⟨_, hs.seq h, s.length.symm⟩, q G H _ (Pure.refl hs) (.int _)⟩⟩
  · obtain ⟨x, rfl, r⟩ := rs.one
    cases r with
    | tup h s => cases e; exact ⟨_, call_len, fun Q q => ⟨_, _, rfl, .inr ⟨_, Same.seqT hs h, s.length.symm⟩, q G H _ (Pure.refl hs) (.int _)⟩⟩
  · cases e
def fAbs : List D → Option D
  | [.int i] => some (.int (if i < 0 then -i else i))
  | _ => none
theorem cd_abs : CallD X c (.builtin "abs") fAbs := calld_of fun G H xs ds d hs rs e => by
  unfold fAbs at e
  split at e
  · obtain ⟨x, rfl, r⟩ := rs.one
    cases r; cases e
    exact ⟨_, call_abs, fun Q q => ⟨_, rfl, q G H _ (Pure.refl hs) (.int _)⟩⟩
  · cases e
def fInt : List D → Option D
  | [.int i] => some (.int i)
  | [.bl k] => some (.int (if k then 1 else 0))
  | _ => none
theorem cd_int : CallD X c (.type "int") fInt := calld_of fun G H xs ds d hs rs e => by
  unfold fInt at e
  split at e
  · obtain ⟨x, rfl, r⟩ := rs.one
    cases r; cases e
    exact ⟨_, call_int1, fun Q q => .inl ⟨_, rfl, q G H _ (Pure.refl hs) (.int _)⟩⟩
  · obtain ⟨x, rfl, r⟩ := rs.one
    cases r; cases e
    exact ⟨_, call_int1, fun Q q => .inr ⟨_, rfl, q G H _ (Pure.refl hs) (.int _)⟩⟩
  · cases e
/-- a list of ints -/
def D.ints : List D → Option (List Int)
  | [] => some []
  | .int i :: r => (D.ints r).map (i :: ·)
  | _ :: _ => none
theorem ints_rep {K : PySem.W.Frag} {G : Hp} : ∀ {vs : List V} {ds : List D} {ns : List Int}, Reps K c G vs ds → D.ints ds = some ns → vs = ns.map V.int ∧ ds = ns.map D.int
  | _, _, _, .nil, e => by simp only [D.ints] at e; cases e; exact ⟨rfl, rfl⟩
  | _, _, _, .cons h r, e => by
    cases h with
    | int i =>
      simp only [D.ints] at e
      obtain ⟨ms, e1, e2⟩ := Option.map_eq_some_iff.mp e
      cases e2
      obtain ⟨h1, h2⟩ := ints_rep r e1
      exact ⟨by rw [h1]; rfl, by rw [h2]; rfl⟩
    | _ => simp only [D.ints] at e; cases e
theorem ints_map (ns : List Int) : D.ints (ns.map D.int) = some ns := by
  induction ns with
  | nil => rfl
  | cons n r ih => show (D.ints (r.map D.int)).map _ = _; rw [ih]; rfl
/-- the items of a list or a tuple -/
def D.items : D → Option (List D)
  | .lst xs => some xs
  | .ro xs => some xs
  | _ => none
theorem items_rep {K : PySem.W.Frag} {G H : Hp} (hs : Same G H) {v : V} {d : D} {xs : List D} (r : Rep K c G v d) (e : d.items = some xs) : ∃ a vs, v = .ref a ∧ SqL K H a vs ∧ Reps K c G vs xs := by
  cases r with
  | lst h s => cases e; exact ⟨_, _, rfl, SqL.of (hs _ _ h), s⟩
  | ro h s => cases e; exact ⟨_, _, rfl, hs.seq h, s⟩
  | _ => cases e
def fSum : List D → Option D
  | [x] => x.items.bind fun xs => (D.ints xs).map fun ns => .int ns.sum
  | _ => none
theorem cd_sum (hc : X.calm = true) : CallD X c (.builtin "sum") fSum := calld_of fun G H xs ds d hs rs e => by
  unfold fSum at e
  split at e
  · obtain ⟨x, rfl, r⟩ := rs.one
    obtain ⟨ys, e1, e⟩ := Option.bind_eq_some_iff.mp e
    obtain ⟨ns, e2, e⟩ := Option.map_eq_some_iff.mp e
    cases e
    obtain ⟨a, vs, rfl, h, s⟩ := items_rep hs r e1
    obtain ⟨h1, _⟩ := ints_rep s e2
    subst h1
    exact ⟨_, cr_sum hc, fun Q q => ⟨_, _, rfl, h, q G H _ (Pure.refl hs) (.int _)⟩⟩
  · cases e
def maxI : Int → List Int → Int
  | a, [] => a
  | a, b :: r => maxI (if b > a then b else a) r
def minI : Int → List Int → Int
  | a, [] => a
  | a, b :: r => minI (if b < a then b else a) r
theorem maxI_spec : ∀ (r : List Int) (a : Int), maxI a r ∈ a :: r ∧ ∀ y, y ∈ a :: r → y ≤ maxI a r
  | [], a => ⟨by simp [maxI], fun y hy => by simp at hy; simp [maxI, hy]⟩
  | b :: r, a => by
    show maxI (if b > a then b else a) r ∈ a :: b :: r ∧ ∀ y, y ∈ a :: b :: r → y ≤ maxI (if b > a then b else a) r
    have ht : ∃ t, (if b > a then b else a) = t ∧ (a ≤ t ∧ b ≤ t) ∧ (t = a ∨ t = b) := by
      by_cases h : b > a
      · exact ⟨b, if_pos h, by omega, .inr rfl⟩
      · exact ⟨a, if_neg h, by omega, .inl rfl⟩
    obtain ⟨t, et, h0, ho⟩ := ht
    rw [et]
    obtain ⟨h1, h2⟩ := maxI_spec r t
    have h3 := h2 t (by simp)
    refine ⟨?_, fun y hy => ?_⟩
    · rcases List.mem_cons.mp h1 with h | h
      · rw [h]; rcases ho with z | z <;> simp [z]
      · exact List.mem_cons_of_mem _ (List.mem_cons_of_mem _ h)
    · rcases List.mem_cons.mp hy with h | h
      · omega
      · rcases List.mem_cons.mp h with h | h
        · omega
        · exact h2 y (List.mem_cons_of_mem _ h)
theorem minI_spec : ∀ (r : List Int) (a : Int), minI a r ∈ a :: r ∧ ∀ y, y ∈ a :: r → minI a r ≤ y
  | [], a => ⟨by simp [minI], fun y hy => by simp at hy; simp [minI, hy]⟩
  | b :: r, a => by
    show minI (if b < a then b else a) r ∈ a :: b :: r ∧ ∀ y, y ∈ a :: b :: r → minI (if b < a then b else a) r ≤ y
    have ht : ∃ t, (if b < a then b else a) = t ∧ (t ≤ a ∧ t ≤ b) ∧ (t = a ∨ t = b) := by
      by_cases h : b < a
      · exact ⟨b, if_pos h, by omega, .inr rfl⟩
      · exact ⟨a, if_neg h, by omega, .inl rfl⟩
    obtain ⟨t, et, h0, ho⟩ := ht
    rw [et]
    obtain ⟨h1, h2⟩ := minI_spec r t
    have h3 := h2 t (by simp)
    refine ⟨?_, fun y hy => ?_⟩
    · rcases List.mem_cons.mp h1 with h | h
      · rw [h]; rcases ho with z | z <;> simp [z]
      · exact List.mem_cons_of_mem _ (List.mem_cons_of_mem _ h)
    · rcases List.mem_cons.mp hy with h | h
      · omega
      · rcases List.mem_cons.mp h with h | h
        · omega
        · exact h2 y (List.mem_cons_of_mem _ h)
def fMax : List D → Option D
  | [.int a, .int b] => some (.int (if b > a then b else a))
  | [x] => x.items.bind fun xs => (D.ints xs).bind fun ns => match ns with | [] => none | n :: r => some (.int (maxI n r))
  | _ => none
def fMin : List D → Option D
  | [.int a, .int b] => some (.int (if b < a then b else a))
  | [x] => x.items.bind fun xs => (D.ints xs).bind fun ns => match ns with | [] => none | n :: r => some (.int (minI n r))
  | _ => none
theorem cd_max (hc : X.calm = true) : CallD X c (.builtin "max") fMax := calld_of fun G H xs ds d hs rs e => by
  unfold fMax at e
  split at e
  · obtain ⟨x, y, rfl, r1, r2⟩ := rs.two
    cases r1; cases r2; cases e
    exact ⟨_, call_max2 hc, fun Q q => ⟨_, _, rfl, q G H _ (Pure.refl hs) (.int _)⟩⟩
  · obtain ⟨x, rfl, r⟩ := rs.one
    obtain ⟨ys, e1, e⟩ := Option.bind_eq_some_iff.mp e
    obtain ⟨ns, e2, e⟩ := Option.bind_eq_some_iff.mp e
    obtain ⟨a, vs, rfl, h, s⟩ := items_rep hs r e1
    obtain ⟨h1, _⟩ := ints_rep s e2
    subst h1
    cases ns with
    | nil => cases e
    | cons n ns =>
      cases e
      refine ⟨_, cr_max hc, fun Q q => ⟨_, _, rfl, h, by simp, fun m h1 h2 => ?_⟩⟩
      obtain ⟨g1, g2⟩ := maxI_spec ns n
      have : m = maxI n ns := Int.le_antisymm (g2 m h1) (h2 _ g1)
      rw [this]
      exact q G H _ (Pure.refl hs) (.int _)
  · cases e
theorem cd_min (hc : X.calm = true) : CallD X c (.builtin "min") fMin := calld_of fun G H xs ds d hs rs e => by
  unfold fMin at e
  split at e
  · obtain ⟨x, y, rfl, r1, r2⟩ := rs.two
    cases r1; cases r2; cases e
    exact ⟨_, call_min2 hc, fun Q q => ⟨_, _, rfl, q G H _ (Pure.refl hs) (.int _)⟩⟩
  · obtain ⟨x, rfl, r⟩ := rs.one
    obtain ⟨ys, e1, e⟩ := Option.bind_eq_some_iff.mp e
    obtain ⟨ns, e2, e⟩ := Option.bind_eq_some_iff.mp e
    obtain ⟨a, vs, rfl, h, s⟩ := items_rep hs r e1
    obtain ⟨h1, _⟩ := ints_rep s e2
    subst h1
    cases ns with
    | nil => cases e
    | cons n ns =>
      cases e
      refine ⟨_, cr_min hc, fun Q q => ⟨_, _, rfl, h, by simp, fun m h1 h2 => ?_⟩⟩
      obtain ⟨g1, g2⟩ := minI_spec ns n
      have : m = minI n ns := Int.le_antisymm (h2 _ g1) (g2 m h1)
      rw [this]
      exact q G H _ (Pure.refl hs) (.int _)
  · cases e
def fGcd : List D → Option D
  | [.int a, .int b] => some (.int ((Nat.gcd a.natAbs b.natAbs : Nat) : Int))
  | _ => none
theorem cd_gcd : CallD X c (.builtin "math.gcd") fGcd := calld_of fun G H xs ds d hs rs e => by
  unfold fGcd at e
  split at e
  · obtain ⟨x, y, rfl, r1, r2⟩ := rs.two
    cases r1; cases r2; cases e
    exact ⟨_, cr_gcd, fun Q q => ⟨_, _, rfl, q G H _ (Pure.refl hs) (.int _)⟩⟩
  · cases e
/-- tuple(x) -/
def fTuple : List D → Option D
  | [.lst xs] => some (.tup xs)
  | [.ro xs] => some (.tup xs)
  | [.tup xs] => some (.tup xs)
  | _ => none
theorem cd_tuple : CallD X c (.type "tuple") fTuple := calld_of fun G H xs ds d hs rs e => by
  unfold fTuple at e
  split at e
  · obtain ⟨x, rfl, r⟩ := rs.one
    cases r with
    | lst h s =>
      cases e
      exact ⟨_, call_tuple_of, fun Q q => ⟨_, _, rfl, .inl ⟨SqL.of (hs _ _ h), fun p n => q _ _ _ (Pure.new _ hs n) (.tup (SqT.of upd_same) (s.mono (same_new (none_of hs n))))⟩⟩⟩
  · obtain ⟨x, rfl, r⟩ := rs.one
    cases r with
    | ro h s =>
      cases e
      exact ⟨_, call_tuple_of, fun Q q => ⟨_, _, rfl, .inl ⟨hs.seq h, fun p n => q _ _ _ (Pure.new _ hs n) (.tup (SqT.of upd_same) (s.mono (same_new (none_of hs n))))⟩⟩⟩
  · obtain ⟨x, rfl, r⟩ := rs.one
    cases r with
    | tup h s => cases e; exact ⟨_, call_tuple_of, fun Q q => ⟨_, _, rfl, .inr ⟨Same.seqT hs h, q G H _ (Pure.refl hs) (.tup h s)⟩⟩⟩
  · cases e
end
end L2.DL
set_option Elab.async false
set_option linter.all false
set_option maxRecDepth 100000
set_option maxHeartbeats 4000000
namespace L2.DL
open PySem PySem.Spec PyProof.Rows
/-! ### room, and nothing that is being shown: repr may be asked -/
structure RoomG (k : Nat) (A : Around) : Prop where
  room : Room k A
  gd : A.guards = some []
theorem RoomG.mono {j k : Nat} {A : Around} (r : RoomG k A) (h : j ≤ k) : RoomG j A := ⟨r.room.mono h, r.gd⟩
theorem RoomG.deeper {k : Nat} {A : Around} (r : RoomG (k + 1) A) (env : Env) : RoomG k (A.deeper env) := ⟨r.room.deeper env, r.gd⟩
theorem RoomG.in1 {k : Nat} {A : Around} (r : RoomG (k + 1) A) : RoomG k A.in1 := ⟨r.room.in1, by rw [Around.in1_guards]; exact r.gd⟩
theorem make_guards {A : Around} {C : Addr} {us : List Value} {kw : List (Str × Value)} : (A.under (.builtin "type.__call__" ⟨.ref C :: us, kw⟩)).guards = A.guards := by
  first | rfl | (have h : (Code.builtin "type.__call__" ⟨.ref C :: us, kw⟩).guards = [] := by first | rfl | simp [Code.guards, Code.isGuard, guardIds]
                 show pushGuards (Code.builtin "type.__call__" ⟨.ref C :: us, kw⟩).guards A.guards = A.guards
                 rw [h]; cases A.guards <;> rfl)
theorem RoomG.make {k : Nat} {A : Around} (r : RoomG (k + 1) A) (C : Addr) (us : List Value) (kw : List (Str × Value)) : RoomG k (A.under (.builtin "type.__call__" ⟨.ref C :: us, kw⟩)) :=
  ⟨r.room.make C us kw, by rw [make_guards]; exact r.gd⟩
theorem RoomG.depth {k : Nat} {A : Around} (r : RoomG k A) : A.depth < recursionLimit := r.room.depth
theorem RoomG.units {k : Nat} {A : Around} (r : RoomG k A) : A.units + 64 < cLine := r.room.units
theorem RoomG.hd {k : Nat} {A : Around} (r : RoomG k A) : A.handled = none := r.room.hd
theorem roomG_caller {k : Nat} (r : Room k callerA) : RoomG k callerA := ⟨r, rfl⟩
/-- what repr asks for, also where an exception is being handled -/
structure Sh (A : Around) : Prop where
  units : A.units + 64 < cLine
  gd : A.guards = some []
theorem RoomG.sh {k : Nat} {A : Around} (r : RoomG k A) : Sh A := ⟨r.units, r.gd⟩
theorem RoomG.shM {k : Nat} {A : Around} {v : Option Value} (r : RoomG k A) : Sh (A.mark v) := ⟨by have := r.units; simp only [Around.mark_units]; exact this, by
  have := r.gd
  first | exact this | simpa using this⟩
/-- the promise of a def, wherever nothing is being shown -/
structure FnG (P : Program) (w : World) (K : PySem.W.Frag) (mg : Str → Option Value) (base : Heap) (CX : CXT) (k : Nat) (f : Addr) (fd : FuncData) (ps : List Str) (sp : Sp) : Prop where
  len : ∀ vs H Q E, sp vs H Q E → vs.length = ps.length
  run : ∀ (A : Around) (outer : List Env) (s : Shared) (H : Hp) (args : Args) (us : List Value) (vs : List V) (Q : VK) (E : XK), RoomG k A → Env0 P w K mg base A outer s H → BindsTo s fd args (ps.zip us) → Vals vs us → sp vs H Q E →
    codeAny (model P w) A (.call (.ref f) args) (CR CX outer P w H s Q E) s
section
variable {P : Program} {w : World} {K : PySem.W.Frag} {mg : Str → Option Value} {base : Heap} {CX : CXT} {j k : Nat} {f : Addr} {fd : FuncData} {ps : List Str} {sp sp' : Sp}
theorem FnG.imp (F : FnG P w K mg base CX k f fd ps sp) (h : ∀ vs H Q E, sp' vs H Q E → sp vs H Q E) : FnG P w K mg base CX k f fd ps sp' :=
  ⟨fun vs H Q E q => F.len vs H Q E (h _ _ _ _ q), fun A outer s H args us vs Q E g e b v q => F.run A outer s H args us vs Q E g e b v (h _ _ _ _ q)⟩
def FnRG (P : Program) (w : World) (K : PySem.W.Frag) (mg : Str → Option Value) (base : Heap) (CX : CXT) (k : Nat) (f : Addr) (sp : Sp) : Prop :=
  ∀ (A : Around) (outer : List Env) (s : Shared) (H : Hp) (us : List Value) (vs : List V) (Q : VK) (E : XK), RoomG k A → Env0 P w K mg base A outer s H → Vals vs us → sp vs H Q E →
    codeAny (model P w) A (.call (.ref f) ⟨us, []⟩) (CR CX outer P w H s Q E) s
theorem FnRG.mono (F : FnRG P w K mg base CX j f sp) (h : j ≤ k) : FnRG P w K mg base CX k f sp := fun A outer s H us vs Q E g => F A outer s H us vs Q E (g.mono h)
theorem FnRG.imp (F : FnRG P w K mg base CX k f sp) (h : ∀ vs H Q E, sp' vs H Q E → sp vs H Q E) : FnRG P w K mg base CX k f sp' := fun A outer s H us vs Q E g e v q => F A outer s H us vs Q E g e v (h _ _ _ _ q)
theorem FnG.raw {ds : List Value} {dvs : List V} (F : FnG P w K mg base CX k f fd ps sp) (hb : Binds K fd ps ds) (hd : Vals dvs ds) : FnRG P w K mg base CX k f (fun vs H Q E => sp (vs ++ dvs) H Q E) := by
  intro A outer s H us vs Q E g e v q
  have v2 : Vals (vs ++ dvs) (us ++ ds) := v.append hd
  have n2 : (us ++ ds).length = ps.length := v2.length.symm.trans (F.len _ _ _ _ q)
  exact F.run A outer s H ⟨us, []⟩ (us ++ ds) (vs ++ dvs) Q E g e (hb s us (e.mod.kin.keeps fun b o x => (e.bs b o x).1) n2) v2 q
/-- a def's body, walked in any such place -/
theorem fng_of {x qual : Str} {st : Stmt} {N : List Str} (F : Fun K x qual st f fd) (S : FnScope N ps (defScope st)) (len : ∀ vs H Q E, sp vs H Q E → vs.length = ps.length)
    (hbody : ∀ (cdv : Value), fd.code = cdv → ∀ (A : Around) (outer : List Env) (s : Shared) (H : Hp) (vs : List V) (Q : VK) (E : XK), RoomG k (A.deeper (envOfC qual (defScope st) s.heap.objs.size f cdv)) → sp vs H Q E →
      ∃ t, PSs (cxOf (L2.CX P w) P w K mg base N qual (defScope st) f cdv A outer s H E) (defBody st) t ∧ t { nx := fun _ H' => Q .non H', rt := Q } (start N vs) H) : FnG P w K mg base (L2.CX P w) (k + 1) f fd ps sp := by
  obtain ⟨oc, od, kV, doc, pm, an, cdv, ct, osl, rfl, lk, hcd⟩ := F.ex
  refine ⟨len, ?_⟩
  intro A outer s H args us vs Q E g e bnd v q
  have inK : K.In s.heap := e.mod.kin.keeps fun b o x => (e.bs b o x).1
  have nolim : s.heap.NoLimit := e.mod.nolimit.keeps fun b o x => (e.bs b o x).1
  have kinds : ∀ y ∈ ps.zip us, (defScope st).names.lookup y.1 = some .local ∨ ((defScope st).names.lookup y.1 = some .cell ∧ ((cellsFrom (s.heap.objs.size + 1) (defScope st).names []).lookup y.1).isSome = true) := by
    rintro ⟨n, u⟩ hy
    exact (S.par n (List.of_mem_zip hy).1).imp id fun c => ⟨c, PySem.W.cellsFrom_some _ _ _ (.inl c)⟩
  apply codeAny_call_function g.depth (inK _ _ lk) rfl S.co S.gen rfl (PySem.W.codeRec_of inK hcd)
  apply bnd
  apply wpAny_newFunctionEnv_cells S.kind kinds
  intro env hen s1 hcall
  subst hen
  refine ⟨nolim.keeps hcall.toInCall.keep, codeAny_func ?_⟩
  obtain ⟨t, walk, now⟩ := hbody cdv rfl A outer s H vs Q E (g.deeper _) q
  have I := inv_start (CX := L2.CX P w) (cd := cdv) S g.hd e (len _ _ _ _ q) v hcall (E := E)
  refine wpAny_mono (walk.run [] s1 (start N vs) H _ I now) (fun fl s2 out => ?_) (fun _ _ z => z)
  cases fl with
  | ret u =>
    obtain ⟨y, _, H2, J, ry, hq⟩ := out
    exact ⟨y, H2, J.os, J.bare, J.base, J.hok, ry, hq⟩
  | next =>
    obtain ⟨_, H2, J, hq⟩ := out
    exact ⟨V.non, H2, J.os, J.bare, J.base, J.hok, rfl, hq⟩
  | brk => obtain ⟨_, _, _, z⟩ := out; exact z.elim
  | cont => obtain ⟨_, _, _, z⟩ := out; exact z.elim
end
/-- the law's def called with the script -/
theorem law_runs {P : Program} {w : World} {K : PySem.W.Frag} {mg mb : Str → Option Value} {k : Nat} {fa a : Addr} {fd : FuncData} {x : Str} {sp : Sp} {s₁ : Shared} {vs : List Value} {ns : List Int}
    (inK : K.In s₁.heap) (gl : s₁.heap.Ns mainGlobals mg) (bl : s₁.heap.Ns builtinsNs mb) (boot : ∀ y : Str, y ≠ "__name__" → mb y = bootBuiltins y) (nolim : s₁.heap.NoLimit) (nog : s₁.gens = #[])
    (at_ : s₁.heap.get? a = some { cls := .type "list", data := .seq vs.toArray }) (hints : IntsAre vs ns) (few : ns.length ≤ sizeLine) (room : Room k callerA)
    (F : ∀ base : Heap, K.In base → base.Ns mainGlobals mg → FnG P w K mg base (L2.CX P w) k fa fd [x] sp) (bnd : ∀ (s : Shared) (u : Value), BindsTo s fd ⟨[u], []⟩ [(x, u)])
    (told : ∀ H : Hp, Only H → SqL K H a (ns.map V.int) → sp [.ref a] H (fun v _ => v = .bl true) fun _ _ _ => False) :
    codeAny (model P w) callerA (.call (.ref fa) ⟨[.ref a], []⟩) (fun r s' => r = .ok (.ret (.bool true)) ∧ OldK s₁.heap s'.heap ∧ s'.os = s₁.os ∧ AllBare s'.gens) s₁ := by
  have vals := vals_ints hints
  have lens := hints.length
  have main : ∀ H : Hp, Only H → SqL K H a (ns.map V.int) → HOk P w H s₁.heap → (∀ b, H b ≠ none → b = a) → (H a ≠ none → K.lookup a = none) →
      codeAny (model P w) callerA (.call (.ref fa) ⟨[.ref a], []⟩) (fun r s' => r = .ok (.ret (.bool true)) ∧ OldK s₁.heap s'.heap ∧ s'.os = s₁.os ∧ AllBare s'.gens) s₁ := by
    intro H only seq hok one free
    have keepT : ∀ {b : Addr} {o : Obj}, s₁.heap.get? b = some o → H b = none → (hidT s₁.heap H).get? b = some o := fun e n => hidT_get e n
    have offDict : ∀ {b : Addr} {o : Obj} {es : Array DictEntry} {ep : Nat}, s₁.heap.get? b = some o → o.data = .dict es ep → H b = none := by
      intro b o es ep e d
      refine Classical.byContradiction fun hne => ?_
      have hb := one b hne
      subst hb
      rw [at_] at e
      injection e with e
      rw [← e] at d
      cases d
    have nsT : ∀ {b : Addr} {m : Str → Option Value}, s₁.heap.Ns b m → (hidT s₁.heap H).Ns b m := by
      rintro b m ⟨o, es, ep, e, d, rest⟩
      exact ⟨o, es, ep, keepT e (offDict e d), d, rest⟩
    have inT : K.In (hidT s₁.heap H) := by
      intro b o e
      refine keepT (inK b o e) (Classical.byContradiction fun hne => ?_)
      have hb := one b hne
      subst hb
      rw [free hne] at e
      cases e
    have modT : Mod K mg (hidT s₁.heap H) := ⟨inT, nsT gl, ⟨mb, nsT bl, boot⟩, by obtain ⟨mc, h1, h2⟩ := nolim; exact ⟨mc, nsT h1, h2⟩⟩
    have nofr : ∀ b ∈ frs ([] : List Env), H b = none := fun b hb => absurd (show b ∈ ([] : List Addr) from hb) (by simp)
    have e0 : Env0 P w K mg (hidT s₁.heap H) callerA [] s₁ H := ⟨rfl, modT, fun b o e => of_hidT e, Nat.le_of_eq (hidT_size _ _), trivial, nofr, hok, .of_eq nog⟩
    have go := (F _ inT (nsT gl)).run callerA [] s₁ H ⟨[.ref a], []⟩ [.ref a] [.ref a] _ _ (roomG_caller room) e0 (bnd s₁ (.ref a)) (.cons rfl .nil) (told H only seq)
    refine codeAny_mono go fun r s' res => ?_
    match r, res with
    | .error er, res =>
      obtain ⟨_, _, _, _, _, _, _, _, _, _, _, _, z⟩ := res
      exact z.elim
    | .ok .next, res => exact res.elim
    | .ok .brk, res => exact res.elim
    | .ok .cont, res => exact res.elim
    | .ok (.ret u), res =>
      obtain ⟨v, H', os, bare, un, hok', rv, q⟩ := res
      have hv : v = .bl true := q
      subst hv
      have hu : u = Value.bool true := rv
      subst hu
      refine ⟨rfl, OldK.of_keep fun b o e => ?_, os, bare⟩
      cases hb : H b with
      | none => exact un.keep b o e hb (fun z => absurd (show b ∈ ([] : List Addr) from z) (by simp)) (by simp)
      | some t =>
        obtain z | ⟨ob, xs, z⟩ := only b
        · rw [hb] at z; cases z
        · have e1 := (hok b _ z).1
          have e2 := (hok' b _ (un.frzs b ob _ z)).1
          rw [e] at e1
          injection e1 with e1
          rw [e1]
          exact e2
  cases own : K.lookup a with
  | some o =>
    have e := inK a o own
    rw [at_] at e
    injection e with e
    subst e
    exact main (fun _ => none) (fun _ => .inl rfl) (.inr ⟨_, vs.toArray, _, own, rfl, rfl, rfl, by rw [List.size_toArray, lens]; exact few, by simpa using vals⟩) (fun b u z => by cases (show (none : Option HO) = some u from z)) (fun b z => (z rfl).elim) (fun z => (z rfl).elim)
  | none =>
    let H1 : Hp := fun b => if b = a then some (.frz { cls := .type "list", data := .seq vs.toArray } (.lst (ns.map V.int))) else none
    have on : H1 a = some (.frz { cls := .type "list", data := .seq vs.toArray } (.lst (ns.map V.int))) := if_pos rfl
    have off : ∀ b, b ≠ a → H1 b = none := fun b hb => if_neg hb
    refine main H1 (fun b => ?_) (.inl (.inr ⟨_, on⟩)) (fun b u z => ?_) (fun b z => ?_) fun _ => own
    · by_cases hb : b = a
      · subst hb; exact .inr ⟨_, _, on⟩
      · exact .inl (off b hb)
    · by_cases hb : b = a
      · subst hb
        rw [on] at z
        injection z with z
        subst z
        exact ⟨at_, by rw [List.length_map]; exact few, vs, _, vals, at_⟩
      · rw [off b hb] at z; cases z
    · exact Classical.byContradiction fun hb => z (off b hb)
end L2.DL
set_option Elab.async false
set_option linter.all false
set_option maxRecDepth 100000
set_option maxHeartbeats 4000000
namespace L2.DL
open PySem PySem.Spec PyProof.Rows
/-! ### statements' mirrors -/
def M.next : MS := fun e => .ok .next e
def mSeq (a b : MS) : MS := fun e => match a e with
  | .ok .next e' => b e'
  | r => r
def mRet (m : M D) : MS := M.bind m fun d => M.ret (.ret d)
def mExpr (m : M D) : MS := M.bind m fun _ => M.ret .next
/-- store data in a slot (nothing lent there) -/
def setSl (i : Nat) (s : Sl) : Ev → Option Ev := fun e => match e[i]? with
  | some (.cell true _) => none
  | some _ => some (e.set i s)
  | none => none
def M.upd (f : Ev → Option Ev) : MS := fun e => match f e with
  | some e' => .ok .next e'
  | none => .bad
def mSet (i : Nat) (m : M D) : MS := M.bind m fun d => M.upd (setSl i (.val d))
def mSetO (i : Nat) (m : M Cell) : MS := M.bind m fun z => M.upd (setSl i (.cell false z))
section
variable {K : PySem.W.Frag} {c : Cl} {W : WX} {F G G1 H H1 : Hp} {P P1 : List (List Addr)} {σ : St} {env env1 : Ev}
theorem PostS.here {f : Fl} {D : Ends} (R : Rel K c F G H P σ env) (h : PostS K c W F G P env (.ok f env) D) : f.fin K c F G H P σ D := h G H P σ (Ext.refl _ _) (Keep.refl _ _) R
theorem no_alias (R : Rel K c F G H P σ env) {i : Nat} : ∀ b, b ∈ (P.set i []).flatten → b ∈ P.flatten := fun b hb => by
  rcases flat_set hb with h | h
  · cases h
  · exact h
/-- a value is stored in a slot -/
theorem Rel.setV {i : Nat} {v : V} {d : D} {e' : Ev} (R : Rel K c F G H P σ env) (r : Rep K c G v d) (h : setSl i (.val d) env = some e') :
    e' = env.set i (.val d) ∧ Keep P (P.set i []) env e' ∧ Rel K c F G H (P.set i []) (σ.set i (some v)) e' := by
  unfold setSl at h
  cases e : env[i]? with
  | none => rw [e] at h; cases h
  | some s =>
    have hl : ∀ z, s ≠ .cell true z := fun z hz => by rw [e, hz] at h; cases h
    have e2 : e' = env.set i (.val d) := by
      rw [e] at h
      cases s with
      | no => injection h with h; exact h.symm
      | val _ => injection h with h; exact h.symm
      | cell l z =>
        cases l with
        | true => exact absurd rfl (hl z)
        | false => injection h with h; exact h.symm
    subst e2
    refine ⟨rfl, ⟨by simp, fun j z hj => ?_⟩, ⟨R.fs, R.gs, R.all.set i (.val r), fun b hb => R.out b (no_alias R b hb), nd_set_nil R.nd i, R.tb⟩⟩
    have hij : i ≠ j := fun h => by rw [← h, e] at hj; exact hl z (Option.some.inj hj)
    rw [List.getElem?_set_ne hij, List.getElem?_set_ne hij]
    exact ⟨rfl, z, hj⟩
theorem Rel.setC {i : Nat} {v : V} {z : Cell} {p : List Addr} {e' : Ev} (R : Rel K c F G H P σ env) (r : CellAt K c G H p v z) (nd : p.Nodup) (out : ∀ b, b ∈ p → F b = none ∧ G b = none ∧ b ∉ P.flatten) (h : setSl i (.cell false z) env = some e') :
    Keep P (P.set i p) env e' ∧ Rel K c F G H (P.set i p) (σ.set i (some v)) e' := by
  unfold setSl at h
  cases e : env[i]? with
  | none => rw [e] at h; cases h
  | some s =>
    have hl : ∀ z, s ≠ .cell true z := fun z hz => by rw [e, hz] at h; cases h
    have e2 : e' = env.set i (.cell false z) := by
      rw [e] at h
      cases s with
      | no => injection h with h; exact h.symm
      | val _ => injection h with h; exact h.symm
      | cell l z =>
        cases l with
        | true => exact absurd rfl (hl z)
        | false => injection h with h; exact h.symm
    subst e2
    refine ⟨⟨by simp, fun j z' hj => ?_⟩, ⟨R.fs, R.gs, R.all.set i (.cell r), fun b hb => ?_, nd_set_new R.nd nd (fun b hb => (out b hb).2.2) i, R.tb⟩⟩
    · have hij : i ≠ j := fun h => by rw [← h, e] at hj; exact hl z' (Option.some.inj hj)
      rw [List.getElem?_set_ne hij, List.getElem?_set_ne hij]
      exact ⟨rfl, z', hj⟩
    · rcases flat_set hb with h' | h'
      · exact ⟨(out b h').1, (out b h').2.1⟩
      · exact R.out b h'
end
section
variable {X : Cx} {c : Cl} {W : WX} {pos : Pos} {st : Stmt} {rest : List Stmt} {e : Expr} {m : M D} {mz : M Cell} {ma mb : MS}
theorem ds_nil : PSs X [] (tS X.K c W M.next) := PSs.weak pss_nil fun D σ H ⟨F, G, P, env, R, h⟩ => PostS.here R h
theorem ds_cons (h1 : PS X st (tS X.K c W ma)) (h2 : PSs X rest (tS X.K c W mb)) : PSs X (st :: rest) (tS X.K c W (mSeq ma mb)) := by
  refine PSs.weak (pss_cons h1 h2) fun D σ H h => ?_
  obtain ⟨F, G, P, env, R, h⟩ := h
  refine ⟨F, G, P, env, R, ?_⟩
  unfold mSeq at h
  cases e : ma env with
  | bad => rw [e] at h; exact h
  | exc x env' => rw [e] at h; exact h
  | ok f env' =>
    rw [e] at h
    cases f with
    | next => exact fun G' H' P' σ' x k R' => ⟨F, G', P', env', R', h.chain x k⟩
    | ret d => exact h
    | brk => exact h
    | cont => exact h
    | retO z => exact h
theorem ds_one (h1 : PS X st (tS X.K c W ma)) : PSs X [st] (tS X.K c W ma) := pss_one h1
theorem ds_ret (he : PE X e (tE X.K c W m)) : PS X (.Return (some e) pos) (tS X.K c W (mRet m)) := by
  refine PS.weak (ps_ret he) fun D σ H h => ?_
  obtain ⟨F, G, P, env, R, h⟩ := h
  exact ⟨F, G, P, env, R, (Post.bindS h).imp fun d G1 H1 P1 _ ⟨env1, R1, h1⟩ => PostS.here R1 h1⟩
/-- return x, x a new thing of one's own -/
def mRetO (m : M Cell) : MS := M.bind m fun z => M.ret (.retO z)
theorem ds_retO (he : PE X e (tO X.K c W mz)) : PS X (.Return (some e) pos) (tS X.K c W (mRetO mz)) := by
  refine PS.weak (ps_ret he) fun D σ H h => ?_
  obtain ⟨F, G, P, env, R, h⟩ := h
  exact ⟨F, G, P, env, R, (Post.bindS h).imp fun d G1 H1 P1 _ ⟨env1, R1, h1⟩ v p => PostS.here R1 h1 v p⟩
theorem ds_retN : PS X (.Return none pos) (tS X.K c W (M.ret (.ret .non))) := PS.weak ps_retN fun D σ H ⟨F, G, P, env, R, h⟩ => PostS.here R h _ .non
theorem ds_expr (he : PE X e (tE X.K c W m)) (hs : swapsWith e none pos.line X.env = pure false := by rfl) : PS X (.Expr e pos) (tS X.K c W (mExpr m)) := by
  refine PS.weak (ps_expr he hs) fun D σ H h => ?_
  obtain ⟨F, G, P, env, R, h⟩ := h
  exact ⟨F, G, P, env, R, (Post.bindS h).imp fun d G1 H1 P1 _ ⟨env1, R1, h1⟩ v r => PostS.here R1 h1⟩
theorem ds_pass : PS X (.Pass pos) (tS X.K c W M.next) := PS.weak ps_pass fun D σ H ⟨F, G, P, env, R, h⟩ => PostS.here R h
theorem ds_break : PS X (.Break pos) (tS X.K c W (M.ret .brk)) := PS.weak ps_break fun D σ H ⟨F, G, P, env, R, h⟩ => PostS.here R h
theorem ds_continue : PS X (.Continue pos) (tS X.K c W (M.ret .cont)) := PS.weak ps_continue fun D σ H ⟨F, G, P, env, R, h⟩ => PostS.here R h
theorem ds_if {t : Expr} {p q : List Stmt} {mt : M Bool} (ht : PT X t (tT X.K c W mt)) (hp : PSs X p (tS X.K c W ma)) (hq : PSs X q (tS X.K c W mb)) : PS X (.If t p q pos) (tS X.K c W (mIf mt ma mb)) := by
  refine PS.weak (ps_if ht hp hq) fun D σ H h => ?_
  obtain ⟨F, G, P, env, R, h⟩ := h
  refine ⟨F, G, P, env, R, (Post.bindS h).imp fun b G1 H1 P1 _ ⟨env1, R1, h1⟩ => ?_⟩
  cases b with
  | true => exact ⟨F, G1, P1, env1, R1, h1⟩
  | false => exact ⟨F, G1, P1, env1, R1, h1⟩
theorem ds_set {i : Nat} {x : Str} {pos' : Pos} (hN : X.N.Nodup) (he : PE X e (tE X.K c W m)) (hi : X.N[i]? = some x := by rfl) (hx : Loc X.env.scope x := by first | exact .inl rfl | exact .inr rfl) (hs : swapsWith e (some (.Name x pos')) pos.line X.env = pure false := by rfl)
    (hf : X.fn x = true ∨ X.env.scope.names.lookup x = some .local := by first | exact .inl rfl | exact .inr rfl) : PS X (.Assign [.Name x pos'] e pos) (tS X.K c W (mSet i m)) := by
  refine PS.weak (ps_set hN hi hx he hs hf) fun D σ H h => ?_
  obtain ⟨F, G, P, env, R, h⟩ := h
  refine ⟨F, G, P, env, R, (Post.bindS h).imp fun d G1 H1 P1 _ ⟨env1, R1, h1⟩ v r => ?_⟩
  unfold M.upd at h1
  cases q : setSl i (.val d) env1 with
  | none => rw [q] at h1; exact h1.elim
  | some e1 =>
    rw [q] at h1
    obtain ⟨_, k, R2⟩ := R1.setV r q
    exact PostS.here R2 (h1.chain (Ext.refl _ _) k)
theorem ds_setO {i : Nat} {x : Str} {pos' : Pos} (hN : X.N.Nodup) (he : PE X e (tO X.K c W mz)) (hi : X.N[i]? = some x := by rfl) (hx : Loc X.env.scope x := by first | exact .inl rfl | exact .inr rfl) (hs : swapsWith e (some (.Name x pos')) pos.line X.env = pure false := by rfl)
    (hf : X.fn x = true ∨ X.env.scope.names.lookup x = some .local := by first | exact .inl rfl | exact .inr rfl) : PS X (.Assign [.Name x pos'] e pos) (tS X.K c W (mSetO i mz)) := by
  refine PS.weak (ps_set hN hi hx he hs hf) fun D σ H h => ?_
  obtain ⟨F, G, P, env, R, h⟩ := h
  refine ⟨F, G, P, env, R, (Post.bindS h).imp fun z G1 H1 P1 _ ⟨env1, R1, h1⟩ v p ca nd out => ?_⟩
  unfold M.upd at h1
  cases q : setSl i (.cell false z) env1 with
  | none => rw [q] at h1; exact h1.elim
  | some e1 =>
    rw [q] at h1
    obtain ⟨k, R2⟩ := R1.setC ca nd out q
    exact PostS.here R2 (h1.chain (Ext.refl _ _) k)
end
/-! ### defs -/
abbrev Fn := List Sl → Res D
def outs : List Sl → Ev → List Sl
  | .cell true _ :: r, .cell true z :: e => .cell true z :: outs r e
  | _ :: r, _ :: e => .no :: outs r e
  | _, _ => []
/-- a def of n slots with a body -/
def mDef (n : Nat) (b : MS) : Fn := fun sls => match b (sls ++ List.replicate (n - sls.length) .no) with
  | .ok (.ret d) e => .ok d (outs sls e)
  | .ok .next e => .ok .non (outs sls e)
  | .ok _ _ => .bad
  | .exc x e => .exc x (outs sls e)
  | .bad => .bad
/-- .. that returns a new thing of its own -/
abbrev FnO := List D → Res Cell
def mDefO (n : Nat) (b : MS) : FnO := fun ds => match b (ds.map .val ++ List.replicate (n - ds.length) .no) with
  | .ok (.retO z) e => .ok z e
  | .exc x e => .exc x e
  | _ => .bad
def spO (K : PySem.W.Frag) (c : Cl) (n : Nat) (f : FnO) : Sp := fun vs H Q E => ∃ G ds, vs.length = n ∧ Same G H ∧ Reps K c G vs ds ∧ (Tbs c G H ∧ NoT G) ∧ match f ds with
  | .ok z _ => ∀ G' H' v p, Pure c H G H' G' → CellAt K c G' H' p v z → p.Nodup → (∀ b, b ∈ p → nt H b = none ∧ G' b = none) → Q v H'
  | .exc x _ => ∀ G' H' cv dd, Pure c H G H' G' → RepX K c G' H' cv dd x → E cv dd H'
  | .bad => False
def isArg : Sl → Bool
  | .val _ => true
  | .cell true _ => true
  | _ => false
def spD (K : PySem.W.Frag) (c : Cl) (n : Nat) (f : Fn) : Sp := fun vs H Q E => ∃ F G P sls, vs.length = n ∧ Rel K c F G H P (vs.map some) sls ∧ sls.all isArg = true ∧
  Post K c (fun cv dd _ H' => E cv dd H') F G P (vs.map some) sls (f sls) fun d G' H' _ => ∀ v, Rep K c G' v d → Q v H'
section
variable {K : PySem.W.Frag} {c : Cl} {W : WX} {F G G1 H H1 : Hp} {P P1 : List (List Addr)} {σ : St} {env env1 : Ev}
theorem rels_vals0 {vs : List V} {ds : List D} (r : Reps K c G vs ds) : Rels K c G H (ds.map fun _ => []) (vs.map some) (ds.map .val) := by
  cases r with
  | nil => exact .nil
  | cons h t => exact .cons (.val h) (rels_vals0 t)
theorem flat_nil0 {α : Type} (ds : List α) : (ds.map fun _ => ([] : List Addr)).flatten = [] := by
  induction ds with
  | nil => rfl
  | cons _ _ ih => rw [List.map_cons, List.flatten_cons, ih]; rfl
theorem rels_more (R : Rels K c G H P σ env) : ∀ n, Rels K c G H (P ++ List.replicate n []) (σ ++ List.replicate n none) (env ++ List.replicate n .no) := by
  intro n
  induction R with
  | nil =>
    induction n with
    | zero => exact .nil
    | succ n ih => exact .cons .no ih
  | cons r _ ih => exact .cons r ih
theorem flat_more {P : List (List Addr)} {n : Nat} : (P ++ List.replicate n []).flatten = P.flatten := by
  rw [List.flatten_append]
  have : (List.replicate n ([] : List Addr)).flatten = [] := by induction n with
    | zero => rfl
    | succ n ih => rw [List.replicate_succ, List.flatten_cons, ih]; rfl
  rw [this, List.append_nil]
theorem Rel.more (R : Rel K c F G H P σ env) (n : Nat) : Rel K c F G H (P ++ List.replicate n []) (σ ++ List.replicate n none) (env ++ List.replicate n .no) :=
  ⟨R.fs, R.gs, rels_more R.all n, fun b hb => R.out b (by rw [flat_more] at hb; exact hb), by rw [flat_more]; exact R.nd, R.tb⟩
theorem cellAt_val {G G' H H' : Hp} {p : List Addr} {v v' : V} {z z' : Cell} (x : CellAt K c G H p v z) (y : CellAt K c G' H' p v' z') : v = v' := by
  cases x <;> cases y <;> rfl
/-- what comes back of the arguments -/
def Pouts : List Sl → List (List Addr) → List (List Addr)
  | .cell true _ :: r, p :: P => p :: Pouts r P
  | _ :: r, _ :: P => [] :: Pouts r P
  | _, _ => []
theorem pouts_sub : ∀ {sls : List Sl} {P : List (List Addr)} {b : Addr}, b ∈ (Pouts sls P).flatten → b ∈ P.flatten
  | [], _, _, h => by simp [Pouts] at h
  | s :: r, [], _, h => by cases s with
    | cell l z => cases l <;> simp [Pouts] at h
    | _ => simp [Pouts] at h
  | s :: r, p :: P, b, h => by
    have key : b ∈ p ∨ b ∈ (Pouts r P).flatten := by
      cases s with
      | cell l z =>
        cases l with
        | true => simpa [Pouts] using h
        | false => exact .inr (by simpa [Pouts] using h)
      | _ => exact .inr (by simpa [Pouts] using h)
    rw [List.flatten_cons]
    rcases key with k | k
    · exact List.mem_append_left _ k
    · exact List.mem_append_right _ (pouts_sub k)
theorem pouts_nd : ∀ {sls : List Sl} {P : List (List Addr)}, P.flatten.Nodup → (Pouts sls P).flatten.Nodup
  | [], _, h => by simp [Pouts]
  | s :: r, [], _ => by cases s with
    | cell l z => cases l <;> simp [Pouts]
    | _ => simp [Pouts]
  | s :: r, p :: P, h => by
    rw [List.flatten_cons] at h
    have h' := List.nodup_append.mp h
    have ih := pouts_nd (sls := r) h'.2.1
    cases s with
    | cell l z =>
      cases l with
      | true =>
        show (p :: Pouts r P).flatten.Nodup
        rw [List.flatten_cons]
        exact List.nodup_append.mpr ⟨h'.1, ih, fun a ha b hb => h'.2.2 a ha b (pouts_sub hb)⟩
      | false => simpa [Pouts] using ih
    | _ => simpa [Pouts] using ih
theorem outs_get : ∀ {sls : List Sl} {e : Ev} {i : Nat} {z : Cell}, (outs sls e)[i]? = some (.cell true z) → ∃ z0 : Cell, sls[i]? = some (.cell true z0) ∧ e[i]? = some (.cell true z)
  | [], _, i, z, h => by simp [outs] at h
  | s :: r, [], i, z, h => by
    cases s with
    | cell l z => cases l <;> simp [outs] at h
    | _ => simp [outs] at h
  | s :: r, t :: e, i, z, h => by
    cases i with
    | zero =>
      cases s with
      | cell l z0 =>
        cases l with
        | true =>
          cases t with
          | cell l2 z2 =>
            cases l2 with
            | true => simp [outs] at h; subst h; exact ⟨z0, rfl, rfl⟩
            | false => simp [outs] at h
          | _ => simp [outs] at h
        | false => simp [outs] at h
      | _ => simp [outs] at h
    | succ i =>
      have h' : (outs r e)[i]? = some (.cell true z) := by
        cases s with
        | cell l z0 =>
          cases l with
          | true =>
            cases t with
            | cell l2 z2 => cases l2 <;> simpa [outs] using h
            | _ => simpa [outs] using h
          | false => simpa [outs] using h
        | _ => simpa [outs] using h
      simpa using outs_get h'
theorem Rel.toPure {G' H' : Hp} (R : Rel K c (nt H) G' H' P σ env) (x : Ext (nt H) G G') : Pure c H G H' G' :=
  ⟨x.same, nt_ext R.fs, R.gs, fun b o h n g => x.fresh b g (by rw [nt_at h n]; exact fun z => nomatch z), fun _ => R.tb.tabs, fun _ => R.tb.ng⟩
/-- at a def's end, seen from the caller -/
theorem rels_outs {G0 H0 G' H' : Hp} : ∀ {sls : List Sl} {vs : List V} {P P' : List (List Addr)} {σ' : St} {e : Ev}, Rels K c G0 H0 P (vs.map some) sls → Rels K c G' H' P' σ' e → sls.length ≤ e.length →
    (∀ (i : Nat) (z : Cell), sls[i]? = some (.cell true z) → P'[i]? = P[i]? ∧ ∃ z' : Cell, e[i]? = some (.cell true z')) → Rels K c G' H' (Pouts sls P') (vs.map some) (outs sls e)
  | [], [], _, _, _, _, _, _, _, _ => by simp only [outs, Pouts, List.map_nil]; exact .nil
  | [], _ :: _, _, _, _, _, h, _, _, _ => by cases h
  | _ :: _, [], _, _, _, _, h, _, _, _ => by cases h
  | s :: r, v :: vs, P, P', σ', e, h, h2, hl, k => by
    cases h2 with
    | nil => simp at hl
    | cons q2 t2 =>
      rename_i p2 P2 x2 σ2 s2 e2
      cases h with
      | cons q1 t1 =>
        rename_i p1 P1
        have ih := rels_outs t1 t2 (by simpa using hl) fun i z hi => by simpa using k (i + 1) z (by simpa using hi)
        have k0 := fun z (hz : s = .cell true z) => k 0 z (by rw [hz]; rfl)
        cases s with
        | no => exact .cons .no ih
        | val d => exact .cons .no ih
        | cell l z =>
          cases l with
          | false => exact .cons .no ih
          | true =>
            obtain ⟨e1, z', e2'⟩ := k0 z rfl
            have e1 : p2 = p1 := by simpa using e1
            have e2' : s2 = .cell true z' := by simpa using e2'
            subst e1 e2'
            cases q1 with
            | cell c1 =>
              cases q2 with
              | cell c2 =>
                have := cellAt_val c1 c2
                subst this
                exact .cons (.cell c2) ih
theorem outs_at : ∀ {sls : List Sl} {e : Ev} {i : Nat} {z z' : Cell}, sls[i]? = some (.cell true z) → e[i]? = some (.cell true z') → (outs sls e)[i]? = some (.cell true z')
  | [], _, i, z, _, h, _ => by simp at h
  | s :: r, [], i, z, _, _, h => by simp at h
  | s :: r, t :: e, i, z, z', h, h2 => by
    cases i with
    | zero =>
      simp at h h2
      subst h h2
      rfl
    | succ i =>
      have ih := outs_at (sls := r) (e := e) (i := i) (by simpa using h) (by simpa using h2)
      cases s with
      | cell l z =>
        cases l with
        | true => cases t with
          | cell l2 z2 => cases l2 <;> simpa [outs] using ih
          | _ => simpa [outs] using ih
        | false => simpa [outs] using ih
      | _ => simpa [outs] using ih
theorem pouts_get : ∀ {sls : List Sl} {P : List (List Addr)} {i : Nat} {z : Cell} {q : Option (List Addr)}, sls[i]? = some (.cell true z) → P[i]? = q → (Pouts sls P)[i]? = P[i]?
  | [], _, i, z, _, h, _ => by simp at h
  | s :: r, [], i, z, _, h, _ => by
    cases s with
    | cell l z => cases l <;> simp [Pouts]
    | _ => simp [Pouts]
  | s :: r, t :: e, i, z, _, h, h2 => by
    cases i with
    | zero =>
      simp at h
      subst h
      rfl
    | succ i =>
      have ih := pouts_get (sls := r) (P := e) (i := i) (by simpa using h) rfl
      cases s with
      | cell l z =>
        cases l with
        | true => simpa [Pouts] using ih
        | false => simpa [Pouts] using ih
      | _ => simpa [Pouts] using ih
theorem outs_len : ∀ {sls : List Sl} {e : Ev}, sls.length ≤ e.length → (outs sls e).length = sls.length
  | [], _, _ => by simp [outs]
  | s :: r, [], h => by simp at h
  | s :: r, t :: e, h => by
    have ih := outs_len (sls := r) (e := e) (by simpa using h)
    cases s with
    | cell l z =>
      cases l with
      | true => cases t with
        | cell l2 z2 => cases l2 <;> simp [outs, ih]
        | _ => simp [outs, ih]
      | false => simp [outs, ih]
    | _ => simp [outs, ih]
end
section
variable {P : Program} {w : World} {K : PySem.W.Frag} {mg : Str → Option Value} {base : Heap} {c : Cl}
/-- THE RULE for a def, the code object in hand -/
theorem dokG {x qual : Str} {st : Stmt} {f : Addr} {fd : FuncData} {N ps : List Str} {k : Nat} {b : MS} (F : Fun K x qual st f fd) (S : FnScope N ps (defScope st)) (n : Nat := ps.length) (hn : n = ps.length := by rfl) (hN : ps.length ≤ N.length := by decide)
    (hbody : ∀ (cdv : Value), fd.code = cdv → ∀ (A : Around) (outer : List Env) (s : Shared) (H : Hp) (E : XK), RoomG k (A.deeper (envOfC qual (defScope st) s.heap.objs.size f cdv)) → ∀ W : WX, Takes (cxOf (L2.CX P w) P w K mg base N qual (defScope st) f cdv A outer s H E) W →
      PSs (cxOf (L2.CX P w) P w K mg base N qual (defScope st) f cdv A outer s H E) (defBody st) (tS K c W b)) : FnG P w K mg base (L2.CX P w) (k + 1) f fd ps (spD K c n (mDef N.length b)) := by
  refine fng_of F S (fun vs H Q E h => ?_) (fun cdv cdE A outer s H vs Q E hr h => ?_)
  · obtain ⟨_, _, _, _, e, _⟩ := h
    rw [e, hn]
  · obtain ⟨Fh, G, Pp, sls, hl, R, ha, h⟩ := h
    have hls : sls.length = vs.length := by have := R.all.len.1; simpa using this.symm
    have tk : Takes (cxOf (L2.CX P w) P w K mg base N qual (defScope st) f cdv A outer s H E) (fun cv dd _ H' => E cv dd H') := takes_of rfl rfl rfl rfl
    refine ⟨_, hbody cdv cdE A outer s H E hr _ tk, ?_⟩
    have R1 := R.more (N.length - sls.length)
    refine ⟨Fh, G, _, _, by unfold start; rw [← hls]; exact R1, ?_⟩
    unfold mDef at h
    have fin : ∀ {G' H' : Hp} {P' : List (List Addr)} {σ' : St} {e : Ev}, Keep (Pp ++ List.replicate (N.length - sls.length) []) P' (sls ++ List.replicate (N.length - sls.length) .no) e → Rel K c Fh G' H' P' σ' e →
        Keep Pp (Pouts sls P') sls (outs sls e) ∧ Rel K c Fh G' H' (Pouts sls P') (vs.map some) (outs sls e) := by
      intro G' H' P' σ' e kp R'
      have hle : sls.length ≤ e.length := by rw [kp.len]; simp
      have kk : ∀ (i : Nat) (z : Cell), sls[i]? = some (.cell true z) → P'[i]? = Pp[i]? ∧ ∃ z' : Cell, e[i]? = some (.cell true z') := fun i z hz => by
        have hi : i < sls.length := (List.getElem?_eq_some_iff.mp hz).1
        obtain ⟨q1, z', q2⟩ := kp.at_ i z (by rw [List.getElem?_append_left hi]; exact hz)
        have hp : i < Pp.length := by have := R.all.len.2; omega
        rw [List.getElem?_append_left hp] at q1
        exact ⟨q1, z', q2⟩
      refine ⟨⟨outs_len hle, fun i z hz => ?_⟩, ⟨R'.fs, R'.gs, rels_outs R.all R'.all hle kk, fun b hb => R'.out b (pouts_sub hb), pouts_nd R'.nd, R'.tb⟩⟩
      obtain ⟨q1, z', q2⟩ := kk i z hz
      have hi : i < sls.length := (List.getElem?_eq_some_iff.mp hz).1
      have hp : i < P'.length := by have := R'.all.len.2; omega
      exact ⟨(pouts_get hz rfl).trans q1, z', outs_at hz q2⟩
    cases hb : b (sls ++ List.replicate (N.length - sls.length) .no) with
    | bad => rw [hb] at h; exact h
    | exc x e =>
      rw [hb] at h
      intro G' H' P' σ' cv dd x1 k1 R' rx
      obtain ⟨k2, R2⟩ := fin k1 R'
      exact h G' H' _ cv dd x1 k2 R2 rx
    | ok fl e =>
      rw [hb] at h
      intro G' H' P' σ' x1 k1 R'
      obtain ⟨k2, R2⟩ := fin k1 R'
      cases fl with
      | next => exact h G' H' _ x1 k2 R2 _ .non
      | ret d => exact fun v r => h G' H' _ x1 k2 R2 v r
      | brk => exact h.elim
      | cont => exact h.elim
      | retO z => exact h.elim
/-- THE RULE for a def -/
theorem dok {x qual : Str} {st : Stmt} {f : Addr} {fd : FuncData} {N ps : List Str} {k : Nat} {b : MS} (F : Fun K x qual st f fd) (S : FnScope N ps (defScope st)) (n : Nat := ps.length) (hn : n = ps.length := by rfl) (hN : ps.length ≤ N.length := by decide)
    (hbody : ∀ (cdv : Value) (A : Around) (outer : List Env) (s : Shared) (H : Hp) (E : XK), RoomG k (A.deeper (envOfC qual (defScope st) s.heap.objs.size f cdv)) → ∀ W : WX, Takes (cxOf (L2.CX P w) P w K mg base N qual (defScope st) f cdv A outer s H E) W →
      PSs (cxOf (L2.CX P w) P w K mg base N qual (defScope st) f cdv A outer s H E) (defBody st) (tS K c W b)) : FnG P w K mg base (L2.CX P w) (k + 1) f fd ps (spD K c n (mDef N.length b)) :=
  dokG F S n hn hN fun cdv _ => hbody cdv
/-- .. whose code object is known -/
theorem dokC {x qual : Str} {st : Stmt} {f cd : Addr} {fd : FuncData} {N ps : List Str} {k : Nat} {b : MS} (F : Fun K x qual st f fd) (own : fd.code = .ref cd) (S : FnScope N ps (defScope st)) (n : Nat := ps.length) (hn : n = ps.length := by rfl) (hN : ps.length ≤ N.length := by decide)
    (hbody : ∀ (A : Around) (outer : List Env) (s : Shared) (H : Hp) (E : XK), RoomG k (A.deeper (envOfC qual (defScope st) s.heap.objs.size f (.ref cd))) → ∀ W : WX, Takes (cxOf (L2.CX P w) P w K mg base N qual (defScope st) f (.ref cd) A outer s H E) W →
      PSs (cxOf (L2.CX P w) P w K mg base N qual (defScope st) f (.ref cd) A outer s H E) (defBody st) (tS K c W b)) : FnG P w K mg base (L2.CX P w) (k + 1) f fd ps (spD K c n (mDef N.length b)) :=
  dokG F S n hn hN fun cdv e => by
    rw [own] at e
    subst e
    exact hbody
/-- .. of a def that returns a new thing of its own -/
theorem dokO {x qual : Str} {st : Stmt} {f : Addr} {fd : FuncData} {N ps : List Str} {k : Nat} {b : MS} (F : Fun K x qual st f fd) (S : FnScope N ps (defScope st)) (n : Nat := ps.length) (hn : n = ps.length := by rfl) (hN : ps.length ≤ N.length := by decide)
    (hbody : ∀ (cdv : Value) (A : Around) (outer : List Env) (s : Shared) (H : Hp) (E : XK), RoomG k (A.deeper (envOfC qual (defScope st) s.heap.objs.size f cdv)) → ∀ W : WX, Takes (cxOf (L2.CX P w) P w K mg base N qual (defScope st) f cdv A outer s H E) W →
      PSs (cxOf (L2.CX P w) P w K mg base N qual (defScope st) f cdv A outer s H E) (defBody st) (tS K c W b)) : FnG P w K mg base (L2.CX P w) (k + 1) f fd ps (spO K c n (mDefO N.length b)) := by
  refine fng_of F S (fun vs H Q E h => ?_) (fun cdv cdE A outer s H vs Q E hr h => ?_)
  · obtain ⟨_, _, e, _⟩ := h
    rw [e, hn]
  · obtain ⟨G, ds, hl, hs, r, ⟨ht1, ht2⟩, h⟩ := h
    have hds : ds.length = vs.length := r.length.symm
    have tk : Takes (cxOf (L2.CX P w) P w K mg base N qual (defScope st) f cdv A outer s H E) (fun cv dd _ H' => E cv dd H') := takes_of rfl rfl rfl rfl
    refine ⟨_, hbody cdv A outer s H E hr _ tk, ?_⟩
    have R0 : Rel K c (nt H) G H (ds.map fun _ => []) (vs.map some) (ds.map .val) := ⟨nt_same H, hs, rels_vals0 r, fun b hb => (by rw [flat_nil0] at hb; cases hb), (by rw [flat_nil0]; exact List.nodup_nil), ⟨ht1, nt_not H, ht2⟩⟩
    have R1 := R0.more (N.length - ds.length)
    refine ⟨nt H, G, _, _, by unfold start; rw [← hds]; exact R1, ?_⟩
    unfold mDefO at h
    cases hb : b (ds.map .val ++ List.replicate (N.length - ds.length) .no) with
    | bad => rw [hb] at h; exact h
    | exc x e =>
      rw [hb] at h
      exact fun G' H' P' σ' cv dd x1 k1 R' rx => h G' H' cv dd (R'.toPure x1) rx
    | ok fl e =>
      rw [hb] at h
      intro G' H' P' σ' x1 k1 R'
      cases fl with
      | next => exact h.elim
      | ret d => exact h.elim
      | brk => exact h.elim
      | cont => exact h.elim
      | retO z => exact fun v p ca nd out => h G' H' v p (R'.toPure x1) ca nd fun b hb => ⟨(out b hb).1, (out b hb).2.1⟩
end
end L2.DL
set_option Elab.async false
set_option linter.all false
set_option maxRecDepth 100000
set_option maxHeartbeats 4000000
namespace L2.DL
open PySem PySem.Spec PyProof.Rows
/-! ### calls of defs -/
/-- f(..), all arguments data -/
def mCall (f : Fn) (ms : M (List D)) : M D := M.bind ms fun ds env => match f (ds.map .val) with
  | .ok d _ => .ok d env
  | .exc x _ => .exc x env
  | .bad => .bad
/-- f(x, ..), the thing in slot i lent -/
def mCallL (f : Fn) (i : Nat) (ms : M (List D)) : M D := fun env => match env[i]? with
  | some (.cell _ _) => M.bind ms (fun ds env => match env[i]? with
    | some (.cell l z) => match f (.cell true z :: ds.map .val) with
      | .ok d (.cell true z' :: _) => .ok d (env.set i (.cell l z'))
      | .exc x (.cell true z' :: _) => .exc x (env.set i (.cell l z'))
      | _ => .bad
    | _ => .bad) env
  | _ => .bad
section
variable {K : PySem.W.Frag} {c : Cl} {W : WX} {F G G1 H H1 : Hp} {P P1 : List (List Addr)} {σ : St} {env env1 : Ev}
theorem rels_vals {vs : List V} {ds : List D} (r : Reps K c G vs ds) : Rels K c G H (ds.map fun _ => []) (vs.map some) (ds.map .val) := by
  cases r with
  | nil => exact .nil
  | cons h t => exact .cons (.val h) (rels_vals t)
theorem flat_nil {α : Type} (ds : List α) : (ds.map fun _ => ([] : List Addr)).flatten = [] := by
  induction ds with
  | nil => rfl
  | cons _ _ ih => rw [List.map_cons, List.flatten_cons, ih]; rfl
theorem all_vals (ds : List D) : (ds.map Sl.val).all isArg = true := by
  induction ds with
  | nil => rfl
  | cons _ _ ih => exact ih
/-- the promise, all arguments data: a pure step -/
theorem spD_vals {n : Nat} {f : Fn} {vs : List V} {ds : List D} {Q : VK} {E : XK} (hs : Same G H) (ht : Tbs c G H ∧ NoT G) (r : Reps K c G vs ds) (hn : ds.length = n)
    (h : match f (ds.map .val) with
      | .ok d _ => ∀ G' H' v, Pure c H G H' G' → Rep K c G' v d → Q v H'
      | .exc x _ => ∀ G' H' cv dd, Pure c H G H' G' → RepX K c G' H' cv dd x → E cv dd H'
      | .bad => False) : spD K c n f vs H Q E := by
  refine ⟨nt H, G, ds.map fun _ => [], ds.map .val, r.length.trans hn, ⟨nt_same H, hs, rels_vals r, fun b hb => ?_, ?_, ⟨ht.1, nt_not H, ht.2⟩⟩, all_vals ds, ?_⟩
  · rw [flat_nil] at hb; cases hb
  · rw [flat_nil]; exact List.nodup_nil
  · cases e : f (ds.map .val) with
    | bad => rw [e] at h; exact h
    | ok d s =>
      rw [e] at h
      exact fun G' H' P' x _ R v r => h G' H' v (R.toPure x) r
    | exc x s =>
      rw [e] at h
      exact fun G' H' P' cv dd x _ R r => h G' H' cv dd (R.toPure x) r
theorem call_vals {n : Nat} {f : Fn} {vs : List V} {ds : List D} {Q : VK} (R : Rel K c F G H P σ env) (r : Reps K c G vs ds) (hn : ds.length = n)
    (h : Post K c W F G P σ env (match f (ds.map .val) with | .ok d _ => .ok d env | .exc x _ => .exc x env | .bad => .bad) fun d G' H' _ => ∀ v, Rep K c G' v d → Q v H') :
    spD K c n f vs H Q (WE W σ) := by
  refine spD_vals R.gs ⟨R.tb.tabs, R.tb.ng⟩ r hn ?_
  cases e : f (ds.map .val) with
  | bad => rw [e] at h; exact h
  | ok d s =>
    rw [e] at h
    intro G' H' v p r
    obtain ⟨x, R'⟩ := R.pure p
    exact h G' H' P x (Keep.refl _ _) R' v r
  | exc x s =>
    rw [e] at h
    intro G' H' cv dd p r
    obtain ⟨x, R'⟩ := R.pure p
    exact h G' H' P cv dd x (Keep.refl _ _) R' r
/-- .. the first argument a thing that is lent -/
theorem call_lent {n : Nat} {f : Fn} {vs : List V} {ds : List D} {Q : VK} {i : Nat} {l : Bool} {z : Cell} {v0 : V} (R : Rel K c F G H P σ env) (r : Reps K c G vs ds) (hn : ds.length + 1 = n) (e : env[i]? = some (.cell l z)) (hv : σ[i]? = some (some v0))
    (h : Post K c W F G P σ env (match f (.cell true z :: ds.map .val) with
      | .ok d (.cell true z' :: _) => .ok d (env.set i (.cell l z'))
      | .exc x (.cell true z' :: _) => .exc x (env.set i (.cell l z'))
      | _ => .bad) fun d G' H' _ => ∀ v, Rep K c G' v d → Q v H') : spD K c n f (v0 :: vs) H Q (WE W σ) := by
  obtain ⟨p, x, e1, e2, ca⟩ := R.all.get e
  rw [hv] at e2
  cases e2
  cases ca with
  | cell ca =>
    -- the frame: all but what is lent
    have out : ∀ b, b ∈ p → F b = none ∧ G b = none := fun b hb => R.out b (mem_flat e1 hb)
    let Fc : Hp := fun b => if b ∈ p then none else nt H b
    have fcN : ∀ b, b ∈ p → Fc b = none := fun b hb => if_pos hb
    have fcH : ∀ b, b ∉ p → Fc b = nt H b := fun b hb => if_neg hb
    have sFc : Same Fc H := fun b o h => by
      by_cases hb : b ∈ p
      · rw [fcN b hb] at h; cases h
      · rw [fcH b hb] at h; exact nt_same H b o h
    have nFc : NoT Fc := fun b ps h => by
      by_cases hb : b ∈ p
      · rw [fcN b hb] at h; cases h
      · rw [fcH b hb] at h; exact nt_not H b ps h
    have fcF : ∀ b o, b ∉ p → F b = some o → Fc b = some o := fun b o hb h => by
      rw [fcH b hb]
      exact nt_at (R.fs b o h) fun ps z => R.tb.nf b ps (by rw [h, z])
    have fcP : ∀ b o, b ∉ p → b ∈ P.flatten → H b = some o → Fc b = some o := fun b o hb hP h => by
      obtain ⟨o', h1, h2⟩ := R.all.obj b hP
      rw [h] at h1
      cases h1
      rw [fcH b hb]
      exact nt_at h h2
    have ndp : p.Nodup := by
      obtain ⟨hi, e'⟩ := List.getElem?_eq_some_iff.mp e1
      subst e'
      exact List.Nodup.sublist (List.sublist_flatten_of_mem (List.getElem_mem hi)) R.nd
    have fl : (p :: ds.map fun _ => ([] : List Addr)).flatten = p := by rw [List.flatten_cons, flat_nil, List.append_nil]
    have Rc : Rel K c Fc G H (p :: ds.map fun _ => []) ((v0 :: vs).map some) (.cell true z :: ds.map .val) :=
      ⟨sFc, R.gs, .cons (.cell ca) (rels_vals r), fun b hb => by rw [fl] at hb; exact ⟨fcN b hb, (out b hb).2⟩, by rw [fl]; exact ndp, ⟨R.tb.tabs, nFc, R.tb.ng⟩⟩
    refine ⟨Fc, G, _, _, by simpa using by rw [r.length]; exact hn, Rc, all_vals ds, ?_⟩
    -- back at the caller
    have back : ∀ {G' H' : Hp} {P' : List (List Addr)} {s' : List Sl} {z' : Cell}, Ext Fc G G' → Keep (p :: ds.map fun _ => []) P' (.cell true z :: ds.map .val) (.cell true z' :: s') → Rel K c Fc G' H' P' ((v0 :: vs).map some) (.cell true z' :: s') →
        Ext F G G' ∧ Keep P P env (env.set i (.cell l z')) ∧ Rel K c F G' H' P σ (env.set i (.cell l z')) := by
      intro G' H' P' s' z' x k R'
      have ca' : CellAt K c G' H' p v0 z' ∧ ∀ b, b ∈ p → G' b = none := by
        have q := (k.at_ 0 z rfl).1
        cases hP : P' with
        | nil => rw [hP] at q; cases q
        | cons p' P'' =>
          rw [hP] at q R'
          have : p' = p := by simpa using q
          subst this
          obtain ⟨_, _, a1, a2, a3⟩ := R'.all.get (i := 0) (s := .cell true z') rfl
          simp at a1 a2
          subst a1 a2
          cases a3 with
          | cell q => exact ⟨q, fun b hb => (R'.out b (by rw [List.flatten_cons]; exact List.mem_append_left _ hb)).2⟩
      have there : ∀ b, b ∈ P.flatten → H b ≠ none := fun b hb => by
        obtain ⟨q, hq, hb⟩ := List.mem_flatten.mp hb
        obtain ⟨j, hj, ej⟩ := List.mem_iff_getElem.mp hq
        have hl := R.all.len
        have ej1 : P[j]? = some q := by rw [List.getElem?_eq_getElem hj, ej]
        obtain ⟨s, hs⟩ : ∃ s, env[j]? = some s := ⟨env[j]'(by omega), by simp [show j < env.length by omega]⟩
        obtain ⟨p', x, e2, _, r⟩ := R.all.get hs
        rw [ej1] at e2; cases e2
        cases r with
        | no => cases hb
        | val _ => cases hb
        | cell z => exact cell_there z b hb
      have notp : ∀ b o, F b = some o → b ∉ p := fun b o h hb => by rw [(out b hb).1] at h; cases h
      refine ⟨⟨x.same, fun b h1 h2 => ?_⟩, ⟨by simp, fun j z1 hj => ⟨rfl, ?_⟩⟩, ⟨fun b o h => ?_, R'.gs, ?_, fun b hb => ⟨(R.out b hb).1, ?_⟩, R.nd, ⟨R'.tb.tabs, R.tb.nf, R'.tb.ng⟩⟩⟩
      · cases eF : F b with
        | none => exact absurd eF h2
        | some o =>
          refine x.fresh b h1 ?_
          rw [fcF b o (notp b o eF) eF]
          exact fun z => nomatch z
      · by_cases hij : i = j
        · subst hij
          rw [e] at hj
          cases hj
          exact ⟨z', by rw [List.getElem?_set_self (by have := List.getElem?_eq_some_iff.mp e; exact this.1)]⟩
        · rw [List.getElem?_set_ne hij]; exact ⟨z1, hj⟩
      · exact R'.fs b o (fcF b o (notp b o h) h)
      · -- the slots
        have mv : ∀ (j : Nat) (pj : List Addr), j ≠ i → P[j]? = some pj → ∀ b, b ∈ pj → ∀ o, H b = some o → H' b = some o := fun j pj hj hp b hb o ho => by
          exact R'.fs b o (fcP b o (fun hbp => hj (nd_at R.nd hp e1 hb hbp)) (mem_flat hp hb) ho)
        have gen : ∀ {P : List (List Addr)} {σ : St} {env : Ev}, Rels K c G H P σ env → ∀ i, P[i]? = some p → σ[i]? = some (some v0) → (∀ (j : Nat) (pj : List Addr), j ≠ i → P[j]? = some pj → ∀ b, b ∈ pj → ∀ o, H b = some o → H' b = some o) →
            Rels K c G' H' P σ (env.set i (.cell l z')) := by
          intro P σ env h
          induction h with
          | nil => intro i hi; simp at hi
          | cons q t ih =>
            intro i hp hσ mv
            cases i with
            | zero =>
              simp at hp hσ
              subst hp hσ
              refine .cons (.cell ca'.1) (t.move x.same fun b hb o ho => ?_)
              obtain ⟨pj, hm, hb⟩ := List.mem_flatten.mp hb
              obtain ⟨j, hj, ej⟩ := List.mem_iff_getElem.mp hm
              exact mv (j + 1) pj (by omega) (by rw [List.getElem?_cons_succ, List.getElem?_eq_getElem hj, ej]) b hb o ho
            | succ i =>
              refine .cons (q.move x.same fun b hb o ho => mv 0 _ (by omega) rfl b hb o ho) (ih i (by simpa using hp) (by simpa using hσ) fun j pj hj hpj => mv (j + 1) pj (by omega) (by simpa using hpj))
        exact gen R.all i e1 hv mv
      · by_cases hbp : b ∈ p
        · exact ca'.2 b hbp
        · obtain ⟨o', h1, _⟩ := R.all.obj b hb
          exact x.fresh b (R.out b hb).2 (by rw [fcP b o' hbp hb h1]; exact fun z => nomatch z)
    cases q : f (.cell true z :: ds.map .val) with
    | bad => rw [q] at h; exact h
    | ok d s =>
      rw [q] at h
      intro G' H' P' x k R' v rr
      match s, h, k, R' with
      | [], h, _, _ => exact h.elim
      | .no :: _, h, _, _ => exact h.elim
      | .val _ :: _, h, _, _ => exact h.elim
      | .cell false _ :: _, h, _, _ => exact h.elim
      | .cell true z' :: s', h, k, R' =>
        obtain ⟨a1, a2, a3⟩ := back x k R'
        exact h G' H' P a1 a2 a3 v rr
    | exc xx s =>
      rw [q] at h
      intro G' H' P' cv dd x k R' rr
      match s, h, k, R' with
      | [], h, _, _ => exact h.elim
      | .no :: _, h, _, _ => exact h.elim
      | .val _ :: _, h, _, _ => exact h.elim
      | .cell false _ :: _, h, _, _ => exact h.elim
      | .cell true z' :: s', h, k, R' =>
        obtain ⟨a1, a2, a3⟩ := back x k R'
        exact h G' H' P cv dd a1 a2 a3 rr
end
/-- how many arguments there are -/
def ML (n : Nat) (ms : M (List D)) : Prop := ∀ env ds env', ms env = .ok ds env' → ds.length = n
theorem ml_nil : ML 0 mNil := fun env ds env' h => by cases h; rfl
theorem ml_cons {n : Nat} {m : M D} {ms : M (List D)} (h : ML n ms) : ML (n + 1) (mCons m ms) := fun env ds env' e => by
  unfold mCons M.bind at e
  cases q1 : m env with
  | bad => rw [q1] at e; cases e
  | exc x e1 => rw [q1] at e; cases e
  | ok x e1 =>
    rw [q1] at e
    dsimp only at e
    cases q2 : ms e1 with
    | bad => rw [q2] at e; cases e
    | exc x e1 => rw [q2] at e; cases e
    | ok xs e2 =>
      rw [q2] at e
      cases e
      exact congrArg (· + 1) (h _ _ _ q2)
/-- what a call needs of a def: its place, its promise (K, mg ..: the module's) -/
structure Df (P : Program) (w : World) (K : PySem.W.Frag) (mg : Str → Option Value) (base : Heap) (c : Cl) (x : Str) (k n : Nat) (fn : Fn) : Prop where
  ex : ∃ f : Addr, FnRG P w K mg base (L2.CX P w) k f (spD K c n fn) ∧ mg x = some (.ref f) ∧ PySem.W.keepIn K (.ref f) = true
theorem run_R {X : Cx} {pins : List (Addr × Obj)} {σ : St} {H : Hp} {s : Shared} {k : Nat} {f : Addr} {sp : Sp} {E : XK} {Q : VK} {us : List Value} {vs : List V} (F : FnRG X.prog X.w X.K X.mg X.base (L2.CX X.prog X.w) k f sp) (hr : RoomG k X.A) (hx : PassesAt (L2.CX X.prog X.w) X σ E) (I : Inv X pins σ H s)
    (r : Vals vs us) (h : sp vs H Q E) : wpAny (model X.prog X.w) X.A (call (.ref f) us) (EP X pins σ Q) X.xe s := by
  refine wpAny_call (codeAny_mono (F X.A X.stack s H us vs Q E hr I.env0 r h) fun r s' hq => ?_)
  cases r with
  | error e => exact hx pins H s e s' I hq
  | ok fl =>
    cases fl with
    | ret u => exact I.after hq
    | next => exact False.elim hq
    | brk => exact False.elim hq
    | cont => exact False.elim hq
section
variable {X : Cx} {c : Cl} {W : WX} {pos p : Pos} {e : Expr} {es : List Expr} {ms : M (List D)} {x : Str} {k n : Nat} {fn : Fn} {t : TA}
theorem pe_callR {f : Addr} {sp : Sp} {E : St → XK} (F : FnRG X.prog X.w X.K X.mg X.base (L2.CX X.prog X.w) k f sp) (hr : RoomG k X.A) (hg : Gl X x) (hm : X.mg x = some (.ref f)) (hk : PySem.W.keepIn X.K (.ref f) = true) (hx : ∀ σ, PassesAt (L2.CX X.prog X.w) X σ (E σ))
    (ha : PA X (e :: es) t) (hdb : (x == ("__debug__" : Str)) = false := by decide) (he : starEach (e :: es) X.env = (false, eval e X.env) :: starEach es X.env := by rfl) (hpl : (backTo pos (starEach es X.env)).any (·.1) = false := by rfl) :
    PE X (.Call (.Name x p) (e :: es) [] pos) (tCallS sp E t) := by
  refine ⟨fun pins s σ H Q I h => ?_⟩
  refine wpAny_Call_Name_kw (ld_glob I hg hm ?_ hdb)
  refine PySem.W.callWith_K (h₀ := X.base) I.ok.mod.kin hk (thn (ha.run pos pins s σ H _ I h) fun us s1 ⟨vs, H1, I1, r, q⟩ => ⟨I1.kIn, ?_⟩) he hpl
  exact run_R F hr (hx σ) I1 r q
theorem de_call (Fd : Df X.prog X.w X.K X.mg X.base c x k n fn) (tk : Takes X W) (hr : RoomG k X.A) (hl : ML n ms) (ha : PA X (e :: es) (tA X.K c W ms)) (hg : Gl X x := by rfl) (hdb : (x == ("__debug__" : Str)) = false := by decide)
    (he : starEach (e :: es) X.env = (false, eval e X.env) :: starEach es X.env := by rfl) (hpl : (backTo pos (starEach es X.env)).any (·.1) = false := by rfl) :
    PE X (.Call (.Name x p) (e :: es) [] pos) (tE X.K c W (mCall fn ms)) := by
  obtain ⟨f, Fk, hm, hk⟩ := Fd.ex
  refine PE.weak (pe_callR (E := WE W) Fk hr hg hm hk (fun σ => passAt tk σ) ha hdb he hpl) fun σ H Q h => ?_
  obtain ⟨F, G, P, env, R, h⟩ := h
  unfold mCall M.bind at h
  refine ⟨F, G, P, env, R, ?_⟩
  cases q : ms env with
  | bad => rw [q] at h; exact h
  | exc xx e1 => rw [q] at h; exact h
  | ok ds e1 =>
    rw [q] at h
    exact fun G1 H1 P1 x1 k1 R1 vs rs => call_vals R1 rs (hl env ds e1 q) (Post.chain h x1 k1)
/-- f() -/
theorem de_call0 (Fd : Df X.prog X.w X.K X.mg X.base c x k 0 fn) (tk : Takes X W) (hr : RoomG k X.A) (hg : Gl X x := by rfl) (hdb : (x == ("__debug__" : Str)) = false := by decide) : PE X (.Call (.Name x p) [] [] pos) (tE X.K c W (mCall fn mNil)) := by
  obtain ⟨f, Fk, hm, hk⟩ := Fd.ex
  refine ⟨fun pins s σ H Q I h => ?_⟩
  refine wpAny_Call_Name_kw (ld_glob I hg hm ?_ hdb)
  obtain ⟨F, G, P, env, R, h⟩ := h
  exact PySem.W.callWith_K0 I.kIn hk (run_R (us := []) Fk hr (passAt tk σ) I .nil (call_vals R .nil rfl h))
theorem de_callL {i : Nat} {y : Str} {py : Pos} (Fd : Df X.prog X.w X.K X.mg X.base c x k (n + 1) fn) (tk : Takes X W) (hr : RoomG k X.A) (hl : ML n ms) (ha : PA X es (tA X.K c W ms)) (hg : Gl X x := by rfl)
    (hN : X.N[i]? = some y := by rfl) (hv : Vis X.env.scope y := by first | exact Or.inl rfl | exact Or.inr (Or.inl rfl) | exact Or.inr (Or.inr rfl)) (hdb : (x == ("__debug__" : Str)) = false := by decide) (hdy : (y == ("__debug__" : Str)) = false := by decide) (hcy : (y == ("__classdict__" : Str)) = false := by decide)
    (he : starEach (.Name y py :: es) X.env = (false, eval (.Name y py) X.env) :: starEach es X.env := by rfl) (hpl : (backTo pos (starEach es X.env)).any (·.1) = false := by rfl) :
    PE X (.Call (.Name x p) (.Name y py :: es) [] pos) (tE X.K c W (mCallL fn i ms)) := by
  obtain ⟨f, Fk, hm, hk⟩ := Fd.ex
  refine PE.weak (pe_callR (E := WE W) Fk hr hg hm hk (fun σ => passAt tk σ) (pa_cons (pe_var (i := i) hN hv hdy hcy) ha he) hdb he hpl) fun σ H Q h => ?_
  obtain ⟨F, G, P, env, R, h⟩ := h
  unfold mCallL at h
  cases e0 : env[i]? with
  | none => rw [e0] at h; exact h.elim
  | some s0 =>
    rw [e0] at h
    cases s0 with
    | no => exact h.elim
    | val _ => exact h.elim
    | cell l0 z0 =>
      obtain ⟨p0, x0, _, hσ, r0⟩ := R.all.get e0
      cases r0 with
      | cell r0 =>
        rename_i v0
        refine ⟨v0, hσ, F, G, P, env, R, ?_⟩
        have h : Post X.K c W F G P σ env (M.bind ms _ env) _ := h
        unfold M.bind at h
        cases q : ms env with
        | bad => rw [q] at h; exact h
        | exc xx e1 => rw [q] at h; exact h
        | ok ds e1 =>
          rw [q] at h
          intro G1 H1 P1 x1 k1 R1 vs rs
          have h := Post.chain h x1 k1
          dsimp only at h
          cases e2 : e1[i]? with
          | none => rw [e2] at h; exact h.elim
          | some s2 =>
            rw [e2] at h
            cases s2 with
            | no => exact h.elim
            | val _ => exact h.elim
            | cell l z => exact call_lent R1 rs (by rw [hl env ds e1 q]) e2 hσ h
end
/-- a def that returns a new thing of its own -/
structure DfO (P : Program) (w : World) (K : PySem.W.Frag) (mg : Str → Option Value) (base : Heap) (c : Cl) (x : Str) (k n : Nat) (fn : FnO) : Prop where
  ex : ∃ f : Addr, FnRG P w K mg base (L2.CX P w) k f (spO K c n fn) ∧ mg x = some (.ref f) ∧ PySem.W.keepIn K (.ref f) = true
def mCallO (f : FnO) (ms : M (List D)) : M Cell := M.bind ms fun ds env => match f ds with
  | .ok z _ => .ok z env
  | .exc x _ => .exc x env
  | .bad => .bad
section
variable {X : Cx} {c : Cl} {W : WX} {pos p : Pos} {e : Expr} {es : List Expr} {ms : M (List D)} {x : Str} {k n : Nat} {fn : FnO} {t : TA}
theorem do_call (Fd : DfO X.prog X.w X.K X.mg X.base c x k n fn) (tk : Takes X W) (hr : RoomG k X.A) (hl : ML n ms) (ha : PA X (e :: es) (tA X.K c W ms)) (hg : Gl X x := by rfl) (hdb : (x == ("__debug__" : Str)) = false := by decide)
    (he : starEach (e :: es) X.env = (false, eval e X.env) :: starEach es X.env := by rfl) (hpl : (backTo pos (starEach es X.env)).any (·.1) = false := by rfl) :
    PE X (.Call (.Name x p) (e :: es) [] pos) (tO X.K c W (mCallO fn ms)) := by
  obtain ⟨f, Fk, hm, hk⟩ := Fd.ex
  refine PE.weak (pe_callR (E := WE W) Fk hr hg hm hk (fun σ => passAt tk σ) ha hdb he hpl) fun σ H Q h => ?_
  obtain ⟨F, G, P, env, R, h⟩ := h
  unfold mCallO M.bind at h
  refine ⟨F, G, P, env, R, ?_⟩
  cases q : ms env with
  | bad => rw [q] at h; exact h
  | exc xx e1 => rw [q] at h; exact h
  | ok ds e1 =>
    rw [q] at h
    intro G1 H1 P1 x1 k1 R1 vs rs
    have h := Post.chain h x1 k1
    dsimp only at h
    refine ⟨G1, ds, by rw [rs.length, hl env ds e1 q], R1.gs, rs, ⟨R1.tb.tabs, R1.tb.ng⟩, ?_⟩
    cases q2 : fn ds with
    | bad => rw [q2] at h; exact h
    | exc xx s =>
      rw [q2] at h
      intro G' H' cv dd pu rx
      obtain ⟨x2, R2⟩ := R1.pure pu
      exact h G' H' P1 cv dd x2 (Keep.refl _ _) R2 rx
    | ok z s =>
      rw [q2] at h
      intro G' H' v p pu ca nd out
      obtain ⟨x2, R2⟩ := R1.pure pu
      refine h G' H' P1 x2 (Keep.refl _ _) R2 v p ca nd fun b hb => ⟨none_of (same_nt R1.fs R1.tb.nf) (out b hb).1, (out b hb).2, fun hb2 => ?_⟩
      obtain ⟨q, hq, hb2⟩ := List.mem_flatten.mp hb2
      obtain ⟨i, hi, e⟩ := List.mem_iff_getElem.mp hq
      have hl := R1.all.len
      have e1' : P1[i]? = some q := by rw [List.getElem?_eq_getElem hi, e]
      obtain ⟨s, hs⟩ : ∃ s, e1[i]? = some s := ⟨e1[i]'(by omega), by simp [show i < e1.length by omega]⟩
      obtain ⟨p', x, e2, _, r⟩ := R1.all.get hs
      rw [e1'] at e2; cases e2
      cases r with
      | no => cases hb2
      | val _ => cases hb2
      | cell z =>
        obtain ⟨o', h1, h2⟩ := cell_obj z b hb2
        have := (out b hb).1
        rw [nt_at h1 h2] at this
        cases this
end
/-! ### instances with slots -/
/-- a class of one's own: its place, its __init__ -/
structure Ck (P : Program) (w : World) (K : PySem.W.Frag) (mg : Str → Option Value) (base : Heap) (c : Cl) (x : Str) (cl : Nat) (k n : Nat) (fn : Fn) : Prop where
  at_ : mg x = some (.ref (c.cls cl))
  ex : ∃ f : Addr, Mk K (c.cls cl) f ∧ FnRG P w K mg base (L2.CX P w) k f (spD K c (n + 1) fn)
/-- C(..) -/
def mMake (cl : Nat) (f : Fn) (ms : M (List D)) : M D := M.bind ms fun ds env => match f (.cell true (.ob cl []) :: ds.map .val) with
  | .ok .non (.cell true z :: _) => match z.frz with
    | some d => .ok d env
    | none => .bad
  | .exc x (.cell true _ :: _) => .exc x env
  | _ => .bad
section
variable {K : PySem.W.Frag} {c : Cl} {W : WX} {F G G1 H H1 : Hp} {P P1 : List (List Addr)} {σ : St} {env env1 : Ev}
theorem make_vals {n cl : Nat} {f : Fn} {vs : List V} {ds : List D} {Q : VK} {x dx : Addr} (R : Rel K c F G H P σ env) (r : Reps K c G vs ds) (hn : ds.length = n) (nx : H x = none) (nd : H dx = none) (ne : dx ≠ x)
    (h : Post K c W F G P σ env (match f (.cell true (.ob cl []) :: ds.map .val) with
      | .ok .non (.cell true z :: _) => match z.frz with
        | some d => .ok d env
        | none => .bad
      | .exc x (.cell true _ :: _) => .exc x env
      | _ => .bad) fun d G' H' _ => ∀ v, Rep K c G' v d → Q v H') :
    spD K c (n + 1) f (.ref x :: vs) (upd (upd H dx (.own x)) x (.ins (c.cls cl) dx [])) (fun v H2 => v = .non ∧ Q (.ref x) H2) (WE W σ) := by
  have h0 : Same H (upd (upd H dx (.own x)) x (.ins (c.cls cl) dx [])) := fun b o e => by
    rw [upd_ne (ne_of_none e nx), upd_ne (ne_of_none e nd)]; exact e
  have fl : ([x, dx] :: ds.map fun _ => ([] : List Addr)).flatten = [x, dx] := by rw [List.flatten_cons, flat_nil, List.append_nil]
  have two : ∀ b, b ∈ [x, dx] → H b = none := fun b hb => by
    rcases (by simpa using hb : b = x ∨ b = dx) with e | e
    · rw [e]; exact nx
    · rw [e]; exact nd
  have Rc : Rel K c (nt H) G (upd (upd H dx (.own x)) x (.ins (c.cls cl) dx [])) ([x, dx] :: ds.map fun _ => []) ((.ref x :: vs).map some) (.cell true (.ob cl []) :: ds.map .val) := by
    refine ⟨(nt_same H).trans h0, R.gs.trans h0, .cons (.cell (.ob (.inl ⟨upd_same, rfl⟩) ne ?_ .nil)) (rels_vals r), fun b hb => ?_, ?_, ⟨R.tb.tabs.same h0, nt_not H, R.tb.ng⟩⟩
    · exact ⟨.own x, by rw [upd_ne ne, upd_same], fun _ z => nomatch z⟩
    · rw [fl] at hb; exact ⟨nt_none (two b hb), none_of R.gs (two b hb)⟩
    · rw [fl]; simp; exact fun e => ne e.symm
  refine ⟨nt H, G, _, _, by simpa using by rw [r.length]; exact hn, Rc, all_vals ds, ?_⟩
  cases q : f (.cell true (.ob cl []) :: ds.map .val) with
  | bad => rw [q] at h; exact h
  | ok d s =>
    rw [q] at h
    intro G' H' P' xx k R' v rr
    cases rr with
    | non =>
      refine ⟨rfl, ?_⟩
      match s, h, k, R' with
      | [], h, _, _ => exact h.elim
      | .no :: _, h, _, _ => exact h.elim
      | .val _ :: _, h, _, _ => exact h.elim
      | .cell false _ :: _, h, _, _ => exact h.elim
      | .cell true z :: s', h, k, R' =>
        dsimp only at h
        cases ez : z.frz with
        | none => rw [ez] at h; exact h.elim
        | some d =>
          rw [ez] at h
          have q0 := (k.at_ 0 _ rfl).1
          cases hP : P' with
          | nil => rw [hP] at q0; cases q0
          | cons p' P'' =>
            rw [hP] at q0 R'
            have : p' = [x, dx] := by simpa using q0
            subst this
            obtain ⟨_, x', a1, a2, a3⟩ := R'.all.get (i := 0) (s := .cell true z) rfl
            simp at a1 a2
            subst a1 a2
            cases a3 with
            | cell ca =>
              have oo : ∀ b, b ∈ [x, dx] → G' b = none := fun b hb => (R'.out b (by rw [List.flatten_cons]; exact List.mem_append_left _ hb)).2
              obtain ⟨s1, s2, rr⟩ := ca.frz R'.gs oo ez
              obtain ⟨e1, R1⟩ := R.pure (G' := frzH G' H' [x, dx]) (H' := H') ⟨xx.same.trans s1, nt_ext R'.fs, s2, fun b o h1 hnt h2 => by
                unfold frzH
                rw [if_neg fun hb => by rw [two b hb] at h1; cases h1]
                exact xx.fresh b h2 (by rw [nt_at h1 hnt]; exact fun z => nomatch z), fun _ => R'.tb.tabs.mono s1, fun _ => not_frz R'.tb.ng ca⟩
              exact h _ _ P e1 (Keep.refl _ _) R1 _ rr
    | _ => exact h.elim
  | exc xn s =>
    rw [q] at h
    intro G' H' P' cv dd xx k R' rr
    match s, h with
    | [], h => exact h.elim
    | .no :: _, h => exact h.elim
    | .val _ :: _, h => exact h.elim
    | .cell false _ :: _, h => exact h.elim
    | .cell true z :: s', h =>
      obtain ⟨e1, R1⟩ := R.pure (G' := G') (H' := H') (R'.toPure xx)
      exact h G' H' P cv dd e1 (Keep.refl _ _) R1 rr
end
section
variable {X : Cx} {c : Cl} {W : WX} {pos p : Pos} {e : Expr} {es : List Expr} {ms : M (List D)} {x : Str} {k n cl : Nat} {fn : Fn} {t : TA}
theorem run_makeD {pins : List (Addr × Obj)} {σ : St} {H : Hp} {s : Shared} {Q : VK} {us : List Value} {vs : List V} {C f : Addr} {sp : Sp} {E : XK} (M : Mk X.K C f) (F : FnRG X.prog X.w X.K X.mg X.base (L2.CX X.prog X.w) k f sp) (hr : RoomG (k + 1) X.A) (hx : PassesAt (L2.CX X.prog X.w) X σ E) (I : Inv X pins σ H s) (r : Vals vs us)
    (h : ∀ x dx, H x = none → H dx = none → dx ≠ x → sp (.ref x :: vs) (upd (upd H dx (.own x)) x (.ins C dx [])) (fun v H2 => v = .non ∧ Q (.ref x) H2) E) :
    wpAny (model X.prog X.w) X.A (call (.ref C) us) (EP X pins σ Q) X.xe s := by
  have hq := h (s.heap.objs.size + 1) s.heap.objs.size (I.hok.fresh (Nat.le_succ _)) (I.hok.fresh (Nat.le_refl _)) (Nat.ne_of_lt (Nat.lt_succ_self _))
  have I2 := Inv.made (C := C) I
  have r2 : Vals (V.ref (s.heap.objs.size + 1) :: vs) (Value.ref (s.heap.objs.size + 1) :: us) := .cons rfl r
  refine wpAny_call (make_map (f := f) I.kIn M.makes M.init (beq_iff_eq.mp M.fn) (codeAny_mono (F _ X.stack _ _ (Value.ref (s.heap.objs.size + 1) :: us) _ _ E (hr.make C us [])
    (I2.env0.make C us []) r2 hq) fun r s' hq' => ?_))
  cases r with
  | error e => exact hx pins _ _ e s' I2 hq'
  | ok fl =>
    cases fl with
    | ret u =>
      obtain ⟨v, H', I3, rv, ev, q3⟩ := I2.after hq'
      subst ev
      exact ⟨rv, ⟨V.ref (s.heap.objs.size + 1), H', I3, rfl, q3⟩⟩
    | next => exact False.elim hq'
    | brk => exact False.elim hq'
    | cont => exact False.elim hq'
theorem de_make (Ckk : Ck X.prog X.w X.K X.mg X.base c x cl k n fn) (tk : Takes X W) (hr : RoomG (k + 1) X.A) (hl : ML n ms) (ha : PA X (e :: es) (tA X.K c W ms)) (hg : Gl X x := by rfl) (hdb : (x == ("__debug__" : Str)) = false := by decide)
    (he : starEach (e :: es) X.env = (false, eval e X.env) :: starEach es X.env := by rfl) (hpl : (backTo pos (starEach es X.env)).any (·.1) = false := by rfl) :
    PE X (.Call (.Name x p) (e :: es) [] pos) (tE X.K c W (mMake cl fn ms)) := by
  obtain ⟨hm, f, Mk, Fk⟩ := Ckk
  refine ⟨fun pins s σ H Q I h => ?_⟩
  refine wpAny_Call_Name_kw (ld_glob I hg hm ?_ hdb)
  obtain ⟨F, G, P, env, R, h⟩ := h
  unfold mMake M.bind at h
  have ht : tA X.K c W ms σ H fun vs H1 => ∀ x dx, H1 x = none → H1 dx = none → dx ≠ x → spD X.K c (n + 1) fn (.ref x :: vs) (upd (upd H1 dx (.own x)) x (.ins (c.cls cl) dx [])) (fun v H2 => v = .non ∧ Q (.ref x) H2) (WE W σ) := by
    refine ⟨F, G, P, env, R, ?_⟩
    cases q : ms env with
    | bad => rw [q] at h; exact h
    | exc xx e1 => rw [q] at h; exact h
    | ok ds e1 =>
      rw [q] at h
      exact fun G1 H1 P1 x1 k1 R1 vs rs xa dx nx nd ne => make_vals R1 rs (hl env ds e1 q) nx nd ne (Post.chain h x1 k1)
  refine PySem.W.callWith_K (h₀ := X.base) I.ok.mod.kin Mk.kp (thn (ha.run pos pins s σ H _ I ht) fun us s1 ⟨vs, H1, I1, r, q⟩ => ⟨I1.kIn, ?_⟩) he hpl
  exact run_makeD Mk Fk hr (passAt tk σ) I1 r q
/-- the slot f of the classes of a table: at these places -/
structure Sf (K : PySem.W.Frag) (c : Cl) (f : Str) (tb : List (Nat × Nat)) : Prop where
  at_ : ∀ n i, tb.lookup n = some i → SlX.SCls K (c.cls n) ∧ ∃ p, SlX.Slot1 K (c.cls n) f p i
def mAttr (tb : List (Nat × Nat)) (m : M D) : M D := M.bind m fun d => match d with
  | .obj n fs => match tb.lookup n with
    | some i => M.opt fs[i]?
    | none => fun _ => .bad
  | _ => fun _ => .bad
theorem de_attr {f : Str} {tb : List (Nat × Nat)} {m : M D} (S : Sf X.K c f tb) (he : PE X e (tE X.K c W m)) (hb : attributeBase e f X.env (eval e X.env) = eval e X.env := by rfl) : PE X (.Attribute e f pos) (tE X.K c W (mAttr tb m)) := by
  refine PE.weak (SlX.pe_sl he hb) fun σ H Q h => ?_
  obtain ⟨F, G, P, env, R, h⟩ := h
  refine ⟨F, G, P, env, R, (Post.bind h).imp fun d G1 H1 P1 _ ⟨env1, R1, h1⟩ v r => ?_⟩
  cases r with
  | @obj a dx vs fs n h0 rs =>
    dsimp only at h1
    cases e1 : tb.lookup n with
    | none => rw [e1] at h1; exact h1.elim
    | some i =>
      rw [e1] at h1
      obtain ⟨d, e2, h1⟩ := Post.opt h1
      obtain ⟨hc, p, hs⟩ := S.at_ n i e1
      obtain ⟨v, e3, rv⟩ := rs.get e2
      exact ⟨a, _, dx, p, _, i, v, rfl, Same.slt R1.gs h0, hc, hs, by rw [List.getElem?_map, e3]; rfl, Post.here R1 h1 v rv⟩
  | _ => exact h1.elim
/-- self.f = e, in __init__ (self in slot j) -/
def putO (i : Nat) (d : D) (fs : List (Option D)) : List (Option D) := (fs ++ List.replicate (i + 1 - fs.length) none).set i (some d)
def mSetF (j cl i : Nat) (m : M D) : MS := M.bind m fun d env => match env[j]? with
  | some (.cell l (.ob n fs)) => if n = cl then .ok .next (env.set j (.cell l (.ob cl (putO i d fs)))) else .bad
  | _ => .bad
theorem repO_len {K : PySem.W.Frag} {G : Hp} {vs : List (Option V)} {fs : List (Option D)} (r : RepO K c G vs fs) : vs.length = fs.length := by
  induction r with
  | nil => rfl
  | none _ ih => simp [ih]
  | some _ _ ih => simp [ih]
theorem repO_app {K : PySem.W.Frag} {G : Hp} {vs : List (Option V)} {fs : List (Option D)} (r : RepO K c G vs fs) : ∀ n, RepO K c G (vs ++ List.replicate n none) (fs ++ List.replicate n none) := by
  intro n
  induction r with
  | nil =>
    induction n with
    | zero => exact .nil
    | succ n ih => exact .none ih
  | none _ ih => exact .none ih
  | some h _ ih => exact .some h ih
theorem repO_set {K : PySem.W.Frag} {G : Hp} {v : V} {d : D} (h : Rep K c G v d) {vs : List (Option V)} {fs : List (Option D)} (r : RepO K c G vs fs) : ∀ i, RepO K c G (vs.set i (some v)) (fs.set i (some d)) := by
  induction r with
  | nil => intro i; exact .nil
  | none t ih =>
    intro i
    cases i with
    | zero => exact .some h t
    | succ i => exact .none (ih i)
  | some q t ih =>
    intro i
    cases i with
    | zero => exact .some h t
    | succ i => exact .some q (ih i)
theorem ds_setF {j i : Nat} {y f : Str} {py pos' : Pos} {value : Expr} {m : M D} (hc : SlX.SCls X.K (c.cls cl)) (hs : ∃ p, SlX.Slot1 X.K (c.cls cl) f p i) (hv : PE X value (tE X.K c W m)) (hN : X.N[j]? = some y := by rfl)
    (hvs : Vis X.env.scope y := by first | exact Or.inl rfl | exact Or.inr (Or.inl rfl) | exact Or.inr (Or.inr rfl)) (hdy : (y == ("__debug__" : Str)) = false := by decide) (hcy : (y == ("__classdict__" : Str)) = false := by decide)
    (hsw : swapsWith value (some (.Attribute (.Name y py) f pos')) pos.line X.env = pure false := by rfl) : PS X (.Assign [.Attribute (.Name y py) f pos'] value pos) (tS X.K c W (mSetF j cl i m)) := by
  obtain ⟨p, hs⟩ := hs
  refine PS.weak (SlX.ps_sl (pe_var (i := j) hN hvs hdy hcy) hv hsw) fun D σ H h => ?_
  obtain ⟨F, G, P, env, R, h⟩ := h
  refine ⟨F, G, P, env, R, (Post.bindS h).imp fun d G1 H1 P1 _ ⟨env1, R1, h1⟩ v r => ?_⟩
  cases e : env1[j]? with
  | none => rw [e] at h1; exact h1.elim
  | some s =>
    rw [e] at h1
    cases s with
    | no => exact h1.elim
    | val _ => exact h1.elim
    | cell l z =>
      cases z with
      | lst _ => exact h1.elim
      | dct _ => exact h1.elim
      | ob n fs =>
        dsimp only at h1
        split at h1
        · rename_i hn
          subst hn
          obtain ⟨q, x, e1, e2, ca⟩ := R1.all.get e
          cases ca with
          | cell ca =>
            cases ca with
            | ob hslt hne hdn ro =>
              rename_i a dx vs
              refine ⟨_, e2, a, _, dx, p, vs, i, rfl, hslt, hc, hs, ?_⟩
              have out : ∀ b, b ∈ [a, dx] → F b = none ∧ G1 b = none := fun b hb => R1.out b (mem_flat e1 hb)
              have nn : ∀ b, b ∉ [a, dx] → SlX.slH H1 a (c.cls n) dx (SlX.putS i v vs) b = H1 b := fun b hb => SlX.slH_ne (fun z => hb (by simp [z])) (fun z => hb (by simp [z]))
              have sm : ∀ {F : Hp}, Same F H1 → (∀ b, b ∈ [a, dx] → F b = none) → Same F (SlX.slH H1 a (c.cls n) dx (SlX.putS i v vs)) := fun {F} h1 h2 b o ho => by
                rw [nn b fun z => by rw [h2 b z] at ho; cases ho]
                exact h1 b o ho
              have hσ : σ.set j (some (.ref a)) = σ := by
                apply List.ext_getElem?
                intro t
                by_cases hj : j = t
                · subst hj
                  rw [List.getElem?_set_self (by have := List.getElem?_eq_some_iff.mp e2; exact this.1), e2]
                · rw [List.getElem?_set_ne hj]
              have hP : P1.set j [a, dx] = P1 := by
                apply List.ext_getElem?
                intro t
                by_cases hj : j = t
                · subst hj
                  rw [List.getElem?_set_self (by have := List.getElem?_eq_some_iff.mp e1; exact this.1), e1]
                · rw [List.getElem?_set_ne hj]
              have ca' : CellAt X.K c G1 (SlX.slH H1 a (c.cls n) dx (SlX.putS i v vs)) [a, dx] (.ref a) (.ob n (putO i d fs)) := by
                refine .ob (SlX.slH_slt hne) hne ?_ ?_
                · exact ⟨.xd [], by unfold SlX.slH; rw [upd_ne hne, upd_same], fun _ z => nomatch z⟩
                · unfold SlX.putS putO
                  rw [repO_len ro]
                  exact repO_set r (repO_app ro _) i
              have R2 : Rel X.K c F G1 (SlX.slH H1 a (c.cls n) dx (SlX.putS i v vs)) P1 σ (env1.set j (.cell l (.ob n (putO i d fs)))) := by
                have n1 : ∀ ps, H1 a ≠ some (.tbl ps) := fun ps z => by
                  obtain ⟨o, o1, o2⟩ := R1.all.obj a (mem_flat e1 (by simp))
                  rw [z] at o1; cases o1; exact o2 ps rfl
                have n2 : ∀ ps, H1 dx ≠ some (.tbl ps) := fun ps z => by
                  obtain ⟨o, o1, o2⟩ := R1.all.obj dx (mem_flat e1 (by simp))
                  rw [z] at o1; cases o1; exact o2 ps rfl
                have tb2 : Tb c F G1 (SlX.slH H1 a (c.cls n) dx (SlX.putS i v vs)) := by
                  unfold SlX.slH
                  exact (R1.tb.upd n2).upd fun ps => by rw [upd_ne (Ne.symm hne)]; exact n1 ps
                refine ⟨sm R1.fs fun b hb => (out b hb).1, sm R1.gs fun b hb => (out b hb).2, ?_, R1.out, R1.nd, tb2⟩
                -- the others
                have gen : ∀ {P : List (List Addr)} {σ : St} {env : Ev}, Rels X.K c G1 H1 P σ env → ∀ j, P[j]? = some [a, dx] → σ[j]? = some (some (.ref a)) → (∀ (t : Nat) (pt : List Addr), t ≠ j → P[t]? = some pt → ∀ b, b ∈ pt → b ∉ [a, dx]) →
                    Rels X.K c G1 (SlX.slH H1 a (c.cls n) dx (SlX.putS i v vs)) P σ (env.set j (.cell l (.ob n (putO i d fs)))) := by
                  intro P σ env h
                  induction h with
                  | nil => intro j hj; simp at hj
                  | cons q t ih =>
                    intro j hp hσ mv
                    cases j with
                    | zero =>
                      simp at hp hσ
                      subst hp hσ
                      refine .cons (.cell ca') (t.move (Same.refl _) fun b hb o ho => ?_)
                      obtain ⟨pj, hm, hb⟩ := List.mem_flatten.mp hb
                      obtain ⟨u, hu, eu⟩ := List.mem_iff_getElem.mp hm
                      rw [nn b (mv (u + 1) pj (by omega) (by rw [List.getElem?_cons_succ, List.getElem?_eq_getElem hu, eu]) b hb)]
                      exact ho
                    | succ j =>
                      refine .cons (q.move (Same.refl _) fun b hb o ho => by rw [nn b (mv 0 _ (by omega) rfl b hb)]; exact ho) (ih j (by simpa using hp) (by simpa using hσ) fun t pt ht hpt => mv (t + 1) pt (by omega) (by simpa using hpt))
                exact gen R1.all j e1 e2 fun t pt ht hpt b hb hb2 => ht (nd_at R1.nd hpt e1 hb hb2)
              refine PostS.here R2 (h1.chain (Ext.refl _ _) ⟨by simp, fun t z ht => ⟨rfl, ?_⟩⟩)
              by_cases hj : j = t
              · subst hj
                rw [e] at ht
                cases ht
                exact ⟨_, by rw [List.getElem?_set_self (by have := List.getElem?_eq_some_iff.mp e; exact this.1)]⟩
              · rw [List.getElem?_set_ne hj]; exact ⟨z, ht⟩
        · exact h1.elim
end
end L2.DL
set_option Elab.async false
set_option linter.all false
set_option maxRecDepth 100000
set_option maxHeartbeats 4000000
namespace L2.DL
open PySem PySem.Spec PyProof.Rows
/-! ### while -/
def whileN : Nat → M Bool → MS → MS
  | 0, _, _ => fun _ => .bad
  | n + 1, t, b => fun e => match t e with
    | .ok true e1 => match b e1 with
      | .ok .next e2 => whileN n t b e2
      | .ok .cont e2 => whileN n t b e2
      | .ok .brk e2 => .ok .next e2
      | .ok (.ret d) e2 => .ok (.ret d) e2
      | .ok (.retO d) e2 => .ok (.retO d) e2
      | .exc x e2 => .exc x e2
      | .bad => .bad
    | .ok false e1 => .ok .next e1
    | .exc x e1 => .exc x e1
    | .bad => .bad
/-- 2^40 turns at most -/
def mWhile (t : M Bool) (b : MS) : MS := whileN 1099511627776 t b
section
variable {X : Cx} {c : Cl} {W : WX} {pos : Pos}
theorem ds_while {t : Expr} {body : List Stmt} {mt : M Bool} {mb : MS} (hp : PassesOwn (model X.prog X.w) X.A X.env X.xe) (ht : PT X t (tT X.K c W mt)) (hb : PSs X body (tS X.K c W mb)) : PS X (.While t body [] pos) (tS X.K c W (mWhile mt mb)) := by
  refine PS.weak (ps_while hp ht hb) fun D σ H h => ?_
  refine ⟨fun n σ H => ∃ F G P env, Rel X.K c F G H P σ env ∧ PostS X.K c W F G P env (whileN n mt mb env) D, ⟨_, h⟩, ?_⟩
  rintro n σ H ⟨F, G, P, env, R, h⟩
  cases n with
  | zero => exact h.elim
  | succ n =>
    refine ⟨F, G, P, env, R, ?_⟩
    unfold whileN at h
    cases q : mt env with
    | bad => rw [q] at h; exact h
    | exc x e1 => rw [q] at h; exact fun G' H' P' cv dd x1 k1 R1 => h G' H' P' σ cv dd x1 k1 R1
    | ok k e1 =>
      rw [q] at h
      intro G1 H1 P1 x1 k1 R1
      cases k with
      | false => exact PostS.here R1 (h.chain x1 k1)
      | true =>
        rw [if_pos rfl]
        refine ⟨fun σ' H' => ∃ F G P env, Rel X.K c F G H' P σ' env ∧ PostS X.K c W F G P env (whileN n mt mb env) D, fun σ' H' w => ⟨n, Nat.lt_succ_self _, w⟩, F, G1, P1, e1, R1, ?_⟩
        have h := PostS.chain h x1 k1
        dsimp only at h
        cases q2 : mb e1 with
        | bad => rw [q2] at h; exact h
        | exc x e2 => rw [q2] at h; exact h
        | ok f e2 =>
          rw [q2] at h
          cases f with
          | next => exact fun G' H' P' σ' x2 k2 R2 => ⟨F, G', P', e2, R2, h.chain x2 k2⟩
          | cont => exact fun G' H' P' σ' x2 k2 R2 => ⟨F, G', P', e2, R2, h.chain x2 k2⟩
          | brk => exact fun G' H' P' σ' x2 k2 R2 => h G' H' P' σ' x2 k2 R2
          | ret d => exact fun G' H' P' σ' x2 k2 R2 => h G' H' P' σ' x2 k2 R2
          | retO d => exact fun G' H' P' σ' x2 k2 R2 => h G' H' P' σ' x2 k2 R2
end
/-! ### targets -/
/-- data goes into a target -/
def PostU (K : PySem.W.Frag) (c : Cl) (ts : List Nat) (σ : St) (F G : Hp) (P : List (List Addr)) (env : Ev) (r : Option Ev) (Q : St → Hp → Prop) : Prop :=
  match r with
  | some env' => ∀ G' H' P' σ', Ext F G G' → Keep P P' env env' → Rel K c F G' H' P' σ' env' → (∀ j, j ∉ ts → σ'[j]? = σ[j]?) → Q σ' H'
  | none => False
/-- a target's mirror -/
abbrev TgM := D → Ev → Option Ev
abbrev TgMs := List D → Ev → Option Ev
def tG (K : PySem.W.Frag) (c : Cl) (ts : List Nat) (m : TgM) : TG := fun v σ H Q => ∃ F G P env d, Rel K c F G H P σ env ∧ Rep K c G v d ∧ PostU K c ts σ F G P env (m d env) Q
def tGs (K : PySem.W.Frag) (c : Cl) (ts : List Nat) (m : TgMs) : TGs := fun vs σ H Q => ∃ F G P env ds, Rel K c F G H P σ env ∧ Reps K c G vs ds ∧ PostU K c ts σ F G P env (m ds env) Q
def gSet (i : Nat) : TgM := fun d => setSl i (.val d)
def gsNil : TgMs
  | [], e => some e
  | _, _ => none
def gsCons (t : TgM) (u : TgMs) : TgMs
  | d :: ds, e => match t d e with
    | some e' => u ds e'
    | none => none
  | _, _ => none
/-- (a, b, ..): a tuple is taken apart -/
def gTupD (n : Nat) (u : TgMs) : TgM
  | .tup ds, e => if ds.length = n then u ds e else none
  | _, _ => none
section
variable {X : Cx} {c : Cl} {W : WX} {pos : Pos}
theorem PG.weak {e : Expr} {t t' : TG} (h : PG X e t) (w : ∀ v σ H Q, t' v σ H Q → t v σ H Q) : PG X e t' := ⟨fun pins s σ H v u Q I r q => h.run pins s σ H v u Q I r (w v σ H Q q)⟩
theorem PGs.weak {e : List Expr} {t t' : TGs} (h : PGs X e t) (w : ∀ v σ H Q, t' v σ H Q → t v σ H Q) : PGs X e t' := ⟨fun pins s σ H v u Q I r q => h.run pins s σ H v u Q I r (w v σ H Q q)⟩
theorem PostU.chain {K : PySem.W.Frag} {F G G1 : Hp} {P P1 : List (List Addr)} {env env1 : Ev} {r : Option Ev} {Q : St → Hp → Prop} {ts ts' : List Nat} {σ σ1 : St} (h : PostU K c ts σ F G P env r Q) (e : Ext F G G1) (q : Keep P P1 env env1)
    (hs : ∀ j, j ∉ ts → σ1[j]? = σ[j]?) (ht : ∀ j, j ∈ ts' → j ∈ ts) : PostU K c ts' σ1 F G1 P1 env1 r Q := by
  cases r with
  | some env' => exact fun G' H' P' σ' e1 q1 r a => h G' H' P' σ' (e.trans e1) (q.trans q1) r fun j hj => (a j fun z => hj (ht j z)).trans (hs j hj)
  | none => exact h.elim
theorem dg_name {i : Nat} {x : Str} (hN : X.N.Nodup) (hi : X.N[i]? = some x := by rfl) (hx : Loc X.env.scope x := by first | exact .inl rfl | exact .inr rfl) (hf : X.fn x = true ∨ X.env.scope.names.lookup x = some .local := by first | exact .inl rfl | exact .inr rfl) : PG X (.Name x pos) (tG X.K c [i] (gSet i)) := by
  refine PG.weak (pg_name hN hi hx hf) fun v σ H Q h => ?_
  obtain ⟨F, G, P, env, d, R, r, h⟩ := h
  unfold gSet at h
  cases q : setSl i (.val d) env with
  | none => rw [q] at h; exact h.elim
  | some e1 =>
    rw [q] at h
    obtain ⟨_, k, R2⟩ := R.setV r q
    exact h G H _ _ (Ext.refl _ _) k R2 fun j hj => List.getElem?_set_ne fun z => hj (by simp [z])
theorem dgs_nil : PGs X [] (tGs X.K c [] gsNil) := by
  refine PGs.weak pgs_nil fun vs σ H Q h => ?_
  obtain ⟨F, G, P, env, ds, R, r, h⟩ := h
  cases r with
  | nil => exact ⟨rfl, h G H P σ (Ext.refl _ _) (Keep.refl _ _) R fun _ _ => rfl⟩
  | cons _ _ => exact h.elim
theorem dgs_cons {e : Expr} {es : List Expr} {mt : TgM} {mu : TgMs} {ts us : List Nat} (h1 : PG X e (tG X.K c ts mt)) (h2 : PGs X es (tGs X.K c us mu)) (hs : (assignEach (e :: es) X.env).map (·.2) = assign e X.env :: (assignEach es X.env).map (·.2) := by rfl) : PGs X (e :: es) (tGs X.K c (ts ++ us) (gsCons mt mu)) := by
  refine PGs.weak (pgs_cons h1 h2 hs) fun vs σ H Q h => ?_
  obtain ⟨F, G, P, env, ds, R, r, h⟩ := h
  cases r with
  | nil => exact h.elim
  | cons q t =>
    rename_i v d vs ds
    refine ⟨v, vs, rfl, F, G, P, env, d, R, q, ?_⟩
    unfold gsCons at h
    cases e1 : mt d env with
    | none => simp only [e1] at h; exact h.elim
    | some env1 =>
      simp only [e1] at h
      exact fun G' H' P' σ' x k R' a => ⟨F, G', P', env1, ds, R', t.mono x.same, h.chain x k (fun j hj => a j fun z => hj (List.mem_append_left _ z)) fun j hj => List.mem_append_right _ hj⟩
theorem dg_tup {es : List Expr} {kk n : Nat} {mu : TgMs} {ts : List Nat} (h : PGs X es (tGs X.K c ts mu)) (hc : X.calm = true := by rfl) (hn : (assignEach es X.env).length = n := by rfl) (hst : (assignEach es X.env).findIdx? (·.1) = none := by rfl) : PG X (.Tuple es kk pos) (tG X.K c ts (gTupD n mu)) := by
  refine PG.weak (pg_tup hc h hn hst) fun v σ H Q h => ?_
  obtain ⟨F, G, P, env, d, R, r, h⟩ := h
  cases r with
  | tup hq rs =>
    rename_i a vs ds
    have h : PostU X.K c ts σ F G P env (if ds.length = n then mu ds env else none) Q := h
    split at h
    · rename_i hl
      exact ⟨a, vs, rfl, Same.seqT R.gs hq, by rw [rs.length, hl], F, G, P, env, ds, R, rs, h⟩
    · exact h.elim
  | _ => exact h.elim
/-- target = e -/
def mAsg (m : M D) (g : TgM) : MS := M.bind m fun d => M.upd (g d)
theorem ds_asg {tg e : Expr} {m : M D} {g : TgM} {ts : List Nat} (he : PE X e (tE X.K c W m)) (hg : PG X tg (tG X.K c ts g)) (hs : swapsWithSole [tg] e pos.line X.env = pure false := by rfl) (hw : swappedStores [tg] e X.env = pure none := by rfl)
    (h1 : (assignEach [tg] X.env).map (·.2) = [assign tg X.env] := by rfl) : PS X (.Assign [tg] e pos) (tS X.K c W (mAsg m g)) := by
  refine PS.weak (ps_asg he hg hs hw h1) fun D σ H h => ?_
  obtain ⟨F, G, P, env, R, h⟩ := h
  refine ⟨F, G, P, env, R, (Post.bindS h).imp fun d G1 H1 P1 _ ⟨env1, R1, h1⟩ v r => ⟨F, G1, P1, env1, d, R1, r, ?_⟩⟩
  unfold M.upd at h1
  cases q : g d env1 with
  | none => rw [q] at h1; exact h1.elim
  | some e1 =>
    rw [q] at h1
    exact fun G' H' P' σ' x k R' _ => PostS.here R' (h1.chain x k)
end
/-! ### what is walked -/
section
variable {X : Cx} {tg : Expr}
def iAny (K : PySem.W.Frag) (tl : TE) : TI := fun σ H R => tl σ H fun x H1 => (∃ a xs, x = .ref a ∧ SqL K H1 a xs ∧ R (Itl K a) H1) ∨ (∃ a xs, x = .ref a ∧ SqT K H1 a xs ∧ R (Itt K a) H1) ∨ ∃ z, x = .str z ∧ R (Its z) H1
theorem pi_any {l : Expr} {tl : TE} (hl : PE X l tl) : PI X tg l (iAny X.K tl) := by
  refine ⟨fun pins s σ H R I h => ?_⟩
  refine thn (hl.run pins s σ H _ I h) fun v s1 ⟨x, H1, I1, r1, q1⟩ => ?_
  rcases q1 with ⟨a, xs, e, hq, q⟩ | ⟨a, xs, e, hq, q⟩ | ⟨z, e, q⟩
  · subst e
    cases r1
    obtain ⟨its, rv, p, hz⟩ := I1.list hq
    refine wpAny_pyIter_list p.isList ?_
    refine ⟨s1.heap.objs.size, [s1.heap.objs.size], _, _, H1, rfl, I1.kept (t' := s1.toks) fun b o e => Heap.get?_push_of_some _ e, turn_list a _, ⟨_, Heap.get?_push_size _ rfl, rfl, rfl⟩, fun b hb => ?_, q⟩
    have e : b = s1.heap.objs.size := by simpa using hb
    subst e
    exact I1.fpOk (Nat.le_refl _) (I1.hok.fresh (Nat.le_refl _))
  · subst e
    cases r1
    obtain ⟨its, rv, p, hz⟩ := I1.tuple hq
    refine wpAny_pyIter_tuple (show s1.heap.IsTuple a its.toArray from p) ?_
    refine ⟨s1.heap.objs.size, [s1.heap.objs.size], _, _, H1, rfl, I1.kept (t' := s1.toks) fun b o e => Heap.get?_push_of_some _ e, turn_tuple a _, ⟨_, Heap.get?_push_size _ rfl, rfl, rfl⟩, fun b hb => ?_, q⟩
    have e : b = s1.heap.objs.size := by simpa using hb
    subst e
    exact I1.fpOk (Nat.le_refl _) (I1.hok.fresh (Nat.le_refl _))
  · subst e
    obtain ⟨t, rfl⟩ := r1
    cases ha : z.cps.all (· < 128)
    · exact wpAny_pyIter_wide ha (pi_one (tk := s1.toks) I1 _ (turn_str _ z t "str_iterator" (.inr rfl)) ⟨_, Heap.get?_push_size _ rfl, rfl, rfl⟩ q)
    · exact wpAny_pyIter_ascii ha (pi_one (tk := s1.toks) I1 _ (turn_str _ z t "str_ascii_iterator" (.inl rfl)) ⟨_, Heap.get?_push_size _ rfl, rfl, rfl⟩ q)
end
/-- the items come one by one, while G0 stands -/
structure Gives (K : PySem.W.Frag) (c : Cl) (G0 : Hp) (J : It) (ds : List D) : Prop where
  ex : ∃ (Gp : Hp → Prop) (Y : Nat → Hp → V → Hp → Prop), Walk J ds.length Gp Y ∧ (∀ H, Same G0 H → Gp H) ∧
    ∀ i H x H' G, i < ds.length → Same G0 G → Same G H → Y i H x H' → ∃ G' d, ds[i]? = some d ∧ Pure c H G H' G' ∧ Rep K c G' x d
def tI (K : PySem.W.Frag) (c : Cl) (W : WX) (m : M (List D)) : TI := fun σ H R => ∃ F G P env, Rel K c F G H P σ env ∧ Post K c W F G P σ env (m env) fun ds G' H' _ => ∀ J, Gives K c G' J ds → R J H'
def strItems (z : Str) : List D := z.cps.toList.map fun k => .str ⟨#[k]⟩
/-- the items of a list, a tuple, a text -/
def D.its : D → Option (List D)
  | .lst xs => some xs
  | .ro xs => some xs
  | .tup xs => some xs
  | .str z => some (strItems z)
  | _ => none
def mIter (m : M D) : M (List D) := M.bind m fun d => M.opt d.its
section
variable {X : Cx} {c : Cl} {W : WX} {pos : Pos} {tg : Expr}
theorem PI.weak {e : Expr} {t t' : TI} (h : PI X tg e t) (w : ∀ σ H Q, t' σ H Q → t σ H Q) : PI X tg e t' := ⟨fun pins s σ H Q I q => h.run pins s σ H Q I (w σ H Q q)⟩
theorem gives_list {K : PySem.W.Frag} {G0 : Hp} {a : Addr} {vs : List V} {ds : List D} (h : SqL K G0 a vs) (r : Reps K c G0 vs ds) : Gives K c G0 (Itl K a) ds := by
  rw [show ds = ds from rfl]
  refine ⟨⟨fun H => SqL K H a vs, YAt vs, by rw [← r.length]; exact walk_list, fun H hs => hs.seq h, fun i H x H' G _ g1 g2 y => ?_⟩⟩
  obtain ⟨e, y⟩ := y
  subst e
  obtain ⟨d, e1, rd⟩ := r.get' y
  exact ⟨G, d, e1, Pure.refl g2, rd.mono g1⟩
theorem gives_tup {K : PySem.W.Frag} {G0 : Hp} {a : Addr} {vs : List V} {ds : List D} (h : SqT K G0 a vs) (r : Reps K c G0 vs ds) : Gives K c G0 (Itt K a) ds := by
  refine ⟨⟨fun H => SqT K H a vs, YAt vs, by rw [← r.length]; exact walk_tup, fun H hs => Same.seqT hs h, fun i H x H' G _ g1 g2 y => ?_⟩⟩
  obtain ⟨e, y⟩ := y
  subst e
  obtain ⟨d, e1, rd⟩ := r.get' y
  exact ⟨G, d, e1, Pure.refl g2, rd.mono g1⟩
theorem gives_str {K : PySem.W.Frag} {G0 : Hp} {z : Str} : Gives K c G0 (Its z) (strItems z) := by
  refine ⟨⟨fun _ => True, fun i H v H' => H' = H ∧ ∃ k, z.cps[i]? = some k ∧ v = .str ⟨#[k]⟩, ?_, fun _ _ => trivial, ?_⟩⟩
  · have : (strItems z).length = z.cps.size := by simp [strItems]
    rw [this]
    exact walk_str
  · intro i H x H' G _ g1 g2 y
    obtain ⟨e, k, e1, e2⟩ := y
    subst e e2
    refine ⟨G, .str ⟨#[k]⟩, ?_, Pure.refl g2, .str _⟩
    unfold strItems
    rw [List.getElem?_map, Array.getElem?_toList, e1]
    rfl
theorem di_any {e : Expr} {m : M D} (he : PE X e (tE X.K c W m)) : PI X tg e (tI X.K c W (mIter m)) := by
  refine PI.weak (pi_any he) fun σ H R h => ?_
  obtain ⟨F, G, P, env, Rl, h⟩ := h
  refine ⟨F, G, P, env, Rl, (Post.bind h).imp fun d G1 H1 P1 _ ⟨env1, R1, h1⟩ v r => ?_⟩
  obtain ⟨ds, e, h1⟩ := Post.opt h1
  have h2 := Post.here R1 h1
  cases r with
  | lst hq rs => cases e; exact .inl ⟨_, _, rfl, SqL.of (R1.gs _ _ hq), h2 _ (gives_list (SqL.of hq) rs)⟩
  | ro hq rs => cases e; exact .inl ⟨_, _, rfl, R1.gs.seq hq, h2 _ (gives_list hq rs)⟩
  | tup hq rs => cases e; exact .inr (.inl ⟨_, _, rfl, Same.seqT R1.gs hq, h2 _ (gives_tup hq rs)⟩)
  | str z => cases e; exact .inr (.inr ⟨_, rfl, h2 _ gives_str⟩)
  | _ => cases e
/-- range(n), range(a, b) -/
def rangeD (a b : Int) : List D := (List.range (b - a).toNat).map fun i => .int (a + (i : Nat))
def fRange : List D → Option (List D)
  | [.int n] => if -4611686018427387904 ≤ n ∧ n < 4611686018427387904 then some (rangeD 0 n) else none
  | [.int a, .int b] => if -4611686018427387904 ≤ a ∧ a < 4611686018427387904 ∧ -4611686018427387904 ≤ b ∧ b < 4611686018427387904 then some (rangeD a b) else none
  | _ => none
def mRange (ms : M (List D)) : M (List D) := M.bind ms fun ds => M.opt (fRange ds)
theorem gives_range {K : PySem.W.Frag} {G0 : Hp} {a b : Int} : Gives K c G0 (Itr a (b - a).toNat) (rangeD a b) := by
  refine ⟨⟨fun _ => True, YFn fun i => .int (a + i), ?_, fun _ _ => trivial, ?_⟩⟩
  · have : (rangeD a b).length = (b - a).toNat := by simp [rangeD]
    rw [this]
    exact walk_range
  · intro i H x H' G hi g1 g2 y
    obtain ⟨e1, e2⟩ := y
    subst e1 e2
    refine ⟨G, .int (a + (i : Nat)), ?_, Pure.refl g2, .int _⟩
    unfold rangeD at hi ⊢
    rw [List.length_map, List.length_range] at hi
    rw [List.getElem?_map, List.getElem?_range hi]
    rfl
theorem di_range1 {a : Expr} {p : Pos} {ms : M (List D)} (hm : X.mg "range" = none) (ha : PA X [a] (tA X.K c W ms)) (hl : ML 1 ms) (hg : Gl X "range" := by rfl) (hs : starEach [a] X.env = [(false, eval a X.env)] := by rfl) : PI X tg (.Call (.Name "range" p) [a] [] pos) (tI X.K c W (mRange ms)) := by
  refine PI.weak (pi_range1 hg hm ha hs) fun σ H R h => ?_
  obtain ⟨F, G, P, env, Rl, h⟩ := h
  refine ⟨F, G, P, env, Rl, ?_⟩
  have hl := hl env
  unfold mRange at h
  have h := Post.bind h
  cases q : ms env with
  | bad => rw [q] at h; exact h
  | exc x e => rw [q] at h; exact h
  | ok ds e1 =>
    have hl := hl ds e1 q
    rw [q] at h
    intro G1 H1 P1 x1 k1 R1 vs rs
    obtain ⟨env1, R1', h1⟩ := h G1 H1 P1 x1 k1 R1
    obtain ⟨is, e, h1⟩ := Post.opt h1
    match ds, rs, hl, e with
    | [d], rs, _, e =>
      obtain ⟨v, rfl, r⟩ := rs.one
      cases r with
      | int n =>
        simp only [fRange] at e
        split at e
        · rename_i hb
          cases e
          refine ⟨n, rfl, by omega, by omega, ?_⟩
          have g := gives_range (c := c) (K := X.K) (G0 := G1) (a := 0) (b := n)
          rw [show (n - 0).toNat = n.toNat by rw [Int.sub_zero]] at g
          exact Post.here R1' h1 _ g
        · cases e
      | _ => cases e
theorem di_range2 {a b : Expr} {p : Pos} {ms : M (List D)} (hm : X.mg "range" = none) (ha : PA X [a, b] (tA X.K c W ms)) (hl : ML 2 ms) (hg : Gl X "range" := by rfl) (hs : starEach [a, b] X.env = [(false, eval a X.env), (false, eval b X.env)] := by rfl) (hs2 : starEach [b] X.env = [(false, eval b X.env)] := by rfl) :
    PI X tg (.Call (.Name "range" p) [a, b] [] pos) (tI X.K c W (mRange ms)) := by
  refine PI.weak (pi_range2 hg hm ha hs hs2) fun σ H R h => ?_
  obtain ⟨F, G, P, env, Rl, h⟩ := h
  refine ⟨F, G, P, env, Rl, ?_⟩
  have hl := hl env
  unfold mRange at h
  have h := Post.bind h
  cases q : ms env with
  | bad => rw [q] at h; exact h
  | exc x e => rw [q] at h; exact h
  | ok ds e1 =>
    have hl := hl ds e1 q
    rw [q] at h
    intro G1 H1 P1 x1 k1 R1 vs rs
    obtain ⟨env1, R1', h1⟩ := h G1 H1 P1 x1 k1 R1
    obtain ⟨is, e, h1⟩ := Post.opt h1
    match ds, rs, hl, e with
    | [d, d'], rs, _, e =>
      obtain ⟨v, v', rfl, r, r'⟩ := rs.two
      cases r with
      | int n =>
        cases r' with
        | int m =>
          simp only [fRange] at e
          split at e
          · rename_i hb
            cases e
            exact ⟨n, m, rfl, ⟨by omega, by omega, by omega, by omega⟩, Post.here R1' h1 _ gives_range⟩
          · cases e
        | _ => cases e
      | _ => cases e
end
/-! ### for -/
def forL (tg : TgM) (b : MS) : List D → MS
  | [] => M.next
  | d :: ds => fun e => match tg d e with
    | some e1 => match b e1 with
      | .ok .next e2 => forL tg b ds e2
      | .ok .cont e2 => forL tg b ds e2
      | .ok .brk e2 => .ok .next e2
      | .ok (.ret d) e2 => .ok (.ret d) e2
      | .ok (.retO d) e2 => .ok (.retO d) e2
      | .exc x e2 => .exc x e2
      | .bad => .bad
    | none => .bad
def mFor (mi : M (List D)) (tg : TgM) (b : MS) : MS := M.bind mi fun ds => forL tg b ds
section
variable {X : Cx} {c : Cl} {W : WX} {pos : Pos} {tg iter : Expr} {body : List Stmt} {mi : M (List D)} {mt : TgM} {mb : MS} {ts : List Nat}
theorem ds_for (hp : PassesOwn (model X.prog X.w) X.A X.env X.xe) (hi : PI X tg iter (tI X.K c W mi)) (hg : PG X tg (tG X.K c ts mt)) (hb : PSs X body (tS X.K c W mb)) (hc : X.calm = true := by rfl)
    (hs : ∀ x, foldedSetIterable iter X.env x = pure x := by intro _; rfl) : PS X (.For tg iter body [] pos) (tS X.K c W (mFor mi mt mb)) := by
  refine PS.weak (ps_for hp hc hi hg hb hs) fun D σ H h => ?_
  obtain ⟨F, G, P, env, R, h⟩ := h
  refine ⟨F, G, P, env, R, (Post.bindS h).imp fun ds G1 H1 P1 _ ⟨env1, R1, h1⟩ J gv => ?_⟩
  obtain ⟨Gp, Y, wk, hG, hY⟩ := gv.ex
  refine for_it wk (fun i σ H => ∃ G P env, Rel X.K c F G H P σ env ∧ Same G1 G ∧ PostS X.K c W F G P env (forL mt mb (ds.drop i) env) D) ⟨G1, P1, env1, R1, Same.refl _, h1⟩ ?_ ?_ ?_
  · rintro i σ H _ ⟨G, P, env, R, hs, _⟩
    exact hG H (hs.trans R.gs)
  · rintro i x σ H H' hi ⟨G, P, env, R, hs, h⟩ y
    obtain ⟨G', d, e1, pu, rd⟩ := hY i H x H' G hi hs R.gs y
    have ed : ds.drop i = d :: ds.drop (i + 1) := by
      have : ds[i]'hi = d := by
        rw [List.getElem?_eq_getElem hi] at e1
        exact Option.some.inj e1
      rw [List.drop_eq_getElem_cons hi, this]
    rw [ed] at h
    obtain ⟨x1, R'⟩ := R.pure pu
    refine ⟨F, G', P, env, d, R', rd, ?_⟩
    have h := h.chain x1 (Keep.refl _ _)
    unfold forL at h
    cases q : mt d env with
    | none => rw [q] at h; exact h.elim
    | some e1 =>
      rw [q] at h
      intro G2 H2 P2 σ2 x2 k2 R2 _
      refine ⟨F, G2, P2, e1, R2, ?_⟩
      have h := PostS.chain h x2 k2
      dsimp only at h
      cases q2 : mb e1 with
      | bad => rw [q2] at h; exact h
      | exc x e2 => rw [q2] at h; exact h
      | ok f e2 =>
        rw [q2] at h
        cases f with
        | next => exact fun G3 H3 P3 σ3 x3 k3 R3 => ⟨G3, P3, e2, R3, hs.trans (x1.same.trans (x2.same.trans x3.same)), h.chain x3 k3⟩
        | cont => exact fun G3 H3 P3 σ3 x3 k3 R3 => ⟨G3, P3, e2, R3, hs.trans (x1.same.trans (x2.same.trans x3.same)), h.chain x3 k3⟩
        | brk => exact fun G3 H3 P3 σ3 x3 k3 R3 => h G3 H3 P3 σ3 x3 k3 R3
        | ret d => exact fun G3 H3 P3 σ3 x3 k3 R3 => h G3 H3 P3 σ3 x3 k3 R3
        | retO d => exact fun G3 H3 P3 σ3 x3 k3 R3 => h G3 H3 P3 σ3 x3 k3 R3
  · rintro σ H ⟨G, P, env, R, hs, h⟩
    rw [List.drop_length] at h
    exact PostS.here R h
end
/-! ### list comprehensions -/
/-- the block's own names forgotten -/
def wipeE : List Nat → Ev → Ev
  | [], e => e
  | v :: vs, e => (wipeE vs e).set v .no
def noCells (vs : List Nat) (e : Ev) : Bool := vs.all fun v => match e[v]? with
  | some (.cell _ _) => false
  | _ => true
/-- for each item: the target, the test, the element -/
def lcL (vs : List Nat) (tg : TgM) (t : M Bool) (el : M D) : List D → List D → M Cell
  | [], acc => fun e => .ok (.lst acc) e
  | d :: ds, acc => fun e => match tg d e with
    | some e1 => match t e1 with
      | .ok true e2 => match el e2 with
        | .ok y e3 => if acc.length < 16777216 ∧ noCells vs e3 = true then lcL vs tg t el ds (acc ++ [y]) (wipeE vs e3) else .bad
        | _ => .bad
      | .ok false e2 => if noCells vs e2 = true then lcL vs tg t el ds acc (wipeE vs e2) else .bad
      | _ => .bad
    | none => .bad
def mLc (mi : M (List D)) (vs : List Nat) (tg : TgM) (t : M Bool) (el : M D) : M Cell := M.bind mi fun ds e => if noCells vs e then lcL vs tg t el ds [] (wipeE vs e) else .bad
def mYes : M Bool := M.ret true
abbrev W0 : WX := fun _ _ _ _ => False
section
variable {K : PySem.W.Frag} {c : Cl} {W : WX} {F G G1 H H1 : Hp} {P P1 : List (List Addr)} {σ : St} {env env1 : Ev}
def wipeP : List Nat → List (List Addr) → List (List Addr)
  | [], e => e
  | v :: vs, e => (wipeP vs e).set v []
theorem Rels.wipe (R : Rels K c G H P σ env) : ∀ vs, Rels K c G H (wipeP vs P) (L2.wipe σ vs) (wipeE vs env)
  | [] => R
  | v :: vs => (Rels.wipe R vs).set v .no
theorem wipeP_sub : ∀ {vs : List Nat} {P : List (List Addr)} {b : Addr}, b ∈ (wipeP vs P).flatten → b ∈ P.flatten
  | [], _, _, h => h
  | v :: vs, P, b, h => by
    rcases flat_set h with h | h
    · cases h
    · exact wipeP_sub h
theorem wipeP_nd : ∀ {vs : List Nat} {P : List (List Addr)}, P.flatten.Nodup → (wipeP vs P).flatten.Nodup
  | [], _, h => h
  | v :: vs, _, h => nd_set_nil (wipeP_nd h) v
theorem Rel.wipe (R : Rel K c F G H P σ env) (vs : List Nat) : Rel K c F G H (wipeP vs P) (L2.wipe σ vs) (wipeE vs env) :=
  ⟨R.fs, R.gs, R.all.wipe vs, fun b hb => R.out b (wipeP_sub hb), wipeP_nd R.nd, R.tb⟩
theorem wipeE_len : ∀ (vs : List Nat) (e : Ev), (wipeE vs e).length = e.length
  | [], _ => rfl
  | v :: vs, e => by simp [wipeE, wipeE_len vs e]
theorem wipeE_get : ∀ {vs : List Nat} {e : Ev} {i : Nat} {s : Sl}, (wipeE vs e)[i]? = some s → s ≠ .no → e[i]? = some s ∧ i ∉ vs
  | [], e, i, s, h, _ => ⟨h, by simp⟩
  | v :: vs, e, i, s, h, hs => by
    unfold wipeE at h
    by_cases hv : v = i
    · subst hv
      by_cases hl : v < (wipeE vs e).length
      · rw [List.getElem?_set_self hl] at h
        exact absurd (Option.some.inj h).symm hs
      · rw [List.getElem?_eq_none (by simpa using hl)] at h
        cases h
    · rw [List.getElem?_set_ne hv] at h
      obtain ⟨h1, h2⟩ := wipeE_get h hs
      exact ⟨h1, by simp only [List.mem_cons, not_or]; exact ⟨fun e => hv e.symm, h2⟩⟩
theorem wipeE_of : ∀ {vs : List Nat} {e : Ev} {i : Nat} {s : Sl}, e[i]? = some s → i ∉ vs → (wipeE vs e)[i]? = some s
  | [], e, i, s, h, _ => h
  | v :: vs, e, i, s, h, hs => by
    unfold wipeE
    rw [List.getElem?_set_ne fun z => hs (by simp [z])]
    exact wipeE_of h fun z => hs (List.mem_cons_of_mem _ z)
theorem wipeP_of : ∀ {vs : List Nat} {e : List (List Addr)} {i : Nat}, i ∉ vs → (wipeP vs e)[i]? = e[i]?
  | [], e, i, _ => rfl
  | v :: vs, e, i, hs => by
    unfold wipeP
    rw [List.getElem?_set_ne fun z => hs (by simp [z])]
    exact wipeP_of fun z => hs (List.mem_cons_of_mem _ z)
theorem Keep.wipe {vs : List Nat} (h : noCells vs env = true) : Keep P (wipeP vs P) env (wipeE vs env) := ⟨wipeE_len vs env, fun i z hz => by
  have hi : i ∉ vs := fun hm => by
    have := List.all_eq_true.mp h i hm
    rw [hz] at this
    cases this
  exact ⟨wipeP_of hi, z, wipeE_of hz hi⟩⟩
/-- back from the block's slots to those around -/
theorem Rels.unwipe {σ' : St} (R : Rels K c G H P σ env) : σ'.length = σ.length → (∀ (i : Nat) (s : Sl), env[i]? = some s → s ≠ .no → σ'[i]? = σ[i]?) → Rels K c G H P σ' env := by
  induction R generalizing σ' with
  | nil => intro hl _; cases σ' with
    | nil => exact .nil
    | cons _ _ => simp at hl
  | cons r _ ih =>
    intro hl h
    cases σ' with
    | nil => simp at hl
    | cons x σ' =>
      refine .cons ?_ (ih (by simpa using hl) fun i s hi hs => by simpa using h (i + 1) s (by simpa using hi) hs)
      cases r with
      | no => exact .no
      | val r =>
        have := h 0 _ rfl (fun z => nomatch z)
        simp at this
        subst this
        exact .val r
      | cell r =>
        have := h 0 _ rfl (fun z => nomatch z)
        simp at this
        subst this
        exact .cell r
theorem wipe_at : ∀ {vs : List Nat} {σ : St} {i : Nat}, i ∉ vs → (L2.wipe σ vs)[i]? = σ[i]?
  | [], _, _, _ => rfl
  | v :: vs, σ, i, h => by
    unfold L2.wipe
    rw [List.getElem?_set_ne fun z => h (by simp [z])]
    exact wipe_at fun z => h (List.mem_cons_of_mem _ z)
theorem wipe_in : ∀ {vs : List Nat} {σ : St} {i : Nat}, i ∈ vs → (L2.wipe σ vs)[i]? = if i < σ.length then some none else none
  | [], _, _, h => nomatch h
  | v :: vs, σ, i, h => by
    unfold L2.wipe
    by_cases hv : v = i
    · subst hv
      by_cases hl : v < σ.length
      · rw [List.getElem?_set_self (by rw [wipe_length]; exact hl), if_pos hl]
      · rw [List.getElem?_eq_none (by simp [wipe_length]; omega), if_neg hl]
    · rw [List.getElem?_set_ne hv]
      rcases List.mem_cons.mp h with z | z
      · exact absurd z.symm hv
      · exact wipe_in z
theorem wipe_eq {vs : List Nat} {σ σ' : St} (hl : σ'.length = σ.length) (h : ∀ j, j ∉ vs → σ'[j]? = (L2.wipe σ vs)[j]?) : L2.wipe σ' vs = L2.wipe σ vs := by
  apply List.ext_getElem?
  intro i
  by_cases hi : i ∈ vs
  · rw [wipe_in hi, wipe_in hi, hl]
  · rw [wipe_at hi, h i hi]
end
section
variable {X : Cx} {c : Cl} {W : WX} {pos : Pos} {tg iter elt : Expr} {ifs : List Expr} {scope : Scope} {own : List (Str × Nat)} {mi : M (List D)} {mt : TgM} {mtt : M Bool} {me : M D} {ts : List Nat}
def tTs (K : PySem.W.Frag) (c : Cl) (W : WX) (m : M Bool) : TT := tT K c W m
theorem dts_nil : PTs X [] (tT X.K c W mYes) := by
  refine ⟨fun pins s σ H Q I h => pts_nil.run pins s σ H Q I ?_⟩
  obtain ⟨F, G, P, env, R, h⟩ := h
  exact Post.here R h
theorem dts_one {t : Expr} {m : M Bool} (h : PT X t (tT X.K c W m)) : PTs X [t] (tT X.K c W m) := pts_one h
theorem lc_read {K : PySem.W.Frag} {wi : TI} {vs : List Nat} {σ : St} {H : Hp} {Q : VK} (hsub : ∀ t, t ∈ ts → t ∈ vs)
    (h : tO K c W (mLc mi vs mt mtt me) σ H Q) : tLc (tI K c W mi) (tG K c ts mt) (tT K c W0 mtt) (tE K c W0 me) vs σ H Q := by
  obtain ⟨F, G, P, env, R, h⟩ := h
  refine ⟨F, G, P, env, R, (Post.bind h).imp fun ds G1 H1 P1 _ ⟨env1, R1, h1⟩ J gv La nD => ?_⟩
  obtain ⟨Gp, Y, wk, hG, hY⟩ := gv.ex
  have h1 : Post K c W F G1 P1 σ env1 (if noCells vs env1 = true then lcL vs mt mtt me ds [] (wipeE vs env1) else .bad) _ := h1
  split at h1
  rotate_left
  · exact h1.elim
  rename_i hno
  have hσ : ∀ j, j ∉ vs → (L2.wipe σ vs)[j]? = σ[j]? := fun j hj => wipe_at hj
  have nF := none_of R1.fs nD
  have nG := none_of R1.gs nD
  have nP : La ∉ P1.flatten := fun hb => by
    obtain ⟨q, hq, hb⟩ := List.mem_flatten.mp hb
    obtain ⟨i, hi, e⟩ := List.mem_iff_getElem.mp hq
    have hl := R1.all.len
    have e1 : P1[i]? = some q := by rw [List.getElem?_eq_getElem hi, e]
    obtain ⟨s, hs⟩ : ∃ s, env1[i]? = some s := ⟨env1[i]'(by omega), by simp [show i < env1.length by omega]⟩
    obtain ⟨p', x, e2, _, r⟩ := R1.all.get hs
    rw [e1] at e2; cases e2
    cases r with
    | no => cases hb
    | val _ => cases hb
    | cell z => exact cell_there z La hb nD
  have wE : ∀ (e : Ev) (j : Nat), j ∈ vs → ∀ s : Sl, (wipeE vs e)[j]? = some s → s = .no := fun e j hj s hs => by
    cases s with
    | no => rfl
    | val _ => exact absurd hj (wipeE_get hs (fun z => nomatch z)).2
    | cell _ _ => exact absurd hj (wipeE_get hs (fun z => nomatch z)).2
  have xF : ∀ {va : List V} {G G' : Hp}, Ext (upd F La (.lst va)) G G' → Ext F G G' := fun {va G G'} x => ⟨x.same, fun b h1 h2 => x.fresh b h1 (by
    by_cases hb : b = La
    · subst hb; rw [upd_same]; exact fun z => nomatch z
    · rw [upd_ne hb]; exact h2)⟩
  -- what holds between two turns
  refine lc_it wk (fun i H => ∃ (G : Hp) (P : List (List Addr)) (env : Ev) (acc : List D) (va : List V), Rel K c (upd F La (.lst va)) G H P (L2.wipe σ vs) env ∧ Same G1 G ∧ G La = none ∧ Reps K c G va acc ∧ (∀ (j : Nat), j ∈ vs → ∀ s : Sl, env[j]? = some s → s = .no) ∧
    Post K c W F G P σ env (lcL vs mt mtt me (ds.drop i) acc env) (fun z G' H' P' => ∀ v p, CellAt K c G' H' p v z → p.Nodup → (∀ b, b ∈ p → F b = none ∧ G' b = none ∧ b ∉ P'.flatten) → Q v H')) ?_ ?_ ?_ ?_
  · have R2 := R1.wipe vs
    refine ⟨G1, _, _, [], [], ⟨same_upd R2.fs nF, R2.gs.trans (same_new nD), R2.all.move (Same.refl _) fun b _ o h => same_new nD b o h, fun b hb => ⟨?_, (R2.out b hb).2⟩, R2.nd, ⟨R2.tb.tabs.same (same_new nD), not_upd R2.tb.nf (fun _ z => nomatch z), R2.tb.ng⟩⟩, Same.refl _, nG, .nil, wE env1, ?_⟩
    · rw [upd_ne fun z => nP (by rw [← z]; exact wipeP_sub hb)]
      exact (R2.out b hb).1
    · exact Post.chain h1 (Ext.refl _ _) (Keep.wipe hno)
  · rintro i H _ ⟨G, P, env, acc, va, R, hs, _⟩
    exact hG H (hs.trans R.gs)
  · rintro i x H H' hi ⟨G, P, env, acc, va, R, hs, gD, ra, hn, h⟩ y
    obtain ⟨G', d, e1, pu, rd⟩ := hY i H x H' G hi hs R.gs y
    have ed : ds.drop i = d :: ds.drop (i + 1) := by
      have : ds[i]'hi = d := by
        rw [List.getElem?_eq_getElem hi] at e1
        exact Option.some.inj e1
      rw [List.drop_eq_getElem_cons hi, this]
    rw [ed] at h
    obtain ⟨x1, R'⟩ := R.pure pu
    have fD : (upd F La (.lst va)) La ≠ none := by rw [upd_same]; exact fun z => nomatch z
    refine ⟨_, G', P, env, d, R', rd, ?_⟩
    have h := h.chain (xF x1) (Keep.refl _ _)
    unfold lcL at h
    cases q : mt d env with
    | none => rw [q] at h; exact h.elim
    | some e1 =>
      rw [q] at h
      intro G2 H2 P2 σ2 x2 k2 R2 ag
      have hw : L2.wipe σ2 vs = L2.wipe σ vs := by
        refine wipe_eq ?_ fun j hj => ag j fun z => hj (hsub j z)
        have l1 := R2.all.len.1
        have l2 := R'.all.len.1
        rw [wipe_length] at l2
        rw [l1, k2.len, ← l2]
      refine ⟨hw, _, G2, P2, e1, R2, ?_⟩
      have h := Post.chain h (xF x2) k2
      dsimp only at h
      cases q2 : mtt e1 with
      | bad => rw [q2] at h; exact h.elim
      | exc xx e2 => rw [q2] at h; exact h.elim
      | ok k e2 =>
        rw [q2] at h
        intro G3 H3 P3 x3 k3 R3
        have h := Post.chain h (xF x3) k3
        cases k with
        | false =>
          refine iteF ?_
          dsimp only at h
          split at h
          rotate_left
          · exact h.elim
          rename_i hno3
          have R4 := R3.wipe vs
          rw [hw] at R4
          exact ⟨G3, _, _, acc, va, R4, hs.trans (x1.same.trans (x2.same.trans x3.same)), x3.fresh La (x2.fresh La (x1.fresh La gD fD) fD) fD, ra.mono (x1.same.trans (x2.same.trans x3.same)), wE e2, Post.chain h (Ext.refl _ _) (Keep.wipe hno3)⟩
        | true =>
          refine iteT ?_
          dsimp only at h
          refine ⟨_, G3, P3, e2, R3, ?_⟩
          cases q3 : me e2 with
          | bad => rw [q3] at h; exact h.elim
          | exc xx e2 => rw [q3] at h; exact h.elim
          | ok yd e3 =>
            rw [q3] at h
            intro G4 H4 P4 x4 k4 R4 v rv
            have h := Post.chain h (xF x4) k4
            dsimp only at h
            split at h
            rotate_left
            · exact h.elim
            rename_i hlen4
            obtain ⟨hlen, hno4⟩ := hlen4
            have R5 := R4.wipe vs
            rw [hw] at R5
            have sg := x1.same.trans (x2.same.trans (x3.same.trans x4.same))
            have gD4 := x4.fresh La (x3.fresh La (x2.fresh La (x1.fresh La gD fD) fD) fD) fD
            have nPD : ∀ b, b ∈ (wipeP vs P4).flatten → b ≠ La := fun b hb z => by
              have := (R5.out b hb).1
              rw [z] at this
              exact fD this
            refine ⟨va, R4.fs La _ upd_same, by rw [ra.length, sizeLine_eq]; exact hlen, G4, _, _, acc ++ [yd], va ++ [v], ⟨fun b o ho => ?_, fun b o ho => ?_, R5.all.move (Same.refl _) fun b hb o ho => by rw [upd_ne (nPD b hb)]; exact ho, fun b hb => ⟨?_, (R5.out b hb).2⟩, R5.nd, ⟨R5.tb.tabs.upd (fun ps z => by have := R5.fs La _ upd_same; rw [z] at this; cases this), not_upd R1.tb.nf (fun _ z => nomatch z), R5.tb.ng⟩⟩, hs.trans sg, gD4, (ra.mono sg).append (.cons rv .nil), wE e3, Post.chain h (Ext.refl _ _) (Keep.wipe hno4)⟩
            · by_cases hb : b = La
              · subst hb; rw [upd_same] at ho ⊢; exact ho
              · rw [upd_ne hb] at ho ⊢; exact R5.fs b o (by rw [upd_ne hb]; exact ho)
            · rw [upd_ne fun z => by rw [z, gD4] at ho; cases ho]
              exact R5.gs b o ho
            · rw [upd_ne (nPD b hb)]
              have := (R5.out b hb).1
              rw [upd_ne (nPD b hb)] at this
              exact this
  · rintro H ⟨G, P, env, acc, va, R, hs, gD, ra, hn, h⟩
    rw [List.drop_length] at h
    have fD : (upd F La (.lst va)) La ≠ none := by rw [upd_same]; exact fun z => nomatch z
    have nPD : ∀ b, b ∈ P.flatten → b ≠ La := fun b hb z => by
      have := (R.out b hb).1
      rw [z] at this
      exact fD this
    have lσ : σ.length = (L2.wipe σ vs).length := (wipe_length σ vs).symm
    have R' : Rel K c F G H P σ env := ⟨fun b o ho => R.fs b o (by rw [upd_ne fun z => by rw [z, nF] at ho; cases ho]; exact ho), R.gs, R.all.unwipe lσ fun i s hi hs => (wipe_at fun z => hs (hn i z s hi)).symm,
      fun b hb => ⟨by have := (R.out b hb).1; rw [upd_ne (nPD b hb)] at this; exact this, (R.out b hb).2⟩, R.nd, ⟨R.tb.tabs, R1.tb.nf, R.tb.ng⟩⟩
    refine Post.here R' h (.ref La) [La] (.lst (R.fs La _ upd_same) ra) (by simp) fun b hb => ?_
    obtain rfl : b = La := by simpa using hb
    exact ⟨nF, gD, fun z => nPD b z rfl⟩
end
end L2.DL
set_option Elab.async false
set_option linter.all false
set_option maxRecDepth 100000
set_option maxHeartbeats 4000000
namespace L2.DL
open PySem PySem.Spec PyProof.Rows
section
variable {X : Cx} {c : Cl} {W : WX} {pos : Pos} {tg iter elt : Expr} {ifs : List Expr} {scope : Scope} {own : List (Str × Nat)} {mi : M (List D)} {mt : TgM} {mtt : M Bool} {me : M D} {ts : List Nat}
theorem do_lc (hN : X.N.Nodup) (hi : PI X tg iter (tI X.K c W mi)) (ok : BlkOk X.N X.env.scope scope own)
    (hg : ∀ (s : Shared) (H : Hp) (C : Addr) (cl : List (Str × Addr)) (fp : List Addr), PG (X.blk s H scope (compEnvC scope cl C X.env) fp) tg (tG X.K c ts mt)) (ht : ∀ (s : Shared) (H : Hp) (C : Addr) (cl : List (Str × Addr)) (fp : List Addr), PTs (X.blk s H scope (compEnvC scope cl C X.env) fp) ifs (tT X.K c W0 mtt))
    (he : ∀ (s : Shared) (H : Hp) (C : Addr) (cl : List (Str × Addr)) (fp : List Addr), PE (X.blk s H scope (compEnvC scope cl C X.env) fp) elt (tE X.K c W0 me)) (hsub : ∀ t, t ∈ ts → t ∈ own.map (·.2) := by decide) (hc : X.calm = true := by rfl) (hs : ∀ x, foldedSetIterable iter X.env x = pure x := by intro _; rfl) :
    PE X (.ListComp elt [⟨tg, iter, ifs, 0⟩] scope pos) (tO X.K c W (mLc mi (own.map (·.2)) mt mtt me)) :=
  PE.weak (pe_lc hc hN hi ok hg ht he hs) fun σ H Q h => lc_read (wi := tI X.K c W mi) hsub h
/-- y = [..] -/
theorem setLc_post {i : Nat} {mz : M Cell} {D : Ends} {σ : St} {H : Hp} (h : tS X.K c W (mSetO i mz) D σ H) : tO X.K c W mz σ H fun x H1 => gName i x σ H1 D.nx := by
  obtain ⟨F, G, P, env, R, h⟩ := h
  refine ⟨F, G, P, env, R, (Post.bindS h).imp fun z G1 H1 P1 _ ⟨env1, R1, h1⟩ v p ca nd out => ?_⟩
  unfold M.upd at h1
  cases q : setSl i (.cell false z) env1 with
  | none => rw [q] at h1; exact h1.elim
  | some e1 =>
    rw [q] at h1
    obtain ⟨k, R2⟩ := R1.setC ca nd out q
    exact PostS.here R2 (h1.chain (Ext.refl _ _) k)
theorem ds_setLc {i : Nat} {y : Str} {py spos : Pos} (hN : X.N.Nodup) (hi : PI X tg iter (tI X.K c W mi)) (ok : BlkOk X.N X.env.scope scope own)
    (hg : ∀ (s : Shared) (H : Hp) (C : Addr) (cl : List (Str × Addr)) (fp : List Addr), PG (X.blk s H scope (compEnvC scope cl C X.env) fp) tg (tG X.K c ts mt)) (ht : ∀ (s : Shared) (H : Hp) (C : Addr) (cl : List (Str × Addr)) (fp : List Addr), PTs (X.blk s H scope (compEnvC scope cl C X.env) fp) ifs (tT X.K c W0 mtt))
    (he : ∀ (s : Shared) (H : Hp) (C : Addr) (cl : List (Str × Addr)) (fp : List Addr), PE (X.blk s H scope (compEnvC scope cl C X.env) fp) elt (tE X.K c W0 me))
    (hsw : swapsWith (.ListComp elt [⟨tg, iter, ifs, 0⟩] scope pos) (some (.Name y py)) spos.line X.env = pure true)
    (hsub : ∀ t, t ∈ ts → t ∈ own.map (·.2) := by decide) (hy : X.N[i]? = some y := by rfl) (hyl : X.env.scope.names.lookup y = some .local := by rfl) (hc : X.calm = true := by rfl) (hs : ∀ x, foldedSetIterable iter X.env x = pure x := by intro _; rfl) :
    PS X (.Assign [.Name y py] (.ListComp elt [⟨tg, iter, ifs, 0⟩] scope pos) spos) (tS X.K c W (mSetO i (mLc mi (own.map (·.2)) mt mtt me))) :=
  PS.weak (ps_setLc hc hN hy hyl hsw hi ok hg ht he hs) fun D σ H h => lc_read (wi := tI X.K c W mi) hsub (setLc_post h)
end
/-! ### things of one's own: append, pop, len, an item, an item stored -/
section
variable {K : PySem.W.Frag} {c : Cl} {W : WX} {F G G1 H H1 : Hp} {P P1 : List (List Addr)} {σ : St} {env env1 : Ev}
/-- the list in slot i becomes another one -/
theorem Rel.relst {i : Nat} {l : Bool} {xs ys : List D} {p : Addr} {us : List V} (R : Rel K c F G H P σ env) (e : env[i]? = some (.cell l (.lst xs))) (e1 : P[i]? = some [p]) (e2 : σ[i]? = some (some (.ref p))) (r : Reps K c G us ys) :
    Keep P P env (env.set i (.cell l (.lst ys))) ∧ Rel K c F G (upd H p (.lst us)) P σ (env.set i (.cell l (.lst ys))) := by
  have out := R.out p (mem_flat e1 (by simp))
  have nn : ∀ {A : Hp}, Same A H → A p = none → Same A (upd H p (.lst us)) := fun {A} h n b o ho => by
    rw [upd_ne fun z => by rw [z, n] at ho; cases ho]
    exact h b o ho
  refine ⟨⟨by simp, fun j z hj => ⟨rfl, ?_⟩⟩, ⟨nn R.fs out.1, nn R.gs out.2, ?_, R.out, R.nd, R.tb.upd fun ps z => by
      obtain ⟨o, o1, o2⟩ := R.all.obj p (mem_flat e1 (by simp))
      rw [z] at o1; cases o1; exact o2 ps rfl⟩⟩
  · by_cases hij : i = j
    · subst hij
      rw [e] at hj
      cases hj
      exact ⟨_, by rw [List.getElem?_set_self (by have := List.getElem?_eq_some_iff.mp e; exact this.1)]⟩
    · rw [List.getElem?_set_ne hij]; exact ⟨z, hj⟩
  · have gen : ∀ {P : List (List Addr)} {σ : St} {env : Ev}, Rels K c G H P σ env → ∀ i, P[i]? = some [p] → σ[i]? = some (some (.ref p)) → (∀ (t : Nat) (pt : List Addr), t ≠ i → P[t]? = some pt → ∀ b, b ∈ pt → b ≠ p) →
        Rels K c G (upd H p (.lst us)) P σ (env.set i (.cell l (.lst ys))) := by
      intro P σ env h
      induction h with
      | nil => intro j hj; simp at hj
      | cons q t ih =>
        intro j hp hσ mv
        cases j with
        | zero =>
          simp at hp hσ
          subst hp hσ
          refine .cons (.cell (.lst upd_same r)) (t.move (Same.refl _) fun b hb o ho => ?_)
          obtain ⟨pj, hm, hb⟩ := List.mem_flatten.mp hb
          obtain ⟨u, hu, eu⟩ := List.mem_iff_getElem.mp hm
          rw [upd_ne (mv (u + 1) pj (by omega) (by rw [List.getElem?_cons_succ, List.getElem?_eq_getElem hu, eu]) b hb)]
          exact ho
        | succ j =>
          refine .cons (q.move (Same.refl _) fun b hb o ho => by rw [upd_ne (mv 0 _ (by omega) rfl b hb)]; exact ho) (ih j (by simpa using hp) (by simpa using hσ) fun t pt ht hpt => mv (t + 1) pt (by omega) (by simpa using hpt))
    exact gen R.all i e1 e2 fun t pt ht hpt b hb hb2 => ht (nd_at R.nd hpt e1 hb (by simp [hb2]))
theorem Rel.cellL {i : Nat} {l : Bool} {xs : List D} (R : Rel K c F G H P σ env) (e : env[i]? = some (.cell l (.lst xs))) : ∃ p vs, P[i]? = some [p] ∧ σ[i]? = some (some (.ref p)) ∧ H p = some (.lst vs) ∧ Reps K c G vs xs := by
  obtain ⟨q, x, e1, e2, ca⟩ := R.all.get e
  cases ca with
  | cell ca => cases ca with
    | lst h r => exact ⟨_, _, e1, e2, h, r⟩
end
/-- x.append(e), x in slot i -/
def mAppend (i : Nat) (m : M D) : M D := fun env => match env[i]? with
  | some (.cell _ (.lst _)) => M.bind m (fun d env => match env[i]? with
    | some (.cell l (.lst xs)) => if xs.length < 16777216 then .ok .non (env.set i (.cell l (.lst (xs ++ [d])))) else .bad
    | _ => .bad) env
  | _ => .bad
/-- x.pop(), x.pop(e) -/
def mPop (i : Nat) : M D := fun env => match env[i]? with
  | some (.cell l (.lst xs)) => match xs[xs.length - 1]? with
    | some d => .ok d (env.set i (.cell l (.lst xs.dropLast)))
    | none => .bad
  | _ => .bad
def mPopAt (i : Nat) (m : M D) : M D := fun env => match env[i]? with
  | some (.cell _ (.lst _)) => M.bind m (fun d env => match d, env[i]? with
    | .int k, some (.cell l (.lst xs)) => match ixN xs.length k with
      | some j => match xs[j]? with
        | some d => if xs.length ≤ 16777216 then .ok d (env.set i (.cell l (.lst (xs.eraseIdx j)))) else .bad
        | none => .bad
      | none => .bad
    | _, _ => .bad) env
  | _ => .bad
/-- len(x), x in slot i -/
def mLenC (i : Nat) : M D := fun env => match env[i]? with
  | some (.cell _ (.lst xs)) => .ok (.int xs.length) env
  | _ => .bad
/-- x[e] -/
def mIxC (i : Nat) (m : M D) : M D := fun env => match env[i]? with
  | some (.cell _ (.lst _)) => M.bind m (fun d env => match d, env[i]? with
    | .int k, some (.cell _ (.lst xs)) => match atI xs k with
      | some d => .ok d env
      | none => .bad
    | _, _ => .bad) env
  | _ => .bad
/-- x[k] = e -/
def mSetIx (i : Nat) (mk m : M D) : MS := M.bind m fun d => fun env => match env[i]? with
  | some (.cell _ (.lst _)) => M.bind mk (fun k env => match k, env[i]? with
    | .int k, some (.cell l (.lst xs)) => match ixN xs.length k with
      | some j => .ok .next (env.set i (.cell l (.lst (xs.set j d))))
      | none => .bad
    | _, _ => .bad) env
  | _ => .bad
section
variable {X : Cx} {c : Cl} {W : WX} {pos p apos : Pos} {e : Expr} {m mk : M D} {i : Nat} {y : Str} {py : Pos}
theorem tyV_list {K : PySem.W.Frag} {H : Hp} {p : Addr} {vs : List V} (h : H p = some (.lst vs)) : tyV K "list" (.ref p) H := Or.inl ⟨rfl, _, SqL.of h⟩
theorem atI_reps {K : PySem.W.Frag} {G : Hp} {vs : List V} {ds : List D} {k : Int} {d : D} (r : Reps K c G vs ds) (e : atI ds k = some d) : ∃ v, atI vs k = some v ∧ Rep K c G v d := by
  unfold atI at e ⊢
  rw [r.length]
  obtain ⟨j, e1, e2⟩ := Option.bind_eq_some_iff.mp e
  obtain ⟨v, e3, rv⟩ := r.get e2
  exact ⟨v, by rw [e1]; exact e3, rv⟩
theorem de_append {call : Expr} (hb : PE X call (tBM X.K "list" rAppend (tVar i) (tCons (tE X.K c W m) tNil))) : PE X call (tE X.K c W (mAppend i m)) := by
  refine PE.weak hb fun σ H Q h => ?_
  obtain ⟨F, G, P, env, R, h⟩ := h
  unfold mAppend at h
  cases e0 : env[i]? with
  | none => rw [e0] at h; exact h.elim
  | some s0 =>
    rw [e0] at h
    match s0, e0, h with
    | .no, _, h => exact h.elim
    | .val _, _, h => exact h.elim
    | .cell _ (.dct _), _, h => exact h.elim
    | .cell _ (.ob _ _), _, h => exact h.elim
    | .cell l0 (.lst xs0), e0, h =>
      obtain ⟨p0, vs0, _, hσ, h0, _⟩ := R.cellL e0
      refine ⟨_, hσ, tyV_list h0, F, G, P, env, R, (Post.bind h).imp fun d G1 H1 P1 _ ⟨env1, R1, h1⟩ v r => ?_⟩
      try dsimp only at h1
      cases e2 : env1[i]? with
      | none => rw [e2] at h1; exact h1.elim
      | some s2 =>
        rw [e2] at h1
        match s2, e2, h1 with
        | .no, _, h => exact h.elim
        | .val _, _, h => exact h.elim
        | .cell _ (.dct _), _, h => exact h.elim
        | .cell _ (.ob _ _), _, h => exact h.elim
        | .cell l (.lst xs), e2, h1 =>
          obtain ⟨p1, vs1, a1, a2, a3, a4⟩ := R1.cellL e2
          rw [hσ] at a2
          cases a2
          have h1 : Post X.K c W F G1 P1 σ env1 (if xs.length < 16777216 then Res.ok DL.D.non (env1.set i (.cell l (.lst (xs ++ [d])))) else .bad) _ := h1
          split at h1
          · rename_i hl
            obtain ⟨k, R2⟩ := R1.relst e2 a1 hσ (a4.append (.cons r .nil))
            exact ⟨p0, vs1, v, rfl, rfl, a3, by rw [a4.length, sizeLine_eq]; exact hl, h1 _ _ _ (Ext.refl _ _) k R2 _ (Rep.non (K := X.K) (c := c) (G := G1))⟩
          · exact h1.elim
theorem ixN_lt {n : Nat} {k : Int} {j : Nat} (h : ixN n k = some j) : j < n := (ixN_seq h).2.1
theorem Reps.eraseIdx {K : PySem.W.Frag} {G : Hp} : ∀ {vs : List V} {ds : List D} (j : Nat), Reps K c G vs ds → Reps K c G (vs.eraseIdx j) (ds.eraseIdx j)
  | _, _, _, .nil => .nil
  | _, _, 0, .cons _ t => t
  | _, _, j + 1, .cons h t => .cons h (Reps.eraseIdx j t)
theorem de_popAt {call : Expr} (hb : PE X call (tBM X.K "list" rPopAt (tVar i) (tCons (tE X.K c W m) tNil))) : PE X call (tE X.K c W (mPopAt i m)) := by
  refine PE.weak hb fun σ H Q h => ?_
  obtain ⟨F, G, P, env, R, h⟩ := h
  unfold mPopAt at h
  cases e0 : env[i]? with
  | none => rw [e0] at h; exact h.elim
  | some s0 =>
    rw [e0] at h
    match s0, e0, h with
    | .no, _, h => exact h.elim
    | .val _, _, h => exact h.elim
    | .cell _ (.dct _), _, h => exact h.elim
    | .cell _ (.ob _ _), _, h => exact h.elim
    | .cell l0 (.lst xs0), e0, h =>
      obtain ⟨p0, vs0, _, hσ, h0, _⟩ := R.cellL e0
      refine ⟨_, hσ, tyV_list h0, F, G, P, env, R, (Post.bind h).imp fun d G1 H1 P1 _ ⟨env1, R1, h1⟩ v r => ?_⟩
      try dsimp only at h1
      cases e2 : env1[i]? with
      | none => rw [e2] at h1; cases r <;> exact h1.elim
      | some s2 =>
        rw [e2] at h1
        cases r with
        | int k =>
          match s2, e2, h1 with
          | .no, _, h => exact h.elim
          | .val _, _, h => exact h.elim
          | .cell _ (.dct _), _, h => exact h.elim
          | .cell _ (.ob _ _), _, h => exact h.elim
          | .cell l (.lst xs), e2, h1 =>
            obtain ⟨p1, vs1, a1, a2, a3, a4⟩ := R1.cellL e2
            rw [hσ] at a2
            cases a2
            try dsimp only at h1
            cases ej : ixN xs.length k with
            | none => rw [ej] at h1; exact h1.elim
            | some j =>
              rw [ej] at h1
              try dsimp only at h1
              cases ex : xs[j]? with
              | none => rw [ex] at h1; exact h1.elim
              | some d =>
                rw [ex] at h1
                obtain ⟨v, ev, rv⟩ := a4.get ex
                have er : Reps X.K c G1 (vs1.eraseIdx j) (xs.eraseIdx j) := Reps.eraseIdx j a4
                have h1 : Post X.K c W F G1 P1 σ env1 (if xs.length ≤ 16777216 then .ok d (env1.set i (.cell l (.lst (xs.eraseIdx j)))) else .bad) _ := h1
                split at h1
                rotate_left
                · exact h1.elim
                rename_i hl
                obtain ⟨k2, R2⟩ := R1.relst e2 a1 hσ er
                obtain ⟨q1, q2, q3, q4⟩ := ixN_seq ej
                exact ⟨p0, vs1, k, j, v, rfl, rfl, a3, by omega, by omega, by rw [a4.length]; exact q1, ev, h1 _ _ _ (Ext.refl _ _) k2 R2 _ rv⟩
        | _ => exact h1.elim
theorem de_pop {call : Expr} (hb : PE X call (tBM0 X.K "list" rPop (tVar i))) : PE X call (tE X.K c W (mPop i)) := by
  refine PE.weak hb fun σ H Q h => ?_
  obtain ⟨F, G, P, env, R, h⟩ := h
  unfold mPop at h
  cases e0 : env[i]? with
  | none => rw [e0] at h; exact h.elim
  | some s0 =>
    rw [e0] at h
    match s0, e0, h with
    | .no, _, h => exact h.elim
    | .val _, _, h => exact h.elim
    | .cell _ (.dct _), _, h => exact h.elim
    | .cell _ (.ob _ _), _, h => exact h.elim
    | .cell l (.lst xs), e0, h =>
      obtain ⟨p0, vs, a1, hσ, a3, a4⟩ := R.cellL e0
      try dsimp only at h
      cases ex : xs[xs.length - 1]? with
      | none => rw [ex] at h; exact h.elim
      | some d =>
        rw [ex] at h
        obtain ⟨v, ev, rv⟩ := a4.get ex
        have er : Reps X.K c G vs.dropLast xs.dropLast := by
          rw [List.dropLast_eq_take, List.dropLast_eq_take, a4.length]
          exact a4.take _
        obtain ⟨k2, R2⟩ := R.relst e0 a1 hσ er
        exact ⟨_, hσ, tyV_list a3, p0, vs, v, rfl, rfl, a3, by rw [a4.length]; exact ev, h _ _ _ (Ext.refl _ _) k2 R2 _ rv⟩
/-- len(x) of a thing of one's own -/
theorem de_lenC {call : Expr} (hb : PE X call (tCB (fun xs H Q => ∃ x n, xs = [x] ∧ LenV X.K x H n ∧ Q (.int n) H) (tCons (tVar i) tNil))) : PE X call (tE X.K c W (mLenC i)) := by
  refine PE.weak hb fun σ H Q h => ?_
  obtain ⟨F, G, P, env, R, h⟩ := h
  unfold mLenC at h
  cases e0 : env[i]? with
  | none => rw [e0] at h; exact h.elim
  | some s0 =>
    rw [e0] at h
    match s0, e0, h with
    | .no, _, h => exact h.elim
    | .val _, _, h => exact h.elim
    | .cell _ (.dct _), _, h => exact h.elim
    | .cell _ (.ob _ _), _, h => exact h.elim
    | .cell l (.lst xs), e0, h =>
      obtain ⟨p0, vs, a1, hσ, a3, a4⟩ := R.cellL e0
      exact ⟨_, hσ, _, _, rfl, .inl ⟨_, SqL.of a3, a4.length.symm⟩, Post.here R h _ (.int _)⟩
/-- x[e] of a thing of one's own -/
theorem de_ixC {call : Expr} (hb : PE X call (tOp (rIxL X.K) (tVar i) (tE X.K c W m))) : PE X call (tE X.K c W (mIxC i m)) := by
  refine PE.weak hb fun σ H Q h => ?_
  obtain ⟨F, G, P, env, R, h⟩ := h
  unfold mIxC at h
  cases e0 : env[i]? with
  | none => rw [e0] at h; exact h.elim
  | some s0 =>
    rw [e0] at h
    match s0, e0, h with
    | .no, _, h => exact h.elim
    | .val _, _, h => exact h.elim
    | .cell _ (.dct _), _, h => exact h.elim
    | .cell _ (.ob _ _), _, h => exact h.elim
    | .cell l0 (.lst xs0), e0, h =>
      obtain ⟨p0, vs0, _, hσ, h0, _⟩ := R.cellL e0
      refine ⟨_, hσ, F, G, P, env, R, (Post.bind h).imp fun d G1 H1 P1 _ ⟨env1, R1, h1⟩ v r => ?_⟩
      try dsimp only at h1
      cases e2 : env1[i]? with
      | none => rw [e2] at h1; cases r <;> exact h1.elim
      | some s2 =>
        rw [e2] at h1
        cases r with
        | int k =>
          match s2, e2, h1 with
          | .no, _, h => exact h.elim
          | .val _, _, h => exact h.elim
          | .cell _ (.dct _), _, h => exact h.elim
          | .cell _ (.ob _ _), _, h => exact h.elim
          | .cell l (.lst xs), e2, h1 =>
            obtain ⟨p1, vs1, a1, a2, a3, a4⟩ := R1.cellL e2
            rw [hσ] at a2
            cases a2
            try dsimp only at h1
            cases ej : atI xs k with
            | none => rw [ej] at h1; exact h1.elim
            | some d =>
              rw [ej] at h1
              obtain ⟨v, ev, rv⟩ := atI_reps a4 ej
              exact ⟨p0, vs1, k, v, rfl, rfl, SqL.of a3, ev, Post.here R1 h1 _ rv⟩
        | _ => exact h1.elim
/-- x[k] = e of a thing of one's own -/
theorem ds_setIx {st : Stmt} (hb : PS X st (tAsg (tE X.K c W m) (gSub (tVar i) (tE X.K c W mk) rSetL))) : PS X st (tS X.K c W (mSetIx i mk m)) := by
  refine PS.weak hb fun D σ H h => ?_
  obtain ⟨F, G, P, env, R, h⟩ := h
  refine ⟨F, G, P, env, R, (Post.bindS h).imp fun dv G0 H0 P0 _ ⟨env0, R0, h⟩ vv rvv => ?_⟩
  cases e0 : env0[i]? with
  | none =>
    rw [e0] at h
    exact h.elim
  | some s0 =>
    try dsimp only at h
    rw [e0] at h
    match s0, e0, h with
    | .no, _, h => exact h.elim
    | .val _, _, h => exact h.elim
    | .cell _ (.dct _), _, h => exact h.elim
    | .cell _ (.ob _ _), _, h => exact h.elim
    | .cell l0 (.lst xs0), e0, h =>
      obtain ⟨p0, vs0, _, hσ, h0, _⟩ := R0.cellL e0
      refine ⟨_, hσ, F, G0, P0, env0, R0, (Post.bindS h).imp fun d G1 H1 P1 x1 ⟨env1, R1, h1⟩ v r => ?_⟩
      try dsimp only at h1
      cases e2 : env1[i]? with
      | none => rw [e2] at h1; cases r <;> exact h1.elim
      | some s2 =>
        rw [e2] at h1
        cases r with
        | int k =>
          match s2, e2, h1 with
          | .no, _, h => exact h.elim
          | .val _, _, h => exact h.elim
          | .cell _ (.dct _), _, h => exact h.elim
          | .cell _ (.ob _ _), _, h => exact h.elim
          | .cell l (.lst xs), e2, h1 =>
            obtain ⟨p1, vs1, a1, a2, a3, a4⟩ := R1.cellL e2
            rw [hσ] at a2
            cases a2
            try dsimp only at h1
            cases ej : ixN xs.length k with
            | none => rw [ej] at h1; exact h1.elim
            | some j =>
              rw [ej] at h1
              obtain ⟨k2, R2⟩ := R1.relst e2 a1 hσ (a4.set (rvv.mono x1.same) j)
              exact ⟨p0, vs1, k, j, rfl, rfl, a3, by rw [a4.length]; exact ej, PostS.here R2 (h1.chain (Ext.refl _ _) k2)⟩
        | _ => exact h1.elim
end
/-! ### items and slices of data -/
def dIx : D → D → Option D
  | .lst xs, .int k => atI xs k
  | .ro xs, .int k => atI xs k
  | .tup xs, .int k => atI xs k
  | .str z, .int k => if z.length ≤ 16777216 then (atI z.cps.toList k).map fun n => .str ⟨#[n]⟩ else none
  | _, _ => none
def cutD (xs : List D) (lo hi : Option Int) : List D := (xs.drop (HT.sIx xs.length 0 lo)).take (HT.sIx xs.length xs.length hi - HT.sIx xs.length 0 lo)
def dSl (lo hi : Option Int) : D → Option D
  | .lst xs => some (.lst (cutD xs lo hi))
  | .ro xs => some (.lst (cutD xs lo hi))
  | .tup xs => some (.tup (cutD xs lo hi))
  | .str z => if z.length ≤ 16777216 then some (.str (cutS z lo hi)) else none
  | _ => none
/-- a slice's part -/
def mPart : Option (M D) → M (Option Int)
  | none => M.ret none
  | some m => M.bind m fun d => match d with
    | .int k => M.ret (some k)
    | _ => fun _ => .bad
def mSl (m : M D) (lo hi : Option (M D)) : M D := M.bind m fun d => M.bind (mPart lo) fun l => M.bind (mPart hi) fun h => M.opt (dSl l h d)
section
variable {X : Cx} {c : Cl} {W : WX} {pos : Pos} {e a b : Expr} {m ma mb : M D}
theorem cutD_reps {K : PySem.W.Frag} {G : Hp} {vs : List V} {ds : List D} (r : Reps K c G vs ds) (lo hi : Option Int) : Reps K c G (cutV vs lo hi) (cutD ds lo hi) := by
  unfold cutV cutD
  rw [r.length]
  exact (r.drop _).take _
theorem cutV_whole {xs : List V} {lo hi : Option Int} (hw : HT.sIx xs.length 0 lo = 0 ∧ HT.sIx xs.length xs.length hi = xs.length) : cutV xs lo hi = xs := by
  unfold cutV
  rw [hw.1, hw.2]
  simp
theorem de_ix (ha : PE X a (tE X.K c W ma)) (hb : PE X b (tE X.K c W mb)) (hs : PlainIx b := by exact fun _ _ => rfl) : PE X (.Subscript a b pos) (tE X.K c W (mBin dIx ma mb)) := by
  refine PE.weak (pe_ix ix_seq ha hb hs) fun σ H Q h => ?_
  obtain ⟨F, G, P, env, R, h⟩ := h
  refine ⟨F, G, P, env, R, (Post.bind h).imp fun x G1 H1 P1 _ ⟨env1, R1, h1⟩ v1 r1 => ⟨F, G1, P1, env1, R1, (Post.bind h1).imp fun y G2 H2 P2 x2 ⟨env2, R2, h2⟩ v2 r2 => ?_⟩⟩
  obtain ⟨d, e, h2⟩ := Post.opt h2
  have h3 := Post.here R2 h2
  have r1 := r1.mono x2.same
  cases r2 with
  | int k =>
    cases r1 with
    | lst hq rs =>
      obtain ⟨v, ev, rv⟩ := atI_reps rs e
      exact .inl ⟨_, _, k, v, rfl, rfl, SqL.of (R2.gs _ _ hq), ev, h3 v rv⟩
    | ro hq rs =>
      obtain ⟨v, ev, rv⟩ := atI_reps rs e
      exact .inl ⟨_, _, k, v, rfl, rfl, R2.gs.seq hq, ev, h3 v rv⟩
    | tup hq rs =>
      obtain ⟨v, ev, rv⟩ := atI_reps rs e
      exact .inr (.inl ⟨_, _, k, v, rfl, rfl, Same.seqT R2.gs hq, ev, h3 v rv⟩)
    | str z =>
      simp only [dIx] at e
      split at e
      · rename_i hl
        obtain ⟨n, e1, e2⟩ := Option.map_eq_some_iff.mp e
        cases e2
        exact .inr (.inr ⟨z, k, n, rfl, rfl, by rw [sizeLine_eq]; exact hl, e1, h3 _ (.str _)⟩)
      · cases e
    | _ => cases e
  | _ => cases r1 <;> cases e
def tPO (K : PySem.W.Frag) (c : Cl) (W : WX) (m : Option (M D)) : TO := fun σ H Q => ∃ F G P env, Rel K c F G H P σ env ∧ Post K c W F G P σ env (mPart m env) fun o _ H' _ => Q o H'
theorem dp_none : PO X none (tPO X.K c W none) := by
  refine ⟨fun pins s σ H Q I h => po_none.run pins s σ H Q I ?_⟩
  obtain ⟨F, G, P, env, R, h⟩ := h
  exact Post.here R h
theorem dp_some (h : PE X e (tE X.K c W m)) : PO X (some e) (tPO X.K c W (some m)) := by
  refine ⟨fun pins s σ H Q I hw => (po_some h).run pins s σ H Q I ?_⟩
  obtain ⟨F, G, P, env, R, hw⟩ := hw
  refine ⟨F, G, P, env, R, (Post.bind hw).imp fun d G1 H1 P1 _ ⟨env1, R1, h1⟩ v r => ?_⟩
  cases r with
  | int k => exact ⟨k, rfl, Post.here R1 h1⟩
  | _ => exact h1.elim
theorem sl_any : SlR X (fun x lo hi H Q => rSlL X.K x lo hi H Q ∨ (rSlA X.K x lo hi H Q ∨ rSlS x lo hi H Q)) := sl_list.or (sl_tupA.or sl_str)
theorem de_sl {lo hi : Option Expr} {ml mh : Option (M D)} {p2 : Pos} (he : PE X e (tE X.K c W m)) (hl : PO X lo (tPO X.K c W ml)) (hh : PO X hi (tPO X.K c W mh)) : PE X (.Subscript e (.Slice lo hi none p2) pos) (tE X.K c W (mSl m ml mh)) := by
  refine PE.weak (pe_slice sl_any he hl hh) fun σ H Q h => ?_
  obtain ⟨F, G, P, env, R, h⟩ := h
  refine ⟨F, G, P, env, R, (Post.bind h).imp fun x G1 H1 P1 _ ⟨env1, R1, h1⟩ v1 r1 => ⟨F, G1, P1, env1, R1, (Post.bind h1).imp fun l G2 H2 P2 x2 ⟨env2, R2, h2⟩ => ⟨F, G2, P2, env2, R2, (Post.bind h2).imp fun u G3 H3 P3 x3 ⟨env3, R3, h3⟩ => ?_⟩⟩⟩
  obtain ⟨d, e, h3⟩ := Post.opt h3
  have r1 := r1.mono (x2.same.trans x3.same)
  cases r1 with
  | lst hq rs => cases e; exact .inl ⟨_, _, rfl, SqL.of (R3.gs _ _ hq), fun p n => new_val R3 h3 n (.lst upd_same ((cutD_reps rs l u).mono (same_new (none_of R3.gs n))))⟩
  | ro hq rs => cases e; exact .inl ⟨_, _, rfl, R3.gs.seq hq, fun p n => new_val R3 h3 n (.lst upd_same ((cutD_reps rs l u).mono (same_new (none_of R3.gs n))))⟩
  | tup hq rs =>
    cases e
    refine .inr (.inl ⟨_, _, rfl, Same.seqT R3.gs hq, fun hw => ?_, fun _ p n => new_val R3 h3 n (.tup (SqT.of upd_same) ((cutD_reps rs l u).mono (same_new (none_of R3.gs n))))⟩)
    refine Post.here R3 h3 _ (.tup hq ?_)
    exact (cutV_whole hw) ▸ cutD_reps rs l u
  | str z =>
    simp only [dSl] at e
    split at e
    · rename_i hl
      cases e
      exact .inr (.inr ⟨z, rfl, by rw [sizeLine_eq]; exact hl, Post.here R3 h3 _ (.str _)⟩)
    · cases e
  | _ => cases e
end
end L2.DL
set_option Elab.async false
set_option linter.all false
set_option maxRecDepth 100000
set_option maxHeartbeats 4000000
namespace L2.DL
open PySem PySem.Spec PyProof.Rows
theorem ds_never {X : Cx} {st : Stmt} {c : Cl} {W : WX} : PS X st (tS X.K c W fun _ => .bad) := ⟨fun _ _ _ _ _ _ ⟨_, _, _, _, _, h⟩ => h.elim⟩
theorem de_never {X : Cx} {e : Expr} {c : Cl} {W : WX} : PE X e (tE X.K c W fun _ => .bad) := ⟨fun _ _ _ _ _ _ ⟨_, _, _, _, _, h⟩ => h.elim⟩
/-! ### a, b = x, y -/
abbrev PV := Sum D Cell
def mInl (m : M D) : M PV := M.bind m fun d => M.ret (.inl d)
def mInr (m : M Cell) : M PV := M.bind m fun d => M.ret (.inr d)
def pvNil : M (List PV) := M.ret []
def pvCons (a : M PV) (b : M (List PV)) : M (List PV) := M.bind a fun x => M.bind b fun xs => M.ret (x :: xs)
def setPV (i : Nat) : PV → Ev → Option Ev
  | .inl d => setSl i (.val d)
  | .inr z => setSl i (.cell false z)
def setPVs : List Nat → List PV → Ev → Option Ev
  | [], [], e => some e
  | i :: is, p :: ps, e => match setPV i p e with
    | some e' => setPVs is ps e'
    | none => none
  | _, _, _ => none
def mPar (is : List Nat) (ms : M (List PV)) : MS := M.bind ms fun ps => M.upd (setPVs is ps)
inductive PVs (K : PySem.W.Frag) (c : Cl) (G H : Hp) : List V → List PV → List (List Addr) → Prop
  | nil : PVs K c G H [] [] []
  | inl {v d vs ps P} : Rep K c G v d → PVs K c G H vs ps P → PVs K c G H (v :: vs) (.inl d :: ps) ([] :: P)
  | inr {v z vs ps P p} : CellAt K c G H p v z → PVs K c G H vs ps P → PVs K c G H (v :: vs) (.inr z :: ps) (p :: P)
def tP (K : PySem.W.Frag) (c : Cl) (W : WX) (m : M PV) : TE := fun σ H Q => ∃ F G P env, Rel K c F G H P σ env ∧ Post K c W F G P σ env (m env) fun pv G' H' P' => ∀ v p, (match pv with | .inl d => Rep K c G' v d ∧ p = [] | .inr z => CellAt K c G' H' p v z) → p.Nodup → (∀ b, b ∈ p → F b = none ∧ G' b = none ∧ b ∉ P'.flatten) → Q v H'
def tPs (K : PySem.W.Frag) (c : Cl) (W : WX) (m : M (List PV)) : TA := fun σ H Q => ∃ F G P env, Rel K c F G H P σ env ∧ Post K c W F G P σ env (m env) fun pvs G' H' P' => ∀ vs PP, PVs K c G' H' vs pvs PP → PP.flatten.Nodup → (∀ b, b ∈ PP.flatten → F b = none ∧ G' b = none ∧ b ∉ P'.flatten) → Q vs H'
section
variable {K : PySem.W.Frag} {c : Cl} {W : WX} {F G G' G1 H H' H1 : Hp} {P P1 : List (List Addr)} {σ : St} {env env1 : Ev}
theorem PVs.move {vs : List V} {ps : List PV} {PP : List (List Addr)} (h : PVs K c G H vs ps PP) (e : Same G G') (k : ∀ b, b ∈ PP.flatten → ∀ o, H b = some o → H' b = some o) : PVs K c G' H' vs ps PP := by
  induction h with
  | nil => exact .nil
  | inl r _ ih => exact .inl (r.mono e) (ih fun b hb => k b (by rw [List.flatten_cons]; exact List.mem_append_right _ hb))
  | inr r _ ih => exact .inr (r.move e fun b hb => k b (by rw [List.flatten_cons]; exact List.mem_append_left _ hb)) (ih fun b hb => k b (by rw [List.flatten_cons]; exact List.mem_append_right _ hb))
/-- store them, from the left -/
theorem Rel.setPVs : ∀ {is : List Nat} {ps : List PV} {vs : List V} {PP : List (List Addr)} {P : List (List Addr)} {σ : St} {env e' : Ev}, Rel K c F G H P σ env → PVs K c G H vs ps PP → PP.flatten.Nodup → (∀ b, b ∈ PP.flatten → F b = none ∧ G b = none ∧ b ∉ P.flatten) → setPVs is ps env = some e' →
    ∃ P', Keep P P' env e' ∧ Rel K c F G H P' ((is.zip vs).foldl (fun σ x => σ.set x.1 (some x.2)) σ) e'
  | [], [], vs, _, P, σ, env, e', R, h, _, _, q => by
    cases h
    cases q
    exact ⟨P, Keep.refl _ _, R⟩
  | [], _ :: _, _, _, _, _, _, _, _, _, _, _, q => by cases q
  | _ :: _, [], _, _, _, _, _, _, _, _, _, _, q => by cases q
  | i :: is, p :: ps, vs, PP, P, σ, env, e', R, h, nd, out, q => by
    unfold DL.setPVs at q
    cases q1 : setPV i p env with
    | none => rw [q1] at q; cases q
    | some e1 =>
      rw [q1] at q
      cases h with
      | inl r t =>
        rename_i v d vs PP
        obtain ⟨_, k1, R1⟩ := R.setV r q1
        have nd' : PP.flatten.Nodup := by simpa using nd
        obtain ⟨P', k2, R2⟩ := Rel.setPVs R1 t nd' (fun b hb => by
          obtain ⟨a1, a2, a3⟩ := out b (by simpa using hb)
          exact ⟨a1, a2, fun z => a3 (no_alias R b z)⟩) q
        exact ⟨P', k1.trans k2, R2⟩
      | inr r t =>
        rename_i v z vs PP pp
        rw [List.flatten_cons] at nd out
        have nd' := List.nodup_append.mp nd
        obtain ⟨k1, R1⟩ := R.setC r nd'.1 (fun b hb => out b (List.mem_append_left _ hb)) q1
        obtain ⟨P', k2, R2⟩ := Rel.setPVs R1 t nd'.2.1 (fun b hb => by
          obtain ⟨a1, a2, a3⟩ := out b (List.mem_append_right _ hb)
          refine ⟨a1, a2, fun z => ?_⟩
          rcases flat_set z with z | z
          · exact nd'.2.2 b z b hb rfl
          · exact a3 z) q
        exact ⟨P', k1.trans k2, R2⟩
def hold (F H : Hp) (p : List Addr) : Hp := fun b => if b ∈ p then H b else F b
theorem hold_ext {p : List Addr} (hp : ∀ b, b ∈ p → F b = none) (h : Ext (hold F H p) G G') : Ext F G G' := ⟨h.same, fun b h1 h2 => h.fresh b h1 (by
  unfold hold
  rw [if_neg fun hb => h2 (hp b hb)]
  exact h2)⟩
theorem hold_rel {p : List Addr} (hp : ∀ b, b ∈ p → F b = none) (h : Rel K c (hold F H p) G H' P σ env) : Rel K c F G H' P σ env :=
  ⟨fun b o ho => h.fs b o (by unfold hold; rw [if_neg fun hb => by rw [hp b hb] at ho; cases ho]; exact ho), h.gs, h.all, fun b hb => ⟨by
    have := (h.out b hb).1
    unfold hold at this
    split at this
    · rename_i hb2; exact hp b hb2
    · exact this, (h.out b hb).2⟩, h.nd, ⟨h.tb.tabs, fun b ps z => h.tb.nf b ps (by unfold hold; rw [if_neg fun hb => by rw [hp b hb] at z; cases z]; exact z), h.tb.ng⟩⟩
theorem rel_hold {p : List Addr} (R : Rel K c F G H P σ env) (hp : ∀ b, b ∈ p → b ∉ P.flatten) (hnt : ∀ b, b ∈ p → ∀ ps, H b ≠ some (.tbl ps)) : Rel K c (hold F H p) G H P σ env :=
  ⟨fun b o ho => by
    unfold hold at ho
    split at ho
    · exact ho
    · exact R.fs b o ho, R.gs, R.all, fun b hb => ⟨by unfold hold; rw [if_neg fun h => hp b h hb]; exact (R.out b hb).1, (R.out b hb).2⟩, R.nd, ⟨R.tb.tabs, fun b ps z => by
    unfold hold at z
    split at z
    · rename_i hb; exact hnt b hb ps z
    · exact R.tb.nf b ps z, R.tb.ng⟩⟩
theorem Post.hold {α : Type} {p : List Addr} {r : Res α} {k k' : α → Hp → Hp → List (List Addr) → Prop} (hp : ∀ b, b ∈ p → F b = none) (h : Post K c W F G P σ env r k)
    (hk : ∀ a G' H' P' env', Ext (DL.hold F H p) G G' → Rel K c (DL.hold F H p) G' H' P' σ env' → k a G' H' P' → k' a G' H' P') : Post K c W (DL.hold F H p) G P σ env r k' := by
  cases r with
  | ok a env' => exact fun G' H' P' x q R => hk a G' H' P' env' x R (h G' H' P' (hold_ext hp x) q (hold_rel hp R))
  | exc x env' => exact fun G' H' P' cv dd x q R r => h G' H' P' cv dd (hold_ext hp x) q (hold_rel hp R) r
  | bad => exact h
end
section
variable {X : Cx} {c : Cl} {W : WX} {pos : Pos} {e : Expr} {es : List Expr} {m : M D} {mz : M Cell} {mp : M PV} {mps : M (List PV)}
theorem dp_inl (h : PE X e (tE X.K c W m)) : PE X e (tP X.K c W (mInl m)) := PE.weak h fun σ H Q h => by
  obtain ⟨F, G, P, env, R, h⟩ := h
  exact ⟨F, G, P, env, R, (Post.bind h).imp fun d G1 H1 P1 _ ⟨env1, R1, h1⟩ v r => Post.here R1 h1 v [] ⟨r, rfl⟩ List.nodup_nil (fun b hb => nomatch hb)⟩
theorem dp_inr (h : PE X e (tO X.K c W mz)) : PE X e (tP X.K c W (mInr mz)) := PE.weak h fun σ H Q h => by
  obtain ⟨F, G, P, env, R, h⟩ := h
  exact ⟨F, G, P, env, R, (Post.bind h).imp fun d G1 H1 P1 _ ⟨env1, R1, h1⟩ v p ca nd out => Post.here R1 h1 v p ca nd out⟩
theorem dps_nil : PA X [] (tPs X.K c W pvNil) := PA.weak pa_nil fun σ H Q ⟨F, G, P, env, R, h⟩ => Post.here R h _ _ .nil List.nodup_nil (fun b hb => nomatch hb)
theorem cellAt_nodup {K : PySem.W.Frag} {G H : Hp} {p : List Addr} {v : V} {z : Cell} (x : CellAt K c G H p v z) : p.Nodup := by
  cases x with
  | lst _ _ => simp
  | dct _ _ => simp
  | ob _ n _ _ => simp; exact fun z => n z.symm
theorem dps_cons (h1 : PE X e (tP X.K c W mp)) (h2 : PA X es (tPs X.K c W mps)) (hs : starEach (e :: es) X.env = (false, eval e X.env) :: starEach es X.env := by rfl) : PA X (e :: es) (tPs X.K c W (pvCons mp mps)) := by
  refine PA.weak (pa_cons h1 h2 hs) fun σ H Q h => ?_
  obtain ⟨F, G, P, env, R, h⟩ := h
  refine ⟨F, G, P, env, R, (Post.bind h).imp fun x G1 H1 P1 _ ⟨env1, R1, h1⟩ v p rv nd out => ?_⟩
  have hp : ∀ b, b ∈ p → F b = none := fun b hb => (out b hb).1
  have h1' := Post.bind h1
  refine ⟨hold F H1 p, G1, P1, env1, rel_hold R1 (fun b hb => (out b hb).2.2) (by
    cases x with
    | inl d => intro b hb; rw [rv.2] at hb; cases hb
    | inr z => intro b hb ps e; obtain ⟨o, o1, o2⟩ := cell_obj rv b hb; rw [e] at o1; cases o1; exact o2 ps rfl), Post.hold (H := H1) (p := p) hp h1' fun pvs G2 H2 P2 env2 x2 R2 h2 vs PP pv nd2 out2 => ?_⟩
  obtain ⟨env2', R2', h2⟩ := h2
  have hH : ∀ b, b ∈ p → ∀ o, H1 b = some o → H2 b = some o := fun b hb o ho => R2.fs b o (by unfold hold; rw [if_pos hb]; exact ho)
  have pnot : ∀ b, b ∈ p → H1 b ≠ none := by
    cases x with
    | inl d => intro b hb; rw [rv.2] at hb; cases hb
    | inr z => exact cell_there rv
  have pG : ∀ b, b ∈ p → G2 b = none := fun b hb => x2.fresh b (out b hb).2.1 (by unfold hold; rw [if_pos hb]; exact pnot b hb)
  have pP : ∀ b, b ∈ p → b ∉ P2.flatten := fun b hb hb2 => by
    have := (R2.out b hb2).1
    unfold hold at this
    rw [if_pos hb] at this
    exact pnot b hb this
  have pPP : ∀ b, b ∈ p → b ∉ PP.flatten := fun b hb hb2 => by
    have := (out2 b hb2).1
    unfold hold at this
    rw [if_pos hb] at this
    exact pnot b hb this
  have outF : ∀ b, b ∈ PP.flatten → F b = none := fun b hb => by
    have := (out2 b hb).1
    unfold hold at this
    rw [if_neg fun z => pPP b z hb] at this
    exact this
  have h3 := Post.here R2' h2
  cases x with
  | inl d =>
    obtain ⟨rd, e⟩ := rv
    subst e
    exact h3 _ ([] :: PP) (.inl (rd.mono x2.same) pv) (by simpa using nd2) fun b hb => by
      have hb : b ∈ PP.flatten := by simpa using hb
      exact ⟨outF b hb, (out2 b hb).2⟩
  | inr z =>
    refine h3 _ (p :: PP) (.inr (CellAt.move rv x2.same hH) pv) ?_ fun b hb => ?_
    · rw [List.flatten_cons]
      exact List.nodup_append.mpr ⟨nd, nd2, fun a ha b hb e => pPP a ha (e ▸ hb)⟩
    · rw [List.flatten_cons] at hb
      rcases List.mem_append.mp hb with hb | hb
      · exact ⟨hp b hb, pG b hb, pP b hb⟩
      · exact ⟨outF b hb, (out2 b hb).2⟩
theorem par_post {is : List Nat} {σ : St} {H : Hp} {D : Ends} (h : tS X.K c W (mPar is mps) D σ H) : tPs X.K c W mps σ H fun vs H1 => vs.length = is.length ∧ D.nx ((is.zip vs).foldl (fun σ x => σ.set x.1 (some x.2)) σ) H1 := by
  obtain ⟨F, G, P, env, R, h⟩ := h
  refine ⟨F, G, P, env, R, (Post.bindS h).imp fun ps G1 H1 P1 _ ⟨env1, R1, h1⟩ vs PP pv nd out => ?_⟩
  unfold M.upd at h1
  cases q : setPVs is ps env1 with
  | none => rw [q] at h1; exact h1.elim
  | some e1 =>
    rw [q] at h1
    obtain ⟨P', k, R2⟩ := Rel.setPVs R1 pv nd out q
    refine ⟨?_, PostS.here R2 (h1.chain (Ext.refl _ _) k)⟩
    have : ∀ {is : List Nat} {ps : List PV} {vs : List V} {PP : List (List Addr)} {e e' : Ev}, PVs X.K c G1 H1 vs ps PP → setPVs is ps e = some e' → vs.length = is.length := by
      intro is
      induction is with
      | nil => intro ps vs PP e e' pv q; cases pv <;> first | rfl | (unfold setPVs at q; cases q)
      | cons i is ih =>
        intro ps vs PP e e' pv q
        cases pv with
        | nil => unfold setPVs at q; cases q
        | inl _ t =>
          unfold setPVs at q
          split at q
          · rw [List.length_cons, List.length_cons, ih t q]
          · cases q
        | inr _ t =>
          unfold setPVs at q
          split at q
          · rw [List.length_cons, List.length_cons, ih t q]
          · cases q
    exact this pv q
theorem ds_par2 {i j : Nat} {x y : Str} {a b : Expr} {px py pt : Pos} {kt k2 pt2} (hN : X.N.Nodup) (ha : PA X [a, b] (tPs X.K c W mps)) (hij : i ≠ j := by decide) (hc : X.calm = true := by rfl) (hi : X.N[i]? = some x := by rfl) (hj : X.N[j]? = some y := by rfl)
    (hx : X.env.scope.names.lookup x = some .local := by rfl) (hy : X.env.scope.names.lookup y = some .local := by rfl)
    (hw : swappedStores [.Tuple [.Name x px, .Name y py] kt pt] (.Tuple [a, b] k2 pt2) X.env = pure (some [x, y]) := by rfl)
    (hs : swapsWithSole [.Tuple [.Name x px, .Name y py] kt pt] (.Tuple [a, b] k2 pt2) pos.line X.env = pure false := by rfl) :
    PS X (.Assign [.Tuple [.Name x px, .Name y py] kt pt] (.Tuple [a, b] k2 pt2) pos) (tS X.K c W (mPar [i, j] mps)) := by
  refine PS.weak (ps_par hc hN hi hj hij hx hy ha hw hs) fun D σ H h => ?_
  have h := par_post h
  obtain ⟨F, G, P, env, R, h⟩ := h
  refine ⟨F, G, P, env, R, h.imp fun ps G' H' P' _ q vs PP pv nd out => ?_⟩
  obtain ⟨hl, q⟩ := q vs PP pv nd out
  match vs, hl, q with
  | [v, w], _, q => exact ⟨v, w, rfl, q⟩
theorem ds_par3 {i j l : Nat} {x y z : Str} {a b d : Expr} {px py pz pt : Pos} {kt k2 pt2} (hN : X.N.Nodup) (ha : PA X [a, b, d] (tPs X.K c W mps)) (hij : i ≠ j := by decide) (hil : i ≠ l := by decide) (hjl : j ≠ l := by decide) (hc : X.calm = true := by rfl) (hi : X.N[i]? = some x := by rfl) (hj : X.N[j]? = some y := by rfl) (hl : X.N[l]? = some z := by rfl)
    (hx : X.env.scope.names.lookup x = some .local := by rfl) (hy : X.env.scope.names.lookup y = some .local := by rfl) (hz : X.env.scope.names.lookup z = some .local := by rfl)
    (hw : swappedStores [.Tuple [.Name x px, .Name y py, .Name z pz] kt pt] (.Tuple [a, b, d] k2 pt2) X.env = pure (some [x, y, z]) := by rfl)
    (hs : swapsWithSole [.Tuple [.Name x px, .Name y py, .Name z pz] kt pt] (.Tuple [a, b, d] k2 pt2) pos.line X.env = pure false := by rfl) :
    PS X (.Assign [.Tuple [.Name x px, .Name y py, .Name z pz] kt pt] (.Tuple [a, b, d] k2 pt2) pos) (tS X.K c W (mPar [i, j, l] mps)) := by
  refine PS.weak (ps_par3 hc hN hi hj hl hij hil hjl hx hy hz ha hw hs) fun D σ H h => ?_
  have h := par_post h
  obtain ⟨F, G, P, env, R, h⟩ := h
  refine ⟨F, G, P, env, R, h.imp fun ps G' H' P' _ q vs PP pv nd out => ?_⟩
  obtain ⟨hl, q⟩ := q vs PP pv nd out
  match vs, hl, q with
  | [u, v, w], _, q => exact ⟨u, v, w, rfl, q⟩
end
/-! ### x += e -/
def mAug (i : Nat) (g : D → D → Option D) (m : M D) : MS := fun env => match env[i]? with
  | some (.val d0) => M.bind m (fun d => M.bind (M.opt (g d0 d)) fun r => M.upd (setSl i (.val r))) env
  | _ => .bad
def dAddI : D → D → Option D
  | .int a, .int b => some (.int (a + b))
  | .str a, .str b => if a.length + b.length ≤ 16777216 then some (.str (a ++ b)) else none
  | _, _ => none
section
variable {X : Cx} {c : Cl} {W : WX} {pos : Pos} {e : Expr} {m : M D}
theorem do_iadd : OpD X c (inplaceOp .Add) dAddI := opd_of fun G H x y dx dy d hs r1 r2 e => by
  cases r1 with
  | int i =>
    cases r2 with
    | int j => cases e; exact ⟨_, iop_add, fun Q q => ⟨i, j, rfl, rfl, q G H _ (Pure.refl hs) (.int _)⟩⟩
    | _ => cases e
  | str i =>
    cases r2 with
    | str j =>
      simp only [dAddI] at e
      split at e
      · rename_i h
        cases e
        exact ⟨_, iop_add_str, fun Q q => ⟨i, j, rfl, rfl, by rw [sizeLine_eq]; exact h, q G H _ (Pure.refl hs) (.str _)⟩⟩
      · cases e
    | _ => cases e
  | _ => cases e
theorem do_isub : OpD X c (inplaceOp .Sub) dSub := opd_of fun G H x y dx dy d hs r1 r2 e => by
  cases r1 with
  | int i =>
    cases r2 with
    | int j => cases e; exact ⟨_, iop_sub, fun Q q => ⟨i, j, rfl, rfl, q G H _ (Pure.refl hs) (.int _)⟩⟩
    | _ => cases e
  | _ => cases e
theorem ds_aug {i : Nat} {x : Str} {pos' : Pos} {op : Operator} {g : D → D → Option D} (hN : X.N.Nodup) (ho : OpD X c (inplaceOp op) g) (he : PE X e (tE X.K c W m)) (hi : X.N[i]? = some x := by rfl) (hx : Loc X.env.scope x := by first | exact .inl rfl | exact .inr rfl)
    (hf : X.fn x = true ∨ X.env.scope.names.lookup x = some .local := by first | exact .inl rfl | exact .inr rfl) : PS X (.AugAssign (.Name x pos') op e pos) (tS X.K c W (mAug i g m)) := by
  refine PS.weak (ps_aug hN hi hx he ho hf) fun D σ H h => ?_
  obtain ⟨F, G, P, env, R, h⟩ := h
  unfold mAug at h
  cases e0 : env[i]? with
  | none => rw [e0] at h; exact h.elim
  | some s0 =>
    rw [e0] at h
    match s0, e0, h with
    | .no, _, h => exact h.elim
    | .cell _ _, _, h => exact h.elim
    | .val d0, e0, h =>
      obtain ⟨p, x, e1, e2, r⟩ := R.all.get e0
      cases r with
      | val r =>
        refine ⟨_, e2, F, G, P, env, R, (Post.bindS h).imp fun d G1 H1 P1 x1 ⟨env1, R1, h1⟩ v rv => ?_⟩
        cases q : g d0 d with
        | none => rw [q] at h1; exact h1.elim
        | some dr =>
          rw [q] at h1
          refine ⟨G1, d0, d, dr, R1.gs, ⟨R1.tb.tabs, R1.tb.ng⟩, r.mono x1.same, rv, q, fun G2 H2 v2 pu r2 => ?_⟩
          obtain ⟨x2, R2⟩ := R1.pure pu
          have h1 : PostS X.K c W F G1 P1 env1 (M.upd (setSl i (.val dr)) env1) D := h1
          have h1 := h1.chain x2 (Keep.refl _ _)
          unfold M.upd at h1
          cases q : setSl i (.val dr) env1 with
          | none => rw [q] at h1; exact h1.elim
          | some e1 =>
            rw [q] at h1
            obtain ⟨_, k, R3⟩ := R2.setV r2 q
            exact PostS.here R3 (h1.chain (Ext.refl _ _) k)
end
/-! ### isinstance -/
inductive Tg where
  | b (n : String) | o (k : Nat)
  deriving DecidableEq
def D.tg : D → Option Tg
  | .non => some (.b "NoneType")
  | .bl _ => some (.b "bool")
  | .int _ => some (.b "int")
  | .str _ => some (.b "str")
  | .lst _ => some (.b "list")
  | .tup _ => some (.b "tuple")
  | .dct _ => some (.b "dict")
  | .obj k _ => some (.o k)
  | _ => none
def Tg.v (c : Cl) : Tg → Value
  | .b n => .type n
  | .o k => .ref (c.cls k)
/-- what is known of isinstance with one class -/
structure IsiF (K : PySem.W.Frag) (c : Cl) (u : Value) (g : Tg → Option Bool) : Prop where
  at_ : ∀ t b, g t = some b → PySem.W.kitOne K (t.v c) u = some b
  ob : ∀ k b, g (.o k) = some b → SlX.SCls K (c.cls k) ∧ SlX.SIsi K (c.cls k)
def mIsi (g : Tg → Option Bool) (m : M D) : M D := M.bind m fun d => M.opt ((d.tg.bind g).map .bl)
section
variable {X : Cx} {c : Cl} {W : WX} {pos p : Pos} {e : Expr} {m : M D} {x : Str}
theorem rd_tyx {K : PySem.W.Frag} {H : Hp} {a : Addr} {vs : List V} (h : SqT K H a vs) : TyX K H (.ref a) (.type "tuple") := by
  rcases h with (h | ⟨o, h⟩) | ⟨o, its, n, h, hc, _⟩
  · exact .base (.tup h)
  · exact .fTuple h
  · exact .kTuple h hc
theorem isi_rep {K : PySem.W.Frag} {G H : Hp} (hs : Same G H) {v : V} {d : D} {t : Tg} (r : Rep K c G v d) (e : d.tg = some t) : (TyX K H v (t.v c) ∧ ∀ k, t ≠ .o k) ∨ ∃ k a dx vs, t = .o k ∧ v = .ref a ∧ SlX.Slt H a (c.cls k) dx vs := by
  cases r with
  | non => cases e; exact .inl ⟨.base .non, fun _ z => nomatch z⟩
  | bl b => cases e; exact .inl ⟨.base (.bl b), fun _ z => nomatch z⟩
  | int b => cases e; exact .inl ⟨.base (.int b), fun _ z => nomatch z⟩
  | str b => cases e; exact .inl ⟨.base (.str b), fun _ z => nomatch z⟩
  | ty n => cases e
  | glb a => cases e
  | lst h _ => cases e; exact .inl ⟨.base (.lst (hs _ _ h)), fun _ z => nomatch z⟩
  | ro h _ => cases e
  | tup h _ => cases e; exact .inl ⟨rd_tyx (Same.seqT hs h), fun _ z => nomatch z⟩
  | obj h _ => cases e; exact .inr ⟨_, _, _, _, rfl, rfl, Same.slt hs h⟩
  | dct h _ =>
    cases e
    rcases Same.rd hs h with h | ⟨o, h⟩
    · exact .inl ⟨.base (.dK h), fun _ z => nomatch z⟩
    · exact .inl ⟨.fDict h, fun _ z => nomatch z⟩
theorem rel_clsV {cv : V} {u : Value} (k : ClsV cv u) : RelV cv u := by cases k <;> rfl
theorem de_isi {cv : V} {u : Value} {g : Tg → Option Bool} {t : Expr} (F : IsiF X.K c u g) (hk : ClsV cv u) (he : PE X e (tE X.K c W m)) (ht : PE X t (tC cv)) (hm : X.mg "isinstance" = none) (hg : Gl X "isinstance" := by rfl)
    (hn : ("isinstance" : Str) ≠ "__name__" := by decide) (hdb : (("isinstance" : Str) == ("__debug__" : Str)) = false := by decide) (he1 : starEach (e :: [t]) X.env = (false, eval e X.env) :: starEach [t] X.env := by rfl) (he2 : starEach [t] X.env = (false, eval t X.env) :: starEach [] X.env := by rfl)
    (hpl : (backTo pos (starEach [t] X.env)).any (·.1) = false := by rfl) : PE X (.Call (.Name "isinstance" p) [e, t] [] pos) (tE X.K c W (mIsi g m)) := by
  have hc : CallR X (.builtin "isinstance") (fun xs H Q => rIsi X.K xs H Q ∨ SlX.rIsiSl X.K u xs H Q) := by
    intro pins s σ H xs us Q I r h
    rcases h with h | h
    · exact call_isi pins s σ H xs us Q I r h
    · exact SlX.call_isiSl u pins s σ H xs us Q I r h
  refine PE.weak (pe_callB hc hg hm (by decide +kernel) (pa_cons he (pa_cons ht pa_nil he2) he1) hn hdb he1 hpl) fun σ H Q h => ?_
  obtain ⟨F0, G, P, env, R, h⟩ := h
  refine ⟨F0, G, P, env, R, (Post.bind h).imp fun d G1 H1 P1 _ ⟨env1, R1, h1⟩ v r => ?_⟩
  obtain ⟨d2, e, h1⟩ := Post.opt h1
  obtain ⟨b, e1, e2⟩ := Option.map_eq_some_iff.mp e
  subst e2
  obtain ⟨tt, e3, e4⟩ := Option.bind_eq_some_iff.mp e1
  have fin := Post.here R1 h1 _ (.bl b)
  rcases isi_rep R1.gs r e3 with ⟨h1, _⟩ | ⟨k, a, dx, vs, rfl, rfl, hsl⟩
  · exact .inl ⟨v, cv, _, u, b, rfl, hk, h1, F.at_ _ _ e4, fin⟩
  · obtain ⟨h1, h2⟩ := F.ob k b e4
    exact .inr ⟨a, _, dx, vs, cv, b, rfl, rel_clsV hk, fun w rw => hk.eq rw, hsl, h1, h2, F.at_ _ _ e4, fin⟩
end
/-! ### methods of texts -/
def rS (K : PySem.W.Frag) (c : Cl) (g : Str → List D → Option D) : V → List V → Hp → VK → Prop := fun x xs H Q => ∃ G z ds d, x = .str z ∧ Same G H ∧ Reps K c G xs ds ∧ g z ds = some d ∧ ∀ G' H' v, Pure c H G H' G' → Rep K c G' v d → Q v H'
def MtS (X : Cx) (c : Cl) (id : String) (g : Str → List D → Option D) : Prop := MtR X id (rS X.K c g)
def mMeth (g : Str → List D → Option D) (m : M D) (ms : M (List D)) : M D := M.bind m fun x => match x with
  | .str z => M.bind ms fun ds => M.opt (g z ds)
  | _ => fun _ => .bad
section
variable {X : Cx} {c : Cl} {W : WX} {call : Expr} {m : M D} {ms : M (List D)} {g : Str → List D → Option D}
theorem mts_of {id : String} (h : ∀ (G H : Hp) (z : Str) (xs : List V) (ds : List D) (d : D), Same G H → Reps X.K c G xs ds → g z ds = some d → ∃ r : V → List V → Hp → VK → Prop, MtR X id r ∧ ∀ Q : VK, (∀ G' H' v, Pure c H G H' G' → Rep X.K c G' v d → Q v H') → r (.str z) xs H Q) : MtS X c id g := by
  intro pins s σ H x xs v us Q I rx rxs hq
  obtain ⟨G, z, ds, d, rfl, hs, r2, e, q⟩ := hq
  obtain ⟨r, ho, hr⟩ := h G H z xs ds d hs r2 e
  exact ho pins s σ H _ xs v us Q I rx rxs (hr Q q)
theorem de_meth (hb : PE X call (tBM X.K "str" (rS X.K c g) (tE X.K c W m) (tA X.K c W ms))) : PE X call (tE X.K c W (mMeth g m ms)) := by
  refine PE.weak hb fun σ H Q h => ?_
  obtain ⟨F, G, P, env, R, h⟩ := h
  refine ⟨F, G, P, env, R, (Post.bind h).imp fun x G1 H1 P1 _ ⟨env1, R1, h1⟩ v r => ?_⟩
  cases r with
  | str z =>
    refine ⟨rfl, F, G1, P1, env1, R1, (Post.bind h1).imp fun ds G2 H2 P2 x2 ⟨env2, R2, h2⟩ vs rs => ?_⟩
    obtain ⟨d, e, h2⟩ := Post.opt h2
    refine ⟨G2, z, ds, d, rfl, R2.gs, rs, e, fun G' H' v p r => ?_⟩
    obtain ⟨x3, R3⟩ := R2.pure p
    exact h2 G' H' P2 x3 (Keep.refl _ _) R3 v r
  | _ => exact h1.elim
def sCount (z : Str) : List D → Option D
  | [.str b] => some (.int (Txt.count z b))
  | _ => none
theorem mt_countD : MtS X c "str.count" sCount := mts_of fun G H z xs ds d hs rs e => by
  unfold sCount at e
  split at e
  · obtain ⟨x, rfl, r⟩ := rs.one
    cases r; cases e
    exact ⟨_, mt_count, fun Q q => ⟨_, _, rfl, rfl, q G H _ (Pure.refl hs) (.int _)⟩⟩
  · cases e
def sFind (z : Str) : List D → Option D
  | [.str b, .int i] => some (.int (Txt.find3 z b i))
  | _ => none
theorem mt_findD : MtS X c "str.find" sFind := mts_of fun G H z xs ds d hs rs e => by
  unfold sFind at e
  split at e
  · obtain ⟨x, y, rfl, r1, r2⟩ := rs.two
    cases r1; cases r2; cases e
    exact ⟨_, mt_find3, fun Q q => ⟨_, _, _, rfl, rfl, q G H _ (Pure.refl hs) (.int _)⟩⟩
  · cases e
def D.strs : List D → Option (List Str)
  | [] => some []
  | .str i :: r => (D.strs r).map (i :: ·)
  | _ :: _ => none
theorem strs_rep {K : PySem.W.Frag} {G : Hp} : ∀ {vs : List V} {ds : List D} {ns : List Str}, Reps K c G vs ds → D.strs ds = some ns → vs = ns.map V.str
  | _, _, _, .nil, e => by simp only [D.strs] at e; cases e; rfl
  | _, _, _, .cons h r, e => by
    cases h with
    | str i =>
      simp only [D.strs] at e
      obtain ⟨ms, e1, e2⟩ := Option.map_eq_some_iff.mp e
      cases e2
      rw [strs_rep r e1]
      rfl
    | _ => simp only [D.strs] at e; cases e
def D.seq : D → Option (List D)
  | .lst xs => some xs
  | .ro xs => some xs
  | .tup xs => some xs
  | _ => none
theorem seq_rep {K : PySem.W.Frag} {G H : Hp} (hs : Same G H) {v : V} {d : D} {xs : List D} (r : Rep K c G v d) (e : d.seq = some xs) : ∃ a vs, v = .ref a ∧ (SqL K H a vs ∨ SqT K H a vs) ∧ Reps K c G vs xs := by
  cases r with
  | lst h s => cases e; exact ⟨_, _, rfl, .inl (SqL.of (hs _ _ h)), s⟩
  | ro h s => cases e; exact ⟨_, _, rfl, .inl (hs.seq h), s⟩
  | tup h s => cases e; exact ⟨_, _, rfl, .inr (Same.seqT hs h), s⟩
  | _ => cases e
def sJoin (z : Str) : List D → Option D
  | [x] => x.seq.bind fun xs => (D.strs xs).bind fun ys => if (ys.map (·.length)).sum + ys.length * z.length ≤ 16777216 then some (.str (Txt.join z ys)) else none
  | _ => none
theorem mt_joinD : MtS X c "str.join" sJoin := mts_of fun G H z xs ds d hs rs e => by
  unfold sJoin at e
  split at e
  · obtain ⟨x, rfl, r⟩ := rs.one
    obtain ⟨xs, e1, e⟩ := Option.bind_eq_some_iff.mp e
    obtain ⟨ys, e2, e⟩ := Option.bind_eq_some_iff.mp e
    split at e
    · rename_i hl
      cases e
      obtain ⟨a, vs, rfl, h, s⟩ := seq_rep hs r e1
      have h1 := strs_rep s e2
      subst h1
      exact ⟨_, mt_join, fun Q q => ⟨_, _, _, rfl, rfl, h, hl, q G H _ (Pure.refl hs) (.str _)⟩⟩
    · cases e
  · cases e
end
/-! ### list(x): a new thing of one's own -/
def fList (d : D) : Option (List D) := match d with
  | .lst xs => some xs
  | .ro xs => some xs
  | .tup xs => some xs
  | .str z => if z.length ≤ 16777216 then some (strItems z) else none
  | _ => none
def mList (m : M D) : M Cell := M.bind m fun d => M.bind (M.opt (fList d)) fun xs => M.ret (.lst xs)
section
variable {X : Cx} {c : Cl} {W : WX} {pos p : Pos} {e : Expr} {m : M D}
theorem call_listS : CallR X (.type "list") (fun xs H Q => ∃ z, xs = [.str z] ∧ z.length ≤ sizeLine ∧ X.calm = true ∧ ∀ l, H l = none → Q (.ref l) (upd H l (.lst (z.cps.toList.map fun k => .str ⟨#[k]⟩)))) := by
  intro pins s σ H xs us Q I r h
  obtain ⟨z, rfl, hz, hc, q⟩ := h
  obtain ⟨u, rfl, rx⟩ := vals1 r
  obtain ⟨t, rfl⟩ := rx
  refine call_list_str (I.ok.hd hc) z t (fun h' tk acc c' hk hS ha => ?_) hz
  have hf : H s.heap.objs.size = none := I.hok.fresh (Nat.le_refl _)
  have hlen : acc.toList.length = z.cps.size := by rw [Array.length_toList]; exact ha.1
  refine ⟨.ref s.heap.objs.size, upd H s.heap.objs.size (.lst (z.cps.toList.map fun k => .str ⟨#[k]⟩)), I.laid (t' := tk) hk (Nat.le_refl _) ?_, rfl, q _ hf⟩
  refine ⟨by rw [List.length_map, Array.length_toList]; exact hz, acc.toList, c', ?_, by rw [Array.toArray_toList]; exact hS⟩
  refine vals_of_idx _ _ (by rw [List.length_map, hlen, Array.length_toList]) fun j u hu => ?_
  rw [Array.getElem?_toList] at hu
  obtain ⟨k, t2, e1, e2⟩ := ha.2 j u hu
  refine ⟨.str ⟨#[k]⟩, ?_, ⟨t2, e2⟩⟩
  rw [List.getElem?_map, Array.getElem?_toList, e1]
  rfl
theorem do_list (hm : X.mg "list" = none) (he : PE X e (tE X.K c W m)) (hg : Gl X "list" := by rfl) (hc : X.calm = true := by rfl) (he1 : starEach [e] X.env = (false, eval e X.env) :: starEach [] X.env := by rfl) (hpl : (backTo pos (starEach [] X.env)).any (·.1) = false := by rfl) :
    PE X (.Call (.Name "list" p) [e] [] pos) (tO X.K c W (mList m)) := by
  have hcr : CallR X (.type "list") (fun xs H Q => (∃ p ys, xs = [.ref p] ∧ (SqL X.K H p ys ∨ SqT X.K H p ys) ∧ ∀ l, H l = none → Q (.ref l) (upd H l (.lst ys))) ∨
      (∃ z, xs = [.str z] ∧ z.length ≤ sizeLine ∧ X.calm = true ∧ ∀ l, H l = none → Q (.ref l) (upd H l (.lst (z.cps.toList.map fun k => .str ⟨#[k]⟩))))) := by
    intro pins s σ H xs us Q I r h
    rcases h with h | h
    · exact call_list_of pins s σ H xs us Q I r h
    · exact call_listS pins s σ H xs us Q I r h
  refine PE.weak (pe_callTy hcr hg hm (by decide +kernel) (pa_cons he pa_nil he1) (by decide) (by decide) he1 hpl) fun σ H Q h => ?_
  obtain ⟨F, G, P, env, R, h⟩ := h
  refine ⟨F, G, P, env, R, (Post.bind h).imp fun x G1 H1 P1 _ ⟨env1, R1, h1⟩ v r => ?_⟩
  cases e : fList x with
  | none => rw [e] at h1; exact h1.elim
  | some xs =>
  rw [e] at h1
  have h1 : Post X.K c W F G1 P1 σ env1 (Res.ok (Cell.lst xs) env1) fun z G' H' P' => ∀ v p, CellAt X.K c G' H' p v z → p.Nodup → (∀ b, b ∈ p → F b = none ∧ G' b = none ∧ b ∉ P'.flatten) → Q v H' := h1
  cases r with
  | lst h s => cases e; exact .inl ⟨_, _, rfl, .inl (SqL.of (R1.gs _ _ h)), fun p n => new_cell R1 h1 n (.lst upd_same s)⟩
  | ro h s => cases e; exact .inl ⟨_, _, rfl, .inl (R1.gs.seq h), fun p n => new_cell R1 h1 n (.lst upd_same s)⟩
  | tup h s => cases e; exact .inl ⟨_, _, rfl, .inr (Same.seqT R1.gs h), fun p n => new_cell R1 h1 n (.lst upd_same s)⟩
  | str z =>
    simp only [fList] at e
    split at e
    · rename_i hl
      cases e
      refine .inr ⟨z, rfl, by rw [sizeLine_eq]; exact hl, hc, fun p n => new_cell R1 h1 n (.lst upd_same ?_)⟩
      unfold strItems
      generalize z.cps.toList = l
      induction l with
      | nil => exact .nil
      | cons a l ih => exact .cons (.str _) ih
    · cases e
  | _ => cases e
end
/-! ### enumerate -/
def enumD : Nat → List D → List D
  | _, [] => []
  | n, d :: ds => .tup [.int n, d] :: enumD (n + 1) ds
def mEnum (m : M D) : M (List D) := M.bind m fun d => M.bind (M.opt d.items) fun xs => M.ret (enumD 0 xs)
section
variable {X : Cx} {c : Cl} {W : WX} {pos p tpos : Pos} {e : Expr} {elts : List Expr} {kk : Nat} {m : M D}
theorem enumD_len : ∀ (n : Nat) (ds : List D), (enumD n ds).length = ds.length
  | _, [] => rfl
  | n, _ :: ds => by simp [enumD, enumD_len (n + 1) ds]
theorem enumD_get : ∀ (n : Nat) (ds : List D) (i : Nat), (enumD n ds)[i]? = ds[i]?.map fun d => .tup [.int ((n + i : Nat) : Int), d]
  | _, [], i => by simp [enumD]
  | n, d :: ds, 0 => by simp [enumD]
  | n, d :: ds, i + 1 => by
    simp only [enumD, List.getElem?_cons_succ]
    rw [enumD_get (n + 1) ds i]
    congr 1
    funext d
    rw [show n + 1 + i = n + (i + 1) by omega]
theorem gives_enum {K : PySem.W.Frag} {G0 : Hp} {a : Addr} {vs : List V} {ds : List D} (h : SqL K G0 a vs) (r : Reps K c G0 vs ds) : Gives K c G0 (Ite K a) (enumD 0 ds) := by
  refine ⟨⟨fun H => SqL K H a vs, _, by rw [enumD_len, ← r.length]; exact walk_enum, fun H hs => hs.seq h, fun i H x H' G _ g1 g2 y => ?_⟩⟩
  obtain ⟨T, x1, y1, e1, e2, e3, e4, e5⟩ := y
  subst e1 e3
  obtain ⟨d, e6, rd⟩ := r.get' e5
  cases e4
  refine ⟨upd G T (.tup [.int (i : Nat), y1]), .tup [.int ((0 + i : Nat) : Int), d], by rw [enumD_get, e6]; rfl, Pure.new _ g2 e2, ?_⟩
  rw [Nat.zero_add]
  exact .tup (SqT.of upd_same) (.cons (.int _) (.cons (rd.mono (g1.trans (same_new (none_of g2 e2)))) .nil))
theorem di_enum (hm : X.mg "enumerate" = none) (he : PE X e (tE X.K c W m)) (hg : Gl X "enumerate" := by rfl) (he1 : starEach [e] X.env = (false, eval e X.env) :: starEach [] X.env := by rfl) (hs : starEach [e] X.env = [(false, eval e X.env)] := by rfl) :
    PI X (.Tuple elts kk tpos) (.Call (.Name "enumerate" p) [e] [] pos) (tI X.K c W (mEnum m)) := by
  refine PI.weak (pi_enum hg hm (pa_cons he pa_nil he1) hs) fun σ H R h => ?_
  obtain ⟨F, G, P, env, Rl, h⟩ := h
  refine ⟨F, G, P, env, Rl, (Post.bind h).imp fun x G1 H1 P1 _ ⟨env1, R1, h1⟩ v r => ?_⟩
  cases e : x.items with
  | none => rw [e] at h1; exact h1.elim
  | some xs =>
    rw [e] at h1
    have h2 : Post X.K c W F G1 P1 σ env1 (.ok (enumD 0 xs) env1) _ := h1
    cases r with
    | lst h s => cases e; exact ⟨_, _, rfl, SqL.of (R1.gs _ _ h), Post.here R1 h2 _ (gives_enum (SqL.of h) s)⟩
    | ro h s => cases e; exact ⟨_, _, rfl, R1.gs.seq h, Post.here R1 h2 _ (gives_enum h s)⟩
    | _ => cases e
end
/-- the getter runs -/
theorem get_propG {X : Cx} {pins : List (Addr × Obj)} {σ : St} {H : Hp} {s : Shared} {a C dx p g : Addr} {vs : List (Option V)} {f : Str} {n : Nat} {sp : Sp} {E : XK} {b : Bool} {Q : VK} (I : Inv X pins σ H s) (h : SlX.Slt H a C dx vs) (c : SlX.SCls X.K C) (f1 : PySem.W.findIn X.K (.ref C) f = some (some (.ref p)))
    (f2 : PySem.W.specialIn X.K (.ref p) "__get__" = some (some (.builtin "property.__get__"))) (f3 : PySem.W.takesIn X.K (.ref p) = some true) (f4 : ∃ rest, PySem.W.recIn X.K p "property" = some (.ref g :: rest)) (Fg : FnRG X.prog X.w X.K X.mg X.base (L2.CX X.prog X.w) n g sp) (hr : RoomG (n + 1) X.A)
    (no : ∀ (H : Hp) (s : Shared) (e : Value) (s' : Shared), L2.CX X.prog X.w X.stack H s E e s' → False) (q : sp [.ref a] H Q E) : wpAny (model X.prog X.w) X.A (getAttr (.ref a) f b) (EP X pins σ Q) X.xe s := by
  obtain ⟨sl, od, _, inst, _⟩ := SlX.slt_inst I h
  obtain ⟨more, rec⟩ := f4
  have J : Inv X pins σ H { s with toks := s.toks + 1 } := I.tok (s.toks + 1)
  have pg := PySem.W.plainGet_of (c.get f)
  apply PySem.W.get_bind I.kIn inst pg.1 (PySem.W.findObj_data c.ic f1 f2 f3) pg.2
  apply wpAny_call
  apply PySem.W.prop_get (s := { s with toks := s.toks + 1 }) I.kIn rec
  have go := Fg X.A.in1 X.stack { s with toks := s.toks + 1 } H [.ref a] [.ref a] Q E hr.in1 J.env0.in1 (.cons rfl .nil) q
  refine codeAny_mono go fun res s2 out => ?_
  match res, out with
  | .error e, out => exact (no _ _ _ _ out).elim
  | .ok .next, out => exact out.elim
  | .ok .brk, out => exact out.elim
  | .ok .cont, out => exact out.elim
  | .ok (.ret u), out =>
    obtain ⟨v, H2, J2, rv, hq⟩ := J.after out
    exact wpAny_of_eq (PySem.W.handedOut_of (handed_of rv)) ⟨v, H2, J2, rv, hq⟩
theorem pe_propG {X : Cx} {e : Expr} {f : Str} {pos : Pos} {ta : TE} {C p g : Addr} {n : Nat} {sp : Sp} {E : XK} (he : PE X e ta) (c : SlX.SCls X.K C) (f1 : PySem.W.findIn X.K (.ref C) f = some (some (.ref p))) (f2 : PySem.W.specialIn X.K (.ref p) "__get__" = some (some (.builtin "property.__get__")))
    (f3 : PySem.W.takesIn X.K (.ref p) = some true) (f4 : ∃ rest, PySem.W.recIn X.K p "property" = some (.ref g :: rest)) (Fg : FnRG X.prog X.w X.K X.mg X.base (L2.CX X.prog X.w) n g sp) (hr : RoomG (n + 1) X.A)
    (no : ∀ (H : Hp) (s : Shared) (e : Value) (s' : Shared), L2.CX X.prog X.w X.stack H s E e s' → False) (hb : attributeBase e f X.env (eval e X.env) = eval e X.env := by rfl) : PE X (.Attribute e f pos) (SlX.tPropSl C sp E ta) := by
  constructor
  intro pins s σ H Q I h
  refine attr_of hb (thn (he.run pins s σ H _ I h) fun u s1 z => ?_)
  obtain ⟨x, H1, I1, rx, a, dx, vs, ex, hs, q⟩ := z
  subst ex
  cases (show u = Value.ref a from rx)
  exact get_propG I1 hs c f1 f2 f3 f4 Fg hr no q
/-! ### properties -/
/-- a property of a class: its getter's mirror; it raises nothing -/
structure Pf (P : Program) (w : World) (K : PySem.W.Frag) (mg : Str → Option Value) (base : Heap) (c : Cl) (cl : Nat) (f : Str) (k : Nat) (fn : Fn) : Prop where
  sc : SlX.SCls K (c.cls cl)
  ex : ∃ p g : Addr, PySem.W.findIn K (.ref (c.cls cl)) f = some (some (.ref p)) ∧ PySem.W.specialIn K (.ref p) "__get__" = some (some (.builtin "property.__get__")) ∧ PySem.W.takesIn K (.ref p) = some true ∧
    (∃ rest, PySem.W.recIn K p "property" = some (.ref g :: rest)) ∧ FnRG P w K mg base (L2.CX P w) k g (spD K c 1 fn)
def mProp (cl : Nat) (fn : Fn) (m : M D) : M D := M.bind m fun d env => match d with
  | .obj n _ => if n = cl then match fn [.val d] with
    | .ok d' _ => .ok d' env
    | _ => .bad
    else .bad
  | _ => .bad
section
variable {X : Cx} {c : Cl} {W : WX} {pos : Pos} {e : Expr} {m : M D} {f : Str} {cl k : Nat} {fn : Fn}
theorem de_prop (Pr : Pf X.prog X.w X.K X.mg X.base c cl f k fn) (hr : RoomG (k + 1) X.A) (he : PE X e (tE X.K c W m)) (hb : attributeBase e f X.env (eval e X.env) = eval e X.env := by rfl) : PE X (.Attribute e f pos) (tE X.K c W (mProp cl fn m)) := by
  obtain ⟨sc, p, g, f1, f2, f3, f4, Fg⟩ := Pr
  have hx : ∀ (H : Hp) (s : Shared) (e : Value) (s' : Shared), L2.CX X.prog X.w X.stack H s E0 e s' → False := fun _ _ _ _ h => by
    obtain ⟨_, _, _, _, _, _, _, _, _, _, _, _, z⟩ := h
    exact z.elim
  refine PE.weak (pe_propG he sc f1 f2 f3 f4 Fg hr hx hb) fun σ H Q h => ?_
  obtain ⟨F, G, P, env, R, h⟩ := h
  refine ⟨F, G, P, env, R, (Post.bind h).imp fun x G1 H1 P1 _ ⟨env1, R1, h1⟩ v r => ?_⟩
  cases r with
  | @obj a dx vs fs n hsl rs =>
    dsimp only at h1
    split at h1
    · rename_i hn
      subst hn
      refine ⟨a, dx, _, rfl, Same.slt R1.gs hsl, spD_vals (ds := [.obj n fs]) R1.gs ⟨R1.tb.tabs, R1.tb.ng⟩ (.cons (.obj hsl rs) .nil) rfl ?_⟩
      show match fn [Sl.val (D.obj n fs)] with | .ok d _ => _ | .exc x _ => _ | .bad => False
      cases q : fn [.val (.obj n fs)] with
      | bad => rw [q] at h1; exact h1.elim
      | exc x s => rw [q] at h1; exact h1.elim
      | ok d s =>
        rw [q] at h1
        intro G' H' v pu rv
        obtain ⟨x, R'⟩ := R1.pure pu
        exact h1 G' H' P1 x (Keep.refl _ _) R' v rv
    · exact h1.elim
  | _ => exact h1.elim
end
end L2.DL
set_option Elab.async false
set_option linter.all false
set_option maxRecDepth 100000
set_option maxHeartbeats 4000000
namespace L2.DL
open PySem PySem.Spec PyProof.Rows
section
variable {P : Program} {w : World} {K : PySem.W.Frag} {mg : Str → Option Value} {base : Heap} {c : Cl}
/-! ### from a def's theorem to what its callers ask -/
theorem df_of {x : Str} {k n : Nat} {fn : Fn} {f : Addr} {fd : FuncData} {ps : List Str} (F : FnG P w K mg base (L2.CX P w) k f fd ps (spD K c n fn)) (hb : Binds K fd ps []) (hm : mg x = some (.ref f)) (hk : PySem.W.keepIn K (.ref f) = true) : Df P w K mg base c x k n fn :=
  ⟨f, (F.raw hb .nil).imp fun vs H Q E h => by simpa using h, hm, hk⟩
theorem dfO_of {x : Str} {k n : Nat} {fn : FnO} {f : Addr} {fd : FuncData} {ps : List Str} (F : FnG P w K mg base (L2.CX P w) k f fd ps (spO K c n fn)) (hb : Binds K fd ps []) (hm : mg x = some (.ref f)) (hk : PySem.W.keepIn K (.ref f) = true) : DfO P w K mg base c x k n fn :=
  ⟨f, (F.raw hb .nil).imp fun vs H Q E h => by simpa using h, hm, hk⟩
theorem ck_of {x : Str} {cl k n : Nat} {fn : Fn} {f : Addr} {fd : FuncData} {ps : List Str} (F : FnG P w K mg base (L2.CX P w) k f fd ps (spD K c (n + 1) fn)) (hb : Binds K fd ps []) (hm : mg x = some (.ref (c.cls cl))) (M : Mk K (c.cls cl) f) : Ck P w K mg base c x cl k n fn :=
  ⟨hm, f, M, (F.raw hb .nil).imp fun vs H Q E h => by simpa using h⟩
theorem pf_of {x : Str} {cl k : Nat} {fn : Fn} {p f : Addr} {rest : List Value} {fd : FuncData} {ps : List Str} (F : FnG P w K mg base (L2.CX P w) k f fd ps (spD K c 1 fn)) (hb : Binds K fd ps []) (sc : SlX.SCls K (c.cls cl))
    (h1 : PySem.W.findIn K (.ref (c.cls cl)) x = some (some (.ref p))) (h2 : PySem.W.specialIn K (.ref p) "__get__" = some (some (.builtin "property.__get__"))) (h3 : PySem.W.takesIn K (.ref p) = some true) (h4 : PySem.W.recIn K p "property" = some (.ref f :: rest)) : Pf P w K mg base c cl x k fn :=
  ⟨sc, p, f, h1, h2, h3, ⟨rest, h4⟩, (F.raw hb .nil).imp fun vs H Q E h => by simpa using h⟩
theorem mnil {α : Type} {Q : α → Prop} : ∀ p ∈ ([] : List α), Q p := fun _ h => by cases h
theorem mcons {α : Type} {Q : α → Prop} {a : α} {l : List α} (h : Q a) (t : ∀ p ∈ l, Q p) : ∀ p ∈ a :: l, Q p := fun p hp => by
  rcases List.mem_cons.mp hp with e | e
  · rw [e]; exact h
  · exact t p e
/-- isinstance by two tables -/
def isiT (tb : List (String × Bool)) (to : List (Nat × Bool)) : Tg → Option Bool
  | .b n => tb.lookup n
  | .o k => to.lookup k
theorem isiF_of {u : Value} {tb : List (String × Bool)} {to : List (Nat × Bool)} (h1 : ∀ p ∈ tb, PySem.W.kitOne K (.type p.1) u = some p.2) (h2 : ∀ p ∈ to, PySem.W.kitOne K (.ref (c.cls p.1)) u = some p.2 ∧ SlX.SCls K (c.cls p.1) ∧ SlX.SIsi K (c.cls p.1)) : IsiF K c u (isiT tb to) := by
  have key : ∀ {α β : Type} [BEq α] [LawfulBEq α] {l : List (α × β)} {a : α} {b : β}, l.lookup a = some b → (a, b) ∈ l := by
    intro α β _ _ l
    induction l with
    | nil => intro a b h; cases h
    | cons q l ih =>
      intro a b h
      obtain ⟨q1, q2⟩ := q
      rw [List.lookup_cons] at h
      by_cases e : a = q1
      · subst e
        simp at h
        subst h
        exact List.mem_cons_self
      · rw [beq_false_of_ne e] at h
        exact List.mem_cons_of_mem _ (ih h)
  refine ⟨fun t b h => ?_, fun k b h => (h2 _ (key h)).2⟩
  cases t with
  | b n => exact h1 _ (key h)
  | o k => exact (h2 _ (key h)).1
theorem sf_of {f : Str} {tb : List (Nat × Nat)} (h : ∀ q ∈ tb, SlX.SCls K (c.cls q.1) ∧ ∃ p, SlX.Slot1 K (c.cls q.1) f p q.2) : Sf K c f tb := by
  have key : ∀ {l : List (Nat × Nat)} {a b : Nat}, l.lookup a = some b → (a, b) ∈ l := by
    intro l
    induction l with
    | nil => intro a b h; cases h
    | cons q l ih =>
      intro a b h
      obtain ⟨q1, q2⟩ := q
      rw [List.lookup_cons] at h
      by_cases e : a = q1
      · subst e
        simp at h
        subst h
        exact List.mem_cons_self
      · rw [beq_false_of_ne e] at h
        exact List.mem_cons_of_mem _ (ih h)
  exact ⟨fun n i e => h _ (key e)⟩
end
/-- what is left: the mirror of the law answers True -/
def Good (m : Fn) : Prop := ∀ ns : List Int, ns.length ≤ 63 → ∃ e, m [.val (.ro (ns.map .int))] = .ok (.bl true) e
theorem reps_ints {K : PySem.W.Frag} {c : Cl} {G : Hp} : ∀ ns : List Int, Reps K c G (ns.map V.int) (ns.map D.int)
  | [] => .nil
  | _ :: ns => .cons (.int _) (reps_ints ns)
/-- the law's promise, whatever the numbers of the classes -/
def spLaw (K : PySem.W.Frag) (T : List (Addr × Str)) (m : Fn) : Sp := fun vs H Q E => ∀ c : Cl, c.tb = T → spD K c 1 m vs H Q E
/-- the end -/
theorem walk_of {l : PySem.W.OpenLaw} {k : Nat} {q : Program} {loose : List Str} {XP : (Str → Option Value) → Heap → Prop} {YP : World → Heap → Prop} {d : DefRec} {K : Params → PySem.W.Frag} {m : Fn} (g : Good m)
    (hn : l.most = some 63) (hdf : d.params.defaults = []) (hr : Room k callerA)
    (hY : ∀ (w : World) (h : Heap), YP w h → (K w.params).In h)
    (F : ∀ (w : World) (mg : Str → Option Value) (fa : Addr) (h : Heap), (K w.params).In h → h.Ns mainGlobals mg → mg d.name = some (.ref fa) →
      ∃ fd : FuncData, (∀ (s : Shared) (u : Value), BindsTo s fd ⟨[u], []⟩ [("_law_script", u)]) ∧
        ∀ base : Heap, (K w.params).In base → base.Ns mainGlobals mg → FnG l.prog w (K w.params) mg base (L2.CX l.prog w) k fa fd ["_law_script"] (spLaw (K w.params) [] m)) :
    PySem.W.WalkO q loose XP YP l.row.toRowW d [] (fun f vs => PySem.call f vs) := by
  refine Att.attach_call hn hdf fun w s₀ s₁ mg mb fa o pm cd doc a vs ns Top_ Y _ _ _ hmg at_ hints few nog => ?_
  have inK := hY w _ Y
  obtain ⟨fd, bnd, all⟩ := F w mg fa _ inK Top_.T.g hmg
  refine law_runs (k := k) inK Top_.T.g Top_.T.b Top_.T.builtins Top_.T.nolimit nog at_ hints (Nat.le_trans few (by decide)) hr all bnd fun H hO hS => ?_
  · obtain ⟨e, he⟩ := g ns few
    intro c hc
    have nH : NoT H := fun b ps z => by
      rcases hO b with h | ⟨o, xs, h⟩
      · rw [h] at z; cases z
      · rw [h] at z; cases z
    refine ⟨H, H, [[]], [.val (.ro (ns.map .int))], rfl, ⟨Same.refl H, Same.refl H, .cons (.val (.ro hS (reps_ints ns))) .nil, fun b hb => (by simp at hb), (by simp), ⟨(fun p hp => absurd (by rw [hc] at hp; exact hp) (List.not_mem_nil)), nH, nH⟩⟩, rfl, ?_⟩
    rw [he]
    intro G' H' P' x k R v r
    cases r
    rfl
end L2.DL
set_option Elab.async false
set_option linter.all false
set_option maxRecDepth 100000
set_option maxHeartbeats 4000000
namespace L2.DL
open PySem PySem.Spec PyProof.Rows
/-! ### reckoning with mirrors -/
def Res.bnd {α β : Type} (r : Res α) (f : α → M β) : Res β := match r with
  | .ok a e => f a e
  | .exc x e => .exc x e
  | .bad => .bad
def Res.sq (r : Res Fl) (b : MS) : Res Fl := match r with
  | .ok .next e => b e
  | r => r
/-- it ends well, with .. -/
def Wp {α : Type} (r : Res α) (Q : α → Ev → Prop) : Prop := match r with
  | .ok a e => Q a e
  | _ => False
section
variable {α β : Type} {a : α} {d : D} {e : Ev} {Q : α → Ev → Prop}
@[simp] theorem wp_ok : Wp (.ok a e) Q = Q a e := rfl
@[simp] theorem wp_bad : Wp (.bad : Res α) Q = False := rfl
@[simp] theorem wp_exc {x : Exn} : Wp (.exc x e : Res α) Q = False := rfl
theorem wp_bnd {r : Res α} {f : α → M β} {Q : β → Ev → Prop} : Wp (r.bnd f) Q = Wp r fun a e => Wp (f a e) Q := by
  cases r <;> rfl
theorem wp_mono {r : Res α} {Q R : α → Ev → Prop} (h : Wp r Q) (k : ∀ a e, Q a e → R a e) : Wp r R := by
  cases r with
  | ok a e => exact k a e h
  | exc x e => exact h
  | bad => exact h
theorem wp_eq {r : Res α} {Q : α → Ev → Prop} (h : Wp r Q) : ∃ a e, r = .ok a e ∧ Q a e := by
  cases r with
  | ok a e => exact ⟨a, e, rfl, h⟩
  | exc x e => exact h.elim
  | bad => exact h.elim
@[simp] theorem bnd_ok {f : α → M β} : Res.bnd (.ok a e) f = f a e := rfl
@[simp] theorem bnd_bad {f : α → M β} : Res.bnd .bad f = .bad := rfl
@[simp] theorem bnd_exc {f : α → M β} {x : Exn} : Res.bnd (.exc x e) f = .exc x e := rfl
@[simp] theorem bnd_ite {f : α → M β} {p : Prop} [Decidable p] {x y : Res α} : Res.bnd (if p then x else y) f = if p then x.bnd f else y.bnd f := by split <;> rfl
@[simp] theorem sq_ite {f : MS} {p : Prop} [Decidable p] {x y : Res Fl} : Res.sq (if p then x else y) f = if p then x.sq f else y.sq f := by split <;> rfl
@[simp] theorem ite_app {p : Prop} [Decidable p] {x y : M α} : (if p then x else y) e = if p then x e else y e := by split <;> rfl
@[simp] theorem sq_next {b : MS} : Res.sq (.ok .next e) b = b e := rfl
@[simp] theorem sq_ret {b : MS} {d : D} : Res.sq (.ok (.ret d) e) b = .ok (.ret d) e := rfl
@[simp] theorem sq_retO {b : MS} {z : Cell} : Res.sq (.ok (.retO z) e) b = .ok (.retO z) e := rfl
@[simp] theorem sq_brk {b : MS} : Res.sq (.ok .brk e) b = .ok .brk e := rfl
@[simp] theorem sq_cont {b : MS} : Res.sq (.ok .cont e) b = .ok .cont e := rfl
@[simp] theorem sq_bad {b : MS} : Res.sq .bad b = .bad := rfl
@[simp] theorem ev_ret : M.ret a e = .ok a e := rfl
@[simp] theorem ev_bind {m : M α} {f : α → M β} : M.bind m f e = (m e).bnd f := rfl
@[simp] theorem ev_some : M.opt (some a) e = .ok a e := rfl
@[simp] theorem ev_none : M.opt (none : Option α) e = .bad := rfl
@[simp] theorem opt_ite {p : Prop} [Decidable p] {x y : Option α} : M.opt (if p then x else y) e = if p then M.opt x e else M.opt y e := by split <;> rfl
@[simp] theorem ev_next : M.next e = .ok .next e := rfl
@[simp] theorem ev_C : mC d e = .ok d e := rfl
def nameR (s : Option Sl) (i : Nat) (e : Ev) : Res D := match s with
  | some (.val d) => .ok d e
  | some (.cell false z) => match z.frz with
    | some d => .ok d (e.set i (.val d))
    | none => .bad
  | _ => .bad
@[simp] theorem ev_name {i : Nat} : mName i e = nameR e[i]? i e := rfl
@[simp] theorem name_val {i : Nat} : nameR (some (.val d)) i e = .ok d e := rfl
@[simp] theorem name_lst {i : Nat} {xs : List D} : nameR (some (.cell false (.lst xs))) i e = .ok (.lst xs) (e.set i (.val (.lst xs))) := rfl
@[simp] theorem ev_bin {g : D → D → Option D} {x y : M D} : mBin g x y e = (x e).bnd fun a e => (y e).bnd fun b e => M.opt (g a b) e := rfl
@[simp] theorem ev_un {g : D → Option D} {x : M D} : mUn g x e = (x e).bnd fun a e => M.opt (g a) e := rfl
@[simp] theorem ev_tru {x : M D} : mTru x e = (x e).bnd fun a e => M.opt a.tru e := rfl
@[simp] theorem ev_test {x : M D} : mTest x e = (x e).bnd fun a e => M.opt a.isB e := rfl
@[simp] theorem ev_andT {x y : M Bool} : mAndT x y e = (x e).bnd fun a e => if a = true then y e else .ok false e := by
  show Res.bnd _ _ = _
  congr 1; funext a e; split <;> rfl
@[simp] theorem ev_orT {x y : M Bool} : mOrT x y e = (x e).bnd fun a e => if a = true then .ok true e else y e := by
  show Res.bnd _ _ = _
  congr 1; funext a e; split <;> rfl
@[simp] theorem ev_notT {x : M Bool} : mNotT x e = (x e).bnd fun a e => .ok (!a) e := rfl
@[simp] theorem ev_ofT {x : M Bool} : mOfT x e = (x e).bnd fun a e => .ok (.bl a) e := rfl
@[simp] theorem ev_if {t : M Bool} {x y : M α} : mIf t x y e = (t e).bnd fun a e => if a = true then x e else y e := by
  show Res.bnd _ _ = _
  congr 1; funext a e; split <;> rfl
@[simp] theorem ev_and {x y : M D} : mAnd x y e = (x e).bnd fun a e => Res.bnd (M.opt a.tru e) fun k e => if k = true then y e else .ok a e := by
  show Res.bnd _ _ = _
  congr 1; funext a e; show Res.bnd _ _ = _; congr 1; funext k e; split <;> rfl
@[simp] theorem ev_or {x y : M D} : mOr x y e = (x e).bnd fun a e => Res.bnd (M.opt a.tru e) fun k e => if k = true then .ok a e else y e := by
  show Res.bnd _ _ = _
  congr 1; funext a e; show Res.bnd _ _ = _; congr 1; funext k e; split <;> rfl
@[simp] theorem ev_not {x : M D} : mNot x e = (x e).bnd fun a e => Res.bnd (M.opt a.tru e) fun k e => .ok (.bl (!k)) e := rfl
@[simp] theorem ev_chain {g g' : D → D → Option D} {x y z : M D} : mChain g g' x y z e = (x e).bnd fun a e => (y e).bnd fun b e => (M.opt (g a b) e).bnd fun u e => (M.opt u.isB e).bnd fun k e => if k = true then (z e).bnd fun w e => M.opt (g' b w) e else .ok (.bl false) e := by
  show Res.bnd _ _ = _
  congr 1; funext a e; show Res.bnd _ _ = _; congr 1; funext b e; show Res.bnd _ _ = _; congr 1; funext u e; show Res.bnd _ _ = _; congr 1; funext k e; split <;> rfl
@[simp] theorem tru_bl {b : Bool} : D.tru (.bl b) = some b := rfl
@[simp] theorem tru_int {b : Int} : D.tru (.int b) = some (b != 0) := rfl
@[simp] theorem isB_bl {b : Bool} : D.isB (.bl b) = some b := rfl
@[simp] theorem ev_nil : mNil e = .ok [] e := rfl
@[simp] theorem ev_cons {x : M D} {y : M (List D)} : mCons x y e = (x e).bnd fun a e => (y e).bnd fun b e => .ok (a :: b) e := rfl
@[simp] theorem ev_tup {x : M (List D)} : mTup x e = (x e).bnd fun xs e => if xs.length ≤ 16777216 then .ok (.tup xs) e else .bad := by
  show Res.bnd _ _ = _
  congr 1; funext a e; split <;> rfl
@[simp] theorem ev_lst {x : M (List D)} : mLst x e = (x e).bnd fun xs e => if xs.length ≤ 16777216 then .ok (.lst xs) e else .bad := by
  show Res.bnd _ _ = _
  congr 1; funext a e; split <;> rfl
@[simp] theorem ev_frz {x : M Cell} : mFrz x e = (x e).bnd fun z e => M.opt z.frz e := rfl
@[simp] theorem frz_lst {xs : List D} : Cell.frz (.lst xs) = some (.lst xs) := rfl
@[simp] theorem ev_fn {g : List D → Option D} {x : M (List D)} : mFn g x e = (x e).bnd fun ds e => M.opt (g ds) e := rfl
@[simp] theorem ev_seq {x y : MS} : mSeq x y e = (x e).sq y := by
  show (match x e with | .ok .next e' => y e' | r => r) = (match x e with | .ok .next e => y e | r => r)
  rfl
@[simp] theorem ev_mret {x : M D} : mRet x e = (x e).bnd fun d e => .ok (.ret d) e := rfl
@[simp] theorem ev_retO {x : M Cell} : mRetO x e = (x e).bnd fun d e => .ok (.retO d) e := rfl
@[simp] theorem ev_expr {x : M D} : mExpr x e = (x e).bnd fun _ e => .ok .next e := rfl
def updR (o : Option Ev) : Res Fl := match o with
  | some e' => .ok .next e'
  | none => .bad
@[simp] theorem updR_some : updR (some e) = .ok .next e := rfl
@[simp] theorem ev_upd {f : Ev → Option Ev} : M.upd f e = updR (f e) := rfl
def setR (s : Option Sl) (i : Nat) (v : Sl) (e : Ev) : Option Ev := match s with
  | some (.cell true _) => none
  | some _ => some (e.set i v)
  | none => none
@[simp] theorem ev_setSl {i : Nat} {v : Sl} : setSl i v e = setR e[i]? i v e := rfl
@[simp] theorem setR_no {i : Nat} {v : Sl} : setR (some .no) i v e = some (e.set i v) := rfl
@[simp] theorem setR_val {i : Nat} {v : Sl} : setR (some (.val d)) i v e = some (e.set i v) := rfl
@[simp] theorem setR_cell {i : Nat} {v : Sl} {z : Cell} : setR (some (.cell false z)) i v e = some (e.set i v) := rfl
@[simp] theorem ev_set {i : Nat} {x : M D} : mSet i x e = (x e).bnd fun d e => updR (setR e[i]? i (.val d) e) := rfl
@[simp] theorem ev_setO {i : Nat} {x : M Cell} : mSetO i x e = (x e).bnd fun d e => updR (setR e[i]? i (.cell false d) e) := rfl
@[simp] theorem outs_nil {e : Ev} : outs [] e = [] := by simp [outs]
@[simp] theorem outs_val {d : D} {r : List Sl} {s : Sl} {e : Ev} : outs (.val d :: r) (s :: e) = .no :: outs r e := rfl
@[simp] theorem outs_no {r : List Sl} {s : Sl} {e : Ev} : outs (.no :: r) (s :: e) = .no :: outs r e := rfl
@[simp] theorem outs_cell {z z' : Cell} {r : List Sl} {e : Ev} : outs (.cell true z :: r) (.cell true z' :: e) = .cell true z' :: outs r e := rfl
def endR (sls : List Sl) (r : Res Fl) : Res D := match r with
  | .ok (.ret d) e => .ok d (outs sls e)
  | .ok .next e => .ok .non (outs sls e)
  | .ok _ _ => .bad
  | .exc x e => .exc x (outs sls e)
  | .bad => .bad
@[simp] theorem ev_def {n : Nat} {b : MS} {sls : List Sl} : mDef n b sls = endR sls (b (sls ++ List.replicate (n - sls.length) .no)) := rfl
@[simp] theorem end_ret {sls : List Sl} : endR sls (.ok (.ret d) e) = .ok d (outs sls e) := rfl
@[simp] theorem end_next {sls : List Sl} : endR sls (.ok .next e) = .ok .non (outs sls e) := rfl
@[simp] theorem end_bad {sls : List Sl} : endR sls .bad = .bad := rfl
@[simp] theorem end_ite {p : Prop} [Decidable p] {x y : Res Fl} {sls : List Sl} : endR sls (if p then x else y) = if p then endR sls x else endR sls y := by split <;> rfl
def endO (r : Res Fl) : Res Cell := match r with
  | .ok (.retO z) e => .ok z e
  | .exc x e => .exc x e
  | _ => .bad
@[simp] theorem ev_defO {n : Nat} {b : MS} {ds : List D} : mDefO n b ds = endO (b (ds.map .val ++ List.replicate (n - ds.length) .no)) := by
  show (match b (ds.map .val ++ List.replicate (n - ds.length) .no) with | .ok (.retO z) e => Res.ok z e | .exc x e => .exc x e | _ => .bad) = _
  rfl
@[simp] theorem endO_ret {z : Cell} : endO (.ok (.retO z) e) = .ok z e := rfl
def callR (r : Res D) (e : Ev) : Res D := match r with
  | .ok d _ => .ok d e
  | .exc x _ => .exc x e
  | .bad => .bad
@[simp] theorem ev_call {f : Fn} {x : M (List D)} : mCall f x e = (x e).bnd fun ds e => callR (f (ds.map .val)) e := rfl
@[simp] theorem callR_ok {e1 : Ev} : callR (.ok d e1) e = .ok d e := rfl
@[simp] theorem callR_ite {p : Prop} [Decidable p] {x y : Res D} : callR (if p then x else y) e = if p then callR x e else callR y e := by split <;> rfl
theorem wp_callR {r : Res D} {Q : D → Ev → Prop} : Wp (callR r e) Q = Wp r fun d _ => Q d e := by cases r <;> rfl
def callOR (r : Res Cell) (e : Ev) : Res Cell := match r with
  | .ok z _ => .ok z e
  | .exc x _ => .exc x e
  | .bad => .bad
@[simp] theorem ev_callO {f : FnO} {x : M (List D)} : mCallO f x e = (x e).bnd fun ds e => callOR (f ds) e := rfl
@[simp] theorem callOR_ok {z : Cell} {e1 : Ev} : callOR (.ok z e1) e = .ok z e := rfl
def lentR (r : Res D) (i : Nat) (l : Bool) (e : Ev) : Res D := match r with
  | .ok d (.cell true z' :: _) => .ok d (e.set i (.cell l z'))
  | .exc x (.cell true z' :: _) => .exc x (e.set i (.cell l z'))
  | _ => .bad
def lentF (f : Fn) (s : Option Sl) (ds : List D) (i : Nat) (e : Ev) : Res D := match s with
  | some (.cell l z) => lentR (f (.cell true z :: ds.map .val)) i l e
  | _ => .bad
def lentG (f : Fn) (s : Option Sl) (x : M (List D)) (i : Nat) (e : Ev) : Res D := match s with
  | some (.cell _ _) => (x e).bnd fun ds e => lentF f e[i]? ds i e
  | _ => .bad
@[simp] theorem ev_callL {f : Fn} {i : Nat} {x : M (List D)} : mCallL f i x e = lentG f e[i]? x i e := by
  cases he : e[i]? with
  | none => unfold mCallL; rw [he]; rfl
  | some s =>
    cases s with
    | no => unfold mCallL; rw [he]; rfl
    | val d => unfold mCallL; rw [he]; rfl
    | cell l z =>
      unfold mCallL
      rw [he]
      show Res.bnd (x e) _ = Res.bnd (x e) _
      refine congrArg (Res.bnd (x e)) (funext fun ds => funext fun e1 => ?_)
      unfold lentF
      cases e1[i]? with
      | none => rfl
      | some s1 =>
        cases s1 with
        | no => rfl
        | val d => rfl
        | cell l1 z1 =>
          dsimp only
          generalize f (.cell true z1 :: ds.map .val) = r
          cases r with
          | bad => rfl
          | ok d q =>
            cases q with
            | nil => rfl
            | cons a t =>
              cases a with
              | no => rfl
              | val d => rfl
              | cell k z => cases k <;> rfl
          | exc d q =>
            cases q with
            | nil => rfl
            | cons a t =>
              cases a with
              | no => rfl
              | val d => rfl
              | cell k z => cases k <;> rfl
@[simp] theorem lentG_cell {f : Fn} {i : Nat} {l : Bool} {z : Cell} {x : M (List D)} : lentG f (some (.cell l z)) x i e = (x e).bnd fun ds e => lentF f e[i]? ds i e := rfl
@[simp] theorem lentF_cell {f : Fn} {i : Nat} {l : Bool} {z : Cell} {ds : List D} : lentF f (some (.cell l z)) ds i e = lentR (f (.cell true z :: ds.map .val)) i l e := rfl
@[simp] theorem lentR_ok {i : Nat} {l : Bool} {z : Cell} {r : List Sl} : lentR (.ok d (.cell true z :: r)) i l e = .ok d (e.set i (.cell l z)) := rfl
def makeR (cl : Nat) (r : Res D) (e : Ev) : Res D := match r with
  | .ok .non (.cell true z :: _) => M.opt z.frz e
  | .exc x (.cell true _ :: _) => .exc x e
  | _ => .bad
@[simp] theorem ev_make {cl : Nat} {f : Fn} {x : M (List D)} : mMake cl f x e = (x e).bnd fun ds e => makeR cl (f (.cell true (.ob cl []) :: ds.map .val)) e := by
  show Res.bnd _ _ = _
  refine congrArg (Res.bnd (x e)) (funext fun ds => funext fun e1 => ?_)
  generalize f (.cell true (.ob cl []) :: ds.map .val) = r
  unfold makeR
  cases r with
  | bad => rfl
  | ok d q =>
    cases q with
    | nil => cases d <;> rfl
    | cons a t =>
      cases a with
      | no => cases d <;> rfl
      | val v => cases d <;> rfl
      | cell k z =>
        cases k with
        | false => cases d <;> rfl
        | true =>
          cases d with
          | non => show (match Cell.frz _ with | some d => Res.ok d e1 | none => .bad) = M.opt _ e1; cases Cell.frz z <;> rfl
          | _ => rfl
  | exc d q =>
    cases q with
    | nil => rfl
    | cons a t =>
      cases a with
      | no => rfl
      | val d => rfl
      | cell k z => cases k <;> rfl
@[simp] theorem makeR_ok {cl : Nat} {z : Cell} {r : List Sl} : makeR cl (.ok .non (.cell true z :: r)) e = M.opt z.frz e := rfl
def attrR (tb : List (Nat × Nat)) (d : D) (e : Ev) : Res D := match d with
  | .obj n fs => match tb.lookup n with
    | some i => M.opt fs[i]? e
    | none => .bad
  | _ => .bad
@[simp] theorem ev_attr {tb : List (Nat × Nat)} {x : M D} : mAttr tb x e = (x e).bnd fun d e => attrR tb d e := by
  show Res.bnd _ _ = _
  congr 1; funext d e
  unfold attrR
  cases d with
  | obj n fs => dsimp only; cases tb.lookup n <;> rfl
  | _ => rfl
@[simp] theorem attrR_obj {tb : List (Nat × Nat)} {n : Nat} {fs : List D} : attrR tb (.obj n fs) e = match tb.lookup n with
    | some i => M.opt fs[i]? e
    | none => .bad := rfl
def setFR (s : Option Sl) (j cl i : Nat) (d : D) (e : Ev) : Res Fl := match s with
  | some (.cell l (.ob n fs)) => if n = cl then .ok .next (e.set j (.cell l (.ob cl (putO i d fs)))) else .bad
  | _ => .bad
@[simp] theorem ev_setF {j cl i : Nat} {x : M D} : mSetF j cl i x e = (x e).bnd fun d e => setFR e[j]? j cl i d e := rfl
@[simp] theorem setFR_ob {j cl i : Nat} {fs : List (Option D)} {l : Bool} : setFR (some (.cell l (.ob cl fs))) j cl i d e = .ok .next (e.set j (.cell l (.ob cl (putO i d fs)))) := if_pos rfl
@[simp] theorem ev_asg {x : M D} {g : TgM} : mAsg x g e = (x e).bnd fun d e => updR (g d e) := rfl
@[simp] theorem ev_gSet {i : Nat} : gSet i d e = setR e[i]? i (.val d) e := rfl
@[simp] theorem ev_gTup {n : Nat} {u : TgMs} {ds : List D} : gTupD n u (.tup ds) e = if ds.length = n then u ds e else none := rfl
@[simp] theorem ev_gsNil : gsNil [] e = some e := rfl
def gsR (o : Option Ev) (u : TgMs) (ds : List D) : Option Ev := match o with
  | some e' => u ds e'
  | none => none
@[simp] theorem ev_gsCons {t : TgM} {u : TgMs} {ds : List D} : gsCons t u (d :: ds) e = gsR (t d e) u ds := rfl
@[simp] theorem gsR_some {u : TgMs} {ds : List D} : gsR (some e) u ds = u ds e := rfl
@[simp] theorem ev_iter {x : M D} : mIter x e = (x e).bnd fun d e => M.opt d.its e := rfl
@[simp] theorem ev_range {x : M (List D)} : mRange x e = (x e).bnd fun d e => M.opt (fRange d) e := rfl
@[simp] theorem ev_for {mi : M (List D)} {tg : TgM} {b : MS} : mFor mi tg b e = (mi e).bnd fun ds e => forL tg b ds e := rfl
@[simp] theorem ev_yes : mYes e = .ok true e := rfl
@[simp] theorem ev_lc {mi : M (List D)} {vs : List Nat} {tg : TgM} {t : M Bool} {el : M D} : mLc mi vs tg t el e = (mi e).bnd fun ds e => if noCells vs e then lcL vs tg t el ds [] (wipeE vs e) else .bad := rfl
def appR (s : Option Sl) (i : Nat) (d : D) (e : Ev) : Res D := match s with
  | some (.cell l (.lst xs)) => if xs.length < 16777216 then .ok .non (e.set i (.cell l (.lst (xs ++ [d])))) else .bad
  | _ => .bad
def isL (s : Option Sl) : Bool := match s with
  | some (.cell _ (.lst _)) => true
  | _ => false
@[simp] theorem isL_lst {l : Bool} {xs : List D} : isL (some (.cell l (.lst xs))) = true := rfl
theorem isL_spec {s : Option Sl} (h : isL s = true) : ∃ l xs, s = some (.cell l (.lst xs)) := by
  cases s with
  | none => cases h
  | some s =>
    cases s with
    | no => cases h
    | val d => cases h
    | cell l z => cases z with
      | lst xs => exact ⟨l, xs, rfl⟩
      | dct _ => cases h
      | ob _ _ => cases h
theorem ev_append {i : Nat} {x : M D} (h : isL e[i]? = true) : mAppend i x e = (x e).bnd fun d e => appR e[i]? i d e := by
  obtain ⟨l, xs, he⟩ := isL_spec h
  unfold mAppend
  rw [he]
  show Res.bnd (x e) _ = _
  refine congrArg (Res.bnd (x e)) (funext fun ds => funext fun e1 => ?_)
  cases e1[i]? with
  | none => rfl
  | some s1 =>
    cases s1 with
    | no => rfl
    | val d => rfl
    | cell l1 z1 => cases z1 <;> rfl
@[simp] theorem appR_lst {i : Nat} {l : Bool} {xs : List D} : appR (some (.cell l (.lst xs))) i d e = if xs.length < 16777216 then .ok .non (e.set i (.cell l (.lst (xs ++ [d])))) else .bad := rfl
def lenR (s : Option Sl) (e : Ev) : Res D := match s with
  | some (.cell _ (.lst xs)) => .ok (.int xs.length) e
  | _ => .bad
@[simp] theorem ev_lenC {i : Nat} : mLenC i e = lenR e[i]? e := rfl
@[simp] theorem lenR_lst {l : Bool} {xs : List D} : lenR (some (.cell l (.lst xs))) e = .ok (.int xs.length) e := rfl
def popAtR (s : Option Sl) (i : Nat) (d : D) (e : Ev) : Res D := match d, s with
    | .int k, some (.cell l (.lst xs)) => match ixN xs.length k with
      | some j => match xs[j]? with
        | some d => if xs.length ≤ 16777216 then .ok d (e.set i (.cell l (.lst (xs.eraseIdx j)))) else .bad
        | none => .bad
      | none => .bad
    | _, _ => .bad
theorem ev_popAt {i : Nat} {x : M D} (h : isL e[i]? = true) : mPopAt i x e = (x e).bnd fun d e => popAtR e[i]? i d e := by
  obtain ⟨l, xs, he⟩ := isL_spec h
  unfold mPopAt
  rw [he]
  show Res.bnd (x e) _ = _
  refine congrArg (Res.bnd (x e)) (funext fun d => funext fun e1 => ?_)
  cases d with
  | int k =>
    cases e1[i]? with
    | none => rfl
    | some s1 =>
      cases s1 with
      | no => rfl
      | val d => rfl
      | cell l1 z1 => cases z1 <;> rfl
  | _ => rfl
def ixR (s : Option Sl) (d : D) (e : Ev) : Res D := match d, s with
    | .int k, some (.cell _ (.lst xs)) => M.opt (atI xs k) e
    | _, _ => .bad
theorem ev_ixC {i : Nat} {x : M D} (h : isL e[i]? = true) : mIxC i x e = (x e).bnd fun d e => ixR e[i]? d e := by
  obtain ⟨l, xs, he⟩ := isL_spec h
  unfold mIxC
  rw [he]
  show Res.bnd (x e) _ = _
  refine congrArg (Res.bnd (x e)) (funext fun d => funext fun e1 => ?_)
  cases d with
  | int k =>
    cases e1[i]? with
    | none => rfl
    | some s1 =>
      cases s1 with
      | no => rfl
      | val d => rfl
      | cell l1 z1 =>
        cases z1 with
        | lst xs => show (match atI xs k with | some d => Res.ok d e1 | none => .bad) = M.opt (atI xs k) e1; cases atI xs k <;> rfl
        | _ => rfl
  | _ => rfl
@[simp] theorem ixR_lst {l : Bool} {xs : List D} {k : Int} : ixR (some (.cell l (.lst xs))) (.int k) e = M.opt (atI xs k) e := rfl
def setIxR (s : Option Sl) (i : Nat) (d k : D) (e : Ev) : Res Fl := match k, s with
    | .int k, some (.cell l (.lst xs)) => match ixN xs.length k with
      | some j => .ok .next (e.set i (.cell l (.lst (xs.set j d))))
      | none => .bad
    | _, _ => .bad
def setIxG (s : Option Sl) (i : Nat) (d : D) (mk : M D) (e : Ev) : Res Fl := if isL s = true then (mk e).bnd fun k e => setIxR e[i]? i d k e else .bad
@[simp] theorem ev_setIx {i : Nat} {mk x : M D} : mSetIx i mk x e = (x e).bnd fun d e => setIxG e[i]? i d mk e := by
  show Res.bnd _ _ = _
  congr 1
  funext d e
  unfold setIxG isL
  cases e[i]? with
  | none => rfl
  | some s =>
    cases s with
    | cell l z => cases z <;> rfl
    | _ => rfl
@[simp] theorem setIxG_lst {i : Nat} {l : Bool} {xs : List D} {mk : M D} : setIxG (some (.cell l (.lst xs))) i d mk e = (mk e).bnd fun k e => setIxR e[i]? i d k e := rfl
@[simp] theorem setIxR_lst {i : Nat} {l : Bool} {xs : List D} {k : Int} : setIxR (some (.cell l (.lst xs))) i d (.int k) e = match ixN xs.length k with
      | some j => .ok .next (e.set i (.cell l (.lst (xs.set j d))))
      | none => .bad := rfl
@[simp] theorem ev_part_none : mPart none e = .ok none e := rfl
def partR (d : D) (e : Ev) : Res (Option Int) := match d with
  | .int k => .ok (some k) e
  | _ => .bad
@[simp] theorem ev_part_some {m : M D} : mPart (some m) e = (m e).bnd fun d e => partR d e := by
  show Res.bnd _ _ = _
  congr 1; funext d e; cases d <;> rfl
@[simp] theorem partR_int {k : Int} : partR (.int k) e = .ok (some k) e := rfl
@[simp] theorem ev_sl {m : M D} {lo hi : Option (M D)} : mSl m lo hi e = (m e).bnd fun d e => (mPart lo e).bnd fun l e => (mPart hi e).bnd fun h e => M.opt (dSl l h d) e := rfl
@[simp] theorem ev_inl {m : M D} : mInl m e = (m e).bnd fun d e => .ok (.inl d) e := rfl
@[simp] theorem ev_inr {m : M Cell} : mInr m e = (m e).bnd fun d e => .ok (.inr d) e := rfl
@[simp] theorem ev_pvNil : pvNil e = .ok [] e := rfl
@[simp] theorem ev_pvCons {m : M PV} {ms : M (List PV)} : pvCons m ms e = (m e).bnd fun d e => (ms e).bnd fun ds e => .ok (d :: ds) e := rfl
@[simp] theorem ev_par {is : List Nat} {ms : M (List PV)} : mPar is ms e = (ms e).bnd fun ps e => updR (setPVs is ps e) := rfl
def pvsR (o : Option Ev) (is : List Nat) (ps : List PV) : Option Ev := match o with
  | some e' => setPVs is ps e'
  | none => none
@[simp] theorem pvs_nil : setPVs [] [] e = some e := rfl
@[simp] theorem pvs_cons {i : Nat} {is : List Nat} {p : PV} {ps : List PV} : setPVs (i :: is) (p :: ps) e = pvsR (setPV i p e) is ps := rfl
@[simp] theorem pvsR_some {is : List Nat} {ps : List PV} : pvsR (some e) is ps = setPVs is ps e := rfl
@[simp] theorem pv_inl {i : Nat} : setPV i (.inl d) e = setR e[i]? i (.val d) e := rfl
@[simp] theorem pv_inr {i : Nat} {z : Cell} : setPV i (.inr z) e = setR e[i]? i (.cell false z) e := rfl
def augR (s : Option Sl) (i : Nat) (g : D → D → Option D) (m : M D) (e : Ev) : Res Fl := match s with
  | some (.val d0) => (m e).bnd fun d e => (M.opt (g d0 d) e).bnd fun r e => updR (setR e[i]? i (.val r) e)
  | _ => .bad
@[simp] theorem ev_aug {i : Nat} {g : D → D → Option D} {m : M D} : mAug i g m e = augR e[i]? i g m e := rfl
@[simp] theorem augR_val {i : Nat} {g : D → D → Option D} {m : M D} {d0 : D} : augR (some (.val d0)) i g m e = (m e).bnd fun d e => (M.opt (g d0 d) e).bnd fun r e => updR (setR e[i]? i (.val r) e) := rfl
@[simp] theorem ev_isi {g : Tg → Option Bool} {m : M D} : mIsi g m e = (m e).bnd fun d e => M.opt ((d.tg.bind g).map .bl) e := rfl
def methR (g : Str → List D → Option D) (d : D) (ms : M (List D)) (e : Ev) : Res D := match d with
  | .str z => (ms e).bnd fun ds e => M.opt (g z ds) e
  | _ => .bad
@[simp] theorem ev_meth {g : Str → List D → Option D} {m : M D} {ms : M (List D)} : mMeth g m ms e = (m e).bnd fun d e => methR g d ms e := by
  show Res.bnd _ _ = _
  congr 1; funext d e; cases d <;> rfl
@[simp] theorem methR_str {g : Str → List D → Option D} {z : Str} {ms : M (List D)} : methR g (.str z) ms e = (ms e).bnd fun ds e => M.opt (g z ds) e := rfl
@[simp] theorem ev_list {m : M D} : mList m e = (m e).bnd fun d e => (M.opt (fList d) e).bnd fun xs e => .ok (.lst xs) e := rfl
@[simp] theorem ev_enum {m : M D} : mEnum m e = (m e).bnd fun d e => (M.opt d.items e).bnd fun xs e => .ok (enumD 0 xs) e := rfl
def propR (cl : Nat) (fn : Fn) (d : D) (e : Ev) : Res D := match d with
  | .obj n _ => if n = cl then match fn [.val d] with
    | .ok d' _ => .ok d' e
    | _ => .bad
    else .bad
  | _ => .bad
@[simp] theorem ev_prop {cl : Nat} {fn : Fn} {m : M D} : mProp cl fn m e = (m e).bnd fun d e => propR cl fn d e := rfl
@[simp] theorem propR_obj {cl : Nat} {fn : Fn} {fs : List D} {d' : D} {e1 : Ev} (h : fn [.val (.obj cl fs)] = .ok d' e1) : propR cl fn (.obj cl fs) e = .ok d' e := by
  show (if cl = cl then _ else _) = _
  rw [if_pos rfl, h]
/-! operations -/
@[simp] theorem dSub_int {a b : Int} : dSub (.int a) (.int b) = some (.int (a - b)) := rfl
@[simp] theorem dAdd_int {a b : Int} : dAdd (.int a) (.int b) = some (.int (a + b)) := rfl
@[simp] theorem dAddI_int {a b : Int} : dAddI (.int a) (.int b) = some (.int (a + b)) := rfl
@[simp] theorem dAdd_str {a b : Str} : dAdd (.str a) (.str b) = if a.length + b.length ≤ 16777216 then some (.str (a ++ b)) else none := rfl
@[simp] theorem dAdd_lst {a b : List D} : dAdd (.lst a) (.lst b) = if a.length + b.length ≤ 16777216 then some (.lst (a ++ b)) else none := rfl
@[simp] theorem dAdd_tup {a b : List D} : dAdd (.tup a) (.tup b) = if a.length + b.length ≤ 16777216 then some (.tup (a ++ b)) else none := rfl
@[simp] theorem dMul_int {a b : Int} : dMul (.int a) (.int b) = if a.natAbs.log2 + b.natAbs.log2 < 1000000 then some (.int (a * b)) else none := rfl
@[simp] theorem dMul_str {a : Str} {b : Int} : dMul (.str a) (.int b) = if b ≤ 1000000 ∧ -1000000 ≤ b ∧ a.length ≤ 10 then some (.str (strRep a b.toNat)) else none := rfl
@[simp] theorem dMul_lst {a : List D} {b : Int} : dMul (.lst a) (.int b) = if -(2 ^ 63) ≤ b ∧ b < 2 ^ 63 ∧ a.length * b.toNat ≤ 16777216 then some (.lst (List.replicate b.toNat a).flatten) else none := rfl
@[simp] theorem dNeg_int {a : Int} : dNeg (.int a) = some (.int (-a)) := rfl
@[simp] theorem dLt_int {a b : Int} : dLt (.int a) (.int b) = some (.bl (decide (a < b))) := rfl
@[simp] theorem dLe_int {a b : Int} : dLe (.int a) (.int b) = some (.bl (decide (a ≤ b))) := rfl
@[simp] theorem dGt_int {a b : Int} : dGt (.int a) (.int b) = some (.bl (decide (b < a))) := rfl
@[simp] theorem dGe_int {a b : Int} : dGe (.int a) (.int b) = some (.bl (decide (b ≤ a))) := rfl
@[simp] theorem dEq_int {a b : Int} : dEq (.int a) (.int b) = some (.bl (decide (a = b))) := rfl
@[simp] theorem dNe_int {a b : Int} : dNe (.int a) (.int b) = some (.bl (!decide (a = b))) := rfl
@[simp] theorem dEq_str {a b : Str} : dEq (.str a) (.str b) = some (.bl (decide (a = b))) := rfl
@[simp] theorem dNe_str {a b : Str} : dNe (.str a) (.str b) = some (.bl (!decide (a = b))) := rfl
@[simp] theorem dEq_bl {a b : Bool} : dEq (.bl a) (.bl b) = some (.bl (decide (a = b))) := rfl
theorem dMod_pos {a b : Int} (h : 0 < b) : dMod (.int a) (.int b) = some (.int (a % b)) := if_pos h
theorem dDiv_pos {a b : Int} (h : 0 < b) (h2 : b.natAbs.log2 < 9000) : dDiv (.int a) (.int b) = some (.int (a / b)) := if_pos ⟨h, h2⟩
theorem dPow_nn {a b : Int} (h : 0 ≤ b) (h2 : b ≤ 1000000) (h3 : a.natAbs < 2 ^ 64) : dPow (.int a) (.int b) = some (.int (a ^ b.toNat)) := if_pos ⟨h, h2, h3⟩
@[simp] theorem fLen_str {x : Str} : fLen [.str x] = if x.length ≤ 16777216 then some (.int x.length) else none := rfl
@[simp] theorem fLen_lst {x : List D} : fLen [.lst x] = some (.int x.length) := rfl
@[simp] theorem fLen_ro {x : List D} : fLen [.ro x] = some (.int x.length) := rfl
@[simp] theorem fLen_tup {x : List D} : fLen [.tup x] = some (.int x.length) := rfl
@[simp] theorem fAbs_int {i : Int} : fAbs [.int i] = some (.int (if i < 0 then -i else i)) := rfl
@[simp] theorem fInt_int {i : Int} : fInt [.int i] = some (.int i) := rfl
@[simp] theorem fInt_bl {k : Bool} : fInt [.bl k] = some (.int (if k then 1 else 0)) := rfl
@[simp] theorem fMax_int {a b : Int} : fMax [.int a, .int b] = some (.int (if b > a then b else a)) := rfl
@[simp] theorem fMin_int {a b : Int} : fMin [.int a, .int b] = some (.int (if b < a then b else a)) := rfl
@[simp] theorem fGcd_int {a b : Int} : fGcd [.int a, .int b] = some (.int ((Nat.gcd a.natAbs b.natAbs : Nat) : Int)) := rfl
@[simp] theorem fTuple_lst {xs : List D} : fTuple [.lst xs] = some (.tup xs) := rfl
@[simp] theorem fTuple_tup {xs : List D} : fTuple [.tup xs] = some (.tup xs) := rfl
@[simp] theorem its_lst {xs : List D} : D.its (.lst xs) = some xs := rfl
@[simp] theorem its_ro {xs : List D} : D.its (.ro xs) = some xs := rfl
@[simp] theorem its_tup {xs : List D} : D.its (.tup xs) = some xs := rfl
@[simp] theorem its_str {z : Str} : D.its (.str z) = some (strItems z) := rfl
@[simp] theorem items_lst {xs : List D} : D.items (.lst xs) = some xs := rfl
@[simp] theorem items_ro {xs : List D} : D.items (.ro xs) = some xs := rfl
@[simp] theorem seq_lst {xs : List D} : D.seq (.lst xs) = some xs := rfl
@[simp] theorem fList_lst {xs : List D} : fList (.lst xs) = some xs := rfl
@[simp] theorem fList_tup {xs : List D} : fList (.tup xs) = some xs := rfl
@[simp] theorem fList_str {z : Str} : fList (.str z) = if z.length ≤ 16777216 then some (strItems z) else none := rfl
@[simp] theorem ints_nil : D.ints [] = some [] := rfl
end
/-! loops -/
/-- with an invariant over the items that are left; R: what a return gives -/
theorem wp_forL {tg : TgM} {b : MS} {I : List D → Ev → Prop} {Q : Fl → Ev → Prop} (hq : ∀ e, I [] e → Q .next e)
    (h : ∀ d ds e, I (d :: ds) e → ∃ e1, tg d e = some e1 ∧ Wp (b e1) fun fl e2 => match fl with
      | .next => I ds e2
      | .cont => I ds e2
      | .brk => Q .next e2
      | fl => Q fl e2) : ∀ (ds : List D) (e : Ev), I ds e → Wp (forL tg b ds e) Q := by
  intro ds
  induction ds with
  | nil => intro e hi; exact hq e hi
  | cons d ds ih =>
    intro e hi
    obtain ⟨e1, h1, h2⟩ := h d ds e hi
    show Wp (match tg d e with | some e1 => _ | none => _) Q
    rw [h1]
    dsimp only
    cases hb : b e1 with
    | bad => rw [hb] at h2; exact h2
    | exc x e2 => rw [hb] at h2; exact h2
    | ok fl e2 =>
      rw [hb] at h2
      cases fl with
      | next => exact ih e2 h2
      | cont => exact ih e2 h2
      | brk => exact h2
      | ret d => exact h2
      | retO z => exact h2
end L2.DL
set_option Elab.async false
set_option linter.all false
set_option maxRecDepth 100000
set_option maxHeartbeats 4000000
namespace L2.DL
open PySem PySem.Spec PyProof.Rows PySem.Builtin PySem.Builtin.Str
/-! ### strings as lists of signs -/
def S (l : List Nat) : Str := ⟨l.toArray⟩
@[simp] theorem S_len {l : List Nat} : (S l).length = l.length := by show l.toArray.size = _; simp
@[simp] theorem S_app {a b : List Nat} : S a ++ S b = S (a ++ b) := by
  show (⟨a.toArray ++ b.toArray⟩ : Str) = ⟨(a ++ b).toArray⟩
  simp
@[simp] theorem S_items {l : List Nat} : strItems (S l) = l.map fun k => .str (S [k]) := by
  show List.map _ (l.toArray.toList) = _
  rfl
@[simp] theorem S_inj {a b : List Nat} : S a = S b ↔ a = b := by
  constructor
  · intro h
    have := congrArg (fun s : Str => s.cps.toList) h
    simpa [S] using this
  · intro h; rw [h]
@[simp] theorem S_eta {s : Str} : S s.cps.toList = s := by
  cases s; simp [S]
@[simp] theorem S_rep {n : Nat} {l : List Nat} : strRep (S l) n = S (List.replicate n l).flatten := rfl
@[simp] theorem S_cps {l : List Nat} : (S l).cps.toList = l := by simp [S]
theorem S_cut_from {l : List Nat} {k : Nat} (h : k ≤ l.length) : cutS (S l) (some (k : Int)) none = S (l.drop k) := by
  unfold cutS
  rw [S_cps, S_len, HT.sIx_nat, HT.sIx_none, Nat.min_eq_left h]
  show S _ = S _
  rw [S_inj, List.take_of_length_le (by simp)]
theorem S_cut_to {l : List Nat} {k : Nat} (h : k ≤ l.length) : cutS (S l) none (some (k : Int)) = S (l.take k) := by
  unfold cutS
  rw [S_cps, S_len, HT.sIx_nat, HT.sIx_none, Nat.min_eq_left h]
  show S _ = S _
  rw [S_inj]
  simp
theorem L_cut_from {l : List D} {k : Nat} (h : k ≤ l.length) : cutD l (some (k : Int)) none = l.drop k := by
  unfold cutD
  rw [HT.sIx_nat, HT.sIx_none, Nat.min_eq_left h, List.take_of_length_le (by simp)]
theorem L_cut_to {l : List D} {k : Nat} (h : k ≤ l.length) : cutD l none (some (k : Int)) = l.take k := by
  unfold cutD
  rw [HT.sIx_nat, HT.sIx_none, Nat.min_eq_left h]
  simp
theorem S_count {l : List Nat} {c : Nat} : Txt.count (S l) (S [c]) = (l.count c : Int) := by
  rw [show S [c] = ⟨#[c]⟩ from rfl, count_cnt, S_cps]
  induction l with
  | nil => rfl
  | cons n r ih =>
    rw [cnt_cons, ih, List.count_cons]
    by_cases h : n = c <;> simp [h] <;> omega
theorem S_join {l : List Nat} : Txt.join (S []) (l.map fun k => S [k]) = S l := by
  show glued _ _ = _
  unfold glued
  have key : ∀ (l : List Nat) (acc : Array Nat), (l.map fun k => S [k]).foldl (fun acc p => acc ++ (S []).cps ++ p.cps) acc = acc ++ l.toArray := by
    intro l
    induction l with
    | nil => intro acc; simp
    | cons n r ih =>
      intro acc
      rw [List.map_cons, List.foldl_cons, ih]
      simp [S]
  cases l with
  | nil => rfl
  | cons n r =>
    simp only [List.map_cons, List.drop_succ_cons, List.drop_zero, List.headD_cons]
    rw [key]
    simp [S]
@[simp] theorem strs_map {l : List Nat} : D.strs (l.map fun k => .str (S [k])) = some (l.map fun k => S [k]) := by
  induction l with
  | nil => rfl
  | cons n r ih => show (D.strs (r.map _)).map _ = _; rw [ih]; rfl
theorem S_sumlen {l : List Nat} : ((l.map fun k => S [k]).map (·.length)).sum = l.length := by
  induction l with
  | nil => rfl
  | cons n r ih => rw [List.map_cons, List.map_cons, List.sum_cons, ih]; simp; omega
theorem sJoin_signs {l : List Nat} (h : l.length ≤ 16777216) : sJoin (S []) [.lst (l.map fun k => .str (S [k]))] = some (.str (S l)) := by
  show ((D.strs (l.map fun k => .str (S [k]))).bind _) = _
  rw [strs_map]
  show (if ((l.map fun k => S [k]).map (·.length)).sum + (l.map fun k => S [k]).length * (S []).length ≤ 16777216 then _ else _) = _
  rw [if_pos, S_join]
  rw [S_sumlen, S_len]
  simpa using h
@[simp] theorem sCount_sign {l : List Nat} {c : Nat} : sCount (S l) [.str (S [c])] = some (.int (l.count c : Int)) := by
  show some (D.int (Txt.count _ _)) = _
  rw [S_count]
/-- does y stand in x at i -/
def atL (x y : List Nat) (i : Nat) : Prop := (x.drop i).take y.length = y
theorem at_iff {x y : List Nat} {i : Nat} : StrLaws.At (S x) (S y) x.length i ↔ i + y.length ≤ x.length ∧ atL x y i := by
  unfold StrLaws.At atL subAt
  rw [S_len]
  apply and_congr_right
  intro h
  rw [beq_iff_eq]
  constructor
  · intro h
    have := congrArg Array.toList h
    simp [S] at this
    exact this
  · intro h
    apply Array.ext'
    simp [S]
    exact h
theorem S_find1 {x y : List Nat} {p : Nat} (hp : 1 ≤ p) (h1 : p + y.length ≤ x.length) (h2 : atL x y p) (h3 : ∀ k, 1 ≤ k → k < p → ¬ atL x y k) : sFind (S x) [.str (S y), .int 1] = some (.int p) := by
  show some (D.int (Txt.find3 _ _ 1)) = _
  unfold Txt.find3
  have hf : fromIndex (S x).length 1 = 1 := rfl
  rw [hf]
  have key := StrLaws.occ_head_from (S x) (S y) 1 1 (Nat.le_refl _)
  have hat : StrLaws.At (S x) (S y) (S x).length p := by rw [S_len]; exact at_iff.mpr ⟨h1, h2⟩
  rcases key with ⟨_, hn⟩ | ⟨i, r, e, hi, ha, hn⟩
  · exact absurd hat (hn p hp)
  · rw [e]
    rw [S_len] at ha hn
    have hi2 := at_iff.mp ha
    have : i = p := by
      rcases Nat.lt_trichotomy i p with h | h | h
      · exact absurd hi2.2 (h3 i hi h)
      · exact h
      · exact absurd (at_iff.mpr ⟨h1, h2⟩) (hn p hp h)
    rw [this]
end L2.DL
namespace L2.DL
open PySem PySem.Spec PyProof.Rows PySem.Builtin PySem.Builtin.Str
theorem pys_ints {ns : List Int} : D.pys (ns.map .int) = some (ns.map .int) := by
  induction ns with
  | nil => simp [D.pys]
  | cons n ns ih => rw [List.map_cons, D.pys]; simp [D.py, ih]
theorem lay_ints {ns : List Int} : PyData.canLayAll0 (ns.map .int) = true := by
  induction ns with
  | nil => simp [PyData.canLayAll0]
  | cons n ns ih => simp [PyData.canLayAll0, PyData.canLay0, ih]
theorem depth_ints {ns : List Int} : PyData.depthAll (ns.map .int) = 0 := by
  induction ns with
  | nil => simp [PyData.depthAll]
  | cons n ns ih => simp [PyData.depthAll, PyData.depth, ih]
theorem eqv_ints {ns ms : List Int} : PyData.eqvAll (ns.map .int) (ms.map .int) = decide (ns = ms) := by
  induction ns generalizing ms with
  | nil => cases ms <;> simp [PyData.eqvAll]
  | cons n ns ih =>
    cases ms with
    | nil => simp [PyData.eqvAll]
    | cons m ms =>
      simp only [List.map_cons, PyData.eqvAll, PyData.eqv, ih, List.cons.injEq]
      by_cases h : n = m <;> simp [h]
@[simp] theorem dEq_tups {a b : List Int} : dEq (.tup (a.map .int)) (.tup (b.map .int)) = some (.bl (decide (a = b))) := by
  have h : dEqv (.tup (a.map .int)) (.tup (b.map .int)) = some (decide (a = b)) := by
    show ((D.py (.tup (a.map .int))).bind fun p => (D.py (.tup (b.map .int))).bind fun q => if SeqAt.shaped p && SeqAt.shaped q then some (PyData.eqv p q) else none) = _
    simp [D.py, pys_ints, SeqAt.shaped, PyData.canLay0, lay_ints, PyData.depth, depth_ints, PyData.eqv, eqv_ints]
  unfold dEq
  rw [h]
  rfl
@[simp] theorem dNe_tups {a b : List Int} : dNe (.tup (a.map .int)) (.tup (b.map .int)) = some (.bl (!decide (a = b))) := by
  have h : dEqv (.tup (a.map .int)) (.tup (b.map .int)) = some (decide (a = b)) := by
    show ((D.py (.tup (a.map .int))).bind fun p => (D.py (.tup (b.map .int))).bind fun q => if SeqAt.shaped p && SeqAt.shaped q then some (PyData.eqv p q) else none) = _
    simp [D.py, pys_ints, SeqAt.shaped, PyData.canLay0, lay_ints, PyData.depth, depth_ints, PyData.eqv, eqv_ints]
  unfold dNe
  rw [h]
  rfl
/-! ### comprehensions whose parts are pure -/
theorem lc_pure {vs : List Nat} {tg : TgM} {t : M Bool} {el : M D} {e : Ev} {p : D → Bool} {f : D → D} : ∀ (ds acc : List D), acc.length + ds.length ≤ 16777216 →
    (∀ d ∈ ds, ∃ e1 e2, tg d e = some e1 ∧ t e1 = .ok (p d) e2 ∧ (p d = true → ∃ e3, el e2 = .ok (f d) e3 ∧ noCells vs e3 = true ∧ wipeE vs e3 = e) ∧ (p d = false → noCells vs e2 = true ∧ wipeE vs e2 = e)) →
    lcL vs tg t el ds acc e = .ok (.lst (acc ++ (ds.filter p).map f)) e := by
  intro ds
  induction ds with
  | nil => intro acc _ _; simp [lcL]
  | cons d ds ih =>
    intro acc hl h
    obtain ⟨e1, e2, h1, h2, h3, h4⟩ := h d List.mem_cons_self
    simp only [List.length_cons] at hl
    unfold lcL
    rw [h1]
    dsimp only
    rw [h2]
    cases hp : p d with
    | true =>
      obtain ⟨e3, k1, k2, k3⟩ := h3 hp
      dsimp only
      rw [k1]
      dsimp only
      rw [if_pos ⟨by omega, k2⟩, k3, ih (acc ++ [f d]) (by simp; omega) fun d' hd => h d' (List.mem_cons_of_mem _ hd)]
      simp [List.filter_cons, hp]
    | false =>
      obtain ⟨k2, k3⟩ := h4 hp
      dsimp only
      rw [if_pos k2, k3, ih acc (by omega) fun d' hd => h d' (List.mem_cons_of_mem _ hd)]
      simp [List.filter_cons, hp]
/-! ### turned lists -/
def r1 {α : Type} : List α → List α
  | [] => []
  | x :: t => t ++ [x]
def it {α : Type} : Nat → List α → List α
  | 0, l => l
  | k + 1, l => it k (r1 l)
theorem r1_len {α : Type} {l : List α} : (r1 l).length = l.length := by cases l <;> simp [r1]
theorem it_len {α : Type} : ∀ (k : Nat) (l : List α), (it k l).length = l.length
  | 0, _ => rfl
  | k + 1, l => by show (it k (r1 l)).length = _; rw [it_len k, r1_len]
theorem it_add {α : Type} : ∀ (a b : Nat) (l : List α), it b (it a l) = it (a + b) l
  | 0, b, l => by rw [Nat.zero_add]; rfl
  | a + 1, b, l => by
    show it b (it a (r1 l)) = _
    rw [it_add a b, Nat.add_right_comm]
    rfl
theorem it_comm {α : Type} (a b : Nat) (l : List α) : it b (it a l) = it a (it b l) := by rw [it_add, it_add, Nat.add_comm]
theorem it_is {α : Type} : ∀ (k : Nat) (l : List α), k ≤ l.length → it k l = l.drop k ++ l.take k
  | 0, l, _ => by simp [it]
  | k + 1, [], h => by simp at h
  | k + 1, x :: t, h => by
    show it k (t ++ [x]) = _
    rw [it_is k (t ++ [x]) (by simp at h ⊢; omega)]
    simp at h
    rw [List.drop_append_of_le_length h, List.take_append_of_le_length h]
    simp
theorem it_all {α : Type} (l : List α) : it l.length l = l := by rw [it_is _ _ (Nat.le_refl _)]; simp
theorem it_mul {α : Type} {p : Nat} {l : List α} (h : it p l = l) : ∀ q, it (q * p) l = l
  | 0 => by rw [Nat.zero_mul]; rfl
  | q + 1 => by rw [Nat.succ_mul, ← it_add, it_mul h q, h]
/-- the least turn that gives the list again -/
structure IsPer {α : Type} (l : List α) (p : Nat) : Prop where
  pos : 1 ≤ p
  le : p ≤ l.length
  eq : it p l = l
  least : ∀ k, 1 ≤ k → k < p → it k l ≠ l
theorem isPer_ex {α : Type} {l : List α} (h : 1 ≤ l.length) : ∃ p, IsPer l p := by
  have key : ∀ n, (∃ k, 1 ≤ k ∧ k ≤ n ∧ it k l = l) → ∃ p, 1 ≤ p ∧ p ≤ n ∧ it p l = l ∧ ∀ k, 1 ≤ k → k < p → it k l ≠ l := by
    intro n
    induction n with
    | zero => rintro ⟨k, h1, h2, _⟩; omega
    | succ n ih =>
      rintro ⟨k, h1, h2, h3⟩
      by_cases hx : ∃ k, 1 ≤ k ∧ k ≤ n ∧ it k l = l
      · obtain ⟨p, a, b, c, d⟩ := ih hx
        exact ⟨p, a, by omega, c, d⟩
      · refine ⟨n + 1, by omega, Nat.le_refl _, ?_, fun j hj1 hj2 e => hx ⟨j, hj1, by omega, e⟩⟩
        have : k = n + 1 := by
          rcases Nat.lt_or_ge n k with h | h
          · omega
          · exact absurd ⟨k, h1, h, h3⟩ hx
        rw [← this]; exact h3
  obtain ⟨p, a, b, c, d⟩ := key l.length ⟨l.length, h, Nat.le_refl _, it_all l⟩
  exact ⟨p, a, b, c, d⟩
theorem isPer_dvd {α : Type} {l : List α} {p : Nat} (h : IsPer l p) : l.length % p = 0 := by
  have hp : 0 < p := h.pos
  rcases Nat.eq_zero_or_pos (l.length % p) with e | e
  · exact e
  · exfalso
    refine h.least (l.length % p) e (Nat.mod_lt _ hp) ?_
    have h1 : it (l.length / p * p + l.length % p) l = l := by
      rw [Nat.div_add_mod' l.length p]; exact it_all l
    rw [← it_add, it_mul h.eq] at h1
    exact h1
theorem it_back {α : Type} {l : List α} {k : Nat} (hk : k ≤ l.length) {x : Nat} : it x (it k l) = it k l ↔ it x l = l := by
  constructor
  · intro h
    have h2 := congrArg (it (l.length - k)) h
    rw [it_comm x, it_add k, show k + (l.length - k) = l.length by omega, it_all] at h2
    exact h2
  · intro h
    rw [it_comm, h]
theorem isPer_it {α : Type} {l : List α} {p k : Nat} (h : IsPer l p) (hk : k ≤ l.length) : IsPer (it k l) p :=
  ⟨h.pos, by rw [it_len]; exact h.le, (it_back hk).mpr h.eq, fun j h1 h2 e => h.least j h1 h2 ((it_back hk).mp e)⟩
theorem isPer_at {l : List Nat} {k : Nat} (hk : k ≤ l.length) : atL (l ++ l) l k ↔ it k l = l := by
  unfold atL
  rw [it_is k l hk, List.drop_append_of_le_length hk]
  rw [List.take_append]
  rw [List.take_of_length_le (by simp)]
  have : l.length - (l.drop k).length = k := by simp; omega
  rw [this]
theorem isPer_find {l : List Nat} {p : Nat} (h : IsPer l p) : sFind (S (l ++ l)) [.str (S l), .int 1] = some (.int p) :=
  S_find1 h.pos (by rw [List.length_append]; have := h.le; omega) ((isPer_at h.le).mpr h.eq) fun k h1 h2 e => h.least k h1 h2 ((isPer_at (by have := h.le; omega)).mp e)
theorem per_take {α : Type} {l : List α} {p : Nat} (h : it p l = l) (hp : p ≤ l.length) : ∀ j, j * p + p ≤ l.length → l.take (j * p + p) = l.take p ++ l.take (j * p) := by
  intro j hj
  have e : l.drop p ++ l.take p = l := by rw [← it_is p l hp]; exact h
  have h1 : (l.drop p).take (j * p) = l.take (j * p) := by
    have h2 : l.take (j * p) = (l.drop p ++ l.take p).take (j * p) := by rw [e]
    rw [h2, List.take_append_of_le_length (by simp; omega)]
  rw [Nat.add_comm, List.take_add, h1]
theorem per_count {l : List Nat} {p c : Nat} (h : it p l = l) (hp : p ≤ l.length) : ∀ j, j * p ≤ l.length → (l.take (j * p)).count c = j * (l.take p).count c := by
  intro j
  induction j with
  | zero => intro _; simp
  | succ j ih =>
    intro hj
    rw [Nat.succ_mul] at hj ⊢
    rw [per_take h hp j hj, List.count_append, ih (by omega), Nat.succ_mul, Nat.add_comm]
theorem per_dvd {l : List Nat} {p : Nat} (h : IsPer l p) (c : Nat) : l.count c = l.length / p * (l.take p).count c := by
  have h0 := isPer_dvd h
  have h1 : l.length / p * p = l.length := by rw [Nat.div_mul_cancel (Nat.dvd_of_mod_eq_zero h0)]
  have := per_count (c := c) h.eq h.le (l.length / p) (by omega)
  rw [h1, List.take_length] at this
  exact this
theorem fRange_n {n : Nat} (h : n ≤ 1000000) : fRange [.int n] = some ((List.range n).map fun i => .int (i : Nat)) := by
  show (if -4611686018427387904 ≤ (n : Int) ∧ (n : Int) < 4611686018427387904 then some (rangeD 0 n) else none) = _
  rw [if_pos ⟨by omega, by omega⟩]
  simp [rangeD]
theorem fRange_1 {n : Nat} (h : n ≤ 1000000) : fRange [.int 1, .int ((n : Int) + 1)] = some ((List.range n).map fun i => .int ((i + 1 : Nat) : Int)) := by
  show (if -4611686018427387904 ≤ (1 : Int) ∧ (1 : Int) < 4611686018427387904 ∧ -4611686018427387904 ≤ (n : Int) + 1 ∧ (n : Int) + 1 < 4611686018427387904 then some (rangeD 1 (n + 1)) else none) = _
  rw [if_pos ⟨by omega, by omega, by omega, by omega⟩]
  have : ((n : Int) + 1 - 1).toNat = n := by omega
  simp only [rangeD, this, Option.some.injEq]
  apply List.map_congr_left
  intro i _
  rw [show (1 : Int) + (i : Nat) = ((i + 1 : Nat) : Int) by omega]
theorem forL_next {tg : TgM} {b : MS} {d : D} {ds : List D} {e e1 e2 : Ev} (h1 : tg d e = some e1) (h2 : b e1 = .ok .next e2) : forL tg b (d :: ds) e = forL tg b ds e2 := by
  show (match tg d e with | some e1 => _ | none => _) = _
  rw [h1]
  dsimp only
  rw [h2]
theorem forL_ret {tg : TgM} {b : MS} {d r : D} {ds : List D} {e e1 e2 : Ev} (h1 : tg d e = some e1) (h2 : b e1 = .ok (.ret r) e2) : forL tg b (d :: ds) e = .ok (.ret r) e2 := by
  show (match tg d e with | some e1 => _ | none => _) = _
  rw [h1]
  dsimp only
  rw [h2]
@[simp] theorem forL_nil {tg : TgM} {b : MS} {e : Ev} : forL tg b [] e = .ok .next e := rfl
/-- .. where test and item leave everything as it is -/
theorem lc_same {vs : List Nat} {tg : TgM} {t : M Bool} {el : M D} {e : Ev} {p : D → Bool} {f : D → D} (E : D → Ev) (ds : List D) (hl : ds.length ≤ 16777216)
    (h : ∀ d ∈ ds, tg d e = some (E d) ∧ t (E d) = .ok (p d) (E d) ∧ (p d = true → el (E d) = .ok (f d) (E d)) ∧ noCells vs (E d) = true ∧ wipeE vs (E d) = e) : lcL vs tg t el ds [] e = .ok (.lst ((ds.filter p).map f)) e := by
  have := lc_pure (vs := vs) (tg := tg) (t := t) (el := el) (e := e) (p := p) (f := f) ds [] (by simpa using hl) fun d hd => by
    obtain ⟨h1, h2, h3, h4, h5⟩ := h d hd
    exact ⟨E d, E d, h1, h2, fun hp => ⟨E d, h3 hp, h4, h5⟩, fun _ => ⟨h4, h5⟩⟩
  simpa using this
end L2.DL
set_option Elab.async false
set_option linter.all false
set_option maxRecDepth 100000
set_option maxHeartbeats 4000000
namespace L2.DL
open PySem PySem.Spec PyProof.Rows
/-! ### math.comb -/
def rComb : List V → Hp → VK → Prop := fun vs H Q => ∃ a b : Int, vs = [.int a, .int b] ∧ 0 ≤ a ∧ 0 ≤ b ∧ a ≤ 18000 ∧ Q (.int (PySem.W.mcComb a b)) H
theorem cr_comb {X : Cx} : CallR X (.builtin "math.comb") rComb := by
  intro pins s σ H vs us Q I r h
  obtain ⟨a, b, rfl, ha, hb, h1, q⟩ := h
  obtain ⟨t, u, rfl⟩ := Vals.int2 r
  exact PySem.W.mc_comb ha hb (by omega) (.inr h1) fun _ => ⟨.int _, H, I.tok _, ⟨_, rfl⟩, q⟩
def fComb : List D → Option D
  | [.int a, .int b] => if 0 ≤ a ∧ 0 ≤ b ∧ a ≤ 18000 then some (.int (PySem.W.mcComb a b)) else none
  | _ => none
theorem cd_comb {X : Cx} {c : Cl} : CallD X c (.builtin "math.comb") fComb := calld_of fun G H xs ds d hs rs e => by
  unfold fComb at e
  split at e
  · split at e
    · rename_i hc
      obtain ⟨x, y, rfl, r1, r2⟩ := rs.two
      cases r1; cases r2; cases e
      exact ⟨_, cr_comb, fun Q q => ⟨_, _, rfl, hc.1, hc.2.1, hc.2.2, q G H _ (Pure.refl hs) (.int _)⟩⟩
    · cases e
  · cases e
/-! ### all, any over a list of truth values -/
def D.bools : List D → Option (List Bool)
  | [] => some []
  | .bl b :: r => (D.bools r).map (b :: ·)
  | _ :: _ => none
theorem bools_rep {K : PySem.W.Frag} {c : Cl} {G : Hp} : ∀ {vs : List V} {ds : List D} {bs : List Bool}, Reps K c G vs ds → D.bools ds = some bs → vs = bs.map V.bl := by
  intro vs ds
  induction ds generalizing vs with
  | nil => intro bs r e; cases r; cases e; rfl
  | cons d ds ih =>
    intro bs r e
    cases r with
    | cons h t =>
      cases d with
      | bl b =>
        unfold D.bools at e
        obtain ⟨bs', e1, rfl⟩ := Option.map_eq_some_iff.mp e
        cases h
        rw [ih t e1]
        rfl
      | _ => cases e
def fAll : List D → Option D
  | [x] => x.items.bind fun xs => (D.bools xs).map fun bs => .bl (bs.all id)
  | _ => none
def fAny : List D → Option D
  | [x] => x.items.bind fun xs => (D.bools xs).map fun bs => .bl (bs.any id)
  | _ => none
section
variable {X : Cx} {c : Cl}
theorem cd_all (hc : X.calm = true) : CallD X c (.builtin "all") fAll := calld_of fun G H xs ds d hs rs e => by
  unfold fAll at e
  split at e
  · obtain ⟨x, rfl, r⟩ := rs.one
    obtain ⟨ys, e1, e⟩ := Option.bind_eq_some_iff.mp e
    obtain ⟨bs, e2, e⟩ := Option.map_eq_some_iff.mp e
    cases e
    obtain ⟨a, vs, rfl, h, s⟩ := items_rep hs r e1
    have h1 := bools_rep s e2
    subst h1
    exact ⟨_, cr_all hc, fun Q q => ⟨_, _, rfl, h, q G H _ (Pure.refl hs) (.bl _)⟩⟩
  · cases e
theorem cd_any (hc : X.calm = true) : CallD X c (.builtin "any") fAny := calld_of fun G H xs ds d hs rs e => by
  unfold fAny at e
  split at e
  · obtain ⟨x, rfl, r⟩ := rs.one
    obtain ⟨ys, e1, e⟩ := Option.bind_eq_some_iff.mp e
    obtain ⟨bs, e2, e⟩ := Option.map_eq_some_iff.mp e
    cases e
    obtain ⟨a, vs, rfl, h, s⟩ := items_rep hs r e1
    have h1 := bools_rep s e2
    subst h1
    exact ⟨_, cr_any hc, fun Q q => ⟨_, _, rfl, h, q G H _ (Pure.refl hs) (.bl _)⟩⟩
  · cases e
end
/-! ### methods of own classes with slots -/
structure Mf (P : Program) (w : World) (K : PySem.W.Frag) (mg : Str → Option Value) (base : Heap) (c : Cl) (cl : Nat) (m : Str) (k n : Nat) (fn : Fn) : Prop where
  sc : SlX.SCls K (c.cls cl)
  ex : ∃ f : Addr, Meth K (c.cls cl) m f ∧ FnRG P w K mg base (L2.CX P w) k f (spD K c n fn)
theorem mf_of {P : Program} {w : World} {K : PySem.W.Frag} {mg : Str → Option Value} {base : Heap} {c : Cl} {m : Str} {cl k n : Nat} {fn : Fn} {f : Addr} {fd : FuncData} {ps : List Str} (F : FnG P w K mg base (L2.CX P w) k f fd ps (spD K c n fn)) (hb : Binds K fd ps []) (sc : SlX.SCls K (c.cls cl)) (M : Meth K (c.cls cl) m f) : Mf P w K mg base c cl m k n fn :=
  ⟨sc, f, M, (F.raw hb .nil).imp fun vs H Q E h => by simpa using h⟩
/-- o.m(..) -/
def mMth (cl : Nat) (fn : Fn) (o : M D) (ms : M (List D)) : M D := M.bind o fun x => match x with
  | .obj n fs => if n = cl then M.bind ms fun ds env => match fn (.val (.obj n fs) :: ds.map .val) with
    | .ok d _ => .ok d env
    | .exc x _ => .exc x env
    | .bad => .bad
    else fun _ => .bad
  | _ => fun _ => .bad
section
variable {X : Cx} {c : Cl} {W : WX} {pos p apos : Pos} {e o : Expr} {es : List Expr} {ms : M (List D)} {mo : M D} {m : Str} {cl k n : Nat} {fn : Fn} {t : TA} {ta : TE}
def tMthS (C : Addr) (sp : Sp) (E : St → XK) (ta : TE) (t : TA) : TE := fun σ H Q => ta σ H fun x H1 => ∃ a dx vs, x = .ref a ∧ SlX.Slt H1 a C dx vs ∧ t σ H1 fun ws H2 => sp (x :: ws) H2 Q (E σ)
theorem pe_mthR {C g : Addr} {sp : Sp} {E : St → XK} {pl : Sem Bool} (he : PE X o ta) (sc : SlX.SCls X.K C) (hm : Meth X.K C m g) (F : FnRG X.prog X.w X.K X.mg X.base (L2.CX X.prog X.w) k g sp) (hr : RoomG k X.A) (hx : ∀ σ, PassesAt (L2.CX X.prog X.w) X σ (E σ)) (ha : PA X (e :: es) t)
    (hst : starEach (e :: es) X.env = (false, eval e X.env) :: starEach es X.env := by rfl) (hpl : (backTo pos (starEach es X.env)).any (·.1) = false := by rfl)
    (ht : eval (.Call (.Attribute o m apos) (e :: es) [] pos) X.env = (do
      let ov ← eval o X.env
      standAt apos.atName
      let (f, first) ← holding [ov] (getMethod ov m pl)
      callWith pos f first (backTo pos (starEach (e :: es) X.env)) (backToKw pos (keywordEach [] X.env))) := by rfl) :
    PE X (.Call (.Attribute o m apos) (e :: es) [] pos) (tMthS C sp E ta t) := by
  refine ⟨fun pins s σ H Q I h => ?_⟩
  refine PySem.W.methodCall_KW (pl := pl) (thn (he.run pins s σ H _ I h) fun u s1 ⟨x, H1, I1, rx, a, dx, vs, ex, hsl, q⟩ => ?_) ht
  subst ex
  obtain rfl : u = Value.ref a := rx
  refine SlX.getmethsl_ok I1 hsl sc hm ?_
  refine PySem.W.callWith_K (first := [.ref a]) (h₀ := X.base) I.ok.mod.kin hm.kp (thn (ha.run pos pins s1 σ H1 _ I1 q) fun us s2 ⟨ws, H2, I2, r, q2⟩ => ⟨I2.kIn, ?_⟩) hst hpl
  exact run_R (us := .ref a :: us) (vs := .ref a :: ws) F hr (hx σ) I2 (.cons rfl r) q2
theorem pe_mthR0 {C g : Addr} {sp : Sp} {E : St → XK} {pl : Sem Bool} (he : PE X o ta) (sc : SlX.SCls X.K C) (hm : Meth X.K C m g) (F : FnRG X.prog X.w X.K X.mg X.base (L2.CX X.prog X.w) k g sp) (hr : RoomG k X.A) (hx : ∀ σ, PassesAt (L2.CX X.prog X.w) X σ (E σ))
    (ht : eval (.Call (.Attribute o m apos) [] [] pos) X.env = (do
      let ov ← eval o X.env
      standAt apos.atName
      let (f, first) ← holding [ov] (getMethod ov m pl)
      callWith pos f first (backTo pos (starEach [] X.env)) (backToKw pos (keywordEach [] X.env))) := by rfl) :
    PE X (.Call (.Attribute o m apos) [] [] pos) (tMthS C sp E ta tNil) := by
  refine ⟨fun pins s σ H Q I h => ?_⟩
  refine PySem.W.methodCall_KW (pl := pl) (thn (he.run pins s σ H _ I h) fun u s1 ⟨x, H1, I1, rx, a, dx, vs, ex, hsl, q⟩ => ?_) ht
  subst ex
  obtain rfl : u = Value.ref a := rx
  refine SlX.getmethsl_ok I1 hsl sc hm ?_
  exact PySem.W.callWith_K0 (first := [.ref a]) I1.kIn hm.kp (run_R (us := [.ref a]) (vs := [.ref a]) F hr (hx σ) I1 (.cons rfl .nil) q)
theorem call_obj {F G H : Hp} {P : List (List Addr)} {σ : St} {env : Ev} {vs : List V} {v : V} {fs ds : List D} {Q : VK} {n : Nat} (R : Rel X.K c F G H P σ env) (r0 : Rep X.K c G v (.obj cl fs)) (r : Reps X.K c G vs ds) (hn : ds.length + 1 = n)
    (h : Post X.K c W F G P σ env (match fn (.val (.obj cl fs) :: ds.map .val) with | .ok d _ => .ok d env | .exc x _ => .exc x env | .bad => .bad) fun d G' H' _ => ∀ v, Rep X.K c G' v d → Q v H') :
    spD X.K c n fn (v :: vs) H Q (WE W σ) := call_vals (ds := .obj cl fs :: ds) R (.cons r0 r) hn h
theorem de_mth {pl : Sem Bool} (Mt : Mf X.prog X.w X.K X.mg X.base c cl m k (n + 1) fn) (tk : Takes X W) (hr : RoomG k X.A) (hl : ML n ms) (he : PE X o (tE X.K c W mo)) (ha : PA X (e :: es) (tA X.K c W ms))
    (hst : starEach (e :: es) X.env = (false, eval e X.env) :: starEach es X.env := by rfl) (hpl : (backTo pos (starEach es X.env)).any (·.1) = false := by rfl)
    (ht : eval (.Call (.Attribute o m apos) (e :: es) [] pos) X.env = (do
      let ov ← eval o X.env
      standAt apos.atName
      let (f, first) ← holding [ov] (getMethod ov m pl)
      callWith pos f first (backTo pos (starEach (e :: es) X.env)) (backToKw pos (keywordEach [] X.env))) := by rfl) :
    PE X (.Call (.Attribute o m apos) (e :: es) [] pos) (tE X.K c W (mMth cl fn mo ms)) := by
  obtain ⟨sc, g, hm, Fg⟩ := Mt
  refine PE.weak (pe_mthR (pl := pl) (E := WE W) he sc hm Fg hr (fun σ => passAt tk σ) ha hst hpl ht) fun σ H Q h => ?_
  obtain ⟨F, G, P, env, R, h⟩ := h
  refine ⟨F, G, P, env, R, (Post.bind h).imp fun x G1 H1 P1 _ ⟨env1, R1, h1⟩ v r => ?_⟩
  cases r with
  | @obj a dx vs fs n' hsl rs =>
    dsimp only at h1
    split at h1
    · rename_i hn
      subst hn
      refine ⟨a, dx, _, rfl, Same.slt R1.gs hsl, F, G1, P1, env1, R1, ?_⟩
      have h1 : Post X.K c W F G1 P1 σ env1 (M.bind ms _ env1) _ := h1
      unfold M.bind at h1
      cases q : ms env1 with
      | bad => rw [q] at h1; exact h1
      | exc xx e1 => rw [q] at h1; exact h1
      | ok ds e1 =>
        rw [q] at h1
        exact fun G2 H2 P2 x2 k2 R2 ws rw2 => call_obj R2 (.obj (Same.slt x2.same hsl) (rs.mono x2.same)) rw2 (by rw [hl _ _ _ q]) (Post.chain h1 x2 k2)
    · exact h1.elim
  | _ => exact h1.elim
theorem de_mth0 {pl : Sem Bool} (Mt : Mf X.prog X.w X.K X.mg X.base c cl m k 1 fn) (tk : Takes X W) (hr : RoomG k X.A) (he : PE X o (tE X.K c W mo))
    (ht : eval (.Call (.Attribute o m apos) [] [] pos) X.env = (do
      let ov ← eval o X.env
      standAt apos.atName
      let (f, first) ← holding [ov] (getMethod ov m pl)
      callWith pos f first (backTo pos (starEach [] X.env)) (backToKw pos (keywordEach [] X.env))) := by rfl) :
    PE X (.Call (.Attribute o m apos) [] [] pos) (tE X.K c W (mMth cl fn mo mNil)) := by
  obtain ⟨sc, g, hm, Fg⟩ := Mt
  refine PE.weak (pe_mthR0 (pl := pl) (E := WE W) he sc hm Fg hr (fun σ => passAt tk σ) ht) fun σ H Q h => ?_
  obtain ⟨F, G, P, env, R, h⟩ := h
  refine ⟨F, G, P, env, R, (Post.bind h).imp fun x G1 H1 P1 _ ⟨env1, R1, h1⟩ v r => ?_⟩
  cases r with
  | @obj a dx vs fs n' hsl rs =>
    dsimp only at h1
    split at h1
    · rename_i hn
      subst hn
      exact ⟨a, dx, _, rfl, Same.slt R1.gs hsl, call_obj R1 (.obj hsl rs) .nil rfl h1⟩
    · exact h1.elim
  | _ => exact h1.elim
end
/-! ### == < .. by an own def -/
/-- the class's own def for a comparison -/
structure Of (P : Program) (w : World) (K : PySem.W.Frag) (mg : Str → Option Value) (base : Heap) (c : Cl) (cl : Nat) (m : Str) (k : Nat) (fn : Fn) : Prop where
  sc : SlX.SCls K (c.cls cl)
  nf : PySem.W.notFirst K (c.cls cl) (.ref (c.cls cl)) = true
  ex : ∃ f : Addr, PySem.W.findIn K (.ref (c.cls cl)) m = some (some (.ref f)) ∧ PySem.W.isFn K (.ref f) = true ∧ FnRG P w K mg base (L2.CX P w) k f (spD K c 2 fn)
theorem of_of {P : Program} {w : World} {K : PySem.W.Frag} {mg : Str → Option Value} {base : Heap} {c : Cl} {m : Str} {cl k : Nat} {fn : Fn} {f : Addr} {fd : FuncData} {ps : List Str} (F : FnG P w K mg base (L2.CX P w) k f fd ps (spD K c 2 fn)) (hb : Binds K fd ps []) (sc : SlX.SCls K (c.cls cl))
    (h1 : PySem.W.findIn K (.ref (c.cls cl)) m = some (some (.ref f))) (h2 : PySem.W.isFn K (.ref f) = true) : Of P w K mg base c cl m k fn :=
  ⟨sc, by unfold PySem.W.notFirst; simp, f, h1, h2, (F.raw hb .nil).imp fun vs H Q E h => by simpa using h⟩
/-- x op y: two instances of the class at cl by fn, others by g -/
def dOwn (cl : Nat) (fn : Fn) (g : D → D → Option D) (x y : D) : Option D := match x, y with
  | .obj n fs, .obj m gs => if n = cl ∧ m = cl then match fn [.val (.obj n fs), .val (.obj m gs)] with
    | .ok d _ => some d
    | _ => none
    else none
  | x, y => g x y
section
variable {X : Cx} {c : Cl} {cl k : Nat} {fn : Fn} {g : D → D → Option D}
theorem passE0 {CX : CXT} (h : ∀ (H : Hp) (s : Shared) (e : Value) (s' : Shared), CX X.stack H s E0 e s' → False) : Passes CX X E0 := fun _ _ H s e s' _ z => (h H s e s' z).elim
theorem cx_E0 {H : Hp} {s : Shared} {e : Value} {s' : Shared} (h : L2.CX X.prog X.w X.stack H s E0 e s') : False := by
  obtain ⟨_, _, _, _, _, _, _, _, _, _, _, _, z⟩ := h
  exact z.elim
/-- the callee runs, its answer in hand -/
theorem run_atG {X : Cx} {pins : List (Addr × Obj)} {σ : St} {H : Hp} {s : Shared} {n : Nat} {g : Addr} {sp : Sp} {E : XK} {A : Around} {Q : VK} {us : List Value} {ws : List V} (Fg : FnRG X.prog X.w X.K X.mg X.base (L2.CX X.prog X.w) n g sp) (hr : RoomG n A) (e0 : Env0 X.prog X.w X.K X.mg X.base A X.stack s H)
    (hx : Passes (L2.CX X.prog X.w) X E) (I : Inv X pins σ H s) (r : Vals ws us) (h : sp ws H Q E) :
    codeAny (model X.prog X.w) A (.call (.ref g) ⟨us, []⟩) (fun r s' => match r with | .ok (.ret v) => EP X pins σ Q v s' | .ok _ => False | .error e => X.xe e s') s := by
  have go := Fg A X.stack s H us ws Q E hr e0 r h
  refine codeAny_mono go fun res s2 out => ?_
  match res, out with
  | .error e, out => exact hx pins σ H s e s2 I out
  | .ok .next, out => exact out.elim
  | .ok .brk, out => exact out.elim
  | .ok .cont, out => exact out.elim
  | .ok (.ret u), out => exact I.after out
theorem op_ownG {X : Cx} {C g : Addr} {n : Nat} {sp : Sp} {E : XK} {op : CmpOp} (hop : ∀ a b, compareOp op a b = richCompare op a b) (f1 : PySem.W.findIn X.K (.ref C) (cmpInfo op).2.1 = some (some (.ref g))) (f2 : PySem.W.isFn X.K (.ref g) = true)
    (Fg : FnRG X.prog X.w X.K X.mg X.base (L2.CX X.prog X.w) n g sp) (hr : RoomG n X.A) (hx : Passes (L2.CX X.prog X.w) X E) : OpR X (compareOp op) (SlX.rOwn X.K C sp E) := by
  intro pins s σ H x y v u Q I rx ry h
  obtain ⟨a, da, vs, b, C2, db, ws, hx1, hy1, sa, sb, nf, q⟩ := h
  subst hx1 hy1
  cases (show v = Value.ref a from rx)
  cases (show u = Value.ref b from ry)
  obtain ⟨_, _, _, ia, _⟩ := SlX.slt_inst I sa
  obtain ⟨_, _, _, ib, _⟩ := SlX.slt_inst I sb
  obtain ⟨m, fr⟩ := I.fr
  have run := wpAny_call (run_atG (us := [.ref a, .ref b]) (ws := [.ref a, .ref b]) Fg hr I.env0 hx I (.cons rfl (.cons rfl .nil)) q)
  rw [hop]
  apply PySem.W.cmp_K (op := op) (tb := .ref C2) hr.room.units0 fr I.ok.mod.kin ia ib.type nf f1 f2
  exact wpAny_mono run (fun u2 s2 out => by
    obtain ⟨z, H2, J, rz, qz⟩ := out
    exact SlX.cmpback rz ⟨z, H2, J, rz, qz⟩) fun _ _ z => z
theorem do_own {op : CmpOp} (hop : ∀ a b, compareOp op a b = richCompare op a b) (O : Of X.prog X.w X.K X.mg X.base c cl (cmpInfo op).2.1 k fn) (hr : RoomG k X.A) (ho : OpD X c (compareOp op) g) : OpD X c (compareOp op) (dOwn cl fn g) := opd_ofT fun G H x y dx dy d hs ht r1 r2 e => by
  obtain ⟨sc, nf, f, f1, f2, Ff⟩ := O
  have other : g dx dy = some d → ∃ r : R2, OpR X (compareOp op) r ∧ ∀ Q : VK, (∀ G' H' v, Pure c H G H' G' → Rep X.K c G' v d → Q v H') → r x y H Q := fun e => ⟨_, ho, fun Q q => ⟨G, dx, dy, d, hs, ht, r1, r2, e, q⟩⟩
  cases r1 with
  | @obj a da vs fs n h1 s1 =>
    cases r2 with
    | @obj b db ws gs n2 h2 s2 =>
      unfold dOwn at e
      dsimp only at e
      split at e
      · rename_i hn
        obtain ⟨rfl, rfl⟩ := hn
        refine ⟨_, op_ownG hop f1 f2 Ff hr (passE0 fun _ _ _ _ z => cx_E0 z), fun Q q => ⟨a, da, _, b, _, db, _, rfl, rfl, Same.slt hs h1, Same.slt hs h2, nf, ?_⟩⟩
        refine spD_vals (ds := [.obj n2 fs, .obj n2 gs]) hs ht (.cons (.obj h1 s1) (.cons (.obj h2 s2) .nil)) rfl ?_
        show match fn [Sl.val (D.obj n2 fs), Sl.val (D.obj n2 gs)] with | .ok d _ => _ | .exc x _ => _ | .bad => False
        cases q1 : fn [.val (.obj n2 fs), .val (.obj n2 gs)] with
        | bad => rw [q1] at e; cases e
        | exc x s => rw [q1] at e; cases e
        | ok d' s => rw [q1] at e; cases e; exact fun G' H' v pu rv => q G' H' v pu rv
      · cases e
    | _ => exact other e
  | _ => exact other (by unfold dOwn at e; exact e)
end
end L2.DL
set_option Elab.async false
set_option linter.all false
set_option maxRecDepth 100000
set_option maxHeartbeats 4000000
namespace L2.DL
open PySem PySem.Spec PyProof.Rows
/-! ### != by object.__ne__, the class's own __eq__ below it -/
section
variable {M : Model} {prog : Program} {w : World} {A : Around} {E : Value → Shared → Prop} {s : Shared} {K : PySem.W.Frag} {x C f : Addr} {ox : Obj} {od : Option Obj} {b tb : Value}
theorem entry_neOwn {Q : Fin → Shared → Prop} (hu : A.units < cLine) (X : K.In s.heap) (I : PySem.W.InstAt s.heap x ox C od) (he : PySem.W.findIn K (.ref C) "__eq__" = some (some (.ref f))) (hf : PySem.W.isFn K (.ref f) = true)
    (h : wpAny (model prog w) A (call (.ref f) [.ref x, b]) (fun v s' => ∃ r, v = .bool r ∧ Q (.done (.ret (.bool (!r)))) s') E s) :
    wpAny (model prog w) A (Builtin.«object.__ne__» ⟨[.ref x, b], []⟩) Q E s := by
  unfold Builtin.«object.__ne__»
  repeat (first
    | with_reducible refine wpAny_cRoomFor hu ?_
    | (refine wpAny_bind (m := callSpecialIfBound? (.ref x) (Str.ofString "__eq__") [b])
        (PySem.W.ifBound_K X I he hf (wpAny_mono h (fun r s' hr => by
          obtain ⟨r', rfl, hq⟩ := hr
          repeat (first | exact hq | exact wpAny_pure hq | exact wpAny_truthy_bool hq | (refine wpAny_bind (m := truthy (.bool _)) (wpAny_truthy_bool ?_)) | wp_step)) fun _ _ e => e)))
    | wp_step)
theorem call_neOwn {Q : Value → Shared → Prop} (hu : A.units + 1 < cLine) (X : K.In s.heap) (I : PySem.W.InstAt s.heap x ox C od) (hm : PySem.W.mroIn K C (.type "object") = some true) (he : PySem.W.findIn K (.ref C) "__eq__" = some (some (.ref f))) (hf : PySem.W.isFn K (.ref f) = true)
    (h : wpAny (model prog w) A.in1 (call (.ref f) [.ref x, b]) (fun v s' => ∃ r, v = .bool r ∧ Q (.bool (!r)) s') E s) :
    wpAny (model prog w) A (call (.builtin "object.__ne__") [.ref x, b]) Q E s :=
  wpAny_call (codeAny_call_builtin F.cmp_object.ne.plain F.cmpEntry_ne (PySem.W.check_slot F.cmpKind_ne F.cmpSplit_ne (I.type.andThen (PySem.W.looks_mroIn X hm)) (F.cmpArgs_ne _ _) (entry_neOwn (A := A.in1) hu X I he hf (wpAny_mono h (fun v s' hv => hv) fun _ _ e => e))))
theorem ifBound_ne {args : List Value} {Q : Option Value → Shared → Prop} (X : K.In s.heap) (I : PySem.W.InstAt s.heap x ox C od) (hs : PySem.W.findIn K (.ref C) "__ne__" = some (some (.builtin "object.__ne__")))
    (h : wpAny M A (call (.builtin "object.__ne__") (.ref x :: args)) (fun v => Q (some v)) E s) : wpAny M A (callSpecialIfBound? (.ref x) "__ne__" args) Q E s := by
  simp only [callSpecialIfBound?, bindSpecialIfBound?]
  refine wpAny_holding (wpAny_bind (wpAny_bind (wpAny_bind (I.type.here ((PySem.W.looks_findIn X hs).here ?_)))))
  refine wpAny_bind (wpAny_askSetting (wpAny_ite ?_))
  have fin : wpAny M A (call (.builtin "object.__ne__") ([.ref x] ++ args) >>= fun v => pure (some v)) Q E s := wpAny_bind (wpAny_mono h (fun v s' h' => wpAny_pure h') fun _ _ h' => h')
  split
  · exact wpAny_bind (wpAny_of_eq (F.cmp_object.ne.bind _) (wpAny_pure (by exact fin)))
  · exact wpAny_tryCatch (wpAny_bind (wpAny_of_eq (F.cmp_object.ne.bind _) (wpAny_pure (by exact fin))))
theorem rc_neOwn {Q : Value → Shared → Prop} (hu : A.units + 1 < cLine) (X : K.In s.heap) (I : PySem.W.InstAt s.heap x ox C od) (hb : PySem.W.Looks (model prog w) s.heap (typeOf b) tb) (hn : PySem.W.notFirst K C tb = true) (hm : PySem.W.mroIn K C (.type "object") = some true)
    (hs : PySem.W.findIn K (.ref C) "__ne__" = some (some (.builtin "object.__ne__"))) (he : PySem.W.findIn K (.ref C) "__eq__" = some (some (.ref f))) (hf : PySem.W.isFn K (.ref f) = true)
    (h : wpAny (model prog w) A.in1 (call (.ref f) [.ref x, b]) (fun v s' => ∃ r, v = .bool r ∧ Q (.bool (!r)) s') E s) : wpAny (model prog w) A (richCompare .NotEq (.ref x) b) Q E s := by
  have one : wpAny (model prog w) A (tryCompare (.ref x) "__ne__" b) (fun r s' => ∃ v, r = some v ∧ Q v s') E s := by
    unfold tryCompare
    refine wpAny_bind (ifBound_ne X I hs (call_neOwn hu X I hm he hf (wpAny_mono h (fun v s' hv => ?_) fun _ _ e => e)))
    obtain ⟨r, rfl, hq⟩ := hv
    exact ⟨r, rfl, wpAny_pure ⟨_, rfl, hq⟩⟩
  unfold richCompare
  simp only [oneThing_ref, cmpInfo_NotEq]
  refine wpAny_holding (wpAny_bind (wpAny_cRoomFor (by omega) ?_))
  refine wpAny_bind (I.type.here (wpAny_bind (hb.here ?_)))
  split
  · rename_i q
    have e : PySem.W.subIn K tb (.ref C) = some false := by
      rcases Bool.or_eq_true_iff.mp hn with e | e
      · rw [beq_iff_eq.mp e] at q; simp at q
      · exact beq_iff_eq.mp e
    refine wpAny_bind ((PySem.W.looks_subIn X e).here ?_)
    simp only [Bool.false_eq_true, if_false]
    refine wpAny_bind (wpAny_mono one (fun r s' z => ?_) fun _ _ e => e)
    obtain ⟨v, rfl, hq⟩ := z
    exact wpAny_pure hq
  · refine wpAny_bind (wpAny_pure ?_)
    simp only [Bool.false_eq_true, if_false]
    refine wpAny_bind (wpAny_mono one (fun r s' z => ?_) fun _ _ e => e)
    obtain ⟨v, rfl, hq⟩ := z
    exact wpAny_pure hq
end
def rNeOwn (K : PySem.W.Frag) (C : Addr) (sp : Sp) (E : XK) : R2 := fun x y H Q => ∃ a dx vs b C' dy ws, x = .ref a ∧ y = .ref b ∧ SlX.Slt H a C dx vs ∧ SlX.Slt H b C' dy ws ∧ PySem.W.notFirst K C (.ref C') = true ∧ sp [x, y] H (fun v H' => ∃ r, v = .bl r ∧ Q (.bl (!r)) H') E
theorem op_neOwn {X : Cx} {C g : Addr} {sp : Sp} {E : XK} {n : Nat} (hm : PySem.W.mroIn X.K C (.type "object") = some true) (hs : PySem.W.findIn X.K (.ref C) "__ne__" = some (some (.builtin "object.__ne__"))) (he : PySem.W.findIn X.K (.ref C) "__eq__" = some (some (.ref g))) (hf : PySem.W.isFn X.K (.ref g) = true)
    (F : FnRG X.prog X.w X.K X.mg X.base (L2.CX X.prog X.w) n g sp) (hr : RoomG (n + 1) X.A) (hx : Passes (L2.CX X.prog X.w) X E) : OpR X (compareOp .NotEq) (rNeOwn X.K C sp E) := by
  intro pins s σ H x y v u Q I rx ry h
  obtain ⟨a, dx, vs, b, C', dy, ws, rfl, rfl, ha, hb, hn, q⟩ := h
  cases (show v = Value.ref a from rx)
  cases (show u = Value.ref b from ry)
  obtain ⟨sl, od, _, J, _⟩ := SlX.slt_inst I ha
  obtain ⟨sl', od', _, J', _⟩ := SlX.slt_inst I hb
  have hu := hr.units
  show wpAny (model X.prog X.w) X.A (richCompare .NotEq (.ref a) (.ref b)) _ _ s
  refine rc_neOwn (tb := .ref C') (by omega) I.kIn J J'.type hn hm hs he hf ?_
  refine wpAny_mono (wpAny_call (run_atG (us := [.ref a, .ref b]) (ws := [.ref a, .ref b]) F hr.in1 I.env0.in1 hx I (.cons rfl (.cons rfl .nil)) q)) (fun w s' z => ?_) fun _ _ x => x
  obtain ⟨z', H', I', rz, r, er, qz⟩ := z
  subst er
  cases (show w = Value.bool r from rz)
  exact ⟨r, rfl, .bl _, H', I', rfl, qz⟩
/-- the class has no __ne__ of its own -/
structure Nf (K : PySem.W.Frag) (c : Cl) (cl : Nat) : Prop where
  ne : PySem.W.findIn K (.ref (c.cls cl)) "__ne__" = some (some (.builtin "object.__ne__"))
  mo : PySem.W.mroIn K (c.cls cl) (.type "object") = some true
def dOwnNe (cl : Nat) (fn : Fn) (g : D → D → Option D) (x y : D) : Option D := match x, y with
  | .obj n fs, .obj m gs => if n = cl ∧ m = cl then match fn [.val (.obj n fs), .val (.obj m gs)] with
    | .ok (.bl b) _ => some (.bl (!b))
    | _ => none
    else none
  | x, y => g x y
section
variable {X : Cx} {c : Cl} {cl k : Nat} {fn : Fn} {g : D → D → Option D}
theorem do_ownNe (O : Of X.prog X.w X.K X.mg X.base c cl "__eq__" k fn) (N : Nf X.K c cl) (hr : RoomG (k + 1) X.A) (ho : OpD X c (compareOp .NotEq) g) : OpD X c (compareOp .NotEq) (dOwnNe cl fn g) := opd_ofT fun G H x y dx dy d hs ht r1 r2 e => by
  obtain ⟨sc, nf, f, f1, f2, Ff⟩ := O
  have other : g dx dy = some d → ∃ r : R2, OpR X (compareOp .NotEq) r ∧ ∀ Q : VK, (∀ G' H' v, Pure c H G H' G' → Rep X.K c G' v d → Q v H') → r x y H Q := fun e => ⟨_, ho, fun Q q => ⟨G, dx, dy, d, hs, ht, r1, r2, e, q⟩⟩
  cases r1 with
  | @obj a da vs fs n h1 s1 =>
    cases r2 with
    | @obj b db ws gs n2 h2 s2 =>
      unfold dOwnNe at e
      dsimp only at e
      split at e
      · rename_i hn
        obtain ⟨rfl, rfl⟩ := hn
        refine ⟨_, op_neOwn N.mo N.ne f1 f2 Ff hr (passE0 fun _ _ _ _ z => cx_E0 z), fun Q q => ⟨a, da, _, b, _, db, _, rfl, rfl, Same.slt hs h1, Same.slt hs h2, nf, ?_⟩⟩
        refine spD_vals (ds := [.obj n2 fs, .obj n2 gs]) hs ht (.cons (.obj h1 s1) (.cons (.obj h2 s2) .nil)) rfl ?_
        show match fn [Sl.val (D.obj n2 fs), Sl.val (D.obj n2 gs)] with | .ok d _ => _ | .exc x _ => _ | .bad => False
        cases q1 : fn [.val (.obj n2 fs), .val (.obj n2 gs)] with
        | bad => rw [q1] at e; cases e
        | exc x s => rw [q1] at e; cases e
        | ok d' s =>
          rw [q1] at e
          cases d' with
          | bl r =>
            cases e
            intro G' H' v pu rv
            cases rv
            exact ⟨r, rfl, q G' H' _ pu (.bl _)⟩
          | _ => cases e
      · cases e
    | _ => exact other e
  | _ => exact other (by unfold dOwnNe at e; exact e)
end
@[simp] theorem ev_mth {cl : Nat} {fn : Fn} {o : M D} {ms : M (List D)} {e : Ev} : mMth cl fn o ms e = (o e).bnd fun x e => match x with
  | .obj n fs => if n = cl then (ms e).bnd fun ds e => callR (fn (.val (.obj n fs) :: ds.map .val)) e else .bad
  | _ => .bad := by
  show Res.bnd _ _ = _
  refine congrArg (Res.bnd (o e)) (funext fun x => funext fun e1 => ?_)
  cases x with
  | obj n fs =>
    dsimp only
    split <;> rfl
  | _ => rfl
end L2.DL
set_option Elab.async false
set_option linter.all false
set_option maxRecDepth 100000
set_option maxHeartbeats 4000000
namespace L2.DL
open PySem PySem.Spec PyProof.Rows
/-! ### x[::-1] -/
def dRev : D → Option D
  | .lst xs => some (.lst xs.reverse)
  | .ro xs => some (.lst xs.reverse)
  | .str z => if z.length ≤ 16777216 then some (.str ⟨z.cps.toList.reverse.toArray⟩) else none
  | .tup xs => some (.tup xs.reverse)
  | _ => none
def mRev (m : M D) : M D := M.bind m fun d => M.opt (dRev d)
@[simp] theorem ev_rev {m : M D} {e : Ev} : mRev m e = (m e).bnd fun d e => M.opt (dRev d) e := rfl
theorem rev_pick (z : Str) : ((Builtin.Str.strSliceIndices none none (-1) z.length).filterMap (z.cps[·]?)).toArray = z.cps.toList.reverse.toArray := by
  have h1 : Builtin.Str.strSliceIndices none none (-1) z.length = sliceRange ((z.length : Int) - 1) (-1) (-1) := rfl
  have h2 : ∀ (a : Array Nat), ((List.range a.size).map fun k => a.size - 1 - k).filterMap (a[·]?) = a.toList.reverse := by
    intro a
    rw [PySem.W.krv_range, List.filterMap_reverse]
    congr 1
    have key : ∀ (l : List Nat) (n : Nat), (List.range n).filterMap (l[·]?) = l.take n := by
      intro l n
      induction n with
      | zero => simp
      | succ n ih =>
        rw [List.range_succ, List.filterMap_append, ih, List.take_succ]
        congr 1
    have h3 := key a.toList a.size
    rw [List.take_of_length_le (by simp)] at h3
    simpa using h3
  rw [h1, PySem.W.krv_sliceRange]
  show (List.filterMap _ (List.map (fun k => z.cps.size - 1 - k) (List.range z.cps.size))).toArray = _
  rw [h2]
section
variable {prog : Program} {w : World} {A : Around} {E : Value → Shared → Prop} {s : Shared}
theorem places_rev (n : Nat) : Builtin.Slice.slicePlaces ((n : Int) - 1) (-1) (-1) = n := by
  unfold Builtin.Slice.slicePlaces
  simp
  split <;> omega
theorem applied_rev {sl : Addr} {vl vu vs : Value} {n : Nat} {Q : Int × Int × Nat → Shared → Prop} (hs : s.heap.IsSliceOf sl vl vu vs) (pl : IsPart vl none) (pu : IsPart vu none) (ps : IsPart vs (some (-1)))
    (h : Q ((n : Int) - 1, -1, n) s) : wpAny (model prog w) A (Builtin.Slice.sliceApplied (.ref sl) (pure (n : Int))) Q E s := by
  obtain ⟨os, at_, cs, ds⟩ := id hs
  unfold Builtin.Slice.sliceApplied Builtin.Slice.sliceFields
  refine wpAny_bind (wpAny_bind (wpAny_field at_ ds (x := vl) rfl (wpAny_bind (wpAny_field at_ ds (x := vu) rfl (wpAny_bind (wpAny_field at_ ds (x := vs) rfl (wpAny_pure ?_)))))))
  refine wpAny_bind (HT.slicePart_ ps ?_)
  show wpAny _ _ (if ((-1 : Int) == 0) = true then _ else _) _ _ s
  rw [if_neg (by decide)]
  refine wpAny_bind (HT.slicePart_ pl (wpAny_bind (HT.slicePart_ pu (wpAny_bind (wpAny_pure ?_)))))
  show wpAny _ _ (pure ((n : Int) - 1, (-1 : Int), Builtin.Slice.slicePlaces ((n : Int) - 1) (-1) (-1))) _ _ s
  rw [places_rev]
  exact wpAny_pure h
theorem pick_rev (xs : Array Value) : ((List.range xs.size).filterMap fun (m : Nat) => xs[((xs.size : Int) - 1 + (m : Int) * (-1)).toNat]?).toArray = xs.toList.reverse.toArray := by
  have := PySem.W.krv_pick xs
  unfold slicePick at this
  rw [PySem.W.krv_bounds] at this
  have e : sliceRange ((xs.size : Int) - 1) (-1) (-1) = (List.range xs.size).map fun k => xs.size - 1 - k := PySem.W.krv_sliceRange _
  have this : ((sliceRange ((xs.size : Int) - 1) (-1) (-1)).filterMap (xs[·]?)).toArray = _ := this
  rw [e, List.filterMap_map] at this
  rw [← this]
  congr 2
  funext m
  have : ((xs.size : Int) - 1 + (m : Int) * (-1)).toNat = xs.size - 1 - m := by omega
  rw [this]
  rfl
theorem getItem_tuple_rev {t sl : Addr} {items : Array Value} {vl vu vs : Value} {Q : Value → Shared → Prop} (ht : IsTup s.heap t items) (hs : s.heap.IsSliceOf sl vl vu vs) (pl : IsPart vl none) (pu : IsPart vu none) (ps : IsPart vs (some (-1)))
    (h : Q (.ref s.heap.objs.size) { s with heap := s.heap.push { cls := .type "tuple", data := .seq items.toList.reverse.toArray } }) (hsz : items.size ≤ sizeLine) : wpAny (model prog w) A (getItem (.ref t) (.ref sl)) Q E s := by
  have ok : sizeOk (.seq items.toList.reverse.toArray) := by
    show (items.toList.reverse.toArray).size ≤ sizeLine
    rw [List.size_toArray, List.length_reverse]
    exact hsz
  obtain ⟨os, at_, cs, ds⟩ := id hs
  have isS : s.TypeIs (.ref sl) "slice" := ⟨os, at_, cs⟩
  unfold getItem
  try with_reducible refine wpAny_holding ?_
  first | refine wpAny_bind (wpAny_pure ?_) | skip
  refine wpAny_bind (wpAny_sequenceKey ht.typeIs (by decide) ?_)
  refine wpAny_bind (wpAny_callSpecial?_slot (name := Str.ofString "__getitem__") ht.typeIs PyProof.Rows.slot_tuple_getitem (wpAny_call_entry PyProof.Rows.slot_tuple_getitem ht.typeIs entry_tuple_getitem ?_ (args_tuple_getitem _ _)))
  show wpAny _ _ (Builtin.Tuple.tupleItemsOf (.ref t) >>= _) _ _ s
  refine wpAny_bind (tupleItemsOf_ ht (wpAny_bind (wpAny_typeOf isS ?_)))
  rw [if_pos (by decide)]
  refine wpAny_bind (applied_rev hs pl pu ps ?_)
  have part : ¬ ((((items.size : Int) - 1) == 0 && (-1 : Int) == 1 && items.size == items.size) = true) := by simp
  show wpAny _ _ (if ((((items.size : Int) - 1) == 0 && (-1 : Int) == 1 && items.size == items.size)) = true then _ else _) _ _ s
  rw [if_neg part, pick_rev]
  first
    | exact wpAny_bind (m := Builtin.Tuple.tupleExact _) (wpAny_newObj_type (wpAny_pure ⟨_, rfl, wpAny_pure h⟩) ok)
    | exact wpAny_bind (m := Builtin.Tuple.tupleExact _) (wpAny_newObj_type (wpAny_bind (wpAny_pure (wpAny_pure ⟨_, rfl, wpAny_pure h⟩))) ok)
    | exact wpAny_bind (wpAny_bind (m := Builtin.Tuple.tupleExact _) (wpAny_newObj_type (wpAny_pure (wpAny_pure ⟨_, rfl, wpAny_pure h⟩)) ok))
    | exact wpAny_bind (wpAny_bind (m := Builtin.Tuple.tupleExact _) (wpAny_newObj_type (wpAny_pure ⟨_, rfl, wpAny_pure h⟩) ok))
end
def tRevD (K : PySem.W.Frag) (te : TE) : TE := fun σ H Q => te σ H fun x H1 => (∃ a xs, x = .ref a ∧ SqL K H1 a xs ∧ ∀ p, H1 p = none → Q (.ref p) (upd H1 p (.lst xs.reverse))) ∨ (∃ z, x = .str z ∧ z.length ≤ 16777216 ∧ Q (.str ⟨z.cps.toList.reverse.toArray⟩) H1) ∨ ∃ a xs, x = .ref a ∧ SqT K H1 a xs ∧ ∀ p, H1 p = none → Q (.ref p) (upd H1 p (.tup xs.reverse))
section
variable {X : Cx} {c : Cl} {W : WX} {e : Expr} {te : TE} {k : Nat} {p1 p2 p3 pos : Pos} {m : M D}
theorem pe_revD (he : PE X e te) : PE X (.Subscript e (.Slice none none (some (.UnaryOp .USub (.Constant (.int 1) k p1) p2)) p3) pos) (tRevD X.K te) := by
  refine ⟨fun pins s σ H Q I h => ?_⟩
  refine Subscript_ (thn (he.run pins s σ H _ I h) fun v s1 ⟨x, H1, I1, r1, q1⟩ => ?_)
  have hst : PO X (some (.UnaryOp .USub (.Constant (.int 1) k p1) p2)) (tPart (tUn (rU fun i => .int (-i)) (tC (.int 1)))) := po_some (pe_un un_neg pe_int)
  refine wpAny_Slice (thn (po_none.run pins s1 σ H1 (fun o H2 => o = none ∧ H2 = H1) I1 ⟨rfl, rfl⟩) fun vl s2 ⟨l, H2, I2, pl, el, e2⟩ => ?_)
  subst el e2
  refine thn (po_none.run pins s2 σ H2 (fun o H3 => o = none ∧ H3 = H2) I2 ⟨rfl, rfl⟩) fun vu s3 ⟨u, H3, I3, pu, eu, e3⟩ => ?_
  subst eu e3
  refine thn (hst.run pins s3 σ H3 (fun o H4 => o = some (-1) ∧ H4 = H3) I3 ⟨1, rfl, -1, rfl, rfl, rfl⟩) fun vs s4 ⟨o, H4, I4, ps, eo, e4⟩ => ?_
  subst eo e4
  have I5 : Inv X pins σ H4 { s4 with heap := s4.heap.push { cls := .type "slice", data := .fields #[vl, vu, vs] } } := I4.kept (t' := s4.toks) fun b ob q => Heap.get?_push_of_some _ q
  rcases q1 with ⟨a, xs, ex, hx, q⟩ | ⟨z, ex, hz, q⟩ | ⟨a, xs, ex, hx, q⟩
  · subst ex
    cases r1
    obtain ⟨its, r, ht, hz⟩ := I5.list hx
    have hlen := r.length
    show wpAny (model X.prog X.w) X.A (subscriptTail e (.Slice none none (some (.UnaryOp .USub (.Constant (.int 1) k p1) p2)) p3) (.ref a) (.ref s4.heap.objs.size)) (EP X pins σ Q) X.xe { s4 with heap := s4.heap.push { cls := .type "slice", data := .fields #[vl, vu, vs] } }
    refine tail_any (ops := [.ref a, .ref s4.heap.objs.size]) ht.isList.typeIs (PySem.slot_list_getitem.lookup) ?_ (by with_unfolding_all rfl)
    refine wpAny_getItem_list_slice ht.isList (Heap.IsSliceOf.new _ vl vu vs) pl pu ps (by decide) ?_ (by rw [List.size_toArray]; omega)
    rw [PySem.W.krv_pick]
    refine ⟨.ref _, _, I5.laid (t' := s4.toks) (o := .lst xs.reverse) (fun b ob q => Heap.get?_push_of_some _ q) (Nat.le_refl _) ?_, rfl, q _ (I5.hok.fresh (Nat.le_refl _))⟩
    exact ⟨by rw [List.length_reverse]; exact hz, _, 0, r.reverse, Heap.get?_push_size _ rfl⟩
  · subst ex
    obtain ⟨t, rfl⟩ := r1
    obtain ⟨os, hos, hcs, hds⟩ := Heap.IsSliceOf.new s4.heap vl vu vs
    obtain ⟨l, rfl, el⟩ := IsPart.raw pl
    obtain ⟨u, rfl, eu⟩ := IsPart.raw pu
    obtain ⟨w, rfl, ew⟩ := IsPart.raw ps
    cases l with
    | some _ => cases el
    | none =>
      cases u with
      | some _ => cases eu
      | none =>
        cases w with
        | none => cases ew
        | some w =>
          obtain ⟨w1, w2⟩ := w
          obtain rfl : w1 = (-1 : Int) := by simpa using ew
          show wpAny (model X.prog X.w) X.A (subscriptTail e (.Slice none none (some (.UnaryOp .USub (.Constant (.int 1) k p1) p2)) p3) (.str z t) (.ref s4.heap.objs.size)) (EP X pins σ Q) X.xe _
          refine tail_any (ops := [.ref s4.heap.objs.size, .str z t]) (typeIs_str _ _ _) F.slot_str_getitem.lookup ?_ (by with_unfolding_all rfl)
          refine wpAny_getItem_str_slice (l := none) (u := none) (st := some (-1, w2)) ⟨os, hos, hcs, hds⟩ rfl ?_
          show Made.post (if ((-1 : Int) == 1 && (slicePicked z none none (some (-1, w2))).length == z.length) = true then Made.val (.str z t) else Made.str ⟨((Builtin.Str.strSliceIndices none none (-1) z.length).filterMap (z.cps[·]?)).toArray⟩) (EP X pins σ Q) _
          rw [if_neg (by simp), rev_pick]
          exact ⟨by show (z.cps.toList.reverse.toArray).size ≤ _; rw [List.size_toArray, List.length_reverse]; exact hz, .str _, H4, I5.tok _, ⟨_, rfl⟩, q⟩
  · subst ex
    cases r1
    obtain ⟨its, r, ht, hz⟩ := I5.tuple hx
    have hlen := r.length
    show wpAny (model X.prog X.w) X.A (subscriptTail e (.Slice none none (some (.UnaryOp .USub (.Constant (.int 1) k p1) p2)) p3) (.ref a) (.ref s4.heap.objs.size)) (EP X pins σ Q) X.xe { s4 with heap := s4.heap.push { cls := .type "slice", data := .fields #[vl, vu, vs] } }
    refine tail_any (ops := [.ref a, .ref s4.heap.objs.size]) ht.typeIs (PyProof.Rows.slot_tuple_getitem.lookup) ?_ (by with_unfolding_all rfl)
    refine getItem_tuple_rev ht (Heap.IsSliceOf.new _ vl vu vs) pl pu ps ?_ (by rw [List.size_toArray]; omega)
    refine ⟨.ref _, _, I5.laid (t' := s4.toks) (o := .tup xs.reverse) (fun b ob q => Heap.get?_push_of_some _ q) (Nat.le_refl _) ?_, rfl, q _ (I5.hok.fresh (Nat.le_refl _))⟩
    exact ⟨by rw [List.length_reverse]; exact hz, _, r.reverse, ⟨_, Heap.get?_push_size _ rfl, rfl, _, rfl⟩⟩
theorem de_rev (he : PE X e (tE X.K c W m)) : PE X (.Subscript e (.Slice none none (some (.UnaryOp .USub (.Constant (.int 1) k p1) p2)) p3) pos) (tE X.K c W (mRev m)) := by
  refine PE.weak (pe_revD he) fun σ H Q h => ?_
  obtain ⟨F, G, P, env, Rl, h⟩ := h
  refine ⟨F, G, P, env, Rl, (Post.bind h).imp fun x G1 H1 P1 _ ⟨env1, R1, h1⟩ v r => ?_⟩
  cases e : dRev x with
  | none => rw [e] at h1; exact h1.elim
  | some d =>
    rw [e] at h1
    have h2 : Post X.K c W F G1 P1 σ env1 (.ok d env1) _ := h1
    have rv : ∀ {vs : List V} {ds : List D}, Reps X.K c G1 vs ds → Reps X.K c G1 vs.reverse ds.reverse := by
      intro vs ds r
      induction r using Reps.rec (motive_1 := fun _ _ _ => True) (motive_3 := fun _ _ _ => True) with
      | nil => exact .nil
      | cons h t _ ih => rw [List.reverse_cons, List.reverse_cons]; exact ih.append (.cons h .nil)
      | _ => trivial
    have new : ∀ {vs : List V} {ds : List D}, Reps X.K c G1 vs ds → d = .lst ds.reverse → ∀ p, H1 p = none → Q (.ref p) (upd H1 p (.lst vs.reverse)) := fun {vs ds} r ed p hp => by
      subst ed
      obtain ⟨x2, R2⟩ := R1.pure (Pure.new (.lst vs.reverse) R1.gs hp)
      exact h2 _ _ P1 x2 (Keep.refl _ _) R2 _ (.lst upd_same ((rv r).mono (same_new (none_of R1.gs hp))))
    cases r with
    | lst h s => cases e; exact .inl ⟨_, _, rfl, SqL.of (R1.gs _ _ h), new s rfl⟩
    | ro h s => cases e; exact .inl ⟨_, _, rfl, R1.gs.seq h, new s rfl⟩
    | str z =>
      unfold dRev at e
      dsimp only at e
      split at e
      · rename_i hz
        cases e
        exact .inr (.inl ⟨z, rfl, hz, Post.here R1 h2 _ (.str _)⟩)
      · cases e
    | tup h s =>
      cases e
      exact .inr (.inr ⟨_, _, rfl, Same.seqT R1.gs h, fun p hp => by
        obtain ⟨x2, R2⟩ := R1.pure (Pure.new (.tup _) R1.gs hp)
        exact h2 _ _ P1 x2 (Keep.refl _ _) R2 _ (.tup (SqT.of upd_same) ((rv s).mono (same_new (none_of R1.gs hp))))⟩)
    | _ => cases e
end
/-! ### f(g(..)), what g makes lent to f -/
def mCallN (f : Fn) (mo : M Cell) : M D := M.bind mo fun z env => match f [.cell true z] with
  | .ok d _ => .ok d env
  | .exc x _ => .exc x env
  | .bad => .bad
@[simp] theorem ev_callN {f : Fn} {mo : M Cell} {e : Ev} : mCallN f mo e = (mo e).bnd fun z e => callR (f [.cell true z]) e := rfl
section
variable {X : Cx} {c : Cl} {W : WX} {pos p : Pos} {e : Expr} {mo : M Cell} {x : Str} {k : Nat} {fn : Fn} {F G H : Hp} {P : List (List Addr)} {σ : St} {env : Ev}
theorem call_new {K : PySem.W.Frag} {q : List Addr} {z : Cell} {v0 : V} {Q : VK} (R : Rel K c F G H P σ env) (ca : CellAt K c G H q v0 z) (nd : q.Nodup) (out : ∀ b, b ∈ q → F b = none ∧ G b = none ∧ b ∉ P.flatten)
    (h : Post K c W F G P σ env (match fn [.cell true z] with | .ok d _ => .ok d env | .exc x _ => .exc x env | .bad => .bad) fun d G' H' _ => ∀ v, Rep K c G' v d → Q v H') : spD K c 1 fn [v0] H Q (WE W σ) := by
  let Fc : Hp := fun b => if b ∈ q then none else nt H b
  have fcN : ∀ b, b ∈ q → Fc b = none := fun b hb => if_pos hb
  have fcH : ∀ b, b ∉ q → Fc b = nt H b := fun b hb => if_neg hb
  have sFc : Same Fc H := fun b o h => by
    by_cases hb : b ∈ q
    · rw [fcN b hb] at h; cases h
    · rw [fcH b hb] at h; exact nt_same H b o h
  have nFc : NoT Fc := fun b ps h => by
    by_cases hb : b ∈ q
    · rw [fcN b hb] at h; cases h
    · rw [fcH b hb] at h; exact nt_not H b ps h
  have fcF : ∀ b o, b ∉ q → F b = some o → Fc b = some o := fun b o hb h => by
    rw [fcH b hb]
    exact nt_at (R.fs b o h) fun ps z => R.tb.nf b ps (by rw [h, z])
  have fcP : ∀ b o, b ∉ q → b ∈ P.flatten → H b = some o → Fc b = some o := fun b o hb hP h => by
    obtain ⟨o', h1, h2⟩ := R.all.obj b hP
    rw [h] at h1
    cases h1
    rw [fcH b hb]
    exact nt_at h h2
  have fl : ([q] : List (List Addr)).flatten = q := by rw [List.flatten_cons]; exact List.append_nil q
  have Rc : Rel K c Fc G H [q] ([v0].map some) [.cell true z] :=
    ⟨sFc, R.gs, .cons (.cell ca) .nil, fun b hb => by rw [fl] at hb; exact ⟨fcN b hb, (out b hb).2.1⟩, by rw [fl]; exact nd, ⟨R.tb.tabs, nFc, R.tb.ng⟩⟩
  refine ⟨Fc, G, _, _, rfl, Rc, rfl, ?_⟩
  have there : ∀ b, b ∈ P.flatten → H b ≠ none := fun b hb => by
    obtain ⟨q, hq, hb⟩ := List.mem_flatten.mp hb
    obtain ⟨j, hj, ej⟩ := List.mem_iff_getElem.mp hq
    have hl := R.all.len
    have ej1 : P[j]? = some q := by rw [List.getElem?_eq_getElem hj, ej]
    obtain ⟨s, hs⟩ : ∃ s, env[j]? = some s := ⟨env[j]'(by omega), by simp [show j < env.length by omega]⟩
    obtain ⟨p', x, e2, _, r⟩ := R.all.get hs
    rw [ej1] at e2; cases e2
    cases r with
    | no => cases hb
    | val _ => cases hb
    | cell z => exact cell_there z b hb
  have notq : ∀ b o, F b = some o → b ∉ q := fun b o h hb => by rw [(out b hb).1] at h; cases h
  have back : ∀ {G' H' : Hp} {P' : List (List Addr)} {σ' : St} {s' : List Sl}, Ext Fc G G' → Rel K c Fc G' H' P' σ' s' → Ext F G G' ∧ Rel K c F G' H' P σ env := by
    intro G' H' P' σ' s' x R'
    refine ⟨⟨x.same, fun b h1 h2 => ?_⟩, ⟨fun b o h => R'.fs b o (fcF b o (notq b o h) h), R'.gs, ?_, fun b hb => ⟨(R.out b hb).1, ?_⟩, R.nd, ⟨R'.tb.tabs, R.tb.nf, R'.tb.ng⟩⟩⟩
    · cases eF : F b with
      | none => exact absurd eF h2
      | some o =>
        refine x.fresh b h1 ?_
        rw [fcF b o (notq b o eF) eF]
        exact fun z => nomatch z
    · exact R.all.move x.same fun b hb o ho => R'.fs b o (fcP b o (fun hbq => (out b hbq).2.2 hb) hb ho)
    · obtain ⟨o', h1, _⟩ := R.all.obj b hb
      exact x.fresh b (R.out b hb).2 (by rw [fcP b o' (fun hbq => (out b hbq).2.2 hb) hb h1]; exact fun z => nomatch z)
  cases e : fn [.cell true z] with
  | bad => rw [e] at h; exact h
  | ok d s =>
    rw [e] at h
    intro G' H' P' x _ R' v rv
    obtain ⟨a1, a2⟩ := back x R'
    exact h G' H' P a1 (Keep.refl _ _) a2 v rv
  | exc xx s =>
    rw [e] at h
    intro G' H' P' cv dd x _ R' rx
    obtain ⟨a1, a2⟩ := back x R'
    exact h G' H' P cv dd a1 (Keep.refl _ _) a2 rx
/-- one argument from a judgement of new own things -/
def tA1O (K : PySem.W.Frag) (c : Cl) (W : WX) (m : M Cell) : TA := fun σ H Q => ∃ F G P env, Rel K c F G H P σ env ∧ Post K c W F G P σ env (m env) fun z G' H' P' => ∀ v p, CellAt K c G' H' p v z → p.Nodup → (∀ b, b ∈ p → F b = none ∧ G' b = none ∧ b ∉ P'.flatten) → Q [v] H'
theorem de_callN (Fd : Df X.prog X.w X.K X.mg X.base c x k 1 fn) (tk : Takes X W) (hr : RoomG k X.A) (ha : PE X e (tO X.K c W mo)) (hg : Gl X x := by rfl) (hdb : (x == ("__debug__" : Str)) = false := by decide)
    (he1 : starEach [e] X.env = (false, eval e X.env) :: starEach [] X.env := by rfl) (hpl : (backTo pos (starEach [] X.env)).any (·.1) = false := by rfl) :
    PE X (.Call (.Name x p) [e] [] pos) (tE X.K c W (mCallN fn mo)) := by
  obtain ⟨f, Fk, hm, hk⟩ := Fd.ex
  refine PE.weak (pe_callR (E := WE W) Fk hr hg hm hk (fun σ => passAt tk σ) (pa_cons ha pa_nil he1) hdb he1 hpl) fun σ H Q h => ?_
  obtain ⟨F, G, P, env, R, h⟩ := h
  refine ⟨F, G, P, env, R, ?_⟩
  unfold mCallN M.bind at h
  cases q : mo env with
  | bad => rw [q] at h; exact h
  | exc xx e1 => rw [q] at h; exact h
  | ok z e1 =>
    rw [q] at h
    exact fun G1 H1 P1 x1 k1 R1 v q ca nd out => call_new R1 ca nd out (Post.chain h x1 k1)
end
end L2.DL
set_option Elab.async false
set_option linter.all false
set_option maxRecDepth 100000
set_option maxHeartbeats 4000000
namespace L2.DL
open PySem PySem.Spec PyProof.Rows
/-! ### a, b, .. = x, y, .. through a tuple (four names and more, or a captured one among them) -/
def gN : List Nat → TGs
  | [] => fun vs σ H Q => vs = [] ∧ Q σ H
  | i :: is => fun vs σ H Q => ∃ v r, vs = v :: r ∧ gN is r (σ.set i (some v)) H Q
section
variable {X : Cx} {c : Cl} {W : WX} {pos px : Pos} {es ts : List Expr} {mps : M (List PV)} {is : List Nat}
theorem gn_nil : PGs X [] (gN []) := pgs_nil
theorem gn_cons {i : Nat} {x : Str} (hN : X.N.Nodup) (h : PGs X ts (gN is)) (hi : X.N[i]? = some x := by rfl) (hx : Loc X.env.scope x := by first | exact .inl rfl | exact .inr rfl) (hf : X.fn x = true ∨ X.env.scope.names.lookup x = some .local := by first | exact .inl rfl | exact .inr rfl)
    (hs : (assignEach (.Name x px :: ts) X.env).map (·.2) = assign (.Name x px) X.env :: (assignEach ts X.env).map (·.2) := by rfl) : PGs X (.Name x px :: ts) (gN (i :: is)) :=
  pgs_cons (pg_name (i := i) hN hi hx hf) h hs
theorem gn_run : ∀ {is : List Nat} {vs : List V} {σ : St} {H : Hp} {Q : St → Hp → Prop}, vs.length = is.length → Q ((is.zip vs).foldl (fun σ x => σ.set x.1 (some x.2)) σ) H → gN is vs σ H Q
  | [], [], _, _, _, _, h => ⟨rfl, h⟩
  | [], _ :: _, _, _, _, h, _ => by cases h
  | _ :: _, [], _, _, _, h, _ => by cases h
  | i :: is, v :: vs, σ, H, Q, hl, h => ⟨v, vs, rfl, gn_run (by simpa using hl) h⟩
theorem pvs_there {K : PySem.W.Frag} {G H : Hp} {vs : List V} {ps : List PV} {PP : List (List Addr)} (h : PVs K c G H vs ps PP) : ∀ b, b ∈ PP.flatten → H b ≠ none := by
  induction h with
  | nil => intro b hb; simp at hb
  | inl _ _ ih => intro b hb; exact ih b (by simpa using hb)
  | inr r _ ih =>
    intro b hb
    rw [List.flatten_cons] at hb
    rcases List.mem_append.mp hb with hb | hb
    · exact cell_there r b hb
    · exact ih b hb
theorem parT_post {σ : St} {H : Hp} {D : Ends} (h : tS X.K c W (mPar is mps) D σ H) : tPs X.K c W mps σ H fun vs H1 => vs.length = is.length ∧ ∀ p, H1 p = none → D.nx ((is.zip vs).foldl (fun σ x => σ.set x.1 (some x.2)) σ) (upd H1 p (.tup vs)) := by
  obtain ⟨F, G, P, env, R, h⟩ := h
  refine ⟨F, G, P, env, R, (Post.bindS h).imp fun ps G1 H1 P1 _ ⟨env1, R1, h1⟩ vs PP pv nd out => ?_⟩
  unfold M.upd at h1
  cases q : setPVs is ps env1 with
  | none => rw [q] at h1; exact h1.elim
  | some e1 =>
    rw [q] at h1
    have len : ∀ {is : List Nat} {ps : List PV} {vs : List V} {PP : List (List Addr)} {e e' : Ev}, PVs X.K c G1 H1 vs ps PP → setPVs is ps e = some e' → vs.length = is.length := by
      intro is
      induction is with
      | nil => intro ps vs PP e e' pv q; cases pv <;> first | rfl | (unfold setPVs at q; cases q)
      | cons i is ih =>
        intro ps vs PP e e' pv q
        cases pv with
        | nil => unfold setPVs at q; cases q
        | inl _ t =>
          unfold setPVs at q
          split at q
          · rw [List.length_cons, List.length_cons, ih t q]
          · cases q
        | inr _ t =>
          unfold setPVs at q
          split at q
          · rw [List.length_cons, List.length_cons, ih t q]
          · cases q
    refine ⟨len pv q, fun p hp => ?_⟩
    obtain ⟨x2, R2⟩ := R1.pure (Pure.new (.tup vs) R1.gs hp)
    have sH : Same H1 (upd H1 p (.tup vs)) := same_new hp
    have pv2 : PVs X.K c (upd G1 p (.tup vs)) (upd H1 p (.tup vs)) vs ps PP := pv.move (same_new (none_of R1.gs hp)) fun b _ o ho => sH b o ho
    have out2 : ∀ b, b ∈ PP.flatten → F b = none ∧ upd G1 p (.tup vs) b = none ∧ b ∉ P1.flatten := fun b hb => by
      obtain ⟨a1, a2, a3⟩ := out b hb
      refine ⟨a1, ?_, a3⟩
      have ne : b ≠ p := fun e => pvs_there pv b hb (by rw [e]; exact hp)
      rw [upd_ne ne]
      exact a2
    obtain ⟨P', k, R3⟩ := Rel.setPVs R2 pv2 nd out2 q
    exact PostS.here R3 (h1.chain x2 k)
theorem ds_parT {x1 kt : Nat} {pt pt2 : Pos} (ha : PA X es (tPs X.K c W mps)) (hg : PGs X ts (gN is)) (hlen : is.length ≤ sizeLine := by decide) (hc : X.calm = true := by rfl) (hn : (assignEach ts X.env).length = is.length := by rfl) (hst : (assignEach ts X.env).findIdx? (·.1) = none := by rfl)
    (hs : swapsWithSole [.Tuple ts kt pt] (.Tuple es x1 pt2) pos.line X.env = pure false := by rfl) (hw : swappedStores [.Tuple ts kt pt] (.Tuple es x1 pt2) X.env = pure none := by rfl)
    (h1 : (assignEach [.Tuple ts kt pt] X.env).map (·.2) = [assign (.Tuple ts kt pt) X.env] := by rfl) : PS X (.Assign [.Tuple ts kt pt] (.Tuple es x1 pt2) pos) (tS X.K c W (mPar is mps)) := by
  refine PS.weak (ps_asg (pe_tup ha) (pg_tup hc hg hn hst) hs hw h1) fun D σ H h => ?_
  have h := parT_post h
  obtain ⟨F, G, P, env, R, h⟩ := h
  refine ⟨F, G, P, env, R, h.imp fun ps G' H' P' _ q vs PP pv nd out => ?_⟩
  obtain ⟨hl, q⟩ := q vs PP pv nd out
  exact ⟨by rw [hl]; exact hlen, fun p hp => ⟨p, vs, rfl, SqT.of upd_same, hl, gn_run hl (q p hp)⟩⟩
end
end L2.DL
set_option Elab.async false
set_option linter.all false
set_option maxRecDepth 100000
set_option maxHeartbeats 4000000
namespace L2.DL
open PySem PySem.Spec PyProof.Rows
def mthR (cl : Nat) (fn : Fn) (x : D) (ms : M (List D)) (e : Ev) : Res D := match x with
  | .obj n fs => if n = cl then (ms e).bnd fun ds e => callR (fn (.val (.obj n fs) :: ds.map .val)) e else .bad
  | _ => .bad
theorem ev_mth2 {cl : Nat} {fn : Fn} {o : M D} {ms : M (List D)} {e : Ev} : mMth cl fn o ms e = (o e).bnd fun x e => mthR cl fn x ms e := by
  rw [ev_mth]
  refine congrArg (Res.bnd (o e)) (funext fun x => funext fun e1 => ?_)
  cases x <;> rfl
theorem mthR_obj {cl : Nat} {fn : Fn} {fs : List D} {ms : M (List D)} {e : Ev} : mthR cl fn (.obj cl fs) ms e = (ms e).bnd fun ds e => callR (fn (.val (.obj cl fs) :: ds.map .val)) e := if_pos rfl
end L2.DL
set_option Elab.async false
set_option linter.all false
set_option maxRecDepth 100000
set_option maxHeartbeats 4000000
namespace L2.DL
open PySem PySem.Spec PyProof.Rows
/-! ### zip of three tuples -/
def Itz3 (K : PySem.W.Frag) (a b c : Addr) : It :=
  ⟨fun i H => ∃ (xs ys zs : List V) (x y u : V), SqT K H a xs ∧ SqT K H b ys ∧ SqT K H c zs ∧ xs[i]? = some x ∧ ys[i]? = some y ∧ zs[i]? = some u,
    fun i H v H' => ∃ T x y u, v = .ref T ∧ H T = none ∧ H' = upd H T (.tup [x, y, u]) ∧ (∀ xs, SqT K H a xs → xs[i]? = some x) ∧ (∀ ys, SqT K H b ys → ys[i]? = some y) ∧ ∀ zs, SqT K H c zs → zs[i]? = some u,
    fun i H => ∃ xs ys zs : List V, SqT K H a xs ∧ SqT K H b ys ∧ SqT K H c zs ∧ i ≤ xs.length ∧ i ≤ ys.length ∧ i ≤ zs.length ∧ (i = xs.length ∨ i = ys.length ∨ i = zs.length)⟩
structure Apart3 (z TI TO i1 i2 i3 a b c : Addr) : Prop where
  nd : [z, TI, TO, i1, i2, i3].Nodup
  old : ∀ x, x ∈ [a, b, c] → x ∉ [z, TI, TO, i1, i2, i3]
theorem Apart3.sep {z TI TO i1 i2 i3 a b c : Addr} (D : Apart3 z TI TO i1 i2 i3 a b c) : ZipSep3 z TI TO i1 i2 i3 [i1, a] [i2, b] [i3, c] := by
  obtain ⟨nd, old⟩ := D
  have oa := old a (by simp)
  have ob := old b (by simp)
  have oc := old c (by simp)
  simp only [List.nodup_cons, List.mem_cons, List.not_mem_nil, or_false, not_or, List.nodup_nil, not_false_eq_true, and_true] at nd oa ob oc
  obtain ⟨⟨n1, n2, n3, n4, n5⟩, ⟨n6, n7, n8, n9⟩, ⟨n10, n11, n12⟩, ⟨n13, n14⟩, n15⟩ := nd
  obtain ⟨a1, a2, a3, a4, a5, a6⟩ := oa
  obtain ⟨b1, b2, b3, b4, b5, b6⟩ := ob
  obtain ⟨c1, c2, c3, c4, c5, c6⟩ := oc
  have s1 : ∀ {x y : Addr}, ¬ x = y → ¬ y = x := fun h e => h e.symm
  constructor <;> first
    | exact List.mem_cons_self
    | assumption
    | (apply s1; assumption)
    | (simp only [List.mem_cons, List.not_mem_nil, or_false, not_or]; exact ⟨by first | assumption | (apply s1; assumption), by first | assumption | (apply s1; assumption)⟩)
theorem turn_zip3 {P : Program} {w : World} {K : PySem.W.Frag} {elts : List Expr} {kk : Nat} {tpos : Pos} {a b c z TI TO i1 i2 i3 : Addr} (D : Apart3 z TI TO i1 i2 i3 a b c) :
    Turn P w K (.Tuple elts kk tpos) (Itz3 K a b c) [z, TI, TO, i1, i2, i3] z (fun i h => IsZip h z TI TO .none ∧ IsTupOf3 h TI (.ref i1) (.ref i2) (.ref i3) ∧ (∃ x y u, IsTupOf3 h TO x y u) ∧ h.IsTupleIter i1 a i ∧ h.IsTupleIter i2 b i ∧ h.IsTupleIter i3 c i) where
  mem := by simp
  obj := fun i h st q hq => by
    obtain ⟨hz, hTI, ⟨x, y, u, hTO⟩, ⟨o1, e1, _, d1⟩, ⟨o2, e2, _, d2⟩, ⟨o3, e3, _, d3⟩⟩ := st
    have e' : q = z ∨ q = TI ∨ q = TO ∨ q = i1 ∨ q = i2 ∨ q = i3 := by simpa using hq
    rcases e' with q | q | q | q | q | q
    · rw [q]; exact ⟨_, hz, fun v q => nomatch q⟩
    · rw [q]; exact ⟨_, hTI, fun v q => nomatch q⟩
    · rw [q]; exact ⟨_, hTO, fun v q => nomatch q⟩
    · rw [q]; exact ⟨o1, e1, fun v q => by rw [d1] at q; cases q⟩
    · rw [q]; exact ⟨o2, e2, fun v q => by rw [d2] at q; cases q⟩
    · rw [q]; exact ⟨o3, e3, fun v q => by rw [d3] at q; cases q⟩
  keep := fun i h h' st k => by
    obtain ⟨hz, hTI, ⟨x, y, u, hTO⟩, h1, h2, h3⟩ := st
    exact ⟨k z (by simp) _ hz, k TI (by simp) _ hTI, ⟨x, y, u, k TO (by simp) _ hTO⟩, h1.at fun o q => k i1 (by simp) o q, h2.at fun o q => k i2 (by simp) o q, h3.at fun o q => k i3 (by simp) o q⟩
  item := by
    intro X hP hw hK hc i pins s σ H E I hf st hg
    subst hP hw hK
    have S := D.sep
    obtain ⟨hz, hTI, ⟨x0, y0, u0, hTO⟩, h1, h2, h3⟩ := st
    obtain ⟨xs, ys, zs, x, y, u, hqx, hqy, hqz, hx, hy, hu⟩ := hg
    obtain ⟨its, rv, p, _⟩ := I.tuple hqx
    obtain ⟨its2, rv2, p2, _⟩ := I.tuple hqy
    obtain ⟨its3, rv3, p3, _⟩ := I.tuple hqz
    obtain ⟨v1, hv1, r1⟩ := rv.get hx
    obtain ⟨v2, hv2, r2⟩ := rv2.get hy
    obtain ⟨v3, hv3, r3⟩ := rv3.get hu
    have hh : X.A.in1.handled = none := I.ok.hd hc
    have hzl : z < s.heap.objs.size := Heap.lt_size hz
    have D1 := Draws.tuple (prog := X.prog) (w := X.w) hh i1 a (fun e => D.old a (by simp) (by rw [e]; simp)) its.toArray
    have D2 := Draws.tuple (prog := X.prog) (w := X.w) hh i2 b (fun e => D.old b (by simp) (by rw [e]; simp)) its2.toArray
    have D3 := Draws.tuple (prog := X.prog) (w := X.w) hh i3 c (fun e => D.old c (by simp) (by rw [e]; simp)) its3.toArray
    have hT : s.TypeIs (.ref z) "zip" := ⟨_, hz, rfl⟩
    have lt1 : i < its.toArray.size := by have := (List.getElem?_eq_some_iff.mp hv1).1; simpa using this
    have lt2 : i < its2.toArray.size := by have := (List.getElem?_eq_some_iff.mp hv2).1; simpa using this
    have lt3 : i < its3.toArray.size := by have := (List.getElem?_eq_some_iff.mp hv3).1; simpa using this
    unfold pyNext
    refine wpAny_bind (wpAny_attempt (wpAny_callSpecial?_slot (name := Str.ofString "__next__") hT F.slot_zip_next
      (wpAny_call_entry F.slot_zip_next hT F.entry_zip_next
        (zipD3_next_item S D1 D2 D3 hz hTI hTO ⟨h1, p⟩ ⟨h2, p2⟩ ⟨h3, p3⟩ lt1 lt2 lt3 fun x1 x2 x3 h' tk e1 e2 e3 z' TO' s1 s2 s3 hT' hsz hk => wpAny_pure ?_) (F.args_zip_next_1 _))))
    obtain rfl : x1 = v1 := by have : some v1 = some x1 := by rw [← hv1]; simpa using e1
                               exact (Option.some.inj this).symm
    obtain rfl : x2 = v2 := by have : some v2 = some x2 := by rw [← hv2]; simpa using e2
                               exact (Option.some.inj this).symm
    obtain rfl : x3 = v3 := by have : some v3 = some x3 := by rw [← hv3]; simpa using e3
                               exact (Option.some.inj this).symm
    refine ⟨_, rfl, wpAny_letOwnedTupleGo_zip (s := { s with heap := h', toks := tk }) z' fun h'' z'' sb => ?_⟩
    have hT2 : h''.get? s.heap.objs.size = some { cls := .type "tuple", data := .seq #[x1, x2, x3] } := (sb.2 _ (Nat.ne_of_gt hzl)).trans hT'
    have new : ObjOk X.prog X.w (upd H s.heap.objs.size (.tup [x, y, u])) h'' s.heap.objs.size (.tup [x, y, u]) :=
      ⟨by show 3 ≤ sizeLine; decide, [x1, x2, x3], .cons r1 (.cons r2 (.cons r3 .nil)), ⟨_, hT2, rfl, _, rfl⟩⟩
    have I1 : Inv X pins σ (upd H s.heap.objs.size (.tup [x, y, u])) { s with heap := h'', toks := tk } :=
      I.turnedNew (t' := tk) (ch := [z, TI, TO, i1, i2, i3]) (fun c o hb q => (sb.2 c (fun q' => hb (by simp [q']))).trans (hk c o (fun q' => hb (by simp [q'])) (fun q' => hb (by simp [q'])) (fun q' => hb (by simp [q'])) (fun q' => hb (by simp [q'])) (fun q' => hb (by simp [q'])) q)) hf (Nat.le_refl _) new
    refine ⟨.ref s.heap.objs.size, _, I1, rfl, ⟨_, x, y, u, rfl, I.hok.fresh (Nat.le_refl _), rfl, fun l hl => by rw [I.tuple_inj hl hqx]; exact hx, fun l hl => by rw [I.tuple_inj hl hqy]; exact hy, fun l hl => by rw [I.tuple_inj hl hqz]; exact hu⟩, ⟨z'', ?_, ⟨x1, x2, x3, ?_⟩, ?_, ?_, ?_⟩, fun q hqm => ?_⟩
    · exact (sb.2 _ S.TIz).trans (hk _ _ S.TIz S.TITO S.TIi1 S.TIi2 S.TIi3 hTI)
    · exact (sb.2 _ S.TOz).trans TO'
    · exact s1.1.at fun o q => (sb.2 _ (Ne.symm S.zi1)).trans q
    · exact s2.1.at fun o q => (sb.2 _ (Ne.symm S.zi2)).trans q
    · exact s3.1.at fun o q => (sb.2 _ (Ne.symm S.zi3)).trans q
    · have hlt : q < s.heap.objs.size := by
        have e' : q = z ∨ q = TI ∨ q = TO ∨ q = i1 ∨ q = i2 ∨ q = i3 := by simpa using hqm
        rcases e' with q | q | q | q | q | q
        · rw [q]; exact hzl
        · rw [q]; exact Heap.lt_size hTI
        · rw [q]; exact Heap.lt_size hTO
        · rw [q]; obtain ⟨_, e1, _⟩ := h1; exact Heap.lt_size e1
        · rw [q]; obtain ⟨_, e2, _⟩ := h2; exact Heap.lt_size e2
        · rw [q]; obtain ⟨_, e3, _⟩ := h3; exact Heap.lt_size e3
      rw [upd_ne (Nat.ne_of_lt hlt)]
      exact (hf q hqm).1
  done := by
    intro X hP hw hK hc i pins s σ H E I hf st hg
    subst hP hw hK
    have S := D.sep
    obtain ⟨hz, hTI, ⟨x0, y0, u0, hTO⟩, h1, h2, h3⟩ := st
    obtain ⟨xs, ys, zs, hqx, hqy, hqz, l1, l2, l3, hend⟩ := hg
    obtain ⟨its, rv, p, _⟩ := I.tuple hqx
    obtain ⟨its2, rv2, p2, _⟩ := I.tuple hqy
    obtain ⟨its3, rv3, p3, _⟩ := I.tuple hqz
    have e1 := rv.length
    have e2 := rv2.length
    have e3 := rv3.length
    have hh : X.A.in1.handled = none := I.ok.hd hc
    have D1 := Draws.tuple (prog := X.prog) (w := X.w) hh i1 a (fun e => D.old a (by simp) (by rw [e]; simp)) its.toArray
    have D2 := Draws.tuple (prog := X.prog) (w := X.w) hh i2 b (fun e => D.old b (by simp) (by rw [e]; simp)) its2.toArray
    have D3 := Draws.tuple (prog := X.prog) (w := X.w) hh i3 c (fun e => D.old c (by simp) (by rw [e]; simp)) its3.toArray
    have hT : s.TypeIs (.ref z) "zip" := ⟨_, hz, rfl⟩
    unfold pyNext
    refine wpAny_bind (wpAny_attempt (wpAny_callSpecial?_slot (name := Str.ofString "__next__") hT F.slot_zip_next
      (wpAny_call_entry F.slot_zip_next hT F.entry_zip_next (zipD3_next_end S D1 D2 D3 hz hTI hTO ⟨h1, p⟩ ⟨h2, p2⟩ ⟨h3, p3⟩ (by simp; omega) (by simp; omega) (by simp; omega) (by simp; omega) fun h' tk e hk he => ?_) (F.args_zip_next_1 _))))
    obtain ⟨o, ho, hc⟩ := he
    refine wpAny_bind (wpAny_isInstance (T := "StopIteration") (b := true) ⟨o, ho, hc⟩ isSubtype_stop ?_)
    exact wpAny_pure ⟨rfl, I.turnedL (t' := tk) (ch := [z, TI, TO, i1, i2, i3]) (fun c o hb q =>
      hk c o (fun q' => hb (by simp [q'])) (fun q' => hb (by simp [q'])) (fun q' => hb (by simp [q'])) (fun q' => hb (by simp [q'])) (fun q' => hb (by simp [q'])) q) hf⟩
  self := fun A i s Q E st h => wpAny_pyIter_zip st.1 h
theorem walk_zip3 {K : PySem.W.Frag} {a b c : Addr} {xs ys zs : List V} {n : Nat} (hn : n = min (min xs.length ys.length) zs.length) :
    Walk (Itz3 K a b c) n (fun H => SqT K H a xs ∧ SqT K H b ys ∧ SqT K H c zs) (fun i H v H' => ∃ T x y u, v = .ref T ∧ H T = none ∧ H' = upd H T (.tup [x, y, u]) ∧ xs[i]? = some x ∧ ys[i]? = some y ∧ zs[i]? = some u) := by
  subst hn
  refine ⟨fun i _ hi q => ?_, fun _ q => ⟨xs, ys, zs, q.1, q.2.1, q.2.2, by omega, by omega, by omega, by omega⟩, fun i H v H' _ q y => ?_⟩
  · have h1 : i < xs.length := by omega
    have h2 : i < ys.length := by omega
    have h3 : i < zs.length := by omega
    exact ⟨xs, ys, zs, xs[i], ys[i], zs[i], q.1, q.2.1, q.2.2, by simp [h1], by simp [h2], by simp [h3]⟩
  · obtain ⟨T, x, y, u, h1, h2, h3, h4, h5, h6⟩ := y
    exact ⟨T, x, y, u, h1, h2, h3, h4 xs q.1, h5 ys q.2.1, h6 zs q.2.2⟩
def iZip3 (K : PySem.W.Frag) (ta : TA) : TI := fun σ H R => ta σ H fun vs H1 => ∃ a b c xs ys zs, vs = [.ref a, .ref b, .ref c] ∧ SqT K H1 a xs ∧ SqT K H1 b ys ∧ SqT K H1 c zs ∧ R (Itz3 K a b c) H1
theorem pi_zip3 {X : Cx} {e e2 e3 : Expr} {ta : TA} {p pos tpos : Pos} {elts : List Expr} {kk : Nat} (hg : Gl X "zip") (hm : X.mg "zip" = none) (ha : PA X [e, e2, e3] ta)
    (hs : starEach [e, e2, e3] X.env = (false, eval e X.env) :: starEach [e2, e3] X.env := by rfl) (hpl : (backTo pos (starEach [e2, e3] X.env)).any (·.1) = false := by rfl) :
    PI X (.Tuple elts kk tpos) (.Call (.Name "zip" p) [e, e2, e3] [] pos) (iZip3 X.K ta) := by
  refine ⟨fun pins s σ H R I h => ?_⟩
  refine Call_ (ld_blt I hg hm PyProof.Rows.boot_zip (PyProof.Rows.callWith_type1 (thn (ha.run pos pins s σ H _ I h) fun us s1 ⟨vs, H1, I1, r1, q1⟩ => ?_) hs hpl))
  obtain ⟨a, b, c, xs, ys, zs, ex, hqx, hqy, hqz, q⟩ := q1
  subst ex
  cases r1 with
  | cons r rr =>
    cases rr with
    | cons r' rr =>
      cases rr with
      | cons r'' rr =>
        cases rr
        cases r
        cases r'
        cases r''
        obtain ⟨its, rv, p1, _⟩ := I1.tuple hqx
        obtain ⟨its2, rv2, p2, _⟩ := I1.tuple hqy
        obtain ⟨its3, rv3, p3, _⟩ := I1.tuple hqz
        have la : a < s1.heap.objs.size := by obtain ⟨o, ho, _⟩ := id p1; exact Heap.lt_size ho
        have lb : b < s1.heap.objs.size := by obtain ⟨o, ho, _⟩ := id p2; exact Heap.lt_size ho
        have lc : c < s1.heap.objs.size := by obtain ⟨o, ho, _⟩ := id p3; exact Heap.lt_size ho
        refine zip_begins3 (begins_tuple a its.toArray) (begins_tuple b its2.toArray) (begins_tuple c its3.toArray) (show s1.heap.IsTuple a its.toArray from p1) (show s1.heap.IsTuple b its2.toArray from p2) (show s1.heap.IsTuple c its3.toArray from p3) fun h' hz hTI hTO h1 h2 h3 hsz hk => wpAny_pyIter_zip hz ?_
        have I2 : Inv X pins σ H1 { s1 with heap := h' } := I1.kept (t' := s1.toks) hk
        generalize hN : s1.heap.objs.size = N at *
        have ap : Apart3 (N + 5) (N + 3) (N + 4) N (N + 1) (N + 2) a b c := ⟨by simp, fun x hx => by
          simp only [List.mem_cons, List.not_mem_nil, or_false] at hx ⊢
          have hx : (x : Nat) < N := by rcases hx with rfl | rfl | rfl <;> assumption
          intro e
          have hx : @LT.lt Nat _ x N := hx
          rcases e with e | e | e | e | e | e <;> (have e : @Eq Nat x _ := e; omega)⟩
        refine ⟨N + 5, [N + 5, N + 3, N + 4, N, N + 1, N + 2], _, _, H1, rfl, I2, turn_zip3 ap, ⟨hz, hTI, ⟨_, _, _, hTO⟩, ⟨_, h1, rfl, rfl⟩, ⟨_, h2, rfl, rfl⟩, ⟨_, h3, rfl, rfl⟩⟩, fun q hqm => ?_, q⟩
        have hle : N ≤ q := by
          have e' : q = N + 5 ∨ q = N + 3 ∨ q = N + 4 ∨ q = N ∨ q = N + 1 ∨ q = N + 2 := by simpa using hqm
          show @LE.le Nat _ N q
          rcases e' with e | e | e | e | e | e <;> (have e : @Eq Nat q _ := e; omega)
        exact I1.fpOk (by rw [hN]; exact hle) (I1.hok.fresh (by rw [hN]; exact hle))
def zip3D : List D → List D → List D → List D
  | x :: xs, y :: ys, z :: zs => .tup [x, y, z] :: zip3D xs ys zs
  | _, _, _ => []
def fZip3 : List D → Option (List D)
  | [.tup xs, .tup ys, .tup zs] => some (zip3D xs ys zs)
  | _ => none
def mZip3 (ms : M (List D)) : M (List D) := M.bind ms fun ds => M.opt (fZip3 ds)
@[simp] theorem ev_zip3 {ms : M (List D)} {e : Ev} : mZip3 ms e = (ms e).bnd fun ds e => M.opt (fZip3 ds) e := rfl
theorem zip3D_len : ∀ (xs ys zs : List D), (zip3D xs ys zs).length = min (min xs.length ys.length) zs.length
  | [], _, _ => by simp [zip3D]
  | _ :: _, [], _ => by simp [zip3D]
  | _ :: _, _ :: _, [] => by simp [zip3D]
  | x :: xs, y :: ys, z :: zs => by simp only [zip3D, List.length_cons, zip3D_len xs ys zs]; omega
theorem zip3D_get : ∀ (xs ys zs : List D) (i : Nat) (x y z : D), xs[i]? = some x → ys[i]? = some y → zs[i]? = some z → (zip3D xs ys zs)[i]? = some (.tup [x, y, z])
  | [], _, _, i, _, _, _, h, _, _ => by simp at h
  | _ :: _, [], _, i, _, _, _, _, h, _ => by simp at h
  | _ :: _, _ :: _, [], i, _, _, _, _, _, h => by simp at h
  | a :: xs, b :: ys, c :: zs, 0, x, y, z, h1, h2, h3 => by simp at h1 h2 h3; subst h1 h2 h3; rfl
  | a :: xs, b :: ys, c :: zs, i + 1, x, y, z, h1, h2, h3 => by simpa [zip3D] using zip3D_get xs ys zs i x y z (by simpa using h1) (by simpa using h2) (by simpa using h3)
theorem gives_zip3 {K : PySem.W.Frag} {c : Cl} {G0 : Hp} {a b d : Addr} {vs ws us : List V} {ds es fs : List D} (h1 : SqT K G0 a vs) (h2 : SqT K G0 b ws) (h3 : SqT K G0 d us) (r1 : Reps K c G0 vs ds) (r2 : Reps K c G0 ws es) (r3 : Reps K c G0 us fs) : Gives K c G0 (Itz3 K a b d) (zip3D ds es fs) := by
  refine ⟨⟨fun H => SqT K H a vs ∧ SqT K H b ws ∧ SqT K H d us, _, walk_zip3 (by rw [zip3D_len, r1.length, r2.length, r3.length]), fun H hs => ⟨Same.seqT hs h1, Same.seqT hs h2, Same.seqT hs h3⟩, fun i H x H' G _ g1 g2 y => ?_⟩⟩
  obtain ⟨T, x1, y1, u1, e1, e2, e3, e4, e5, e6⟩ := y
  subst e1 e3
  obtain ⟨d1, f1, q1⟩ := r1.get' e4
  obtain ⟨d2, f2, q2⟩ := r2.get' e5
  obtain ⟨d3, f3, q3⟩ := r3.get' e6
  refine ⟨upd G T (.tup [x1, y1, u1]), .tup [d1, d2, d3], zip3D_get _ _ _ _ _ _ _ f1 f2 f3, Pure.new _ g2 e2, ?_⟩
  have m := g1.trans (same_new (none_of g2 e2) (o := .tup [x1, y1, u1]))
  exact .tup (SqT.of upd_same) (.cons (q1.mono m) (.cons (q2.mono m) (.cons (q3.mono m) .nil)))
theorem di_zip3 {X : Cx} {c : Cl} {W : WX} {pos p tpos : Pos} {e e2 e3 : Expr} {elts : List Expr} {kk : Nat} {ms : M (List D)} (hm : X.mg "zip" = none) (ha : PA X [e, e2, e3] (tA X.K c W ms)) (hg : Gl X "zip" := by rfl)
    (hs : starEach [e, e2, e3] X.env = (false, eval e X.env) :: starEach [e2, e3] X.env := by rfl) (hpl : (backTo pos (starEach [e2, e3] X.env)).any (·.1) = false := by rfl) :
    PI X (.Tuple elts kk tpos) (.Call (.Name "zip" p) [e, e2, e3] [] pos) (tI X.K c W (mZip3 ms)) := by
  refine PI.weak (pi_zip3 hg hm ha hs hpl) fun σ H R h => ?_
  obtain ⟨F, G, P, env, Rl, h⟩ := h
  refine ⟨F, G, P, env, Rl, (Post.bind h).imp fun ds G1 H1 P1 _ ⟨env1, R1, h1⟩ vs r => ?_⟩
  cases q : fZip3 ds with
  | none => rw [q] at h1; exact h1.elim
  | some items =>
    rw [q] at h1
    have h2 : Post X.K c W F G1 P1 σ env1 (.ok items env1) _ := h1
    unfold fZip3 at q
    split at q
    · cases q
      cases r with
      | cons a1 t1 =>
        cases t1 with
        | cons a2 t2 =>
          cases t2 with
          | cons a3 t3 =>
            cases t3
            cases a1 with
            | tup s1 r1 =>
              cases a2 with
              | tup s2 r2 =>
                cases a3 with
                | tup s3 r3 => exact ⟨_, _, _, _, _, _, rfl, Same.seqT R1.gs s1, Same.seqT R1.gs s2, Same.seqT R1.gs s3, Post.here R1 h2 _ (gives_zip3 s1 s2 s3 r1 r2 r3)⟩
    · cases q
/-! ### zip of two lists, of two tuples -/
theorem walk_zipT {K : PySem.W.Frag} {a b : Addr} {xs ys : List V} {n : Nat} (hn : n = min xs.length ys.length) : Walk (RZ.ItzT K a b) n (fun H => SqT K H a xs ∧ SqT K H b ys) (YPair (fun i => xs[i]?) (fun i => ys[i]?)) := by
  subst hn
  refine ⟨fun i _ hi q => ?_, fun _ q => ⟨xs, ys, q.1, q.2, by omega⟩, fun i H v H' _ q y => ?_⟩
  · have h1 : i < xs.length := by omega
    have h2 : i < ys.length := by omega
    exact ⟨xs, ys, xs[i], ys[i], q.1, q.2, by simp [h1], by simp [h2]⟩
  · obtain ⟨T, x, z, h1, h2, h3, h4, h5⟩ := y
    exact ⟨T, x, z, h1, h2, h3, h4 xs q.1, h5 ys q.2⟩
def zip2D : List D → List D → List D
  | x :: xs, y :: ys => .tup [x, y] :: zip2D xs ys
  | _, _ => []
def fZip2 : List D → Option (List D)
  | [.tup xs, .tup ys] => some (zip2D xs ys)
  | [x, y] => x.items.bind fun xs => y.items.map fun ys => zip2D xs ys
  | _ => none
def mZip2 (ms : M (List D)) : M (List D) := M.bind ms fun ds => M.opt (fZip2 ds)
@[simp] theorem ev_zip2 {ms : M (List D)} {e : Ev} : mZip2 ms e = (ms e).bnd fun ds e => M.opt (fZip2 ds) e := rfl
theorem zip2D_len : ∀ (xs ys : List D), (zip2D xs ys).length = min xs.length ys.length
  | [], _ => by simp [zip2D]
  | _ :: _, [] => by simp [zip2D]
  | x :: xs, y :: ys => by simp only [zip2D, List.length_cons, zip2D_len xs ys]; omega
theorem zip2D_get : ∀ (xs ys : List D) (i : Nat) (x y : D), xs[i]? = some x → ys[i]? = some y → (zip2D xs ys)[i]? = some (.tup [x, y])
  | [], _, i, _, _, h, _ => by simp at h
  | _ :: _, [], i, _, _, _, h => by simp at h
  | a :: xs, b :: ys, 0, x, y, h1, h2 => by simp at h1 h2; subst h1 h2; rfl
  | a :: xs, b :: ys, i + 1, x, y, h1, h2 => by simpa [zip2D] using zip2D_get xs ys i x y (by simpa using h1) (by simpa using h2)
theorem gives_pair {K : PySem.W.Frag} {c : Cl} {G0 : Hp} {J : It} {Gp : Hp → Prop} {vs ws : List V} {ds es : List D} (hw : Walk J (zip2D ds es).length Gp (YPair (fun i => vs[i]?) (fun i => ws[i]?))) (hG : ∀ H, Same G0 H → Gp H) (r1 : Reps K c G0 vs ds) (r2 : Reps K c G0 ws es) : Gives K c G0 J (zip2D ds es) := by
  refine ⟨⟨Gp, _, hw, hG, fun i H x H' G _ g1 g2 y => ?_⟩⟩
  obtain ⟨T, x1, y1, e1, e2, e3, e4, e5⟩ := y
  subst e1 e3
  obtain ⟨d1, f1, q1⟩ := r1.get' e4
  obtain ⟨d2, f2, q2⟩ := r2.get' e5
  refine ⟨upd G T (.tup [x1, y1]), .tup [d1, d2], zip2D_get _ _ _ _ _ f1 f2, Pure.new _ g2 e2, ?_⟩
  have m := g1.trans (same_new (none_of g2 e2) (o := .tup [x1, y1]))
  exact .tup (SqT.of upd_same) (.cons (q1.mono m) (.cons (q2.mono m) .nil))
theorem di_zip2 {X : Cx} {c : Cl} {W : WX} {pos p tpos : Pos} {e e2 : Expr} {elts : List Expr} {kk : Nat} {ms : M (List D)} (hm : X.mg "zip" = none) (ha : PA X [e, e2] (tA X.K c W ms)) (hg : Gl X "zip" := by rfl)
    (hs : starEach [e, e2] X.env = (false, eval e X.env) :: starEach [e2] X.env := by rfl) (hpl : (backTo pos (starEach [e2] X.env)).any (·.1) = false := by rfl) :
    PI X (.Tuple elts kk tpos) (.Call (.Name "zip" p) [e, e2] [] pos) (tI X.K c W (mZip2 ms)) := by
  refine PI.weak (RZ.pi_zipA hg hm ha hs hpl) fun σ H R h => ?_
  obtain ⟨F, G, P, env, Rl, h⟩ := h
  refine ⟨F, G, P, env, Rl, (Post.bind h).imp fun ds G1 H1 P1 _ ⟨env1, R1, h1⟩ vs r => ?_⟩
  cases q : fZip2 ds with
  | none => rw [q] at h1; exact h1.elim
  | some items =>
    rw [q] at h1
    have h2 : Post X.K c W F G1 P1 σ env1 (.ok items env1) _ := h1
    unfold fZip2 at q
    split at q
    · cases q
      cases r with
      | cons a1 t1 =>
        cases t1 with
        | cons a2 t2 =>
          cases t2
          cases a1 with
          | tup s1 r1 =>
            cases a2 with
            | tup s2 r2 => exact ⟨_, _, _, _, rfl, .inr ⟨Same.seqT R1.gs s1, Same.seqT R1.gs s2, Post.here R1 h2 _ (gives_pair (walk_zipT (by rw [zip2D_len, r1.length, r2.length])) (fun H hs => ⟨Same.seqT hs s1, Same.seqT hs s2⟩) r1 r2)⟩⟩
    · cases r with
      | cons a1 t1 =>
        cases t1 with
        | cons a2 t2 =>
          cases t2
          obtain ⟨xs, e1, q⟩ := Option.bind_eq_some_iff.mp q
          obtain ⟨ys, e2, q⟩ := Option.map_eq_some_iff.mp q
          subst q
          obtain ⟨l1, w1, rfl, s1, r1⟩ := items_rep (Same.refl G1) a1 e1
          obtain ⟨l2, w2, rfl, s2, r2⟩ := items_rep (Same.refl G1) a2 e2
          exact ⟨_, _, _, _, rfl, .inl ⟨R1.gs.seq s1, R1.gs.seq s2, Post.here R1 h2 _ (gives_pair (walk_zip (by rw [zip2D_len, r1.length, r2.length])) (fun H hs => ⟨hs.seq s1, hs.seq s2⟩) r1 r2)⟩⟩
    · cases q
end L2.DL
set_option Elab.async false
set_option linter.all false
set_option maxRecDepth 100000
set_option maxHeartbeats 4000000
namespace L2.DL
open PySem PySem.Spec PyProof.Rows
section
variable {X : Cx} {c : Cl} {W : WX} {pos : Pos} {a b d : Expr} {ma mb md : M D}
/-- a op b op' d, asked for its truth -/
theorem dt_chain {op op' : CmpOp} {g g' : D → D → Option D} (ho : OpD X c (compareOp op) g) (ho' : OpD X c (compareOp op') g') (ha : PE X a (tE X.K c W ma)) (hb : PE X b (tE X.K c W mb)) (hd : PE X d (tE X.K c W md))
    (hm : lastMarks [op, op'] [b, d] = false := by with_unfolding_all rfl) : PT X (.Compare a [op, op'] [b, d] pos) (tT X.K c W (mTest (mChain g g' ma mb md))) := by
  refine PT.weak (pt_chain ho ho' ha hb hd hm) fun σ H Q h => ?_
  show tChain _ _ _ _ _ σ H _
  have h := test_imp h
  obtain ⟨F, G, P, env, R, h⟩ := h
  refine ⟨F, G, P, env, R, (Post.bind h).imp fun x G1 H1 P1 _ ⟨env1, R1, h1⟩ v1 r1 => ⟨F, G1, P1, env1, R1, (Post.bind h1).imp fun y G2 H2 P2 x2 ⟨env2, R2, h2⟩ v2 r2 => ?_⟩⟩
  cases e : g x y with
  | none => rw [e] at h2; exact h2.elim
  | some z =>
    rw [e] at h2
    refine ⟨G2, x, y, z, R2.gs, ⟨R2.tb.tabs, R2.tb.ng⟩, r1.mono x2.same, r2, e, fun G3 H3 v3 p r3 => ?_⟩
    obtain ⟨x3, R3⟩ := R2.pure p
    have h2 : Post X.K c W F G2 P2 σ env2 (M.bind (M.opt z.isB) (fun k => if k = true then M.bind md fun w => M.opt (g' y w) else M.ret (.bl false)) env2) _ := h2
    cases q : z.isB with
    | none => rw [q] at h2; exact h2.elim
    | some k =>
      rw [q] at h2
      refine ⟨k, isB_rep r3 q, ?_⟩
      cases k with
      | false => exact h2 G3 H3 P2 x3 (Keep.refl _ _) R3 _ (.bl false)
      | true =>
        have h3 : Post X.K c W F G2 P2 σ env2 (M.bind md (fun w => M.opt (g' y w)) env2) _ := h2
        refine ⟨F, G3, P2, env2, R3, (Post.bind (h3.chain x3 (Keep.refl _ _))).imp fun w G4 H4 P4 x4 ⟨env4, R4, h4⟩ v4 r4 => ?_⟩
        obtain ⟨d4, e4, h4⟩ := Post.opt h4
        refine ⟨G4, y, w, d4, R4.gs, ⟨R4.tb.tabs, R4.tb.ng⟩, r2.mono (x3.same.trans x4.same), r4, e4, fun G5 H5 v5 p5 r5 => ?_⟩
        obtain ⟨x5, R5⟩ := R4.pure p5
        exact h4 G5 H5 P4 x5 (Keep.refl _ _) R5 v5 r5
end
end L2.DL
set_option Elab.async false
set_option linter.all false
set_option maxRecDepth 100000
set_option maxHeartbeats 4000000
namespace L2.DL
open PySem PySem.Spec PyProof.Rows
/-! ### < <= > >= of tuples and lists of alike things -/
def isNone : PyData → Bool
  | .none => true
  | _ => false
def dCmpD (f : PyData → PyData → Bool) (x y : D) : Option D := x.py.bind fun p => y.py.bind fun q => if (PySem.W.alike p q && !isNone p && decide (min p.depth q.depth ≤ 64)) = true then some (.bl (f p q)) else none
section
variable {X : Cx} {c : Cl}
theorem cmpD_of {op : CmpOp} {f : PyData → PyData → Bool} (hu : X.A.units + 64 < cLine)
    (h : ∀ {s : Shared} {a b : Value} {da db : PyData} {as bs : List Addr} {Q : Value → Shared → Prop} {E : Value → Shared → Prop}, Reads s.heap a da as → Reads s.heap b db bs → PySem.W.alike da db = true → da ≠ .none → X.A.units + min da.depth db.depth < cLine → Q (.bool (f da db)) s → wpAny (model X.prog X.w) X.A (compareOp op a b) Q E s) :
    OpD X c (compareOp op) (dCmpD f) := by
  intro pins s σ H x y v u Q I rx ry hh
  obtain ⟨G, dx, dy, d, hs, _, r1, r2, e, k⟩ := hh
  unfold dCmpD at e
  obtain ⟨p, e1, e⟩ := Option.bind_eq_some_iff.mp e
  obtain ⟨q, e2, e⟩ := Option.bind_eq_some_iff.mp e
  split at e
  · rename_i hc
    cases e
    rw [Bool.and_eq_true, Bool.and_eq_true] at hc
    obtain ⟨⟨h1, h2⟩, h3⟩ := hc
    have h3 := of_decide_eq_true h3
    obtain ⟨as, q1⟩ := Dp.reads I p x v (dp_rep hs r1 e1) rx
    obtain ⟨bs, q2⟩ := Dp.reads I q y u (dp_rep hs r2 e2) ry
    exact h q1 q2 h1 (fun z => by rw [z] at h2; cases h2) (by omega) ⟨.bl _, H, I, rfl, k G H _ (Pure.refl hs) (.bl _)⟩
  · cases e
def dAlt (g h : D → D → Option D) (x y : D) : Option D := match g x y with
  | some d => some d
  | none => h x y
theorem do_alt {f : Value → Value → Sem Value} {g h : D → D → Option D} (h1 : OpD X c f g) (h2 : OpD X c f h) : OpD X c f (dAlt g h) := opd_ofT fun G H x y dx dy d hs ht r1 r2 e => by
  unfold dAlt at e
  cases q : g dx dy with
  | some d' => rw [q] at e; cases e; exact ⟨_, h1, fun Q k => ⟨G, dx, dy, _, hs, ht, r1, r2, q, k⟩⟩
  | none => rw [q] at e; exact ⟨_, h2, fun Q k => ⟨G, dx, dy, d, hs, ht, r1, r2, e, k⟩⟩
abbrev dLtX : D → D → Option D := dAlt dLt (dCmpD PySem.W.dataLt)
abbrev dGtX : D → D → Option D := dAlt dGt (dCmpD fun p q => PySem.W.dataLt q p)
abbrev dLeX : D → D → Option D := dAlt dLe (dCmpD fun p q => !PySem.W.dataLt q p)
theorem do_ltX (hu : X.A.units + 64 < cLine) : OpD X c (compareOp .Lt) dLtX := do_alt do_lt (cmpD_of hu fun ra rb h hn hu hq => PySem.W.lt_data ra rb h hn hu hq)
theorem do_gtX (hu : X.A.units + 64 < cLine) : OpD X c (compareOp .Gt) dGtX := do_alt do_gt (cmpD_of hu fun ra rb h hn hu hq => PySem.W.gt_data ra rb h hn hu hq)
theorem do_leX (hu : X.A.units + 64 < cLine) : OpD X c (compareOp .LtE) dLeX := do_alt do_le (cmpD_of hu fun ra rb h hn hu hq => PySem.W.le_data ra rb h hn hu hq)
end
end L2.DL
set_option Elab.async false
set_option linter.all false
set_option maxRecDepth 100000
set_option maxHeartbeats 4000000
namespace L2.DL
open PySem PySem.Spec PyProof.Rows
/-! ### exceptions of the program whose __init__ says super().__init__('..') and keeps one value -/
/-- what is asked of the built-in class below -/
structure Bx (B newId initId : String) (bmB : List Value) : Prop where
  call : ExcBaseFacts B newId initId bmB
  store : StoreFacts B bmB "object.__setattr__" "object"
  sup : PySem.W.KxsFacts B initId
theorem bx_IndexError : Bx "IndexError" "IndexError.__new__" "IndexError.__init__" [.type "IndexError", .type "LookupError", .type "Exception", .type "BaseException", .type "object"] :=
  ⟨PySem.F.excBase_IndexError, PySem.F.store_IndexError, PySem.W.kxs_IndexError⟩
theorem bx_OverflowError : Bx "OverflowError" "OverflowError.__new__" "OverflowError.__init__" [.type "OverflowError", .type "ArithmeticError", .type "Exception", .type "BaseException", .type "object"] :=
  ⟨PySem.F.excBase_OverflowError, PySem.F.store_OverflowError, PySem.W.kxs_OverflowError⟩
theorem bx_ArithmeticError : Bx "ArithmeticError" "ArithmeticError.__new__" "ArithmeticError.__init__" [.type "ArithmeticError", .type "Exception", .type "BaseException", .type "object"] :=
  ⟨PySem.F.excBase_ArithmeticError, PySem.F.store_ArithmeticError, PySem.W.kxs_ArithmeticError⟩
theorem bx_ValueError : Bx "ValueError" "ValueError.__new__" "ValueError.__init__" [.type "ValueError", .type "Exception", .type "BaseException", .type "object"] :=
  ⟨PySem.F.excBase_ValueError, PySem.F.store_ValueError, PySem.W.kxs_ValueError⟩
theorem bx_LookupError : Bx "LookupError" "LookupError.__new__" "LookupError.__init__" [.type "LookupError", .type "Exception", .type "BaseException", .type "object"] :=
  ⟨PySem.F.excBase_LookupError, PySem.F.store_LookupError, PySem.W.kxs_LookupError⟩
/-- a dict of one entry, by its name -/
theorem ns_one {h : Heap} {dx : Addr} {f : Str} {hs : Int} {tk : Tok} {u : Value} {n : Nat} (e : h.get? dx = some (PySem.W.dictOf [⟨hs, .str f tk, u⟩] n)) : h.Ns1 dx (fun y => if y = f then some u else none) := by
  refine ⟨_, _, _, e, rfl, ?_, ?_, fun y => ?_⟩
  · intro q hq
    simp at hq
    subst hq
    exact ⟨_, _, rfl⟩
  · simp [UniqKeys]
  · unfold nsFind findBy
    by_cases hy : y = f
    · subst hy; simp [Value.isStr]
    · simp [Value.isStr, hy, Ne.symm hy]
section
open PySem.W
variable {prog : Program} {w : World} {A : Around} {K : Frag} {mg mb : Str → Option Value} {R : Result → Shared → Prop} {hp h1 : Heap} {g : Array GenState} {d : Drawn} {t : Nat} {os : OsState} {e tt C fI cc cda : Addr} {u : Value} {B newId initId : String} {bmB : List Value}
  {qual f self_ val txt : Str} {params : Arguments} {scope : Scope} {body : List Stmt} {dV kV doc pm ct oc : Value} {an od : Option Addr} {osl : Array (Option Value)} {ccl cl : Value} {cdd cld : Option Addr} {ccs csl : Array (Option Value)} {vs : Array Value} {file : Str} {tf : Tok} {cdD : ClassData} {ar : Arg}
theorem sup_init {p0 p1 p2 p3 p4 p5 p6 p7 p8 p9 : Pos} {k3 : Nat} {pl : Env → Sem Bool} (BX : Bx B newId initId bmB) (X : K.In hp) (hg : hp.Ns mainGlobals mg) (hb : hp.Ns builtinsNs mb) (hbb : ∀ x : Str, x ≠ "__name__" → mb x = bootBuiltins x) (hms : mg "super" = none) (hlim : hp.NoLimit) (room : A.depth < recursionLimit)
    (lk : K.lookup fI = some ⟨oc, od, .func (ksFn "__init__" qual params [.Expr (.Call (.Attribute (.Call (.Name "super" p0) [] [] p1) "__init__" p2) [.Constant (.str txt) k3 p3] [] p4) p5, .Assign [.Attribute (.Name self_ p6) f p7] (.Name val p8) p9] scope dV kV doc pm an (.ref cda) ct cc), osl⟩)
    (hcd : codeIn K (.ref cda) qual = true) (hbind : ∀ (s : Shared) (a b : Value), BindsTo s (ksFn "__init__" qual params [.Expr (.Call (.Attribute (.Call (.Name "super" p0) [] [] p1) "__init__" p2) [.Constant (.str txt) k3 p3] [] p4) p5, .Assign [.Attribute (.Name self_ p6) f p7] (.Name val p8) p9] scope dV kV doc pm an (.ref cda) ct cc) ⟨[a, b], []⟩ [(self_, a), (val, b)])
    (hp0 : (params.posonlyargs ++ params.args).head? = some ar) (har : ar.arg = self_) (hsv : self_ ≠ val)
    (hev : ∀ env : Env, eval (.Call (.Attribute (.Call (.Name "super" p0) [] [] p1) "__init__" p2) [.Constant (.str txt) k3 p3] [] p4) env = (do
      let ov ← attributeBase (.Call (.Name "super" p0) [] [] p1) "__init__" env (eval (.Call (.Name "super" p0) [] [] p1) env)
      standAt p2.atName
      let (f, first) ← holding [ov] (getMethod ov "__init__" (pl env))
      callWith p4 f first (backTo p4 (starEach [.Constant (.str txt) k3 p3] env)) []))
    (hcode : K.lookup cda = some ⟨ccl, cdd, .fields vs, ccs⟩) (hvs : vs[2]? = some (.str file tf)) (hfile : ((prog.main.file : Str) == file) = true)
    (hcell : K.lookup cc = some ⟨cl, cld, .cell (some (.ref C)), csl⟩) (hD : clsIn K C = some cdD) (hsub : mroIn K C (.ref C) = some true)
    (hks : scope.names.lookup ("super" : Str) = some .globalImplicit) (hkc : scope.names.lookup ("__class__" : Str) = some .free) (hka : scope.names.lookup self_ = some .local) (hkv : scope.names.lookup val = some .local) (hk : scope.kind = .function) (hco : scope.isCoroutine = false) (hgen : scope.isGenerator = false)
    (hnc : ∀ x ∈ scope.names, x.2 ≠ .cell) (hd1 : (self_ == ("__debug__" : Str)) = false) (hd2 : (val == ("__debug__" : Str)) = false)
    (htop : (prog.main.scope.names.lookup ("super" : Str)).isSome = false) (hst : nsIn K cStatics "thirdparty.any" = some none) (hm : ks_superIn K C C "__init__" = some (some (.builtin initId))) (hB : subIn K (.ref C) (.type B) = some true)
    (exI : excInitIn K C bmB newId = true) (ovC : excOver K C bmB = true) (hsa : findIn K (.ref C) "__setattr__" = some (some (.builtin "object.__setattr__"))) (htk : takerIn K C f = some none) (hh : hasDictIn K C = true)
    (k1 : ∀ b o, hp.get? b = some o → h1.get? b = some o) (hsz : hp.objs.size ≤ h1.objs.size) (en : hp.get? e = none) (he : h1.get? e = some (excObj C tt none .none))
    (hq : ∀ h2 t2 dx tk2, (∀ b o, hp.get? b = some o → h2.get? b = some o) → h2.get? e = some (excObj C t2 (some dx) .none) → hp.get? dx = none → e < dx → h2.Ns1 dx (fun y => if y = f then some u else none) → R (.ok (.ret .none)) ⟨h2, g, d, tk2, os⟩) :
    codeAny (model prog w) A (.call (.ref fI) ⟨[.ref e, u], []⟩) R ⟨h1, g, d, t, os⟩ := by
  have X1 : K.In h1 := X.keeps k1
  have hlim1 : h1.NoLimit := hlim.keeps k1
  refine ks_codeAny_call_defAt (binds := [(self_, .ref e), (val, u)]) room (X1 _ _ lk) rfl hlim1 (codeRec_of X1 hcd) rfl (hbind _ _ _) hnc ?_ (fun h₂ hns hk₁ => ?_) hco hgen hk
  · intro x hx
    simp at hx
    rcases hx with rfl | rfl
    · exact hka
    · exact hkv
  have k2 : ∀ b o, hp.get? b = some o → h₂.get? b = some o := fun b o z => hk₁ b o (k1 b o z)
  have eL : e ≠ h1.objs.size := Nat.ne_of_lt (Heap.lt_size he)
  have F0 : Fr hp h1.objs.size h₂ (fun y => ([(self_, Value.ref e), (val, u)] : List (Str × Value)).reverse.lookup y) := ⟨hns, k2, hsz⟩
  have N0 : News hp h1.objs.size h₂ [(e, excObj C tt none .none)] := fun p hp' => by
    simp at hp'
    subst hp'
    exact ⟨hk₁ _ _ he, eL, en⟩
  have mself : ([(self_, Value.ref e), (val, u)] : List (Str × Value)).reverse.lookup self_ = some (.ref e) := by
    simp [List.lookup, beq_false_of_ne hsv]
  have mval : ([(self_, Value.ref e), (val, u)] : List (Str × Value)).reverse.lookup val = some u := by
    simp [List.lookup]
  have henv : callEnv (ksFn "__init__" qual params [.Expr (.Call (.Attribute (.Call (.Name "super" p0) [] [] p1) "__init__" p2) [.Constant (.str txt) k3 p3] [] p4) p5, .Assign [.Attribute (.Name self_ p6) f p7] (.Name val p8) p9] scope dV kV doc pm an (.ref cda) ct cc) h1.objs.size fI = ksEnv qual scope h1.objs.size fI (.ref cda) cc := rfl
  rw [henv]
  refine ks_wpAt_execs_cons (ks_wpAt_Expr_any (ks_wpAt_MethodCall (he := hev _) ?_) (hi := by simp [interactive, hk]))
  obtain ⟨oD, hD1, hD2⟩ : ∃ oD, hp.get? C = some oD ∧ oD.data = .cls cdD := by
    unfold clsIn at hD
    split at hD
    · rename_i c d cd' sl ho
      cases hD
      exact ⟨_, X _ _ ho, rfl⟩
    · cases hD
  have inst : ∀ {h : Heap} {t : Addr}, h.get? e = some (excObj C t none .none) → InstAt h e (excObj C t none .none) C none := fun z => ⟨z, rfl, rfl, trivial⟩
  refine ks_wpAt_super_base (env := ksEnv qual scope h1.objs.size fI (.ref cda) cc) hks hkc (by decide) rfl (k2 _ _ (X _ _ lk)) rfl hp0 rfl (k2 _ _ (X _ _ hcode)) rfl hvs hfile htop ?_
  refine ks_loadName_global hk hks (Calls.loadGlobal_builtin (env := ksEnv qual scope h1.objs.size fI (.ref cda) cc) (hg.keeps k2) hms (hb.keeps k2) ((hbb _ (by decide +kernel)).trans (show bootBuiltins "super" = some (.type "super") from by first | rfl | kernel_rfl)) ⟨rfl, ?_⟩)
  refine wpAny_loadName_free hk hkc rfl ⟨_, k2 _ _ (X _ _ hcell), rfl⟩ ?_
  refine wpAny_loadName_local hk (by rw [har]; exact hka) F0.ns (by rw [har]; exact mself) ?_
  refine ks_wpAny_isType_cls (k2 _ _ hD1) hD2 ⟨rfl, ?_⟩
  refine ks_wpAny_call_super (k2 _ _ hD1) hD2 (hk₁ _ _ he) rfl (fun c z => by cases z) (looks_mroIn (X.keeps k2) hsub) (fun h3 so3 k3' => ?_)
  obtain ⟨F3, N3, l3⟩ := ks_newsPush (s := ⟨h₂, g, d, t, os⟩) F0 N0 rfl so3 k3'
  have i3 := inst (N3 (e, excObj C tt none .none) (.tail _ (.head _))).1
  refine kxs_method BX.sup F3 X N3 (.head _) i3 hst hm hB (by decide) (fun q h4 F4 N4 l4 => ?_)
  refine kxs_callWith1 N4 (.head _) (Calls.spliced_cons (wpAny_Constant_str (k := k3) (pos := p3) (Calls.spliced_nil ⟨kxs_at N4 (.head _), ?_⟩)))
  have ne4 : q ≠ e := fun z => by
    have := l4 (e, excObj C tt none .none) (.tail _ (.head _))
    rw [z] at this
    exact absurd this (Nat.lt_irrefl _)
  have nes : h₂.objs.size ≠ e := fun z => by
    have := l3 (e, excObj C tt none .none) (.head _)
    rw [← z] at this
    exact absurd this (Nat.lt_irrefl _)
  refine kxs_call F4 X N4 BX.call exI (.head _) (.tail ne4 (.tail nes (.head (by simp)))) (by simp [sizeLine_eq]) (fun t5 h5 F5 N5 l5 => ?_)
  dsimp only
  refine ks_wpAt_execs_cons (ks_wpAt_Assign_Attr (wpAt_of_wpAny ?_))
  refine wpAny_Name (wpAny_loadName_local hk hkv F5.ns mval ?_) hd2
  refine wpAny_Name (wpAny_loadName_local hk hka F5.ns mself ?_) hd1
  have ne5 : t5 ≠ e := fun z => by
    have := l5 (e, excObj C tt none .none) (.tail _ (.tail _ (.head _)))
    rw [z] at this
    exact absurd this (Nat.lt_irrefl _)
  refine set_exc0 BX.store F5 X N5 (.tail _ (.tail _ (.tail _ (.head _)))) hsa ovC htk hh rfl (.tail ne5 (.tail ne4 (.tail nes (.head (by simp))))) (by simp [putL]) (fun dx h6 F6 N6 l6 => ?_)
  refine wpAt_of_wpAny (wpAny_execs_nil ?_)
  exact hq _ t5 dx _ F6.keep (N6 (e, excObj C t5 (some dx) .none) (.tail _ (.tail _ (.tail _ (.tail _ (.head _)))))).1 (N6 _ (.head _)).2.2 (l6 (e, excObj C t5 none .none) (.tail _ (.tail _ (.tail _ (.head _))))) (ns_one (N6 _ (.head _)).1)
end
/-! ### a try of several clauses, each with or without a name -/
/-- a clause: its class, the slot of its name, its suite's reading -/
abbrev Clause := Value × Option Nat × (Addr → Value → Option Addr → TS)
/-- the ends of a suite whose name in slot j is gone behind it -/
def _root_.L2.Ends.off (D : Ends) : Option Nat → Ends
  | none => D
  | some j => { nx := fun τ G => D.nx (τ.set j none) G, rt := D.rt, bk := fun τ G => D.bk (τ.set j none) G, ct := fun τ G => D.ct (τ.set j none) G }
def put? (τ : St) (a : Addr) : Option Nat → St
  | none => τ
  | some j => τ.set j (some (.ref a))
def wClauses (K : PySem.W.Frag) (Wo : WX) (D : Ends) : List Clause → WX
  | [] => Wo
  | cl :: more => fun cv dd τ G => ∃ hit, PySem.W.exmOne K cv cl.1 = some hit ∧ (hit = true → ∀ a, G a = none → cl.2.2 a cv dd (D.off cl.2.1) (put? τ a cl.2.1) G) ∧ (hit = false → wClauses K Wo D more cv dd τ G)
/-- where the name of a clause lies -/
def NameAt (X : Cx) (nm : Option Str) : Option Nat → Prop
  | none => nm = none
  | some j => ∃ y, nm = some y ∧ X.N.Nodup ∧ X.N[j]? = some y ∧ X.env.kindOf y = some .local
inductive ClausesOk (X : Cx) : List ExceptHandler → List Clause → Prop
  | nil : ClausesOk X [] []
  | cons {x : Str} {cv : Value} {j : Option Nat} {nm : Option Str} {ts : Addr → Value → Option Addr → TS} {st : Stmt} {sts : List Stmt} {p q : Pos} {hs : List ExceptHandler} {l : List Clause} (known : Names X x cv) (named : NameAt X nm j)
      (suite : ∀ (a : Addr) (o : Obj) (cls : Value) (dd : Option Addr) (pn : List (Addr × Obj)), Zc cls dd o → (∃ vs, o.data = .fields vs) → PSs (X.suite a ((a, o) :: pn)) (st :: sts) (ts a cls dd)) (more : ClausesOk X hs l) :
      ClausesOk X (.ExceptHandler (some (.Name x p)) nm (st :: sts) q :: hs) ((cv, j, ts) :: l)
theorem ps_try_clauses {X : Cx} {body : List Stmt} {h₁ : ExceptHandler} {hs : List ExceptHandler} {l : List Clause} {pos : Pos} {tb : WX → TS} {Wo : WX} (stk : X.stack = X.env :: X.outer) (frm : X.env.frame = some X.env.locals) (tk : Takes X Wo)
    (hbody : ∀ (W' : WX) (pn : List (Addr × Obj)) (xe : Value → Shared → Prop), Takes (X.tr pn xe) W' → PassesOwn (model X.prog X.w) X.A X.env xe → PSs (X.tr pn xe) body (tb W'))
    (hcl : ClausesOk X (h₁ :: hs) l) : PS X (.Try body (h₁ :: hs) [] [] pos) (fun D τ G => tb (wClauses X.K Wo D l) D τ G) := by
  constructor
  intro pins s τ G D I hread
  have XO := I.ok
  have fr2 : X.A.frames = some (X.env :: X.outer) := by rw [XO.frames, stk]
  apply wpAny_Try_except
  have run := (hbody (wClauses X.K Wo D l) (X.pn ++ pins) (fun ev s₁ => wpAny (model X.prog X.w) X.A (noteFrame ev X.env)
      (fun _ s₂ => wpAny (model X.prog X.w) X.A (setFlight ev none) (fun _ s₃ => wpAny (model X.prog X.w) X.A (handleBy ev X.env (h₁ :: hs)) (SP X pins D) X.xe s₃) X.xe s₂) X.xe s₁)
    (fun uv sv raised => by
      obtain ⟨a, B, sI, pins2, τ2, G2, cv, dd, rfl, J2, nb, up, sky, nG, os, ag, wish⟩ := raised
      have J := J2.ofTry XO
      have sky2 : Sky B (X.env :: X.outer) a (Zc cv dd) X.env.locals sv.heap := by rw [← stk]; exact sky
      refine Sky.land Zc.steady fr2 frm sky2 fun h3 held up3 => ?_
      have J3 : Inv X pins τ2 G2 { sv with heap := h3 } := J.landed nb held.1 (up.trans up3) os ag
      obtain ⟨o3, vs3, at3, z3, d3⟩ := held.there
      have apart : ∀ {h : Heap} {o : Obj} {vs : Array Value}, h.FunFrames B (X.env :: X.outer) → h.get? a = some o → o.data = .fields vs → a ∉ frs (X.env :: X.outer) := by
        intro h o vs ff g1 g2 hm
        obtain ⟨_, o2, g3, nf⟩ := ff.mem hm
        rw [g1] at g3
        injection g3 with g3
        subst g3
        exact nf _ g2
      have away := apart held.2.2.1 at3 d3
      have nLoc : a ≠ X.env.locals := by
        intro z
        exact away (List.mem_filterMap.mpr ⟨X.env, List.mem_cons_self, by rw [frm, z]⟩)
      have nFs : a ∉ X.fs := by
        intro hm
        obtain ⟨en, hen, q⟩ := List.mem_filterMap.mp hm
        exact away (List.mem_filterMap.mpr ⟨en, List.mem_cons_of_mem _ hen, q⟩)
      have S3 := J3.suite at3 d3 nG nLoc nFs
      have walk : ∀ {hs' : List ExceptHandler} {l' : List Clause}, ClausesOk X hs' l' → wClauses X.K Wo D l' cv dd τ2 G2 → wpAny (model X.prog X.w) X.A (handleBy (.ref a) X.env hs') (SP X pins D) X.xe { sv with heap := h3 } := by
        intro hs' l' ok
        induction ok with
        | nil =>
          intro wish
          apply wpAny_handleBy_nil
          obtain ⟨r1, r2, r3, o4, vs4, T, oT, ts4, g4, zz, dd4, ix, hT⟩ := id held
          unfold PySem.passOn
          refine wpAny_bind (wpAny_field g4 dd4 ix ?_)
          rw [if_neg (show ¬ ((Value.ref T == Value.none) = true) from by simp)]
          have out : wpAny (model X.prog X.w) X.A (setFlight (.ref a) X.env.frame) (fun _ s4 => wpAny (model X.prog X.w) X.A (throw (.ref a) : Sem Flow) (SP X pins D) X.xe s4) X.xe { sv with heap := h3 } := by
            rw [frm]
            exact HandSPX.setFlight_upZ held fun h4 fly up4 => wpAny_throw (tk _ _ ⟨a, B, sI, pins, τ2, G2, cv, dd, rfl, J, nb, (up.trans up3).trans up4, .inr (.inr (by rw [stk]; exact fly)), nG, os, ag, wish⟩)
          first
            | exact wpAny_bind (wpAny_pure (wpAny_bind out))
            | exact wpAny_bind out
        | @cons x cv' j nm ts st sts p q hs2 l2 known named suite more ih =>
          intro wish
          obtain ⟨hit, e1, yes, no⟩ := wish
          refine wpAny_handleBy_cons (codeAny_handlers_test ?_) (by intro z; cases z)
          have LT : PySem.W.Looks (model X.prog X.w) h3 (typeOf (.ref a)) cv := fun A Q E s k q => wpAny_typeOf_ref (k _ _ at3) (by rw [z3.1]; exact q)
          have LM := PySem.W.exm_one (M := model X.prog X.w) J3.kIn LT e1
          have look : ∀ {Q E : Value → Shared → Prop}, Q cv' { sv with heap := h3 } → wpAny (model X.prog X.w) (X.A.mark (some (.ref a))) (eval (.Name x p) X.env) Q E { sv with heap := h3 } := by
            intro Q E hQ
            obtain ⟨hg, nodbg, m1 | ⟨m1, m2, m3⟩⟩ := known
            · exact ld_glob (X := X.suite a ((a, o3) :: (X.pn ++ pins))) S3 hg m1 hQ nodbg
            · exact ld_blt (X := X.suite a ((a, o3) :: (X.pn ++ pins))) S3 hg m1 m2 hQ m3 nodbg
          refine look (LM.here ?_)
          cases hit with
          | false => exact ih (no rfl)
          | true =>
            cases j with
            | none =>
              cases named
              refine codeAny_handlers_suite (HandSPX.lands_againZ held fun h4 fly4 up4 => ?_)
              have J4 : Inv X pins τ2 G2 { sv with heap := h4 } := J.landed nb fly4.1 ((up.trans up3).trans up4) os ag
              obtain ⟨o4, vs4, at4, z4, d4⟩ := fly4.there
              refine wpAny_mono ((suite a o4 cv dd (X.pn ++ pins) z4 ⟨_, d4⟩).run [] _ _ G2 _ (J4.suite at4 d4 nG nLoc nFs) (yes rfl a nG)) (fun fl s6 done => ?_) (fun _ _ z => z.elim)
              cases fl with
              | ret u =>
                obtain ⟨v6, τ6, G6, S6, r6, q6⟩ := done
                exact ⟨_, _, _, S6.unsuite XO, r6, q6⟩
              | next =>
                obtain ⟨τ6, G6, S6, q6⟩ := done
                exact ⟨_, _, S6.unsuite XO, q6⟩
              | brk =>
                obtain ⟨τ6, G6, S6, q6⟩ := done
                exact ⟨_, _, S6.unsuite XO, q6⟩
              | cont =>
                obtain ⟨τ6, G6, S6, q6⟩ := done
                exact ⟨_, _, S6.unsuite XO, q6⟩
            | some j =>
              obtain ⟨y, rfl, nod, jy, loc⟩ := named
              refine codeAny_handlers_suite_as (HandSPX.lands_againZ held fun h4 fly4 up4 => ?_)
              have J4 : Inv X pins τ2 G2 { sv with heap := h4 } := J.landed nb fly4.1 ((up.trans up3).trans up4) os ag
              obtain ⟨o4, vs4, at4, z4, d4⟩ := fly4.there
              refine store_ok (X := X.suite a ((a, o4) :: (X.pn ++ pins))) (v := .ref a) (J4.suite at4 d4 nG nLoc nFs) nod jy (.inl loc) rfl (fun s5 S5 => ?_) (.inr loc)
              refine wpAny_mono ((suite a o4 cv dd (X.pn ++ pins) z4 ⟨_, d4⟩).run [] s5 _ G2 _ S5 (yes rfl a nG)) (fun fl s6 done => ?_) (fun _ _ z => z.elim)
              have gone : ∀ {τ6 : St} {G6 : Hp} {Q : Shared → Prop}, Inv (X.suite a ((a, o4) :: (X.pn ++ pins))) [] τ6 G6 s6 → (∀ s7, Inv X pins (τ6.set j none) G6 s7 → Q s7) →
                  wpAny (model X.prog X.w) X.A (do bindName X.env y .none; unbindBehindTheSuite X.env y q) (fun _ s7 => Q s7) X.xe s6 := fun S6 hQ => gone_ok (S6.unsuite XO) nod jy loc hQ
              cases fl with
              | ret u =>
                obtain ⟨v6, τ6, G6, S6, r6, q6⟩ := done
                exact gone S6 fun s7 J7 => ⟨_, _, _, J7, r6, q6⟩
              | next =>
                obtain ⟨τ6, G6, S6, q6⟩ := done
                exact gone S6 fun s7 J7 => ⟨_, _, J7, q6⟩
              | brk =>
                obtain ⟨τ6, G6, S6, q6⟩ := done
                exact gone S6 fun s7 J7 => ⟨_, _, J7, q6⟩
              | cont =>
                obtain ⟨τ6, G6, S6, q6⟩ := done
                exact gone S6 fun s7 J7 => ⟨_, _, J7, q6⟩
      exact walk hcl wish)
    PassesOwn.looking).run [] s τ G D (I.toTry _) hread
  refine wpAny_mono run (fun fl s1 done => ?_) (fun _ _ z => z)
  cases fl with
  | next =>
    obtain ⟨τ', G', J', q⟩ := done
    exact wpAny_execs_nil ⟨τ', G', J'.ofTry XO, q⟩
  | brk =>
    obtain ⟨τ', G', J', q⟩ := done
    exact ⟨τ', G', J'.ofTry XO, q⟩
  | cont =>
    obtain ⟨τ', G', J', q⟩ := done
    exact ⟨τ', G', J'.ofTry XO, q⟩
  | ret u =>
    obtain ⟨v, τ', G', J', r, q⟩ := done
    exact ⟨v, τ', G', J'.ofTry XO, r, q⟩
/-! ### C(v), C such an exception class -/
/-- what stands in the text of __init__ -/
inductive SupF (P : Program) (K : PySem.W.Frag) (C : Addr) (f : Str) (initId B : String) (fI : Addr) : Prop
  | mk {cc cda : Addr} {qual self_ val txt : Str} {params : Arguments} {scope : Scope} {dV kV doc pm ct oc : Value} {an od : Option Addr} {osl : Array (Option Value)} {ccl cl : Value} {cdd cld : Option Addr} {ccs csl : Array (Option Value)} {vs : Array Value} {file : Str} {tf : Tok} {ar : Arg}
      {p0 p1 p2 p3 p4 p5 p6 p7 p8 p9 : Pos} {k3 : Nat} {pl : Env → Sem Bool}
      (lk : K.lookup fI = some ⟨oc, od, .func (PySem.W.ksFn "__init__" qual params [.Expr (.Call (.Attribute (.Call (.Name "super" p0) [] [] p1) "__init__" p2) [.Constant (.str txt) k3 p3] [] p4) p5, .Assign [.Attribute (.Name self_ p6) f p7] (.Name val p8) p9] scope dV kV doc pm an (.ref cda) ct cc), osl⟩)
      (hcd : PySem.W.codeIn K (.ref cda) qual = true)
      (hbind : ∀ (s : Shared) (a b : Value), BindsTo s (PySem.W.ksFn "__init__" qual params [.Expr (.Call (.Attribute (.Call (.Name "super" p0) [] [] p1) "__init__" p2) [.Constant (.str txt) k3 p3] [] p4) p5, .Assign [.Attribute (.Name self_ p6) f p7] (.Name val p8) p9] scope dV kV doc pm an (.ref cda) ct cc) ⟨[a, b], []⟩ [(self_, a), (val, b)])
      (hp0 : (params.posonlyargs ++ params.args).head? = some ar) (har : ar.arg = self_) (hsv : self_ ≠ val)
      (hev : ∀ env : Env, eval (.Call (.Attribute (.Call (.Name "super" p0) [] [] p1) "__init__" p2) [.Constant (.str txt) k3 p3] [] p4) env = (do
        let ov ← attributeBase (.Call (.Name "super" p0) [] [] p1) "__init__" env (eval (.Call (.Name "super" p0) [] [] p1) env)
        standAt p2.atName
        let (f, first) ← holding [ov] (getMethod ov "__init__" (pl env))
        callWith p4 f first (backTo p4 (starEach [.Constant (.str txt) k3 p3] env)) []))
      (hcode : K.lookup cda = some ⟨ccl, cdd, .fields vs, ccs⟩) (hvs : vs[2]? = some (.str file tf)) (hfile : ((P.main.file : Str) == file) = true)
      (hcell : K.lookup cc = some ⟨cl, cld, .cell (some (.ref C)), csl⟩)
      (hks : scope.names.lookup ("super" : Str) = some .globalImplicit) (hkc : scope.names.lookup ("__class__" : Str) = some .free) (hka : scope.names.lookup self_ = some .local) (hkv : scope.names.lookup val = some .local) (hk : scope.kind = .function) (hco : scope.isCoroutine = false) (hgen : scope.isGenerator = false)
      (hnc : ∀ x ∈ scope.names, x.2 ≠ .cell) (hd1 : (self_ == ("__debug__" : Str)) = false) (hd2 : (val == ("__debug__" : Str)) = false) : SupF P K C f initId B fI
/-- .. and of the class -/
structure SupC (P : Program) (K : PySem.W.Frag) (mg : Str → Option Value) (x : Str) (C : Addr) (f : Str) : Prop where
  gC : mg x = some (.ref C)
  kC : PySem.W.keepIn K (.ref C) = true
  exC : PySem.W.subIn K (.ref C) (.type "BaseException") = some true
  tyC : PySem.W.typeIn K (.ref C) = some (.type "type")
  hms : mg "super" = none
  htop : (P.main.scope.names.lookup ("super" : Str)).isSome = false
  hst : PySem.W.nsIn K cStatics "thirdparty.any" = some none
  cd : ∃ cdD, PySem.W.clsIn K C = some cdD
  hsub : PySem.W.mroIn K C (.ref C) = some true
  hsa : PySem.W.findIn K (.ref C) "__setattr__" = some (some (.builtin "object.__setattr__"))
  htk : PySem.W.takerIn K C f = some none
  hh : PySem.W.hasDictIn K C = true
  own : ∃ (B newId initId : String) (bmB : List Value) (fI : Addr), Bx B newId initId bmB ∧ PySem.W.findIn K (.ref C) "__init__" = some (some (.ref fI)) ∧ PySem.W.isFn K (.ref fI) = true ∧ PySem.W.ks_superIn K C C "__init__" = some (some (.builtin initId)) ∧
    PySem.W.subIn K (.ref C) (.type B) = some true ∧ PySem.W.excInitIn K C bmB newId = true ∧ PySem.W.excOver K C bmB = true ∧ SupF P K C f initId B fI
section
open PySem.W
variable {X : Cx} {x f : Str} {C : Addr} {e : Expr} {te : TE} {p pos : Pos} {k : Nat}
theorem relO_one {f : Str} {v : V} {u : Value} (r : RelV v u) : ∀ y, RelO (([(f, v)] : List (Str × V)).lookup y) (if y = f then some u else none) := fun y => by
  by_cases h : y = f
  · subst h
    simp only [List.lookup, beq_self_eq_true, if_true]
    exact r
  · have : (y == f) = false := by simpa using h
    rw [if_neg h]
    simp only [List.lookup, this]
    exact True.intro
theorem pmk_sup (S : SupC X.prog X.K X.mg x C f) (hr : Room (k + 1) X.A) (hg : Gl X x) (he : PE X e te) (hdb : (x == ("__debug__" : Str)) = false := by decide) (hs : starEach [e] X.env = (false, eval e X.env) :: starEach [] X.env := by rfl) :
    PMk X (.Call (.Name x p) [e] [] pos) (fun σ H Q => te σ H fun v H1 => ∀ d, H1 d = none → Q (.ref C) (some d) (upd H1 d (.xd [(f, v)]))) := by
  intro pins s σ H Q I h
  refine wpAny_Call_Name_kw (ld_glob I hg S.gC ?_ hdb)
  refine callWith_K (h₀ := X.base) I.ok.mod.kin S.kC ?_ hs (by rfl)
  rw [hs]
  show wpAny _ _ (spliced ((false, eval e X.env) :: backTo pos (starEach [] X.env))) _ _ s
  refine Calls.spliced_cons (thn (he.run pins s σ H _ I h) fun u s1 ⟨v, H1, I1, r1, q1⟩ => ?_)
  refine Calls.spliced_nil ⟨I1.kIn, ?_⟩
  show wpAny _ _ (call (.ref C) [u]) _ _ _
  obtain ⟨B, newId, initId, bmB, fI, BX, hi, isf, hsup, hB, exI, ovC, SF⟩ := S.own
  obtain ⟨cdD, hD⟩ := S.cd
  obtain ⟨mb, hmb, hbb⟩ := I1.ok.mod.blt
  have X1 : X.K.In s1.heap := I1.kIn
  obtain ⟨nm, N', qn, bs, bm, hdct, sn, sub, ab, col, dd, k0, k1, k2, k3, k5, hC, hT⟩ := excInit_of X1 exI
  obtain ⟨oI, hoI, hcI⟩ : ∃ oI, s1.heap.get? fI = some oI ∧ oI.cls = .type "function" := by
    obtain ⟨o, ho, hc⟩ := Option.map_eq_some_iff.mp (show (X.K.lookup fI).map (·.cls) = some (.type "function") from beq_iff_eq.mp isf)
    exact ⟨o, X1 _ _ ho, hc⟩
  have hi' : Looks (model X.prog X.w) s1.heap (typeLookup (.ref C) "__init__") (some (.ref fI)) := looks_findIn X1 hi
  have bk := I1.bk
  have nl := I1.nolimit
  have hok1 := I1.hok
  obtain ⟨hp, g, d, tk, os⟩ := s1
  have up1 : ∀ b o, hp.get? b = some o → ((hp.push (kdv_tup [u])).push (PX.excO C hp.objs.size)).get? b = some o := fun b o z => Heap.get?_push_of_some _ (Heap.get?_push_of_some _ z)
  have he1 : ((hp.push (kdv_tup [u])).push (PX.excO C hp.objs.size)).get? (hp.objs.size + 1) = some (excObj C hp.objs.size none .none) := by heap_get
  have en : hp.get? (hp.objs.size + 1) = none := by
    cases z : hp.get? (hp.objs.size + 1) with
    | none => rfl
    | some o => exact absurd (Heap.lt_size z) (by show ¬ (hp.objs.size + 1 < hp.objs.size); omega)
  have gl : hp.Ns mainGlobals X.mg := I1.ok.mod.glob.keeps bk
  have bl : hp.Ns builtinsNs mb := hmb.keeps bk
  cases SF with
  | mk lk hcd hbind hp0 har hsv hev hcode hvs hfile hcell hks hkc hka hkv hk hco hgen hnc hd1 hd2 =>
  refine wpAny_call (PX.call_own BX.call hT hC hi' (fun self => exc_bind hoI hcI self) (by simp [sizeLine_eq]) ?_)
  refine sup_init BX X1 gl bl hbb S.hms nl (hr.make C [u] []).depth lk hcd hbind hp0 har hsv hev hcode hvs hfile hcell hD S.hsub hks hkc hka hkv hk hco hgen hnc hd1 hd2 S.htop S.hst hsup hB exI ovC S.hsa S.htk S.hh up1 ?_ en he1
    (fun h2 t2 dx tk2 keep hx fresh lt ns => ?_)
  · simp [Heap.size_push]
    omega
  · refine ⟨rfl, ?_⟩
    obtain ⟨G, g1, g2⟩ := restrict h2 fun b => decide (b ≠ hp.objs.size + 1)
    have gk : ∀ b, b ≠ hp.objs.size + 1 → G.get? b = h2.get? b := fun b hb => g1 b (decide_eq_true hb)
    have ge : G.get? (hp.objs.size + 1) = none := g2 _ (by simp)
    have kG : ∀ b o, hp.get? b = some o → G.get? b = some o := fun b o z => (gk b (fun y => by rw [y, en] at z; cases z)).trans (keep b o z)
    have dxl : hp.objs.size ≤ dx := Nat.le_trans (Nat.le_succ _) (Nat.le_of_lt lt)
    have ne : dx ≠ hp.objs.size + 1 := Nat.ne_of_gt lt
    have nsG : G.Ns1 dx (fun y => if y = f then some u else none) := ns.at fun o z => (gk dx ne).trans z
    have J := I1.laid (a := dx) (o := .xd [(f, v)]) (t' := tk2) kG dxl ⟨_, nsG, relO_one r1⟩
    have na : H1 (hp.objs.size + 1) = none := hok1.fresh (Nat.le_succ _)
    exact ⟨hp.objs.size + 1, _, _, ⟨G, g, d, tk2, os⟩, _, .ref C, some dx, rfl, J, (fun b o z => by
      by_cases hb : b = hp.objs.size + 1
      · rw [hb, ge] at z; cases z
      · exact (gk b hb).symm.trans z), ge, hx, ⟨rfl, rfl⟩, rfl, rfl, (by rw [upd_ne (Ne.symm ne)]; exact na), rfl, I1.bare, raises_own S.exC S.tyC, q1 dx (hok1.fresh dxl)⟩
end
end L2.DL
set_option Elab.async false
set_option linter.all false
set_option maxRecDepth 100000
set_option maxHeartbeats 4000000
namespace L2.DL
open PySem PySem.Spec PyProof.Rows
/-! ### raise, by data -/
def mRaise (n : Nat) (m : M D) : MS := M.bind m fun d env => .exc (.own n (some d)) env
def mRaise0 (n : Nat) : MS := fun env => .exc (.own n none) env
/-- a class without __init__ of its own -/
structure OwnX (K : PySem.W.Frag) (mg : Str → Option Value) (x : Str) (C : Addr) : Prop where
  gC : mg x = some (.ref C)
  kC : PySem.W.keepIn K (.ref C) = true
  exC : PySem.W.subIn K (.ref C) (.type "BaseException") = some true
  tyC : PySem.W.typeIn K (.ref C) = some (.type "type")
  own : ∃ (B newId initId : String) (bmB : List Value), ExcBaseFacts B newId initId bmB ∧ PySem.W.excIn K C bmB newId = true
section
variable {X : Cx} {c : Cl} {W : WX} {pos p pos' p2 : Pos} {x t : Str} {e : Expr} {m : M D} {n k j : Nat}
theorem ds_raise (S : SupC X.prog X.K X.mg x (c.cls n) (c.xf n)) (tk : Takes X W) (hr : RoomG (k + 1) X.A) (he : PE X e (tE X.K c W m)) (hc : X.calm = true := by rfl) (hg : Gl X x := by rfl) (hdb : (x == ("__debug__" : Str)) = false := by decide)
    (hs : starEach [e] X.env = (false, eval e X.env) :: starEach [] X.env := by rfl) : PS X (.Raise (some (.Call (.Name x p) [e] [] pos)) none pos') (tS X.K c W (mRaise n m)) := by
  refine PS.weak (ps_raise hc tk (pmk_sup S hr.room hg he hdb hs)) fun D σ H h => ?_
  obtain ⟨F, G, P, env, R, h⟩ := h
  refine ⟨F, G, P, env, R, (Post.bindS h).imp fun d G1 H1 P1 _ ⟨env1, R1, h1⟩ v r a n0 => ?_⟩
  obtain ⟨x1, R2⟩ := R1.pure (G' := G1) (H' := upd H1 a (.xd [(c.xf n, v)])) ⟨Same.refl _, Same.ext (same_new n0), R1.gs.trans (same_new n0), fun _ _ _ _ q => q, fun t => t.same (same_new n0), id⟩
  exact h1 _ _ P1 σ _ _ x1 (Keep.refl _ _) R2 (.own1 upd_same r)
theorem ds_raise0 (S : OwnX X.K X.mg x (c.cls n)) (tk : Takes X W) (hc : X.calm = true := by rfl) (hg : Gl X x := by rfl) (hdb : (x == ("__debug__" : Str)) = false := by decide) :
    PS X (.Raise (some (.Call (.Name x p) [.Constant (.str t) j p2] [] pos)) none pos') (tS X.K c W (mRaise0 n)) := by
  obtain ⟨B, newId, initId, bmB, F, q⟩ := S.own
  refine PS.weak (ps_raise hc tk (pmk_own F q S.gC S.kC (raises_own S.exC S.tyC) hg hdb)) fun D σ H h => ?_
  obtain ⟨F, G, P, env, R, h⟩ := h
  exact h G H P σ _ _ (Ext.refl _ _) (Keep.refl _ _) R .own0
end
/-! ### the suites of a try: what a suite returns, by what the exception keeps -/
abbrev Sv := Nat → Option D → Option D
abbrev Svs := Nat → Option D → Option (List D)
/-- the exception in hand: a, its class, its dict; what it keeps -/
def xHere (c : Cl) (K : PySem.W.Frag) (cv : Value) (dd : Option Addr) (G H : Hp) (n : Nat) (od : Option D) : Prop :=
  cv = .ref (c.cls n) ∧ ∀ d, od = some d → ∃ dx v, dd = some dx ∧ H dx = some (.xd [(c.xf n, v)]) ∧ Rep K c G v d
def tX (K : PySem.W.Frag) (c : Cl) (i : Option Nat) (a : Addr) (cv : Value) (dd : Option Addr) (sv : Sv) : TE := fun σ H Q => (∀ j, i = some j → σ[j]? = some (some (.ref a))) ∧ ∃ G n od w, Same G H ∧ (Tbs c G H ∧ NoT G) ∧ xHere c K cv dd G H n od ∧ sv n od = some w ∧ ∀ G' H' v, Pure c H G H' G' → Rep K c G' v w → Q v H'
def tXA (K : PySem.W.Frag) (c : Cl) (i : Option Nat) (a : Addr) (cv : Value) (dd : Option Addr) (sv : Nat → Option D → Option (List D)) : TA := fun σ H Q => (∀ j, i = some j → σ[j]? = some (some (.ref a))) ∧ ∃ G n od w, Same G H ∧ (Tbs c G H ∧ NoT G) ∧ xHere c K cv dd G H n od ∧ sv n od = some w ∧ ∀ G' H' v, Pure c H G H' G' → Reps K c G' v w → Q v H'
theorem xHere.mono {c : Cl} {K : PySem.W.Frag} {cv : Value} {dd : Option Addr} {G H G' H' : Hp} {n : Nat} {od : Option D} (h : xHere c K cv dd G H n od) (g : Same G G') (s : LamX.ExtN H H') : xHere c K cv dd G' H' n od :=
  ⟨h.1, fun d e => by
    obtain ⟨dx, v, h1, h2, h3⟩ := h.2 d e
    exact ⟨dx, v, h1, s _ _ h2 (fun _ z => nomatch z), h3.mono g⟩⟩
theorem Pure.trans {c : Cl} {H G H1 G1 H2 G2 : Hp} (p : Pure c H G H1 G1) (q : Pure c H1 G1 H2 G2) : Pure c H G H2 G2 :=
  ⟨p.same.trans q.same, p.hs.trans q.hs, q.gs, fun b o h1 h2 h3 => q.fresh b o (p.hs b o h1 h2) h2 (p.fresh b o h1 h2 h3), fun t => q.tabs (p.tabs t), fun n => q.ng (p.ng n)⟩
section
variable {X : Cx} {c : Cl} {i : Option Nat} {a : Addr} {cv : Value} {dd : Option Addr} {o : Obj} {pn : List (Addr × Obj)} {pos pp : Pos} {e : Expr} {es : List Expr}
/-- e.f -/
theorem sx_field {n j : Nat} {y : Str} (T : XfC X.K (c.cls n)) (hno : PySem.W.findIn X.K (.ref (c.cls n)) (c.xf n) = some none) (hz : Zc cv dd o) (hf : ∃ vs, o.data = .fields vs) (hN : X.N[j]? = some y := by rfl)
    (hv : Vis X.env.scope y := by first | exact Or.inl rfl | exact Or.inr (Or.inl rfl) | exact Or.inr (Or.inr rfl)) (hdy : (y == ("__debug__" : Str)) = false := by decide) (hcy : (y == ("__classdict__" : Str)) = false := by decide)
    (hb : attributeBase (.Name y pp) (c.xf n) X.env (eval (.Name y pp) X.env) = eval (.Name y pp) X.env := by rfl) :
    PE (X.suite a ((a, o) :: pn)) (.Attribute (.Name y pp) (c.xf n) pos) (tX X.K c (some j) a cv dd fun m od => if m = n then od else none) := by
  refine PE.weak (pe_xf (e := .Name y pp) (T := T) hno hz hf (pe_var (X := X.suite a ((a, o) :: pn)) (i := j) hN hv hdy hcy) hb) fun σ H Q h => ?_
  obtain ⟨ha, G, m, od, w, hs, ht, hx, e1, q⟩ := h
  dsimp only at e1
  split at e1
  · rename_i hm
    subst hm
    obtain ⟨dx, v, h1, h2, h3⟩ := hx.2 w e1
    exact ⟨.ref a, ha j rfl, rfl, hx.1, dx, _, v, h1, h2, by simp [List.lookup], q G H v (Pure.refl hs) h3⟩
  · cases e1
theorem sx_fieldF {n j : Nat} {y f : Str} (hx : c.xf n = f) (T : XfC X.K (c.cls n)) (hno : PySem.W.findIn X.K (.ref (c.cls n)) (c.xf n) = some none) (hz : Zc cv dd o) (hf : ∃ vs, o.data = .fields vs) (hN : X.N[j]? = some y := by rfl)
    (hv : Vis X.env.scope y := by first | exact Or.inl rfl | exact Or.inr (Or.inl rfl) | exact Or.inr (Or.inr rfl)) (hdy : (y == ("__debug__" : Str)) = false := by decide) (hcy : (y == ("__classdict__" : Str)) = false := by decide)
    (hb : attributeBase (.Name y pp) f X.env (eval (.Name y pp) X.env) = eval (.Name y pp) X.env := by rfl) :
    PE (X.suite a ((a, o) :: pn)) (.Attribute (.Name y pp) f pos) (tX X.K c (some j) a cv dd fun m od => if m = n then od else none) := by
  subst hx
  exact sx_field T hno hz hf hN hv hdy hcy hb
theorem sx_str {x : Str} {k : Nat} : PE (X.suite a ((a, o) :: pn)) (.Constant (.str x) k pos) (tX X.K c i a cv dd fun _ _ => some (.str x)) := by
  refine PE.weak pe_str fun σ H Q h => ?_
  obtain ⟨_, G, n, od, w, hs, ht, hx, e, q⟩ := h
  cases e
  exact q G H _ (Pure.refl hs) (.str x)
theorem sx_true {k : Nat} : PE (X.suite a ((a, o) :: pn)) (.Constant (.bool true) k pos) (tX X.K c i a cv dd fun _ _ => some (.bl true)) := by
  refine PE.weak pe_bl fun σ H Q h => ?_
  obtain ⟨_, G, n, od, w, hs, ht, hx, e, q⟩ := h
  cases e
  exact q G H _ (Pure.refl hs) (.bl true)
theorem sx_false {k : Nat} : PE (X.suite a ((a, o) :: pn)) (.Constant (.bool false) k pos) (tX X.K c i a cv dd fun _ _ => some (.bl false)) := by
  refine PE.weak pe_bl fun σ H Q h => ?_
  obtain ⟨_, G, n, od, w, hs, ht, hx, e, q⟩ := h
  cases e
  exact q G H _ (Pure.refl hs) (.bl false)
theorem sx_non {k : Nat} : PE (X.suite a ((a, o) :: pn)) (.Constant .none k pos) (tX X.K c i a cv dd fun _ _ => some .non) := by
  refine PE.weak pe_non fun σ H Q h => ?_
  obtain ⟨_, G, n, od, w, hs, ht, hx, e, q⟩ := h
  cases e
  exact q G H _ (Pure.refl hs) .non
theorem sx_nil : PA (X.suite a ((a, o) :: pn)) [] (tXA X.K c i a cv dd fun _ _ => some []) := by
  refine PA.weak pa_nil fun σ H Q h => ?_
  obtain ⟨_, G, n, od, w, hs, ht, hx, e, q⟩ := h
  cases e
  exact q G H _ (Pure.refl hs) .nil
theorem sx_cons {s1 : Sv} {s2 : Nat → Option D → Option (List D)} (h1 : PE (X.suite a ((a, o) :: pn)) e (tX X.K c i a cv dd s1)) (h2 : PA (X.suite a ((a, o) :: pn)) es (tXA X.K c i a cv dd s2))
    (hs : starEach (e :: es) X.env = (false, eval e X.env) :: starEach es X.env := by rfl) : PA (X.suite a ((a, o) :: pn)) (e :: es) (tXA X.K c i a cv dd fun n od => (s1 n od).bind fun d => (s2 n od).map (d :: ·)) := by
  refine PA.weak (pa_cons h1 h2 hs) fun σ H Q h => ?_
  obtain ⟨ha, G, n, od, w, hs, ht, hx, e1, q⟩ := h
  obtain ⟨d, e2, e3⟩ := Option.bind_eq_some_iff.mp e1
  obtain ⟨ds, e4, e5⟩ := Option.map_eq_some_iff.mp e3
  subst e5
  exact ⟨ha, G, n, od, d, hs, ht, hx, e2, fun G1 H1 v p r => ⟨ha, G1, n, od, ds, p.gs, ⟨p.tabs ht.1, p.ng ht.2⟩, hx.mono p.same p.hs, e4, fun G2 H2 vs p2 rs => q G2 H2 _ (p.trans p2) (.cons (r.mono p2.same) rs)⟩⟩
theorem sx_tup {x1 : Nat} {s2 : Nat → Option D → Option (List D)} (h2 : PA (X.suite a ((a, o) :: pn)) es (tXA X.K c i a cv dd s2)) : PE (X.suite a ((a, o) :: pn)) (.Tuple es x1 pos) (tX X.K c i a cv dd fun n od => (s2 n od).bind fun ds => if ds.length ≤ 16777216 then some (.tup ds) else none) := by
  refine PE.weak (pe_tup h2) fun σ H Q h => ?_
  obtain ⟨ha, G, n, od, w, hs, ht, hx, e1, q⟩ := h
  obtain ⟨ds, e2, e3⟩ := Option.bind_eq_some_iff.mp e1
  split at e3
  · rename_i hl
    cases e3
    exact ⟨ha, G, n, od, ds, hs, ht, hx, e2, fun G1 H1 vs p rs => ⟨by rw [rs.length, sizeLine_eq]; exact hl, fun b nb => q _ _ _ (p.trans (Pure.new (.tup vs) p.gs nb)) (.tup (SqT.of upd_same) (rs.mono (same_new (none_of p.gs nb))))⟩⟩
  · cases e3
/-- return e -/
theorem sx_ret {sv : Sv} (h : PE (X.suite a ((a, o) :: pn)) e (tX X.K c i a cv dd sv)) : PSs (X.suite a ((a, o) :: pn)) [.Return (some e) pos] (fun D σ H => tX X.K c i a cv dd sv σ H D.rt) := pss_one (ps_ret h)
end
/-! ### try, by data -/
def mTry (b : MS) (cs : List (Option Nat × (Nat → Option Bool) × Sv)) : MS := fun env => match b env with
  | .exc (.own n od) env' => go n od env' cs
  | .exc (.ty _) _ => .bad
  | r => r
where go (n : Nat) (od : Option D) (env : Ev) : List (Option Nat × (Nat → Option Bool) × Sv) → Res Fl
  | [] => .exc (.own n od) env
  | (j, h, s) :: r => match h n with
    | some true => if (∀ i ∈ j, i < env.length) then match s n od with
      | some w => .ok (.ret w) env
      | none => .bad
      else .bad
    | some false => go n od env r
    | none => .bad
/-- a clause and its reading -/
structure ClD (X : Cx) (c : Cl) (cl : Clause) (h : Nat → Option Bool) (s : Sv) : Prop where
  hit : ∀ n b, h n = some b → PySem.W.exmOne X.K (.ref (c.cls n)) cl.1 = some b
  ok : ∀ (a : Addr) (cv : Value) (dd : Option Addr) (D : Ends) (σ : St) (H : Hp), tX X.K c cl.2.1 a cv dd s (put? σ a cl.2.1) H D.rt → cl.2.2 a cv dd (D.off cl.2.1) (put? σ a cl.2.1) H
theorem off_rt {D : Ends} {j : Option Nat} : (D.off j).rt = D.rt := by cases j <;> rfl
inductive ClsD (X : Cx) (c : Cl) : List Clause → List (Option Nat × (Nat → Option Bool) × Sv) → Prop
  | nil : ClsD X c [] []
  | cons {cl h s l r} : ClD X c cl h s → ClsD X c l r → ClsD X c (cl :: l) ((cl.2.1, h, s) :: r)
theorem ds_try {X : Cx} {c : Cl} {W : WX} {body : List Stmt} {h₁ : ExceptHandler} {hs : List ExceptHandler} {l : List Clause} {cs : List (Option Nat × (Nat → Option Bool) × Sv)} {pos : Pos} {mb : MS} (stk : X.stack = X.env :: X.outer) (frm : X.env.frame = some X.env.locals) (tk : Takes X W)
    (hbody : ∀ (W' : WX) (pn : List (Addr × Obj)) (xe : Value → Shared → Prop), Takes (X.tr pn xe) W' → PassesOwn (model X.prog X.w) X.A X.env xe → PSs (X.tr pn xe) body (tS X.K c W' mb))
    (hcl : ClausesOk X (h₁ :: hs) l) (hd : ClsD X c l cs) : PS X (.Try body (h₁ :: hs) [] [] pos) (tS X.K c W (mTry mb cs)) := by
  refine PS.weak (ps_try_clauses stk frm tk hbody hcl) fun D σ H h => ?_
  obtain ⟨F, G, P, env, R, h⟩ := h
  refine ⟨F, G, P, env, R, ?_⟩
  unfold mTry at h
  cases hb : mb env with
  | bad => rw [hb] at h; exact h
  | ok f e => rw [hb] at h; exact h
  | exc xx e =>
    rw [hb] at h
    cases xx with
    | ty _ => exact h.elim
    | own n od =>
      dsimp only at h
      intro G' H' P' σ' cv dd x1 k1 R1 rx
      -- what is in hand
      have hx : xHere c X.K cv dd G' H' n od := by
        cases rx with
        | own0 => exact ⟨rfl, fun d z => by cases z⟩
        | own1 h2 r2 => exact ⟨rfl, fun d z => by cases z; exact ⟨_, _, rfl, h2, r2⟩⟩
      have hσ : σ'.length = e.length := R1.all.len.1
      clear hb hcl
      induction hd with
      | nil => exact h G' H' P' σ' cv dd x1 k1 R1 rx
      | @cons cl hh s l r hc _ ih =>
        unfold mTry.go at h
        cases e1 : hh n with
        | none => rw [e1] at h; exact h.elim
        | some b =>
          have := hc.hit n b e1
          rw [← hx.1] at this
          refine ⟨b, this, fun hb2 a ha => ?_, fun hb2 => ?_⟩
          · subst hb2
            rw [e1] at h
            dsimp only at h
            split at h
            · rename_i hj
              cases e2 : s n od with
              | none => rw [e2] at h; exact h.elim
              | some w =>
                rw [e2] at h
                refine hc.ok a cv dd D σ' H' ⟨fun j ej => ?_, G', n, od, w, R1.gs, ⟨R1.tb.tabs, R1.tb.ng⟩, hx, e2, fun G2 H2 v p rv => ?_⟩
                · rw [ej]
                  exact List.getElem?_set_self (by rw [hσ]; exact hj j ej)
                · obtain ⟨x2, R2⟩ := R1.pure p
                  exact h G2 H2 P' σ' (x1.trans x2) k1 R2 v rv
            · exact h.elim
          · subst hb2
            rw [e1] at h
            exact ih h
/-- which exceptions a clause takes -/
structure Xm (K : PySem.W.Frag) (c : Cl) (m : Nat) (tb : List (Nat × Bool)) : Prop where
  at_ : ∀ n b, tb.lookup n = some b → PySem.W.exmOne K (.ref (c.cls n)) (.ref (c.cls m)) = some b
theorem xm_of {K : PySem.W.Frag} {c : Cl} {m : Nat} {tb : List (Nat × Bool)} (h1 : PySem.W.subIn K (.ref (c.cls m)) (.type "BaseException") = some true) (h2 : PySem.W.typeIn K (.ref (c.cls m)) = some (.type "type")) (h3 : PySem.W.isClsIn K (c.cls m) = true)
    (h4 : ∀ q ∈ tb, PySem.W.subIn K (.ref (c.cls q.1)) (.ref (c.cls m)) = some q.2) : Xm K c m tb := ⟨fun n b e => by
  have key : ∀ {l : List (Nat × Bool)} {a : Nat} {b : Bool}, l.lookup a = some b → (a, b) ∈ l := by
    intro l
    induction l with
    | nil => intro a b h; cases h
    | cons q l ih =>
      intro a b h
      obtain ⟨q1, q2⟩ := q
      rw [List.lookup_cons] at h
      by_cases e : a = q1
      · subst e
        simp at h
        subst h
        exact List.mem_cons_self
      · rw [beq_false_of_ne e] at h
        exact List.mem_cons_of_mem _ (ih h)
  have := h4 _ (key e)
  have h5 : (PySem.W.clsIn K (c.cls m)).isSome = true := by
    unfold PySem.W.isClsIn at h3
    first | exact h3 | (revert h3; cases PySem.W.clsIn K (c.cls m) <;> simp)
  unfold PySem.W.exmOne PySem.W.kitCls
  simp only [h1, h2, h5, beq_self_eq_true, Bool.and_self, if_true]
  exact this⟩
/-- the clauses of a try -/
def TryD (X : Cx) (c : Cl) (hs : List ExceptHandler) (cs : List (Option Nat × (Nat → Option Bool) × Sv)) : Prop := ∃ l, ClausesOk X hs l ∧ ClsD X c l cs
theorem td_nil {X : Cx} {c : Cl} : TryD X c [] [] := ⟨[], .nil, .nil⟩
theorem td_cons {X : Cx} {c : Cl} {m : Nat} {tb : List (Nat × Bool)} {x : Str} {nm : Option Str} {j : Option Nat} {e : Expr} {p q pr : Pos} {sv : Sv} {hs : List ExceptHandler} {cs : List (Option Nat × (Nat → Option Bool) × Sv)} (xm : Xm X.K c m tb) (known : Names X x (.ref (c.cls m))) (named : NameAt X nm j)
    (suite : ∀ (a : Addr) (o : Obj) (cls : Value) (dd : Option Addr) (pn : List (Addr × Obj)), Zc cls dd o → (∃ vs, o.data = .fields vs) → PE (X.suite a ((a, o) :: pn)) e (tX X.K c j a cls dd sv)) (more : TryD X c hs cs) :
    TryD X c (.ExceptHandler (some (.Name x p)) nm [.Return (some e) pr] q :: hs) ((j, fun n => tb.lookup n, sv) :: cs) := by
  obtain ⟨l, h1, h2⟩ := more
  refine ⟨(.ref (c.cls m), j, fun a cls dd D σ H => tX X.K c j a cls dd sv σ H D.rt) :: l, .cons known named (fun a o cls dd pn hz hf => sx_ret (suite a o cls dd pn hz hf)) h1, .cons ⟨xm.at_, fun a cv dd D σ H h => ?_⟩ h2⟩
  show tX X.K c j a cv dd sv (put? σ a j) H (D.off j).rt
  rw [off_rt]
  exact h
theorem ds_tryD {X : Cx} {c : Cl} {W : WX} {body : List Stmt} {h₁ : ExceptHandler} {hs : List ExceptHandler} {cs : List (Option Nat × (Nat → Option Bool) × Sv)} {pos : Pos} {mb : MS} (tk : Takes X W) (td : TryD X c (h₁ :: hs) cs)
    (hbody : ∀ (W' : WX) (pn : List (Addr × Obj)) (xe : Value → Shared → Prop), Takes (X.tr pn xe) W' → PassesOwn (model X.prog X.w) X.A X.env xe → PSs (X.tr pn xe) body (tS X.K c W' mb))
    (stk : X.stack = X.env :: X.outer := by rfl) (frm : X.env.frame = some X.env.locals := by rfl) : PS X (.Try body (h₁ :: hs) [] [] pos) (tS X.K c W (mTry mb cs)) := by
  obtain ⟨l, h1, h2⟩ := td
  exact ds_try stk frm tk hbody h1 h2
end L2.DL
set_option Elab.async false
set_option linter.all false
set_option maxRecDepth 100000
set_option maxHeartbeats 4000000
namespace L2.DL
open PySem PySem.Spec PyProof.Rows
/-! ### repr of data -/
mutual
def toPy : D → Option PyData
  | .non => some .none
  | .bl b => some (.bool b)
  | .int i => some (.int i)
  | .str x => some (.str x)
  | .lst xs => (toPys xs).map .list
  | .tup xs => (toPys xs).map .tuple
  | _ => none
def toPys : List D → Option (List PyData)
  | [] => some []
  | x :: xs => (toPy x).bind fun y => (toPys xs).map (y :: ·)
end
mutual
/-- a bound of the text's length -/
def plen : PyData → Nat
  | .none => 4
  | .bool _ => 5
  | .int _ => 1921
  | .str x => if x.cps.toList.all (fun c => decide (c < 16 ^ 8)) then 10 * x.length + 2 else 16777217
  | .list xs => plens xs + 3
  | .tuple xs => plens xs + 3
  | .dict _ => 16777217
def plens : List PyData → Nat
  | [] => 0
  | x :: xs => plen x + 2 + plens xs
end
def canShow (d : PyData) : Bool := d.showable && !d.hasDict && decide (d.depth ≤ 40) && decide (plen d ≤ 16777216)
def dRepr (d : D) : Option D := (toPy d).bind fun p => if canShow p then some (.str p.shown) else none
mutual
theorem plen_ok : ∀ d : PyData, d.showable = true → d.hasDict = false → plen d ≤ 16777216 → d.shown.length ≤ plen d
  | .none, _, _, _ => by rw [PyData.shown_none]; decide
  | .bool b, _, _, _ => by rw [PyData.shown_bool]; cases b <;> decide
  | .int i, h, _, _ => by
    rw [PyData.shown_int]
    have : i.natAbs.log2 < 1920 := by simpa [PyData.showable] using h
    exact PyProof.Rows.int_text_len_1921 this
  | .str x, _, _, h => by
    rw [PyData.shown_str]
    unfold plen at h ⊢
    split at h
    · rename_i hc
      rw [if_pos hc]
      exact StrLaws.reprText_len x fun c hc2 => of_decide_eq_true (List.all_eq_true.mp hc c hc2)
    · omega
  | .list xs, h1, h2, h3 => by
    unfold plen at h3 ⊢
    have := plens_ok xs (by simpa [PyData.showable] using h1) (by simpa [PyData.hasDict] using h2) (by omega)
    have e : (PyData.list xs).shown = listText (PyData.shownAll xs) := by simp only [PyData.shown]
    rw [e]
    have := listText_len_le (PyData.shownAll xs)
    have := PyData.shownAll_length xs
    omega
  | .tuple xs, h1, h2, h3 => by
    unfold plen at h3 ⊢
    have := plens_ok xs (by simpa [PyData.showable] using h1) (by simpa [PyData.hasDict] using h2) (by omega)
    have e : (PyData.tuple xs).shown = tupleText (PyData.shownAll xs) := by simp only [PyData.shown]
    rw [e]
    have := tupleText_len_le (PyData.shownAll xs)
    have := PyData.shownAll_length xs
    omega
  | .dict _, _, h, _ => by simp [PyData.hasDict] at h
theorem plens_ok : ∀ xs : List PyData, PyData.showableAll xs = true → PyData.hasDictAll xs = false → plens xs ≤ 16777216 → ((PyData.shownAll xs).map (·.length)).sum + 2 * xs.length ≤ plens xs
  | [], _, _, _ => by simp [PyData.shownAll, plens]
  | x :: xs, h1, h2, h3 => by
    simp only [PyData.showableAll, Bool.and_eq_true] at h1
    simp only [PyData.hasDictAll, Bool.or_eq_false_iff] at h2
    unfold plens at h3 ⊢
    have a := plen_ok x h1.1 h2.1 (by omega)
    have b := plens_ok xs h1.2 h2.2 (by omega)
    simp only [PyData.shownAll, List.map_cons, List.sum_cons, List.length_cons]
    omega
end
section
variable {X : Cx} {c : Cl} {pins : List (Addr × Obj)} {σ : St} {H G : Hp} {s : Shared}
mutual
theorem reads_of (I : Inv X pins σ H s) (hs : Same G H) : ∀ {v : V} {d : D} {p : PyData} {u : Value}, Rep X.K c G v d → toPy d = some p → RelV v u → ∃ as, Reads s.heap u p as
  | _, _, _, _, .non, e, r => by
    unfold toPy at e; cases e
    cases (show _ = Value.none from r)
    exact ⟨_, .none⟩
  | _, _, _, _, .bl b, e, r => by
    unfold toPy at e; cases e
    cases (show _ = Value.bool b from r)
    exact ⟨_, .bool b⟩
  | _, _, _, _, .int i, e, r => by
    unfold toPy at e; cases e
    obtain ⟨t, rfl⟩ := r
    exact ⟨_, .int i t⟩
  | _, _, _, _, .str x, e, r => by
    unfold toPy at e; cases e
    obtain ⟨t, rfl⟩ := r
    exact ⟨_, .str x t⟩
  | _, _, _, _, .ty n, e, r => by unfold toPy at e; cases e
  | _, _, _, _, .glb n, e, r => by unfold toPy at e; cases e
  | _, _, _, _, .ro h rs, e, r => by unfold toPy at e; cases e
  | _, _, _, _, .obj h rs, e, r => by unfold toPy at e; cases e
  | _, _, _, _, .dct h rs, e, r => by unfold toPy at e; cases e
  | _, _, _, _, .lst (a := a) h rs, e, r => by
    unfold toPy at e
    obtain ⟨ps, e1, e2⟩ := Option.map_eq_some_iff.mp e
    subst e2
    cases (show _ = Value.ref a from r)
    obtain ⟨_, its, n, rv, at_⟩ := I.hok a _ (hs _ _ h)
    obtain ⟨as, ra⟩ := reads_all I hs rs e1 rv
    exact ⟨_, .list at_ rfl rfl ra⟩
  | _, _, _, _, .tup (a := a) h rs, e, r => by
    unfold toPy at e
    obtain ⟨ps, e1, e2⟩ := Option.map_eq_some_iff.mp e
    subst e2
    cases (show _ = Value.ref a from r)
    obtain ⟨its, rv, ⟨o, at_, hc, n, hd⟩, _⟩ := I.tuple (Same.seqT hs h)
    obtain ⟨as, ra⟩ := reads_all I hs rs e1 rv
    exact ⟨_, .tuple at_ hc hd ra⟩
theorem reads_all (I : Inv X pins σ H s) (hs : Same G H) : ∀ {vs : List V} {ds : List D} {ps : List PyData} {us : List Value}, Reps X.K c G vs ds → toPys ds = some ps → Vals vs us → ∃ as, ReadsAll s.heap us ps as
  | _, _, _, _, .nil, e, r => by
    unfold toPys at e; cases e
    cases r
    exact ⟨_, .nil⟩
  | _, _, _, _, .cons h t, e, r => by
    unfold toPys at e
    obtain ⟨p, e1, e2⟩ := Option.bind_eq_some_iff.mp e
    obtain ⟨ps, e3, e4⟩ := Option.map_eq_some_iff.mp e2
    subst e4
    cases r with
    | cons r1 r2 =>
      obtain ⟨as, a1⟩ := reads_of I hs h e1 r1
      obtain ⟨bs, a2⟩ := reads_all I hs t e3 r2
      exact ⟨_, .cons a1 a2⟩
end
end
def fRepr : List D → Option D
  | [d] => dRepr d
  | _ => none
theorem cd_repr {X : Cx} {c : Cl} (hr : Sh X.A) : CallD X c (.builtin "repr") fRepr := calld_of fun G H xs ds d hs rs e => by
  refine ⟨fun xs' H' Q => xs' = xs ∧ H' = H ∧ ∀ w, d = .str w → Q (.str w) H, ?_, fun Q q => ⟨rfl, rfl, fun w hw => q G H _ (Pure.refl hs) (by rw [hw]; exact .str w)⟩⟩
  rintro pins s σ _ _ us Q I r ⟨rfl, rfl, q⟩
  cases rs with
  | nil => simp [fRepr] at e
  | cons h t =>
    cases t with
    | cons _ _ => simp [fRepr] at e
    | nil =>
      rename_i v dd
      unfold fRepr dRepr at e
      dsimp only at e
      obtain ⟨p, e1, e2⟩ := Option.bind_eq_some_iff.mp e
      split at e2
      · rename_i hc
        cases e2
        obtain ⟨u, rfl, ru⟩ := r.one
        obtain ⟨as, rd⟩ := reads_of I hs h e1 ru
        unfold canShow at hc
        simp only [Bool.and_eq_true, Bool.not_eq_true', decide_eq_true_eq] at hc
        obtain ⟨⟨⟨c1, c2⟩, c3⟩, c4⟩ := hc
        have len : p.shown.length ≤ sizeLine := by
          rw [sizeLine_eq]
          exact Nat.le_trans (plen_ok p c1 c2 c4) c4
        have q := q _ rfl
        have un := hr.units
        cases rd with
        | none => exact P.repr_of_none ⟨.str (PyData.shown .none), _, I.tok _, ⟨_, by rw [PyData.shown_none]⟩, q⟩
        | bool b => exact P.repr_of_bool ⟨.str (PyData.shown (.bool b)), _, I.tok _, ⟨_, by rw [PyData.shown_bool]⟩, q⟩
        | int i t => exact P.repr_of_int (by simpa [PyData.showable] using c1) ⟨.str (PyData.shown (.int i)), _, I.tok _, ⟨_, by rw [PyData.shown_int]⟩, q⟩
        | str x t => exact P.repr_of_str ⟨.str (PyData.shown (.str x)), _, I.tok _, ⟨_, by rw [PyData.shown_str]⟩, q⟩ (by rw [← PyData.shown_str]; exact len)
        | list a1 a2 a3 a4 =>
          exact repr_of_reads' (.list a1 a2 a3 a4) c1 (fun z => by rw [c2] at z; cases z) hr.gd (by omega) (fun _ _ z => z) (fun h' u tk k => ⟨.str (PyData.shown _), _, I.kept (t' := tk) k, ⟨_, rfl⟩, q⟩) len
        | tuple a1 a2 a3 a4 =>
          exact repr_of_reads' (.tuple a1 a2 a3 a4) c1 (fun z => by rw [c2] at z; cases z) hr.gd (by omega) (fun _ _ z => z) (fun h' u tk k => ⟨.str (PyData.shown _), _, I.kept (t' := tk) k, ⟨_, rfl⟩, q⟩) len
        | dict => simp [PyData.hasDict] at c2
      · cases e2
end L2.DL
set_option Elab.async false
set_option linter.all false
set_option maxRecDepth 100000
set_option maxHeartbeats 4000000
namespace L2.DL
open PySem PySem.Spec PyProof.Rows
/-! ### list * int and list + list as things of one's own -/
def mRepO (ma mb : M D) : M Cell := M.bind ma fun a => M.bind mb fun b => match a, b with
  | .lst xs, .int n => if -(2 ^ 63) ≤ n ∧ n < 2 ^ 63 ∧ xs.length * n.toNat ≤ 16777216 then M.ret (.lst (List.replicate n.toNat xs).flatten) else fun _ => .bad
  | _, _ => fun _ => .bad
def mCatO (ma mb : M D) : M Cell := M.bind ma fun a => M.bind mb fun b => match a, b with
  | .lst xs, .lst ys => if xs.length + ys.length ≤ 16777216 then M.ret (.lst (xs ++ ys)) else fun _ => .bad
  | _, _ => fun _ => .bad
section
variable {X : Cx} {c : Cl} {W : WX} {pos : Pos} {a b : Expr} {ma mb : M D}
theorem do_repO (ha : PE X a (tE X.K c W ma)) (hb : PE X b (tE X.K c W mb)) : PE X (.BinOp a .Mult b pos) (tO X.K c W (mRepO ma mb)) := by
  refine PE.weak (pe_op op_rep ha hb) fun σ H Q h => ?_
  obtain ⟨F, G, P, env, R, h⟩ := h
  refine ⟨F, G, P, env, R, (Post.bind h).imp fun d G1 H1 P1 x1 ⟨env1, R1, h1⟩ v r => ⟨F, G1, P1, env1, R1, (Post.bind h1).imp fun d2 G2 H2 P2 x2 ⟨env2, R2, h2⟩ w r2 => ?_⟩⟩
  cases r with
  | lst e1 rs =>
    cases r2 with
    | int n =>
      dsimp only at h2
      split at h2
      · rename_i hc
        exact ⟨_, n, _, rfl, rfl, R2.gs _ _ (x2.same _ _ e1), hc.1, hc.2.1, by rw [rs.length, sizeLine_eq]; exact hc.2.2, fun p n0 => new_cell R2 h2 n0 (.lst upd_same ((rs.mono x2.same).rep _))⟩
      · exact h2.elim
    | _ => exact h2.elim
  | _ => cases r2 <;> exact h2.elim
theorem do_catO (ha : PE X a (tE X.K c W ma)) (hb : PE X b (tE X.K c W mb)) : PE X (.BinOp a .Add b pos) (tO X.K c W (mCatO ma mb)) := by
  refine PE.weak (pe_op op_cat ha hb) fun σ H Q h => ?_
  obtain ⟨F, G, P, env, R, h⟩ := h
  refine ⟨F, G, P, env, R, (Post.bind h).imp fun d G1 H1 P1 x1 ⟨env1, R1, h1⟩ v r => ⟨F, G1, P1, env1, R1, (Post.bind h1).imp fun d2 G2 H2 P2 x2 ⟨env2, R2, h2⟩ w r2 => ?_⟩⟩
  cases r with
  | lst e1 rs =>
    cases r2 with
    | lst e2 rs2 =>
      dsimp only at h2
      split at h2
      · rename_i hc
        exact ⟨_, _, _, _, rfl, rfl, R2.gs _ _ (x2.same _ _ e1), R2.gs _ _ e2, by rw [rs.length, rs2.length, sizeLine_eq]; exact hc, fun p n0 => new_cell R2 h2 n0 (.lst upd_same ((rs.mono x2.same).append rs2))⟩
      · exact h2.elim
    | _ => exact h2.elim
  | _ => cases r2 <;> exact h2.elim
end
end L2.DL
set_option Elab.async false
set_option linter.all false
set_option maxRecDepth 100000
set_option maxHeartbeats 4000000
namespace L2.DL
open PySem PySem.Spec PyProof.Rows
/-! ### range(a, b, -1), list(range(..)) -/
def rangeDn (a b : Int) : List D := (List.range (a - b).toNat).map fun i => .int (a - (i : Nat))
def fDown : List D → Option (List D)
  | [.int a, .int b, .int k] => if k = -1 ∧ -4611686018427387904 ≤ a ∧ a < 4611686018427387904 ∧ -4611686018427387904 ≤ b ∧ b < 4611686018427387904 then some (rangeDn a b) else none
  | _ => none
def mDown (ms : M (List D)) : M (List D) := M.bind ms fun ds => M.opt (fDown ds)
section
variable {X : Cx} {c : Cl} {W : WX} {tg : Expr} {pos : Pos}
theorem gives_down {K : PySem.W.Frag} {G0 : Hp} {a b : Int} : Gives K c G0 (Itc a (-1) (a - b).toNat) (rangeDn a b) := by
  refine ⟨⟨fun _ => True, YFn fun i => .int (a + (i : Nat) * (-1)), ?_, fun _ _ => trivial, ?_⟩⟩
  · have : (rangeDn a b).length = (a - b).toNat := by simp [rangeDn]
    rw [this]
    exact walk_rangeC
  · intro i H x H' G hi g1 g2 y
    obtain ⟨e1, e2⟩ := y
    subst e1 e2
    refine ⟨G, .int (a - (i : Nat)), ?_, Pure.refl g2, ?_⟩
    · unfold rangeDn at hi ⊢
      rw [List.length_map, List.length_range] at hi
      rw [List.getElem?_map, List.getElem?_range hi]
      rfl
    · have : a + (i : Nat) * (-1) = a - (i : Nat) := by omega
      show Rep K c G (.int (a + (i : Nat) * (-1))) _
      rw [this]
      exact .int _
theorem di_down {a b d : Expr} {p : Pos} {ms : M (List D)} (hm : X.mg "range" = none) (ha : PA X [a, b, d] (tA X.K c W ms)) (hg : Gl X "range" := by rfl) (hs : starEach [a, b, d] X.env = (false, eval a X.env) :: starEach [b, d] X.env := by rfl) (hpl : (backTo pos (starEach [b, d] X.env)).any (·.1) = false := by rfl) :
    PI X tg (.Call (.Name "range" p) [a, b, d] [] pos) (tI X.K c W (mDown ms)) := by
  refine PI.weak (pi_range3 hg hm ha hs hpl) fun σ H R h => ?_
  obtain ⟨F, G, P, env, Rl, h⟩ := h
  refine ⟨F, G, P, env, Rl, ?_⟩
  unfold mDown at h
  refine (Post.bind h).imp fun ds G1 H1 P1 _ ⟨env1, R1', h1⟩ vs rs => ?_
  obtain ⟨is, e, h1⟩ := Post.opt h1
  have h2 := Post.here R1' h1
  match ds, rs, e with
  | [], _, e => simp [fDown] at e
  | [_], _, e => simp [fDown] at e
  | [_, _], _, e => simp [fDown] at e
  | [d1, d2, d3], rs, e =>
    cases rs with
    | cons r1 rs =>
      cases rs with
      | cons r2 rs =>
        cases rs with
        | cons r3 rs =>
          cases rs
          cases r1 with
          | int n =>
            cases r2 with
            | int m =>
              cases r3 with
              | int k =>
                simp only [fDown] at e
                split at e
                · rename_i hb
                  cases e
                  obtain ⟨rfl, b1, b2, b3, b4⟩ := hb
                  exact ⟨n, m, -1, _, rfl, RgC.neg (by omega) (by omega) (by omega) (by omega), h2 _ gives_down⟩
                · cases e
              | _ => cases e
            | _ => cases e
          | _ => cases e
  | _ :: _ :: _ :: _ :: _, _, e => simp [fDown] at e
def smallRg (a b : Int) : Prop := -4611686018427387904 ≤ a ∧ a < 4611686018427387904 ∧ -4611686018427387904 ≤ b ∧ b < 4611686018427387904 ∧ (b - a).toNat ≤ 16777216
instance {a b : Int} : Decidable (smallRg a b) := by unfold smallRg; infer_instance
def mLstRg1 (ma : M D) : M Cell := M.bind ma fun a => match a with
  | .int n => if smallRg 0 n then M.ret (.lst (rangeD 0 n)) else fun _ => .bad
  | _ => fun _ => .bad
def mLstRg2 (ma mb : M D) : M Cell := M.bind ma fun a => M.bind mb fun b => match a, b with
  | .int m, .int n => if smallRg m n then M.ret (.lst (rangeD m n)) else fun _ => .bad
  | _, _ => fun _ => .bad
theorem reps_rg {K : PySem.W.Frag} {G : Hp} {a b : Int} : Reps K c G (rgV a b) (rangeD a b) := by
  unfold rgV rangeD
  generalize (b - a).toNat = n
  suffices ∀ l : List Nat, Reps K c G (l.map fun i => V.int (a + (i : Nat))) (l.map fun i => D.int (a + (i : Nat))) from this _
  intro l
  induction l with
  | nil => exact .nil
  | cons x l ih => exact .cons (.int _) ih
theorem do_lstRg1 {e : Expr} {p pp pr : Pos} {ma : M D} (hl : X.mg "list" = none) (hm : X.mg "range" = none) (ha : PE X e (tE X.K c W ma)) (hc : X.calm = true := by rfl) (hg : Gl X "list" := by rfl) (hg2 : Gl X "range" := by rfl)
    (n1 : starEach [e] X.env = (false, eval e X.env) :: starEach [] X.env := by rfl) (n2 : starEach [.Call (.Name "range" pp) [e] [] pr] X.env = (false, eval (.Call (.Name "range" pp) [e] [] pr) X.env) :: starEach [] X.env := by rfl) :
    PE X (.Call (.Name "list" p) [.Call (.Name "range" pp) [e] [] pr] [] pos) (tO X.K c W (mLstRg1 ma)) := by
  refine PE.weak (pe_listRg hc hg hl (prg_1 hg2 hm ha n1) n2) fun σ H Q h => ?_
  obtain ⟨F, G, P, env, R, h⟩ := h
  refine ⟨F, G, P, env, R, (Post.bind h).imp fun d G1 H1 P1 x1 ⟨env1, R1, h1⟩ v r => ?_⟩
  cases r with
  | int n =>
    dsimp only at h1
    split at h1
    · rename_i hb
      exact ⟨n, rfl, ⟨by omega, by omega, by have := hb.2.2.1; omega, by have := hb.2.2.2.1; omega, by have := hb.2.2.2.2; omega⟩, fun q n0 => new_cell R1 h1 n0 (.lst upd_same reps_rg)⟩
    · exact h1.elim
  | _ => exact h1.elim
theorem do_lstRg2 {e f : Expr} {p pp pr : Pos} {ma mb : M D} (hl : X.mg "list" = none) (hm : X.mg "range" = none) (ha : PE X e (tE X.K c W ma)) (hb : PE X f (tE X.K c W mb)) (hc : X.calm = true := by rfl) (hg : Gl X "list" := by rfl) (hg2 : Gl X "range" := by rfl)
    (n0 : starEach [e, f] X.env = (false, eval e X.env) :: starEach [f] X.env := by rfl) (n1 : starEach [f] X.env = (false, eval f X.env) :: starEach [] X.env := by rfl) (np : (backTo pr (starEach [f] X.env)).any (·.1) = false := by rfl)
    (n2 : starEach [.Call (.Name "range" pp) [e, f] [] pr] X.env = (false, eval (.Call (.Name "range" pp) [e, f] [] pr) X.env) :: starEach [] X.env := by rfl) :
    PE X (.Call (.Name "list" p) [.Call (.Name "range" pp) [e, f] [] pr] [] pos) (tO X.K c W (mLstRg2 ma mb)) := by
  refine PE.weak (pe_listRg hc hg hl (prg_2 hg2 hm ha hb n0 n1 np) n2) fun σ H Q h => ?_
  obtain ⟨F, G, P, env, R, h⟩ := h
  refine ⟨F, G, P, env, R, (Post.bind h).imp fun d G1 H1 P1 x1 ⟨env1, R1, h1⟩ v r => ⟨F, G1, P1, env1, R1, (Post.bind h1).imp fun d2 G2 H2 P2 x2 ⟨env2, R2, h2⟩ w r2 => ?_⟩⟩
  cases r with
  | int m =>
    cases r2 with
    | int n =>
      dsimp only at h2
      split at h2
      · rename_i hb
        exact ⟨m, n, rfl, rfl, ⟨by have := hb.1; omega, by have := hb.2.1; omega, by have := hb.2.2.1; omega, by have := hb.2.2.2.1; omega, by have := hb.2.2.2.2; omega⟩, fun q n0 => new_cell R2 h2 n0 (.lst upd_same reps_rg)⟩
      · exact h2.elim
    | _ => exact h2.elim
  | _ => cases r2 <;> exact h2.elim
end
end L2.DL
set_option Elab.async false
set_option linter.all false
set_option maxRecDepth 100000
set_option maxHeartbeats 4000000
namespace L2.DL
open PySem PySem.Spec PyProof.Rows
/-! ### min of a tuple of ints -/
def fMinA : List D → Option D
  | [.tup xs] => (D.ints xs).bind fun ns => match ns with | [] => none | n :: r => some (.int (minI n r))
  | ds => fMin ds
theorem readsAll_ints {h : Heap} : ∀ {us : List Value} {ns : List Int}, Vals (ns.map V.int) us → ReadsAll h us (ns.map PyData.int) []
  | _, [], r => by cases r; exact .nil
  | _, n :: ns, r => by
    cases r with
    | cons r1 r2 =>
      obtain ⟨t, rfl⟩ := r1
      exact .cons (as := []) (.int n t) (readsAll_ints r2)
theorem alike_ints (ns : List Int) : PySem.W.AlikeAll (ns.map PyData.int) := by
  refine ⟨fun x hx y hy => ?_, fun x hx => ?_⟩
  · obtain ⟨a, _, rfl⟩ := List.mem_map.mp hx
    obtain ⟨b, _, rfl⟩ := List.mem_map.mp hy
    simp [PySem.W.alike]
  · obtain ⟨a, _, rfl⟩ := List.mem_map.mp hx
    exact fun z => nomatch z
theorem minD_ints : ∀ (r : List Int) (n : Int), PySem.W.minD (.int n) (r.map .int) = .int (minI n r)
  | [], n => rfl
  | b :: r, n => by
    have ih := minD_ints r (if b < n then b else n)
    unfold PySem.W.minD at ih ⊢
    rw [List.map_cons, List.foldl_cons, PySem.W.dataLt_int]
    unfold minI
    rw [← ih]
    congr 1
    by_cases h : b < n <;> simp [h]
theorem depth_intsA : ∀ ns : List Int, PyData.depthAll (ns.map PyData.int) = 0
  | [] => rfl
  | n :: ns => by
    have := depth_intsA ns
    simp only [List.map_cons, PyData.depthAll, PyData.depth, this]
    rfl
theorem cd_minA {X : Cx} {c : Cl} {k : Nat} (hr : RoomG k X.A) (hc : X.calm = true) : CallD X c (.builtin "min") fMinA := calld_of fun G H xs ds d hs rs e => by
  have other : fMin ds = some d → ∃ r : List V → Hp → VK → Prop, CallR X (.builtin "min") r ∧ ∀ Q : VK, (∀ G' H' v, Pure c H G H' G' → Rep X.K c G' v d → Q v H') → r xs H Q := fun e => ⟨_, cd_min (c := c) hc, fun Q q => ⟨G, ds, d, hs, rs, e, q⟩⟩
  match ds, rs, e with
  | [.tup ys], rs, e =>
    unfold fMinA at e
    dsimp only at e
    obtain ⟨ns, e1, e2⟩ := Option.bind_eq_some_iff.mp e
    refine ⟨fun xs' H' Q => xs' = xs ∧ H' = H ∧ ∀ m, d = .int m → Q (.int m) H, ?_, fun Q q => ⟨rfl, rfl, fun m hm => q G H _ (Pure.refl hs) (by rw [hm]; exact .int m)⟩⟩
    rintro pins s σ _ _ us Q I r ⟨rfl, rfl, q⟩
    cases rs with
    | cons h t =>
      cases t
      cases h with
      | @tup a vs _ h1 h2 =>
        obtain ⟨g1, _⟩ := ints_rep h2 e1
        subst g1
        obtain ⟨u, rfl, ru⟩ := r.one
        cases (show u = Value.ref a from ru)
        obtain ⟨its, rv, ⟨o, at_, hcl, n, hd⟩, _⟩ := I.tuple (Same.seqT hs h1)
        match ns, e2, rv with
        | [], e2, _ => cases e2
        | m :: ms, e2, rv =>
          cases e2
          have un := hr.units
          have rd := readsAll_ints (h := s.heap) rv
          refine PySem.W.min_tuple_data (x := .int m) (xs := ms.map .int) (I.ok.hd hc) ⟨o, at_, hcl, n, hd⟩ rd (alike_ints (m :: ms)) (by have := depth_intsA (m :: ms); rw [List.map_cons] at this; omega) (fun i v h' tk bs hv hrd hk => ?_)
          rw [minD_ints] at hrd
          cases hrd
          exact ⟨.int _, _, I.kept (t' := tk) hk, ⟨_, rfl⟩, q _ rfl⟩
  | [], rs, e => exact other e
  | [.non], rs, e => exact other e
  | [.bl _], rs, e => exact other e
  | [.int _], rs, e => exact other e
  | [.str _], rs, e => exact other e
  | [.ty _], rs, e => exact other e
  | [.glb _], rs, e => exact other e
  | [.lst _], rs, e => exact other e
  | [.ro _], rs, e => exact other e
  | [.obj _ _], rs, e => exact other e
  | [.dct _], rs, e => exact other e
  | a :: b :: r, rs, e =>
    have e1 : fMinA (a :: b :: r) = fMin (a :: b :: r) := by cases a <;> rfl
    exact other (e1.symm.trans e)
end L2.DL
set_option Elab.async false
set_option linter.all false
set_option maxRecDepth 100000
set_option maxHeartbeats 4000000
namespace L2.DL
open PySem PySem.Spec PyProof.Rows
/-! ### reckoning with what D22 .. D26 brought -/
variable {e e1 : Ev} {d : D} {x : Exn} {n : Nat}
@[simp] theorem ev_raise {m : M D} : mRaise n m e = (m e).bnd fun d e => .exc (.own n (some d)) e := rfl
@[simp] theorem ev_raise0 : mRaise0 n e = .exc (.own n none) e := rfl
@[simp] theorem sq_exc {b : MS} : Res.sq (.exc x e) b = .exc x e := rfl
@[simp] theorem end_exc {sls : List Sl} : endR sls (.exc x e) = .exc x (outs sls e) := rfl
@[simp] theorem callR_exc : callR (.exc x e1) e = .exc x e := rfl
def tryR (r : Res Fl) (cs : List (Option Nat × (Nat → Option Bool) × Sv)) : Res Fl := match r with
  | .exc (.own n od) e => mTry.go n od e cs
  | .exc (.ty _) _ => .bad
  | r => r
@[simp] theorem ev_try {b : MS} {cs : List (Option Nat × (Nat → Option Bool) × Sv)} : mTry b cs e = tryR (b e) cs := rfl
@[simp] theorem tryR_ok {f : Fl} {cs : List (Option Nat × (Nat → Option Bool) × Sv)} : tryR (.ok f e) cs = .ok f e := rfl
@[simp] theorem tryR_own {od : Option D} {cs : List (Option Nat × (Nat → Option Bool) × Sv)} : tryR (.exc (.own n od) e) cs = mTry.go n od e cs := rfl
def repR (a b : D) (e : Ev) : Res Cell := match a, b with
  | .lst xs, .int n => if -(2 ^ 63) ≤ n ∧ n < 2 ^ 63 ∧ xs.length * n.toNat ≤ 16777216 then .ok (.lst (List.replicate n.toNat xs).flatten) e else .bad
  | _, _ => .bad
@[simp] theorem ev_repO {a b : M D} : mRepO a b e = (a e).bnd fun x e => (b e).bnd fun y e => repR x y e := by
  unfold mRepO
  rw [ev_bind]
  congr 1; funext x e
  rw [ev_bind]
  congr 1; funext y e
  cases x <;> cases y <;> first | rfl | (simp only [repR]; split <;> rfl)
def catR (a b : D) (e : Ev) : Res Cell := match a, b with
  | .lst xs, .lst ys => if xs.length + ys.length ≤ 16777216 then .ok (.lst (xs ++ ys)) e else .bad
  | _, _ => .bad
@[simp] theorem ev_catO {a b : M D} : mCatO a b e = (a e).bnd fun x e => (b e).bnd fun y e => catR x y e := by
  unfold mCatO
  rw [ev_bind]
  congr 1; funext x e
  rw [ev_bind]
  congr 1; funext y e
  cases x <;> cases y <;> first | rfl | (simp only [catR]; split <;> rfl)
@[simp] theorem catR_lst {xs ys : List D} : catR (.lst xs) (.lst ys) e = if xs.length + ys.length ≤ 16777216 then .ok (.lst (xs ++ ys)) e else .bad := rfl
@[simp] theorem repR_lst {xs : List D} {k : Int} : repR (.lst xs) (.int k) e = if -(2 ^ 63) ≤ k ∧ k < 2 ^ 63 ∧ xs.length * k.toNat ≤ 16777216 then .ok (.lst (List.replicate k.toNat xs).flatten) e else .bad := rfl
@[simp] theorem ev_down {ms : M (List D)} : mDown ms e = (ms e).bnd fun ds e => M.opt (fDown ds) e := rfl
def lrR1 (a : D) (e : Ev) : Res Cell := match a with
  | .int n => if smallRg 0 n then .ok (.lst (rangeD 0 n)) e else .bad
  | _ => .bad
@[simp] theorem ev_lr1 {a : M D} : mLstRg1 a e = (a e).bnd fun x e => lrR1 x e := by
  unfold mLstRg1
  rw [ev_bind]
  congr 1; funext x e
  cases x <;> first | rfl | (simp only [lrR1]; split <;> rfl)
def lrR2 (a b : D) (e : Ev) : Res Cell := match a, b with
  | .int m, .int n => if smallRg m n then .ok (.lst (rangeD m n)) e else .bad
  | _, _ => .bad
@[simp] theorem ev_lr2 {a b : M D} : mLstRg2 a b e = (a e).bnd fun x e => (b e).bnd fun y e => lrR2 x y e := by
  unfold mLstRg2
  rw [ev_bind]
  congr 1; funext x e
  rw [ev_bind]
  congr 1; funext y e
  cases x <;> cases y <;> first | rfl | (simp only [lrR2]; split <;> rfl)
@[simp] theorem lrR2_int {a b : Int} : lrR2 (.int a) (.int b) e = if smallRg a b then .ok (.lst (rangeD a b)) e else .bad := rfl
@[simp] theorem lrR1_int {a : Int} : lrR1 (.int a) e = if smallRg 0 a then .ok (.lst (rangeD 0 a)) e else .bad := rfl
theorem toPys_ints : ∀ ns : List Int, toPys (ns.map .int) = some (ns.map .int)
  | [] => rfl
  | n :: ns => by
    have := toPys_ints ns
    simp only [List.map_cons, toPys, toPy, this, Option.bind_some, Option.map_some]
theorem plens_ints : ∀ ns : List Int, plens (ns.map .int) = 1923 * ns.length
  | [] => rfl
  | n :: ns => by
    have := plens_ints ns
    simp only [List.map_cons, plens, plen, this, List.length_cons]
    omega
theorem noDict_ints : ∀ ns : List Int, PyData.hasDictAll (ns.map .int) = false
  | [] => rfl
  | n :: ns => by
    have := noDict_ints ns
    simp only [List.map_cons, PyData.hasDictAll, PyData.hasDict, this]
    rfl
/-- repr of a tuple of ints, of some text of its own -/
theorem fRepr_ints {ns : List Int} (h : ∀ n ∈ ns, n.natAbs.log2 < 1920) (hl : ns.length ≤ 8000) : fRepr [.tup (ns.map .int)] = some (.str (PyData.shown (.tuple (ns.map .int)))) := by
  show dRepr (.tup (ns.map .int)) = _
  unfold dRepr
  have e : toPy (.tup (ns.map .int)) = some (.tuple (ns.map .int)) := by
    simp only [toPy, toPys_ints, Option.map_some]
  rw [e]
  have c : canShow (.tuple (ns.map .int)) = true := by
    unfold canShow
    simp only [PyData.showable, PyData.hasDict, PyData.depth, plen, PyData.showableAll_ints ns h, noDict_ints, depth_intsA, plens_ints, Bool.not_false, Bool.true_and]
    simp
    omega
  simp only [Option.bind_some, c, if_true]
end L2.DL
set_option Elab.async false
set_option linter.all false
set_option maxRecDepth 100000
set_option maxHeartbeats 4000000
namespace L2.DL
open PySem PySem.Spec PyProof.Rows
/-! ### enumerate of a tuple -/
theorem meets_enum1 {v : Value} {o : Obj} {J : Heap → Prop} (B : Begins v o J) :
    Meets (Builtin.«enumerate.__new__» ⟨[.type "enumerate", v], []⟩) (fun _ R s => J s.heap ∧
      R (.ok (.ret (.ref (s.heap.push o).objs.size))) { s with heap := (s.heap.push o).push { cls := .type "enumerate", data := .fields #[.none, .bool false, .ref s.heap.objs.size, rawInt 0, .none, .none] } }) :=
  .of_wp fun prog w A R s h => by
    obtain ⟨hp, g, d, tk, os⟩ := s
    obtain ⟨h1, h⟩ := h
    have sub := sub_enumerate
    have begin_ : ∀ {A' : Around} {E : Value → Shared → Prop} {Q : Value → Shared → Prop}, Q (.ref hp.objs.size) ⟨hp.push o, g, d, tk, os⟩ → wpAny (model prog w) A' (pyIter v) Q E ⟨hp, g, d, tk, os⟩ :=
      fun q => B.iter prog w _ _ ⟨hp, g, d, tk, os⟩ _ h1 q
    wp_walk using begin_
    refine wpAny_stack_any fun st => wpAny_pure ?_
    split
    · rename_i c _ _ _ _ _
      cases (c == Value.type "enumerate")
      · wp_walk using begin_
        exact ⟨_, rfl, h⟩
      · wp_walk using begin_
        exact ⟨_, rfl, h⟩
    · wp_walk using begin_
      exact ⟨_, rfl, h⟩
theorem call_enum1 {prog : Program} {w : World} {A : Around} {E : Value → Shared → Prop} {s : Shared} {v : Value} {o : Obj} {J : Heap → Prop} {Q : Value → Shared → Prop} (B : Begins v o J) (h1 : J s.heap)
    (h : ∀ h', IsEnum h' (s.heap.objs.size + 1) s.heap.objs.size 0 .none → h'.get? s.heap.objs.size = some o → (∀ b o, s.heap.get? b = some o → h'.get? b = some o) → Q (.ref (s.heap.objs.size + 1)) { s with heap := h' }) :
    wpAny (model prog w) A (call (.type "enumerate") [v]) Q E s := by
  refine callType_new F.called_enumerate (by decide) (F.typeCall_enumerate_1 _) (F.newCall_enumerate_1 _) (fun obj => F.args_object_init_2 obj _) F.entry_enumerate_new (meets_enum1 B) ⟨h1, ?_⟩
  have sz : (s.heap.push o).objs.size = s.heap.objs.size + 1 := Heap.size_push ..
  show _ ∧ _
  rw [sz]
  have there : IsEnum ((s.heap.push o).push { cls := .type "enumerate", data := .fields #[.none, .bool false, .ref s.heap.objs.size, rawInt 0, .none, .none] }) (s.heap.objs.size + 1) s.heap.objs.size 0 .none := by
    have := Heap.get?_push_size (s.heap.push o) (o := { cls := .type "enumerate", data := .fields #[.none, .bool false, .ref s.heap.objs.size, rawInt 0, .none, .none] }) rfl
    rw [sz] at this
    exact this
  exact ⟨⟨_, there, rfl⟩, h _ there (Heap.get?_push_of_some _ (Heap.get?_push_size _ B.free)) fun b o x => Heap.get?_push_of_some _ (Heap.get?_push_of_some _ x)⟩
/-- the tuple at a, its items in new pairs -/
def IteT (K : PySem.W.Frag) (a : Addr) : It :=
  ⟨fun i H => ∃ (xs : List V) (x : V), SqT K H a xs ∧ xs[i]? = some x,
    fun i H v H' => ∃ T x, v = .ref T ∧ H T = none ∧ H' = upd H T (.tup [.int (i : Nat), x]) ∧ ∀ xs, SqT K H a xs → xs[i]? = some x,
    fun i H => ∃ xs : List V, SqT K H a xs ∧ i = xs.length⟩
theorem turn_enumT {P : Program} {w : World} {K : PySem.W.Frag} {elts : List Expr} {kk : Nat} {tpos : Pos} {a e it : Addr} (ha : a ≠ it) (hea : e ≠ a) :
    Turn P w K (.Tuple elts kk tpos) (IteT K a) [e, it] e (fun i h => (∃ old, IsEnum h e it (i : Int) old) ∧ h.IsTupleIter it a i ∧ e ≠ it) where
  mem := by simp
  obj := fun i h st q hq => by
    obtain ⟨⟨old, he⟩, ⟨o, ho, _, hd⟩, _⟩ := st
    have e' : q = e ∨ q = it := by simpa using hq
    rcases e' with z | z
    · rw [z]; exact ⟨_, he, fun v q => nomatch q⟩
    · rw [z]; exact ⟨o, ho, fun v q => by rw [hd] at q; cases q⟩
  keep := fun i h h' st k => by
    obtain ⟨⟨old, he⟩, hi, hne⟩ := st
    exact ⟨⟨old, k e (by simp) _ he⟩, hi.at fun o q => k it (by simp) o q, hne⟩
  item := by
    intro X hP hw hK hc i pins s σ H E I hf st hg
    subst hP hw hK
    obtain ⟨⟨old, he⟩, hit, hne⟩ := st
    obtain ⟨xs, x, hq, hx⟩ := hg
    obtain ⟨its, rv, p, hz⟩ := I.tuple hq
    obtain ⟨u, hu, ru⟩ := rv.get hx
    have hel : e < s.heap.objs.size := Heap.lt_size he
    have hil : it < s.heap.objs.size := by obtain ⟨_, q, _⟩ := hit; exact Heap.lt_size q
    have hh : X.A.in1.handled = none := I.ok.hd hc
    have D1 := Draws.tuple (prog := X.prog) (w := X.w) hh it a ha its.toArray
    have lt1 : i < its.toArray.size := by have := (List.getElem?_eq_some_iff.mp hu).1; simpa using this
    refine wpAny_pyNext_enum_itemD D1 he ⟨hit, p⟩ lt1 hne (by simp [hne, hea]) fun x1 h' tk e1 ho hs' hT hsz hk => ?_
    obtain rfl : x1 = u := by
      have : some u = some x1 := by rw [← hu]; simpa using e1
      exact (Option.some.inj this).symm
    refine ⟨_, rfl, wpAny_letOwnedTupleGo_enum (s := { s with heap := h', toks := tk + 1 }) ho fun h'' he' sb => ?_⟩
    have hT2 : h''.get? s.heap.objs.size = some { cls := .type "tuple", data := .seq #[.int i tk, x1] } := (sb.2 _ (Nat.ne_of_gt hel)).trans hT
    have new : ObjOk X.prog X.w (upd H s.heap.objs.size (.tup [.int (i : Nat), x])) h'' s.heap.objs.size (.tup [.int (i : Nat), x]) :=
      ⟨by show 2 ≤ sizeLine; decide, [.int i tk, x1], .cons ⟨_, rfl⟩ (.cons ru .nil), ⟨_, hT2, rfl, _, rfl⟩⟩
    have I1 : Inv X pins σ (upd H s.heap.objs.size (.tup [.int (i : Nat), x])) { s with heap := h'', toks := tk + 1 } :=
      I.turnedNew (t' := tk + 1) (ch := [e, it]) (fun b ob hb q => (sb.2 b (fun z => hb (by simp [z]))).trans (hk b ob (fun z => hb (by simp [z])) (fun z => hb (by simp [z])) q)) hf (Nat.le_refl _) new
    refine ⟨.ref s.heap.objs.size, _, I1, rfl, ⟨_, x, rfl, I.hok.fresh (Nat.le_refl _), rfl, fun ys hy => by rw [I.tuple_inj hy hq]; exact hx⟩, ⟨⟨x1, ?_⟩, hs'.1.at fun o q => (sb.2 it (Ne.symm hne)).trans q, hne⟩, fun b hb => ?_⟩
    · have e1 : ((i + 1 : Nat) : Int) = (i : Int) + 1 := by omega
      rw [e1]; exact he'
    · have hb' : b < s.heap.objs.size := by
        have e' : b = e ∨ b = it := by simpa using hb
        rcases e' with z | z
        · rw [z]; exact hel
        · rw [z]; exact hil
      rw [upd_ne (Nat.ne_of_lt hb')]
      exact (hf b hb).1
  done := by
    intro X hP hw hK hc i pins s σ H E I hf st hg
    subst hP hw hK
    obtain ⟨⟨old, he⟩, hit, hne⟩ := st
    obtain ⟨xs, hq, hx⟩ := hg
    obtain ⟨its, rv, p, hz⟩ := I.tuple hq
    obtain ⟨f0, f1, f2, f3, f4, f5⟩ := hf it (by simp)
    have hl := rv.length
    have hh : X.A.in1.handled = none := I.ok.hd hc
    have D1 := Draws.tuple (prog := X.prog) (w := X.w) hh it a ha its.toArray
    have ei : i = its.toArray.size := by simp; omega
    subst ei
    exact wpAny_pyNext_enum_endD D1 he ⟨hit, p⟩ fun h' eb => ⟨rfl, I.turned (t' := s.toks) (fun b o hb q => eb b o hb q) f0 f1 f3 f4 f5⟩
  self := fun A i s Q E st h => let ⟨⟨_, he⟩, _⟩ := st; wpAny_pyIter_enum he h
theorem walk_enumT {K : PySem.W.Frag} {a : Addr} {xs : List V} : Walk (IteT K a) xs.length (fun H => SqT K H a xs) (fun i H v H' => ∃ T x, v = .ref T ∧ H T = none ∧ H' = upd H T (.tup [.int (i : Nat), x]) ∧ xs[i]? = some x) := by
  refine ⟨fun i _ hi q => ⟨xs, xs[i], q, by simp [hi]⟩, fun _ q => ⟨xs, q, rfl⟩, fun i H v H' _ q y => ?_⟩
  obtain ⟨T, x, h1, h2, h3, h4⟩ := y
  exact ⟨T, x, h1, h2, h3, h4 xs q⟩
theorem gives_enumT {c : Cl} {K : PySem.W.Frag} {G0 : Hp} {a : Addr} {vs : List V} {ds : List D} (h : SqT K G0 a vs) (r : Reps K c G0 vs ds) : Gives K c G0 (IteT K a) (enumD 0 ds) := by
  refine ⟨⟨fun H => SqT K H a vs, _, by rw [enumD_len, ← r.length]; exact walk_enumT, fun H hs => Same.seqT hs h, fun i H x H' G _ g1 g2 y => ?_⟩⟩
  obtain ⟨T, y1, e1, e2, e3, e5⟩ := y
  subst e1 e3
  obtain ⟨d, e6, rd⟩ := r.get' e5
  refine ⟨upd G T (.tup [.int (i : Nat), y1]), .tup [.int ((0 + i : Nat) : Int), d], by rw [enumD_get, e6]; rfl, Pure.new _ g2 e2, ?_⟩
  rw [Nat.zero_add]
  exact .tup (SqT.of upd_same) (.cons (.int _) (.cons (rd.mono (g1.trans (same_new (none_of g2 e2)))) .nil))
def iEnumT (K : PySem.W.Frag) (ta : TA) : TI := fun σ H R => ta σ H fun vs H1 => ∃ a xs, vs = [.ref a] ∧ SqT K H1 a xs ∧ R (IteT K a) H1
theorem pi_enumT {X : Cx} {e : Expr} {ta : TA} {p pos tpos : Pos} {elts : List Expr} {kk : Nat} (hg : Gl X "enumerate") (hm : X.mg "enumerate" = none) (ha : PA X [e] ta) (hs : starEach [e] X.env = [(false, eval e X.env)] := by rfl) :
    PI X (.Tuple elts kk tpos) (.Call (.Name "enumerate" p) [e] [] pos) (iEnumT X.K ta) := by
  refine ⟨fun pins s σ H R I h => ?_⟩
  refine Call_ (ld_blt I hg hm boot_enumerate (PyProof.Rows.callWith_type1 (thn (ha.run pos pins s σ H _ I h) fun us s1 ⟨vs, H1, I1, r1, q1⟩ => ?_) hs rfl))
  obtain ⟨a, xs, ex, hq, q⟩ := q1
  subst ex
  cases r1 with
  | cons r rr =>
    cases rr
    cases r
    obtain ⟨its, rv, p', hz⟩ := I1.tuple hq
    have hal : a < s1.heap.objs.size := p'.lt
    refine call_enum1 (begins_tuple a its.toArray) p' fun h' he hit hk => wpAny_pyIter_enum he ?_
    have I2 : Inv X pins σ H1 { s1 with heap := h' } := I1.kept (t' := s1.toks) hk
    refine ⟨s1.heap.objs.size + 1, [s1.heap.objs.size + 1, s1.heap.objs.size], _, _, H1, rfl, I2, turn_enumT (a := a) (e := s1.heap.objs.size + 1) (it := s1.heap.objs.size) (Nat.ne_of_lt hal) (Nat.ne_of_gt (Nat.lt_succ_of_lt hal)), ⟨⟨.none, he⟩, ⟨_, hit, rfl, rfl⟩, Nat.succ_ne_self _⟩, fun b hb => ?_, q⟩
    have e' : b = s1.heap.objs.size + 1 ∨ b = s1.heap.objs.size := by simpa using hb
    have hle : s1.heap.objs.size ≤ b := by
      rcases e' with z | z
      · rw [z]; exact Nat.le_add_right _ _
      · rw [z]; exact Nat.le_refl _
    exact I1.fpOk hle (I1.hok.fresh hle)
/-- enumerate of a list or of a tuple -/
def mEnumA (m : M D) : M (List D) := M.bind m fun d => match d with
  | .tup xs => M.ret (enumD 0 xs)
  | d => M.bind (M.opt d.items) fun xs => M.ret (enumD 0 xs)
theorem PI.or {X : Cx} {tg e : Expr} {t1 t2 : TI} (h1 : PI X tg e t1) (h2 : PI X tg e t2) : PI X tg e (fun σ H R => t1 σ H R ∨ t2 σ H R) :=
  ⟨fun pins s σ H R I h => h.elim (h1.run pins s σ H R I) (h2.run pins s σ H R I)⟩
section
variable {X : Cx} {c : Cl} {W : WX} {p pos tpos : Pos} {e : Expr} {m : M D} {elts : List Expr} {kk : Nat}
theorem di_enumA (hm : X.mg "enumerate" = none) (he : PE X e (tE X.K c W m)) (hg : Gl X "enumerate" := by rfl) (he1 : starEach [e] X.env = (false, eval e X.env) :: starEach [] X.env := by rfl) (hs : starEach [e] X.env = [(false, eval e X.env)] := by rfl) :
    PI X (.Tuple elts kk tpos) (.Call (.Name "enumerate" p) [e] [] pos) (tI X.K c W (mEnumA m)) := by
  refine PI.weak (PI.or (pi_enum hg hm (pa_cons he pa_nil he1) hs) (pi_enumT hg hm (pa_cons he pa_nil he1) hs)) fun σ H R h => ?_
  obtain ⟨F, G, P, env, Rl, h⟩ := h
  by_cases ht : ∃ xs e1, m env = .ok (.tup xs) e1
  · obtain ⟨xs, e1, hx⟩ := ht
    refine .inr ⟨F, G, P, env, Rl, ?_⟩
    have h := Post.bind h
    rw [hx] at h ⊢
    refine fun G1 H1 P1 x1 k1 R1 v r => ?_
    obtain ⟨env1, R1', h1⟩ := h G1 H1 P1 x1 k1 R1
    have h2 : Post X.K c W F G1 P1 σ env1 (.ok (enumD 0 xs) env1) _ := h1
    cases r with
    | tup h3 s => exact ⟨_, _, rfl, Same.seqT R1.gs h3, Post.here R1' h2 _ (gives_enumT h3 s)⟩
  · refine .inl ⟨F, G, P, env, Rl, ?_⟩
    have h := Post.bind h
    cases hx : m env with
    | bad => rw [hx] at h; exact h
    | exc x e1 => rw [hx] at h; exact h
    | ok d e1 =>
      rw [hx] at h
      refine fun G1 H1 P1 x1 k1 R1 v r => ?_
      obtain ⟨env1, R1', h1⟩ := h G1 H1 P1 x1 k1 R1
      have h1' : Post X.K c W F G1 P1 σ env1 (M.bind (M.opt d.items) (fun xs => M.ret (enumD 0 xs)) env1) (fun ds G' H' _ => ∀ J, Gives X.K c G' J ds → R J H') := by
        cases d with
        | tup xs => exact absurd ⟨xs, e1, hx⟩ ht
        | _ => exact h1
      cases e2 : d.items with
      | none => rw [e2] at h1'; exact h1'.elim
      | some xs =>
        rw [e2] at h1'
        have h2 : Post X.K c W F G1 P1 σ env1 (.ok (enumD 0 xs) env1) _ := h1'
        cases r with
        | lst h3 s => cases e2; exact ⟨_, _, rfl, SqL.of (R1.gs _ _ h3), Post.here R1' h2 _ (gives_enum (SqL.of h3) s)⟩
        | ro h3 s => cases e2; exact ⟨_, _, rfl, R1.gs.seq h3, Post.here R1' h2 _ (gives_enum h3 s)⟩
        | _ => cases e2
end
def enumR (d : D) (e : Ev) : Res (List D) := match d with
  | .tup xs => .ok (enumD 0 xs) e
  | d => (M.opt d.items e).bnd fun xs e => .ok (enumD 0 xs) e
@[simp] theorem ev_enumA {m : M D} {e : Ev} : mEnumA m e = (m e).bnd fun d e => enumR d e := by
  show Res.bnd _ _ = _
  congr 1; funext d e; cases d <;> rfl
@[simp] theorem enumR_tup {xs : List D} {e : Ev} : enumR (.tup xs) e = .ok (enumD 0 xs) e := rfl
@[simp] theorem enumR_lst {xs : List D} {e : Ev} : enumR (.lst xs) e = .ok (enumD 0 xs) e := rfl
end L2.DL
set_option Elab.async false
set_option linter.all false
set_option maxRecDepth 100000
set_option maxHeartbeats 4000000
namespace L2.DL
open PySem PySem.Spec PyProof.Rows
/-! ### more suites: x + y, f(x) of a built-in -/
section
variable {X : Cx} {c : Cl} {i : Option Nat} {a : Addr} {cv : Value} {dd : Option Addr} {o : Obj} {pn : List (Addr × Obj)} {pos pp : Pos} {e e' : Expr} {s1 s2 : Sv}
theorem sx_bin {op : Operator} {g : D → D → Option D} (ho : OpD (X.suite a ((a, o) :: pn)) c (binaryOp op) g) (h1 : PE (X.suite a ((a, o) :: pn)) e (tX X.K c i a cv dd s1)) (h2 : PE (X.suite a ((a, o) :: pn)) e' (tX X.K c i a cv dd s2)) :
    PE (X.suite a ((a, o) :: pn)) (.BinOp e op e' pos) (tX X.K c i a cv dd fun n od => (s1 n od).bind fun x => (s2 n od).bind fun y => g x y) := by
  refine PE.weak (pe_op ho h1 h2) fun σ H Q h => ?_
  obtain ⟨ha, G, n, od, w, hs, ht, hx, e1, q⟩ := h
  obtain ⟨x, ex, e1⟩ := Option.bind_eq_some_iff.mp e1
  obtain ⟨y, ey, e1⟩ := Option.bind_eq_some_iff.mp e1
  refine ⟨ha, G, n, od, x, hs, ht, hx, ex, fun G1 H1 v p r => ⟨ha, G1, n, od, y, p.gs, ⟨p.tabs ht.1, p.ng ht.2⟩, hx.mono p.same p.hs, ey, fun G2 H2 v2 p2 r2 => ?_⟩⟩
  exact ⟨G2, x, y, w, p2.gs, ⟨p2.tabs (p.tabs ht.1), p2.ng (p.ng ht.2)⟩, r.mono p2.same, r2, e1, fun G3 H3 v3 p3 r3 => q G3 H3 v3 ((p.trans p2).trans p3) r3⟩
theorem sx_callB {x : Str} {p : Pos} {id : String} {g : List D → Option D} (hc : CallD (X.suite a ((a, o) :: pn)) c (.builtin id) g) (hg : Gl (X.suite a ((a, o) :: pn)) x) (hm : X.mg x = none) (hv : bootBuiltins x = some (.builtin id)) (h1 : PE (X.suite a ((a, o) :: pn)) e (tX X.K c i a cv dd s1))
    (hn : x ≠ "__name__" := by decide) (hdb : (x == ("__debug__" : Str)) = false := by decide)
    (he : starEach [e] X.env = (false, eval e X.env) :: starEach [] X.env := by rfl) (hpl : (backTo pos (starEach [] X.env)).any (·.1) = false := by rfl) :
    PE (X.suite a ((a, o) :: pn)) (.Call (.Name x p) [e] [] pos) (tX X.K c i a cv dd fun n od => (s1 n od).bind fun d => g [d]) := by
  refine PE.weak (pe_callB (X := X.suite a ((a, o) :: pn)) hc hg hm hv (pa_cons h1 pa_nil he) hn hdb he hpl) fun σ H Q h => ?_
  obtain ⟨ha, G, n, od, w, hs, ht, hx, e1, q⟩ := h
  obtain ⟨d, ed, e1⟩ := Option.bind_eq_some_iff.mp e1
  exact ⟨ha, G, n, od, d, hs, ht, hx, ed, fun G1 H1 v p r => ⟨G1, [d], w, p.gs, .cons r .nil, e1, fun G2 H2 v2 p2 r2 => q G2 H2 v2 (p.trans p2) r2⟩⟩
end
/-! ### a lambda handed to a def of one's own -/
section
variable {X : Cx} {pins : List (Addr × Obj)} {σ : L2.St} {F G H : Hp} {s : Shared} {c : Cl}
/-- a lambda made: the table may have grown -/
theorem lam_new {cd P : Addr} {args : Arguments} {body : Expr} {sc : Scope} {at_ : Pos} {Er Qr : Value → Shared → Prop} (I : Inv X pins σ H s) (tbb : LamX.TabB X.base X.mg cd P) (own : X.env.code = .ref cd) (gs : Same G H) (tb : Tb c F G H)
    (listed : (P, X.env.qual ++ "<lambda>") ∈ c.tb) (only : ∀ p ∈ c.tb, p.1 = P → p.2 = X.env.qual ++ "<lambda>") (nodef : defaultsOf args X.env = ([], [])) (free : ∀ y ∈ sc.names, y.2 = .free → ∃ b, X.env.cells.lookup y.1 = some b)
    (goal : ∀ (f a : Addr) (pm ctv : Value) (H1 G1 : Hp) (s1 : Shared), Inv X pins σ H1 s1 → LamX.ExtN H H1 → Same G G1 → Same G1 H1 → (∀ b, H b ≠ none → G b = none → G1 b = none) → Tb c F G1 H1 →
      s1.heap.get? f = some (PySem.W.kla_obj "<lambda>" (X.env.qual ++ "<lambda>") args body sc (cloFrom X.env.cells sc.names []) pm a ctv) → H1 f = none → f ∉ frs X.stack → G1 a = some (LamX.CodeO a (X.env.qual ++ "<lambda>")) → Qr (.ref f) s1) :
    wpAny (model X.prog X.w) X.A (eval (.Lambda args body sc at_) X.env) Qr Er s := by
  obtain ⟨rows, atP, trip, known⟩ := tb.tabs _ listed
  apply PySem.W.kla_eval nodef
  have base : s.heap.BuiltinsAt X.mg P := tbb.bm.keeps I.bk
  have conc : s.heap.get? P = some { cls := .none, data := .fields rows } := I.hok P _ atP
  have offstack : ∀ {f : Addr}, s.heap.objs.size ≤ f → f ∉ frs X.stack := fun {f} big z => by
    cases List.mem_cons.mp (I.stkSub _ z) with
    | inl e =>
      have small := I.lt
      rw [← e] at small
      exact Nat.lt_irrefl _ (Nat.lt_of_lt_of_le small big)
    | inr e => exact absurd e (I.nofs big)
  cases look : codeAmong at_ rows.toList with
  | some there =>
    obtain ⟨a, rfl, ga⟩ := known at_ there look
    apply PySem.W.kla_makeFunctionHit (mg := X.mg) (c := cd) (P := P) (ps := rows) (closure_ok free) I.ok.glob (I.mod.glob.keeps I.bk) own (tbb.code.keeps I.bk) conc trip look base
    intro ctv h1 tk grow big
    have J := I.kept (t' := tk) (h' := h1.push (PySem.W.kla_obj "<lambda>" (X.env.qual ++ "<lambda>") args body sc (cloFrom X.env.cells sc.names []) ((X.mg "__name__").getD .none) a ctv)) fun b o e => Heap.get?_push_of_some _ (grow b o e)
    exact goal h1.objs.size a _ ctv H G _ J (LamX.ExtN.refl H) (Same.refl G) gs (fun _ _ n => n) tb (Heap.get?_push_size _ rfl) (I.hok.fresh big) (offstack big) ga
  | none =>
    apply PySem.W.kla_makeFunction (mg := X.mg) (c := cd) (P := P) (ps := rows) (closure_ok free) I.ok.glob (I.mod.glob.keeps I.bk) own (tbb.code.keeps I.bk) conc trip look tbb.gP base
    intro a ctv h1 tk grow far near record wrote
    obtain ⟨a2, oc, vs, t, same, hoc, hd, hv⟩ := record
    cases same
    have big : s.heap.objs.size ≤ h1.objs.size := Nat.le_trans far (Nat.le_of_lt near)
    have newA : H a = none := I.hok.fresh far
    have J := LamX.inv_table (t' := tk) (more := #[rawInt at_.line, rawInt at_.col, .ref a]) (h' := h1.push (PySem.W.kla_obj "<lambda>" (X.env.qual ++ "<lambda>") args body sc (cloFrom X.env.cells sc.names []) ((X.mg "__name__").getD .none) a ctv)) I atP
      (fun b o hb e => Heap.get?_push_of_some _ (grow b o hb e)) (Heap.get?_push_of_some _ wrote) far ⟨oc, vs, t, Heap.get?_push_of_some _ hoc, hd, hv⟩
    have kept : LamX.ExtN H (upd (upd H P (.tbl (rows ++ #[rawInt at_.line, rawInt at_.col, .ref a]))) a (LamX.CodeO a (X.env.qual ++ "<lambda>"))) := by
      intro b o e n
      have b1 : b ≠ a := ne_of_none e newA
      have b2 : b ≠ P := fun z => n rows (by rw [z, atP] at e; exact (Option.some.inj e).symm)
      rw [upd_ne b1, upd_ne b2]
      exact e
    have newG : G a = none := none_of gs newA
    have gg : Same G (upd G a (LamX.CodeO a (X.env.qual ++ "<lambda>"))) := same_new newG
    have gh : Same (upd G a (LamX.CodeO a (X.env.qual ++ "<lambda>"))) (upd (upd H P (.tbl (rows ++ #[rawInt at_.line, rawInt at_.col, .ref a]))) a (LamX.CodeO a (X.env.qual ++ "<lambda>"))) := by
      intro b o e
      by_cases hb : b = a
      · subst hb
        rw [upd_same] at e ⊢
        exact e
      · rw [upd_ne hb] at e ⊢
        have e2 := gs b o e
        rw [upd_ne fun z => by rw [z, atP] at e2; exact tb.ng b rows (by rw [e]; exact e2.symm)]
        exact e2
    have asList : (rows ++ #[rawInt at_.line, rawInt at_.col, Value.ref a]).toList = rows.toList ++ [rawInt at_.line, rawInt at_.col, Value.ref a] := by simp
    have tb1 : Tb c F (upd G a (LamX.CodeO a (X.env.qual ++ "<lambda>"))) (upd (upd H P (.tbl (rows ++ #[rawInt at_.line, rawInt at_.col, .ref a]))) a (LamX.CodeO a (X.env.qual ++ "<lambda>"))) := by
      refine ⟨fun p hp => ?_, tb.nf, not_upd tb.ng fun ps => LamX.codeO_ne ps⟩
      by_cases hP : p.1 = P
      · rw [only p hp hP, hP]
        refine ⟨_, by rw [upd_ne (ne_of_none atP newA), upd_same], by rw [asList]; exact PySem.TriplesOk_snoc _ _ _ _ trip, fun q w e => ?_⟩
        rw [asList] at e
        cases LamX.among_app _ trip e with
        | inl z =>
          obtain ⟨b, e1, e2⟩ := known q w z
          exact ⟨b, e1, gg _ _ e2⟩
        | inr z => exact ⟨a, z, upd_same⟩
      · obtain ⟨ps, a1, a2, a3⟩ := tb.tabs p hp
        refine ⟨ps, by rw [upd_ne (ne_of_none a1 newA), upd_ne hP]; exact a1, a2, fun q w e => ?_⟩
        obtain ⟨b, e1, e2⟩ := a3 q w e
        exact ⟨b, e1, gg _ _ e2⟩
    have fr : h1.objs.size ≠ a := Nat.ne_of_gt near
    have fP : h1.objs.size ≠ P := Nat.ne_of_gt (Nat.lt_of_lt_of_le (Heap.lt_size conc) big)
    exact goal h1.objs.size a _ ctv _ _ _ J kept gg gh (fun b hb n => by rw [upd_ne fun z => hb (by rw [z]; exact newA)]; exact n) tb1 (Heap.get?_push_size _ rfl) (by rw [upd_ne fr, upd_ne fP]; exact I.hok.fresh big) (offstack big) upd_same
end
end L2.DL
set_option Elab.async false
set_option linter.all false
set_option maxRecDepth 100000
set_option maxHeartbeats 4000000
namespace L2.DL
open PySem PySem.Spec PyProof.Rows
/-! ### the lambda called, in the def that got it -/
section
variable {X : Cx} {pins : List (Addr × Obj)} {σ : L2.St} {H : Hp} {s : Shared}
theorem act_lam {Eg : XK} {Ng : List Str} {qg : Str} {sg : Scope} {g f b : Addr} {cdg pm ctv : Value} {args : Arguments} {body : Expr} {sc : Scope} {k : Nat} {y : Str} {pn : List (Addr × Obj)} {xe : Value → Shared → Prop} {W : WX} {t : XK → TE} {p1 p2 : Pos}
    (I : Inv X pins σ H s) (L : LamX.LamS X.env.scope sc) (isF : s.heap.get? f = some (PySem.W.kla_obj "<lambda>" (X.env.qual ++ "<lambda>") args body sc (cloFrom X.env.cells sc.names []) pm b ctv)) (newF : H f = none) (offF : f ∉ frs X.stack)
    (noargs : bindArgs (PySem.W.kla_fn "<lambda>" (X.env.qual ++ "<lambda>") args body sc (cloFrom X.env.cells sc.names []) pm (.ref b) ctv) ⟨[], []⟩ = pure [])
    (tk : Takes ((cxOf (L2.CX X.prog X.w) X.prog X.w X.K X.mg X.base Ng qg sg g cdg X.A X.stack s H Eg).tr pn xe) W) (room : RoomG (k + 1) (X.A.deeper (envOfC qg sg s.heap.objs.size g cdg)))
    (walk : ∀ (A : Around) (outer : List Env) (s : Shared) (H : Hp) (E : XK), RoomG k (A.deeper (LamX.lamEnv X sc s.heap.objs.size f b)) → PE (LamX.lamCx X A outer s H E sc f b) body (t E))
    (hN : Ng[0]? = some y) (hv : Vis sg y) (nd : (y == ("__debug__" : Str)) = false := by decide) (nc : (y == ("__classdict__" : Str)) = false := by decide) :
    PE ((cxOf (L2.CX X.prog X.w) X.prog X.w X.K X.mg X.base Ng qg sg g cdg X.A X.stack s H Eg).tr pn xe) (.Call (.Name y p1) [] [] p2)
      (fun τ HZ Q => τ[0]? = some (some (.ref f)) ∧ HZ b = some (LamX.CodeO b (X.env.qual ++ "<lambda>")) ∧ t (fun cls d H' => W cls d τ H') σ HZ Q) := by
  constructor
  intro pinsZ sZ τ HZ Q IZ ⟨held, coded, wish⟩
  apply wpAny_Call_Name_kw
  refine thn ((pe_var (pos := p1) (i := 0) hN hv nd nc).run pinsZ sZ τ HZ (fun v H1 => v = .ref f ∧ H1 = HZ) IZ ⟨.ref f, held, rfl, rfl⟩) fun u s1 ⟨v, H1, I1, r1, q1, q2⟩ => ?_
  subst q1
  subst q2
  cases (show u = Value.ref f from r1)
  have still := I1.base.keep f _ isF newF offF (fun z => by cases (show f ∈ ([] : List Addr) from z))
  apply PySem.W.callWith_F0 ⟨_, _, _, _, still⟩
  have moved : Un (frs X.stack) [] H H1 s.heap s1.heap := I1.base
  obtain ⟨⟨oc, vs, tt, c1, c2, c3⟩, _, _⟩ := I1.hok b _ coded
  have go : codeAny (model X.prog X.w) (X.A.deeper (envOfC qg sg s.heap.objs.size g cdg)) (.call (.ref f) ⟨[], []⟩) (CR (L2.CX X.prog X.w) (envOfC qg sg s.heap.objs.size g cdg :: X.stack) X.prog X.w H1 s1 Q (fun cls d H' => W cls d τ H')) s1 := by
    apply PySem.W.kla_callFunE room.depth still rfl L.co L.gen rfl ⟨b, oc, vs, tt, rfl, c1, c2, c3⟩
    rw [noargs]
    apply wpAny_pure
    apply wpAny_newFunctionEnv (fun z hz => (L.own z hz).2) (fun z hz => absurd hz (by simp)) _ L.kind
    intro h1 loc step
    refine ⟨I1.nolimit.fresh _ step, ?_⟩
    show codeAny _ _ (.expr body (LamX.lamEnv X sc s1.heap.objs.size f b)) _ _
    have up : ∀ d o, s1.heap.get? d = some o → h1.get? d = some o := fun d o e => step.extBut d o (Nat.ne_of_lt (Heap.lt_size e)) (Heap.get?_push_of_some _ e)
    have J : Inv (LamX.lamCx X (X.A.deeper (envOfC qg sg s.heap.objs.size g cdg)) (envOfC qg sg s.heap.objs.size g cdg :: X.stack) s1 H1 (fun cls d H' => W cls d τ H') sc f b) [] σ H1 { s1 with heap := h1, toks := s1.toks + ([] : List (Str × Value)).length } :=
      LamX.lam_start2 I L I1.env0 room.hd moved loc up
    apply PySem.W.kla_codeExpr
    refine wpAny_mono ((walk _ _ s1 H1 _ (room.deeper _)).run [] _ _ H1 Q J wish) (fun w s2 out => ?_) fun _ _ z => z
    obtain ⟨x, H2, J2, rx, qx⟩ := out
    exact ⟨x, H2, J2.os, J2.bare, J2.base, J2.hok, rx, qx⟩
  apply wpAny_call
  refine codeAny_mono go fun r s2 out => ?_
  match r, out with
  | .error e, out => exact passAt tk τ pinsZ H1 s1 e s2 I1 out
  | .ok .next, out => exact out.elim
  | .ok .brk, out => exact out.elim
  | .ok .cont, out => exact out.elim
  | .ok (.ret u), out => exact I1.after out
end
/-! ### told(lambda: e), by data -/
/-- what the def makes of the answer: its own word, or what was answered; by its clauses for an exception -/
def lamGo (n : Nat) (od : Option D) (e : Ev) : List (Option Nat × (Nat → Option Bool) × Sv) → Res D
  | [] => .bad
  | (_, h, s) :: r => match h n with
    | some true => match s n od with
      | some w => .ok w e
      | none => .bad
    | some false => lamGo n od e r
    | none => .bad
def lamR (kd : Option D) (cs : List (Option Nat × (Nat → Option Bool) × Sv)) : Res D → Res D
  | .ok d e => .ok (kd.getD d) e
  | .exc (.own n od) e => lamGo n od e cs
  | _ => .bad
def mLam (kd : Option D) (cs : List (Option Nat × (Nat → Option Bool) × Sv)) (th : M D) : M D := fun e => lamR kd cs (th e)
/-- the body of the try, f() called first -/
def BodyT (y : Str) (bs : List Stmt) (kv : Option V) : Prop := ∃ p1 p2, ∀ (Z : Cx) (t : TE), PE Z (.Call (.Name y p1) [] [] p2) t → PSs Z bs (fun D σ H => t σ H fun v H' => D.rt (kv.getD v) H')
theorem bt_ret {y : Str} {p1 p2 p3 : Pos} : BodyT y [.Return (some (.Call (.Name y p1) [] [] p2)) p3] none := ⟨p1, p2, fun Z t h => pss_one (ps_ret h)⟩
theorem bt_const {y z : Str} {p1 p2 p3 p4 p5 : Pos} {j : Nat} : BodyT y [.Expr (.Call (.Name y p1) [] [] p2) p3, .Return (some (.Constant (.str z) j p4)) p5] (some (.str z)) := ⟨p1, p2, fun Z t h => by
  refine PSs.weak (pss_cons (ps_expr h (by rfl)) (pss_one (ps_ret pe_str))) fun D σ H q => ?_
  exact q⟩
theorem clauses_at {X : Cx} {hs : List ExceptHandler} {l : List Clause} (h : ClausesOk X hs l) : ∀ q ∈ l, ∀ i, q.2.1 = some i → i < X.N.length := by
  induction h with
  | nil => intro q hq; cases hq
  | @cons x cv j nm ts st sts p q' hs l known named suite more ih =>
    intro q hq i e
    rcases List.mem_cons.mp hq with rfl | hq
    · have e' : j = some i := e
      subst e'
      obtain ⟨y, _, _, h3, _⟩ := named
      exact (List.getElem?_eq_some_iff.mp h3).1
    · exact ih q hq i e
/-- a def that calls what it got -/
structure ToldF (P : Program) (w : World) (K : PySem.W.Frag) (mg : Str → Option Value) (base : Heap) (c : Cl) (x : Str) (k : Nat) (kd : Option D) (cs : List (Option Nat × (Nat → Option Bool) × Sv)) : Prop where
  ex : ∃ (g : Addr) (qual y : Str) (st : Stmt) (fd : FuncData) (Ng : List Str) (bs : List Stmt) (h₁ : ExceptHandler) (hs : List ExceptHandler) (pos : Pos) (kv : Option V), mg x = some (.ref g) ∧ PySem.W.keepIn K (.ref g) = true ∧ Fun K x qual st g fd ∧ FnScope Ng [y] (defScope st) ∧ Binds K fd [y] [] ∧
    defBody st = [.Try bs (h₁ :: hs) [] [] pos] ∧ BodyT y bs kv ∧ Ng[0]? = some y ∧ Vis (defScope st) y ∧ (y == ("__debug__" : Str)) = false ∧ (y == ("__classdict__" : Str)) = false ∧ (∀ G v d, Rep K c G v d → Rep K c G (kv.getD v) (kd.getD d)) ∧
    ∀ (cdv : Value) (A : Around) (outer : List Env) (s : Shared) (H : Hp) (E : XK), RoomG k (A.deeper (envOfC qual (defScope st) s.heap.objs.size g cdv)) → TryD (cxOf (L2.CX P w) P w K mg base Ng qual (defScope st) g cdv A outer s H E) c (h₁ :: hs) cs
section
variable {X : Cx} {c : Cl} {W : WX} {x : Str} {k : Nat} {kd : Option D} {cs : List (Option Nat × (Nat → Option Bool) × Sv)} {th : M D} {cd P : Addr} {args : Arguments} {body : Expr} {sc : Scope} {p lp pos : Pos}
theorem de_lam (T : ToldF X.prog X.w X.K X.mg X.base c x k kd cs) (tbb : LamX.TabB X.base X.mg cd P) (own : X.env.code = .ref cd) (listed : (P, X.env.qual ++ "<lambda>") ∈ c.tb) (only : ∀ p ∈ c.tb, p.1 = P → p.2 = X.env.qual ++ "<lambda>") (room : RoomG (k + 2) X.A)
    (L : LamX.LamS X.env.scope sc) (nodef : defaultsOf args X.env = ([], [])) (noargs : ∀ (q : Str) (cl : List (Str × Addr)) (pm cv ctv : Value), bindArgs (PySem.W.kla_fn "<lambda>" q args body sc cl pm cv ctv) ⟨[], []⟩ = pure [])
    (walk : ∀ (A : Around) (outer : List Env) (s : Shared) (H : Hp) (E : XK) (f b : Addr), RoomG k (A.deeper (LamX.lamEnv X sc s.heap.objs.size f b)) → PE (LamX.lamCx X A outer s H E sc f b) body (tE X.K c (fun cv dd _ H' => E cv dd H') th))
    (hg : Gl X x := by rfl) (hdb : (x == ("__debug__" : Str)) = false := by decide) : PE X (.Call (.Name x p) [.Lambda args body sc lp] [] pos) (tE X.K c W (mLam kd cs th)) := by
  obtain ⟨g, qual, y, st, fd, Ng, bs, h₁, hs, tpos, kv, hm, hk, Fd, S, bnd, hst, ⟨p1, p2, bt⟩, hN0, hv, nd, nc, hkv, td⟩ := T.ex
  obtain ⟨oc, od, kV, doc, pm0, an, cdv, ct, osl, rfl, lk, hcd⟩ := Fd.ex
  constructor
  intro pins s σ H Q I ⟨F, G, P0, env, R, wish0⟩
  apply wpAny_Call_Name_kw
  refine ld_glob I hg hm ?_ hdb
  refine PySem.W.callWith_K (h₀ := X.base) I.ok.mod.kin hk ?_ (by rfl) (by rfl)
  show wpAny _ _ (spliced ((false, eval (.Lambda args body sc lp) X.env) :: backTo pos (starEach [] X.env))) _ _ s
  refine Calls.spliced_cons (lam_new I tbb own R.gs R.tb listed only nodef (L.has I.ok) fun f b pm ctv H1 G1 s1 J ext gg gh fresh tb1 isF newF offF ga => ?_)
  refine Calls.spliced_nil ⟨J.kIn, ?_⟩
  have R1 : Rel X.K c F G1 H1 P0 σ env := by
    refine ⟨ext_nt R.fs R.tb.nf ext, gh, R.all.move gg fun d hd o e => ?_, fun d hd => ⟨(R.out d hd).1, ?_⟩, R.nd, tb1⟩
    · obtain ⟨o', e1, e2⟩ := R.all.obj d hd
      rw [e] at e1
      cases e1
      exact ext d o e e2
    · obtain ⟨o', e1, _⟩ := R.all.obj d hd
      exact fresh d (by rw [e1]; exact fun z => nomatch z) (R.out d hd).2
  have X1 : Ext F G G1 := ⟨gg, fun d n1 n2 => by
    cases e : F d with
    | none => exact absurd e n2
    | some o => exact fresh d (by rw [R.fs d o e]; exact fun z => nomatch z) n1⟩
  have wish := wish0.chain X1 (Keep.refl P0 env)
  clear wish0
  have go : codeAny (model X.prog X.w) X.A (.call (.ref g) ⟨[.ref f], []⟩) (CR (L2.CX X.prog X.w) X.stack X.prog X.w H1 s1 Q E0) s1 := by
    refine LamX.run_ofS (N := Ng) (ps := [y]) (us := [.ref f]) (vs := [.ref f]) lk hcd S room.room J.env0 (bnd s1 [.ref f] J.kIn rfl) (.cons rfl .nil) rfl fun _ => ?_
    have room' := room.deeper (envOfC qual (defScope st) s1.heap.objs.size g cdv)
    obtain ⟨l, cok, csd⟩ := td cdv X.A X.stack s1 H1 E0 (room'.mono (Nat.le_succ k))
    have run := pss_one (ps_try_clauses (pos := tpos) (X := cxOf (L2.CX X.prog X.w) X.prog X.w X.K X.mg X.base Ng qual (defScope st) g cdv X.A X.stack s1 H1 E0) (Wo := fun _ _ _ _ => False)
      (tb := fun W' D τ HZ => τ[0]? = some (some (.ref f)) ∧ HZ b = some (LamX.CodeO b (X.env.qual ++ "<lambda>")) ∧ tE X.K c (fun cv dd _ H' => W' cv dd τ H') th σ HZ fun v H' => D.rt (kv.getD v) H') rfl rfl LamX.takes0
      (fun W' pn xe tk _ => bt _ _ (act_lam (t := fun E => tE X.K c (fun cv dd _ H' => E cv dd H') th) J L isF newF offF (noargs _ _ _ _ _) tk room' (fun A outer s H E r => walk A outer s H E f b r) hN0 hv nd nc)) cok)
    rw [← hst] at run
    refine ⟨_, run, ?_⟩
    have len : (L2.start Ng [V.ref f]).length = Ng.length := by
      unfold L2.start
      have : 0 < Ng.length := (List.getElem?_eq_some_iff.mp hN0).1
      simp
      omega
    refine ⟨by unfold L2.start; rfl, gh _ _ ga, F, G1, P0, env, R1, ?_⟩
    unfold mLam at wish
    cases q : th env with
    | bad => rw [q] at wish; exact wish
    | ok d e =>
      rw [q] at wish
      exact fun G' H' P' x1 k1 R' v r => wish G' H' P' x1 k1 R' _ (hkv G' v d r)
    | exc xx e =>
      rw [q] at wish
      cases xx with
      | ty _ => exact wish.elim
      | own n od2 =>
        intro G' H' P' cv dd x1 k1 R' rx
        have hx : xHere c X.K cv dd G' H' n od2 := by
          cases rx with
          | own0 => exact ⟨rfl, fun d z => by cases z⟩
          | own1 h2 r2 => exact ⟨rfl, fun d z => by cases z; exact ⟨_, _, rfl, h2, r2⟩⟩
        have at_ := clauses_at cok
        clear run cok T td
        replace wish : Post X.K c W F G1 P0 σ env (lamGo n od2 e cs) _ := wish
        induction csd with
        | nil => exact wish.elim
        | @cons cl hh sv l r hc _ ih =>
          unfold lamGo at wish
          cases e1 : hh n with
          | none => rw [e1] at wish; exact wish.elim
          | some hit =>
            have hit1 := hc.hit n hit e1
            rw [← hx.1] at hit1
            refine ⟨hit, hit1, fun yes a na => ?_, fun no => ?_⟩
            · subst yes
              rw [e1] at wish
              dsimp only at wish
              cases e2 : sv n od2 with
              | none => rw [e2] at wish; exact wish.elim
              | some w =>
                rw [e2] at wish
                refine hc.ok a cv dd _ _ H' ⟨fun j ej => ?_, G', n, od2, w, R'.gs, ⟨R'.tb.tabs, R'.tb.ng⟩, hx, e2, fun G2 H2 v pu rv => ?_⟩
                · rw [ej]
                  exact List.getElem?_set_self (by rw [len]; exact at_ cl List.mem_cons_self j ej)
                · obtain ⟨x2, R2⟩ := R'.pure pu
                  exact wish G2 H2 P' (x1.trans x2) k1 R2 v rv
            · subst no
              rw [e1] at wish
              exact ih (fun q hq => at_ q (List.mem_cons_of_mem _ hq)) wish
  refine wpAny_call (codeAny_mono go fun r s2 out => ?_)
  match r, out with
  | .error e, out => exact (cx_E0 out).elim
  | .ok .next, out => exact out.elim
  | .ok .brk, out => exact out.elim
  | .ok .cont, out => exact out.elim
  | .ok (.ret u), out => exact J.after out
end
end L2.DL
set_option Elab.async false
set_option linter.all false
set_option maxRecDepth 100000
set_option maxHeartbeats 4000000
namespace L2.DL
open PySem PySem.Spec PyProof.Rows
/-! ### the end, with tables -/
def TabsIn (cs : List (Addr × Addr)) (b : Addr) : Prop := ∃ p ∈ cs, p.2 = b
theorem law_runsT {P : Program} {w : World} {K : PySem.W.Frag} {mg mb : Str → Option Value} {k : Nat} {fa a : Addr} {fd : FuncData} {x : Str} {sp : Sp} {s₁ : Shared} {vs : List Value} {ns : List Int} {cs : List (Addr × Addr)}
    (inK : K.In s₁.heap) (gl : s₁.heap.Ns mainGlobals mg) (bl : s₁.heap.Ns builtinsNs mb) (boot : ∀ y : Str, y ≠ "__name__" → mb y = bootBuiltins y) (nolim : s₁.heap.NoLimit) (nog : s₁.gens = #[])
    (empty : ∀ p ∈ cs, s₁.heap.get? p.2 = some (PySem.W.tabObj #[])) (offK : ∀ p ∈ cs, K.lookup p.2 = none) (heads : ∀ p ∈ cs, PySem.W.CodeHd s₁.heap p.1 p.2)
    (bmain : ∃ (bm : Addr) (ob : Obj), mg "__builtins__" = some (.ref bm) ∧ bm ≠ builtinsNs ∧ s₁.heap.get? bm = some ob ∧ ob.cls = .type "module" ∧ ob.dict = some builtinsNs ∧ ob.data = .plain)
    (at_ : s₁.heap.get? a = some { cls := .type "list", data := .seq vs.toArray }) (hints : IntsAre vs ns) (few : ns.length ≤ sizeLine) (room : Room k callerA)
    (F : ∀ base : Heap, K.In base → base.Ns mainGlobals mg → (∀ p ∈ cs, LamX.TabB base mg p.1 p.2) → FnG P w K mg base (L2.CX P w) k fa fd [x] sp) (bnd : ∀ (s : Shared) (u : Value), BindsTo s fd ⟨[u], []⟩ [(x, u)])
    (told : ∀ H : Hp, (∀ p ∈ cs, H p.2 = some (.tbl #[])) → SqL K H a (ns.map V.int) → sp [.ref a] H (fun v _ => v = .bl true) fun _ _ _ => False) :
    codeAny (model P w) callerA (.call (.ref fa) ⟨[.ref a], []⟩) (fun r s' => r = .ok (.ret (.bool true)) ∧ OldK s₁.heap s'.heap ∧ s'.os = s₁.os ∧ AllBare s'.gens) s₁ := by
  have vals := vals_ints hints
  have lens := hints.length
  have isTab : ∀ {b : Addr}, TabsIn cs b → s₁.heap.get? b = some (PySem.W.tabObj #[]) := by
    rintro b ⟨p, hp, rfl⟩
    exact empty p hp
  have aNot : ¬ TabsIn cs a := fun z => by
    have e := isTab z
    rw [at_] at e
    injection e with e
    injection e with _ _ e
    cases e
  have main : ∀ H : Hp, (∀ p ∈ cs, H p.2 = some (.tbl #[])) → (∀ b u, H b = some u → TabsIn cs b ∨ (b = a ∧ K.lookup a = none ∧ ∃ o xs, u = .frz o (.lst xs))) → SqL K H a (ns.map V.int) → HOk P w H s₁.heap →
      codeAny (model P w) callerA (.call (.ref fa) ⟨[.ref a], []⟩) (fun r s' => r = .ok (.ret (.bool true)) ∧ OldK s₁.heap s'.heap ∧ s'.os = s₁.os ∧ AllBare s'.gens) s₁ := by
    intro H tabs only seq hok
    have keepT : ∀ {b : Addr} {o : Obj}, s₁.heap.get? b = some o → H b = none → (hidT s₁.heap H).get? b = some o := fun e n => hidT_get e n
    -- what is neither a list nor an empty table is not known
    have other : ∀ {b : Addr} {o : Obj}, s₁.heap.get? b = some o → (∀ us n, o.data ≠ .seq us n) → o.data ≠ .fields #[] → H b = none := by
      intro b o e n1 n2
      cases hb : H b with
      | none => rfl
      | some u =>
        rcases only b u hb with z | ⟨z, _⟩
        · have e2 := isTab z
          rw [e] at e2
          injection e2 with e2
          rw [e2] at n2
          exact absurd rfl n2
        · subst z
          rw [at_] at e
          injection e with e
          rw [← e] at n1
          exact absurd rfl (n1 _ _)
    have dictOff : ∀ {b : Addr} {o : Obj} {es : Array DictEntry} {ep : Nat}, s₁.heap.get? b = some o → o.data = .dict es ep → H b = none := fun e d =>
      other e (fun us n z => by rw [d] at z; cases z) (fun z => by rw [d] at z; cases z)
    have nsT : ∀ {b : Addr} {m : Str → Option Value}, s₁.heap.Ns b m → (hidT s₁.heap H).Ns b m := by
      rintro b m ⟨o, es, ep, e, d, rest⟩
      exact ⟨o, es, ep, keepT e (dictOff e d), d, rest⟩
    have inT : K.In (hidT s₁.heap H) := by
      intro b o e
      refine keepT (inK b o e) ?_
      cases hb : H b with
      | none => rfl
      | some u =>
        rcases only b u hb with ⟨p, hp, rfl⟩ | ⟨rfl, z, _⟩
        · rw [offK p hp] at e; cases e
        · rw [z] at e; cases e
    have modT : Mod K mg (hidT s₁.heap H) := ⟨inT, nsT gl, ⟨mb, nsT bl, boot⟩, by obtain ⟨mc, h1, h2⟩ := nolim; exact ⟨mc, nsT h1, h2⟩⟩
    have tabB : ∀ p ∈ cs, LamX.TabB (hidT s₁.heap H) mg p.1 p.2 := by
      intro p hp
      have e1 := empty p hp
      refine ⟨?_, ?_, ?_⟩
      · obtain ⟨o, us, file, tf, flags, tg, inF, text, tt, g1, g2, g3, rest⟩ := heads p hp
        refine ⟨o, us, file, tf, flags, tg, inF, text, tt, keepT g1 (other g1 (fun vs n z => by rw [g3] at z; cases z) fun z => ?_), g2, g3, rest⟩
        rw [g3] at z
        cases z
        have := rest.1
        simp at this
      · obtain ⟨bm, ob, b1, b2, b3, b4, b5, b6⟩ := bmain
        refine ⟨bm, ob, b1, b2, fun z => ?_, fun z => ?_, keepT b3 (other b3 (fun vs n z => by rw [b6] at z; cases z) fun z => by rw [b6] at z; cases z), b4, b5, b6⟩
        · obtain ⟨o, es, ep, e, d, _⟩ := gl
          rw [z, e] at b3
          injection b3 with b3
          rw [b3, b6] at d
          cases d
        · rw [z, e1] at b3
          injection b3 with b3
          rw [← b3] at b6
          cases b6
      · intro z
        obtain ⟨o, es, ep, e, d, _⟩ := gl
        rw [z, e1] at e
        injection e with e
        rw [← e] at d
        cases d
    have nofr : ∀ b ∈ frs ([] : List Env), H b = none := fun b hb => absurd (show b ∈ ([] : List Addr) from hb) (by simp)
    have e0 : Env0 P w K mg (hidT s₁.heap H) callerA [] s₁ H := ⟨rfl, modT, fun b o e => of_hidT e, Nat.le_of_eq (hidT_size _ _), trivial, nofr, hok, .of_eq nog⟩
    have go := (F _ inT (nsT gl) tabB).run callerA [] s₁ H ⟨[.ref a], []⟩ [.ref a] [.ref a] _ _ (roomG_caller room) e0 (bnd s₁ (.ref a)) (.cons rfl .nil) (told H tabs seq)
    refine codeAny_mono go fun r s' res => ?_
    match r, res with
    | .error er, res =>
      obtain ⟨_, _, _, _, _, _, _, _, _, _, _, _, z⟩ := res
      exact z.elim
    | .ok .next, res => exact res.elim
    | .ok .brk, res => exact res.elim
    | .ok .cont, res => exact res.elim
    | .ok (.ret u), res =>
      obtain ⟨v, H', os, bare, un, hok', rv, q⟩ := res
      have hv : v = .bl true := q
      subst hv
      have hu : u = Value.bool true := rv
      subst hu
      have grew : ∀ p ∈ cs, ∃ more : Array Value, s'.heap.get? p.2 = some (PySem.W.tabObj more) := by
        intro p hp
        obtain ⟨more, z⟩ := un.tbls p.2 #[] (tabs p hp)
        exact ⟨_, hok' p.2 _ z⟩
      have stays : ∀ b o, ¬ TabsIn cs b → s₁.heap.get? b = some o → s'.heap.get? b = some o := by
        intro b o nb e
        cases hb : H b with
        | none => exact un.keep b o e hb (fun z => absurd (show b ∈ ([] : List Addr) from z) (by simp)) (by simp)
        | some u =>
          rcases only b u hb with z | ⟨_, _, ob, xs, z⟩
          · exact absurd z nb
          · subst z
            have e1 := (hok b _ hb).1
            have e2 := (hok' b _ (un.frzs b ob _ hb)).1
            rw [e] at e1
            injection e1 with e1
            rw [e1]
            exact e2
      refine ⟨rfl, ⟨fun b o e => ?_, fun b o e => ?_⟩, os, bare⟩
      · by_cases hb : TabsIn cs b
        · obtain ⟨p, hp, rfl⟩ := hb
          obtain ⟨more, hm⟩ := grew p hp
          rw [empty p hp] at e
          injection e with e
          subst e
          exact .inr (.inl ⟨((heads p hp).tab (empty p hp)).isCodeTable, rfl, #[], more, rfl, by rw [Array.empty_append]; exact hm⟩)
        · exact .inl (stays b o hb e)
      · by_cases hb : TabsIn cs b
        · obtain ⟨p, hp, rfl⟩ := hb
          obtain ⟨more, hm⟩ := grew p hp
          exact ⟨_, hm⟩
        · exact ⟨o, stays b o hb e⟩
  haveI dec : ∀ b, Decidable (TabsIn cs b) := fun b => Classical.propDecidable _
  let own : Option HO := match K.lookup a with
    | some _ => none
    | none => some (.frz { cls := .type "list", data := .seq vs.toArray } (.lst (ns.map V.int)))
  let H1 : Hp := fun b => if b = a then own else if TabsIn cs b then some (.tbl #[]) else none
  have hA : H1 a = own := if_pos rfl
  have hT1 : ∀ b, b ≠ a → TabsIn cs b → H1 b = some (.tbl #[]) := fun b h1 h2 => (if_neg h1).trans (if_pos h2)
  have hN : ∀ b, b ≠ a → ¬ TabsIn cs b → H1 b = none := fun b h1 h2 => (if_neg h1).trans (if_neg h2)
  have tabs1 : ∀ p ∈ cs, H1 p.2 = some (.tbl #[]) := fun p hp => hT1 _ (fun z => aNot ⟨p, hp, z⟩) ⟨p, hp, rfl⟩
  refine main H1 tabs1 (fun b u z => ?_) ?_ (fun b u z => ?_)
  · by_cases hb : b = a
    · subst hb
      rw [hA] at z
      cases hk : K.lookup b with
      | some o => simp only [own, hk] at z; cases z
      | none =>
        simp only [own, hk] at z
        injection z with z
        exact .inr ⟨rfl, rfl, _, _, z.symm⟩
    · by_cases ht : TabsIn cs b
      · exact .inl ht
      · rw [hN b hb ht] at z; cases z
  · cases hk : K.lookup a with
    | some o =>
      have e := inK a o hk
      rw [at_] at e
      injection e with e
      subst e
      exact .inr ⟨_, vs.toArray, _, hk, rfl, rfl, rfl, by rw [List.size_toArray, lens]; exact few, by simpa using vals⟩
    | none => exact .inl (.inr ⟨{ cls := .type "list", data := .seq vs.toArray }, by rw [hA]; simp only [own, hk]⟩)
  · by_cases hb : b = a
    · subst hb
      rw [hA] at z
      cases hk : K.lookup b with
      | some o => simp only [own, hk] at z; cases z
      | none =>
        simp only [own, hk] at z
        injection z with z
        subst z
        exact ⟨at_, by rw [List.length_map]; exact few, vs, _, vals, at_⟩
    · by_cases ht : TabsIn cs b
      · rw [hT1 b hb ht] at z
        injection z with z
        subst z
        exact isTab ht
      · rw [hN b hb ht] at z; cases z
/-- what a lambda in a def is called -/
abbrev lamName (qual : Str) : Str := (envOfC qual default 0 0 .none).qual ++ "<lambda>"
section
variable {P : Program} {w : World} {K : PySem.W.Frag} {mg : Str → Option Value} {base : Heap} {c : Cl}
theorem sqL_nt {H : Hp} {a : Addr} {xs : List V} (h : SqL K H a xs) : SqL K (nt H) a xs := by
  rcases h with (h | ⟨o, h⟩) | h
  · exact .inl (.inl (nt_at h fun _ z => nomatch z))
  · exact .inl (.inr ⟨o, nt_at h fun _ z => nomatch z⟩)
  · exact .inr h
/-- the end, tables of some of the law's own defs in use -/
theorem walk_ofT {l : PySem.W.OpenLaw} {k : Nat} {q : Program} {loose : List Str} {XP : (Str → Option Value) → Heap → Prop} {YP : World → Heap → Prop} {d : DefRec} {K : Params → PySem.W.Frag} {m : Fn} {xs : List Str} (g : Good m)
    (hn : l.most = some 63) (hdf : d.params.defaults = []) (hr : Room k callerA) (recs : (xs.all fun x => ((recsOf q).find? fun r => r.name == x).isSome) = true)
    (hY : ∀ (w : World) (h : Heap), YP w h → (K w.params).In h)
    (F : ∀ (w : World) (mg : Str → Option Value) (fa : Addr) (h : Heap), (K w.params).In h → h.Ns mainGlobals mg → mg d.name = some (.ref fa) →
      ∃ (fd : FuncData) (cs : List (Addr × Addr × Str)), (∀ p ∈ cs, ∃ x ∈ xs, PySem.W.tabIn (K w.params) x = some (p.1, p.2.1)) ∧ (∀ p ∈ cs, (K w.params).lookup p.2.1 = none) ∧ (∀ (s : Shared) (u : Value), BindsTo s fd ⟨[u], []⟩ [("_law_script", u)]) ∧
        ∀ base : Heap, (K w.params).In base → base.Ns mainGlobals mg → (∀ p ∈ cs, LamX.TabB base mg p.1 p.2.1) → FnG l.prog w (K w.params) mg base (L2.CX l.prog w) k fa fd ["_law_script"] (spLaw (K w.params) (cs.map fun p => (p.2.1, p.2.2)) m)) :
    PySem.W.WalkO q loose XP YP l.row.toRowW d [] (fun f vs => PySem.call f vs) := by
  refine Att.attach_callB hn hdf fun w s₀ s₁ mg mb fa o pm cd doc a vs ns Top_ Y _ _ _ hmg at_ hints few _ nog => ?_
  have inK := hY w _ Y
  obtain ⟨fd, cs, tabs, offK, bnd, all⟩ := F w mg fa _ inK Top_.T.g hmg
  have both : ∀ p ∈ cs.map (fun p => (p.1, p.2.1)), PySem.W.CodeHd s₁.heap p.1 p.2 ∧ s₁.heap.get? p.2 = some (PySem.W.tabObj #[]) := by
    intro p hp
    obtain ⟨r, hr2, rfl⟩ := List.mem_map.mp hp
    obtain ⟨x, hx, e⟩ := tabs r hr2
    obtain ⟨dx, hd⟩ := Option.isSome_iff_exists.mp (List.all_eq_true.mp recs x hx)
    exact PySem.W.tab_of Top_.T inK hd e
  refine law_runsT (k := k) (cs := cs.map fun p => (p.1, p.2.1)) inK Top_.T.g Top_.T.b Top_.T.builtins Top_.T.nolimit nog (fun p hp => (both p hp).2) (fun p hp => ?_) (fun p hp => (both p hp).1) Top_.T.bmain at_ hints (Nat.le_trans few (by decide)) hr
    (fun base b1 b2 b3 => all base b1 b2 fun p hp => b3 (p.1, p.2.1) (List.mem_map.mpr ⟨p, hp, rfl⟩)) bnd fun H hT hS => ?_
  · obtain ⟨r, hr2, rfl⟩ := List.mem_map.mp hp
    exact offK r hr2
  · obtain ⟨e, he⟩ := g ns few
    intro c hc
    have tb : Tbs c (nt H) H := by
      intro p hp
      rw [hc] at hp
      obtain ⟨r, hr2, rfl⟩ := List.mem_map.mp hp
      exact ⟨#[], hT (r.1, r.2.1) (List.mem_map.mpr ⟨r, hr2, rfl⟩), True.intro, fun pos cv z => by
        have z : codeAmong pos [] = some cv := z
        simp [codeAmong] at z⟩
    refine ⟨nt H, nt H, [[]], [.val (.ro (ns.map .int))], rfl, ⟨nt_same H, nt_same H, .cons (.val (.ro (sqL_nt hS) (reps_ints ns))) .nil, fun b hb => (by simp at hb), (by simp), ⟨tb, nt_not H, nt_not H⟩⟩, rfl, ?_⟩
    rw [he]
    intro G' H' P' x k R v r
    cases r
    rfl
end
end L2.DL
set_option Elab.async false
set_option linter.all false
set_option maxRecDepth 100000
set_option maxHeartbeats 4000000
namespace K04
open PySem PySem.Spec PyProof.Rows L2 L2.DL
abbrev g_isi_Slope : Tg → Option Bool := isiT [("bool", false), ("int", false), ("str", false), ("list", false), ("tuple", false), ("NoneType", false)] [(0, true), (1, false)]
abbrev g_isi_Way : Tg → Option Bool := isiT [("bool", false), ("int", false), ("str", false), ("list", false), ("tuple", false), ("NoneType", false)] [(0, false), (1, true)]
abbrev g_isi_bool : Tg → Option Bool := isiT [("bool", true), ("int", false), ("str", false), ("list", false), ("tuple", false), ("NoneType", false)] [(0, false), (1, false)]
abbrev g_isi_int : Tg → Option Bool := isiT [("bool", true), ("int", true), ("str", false), ("list", false), ("tuple", false), ("NoneType", false)] [(0, false), (1, false)]
abbrev g_isi_str : Tg → Option Bool := isiT [("bool", false), ("int", false), ("str", true), ("list", false), ("tuple", false), ("NoneType", false)] [(0, false), (1, false)]
/-- _law_dice(_law_script, _law_spot); slots: 0 _law_script 1 _law_spot 2 _law_cell 3 _law_left -/
def m__law_dice : FnO := mDefO 4 (mSeq (mSet 2 (mIf (mTest (mBin dLt (mName 1) (mFn fLen (mCons (mName 0) mNil)))) (mFn fInt (mCons (mBin dIx (mName 0) (mName 1)) mNil)) (mBin dAdd (mBin dMul (mC (.int 97)) (mName 1)) (mC (.int 53)))))
  (mSeq (mSet 3 (mBin dMod (mFn fMax (mCons (mC (.int 0)) (mCons (mBin dSub (mFn fAbs (mCons (mName 2) mNil)) (mBin dPow (mC (.int 10)) (mC (.int 16)))) mNil))) (mBin dMul (mBin dPow (mC (.int 10)) (mC (.int 60))) (mBin dPow (mC (.int 10)) (mC (.int 60))))))
  (mRetO (mLst (mCons (mName 3) (mCons (mBin dAdd (mBin dAdd (mBin dAdd (mBin dMul (mBin dMod (mFn fAbs (mCons (mName 2) mNil)) (mC (.int 1152921504606846577))) (mC (.int 67))) (mBin dMul (mC (.int 773)) (mName 1))) (mBin dMul (mC (.int 43)) (mFn fInt (mCons (mBin dLt (mName 2) (mC (.int 0))) mNil)))) (mC (.int 11))) (mCons (mC (.int 0)) mNil)))))))
/-- Way.text(self); slots: 0 self -/
def m_Way_text : Fn := mDef 1 (mRet (mAttr [(1, 2)] (mName 0)))
/-- require_way(value); slots: 0 value -/
def m_require_way : Fn := mDef 1 (mIf (mNotT (mTru (mIsi g_isi_Way (mName 0))))
  (mRaise0 3)
  M.next)
/-- can_step(slope, rises, steps); slots: 0 slope 1 rises 2 steps -/
def m_can_step : Fn := mDef 3 (mRet (mAnd (mBin dGt (mName 2) (mC (.int 0))) (mBin dGe (mBin dMul (mAttr [(0, 1)] (mName 0)) (mBin dSub (mName 2) (mC (.int 1)))) (mBin dMul (mAttr [(0, 2)] (mName 0)) (mName 1)))))
/-- ends_of(slope); slots: 0 slope 1 found 2 rises 3 row 4 steps 5 many -/
def m_ends_of : Fn := mDef 6 (mSeq (mSetO 1 (mLst mNil))
  (mSeq (mFor (mRange (mCons (mBin dAdd (mAttr [(0, 1)] (mName 0)) (mC (.int 1))) mNil)) (gSet 2)
  (mSeq (mSetO 3 (mLst mNil))
  (mSeq (mFor (mRange (mCons (mBin dAdd (mAttr [(0, 2)] (mName 0)) (mC (.int 1))) mNil)) (gSet 4)
  (mSeq (mSet 5 (mFn fInt (mCons (mBin dEq (mBin dAdd (mName 2) (mName 4)) (mC (.int 0))) mNil)))
  (mSeq (mAug 5 dAddI (mIf (mTru (mCall m_can_step (mCons (mName 0) (mCons (mName 2) (mCons (mName 4) mNil))))) (mIxC 3 (mBin dSub (mName 4) (mC (.int 1)))) (mC (.int 0))))
  (mSeq (mAug 5 dAddI (mIf (mTest (mBin dGt (mName 2) (mC (.int 0)))) (mBin dIx (mIxC 1 (mBin dSub (mName 2) (mC (.int 1)))) (mName 4)) (mC (.int 0))))
  (mExpr (mAppend 3 (mName 5)))))))
  (mExpr (mAppend 1 (mName 3))))))
  (mRet (mName 1))))
/-- way_index(way); slots: 0 way 1 ends 2 found 3 rises 4 steps 5 letter -/
def m_way_index : Fn := mDef 6 (mSeq (mExpr (mCall m_require_way (mCons (mName 0) mNil)))
  (mSeq (mPar [1, 2] (pvCons (mInl (mCall m_ends_of (mCons (mAttr [(1, 1)] (mName 0)) mNil))) (pvCons (mInl (mC (.int 0))) pvNil)))
  (mSeq (mPar [3, 4] (pvCons (mInl (mAttr [(0, 1)] (mAttr [(1, 1)] (mName 0)))) (pvCons (mInl (mAttr [(0, 2)] (mAttr [(1, 1)] (mName 0)))) pvNil)))
  (mSeq (mFor (mIter (mAttr [(1, 2)] (mName 0))) (gSet 5)
  (mIf (mTest (mBin dEq (mName 5) (mC (.str "r"))))
  (mAug 3 dSub (mC (.int 1)))
  (mSeq (mAug 2 dAddI (mIf (mTest (mBin dGt (mName 3) (mC (.int 0)))) (mBin dIx (mBin dIx (mName 1) (mBin dSub (mName 3) (mC (.int 1)))) (mName 4)) (mC (.int 0))))
  (mAug 4 dSub (mC (.int 1))))))
  (mRet (mName 2))))))
/-- _law_roll(_law_dice_here, _law_total); slots: 0 _law_dice_here 1 _law_total 2 _law_found 3 _law_one 4 _law_two -/
def m__law_roll : Fn := mDef 5 (mSeq (mIf (mTest (mBin dGt (mIxC 0 (mC (.int 0))) (mC (.int 0))))
  (mSeq (mSet 2 (mBin dMod (mFn fInt (mCons (mIxC 0 (mC (.int 0))) mNil)) (mName 1)))
  (mSeq (mSetIx 0 (mC (.int 0)) (mBin dDiv (mIxC 0 (mC (.int 0))) (mName 1)))
  (mRet (mName 2))))
  M.next)
  (mSeq (mSetIx 0 (mC (.int 2)) (mBin dAdd (mIxC 0 (mC (.int 2))) (mC (.int 1))))
  (mSeq (mSet 3 (mBin dMod (mFn fInt (mCons (mBin dAdd (mIxC 0 (mC (.int 1))) (mBin dMul (mC (.int 104395301)) (mIxC 0 (mC (.int 2))))) mNil)) (mC (.int 2305843009213693613))))
  (mSeq (mSet 4 (mBin dAdd (mBin dMul (mBin dMod (mFn fInt (mCons (mBin dAdd (mBin dMul (mName 3) (mName 3)) (mBin dMul (mC (.int 107)) (mIxC 0 (mC (.int 2))))) mNil)) (mC (.int 2305843009213693519))) (mC (.int 3021377))) (mName 3)))
  (mRet (mBin dMod (mFn fInt (mCons (mBin dDiv (mName 4) (mC (.int 65536))) mNil)) (mName 1)))))))
/-- _law_any_slope(_law_dice_here, _law_most); slots: 0 _law_dice_here 1 _law_most -/
def m__law_any_slope : Fn := mDef 2 (mRet (mTup (mCons (mBin dAdd (mC (.int 1)) (mCallL m__law_roll 0 (mCons (mName 1) mNil))) (mCons (mBin dAdd (mC (.int 1)) (mCallL m__law_roll 0 (mCons (mName 1) mNil))) mNil))))
/-- _law_index(_law_ends_here, _law_rises, _law_steps, _law_text); slots: 0 _law_ends_here 1 _law_rises 2 _law_steps 3 _law_text 4 _law_left 5 _law_more 6 _law_found 7 _law_sign -/
def m__law_index : Fn := mDef 8 (mSeq (mPar [4, 5, 6] (pvCons (mInl (mName 1)) (pvCons (mInl (mName 2)) (pvCons (mInl (mC (.int 0))) pvNil))))
  (mSeq (mFor (mIter (mName 3)) (gSet 7)
  (mIf (mTest (mBin dEq (mName 7) (mC (.str "r"))))
  (mSet 4 (mBin dSub (mName 4) (mC (.int 1))))
  (mSeq (mSet 6 (mBin dAdd (mName 6) (mIf (mTest (mBin dGt (mName 4) (mC (.int 0)))) (mBin dIx (mBin dIx (mName 0) (mBin dSub (mName 4) (mC (.int 1)))) (mName 5)) (mC (.int 0)))))
  (mSet 5 (mBin dSub (mName 5) (mC (.int 1)))))))
  (mRet (mName 6))))
/-- _law_pick(_law_dice_here, _law_items); slots: 0 _law_dice_here 1 _law_items -/
def m__law_pick : Fn := mDef 2 (mRet (mBin dIx (mName 1) (mCallL m__law_roll 0 (mCons (mFn fLen (mCons (mName 1) mNil)) mNil))))
/-- is_integer(value); slots: 0 value -/
def m_is_integer : Fn := mDef 1 (mRet (mAnd (mIsi g_isi_int (mName 0)) (mAnd (mNot (mIsi g_isi_bool (mName 0))) (mChain dLt dLt (mUn dNeg (mC (.int 1000000000000000000000000000000000000000000000000000000000000))) (mName 0) (mC (.int 1000000000000000000000000000000000000000000000000000000000000))))))
/-- is_from(value, least, most); slots: 0 value 1 least 2 most -/
def m_is_from : Fn := mDef 3 (mRet (mAnd (mCall m_is_integer (mCons (mName 0) mNil)) (mChain dLe dLe (mName 1) (mName 0) (mName 2))))
/-- require_from(value, least, most); slots: 0 value 1 least 2 most -/
def m_require_from : Fn := mDef 3 (mIf (mNotT (mTru (mCall m_is_from (mCons (mName 0) (mCons (mName 1) (mCons (mName 2) mNil))))))
  (mRaise 7 (mName 0))
  M.next)
/-- Slope.__init__(self, rises, steps); slots: 0 self 1 rises 2 steps -/
def m_Slope_init : Fn := mDef 3 (mSeq (mExpr (mCall m_require_from (mCons (mName 1) (mCons (mC (.int 1)) (mCons (mC (.int 60)) mNil)))))
  (mSeq (mExpr (mCall m_require_from (mCons (mName 2) (mCons (mC (.int 1)) (mCons (mC (.int 60)) mNil)))))
  (mSeq (mSetF 0 0 1 (mName 1))
  (mSeq (mSetF 0 0 2 (mName 2))
  (mSetF 0 0 0 (mFn fGcd (mCons (mName 1) (mCons (mName 2) mNil))))))))
/-- _law_ends(_law_rises, _law_steps); slots: 0 _law_rises 1 _law_steps 2 _law_found 3 _law_left 4 _law_row 5 _law_more 6 _law_number -/
def m__law_ends : Fn := mDef 7 (mSeq (mSetO 2 (mLst mNil))
  (mSeq (mFor (mRange (mCons (mBin dAdd (mName 0) (mC (.int 1))) mNil)) (gSet 3)
  (mSeq (mSetO 4 (mLst mNil))
  (mSeq (mFor (mRange (mCons (mBin dAdd (mName 1) (mC (.int 1))) mNil)) (gSet 5)
  (mSeq (mSet 6 (mFn fInt (mCons (mBin dEq (mBin dAdd (mName 3) (mName 5)) (mC (.int 0))) mNil)))
  (mSeq (mIf (mAndT (mTest (mBin dGt (mName 5) (mC (.int 0)))) (mTest (mBin dGe (mBin dMul (mName 0) (mBin dSub (mName 5) (mC (.int 1)))) (mBin dMul (mName 1) (mName 3)))))
  (mSet 6 (mBin dAdd (mName 6) (mIxC 4 (mBin dSub (mName 5) (mC (.int 1))))))
  M.next)
  (mSeq (mIf (mTest (mBin dGt (mName 3) (mC (.int 0))))
  (mSet 6 (mBin dAdd (mName 6) (mBin dIx (mIxC 2 (mBin dSub (mName 3) (mC (.int 1)))) (mName 5))))
  M.next)
  (mExpr (mAppend 4 (mName 6)))))))
  (mExpr (mAppend 2 (mName 4))))))
  (mRet (mName 2))))
/-- _law_way(_law_dice_here, _law_rises, _law_steps); slots: 0 _law_dice_here 1 _law_rises 2 _law_steps 3 _law_found 4 _law_level 5 _law_left 6 _law_more 7 _law_turn -/
def m__law_way : Fn := mDef 8 (mSeq (mPar [3, 4, 5, 6] (pvCons (mInl (mC (.str ""))) (pvCons (mInl (mC (.int 0))) (pvCons (mInl (mName 1)) (pvCons (mInl (mName 2)) pvNil)))))
  (mSeq (mFor (mRange (mCons (mBin dAdd (mName 1) (mName 2)) mNil)) (gSet 7)
  (mIf (mAndT (mTest (mBin dGt (mName 5) (mC (.int 0)))) (mOrT (mTest (mBin dLt (mName 4) (mName 1))) (mOrT (mTest (mBin dEq (mName 6) (mC (.int 0)))) (mTest (mBin dEq (mCallL m__law_roll 0 (mCons (mC (.int 2)) mNil)) (mC (.int 0)))))))
  (mPar [3, 4, 5] (pvCons (mInl (mBin dAdd (mName 3) (mC (.str "r")))) (pvCons (mInl (mBin dAdd (mName 4) (mName 2))) (pvCons (mInl (mBin dSub (mName 5) (mC (.int 1)))) pvNil))))
  (mPar [3, 4, 6] (pvCons (mInl (mBin dAdd (mName 3) (mC (.str "s")))) (pvCons (mInl (mBin dSub (mName 4) (mName 1))) (pvCons (mInl (mBin dSub (mName 6) (mC (.int 1)))) pvNil))))))
  (mRet (mName 3))))
/-- require_slope(value); slots: 0 value -/
def m_require_slope : Fn := mDef 1 (mIf (mNotT (mTru (mIsi g_isi_Slope (mName 0))))
  (mRaise0 2)
  M.next)
/-- is_text_of(slope, value); slots: 0 slope 1 value -/
def m_is_text_of : Fn := mDef 2 (mSeq (mIf (mOrT (mNotT (mTru (mIsi g_isi_str (mName 1)))) (mTest (mBin dNe (mFn fLen (mCons (mName 1) mNil)) (mBin dAdd (mAttr [(0, 1)] (mName 0)) (mAttr [(0, 2)] (mName 0))))))
  (mRet (mC (.bl false)))
  M.next)
  (mRet (mAnd (mBin dEq (mMeth sCount (mName 1) (mCons (mC (.str "r")) mNil)) (mAttr [(0, 1)] (mName 0))) (mBin dEq (mMeth sCount (mName 1) (mCons (mC (.str "s")) mNil)) (mAttr [(0, 2)] (mName 0))))))
/-- levels_of(slope, text); slots: 0 slope 1 text 2 found 3 level 4 letter -/
def m_levels_of : Fn := mDef 5 (mSeq (mSetO 2 (mLst mNil))
  (mSeq (mSet 3 (mC (.int 0)))
  (mSeq (mFor (mIter (mName 1)) (gSet 4)
  (mSeq (mExpr (mAppend 2 (mName 3)))
  (mAug 3 dAddI (mIf (mTest (mBin dEq (mName 4) (mC (.str "r")))) (mAttr [(0, 2)] (mName 0)) (mUn dNeg (mAttr [(0, 1)] (mName 0)))))))
  (mRet (mName 2)))))
/-- is_way_text(slope, value); slots: 0 slope 1 value -/
def m_is_way_text : Fn := mDef 2 (mRet (mAnd (mCall m_is_text_of (mCons (mName 0) (mCons (mName 1) mNil))) (mBin dGe (mFn fMinA (mCons (mCall m_levels_of (mCons (mName 0) (mCons (mName 1) mNil))) mNil)) (mC (.int 0)))))
/-- Way.__init__(self, slope, text); slots: 0 self 1 slope 2 text -/
def m_Way_init : Fn := mDef 3 (mSeq (mExpr (mCall m_require_slope (mCons (mName 1) mNil)))
  (mSeq (mIf (mNotT (mTru (mCall m_is_way_text (mCons (mName 1) (mCons (mName 2) mNil)))))
  (mRaise0 3)
  M.next)
  (mSeq (mSetF 0 1 1 (mName 1))
  (mSeq (mSetF 0 1 2 (mName 2))
  (mSetF 0 1 0 (mTup (mCons (mAttr [(0, 1)] (mName 1)) (mCons (mAttr [(0, 2)] (mName 1)) (mCons (mName 2) mNil)))))))))
/-- Way.__eq__(self, other); slots: 0 self 1 other -/
def m_Way_eq : Fn := mDef 2 (mRet (mAnd (mIsi g_isi_Way (mName 1)) (mBin dEq (mAttr [(1, 0)] (mName 0)) (mAttr [(1, 0)] (mName 1)))))
/-- count_of_ways(slope); slots: 0 slope 1 common 2 rises 3 both 4 found 5 many 6 parts 7 part -/
def m_count_of_ways : Fn := mDef 8 (mSeq (mSet 1 (mAttr [(0, 0)] (mName 0)))
  (mSeq (mPar [2, 3] (pvCons (mInl (mBin dDiv (mAttr [(0, 1)] (mName 0)) (mName 1))) (pvCons (mInl (mBin dDiv (mBin dAdd (mAttr [(0, 1)] (mName 0)) (mAttr [(0, 2)] (mName 0))) (mName 1))) pvNil)))
  (mSeq (mSetO 4 (mLst (mCons (mC (.int 1)) mNil)))
  (mSeq (mFor (mRange (mCons (mC (.int 1)) (mCons (mBin dAdd (mName 1) (mC (.int 1))) mNil))) (gSet 5)
  (mSeq (mSetO 6 (mLc (mRange (mCons (mC (.int 1)) (mCons (mBin dAdd (mName 5) (mC (.int 1))) mNil))) [7] (gSet 7) mYes (mBin dMul (mIxC 4 (mBin dSub (mName 5) (mName 7))) (mBin dDiv (mFn fComb (mCons (mBin dMul (mName 7) (mName 3)) (mCons (mBin dMul (mName 7) (mName 2)) mNil))) (mName 3)))))
  (mExpr (mAppend 4 (mBin dDiv (mFn fSum (mCons (mName 6) mNil)) (mName 5))))))
  (mRet (mIxC 4 (mName 1)))))))
/-- way_at(slope, index); slots: 0 slope 1 index 2 ends 3 text 4 rises 5 steps 6 many -/
def m_way_at : Fn := mDef 7 (mSeq (mExpr (mCall m_require_slope (mCons (mName 0) mNil)))
  (mSeq (mExpr (mCall m_require_from (mCons (mName 1) (mCons (mC (.int 0)) (mCons (mBin dSub (mCall m_count_of_ways (mCons (mName 0) mNil)) (mC (.int 1))) mNil)))))
  (mSeq (mPar [2, 3, 4, 5] (pvCons (mInl (mCall m_ends_of (mCons (mName 0) mNil))) (pvCons (mInl (mC (.str ""))) (pvCons (mInl (mAttr [(0, 1)] (mName 0))) (pvCons (mInl (mAttr [(0, 2)] (mName 0))) pvNil)))))
  (mSeq (mWhile (mTest (mBin dGt (mBin dAdd (mName 4) (mName 5)) (mC (.int 0))))
  (mSeq (mSet 6 (mIf (mTest (mBin dGt (mName 4) (mC (.int 0)))) (mBin dIx (mBin dIx (mName 2) (mBin dSub (mName 4) (mC (.int 1)))) (mName 5)) (mC (.int 0))))
  (mIf (mTest (mBin dLt (mName 1) (mName 6)))
  (mPar [3, 4] (pvCons (mInl (mBin dAdd (mName 3) (mC (.str "r")))) (pvCons (mInl (mBin dSub (mName 4) (mC (.int 1)))) pvNil)))
  (mSeq (mAug 1 dSub (mName 6))
  (mPar [3, 5] (pvCons (mInl (mBin dAdd (mName 3) (mC (.str "s")))) (pvCons (mInl (mBin dSub (mName 5) (mC (.int 1)))) pvNil)))))))
  (mRet (mMake 1 m_Way_init (mCons (mName 0) (mCons (mName 3) mNil))))))))
/-- the clauses of _law_first_fault -/
def cs__law_first_fault : List (Option Nat × (Nat → Option Bool) × Sv) := [((some 1), (fun n => ([(2, false), (3, false), (4, false), (5, false), (6, false), (7, true), (8, false)] : List (Nat × Bool)).lookup n), (fun n od => ((fun _ _ => some (.str "number ") : Sv) n od).bind fun x => ((fun n od => ((fun m od => if m = 7 then od else none : Sv) n od).bind fun d => fRepr [d] : Sv) n od).bind fun y => dAdd x y : Sv)),
  (none, (fun n => ([(2, false), (3, false), (4, false), (5, true), (6, false), (7, false), (8, false)] : List (Nat × Bool)).lookup n), (fun _ _ => some (.str "operation") : Sv)),
  (none, (fun n => ([(2, true), (3, false), (4, false), (5, false), (6, false), (7, false), (8, false)] : List (Nat × Bool)).lookup n), (fun _ _ => some (.str "slope") : Sv)),
  (none, (fun n => ([(2, false), (3, false), (4, true), (5, false), (6, false), (7, false), (8, false)] : List (Nat × Bool)).lookup n), (fun _ _ => some (.str "text") : Sv)),
  (none, (fun n => ([(2, false), (3, true), (4, false), (5, false), (6, false), (7, false), (8, false)] : List (Nat × Bool)).lookup n), (fun _ _ => some (.str "way") : Sv)),
  ((some 1), (fun n => ([(2, false), (3, false), (4, false), (5, false), (6, true), (7, false), (8, false)] : List (Nat × Bool)).lookup n), (fun n od => ((fun _ _ => some (.str "at ") : Sv) n od).bind fun x => ((fun n od => ((fun m od => if m = 6 then od else none : Sv) n od).bind fun d => fRepr [d] : Sv) n od).bind fun y => dAdd x y : Sv)),
  ((some 1), (fun n => ([(2, false), (3, false), (4, false), (5, false), (6, false), (7, false), (8, true)] : List (Nat × Bool)).lookup n), (fun n od => ((fun _ _ => some (.str "refused ") : Sv) n od).bind fun x => ((fun n od => ((fun m od => if m = 8 then od else none : Sv) n od).bind fun d => fRepr [d] : Sv) n od).bind fun y => dAdd x y : Sv))]
/-- way_count(slope); slots: 0 slope -/
def m_way_count : Fn := mDef 1 (mSeq (mExpr (mCall m_require_slope (mCons (mName 0) mNil)))
  (mRet (mCall m_count_of_ways (mCons (mName 0) mNil))))
/-- highest(slope); slots: 0 slope -/
def m_highest : Fn := mDef 1 (mSeq (mExpr (mCall m_require_slope (mCons (mName 0) mNil)))
  (mRet (mMake 1 m_Way_init (mCons (mName 0) (mCons (mBin dAdd (mBin dMul (mC (.str "r")) (mAttr [(0, 1)] (mName 0))) (mBin dMul (mC (.str "s")) (mAttr [(0, 2)] (mName 0)))) mNil)))))
/-- lowest(slope); slots: 0 slope 1 text 2 rises 3 steps -/
def m_lowest : Fn := mDef 4 (mSeq (mExpr (mCall m_require_slope (mCons (mName 0) mNil)))
  (mSeq (mPar [1, 2, 3] (pvCons (mInl (mC (.str ""))) (pvCons (mInl (mAttr [(0, 1)] (mName 0))) (pvCons (mInl (mAttr [(0, 2)] (mName 0))) pvNil))))
  (mSeq (mWhile (mTest (mBin dGt (mBin dAdd (mName 2) (mName 3)) (mC (.int 0))))
  (mIf (mTru (mCall m_can_step (mCons (mName 0) (mCons (mName 2) (mCons (mName 3) mNil)))))
  (mPar [1, 3] (pvCons (mInl (mBin dAdd (mName 1) (mC (.str "s")))) (pvCons (mInl (mBin dSub (mName 3) (mC (.int 1)))) pvNil)))
  (mPar [1, 2] (pvCons (mInl (mBin dAdd (mName 1) (mC (.str "r")))) (pvCons (mInl (mBin dSub (mName 2) (mC (.int 1)))) pvNil)))))
  (mRet (mMake 1 m_Way_init (mCons (mName 0) (mCons (mName 1) mNil)))))))
/-- is_way(slope, value); slots: 0 slope 1 value -/
def m_is_way : Fn := mDef 2 (mSeq (mExpr (mCall m_require_slope (mCons (mName 0) mNil)))
  (mRet (mCall m_is_way_text (mCons (mName 0) (mCons (mName 1) mNil)))))
/-- Way.__lt__(self, other); slots: 0 self 1 other -/
def m_Way_lt : Fn := mDef 2 (mSeq (mIf (mNotT (mTru (mIsi g_isi_Way (mName 1))))
  (fun _ => .bad)
  M.next)
  (mRet (mBin dLtX (mAttr [(1, 0)] (mName 0)) (mAttr [(1, 0)] (mName 1)))))
/-- _law_right(_law_dice_here); slots: 0 _law_dice_here 1 _law_pair 2 _law_rises 3 _law_steps 4 _law_slope 5 _law_ends_here 6 _law_text 7 _law_total 8 _law_way_here 9 _law_index_here 10 _law_at 11 _law_one 12 _law_wrong -/
def m__law_right : Fn := mDef 13 (mSeq (mSet 1 (mCallL m__law_any_slope 0 (mCons (mCallL m__law_pick 0 (mCons (mFrz (mLst (mCons (mC (.int 4)) (mCons (mC (.int 15)) (mCons (mC (.int 60)) mNil))))) mNil)) mNil)))
  (mSeq (mPar [2, 3] (pvCons (mInl (mBin dIx (mName 1) (mC (.int 0)))) (pvCons (mInl (mBin dIx (mName 1) (mC (.int 1)))) pvNil)))
  (mSeq (mPar [4, 5, 6] (pvCons (mInl (mMake 0 m_Slope_init (mCons (mName 2) (mCons (mName 3) mNil)))) (pvCons (mInl (mCall m__law_ends (mCons (mName 2) (mCons (mName 3) mNil)))) (pvCons (mInl (mCallL m__law_way 0 (mCons (mName 2) (mCons (mName 3) mNil)))) pvNil))))
  (mSeq (mPar [7, 8] (pvCons (mInl (mBin dIx (mBin dIx (mName 5) (mName 2)) (mName 3))) (pvCons (mInl (mMake 1 m_Way_init (mCons (mName 4) (mCons (mName 6) mNil)))) pvNil)))
  (mSeq (mSet 9 (mCall m__law_index (mCons (mName 5) (mCons (mName 2) (mCons (mName 3) (mCons (mName 6) mNil))))))
  (mSeq (mIf (mOrT (mTest (mBin dNe (mCall m_way_count (mCons (mName 4) mNil)) (mName 7))) (mOrT (mTest (mBin dNe (mCall m_way_index (mCons (mName 8) mNil)) (mName 9))) (mTest (mBin (dOwnNe 1 m_Way_eq dNe) (mCall m_way_at (mCons (mName 4) (mCons (mName 9) mNil))) (mName 8)))))
  (mRet (mC (.bl false)))
  M.next)
  (mSeq (mIf (mOrT (mTest (mBin (dOwnNe 1 m_Way_eq dNe) (mCall m_way_at (mCons (mName 4) (mCons (mC (.int 0)) mNil))) (mCall m_highest (mCons (mName 4) mNil)))) (mTest (mBin (dOwnNe 1 m_Way_eq dNe) (mCall m_way_at (mCons (mName 4) (mCons (mBin dSub (mName 7) (mC (.int 1))) mNil))) (mCall m_lowest (mCons (mName 4) mNil)))))
  (mRet (mC (.bl false)))
  M.next)
  (mSeq (mFor (mIter (mTup (mCons (mName 9) (mCons (mCallL m__law_roll 0 (mCons (mName 7) mNil)) (mCons (mFn fMin (mCons (mC (.int 1)) (mCons (mBin dSub (mName 7) (mC (.int 1))) mNil))) (mCons (mFn fMax (mCons (mC (.int 0)) (mCons (mBin dSub (mName 7) (mC (.int 2))) mNil))) mNil)))))) (gSet 10)
  (mSeq (mSet 11 (mCall m_way_at (mCons (mName 4) (mCons (mName 10) mNil))))
  (mSeq (mIf (mOrT (mNotT (mTru (mCall m_is_way (mCons (mName 4) (mCons (mProp 1 m_Way_text (mName 11)) mNil))))) (mOrT (mTest (mBin dNe (mCall m_way_index (mCons (mName 11) mNil)) (mName 10))) (mTest (mBin dNe (mCall m__law_index (mCons (mName 5) (mCons (mName 2) (mCons (mName 3) (mCons (mProp 1 m_Way_text (mName 11)) mNil))))) (mName 10)))))
  (mRet (mC (.bl false)))
  M.next)
  (mIf (mAndT (mTest (mBin dLt (mBin dAdd (mName 10) (mC (.int 1))) (mName 7))) (mNotT (mTest (mBin (dOwn 1 m_Way_lt dLt) (mName 11) (mCall m_way_at (mCons (mName 4) (mCons (mBin dAdd (mName 10) (mC (.int 1))) mNil)))))))
  (mRet (mC (.bl false)))
  M.next))))
  (mSeq (mSet 12 (mCallL m__law_pick 0 (mCons (mFrz (mLst (mCons (mUn dNeg (mC (.int 1))) (mCons (mName 7) (mCons (mBin dAdd (mName 7) (mC (.int 1))) (mCons (mC .non) (mCons (mC (.bl false)) (mCons (mC (.str "1")) (mCons (mFrz (mLst (mCons (mC (.int 0)) mNil))) mNil))))))))) mNil)))
  (mRet (mBin dEq (mLam (some (.str "")) cs__law_first_fault (mCall m_way_at (mCons (mName 4) (mCons (mName 12) mNil)))) (mBin dAdd (mC (.str "number ")) (mFn fRepr (mCons (mName 12) mNil))))))))))))))
/-- law(_law_script); slots: 0 _law_script 1 _law_spot 2 _law_dice_here 3 _law_turn -/
def m_law : Fn := mDef 4 (mSeq (mFor (mRange (mCons (mFn fMax (mCons (mC (.int 1)) (mCons (mFn fMin (mCons (mC (.int 4)) (mCons (mFn fLen (mCons (mName 0) mNil)) mNil))) mNil))) mNil)) (gSet 1)
  (mSeq (mSetO 2 (mCallO m__law_dice (mCons (mName 0) (mCons (mName 1) mNil))))
  (mFor (mRange (mCons (mC (.int 2)) mNil)) (gSet 3)
  (mIf (mNotT (mTru (mCallL m__law_right 2 mNil)))
  (mRet (mC (.bl false)))
  M.next))))
  (mRet (mAnd (mBin dEq (mProp 1 m_Way_text (mCall m_way_at (mCons (mMake 0 m_Slope_init (mCons (mC (.int 3)) (mCons (mC (.int 4)) mNil))) (mCons (mC (.int 3)) mNil)))) (mC (.str "rsrrsss"))) (mBin dEq (mCall m_way_index (mCons (mMake 1 m_Way_init (mCons (mMake 0 m_Slope_init (mCons (mC (.int 2)) (mCons (mC (.int 4)) mNil))) (mCons (mC (.str "rssrss")) mNil))) mNil)) (mC (.int 2))))))
end K04
set_option Elab.async false
set_option linter.all false
set_option maxRecDepth 100000
set_option maxHeartbeats 4000000
namespace K04
open PySem PySem.Spec PyProof.Rows L2 L2.DL
theorem chR : Str.ofString "r" = S [114] := by decide +kernel
theorem chS : Str.ofString "s" = S [115] := by decide +kernel
theorem chE : Str.ofString "" = S [] := by decide +kernel
/-- small numbers -/
def Sm (v : Int) : Prop := -1000000000000000000000000000000000000000000000000000000000000 < v ∧ v < 1000000000000000000000000000000000000000000000000000000000000
theorem is_integer_ok {v : Int} (h : Sm v) : m_is_integer [.val (.int v)] = .ok (.bl true) [.no] := by
  obtain ⟨h1, h2⟩ := h
  simp -implicitDefEqProofs [m_is_integer, D.tg, isiT, List.lookup, h1, h2]
theorem is_from_ok {v a b : Int} (h : Sm v) (h1 : a ≤ v) (h2 : v ≤ b) : m_is_from [.val (.int v), .val (.int a), .val (.int b)] = .ok (.bl true) [.no, .no, .no] := by
  simp -implicitDefEqProofs [m_is_from, is_integer_ok h, h1, h2]
theorem require_from_ok {v a b : Int} (h : Sm v) (h1 : a ≤ v) (h2 : v ≤ b) : m_require_from [.val (.int v), .val (.int a), .val (.int b)] = .ok .non [.no, .no, .no] := by
  simp -implicitDefEqProofs [m_require_from, is_from_ok h h1 h2]
def slopeD (r s : Nat) : D := .obj 0 [.int (Nat.gcd r s : Nat), .int r, .int s]
theorem sm_nat {r : Nat} (h : r ≤ 1000) : Sm r := by unfold Sm; omega
theorem init_ok {r s : Nat} (h1 : 1 ≤ r) (h2 : r ≤ 60) (h3 : 1 ≤ s) (h4 : s ≤ 60) : m_Slope_init [.cell true (.ob 0 []), .val (.int r), .val (.int s)] = .ok .non [.cell true (.ob 0 [some (.int (Nat.gcd r s : Nat)), some (.int r), some (.int s)]), .no, .no] := by
  have a1 := require_from_ok (v := (r : Int)) (a := 1) (b := 60) (sm_nat (by omega)) (by omega) (by omega)
  have a2 := require_from_ok (v := (s : Int)) (a := 1) (b := 60) (sm_nat (by omega)) (by omega) (by omega)
  simp -implicitDefEqProofs [m_Slope_init, a1, a2, putO]
theorem make_ok {r s : Nat} (h1 : 1 ≤ r) (h2 : r ≤ 60) (h3 : 1 ≤ s) (h4 : s ≤ 60) (e : Ev) : makeR 0 (m_Slope_init [.cell true (.ob 0 []), .val (.int r), .val (.int s)]) e = .ok (slopeD r s) e := by
  rw [init_ok h1 h2 h3 h4]
  simp [Cell.frz, slopeD]
/-! dice -/
def Dice (m : Int) (z : Cell) : Prop := ∃ a b k : Int, z = .lst [.int a, .int b, .int k] ∧ 0 ≤ k ∧ k ≤ m
theorem Dice.mono {m n : Int} {z : Cell} (h : Dice m z) (hn : m ≤ n) : Dice n z := by
  obtain ⟨a, b, k, h1, h2, h3⟩ := h
  exact ⟨a, b, k, h1, h2, by omega⟩
theorem ix0 {a b k : Int} : ixN 3 0 = some 0 ∧ ixN 3 1 = some 1 ∧ ixN 3 2 = some 2 := ⟨rfl, rfl, rfl⟩
theorem log_small {a : Int} {n : Nat} (h : a.natAbs < 2 ^ n) (hn : 0 < n) : a.natAbs.log2 < n := by
  by_cases e : a.natAbs = 0
  · rw [e]; simpa using hn
  · exact (Nat.log2_lt e).mpr h
theorem at_map {ns : List Int} {i : Nat} (h : i < ns.length) : atI (ns.map D.int) (i : Int) = some (.int ns[i]) := by
  unfold atI ixN
  simp [h]
theorem by_wp {g : Cell → Fl} {r : Res Fl} {Q : Cell → Prop} (h : Wp r fun fl _ => ∃ z, fl = g z ∧ Q z) : ∃ z e, r = .ok (g z) e ∧ Q z := by
  obtain ⟨a, e, h1, z, rfl, h2⟩ := wp_eq h
  exact ⟨z, e, h1, h2⟩
theorem dice_ok {ns : List Int} {i : Nat} (hi : i < 64) : ∃ z e, m__law_dice [.ro (ns.map .int), .int i] = .ok z e ∧ Dice 0 z := by
  have hp : dPow (.int 10) (.int 16) = some (.int (10 ^ 16)) := dPow_nn (by decide) (by decide) (by decide)
  have hp2 : dPow (.int 10) (.int 60) = some (.int (10 ^ 60)) := dPow_nn (by decide) (by decide) (by decide)
  have hl : (10 ^ 60 : Int).natAbs.log2 + (10 ^ 60 : Int).natAbs.log2 < 1000000 := by
    have h := log_small (a := 10 ^ 60) (n := 256) (by decide) (by decide)
    omega
  have hM : dMul (.int (10 ^ 60)) (.int (10 ^ 60)) = some (.int (10 ^ 60 * 10 ^ 60)) := dMul_int.trans (if_pos hl)
  have hm : ∀ x : Int, dMod (.int x) (.int (10 ^ 60 * 10 ^ 60)) = some (.int (x % (10 ^ 60 * 10 ^ 60))) := fun x => dMod_pos (by decide)
  have hm2 : ∀ x : Int, dMod (.int x) (.int 1152921504606846577) = some (.int (x % 1152921504606846577)) := fun x => dMod_pos (by decide)
  have l1 : ∀ x : Int, dMul (.int (x % 1152921504606846577)) (.int 67) = some (.int (x % 1152921504606846577 * 67)) := fun x => if_pos (by
    have h1 := log_small (a := 67) (n := 64) (by decide) (by decide)
    have h2 := log_small (a := x % 1152921504606846577) (n := 64) (by omega) (by decide)
    omega)
  have l2 : dMul (.int 773) (.int i) = some (.int (773 * i)) := if_pos (by
    have h1 := log_small (a := 773) (n := 64) (by decide) (by decide)
    have h2 := log_small (a := i) (n := 64) (by omega) (by decide)
    omega)
  have l3 : dMul (.int 97) (.int i) = some (.int (97 * i)) := if_pos (by
    have h1 := log_small (a := 97) (n := 64) (by decide) (by decide)
    have h2 := log_small (a := i) (n := 64) (by omega) (by decide)
    omega)
  have l4 : ∀ x : Int, x = 0 ∨ x = 1 → dMul (.int 43) (.int x) = some (.int (43 * x)) := fun x hx => by
    rcases hx with rfl | rfl <;> rfl
  have key : ∀ (c : Int), ∃ z e, (mSeq (mSet 3 (mBin dMod (mFn fMax (mCons (mC (.int 0)) (mCons (mBin dSub (mFn fAbs (mCons (mName 2) mNil)) (mBin dPow (mC (.int 10)) (mC (.int 16)))) mNil))) (mBin dMul (mBin dPow (mC (.int 10)) (mC (.int 60))) (mBin dPow (mC (.int 10)) (mC (.int 60))))))
  (mRetO (mLst (mCons (mName 3) (mCons (mBin dAdd (mBin dAdd (mBin dAdd (mBin dMul (mBin dMod (mFn fAbs (mCons (mName 2) mNil)) (mC (.int 1152921504606846577))) (mC (.int 67))) (mBin dMul (mC (.int 773)) (mName 1))) (mBin dMul (mC (.int 43)) (mFn fInt (mCons (mBin dLt (mName 2) (mC (.int 0))) mNil)))) (mC (.int 11))) (mCons (mC (.int 0)) mNil))))))
      [.val (.ro (ns.map .int)), .val (.int i), .val (.int c), .no] = .ok (.retO z) e ∧ Dice 0 z := by
    intro c
    obtain ⟨x, hx⟩ : ∃ x : Int, x = if c < 0 then 1 else 0 := ⟨_, rfl⟩
    have hx' := l4 x (by rw [hx]; split <;> simp)
    refine by_wp ?_
    simp -implicitDefEqProofs only [ev_seq, ev_set, ev_bin, ev_fn, ev_cons, ev_C, ev_name, ev_nil, ev_retO, ev_lst, List.getElem?_cons_succ, List.getElem?_cons_zero, name_val, bnd_ok, fAbs_int, ev_some, hp, hp2, hM, dSub_int, fMax_int, hm, setR_no, updR_some, sq_next, List.set_cons_succ, List.set_cons_zero, hm2, l1, l2, dAdd_int, dLt_int, fInt_bl, decide_eq_true_eq, ← hx, hx', List.length_cons, List.length_nil, wp_ok]
    simp -implicitDefEqProofs only [show (0 + 1 + 1 + 1 ≤ 16777216) = True from by decide, if_true, wp_ok, bnd_ok]
    exact ⟨_, rfl, _, _, _, rfl, Int.le_refl _, Int.le_refl _⟩
  by_cases h : i < ns.length
  · obtain ⟨z, e, h1, h2⟩ := key ns[i]
    refine ⟨z, e, ?_, h2⟩
    unfold m__law_dice
    rw [ev_defO]
    simp -implicitDefEqProofs only [List.map_cons, List.map_nil, List.length_cons, List.length_nil]
    show endO ((mSeq _ _) [.val (.ro (ns.map .int)), .val (.int i), .no, .no]) = _
    rw [ev_seq]
    have e1 : (mSet 2 (mIf (mTest (mBin dLt (mName 1) (mFn fLen (mCons (mName 0) mNil)))) (mFn fInt (mCons (mBin dIx (mName 0) (mName 1)) mNil)) (mBin dAdd (mBin dMul (mC (.int 97)) (mName 1)) (mC (.int 53))))) [.val (.ro (ns.map .int)), .val (.int i), .no, .no] = .ok .next [.val (.ro (ns.map .int)), .val (.int i), .val (.int ns[i]), .no] := by
      have hat : dIx (.ro (ns.map .int)) (.int i) = some (.int ns[i]) := at_map h
      simp -implicitDefEqProofs [h, hat]
    rw [e1, sq_next, h1]
    rfl
  · obtain ⟨z, e, h1, h2⟩ := key (97 * i + 53)
    refine ⟨z, e, ?_, h2⟩
    unfold m__law_dice
    rw [ev_defO]
    simp -implicitDefEqProofs only [List.map_cons, List.map_nil, List.length_cons, List.length_nil]
    show endO ((mSeq _ _) [.val (.ro (ns.map .int)), .val (.int i), .no, .no]) = _
    rw [ev_seq]
    have e1 : (mSet 2 (mIf (mTest (mBin dLt (mName 1) (mFn fLen (mCons (mName 0) mNil)))) (mFn fInt (mCons (mBin dIx (mName 0) (mName 1)) mNil)) (mBin dAdd (mBin dMul (mC (.int 97)) (mName 1)) (mC (.int 53))))) [.val (.ro (ns.map .int)), .val (.int i), .no, .no] = .ok .next [.val (.ro (ns.map .int)), .val (.int i), .val (.int (97 * i + 53)), .no] := by
      simp -implicitDefEqProofs [h, l3]
    rw [e1, sq_next, h1]
    rfl
theorem roll_ok {z : Cell} {m t : Int} (h : Dice m z) (hm : m < 1000000) (h0 : 0 < t) (h1 : t < 1000000) : ∃ r z', m__law_roll [.cell true z, .val (.int t)] = .ok (.int r) [.cell true z', .no] ∧ 0 ≤ r ∧ r < t ∧ Dice (m + 1) z' := by
  obtain ⟨a, b, k, rfl, k0, k1⟩ := h
  have ht : t.natAbs.log2 < 9000 := Nat.lt_trans (log_small (n := 20) (by omega) (by decide)) (by decide)
  by_cases ha : 0 < a
  · refine ⟨a % t, .lst [.int (a / t), .int b, .int k], ?_, Int.emod_nonneg _ (by omega), Int.emod_lt_of_pos _ h0, _, _, _, rfl, k0, by omega⟩
    simp -implicitDefEqProofs [m__law_roll, ev_ixC, atI, ixN, ha, dMod_pos h0, dDiv_pos h0 ht]
  · have e1 : ∀ x, dMod (.int x) (.int 2305843009213693613) = some (.int (x % 2305843009213693613)) := fun x => dMod_pos (by decide)
    have e2 : ∀ x, dMod (.int x) (.int 2305843009213693519) = some (.int (x % 2305843009213693519)) := fun x => dMod_pos (by decide)
    have e3 : ∀ x, dDiv (.int x) (.int 65536) = some (.int (x / 65536)) := fun x => dDiv_pos (by decide) (by decide)
    have l1 : (104395301 : Int).natAbs.log2 + (k + 1).natAbs.log2 < 1000000 := by
      have h1 := log_small (a := 104395301) (n := 64) (by decide) (by decide)
      have h2 := log_small (a := k + 1) (n := 64) (by omega) (by decide)
      omega
    have l2 : (107 : Int).natAbs.log2 + (k + 1).natAbs.log2 < 1000000 := by
      have h1 := log_small (a := 107) (n := 64) (by decide) (by decide)
      have h2 := log_small (a := k + 1) (n := 64) (by omega) (by decide)
      omega
    have l3 : ∀ x : Int, (x % 2305843009213693613).natAbs.log2 + (x % 2305843009213693613).natAbs.log2 < 1000000 := fun x => by
      have h2 := log_small (a := x % 2305843009213693613) (n := 64) (by omega) (by decide)
      omega
    have l4 : ∀ x : Int, (x % 2305843009213693519).natAbs.log2 + (3021377 : Int).natAbs.log2 < 1000000 := fun x => by
      have h1 := log_small (a := 3021377) (n := 64) (by decide) (by decide)
      have h2 := log_small (a := x % 2305843009213693519) (n := 64) (by omega) (by decide)
      omega
    obtain ⟨one, ho⟩ : ∃ one, one = (b + 104395301 * (k + 1)) % 2305843009213693613 := ⟨_, rfl⟩
    obtain ⟨u, hu⟩ : ∃ u, u = (one * one + 107 * (k + 1)) % 2305843009213693519 := ⟨_, rfl⟩
    have l3' : one.natAbs.log2 + one.natAbs.log2 < 1000000 := by rw [ho]; exact l3 _
    have l4' : u.natAbs.log2 + (3021377 : Int).natAbs.log2 < 1000000 := by rw [hu]; exact l4 _
    have l5 : Nat.log2 104395301 + (k + 1).natAbs.log2 < 1000000 := l1
    have l6 : Nat.log2 107 + (k + 1).natAbs.log2 < 1000000 := l2
    have l7 : u.natAbs.log2 + Nat.log2 3021377 < 1000000 := l4'
    refine ⟨((u * 3021377 + one) / 65536) % t, .lst [.int a, .int b, .int (k + 1)], ?_, Int.emod_nonneg _ (by omega), Int.emod_lt_of_pos _ h0, _, _, _, rfl, by omega, by omega⟩
    simp -implicitDefEqProofs [m__law_roll, ev_ixC, atI, ixN, ha, dMod_pos h0, e1, e2, e3, l5, l6, ← ho, ← hu, l3', l7]
end K04
set_option Elab.async false
set_option linter.all false
set_option maxRecDepth 100000
set_option maxHeartbeats 4000000
/-! what is reckoned for k03, in plain numbers -/
namespace K04
open PySem
/-- n over k, as the law goes -/
def cho (n : Nat) : Nat → Nat
  | 0 => 1
  | k + 1 => cho n k * (n - k) / (k + 1)
/-- the numbers of ends, square by square -/
def wrow (r s l : Nat) (prev : Nat → Nat) : Nat → Nat
  | 0 => (if l = 0 then 1 else 0) + prev 0
  | m + 1 => (if s * l ≤ r * m then wrow r s l prev m else 0) + prev (m + 1)
def ways (r s : Nat) : Nat → Nat → Nat
  | 0 => wrow r s 0 fun _ => 0
  | l + 1 => wrow r s (l + 1) (ways r s l)
/-- q p: the p-th part; the counts up to m, the latest first -/
def dot : List Nat → List Nat → Nat
  | x :: xs, y :: ys => x * y + dot xs ys
  | _, _ => 0
def cnts (q : List Nat) : Nat → List Nat
  | 0 => [1]
  | m + 1 => (dot (cnts q m) q / (m + 1)) :: cnts q m
def qs (a n : Nat) (K : Nat) : List Nat := (List.range K).map fun p => cho ((p + 1) * n) ((p + 1) * a) / n
/-- the m-th count -/
def cnt (a n K m : Nat) : Nat := (cnts (qs a n K) m).headD 0
/-! ### fast -/
def strict {α : Type} (n : Nat) (f : Nat → α) : α := match n with
  | 0 => f 0
  | k + 1 => f (k + 1)
theorem strict_eq {α : Type} (n : Nat) (f : Nat → α) : strict n f = f n := by cases n <;> rfl
def rowF (a bl : Nat) (one : Nat) : Nat → Nat → List Nat → List Nat
  | _, _, [] => []
  | am, last, p :: ps => strict (one + p + bif Nat.ble (bl + a) am then last else 0) fun e => e :: rowF a bl 0 (am + a) e ps
def nxt (a b : Nat) : Nat → Nat → List Nat → List Nat
  | 0, _, row => row
  | n + 1, l, row => nxt a b n (l + 1) (rowF a (b * (l + 1)) 0 0 0 row)
def chkD (a b : Nat) : Nat → List Nat → List Nat → Bool
  | _, _, [] => true
  | k, row, f :: fs => (fun row' => Nat.beq (row'.getD ((k + 1) * b) 0) f && chkD a b (k + 1) row' fs) (nxt a b a (k * a) row)
def choF (n k : Nat) : Nat := (List.range k).foldl (fun x i => strict (x * (n - i) / (i + 1)) fun e => e) 1
def csF (a n K : Nat) : List Nat := (List.range K).map fun p => choF ((p + 1) * n) ((p + 1) * a)
def exactS (q : List Nat) : Nat → Bool
  | 0 => true
  | m + 1 => exactS q m && Nat.beq (dot (cnts q m) q % (m + 1)) 0
def chk (a b : Nat) : Bool :=
  (fun K => (fun cs => (fun q =>
    cs.all (fun x => Nat.beq (x % (a + b)) 0) &&
    (List.range K).all (fun p => decide (PySem.W.mcComb (((p + 1) * (a + b) : Nat) : Int) (((p + 1) * a : Nat) : Int) = ((choF ((p + 1) * (a + b)) ((p + 1) * a) : Nat) : Int))) &&
    exactS q K && decide (cnts ((csF b (a + b) K).map (· / (a + b))) K = cnts q K) &&
    chkD a b 0 (rowF a 0 1 0 0 (List.replicate (K * b + 1) 0)) ((cnts q K).reverse.drop 1)) (cs.map (· / (a + b)))) (csF a (a + b) K)) (60 / max a b)
theorem choF_eq (n : Nat) : ∀ k, choF n k = cho n k := by
  intro k
  induction k with
  | zero => rfl
  | succ k ih =>
    unfold choF at ih ⊢
    rw [List.range_succ, List.foldl_append, ih]
    simp only [List.foldl_cons, List.foldl_nil, strict_eq]
    rfl
theorem csF_eq (a n K : Nat) : (csF a n K).map (· / n) = qs a n K := by
  unfold csF qs
  rw [List.map_map]
  apply List.map_congr_left
  intro p _
  simp only [Function.comp, choF_eq]
theorem exactS_spec {q : List Nat} : ∀ {m : Nat}, exactS q m = true → ∀ i, i < m → dot (cnts q i) q % (i + 1) = 0
  | 0, _, i, h => by omega
  | m + 1, e, i, h => by
    unfold exactS at e
    rw [Bool.and_eq_true] at e
    by_cases hi : i = m
    · subst hi; exact Nat.eq_of_beq_eq_true e.2
    · exact exactS_spec e.1 i (by omega)
theorem rowF_eq {a b l : Nat} {prev : Nat → Nat} : ∀ (n m0 last : Nat), (l ≠ 0 ∨ m0 ≠ 0) → last = (match m0 with | 0 => 0 | m + 1 => wrow a b l prev m) →
    rowF a (b * l) 0 (a * m0) last ((List.range' m0 n).map prev) = (List.range' m0 n).map (wrow a b l prev)
  | 0, _, _, _, _ => rfl
  | n + 1, m0, last, h, hl => by
    rw [List.range'_succ, List.map_cons, List.map_cons, rowF, strict_eq]
    have e : (0 + prev m0 + bif Nat.ble (b * l + a) (a * m0) then last else 0) = wrow a b l prev m0 := by
      cases m0 with
      | zero =>
        rw [hl]
        have : l ≠ 0 := by omega
        unfold wrow
        rw [if_neg this]
        cases Nat.ble (b * l + a) (a * 0) <;> simp
      | succ m =>
        rw [hl, show wrow a b l prev (m + 1) = (if b * l ≤ a * m then wrow a b l prev m else 0) + prev (m + 1) from rfl]
        dsimp only
        rw [Nat.mul_succ]
        by_cases hc : b * l ≤ a * m
        · rw [if_pos hc, Nat.ble_eq_true_of_le (by omega)]
          simp only [cond_true]
          omega
        · rw [if_neg hc]
          have : Nat.ble (b * l + a) (a * m + a) = false := by
            cases hb : Nat.ble (b * l + a) (a * m + a) with
            | false => rfl
            | true => have := Nat.le_of_ble_eq_true hb; omega
          rw [this]
          simp only [cond_false]
          omega
    rw [e]
    congr 1
    have := rowF_eq (a := a) (b := b) (l := l) (prev := prev) n (m0 + 1) (wrow a b l prev m0) (by omega) rfl
    rw [Nat.mul_succ] at this
    exact this
theorem row0_eq {a b N : Nat} : rowF a 0 1 0 0 (List.replicate (N + 1) 0) = (List.range (N + 1)).map (ways a b 0) := by
  rw [List.replicate_succ, rowF, strict_eq, List.range_eq_range', List.range'_succ, List.map_cons]
  have e : (1 + 0 + bif Nat.ble (0 + a) 0 then 0 else 0) = ways a b 0 0 := by
    show _ = wrow a b 0 (fun _ => 0) 0
    unfold wrow
    cases Nat.ble (0 + a) 0 <;> rfl
  rw [e]
  congr 1
  have h := rowF_eq (a := a) (b := b) (l := 0) (prev := fun _ => 0) N 1 (ways a b 0 0) (by omega) rfl
  rw [Nat.mul_one, Nat.mul_zero] at h
  rw [Nat.zero_add]
  have e2 : (List.range' 1 N).map (fun _ => 0) = List.replicate N 0 := by
    rw [List.map_const', List.length_range']
  rw [e2] at h
  exact h
theorem nxt_eq {a b N : Nat} : ∀ n l, nxt a b n l ((List.range N).map (ways a b l)) = (List.range N).map (ways a b (l + n))
  | 0, l => rfl
  | n + 1, l => by
    unfold nxt
    have h := rowF_eq (a := a) (b := b) (l := l + 1) (prev := ways a b l) N 0 0 (by omega) rfl
    rw [Nat.mul_zero, ← List.range_eq_range'] at h
    rw [h]
    have := nxt_eq (a := a) (b := b) (N := N) n (l + 1)
    rw [show l + 1 + n = l + (n + 1) by omega] at this
    exact this
theorem chkD_spec {a b N : Nat} : ∀ {fs : List Nat} {k : Nat}, chkD a b k ((List.range N).map (ways a b (k * a))) fs = true → ∀ j f, fs[j]? = some f → (k + 1 + j) * b < N → ways a b ((k + 1 + j) * a) ((k + 1 + j) * b) = f
  | [], k, _, j, f, e, _ => by simp at e
  | g :: fs, k, h, j, f, e, hN => by
    unfold chkD at h
    rw [nxt_eq] at h
    have hk : k * a + a = (k + 1) * a := by rw [Nat.succ_mul]
    rw [hk] at h
    dsimp only at h
    rw [Bool.and_eq_true] at h
    cases j with
    | zero =>
      simp at e
      subst e
      have h1 := Nat.eq_of_beq_eq_true h.1
      rw [Nat.add_zero] at hN ⊢
      rw [← h1, List.getD_eq_getElem?_getD, List.getElem?_map, List.getElem?_range hN]
      rfl
    | succ j =>
      have := chkD_spec h.2 j f (by simpa using e) (by rw [show k + 1 + 1 + j = k + 1 + (j + 1) by omega]; exact hN)
      rw [show k + 1 + 1 + j = k + 1 + (j + 1) by omega] at this
      exact this
theorem cnts_len (q : List Nat) : ∀ m, (cnts q m).length = m + 1
  | 0 => rfl
  | m + 1 => by simp [cnts, cnts_len q m]
theorem cnts_get (q : List Nat) : ∀ m j, j ≤ m → (cnts q m)[m - j]? = some ((cnts q j).headD 0)
  | 0, j, h => by
    have : j = 0 := by omega
    subst this; rfl
  | m + 1, j, h => by
    by_cases hj : j = m + 1
    · subst hj; simp [cnts]
    · rw [show m + 1 - j = (m - j) + 1 by omega]
      show (cnts q m)[m - j]? = _
      exact cnts_get q m j (by omega)
theorem wrow_scale {k r s l : Nat} {p p' : Nat → Nat} (hk : 0 < k) (hp : ∀ m, p m = p' m) : ∀ m, wrow (k * r) (k * s) l p m = wrow r s l p' m
  | 0 => by simp only [wrow, hp]
  | m + 1 => by
    simp only [wrow, hp, wrow_scale hk hp m]
    have : (k * s * l ≤ k * r * m) ↔ (s * l ≤ r * m) := by
      rw [Nat.mul_assoc, Nat.mul_assoc]
      exact Nat.mul_le_mul_left_iff hk
    simp only [this]
theorem ways_scale {k r s : Nat} (hk : 0 < k) : ∀ l m, ways (k * r) (k * s) l m = ways r s l m
  | 0, m => wrow_scale hk (fun _ => rfl) m
  | l + 1, m => wrow_scale hk (fun m => ways_scale hk l m) m
/-- all that is reckoned -/
structure Fit (a b K : Nat) : Prop where
  e1 : ∀ p, p < K → cho ((p + 1) * (a + b)) ((p + 1) * a) % (a + b) = 0
  e2 : ∀ p, p < K → PySem.W.mcComb (((p + 1) * (a + b) : Nat) : Int) (((p + 1) * a : Nat) : Int) = ((cho ((p + 1) * (a + b)) ((p + 1) * a) : Nat) : Int)
  e3 : ∀ i, i < K → dot (cnts (qs a (a + b) K) i) (qs a (a + b) K) % (i + 1) = 0
  e4 : cnts (qs b (a + b) K) K = cnts (qs a (a + b) K) K
  e5 : ∀ k, 1 ≤ k → k ≤ K → ways a b (k * a) (k * b) = cnt a (a + b) K k
theorem fit_of {a b : Nat} (hb : 0 < b) (h : chk a b = true) : Fit a b (60 / max a b) := by
  unfold chk at h
  dsimp only at h
  generalize 60 / max a b = K at h
  rw [csF_eq, csF_eq] at h
  simp only [Bool.and_eq_true, List.all_eq_true, decide_eq_true_eq, List.mem_range] at h
  obtain ⟨⟨⟨⟨h1, h2⟩, h3⟩, h4⟩, h5⟩ := h
  refine ⟨fun p hp => ?_, fun p hp => ?_, exactS_spec h3, h4, fun k k1 k2 => ?_⟩
  · have := Nat.eq_of_beq_eq_true (h1 (choF ((p + 1) * (a + b)) ((p + 1) * a)) (List.mem_map.mpr ⟨p, List.mem_range.mpr hp, rfl⟩))
    rw [choF_eq] at this
    exact this
  · rw [h2 p hp, choF_eq]
  · rw [row0_eq (b := b)] at h5
    have h0 : (List.range (K * b + 1)).map (ways a b 0) = (List.range (K * b + 1)).map (ways a b (0 * a)) := by rw [Nat.zero_mul]
    rw [h0] at h5
    have hg : ((cnts (qs a (a + b) K) K).reverse.drop 1)[k - 1]? = some (cnt a (a + b) K k) := by
      rw [List.getElem?_drop, show 1 + (k - 1) = k by omega]
      rw [List.getElem?_reverse (by rw [cnts_len]; omega), cnts_len]
      rw [show K + 1 - 1 - k = K - k by omega]
      exact cnts_get _ K k k2
    have := chkD_spec h5 (k - 1) _ hg (by
      rw [show 0 + 1 + (k - 1) = k by omega]
      have := Nat.mul_le_mul_right b k2
      omega)
    rw [show 0 + 1 + (k - 1) = k by omega] at this
    exact this
def chkRow (a : Nat) : Bool := (List.range 60).all fun b => !(Nat.beq (Nat.gcd a (b + 1)) 1) || chk a (b + 1)
end K04
set_option Elab.async false
set_option linter.all false
set_option maxRecDepth 100000
set_option maxHeartbeats 4000000
/-! words and ways in plain lists: 114 a rise, 115 a step -/
namespace K04
/-- the level that a letter adds -/
def vl (r s : Nat) (c : Nat) : Int := if c = 114 then (s : Int) else -(r : Int)
def sm (r s : Nat) : List Nat → Int
  | [] => 0
  | c :: t => vl r s c + sm r s t
theorem sm_append {r s : Nat} : ∀ (a b : List Nat), sm r s (a ++ b) = sm r s a + sm r s b
  | [], b => by simp [sm]
  | c :: t, b => by simp only [List.cons_append, sm, sm_append t b]; omega
def Lt2 (l : List Nat) : Prop := ∀ c ∈ l, c = 114 ∨ c = 115
theorem sm_count {r s : Nat} : ∀ l : List Nat, Lt2 l → sm r s l = (l.length : Int) * s - (r + s) * (l.count 115 : Int)
  | [], _ => by simp [sm]
  | c :: t, h => by
    have ih := sm_count (r := r) (s := s) t fun x hx => h x (List.mem_cons_of_mem _ hx)
    rcases h c List.mem_cons_self with rfl | rfl
    · simp only [sm, vl, if_pos rfl, ih, List.length_cons, List.count_cons, Int.natCast_add, Int.add_mul]
      simp
      omega
    · simp only [sm, vl, ih, List.length_cons, List.count_cons, Int.natCast_add, Int.add_mul, Int.mul_add]
      simp
      omega
/-- all levels behind a letter lie from 0 on, below r + s -/
def Bd (r s : Nat) : Int → List Nat → Prop
  | _, [] => True
  | x, c :: t => (0 ≤ x + vl r s c ∧ x + vl r s c < r + s) ∧ Bd r s (x + vl r s c) t
theorem bd_unique {r s : Nat} : ∀ (l m : List Nat) (x : Int), Lt2 l → Lt2 m → l.length = m.length → Bd r s x l → Bd r s x m → l = m
  | [], [], _, _, _, _, _, _ => rfl
  | [], _ :: _, _, _, _, h, _, _ => by cases h
  | _ :: _, [], _, _, _, h, _, _ => by cases h
  | c :: l, d :: m, x, hl, hm, h, b1, b2 => by
    have e : c = d := by
      obtain ⟨⟨p1, p2⟩, _⟩ := b1
      obtain ⟨⟨q1, q2⟩, _⟩ := b2
      rcases hl c List.mem_cons_self with rfl | rfl <;> rcases hm d List.mem_cons_self with rfl | rfl <;> simp [vl] at p1 p2 q1 q2 ⊢ <;> omega
    subst e
    rw [bd_unique l m _ (fun y hy => hl y (List.mem_cons_of_mem _ hy)) (fun y hy => hm y (List.mem_cons_of_mem _ hy)) (by simpa using h) b1.2 b2.2]
theorem bd_iff {r s : Nat} : ∀ (l : List Nat) (x : Int), Bd r s x l ↔ ∀ k, 1 ≤ k → k ≤ l.length → 0 ≤ x + sm r s (l.take k) ∧ x + sm r s (l.take k) < r + s
  | [], x => by simp [Bd]; intro k h1 h2; omega
  | c :: t, x => by
    unfold Bd
    rw [bd_iff t (x + vl r s c)]
    constructor
    · rintro ⟨h1, h2⟩ k k1 k2
      obtain ⟨j, rfl⟩ : ∃ j, k = j + 1 := ⟨k - 1, by omega⟩
      simp only [List.take_succ_cons, sm]
      by_cases hj : j = 0
      · subst hj; simp only [List.take_zero, sm]; omega
      · have := h2 j (by omega) (by simpa using k2); omega
    · intro h
      refine ⟨?_, fun k k1 k2 => ?_⟩
      · have := h 1 (by omega) (by simp)
        simp only [List.take_succ_cons, List.take_zero, sm] at this
        omega
      · have := h (k + 1) (by omega) (by simpa using k2)
        simp only [List.take_succ_cons, sm] at this
        omega
/-- a way -/
structure Wy (r s : Nat) (l : List Nat) : Prop where
  lt : Lt2 l
  c1 : l.count 114 = r
  c2 : l.count 115 = s
  up : ∀ k, k ≤ l.length → 0 ≤ sm r s (l.take k)
theorem lt2_len : ∀ l : List Nat, Lt2 l → l.length = l.count 114 + l.count 115
  | [], _ => rfl
  | c :: t, h => by
    have ih := lt2_len t fun x hx => h x (List.mem_cons_of_mem _ hx)
    rcases h c List.mem_cons_self with rfl | rfl <;> simp [List.count_cons, ih] <;> omega
theorem Wy.len {r s : Nat} {l : List Nat} (w : Wy r s l) : l.length = r + s := by rw [lt2_len l w.lt, w.c1, w.c2]
/-! the lowest -/
def low (r s : Nat) : Nat → Nat → Nat → List Nat
  | 0, _, _ => []
  | n + 1, a, b => if 0 < b ∧ s * a ≤ r * (b - 1) then 115 :: low r s n a (b - 1) else 114 :: low r s n (a - 1) b
theorem low_spec {r s : Nat} : ∀ n a b, n = a + b → s * a ≤ r * b → r * b - s * a < r + s ∨ n = 0 →
    Lt2 (low r s n a b) ∧ (low r s n a b).count 114 = a ∧ (low r s n a b).count 115 = b ∧ Bd r s ((r * b : Nat) - (s * a : Nat) : Int) (low r s n a b) := by
  intro n
  induction n with
  | zero =>
    intro a b h _ _
    have : a = 0 ∧ b = 0 := by omega
    obtain ⟨rfl, rfl⟩ := this
    exact ⟨fun c hc => (by cases hc), rfl, rfl, trivial⟩
  | succ n ih =>
    intro a b h h1 h2
    unfold low
    by_cases hc : 0 < b ∧ s * a ≤ r * (b - 1)
    · rw [if_pos hc]
      obtain ⟨b, rfl⟩ : ∃ c, b = c + 1 := ⟨b - 1, by omega⟩
      simp only [Nat.add_sub_cancel] at hc ⊢
      rw [Nat.mul_succ] at h1 h2 ⊢
      obtain ⟨i1, i2, i3, i4⟩ := ih a b (by omega) hc.2 (by omega)
      refine ⟨fun c hc => ?_, by simp [List.count_cons, i2], by simp [List.count_cons, i3], ?_⟩
      · rcases List.mem_cons.mp hc with rfl | hc
        · exact .inr rfl
        · exact i1 c hc
      · unfold Bd
        have e : ((r * b + r : Nat) : Int) - (s * a : Nat) + vl r s 115 = (r * b : Nat) - (s * a : Nat) := by simp [vl]; omega
        rw [e]
        exact ⟨by omega, i4⟩
    · rw [if_neg hc]
      have ha : 0 < a := by
        rcases Nat.eq_zero_or_pos a with h0 | h0
        · subst h0
          exact absurd ⟨by omega, by simp⟩ hc
        · exact h0
      obtain ⟨a, rfl⟩ : ∃ c, a = c + 1 := ⟨a - 1, by omega⟩
      simp only [Nat.add_sub_cancel]
      rw [Nat.mul_succ] at h1 h2 hc ⊢
      have lev : r * b < s * a + s + r := by
        rcases Nat.eq_zero_or_pos b with h0 | h0
        · subst h0; simp at h1 ⊢; omega
        · obtain ⟨b, rfl⟩ : ∃ c, b = c + 1 := ⟨b - 1, by omega⟩
          simp only [Nat.add_sub_cancel] at hc
          rw [Nat.mul_succ]
          omega
      obtain ⟨i1, i2, i3, i4⟩ := ih a b (by omega) (by omega) (by omega)
      refine ⟨fun c hc => ?_, by simp [List.count_cons, i2], by simp [List.count_cons, i3], ?_⟩
      · rcases List.mem_cons.mp hc with rfl | hc
        · exact .inl rfl
        · exact i1 c hc
      · unfold Bd
        have e : ((r * b : Nat) : Int) - (s * a + s : Nat) + vl r s 114 = (r * b : Nat) - (s * a : Nat) := by simp [vl]; omega
        rw [e]
        exact ⟨by omega, i4⟩
theorem bd_way {r s : Nat} {l : List Nat} (lt : Lt2 l) (c1 : l.count 114 = r) (c2 : l.count 115 = s) (b : Bd r s 0 l) : Wy r s l :=
  ⟨lt, c1, c2, fun k hk => by
    by_cases h : k = 0
    · subst h; simp [sm]
    · have := (bd_iff l 0).mp b k (by omega) hk
      omega⟩
def lo (r s : Nat) : List Nat := low r s (r + s) r s
theorem lo_spec {r s : Nat} (hr : 1 ≤ r) (hs : 1 ≤ s) : Wy r s (lo r s) ∧ Bd r s 0 (lo r s) := by
  obtain ⟨i1, i2, i3, i4⟩ := low_spec (r := r) (s := s) (r + s) r s rfl (by rw [Nat.mul_comm]; exact Nat.le_refl _) (.inl (by rw [Nat.mul_comm]; omega))
  have e : ((r * s : Nat) : Int) - (s * r : Nat) = 0 := by rw [Nat.mul_comm]; omega
  rw [e] at i4
  exact ⟨bd_way i1 i2 i3 i4, i4⟩
def hi (r s : Nat) : List Nat := List.replicate r 114 ++ List.replicate s 115
theorem hi_lt2 (r s : Nat) : Lt2 (hi r s) := fun c hc => by
  rcases List.mem_append.mp hc with h | h
  · exact .inl (List.eq_of_mem_replicate h)
  · exact .inr (List.eq_of_mem_replicate h)
theorem hi_c1 (r s : Nat) : (hi r s).count 114 = r := by simp [hi, List.count_append, List.count_replicate]
theorem hi_c2 (r s : Nat) : (hi r s).count 115 = s := by simp [hi, List.count_append, List.count_replicate]
theorem hi_len (r s : Nat) : (hi r s).length = r + s := by simp [hi]
/-- the steps among the first k letters -/
theorem hi_steps (r s k : Nat) (hk : k ≤ r + s) : ((hi r s).take k).count 115 = k - r := by
  unfold hi
  rw [List.take_append, List.count_append, List.take_replicate, List.take_replicate, List.count_replicate, List.count_replicate]
  simp
  omega
theorem take_lt2 {l : List Nat} (h : Lt2 l) (k : Nat) : Lt2 (l.take k) := fun c hc => h c (List.mem_of_mem_take hc)
theorem sm_take {r s : Nat} {l : List Nat} (h : Lt2 l) {k : Nat} (hk : k ≤ l.length) : sm r s (l.take k) = (k : Int) * s - (r + s) * ((l.take k).count 115 : Int) := by
  rw [sm_count _ (take_lt2 h k), List.length_take, Nat.min_eq_left hk]
theorem hi_way {r s : Nat} (hr : 1 ≤ r) (hs : 1 ≤ s) : Wy r s (hi r s) := ⟨hi_lt2 r s, hi_c1 r s, hi_c2 r s, fun k hk => by
  rw [sm_take (hi_lt2 r s) hk]
  rw [hi_len] at hk
  rw [hi_steps r s k hk]
  by_cases h : k ≤ r
  · rw [Nat.sub_eq_zero_of_le h]
    have : 0 ≤ (k : Int) * s := Int.mul_nonneg (by omega) (by omega)
    simpa using this
  · obtain ⟨j, rfl⟩ : ∃ j, k = r + j := ⟨k - r, by omega⟩
    rw [Nat.add_sub_cancel_left]
    obtain ⟨i, rfl⟩ : ∃ i, s = j + i := ⟨s - j, by omega⟩
    have : ((r + j : Nat) : Int) * ((j + i : Nat) : Int) - ((r : Int) + ((j + i : Nat) : Int)) * (j : Int) = (r : Int) * i := by
      simp only [Int.natCast_add, Int.add_mul, Int.mul_add]
      have := Int.mul_comm (i : Int) j
      omega
    rw [this]
    exact Int.mul_nonneg (by omega) (by omega)⟩
/-- a way's levels lie between -/
theorem way_below {r s : Nat} {l : List Nat} (w : Wy r s l) {k : Nat} (hk : k ≤ l.length) : sm r s (l.take k) ≤ sm r s ((hi r s).take k) := by
  have hk2 : k ≤ r + s := by rw [← w.len]; exact hk
  rw [sm_take w.lt hk, sm_take (hi_lt2 r s) (by rw [hi_len]; exact hk2), hi_steps r s k hk2]
  have c : k - r ≤ (l.take k).count 115 := by
    have h1 := lt2_len (l.take k) (take_lt2 w.lt k)
    rw [List.length_take, Nat.min_eq_left hk] at h1
    have h2 : (l.take k).count 114 ≤ r := by rw [← w.c1]; exact (List.take_sublist k l).count_le 114
    omega
  have : ((r : Int) + s) * ((k - r : Nat) : Int) ≤ ((r : Int) + s) * ((l.take k).count 115 : Int) := Int.mul_le_mul_of_nonneg_left (by omega) (by omega)
  omega
theorem way_above {r s : Nat} {l m : List Nat} (hrs : 0 < r + s) (w : Wy r s l) (v : Lt2 m) (hl : m.length = r + s) (b : Bd r s 0 m) {k : Nat} (hk : k ≤ l.length) : sm r s (m.take k) ≤ sm r s (l.take k) := by
  have hk2 : k ≤ m.length := by rw [hl, ← w.len]; exact hk
  by_cases h0 : k = 0
  · subst h0; simp
  · have h1 := w.up k hk
    have h2 := ((bd_iff m 0).mp b k (by omega) hk2).2
    rw [sm_take w.lt hk] at h1 ⊢
    rw [sm_take v hk2] at h2 ⊢
    have c : ((l.take k).count 115 : Int) ≤ ((m.take k).count 115 : Int) := by
      apply Int.le_of_lt_add_one
      apply Int.lt_of_mul_lt_mul_left (a := (r : Int) + s) ?_ (by omega)
      rw [Int.mul_add]
      omega
    have := Int.mul_le_mul_of_nonneg_left c (show (0 : Int) ≤ (r : Int) + s by omega)
    omega
/-! exchanged -/
def sw (c : Nat) : Nat := if c = 115 then 114 else 115
def ex (l : List Nat) : List Nat := l.reverse.map sw
theorem sw_lt2 {l : List Nat} : Lt2 (ex l) := fun c hc => by
  obtain ⟨d, _, rfl⟩ := List.mem_map.mp hc
  unfold sw
  split
  · exact .inl rfl
  · exact .inr rfl
theorem vl_sw {r s c : Nat} (h : c = 114 ∨ c = 115) : vl s r (sw c) = -vl r s c := by
  rcases h with rfl | rfl <;> simp [vl, sw]
theorem sm_ex {r s : Nat} : ∀ l : List Nat, Lt2 l → sm s r (ex l) = -sm r s l
  | [], _ => rfl
  | c :: t, h => by
    have ih := sm_ex (r := r) (s := s) t fun x hx => h x (List.mem_cons_of_mem _ hx)
    unfold ex at ih ⊢
    rw [List.reverse_cons, List.map_append, sm_append, ih]
    simp only [List.map_cons, List.map_nil, sm, vl_sw (h c List.mem_cons_self)]
    omega
theorem ex_take {l : List Nat} {k : Nat} (hk : k ≤ l.length) : (ex l).take k = ex (l.drop (l.length - k)) := by
  unfold ex
  rw [← List.map_take]
  congr 1
  rw [List.take_reverse]
theorem ex_sum {r s : Nat} {l : List Nat} (h : Lt2 l) (h0 : sm r s l = 0) {k : Nat} (hk : k ≤ l.length) : sm s r ((ex l).take k) = sm r s (l.take (l.length - k)) := by
  rw [ex_take hk, sm_ex _ fun c hc => h c (List.mem_of_mem_drop hc)]
  have := sm_append (r := r) (s := s) (l.take (l.length - k)) (l.drop (l.length - k))
  rw [List.take_append_drop] at this
  omega
theorem ex_len (l : List Nat) : (ex l).length = l.length := by simp [ex]
theorem ex_count {l : List Nat} (h : Lt2 l) : (ex l).count 114 = l.count 115 ∧ (ex l).count 115 = l.count 114 := by
  induction l with
  | nil => exact ⟨rfl, rfl⟩
  | cons c t ih =>
    obtain ⟨i1, i2⟩ := ih fun x hx => h x (List.mem_cons_of_mem _ hx)
    unfold ex at i1 i2 ⊢
    rw [List.reverse_cons, List.map_append, List.count_append, List.count_append, i1, i2]
    rcases h c List.mem_cons_self with rfl | rfl <;> simp [sw, List.count_cons]
theorem way_sum {r s : Nat} {l : List Nat} (w : Wy r s l) : sm r s l = 0 := by
  rw [sm_count l w.lt, w.len, w.c2, Int.natCast_add]
  omega
theorem ex_way {r s : Nat} {l : List Nat} (w : Wy r s l) : Wy s r (ex l) := by
  obtain ⟨e1, e2⟩ := ex_count w.lt
  exact ⟨sw_lt2, by rw [e1, w.c2], by rw [e2, w.c1], fun k hk => by
    rw [ex_len] at hk
    rw [ex_sum w.lt (way_sum w) hk]
    exact w.up _ (by omega)⟩
theorem ex_bd {r s : Nat} {l : List Nat} (w : Wy r s l) (b : Bd r s 0 l) (hrs : 0 < r + s) : Bd s r 0 (ex l) := by
  rw [bd_iff]
  intro k k1 k2
  rw [ex_len] at k2
  rw [ex_sum w.lt (way_sum w) k2]
  by_cases h : l.length - k = 0
  · rw [h]; simp [sm]; omega
  · have := (bd_iff l 0).mp b (l.length - k) (by omega) (by omega)
    omega
theorem ex_lo {r s : Nat} (hr : 1 ≤ r) (hs : 1 ≤ s) : ex (lo r s) = lo s r := by
  obtain ⟨w, b⟩ := lo_spec hr hs
  obtain ⟨w2, b2⟩ := lo_spec hs hr
  exact bd_unique _ _ 0 sw_lt2 w2.lt (by rw [ex_len, w.len, w2.len, Nat.add_comm]) (ex_bd w b (by omega)) b2
theorem ex_hi (r s : Nat) : ex (hi r s) = hi s r := by
  simp [ex, hi, sw]
/-! the order of texts -/
theorem lt_first : ∀ {l m : List Nat}, l.length = m.length → l < m → ∃ (k c d : Nat), l.take k = m.take k ∧ l[k]? = some c ∧ m[k]? = some d ∧ c < d
  | [], [], _, h => absurd h (List.lt_irrefl [])
  | [], _ :: _, h, _ => by cases h
  | _ :: _, [], h, _ => by cases h
  | a :: l, b :: m, h, hl => by
    rw [List.cons_lt_cons_iff] at hl
    rcases hl with hl | ⟨rfl, hl⟩
    · exact ⟨0, a, b, rfl, rfl, rfl, hl⟩
    · obtain ⟨k, c, d, h1, h2, h3, h4⟩ := lt_first (by simpa using h) hl
      exact ⟨k + 1, c, d, by simp [h1], by simpa using h2, by simpa using h3, h4⟩
theorem take_snoc {l : List Nat} {k c : Nat} (h : l[k]? = some c) : l.take (k + 1) = l.take k ++ [c] := by
  rw [List.take_succ, h]
  rfl
theorem not_lt_hi {r s : Nat} {l : List Nat} (w : Wy r s l) : ¬ l < hi r s := fun h => by
  obtain ⟨k, c, d, e, h1, h2, h3⟩ := lt_first (by rw [w.len, hi_len]) h
  have hk : k < r + s := by have := (List.getElem?_eq_some_iff.mp h1).1; rw [w.len] at this; exact this
  have hc := w.lt c (List.mem_of_getElem? h1)
  have hd := hi_lt2 r s d (List.mem_of_getElem? h2)
  have hc : c = 114 := by omega
  have hd : d = 115 := by omega
  subst hc hd
  have a1 := hi_steps r s (k + 1) (by omega)
  have a0 := hi_steps r s k (by omega)
  rw [take_snoc h2, List.count_append, a0] at a1
  simp at a1
  have b1 := lt2_len (l.take (k + 1)) (take_lt2 w.lt _)
  rw [List.length_take, Nat.min_eq_left (by rw [w.len]; omega)] at b1
  have b2 : (l.take (k + 1)).count 114 ≤ r := by rw [← w.c1]; exact (List.take_sublist _ l).count_le 114
  have b3 : (l.take (k + 1)).count 115 = (l.take k).count 115 := by rw [take_snoc h1, List.count_append]; simp
  rw [e, a0] at b3
  omega
theorem not_lo_lt {r s : Nat} {l m : List Nat} (w : Wy r s l) (v : Lt2 m) (hl : m.length = r + s) (b : Bd r s 0 m) : ¬ m < l := fun h => by
  obtain ⟨k, c, d, e, h1, h2, h3⟩ := lt_first (by rw [w.len, hl]) h
  have hk : k < r + s := by have := (List.getElem?_eq_some_iff.mp h1).1; rw [hl] at this; exact this
  have hc := v c (List.mem_of_getElem? h1)
  have hd := w.lt d (List.mem_of_getElem? h2)
  have hc : c = 114 := by omega
  have hd : d = 115 := by omega
  subst hc hd
  have p := ((bd_iff m 0).mp b (k + 1) (by omega) (by omega)).2
  have q := w.up (k + 1) (by rw [w.len]; omega)
  rw [take_snoc h1, sm_append] at p
  rw [take_snoc h2, sm_append, ← e] at q
  simp [sm, vl] at p q
  omega
theorem hi_lo {r s : Nat} (hr : 1 ≤ r) (hs : 1 ≤ s) : hi r s = lo r s ↔ (r = 1 ∨ s = 1) := by
  obtain ⟨w, b⟩ := lo_spec hr hs
  constructor
  · intro e
    have p := ((bd_iff (lo r s) 0).mp b r hr (by rw [w.len]; omega)).2
    rw [← e, sm_take (hi_lt2 r s) (by rw [hi_len]; omega), hi_steps r s r (by omega)] at p
    rcases Nat.lt_or_ge r 2 with h | h
    · exact .inl (by omega)
    · rcases Nat.lt_or_ge s 2 with h2 | h2
      · exact .inr (by omega)
      · exfalso
        obtain ⟨a, rfl⟩ : ∃ a, r = a + 2 := ⟨r - 2, by omega⟩
        obtain ⟨c, rfl⟩ : ∃ a, s = a + 2 := ⟨s - 2, by omega⟩
        have : ((a + 2 : Nat) : Int) * ((c + 2 : Nat) : Int) = (a : Int) * c + 2 * a + 2 * c + 4 := by
          simp only [Int.natCast_add, Int.add_mul, Int.mul_add]
          omega
        have h0 : 0 ≤ (a : Int) * c := Int.mul_nonneg (by omega) (by omega)
        simp only [Nat.sub_self] at p
        rw [this] at p
        omega
  · intro h
    have hb : Bd r s 0 (hi r s) := by
      rw [bd_iff]
      intro k k1 k2
      have up := (hi_way hr hs).up k k2
      refine ⟨by omega, ?_⟩
      rw [sm_take (hi_lt2 r s) k2]
      rw [hi_len] at k2
      rw [hi_steps r s k k2]
      have m1 : ((r : Int) + s) * ((k - r : Nat) : Int) ≥ (s : Int) * ((k - r : Nat) : Int) := Int.mul_le_mul_of_nonneg_right (by omega) (by omega)
      have m2 : (k : Int) * s ≤ (r : Int) * s + (s : Int) * ((k - r : Nat) : Int) := by
        by_cases hk : k ≤ r
        · have h1 : (k : Int) * s ≤ (r : Int) * s := Int.mul_le_mul_of_nonneg_right (by omega) (by omega)
          have h2 : 0 ≤ (s : Int) * ((k - r : Nat) : Int) := Int.mul_nonneg (by omega) (by omega)
          omega
        · obtain ⟨j, rfl⟩ : ∃ j, k = r + j := ⟨k - r, by omega⟩
          rw [Nat.add_sub_cancel_left, Int.natCast_add, Int.add_mul, Int.mul_comm (j : Int) s]
          omega
      have m3 : (r : Int) * s < r + s := by
        rcases h with rfl | rfl
        · simp; omega
        · simp; omega
      omega
    exact bd_unique _ _ 0 (hi_lt2 r s) w.lt (by rw [hi_len, w.len]) hb b
end K04
set_option Elab.async false
set_option linter.all false
set_option maxRecDepth 100000
set_option maxHeartbeats 4000000
namespace K04
open PySem PySem.Spec PyProof.Rows L2 L2.DL
def Fr (q : Sl) : Prop := q = .no ∨ ∃ d, q = .val d
theorem fr_no : Fr .no := .inl rfl
theorem fr_val {d : D} : Fr (.val d) := .inr ⟨d, rfl⟩
theorem set_fr {q : Sl} (h : Fr q) {i : Nat} {v : Sl} {e : Ev} : setR (some q) i v e = some (e.set i v) := by
  rcases h with rfl | ⟨d, rfl⟩ <;> rfl
theorem atI_get {xs : List D} {i : Nat} {d : D} (h : xs[i]? = some d) : atI xs (i : Int) = some d := by
  have hi : i < xs.length := (List.getElem?_eq_some_iff.mp h).1
  unfold atI ixN
  rw [if_pos (by omega), if_pos (by omega)]
  simpa using h
theorem pick_ok {z : Cell} {m : Int} {xs : List D} (h : Dice m z) (hm : m < 900000) (h0 : 0 < xs.length) (h1 : xs.length < 1000) :
    ∃ d z', m__law_pick [.cell true z, .val (.lst xs)] = .ok d [.cell true z', .no] ∧ d ∈ xs ∧ Dice (m + 1) z' := by
  obtain ⟨k, z', e, k0, k1, hd⟩ := roll_ok (t := (xs.length : Int)) h (by omega) (by omega) (by omega)
  obtain ⟨k, rfl⟩ := Int.eq_ofNat_of_zero_le k0
  have hk : k < xs.length := by omega
  refine ⟨xs[k], z', ?_, List.getElem_mem hk, hd⟩
  have hix : dIx (.lst xs) (.int (k : Int)) = some xs[k] := atI_get (by simp [hk])
  simp -implicitDefEqProofs [m__law_pick, e, hix]
theorem any_slope_ok {z : Cell} {m t : Int} (h : Dice m z) (hm : m < 900000) (h0 : 1 ≤ t) (h1 : t ≤ 60) :
    ∃ (r s : Nat) (z' : Cell), m__law_any_slope [.cell true z, .val (.int t)] = .ok (.tup [.int r, .int s]) [.cell true z', .no] ∧ 1 ≤ r ∧ r ≤ 60 ∧ 1 ≤ s ∧ s ≤ 60 ∧ Dice (m + 2) z' := by
  obtain ⟨a, z1, e1, a0, a1, d1⟩ := roll_ok (t := t) h (by omega) (by omega) (by omega)
  obtain ⟨b, z2, e2, b0, b1, d2⟩ := roll_ok (t := t) d1 (by omega) (by omega) (by omega)
  obtain ⟨a, rfl⟩ := Int.eq_ofNat_of_zero_le a0
  obtain ⟨b, rfl⟩ := Int.eq_ofNat_of_zero_le b0
  refine ⟨1 + a, 1 + b, z2, ?_, by omega, by omega, by omega, by omega, by rw [show m + 2 = m + 1 + 1 by omega]; exact d2⟩
  simp -implicitDefEqProofs [m__law_any_slope, e1, e2]
/-! bounds -/
theorem log_lt {x n : Nat} (h : x < 2 ^ n) (hn : 0 < n) : x.log2 < n := by
  by_cases e : x = 0
  · rw [e]; simpa using hn
  · exact (Nat.log2_lt e).mpr h
def Big (x : Nat) : Prop := x < 2 ^ 400000
theorem big_of {x n : Nat} (h : x < 2 ^ n) (hn : n ≤ 400000) : Big x := Nat.lt_of_lt_of_le h (Nat.pow_le_pow_right (by omega) hn)
theorem big_k {x : Nat} (h : x ≤ 1000) : Big x := big_of (n := 10) (by omega) (by omega)
theorem mul_ok {x y : Nat} (hx : Big x) (hy : Big y) : dMul (.int x) (.int y) = some (.int ((x * y : Nat) : Int)) := by
  rw [dMul_int, if_pos]
  · simp
  · have h1 := log_lt hx (by decide)
    have h2 := log_lt hy (by decide)
    simp only [Int.natAbs_natCast]
    omega
theorem div_ok {x y : Nat} (h0 : 0 < y) (h1 : y < 2 ^ 64) : dDiv (.int x) (.int y) = some (.int ((x / y : Nat) : Int)) := by
  rw [dDiv_pos (by omega)]
  · simp
  · have h2 := log_lt h1 (by decide)
    simp only [Int.natAbs_natCast]
    omega
theorem cho_le (n : Nat) : ∀ k, cho n k ≤ n ^ k
  | 0 => Nat.le_refl _
  | k + 1 => by
    show cho n k * (n - k) / (k + 1) ≤ _
    refine Nat.le_trans (Nat.div_le_self _ _) ?_
    rw [Nat.pow_succ]
    exact Nat.mul_le_mul (cho_le n k) (Nat.sub_le _ _)
theorem cho_small {n k : Nat} (hn : n ≤ 120) (hk : k ≤ 120) : cho n k < 2 ^ 1000 := by
  refine Nat.lt_of_le_of_lt (cho_le n k) ?_
  refine Nat.lt_of_le_of_lt (Nat.pow_le_pow_left (by omega : n ≤ 128) k) ?_
  refine Nat.lt_of_le_of_lt (Nat.pow_le_pow_right (by omega) hk) ?_
  rw [show (128 : Nat) = 2 ^ 7 from rfl, ← Nat.pow_mul]
  exact Nat.pow_lt_pow_right (by omega) (by omega)
theorem dot_le {X B : Nat} : ∀ (xs ys : List Nat), (∀ x ∈ xs, x ≤ X) → (∀ y ∈ ys, y ≤ B) → dot xs ys ≤ xs.length * (X * B)
  | [], _, _, _ => by simp [dot]
  | x :: xs, [], _, _ => by simp [dot]
  | x :: xs, y :: ys, hx, hy => by
    unfold dot
    have h1 := dot_le xs ys (fun a ha => hx a (List.mem_cons_of_mem _ ha)) (fun a ha => hy a (List.mem_cons_of_mem _ ha))
    have h2 := Nat.mul_le_mul (hx x List.mem_cons_self) (hy y List.mem_cons_self)
    rw [List.length_cons, Nat.succ_mul]
    omega
theorem cnts_le {q : List Nat} {B : Nat} (hB : 1 ≤ B) (hq : ∀ y ∈ q, y ≤ B) : ∀ m x, x ∈ cnts q m → x ≤ B ^ m
  | 0, x, h => by
    simp only [cnts, List.mem_singleton] at h
    rw [h]
    exact Nat.le_refl 1
  | m + 1, x, h => by
    unfold cnts at h
    have ih := cnts_le hB hq m
    rcases List.mem_cons.mp h with rfl | h
    · have h1 := dot_le (cnts q m) q ih hq
      rw [cnts_len] at h1
      rw [Nat.pow_succ]
      exact Nat.div_le_of_le_mul h1
    · exact Nat.le_trans (ih x h) (Nat.pow_le_pow_right hB (Nat.le_succ m))
theorem qs_small {a n K : Nat} (h : K * n ≤ 120) (ha : a ≤ n) : ∀ y ∈ qs a n K, y ≤ 2 ^ 1000 := by
  intro y hy
  unfold qs at hy
  obtain ⟨p, hp, rfl⟩ := List.mem_map.mp hy
  have hp := List.mem_range.mp hp
  have h1 : (p + 1) * n ≤ K * n := Nat.mul_le_mul_right n (by omega)
  have h2 : (p + 1) * a ≤ (p + 1) * n := Nat.mul_le_mul_left _ ha
  exact Nat.le_trans (Nat.div_le_self _ _) (Nat.le_of_lt (cho_small (by omega) (by omega)))
theorem cnts_small {a n K m : Nat} (h : K * n ≤ 120) (ha : a ≤ n) (hm : m ≤ 60) : ∀ x ∈ cnts (qs a n K) m, Big x := by
  intro x hx
  have h1 := cnts_le (by exact Nat.one_le_two_pow) (qs_small h ha) m x hx
  rw [← Nat.pow_mul] at h1
  exact big_of (n := 1000 * m + 1) (Nat.lt_of_le_of_lt h1 (Nat.pow_lt_pow_right (by omega) (by omega))) (by omega)
/-! counts -/
theorem ints_nat {ns : List Nat} : D.ints (ns.map fun n : Nat => .int (n : Int)) = some (ns.map fun n : Nat => (n : Int)) := by
  have := ints_map (ns := ns.map fun n : Nat => (n : Int))
  rw [List.map_map] at this
  exact this
theorem fSum_nat {ns : List Nat} : fSum [.lst (ns.map fun n : Nat => .int (n : Int))] = some (.int (ns.sum : Nat)) := by
  show ((D.ints _).map fun ns => D.int ns.sum) = _
  rw [ints_nat]
  have : (ns.map fun n : Nat => (n : Int)).sum = (ns.sum : Nat) := by
    induction ns with
    | nil => rfl
    | cons x t ih => simp [ih]
  simp [this]
theorem dot_sum : ∀ (xs ys : List Nat) (n : Nat), xs.length = n → n ≤ ys.length → ((List.range n).map fun i => xs.getD i 0 * ys.getD i 0).sum = dot xs ys
  | [], _, n, h, _ => by subst h; simp [dot]
  | x :: xs, [], n, h, h2 => by simp at h2; subst h2; simp at h
  | x :: xs, y :: ys, n, h, h2 => by
    obtain ⟨n, rfl⟩ : ∃ m, n = m + 1 := ⟨xs.length, by simpa using h.symm⟩
    rw [List.range_succ_eq_map, List.map_cons, List.map_map, List.sum_cons]
    have := dot_sum xs ys n (by simpa using h) (by simpa using h2)
    unfold dot
    rw [← this]
    rfl
def cBody : MS := (mSeq (mSetO 6 (mLc (mRange (mCons (mC (.int 1)) (mCons (mBin dAdd (mName 5) (mC (.int 1))) mNil))) [7] (gSet 7) mYes (mBin dMul (mIxC 4 (mBin dSub (mName 5) (mName 7))) (mBin dDiv (mFn fComb (mCons (mBin dMul (mName 7) (mName 3)) (mCons (mBin dMul (mName 7) (mName 2)) mNil))) (mName 3)))))
  (mExpr (mAppend 4 (mBin dDiv (mFn fSum (mCons (mName 6) mNil)) (mName 5)))))
def natD (n : Nat) : D := .int (n : Int)
theorem cBody_ok {a b K m : Nat} {sl : D} {cc : D} {q6 : Sl} (ft : Fit a b K) (hK : K * (a + b) ≤ 120) (hb : 0 < a + b) (hm : m < K) (hK2 : K ≤ 60) (h6 : Fr q6) :
    cBody [.val sl, .val cc, .val (.int a), .val (.int (a + b : Nat)), .cell false (.lst ((cnts (qs a (a + b) K) m).reverse.map natD)), .val (.int (m + 1 : Nat)), q6, .no]
      = .ok .next [.val sl, .val cc, .val (.int a), .val (.int (a + b : Nat)), .cell false (.lst ((cnts (qs a (a + b) K) (m + 1)).reverse.map natD)), .val (.int (m + 1 : Nat)), .val (.lst ((List.range (m + 1)).map fun i => natD ((cnts (qs a (a + b) K) m).getD i 0 * (qs a (a + b) K).getD i 0))), .no] := by
  generalize hq : qs a (a + b) K = q
  have hlen := cnts_len q m
  have hql : q.length = K := by rw [← hq]; simp [qs]
  have key := lc_same (vs := [7]) (tg := gSet 7) (t := mYes) (el := mBin dMul (mIxC 4 (mBin dSub (mName 5) (mName 7))) (mBin dDiv (mFn fComb (mCons (mBin dMul (mName 7) (mName 3)) (mCons (mBin dMul (mName 7) (mName 2)) mNil))) (mName 3)))
    (e := [.val sl, .val cc, .val (.int a), .val (.int (a + b : Nat)), .cell false (.lst ((cnts q m).reverse.map natD)), .val (.int (m + 1 : Nat)), q6, .no]) (p := fun _ => true) (f := fun d => match d with | .int k => natD ((cnts q m).getD (k.toNat - 1) 0 * q.getD (k.toNat - 1) 0) | d => d)
    (fun d => [.val sl, .val cc, .val (.int a), .val (.int (a + b : Nat)), .cell false (.lst ((cnts q m).reverse.map natD)), .val (.int (m + 1 : Nat)), q6, .val d]) ((List.range (m + 1)).map fun i => .int ((i + 1 : Nat) : Int)) (by simp; omega) (fun d hd => by
      obtain ⟨i, hi, rfl⟩ := List.mem_map.mp hd
      have hi := List.mem_range.mp hi
      have s1 : ((m + 1 : Nat) : Int) - ((i + 1 : Nat) : Int) = ((m - i : Nat) : Int) := by omega
      have g1 : ((cnts q m).reverse.map natD)[m - i]? = some (natD ((cnts q m).getD i 0)) := by
        rw [List.getElem?_map, List.getElem?_reverse (by omega), hlen, show m + 1 - 1 - (m - i) = i by omega, List.getD_eq_getElem?_getD]
        have : i < (cnts q m).length := by omega
        simp [this]
      have g2 := atI_get g1
      have hle1 : (i + 1) * (a + b) ≤ K * (a + b) := Nat.mul_le_mul_right _ (by omega)
      have hle2 : (i + 1) * a ≤ (i + 1) * (a + b) := Nat.mul_le_mul_left _ (by omega)
      have sm1 : Big (i + 1) := big_k (by omega)
      have hn : a + b ≤ K * (a + b) := Nat.le_mul_of_pos_left _ (by omega)
      have sm2 : Big (a + b) := big_k (by omega)
      have sm3 : Big a := big_k (by omega)
      have c1 := mul_ok sm1 sm2
      have c2 := mul_ok sm1 sm3
      have c3 : fComb [.int ((i + 1) * (a + b) : Nat), .int ((i + 1) * a : Nat)] = some (.int (cho ((i + 1) * (a + b)) ((i + 1) * a) : Nat)) := by
        show (if _ then _ else _) = _
        rw [if_pos ⟨by omega, by omega, by omega⟩, ft.e2 i (by omega)]
      have hqi : q.getD i 0 = cho ((i + 1) * (a + b)) ((i + 1) * a) / (a + b) := by
        rw [← hq, List.getD_eq_getElem?_getD]
        unfold qs
        rw [List.getElem?_map, List.getElem?_range (by omega)]
        rfl
      have c4 : dDiv (.int (cho ((i + 1) * (a + b)) ((i + 1) * a) : Nat)) (.int (a + b : Nat)) = some (.int (q.getD i 0 : Nat)) := by
        rw [hqi]
        exact div_ok hb (by omega)
      have d1 : Big ((cnts q m).getD i 0) := by
        rw [List.getD_eq_getElem?_getD]
        have h : i < (cnts q m).length := by omega
        rw [List.getElem?_eq_getElem h]
        show Big (cnts q m)[i]
        exact cnts_small (a := a) (m := m) hK (by omega) (by omega) _ (by rw [hq]; exact List.getElem_mem h)
      have d2 : Big (q.getD i 0) := by
        rw [List.getD_eq_getElem?_getD]
        have h : i < q.length := by omega
        rw [List.getElem?_eq_getElem h]
        exact big_of (n := 1001) (Nat.lt_of_le_of_lt (qs_small (a := a) hK (by omega) _ (by rw [hq]; exact List.getElem_mem h)) (Nat.pow_lt_pow_right (by omega) (by omega))) (by omega)
      have c5 := mul_ok d1 d2
      refine ⟨?_, rfl, fun _ => ?_, rfl, rfl⟩
      · simp
      · simp -implicitDefEqProofs only [ev_bin, ev_ixC, List.getElem?_cons_succ, List.getElem?_cons_zero, isL_lst, ev_name, name_val, bnd_ok, dSub_int, ev_some, s1, ixR_lst, g2, ev_fn, ev_cons, ev_nil, c1, c2, c3, c4, natD, c5, Int.toNat_natCast, Nat.add_sub_cancel])
  have hr := fRange_1 (n := m + 1) (by omega)
  have e7 : (((List.range (m + 1)).map fun i => D.int ((i + 1 : Nat) : Int)).filter fun _ => true).map (fun d => match d with | .int k => natD ((cnts q m).getD (k.toNat - 1) 0 * q.getD (k.toNat - 1) 0) | d => d) = (List.range (m + 1)).map fun i => natD ((cnts q m).getD i 0 * q.getD i 0) := by
    rw [List.filter_eq_self.mpr (fun _ _ => rfl), List.map_map]
    apply List.map_congr_left
    intro i _
    simp
  rw [e7] at key
  have hs : fSum [.lst ((List.range (m + 1)).map fun i => natD ((cnts q m).getD i 0 * q.getD i 0))] = some (.int (dot (cnts q m) q : Nat)) := by
    have := fSum_nat (ns := (List.range (m + 1)).map fun i => (cnts q m).getD i 0 * q.getD i 0)
    rw [List.map_map, dot_sum _ _ _ hlen (by omega)] at this
    exact this
  have hd := div_ok (x := dot (cnts q m) q) (y := m + 1) (by omega) (by omega)
  unfold cBody
  simp -implicitDefEqProofs only [ev_seq, ev_setO, ev_lc, ev_range, ev_cons, ev_nil, ev_C, ev_bin, ev_name, List.getElem?_cons_succ, List.getElem?_cons_zero, name_val, bnd_ok, dAdd_int, ev_some, hr]
  rw [show noCells [7] [.val sl, .val cc, .val (.int a), .val (.int (a + b : Nat)), .cell false (.lst ((cnts q m).reverse.map natD)), .val (.int (m + 1 : Nat)), q6, .no] = true from rfl, if_pos rfl]
  show Res.sq (Res.bnd (lcL [7] _ _ _ _ [] [.val sl, .val cc, .val (.int a), .val (.int (a + b : Nat)), .cell false (.lst ((cnts q m).reverse.map natD)), .val (.int (m + 1 : Nat)), q6, .no]) _) _ = _
  rw [key]
  simp -implicitDefEqProofs only [bnd_ok, List.getElem?_cons_succ, List.getElem?_cons_zero, set_fr h6, updR_some, sq_next, List.set_cons_succ, List.set_cons_zero, ev_expr, ev_append, isL_lst, ev_bin, ev_fn, ev_cons, ev_nil, ev_name, name_lst, name_val, ev_some, hs, hd, appR_lst, List.length_map, List.length_reverse, hlen, show (m + 1 < 16777216) = True from by simp; omega, if_true]
  simp [cnts, natD]
end K04
set_option Elab.async false
set_option linter.all false
set_option maxRecDepth 100000
set_option maxHeartbeats 4000000
namespace K04
open PySem PySem.Spec PyProof.Rows L2 L2.DL
theorem cLoop_ok {a b K : Nat} {sl cc : D} (ft : Fit a b K) (hK : K * (a + b) ≤ 120) (hb : 0 < a + b) (hK2 : K ≤ 60) : ∀ (j m : Nat) (q5 q6 : Sl), m + j ≤ K → Fr q5 → Fr q6 →
    ∃ q5' q6', forL (gSet 5) cBody ((List.range' m j).map fun i => .int ((i + 1 : Nat) : Int)) [.val sl, .val cc, .val (.int a), .val (.int (a + b : Nat)), .cell false (.lst ((cnts (qs a (a + b) K) m).reverse.map natD)), q5, q6, .no]
      = .ok .next [.val sl, .val cc, .val (.int a), .val (.int (a + b : Nat)), .cell false (.lst ((cnts (qs a (a + b) K) (m + j)).reverse.map natD)), q5', q6', .no] := by
  intro j
  induction j with
  | zero => intro m q5 q6 _ _ _; exact ⟨q5, q6, by simp⟩
  | succ j ih =>
    intro m q5 q6 hm h5 h6
    obtain ⟨x5, x6, e⟩ := ih (m + 1) (.val (.int (m + 1 : Nat))) _ (by omega) fr_val (fr_val (d := .lst ((List.range (m + 1)).map fun i => natD ((cnts (qs a (a + b) K) m).getD i 0 * (qs a (a + b) K).getD i 0))))
    refine ⟨x5, x6, ?_⟩
    rw [List.range'_succ, List.map_cons, forL_next (e1 := [.val sl, .val cc, .val (.int a), .val (.int (a + b : Nat)), .cell false (.lst ((cnts (qs a (a + b) K) m).reverse.map natD)), .val (.int (m + 1 : Nat)), q6, .no]) ?_ (cBody_ok ft hK hb (by omega) hK2 h6)]
    · rw [e, show m + 1 + j = m + (j + 1) by omega]
    · simp only [ev_gSet, List.getElem?_cons_succ, List.getElem?_cons_zero, set_fr h5, List.set_cons_succ, List.set_cons_zero]
/-- a coprime slope a:b and what is known of its multiples -/
structure Sl2 (a b K : Nat) : Prop where
  ha : 1 ≤ a
  hb : 1 ≤ b
  cop : Nat.gcd a b = 1
  ft : Fit a b K
  ka : K * a ≤ 60
  kb : K * b ≤ 60
section
variable {a b K : Nat}
theorem Sl2.kn (S : Sl2 a b K) : K * (a + b) ≤ 120 := by have := S.ka; have := S.kb; rw [Nat.mul_add]; omega
theorem Sl2.k60 (S : Sl2 a b K) : K ≤ 60 := Nat.le_trans (Nat.le_mul_of_pos_right _ S.ha) S.ka
theorem count_ok {c : Nat} (S : Sl2 a b K) (hc : 1 ≤ c) (hcK : c ≤ K) : m_count_of_ways [.val (slopeD (c * a) (c * b))] = .ok (.int (cnt a (a + b) K c : Nat)) [.no] := by
  have hg : Nat.gcd (c * a) (c * b) = c := by rw [Nat.gcd_mul_left, S.cop, Nat.mul_one]
  have := S.k60
  have h1 : dDiv (.int (c * a : Nat)) (.int c) = some (.int (a : Nat)) := by
    rw [div_ok (by omega) (by omega), Nat.mul_div_cancel_left _ (by omega)]
  have h2 : dDiv (.int ((c * a : Nat) + (c * b : Nat) : Int)) (.int c) = some (.int (a + b : Nat)) := by
    have : ((c * a : Nat) : Int) + ((c * b : Nat) : Int) = ((c * a + c * b : Nat) : Int) := by omega
    rw [this, div_ok (by omega) (by omega), ← Nat.mul_add, Nat.mul_div_cancel_left _ (by omega)]
  have hr := fRange_1 (n := c) (by omega)
  obtain ⟨q5, q6, e⟩ := cLoop_ok (sl := slopeD (c * a) (c * b)) (cc := .int c) S.ft S.kn (by have := S.ha; omega) S.k60 c 0 .no .no (by omega) fr_no fr_no
  rw [← List.range_eq_range', Nat.zero_add] at e
  have e : forL (gSet 5) cBody ((List.range c).map fun i => .int ((i + 1 : Nat) : Int)) [.val (slopeD (c * a) (c * b)), .val (.int c), .val (.int a), .val (.int (a + b : Nat)), .cell false (.lst [.int 1]), .no, .no, .no] = _ := e
  have hx : atI ((cnts (qs a (a + b) K) c).reverse.map natD) (c : Int) = some (.int (cnt a (a + b) K c : Nat)) := by
    apply atI_get
    rw [List.getElem?_map, List.getElem?_reverse (by rw [cnts_len]; omega), cnts_len, show c + 1 - 1 - c = 0 by omega]
    unfold cnt
    cases h : cnts (qs a (a + b) K) c with
    | nil => have := cnts_len (qs a (a + b) K) c; rw [h] at this; cases this
    | cons x t => rfl
  unfold cBody at e
  have at0 : ∀ e, attrR [(0, 0)] (slopeD (c * a) (c * b)) e = .ok (.int c) e := fun e => by
    unfold slopeD
    rw [hg]
    rfl
  have at1 : ∀ e, attrR [(0, 1)] (slopeD (c * a) (c * b)) e = .ok (.int (c * a : Nat)) e := fun e => rfl
  have at2 : ∀ e, attrR [(0, 2)] (slopeD (c * a) (c * b)) e = .ok (.int (c * b : Nat)) e := fun e => rfl
  simp -implicitDefEqProofs only [m_count_of_ways, ev_def, List.length_cons, List.length_nil, List.cons_append, List.nil_append, List.replicate_succ, List.replicate_zero, Nat.reduceAdd, Nat.reduceSub, ev_seq, ev_set, ev_attr, ev_name, List.getElem?_cons_succ, List.getElem?_cons_zero, name_val, bnd_ok, at0, at1, at2, setR_no, updR_some, sq_next, List.set_cons_succ, List.set_cons_zero,
    ev_asg, ev_par, ev_pvCons, ev_pvNil, ev_inl, pvs_cons, pv_inl, pvsR_some, pvs_nil, ev_tup, ev_cons, ev_nil, ev_bin, h1, ev_some, dAdd_int, h2, ev_gTup, ev_gsCons, ev_gSet, gsR_some, ev_gsNil, Nat.reduceLeDiff, if_true, ev_setO, ev_lst, ev_C, ev_for, ev_range, hr, e, ev_mret, ev_ixC, isL_lst, ixR_lst, hx, end_ret, outs_val, outs_nil]
theorem way_count_ok {c : Nat} (S : Sl2 a b K) (hc : 1 ≤ c) (hcK : c ≤ K) : m_way_count [.val (slopeD (c * a) (c * b))] = .ok (.int (cnt a (a + b) K c : Nat)) [.no] := by
  have h1 : m_require_slope [.val (slopeD (c * a) (c * b))] = .ok .non [.no] := by
    simp -implicitDefEqProofs [m_require_slope, D.tg, isiT, List.lookup, slopeD]
  simp -implicitDefEqProofs [m_way_count, h1, count_ok S hc hcK]
end
/-! the table of ends -/
def rowD (r s l n : Nat) : List D := (List.range n).map fun m => natD (ways r s l m)
def tabD (r s n : Nat) : List D := (List.range n).map fun l => .lst (rowD r s l (s + 1))
theorem ways_le (r s : Nat) : ∀ l m, ways r s l m ≤ 2 ^ (l + m) := by
  have row : ∀ l p, (∀ m, p m ≤ (if l = 0 then 0 else 2 ^ (l - 1 + m))) → ∀ m, wrow r s l p m ≤ 2 ^ (l + m) := by
    intro l p hp m
    induction m with
    | zero =>
      have := hp 0
      unfold wrow
      by_cases h : l = 0
      · simp [h] at this ⊢; omega
      · rw [if_neg h] at this ⊢
        have h2 : 2 ^ (l - 1 + 0) ≤ 2 ^ (l + 0) := Nat.pow_le_pow_right (by omega) (by omega)
        omega
    | succ m ih =>
      have := hp (m + 1)
      unfold wrow
      have h3 : 2 ^ (l + (m + 1)) = 2 ^ (l + m) + 2 ^ (l + m) := by rw [← Nat.add_assoc, Nat.pow_succ]; omega
      have h4 : p (m + 1) ≤ 2 ^ (l + m) := by
        by_cases h : l = 0
        · rw [if_pos h] at this; omega
        · rw [if_neg h] at this; rw [show l - 1 + (m + 1) = l + m by omega] at this; exact this
      split <;> omega
  intro l
  induction l with
  | zero => exact row 0 _ fun m => by simp
  | succ l ih => exact row (l + 1) _ fun m => by rw [if_neg (by omega), show l + 1 - 1 = l by omega]; exact ih m
def eIn : MS := (mSeq (mSet 6 (mFn fInt (mCons (mBin dEq (mBin dAdd (mName 3) (mName 5)) (mC (.int 0))) mNil)))
  (mSeq (mIf (mAndT (mTest (mBin dGt (mName 5) (mC (.int 0)))) (mTest (mBin dGe (mBin dMul (mName 0) (mBin dSub (mName 5) (mC (.int 1)))) (mBin dMul (mName 1) (mName 3)))))
  (mSet 6 (mBin dAdd (mName 6) (mIxC 4 (mBin dSub (mName 5) (mC (.int 1))))))
  M.next)
  (mSeq (mIf (mTest (mBin dGt (mName 3) (mC (.int 0))))
  (mSet 6 (mBin dAdd (mName 6) (mBin dIx (mIxC 2 (mBin dSub (mName 3) (mC (.int 1)))) (mName 5))))
  M.next)
  (mExpr (mAppend 4 (mName 6))))))
theorem eIn_ok {r s l m : Nat} {q6 : Sl} (hr : r ≤ 60) (hs : s ≤ 60) (hl : l ≤ r) (hm : m ≤ s) (h6 : Fr q6) :
    eIn [.val (.int r), .val (.int s), .cell false (.lst (tabD r s l)), .val (.int l), .cell false (.lst (rowD r s l m)), .val (.int m), q6]
      = .ok .next [.val (.int r), .val (.int s), .cell false (.lst (tabD r s l)), .val (.int l), .cell false (.lst (rowD r s l (m + 1))), .val (.int m), .val (natD (ways r s l m))] := by
  have rl : (rowD r s l m).length = m := by simp [rowD]
  have app : rowD r s l m ++ [natD (ways r s l m)] = rowD r s l (m + 1) := by
    unfold rowD
    rw [List.range_succ, List.map_append]
    rfl
  -- the number from the left
  obtain ⟨x, hx⟩ : ∃ x : Nat, x = (if l + m = 0 then 1 else 0) := ⟨_, rfl⟩
  have step1 : ∀ q4 : Sl, (mSet 6 (mFn fInt (mCons (mBin dEq (mBin dAdd (mName 3) (mName 5)) (mC (.int 0))) mNil))) [.val (.int r), .val (.int s), .cell false (.lst (tabD r s l)), .val (.int l), q4, .val (.int m), q6] = .ok .next [.val (.int r), .val (.int s), .cell false (.lst (tabD r s l)), .val (.int l), q4, .val (.int m), .val (.int x)] := by
    intro q4
    have : (if decide ((l : Int) + (m : Int) = 0) = true then (1 : Int) else 0) = (x : Int) := by
      rw [hx]
      by_cases h : l + m = 0
      · rw [if_pos h, if_pos (by simp; omega)]; rfl
      · rw [if_neg h, if_neg (by simp; omega)]; rfl
    simp -implicitDefEqProofs only [ev_set, ev_fn, ev_cons, ev_nil, ev_bin, ev_name, ev_C, List.getElem?_cons_succ, List.getElem?_cons_zero, name_val, bnd_ok, dAdd_int, ev_some, dEq_int, fInt_bl, this, set_fr h6, updR_some, List.set_cons_succ, List.set_cons_zero]
  obtain ⟨y, hy⟩ : ∃ y : Nat, y = (match m with | 0 => 0 | m' + 1 => if s * l ≤ r * m' then ways r s l m' else 0) := ⟨_, rfl⟩
  obtain ⟨u, hu⟩ : ∃ u : Nat, u = (match l with | 0 => 0 | l' + 1 => ways r s l' m) := ⟨_, rfl⟩
  have total : ways r s l m = x + y + u := by
    rw [hx, hy, hu]
    cases l with
    | zero =>
      cases m with
      | zero => simp [ways, wrow]
      | succ m => simp [ways, wrow]
    | succ l =>
      cases m with
      | zero => simp [ways, wrow]
      | succ m => simp [ways, wrow]
  have bl : r * (m - 1) ≤ 3600 := Nat.le_trans (Nat.mul_le_mul hr (by omega : m - 1 ≤ 60)) (by omega)
  have step2 : (mIf (mAndT (mTest (mBin dGt (mName 5) (mC (.int 0)))) (mTest (mBin dGe (mBin dMul (mName 0) (mBin dSub (mName 5) (mC (.int 1)))) (mBin dMul (mName 1) (mName 3)))))
  (mSet 6 (mBin dAdd (mName 6) (mIxC 4 (mBin dSub (mName 5) (mC (.int 1))))))
  M.next) [.val (.int r), .val (.int s), .cell false (.lst (tabD r s l)), .val (.int l), .cell false (.lst (rowD r s l m)), .val (.int m), .val (.int x)] = .ok .next [.val (.int r), .val (.int s), .cell false (.lst (tabD r s l)), .val (.int l), .cell false (.lst (rowD r s l m)), .val (.int m), .val (.int (x + y : Nat))] := by
    cases m with
    | zero =>
      subst hy
      simp -implicitDefEqProofs
    | succ m =>
      have e1 : ((m + 1 : Nat) : Int) - 1 = (m : Int) := by omega
      have m1 := mul_ok (x := r) (y := m) (big_k (by omega)) (big_k (by omega))
      have m2 := mul_ok (x := s) (y := l) (big_k (by omega)) (big_k (by omega))
      have ix : atI (rowD r s l (m + 1)) (m : Int) = some (natD (ways r s l m)) := by
        apply atI_get
        unfold rowD
        rw [List.getElem?_map, List.getElem?_range (by omega)]
        rfl
      have p0 : decide ((0 : Int) < ((m + 1 : Nat) : Int)) = true := by simp
      simp only at hy
      by_cases hc : s * l ≤ r * m
      · rw [if_pos hc] at hy
        have c1 : decide (((s * l : Nat) : Int) ≤ ((r * m : Nat) : Int)) = true := by simp only [decide_eq_true_eq]; omega
        have ad : (x : Int) + (ways r s l m : Nat) = ((x + y : Nat) : Int) := by rw [hy]; omega
        simp -implicitDefEqProofs only [ev_if, ev_andT, ev_test, ev_bin, ev_name, ev_C, List.getElem?_cons_succ, List.getElem?_cons_zero, name_val, bnd_ok, dGt_int, ev_some, isB_bl, p0, if_true, dSub_int, e1, m1, m2, dGe_int, c1, ev_set, ev_ixC, isL_lst, ixR_lst, ix, natD, dAdd_int, ad, setR_val, updR_some, List.set_cons_succ, List.set_cons_zero]
      · rw [if_neg hc] at hy
        have c1 : decide (((s * l : Nat) : Int) ≤ ((r * m : Nat) : Int)) = false := by simp only [decide_eq_false_iff_not]; omega
        subst hy
        simp -implicitDefEqProofs only [ev_if, ev_andT, ev_test, ev_bin, ev_name, ev_C, List.getElem?_cons_succ, List.getElem?_cons_zero, name_val, bnd_ok, dGt_int, ev_some, isB_bl, p0, if_true, dSub_int, e1, m1, m2, dGe_int, c1, Bool.false_eq_true, if_false, ev_next, Nat.add_zero]
  have step3 : (mIf (mTest (mBin dGt (mName 3) (mC (.int 0))))
  (mSet 6 (mBin dAdd (mName 6) (mBin dIx (mIxC 2 (mBin dSub (mName 3) (mC (.int 1)))) (mName 5))))
  M.next) [.val (.int r), .val (.int s), .cell false (.lst (tabD r s l)), .val (.int l), .cell false (.lst (rowD r s l m)), .val (.int m), .val (.int (x + y : Nat))] = .ok .next [.val (.int r), .val (.int s), .cell false (.lst (tabD r s l)), .val (.int l), .cell false (.lst (rowD r s l m)), .val (.int m), .val (.int (x + y + u : Nat))] := by
    cases l with
    | zero =>
      subst hu
      simp -implicitDefEqProofs
    | succ l =>
      have e1 : ((l + 1 : Nat) : Int) - 1 = (l : Int) := by omega
      have ix : atI (tabD r s (l + 1)) (l : Int) = some (.lst (rowD r s l (s + 1))) := by
        apply atI_get
        unfold tabD
        rw [List.getElem?_map, List.getElem?_range (by omega)]
        rfl
      have ix2 : dIx (.lst (rowD r s l (s + 1))) (.int m) = some (natD (ways r s l m)) := by
        apply atI_get
        unfold rowD
        rw [List.getElem?_map, List.getElem?_range (by omega)]
        rfl
      have p0 : decide ((0 : Int) < ((l + 1 : Nat) : Int)) = true := by simp
      simp only at hu
      have ad : ((x + y : Nat) : Int) + (ways r s l m : Nat) = ((x + y + u : Nat) : Int) := by rw [hu]; omega
      simp -implicitDefEqProofs only [ev_if, ev_test, ev_bin, ev_name, ev_C, List.getElem?_cons_succ, List.getElem?_cons_zero, name_val, bnd_ok, dGt_int, ev_some, isB_bl, p0, if_true, dSub_int, e1, ev_set, ev_ixC, isL_lst, ixR_lst, ix, ix2, natD, dAdd_int, ad, setR_val, updR_some, List.set_cons_succ, List.set_cons_zero]
  unfold eIn
  rw [ev_seq, step1, sq_next, ev_seq, step2, sq_next, ev_seq, step3, sq_next, ← total, ← app]
  simp -implicitDefEqProofs only [ev_expr, ev_append, isL_lst, ev_name, List.getElem?_cons_succ, List.getElem?_cons_zero, name_val, bnd_ok, appR_lst, rl, show (m < 16777216) = True from by simp; omega, if_true, List.set_cons_succ, List.set_cons_zero, natD]
theorem eIn_loop {r s l : Nat} (hr : r ≤ 60) (hs : s ≤ 60) (hl : l ≤ r) : ∀ (j m : Nat) (q5 q6 : Sl), m + j ≤ s + 1 → Fr q5 → Fr q6 →
    ∃ q5' q6', forL (gSet 5) eIn ((List.range' m j).map fun i => .int (i : Nat)) [.val (.int r), .val (.int s), .cell false (.lst (tabD r s l)), .val (.int l), .cell false (.lst (rowD r s l m)), q5, q6]
      = .ok .next [.val (.int r), .val (.int s), .cell false (.lst (tabD r s l)), .val (.int l), .cell false (.lst (rowD r s l (m + j))), q5', q6'] ∧ Fr q5' ∧ Fr q6' := by
  intro j
  induction j with
  | zero => intro m q5 q6 _ h5 h6; exact ⟨q5, q6, by simp, h5, h6⟩
  | succ j ih =>
    intro m q5 q6 hm h5 h6
    obtain ⟨x5, x6, e, f5, f6⟩ := ih (m + 1) (.val (.int m)) (.val (natD (ways r s l m))) (by omega) fr_val fr_val
    refine ⟨x5, x6, ?_, f5, f6⟩
    rw [List.range'_succ, List.map_cons, forL_next (e1 := [.val (.int r), .val (.int s), .cell false (.lst (tabD r s l)), .val (.int l), .cell false (.lst (rowD r s l m)), .val (.int m), q6]) ?_ (eIn_ok hr hs hl (by omega) h6)]
    · rw [e, show m + 1 + j = m + (j + 1) by omega]
    · simp only [ev_gSet, List.getElem?_cons_succ, List.getElem?_cons_zero, set_fr h5, List.set_cons_succ, List.set_cons_zero]
def eOut : MS := (mSeq (mSetO 4 (mLst mNil))
  (mSeq (mFor (mRange (mCons (mBin dAdd (mName 1) (mC (.int 1))) mNil)) (gSet 5)
  eIn)
  (mExpr (mAppend 2 (mName 4)))))
theorem eOut_loop {r s : Nat} (hr : r ≤ 60) (hs : s ≤ 60) : ∀ (j l : Nat) (q3 q4 q5 q6 : Sl), l + j ≤ r + 1 → Fr q3 → Fr q4 → Fr q5 → Fr q6 →
    ∃ q3' q4' q5' q6', forL (gSet 3) eOut ((List.range' l j).map fun i => .int (i : Nat)) [.val (.int r), .val (.int s), .cell false (.lst (tabD r s l)), q3, q4, q5, q6]
      = .ok .next [.val (.int r), .val (.int s), .cell false (.lst (tabD r s (l + j))), q3', q4', q5', q6'] := by
  intro j
  induction j with
  | zero => intro l q3 q4 q5 q6 _ _ _ _ _; exact ⟨q3, q4, q5, q6, by simp⟩
  | succ j ih =>
    intro l q3 q4 q5 q6 hl h3 h4 h5 h6
    obtain ⟨x5, x6, e, f5, f6⟩ := eIn_loop (l := l) hr hs (by omega) (s + 1) 0 q5 q6 (by omega) h5 h6
    rw [← List.range_eq_range', Nat.zero_add] at e
    have e : forL (gSet 5) eIn ((List.range (s + 1)).map fun i => .int (i : Nat)) [.val (.int r), .val (.int s), .cell false (.lst (tabD r s l)), .val (.int l), .cell false (.lst []), q5, q6] = _ := e
    obtain ⟨y3, y4, y5, y6, e2⟩ := ih (l + 1) (.val (.int l)) (.val (.lst (rowD r s l (s + 1)))) x5 x6 (by omega) fr_val fr_val f5 f6
    refine ⟨y3, y4, y5, y6, ?_⟩
    have tl : (tabD r s l).length = l := by simp [tabD]
    have app : tabD r s l ++ [.lst (rowD r s l (s + 1))] = tabD r s (l + 1) := by
      unfold tabD
      rw [List.range_succ, List.map_append]
      rfl
    have hr' := fRange_n (n := s + 1) (by omega)
    rw [List.range'_succ, List.map_cons, forL_next (e1 := [.val (.int r), .val (.int s), .cell false (.lst (tabD r s l)), .val (.int l), q4, q5, q6]) (e2 := [.val (.int r), .val (.int s), .cell false (.lst (tabD r s (l + 1))), .val (.int l), .val (.lst (rowD r s l (s + 1))), x5, x6])]
    · rw [e2, show l + 1 + j = l + (j + 1) by omega]
    · simp only [ev_gSet, List.getElem?_cons_succ, List.getElem?_cons_zero, set_fr h3, List.set_cons_succ, List.set_cons_zero]
    · unfold eOut
      simp -implicitDefEqProofs only [ev_seq, ev_setO, ev_lst, ev_nil, List.length_nil, Nat.zero_le, if_true, bnd_ok, List.getElem?_cons_succ, List.getElem?_cons_zero, set_fr h4, updR_some, sq_next, List.set_cons_succ, List.set_cons_zero, ev_for, ev_range, ev_cons, ev_bin, ev_name, name_val, ev_C, dAdd_int, ev_some]
      rw [show (s : Int) + 1 = ((s + 1 : Nat) : Int) by omega, hr']
      simp -implicitDefEqProofs only [ev_some, bnd_ok, e, sq_next, ev_expr, ev_append, isL_lst, ev_name, List.getElem?_cons_succ, List.getElem?_cons_zero, name_lst, appR_lst, tl, show (l < 16777216) = True from by simp; omega, if_true, List.set_cons_succ, List.set_cons_zero, app]
theorem ends_ok {r s : Nat} (hr : r ≤ 60) (hs : s ≤ 60) : m__law_ends [.val (.int r), .val (.int s)] = .ok (.lst (tabD r s (r + 1))) [.no, .no] := by
  obtain ⟨y3, y4, y5, y6, e⟩ := eOut_loop hr hs (r + 1) 0 .no .no .no .no (by omega) fr_no fr_no fr_no fr_no
  rw [← List.range_eq_range', Nat.zero_add] at e
  have e : forL (gSet 3) eOut ((List.range (r + 1)).map fun i => .int (i : Nat)) [.val (.int r), .val (.int s), .cell false (.lst []), .no, .no, .no, .no] = _ := e
  have hr' := fRange_n (n := r + 1) (by omega)
  unfold eOut eIn at e
  simp -implicitDefEqProofs only [m__law_ends, ev_def, List.length_cons, List.length_nil, List.cons_append, List.nil_append, List.replicate_succ, List.replicate_zero, Nat.reduceAdd, Nat.reduceSub, ev_seq, ev_setO, ev_lst, ev_nil, Nat.zero_le, if_true, bnd_ok, List.getElem?_cons_succ, List.getElem?_cons_zero, setR_no, updR_some, sq_next, List.set_cons_succ, List.set_cons_zero, ev_for, ev_range, ev_cons, ev_bin, ev_name, name_val, ev_C, dAdd_int, ev_some]
  rw [show (r : Int) + 1 = ((r + 1 : Nat) : Int) by omega, hr']
  simp -implicitDefEqProofs only [ev_some, bnd_ok, e, sq_next, ev_mret, ev_name, List.getElem?_cons_succ, List.getElem?_cons_zero, name_lst, end_ret, outs_val, outs_nil, List.set_cons_succ, List.set_cons_zero]
end K04
set_option Elab.async false
set_option linter.all false
set_option maxRecDepth 100000
set_option maxHeartbeats 4000000
namespace K04
open PySem PySem.Spec PyProof.Rows L2 L2.DL
@[simp] theorem fMinA_lst {xs : List D} : fMinA [.lst xs] = fMin [.lst xs] := rfl
def lv (r s : Nat) : List Nat → Int → List Int
  | [], _ => []
  | c :: t, x => x :: lv r s t (x + vl r s c)
theorem lv_len {r s : Nat} : ∀ (l : List Nat) (x : Int), (lv r s l x).length = l.length
  | [], _ => rfl
  | c :: t, x => by simp [lv, lv_len t]
theorem lv_get {r s : Nat} : ∀ (l : List Nat) (x : Int) (k : Nat), k < l.length → (lv r s l x)[k]? = some (x + sm r s (l.take k))
  | [], _, k, h => by simp at h
  | c :: t, x, 0, _ => by simp [lv, sm]
  | c :: t, x, k + 1, h => by
    show (lv r s t (x + vl r s c))[k]? = _
    rw [lv_get t _ k (by simpa using h), List.take_succ_cons, sm]
    congr 1
    omega
theorem levels_loop {r s : Nat} {text : D} : ∀ (l : List Nat) (fd : List Int) (x : Int) (q : Sl), fd.length + l.length ≤ 1000 → (q = .no ∨ ∃ d, q = .val d) →
    ∃ y q', forL (gSet 4) (mSeq (mExpr (mAppend 2 (mName 3))) (mAug 3 dAddI (mIf (mTest (mBin dEq (mName 4) (mC (.str "r")))) (mAttr [(0, 2)] (mName 0)) (mUn dNeg (mAttr [(0, 1)] (mName 0)))))) (l.map fun k => .str (S [k]))
      [.val (slopeD r s), .val text, .cell false (.lst (fd.map .int)), .val (.int x), q] = .ok .next [.val (slopeD r s), .val text, .cell false (.lst ((fd ++ lv r s l x).map .int)), .val (.int y), q'] := by
  intro l
  induction l with
  | nil => intro fd x q _ _; exact ⟨x, q, by simp [forL, lv]⟩
  | cons c t ih =>
    intro fd x q hl hq
    simp only [List.length_cons] at hl
    obtain ⟨y, q', e⟩ := ih (fd ++ [x]) (x + vl r s c) (.val (.str (S [c]))) (by simp; omega) (.inr ⟨_, rfl⟩)
    refine ⟨y, q', ?_⟩
    have h1 : gSet 4 (.str (S [c])) [.val (slopeD r s), .val text, .cell false (.lst (fd.map .int)), .val (.int x), q] = some [.val (slopeD r s), .val text, .cell false (.lst (fd.map .int)), .val (.int x), .val (.str (S [c]))] := by
      rcases hq with rfl | ⟨d, rfl⟩ <;> simp
    have h2 : (mSeq (mExpr (mAppend 2 (mName 3))) (mAug 3 dAddI (mIf (mTest (mBin dEq (mName 4) (mC (.str "r")))) (mAttr [(0, 2)] (mName 0)) (mUn dNeg (mAttr [(0, 1)] (mName 0))))))
        [.val (slopeD r s), .val text, .cell false (.lst (fd.map .int)), .val (.int x), .val (.str (S [c]))] = .ok .next [.val (slopeD r s), .val text, .cell false (.lst ((fd ++ [x]).map .int)), .val (.int (x + vl r s c)), .val (.str (S [c]))] := by
      by_cases hc : c = 114
      · simp -implicitDefEqProofs [ev_append, show fd.length < 16777216 by omega, chR, hc, slopeD, List.lookup, vl]
      · simp -implicitDefEqProofs [ev_append, show fd.length < 16777216 by omega, chR, hc, slopeD, List.lookup, vl]
    rw [List.map_cons, forL_next h1 h2, e]
    simp [lv]
theorem levels_of_ok {r s : Nat} {l : List Nat} (hl : l.length ≤ 1000) : m_levels_of [.val (slopeD r s), .val (.str (S l))] = .ok (.lst ((lv r s l 0).map .int)) [.no, .no] := by
  obtain ⟨y, q, e⟩ := levels_loop (r := r) (s := s) (text := .str (S l)) l [] 0 .no (by simpa using hl) (.inl rfl)
  rw [List.map_nil, List.nil_append] at e
  simp -implicitDefEqProofs [m_levels_of] at e ⊢
  rw [e]
  simp -implicitDefEqProofs
/-! the way as an object -/
def wayD (r s : Nat) (l : List Nat) : D := .obj 1 [.tup [.int r, .int s, .str (S l)], slopeD r s, .str (S l)]
def mn : List Int → Int
  | [] => 0
  | n :: t => minI n t
theorem fMin_lst {ns : List Int} (h : ns ≠ []) : fMin [.lst (ns.map .int)] = some (.int (mn ns)) := by
  cases ns with
  | nil => exact absurd rfl h
  | cons n t =>
    show ((D.ints ((n :: t).map .int)).bind fun ns => match ns with | [] => none | n :: r => some (D.int (minI n r))) = _
    rw [DL.ints_map]
    rfl
theorem minI_nonneg : ∀ (t : List Int) (a : Int), 0 ≤ a → (∀ b ∈ t, 0 ≤ b) → 0 ≤ minI a t
  | [], _, h, _ => h
  | b :: t, a, h, hb => by
    show 0 ≤ minI (if b < a then b else a) t
    have := hb b List.mem_cons_self
    exact minI_nonneg t _ (by split <;> omega) fun c hc => hb c (List.mem_cons_of_mem _ hc)
theorem lv_nonneg {r s : Nat} {l : List Nat} (w : Wy r s l) : ∀ x ∈ lv r s l 0, 0 ≤ x := fun x hx => by
  obtain ⟨k, hk, e⟩ := List.mem_iff_getElem.mp hx
  rw [lv_len] at hk
  have h := lv_get (r := r) (s := s) l 0 k hk
  rw [List.getElem?_eq_getElem (by rw [lv_len]; exact hk), e] at h
  have := w.up k (by omega)
  have h := Option.some.inj h
  omega
theorem mn_nonneg : ∀ ns : List Int, (∀ x ∈ ns, 0 ≤ x) → 0 ≤ mn ns
  | [], _ => Int.le_refl 0
  | n :: t, h => minI_nonneg t n (h n List.mem_cons_self) fun c hc => h c (List.mem_cons_of_mem _ hc)
structure Sd (r s : Nat) : Prop where
  r1 : 1 ≤ r
  r2 : r ≤ 60
  s1 : 1 ≤ s
  s2 : s ≤ 60
section
variable {r s : Nat} {l : List Nat}
theorem require_slope_ok : m_require_slope [.val (slopeD r s)] = .ok .non [.no] := by
  simp -implicitDefEqProofs [m_require_slope, D.tg, isiT, List.lookup, slopeD]
theorem is_text_of_ok (h : Sd r s) (w : Wy r s l) : m_is_text_of [.val (slopeD r s), .val (.str (S l))] = .ok (.bl true) [.no, .no] := by
  have h1 := w.len
  have := h.r2
  have := h.s2
  simp -implicitDefEqProofs [m_is_text_of, D.tg, isiT, List.lookup, slopeD, chR, chS, w.c1, w.c2, h1, show r + s ≤ 16777216 by omega]
theorem is_way_text_ok (h : Sd r s) (w : Wy r s l) : m_is_way_text [.val (slopeD r s), .val (.str (S l))] = .ok (.bl true) [.no, .no] := by
  have h1 := w.len
  have := h.r1
  have := h.r2
  have := h.s2
  have hne : lv r s l 0 ≠ [] := fun h => by
    have := lv_len (r := r) (s := s) l 0
    rw [h] at this
    simp at this
    omega
  have hm := mn_nonneg _ (lv_nonneg w)
  simp -implicitDefEqProofs [m_is_way_text, is_text_of_ok h w, levels_of_ok (r := r) (s := s) (l := l) (by omega), fMin_lst hne, hm]
theorem way_make (h : Sd r s) (w : Wy r s l) (e : Ev) : makeR 1 (m_Way_init [.cell true (.ob 1 []), .val (slopeD r s), .val (.str (S l))]) e = .ok (wayD r s l) e := by
  have at1 : ∀ e, attrR [(0, 1)] (slopeD r s) e = .ok (.int r) e := fun e => rfl
  have at2 : ∀ e, attrR [(0, 2)] (slopeD r s) e = .ok (.int s) e := fun e => rfl
  have : m_Way_init [.cell true (.ob 1 []), .val (slopeD r s), .val (.str (S l))] = .ok .non [.cell true (.ob 1 [some (.tup [.int r, .int s, .str (S l)]), some (slopeD r s), some (.str (S l))]), .no, .no] := by
    simp -implicitDefEqProofs [m_Way_init, require_slope_ok, is_way_text_ok h w, at1, at2, putO]
  rw [this]
  simp [Cell.frz, wayD]
theorem way_text : m_Way_text [.val (wayD r s l)] = .ok (.str (S l)) [.no] := by
  simp -implicitDefEqProofs [m_Way_text, wayD, List.lookup]
theorem highest_ok (h : Sd r s) : m_highest [.val (slopeD r s)] = .ok (wayD r s (hi r s)) [.no] := by
  have := h.r2
  have := h.s2
  have at1 : ∀ e, attrR [(0, 1)] (slopeD r s) e = .ok (.int r) e := fun e => rfl
  have at2 : ∀ e, attrR [(0, 2)] (slopeD r s) e = .ok (.int s) e := fun e => rfl
  have h1 : dMul (.str (S [114])) (.int (r : Int)) = some (.str (S (List.replicate r 114))) := by
    rw [dMul_str, if_pos ⟨by omega, by omega, by simp⟩]
    simp
  have h2 : dMul (.str (S [115])) (.int (s : Int)) = some (.str (S (List.replicate s 115))) := by
    rw [dMul_str, if_pos ⟨by omega, by omega, by simp⟩]
    simp
  have wm := way_make h (hi_way h.r1 h.s1)
  unfold hi at wm
  simp -implicitDefEqProofs [m_highest, require_slope_ok, at1, at2, chR, chS, h1, h2, show r + s ≤ 16777216 by omega, wm]
  rfl
end
end K04
set_option Elab.async false
set_option linter.all false
set_option maxRecDepth 100000
set_option maxHeartbeats 4000000
namespace K04
open PySem PySem.Spec PyProof.Rows L2 L2.DL
theorem mul_small {x y : Nat} (hx : x ≤ 100000) (hy : y ≤ 100000) : dMul (.int x) (.int y) = some (.int ((x * y : Nat) : Int)) := by
  rw [dMul_int, if_pos]
  · simp
  · have h1 := log_small (a := (x : Int)) (n := 20) (by omega) (by decide)
    have h2 := log_small (a := (y : Int)) (n := 20) (by omega) (by decide)
    omega
section
variable {r s : Nat}
theorem can_step_ok (h : Sd r s) {a b : Nat} (ha : a ≤ r) (hb : b ≤ s) : ∃ c : Bool, m_can_step [.val (slopeD r s), .val (.int a), .val (.int b)] = .ok (.bl c) [.no, .no, .no] ∧ (c = true ↔ (0 < b ∧ s * a ≤ r * (b - 1))) := by
  have := h.r2
  have := h.s2
  have at1 : ∀ e, attrR [(0, 1)] (slopeD r s) e = .ok (.int r) e := fun e => rfl
  have at2 : ∀ e, attrR [(0, 2)] (slopeD r s) e = .ok (.int s) e := fun e => rfl
  by_cases h0 : b = 0
  · subst h0
    refine ⟨false, ?_, by simp⟩
    simp -implicitDefEqProofs [m_can_step]
  · obtain ⟨b, rfl⟩ : ∃ c, b = c + 1 := ⟨b - 1, by omega⟩
    have e1 : ((b + 1 : Nat) : Int) - 1 = (b : Int) := by omega
    have m1 := mul_small (x := r) (y := b) (by omega) (by omega)
    have m2 := mul_small (x := s) (y := a) (by omega) (by omega)
    refine ⟨decide (((s * a : Nat) : Int) ≤ ((r * b : Nat) : Int)), ?_, ?_⟩
    · have p0 : decide ((0 : Int) < ((b + 1 : Nat) : Int)) = true := by simp
      simp -implicitDefEqProofs only [m_can_step, ev_def, List.length_cons, List.length_nil, List.cons_append, List.nil_append, List.replicate_zero, Nat.reduceAdd, Nat.reduceSub, ev_mret, ev_and, ev_bin, ev_name, ev_C, List.getElem?_cons_succ, List.getElem?_cons_zero, name_val, bnd_ok, dGt_int, ev_some, p0, tru_bl, if_true, ev_attr, at1, at2, dSub_int, e1, m1, m2, dGe_int, end_ret, outs_val, outs_nil]
    · simp only [decide_eq_true_eq, Nat.add_sub_cancel]
      omega
theorem low_s {n a b : Nat} (h : 0 < b ∧ s * a ≤ r * (b - 1)) : low r s (n + 1) a b = 115 :: low r s n a (b - 1) := if_pos h
theorem low_r {n a b : Nat} (h : ¬ (0 < b ∧ s * a ≤ r * (b - 1))) : low r s (n + 1) a b = 114 :: low r s n (a - 1) b := if_neg h
def wB : MS := (mIf (mTru (mCall m_can_step (mCons (mName 0) (mCons (mName 2) (mCons (mName 3) mNil)))))
  (mPar [1, 3] (pvCons (mInl (mBin dAdd (mName 1) (mC (.str "s")))) (pvCons (mInl (mBin dSub (mName 3) (mC (.int 1)))) pvNil)))
  (mPar [1, 2] (pvCons (mInl (mBin dAdd (mName 1) (mC (.str "r")))) (pvCons (mInl (mBin dSub (mName 2) (mC (.int 1)))) pvNil))))
theorem low_loop (h : Sd r s) : ∀ (n a b fuel : Nat) (t : List Nat), n = a + b → a ≤ r → b ≤ s → t.length + n ≤ 1000 → n < fuel →
    whileN fuel (mTest (mBin dGt (mBin dAdd (mName 2) (mName 3)) (mC (.int 0)))) wB [.val (slopeD r s), .val (.str (S t)), .val (.int a), .val (.int b)]
      = .ok .next [.val (slopeD r s), .val (.str (S (t ++ low r s n a b))), .val (.int 0), .val (.int 0)] := by
  intro n
  induction n with
  | zero =>
    intro a b fuel t hn ha hb ht hf
    obtain ⟨f, rfl⟩ : ∃ f, fuel = f + 1 := ⟨fuel - 1, by omega⟩
    have : a = 0 ∧ b = 0 := by omega
    obtain ⟨rfl, rfl⟩ := this
    unfold whileN
    simp -implicitDefEqProofs [low]
  | succ n ih =>
    intro a b fuel t hn ha hb ht hf
    obtain ⟨f, rfl⟩ : ∃ f, fuel = f + 1 := ⟨fuel - 1, by omega⟩
    obtain ⟨c, e1, hc⟩ := can_step_ok h ha hb
    have p0 : decide ((0 : Int) < (a : Int) + (b : Int)) = true := by simp; omega
    have test : (mTest (mBin dGt (mBin dAdd (mName 2) (mName 3)) (mC (.int 0)))) [.val (slopeD r s), .val (.str (S t)), .val (.int a), .val (.int b)] = .ok true [.val (slopeD r s), .val (.str (S t)), .val (.int a), .val (.int b)] := by
      simp -implicitDefEqProofs only [ev_test, ev_bin, ev_name, ev_C, List.getElem?_cons_succ, List.getElem?_cons_zero, name_val, bnd_ok, dAdd_int, ev_some, dGt_int, p0, isB_bl]
    have app : ∀ x : Nat, dAdd (.str (S t)) (.str (S [x])) = some (.str (S (t ++ [x]))) := fun x => by
      rw [dAdd_str, if_pos (by simp; omega), S_app]
    by_cases hs : 0 < b ∧ s * a ≤ r * (b - 1)
    · have hc : c = true := hc.mpr hs
      subst hc
      obtain ⟨b, rfl⟩ : ∃ c, b = c + 1 := ⟨b - 1, by omega⟩
      have e2 : ((b + 1 : Nat) : Int) - 1 = (b : Int) := by omega
      have body : wB [.val (slopeD r s), .val (.str (S t)), .val (.int a), .val (.int (b + 1 : Nat))] = .ok .next [.val (slopeD r s), .val (.str (S (t ++ [115]))), .val (.int a), .val (.int b)] := by
        unfold wB
        simp -implicitDefEqProofs only [ev_if, ev_tru, ev_call, ev_cons, ev_nil, ev_name, List.getElem?_cons_succ, List.getElem?_cons_zero, name_val, bnd_ok, List.map_cons, List.map_nil, e1, callR_ok, tru_bl, ev_some, if_true, ev_par, ev_pvCons, ev_pvNil, ev_inl, ev_bin, ev_C, chS, app, dSub_int, e2, pvs_cons, pv_inl, setR_val, pvsR_some, pvs_nil, updR_some, List.set_cons_succ, List.set_cons_zero]
      have e3 := ih a b f (t ++ [115]) (by omega) ha (by omega) (by simp; omega) (by omega)
      unfold whileN
      rw [test]
      dsimp only
      rw [body]
      dsimp only
      rw [e3]
      rw [low_s hs, Nat.add_sub_cancel, List.append_assoc]
      rfl
    · have hc : c = false := by
        cases c with
        | false => rfl
        | true => exact absurd (hc.mp rfl) hs
      subst hc
      have ha0 : 0 < a := by
        rcases Nat.eq_zero_or_pos a with h0 | h0
        · subst h0
          exact absurd ⟨by omega, by simp⟩ hs
        · exact h0
      obtain ⟨a, rfl⟩ : ∃ c, a = c + 1 := ⟨a - 1, by omega⟩
      have e2 : ((a + 1 : Nat) : Int) - 1 = (a : Int) := by omega
      have body : wB [.val (slopeD r s), .val (.str (S t)), .val (.int (a + 1 : Nat)), .val (.int b)] = .ok .next [.val (slopeD r s), .val (.str (S (t ++ [114]))), .val (.int a), .val (.int b)] := by
        unfold wB
        simp -implicitDefEqProofs only [ev_if, ev_tru, ev_call, ev_cons, ev_nil, ev_name, List.getElem?_cons_succ, List.getElem?_cons_zero, name_val, bnd_ok, List.map_cons, List.map_nil, e1, callR_ok, tru_bl, ev_some, Bool.false_eq_true, if_false, ev_par, ev_pvCons, ev_pvNil, ev_inl, ev_bin, ev_C, chR, app, dSub_int, e2, pvs_cons, pv_inl, setR_val, pvsR_some, pvs_nil, updR_some, List.set_cons_succ, List.set_cons_zero]
      have e3 := ih a b f (t ++ [114]) (by omega) (by omega) hb (by simp; omega) (by omega)
      unfold whileN
      rw [test]
      dsimp only
      rw [body]
      dsimp only
      rw [e3]
      rw [low_r hs, Nat.add_sub_cancel, List.append_assoc]
      rfl
theorem lowest_ok (h : Sd r s) : m_lowest [.val (slopeD r s)] = .ok (wayD r s (lo r s)) [.no] := by
  have := h.r2
  have := h.s2
  have at1 : ∀ e, attrR [(0, 1)] (slopeD r s) e = .ok (.int r) e := fun e => rfl
  have at2 : ∀ e, attrR [(0, 2)] (slopeD r s) e = .ok (.int s) e := fun e => rfl
  have e := low_loop h (r + s) r s 1099511627776 [] rfl (Nat.le_refl _) (Nat.le_refl _) (by simp; omega) (by omega)
  rw [List.nil_append] at e
  have wm := way_make h (lo_spec h.r1 h.s1).1
  unfold lo at wm ⊢
  unfold wB at e
  unfold m_lowest mWhile
  simp -implicitDefEqProofs only [ev_def, List.length_cons, List.length_nil, List.cons_append, List.nil_append, List.replicate_succ, List.replicate_zero, Nat.reduceAdd, Nat.reduceSub, ev_seq, ev_expr, ev_call, ev_cons, ev_nil, ev_name, List.getElem?_cons_succ, List.getElem?_cons_zero, name_val, bnd_ok, List.map_cons, List.map_nil, require_slope_ok, callR_ok, sq_next, ev_par, ev_pvCons, ev_pvNil, ev_inl, ev_C, chE, ev_attr, at1, at2, pvs_cons, pv_inl, setR_no, pvsR_some, pvs_nil, updR_some, List.set_cons_succ, List.set_cons_zero, e, ev_mret, ev_make, wm, end_ret, outs_val, outs_nil]
/-! the law's own lowest text -/
end
end K04
set_option Elab.async false
set_option linter.all false
set_option maxRecDepth 100000
set_option maxHeartbeats 4000000
namespace K04
open PySem PySem.Spec PyProof.Rows L2 L2.DL
def Up (r s : Nat) : Int → List Nat → Prop
  | _, [] => True
  | x, c :: t => 0 ≤ x + vl r s c ∧ Up r s (x + vl r s c) t
theorem up_take {r s : Nat} : ∀ (l : List Nat) (x : Int), 0 ≤ x → Up r s x l → ∀ k, 0 ≤ x + sm r s (l.take k)
  | [], x, h, _, k => by simp [sm]; exact h
  | c :: t, x, h, u, 0 => by simp [sm]; exact h
  | c :: t, x, h, u, k + 1 => by
    have := up_take t _ u.1 u.2 k
    rw [List.take_succ_cons, sm]
    omega
def wyB : MS := (mIf (mAndT (mTest (mBin dGt (mName 5) (mC (.int 0)))) (mOrT (mTest (mBin dLt (mName 4) (mName 1))) (mOrT (mTest (mBin dEq (mName 6) (mC (.int 0)))) (mTest (mBin dEq (mCallL m__law_roll 0 (mCons (mC (.int 2)) mNil)) (mC (.int 0)))))))
  (mPar [3, 4, 5] (pvCons (mInl (mBin dAdd (mName 3) (mC (.str "r")))) (pvCons (mInl (mBin dAdd (mName 4) (mName 2))) (pvCons (mInl (mBin dSub (mName 5) (mC (.int 1)))) pvNil))))
  (mPar [3, 4, 6] (pvCons (mInl (mBin dAdd (mName 3) (mC (.str "s")))) (pvCons (mInl (mBin dSub (mName 4) (mName 1))) (pvCons (mInl (mBin dSub (mName 6) (mC (.int 1)))) pvNil)))))
section
variable {r s : Nat}
/-- one letter -/
theorem wyB_ok {z : Cell} {m : Int} {a b : Nat} {x : Int} {t : List Nat} {d : D} (hd : Dice m z) (hm : m < 900000) (hab : 0 < a + b) (hx : x = (r * b : Nat) - (s * a : Nat)) (h0 : 0 ≤ x) (ht : t.length ≤ 1000) :
    ∃ z', Dice (m + 1) z' ∧ ((∃ a', a = a' + 1 ∧ wyB [.cell true z, .val (.int r), .val (.int s), .val (.str (S t)), .val (.int x), .val (.int a), .val (.int b), .val d] = .ok .next [.cell true z', .val (.int r), .val (.int s), .val (.str (S (t ++ [114]))), .val (.int (x + s)), .val (.int a'), .val (.int b), .val d]) ∨
      (∃ b', b = b' + 1 ∧ 0 ≤ x - r ∧ wyB [.cell true z, .val (.int r), .val (.int s), .val (.str (S t)), .val (.int x), .val (.int a), .val (.int b), .val d] = .ok .next [.cell true z', .val (.int r), .val (.int s), .val (.str (S (t ++ [115]))), .val (.int (x - r)), .val (.int a), .val (.int b'), .val d])) := by
  have app : ∀ x : Nat, dAdd (.str (S t)) (.str (S [x])) = some (.str (S (t ++ [x]))) := fun x => by
    rw [dAdd_str, if_pos (by simp; omega), S_app]
  have rise : ∀ (z' : Cell) (a' : Nat), a = a' + 1 → (mPar [3, 4, 5] (pvCons (mInl (mBin dAdd (mName 3) (mC (.str "r")))) (pvCons (mInl (mBin dAdd (mName 4) (mName 2))) (pvCons (mInl (mBin dSub (mName 5) (mC (.int 1)))) pvNil)))) [.cell true z', .val (.int r), .val (.int s), .val (.str (S t)), .val (.int x), .val (.int a), .val (.int b), .val d] = .ok .next [.cell true z', .val (.int r), .val (.int s), .val (.str (S (t ++ [114]))), .val (.int (x + s)), .val (.int a'), .val (.int b), .val d] := by
    intro z' a' e
    have e2 : (a : Int) - 1 = (a' : Int) := by omega
    simp -implicitDefEqProofs only [ev_par, ev_pvCons, ev_pvNil, ev_inl, ev_bin, ev_name, ev_C, List.getElem?_cons_succ, List.getElem?_cons_zero, name_val, bnd_ok, chR, app, ev_some, dAdd_int, dSub_int, e2, pvs_cons, pv_inl, setR_val, pvsR_some, pvs_nil, updR_some, List.set_cons_succ, List.set_cons_zero]
  have step : ∀ (z' : Cell) (b' : Nat), b = b' + 1 → (mPar [3, 4, 6] (pvCons (mInl (mBin dAdd (mName 3) (mC (.str "s")))) (pvCons (mInl (mBin dSub (mName 4) (mName 1))) (pvCons (mInl (mBin dSub (mName 6) (mC (.int 1)))) pvNil)))) [.cell true z', .val (.int r), .val (.int s), .val (.str (S t)), .val (.int x), .val (.int a), .val (.int b), .val d] = .ok .next [.cell true z', .val (.int r), .val (.int s), .val (.str (S (t ++ [115]))), .val (.int (x - r)), .val (.int a), .val (.int b'), .val d] := by
    intro z' b' e
    have e2 : (b : Int) - 1 = (b' : Int) := by omega
    simp -implicitDefEqProofs only [ev_par, ev_pvCons, ev_pvNil, ev_inl, ev_bin, ev_name, ev_C, List.getElem?_cons_succ, List.getElem?_cons_zero, name_val, bnd_ok, chS, app, ev_some, dAdd_int, dSub_int, e2, pvs_cons, pv_inl, setR_val, pvsR_some, pvs_nil, updR_some, List.set_cons_succ, List.set_cons_zero]
  by_cases ha : a = 0
  · obtain ⟨b', rfl⟩ : ∃ c, b = c + 1 := ⟨b - 1, by omega⟩
    subst ha
    refine ⟨z, hd.mono (by omega), .inr ⟨b', rfl, ?_, ?_⟩⟩
    · rw [Nat.mul_succ] at hx; simp at hx; have := Int.mul_nonneg (show (0 : Int) ≤ r by omega) (show (0 : Int) ≤ b' by omega); omega
    · have p0 : decide ((0 : Int) < ((0 : Nat) : Int)) = false := rfl
      unfold wyB
      simp -implicitDefEqProofs only [ev_if, ev_andT, ev_test, ev_bin, ev_name, ev_C, List.getElem?_cons_succ, List.getElem?_cons_zero, name_val, bnd_ok, dGt_int, ev_some, isB_bl, p0, Bool.false_eq_true, if_false, step z b' rfl]
  · obtain ⟨a', rfl⟩ : ∃ c, a = c + 1 := ⟨a - 1, by omega⟩
    have p0 : decide ((0 : Int) < ((a' + 1 : Nat) : Int)) = true := by simp
    by_cases hxr : x < r
    · refine ⟨z, hd.mono (by omega), .inl ⟨a', rfl, ?_⟩⟩
      have p1 : decide (x < (r : Int)) = true := by simpa using hxr
      unfold wyB
      simp -implicitDefEqProofs only [ev_if, ev_andT, ev_orT, ev_test, ev_bin, ev_name, ev_C, List.getElem?_cons_succ, List.getElem?_cons_zero, name_val, bnd_ok, dGt_int, dLt_int, ev_some, isB_bl, p0, p1, if_true, rise z a' rfl]
    · have p1 : decide (x < (r : Int)) = false := by simpa using hxr
      by_cases hb : b = 0
      · subst hb
        refine ⟨z, hd.mono (by omega), .inl ⟨a', rfl, ?_⟩⟩
        have p2 : decide (((0 : Nat) : Int) = 0) = true := rfl
        unfold wyB
        simp -implicitDefEqProofs only [ev_if, ev_andT, ev_orT, ev_test, ev_bin, ev_name, ev_C, List.getElem?_cons_succ, List.getElem?_cons_zero, name_val, bnd_ok, dGt_int, dLt_int, dEq_int, ev_some, isB_bl, p0, p1, p2, if_true, Bool.false_eq_true, if_false, rise z a' rfl]
      · obtain ⟨b', rfl⟩ : ∃ c, b = c + 1 := ⟨b - 1, by omega⟩
        have p2 : decide (((b' + 1 : Nat) : Int) = 0) = false := by simp; omega
        obtain ⟨k, z', e1, k0, k1, d1⟩ := roll_ok (t := 2) hd (by omega) (by omega) (by omega)
        by_cases hk : k = 0
        · refine ⟨z', d1, .inl ⟨a', rfl, ?_⟩⟩
          have p3 : decide (k = 0) = true := by simpa using hk
          unfold wyB
          simp -implicitDefEqProofs only [ev_if, ev_andT, ev_orT, ev_test, ev_bin, ev_name, ev_C, List.getElem?_cons_succ, List.getElem?_cons_zero, name_val, bnd_ok, dGt_int, dLt_int, dEq_int, ev_some, isB_bl, p0, p1, p2, p3, if_true, Bool.false_eq_true, if_false, ev_callL, lentG_cell, lentF_cell, ev_cons, ev_nil, List.map_cons, List.map_nil, e1, lentR_ok, List.set_cons_zero, rise z' a' rfl]
        · refine ⟨z', d1, .inr ⟨b', rfl, by omega, ?_⟩⟩
          have p3 : decide (k = 0) = false := by simpa using hk
          unfold wyB
          simp -implicitDefEqProofs only [ev_if, ev_andT, ev_orT, ev_test, ev_bin, ev_name, ev_C, List.getElem?_cons_succ, List.getElem?_cons_zero, name_val, bnd_ok, dGt_int, dLt_int, dEq_int, ev_some, isB_bl, p0, p1, p2, p3, if_true, Bool.false_eq_true, if_false, ev_callL, lentG_cell, lentF_cell, ev_cons, ev_nil, List.map_cons, List.map_nil, e1, lentR_ok, List.set_cons_zero, step z' b' rfl]
theorem wy_loop : ∀ (n a b : Nat) (x : Int) (z : Cell) (m : Int) (t : List Nat) (ds : List D) (q : Sl), ds.length = n → n = a + b → x = (r * b : Nat) - (s * a : Nat) → 0 ≤ x → t.length + n ≤ 1000 → Dice m z → m + n < 900000 → Fr q →
    ∃ (l : List Nat) (y : Int) (z' : Cell) (q' : Sl), forL (gSet 7) wyB ds [.cell true z, .val (.int r), .val (.int s), .val (.str (S t)), .val (.int x), .val (.int a), .val (.int b), q] = .ok .next [.cell true z', .val (.int r), .val (.int s), .val (.str (S (t ++ l))), .val (.int y), .val (.int 0), .val (.int 0), q'] ∧
      Lt2 l ∧ l.count 114 = a ∧ l.count 115 = b ∧ Up r s x l ∧ Dice (m + n) z' := by
  intro n
  induction n with
  | zero =>
    intro a b x z m t ds q hl hn hx h0 ht hd hm hq
    have : a = 0 ∧ b = 0 := by omega
    obtain ⟨rfl, rfl⟩ := this
    have : ds = [] := List.eq_nil_of_length_eq_zero hl
    subst this
    exact ⟨[], x, z, q, (by simp), (fun c hc => by cases hc), rfl, rfl, trivial, (by simpa using hd)⟩
  | succ n ih =>
    intro a b x z m t ds q hl hn hx h0 ht hd hm hq
    obtain ⟨d, ds, rfl⟩ : ∃ d e, ds = d :: e := by
      cases ds with
      | nil => cases hl
      | cons d e => exact ⟨d, e, rfl⟩
    have g1 : gSet 7 d [.cell true z, .val (.int r), .val (.int s), .val (.str (S t)), .val (.int x), .val (.int a), .val (.int b), q] = some [.cell true z, .val (.int r), .val (.int s), .val (.str (S t)), .val (.int x), .val (.int a), .val (.int b), .val d] := by
      simp only [ev_gSet, List.getElem?_cons_succ, List.getElem?_cons_zero, set_fr hq, List.set_cons_succ, List.set_cons_zero]
    obtain ⟨z', d1, h | h⟩ := wyB_ok (t := t) (d := d) hd (by omega) (by omega) hx h0 (by omega)
    · obtain ⟨a', rfl, e1⟩ := h
      rw [Nat.mul_succ] at hx
      obtain ⟨l, y, z2, q', e2, i1, i2, i3, i4, i5⟩ := ih a' b (x + s) z' (m + 1) (t ++ [114]) ds (.val d) (by simpa using hl) (by omega) (by omega) (by omega) (by simp; omega) d1 (by omega) fr_val
      refine ⟨114 :: l, y, z2, q', ?_, fun c hc => ?_, by simp [List.count_cons, i2], by simp [List.count_cons, i3], ?_, i5.mono (by omega)⟩
      · rw [forL_next g1 e1, e2, List.append_assoc]; rfl
      · rcases List.mem_cons.mp hc with rfl | hc
        · exact .inl rfl
        · exact i1 c hc
      · unfold Up
        have e : x + vl r s 114 = x + s := by simp [vl]
        rw [e]
        exact ⟨by omega, i4⟩
    · obtain ⟨b', rfl, h2, e1⟩ := h
      rw [Nat.mul_succ] at hx
      obtain ⟨l, y, z2, q', e2, i1, i2, i3, i4, i5⟩ := ih a b' (x - r) z' (m + 1) (t ++ [115]) ds (.val d) (by simpa using hl) (by omega) (by omega) h2 (by simp; omega) d1 (by omega) fr_val
      refine ⟨115 :: l, y, z2, q', ?_, fun c hc => ?_, by simp [List.count_cons, i2], by simp [List.count_cons, i3], ?_, i5.mono (by omega)⟩
      · rw [forL_next g1 e1, e2, List.append_assoc]; rfl
      · rcases List.mem_cons.mp hc with rfl | hc
        · exact .inr rfl
        · exact i1 c hc
      · unfold Up
        have e : x + vl r s 115 = x - r := by simp [vl]; omega
        rw [e]
        exact ⟨h2, i4⟩
theorem law_way_ok (h : Sd r s) {z : Cell} {m : Int} (hd : Dice m z) (hm : m < 800000) : ∃ (l : List Nat) (z' : Cell), m__law_way [.cell true z, .val (.int r), .val (.int s)] = .ok (.str (S l)) [.cell true z', .no, .no] ∧ Wy r s l ∧ Dice (m + 120) z' := by
  have := h.r2
  have := h.s2
  have hr := fRange_n (n := r + s) (by omega)
  obtain ⟨l, y, z', q, e, i1, i2, i3, i4, i5⟩ := wy_loop (r := r) (s := s) (r + s) r s 0 z m [] ((List.range (r + s)).map fun i => .int (i : Nat)) .no (by simp) rfl (by rw [Nat.mul_comm r s]; omega) (by omega) (by simp; omega) hd (by omega) fr_no
  rw [List.nil_append] at e
  refine ⟨l, z', ?_, ⟨i1, i2, i3, fun k _ => by have := up_take l 0 (by omega) i4 k; omega⟩, i5.mono (by omega)⟩
  unfold wyB at e
  simp -implicitDefEqProofs only [m__law_way, ev_def, List.length_cons, List.length_nil, List.cons_append, List.nil_append, List.replicate_succ, List.replicate_zero, Nat.reduceAdd, Nat.reduceSub, ev_seq, ev_par, ev_pvCons, ev_pvNil, ev_inl, ev_C, chE, ev_name, List.getElem?_cons_succ, List.getElem?_cons_zero, name_val, bnd_ok, pvs_cons, pv_inl, setR_no, pvsR_some, pvs_nil, updR_some, List.set_cons_succ, List.set_cons_zero, sq_next, ev_for, ev_range, ev_cons, ev_nil, ev_bin, dAdd_int, ev_some]
  rw [show (r : Int) + s = ((r + s : Nat) : Int) by omega, hr]
  simp -implicitDefEqProofs only [ev_some, bnd_ok, e, sq_next, ev_mret, ev_name, List.getElem?_cons_succ, List.getElem?_cons_zero, name_val, end_ret, outs_cell, outs_val, outs_nil]
end
end K04
set_option Elab.async false
set_option linter.all false
set_option maxRecDepth 100000
set_option maxHeartbeats 4000000
namespace K04
open PySem PySem.Spec PyProof.Rows L2 L2.DL
section
variable {r s : Nat} {l m : List Nat}
theorem strOk_S (w : Lt2 l) : PyData.strOk (S l) = true := by
  unfold PyData.strOk
  rw [Array.all_eq_true']
  intro c hc
  have : c ∈ l := by simpa [S] using hc
  rcases w c this with rfl | rfl <;> rfl
theorem key_eqv (w : Lt2 l) (v : Lt2 m) : dEqv (.tup [.int r, .int s, .str (S l)]) (.tup [.int r, .int s, .str (S m)]) = some (decide (l = m)) := by
  have : (S l == S m) = decide (l = m) := by
    by_cases h : l = m <;> simp [h]
  simp [dEqv, D.py, D.pys, SeqAt.shaped, PyData.canLay0, PyData.canLayAll0, PyData.depth, PyData.depthAll, PyData.eqv, PyData.eqvAll, strOk_S w, strOk_S v, this]
theorem key_eq (w : Lt2 l) (v : Lt2 m) : dEq (.tup [.int r, .int s, .str (S l)]) (.tup [.int r, .int s, .str (S m)]) = some (.bl (decide (l = m))) := by
  unfold dEq
  rw [key_eqv w v]
  rfl
theorem data_lt : PySem.W.dataLt (.tuple [.int r, .int s, .str (S l)]) (.tuple [.int r, .int s, .str (S m)]) = decide (l < m) := by
  rw [PySem.W.dataLt_tuple, PySem.W.dataLt_cons (by simp [PySem.W.alike]), if_pos (by simp [PyData.eqv]), PySem.W.dataLt_cons (by simp [PySem.W.alike]), if_pos (by simp [PyData.eqv]), PySem.W.dataLt_cons (by simp [PySem.W.alike])]
  by_cases h : l = m
  · subst h
    rw [if_pos (by simp [PyData.eqv])]
    have : ¬ l < l := List.lt_irrefl l
    simp [this]
    rfl
  · rw [if_neg (by simp [PyData.eqv, h]), PySem.W.dataLt_str, S_cps, S_cps]
theorem key_lt (w : Lt2 l) (v : Lt2 m) : dLtX (.tup [.int r, .int s, .str (S l)]) (.tup [.int r, .int s, .str (S m)]) = some (.bl (decide (l < m))) := by
  show dCmpD PySem.W.dataLt _ _ = _
  unfold dCmpD
  simp [D.py, D.pys, PySem.W.alike, PySem.W.alikeAll, isNone, PyData.depth, PyData.depthAll, data_lt]
theorem way_eq (w : Lt2 l) (v : Lt2 m) : m_Way_eq [.val (wayD r s l), .val (wayD r s m)] = .ok (.bl (decide (l = m))) [.no, .no] := by
  have at0 : ∀ l e, attrR [(1, 0)] (wayD r s l) e = .ok (.tup [.int r, .int s, .str (S l)]) e := fun l e => rfl
  have isi : ((wayD r s m).tg.bind g_isi_Way).map D.bl = some (.bl true) := rfl
  simp -implicitDefEqProofs only [m_Way_eq, ev_def, List.length_cons, List.length_nil, List.cons_append, List.nil_append, List.replicate_zero, Nat.reduceAdd, Nat.reduceSub, ev_mret, ev_and, ev_isi, ev_name, List.getElem?_cons_succ, List.getElem?_cons_zero, name_val, bnd_ok, isi, ev_some, tru_bl, if_true, ev_bin, ev_attr, at0, key_eq w v, end_ret, outs_val, outs_nil]
theorem way_lt (w : Lt2 l) (v : Lt2 m) : m_Way_lt [.val (wayD r s l), .val (wayD r s m)] = .ok (.bl (decide (l < m))) [.no, .no] := by
  have at0 : ∀ l e, attrR [(1, 0)] (wayD r s l) e = .ok (.tup [.int r, .int s, .str (S l)]) e := fun l e => rfl
  have isi : ((wayD r s m).tg.bind g_isi_Way).map D.bl = some (.bl true) := rfl
  simp -implicitDefEqProofs only [m_Way_lt, ev_def, List.length_cons, List.length_nil, List.cons_append, List.nil_append, List.replicate_zero, Nat.reduceAdd, Nat.reduceSub, ev_seq, ev_if, ev_notT, ev_tru, ev_mret, ev_isi, ev_name, List.getElem?_cons_succ, List.getElem?_cons_zero, name_val, bnd_ok, isi, ev_some, tru_bl, Bool.not_true, Bool.false_eq_true, if_false, ev_next, sq_next, ev_bin, ev_attr, at0, key_lt w v, end_ret, outs_val, outs_nil]
theorem dOwn_obj {cl : Nat} {fn : Fn} {g : D → D → Option D} {fs gs : List D} {d : D} {e : Ev} (h : fn [.val (.obj cl fs), .val (.obj cl gs)] = .ok d e) : dOwn cl fn g (.obj cl fs) (.obj cl gs) = some d := by
  unfold dOwn
  dsimp only
  rw [if_pos ⟨rfl, rfl⟩, h]
theorem dOwnNe_obj {cl : Nat} {fn : Fn} {g : D → D → Option D} {fs gs : List D} {b : Bool} {e : Ev} (h : fn [.val (.obj cl fs), .val (.obj cl gs)] = .ok (.bl b) e) : dOwnNe cl fn g (.obj cl fs) (.obj cl gs) = some (.bl (!b)) := by
  unfold dOwnNe
  dsimp only
  rw [if_pos ⟨rfl, rfl⟩, h]
theorem op_way_eq (w : Lt2 l) (v : Lt2 m) : dOwn 1 m_Way_eq dEq (wayD r s l) (wayD r s m) = some (.bl (decide (l = m))) := dOwn_obj (way_eq w v)
theorem op_way_ne (w : Lt2 l) (v : Lt2 m) : dOwnNe 1 m_Way_eq dNe (wayD r s l) (wayD r s m) = some (.bl (!decide (l = m))) := dOwnNe_obj (way_eq w v)
theorem op_way_lt (w : Lt2 l) (v : Lt2 m) : dOwn 1 m_Way_lt dLt (wayD r s l) (wayD r s m) = some (.bl (decide (l < m))) := dOwn_obj (way_lt w v)
end
end K04
set_option Elab.async false
set_option linter.all false
set_option maxRecDepth 100000
set_option maxHeartbeats 4000000
/-! ways by number, in plain lists -/
namespace K04
section
variable {r s : Nat}
/-- the ends behind a rise -/
def pvw (r s l m : Nat) : Nat := if 0 < l then ways r s (l - 1) m else 0
theorem ways_rec {l m : Nat} (h : 0 < l + m) : ways r s l m = (if 0 < m ∧ s * l ≤ r * (m - 1) then ways r s l (m - 1) else 0) + pvw r s l m := by
  unfold pvw
  cases l with
  | zero =>
    cases m with
    | zero => omega
    | succ m =>
      rw [if_neg (show ¬ (0 : Nat) < 0 by omega), Nat.add_zero, Nat.add_sub_cancel]
      show (if s * 0 ≤ r * m then wrow r s 0 (fun _ => 0) m else 0) + 0 = _
      simp only [Nat.add_zero, Nat.succ_pos, true_and, Nat.zero_lt_succ]
      rfl
  | succ l =>
    rw [if_pos (Nat.succ_pos l), Nat.add_sub_cancel]
    cases m with
    | zero =>
      show (if l + 1 = 0 then 1 else 0) + ways r s l 0 = _
      rw [if_neg (by omega), if_neg (by omega)]
    | succ m =>
      rw [Nat.add_sub_cancel]
      show (if s * (l + 1) ≤ r * m then wrow r s (l + 1) (ways r s l) m else 0) + ways r s l (m + 1) = _
      simp only [Nat.succ_pos, true_and, Nat.zero_lt_succ]
      rfl
theorem ways_00 : ways r s 0 0 = 1 := rfl
theorem val_rise {l m : Nat} (h : s * l ≤ r * m) : s * (l - 1) ≤ r * m := Nat.le_trans (Nat.mul_le_mul_left _ (Nat.sub_le _ _)) h
theorem ways_pos : ∀ (n l m : Nat), n = l + m → s * l ≤ r * m → 1 ≤ ways r s l m := by
  intro n
  induction n with
  | zero =>
    intro l m h _
    have h1 : l = 0 := by omega
    have h2 : m = 0 := by omega
    subst h1 h2
    exact Nat.le_refl 1
  | succ n ih =>
    intro l m h hv
    rw [ways_rec (by omega)]
    by_cases hl : 0 < l
    · have := ih (l - 1) m (by omega) (val_rise hv)
      unfold pvw
      rw [if_pos hl]
      omega
    · have hl : l = 0 := by omega
      subst hl
      have hc : 0 < m ∧ s * 0 ≤ r * (m - 1) := ⟨by omega, by simp⟩
      rw [if_pos hc]
      have := ih 0 (m - 1) (by omega) hc.2
      omega
def atW (r s : Nat) : Nat → Nat → Nat → Nat → List Nat
  | 0, _, _, _ => []
  | n + 1, l, m, i => if i < pvw r s l m then 114 :: atW r s n (l - 1) m i else 115 :: atW r s n l (m - 1) (i - pvw r s l m)
def ixW (r s : Nat) : List Nat → Nat → Nat → Nat
  | [], _, _ => 0
  | c :: t, l, m => if c = 114 then ixW r s t (l - 1) m else pvw r s l m + ixW r s t l (m - 1)
def PT (r s : Nat) : List Nat → Nat → Nat → Prop
  | [], l, m => l = 0 ∧ m = 0
  | c :: t, l, m => (c = 114 ∧ 0 < l ∧ PT r s t (l - 1) m) ∨ (c = 115 ∧ (0 < m ∧ s * l ≤ r * (m - 1)) ∧ PT r s t l (m - 1))
theorem atW_r {n l m i : Nat} (h : i < pvw r s l m) : atW r s (n + 1) l m i = 114 :: atW r s n (l - 1) m i := if_pos h
theorem atW_s {n l m i : Nat} (h : ¬ i < pvw r s l m) : atW r s (n + 1) l m i = 115 :: atW r s n l (m - 1) (i - pvw r s l m) := if_neg h
theorem pv_pos {l m i : Nat} (h : i < pvw r s l m) : 0 < l ∧ i < ways r s (l - 1) m := by
  unfold pvw at h
  by_cases hl : 0 < l
  · rw [if_pos hl] at h; exact ⟨hl, h⟩
  · rw [if_neg hl] at h; omega
theorem step_ok {l m i : Nat} (hp : 0 < l + m) (h : ¬ i < pvw r s l m) (hi : i < ways r s l m) : (0 < m ∧ s * l ≤ r * (m - 1)) ∧ i - pvw r s l m < ways r s l (m - 1) := by
  rw [ways_rec hp] at hi
  by_cases hc : 0 < m ∧ s * l ≤ r * (m - 1)
  · rw [if_pos hc] at hi; exact ⟨hc, by omega⟩
  · rw [if_neg hc] at hi; omega
theorem at_spec : ∀ (n l m i : Nat), n = l + m → s * l ≤ r * m → i < ways r s l m → PT r s (atW r s n l m i) l m ∧ ixW r s (atW r s n l m i) l m = i := by
  intro n
  induction n with
  | zero =>
    intro l m i h _ hi
    have h1 : l = 0 := by omega
    have h2 : m = 0 := by omega
    subst h1 h2
    rw [ways_00] at hi
    exact ⟨⟨rfl, rfl⟩, show 0 = i by omega⟩
  | succ n ih =>
    intro l m i h hv hi
    by_cases hc : i < pvw r s l m
    · obtain ⟨hl, hi2⟩ := pv_pos hc
      obtain ⟨a, b⟩ := ih (l - 1) m i (by omega) (val_rise hv) hi2
      rw [atW_r hc]
      exact ⟨.inl ⟨rfl, hl, a⟩, by rw [ixW, if_pos rfl]; exact b⟩
    · obtain ⟨hs, hi2⟩ := step_ok (by omega) hc hi
      obtain ⟨a, b⟩ := ih l (m - 1) _ (by omega) hs.2 hi2
      rw [atW_s hc]
      exact ⟨.inr ⟨rfl, hs, a⟩, by rw [ixW, if_neg (by decide), b]; omega⟩
theorem ix_spec : ∀ (t : List Nat) (l m : Nat), s * l ≤ r * m → PT r s t l m → t.length = l + m ∧ ixW r s t l m < ways r s l m ∧ atW r s (l + m) l m (ixW r s t l m) = t
  | [], l, m, _, h => by
    obtain ⟨rfl, rfl⟩ := h
    exact ⟨rfl, by rw [ways_00]; exact Nat.one_pos, rfl⟩
  | c :: t, l, m, hv, h => by
    rcases h with ⟨rfl, hl, h⟩ | ⟨rfl, hs, h⟩
    · obtain ⟨a, b, d⟩ := ix_spec t (l - 1) m (val_rise hv) h
      have e : l + m = (l - 1 + m) + 1 := by omega
      have hx : ixW r s (114 :: t) l m = ixW r s t (l - 1) m := by rw [ixW, if_pos rfl]
      have hp : ixW r s t (l - 1) m < pvw r s l m := by unfold pvw; rw [if_pos hl]; exact b
      refine ⟨by rw [List.length_cons]; omega, ?_, ?_⟩
      · rw [hx, ways_rec (by omega)]; omega
      · rw [hx, e, atW_r hp, d]
    · obtain ⟨a, b, d⟩ := ix_spec t l (m - 1) hs.2 h
      have e : l + m = (l + (m - 1)) + 1 := by omega
      have hx : ixW r s (115 :: t) l m = pvw r s l m + ixW r s t l (m - 1) := by rw [ixW, if_neg (by decide)]
      refine ⟨by rw [List.length_cons]; omega, ?_, ?_⟩
      · rw [hx, ways_rec (by omega), if_pos hs]; omega
      · rw [hx, e, atW_s (by omega), Nat.add_sub_cancel_left, d]
theorem at_lt : ∀ (n l m i j : Nat), n = l + m → s * l ≤ r * m → i < j → j < ways r s l m → atW r s n l m i < atW r s n l m j := by
  intro n
  induction n with
  | zero =>
    intro l m i j h _ hij hj
    have h1 : l = 0 := by omega
    have h2 : m = 0 := by omega
    subst h1 h2
    rw [ways_00] at hj
    omega
  | succ n ih =>
    intro l m i j h hv hij hj
    by_cases hc : j < pvw r s l m
    · obtain ⟨hl, hj2⟩ := pv_pos hc
      rw [atW_r hc, atW_r (show i < pvw r s l m by omega)]
      exact List.cons_lt_cons_iff.mpr (.inr ⟨rfl, ih (l - 1) m i j (by omega) (val_rise hv) hij hj2⟩)
    · obtain ⟨hs, hj2⟩ := step_ok (by omega) hc hj
      rw [atW_s hc]
      by_cases hd : i < pvw r s l m
      · rw [atW_r hd]
        exact List.cons_lt_cons_iff.mpr (.inl (by decide))
      · rw [atW_s hd]
        exact List.cons_lt_cons_iff.mpr (.inr ⟨rfl, ih l (m - 1) _ _ (by omega) hs.2 (by omega) hj2⟩)
theorem at_zero : ∀ (n l m : Nat), n = l + m → s * l ≤ r * m → atW r s n l m 0 = List.replicate l 114 ++ List.replicate m 115 := by
  intro n
  induction n with
  | zero =>
    intro l m h _
    have h1 : l = 0 := by omega
    have h2 : m = 0 := by omega
    subst h1 h2
    rfl
  | succ n ih =>
    intro l m h hv
    by_cases hl : 0 < l
    · have hp : 0 < pvw r s l m := by
        unfold pvw
        rw [if_pos hl]
        exact ways_pos (l - 1 + m) (l - 1) m rfl (val_rise hv)
      rw [atW_r hp, ih (l - 1) m (by omega) (val_rise hv)]
      obtain ⟨k, rfl⟩ : ∃ k, l = k + 1 := ⟨l - 1, by omega⟩
      rw [Nat.add_sub_cancel, List.replicate_succ]
      rfl
    · have hl : l = 0 := by omega
      subst hl
      have hp : ¬ 0 < pvw r s 0 m := by unfold pvw; rw [if_neg (by omega)]; omega
      have e0 : (0 : Nat) - pvw r s 0 m = 0 := by omega
      rw [atW_s hp, e0, ih 0 (m - 1) (by omega) (by simp)]
      obtain ⟨k, rfl⟩ : ∃ k, m = k + 1 := ⟨m - 1, by omega⟩
      rw [Nat.add_sub_cancel, List.replicate_succ]
      rfl
theorem at_last : ∀ (n l m : Nat), n = l + m → s * l ≤ r * m → atW r s n l m (ways r s l m - 1) = low r s n l m := by
  intro n
  induction n with
  | zero => intro l m h _; rfl
  | succ n ih =>
    intro l m h hv
    have hw := ways_rec (r := r) (s := s) (l := l) (m := m) (by omega)
    by_cases hs : 0 < m ∧ s * l ≤ r * (m - 1)
    · rw [if_pos hs] at hw
      have hp := ways_pos (l + (m - 1)) l (m - 1) rfl hs.2
      rw [atW_s (by omega), show ways r s l m - 1 - pvw r s l m = ways r s l (m - 1) - 1 by omega, ih l (m - 1) (by omega) hs.2]
      exact (if_pos hs).symm
    · rw [if_neg hs] at hw
      have hl : 0 < l := by
        rcases Nat.eq_zero_or_pos l with hl | hl
        · exact absurd ⟨by omega, by rw [hl]; simp⟩ hs
        · exact hl
      have hp := ways_pos (l - 1 + m) (l - 1) m rfl (val_rise hv)
      have hpv : pvw r s l m = ways r s (l - 1) m := by unfold pvw; rw [if_pos hl]
      rw [atW_r (by omega), show ways r s l m - 1 = ways r s (l - 1) m - 1 by omega, ih (l - 1) m (by omega) (val_rise hv)]
      exact (if_neg hs).symm
end
end K04
set_option Elab.async false
set_option linter.all false
set_option maxRecDepth 100000
set_option maxHeartbeats 4000000
namespace K04
open PySem PySem.Spec PyProof.Rows L2 L2.DL
section
variable {r s : Nat}
/-! the dice, for great numbers -/
theorem roll_big {z : Cell} {m t : Int} (h : Dice m z) (hm : m < 1000000) (h0 : 0 < t) (ht : t.natAbs.log2 < 9000) : ∃ r z', m__law_roll [.cell true z, .val (.int t)] = .ok (.int r) [.cell true z', .no] ∧ 0 ≤ r ∧ r < t ∧ Dice (m + 1) z' := by
  obtain ⟨a, b, k, rfl, k0, k1⟩ := h
  by_cases ha : 0 < a
  · refine ⟨a % t, .lst [.int (a / t), .int b, .int k], ?_, Int.emod_nonneg _ (by omega), Int.emod_lt_of_pos _ h0, _, _, _, rfl, k0, by omega⟩
    simp -implicitDefEqProofs [m__law_roll, ev_ixC, atI, ixN, ha, dMod_pos h0, dDiv_pos h0 ht]
  · have e1 : ∀ x, dMod (.int x) (.int 2305843009213693613) = some (.int (x % 2305843009213693613)) := fun x => dMod_pos (by decide)
    have e2 : ∀ x, dMod (.int x) (.int 2305843009213693519) = some (.int (x % 2305843009213693519)) := fun x => dMod_pos (by decide)
    have e3 : ∀ x, dDiv (.int x) (.int 65536) = some (.int (x / 65536)) := fun x => dDiv_pos (by decide) (by decide)
    have l1 : (104395301 : Int).natAbs.log2 + (k + 1).natAbs.log2 < 1000000 := by
      have h1 := log_small (a := 104395301) (n := 64) (by decide) (by decide)
      have h2 := log_small (a := k + 1) (n := 64) (by omega) (by decide)
      omega
    have l2 : (107 : Int).natAbs.log2 + (k + 1).natAbs.log2 < 1000000 := by
      have h1 := log_small (a := 107) (n := 64) (by decide) (by decide)
      have h2 := log_small (a := k + 1) (n := 64) (by omega) (by decide)
      omega
    have l3 : ∀ x : Int, (x % 2305843009213693613).natAbs.log2 + (x % 2305843009213693613).natAbs.log2 < 1000000 := fun x => by
      have h2 := log_small (a := x % 2305843009213693613) (n := 64) (by omega) (by decide)
      omega
    have l4 : ∀ x : Int, (x % 2305843009213693519).natAbs.log2 + (3021377 : Int).natAbs.log2 < 1000000 := fun x => by
      have h1 := log_small (a := 3021377) (n := 64) (by decide) (by decide)
      have h2 := log_small (a := x % 2305843009213693519) (n := 64) (by omega) (by decide)
      omega
    obtain ⟨one, ho⟩ : ∃ one, one = (b + 104395301 * (k + 1)) % 2305843009213693613 := ⟨_, rfl⟩
    obtain ⟨u, hu⟩ : ∃ u, u = (one * one + 107 * (k + 1)) % 2305843009213693519 := ⟨_, rfl⟩
    have l3' : one.natAbs.log2 + one.natAbs.log2 < 1000000 := by rw [ho]; exact l3 _
    have l4' : u.natAbs.log2 + (3021377 : Int).natAbs.log2 < 1000000 := by rw [hu]; exact l4 _
    have l5 : Nat.log2 104395301 + (k + 1).natAbs.log2 < 1000000 := l1
    have l6 : Nat.log2 107 + (k + 1).natAbs.log2 < 1000000 := l2
    have l7 : u.natAbs.log2 + Nat.log2 3021377 < 1000000 := l4'
    refine ⟨((u * 3021377 + one) / 65536) % t, .lst [.int a, .int b, .int (k + 1)], ?_, Int.emod_nonneg _ (by omega), Int.emod_lt_of_pos _ h0, _, _, _, rfl, by omega, by omega⟩
    simp -implicitDefEqProofs [m__law_roll, ev_ixC, atI, ixN, ha, dMod_pos h0, e1, e2, e3, l5, l6, ← ho, ← hu, l3', l7]
/-! the program's table of ends -/
theorem ends_get {l m : Nat} (hl : l ≤ r) (hm : m ≤ s) : dIx (.lst (tabD r s (r + 1))) (.int (l : Nat)) = some (.lst (rowD r s l (s + 1))) ∧ dIx (.lst (rowD r s l (s + 1))) (.int (m : Nat)) = some (natD (ways r s l m)) := by
  constructor
  · apply atI_get
    unfold tabD
    rw [List.getElem?_map, List.getElem?_range (by omega)]
    rfl
  · apply atI_get
    unfold rowD
    rw [List.getElem?_map, List.getElem?_range (by omega)]
    rfl
abbrev PI : MS := (mSeq (mSet 5 (mFn fInt (mCons (mBin dEq (mBin dAdd (mName 2) (mName 4)) (mC (.int 0))) mNil)))
  (mSeq (mAug 5 dAddI (mIf (mTru (mCall m_can_step (mCons (mName 0) (mCons (mName 2) (mCons (mName 4) mNil))))) (mIxC 3 (mBin dSub (mName 4) (mC (.int 1)))) (mC (.int 0))))
  (mSeq (mAug 5 dAddI (mIf (mTest (mBin dGt (mName 2) (mC (.int 0)))) (mBin dIx (mIxC 1 (mBin dSub (mName 2) (mC (.int 1)))) (mName 4)) (mC (.int 0))))
  (mExpr (mAppend 3 (mName 5))))))
theorem pIn_ok (h : Sd r s) {l m : Nat} {q5 : Sl} (hl : l ≤ r) (hm : m ≤ s) (h5 : Fr q5) :
    PI [.val (slopeD r s), .cell false (.lst (tabD r s l)), .val (.int l), .cell false (.lst (rowD r s l m)), .val (.int m), q5]
      = .ok .next [.val (slopeD r s), .cell false (.lst (tabD r s l)), .val (.int l), .cell false (.lst (rowD r s l (m + 1))), .val (.int m), .val (natD (ways r s l m))] := by
  have := h.r2
  have := h.s2
  have rl : (rowD r s l m).length = m := by simp [rowD]
  have app : rowD r s l m ++ [natD (ways r s l m)] = rowD r s l (m + 1) := by
    unfold rowD
    rw [List.range_succ, List.map_append]
    rfl
  obtain ⟨x, hx⟩ : ∃ x : Nat, x = (if l + m = 0 then 1 else 0) := ⟨_, rfl⟩
  obtain ⟨y, hy⟩ : ∃ y : Nat, y = (if 0 < m ∧ s * l ≤ r * (m - 1) then ways r s l (m - 1) else 0) := ⟨_, rfl⟩
  have total : ways r s l m = x + y + pvw r s l m := by
    rw [hx, hy]
    by_cases h0 : l + m = 0
    · have e1 : l = 0 := by omega
      have e2 : m = 0 := by omega
      subst e1 e2
      simp [ways_00, pvw]
    · rw [if_neg h0, Nat.zero_add, ways_rec (by omega)]
  have st1 : (mSet 5 (mFn fInt (mCons (mBin dEq (mBin dAdd (mName 2) (mName 4)) (mC (.int 0))) mNil))) [.val (slopeD r s), .cell false (.lst (tabD r s l)), .val (.int l), .cell false (.lst (rowD r s l m)), .val (.int m), q5] = .ok .next [.val (slopeD r s), .cell false (.lst (tabD r s l)), .val (.int l), .cell false (.lst (rowD r s l m)), .val (.int m), .val (.int x)] := by
    have : (if decide ((l : Int) + (m : Int) = 0) = true then (1 : Int) else 0) = (x : Int) := by
      rw [hx]
      by_cases h : l + m = 0
      · rw [if_pos h, if_pos (by simp; omega)]; rfl
      · rw [if_neg h, if_neg (by simp; omega)]; rfl
    simp -implicitDefEqProofs only [ev_set, ev_fn, ev_cons, ev_nil, ev_bin, ev_name, ev_C, List.getElem?_cons_succ, List.getElem?_cons_zero, name_val, bnd_ok, dAdd_int, ev_some, dEq_int, fInt_bl, this, set_fr h5, updR_some, List.set_cons_succ, List.set_cons_zero]
  have st2 : (mAug 5 dAddI (mIf (mTru (mCall m_can_step (mCons (mName 0) (mCons (mName 2) (mCons (mName 4) mNil))))) (mIxC 3 (mBin dSub (mName 4) (mC (.int 1)))) (mC (.int 0)))) [.val (slopeD r s), .cell false (.lst (tabD r s l)), .val (.int l), .cell false (.lst (rowD r s l m)), .val (.int m), .val (.int x)] = .ok .next [.val (slopeD r s), .cell false (.lst (tabD r s l)), .val (.int l), .cell false (.lst (rowD r s l m)), .val (.int m), .val (.int (x + y : Nat))] := by
    obtain ⟨c, e1, hc⟩ := can_step_ok h hl hm
    by_cases hs : 0 < m ∧ s * l ≤ r * (m - 1)
    · have hc : c = true := hc.mpr hs
      subst hc
      rw [if_pos hs] at hy
      have e2 : (m : Int) - 1 = ((m - 1 : Nat) : Int) := by omega
      have ix : atI (rowD r s l m) ((m - 1 : Nat) : Int) = some (.int (y : Nat)) := by
        rw [hy]
        apply atI_get
        unfold rowD
        rw [List.getElem?_map, List.getElem?_range (by omega)]
        rfl
      have ad : (x : Int) + (y : Int) = ((x + y : Nat) : Int) := by omega
      simp -implicitDefEqProofs only [ev_aug, augR_val, ev_if, ev_tru, ev_call, ev_cons, ev_nil, ev_name, List.getElem?_cons_succ, List.getElem?_cons_zero, name_val, bnd_ok, List.map_cons, List.map_nil, e1, callR_ok, tru_bl, ev_some, if_true, ev_ixC, isL_lst, ev_bin, ev_C, dSub_int, e2, ixR_lst, ix, dAddI_int, ad, setR_val, updR_some, List.set_cons_succ, List.set_cons_zero]
    · have hc : c = false := by
        cases c with
        | false => rfl
        | true => exact absurd (hc.mp rfl) hs
      subst hc
      rw [if_neg hs] at hy
      subst hy
      have ad : (x : Int) + 0 = ((x + 0 : Nat) : Int) := by omega
      simp -implicitDefEqProofs only [ev_aug, augR_val, ev_if, ev_tru, ev_call, ev_cons, ev_nil, ev_name, List.getElem?_cons_succ, List.getElem?_cons_zero, name_val, bnd_ok, List.map_cons, List.map_nil, e1, callR_ok, tru_bl, ev_some, Bool.false_eq_true, if_false, ev_C, dAddI_int, ad, setR_val, updR_some, List.set_cons_succ, List.set_cons_zero]
  have st3 : (mAug 5 dAddI (mIf (mTest (mBin dGt (mName 2) (mC (.int 0)))) (mBin dIx (mIxC 1 (mBin dSub (mName 2) (mC (.int 1)))) (mName 4)) (mC (.int 0)))) [.val (slopeD r s), .cell false (.lst (tabD r s l)), .val (.int l), .cell false (.lst (rowD r s l m)), .val (.int m), .val (.int (x + y : Nat))] = .ok .next [.val (slopeD r s), .cell false (.lst (tabD r s l)), .val (.int l), .cell false (.lst (rowD r s l m)), .val (.int m), .val (.int (x + y + pvw r s l m : Nat))] := by
    by_cases hp : 0 < l
    · have e2 : (l : Int) - 1 = ((l - 1 : Nat) : Int) := by omega
      have p0 : decide ((0 : Int) < (l : Int)) = true := by simp; omega
      have ix : atI (tabD r s l) ((l - 1 : Nat) : Int) = some (.lst (rowD r s (l - 1) (s + 1))) := by
        apply atI_get
        unfold tabD
        rw [List.getElem?_map, List.getElem?_range (by omega)]
        rfl
      have ix2 := (ends_get (r := r) (s := s) (l := l - 1) (m := m) (by omega) hm).2
      have pe : pvw r s l m = ways r s (l - 1) m := by unfold pvw; rw [if_pos hp]
      rw [← pe] at ix2
      unfold natD at ix2
      have ad : ((x + y : Nat) : Int) + (pvw r s l m : Int) = ((x + y + pvw r s l m : Nat) : Int) := by omega
      simp -implicitDefEqProofs only [ev_aug, augR_val, ev_if, ev_test, ev_bin, ev_name, ev_C, List.getElem?_cons_succ, List.getElem?_cons_zero, name_val, bnd_ok, dGt_int, ev_some, isB_bl, p0, if_true, dSub_int, e2, ev_ixC, isL_lst, ixR_lst, ix, ix2, dAddI_int, ad, setR_val, updR_some, List.set_cons_succ, List.set_cons_zero]
    · have p0 : decide ((0 : Int) < (l : Int)) = false := by simp; omega
      have pe : pvw r s l m = 0 := by unfold pvw; rw [if_neg hp]
      rw [pe]
      have ad : ((x + y : Nat) : Int) + 0 = ((x + y + 0 : Nat) : Int) := by omega
      simp -implicitDefEqProofs only [ev_aug, augR_val, ev_if, ev_test, ev_bin, ev_name, ev_C, List.getElem?_cons_succ, List.getElem?_cons_zero, name_val, bnd_ok, dGt_int, ev_some, isB_bl, p0, Bool.false_eq_true, if_false, dAddI_int, ad, setR_val, updR_some, List.set_cons_succ, List.set_cons_zero]
  unfold PI
  rw [ev_seq, st1, sq_next, ev_seq, st2, sq_next, ev_seq, st3, sq_next, ← total, ← app]
  simp -implicitDefEqProofs only [ev_expr, ev_append, isL_lst, ev_name, List.getElem?_cons_succ, List.getElem?_cons_zero, name_val, bnd_ok, appR_lst, rl, show (m < 16777216) = True from by simp; omega, if_true, List.set_cons_succ, List.set_cons_zero, natD]
theorem pIn_loop (h : Sd r s) {l : Nat} (hl : l ≤ r) : ∀ (j m : Nat) (q4 q5 : Sl), m + j ≤ s + 1 → Fr q4 → Fr q5 →
    ∃ q4' q5', forL (gSet 4) PI ((List.range' m j).map fun i => .int (i : Nat)) [.val (slopeD r s), .cell false (.lst (tabD r s l)), .val (.int l), .cell false (.lst (rowD r s l m)), q4, q5]
      = .ok .next [.val (slopeD r s), .cell false (.lst (tabD r s l)), .val (.int l), .cell false (.lst (rowD r s l (m + j))), q4', q5'] ∧ Fr q4' ∧ Fr q5' := by
  intro j
  induction j with
  | zero => intro m q4 q5 _ h4 h5; exact ⟨q4, q5, by simp, h4, h5⟩
  | succ j ih =>
    intro m q4 q5 hm h4 h5
    obtain ⟨x4, x5, e, f4, f5⟩ := ih (m + 1) (.val (.int m)) (.val (natD (ways r s l m))) (by omega) fr_val fr_val
    refine ⟨x4, x5, ?_, f4, f5⟩
    rw [List.range'_succ, List.map_cons, forL_next (e1 := [.val (slopeD r s), .cell false (.lst (tabD r s l)), .val (.int l), .cell false (.lst (rowD r s l m)), .val (.int m), q5]) ?_ (pIn_ok h hl (by omega) h5)]
    · rw [e, show m + 1 + j = m + (j + 1) by omega]
    · simp only [ev_gSet, List.getElem?_cons_succ, List.getElem?_cons_zero, set_fr h4, List.set_cons_succ, List.set_cons_zero]
abbrev PO : MS := (mSeq (mSetO 3 (mLst mNil))
  (mSeq (mFor (mRange (mCons (mBin dAdd (mAttr [(0, 2)] (mName 0)) (mC (.int 1))) mNil)) (gSet 4) PI)
  (mExpr (mAppend 1 (mName 3)))))
theorem pOut_loop (h : Sd r s) : ∀ (j l : Nat) (q2 q3 q4 q5 : Sl), l + j ≤ r + 1 → Fr q2 → Fr q3 → Fr q4 → Fr q5 →
    ∃ q2' q3' q4' q5', forL (gSet 2) PO ((List.range' l j).map fun i => .int (i : Nat)) [.val (slopeD r s), .cell false (.lst (tabD r s l)), q2, q3, q4, q5]
      = .ok .next [.val (slopeD r s), .cell false (.lst (tabD r s (l + j))), q2', q3', q4', q5'] := by
  have := h.r2
  have := h.s2
  intro j
  induction j with
  | zero => intro l q2 q3 q4 q5 _ _ _ _ _; exact ⟨q2, q3, q4, q5, by simp⟩
  | succ j ih =>
    intro l q2 q3 q4 q5 hl h2 h3 h4 h5
    obtain ⟨x4, x5, e, f4, f5⟩ := pIn_loop h (l := l) (by omega) (s + 1) 0 q4 q5 (by omega) h4 h5
    rw [← List.range_eq_range', Nat.zero_add] at e
    have e : forL (gSet 4) PI ((List.range (s + 1)).map fun i => .int (i : Nat)) [.val (slopeD r s), .cell false (.lst (tabD r s l)), .val (.int l), .cell false (.lst []), q4, q5] = _ := e
    obtain ⟨y2, y3, y4, y5, e2⟩ := ih (l + 1) (.val (.int l)) (.val (.lst (rowD r s l (s + 1)))) x4 x5 (by omega) fr_val fr_val f4 f5
    refine ⟨y2, y3, y4, y5, ?_⟩
    have tl : (tabD r s l).length = l := by simp [tabD]
    have app : tabD r s l ++ [.lst (rowD r s l (s + 1))] = tabD r s (l + 1) := by
      unfold tabD
      rw [List.range_succ, List.map_append]
      rfl
    have hr' := fRange_n (n := s + 1) (by omega)
    have at2 : ∀ e, attrR [(0, 2)] (slopeD r s) e = .ok (.int s) e := fun e => rfl
    rw [List.range'_succ, List.map_cons, forL_next (e1 := [.val (slopeD r s), .cell false (.lst (tabD r s l)), .val (.int l), q3, q4, q5]) (e2 := [.val (slopeD r s), .cell false (.lst (tabD r s (l + 1))), .val (.int l), .val (.lst (rowD r s l (s + 1))), x4, x5])]
    · rw [e2, show l + 1 + j = l + (j + 1) by omega]
    · simp only [ev_gSet, List.getElem?_cons_succ, List.getElem?_cons_zero, set_fr h2, List.set_cons_succ, List.set_cons_zero]
    · simp -implicitDefEqProofs only [ev_seq, ev_setO, ev_lst, ev_nil, List.length_nil, Nat.zero_le, if_true, bnd_ok, List.getElem?_cons_succ, List.getElem?_cons_zero, set_fr h3, updR_some, sq_next, List.set_cons_succ, List.set_cons_zero]
      rw [ev_for]
      have i1 : (mRange (mCons (mBin dAdd (mAttr [(0, 2)] (mName 0)) (mC (.int 1))) mNil)) [.val (slopeD r s), .cell false (.lst (tabD r s l)), .val (.int l), .cell false (.lst []), q4, q5] = .ok ((List.range (s + 1)).map fun i => .int (i : Nat)) [.val (slopeD r s), .cell false (.lst (tabD r s l)), .val (.int l), .cell false (.lst []), q4, q5] := by
        simp -implicitDefEqProofs only [ev_range, ev_cons, ev_nil, ev_bin, ev_attr, ev_name, List.getElem?_cons_succ, List.getElem?_cons_zero, name_val, bnd_ok, at2, ev_C, dAdd_int, ev_some]
        rw [show (s : Int) + 1 = ((s + 1 : Nat) : Int) by omega, hr']
        rfl
      rw [i1, bnd_ok, e, sq_next]
      simp -implicitDefEqProofs only [ev_expr, ev_append, isL_lst, ev_name, List.getElem?_cons_succ, List.getElem?_cons_zero, name_lst, bnd_ok, appR_lst, tl, show (l < 16777216) = True from by simp; omega, if_true, List.set_cons_succ, List.set_cons_zero, app]
theorem ends_of_ok (h : Sd r s) : m_ends_of [.val (slopeD r s)] = .ok (.lst (tabD r s (r + 1))) [.no] := by
  have := h.r2
  have at1 : ∀ e, attrR [(0, 1)] (slopeD r s) e = .ok (.int r) e := fun e => rfl
  obtain ⟨y2, y3, y4, y5, e⟩ := pOut_loop h (r + 1) 0 .no .no .no .no (by omega) fr_no fr_no fr_no fr_no
  rw [← List.range_eq_range', Nat.zero_add] at e
  have e : forL (gSet 2) PO ((List.range (r + 1)).map fun i => .int (i : Nat)) [.val (slopeD r s), .cell false (.lst []), .no, .no, .no, .no] = _ := e
  have hr' := fRange_n (n := r + 1) (by omega)
  unfold m_ends_of
  rw [ev_def]
  show endR _ ((mSeq _ _) [.val (slopeD r s), .no, .no, .no, .no, .no]) = _
  have st1 : (mSetO 1 (mLst mNil)) [.val (slopeD r s), .no, .no, .no, .no, .no] = .ok .next [.val (slopeD r s), .cell false (.lst []), .no, .no, .no, .no] := by
    simp -implicitDefEqProofs
  have i1 : (mRange (mCons (mBin dAdd (mAttr [(0, 1)] (mName 0)) (mC (.int 1))) mNil)) [.val (slopeD r s), .cell false (.lst []), .no, .no, .no, .no] = .ok ((List.range (r + 1)).map fun i => .int (i : Nat)) [.val (slopeD r s), .cell false (.lst []), .no, .no, .no, .no] := by
    simp -implicitDefEqProofs only [ev_range, ev_cons, ev_nil, ev_bin, ev_attr, ev_name, List.getElem?_cons_succ, List.getElem?_cons_zero, name_val, bnd_ok, at1, ev_C, dAdd_int, ev_some]
    rw [show (r : Int) + 1 = ((r + 1 : Nat) : Int) by omega, hr']
    rfl
  rw [ev_seq, st1, sq_next, ev_seq, ev_for, i1, bnd_ok, e, sq_next]
  simp -implicitDefEqProofs
end
end K04
set_option Elab.async false
set_option linter.all false
set_option maxRecDepth 100000
set_option maxHeartbeats 4000000
namespace K04
open PySem PySem.Spec PyProof.Rows L2 L2.DL
section
variable {r s : Nat}
/-! ways and walks by number -/
theorem pt_up : ∀ (t : List Nat) (l m : Nat), s * l ≤ r * m → PT r s t l m → Lt2 t ∧ t.count 114 = l ∧ t.count 115 = m ∧ Up r s ((r * m : Nat) - (s * l : Nat) : Int) t
  | [], l, m, _, h => by
    obtain ⟨rfl, rfl⟩ := h
    exact ⟨fun c hc => by simp at hc, rfl, rfl, True.intro⟩
  | c :: t, l, m, hv, h => by
    rcases h with ⟨rfl, hl, h⟩ | ⟨rfl, hs, h⟩
    · obtain ⟨a, b, d, u⟩ := pt_up t (l - 1) m (val_rise hv) h
      obtain ⟨k, rfl⟩ : ∃ k, l = k + 1 := ⟨l - 1, by omega⟩
      rw [Nat.add_sub_cancel] at b u
      have e : ((r * m : Nat) - (s * (k + 1) : Nat) : Int) + vl r s 114 = ((r * m : Nat) - (s * k : Nat) : Int) := by
        simp only [vl, if_true, Nat.mul_succ]
        omega
      refine ⟨fun x hx => ?_, by simp [List.count_cons, b], by simp [List.count_cons, d], ?_⟩
      · rcases List.mem_cons.mp hx with rfl | hx
        · exact .inl rfl
        · exact a x hx
      · show 0 ≤ _ ∧ Up r s _ t
        rw [e]
        exact ⟨by have := Nat.mul_le_mul_left s (show k ≤ k + 1 by omega); omega, u⟩
    · obtain ⟨a, b, d, u⟩ := pt_up t l (m - 1) hs.2 h
      obtain ⟨k, rfl⟩ : ∃ k, m = k + 1 := ⟨m - 1, by omega⟩
      rw [Nat.add_sub_cancel] at d u hs
      have e : ((r * (k + 1) : Nat) - (s * l : Nat) : Int) + vl r s 115 = ((r * k : Nat) - (s * l : Nat) : Int) := by
        simp only [vl, Nat.mul_succ]
        rw [if_neg (by decide)]
        omega
      refine ⟨fun x hx => ?_, by simp [List.count_cons, b], by simp [List.count_cons, d], ?_⟩
      · rcases List.mem_cons.mp hx with rfl | hx
        · exact .inr rfl
        · exact a x hx
      · show 0 ≤ _ ∧ Up r s _ t
        rw [e]
        exact ⟨by omega, u⟩
theorem wy_of (h : PT r s t r s) : Wy r s t := by
  have e : s * r ≤ r * s := Nat.le_of_eq (Nat.mul_comm s r)
  obtain ⟨a, b, d, u⟩ := pt_up t r s e h
  refine ⟨a, b, d, fun k _ => ?_⟩
  have z : ((r * s : Nat) - (s * r : Nat) : Int) = 0 := by rw [Nat.mul_comm]; omega
  rw [z] at u
  have := up_take t 0 (by omega) u k
  omega
theorem pt_of : ∀ (t : List Nat) (l m : Nat), Lt2 t → t.count 114 = l → t.count 115 = m → (∀ k, k ≤ t.length → 0 ≤ ((r * m : Nat) - (s * l : Nat) : Int) + sm r s (t.take k)) → PT r s t l m
  | [], l, m, _, h1, h2, _ => ⟨h1.symm, h2.symm⟩
  | c :: t, l, m, lt, h1, h2, up => by
    have lt' : Lt2 t := fun x hx => lt x (List.mem_cons_of_mem _ hx)
    rcases lt c List.mem_cons_self with rfl | rfl
    · have h1 : t.count 114 + 1 = l := by simpa [List.count_cons] using h1
      have h2 : t.count 115 = m := by simpa [List.count_cons] using h2
      subst h1
      refine .inl ⟨rfl, by omega, ?_⟩
      rw [Nat.add_sub_cancel]
      refine pt_of t _ _ lt' rfl h2 fun k hk => ?_
      have := up (k + 1) (by simpa using hk)
      simp only [List.take_succ_cons, sm, vl, if_true, Nat.mul_succ] at this
      omega
    · have h1 : t.count 114 = l := by simpa [List.count_cons] using h1
      have h2 : t.count 115 + 1 = m := by simpa [List.count_cons] using h2
      subst h2
      have u1 := up 1 (by simp)
      simp only [List.take_succ_cons, List.take_zero, sm, vl, Nat.mul_succ] at u1
      rw [if_neg (by decide)] at u1
      refine .inr ⟨rfl, ⟨by omega, by rw [Nat.add_sub_cancel]; omega⟩, ?_⟩
      rw [Nat.add_sub_cancel]
      refine pt_of t _ _ lt' h1 rfl fun k hk => ?_
      have := up (k + 1) (by simpa using hk)
      simp only [List.take_succ_cons, sm, vl, Nat.mul_succ] at this
      rw [if_neg (by decide)] at this
      omega
theorem pt_wy (w : Wy r s t) : PT r s t r s := by
  refine pt_of t r s w.lt w.c1 w.c2 fun k hk => ?_
  have := w.up k hk
  rw [Nat.mul_comm s r]
  omega
/-! the number of a way -/
abbrev manyM (ie ir is : Nat) : M D := (mIf (mTest (mBin dGt (mName ir) (mC (.int 0)))) (mBin dIx (mBin dIx (mName ie) (mBin dSub (mName ir) (mC (.int 1)))) (mName is)) (mC (.int 0)))
theorem many_ok {e : Ev} {ie ir is l m : Nat} (h1 : e[ie]? = some (.val (.lst (tabD r s (r + 1))))) (h2 : e[ir]? = some (.val (.int (l : Nat)))) (h3 : e[is]? = some (.val (.int (m : Nat)))) (hl : l ≤ r) (hm : m ≤ s) : manyM ie ir is e = .ok (.int (pvw r s l m : Nat)) e := by
  by_cases hp : 0 < l
  · have e2 : (l : Int) - 1 = ((l - 1 : Nat) : Int) := by omega
    have p0 : decide ((0 : Int) < (l : Int)) = true := by simp; omega
    obtain ⟨g1, g2⟩ := ends_get (r := r) (s := s) (l := l - 1) (m := m) (by omega) hm
    have pe : pvw r s l m = ways r s (l - 1) m := by unfold pvw; rw [if_pos hp]
    rw [← pe] at g2
    unfold natD at g2
    simp -implicitDefEqProofs only [ev_if, ev_test, ev_bin, ev_name, ev_C, h1, h2, h3, name_val, bnd_ok, dGt_int, ev_some, isB_bl, p0, if_true, dSub_int, e2, g1, g2]
  · have p0 : decide ((0 : Int) < (l : Int)) = false := by simp; omega
    have pe : pvw r s l m = 0 := by unfold pvw; rw [if_neg hp]
    rw [pe]
    simp -implicitDefEqProofs only [ev_if, ev_test, ev_bin, ev_name, ev_C, h2, name_val, bnd_ok, dGt_int, ev_some, isB_bl, p0, Bool.false_eq_true, if_false]
    rfl
theorem dec1 {l : Nat} (h : 0 < l) : dSub (.int (l : Nat)) (.int 1) = some (.int ((l - 1 : Nat) : Int)) := by
  rw [dSub_int, show (l : Int) - 1 = ((l - 1 : Nat) : Int) by omega]
abbrev XB : MS := (mIf (mTest (mBin dEq (mName 5) (mC (.str "r"))))
  (mAug 3 dSub (mC (.int 1)))
  (mSeq (mAug 2 dAddI (manyM 1 3 4))
  (mAug 4 dSub (mC (.int 1)))))
theorem eqR {c : Nat} : dEq (.str (S [c])) (.str "r") = some (.bl (decide (c = 114))) := by
  rw [chR, dEq_str]
  congr 2
  simp [S_inj]
theorem ix_loop {wd : D} : ∀ (t : List Nat) (l m f : Nat) (q : Sl), l ≤ r → m ≤ s → PT r s t l m → Fr q →
    ∃ q', forL (gSet 5) XB (t.map fun k => .str (S [k])) [.val wd, .val (.lst (tabD r s (r + 1))), .val (.int f), .val (.int l), .val (.int m), q]
      = .ok .next [.val wd, .val (.lst (tabD r s (r + 1))), .val (.int (f + ixW r s t l m : Nat)), .val (.int 0), .val (.int 0), q']
  | [], l, m, f, q, _, _, h, hq => by
    obtain ⟨rfl, rfl⟩ := h
    exact ⟨q, by simp [ixW]⟩
  | c :: t, l, m, f, q, hl, hm, h, hq => by
    rcases h with ⟨rfl, h0, h⟩ | ⟨rfl, h0, h⟩
    · obtain ⟨q', e⟩ := ix_loop (wd := wd) t (l - 1) m f (.val (.str (S [114]))) (by omega) hm h fr_val
      refine ⟨q', ?_⟩
      have d := dec1 h0
      rw [List.map_cons, forL_next (e1 := [.val wd, .val (.lst (tabD r s (r + 1))), .val (.int f), .val (.int l), .val (.int m), .val (.str (S [114]))]) (e2 := [.val wd, .val (.lst (tabD r s (r + 1))), .val (.int f), .val (.int (l - 1 : Nat)), .val (.int m), .val (.str (S [114]))]), e]
      · rw [ixW, if_pos rfl]
      · simp only [ev_gSet, List.getElem?_cons_succ, List.getElem?_cons_zero, set_fr hq, List.set_cons_succ, List.set_cons_zero]
      · simp -implicitDefEqProofs only [ev_if, ev_test, ev_bin, ev_name, ev_C, List.getElem?_cons_succ, List.getElem?_cons_zero, name_val, bnd_ok, eqR, ev_some, isB_bl, decide_true, if_true, ev_aug, augR_val, d, setR_val, updR_some, List.set_cons_succ, List.set_cons_zero]
    · obtain ⟨q', e⟩ := ix_loop (wd := wd) t l (m - 1) (f + pvw r s l m) (.val (.str (S [115]))) hl (by omega) h fr_val
      refine ⟨q', ?_⟩
      have d := dec1 h0.1
      have mo := many_ok (r := r) (s := s) (e := [.val wd, .val (.lst (tabD r s (r + 1))), .val (.int f), .val (.int l), .val (.int m), .val (.str (S [115]))]) (ie := 1) (ir := 3) (is := 4) rfl rfl rfl hl hm
      have ad : (f : Int) + (pvw r s l m : Int) = ((f + pvw r s l m : Nat) : Int) := by omega
      have t1 : (mTest (mBin dEq (mName 5) (mC (.str "r")))) [.val wd, .val (.lst (tabD r s (r + 1))), .val (.int f), .val (.int l), .val (.int m), .val (.str (S [115]))] = .ok false [.val wd, .val (.lst (tabD r s (r + 1))), .val (.int f), .val (.int l), .val (.int m), .val (.str (S [115]))] := by
        simp -implicitDefEqProofs only [ev_test, ev_bin, ev_name, ev_C, List.getElem?_cons_succ, List.getElem?_cons_zero, name_val, bnd_ok, eqR, ev_some]
        rfl
      have st1 : (mAug 2 dAddI (manyM 1 3 4)) [.val wd, .val (.lst (tabD r s (r + 1))), .val (.int f), .val (.int l), .val (.int m), .val (.str (S [115]))] = .ok .next [.val wd, .val (.lst (tabD r s (r + 1))), .val (.int (f + pvw r s l m : Nat)), .val (.int l), .val (.int m), .val (.str (S [115]))] := by
        simp -implicitDefEqProofs only [ev_aug, List.getElem?_cons_succ, List.getElem?_cons_zero, augR_val, mo, bnd_ok, dAddI_int, ad, ev_some, setR_val, updR_some, List.set_cons_succ, List.set_cons_zero]
      rw [List.map_cons, forL_next (e1 := [.val wd, .val (.lst (tabD r s (r + 1))), .val (.int f), .val (.int l), .val (.int m), .val (.str (S [115]))]) (e2 := [.val wd, .val (.lst (tabD r s (r + 1))), .val (.int (f + pvw r s l m : Nat)), .val (.int l), .val (.int (m - 1 : Nat)), .val (.str (S [115]))]), e]
      · rw [ixW, if_neg (by decide), Nat.add_assoc]
      · simp only [ev_gSet, List.getElem?_cons_succ, List.getElem?_cons_zero, set_fr hq, List.set_cons_succ, List.set_cons_zero]
      · rw [show XB = mIf _ _ _ from rfl, ev_if, t1, bnd_ok]
        simp -implicitDefEqProofs only [Bool.false_eq_true, if_false]
        rw [ev_seq, st1, sq_next]
        simp -implicitDefEqProofs only [ev_aug, augR_val, ev_C, List.getElem?_cons_succ, List.getElem?_cons_zero, bnd_ok, d, ev_some, setR_val, updR_some, List.set_cons_succ, List.set_cons_zero]
theorem way_index_ok (h : Sd r s) (w : Wy r s t) : m_way_index [.val (wayD r s t)] = .ok (.int (ixW r s t r s : Nat)) [.no] := by
  have at1 : ∀ e, attrR [(0, 1)] (slopeD r s) e = .ok (.int r) e := fun e => rfl
  have at2 : ∀ e, attrR [(0, 2)] (slopeD r s) e = .ok (.int s) e := fun e => rfl
  have aw1 : ∀ e, attrR [(1, 1)] (wayD r s t) e = .ok (slopeD r s) e := fun e => rfl
  have aw2 : ∀ e, attrR [(1, 2)] (wayD r s t) e = .ok (.str (S t)) e := fun e => rfl
  have rw1 : m_require_way [.val (wayD r s t)] = .ok .non [.no] := by
    simp -implicitDefEqProofs [m_require_way, D.tg, isiT, List.lookup, wayD]
  obtain ⟨q', e⟩ := ix_loop (wd := wayD r s t) t r s 0 .no (Nat.le_refl _) (Nat.le_refl _) (pt_wy w) fr_no
  rw [Nat.zero_add] at e
  have e : forL (gSet 5) XB (t.map fun k => .str (S [k])) [.val (wayD r s t), .val (.lst (tabD r s (r + 1))), .val (.int 0), .val (.int r), .val (.int s), .no] = _ := e
  have en := ends_of_ok h
  unfold m_way_index
  simp -implicitDefEqProofs only [ev_def, List.length_cons, List.length_nil, List.cons_append, List.nil_append, List.replicate_succ, List.replicate_zero, Nat.reduceAdd, Nat.reduceSub, ev_seq, ev_expr, ev_call, ev_cons, ev_nil, ev_name, List.getElem?_cons_succ, List.getElem?_cons_zero, name_val, bnd_ok, List.map_cons, List.map_nil, rw1, callR_ok, sq_next, ev_par, ev_pvCons, ev_pvNil, ev_inl, ev_attr, aw1, aw2, at1, at2, en, ev_C, pvs_cons, pv_inl, setR_no, pvsR_some, pvs_nil, updR_some, List.set_cons_succ, List.set_cons_zero, ev_for, ev_iter, its_str, S_items, ev_some]
  rw [show forL (gSet 5) _ (t.map fun k => D.str (S [k])) _ = _ from e, sq_next]
  simp -implicitDefEqProofs
abbrev LB : MS := (mIf (mTest (mBin dEq (mName 7) (mC (.str "r"))))
  (mSet 4 (mBin dSub (mName 4) (mC (.int 1))))
  (mSeq (mSet 6 (mBin dAdd (mName 6) (manyM 0 4 5)))
  (mSet 5 (mBin dSub (mName 5) (mC (.int 1))))))
theorem lx_loop {s1 s2 s3 : Sl} : ∀ (t : List Nat) (l m f : Nat) (q : Sl), l ≤ r → m ≤ s → PT r s t l m → Fr q →
    ∃ q', forL (gSet 7) LB (t.map fun k => .str (S [k])) [.val (.lst (tabD r s (r + 1))), s1, s2, s3, .val (.int l), .val (.int m), .val (.int f), q]
      = .ok .next [.val (.lst (tabD r s (r + 1))), s1, s2, s3, .val (.int 0), .val (.int 0), .val (.int (f + ixW r s t l m : Nat)), q']
  | [], l, m, f, q, _, _, h, hq => by
    obtain ⟨rfl, rfl⟩ := h
    exact ⟨q, by simp [ixW]⟩
  | c :: t, l, m, f, q, hl, hm, h, hq => by
    rcases h with ⟨rfl, h0, h⟩ | ⟨rfl, h0, h⟩
    · obtain ⟨q', e⟩ := lx_loop (s1 := s1) (s2 := s2) (s3 := s3) t (l - 1) m f (.val (.str (S [114]))) (by omega) hm h fr_val
      refine ⟨q', ?_⟩
      have d := dec1 h0
      rw [List.map_cons, forL_next (e1 := [.val (.lst (tabD r s (r + 1))), s1, s2, s3, .val (.int l), .val (.int m), .val (.int f), .val (.str (S [114]))]) (e2 := [.val (.lst (tabD r s (r + 1))), s1, s2, s3, .val (.int (l - 1 : Nat)), .val (.int m), .val (.int f), .val (.str (S [114]))]), e]
      · rw [ixW, if_pos rfl]
      · simp only [ev_gSet, List.getElem?_cons_succ, List.getElem?_cons_zero, set_fr hq, List.set_cons_succ, List.set_cons_zero]
      · simp -implicitDefEqProofs only [ev_if, ev_test, ev_bin, ev_name, ev_C, List.getElem?_cons_succ, List.getElem?_cons_zero, name_val, bnd_ok, eqR, ev_some, isB_bl, decide_true, if_true, ev_set, d, setR_val, updR_some, List.set_cons_succ, List.set_cons_zero]
    · obtain ⟨q', e⟩ := lx_loop (s1 := s1) (s2 := s2) (s3 := s3) t l (m - 1) (f + pvw r s l m) (.val (.str (S [115]))) hl (by omega) h fr_val
      refine ⟨q', ?_⟩
      have d := dec1 h0.1
      have mo := many_ok (r := r) (s := s) (e := [.val (.lst (tabD r s (r + 1))), s1, s2, s3, .val (.int l), .val (.int m), .val (.int f), .val (.str (S [115]))]) (ie := 0) (ir := 4) (is := 5) rfl rfl rfl hl hm
      have ad : (f : Int) + (pvw r s l m : Int) = ((f + pvw r s l m : Nat) : Int) := by omega
      have t1 : (mTest (mBin dEq (mName 7) (mC (.str "r")))) [.val (.lst (tabD r s (r + 1))), s1, s2, s3, .val (.int l), .val (.int m), .val (.int f), .val (.str (S [115]))] = .ok false [.val (.lst (tabD r s (r + 1))), s1, s2, s3, .val (.int l), .val (.int m), .val (.int f), .val (.str (S [115]))] := by
        simp -implicitDefEqProofs only [ev_test, ev_bin, ev_name, ev_C, List.getElem?_cons_succ, List.getElem?_cons_zero, name_val, bnd_ok, eqR, ev_some]
        rfl
      have st1 : (mSet 6 (mBin dAdd (mName 6) (manyM 0 4 5))) [.val (.lst (tabD r s (r + 1))), s1, s2, s3, .val (.int l), .val (.int m), .val (.int f), .val (.str (S [115]))] = .ok .next [.val (.lst (tabD r s (r + 1))), s1, s2, s3, .val (.int l), .val (.int m), .val (.int (f + pvw r s l m : Nat)), .val (.str (S [115]))] := by
        rw [ev_set, ev_bin]
        simp -implicitDefEqProofs only [ev_name, List.getElem?_cons_succ, List.getElem?_cons_zero, name_val, bnd_ok, mo, dAdd_int, ad, ev_some, setR_val, updR_some, List.set_cons_succ, List.set_cons_zero]
      rw [List.map_cons, forL_next (e1 := [.val (.lst (tabD r s (r + 1))), s1, s2, s3, .val (.int l), .val (.int m), .val (.int f), .val (.str (S [115]))]) (e2 := [.val (.lst (tabD r s (r + 1))), s1, s2, s3, .val (.int l), .val (.int (m - 1 : Nat)), .val (.int (f + pvw r s l m : Nat)), .val (.str (S [115]))]), e]
      · rw [ixW, if_neg (by decide), Nat.add_assoc]
      · simp only [ev_gSet, List.getElem?_cons_succ, List.getElem?_cons_zero, set_fr hq, List.set_cons_succ, List.set_cons_zero]
      · rw [show LB = mIf _ _ _ from rfl, ev_if, t1, bnd_ok]
        simp -implicitDefEqProofs only [Bool.false_eq_true, if_false]
        rw [ev_seq, st1, sq_next]
        simp -implicitDefEqProofs only [ev_set, ev_bin, ev_name, name_val, ev_C, List.getElem?_cons_succ, List.getElem?_cons_zero, bnd_ok, d, ev_some, setR_val, updR_some, List.set_cons_succ, List.set_cons_zero]
theorem law_index_ok (w : Wy r s t) : m__law_index [.val (.lst (tabD r s (r + 1))), .val (.int r), .val (.int s), .val (.str (S t))] = .ok (.int (ixW r s t r s : Nat)) [.no, .no, .no, .no] := by
  obtain ⟨q', e⟩ := lx_loop (s1 := .val (.int r)) (s2 := .val (.int s)) (s3 := .val (.str (S t))) t r s 0 .no (Nat.le_refl _) (Nat.le_refl _) (pt_wy w) fr_no
  rw [Nat.zero_add] at e
  have e : forL (gSet 7) LB (t.map fun k => .str (S [k])) [.val (.lst (tabD r s (r + 1))), .val (.int r), .val (.int s), .val (.str (S t)), .val (.int r), .val (.int s), .val (.int 0), .no] = _ := e
  unfold m__law_index
  simp -implicitDefEqProofs only [ev_def, List.length_cons, List.length_nil, List.cons_append, List.nil_append, List.replicate_succ, List.replicate_zero, Nat.reduceAdd, Nat.reduceSub, ev_seq, ev_par, ev_pvCons, ev_pvNil, ev_inl, ev_name, ev_C, List.getElem?_cons_succ, List.getElem?_cons_zero, name_val, bnd_ok, pvs_cons, pv_inl, setR_no, pvsR_some, pvs_nil, updR_some, sq_next, List.set_cons_succ, List.set_cons_zero, ev_for, ev_iter, its_str, S_items, ev_some]
  rw [show forL (gSet 7) _ (t.map fun k => D.str (S [k])) _ = _ from e, sq_next]
  simp -implicitDefEqProofs
end
end K04
set_option Elab.async false
set_option linter.all false
set_option maxRecDepth 100000
set_option maxHeartbeats 4000000
namespace K04
open PySem PySem.Spec PyProof.Rows L2 L2.DL
section
variable {r s : Nat}
/-! the way with a number -/
abbrev AB : MS := (mSeq (mSet 6 (manyM 2 4 5))
  (mIf (mTest (mBin dLt (mName 1) (mName 6)))
  (mPar [3, 4] (pvCons (mInl (mBin dAdd (mName 3) (mC (.str "r")))) (pvCons (mInl (mBin dSub (mName 4) (mC (.int 1)))) pvNil)))
  (mSeq (mAug 1 dSub (mName 6))
  (mPar [3, 5] (pvCons (mInl (mBin dAdd (mName 3) (mC (.str "s")))) (pvCons (mInl (mBin dSub (mName 5) (mC (.int 1)))) pvNil))))))
abbrev AT : M Bool := (mTest (mBin dGt (mBin dAdd (mName 4) (mName 5)) (mC (.int 0))))
theorem at_loop {sl : D} : ∀ (n l m i fuel : Nat) (t : List Nat) (q : Sl), n = l + m → l ≤ r → m ≤ s → s * l ≤ r * m → i < ways r s l m → t.length + n ≤ 1000 → n < fuel → Fr q →
    ∃ i' q', whileN fuel AT AB [.val sl, .val (.int i), .val (.lst (tabD r s (r + 1))), .val (.str (S t)), .val (.int l), .val (.int m), q]
      = .ok .next [.val sl, i', .val (.lst (tabD r s (r + 1))), .val (.str (S (t ++ atW r s n l m i))), .val (.int 0), .val (.int 0), q'] := by
  intro n
  induction n with
  | zero =>
    intro l m i fuel t q hn hl hm hv hi ht hf hq
    obtain ⟨f, rfl⟩ : ∃ f, fuel = f + 1 := ⟨fuel - 1, by omega⟩
    have : l = 0 ∧ m = 0 := by omega
    obtain ⟨rfl, rfl⟩ := this
    refine ⟨.val (.int i), q, ?_⟩
    unfold whileN
    simp -implicitDefEqProofs [atW]
  | succ n ih =>
    intro l m i fuel t q hn hl hm hv hi ht hf hq
    obtain ⟨f, rfl⟩ : ∃ f, fuel = f + 1 := ⟨fuel - 1, by omega⟩
    have p0 : decide ((0 : Int) < (l : Int) + (m : Int)) = true := by simp; omega
    have test : AT [.val sl, .val (.int i), .val (.lst (tabD r s (r + 1))), .val (.str (S t)), .val (.int l), .val (.int m), q] = .ok true [.val sl, .val (.int i), .val (.lst (tabD r s (r + 1))), .val (.str (S t)), .val (.int l), .val (.int m), q] := by
      simp -implicitDefEqProofs only [ev_test, ev_bin, ev_name, ev_C, List.getElem?_cons_succ, List.getElem?_cons_zero, name_val, bnd_ok, dAdd_int, ev_some, dGt_int, p0, isB_bl]
    have app : ∀ x : Nat, dAdd (.str (S t)) (.str (S [x])) = some (.str (S (t ++ [x]))) := fun x => by
      rw [dAdd_str, if_pos (by simp; omega), S_app]
    have mo := many_ok (r := r) (s := s) (e := [.val sl, .val (.int i), .val (.lst (tabD r s (r + 1))), .val (.str (S t)), .val (.int l), .val (.int m), q]) (ie := 2) (ir := 4) (is := 5) rfl rfl rfl hl hm
    have st1 : (mSet 6 (manyM 2 4 5)) [.val sl, .val (.int i), .val (.lst (tabD r s (r + 1))), .val (.str (S t)), .val (.int l), .val (.int m), q] = .ok .next [.val sl, .val (.int i), .val (.lst (tabD r s (r + 1))), .val (.str (S t)), .val (.int l), .val (.int m), .val (.int (pvw r s l m : Nat))] := by
      rw [ev_set, mo]
      simp -implicitDefEqProofs only [bnd_ok, List.getElem?_cons_succ, List.getElem?_cons_zero, set_fr hq, updR_some, List.set_cons_succ, List.set_cons_zero]
    by_cases hc : i < pvw r s l m
    · obtain ⟨hl0, hi2⟩ := pv_pos hc
      have d := dec1 hl0
      have c0 : decide ((i : Int) < (pvw r s l m : Int)) = true := by simp only [decide_eq_true_eq]; omega
      obtain ⟨i', q', e⟩ := ih (l - 1) m i f (t ++ [114]) (.val (.int (pvw r s l m : Nat))) (by omega) (by omega) hm (val_rise hv) hi2 (by simp; omega) (by omega) fr_val
      refine ⟨i', q', ?_⟩
      have body : AB [.val sl, .val (.int i), .val (.lst (tabD r s (r + 1))), .val (.str (S t)), .val (.int l), .val (.int m), q] = .ok .next [.val sl, .val (.int i), .val (.lst (tabD r s (r + 1))), .val (.str (S (t ++ [114]))), .val (.int (l - 1 : Nat)), .val (.int m), .val (.int (pvw r s l m : Nat))] := by
        rw [show AB = mSeq _ _ from rfl, ev_seq, st1, sq_next]
        simp -implicitDefEqProofs only [ev_if, ev_test, ev_bin, ev_name, List.getElem?_cons_succ, List.getElem?_cons_zero, name_val, bnd_ok, dLt_int, ev_some, isB_bl, c0, if_true, ev_par, ev_pvCons, ev_pvNil, ev_inl, ev_C, chR, app, d, pvs_cons, pv_inl, setR_val, pvsR_some, pvs_nil, updR_some, List.set_cons_succ, List.set_cons_zero]
      unfold whileN
      rw [test]
      dsimp only
      rw [body]
      dsimp only
      rw [e, atW_r hc, List.append_assoc]
      rfl
    · obtain ⟨hs0, hi2⟩ := step_ok (by omega) hc hi
      have d := dec1 hs0.1
      have c0 : decide ((i : Int) < (pvw r s l m : Int)) = false := by simp only [decide_eq_false_iff_not]; omega
      have sb : (i : Int) - (pvw r s l m : Int) = ((i - pvw r s l m : Nat) : Int) := by omega
      obtain ⟨i', q', e⟩ := ih l (m - 1) (i - pvw r s l m) f (t ++ [115]) (.val (.int (pvw r s l m : Nat))) (by omega) hl (by omega) hs0.2 hi2 (by simp; omega) (by omega) fr_val
      refine ⟨i', q', ?_⟩
      have body : AB [.val sl, .val (.int i), .val (.lst (tabD r s (r + 1))), .val (.str (S t)), .val (.int l), .val (.int m), q] = .ok .next [.val sl, .val (.int (i - pvw r s l m : Nat)), .val (.lst (tabD r s (r + 1))), .val (.str (S (t ++ [115]))), .val (.int l), .val (.int (m - 1 : Nat)), .val (.int (pvw r s l m : Nat))] := by
        rw [show AB = mSeq _ _ from rfl, ev_seq, st1, sq_next]
        simp -implicitDefEqProofs only [ev_if, ev_test, ev_bin, ev_name, List.getElem?_cons_succ, List.getElem?_cons_zero, name_val, bnd_ok, dLt_int, ev_some, isB_bl, c0, Bool.false_eq_true, if_false, ev_seq, ev_aug, augR_val, dSub_int, sb, setR_val, updR_some, List.set_cons_succ, List.set_cons_zero, sq_next, ev_par, ev_pvCons, ev_pvNil, ev_inl, ev_C, chS, app, pvs_cons, pv_inl, pvsR_some, pvs_nil]
        rw [show (m : Int) - 1 = ((m - 1 : Nat) : Int) by omega]
      unfold whileN
      rw [test]
      dsimp only
      rw [body]
      dsimp only
      rw [e, atW_s hc, List.append_assoc]
      rfl
theorem ways_sm (h : Sd r s) : (ways r s r s : Int) < 1000000000000000000000000000000000000000000000000000000000000 := by
  have := h.r2
  have := h.s2
  have h1 := ways_le r s r s
  have h2 : 2 ^ (r + s) ≤ 2 ^ 120 := Nat.pow_le_pow_right (by decide) (by omega)
  omega
/-- the index is one -/
theorem way_at_ok (h : Sd r s) {i : Nat} (hi : i < ways r s r s) (hc : m_count_of_ways [.val (slopeD r s)] = .ok (.int (ways r s r s : Nat)) [.no]) : m_way_at [.val (slopeD r s), .val (.int i)] = .ok (wayD r s (atW r s (r + s) r s i)) [.no, .no] := by
  have := h.r2
  have := h.s2
  have hsm := ways_sm h
  have rs : s * r ≤ r * s := Nat.le_of_eq (Nat.mul_comm s r)
  have at1 : ∀ e, attrR [(0, 1)] (slopeD r s) e = .ok (.int r) e := fun e => rfl
  have at2 : ∀ e, attrR [(0, 2)] (slopeD r s) e = .ok (.int s) e := fun e => rfl
  have rf := require_from_ok (v := (i : Int)) (a := 0) (b := (ways r s r s : Int) - 1) (by unfold Sm; omega) (by omega) (by omega)
  have en := ends_of_ok h
  obtain ⟨i', q', e⟩ := at_loop (sl := slopeD r s) (r + s) r s i 1099511627776 [] .no rfl (Nat.le_refl _) (Nat.le_refl _) rs hi (by simp; omega) (by omega) fr_no
  rw [List.nil_append] at e
  have wm := way_make h (wy_of (at_spec (r + s) r s i rfl rs hi).1)
  have st1 : (mExpr (mCall m_require_slope (mCons (mName 0) mNil))) [.val (slopeD r s), .val (.int i), .no, .no, .no, .no, .no] = .ok .next [.val (slopeD r s), .val (.int i), .no, .no, .no, .no, .no] := by
    simp -implicitDefEqProofs [require_slope_ok]
  have st2 : (mExpr (mCall m_require_from (mCons (mName 1) (mCons (mC (.int 0)) (mCons (mBin dSub (mCall m_count_of_ways (mCons (mName 0) mNil)) (mC (.int 1))) mNil))))) [.val (slopeD r s), .val (.int i), .no, .no, .no, .no, .no] = .ok .next [.val (slopeD r s), .val (.int i), .no, .no, .no, .no, .no] := by
    simp -implicitDefEqProofs only [ev_expr, ev_call, ev_cons, ev_nil, ev_name, ev_C, ev_bin, List.getElem?_cons_succ, List.getElem?_cons_zero, name_val, bnd_ok, List.map_cons, List.map_nil, hc, callR_ok, dSub_int, ev_some, rf]
  have st3 : (mPar [2, 3, 4, 5] (pvCons (mInl (mCall m_ends_of (mCons (mName 0) mNil))) (pvCons (mInl (mC (.str ""))) (pvCons (mInl (mAttr [(0, 1)] (mName 0))) (pvCons (mInl (mAttr [(0, 2)] (mName 0))) pvNil))))) [.val (slopeD r s), .val (.int i), .no, .no, .no, .no, .no] = .ok .next [.val (slopeD r s), .val (.int i), .val (.lst (tabD r s (r + 1))), .val (.str (S [])), .val (.int r), .val (.int s), .no] := by
    simp -implicitDefEqProofs only [ev_par, ev_pvCons, ev_pvNil, ev_inl, ev_call, ev_cons, ev_nil, ev_name, ev_C, ev_attr, List.getElem?_cons_succ, List.getElem?_cons_zero, name_val, bnd_ok, List.map_cons, List.map_nil, en, callR_ok, at1, at2, chE, pvs_cons, pv_inl, setR_no, pvsR_some, pvs_nil, updR_some, List.set_cons_succ, List.set_cons_zero]
  unfold m_way_at mWhile
  rw [ev_def]
  show endR _ ((mSeq _ _) [.val (slopeD r s), .val (.int i), .no, .no, .no, .no, .no]) = _
  rw [ev_seq, st1, sq_next, ev_seq, st2, sq_next, ev_seq, st3, sq_next, ev_seq, e, sq_next]
  simp -implicitDefEqProofs only [ev_mret, ev_make, ev_cons, ev_nil, ev_name, List.getElem?_cons_succ, List.getElem?_cons_zero, name_val, bnd_ok, List.map_cons, List.map_nil, wm, end_ret, outs_val, outs_nil]
/-- what is no index -/
theorem require_slope_any : m_require_slope [.val (slopeD r s)] = .ok .non [.no] := require_slope_ok
theorem way_at_exc (h : Sd r s) {d : D} (hd : m_is_from [.val d, .val (.int 0), .val (.int ((ways r s r s : Int) - 1))] = .ok (.bl false) [.no, .no, .no]) (hc : m_count_of_ways [.val (slopeD r s)] = .ok (.int (ways r s r s : Nat)) [.no]) : m_way_at [.val (slopeD r s), .val d] = .exc (.own 7 (some d)) [.no, .no] := by
  have rf : m_require_from [.val d, .val (.int 0), .val (.int ((ways r s r s : Int) - 1))] = .exc (.own 7 (some d)) [.no, .no, .no] := by
    simp -implicitDefEqProofs [m_require_from, hd]
  have st1 : (mExpr (mCall m_require_slope (mCons (mName 0) mNil))) [.val (slopeD r s), .val d, .no, .no, .no, .no, .no] = .ok .next [.val (slopeD r s), .val d, .no, .no, .no, .no, .no] := by
    simp -implicitDefEqProofs [require_slope_ok]
  have st2 : (mExpr (mCall m_require_from (mCons (mName 1) (mCons (mC (.int 0)) (mCons (mBin dSub (mCall m_count_of_ways (mCons (mName 0) mNil)) (mC (.int 1))) mNil))))) [.val (slopeD r s), .val d, .no, .no, .no, .no, .no] = .exc (.own 7 (some d)) [.val (slopeD r s), .val d, .no, .no, .no, .no, .no] := by
    simp -implicitDefEqProofs only [ev_expr, ev_call, ev_cons, ev_nil, ev_name, ev_C, ev_bin, List.getElem?_cons_succ, List.getElem?_cons_zero, name_val, bnd_ok, List.map_cons, List.map_nil, hc, callR_ok, dSub_int, ev_some, rf, callR_exc]
    rfl
  unfold m_way_at
  rw [ev_def]
  show endR _ ((mSeq _ _) [.val (slopeD r s), .val d, .no, .no, .no, .no, .no]) = _
  rw [ev_seq, st1, sq_next, ev_seq, st2]
  rfl
end
end K04
set_option Elab.async false
set_option linter.all false
set_option maxRecDepth 100000
set_option maxHeartbeats 4000000
namespace K04
theorem row_1 : chkRow 1 = true := by decide +kernel
theorem row_2 : chkRow 2 = true := by decide +kernel
theorem row_3 : chkRow 3 = true := by decide +kernel
theorem row_4 : chkRow 4 = true := by decide +kernel
theorem row_5 : chkRow 5 = true := by decide +kernel
theorem row_6 : chkRow 6 = true := by decide +kernel
theorem row_7 : chkRow 7 = true := by decide +kernel
theorem row_8 : chkRow 8 = true := by decide +kernel
theorem row_9 : chkRow 9 = true := by decide +kernel
theorem row_10 : chkRow 10 = true := by decide +kernel
theorem row_11 : chkRow 11 = true := by decide +kernel
theorem row_12 : chkRow 12 = true := by decide +kernel
theorem row_13 : chkRow 13 = true := by decide +kernel
theorem row_14 : chkRow 14 = true := by decide +kernel
theorem row_15 : chkRow 15 = true := by decide +kernel
theorem row_16 : chkRow 16 = true := by decide +kernel
theorem row_17 : chkRow 17 = true := by decide +kernel
theorem row_18 : chkRow 18 = true := by decide +kernel
theorem row_19 : chkRow 19 = true := by decide +kernel
theorem row_20 : chkRow 20 = true := by decide +kernel
theorem row_21 : chkRow 21 = true := by decide +kernel
theorem row_22 : chkRow 22 = true := by decide +kernel
theorem row_23 : chkRow 23 = true := by decide +kernel
theorem row_24 : chkRow 24 = true := by decide +kernel
theorem row_25 : chkRow 25 = true := by decide +kernel
theorem row_26 : chkRow 26 = true := by decide +kernel
theorem row_27 : chkRow 27 = true := by decide +kernel
theorem row_28 : chkRow 28 = true := by decide +kernel
theorem row_29 : chkRow 29 = true := by decide +kernel
theorem row_30 : chkRow 30 = true := by decide +kernel
theorem row_31 : chkRow 31 = true := by decide +kernel
theorem row_32 : chkRow 32 = true := by decide +kernel
theorem row_33 : chkRow 33 = true := by decide +kernel
theorem row_34 : chkRow 34 = true := by decide +kernel
theorem row_35 : chkRow 35 = true := by decide +kernel
theorem row_36 : chkRow 36 = true := by decide +kernel
theorem row_37 : chkRow 37 = true := by decide +kernel
theorem row_38 : chkRow 38 = true := by decide +kernel
theorem row_39 : chkRow 39 = true := by decide +kernel
theorem row_40 : chkRow 40 = true := by decide +kernel
theorem row_41 : chkRow 41 = true := by decide +kernel
theorem row_42 : chkRow 42 = true := by decide +kernel
theorem row_43 : chkRow 43 = true := by decide +kernel
theorem row_44 : chkRow 44 = true := by decide +kernel
theorem row_45 : chkRow 45 = true := by decide +kernel
theorem row_46 : chkRow 46 = true := by decide +kernel
theorem row_47 : chkRow 47 = true := by decide +kernel
theorem row_48 : chkRow 48 = true := by decide +kernel
theorem row_49 : chkRow 49 = true := by decide +kernel
theorem row_50 : chkRow 50 = true := by decide +kernel
theorem row_51 : chkRow 51 = true := by decide +kernel
theorem row_52 : chkRow 52 = true := by decide +kernel
theorem row_53 : chkRow 53 = true := by decide +kernel
theorem row_54 : chkRow 54 = true := by decide +kernel
theorem row_55 : chkRow 55 = true := by decide +kernel
theorem row_56 : chkRow 56 = true := by decide +kernel
theorem row_57 : chkRow 57 = true := by decide +kernel
theorem row_58 : chkRow 58 = true := by decide +kernel
theorem row_59 : chkRow 59 = true := by decide +kernel
theorem row_60 : chkRow 60 = true := by decide +kernel
theorem fit {a b : Nat} (h1 : 1 ≤ a) (h2 : a ≤ 60) (h3 : 1 ≤ b) (h4 : b ≤ 60) (hc : Nat.gcd a b = 1) : Fit a b (60 / max a b) := by
  have h : chkRow a = true := by
    match a, h1, h2 with
    | 1, _, _ => exact row_1
    | 2, _, _ => exact row_2
    | 3, _, _ => exact row_3
    | 4, _, _ => exact row_4
    | 5, _, _ => exact row_5
    | 6, _, _ => exact row_6
    | 7, _, _ => exact row_7
    | 8, _, _ => exact row_8
    | 9, _, _ => exact row_9
    | 10, _, _ => exact row_10
    | 11, _, _ => exact row_11
    | 12, _, _ => exact row_12
    | 13, _, _ => exact row_13
    | 14, _, _ => exact row_14
    | 15, _, _ => exact row_15
    | 16, _, _ => exact row_16
    | 17, _, _ => exact row_17
    | 18, _, _ => exact row_18
    | 19, _, _ => exact row_19
    | 20, _, _ => exact row_20
    | 21, _, _ => exact row_21
    | 22, _, _ => exact row_22
    | 23, _, _ => exact row_23
    | 24, _, _ => exact row_24
    | 25, _, _ => exact row_25
    | 26, _, _ => exact row_26
    | 27, _, _ => exact row_27
    | 28, _, _ => exact row_28
    | 29, _, _ => exact row_29
    | 30, _, _ => exact row_30
    | 31, _, _ => exact row_31
    | 32, _, _ => exact row_32
    | 33, _, _ => exact row_33
    | 34, _, _ => exact row_34
    | 35, _, _ => exact row_35
    | 36, _, _ => exact row_36
    | 37, _, _ => exact row_37
    | 38, _, _ => exact row_38
    | 39, _, _ => exact row_39
    | 40, _, _ => exact row_40
    | 41, _, _ => exact row_41
    | 42, _, _ => exact row_42
    | 43, _, _ => exact row_43
    | 44, _, _ => exact row_44
    | 45, _, _ => exact row_45
    | 46, _, _ => exact row_46
    | 47, _, _ => exact row_47
    | 48, _, _ => exact row_48
    | 49, _, _ => exact row_49
    | 50, _, _ => exact row_50
    | 51, _, _ => exact row_51
    | 52, _, _ => exact row_52
    | 53, _, _ => exact row_53
    | 54, _, _ => exact row_54
    | 55, _, _ => exact row_55
    | 56, _, _ => exact row_56
    | 57, _, _ => exact row_57
    | 58, _, _ => exact row_58
    | 59, _, _ => exact row_59
    | 60, _, _ => exact row_60
    | n + 61, _, h => omega
  unfold chkRow at h
  have := (List.all_eq_true.mp h) (b - 1) (List.mem_range.mpr (by omega))
  rw [show b - 1 + 1 = b by omega, hc] at this
  exact fit_of (by omega) this
end K04
set_option Elab.async false
set_option linter.all false
set_option maxRecDepth 100000
set_option maxHeartbeats 4000000
namespace K04
open PySem PySem.Spec PyProof.Rows L2 L2.DL
theorem sl2_of {a b : Nat} (ha : 1 ≤ a) (hb : 1 ≤ b) (ha2 : a ≤ 60) (hb2 : b ≤ 60) (hc : Nat.gcd a b = 1) : Sl2 a b (60 / max a b) := by
  have h : 60 / max a b * max a b ≤ 60 := Nat.div_mul_le_self _ _
  exact ⟨ha, hb, hc, fit ha ha2 hb hb2 hc, Nat.le_trans (Nat.mul_le_mul_left _ (Nat.le_max_left _ _)) h, Nat.le_trans (Nat.mul_le_mul_left _ (Nat.le_max_right _ _)) h⟩
theorem count_is {r s : Nat} (h : Sd r s) : m_count_of_ways [.val (slopeD r s)] = .ok (.int (ways r s r s : Nat)) [.no] := by
  have r1 := h.r1
  have s1 := h.s1
  have r2 := h.r2
  have s2 := h.s2
  obtain ⟨g, hg⟩ : ∃ g, g = Nat.gcd s r := ⟨_, rfl⟩
  have hgp : 0 < g := by rw [hg]; exact Nat.gcd_pos_of_pos_left _ (by omega)
  have gr : g ∣ r := by rw [hg]; exact Nat.gcd_dvd_right _ _
  have gs : g ∣ s := by rw [hg]; exact Nat.gcd_dvd_left _ _
  obtain ⟨a, rfl⟩ := gr
  obtain ⟨b, rfl⟩ := gs
  have ha : 1 ≤ a := by
    rcases Nat.eq_zero_or_pos a with h | h
    · subst h; simp at r1
    · exact h
  have hb : 1 ≤ b := by
    rcases Nat.eq_zero_or_pos b with h | h
    · subst h; simp at s1
    · exact h
  have cop' : Nat.gcd b a = 1 := by
    rw [Nat.gcd_mul_left] at hg
    have : g * 1 = g * Nat.gcd b a := by omega
    exact (Nat.eq_of_mul_eq_mul_left hgp this).symm
  have cop : Nat.gcd a b = 1 := by rw [Nat.gcd_comm]; exact cop'
  have a60 : a ≤ 60 := Nat.le_trans (Nat.le_mul_of_pos_left _ hgp) r2
  have b60 : b ≤ 60 := Nat.le_trans (Nat.le_mul_of_pos_left _ hgp) s2
  have S := sl2_of ha hb a60 b60 cop
  have gK : g ≤ 60 / max a b := by
    rw [Nat.le_div_iff_mul_le (Nat.lt_of_lt_of_le ha (Nat.le_max_left _ _))]
    rcases Nat.le_total a b with h | h
    · rw [Nat.max_eq_right h]; exact s2
    · rw [Nat.max_eq_left h]; exact r2
  have hway : ways (g * a) (g * b) (g * a) (g * b) = cnt a (a + b) (60 / max a b) g := by
    rw [ways_scale hgp]
    exact S.ft.e5 g hgp gK
  rw [hway]
  exact count_ok (c := g) S hgp gK
section
variable {r s : Nat}
theorem way_count_is (h : Sd r s) : m_way_count [.val (slopeD r s)] = .ok (.int (ways r s r s : Nat)) [.no] := by
  have c := count_is h
  simp -implicitDefEqProofs [m_way_count, require_slope_ok, c]
theorem is_way_ok (h : Sd r s) (w : Wy r s t) : m_is_way [.val (slopeD r s), .val (.str (S t))] = .ok (.bl true) [.no, .no] := by
  simp -implicitDefEqProofs [m_is_way, require_slope_ok, is_way_text_ok h w]
/-- one index asked -/
abbrev RB : MS := (mSeq (mSet 11 (mCall m_way_at (mCons (mName 4) (mCons (mName 10) mNil))))
  (mSeq (mIf (mOrT (mNotT (mTru (mCall m_is_way (mCons (mName 4) (mCons (mProp 1 m_Way_text (mName 11)) mNil))))) (mOrT (mTest (mBin dNe (mCall m_way_index (mCons (mName 11) mNil)) (mName 10))) (mTest (mBin dNe (mCall m__law_index (mCons (mName 5) (mCons (mName 2) (mCons (mName 3) (mCons (mProp 1 m_Way_text (mName 11)) mNil))))) (mName 10)))))
  (mRet (mC (.bl false)))
  M.next)
  (mIf (mAndT (mTest (mBin dLt (mBin dAdd (mName 10) (mC (.int 1))) (mName 7))) (mNotT (mTest (mBin (dOwn 1 m_Way_lt dLt) (mName 11) (mCall m_way_at (mCons (mName 4) (mCons (mBin dAdd (mName 10) (mC (.int 1))) mNil)))))))
  (mRet (mC (.bl false)))
  M.next)))
theorem rb_ok (h : Sd r s) {i : Nat} (hi : i < ways r s r s) {z : Cell} {p d6 d8 d9 : D} {q11 : Sl} (hq : Fr q11) :
    RB [.cell true z, .val p, .val (.int r), .val (.int s), .val (slopeD r s), .val (.lst (tabD r s (r + 1))), .val d6, .val (.int (ways r s r s : Nat)), .val d8, .val d9, .val (.int i), q11, .no]
      = .ok .next [.cell true z, .val p, .val (.int r), .val (.int s), .val (slopeD r s), .val (.lst (tabD r s (r + 1))), .val d6, .val (.int (ways r s r s : Nat)), .val d8, .val d9, .val (.int i), .val (wayD r s (atW r s (r + s) r s i)), .no] := by
  have rs : s * r ≤ r * s := Nat.le_of_eq (Nat.mul_comm s r)
  have c := count_is h
  have wa := way_at_ok h hi c
  obtain ⟨pt, ixe⟩ := at_spec (r + s) r s i rfl rs hi
  have w := wy_of pt
  have pt1 : ∀ {k : List Nat} {e : Ev}, propR 1 m_Way_text (wayD r s k) e = .ok (.str (S k)) e := fun {k e} => propR_obj way_text
  have wi := way_index_ok h w
  have li := law_index_ok w
  rw [ixe] at wi li
  have iw := is_way_ok h w
  have st1 : (mSet 11 (mCall m_way_at (mCons (mName 4) (mCons (mName 10) mNil)))) [.cell true z, .val p, .val (.int r), .val (.int s), .val (slopeD r s), .val (.lst (tabD r s (r + 1))), .val d6, .val (.int (ways r s r s : Nat)), .val d8, .val d9, .val (.int i), q11, .no]
      = .ok .next [.cell true z, .val p, .val (.int r), .val (.int s), .val (slopeD r s), .val (.lst (tabD r s (r + 1))), .val d6, .val (.int (ways r s r s : Nat)), .val d8, .val d9, .val (.int i), .val (wayD r s (atW r s (r + s) r s i)), .no] := by
    simp -implicitDefEqProofs only [ev_set, ev_call, ev_cons, ev_nil, ev_name, List.getElem?_cons_succ, List.getElem?_cons_zero, name_val, bnd_ok, List.map_cons, List.map_nil, wa, callR_ok, set_fr hq, updR_some, List.set_cons_succ, List.set_cons_zero]
  have st2 : (mIf (mOrT (mNotT (mTru (mCall m_is_way (mCons (mName 4) (mCons (mProp 1 m_Way_text (mName 11)) mNil))))) (mOrT (mTest (mBin dNe (mCall m_way_index (mCons (mName 11) mNil)) (mName 10))) (mTest (mBin dNe (mCall m__law_index (mCons (mName 5) (mCons (mName 2) (mCons (mName 3) (mCons (mProp 1 m_Way_text (mName 11)) mNil))))) (mName 10)))))
  (mRet (mC (.bl false)))
  M.next) [.cell true z, .val p, .val (.int r), .val (.int s), .val (slopeD r s), .val (.lst (tabD r s (r + 1))), .val d6, .val (.int (ways r s r s : Nat)), .val d8, .val d9, .val (.int i), .val (wayD r s (atW r s (r + s) r s i)), .no]
      = .ok .next [.cell true z, .val p, .val (.int r), .val (.int s), .val (slopeD r s), .val (.lst (tabD r s (r + 1))), .val d6, .val (.int (ways r s r s : Nat)), .val d8, .val d9, .val (.int i), .val (wayD r s (atW r s (r + s) r s i)), .no] := by
    simp -implicitDefEqProofs only [ev_if, ev_orT, ev_notT, ev_tru, ev_test, ev_bin, ev_call, ev_cons, ev_nil, ev_prop, ev_name, List.getElem?_cons_succ, List.getElem?_cons_zero, name_val, bnd_ok, pt1, List.map_cons, List.map_nil, iw, callR_ok, tru_bl, ev_some, Bool.not_true, Bool.false_eq_true, if_false, wi, dNe_int, decide_true, isB_bl, li, ev_next]
  rw [show RB = mSeq _ _ from rfl, ev_seq, st1, sq_next, ev_seq, st2, sq_next]
  have i1 : (i : Int) + 1 = ((i + 1 : Nat) : Int) := by omega
  by_cases hn : i + 1 < ways r s r s
  · have c0 : decide (((i + 1 : Nat) : Int) < (ways r s r s : Int)) = true := by simp only [decide_eq_true_eq]; omega
    have wa2 := way_at_ok h hn c
    have w2 := wy_of (at_spec (r + s) r s (i + 1) rfl rs hn).1
    have lt : decide (atW r s (r + s) r s i < atW r s (r + s) r s (i + 1)) = true := decide_eq_true (at_lt (r + s) r s i (i + 1) rfl rs (by omega) hn)
    have ol := op_way_lt (r := r) (s := s) w.lt w2.lt
    rw [lt] at ol
    simp -implicitDefEqProofs only [ev_if, ev_andT, ev_test, ev_notT, ev_bin, ev_name, ev_C, List.getElem?_cons_succ, List.getElem?_cons_zero, name_val, bnd_ok, dAdd_int, i1, ev_some, dLt_int, c0, isB_bl, if_true, ev_call, ev_cons, ev_nil, List.map_cons, List.map_nil, wa2, callR_ok, ol, Bool.not_true, Bool.false_eq_true, if_false, ev_next]
  · have c0 : decide (((i + 1 : Nat) : Int) < (ways r s r s : Int)) = false := by simp only [decide_eq_false_iff_not]; omega
    simp -implicitDefEqProofs only [ev_if, ev_andT, ev_test, ev_bin, ev_name, ev_C, List.getElem?_cons_succ, List.getElem?_cons_zero, name_val, bnd_ok, dAdd_int, i1, ev_some, dLt_int, c0, isB_bl, Bool.false_eq_true, if_false, ev_next]
theorem rb_loop (h : Sd r s) {z : Cell} {p d6 d8 d9 : D} : ∀ (is : List Nat) (q10 q11 : Sl), (∀ i ∈ is, i < ways r s r s) → Fr q10 → Fr q11 →
    ∃ q10' q11', forL (gSet 10) RB (is.map fun i => .int (i : Nat)) [.cell true z, .val p, .val (.int r), .val (.int s), .val (slopeD r s), .val (.lst (tabD r s (r + 1))), .val d6, .val (.int (ways r s r s : Nat)), .val d8, .val d9, q10, q11, .no]
      = .ok .next [.cell true z, .val p, .val (.int r), .val (.int s), .val (slopeD r s), .val (.lst (tabD r s (r + 1))), .val d6, .val (.int (ways r s r s : Nat)), .val d8, .val d9, q10', q11', .no]
  | [], q10, q11, _, _, _ => ⟨q10, q11, rfl⟩
  | i :: is, q10, q11, hi, h10, h11 => by
    obtain ⟨a, b, e⟩ := rb_loop h (z := z) (p := p) (d6 := d6) (d8 := d8) (d9 := d9) is (.val (.int i)) (.val (wayD r s (atW r s (r + s) r s i))) (fun j hj => hi j (List.mem_cons_of_mem _ hj)) fr_val fr_val
    refine ⟨a, b, ?_⟩
    rw [List.map_cons, forL_next (e1 := [.cell true z, .val p, .val (.int r), .val (.int s), .val (slopeD r s), .val (.lst (tabD r s (r + 1))), .val d6, .val (.int (ways r s r s : Nat)), .val d8, .val d9, .val (.int i), q11, .no]) ?_ (rb_ok h (hi i List.mem_cons_self) h11), e]
    simp only [ev_gSet, List.getElem?_cons_succ, List.getElem?_cons_zero, set_fr h10, List.set_cons_succ, List.set_cons_zero]
/-! what is no index, told -/
theorem repr_len {d : D} {p : PyData} (h : toPy d = some p) (hc : canShow p = true) (hl : plen p ≤ 1000000) : ∃ x : Str, fRepr [d] = some (.str x) ∧ x.length ≤ 1000000 := by
  refine ⟨p.shown, ?_, ?_⟩
  · show dRepr d = _
    unfold dRepr
    rw [h, Option.bind_some, if_pos hc]
  · unfold canShow at hc
    simp only [Bool.and_eq_true, Bool.not_eq_true', decide_eq_true_eq] at hc
    obtain ⟨⟨⟨c1, c2⟩, c3⟩, c4⟩ := hc
    exact Nat.le_trans (plen_ok p c1 c2 c4) hl
theorem repr_int {n : Int} (h : n.natAbs < 2 ^ 200) : ∃ x : Str, fRepr [.int n] = some (.str x) ∧ x.length ≤ 1000000 := by
  refine repr_len (p := .int n) rfl ?_ (by simp [plen])
  have := log_small (a := n) h (by decide)
  unfold canShow
  have h1 : decide (n.natAbs.log2 < 1920) = true := decide_eq_true (by omega)
  simp only [PyData.showable, PyData.hasDict, PyData.depth, plen, h1]
  rfl
theorem lam_ok (h : Sd r s) {d : D} {x : Str} (hx : fRepr [d] = some (.str x)) (hl : x.length ≤ 1000000) (hd : m_is_from [.val d, .val (.int 0), .val (.int ((ways r s r s : Int) - 1))] = .ok (.bl false) [.no, .no, .no]) {e : Ev} (h4 : e[4]? = some (.val (slopeD r s))) (h12 : e[12]? = some (.val d)) :
    (mBin dEq (mLam (some (.str "")) cs__law_first_fault (mCall m_way_at (mCons (mName 4) (mCons (mName 12) mNil)))) (mBin dAdd (mC (.str "number ")) (mFn fRepr (mCons (mName 12) mNil)))) e = .ok (.bl true) e := by
  have wx := way_at_exc h hd (count_is h)
  have c1 : (mCall m_way_at (mCons (mName 4) (mCons (mName 12) mNil))) e = .exc (.own 7 (some d)) e := by
    simp -implicitDefEqProofs only [ev_call, ev_cons, ev_nil, ev_name, h4, h12, name_val, bnd_ok, List.map_cons, List.map_nil, wx, callR_exc]
  have ad : dAdd (.str (Str.ofString "number ")) (.str x) = some (.str (Str.ofString "number " ++ x)) := by
    rw [dAdd_str, if_pos]
    have : (Str.ofString "number ").length = 7 := by decide +kernel
    omega
  have c2 : (mLam (some (.str "")) cs__law_first_fault (mCall m_way_at (mCons (mName 4) (mCons (mName 12) mNil)))) e = .ok (.str (Str.ofString "number " ++ x)) e := by
    show lamR _ _ (_ : Res D) = _
    rw [c1]
    show lamGo 7 (some d) e cs__law_first_fault = _
    unfold cs__law_first_fault lamGo
    simp [List.lookup, hx, ad]
  have c3 : (mBin dAdd (mC (.str "number ")) (mFn fRepr (mCons (mName 12) mNil))) e = .ok (.str (Str.ofString "number " ++ x)) e := by
    simp -implicitDefEqProofs only [ev_bin, ev_C, bnd_ok, ev_fn, ev_cons, ev_nil, ev_name, h12, name_val, hx, ev_some, ad]
  rw [ev_bin, c2, bnd_ok, c3, bnd_ok, dEq_str]
  simp
theorem wrong_ok (h : Sd r s) {d : D} (hd : d ∈ [.int (-1), .int (ways r s r s : Nat), .int ((ways r s r s : Int) + 1), .non, .bl false, .str "1", .lst [.int 0]]) :
    (∃ x : Str, fRepr [d] = some (.str x) ∧ x.length ≤ 1000000) ∧ m_is_from [.val d, .val (.int 0), .val (.int ((ways r s r s : Int) - 1))] = .ok (.bl false) [.no, .no, .no] := by
  have sm : (ways r s r s : Int) ≤ 2 ^ 120 := by
    have := h.r2
    have := h.s2
    have h1 := ways_le r s r s
    have h2 : 2 ^ (r + s) ≤ 2 ^ 120 := Nat.pow_le_pow_right (by decide) (by omega)
    omega
  simp only [List.mem_cons, List.not_mem_nil, or_false] at hd
  rcases hd with rfl | rfl | rfl | rfl | rfl | rfl | rfl
  · exact ⟨repr_int (by decide), by simp -implicitDefEqProofs [m_is_from, is_integer_ok (v := -1) (by unfold Sm; omega)]⟩
  · refine ⟨repr_int (by omega), ?_⟩
    have c1 : decide ((0 : Int) ≤ (ways r s r s : Int)) = true := by simp
    have c2 : decide ((ways r s r s : Int) ≤ (ways r s r s : Int) - 1) = false := by simp only [decide_eq_false_iff_not]; omega
    simp -implicitDefEqProofs [m_is_from, is_integer_ok (v := (ways r s r s : Int)) (by unfold Sm; omega)]
    omega
  · refine ⟨repr_int (by omega), ?_⟩
    simp -implicitDefEqProofs [m_is_from, is_integer_ok (v := (ways r s r s : Int) + 1) (by unfold Sm; omega)]
    omega
  · exact ⟨repr_len (p := .none) rfl (by decide +kernel) (by decide), by simp -implicitDefEqProofs [m_is_from, m_is_integer, D.tg, isiT, List.lookup]⟩
  · exact ⟨repr_len (p := .bool false) rfl (by decide +kernel) (by decide), by simp -implicitDefEqProofs [m_is_from, m_is_integer, D.tg, isiT, List.lookup]⟩
  · exact ⟨repr_len (p := .str "1") rfl (by decide +kernel) (by decide +kernel), by simp -implicitDefEqProofs [m_is_from, m_is_integer, D.tg, isiT, List.lookup]⟩
  · exact ⟨repr_len (p := .list [.int 0]) rfl (by decide +kernel) (by decide), by simp -implicitDefEqProofs [m_is_from, m_is_integer, D.tg, isiT, List.lookup]⟩
end
end K04
set_option Elab.async false
set_option linter.all false
set_option maxRecDepth 100000
set_option maxHeartbeats 4000000
namespace K04
open PySem PySem.Spec PyProof.Rows L2 L2.DL
theorem low_is {r s : Nat} : atW r s (r + s) r s (ways r s r s - 1) = lo r s := at_last (r + s) r s rfl (Nat.le_of_eq (Nat.mul_comm s r))
theorem right_ok {z : Cell} {m : Int} (hd0 : Dice m z) (hm : m < 700000) : ∃ z', m__law_right [.cell true z] = .ok (.bl true) [.cell true z'] ∧ Dice (m + 200) z' := by
  obtain ⟨t, z1, e1, ht, d1⟩ := pick_ok (xs := [.int 4, .int 15, .int 60]) hd0 (by omega) (by decide) (by decide)
  obtain ⟨t, rfl, t1, t2⟩ : ∃ t' : Int, t = .int t' ∧ 1 ≤ t' ∧ t' ≤ 60 := by
    simp only [List.mem_cons, List.not_mem_nil, or_false] at ht
    rcases ht with rfl | rfl | rfl <;> exact ⟨_, rfl, by omega, by omega⟩
  obtain ⟨r, s, z2, e2, r1, r2, s1, s2, d2⟩ := any_slope_ok (t := t) d1 (by omega) t1 t2
  have h : Sd r s := ⟨r1, r2, s1, s2⟩
  obtain ⟨l, z3, e3, w, d3⟩ := law_way_ok h d2 (by omega)
  have rs : s * r ≤ r * s := Nat.le_of_eq (Nat.mul_comm s r)
  have wp := ways_pos (r := r) (s := s) (r + s) r s rfl rs
  have wsm := ways_sm h
  obtain ⟨_, ixl, ata⟩ := ix_spec l r s rs (pt_wy w)
  generalize hix : ixW r s l r s = ix at ixl ata
  have wl : (ways r s r s : Int).natAbs.log2 < 9000 := Nat.lt_trans (log_small (n := 400) (by omega) (by decide)) (by decide)
  obtain ⟨j, z4, e4, j0, j1, d4⟩ := roll_big (t := (ways r s r s : Int)) d3 (by omega) (by omega) wl
  obtain ⟨j, rfl⟩ := Int.eq_ofNat_of_zero_le j0
  have mk := fun e => make_ok r1 r2 s1 s2 e
  have mkw := fun e => way_make h w e
  have en := ends_ok (r := r) (s := s) r2 s2
  obtain ⟨g1, g2⟩ := ends_get (r := r) (s := s) (l := r) (m := s) (Nat.le_refl _) (Nat.le_refl _)
  have cw := way_count_is h
  have c := count_is h
  have wi := way_index_ok h w
  have li := law_index_ok w
  rw [hix] at wi li
  have wa := way_at_ok h ixl c
  rw [ata] at wa
  have wa0 := way_at_ok h (i := 0) (by omega) c
  have hi0 : atW r s (r + s) r s 0 = hi r s := at_zero (r + s) r s rfl rs
  rw [hi0] at wa0
  have waL := way_at_ok h (i := ways r s r s - 1) (by omega) c
  rw [low_is] at waL
  have hw := hi_way (r := r) (s := s) r1 s1
  have lw := (lo_spec (r := r) (s := s) r1 s1).1
  have hok := highest_ok h
  have lok := lowest_ok h
  have ne : ∀ k : List Nat, Lt2 k → dOwnNe 1 m_Way_eq dNe (wayD r s k) (wayD r s k) = some (.bl false) := fun k hk => by
    have := op_way_ne (r := r) (s := s) hk hk
    rw [this]
    simp
  have nw := ne l w.lt
  have nh := ne _ hw.lt
  have nl := ne _ lw.lt
  have st1 : (mSet 1 (mCallL m__law_any_slope 0 (mCons (mCallL m__law_pick 0 (mCons (mFrz (mLst (mCons (mC (.int 4)) (mCons (mC (.int 15)) (mCons (mC (.int 60)) mNil))))) mNil)) mNil))) [.cell true z, .no, .no, .no, .no, .no, .no, .no, .no, .no, .no, .no, .no]
     = .ok .next [.cell true z2, .val (.tup [.int r, .int s]), .no, .no, .no, .no, .no, .no, .no, .no, .no, .no, .no] := by
    simp -implicitDefEqProofs [e1, e2]
  have ix0 : dIx (.tup [.int (r : Nat), .int (s : Nat)]) (.int 0) = some (.int (r : Nat)) := rfl
  have ix1 : dIx (.tup [.int (r : Nat), .int (s : Nat)]) (.int 1) = some (.int (s : Nat)) := rfl
  have st2 : (mPar [2, 3] (pvCons (mInl (mBin dIx (mName 1) (mC (.int 0)))) (pvCons (mInl (mBin dIx (mName 1) (mC (.int 1)))) pvNil))) [.cell true z2, .val (.tup [.int r, .int s]), .no, .no, .no, .no, .no, .no, .no, .no, .no, .no, .no]
     = .ok .next [.cell true z2, .val (.tup [.int r, .int s]), .val (.int r), .val (.int s), .no, .no, .no, .no, .no, .no, .no, .no, .no] := by
    simp -implicitDefEqProofs only [ev_par, ev_pvCons, ev_pvNil, ev_inl, ev_bin, ev_name, ev_C, List.getElem?_cons_succ, List.getElem?_cons_zero, name_val, bnd_ok, ix0, ix1, ev_some, pvs_cons, pv_inl, setR_no, pvsR_some, pvs_nil, updR_some, List.set_cons_succ, List.set_cons_zero]
  have st3 : (mPar [4, 5, 6] (pvCons (mInl (mMake 0 m_Slope_init (mCons (mName 2) (mCons (mName 3) mNil)))) (pvCons (mInl (mCall m__law_ends (mCons (mName 2) (mCons (mName 3) mNil)))) (pvCons (mInl (mCallL m__law_way 0 (mCons (mName 2) (mCons (mName 3) mNil)))) pvNil)))) [.cell true z2, .val (.tup [.int r, .int s]), .val (.int r), .val (.int s), .no, .no, .no, .no, .no, .no, .no, .no, .no]
     = .ok .next [.cell true z3, .val (.tup [.int r, .int s]), .val (.int r), .val (.int s), .val (slopeD r s), .val (.lst (tabD r s (r + 1))), .val (.str (S l)), .no, .no, .no, .no, .no, .no] := by
    simp -implicitDefEqProofs only [ev_par, ev_pvCons, ev_pvNil, ev_inl, ev_make, ev_call, ev_callL, lentG_cell, lentF_cell, ev_cons, ev_nil, ev_name, List.getElem?_cons_succ, List.getElem?_cons_zero, name_val, bnd_ok, List.map_cons, List.map_nil, mk, en, callR_ok, e3, lentR_ok, pvs_cons, pv_inl, setR_no, pvsR_some, pvs_nil, updR_some, List.set_cons_succ, List.set_cons_zero]
  have st4 : (mPar [7, 8] (pvCons (mInl (mBin dIx (mBin dIx (mName 5) (mName 2)) (mName 3))) (pvCons (mInl (mMake 1 m_Way_init (mCons (mName 4) (mCons (mName 6) mNil)))) pvNil))) [.cell true z3, .val (.tup [.int r, .int s]), .val (.int r), .val (.int s), .val (slopeD r s), .val (.lst (tabD r s (r + 1))), .val (.str (S l)), .no, .no, .no, .no, .no, .no]
     = .ok .next [.cell true z3, .val (.tup [.int r, .int s]), .val (.int r), .val (.int s), .val (slopeD r s), .val (.lst (tabD r s (r + 1))), .val (.str (S l)), .val (.int (ways r s r s : Nat)), .val (wayD r s l), .no, .no, .no, .no] := by
    unfold natD at g2
    simp -implicitDefEqProofs only [ev_par, ev_pvCons, ev_pvNil, ev_inl, ev_bin, ev_make, ev_cons, ev_nil, ev_name, List.getElem?_cons_succ, List.getElem?_cons_zero, name_val, bnd_ok, List.map_cons, List.map_nil, g1, g2, ev_some, mkw, pvs_cons, pv_inl, setR_no, pvsR_some, pvs_nil, updR_some, List.set_cons_succ, List.set_cons_zero]
  have st5 : (mSet 9 (mCall m__law_index (mCons (mName 5) (mCons (mName 2) (mCons (mName 3) (mCons (mName 6) mNil)))))) [.cell true z3, .val (.tup [.int r, .int s]), .val (.int r), .val (.int s), .val (slopeD r s), .val (.lst (tabD r s (r + 1))), .val (.str (S l)), .val (.int (ways r s r s : Nat)), .val (wayD r s l), .no, .no, .no, .no]
     = .ok .next [.cell true z3, .val (.tup [.int r, .int s]), .val (.int r), .val (.int s), .val (slopeD r s), .val (.lst (tabD r s (r + 1))), .val (.str (S l)), .val (.int (ways r s r s : Nat)), .val (wayD r s l), .val (.int ix), .no, .no, .no] := by
    simp -implicitDefEqProofs only [ev_set, ev_call, ev_cons, ev_nil, ev_name, List.getElem?_cons_succ, List.getElem?_cons_zero, name_val, bnd_ok, List.map_cons, List.map_nil, li, callR_ok, setR_no, updR_some, List.set_cons_succ, List.set_cons_zero]
  have st6 : (mIf (mOrT (mTest (mBin dNe (mCall m_way_count (mCons (mName 4) mNil)) (mName 7))) (mOrT (mTest (mBin dNe (mCall m_way_index (mCons (mName 8) mNil)) (mName 9))) (mTest (mBin (dOwnNe 1 m_Way_eq dNe) (mCall m_way_at (mCons (mName 4) (mCons (mName 9) mNil))) (mName 8)))))
  (mRet (mC (.bl false)))
  M.next) [.cell true z3, .val (.tup [.int r, .int s]), .val (.int r), .val (.int s), .val (slopeD r s), .val (.lst (tabD r s (r + 1))), .val (.str (S l)), .val (.int (ways r s r s : Nat)), .val (wayD r s l), .val (.int ix), .no, .no, .no]
     = .ok .next [.cell true z3, .val (.tup [.int r, .int s]), .val (.int r), .val (.int s), .val (slopeD r s), .val (.lst (tabD r s (r + 1))), .val (.str (S l)), .val (.int (ways r s r s : Nat)), .val (wayD r s l), .val (.int ix), .no, .no, .no] := by
    simp -implicitDefEqProofs only [ev_if, ev_orT, ev_test, ev_bin, ev_call, ev_cons, ev_nil, ev_name, List.getElem?_cons_succ, List.getElem?_cons_zero, name_val, bnd_ok, List.map_cons, List.map_nil, cw, callR_ok, dNe_int, decide_true, Bool.not_true, ev_some, isB_bl, Bool.false_eq_true, if_false, wi, wa, nw, ev_next]
  have zc : way_at_ok h (i := 0) (by omega) c = way_at_ok h (i := 0) (by omega) c := rfl
  have wa0' : m_way_at [.val (slopeD r s), .val (.int 0)] = .ok (wayD r s (hi r s)) [.no, .no] := wa0
  have sb : (ways r s r s : Int) - 1 = ((ways r s r s - 1 : Nat) : Int) := by omega
  have st7 : (mIf (mOrT (mTest (mBin (dOwnNe 1 m_Way_eq dNe) (mCall m_way_at (mCons (mName 4) (mCons (mC (.int 0)) mNil))) (mCall m_highest (mCons (mName 4) mNil)))) (mTest (mBin (dOwnNe 1 m_Way_eq dNe) (mCall m_way_at (mCons (mName 4) (mCons (mBin dSub (mName 7) (mC (.int 1))) mNil))) (mCall m_lowest (mCons (mName 4) mNil)))))
  (mRet (mC (.bl false)))
  M.next) [.cell true z3, .val (.tup [.int r, .int s]), .val (.int r), .val (.int s), .val (slopeD r s), .val (.lst (tabD r s (r + 1))), .val (.str (S l)), .val (.int (ways r s r s : Nat)), .val (wayD r s l), .val (.int ix), .no, .no, .no]
     = .ok .next [.cell true z3, .val (.tup [.int r, .int s]), .val (.int r), .val (.int s), .val (slopeD r s), .val (.lst (tabD r s (r + 1))), .val (.str (S l)), .val (.int (ways r s r s : Nat)), .val (wayD r s l), .val (.int ix), .no, .no, .no] := by
    simp -implicitDefEqProofs only [ev_if, ev_orT, ev_test, ev_bin, ev_call, ev_cons, ev_nil, ev_name, ev_C, List.getElem?_cons_succ, List.getElem?_cons_zero, name_val, bnd_ok, List.map_cons, List.map_nil, wa0', hok, callR_ok, nh, ev_some, isB_bl, Bool.false_eq_true, if_false, dSub_int, sb, waL, lok, nl, ev_next]
  obtain ⟨i3, hi3, hi3b⟩ : ∃ i : Nat, (if (ways r s r s : Int) - 1 < 1 then (ways r s r s : Int) - 1 else 1) = (i : Int) ∧ i < ways r s r s := by
    by_cases hh : (ways r s r s : Int) - 1 < 1
    · exact ⟨ways r s r s - 1, by rw [if_pos hh]; omega, by omega⟩
    · exact ⟨1, by rw [if_neg hh]; rfl, by omega⟩
  obtain ⟨i4, hi4, hi4b⟩ : ∃ i : Nat, (if (ways r s r s : Int) - 2 > 0 then (ways r s r s : Int) - 2 else 0) = (i : Int) ∧ i < ways r s r s := by
    by_cases hh : (ways r s r s : Int) - 2 > 0
    · exact ⟨ways r s r s - 2, by rw [if_pos hh]; omega, by omega⟩
    · exact ⟨0, by rw [if_neg hh]; rfl, by omega⟩
  have it : (mIter (mTup (mCons (mName 9) (mCons (mCallL m__law_roll 0 (mCons (mName 7) mNil)) (mCons (mFn fMin (mCons (mC (.int 1)) (mCons (mBin dSub (mName 7) (mC (.int 1))) mNil))) (mCons (mFn fMax (mCons (mC (.int 0)) (mCons (mBin dSub (mName 7) (mC (.int 2))) mNil))) mNil)))))) [.cell true z3, .val (.tup [.int r, .int s]), .val (.int r), .val (.int s), .val (slopeD r s), .val (.lst (tabD r s (r + 1))), .val (.str (S l)), .val (.int (ways r s r s : Nat)), .val (wayD r s l), .val (.int ix), .no, .no, .no]
     = .ok (([ix, j, i3, i4] : List Nat).map fun i => .int (i : Nat)) [.cell true z4, .val (.tup [.int r, .int s]), .val (.int r), .val (.int s), .val (slopeD r s), .val (.lst (tabD r s (r + 1))), .val (.str (S l)), .val (.int (ways r s r s : Nat)), .val (wayD r s l), .val (.int ix), .no, .no, .no] := by
    simp -implicitDefEqProofs only [ev_iter, ev_tup, ev_cons, ev_nil, ev_name, List.getElem?_cons_succ, List.getElem?_cons_zero, name_val, bnd_ok, ev_callL, lentG_cell, lentF_cell, List.map_cons, List.map_nil, e4, lentR_ok, List.set_cons_zero, ev_fn, ev_C, ev_bin, dSub_int, ev_some, fMin_int, fMax_int, hi3, hi4, List.length_cons, List.length_nil, show (0 + 1 + 1 + 1 + 1 ≤ 16777216) = True from by decide, if_true, its_tup]
  obtain ⟨q10, q11, lp⟩ := rb_loop h (z := z4) (p := .tup [.int r, .int s]) (d6 := .str (S l)) (d8 := wayD r s l) (d9 := .int ix) [ix, j, i3, i4] .no .no (fun i hi => by
    simp only [List.mem_cons, List.not_mem_nil, or_false] at hi
    rcases hi with rfl | rfl | rfl | rfl <;> omega) fr_no fr_no
  obtain ⟨d, z5, e5, hd, d5⟩ := pick_ok (xs := [.int (-1), .int (ways r s r s : Nat), .int ((ways r s r s : Int) + 1), .non, .bl false, .str "1", .lst [.int 0]]) d4 (by omega) (by simp) (by simp)
  obtain ⟨⟨x, hx, hxl⟩, hfrom⟩ := wrong_ok h hd
  have st8 : (mSet 12 (mCallL m__law_pick 0 (mCons (mFrz (mLst (mCons (mUn dNeg (mC (.int 1))) (mCons (mName 7) (mCons (mBin dAdd (mName 7) (mC (.int 1))) (mCons (mC .non) (mCons (mC (.bl false)) (mCons (mC (.str "1")) (mCons (mFrz (mLst (mCons (mC (.int 0)) mNil))) mNil))))))))) mNil))) [.cell true z4, .val (.tup [.int r, .int s]), .val (.int r), .val (.int s), .val (slopeD r s), .val (.lst (tabD r s (r + 1))), .val (.str (S l)), .val (.int (ways r s r s : Nat)), .val (wayD r s l), .val (.int ix), q10, q11, .no]
     = .ok .next [.cell true z5, .val (.tup [.int r, .int s]), .val (.int r), .val (.int s), .val (slopeD r s), .val (.lst (tabD r s (r + 1))), .val (.str (S l)), .val (.int (ways r s r s : Nat)), .val (wayD r s l), .val (.int ix), q10, q11, .val d] := by
    simp -implicitDefEqProofs only [ev_set, ev_callL, lentG_cell, lentF_cell, ev_cons, ev_nil, ev_frz, ev_lst, ev_un, ev_C, ev_name, ev_bin, List.getElem?_cons_succ, List.getElem?_cons_zero, name_val, bnd_ok, dNeg_int, dAdd_int, ev_some, List.length_cons, List.length_nil, Nat.reduceAdd, show (1 ≤ 16777216) = True from by decide, show (7 ≤ 16777216) = True from by decide, if_true, frz_lst, List.map_cons, List.map_nil, e5, lentR_ok, List.set_cons_zero, setR_no, updR_some, List.set_cons_succ]
  have st9 := lam_ok h hx hxl hfrom (e := [.cell true z5, .val (.tup [.int r, .int s]), .val (.int r), .val (.int s), .val (slopeD r s), .val (.lst (tabD r s (r + 1))), .val (.str (S l)), .val (.int (ways r s r s : Nat)), .val (wayD r s l), .val (.int ix), q10, q11, .val d]) rfl rfl
  refine ⟨z5, ?_, d5.mono (by omega)⟩
  unfold m__law_right
  rw [ev_def]
  show endR _ ((mSeq _ _) [.cell true z, .no, .no, .no, .no, .no, .no, .no, .no, .no, .no, .no, .no]) = _
  rw [ev_seq, st1, sq_next, ev_seq, st2, sq_next, ev_seq, st3, sq_next, ev_seq, st4, sq_next, ev_seq, st5, sq_next, ev_seq, st6, sq_next, ev_seq, st7, sq_next, ev_seq, ev_for, it, bnd_ok]
  rw [show forL (gSet 10) _ (([ix, j, i3, i4] : List Nat).map fun i => D.int (i : Nat)) _ = _ from lp, sq_next, ev_seq, st8, sq_next, ev_mret, st9]
  rfl
/-! the law -/
abbrev iB : MS := (mIf (mNotT (mTru (mCallL m__law_right 2 mNil)))
  (mRet (mC (.bl false)))
  M.next)
theorem iL {p q : Sl} : ∀ (n : Nat) (ds : List D) (z : Cell) (m : Int) (q3 : Sl), ds.length = n → Dice m z → m + 200 * n < 600000 → Fr q3 →
    ∃ z' q', forL (gSet 3) iB ds [p, q, .cell false z, q3] = .ok .next [p, q, .cell false z', q'] ∧ Fr q' := by
  intro n
  induction n with
  | zero =>
    intro ds z m q3 hl hd hm f3
    have : ds = [] := List.eq_nil_of_length_eq_zero hl
    subst this
    exact ⟨z, q3, (by simp), f3⟩
  | succ n ih =>
    intro ds z m q3 hl hd hm f3
    obtain ⟨d, ds, rfl⟩ : ∃ d e, ds = d :: e := by
      cases ds with
      | nil => cases hl
      | cons d e => exact ⟨d, e, rfl⟩
    obtain ⟨z', e1, d1⟩ := right_ok hd (by omega)
    obtain ⟨z2, q', e2, f⟩ := ih ds z' (m + 200) (.val d) (by simpa using hl) d1 (by omega) fr_val
    refine ⟨z2, q', ?_, f⟩
    rw [forL_next (e1 := [p, q, .cell false z, .val d]) (e2 := [p, q, .cell false z', .val d]) ?_ ?_]
    · exact e2
    · simp only [ev_gSet, List.getElem?_cons_succ, List.getElem?_cons_zero, set_fr f3, List.set_cons_succ, List.set_cons_zero]
    · simp -implicitDefEqProofs only [ev_if, ev_notT, ev_tru, ev_callL, lentG_cell, lentF_cell, ev_cons, ev_nil, List.getElem?_cons_succ, List.getElem?_cons_zero, bnd_ok, List.map_nil, e1, lentR_ok, List.set_cons_succ, List.set_cons_zero, tru_bl, ev_some, Bool.not_true, Bool.false_eq_true, if_false, ev_next]
abbrev oB : MS := (mSeq (mSetO 2 (mCallO m__law_dice (mCons (mName 0) (mCons (mName 1) mNil))))
  (mFor (mRange (mCons (mC (.int 2)) mNil)) (gSet 3) iB))
theorem oL {ns : List Int} : ∀ (is : List Nat) (q1 q2 q3 : Sl), (∀ i ∈ is, i < 64) → Fr q1 → (Fr q2 ∨ ∃ z, q2 = .cell false z) → Fr q3 → ∃ a b c, forL (gSet 1) oB (is.map fun i => .int (i : Nat)) [.val (.ro (ns.map .int)), q1, q2, q3] = .ok .next [.val (.ro (ns.map .int)), a, b, c] := by
  intro is
  induction is with
  | nil => intro q1 q2 q3 _ _ _ _; exact ⟨q1, q2, q3, by simp⟩
  | cons i is ih =>
    intro q1 q2 q3 hi f1 f2 f3
    obtain ⟨z, e0, e1, d1⟩ := dice_ok (ns := ns) (hi i List.mem_cons_self)
    obtain ⟨z2, q', e2, f⟩ := iL (p := .val (.ro (ns.map .int))) (q := .val (.int i)) 2 [.int 0, .int 1] z 0 q3 rfl (d1.mono (by omega)) (by omega) f3
    obtain ⟨a, b, c, e3⟩ := ih (.val (.int i)) (.cell false z2) q' (fun j hj => hi j (List.mem_cons_of_mem _ hj)) fr_val (.inr ⟨z2, rfl⟩) f
    have hr3 : fRange [.int 2] = some [.int 0, .int 1] := fRange_n (n := 2) (by omega)
    have s2 : ∀ e : Ev, setR (some q2) 2 (.cell false z) e = some (e.set 2 (.cell false z)) := fun e => by
      rcases f2 with f2 | ⟨y, rfl⟩
      · exact set_fr f2
      · rfl
    refine ⟨a, b, c, ?_⟩
    rw [List.map_cons, forL_next (e1 := [.val (.ro (ns.map .int)), .val (.int i), q2, q3]) (e2 := [.val (.ro (ns.map .int)), .val (.int i), .cell false z2, q']) ?_ ?_]
    · exact e3
    · simp only [ev_gSet, List.getElem?_cons_succ, List.getElem?_cons_zero, set_fr f1, List.set_cons_succ, List.set_cons_zero]
    · simp -implicitDefEqProofs only [ev_seq, ev_setO, ev_callO, ev_cons, ev_nil, ev_name, List.getElem?_cons_succ, List.getElem?_cons_zero, name_val, bnd_ok, e1, callOR_ok, s2, updR_some, sq_next, List.set_cons_succ, List.set_cons_zero, ev_for, ev_range, ev_C, hr3, ev_some, e2]
theorem t34 : atW 3 4 7 3 4 3 = [114, 115, 114, 114, 115, 115, 115] := by decide +kernel
theorem w34 : ways 3 4 3 4 = 5 := by decide +kernel
theorem t24 : atW 2 4 6 2 4 2 = [114, 115, 115, 114, 115, 115] := by decide +kernel
theorem w24 : ways 2 4 2 4 = 3 := by decide +kernel
theorem str1 : Str.ofString "rsrrsss" = S [114, 115, 114, 114, 115, 115, 115] := by decide +kernel
theorem str2 : Str.ofString "rssrss" = S [114, 115, 115, 114, 115, 115] := by decide +kernel
theorem good : Good m_law := by
  intro ns hl
  obtain ⟨n, hn, hn2⟩ : ∃ n : Nat, n < 64 ∧ (if (if (ns.length : Int) < 4 then (ns.length : Int) else 4) > 1 then (if (ns.length : Int) < 4 then (ns.length : Int) else 4) else 1) = n := by
    by_cases h : ns.length < 4
    · rw [if_pos (show (ns.length : Int) < 4 by omega)]
      by_cases h2 : ns.length > 1
      · exact ⟨ns.length, by omega, if_pos (by omega)⟩
      · exact ⟨1, by omega, if_neg (by omega)⟩
    · rw [if_neg (show ¬ (ns.length : Int) < 4 by omega)]
      exact ⟨4, by omega, rfl⟩
  obtain ⟨a1, a2, a3, e1⟩ := oL (ns := ns) (List.range n) .no .no .no (fun i hi => by have := List.mem_range.mp hi; omega) fr_no (.inl fr_no) fr_no
  have hr := fRange_n (n := n) (by omega)
  have hmax : fMax [.int 1, .int (if (ns.length : Int) < 4 then (ns.length : Int) else 4)] = some (.int n) := by rw [fMax_int, hn2]
  have k1 : ∀ e, makeR 0 (m_Slope_init [.cell true (.ob 0 []), .val (.int 3), .val (.int 4)]) e = .ok (slopeD 3 4) e := make_ok (r := 3) (s := 4) (by decide) (by decide) (by decide) (by decide)
  have k2 : ∀ e, makeR 0 (m_Slope_init [.cell true (.ob 0 []), .val (.int 2), .val (.int 4)]) e = .ok (slopeD 2 4) e := make_ok (r := 2) (s := 4) (by decide) (by decide) (by decide) (by decide)
  have h1 : Sd 3 4 := ⟨by decide, by decide, by decide, by decide⟩
  have h2 : Sd 2 4 := ⟨by decide, by decide, by decide, by decide⟩
  have wa := way_at_ok h1 (i := 3) (by rw [w34]; decide) (count_is h1)
  have wa : m_way_at [.val (slopeD 3 4), .val (.int 3)] = .ok (wayD 3 4 [114, 115, 114, 114, 115, 115, 115]) [.no, .no] := by rw [← t34]; exact wa
  obtain ⟨pt, ixe⟩ := at_spec (r := 2) (s := 4) 6 2 4 2 rfl (by decide) (by rw [w24]; decide)
  rw [t24] at pt ixe
  have w := wy_of pt
  have mw := fun e => way_make h2 w e
  have wi := way_index_ok h2 w
  rw [ixe] at wi
  have wi : m_way_index [.val (wayD 2 4 [114, 115, 115, 114, 115, 115])] = .ok (.int 2) [.no] := wi
  have pt1 : ∀ {r s : Nat} {k : List Nat} {e : Ev}, propR 1 m_Way_text (wayD r s k) e = .ok (.str (S k)) e := fun {r s k e} => propR_obj way_text
  refine (fun (h : Wp (m_law [.val (.ro (ns.map .int))]) fun d _ => d = .bl true) => ?_) ?_
  · obtain ⟨d, e, h1, rfl⟩ := wp_eq h
    exact ⟨e, h1⟩
  · simp -implicitDefEqProofs only [m_law, ev_def, List.length_cons, List.length_nil, List.cons_append, List.nil_append, List.replicate_succ, List.replicate_zero, Nat.reduceAdd, Nat.reduceSub, ev_seq, ev_for, ev_range, ev_fn, ev_cons, ev_nil, ev_C, ev_name, List.getElem?_cons_succ, List.getElem?_cons_zero, name_val, bnd_ok, fLen_ro, List.length_map, ev_some, fMin_int, hmax, hr, e1, sq_next,
      ev_mret, ev_and, ev_bin, ev_call, ev_make, ev_prop, List.map_cons, List.map_nil, k1, k2, callR_ok, wa, pt1, str1, dEq_str, decide_true, tru_bl, if_true, str2, mw, wi, dEq_int, end_ret, wp_ok]
end K04
set_option Elab.async false
set_option linter.all false
set_option maxRecDepth 100000
set_option maxHeartbeats 4000000
namespace K04
open PySem PySem.Spec PyProof.Rows L2 L2.DL
def top (i : Nat) : Stmt := PySem.Challenge.pw_slantways_k04_whole_ways_by_number.main.body.getD i (.Pass ⟨0, 0, 0, 0⟩)
abbrev s__law_dice : Stmt := top 37
abbrev N__law_dice : List Str := ["_law_script", "_law_spot", "_law_cell", "_law_left"]
theorem sc__law_dice : FnScope N__law_dice ["_law_script", "_law_spot"] (defScope s__law_dice) := ⟨rfl, rfl, rfl, by decide +kernel, rfl, by decide +kernel, by decide +kernel⟩
abbrev s_Way_text : Stmt := inClass (top 24) 3
abbrev N_Way_text : List Str := ["self"]
theorem sc_Way_text : FnScope N_Way_text ["self"] (defScope s_Way_text) := ⟨rfl, rfl, rfl, by decide +kernel, rfl, by decide +kernel, by decide +kernel⟩
abbrev s_require_way : Stmt := top 26
abbrev N_require_way : List Str := ["value"]
theorem sc_require_way : FnScope N_require_way ["value"] (defScope s_require_way) := ⟨rfl, rfl, rfl, by decide +kernel, rfl, by decide +kernel, by decide +kernel⟩
abbrev s_can_step : Stmt := top 30
abbrev N_can_step : List Str := ["slope", "rises", "steps"]
theorem sc_can_step : FnScope N_can_step ["slope", "rises", "steps"] (defScope s_can_step) := ⟨rfl, rfl, rfl, by decide +kernel, rfl, by decide +kernel, by decide +kernel⟩
abbrev s_ends_of : Stmt := top 31
abbrev N_ends_of : List Str := ["slope", "found", "rises", "row", "steps", "many"]
theorem sc_ends_of : FnScope N_ends_of ["slope"] (defScope s_ends_of) := ⟨rfl, rfl, rfl, by decide +kernel, rfl, by decide +kernel, by decide +kernel⟩
abbrev s_way_index : Stmt := top 33
abbrev N_way_index : List Str := ["way", "ends", "found", "rises", "steps", "letter"]
theorem sc_way_index : FnScope N_way_index ["way"] (defScope s_way_index) := ⟨rfl, rfl, rfl, by decide +kernel, rfl, by decide +kernel, by decide +kernel⟩
abbrev s__law_roll : Stmt := top 38
abbrev N__law_roll : List Str := ["_law_dice_here", "_law_total", "_law_found", "_law_one", "_law_two"]
theorem sc__law_roll : FnScope N__law_roll ["_law_dice_here", "_law_total"] (defScope s__law_roll) := ⟨rfl, rfl, rfl, by decide +kernel, rfl, by decide +kernel, by decide +kernel⟩
abbrev s__law_any_slope : Stmt := top 41
abbrev N__law_any_slope : List Str := ["_law_dice_here", "_law_most"]
theorem sc__law_any_slope : FnScope N__law_any_slope ["_law_dice_here", "_law_most"] (defScope s__law_any_slope) := ⟨rfl, rfl, rfl, by decide +kernel, rfl, by decide +kernel, by decide +kernel⟩
abbrev s__law_index : Stmt := top 44
abbrev N__law_index : List Str := ["_law_ends_here", "_law_rises", "_law_steps", "_law_text", "_law_left", "_law_more", "_law_found", "_law_sign"]
theorem sc__law_index : FnScope N__law_index ["_law_ends_here", "_law_rises", "_law_steps", "_law_text"] (defScope s__law_index) := ⟨rfl, rfl, rfl, by decide +kernel, rfl, by decide +kernel, by decide +kernel⟩
abbrev s__law_pick : Stmt := top 39
abbrev N__law_pick : List Str := ["_law_dice_here", "_law_items"]
theorem sc__law_pick : FnScope N__law_pick ["_law_dice_here", "_law_items"] (defScope s__law_pick) := ⟨rfl, rfl, rfl, by decide +kernel, rfl, by decide +kernel, by decide +kernel⟩
abbrev s_is_integer : Stmt := top 13
abbrev N_is_integer : List Str := ["value"]
theorem sc_is_integer : FnScope N_is_integer ["value"] (defScope s_is_integer) := ⟨rfl, rfl, rfl, by decide +kernel, rfl, by decide +kernel, by decide +kernel⟩
abbrev s_is_from : Stmt := top 14
abbrev N_is_from : List Str := ["value", "least", "most"]
theorem sc_is_from : FnScope N_is_from ["value", "least", "most"] (defScope s_is_from) := ⟨rfl, rfl, rfl, by decide +kernel, rfl, by decide +kernel, by decide +kernel⟩
abbrev s_require_from : Stmt := top 15
abbrev N_require_from : List Str := ["value", "least", "most"]
theorem sc_require_from : FnScope N_require_from ["value", "least", "most"] (defScope s_require_from) := ⟨rfl, rfl, rfl, by decide +kernel, rfl, by decide +kernel, by decide +kernel⟩
abbrev s_Slope_init : Stmt := inClass (top 20) 1
abbrev N_Slope_init : List Str := ["self", "rises", "steps"]
theorem sc_Slope_init : FnScope N_Slope_init ["self", "rises", "steps"] (defScope s_Slope_init) := ⟨rfl, rfl, rfl, by decide +kernel, rfl, by decide +kernel, by decide +kernel⟩
abbrev s__law_ends : Stmt := top 42
abbrev N__law_ends : List Str := ["_law_rises", "_law_steps", "_law_found", "_law_left", "_law_row", "_law_more", "_law_number"]
theorem sc__law_ends : FnScope N__law_ends ["_law_rises", "_law_steps"] (defScope s__law_ends) := ⟨rfl, rfl, rfl, by decide +kernel, rfl, by decide +kernel, by decide +kernel⟩
abbrev s__law_way : Stmt := top 40
abbrev N__law_way : List Str := ["_law_dice_here", "_law_rises", "_law_steps", "_law_found", "_law_level", "_law_left", "_law_more", "_law_turn"]
theorem sc__law_way : FnScope N__law_way ["_law_dice_here", "_law_rises", "_law_steps"] (defScope s__law_way) := ⟨rfl, rfl, rfl, by decide +kernel, rfl, by decide +kernel, by decide +kernel⟩
abbrev s_require_slope : Stmt := top 25
abbrev N_require_slope : List Str := ["value"]
theorem sc_require_slope : FnScope N_require_slope ["value"] (defScope s_require_slope) := ⟨rfl, rfl, rfl, by decide +kernel, rfl, by decide +kernel, by decide +kernel⟩
abbrev s_is_text_of : Stmt := top 22
abbrev N_is_text_of : List Str := ["slope", "value"]
theorem sc_is_text_of : FnScope N_is_text_of ["slope", "value"] (defScope s_is_text_of) := ⟨rfl, rfl, rfl, by decide +kernel, rfl, by decide +kernel, by decide +kernel⟩
abbrev s_levels_of : Stmt := top 21
abbrev N_levels_of : List Str := ["slope", "text", "found", "level", "letter"]
theorem sc_levels_of : FnScope N_levels_of ["slope", "text"] (defScope s_levels_of) := ⟨rfl, rfl, rfl, by decide +kernel, rfl, by decide +kernel, by decide +kernel⟩
abbrev s_is_way_text : Stmt := top 23
abbrev N_is_way_text : List Str := ["slope", "value"]
theorem sc_is_way_text : FnScope N_is_way_text ["slope", "value"] (defScope s_is_way_text) := ⟨rfl, rfl, rfl, by decide +kernel, rfl, by decide +kernel, by decide +kernel⟩
abbrev s_Way_init : Stmt := inClass (top 24) 1
abbrev N_Way_init : List Str := ["self", "slope", "text"]
theorem sc_Way_init : FnScope N_Way_init ["self", "slope", "text"] (defScope s_Way_init) := ⟨rfl, rfl, rfl, by decide +kernel, rfl, by decide +kernel, by decide +kernel⟩
abbrev s_Way_eq : Stmt := inClass (top 24) 10
abbrev N_Way_eq : List Str := ["self", "other"]
theorem sc_Way_eq : FnScope N_Way_eq ["self", "other"] (defScope s_Way_eq) := ⟨rfl, rfl, rfl, by decide +kernel, rfl, by decide +kernel, by decide +kernel⟩
abbrev s_count_of_ways : Stmt := top 28
abbrev N_count_of_ways : List Str := ["slope", "common", "rises", "both", "found", "many", "parts", "part"]
theorem sc_count_of_ways : FnScope N_count_of_ways ["slope"] (defScope s_count_of_ways) := ⟨rfl, rfl, rfl, by decide +kernel, rfl, by decide +kernel, by decide +kernel⟩
abbrev s_way_at : Stmt := top 32
abbrev N_way_at : List Str := ["slope", "index", "ends", "text", "rises", "steps", "many"]
theorem sc_way_at : FnScope N_way_at ["slope", "index"] (defScope s_way_at) := ⟨rfl, rfl, rfl, by decide +kernel, rfl, by decide +kernel, by decide +kernel⟩
abbrev s__law_first_fault : Stmt := top 43
abbrev N__law_first_fault : List Str := ["_law_call", "e"]
theorem sc__law_first_fault : FnScope N__law_first_fault ["_law_call"] (defScope s__law_first_fault) := ⟨rfl, rfl, rfl, by decide +kernel, rfl, by decide +kernel, by decide +kernel⟩
abbrev s_way_count : Stmt := top 29
abbrev N_way_count : List Str := ["slope"]
theorem sc_way_count : FnScope N_way_count ["slope"] (defScope s_way_count) := ⟨rfl, rfl, rfl, by decide +kernel, rfl, by decide +kernel, by decide +kernel⟩
abbrev s_highest : Stmt := top 34
abbrev N_highest : List Str := ["slope"]
theorem sc_highest : FnScope N_highest ["slope"] (defScope s_highest) := ⟨rfl, rfl, rfl, by decide +kernel, rfl, by decide +kernel, by decide +kernel⟩
abbrev s_lowest : Stmt := top 35
abbrev N_lowest : List Str := ["slope", "text", "rises", "steps"]
theorem sc_lowest : FnScope N_lowest ["slope"] (defScope s_lowest) := ⟨rfl, rfl, rfl, by decide +kernel, rfl, by decide +kernel, by decide +kernel⟩
abbrev s_is_way : Stmt := top 27
abbrev N_is_way : List Str := ["slope", "value"]
theorem sc_is_way : FnScope N_is_way ["slope", "value"] (defScope s_is_way) := ⟨rfl, rfl, rfl, by decide +kernel, rfl, by decide +kernel, by decide +kernel⟩
abbrev s_Way_lt : Stmt := inClass (top 24) 9
abbrev N_Way_lt : List Str := ["self", "other"]
theorem sc_Way_lt : FnScope N_Way_lt ["self", "other"] (defScope s_Way_lt) := ⟨rfl, rfl, rfl, by decide +kernel, rfl, by decide +kernel, by decide +kernel⟩
abbrev s__law_right : Stmt := top 45
abbrev N__law_right : List Str := ["_law_dice_here", "_law_pair", "_law_rises", "_law_steps", "_law_slope", "_law_ends_here", "_law_text", "_law_total", "_law_way_here", "_law_index_here", "_law_at", "_law_one", "_law_wrong"]
theorem sc__law_right : FnScope N__law_right ["_law_dice_here"] (defScope s__law_right) := ⟨rfl, rfl, rfl, by decide +kernel, rfl, by decide +kernel, by decide +kernel⟩
abbrev s_law : Stmt := top 46
abbrev N_law : List Str := ["_law_script", "_law_spot", "_law_dice_here", "_law_turn"]
theorem sc_law : FnScope N_law ["_law_script"] (defScope s_law) := ⟨rfl, rfl, rfl, by decide +kernel, rfl, by decide +kernel, by decide +kernel⟩
structure Tx (K : PySem.W.Frag) (mg : Str → Option Value) (c : Cl) : Prop where
  c_Slope : SlX.SCls K (c.cls 0) ∧ SlX.SIsi K (c.cls 0)
  c_Way : SlX.SCls K (c.cls 1) ∧ SlX.SIsi K (c.cls 1)
  N_Way : Nf K c 1
  b_comb : mg "comb" = some (.builtin "math.comb")
  b_gcd : mg "gcd" = some (.builtin "math.gcd")
  f_own_common : Sf K c "own_common" [(0, 0)]
  f_own_key : Sf K c "own_key" [(1, 0)]
  f_own_rises : Sf K c "own_rises" [(0, 1)]
  f_own_slope : Sf K c "own_slope" [(1, 1)]
  f_own_steps : Sf K c "own_steps" [(0, 2)]
  f_own_text : Sf K c "own_text" [(1, 2)]
  g_GREATEST : ∃ t, mg "GREATEST" = some (.int (1000000000000000000000000000000000000000000000000000000000000) t)
  g_MAX_SIDE : ∃ t, mg "MAX_SIDE" = some (.int (60) t)
  g_RISE : ∃ t, mg "RISE" = some (.str "r" t)
  g_STEP : ∃ t, mg "STEP" = some (.str "s" t)
  k_InvalidNumber : mg "InvalidNumber" = some (.ref (c.cls 7))
  k_InvalidOperation : mg "InvalidOperation" = some (.ref (c.cls 5))
  k_InvalidSlope : mg "InvalidSlope" = some (.ref (c.cls 2))
  k_InvalidText : mg "InvalidText" = some (.ref (c.cls 4))
  k_InvalidWay : mg "InvalidWay" = some (.ref (c.cls 3))
  k_ParseError : mg "ParseError" = some (.ref (c.cls 6))
  k_Refused : mg "Refused" = some (.ref (c.cls 8))
  k_Slope : mg "Slope" = some (.ref (c.cls 0))
  k_Way : mg "Way" = some (.ref (c.cls 1))
  m_InvalidNumber : Xm K c 7 [(2, false), (3, false), (4, false), (5, false), (6, false), (7, true), (8, false)]
  m_InvalidOperation : Xm K c 5 [(2, false), (3, false), (4, false), (5, true), (6, false), (7, false), (8, false)]
  m_InvalidSlope : Xm K c 2 [(2, true), (3, false), (4, false), (5, false), (6, false), (7, false), (8, false)]
  m_InvalidText : Xm K c 4 [(2, false), (3, false), (4, true), (5, false), (6, false), (7, false), (8, false)]
  m_InvalidWay : Xm K c 3 [(2, false), (3, true), (4, false), (5, false), (6, false), (7, false), (8, false)]
  m_ParseError : Xm K c 6 [(2, false), (3, false), (4, false), (5, false), (6, true), (7, false), (8, false)]
  m_Refused : Xm K c 8 [(2, false), (3, false), (4, false), (5, false), (6, false), (7, false), (8, true)]
  n_abs : mg "abs" = none
  n_bool : mg "bool" = none
  n_int : mg "int" = none
  n_isinstance : mg "isinstance" = none
  n_len : mg "len" = none
  n_max : mg "max" = none
  n_min : mg "min" = none
  n_range : mg "range" = none
  n_repr : mg "repr" = none
  n_str : mg "str" = none
  n_sum : mg "sum" = none
  s_Slope_own_common : ∃ p, SlX.Slot1 K (c.cls 0) "own_common" p 0
  s_Slope_own_rises : ∃ p, SlX.Slot1 K (c.cls 0) "own_rises" p 1
  s_Slope_own_steps : ∃ p, SlX.Slot1 K (c.cls 0) "own_steps" p 2
  s_Way_own_key : ∃ p, SlX.Slot1 K (c.cls 1) "own_key" p 0
  s_Way_own_slope : ∃ p, SlX.Slot1 K (c.cls 1) "own_slope" p 1
  s_Way_own_text : ∃ p, SlX.Slot1 K (c.cls 1) "own_text" p 2
  u_InvalidNumber : c.xf 7 = "value" ∧ XfC K (c.cls 7) ∧ PySem.W.findIn K (.ref (c.cls 7)) (c.xf 7) = some none
  u_ParseError : c.xf 6 = "index" ∧ XfC K (c.cls 6) ∧ PySem.W.findIn K (.ref (c.cls 6)) (c.xf 6) = some none
  u_Refused : c.xf 8 = "reason" ∧ XfC K (c.cls 8) ∧ PySem.W.findIn K (.ref (c.cls 8)) (c.xf 8) = some none
  y_InvalidSlope : OwnX K mg "InvalidSlope" (c.cls 2)
  y_InvalidWay : OwnX K mg "InvalidWay" (c.cls 3)
  i_Slope : IsiF K c (.ref (c.cls 0)) g_isi_Slope
  i_Way : IsiF K c (.ref (c.cls 1)) g_isi_Way
  i_bool : IsiF K c (.type "bool") g_isi_bool
  i_int : IsiF K c (.type "int") g_isi_int
  i_str : IsiF K c (.type "str") g_isi_str
section
variable {P : Program} {w : World} {K : PySem.W.Frag} {mg : Str → Option Value} {base : Heap} {c : Cl}
theorem ok__law_dice {f : Addr} {fd : FuncData} (F : Fun K "_law_dice" "_law_dice" s__law_dice f fd) (T : Tx K mg c)  : FnG P w K mg base (L2.CX P w) 1 f fd ["_law_script", "_law_spot"] (spO K c 2 m__law_dice) := by
  refine dokO F sc__law_dice _ rfl (by decide) fun cdv A outer s H E hr W tk => ?_
  have hu := hr.units
  exact (ds_cons (ds_set (i := 2) sc__law_dice.nd (de_if (dt_cmp do_lt (de_name 1) (de_callB cd_len rfl T.n_len (by decide +kernel) (da_cons (de_name 0) da_nil))) (de_callTy cd_int rfl T.n_int (by decide +kernel) (da_cons (de_ix (de_name 0) (de_name 1)) da_nil)) (de_bin do_add (de_bin do_mul de_int (de_name 1)) de_int)))
  (ds_cons (ds_set (i := 3) sc__law_dice.nd (de_bin do_mod (de_callB (cd_max rfl) rfl T.n_max (by decide +kernel) (da_cons de_int (da_cons (de_bin do_sub (de_callB cd_abs rfl T.n_abs (by decide +kernel) (da_cons (de_name 2) da_nil)) (de_bin do_pow de_int de_int)) da_nil))) (de_bin do_mul (de_bin do_pow de_int de_int) (de_bin do_pow de_int de_int))))
  (ds_one (ds_retO (do_lst (da_cons (de_name 3) (da_cons (de_bin do_add (de_bin do_add (de_bin do_add (de_bin do_mul (de_bin do_mod (de_callB cd_abs rfl T.n_abs (by decide +kernel) (da_cons (de_name 2) da_nil)) de_int) de_int) (de_bin do_mul de_int (de_name 1))) (de_bin do_mul de_int (de_callTy cd_int rfl T.n_int (by decide +kernel) (da_cons (de_cmp do_lt (de_name 2) de_int) da_nil)))) de_int) (da_cons de_int da_nil))))))))
theorem ok_Way_text {f : Addr} {fd : FuncData} (F : Fun K "text" "Way.text" s_Way_text f fd) (T : Tx K mg c)  : FnG P w K mg base (L2.CX P w) 1 f fd ["self"] (spD K c 1 m_Way_text) := by
  refine dok F sc_Way_text _ rfl (by decide) fun cdv A outer s H E hr W tk => ?_
  have hu := hr.units
  exact (ds_one (ds_ret (de_attr T.f_own_text (de_name 0))))
theorem ok_require_way {f : Addr} {fd : FuncData} (F : Fun K "require_way" "require_way" s_require_way f fd) (T : Tx K mg c)  : FnG P w K mg base (L2.CX P w) 1 f fd ["value"] (spD K c 1 m_require_way) := by
  refine dok F sc_require_way _ rfl (by decide) fun cdv A outer s H E hr W tk => ?_
  have hu := hr.units
  exact (ds_one (ds_if (dt_not (dt_val (de_isi T.i_Way (.own _) (de_name 0) (pe_glob (v := .ref (c.cls 1)) rfl T.k_Way rfl) T.n_isinstance)))
  (ds_one (ds_raise0 (n := 3) T.y_InvalidWay tk))
  ds_nil))
theorem ok_can_step {f : Addr} {fd : FuncData} (F : Fun K "can_step" "can_step" s_can_step f fd) (T : Tx K mg c)  : FnG P w K mg base (L2.CX P w) 1 f fd ["slope", "rises", "steps"] (spD K c 3 m_can_step) := by
  refine dok F sc_can_step _ rfl (by decide) fun cdv A outer s H E hr W tk => ?_
  have hu := hr.units
  exact (ds_one (ds_ret (de_and (de_cmp do_gt (de_name 2) de_int) (de_one (de_cmp do_ge (de_bin do_mul (de_attr T.f_own_rises (de_name 0)) (de_bin do_sub (de_name 2) de_int)) (de_bin do_mul (de_attr T.f_own_steps (de_name 0)) (de_name 1)))))))
theorem ok_ends_of {f : Addr} {fd : FuncData} (F : Fun K "ends_of" "ends_of" s_ends_of f fd) (T : Tx K mg c) (D_can_step : Df P w K mg base c "can_step" 1 3 m_can_step) : FnG P w K mg base (L2.CX P w) 2 f fd ["slope"] (spD K c 1 m_ends_of) := by
  refine dok F sc_ends_of _ rfl (by decide) fun cdv A outer s H E hr W tk => ?_
  have hu := hr.units
  exact (ds_cons (ds_setO (i := 1) sc_ends_of.nd (do_lst da_nil))
  (ds_cons (ds_for (passes_of rfl) (di_range1 T.n_range (da_cons (de_bin do_add (de_attr T.f_own_rises (de_name 0)) de_int) da_nil) (ml_cons ml_nil)) (dg_name (i := 2) sc_ends_of.nd)
  (ds_cons (ds_setO (i := 3) sc_ends_of.nd (do_lst da_nil))
  (ds_cons (ds_for (passes_of rfl) (di_range1 T.n_range (da_cons (de_bin do_add (de_attr T.f_own_steps (de_name 0)) de_int) da_nil) (ml_cons ml_nil)) (dg_name (i := 4) sc_ends_of.nd)
  (ds_cons (ds_set (i := 5) sc_ends_of.nd (de_callTy cd_int rfl T.n_int (by decide +kernel) (da_cons (de_cmp (do_eq hu) (de_bin do_add (de_name 2) (de_name 4)) de_int) da_nil)))
  (ds_cons (ds_aug (i := 5) sc_ends_of.nd do_iadd (de_if (dt_val (de_call D_can_step tk (hr.mono (by decide)) (ml_cons (ml_cons (ml_cons ml_nil))) (da_cons (de_name 0) (da_cons (de_name 2) (da_cons (de_name 4) da_nil))))) (de_ixC (pe_ix ix_list (pv 3) (de_bin do_sub (de_name 4) de_int) (fun _ _ => rfl))) de_int))
  (ds_cons (ds_aug (i := 5) sc_ends_of.nd do_iadd (de_if (dt_cmp do_gt (de_name 2) de_int) (de_ix (de_ixC (pe_ix ix_list (pv 1) (de_bin do_sub (de_name 2) de_int) (fun _ _ => rfl))) (de_name 4)) de_int))
  (ds_one (ds_expr (de_append (pe_bm PySem.F.plainAttrs_list PySem.F.slot_list_append PySem.F.type_list_append mt_append (pv 3) (pa_cons (de_name 5) pa_nil)))))))))
  (ds_one (ds_expr (de_append (pe_bm PySem.F.plainAttrs_list PySem.F.slot_list_append PySem.F.type_list_append mt_append (pv 1) (pa_cons (de_name 3) pa_nil))))))))
  (ds_one (ds_ret (de_name 1)))))
theorem ok_way_index {f : Addr} {fd : FuncData} (F : Fun K "way_index" "way_index" s_way_index f fd) (T : Tx K mg c) (D_require_way : Df P w K mg base c "require_way" 1 1 m_require_way) (D_ends_of : Df P w K mg base c "ends_of" 2 1 m_ends_of) : FnG P w K mg base (L2.CX P w) 3 f fd ["way"] (spD K c 1 m_way_index) := by
  refine dok F sc_way_index _ rfl (by decide) fun cdv A outer s H E hr W tk => ?_
  have hu := hr.units
  exact (ds_cons (ds_expr (de_call D_require_way tk (hr.mono (by decide)) (ml_cons ml_nil) (da_cons (de_name 0) da_nil)))
  (ds_cons (ds_par2 (i := 1) (j := 2) sc_way_index.nd (dps_cons (dp_inl (de_call D_ends_of tk (hr.mono (by decide)) (ml_cons ml_nil) (da_cons (de_attr T.f_own_slope (de_name 0)) da_nil))) (dps_cons (dp_inl de_int) dps_nil)))
  (ds_cons (ds_par2 (i := 3) (j := 4) sc_way_index.nd (dps_cons (dp_inl (de_attr T.f_own_rises (de_attr T.f_own_slope (de_name 0)))) (dps_cons (dp_inl (de_attr T.f_own_steps (de_attr T.f_own_slope (de_name 0)))) dps_nil)))
  (ds_cons (ds_for (passes_of rfl) (di_any (de_attr T.f_own_text (de_name 0))) (dg_name (i := 5) sc_way_index.nd)
  (ds_one (ds_if (dt_cmp (do_eq hu) (de_name 5) (de_gstr rfl T.g_RISE.choose_spec))
  (ds_one (ds_aug (i := 3) sc_way_index.nd do_isub de_int))
  (ds_cons (ds_aug (i := 2) sc_way_index.nd do_iadd (de_if (dt_cmp do_gt (de_name 3) de_int) (de_ix (de_ix (de_name 1) (de_bin do_sub (de_name 3) de_int)) (de_name 4)) de_int))
  (ds_one (ds_aug (i := 4) sc_way_index.nd do_isub de_int))))))
  (ds_one (ds_ret (de_name 2)))))))
theorem ok__law_roll {f : Addr} {fd : FuncData} (F : Fun K "_law_roll" "_law_roll" s__law_roll f fd) (T : Tx K mg c)  : FnG P w K mg base (L2.CX P w) 1 f fd ["_law_dice_here", "_law_total"] (spD K c 2 m__law_roll) := by
  refine dok F sc__law_roll _ rfl (by decide) fun cdv A outer s H E hr W tk => ?_
  have hu := hr.units
  exact (ds_cons (ds_if (dt_cmp do_gt (de_ixC (pe_ix ix_list (pv 0) de_int (fun _ _ => rfl))) de_int)
  (ds_cons (ds_set (i := 2) sc__law_roll.nd (de_bin do_mod (de_callTy cd_int rfl T.n_int (by decide +kernel) (da_cons (de_ixC (pe_ix ix_list (pv 0) de_int (fun _ _ => rfl))) da_nil)) (de_name 1)))
  (ds_cons (ds_setIx (ps_asg (de_bin do_div (de_ixC (pe_ix ix_list (pv 0) de_int (fun _ _ => rfl))) (de_name 1)) (pg_sub (pv 0) de_int set_list)))
  (ds_one (ds_ret (de_name 2)))))
  ds_nil)
  (ds_cons (ds_setIx (ps_asg (de_bin do_add (de_ixC (pe_ix ix_list (pv 0) de_int (fun _ _ => rfl))) de_int) (pg_sub (pv 0) de_int set_list)))
  (ds_cons (ds_set (i := 3) sc__law_roll.nd (de_bin do_mod (de_callTy cd_int rfl T.n_int (by decide +kernel) (da_cons (de_bin do_add (de_ixC (pe_ix ix_list (pv 0) de_int (fun _ _ => rfl))) (de_bin do_mul de_int (de_ixC (pe_ix ix_list (pv 0) de_int (fun _ _ => rfl))))) da_nil)) de_int))
  (ds_cons (ds_set (i := 4) sc__law_roll.nd (de_bin do_add (de_bin do_mul (de_bin do_mod (de_callTy cd_int rfl T.n_int (by decide +kernel) (da_cons (de_bin do_add (de_bin do_mul (de_name 3) (de_name 3)) (de_bin do_mul de_int (de_ixC (pe_ix ix_list (pv 0) de_int (fun _ _ => rfl))))) da_nil)) de_int) de_int) (de_name 3)))
  (ds_one (ds_ret (de_bin do_mod (de_callTy cd_int rfl T.n_int (by decide +kernel) (da_cons (de_bin do_div (de_name 4) de_int) da_nil)) (de_name 1))))))))
theorem ok__law_any_slope {f : Addr} {fd : FuncData} (F : Fun K "_law_any_slope" "_law_any_slope" s__law_any_slope f fd) (T : Tx K mg c) (D__law_roll : Df P w K mg base c "_law_roll" 1 2 m__law_roll) : FnG P w K mg base (L2.CX P w) 2 f fd ["_law_dice_here", "_law_most"] (spD K c 2 m__law_any_slope) := by
  refine dok F sc__law_any_slope _ rfl (by decide) fun cdv A outer s H E hr W tk => ?_
  have hu := hr.units
  exact (ds_one (ds_ret (de_tup (da_cons (de_bin do_add de_int (de_callL (i := 0) D__law_roll tk (hr.mono (by decide)) (ml_cons ml_nil) (da_cons (de_name 1) da_nil))) (da_cons (de_bin do_add de_int (de_callL (i := 0) D__law_roll tk (hr.mono (by decide)) (ml_cons ml_nil) (da_cons (de_name 1) da_nil))) da_nil)))))
theorem ok__law_index {f : Addr} {fd : FuncData} (F : Fun K "_law_index" "_law_index" s__law_index f fd) (T : Tx K mg c)  : FnG P w K mg base (L2.CX P w) 1 f fd ["_law_ends_here", "_law_rises", "_law_steps", "_law_text"] (spD K c 4 m__law_index) := by
  refine dok F sc__law_index _ rfl (by decide) fun cdv A outer s H E hr W tk => ?_
  have hu := hr.units
  exact (ds_cons (ds_par3 (i := 4) (j := 5) (l := 6) sc__law_index.nd (dps_cons (dp_inl (de_name 1)) (dps_cons (dp_inl (de_name 2)) (dps_cons (dp_inl de_int) dps_nil))))
  (ds_cons (ds_for (passes_of rfl) (di_any (de_name 3)) (dg_name (i := 7) sc__law_index.nd)
  (ds_one (ds_if (dt_cmp (do_eq hu) (de_name 7) de_str)
  (ds_one (ds_set (i := 4) sc__law_index.nd (de_bin do_sub (de_name 4) de_int)))
  (ds_cons (ds_set (i := 6) sc__law_index.nd (de_bin do_add (de_name 6) (de_if (dt_cmp do_gt (de_name 4) de_int) (de_ix (de_ix (de_name 0) (de_bin do_sub (de_name 4) de_int)) (de_name 5)) de_int)))
  (ds_one (ds_set (i := 5) sc__law_index.nd (de_bin do_sub (de_name 5) de_int)))))))
  (ds_one (ds_ret (de_name 6)))))
theorem ok__law_pick {f : Addr} {fd : FuncData} (F : Fun K "_law_pick" "_law_pick" s__law_pick f fd) (T : Tx K mg c) (D__law_roll : Df P w K mg base c "_law_roll" 1 2 m__law_roll) : FnG P w K mg base (L2.CX P w) 2 f fd ["_law_dice_here", "_law_items"] (spD K c 2 m__law_pick) := by
  refine dok F sc__law_pick _ rfl (by decide) fun cdv A outer s H E hr W tk => ?_
  have hu := hr.units
  exact (ds_one (ds_ret (de_ix (de_name 1) (de_callL (i := 0) D__law_roll tk (hr.mono (by decide)) (ml_cons ml_nil) (da_cons (de_callB cd_len rfl T.n_len (by decide +kernel) (da_cons (de_name 1) da_nil)) da_nil)))))
theorem ok_is_integer {f : Addr} {fd : FuncData} (F : Fun K "is_integer" "is_integer" s_is_integer f fd) (T : Tx K mg c)  : FnG P w K mg base (L2.CX P w) 1 f fd ["value"] (spD K c 1 m_is_integer) := by
  refine dok F sc_is_integer _ rfl (by decide) fun cdv A outer s H E hr W tk => ?_
  have hu := hr.units
  exact (ds_one (ds_ret (de_and (de_isi T.i_int (.ty _) (de_name 0) (pe_bltn (v := .ty "int") (u := .type "int") rfl T.n_int (by decide +kernel) rfl) T.n_isinstance) (de_and (de_not (de_isi T.i_bool (.ty _) (de_name 0) (pe_bltn (v := .ty "bool") (u := .type "bool") rfl T.n_bool (by decide +kernel) rfl) T.n_isinstance)) (de_one (de_chain do_lt do_lt (de_neg (de_gint rfl T.g_GREATEST.choose_spec)) (de_name 0) (de_gint rfl T.g_GREATEST.choose_spec)))))))
theorem ok_is_from {f : Addr} {fd : FuncData} (F : Fun K "is_from" "is_from" s_is_from f fd) (T : Tx K mg c) (D_is_integer : Df P w K mg base c "is_integer" 1 1 m_is_integer) : FnG P w K mg base (L2.CX P w) 2 f fd ["value", "least", "most"] (spD K c 3 m_is_from) := by
  refine dok F sc_is_from _ rfl (by decide) fun cdv A outer s H E hr W tk => ?_
  have hu := hr.units
  exact (ds_one (ds_ret (de_and (de_call D_is_integer tk (hr.mono (by decide)) (ml_cons ml_nil) (da_cons (de_name 0) da_nil)) (de_one (de_chain do_le do_le (de_name 1) (de_name 0) (de_name 2))))))
theorem ok_require_from {f : Addr} {fd : FuncData} (F : Fun K "require_from" "require_from" s_require_from f fd) (T : Tx K mg c) (D_is_from : Df P w K mg base c "is_from" 2 3 m_is_from) (X_InvalidNumber : SupC P K mg "InvalidNumber" (c.cls 7) (c.xf 7)) : FnG P w K mg base (L2.CX P w) 3 f fd ["value", "least", "most"] (spD K c 3 m_require_from) := by
  refine dok F sc_require_from _ rfl (by decide) fun cdv A outer s H E hr W tk => ?_
  have hu := hr.units
  exact (ds_one (ds_if (dt_not (dt_val (de_call D_is_from tk (hr.mono (by decide)) (ml_cons (ml_cons (ml_cons ml_nil))) (da_cons (de_name 0) (da_cons (de_name 1) (da_cons (de_name 2) da_nil))))))
  (ds_one (ds_raise (n := 7) (k := 0) X_InvalidNumber tk (hr.mono (by decide)) (de_name 0)))
  ds_nil))
theorem ok_Slope_init {f : Addr} {fd : FuncData} (F : Fun K "__init__" "Slope.__init__" s_Slope_init f fd) (T : Tx K mg c) (D_require_from : Df P w K mg base c "require_from" 3 3 m_require_from) : FnG P w K mg base (L2.CX P w) 4 f fd ["self", "rises", "steps"] (spD K c 3 m_Slope_init) := by
  refine dok F sc_Slope_init _ rfl (by decide) fun cdv A outer s H E hr W tk => ?_
  have hu := hr.units
  exact (ds_cons (ds_expr (de_call D_require_from tk (hr.mono (by decide)) (ml_cons (ml_cons (ml_cons ml_nil))) (da_cons (de_name 1) (da_cons de_int (da_cons (de_gint rfl T.g_MAX_SIDE.choose_spec) da_nil)))))
  (ds_cons (ds_expr (de_call D_require_from tk (hr.mono (by decide)) (ml_cons (ml_cons (ml_cons ml_nil))) (da_cons (de_name 2) (da_cons de_int (da_cons (de_gint rfl T.g_MAX_SIDE.choose_spec) da_nil)))))
  (ds_cons (ds_setF (j := 0) (cl := 0) (i := 1) T.c_Slope.1 T.s_Slope_own_rises (de_name 1))
  (ds_cons (ds_setF (j := 0) (cl := 0) (i := 2) T.c_Slope.1 T.s_Slope_own_steps (de_name 2))
  (ds_one (ds_setF (j := 0) (cl := 0) (i := 0) T.c_Slope.1 T.s_Slope_own_common (de_callM cd_gcd rfl T.b_gcd (da_cons (de_name 1) (da_cons (de_name 2) da_nil)))))))))
theorem ok__law_ends {f : Addr} {fd : FuncData} (F : Fun K "_law_ends" "_law_ends" s__law_ends f fd) (T : Tx K mg c)  : FnG P w K mg base (L2.CX P w) 1 f fd ["_law_rises", "_law_steps"] (spD K c 2 m__law_ends) := by
  refine dok F sc__law_ends _ rfl (by decide) fun cdv A outer s H E hr W tk => ?_
  have hu := hr.units
  exact (ds_cons (ds_setO (i := 2) sc__law_ends.nd (do_lst da_nil))
  (ds_cons (ds_for (passes_of rfl) (di_range1 T.n_range (da_cons (de_bin do_add (de_name 0) de_int) da_nil) (ml_cons ml_nil)) (dg_name (i := 3) sc__law_ends.nd)
  (ds_cons (ds_setO (i := 4) sc__law_ends.nd (do_lst da_nil))
  (ds_cons (ds_for (passes_of rfl) (di_range1 T.n_range (da_cons (de_bin do_add (de_name 1) de_int) da_nil) (ml_cons ml_nil)) (dg_name (i := 5) sc__law_ends.nd)
  (ds_cons (ds_set (i := 6) sc__law_ends.nd (de_callTy cd_int rfl T.n_int (by decide +kernel) (da_cons (de_cmp (do_eq hu) (de_bin do_add (de_name 3) (de_name 5)) de_int) da_nil)))
  (ds_cons (ds_if (PW.pt (dt_and (dt_cmp do_gt (de_name 5) de_int) (dt_and1 (dt_cmp do_ge (de_bin do_mul (de_name 0) (de_bin do_sub (de_name 5) de_int)) (de_bin do_mul (de_name 1) (de_name 3))))))
  (ds_one (ds_set (i := 6) sc__law_ends.nd (de_bin do_add (de_name 6) (de_ixC (pe_ix ix_list (pv 4) (de_bin do_sub (de_name 5) de_int) (fun _ _ => rfl))))))
  ds_nil)
  (ds_cons (ds_if (dt_cmp do_gt (de_name 3) de_int)
  (ds_one (ds_set (i := 6) sc__law_ends.nd (de_bin do_add (de_name 6) (de_ix (de_ixC (pe_ix ix_list (pv 2) (de_bin do_sub (de_name 3) de_int) (fun _ _ => rfl))) (de_name 5)))))
  ds_nil)
  (ds_one (ds_expr (de_append (pe_bm PySem.F.plainAttrs_list PySem.F.slot_list_append PySem.F.type_list_append mt_append (pv 4) (pa_cons (de_name 6) pa_nil)))))))))
  (ds_one (ds_expr (de_append (pe_bm PySem.F.plainAttrs_list PySem.F.slot_list_append PySem.F.type_list_append mt_append (pv 2) (pa_cons (de_name 4) pa_nil))))))))
  (ds_one (ds_ret (de_name 2)))))
theorem ok__law_way {f : Addr} {fd : FuncData} (F : Fun K "_law_way" "_law_way" s__law_way f fd) (T : Tx K mg c) (D__law_roll : Df P w K mg base c "_law_roll" 1 2 m__law_roll) : FnG P w K mg base (L2.CX P w) 2 f fd ["_law_dice_here", "_law_rises", "_law_steps"] (spD K c 3 m__law_way) := by
  refine dok F sc__law_way _ rfl (by decide) fun cdv A outer s H E hr W tk => ?_
  have hu := hr.units
  exact (ds_cons (ds_parT (is := [3, 4, 5, 6]) (dps_cons (dp_inl de_str) (dps_cons (dp_inl de_int) (dps_cons (dp_inl (de_name 1)) (dps_cons (dp_inl (de_name 2)) dps_nil)))) (gn_cons (i := 3) sc__law_way.nd (gn_cons (i := 4) sc__law_way.nd (gn_cons (i := 5) sc__law_way.nd (gn_cons (i := 6) sc__law_way.nd gn_nil)))))
  (ds_cons (ds_for (passes_of rfl) (di_range1 T.n_range (da_cons (de_bin do_add (de_name 1) (de_name 2)) da_nil) (ml_cons ml_nil)) (dg_name (i := 7) sc__law_way.nd)
  (ds_one (ds_if (PW.pt (dt_and (dt_cmp do_gt (de_name 5) de_int) (dt_and1 (PW.pt (dt_or (dt_cmp do_lt (de_name 4) (de_name 1)) (dt_or (dt_cmp (do_eq hu) (de_name 6) de_int) (dt_or1 (dt_cmp (do_eq hu) (de_callL (i := 0) D__law_roll tk (hr.mono (by decide)) (ml_cons ml_nil) (da_cons de_int da_nil)) de_int))))))))
  (ds_one (ds_par3 (i := 3) (j := 4) (l := 5) sc__law_way.nd (dps_cons (dp_inl (de_bin do_add (de_name 3) de_str)) (dps_cons (dp_inl (de_bin do_add (de_name 4) (de_name 2))) (dps_cons (dp_inl (de_bin do_sub (de_name 5) de_int)) dps_nil)))))
  (ds_one (ds_par3 (i := 3) (j := 4) (l := 6) sc__law_way.nd (dps_cons (dp_inl (de_bin do_add (de_name 3) de_str)) (dps_cons (dp_inl (de_bin do_sub (de_name 4) (de_name 1))) (dps_cons (dp_inl (de_bin do_sub (de_name 6) de_int)) dps_nil))))))))
  (ds_one (ds_ret (de_name 3)))))
theorem ok_require_slope {f : Addr} {fd : FuncData} (F : Fun K "require_slope" "require_slope" s_require_slope f fd) (T : Tx K mg c)  : FnG P w K mg base (L2.CX P w) 1 f fd ["value"] (spD K c 1 m_require_slope) := by
  refine dok F sc_require_slope _ rfl (by decide) fun cdv A outer s H E hr W tk => ?_
  have hu := hr.units
  exact (ds_one (ds_if (dt_not (dt_val (de_isi T.i_Slope (.own _) (de_name 0) (pe_glob (v := .ref (c.cls 0)) rfl T.k_Slope rfl) T.n_isinstance)))
  (ds_one (ds_raise0 (n := 2) T.y_InvalidSlope tk))
  ds_nil))
theorem ok_is_text_of {f : Addr} {fd : FuncData} (F : Fun K "is_text_of" "is_text_of" s_is_text_of f fd) (T : Tx K mg c)  : FnG P w K mg base (L2.CX P w) 1 f fd ["slope", "value"] (spD K c 2 m_is_text_of) := by
  refine dok F sc_is_text_of _ rfl (by decide) fun cdv A outer s H E hr W tk => ?_
  have hu := hr.units
  exact (ds_cons (ds_if (PW.pt (dt_or (dt_not (dt_val (de_isi T.i_str (.ty _) (de_name 1) (pe_bltn (v := .ty "str") (u := .type "str") rfl T.n_str (by decide +kernel) rfl) T.n_isinstance))) (dt_or1 (dt_cmp (do_ne hu) (de_callB cd_len rfl T.n_len (by decide +kernel) (da_cons (de_name 1) da_nil)) (de_bin do_add (de_attr T.f_own_rises (de_name 0)) (de_attr T.f_own_steps (de_name 0)))))))
  (ds_one (ds_ret de_bl))
  ds_nil)
  (ds_one (ds_ret (de_and (de_cmp (do_eq hu) (de_meth (pe_bm PySem.F.plainAttrs_str PySem.F.slot_str_count PySem.F.type_str_count mt_countD (de_name 1) (da_cons (de_gstr rfl T.g_RISE.choose_spec) da_nil))) (de_attr T.f_own_rises (de_name 0))) (de_one (de_cmp (do_eq hu) (de_meth (pe_bm PySem.F.plainAttrs_str PySem.F.slot_str_count PySem.F.type_str_count mt_countD (de_name 1) (da_cons (de_gstr rfl T.g_STEP.choose_spec) da_nil))) (de_attr T.f_own_steps (de_name 0))))))))
theorem ok_levels_of {f : Addr} {fd : FuncData} (F : Fun K "levels_of" "levels_of" s_levels_of f fd) (T : Tx K mg c)  : FnG P w K mg base (L2.CX P w) 1 f fd ["slope", "text"] (spD K c 2 m_levels_of) := by
  refine dok F sc_levels_of _ rfl (by decide) fun cdv A outer s H E hr W tk => ?_
  have hu := hr.units
  exact (ds_cons (ds_setO (i := 2) sc_levels_of.nd (do_lst da_nil))
  (ds_cons (ds_set (i := 3) sc_levels_of.nd de_int)
  (ds_cons (ds_for (passes_of rfl) (di_any (de_name 1)) (dg_name (i := 4) sc_levels_of.nd)
  (ds_cons (ds_expr (de_append (pe_bm PySem.F.plainAttrs_list PySem.F.slot_list_append PySem.F.type_list_append mt_append (pv 2) (pa_cons (de_name 3) pa_nil))))
  (ds_one (ds_aug (i := 3) sc_levels_of.nd do_iadd (de_if (dt_cmp (do_eq hu) (de_name 4) (de_gstr rfl T.g_RISE.choose_spec)) (de_attr T.f_own_steps (de_name 0)) (de_neg (de_attr T.f_own_rises (de_name 0))))))))
  (ds_one (ds_ret (de_name 2))))))
theorem ok_is_way_text {f : Addr} {fd : FuncData} (F : Fun K "is_way_text" "is_way_text" s_is_way_text f fd) (T : Tx K mg c) (D_is_text_of : Df P w K mg base c "is_text_of" 1 2 m_is_text_of) (D_levels_of : Df P w K mg base c "levels_of" 1 2 m_levels_of) : FnG P w K mg base (L2.CX P w) 2 f fd ["slope", "value"] (spD K c 2 m_is_way_text) := by
  refine dok F sc_is_way_text _ rfl (by decide) fun cdv A outer s H E hr W tk => ?_
  have hu := hr.units
  exact (ds_one (ds_ret (de_and (de_call D_is_text_of tk (hr.mono (by decide)) (ml_cons (ml_cons ml_nil)) (da_cons (de_name 0) (da_cons (de_name 1) da_nil))) (de_one (de_cmp do_ge (de_callB (cd_minA hr rfl) rfl T.n_min (by decide +kernel) (da_cons (de_call D_levels_of tk (hr.mono (by decide)) (ml_cons (ml_cons ml_nil)) (da_cons (de_name 0) (da_cons (de_name 1) da_nil))) da_nil)) de_int)))))
theorem ok_Way_init {f : Addr} {fd : FuncData} (F : Fun K "__init__" "Way.__init__" s_Way_init f fd) (T : Tx K mg c) (D_require_slope : Df P w K mg base c "require_slope" 1 1 m_require_slope) (D_is_way_text : Df P w K mg base c "is_way_text" 2 2 m_is_way_text) : FnG P w K mg base (L2.CX P w) 3 f fd ["self", "slope", "text"] (spD K c 3 m_Way_init) := by
  refine dok F sc_Way_init _ rfl (by decide) fun cdv A outer s H E hr W tk => ?_
  have hu := hr.units
  exact (ds_cons (ds_expr (de_call D_require_slope tk (hr.mono (by decide)) (ml_cons ml_nil) (da_cons (de_name 1) da_nil)))
  (ds_cons (ds_if (dt_not (dt_val (de_call D_is_way_text tk (hr.mono (by decide)) (ml_cons (ml_cons ml_nil)) (da_cons (de_name 1) (da_cons (de_name 2) da_nil)))))
  (ds_one (ds_raise0 (n := 3) T.y_InvalidWay tk))
  ds_nil)
  (ds_cons (ds_setF (j := 0) (cl := 1) (i := 1) T.c_Way.1 T.s_Way_own_slope (de_name 1))
  (ds_cons (ds_setF (j := 0) (cl := 1) (i := 2) T.c_Way.1 T.s_Way_own_text (de_name 2))
  (ds_one (ds_setF (j := 0) (cl := 1) (i := 0) T.c_Way.1 T.s_Way_own_key (de_tup (da_cons (de_attr T.f_own_rises (de_name 1)) (da_cons (de_attr T.f_own_steps (de_name 1)) (da_cons (de_name 2) da_nil))))))))))
theorem ok_Way_eq {f : Addr} {fd : FuncData} (F : Fun K "__eq__" "Way.__eq__" s_Way_eq f fd) (T : Tx K mg c)  : FnG P w K mg base (L2.CX P w) 1 f fd ["self", "other"] (spD K c 2 m_Way_eq) := by
  refine dok F sc_Way_eq _ rfl (by decide) fun cdv A outer s H E hr W tk => ?_
  have hu := hr.units
  exact (ds_one (ds_ret (de_and (de_isi T.i_Way (.own _) (de_name 1) (pe_glob (v := .ref (c.cls 1)) rfl T.k_Way rfl) T.n_isinstance) (de_one (de_cmp (do_eq hu) (de_attr T.f_own_key (de_name 0)) (de_attr T.f_own_key (de_name 1)))))))
theorem ok_count_of_ways {f : Addr} {fd : FuncData} (F : Fun K "count_of_ways" "count_of_ways" s_count_of_ways f fd) (T : Tx K mg c)  : FnG P w K mg base (L2.CX P w) 1 f fd ["slope"] (spD K c 1 m_count_of_ways) := by
  refine dok F sc_count_of_ways _ rfl (by decide) fun cdv A outer s H E hr W tk => ?_
  have hu := hr.units
  exact (ds_cons (ds_set (i := 1) sc_count_of_ways.nd (de_attr T.f_own_common (de_name 0)))
  (ds_cons (ds_parT (is := [2, 3]) (dps_cons (dp_inl (de_bin do_div (de_attr T.f_own_rises (de_name 0)) (de_name 1))) (dps_cons (dp_inl (de_bin do_div (de_bin do_add (de_attr T.f_own_rises (de_name 0)) (de_attr T.f_own_steps (de_name 0))) (de_name 1))) dps_nil)) (gn_cons (i := 2) sc_count_of_ways.nd (gn_cons (i := 3) sc_count_of_ways.nd gn_nil)))
  (ds_cons (ds_setO (i := 4) sc_count_of_ways.nd (do_lst (da_cons de_int da_nil)))
  (ds_cons (ds_for (passes_of rfl) (di_range2 T.n_range (da_cons de_int (da_cons (de_bin do_add (de_name 1) de_int) da_nil)) (ml_cons (ml_cons ml_nil))) (dg_name (i := 5) sc_count_of_ways.nd)
  (ds_cons (ds_setLc (i := 6) (own := [("part", 7)]) sc_count_of_ways.nd (di_range2 T.n_range (da_cons de_int (da_cons (de_bin do_add (de_name 5) de_int) da_nil)) (ml_cons (ml_cons ml_nil))) (blkOk_by (N := N_count_of_ways) (sc := defScope s_count_of_ways) (by decide +kernel)) (fun _ _ _ _ _ => (dg_name (i := 7) sc_count_of_ways.nd)) (fun _ _ _ _ _ => dts_nil) (fun _ _ _ _ _ => (de_bin do_mul (de_ixC (pe_ix ix_list (pv 4) (de_bin do_sub (de_name 5) (de_name 7)) (fun _ _ => rfl))) (de_bin do_div (de_callM cd_comb rfl T.b_comb (da_cons (de_bin do_mul (de_name 7) (de_name 3)) (da_cons (de_bin do_mul (de_name 7) (de_name 2)) da_nil))) (de_name 3)))) (sw_true rfl rfl rfl (by decide +kernel)))
  (ds_one (ds_expr (de_append (pe_bm PySem.F.plainAttrs_list PySem.F.slot_list_append PySem.F.type_list_append mt_append (pv 4) (pa_cons (de_bin do_div (de_callB (cd_sum rfl) rfl T.n_sum (by decide +kernel) (da_cons (de_name 6) da_nil)) (de_name 5)) pa_nil)))))))
  (ds_one (ds_ret (de_ixC (pe_ix ix_list (pv 4) (de_name 1) (fun _ _ => rfl)))))))))
theorem ok_way_at {f : Addr} {fd : FuncData} (F : Fun K "way_at" "way_at" s_way_at f fd) (T : Tx K mg c) (D_require_slope : Df P w K mg base c "require_slope" 1 1 m_require_slope) (D_require_from : Df P w K mg base c "require_from" 3 3 m_require_from) (C_Way : Ck P w K mg base c "Way" 1 3 2 m_Way_init) (D_ends_of : Df P w K mg base c "ends_of" 2 1 m_ends_of) (D_count_of_ways : Df P w K mg base c "count_of_ways" 1 1 m_count_of_ways) : FnG P w K mg base (L2.CX P w) 5 f fd ["slope", "index"] (spD K c 2 m_way_at) := by
  refine dok F sc_way_at _ rfl (by decide) fun cdv A outer s H E hr W tk => ?_
  have hu := hr.units
  exact (ds_cons (ds_expr (de_call D_require_slope tk (hr.mono (by decide)) (ml_cons ml_nil) (da_cons (de_name 0) da_nil)))
  (ds_cons (ds_expr (de_call D_require_from tk (hr.mono (by decide)) (ml_cons (ml_cons (ml_cons ml_nil))) (da_cons (de_name 1) (da_cons de_int (da_cons (de_bin do_sub (de_call D_count_of_ways tk (hr.mono (by decide)) (ml_cons ml_nil) (da_cons (de_name 0) da_nil)) de_int) da_nil)))))
  (ds_cons (ds_parT (is := [2, 3, 4, 5]) (dps_cons (dp_inl (de_call D_ends_of tk (hr.mono (by decide)) (ml_cons ml_nil) (da_cons (de_name 0) da_nil))) (dps_cons (dp_inl de_str) (dps_cons (dp_inl (de_attr T.f_own_rises (de_name 0))) (dps_cons (dp_inl (de_attr T.f_own_steps (de_name 0))) dps_nil)))) (gn_cons (i := 2) sc_way_at.nd (gn_cons (i := 3) sc_way_at.nd (gn_cons (i := 4) sc_way_at.nd (gn_cons (i := 5) sc_way_at.nd gn_nil)))))
  (ds_cons (ds_while (passes_of rfl) (dt_cmp do_gt (de_bin do_add (de_name 4) (de_name 5)) de_int)
  (ds_cons (ds_set (i := 6) sc_way_at.nd (de_if (dt_cmp do_gt (de_name 4) de_int) (de_ix (de_ix (de_name 2) (de_bin do_sub (de_name 4) de_int)) (de_name 5)) de_int))
  (ds_one (ds_if (dt_cmp do_lt (de_name 1) (de_name 6))
  (ds_one (ds_par2 (i := 3) (j := 4) sc_way_at.nd (dps_cons (dp_inl (de_bin do_add (de_name 3) (de_gstr rfl T.g_RISE.choose_spec))) (dps_cons (dp_inl (de_bin do_sub (de_name 4) de_int)) dps_nil))))
  (ds_cons (ds_aug (i := 1) sc_way_at.nd do_isub (de_name 6))
  (ds_one (ds_par2 (i := 3) (j := 5) sc_way_at.nd (dps_cons (dp_inl (de_bin do_add (de_name 3) (de_gstr rfl T.g_STEP.choose_spec))) (dps_cons (dp_inl (de_bin do_sub (de_name 5) de_int)) dps_nil)))))))))
  (ds_one (ds_ret (de_make C_Way tk (hr.mono (by decide)) (ml_cons (ml_cons ml_nil)) (da_cons (de_name 0) (da_cons (de_name 3) da_nil)))))))))
theorem told__law_first_fault {f : Addr} {fd : FuncData} (F : Fun K "_law_first_fault" "_law_first_fault" s__law_first_fault f fd) (B : Binds K fd ["_law_call"] []) (hm : mg "_law_first_fault" = some (.ref f)) (hk : PySem.W.keepIn K (.ref f) = true) (T : Tx K mg c) : ToldF P w K mg base c "_law_first_fault" 5 (some (.str "")) cs__law_first_fault :=
  ⟨f, _, _, _, fd, N__law_first_fault, _, _, _, _, (some (.str "")), hm, hk, F, sc__law_first_fault, B, rfl, bt_const, rfl, .inl rfl, by decide, by decide, (fun _ _ _ _ => .str _), fun cdv A outer s H E hr => (td_cons (m := 7) (j := (some 1)) T.m_InvalidNumber ⟨rfl, by decide, .inl T.k_InvalidNumber⟩ ⟨_, rfl, sc__law_first_fault.nd, rfl, rfl⟩ (fun a o cls dd pn hz hf => (sx_bin do_add sx_str (sx_callB (cd_repr hr.shM) rfl T.n_repr (by decide +kernel) (sx_fieldF (n := 7) (j := 1) T.u_InvalidNumber.1 T.u_InvalidNumber.2.1 T.u_InvalidNumber.2.2 hz hf)))) (td_cons (m := 5) (j := none) T.m_InvalidOperation ⟨rfl, by decide, .inl T.k_InvalidOperation⟩ rfl (fun a o cls dd pn hz hf => sx_str) (td_cons (m := 2) (j := none) T.m_InvalidSlope ⟨rfl, by decide, .inl T.k_InvalidSlope⟩ rfl (fun a o cls dd pn hz hf => sx_str) (td_cons (m := 4) (j := none) T.m_InvalidText ⟨rfl, by decide, .inl T.k_InvalidText⟩ rfl (fun a o cls dd pn hz hf => sx_str) (td_cons (m := 3) (j := none) T.m_InvalidWay ⟨rfl, by decide, .inl T.k_InvalidWay⟩ rfl (fun a o cls dd pn hz hf => sx_str) (td_cons (m := 6) (j := (some 1)) T.m_ParseError ⟨rfl, by decide, .inl T.k_ParseError⟩ ⟨_, rfl, sc__law_first_fault.nd, rfl, rfl⟩ (fun a o cls dd pn hz hf => (sx_bin do_add sx_str (sx_callB (cd_repr hr.shM) rfl T.n_repr (by decide +kernel) (sx_fieldF (n := 6) (j := 1) T.u_ParseError.1 T.u_ParseError.2.1 T.u_ParseError.2.2 hz hf)))) (td_cons (m := 8) (j := (some 1)) T.m_Refused ⟨rfl, by decide, .inl T.k_Refused⟩ ⟨_, rfl, sc__law_first_fault.nd, rfl, rfl⟩ (fun a o cls dd pn hz hf => (sx_bin do_add sx_str (sx_callB (cd_repr hr.shM) rfl T.n_repr (by decide +kernel) (sx_fieldF (n := 8) (j := 1) T.u_Refused.1 T.u_Refused.2.1 T.u_Refused.2.2 hz hf)))) td_nil)))))))⟩
theorem ok_way_count {f : Addr} {fd : FuncData} (F : Fun K "way_count" "way_count" s_way_count f fd) (T : Tx K mg c) (D_require_slope : Df P w K mg base c "require_slope" 1 1 m_require_slope) (D_count_of_ways : Df P w K mg base c "count_of_ways" 1 1 m_count_of_ways) : FnG P w K mg base (L2.CX P w) 2 f fd ["slope"] (spD K c 1 m_way_count) := by
  refine dok F sc_way_count _ rfl (by decide) fun cdv A outer s H E hr W tk => ?_
  have hu := hr.units
  exact (ds_cons (ds_expr (de_call D_require_slope tk (hr.mono (by decide)) (ml_cons ml_nil) (da_cons (de_name 0) da_nil)))
  (ds_one (ds_ret (de_call D_count_of_ways tk (hr.mono (by decide)) (ml_cons ml_nil) (da_cons (de_name 0) da_nil)))))
theorem ok_highest {f : Addr} {fd : FuncData} (F : Fun K "highest" "highest" s_highest f fd) (T : Tx K mg c) (D_require_slope : Df P w K mg base c "require_slope" 1 1 m_require_slope) (C_Way : Ck P w K mg base c "Way" 1 3 2 m_Way_init) : FnG P w K mg base (L2.CX P w) 5 f fd ["slope"] (spD K c 1 m_highest) := by
  refine dok F sc_highest _ rfl (by decide) fun cdv A outer s H E hr W tk => ?_
  have hu := hr.units
  exact (ds_cons (ds_expr (de_call D_require_slope tk (hr.mono (by decide)) (ml_cons ml_nil) (da_cons (de_name 0) da_nil)))
  (ds_one (ds_ret (de_make C_Way tk (hr.mono (by decide)) (ml_cons (ml_cons ml_nil)) (da_cons (de_name 0) (da_cons (de_bin do_add (de_bin do_mul (de_gstr rfl T.g_RISE.choose_spec) (de_attr T.f_own_rises (de_name 0))) (de_bin do_mul (de_gstr rfl T.g_STEP.choose_spec) (de_attr T.f_own_steps (de_name 0)))) da_nil))))))
theorem ok_lowest {f : Addr} {fd : FuncData} (F : Fun K "lowest" "lowest" s_lowest f fd) (T : Tx K mg c) (D_require_slope : Df P w K mg base c "require_slope" 1 1 m_require_slope) (C_Way : Ck P w K mg base c "Way" 1 3 2 m_Way_init) (D_can_step : Df P w K mg base c "can_step" 1 3 m_can_step) : FnG P w K mg base (L2.CX P w) 5 f fd ["slope"] (spD K c 1 m_lowest) := by
  refine dok F sc_lowest _ rfl (by decide) fun cdv A outer s H E hr W tk => ?_
  have hu := hr.units
  exact (ds_cons (ds_expr (de_call D_require_slope tk (hr.mono (by decide)) (ml_cons ml_nil) (da_cons (de_name 0) da_nil)))
  (ds_cons (ds_par3 (i := 1) (j := 2) (l := 3) sc_lowest.nd (dps_cons (dp_inl de_str) (dps_cons (dp_inl (de_attr T.f_own_rises (de_name 0))) (dps_cons (dp_inl (de_attr T.f_own_steps (de_name 0))) dps_nil))))
  (ds_cons (ds_while (passes_of rfl) (dt_cmp do_gt (de_bin do_add (de_name 2) (de_name 3)) de_int)
  (ds_one (ds_if (dt_val (de_call D_can_step tk (hr.mono (by decide)) (ml_cons (ml_cons (ml_cons ml_nil))) (da_cons (de_name 0) (da_cons (de_name 2) (da_cons (de_name 3) da_nil)))))
  (ds_one (ds_par2 (i := 1) (j := 3) sc_lowest.nd (dps_cons (dp_inl (de_bin do_add (de_name 1) (de_gstr rfl T.g_STEP.choose_spec))) (dps_cons (dp_inl (de_bin do_sub (de_name 3) de_int)) dps_nil))))
  (ds_one (ds_par2 (i := 1) (j := 2) sc_lowest.nd (dps_cons (dp_inl (de_bin do_add (de_name 1) (de_gstr rfl T.g_RISE.choose_spec))) (dps_cons (dp_inl (de_bin do_sub (de_name 2) de_int)) dps_nil)))))))
  (ds_one (ds_ret (de_make C_Way tk (hr.mono (by decide)) (ml_cons (ml_cons ml_nil)) (da_cons (de_name 0) (da_cons (de_name 1) da_nil))))))))
theorem ok_is_way {f : Addr} {fd : FuncData} (F : Fun K "is_way" "is_way" s_is_way f fd) (T : Tx K mg c) (D_require_slope : Df P w K mg base c "require_slope" 1 1 m_require_slope) (D_is_way_text : Df P w K mg base c "is_way_text" 2 2 m_is_way_text) : FnG P w K mg base (L2.CX P w) 3 f fd ["slope", "value"] (spD K c 2 m_is_way) := by
  refine dok F sc_is_way _ rfl (by decide) fun cdv A outer s H E hr W tk => ?_
  have hu := hr.units
  exact (ds_cons (ds_expr (de_call D_require_slope tk (hr.mono (by decide)) (ml_cons ml_nil) (da_cons (de_name 0) da_nil)))
  (ds_one (ds_ret (de_call D_is_way_text tk (hr.mono (by decide)) (ml_cons (ml_cons ml_nil)) (da_cons (de_name 0) (da_cons (de_name 1) da_nil))))))
theorem ok_Way_lt {f : Addr} {fd : FuncData} (F : Fun K "__lt__" "Way.__lt__" s_Way_lt f fd) (T : Tx K mg c)  : FnG P w K mg base (L2.CX P w) 1 f fd ["self", "other"] (spD K c 2 m_Way_lt) := by
  refine dok F sc_Way_lt _ rfl (by decide) fun cdv A outer s H E hr W tk => ?_
  have hu := hr.units
  exact (ds_cons (ds_if (dt_not (dt_val (de_isi T.i_Way (.own _) (de_name 1) (pe_glob (v := .ref (c.cls 1)) rfl T.k_Way rfl) T.n_isinstance)))
  (ds_one ds_never)
  ds_nil)
  (ds_one (ds_ret (de_cmp (do_ltX hu) (de_attr T.f_own_key (de_name 0)) (de_attr T.f_own_key (de_name 1))))))
theorem ok__law_right {f cdc PT : Addr} {fd : FuncData} (F : Fun K "_law_right" "_law_right" s__law_right f fd) (own : fd.code = .ref cdc) (tbb : LamX.TabB base mg cdc PT) (tbl : (PT, lamName "_law_right") ∈ c.tb) (tbo : ∀ p ∈ c.tb, p.1 = PT → p.2 = lamName "_law_right") (T : Tx K mg c) (D__law_any_slope : Df P w K mg base c "_law_any_slope" 2 2 m__law_any_slope) (D__law_index : Df P w K mg base c "_law_index" 1 4 m__law_index) (D__law_pick : Df P w K mg base c "_law_pick" 2 2 m__law_pick) (C_Slope : Ck P w K mg base c "Slope" 0 4 2 m_Slope_init) (D__law_ends : Df P w K mg base c "_law_ends" 1 2 m__law_ends) (D__law_way : Df P w K mg base c "_law_way" 2 3 m__law_way) (C_Way : Ck P w K mg base c "Way" 1 3 2 m_Way_init) (O_Way_eq : Of P w K mg base c 1 "__eq__" 1 m_Way_eq) (D__law_roll : Df P w K mg base c "_law_roll" 1 2 m__law_roll) (D_way_at : Df P w K mg base c "way_at" 5 2 m_way_at) (Q__law_first_fault : ToldF P w K mg base c "_law_first_fault" 5 (some (.str "")) cs__law_first_fault) (D_way_count : Df P w K mg base c "way_count" 2 1 m_way_count) (D_way_index : Df P w K mg base c "way_index" 3 1 m_way_index) (D_highest : Df P w K mg base c "highest" 5 1 m_highest) (D_lowest : Df P w K mg base c "lowest" 5 1 m_lowest) (D_is_way : Df P w K mg base c "is_way" 3 2 m_is_way) (O_Way_lt : Of P w K mg base c 1 "__lt__" 1 m_Way_lt) (P_Way_text : Pf P w K mg base c 1 "text" 1 m_Way_text) : FnG P w K mg base (L2.CX P w) 9 f fd ["_law_dice_here"] (spD K c 1 m__law_right) := by
  refine dokC F own sc__law_right _ rfl (by decide) fun A outer s H E hr W tk => ?_
  have hu := hr.units
  exact (ds_cons (ds_set (i := 1) sc__law_right.nd (de_callL (i := 0) D__law_any_slope tk (hr.mono (by decide)) (ml_cons ml_nil) (da_cons (de_callL (i := 0) D__law_pick tk (hr.mono (by decide)) (ml_cons ml_nil) (da_cons (de_frz (do_lst (da_cons de_int (da_cons de_int (da_cons de_int da_nil))))) da_nil)) da_nil)))
  (ds_cons (ds_par2 (i := 2) (j := 3) sc__law_right.nd (dps_cons (dp_inl (de_ix (de_name 1) de_int)) (dps_cons (dp_inl (de_ix (de_name 1) de_int)) dps_nil)))
  (ds_cons (ds_parT (is := [4, 5, 6]) (dps_cons (dp_inl (de_make C_Slope tk (hr.mono (by decide)) (ml_cons (ml_cons ml_nil)) (da_cons (de_name 2) (da_cons (de_name 3) da_nil)))) (dps_cons (dp_inl (de_call D__law_ends tk (hr.mono (by decide)) (ml_cons (ml_cons ml_nil)) (da_cons (de_name 2) (da_cons (de_name 3) da_nil)))) (dps_cons (dp_inl (de_callL (i := 0) D__law_way tk (hr.mono (by decide)) (ml_cons (ml_cons ml_nil)) (da_cons (de_name 2) (da_cons (de_name 3) da_nil)))) dps_nil))) (gn_cons (i := 4) sc__law_right.nd (gn_cons (i := 5) sc__law_right.nd (gn_cons (i := 6) sc__law_right.nd gn_nil))))
  (ds_cons (ds_par2 (i := 7) (j := 8) sc__law_right.nd (dps_cons (dp_inl (de_ix (de_ix (de_name 5) (de_name 2)) (de_name 3))) (dps_cons (dp_inl (de_make C_Way tk (hr.mono (by decide)) (ml_cons (ml_cons ml_nil)) (da_cons (de_name 4) (da_cons (de_name 6) da_nil)))) dps_nil)))
  (ds_cons (ds_set (i := 9) sc__law_right.nd (de_call D__law_index tk (hr.mono (by decide)) (ml_cons (ml_cons (ml_cons (ml_cons ml_nil)))) (da_cons (de_name 5) (da_cons (de_name 2) (da_cons (de_name 3) (da_cons (de_name 6) da_nil))))))
  (ds_cons (ds_if (PW.pt (dt_or (dt_cmp (do_ne hu) (de_call D_way_count tk (hr.mono (by decide)) (ml_cons ml_nil) (da_cons (de_name 4) da_nil)) (de_name 7)) (dt_or (dt_cmp (do_ne hu) (de_call D_way_index tk (hr.mono (by decide)) (ml_cons ml_nil) (da_cons (de_name 8) da_nil)) (de_name 9)) (dt_or1 (dt_cmp (do_ownNe O_Way_eq T.N_Way (hr.mono (by decide)) (do_ne hu)) (de_call D_way_at tk (hr.mono (by decide)) (ml_cons (ml_cons ml_nil)) (da_cons (de_name 4) (da_cons (de_name 9) da_nil))) (de_name 8))))))
  (ds_one (ds_ret de_bl))
  ds_nil)
  (ds_cons (ds_if (PW.pt (dt_or (dt_cmp (do_ownNe O_Way_eq T.N_Way (hr.mono (by decide)) (do_ne hu)) (de_call D_way_at tk (hr.mono (by decide)) (ml_cons (ml_cons ml_nil)) (da_cons (de_name 4) (da_cons de_int da_nil))) (de_call D_highest tk (hr.mono (by decide)) (ml_cons ml_nil) (da_cons (de_name 4) da_nil))) (dt_or1 (dt_cmp (do_ownNe O_Way_eq T.N_Way (hr.mono (by decide)) (do_ne hu)) (de_call D_way_at tk (hr.mono (by decide)) (ml_cons (ml_cons ml_nil)) (da_cons (de_name 4) (da_cons (de_bin do_sub (de_name 7) de_int) da_nil))) (de_call D_lowest tk (hr.mono (by decide)) (ml_cons ml_nil) (da_cons (de_name 4) da_nil))))))
  (ds_one (ds_ret de_bl))
  ds_nil)
  (ds_cons (ds_for (passes_of rfl) (di_any (de_tup (da_cons (de_name 9) (da_cons (de_callL (i := 0) D__law_roll tk (hr.mono (by decide)) (ml_cons ml_nil) (da_cons (de_name 7) da_nil)) (da_cons (de_callB (cd_min rfl) rfl T.n_min (by decide +kernel) (da_cons de_int (da_cons (de_bin do_sub (de_name 7) de_int) da_nil))) (da_cons (de_callB (cd_max rfl) rfl T.n_max (by decide +kernel) (da_cons de_int (da_cons (de_bin do_sub (de_name 7) de_int) da_nil))) da_nil)))))) (dg_name (i := 10) sc__law_right.nd)
  (ds_cons (ds_set (i := 11) sc__law_right.nd (de_call D_way_at tk (hr.mono (by decide)) (ml_cons (ml_cons ml_nil)) (da_cons (de_name 4) (da_cons (de_name 10) da_nil))))
  (ds_cons (ds_if (PW.pt (dt_or (dt_not (dt_val (de_call D_is_way tk (hr.mono (by decide)) (ml_cons (ml_cons ml_nil)) (da_cons (de_name 4) (da_cons (de_prop P_Way_text (hr.mono (by decide)) (de_name 11)) da_nil))))) (dt_or (dt_cmp (do_ne hu) (de_call D_way_index tk (hr.mono (by decide)) (ml_cons ml_nil) (da_cons (de_name 11) da_nil)) (de_name 10)) (dt_or1 (dt_cmp (do_ne hu) (de_call D__law_index tk (hr.mono (by decide)) (ml_cons (ml_cons (ml_cons (ml_cons ml_nil)))) (da_cons (de_name 5) (da_cons (de_name 2) (da_cons (de_name 3) (da_cons (de_prop P_Way_text (hr.mono (by decide)) (de_name 11)) da_nil))))) (de_name 10))))))
  (ds_one (ds_ret de_bl))
  ds_nil)
  (ds_one (ds_if (PW.pt (dt_and (dt_cmp do_lt (de_bin do_add (de_name 10) de_int) (de_name 7)) (dt_and1 (dt_not (dt_cmp (do_own (fun _ _ => rfl) O_Way_lt (hr.mono (by decide)) do_lt) (de_name 11) (de_call D_way_at tk (hr.mono (by decide)) (ml_cons (ml_cons ml_nil)) (da_cons (de_name 4) (da_cons (de_bin do_add (de_name 10) de_int) da_nil))))))))
  (ds_one (ds_ret de_bl))
  ds_nil)))))
  (ds_cons (ds_set (i := 12) sc__law_right.nd (de_callL (i := 0) D__law_pick tk (hr.mono (by decide)) (ml_cons ml_nil) (da_cons (de_frz (do_lst (da_cons (de_neg de_int) (da_cons (de_name 7) (da_cons (de_bin do_add (de_name 7) de_int) (da_cons de_non (da_cons de_bl (da_cons de_str (da_cons (de_frz (do_lst (da_cons de_int da_nil))) da_nil))))))))) da_nil)))
  (ds_one (ds_ret (de_cmp (do_eq hu) (de_lam Q__law_first_fault tbb rfl tbl tbo (hr.mono (by decide)) (LamX.lamS_by (by rfl)) rfl (fun _ _ _ _ _ => rfl) (fun A1 outer1 s1 H1 E1 f1 b1 hr => have hu := hr.units; (de_call D_way_at (takes_of rfl rfl rfl rfl) (hr.mono (by decide)) (ml_cons (ml_cons ml_nil)) (da_cons (de_name 4) (da_cons (de_name 12) da_nil))))) (de_bin do_add de_str (de_callB (cd_repr hr.sh) rfl T.n_repr (by decide +kernel) (da_cons (de_name 12) da_nil)))))))))))))))
theorem ok_law {f : Addr} {fd : FuncData} (F : Fun K "law" "law" s_law f fd) (T : Tx K mg c) (D__law_dice : DfO P w K mg base c "_law_dice" 1 2 m__law_dice) (P_Way_text : Pf P w K mg base c 1 "text" 1 m_Way_text) (D_way_index : Df P w K mg base c "way_index" 3 1 m_way_index) (D__law_right : Df P w K mg base c "_law_right" 9 1 m__law_right) (D_way_at : Df P w K mg base c "way_at" 5 2 m_way_at) (C_Way : Ck P w K mg base c "Way" 1 3 2 m_Way_init) (C_Slope : Ck P w K mg base c "Slope" 0 4 2 m_Slope_init) : FnG P w K mg base (L2.CX P w) 10 f fd ["_law_script"] (spD K c 1 m_law) := by
  refine dok F sc_law _ rfl (by decide) fun cdv A outer s H E hr W tk => ?_
  have hu := hr.units
  exact (ds_cons (ds_for (passes_of rfl) (di_range1 T.n_range (da_cons (de_callB (cd_max rfl) rfl T.n_max (by decide +kernel) (da_cons de_int (da_cons (de_callB (cd_min rfl) rfl T.n_min (by decide +kernel) (da_cons de_int (da_cons (de_callB cd_len rfl T.n_len (by decide +kernel) (da_cons (de_name 0) da_nil)) da_nil))) da_nil))) da_nil) (ml_cons ml_nil)) (dg_name (i := 1) sc_law.nd)
  (ds_cons (ds_setO (i := 2) sc_law.nd (do_call D__law_dice tk (hr.mono (by decide)) (ml_cons (ml_cons ml_nil)) (da_cons (de_name 0) (da_cons (de_name 1) da_nil))))
  (ds_one (ds_for (passes_of rfl) (di_range1 T.n_range (da_cons de_int da_nil) (ml_cons ml_nil)) (dg_name (i := 3) sc_law.nd)
  (ds_one (ds_if (dt_not (dt_val (de_callL (i := 2) D__law_right tk (hr.mono (by decide)) ml_nil da_nil)))
  (ds_one (ds_ret de_bl))
  ds_nil))))))
  (ds_one (ds_ret (de_and (de_cmp (do_eq hu) (de_prop P_Way_text (hr.mono (by decide)) (de_call D_way_at tk (hr.mono (by decide)) (ml_cons (ml_cons ml_nil)) (da_cons (de_make C_Slope tk (hr.mono (by decide)) (ml_cons (ml_cons ml_nil)) (da_cons de_int (da_cons de_int da_nil))) (da_cons de_int da_nil)))) de_str) (de_one (de_cmp (do_eq hu) (de_call D_way_index tk (hr.mono (by decide)) (ml_cons ml_nil) (da_cons (de_make C_Way tk (hr.mono (by decide)) (ml_cons (ml_cons ml_nil)) (da_cons (de_make C_Slope tk (hr.mono (by decide)) (ml_cons (ml_cons ml_nil)) (da_cons de_int (da_cons de_int da_nil))) (da_cons de_str da_nil))) da_nil)) de_int))))))
end
end K04
set_option Elab.async false
set_option linter.all false
set_option maxRecDepth 100000
set_option maxHeartbeats 4000000
namespace K04
open PySem PySem.Spec PyProof.Rows L2 L2.DL
theorem all_mk {P : Program} {w : World} {K : PySem.W.Frag} {h : Heap} {mg : Str → Option Value} {fa : Addr} {C0 : Addr}
    {C1 : Addr}
    {C2 : Addr}
    {C3 : Addr}
    {C4 : Addr}
    {C5 : Addr}
    {C6 : Addr}
    {C7 : Addr}
    {C8 : Addr}
    {fx7 ccx7 cdx7 : Addr} {odx7 anx7 cddx7 cldx7 : Option Addr} {slx7 ccsx7 cslx7 : Array (Option Value)} {ocx7 kVx7 dcx7 pmx7 ctx7 cclx7 clx7 : Value} {vsx7 : Array Value} {flx7 : Str} {tfx7 : Tok}
    {f0 : Addr} {od0 an0 : Option Addr} {sl0 : Array (Option Value)} {oc0 kV0 dc0 pm0 cd0 ct0 : Value}
    {f1 : Addr} {od1 an1 : Option Addr} {sl1 : Array (Option Value)} {oc1 kV1 dc1 pm1 cd1 ct1 : Value}
    {p1 : Addr} {rs1 : List Value}
    {f2 : Addr} {od2 an2 : Option Addr} {sl2 : Array (Option Value)} {oc2 kV2 dc2 pm2 cd2 ct2 : Value}
    {f3 : Addr} {od3 an3 : Option Addr} {sl3 : Array (Option Value)} {oc3 kV3 dc3 pm3 cd3 ct3 : Value}
    {f4 : Addr} {od4 an4 : Option Addr} {sl4 : Array (Option Value)} {oc4 kV4 dc4 pm4 cd4 ct4 : Value}
    {f5 : Addr} {od5 an5 : Option Addr} {sl5 : Array (Option Value)} {oc5 kV5 dc5 pm5 cd5 ct5 : Value}
    {f6 : Addr} {od6 an6 : Option Addr} {sl6 : Array (Option Value)} {oc6 kV6 dc6 pm6 cd6 ct6 : Value}
    {f7 : Addr} {od7 an7 : Option Addr} {sl7 : Array (Option Value)} {oc7 kV7 dc7 pm7 cd7 ct7 : Value}
    {f8 : Addr} {od8 an8 : Option Addr} {sl8 : Array (Option Value)} {oc8 kV8 dc8 pm8 cd8 ct8 : Value}
    {f9 : Addr} {od9 an9 : Option Addr} {sl9 : Array (Option Value)} {oc9 kV9 dc9 pm9 cd9 ct9 : Value}
    {f10 : Addr} {od10 an10 : Option Addr} {sl10 : Array (Option Value)} {oc10 kV10 dc10 pm10 cd10 ct10 : Value}
    {f11 : Addr} {od11 an11 : Option Addr} {sl11 : Array (Option Value)} {oc11 kV11 dc11 pm11 cd11 ct11 : Value}
    {f12 : Addr} {od12 an12 : Option Addr} {sl12 : Array (Option Value)} {oc12 kV12 dc12 pm12 cd12 ct12 : Value}
    {f13 : Addr} {od13 an13 : Option Addr} {sl13 : Array (Option Value)} {oc13 kV13 dc13 pm13 cd13 ct13 : Value}
    {f14 : Addr} {od14 an14 : Option Addr} {sl14 : Array (Option Value)} {oc14 kV14 dc14 pm14 cd14 ct14 : Value}
    {f15 : Addr} {od15 an15 : Option Addr} {sl15 : Array (Option Value)} {oc15 kV15 dc15 pm15 cd15 ct15 : Value}
    {f16 : Addr} {od16 an16 : Option Addr} {sl16 : Array (Option Value)} {oc16 kV16 dc16 pm16 cd16 ct16 : Value}
    {f17 : Addr} {od17 an17 : Option Addr} {sl17 : Array (Option Value)} {oc17 kV17 dc17 pm17 cd17 ct17 : Value}
    {f18 : Addr} {od18 an18 : Option Addr} {sl18 : Array (Option Value)} {oc18 kV18 dc18 pm18 cd18 ct18 : Value}
    {f19 : Addr} {od19 an19 : Option Addr} {sl19 : Array (Option Value)} {oc19 kV19 dc19 pm19 cd19 ct19 : Value}
    {f20 : Addr} {od20 an20 : Option Addr} {sl20 : Array (Option Value)} {oc20 kV20 dc20 pm20 cd20 ct20 : Value}
    {f21 : Addr} {od21 an21 : Option Addr} {sl21 : Array (Option Value)} {oc21 kV21 dc21 pm21 cd21 ct21 : Value}
    {f22 : Addr} {od22 an22 : Option Addr} {sl22 : Array (Option Value)} {oc22 kV22 dc22 pm22 cd22 ct22 : Value}
    {f23 : Addr} {od23 an23 : Option Addr} {sl23 : Array (Option Value)} {oc23 kV23 dc23 pm23 cd23 ct23 : Value}
    {f24 : Addr} {od24 an24 : Option Addr} {sl24 : Array (Option Value)} {oc24 kV24 dc24 pm24 cd24 ct24 : Value}
    {f25 : Addr} {od25 an25 : Option Addr} {sl25 : Array (Option Value)} {oc25 kV25 dc25 pm25 cd25 ct25 : Value}
    {f26 : Addr} {od26 an26 : Option Addr} {sl26 : Array (Option Value)} {oc26 kV26 dc26 pm26 cd26 ct26 : Value}
    {f27 : Addr} {od27 an27 : Option Addr} {sl27 : Array (Option Value)} {oc27 kV27 dc27 pm27 cd27 ct27 : Value}
    {f28 : Addr} {od28 an28 : Option Addr} {sl28 : Array (Option Value)} {oc28 kV28 dc28 pm28 cd28 ct28 : Value}
    {f29 : Addr} {od29 an29 : Option Addr} {sl29 : Array (Option Value)} {oc29 kV29 dc29 pm29 cd29 ct29 : Value}
    {f30 : Addr} {od30 an30 : Option Addr} {sl30 : Array (Option Value)} {oc30 kV30 dc30 pm30 ct30 : Value}
    {cc30 PT30 : Addr} {tcl30 : Value} {tcd30 : Option Addr} {tv30 : Array Value} {tsl30 : Array (Option Value)}
    {f31 : Addr} {od31 an31 : Option Addr} {sl31 : Array (Option Value)} {oc31 kV31 dc31 pm31 cd31 ct31 : Value}
    {t_GREATEST : Tok}
    {t_MAX_SIDE : Tok}
    {t_RISE : Tok}
    {t_STEP : Tok}
    {p_s_Slope_own_common : Addr}
    {p_s_Slope_own_rises : Addr}
    {p_s_Slope_own_steps : Addr}
    {p_s_Way_own_key : Addr}
    {p_s_Way_own_slope : Addr}
    {p_s_Way_own_text : Addr} (KX : K.In h) (G : h.Ns mainGlobals mg) (hfa : mg "law" = some (.ref fa))
    (a_Slope : PySem.W.nsIn K mainGlobals "Slope" = some (some (.ref C0)))
    (a_Way : PySem.W.nsIn K mainGlobals "Way" = some (some (.ref C1)))
    (a_InvalidSlope : PySem.W.nsIn K mainGlobals "InvalidSlope" = some (some (.ref C2)))
    (kc_InvalidSlope : PySem.W.keepIn K (.ref C2) = true)
    (ic_InvalidSlope : PySem.W.isClsIn K C2 = true)
    (ex_InvalidSlope : PySem.W.subIn K (.ref C2) (.type "BaseException") = some true)
    (ty_InvalidSlope : PySem.W.typeIn K (.ref C2) = some (.type "type"))
    (xe_InvalidSlope : PySem.W.excIn K C2 [.type "ValueError", .type "Exception", .type "BaseException", .type "object"] "ValueError.__new__" = true)
    (a_InvalidWay : PySem.W.nsIn K mainGlobals "InvalidWay" = some (some (.ref C3)))
    (kc_InvalidWay : PySem.W.keepIn K (.ref C3) = true)
    (ic_InvalidWay : PySem.W.isClsIn K C3 = true)
    (ex_InvalidWay : PySem.W.subIn K (.ref C3) (.type "BaseException") = some true)
    (ty_InvalidWay : PySem.W.typeIn K (.ref C3) = some (.type "type"))
    (xe_InvalidWay : PySem.W.excIn K C3 [.type "ValueError", .type "Exception", .type "BaseException", .type "object"] "ValueError.__new__" = true)
    (a_InvalidText : PySem.W.nsIn K mainGlobals "InvalidText" = some (some (.ref C4)))
    (kc_InvalidText : PySem.W.keepIn K (.ref C4) = true)
    (ic_InvalidText : PySem.W.isClsIn K C4 = true)
    (ex_InvalidText : PySem.W.subIn K (.ref C4) (.type "BaseException") = some true)
    (ty_InvalidText : PySem.W.typeIn K (.ref C4) = some (.type "type"))
    (a_InvalidOperation : PySem.W.nsIn K mainGlobals "InvalidOperation" = some (some (.ref C5)))
    (kc_InvalidOperation : PySem.W.keepIn K (.ref C5) = true)
    (ic_InvalidOperation : PySem.W.isClsIn K C5 = true)
    (ex_InvalidOperation : PySem.W.subIn K (.ref C5) (.type "BaseException") = some true)
    (ty_InvalidOperation : PySem.W.typeIn K (.ref C5) = some (.type "type"))
    (a_ParseError : PySem.W.nsIn K mainGlobals "ParseError" = some (some (.ref C6)))
    (kc_ParseError : PySem.W.keepIn K (.ref C6) = true)
    (ic_ParseError : PySem.W.isClsIn K C6 = true)
    (ex_ParseError : PySem.W.subIn K (.ref C6) (.type "BaseException") = some true)
    (ty_ParseError : PySem.W.typeIn K (.ref C6) = some (.type "type"))
    (ga_ParseError : PySem.W.findIn K (.ref C6) "__getattribute__" = some (some (.builtin "BaseException.__getattribute__")))
    (gg_ParseError : PySem.W.findIn K (.ref C6) "__getattr__" = some none)
    (gf_ParseError : PySem.W.findIn K (.ref C6) "index" = some none)
    (hd_ParseError : PySem.W.hasDictIn K C6 = true)
    (a_InvalidNumber : PySem.W.nsIn K mainGlobals "InvalidNumber" = some (some (.ref C7)))
    (kc_InvalidNumber : PySem.W.keepIn K (.ref C7) = true)
    (ic_InvalidNumber : PySem.W.isClsIn K C7 = true)
    (ex_InvalidNumber : PySem.W.subIn K (.ref C7) (.type "BaseException") = some true)
    (ty_InvalidNumber : PySem.W.typeIn K (.ref C7) = some (.type "type"))
    (ga_InvalidNumber : PySem.W.findIn K (.ref C7) "__getattribute__" = some (some (.builtin "BaseException.__getattribute__")))
    (gg_InvalidNumber : PySem.W.findIn K (.ref C7) "__getattr__" = some none)
    (gf_InvalidNumber : PySem.W.findIn K (.ref C7) "value" = some none)
    (hd_InvalidNumber : PySem.W.hasDictIn K C7 = true)
    (a_Refused : PySem.W.nsIn K mainGlobals "Refused" = some (some (.ref C8)))
    (kc_Refused : PySem.W.keepIn K (.ref C8) = true)
    (ic_Refused : PySem.W.isClsIn K C8 = true)
    (ex_Refused : PySem.W.subIn K (.ref C8) (.type "BaseException") = some true)
    (ty_Refused : PySem.W.typeIn K (.ref C8) = some (.type "type"))
    (ga_Refused : PySem.W.findIn K (.ref C8) "__getattribute__" = some (some (.builtin "BaseException.__getattribute__")))
    (gg_Refused : PySem.W.findIn K (.ref C8) "__getattr__" = some none)
    (gf_Refused : PySem.W.findIn K (.ref C8) "reason" = some none)
    (hd_Refused : PySem.W.hasDictIn K C8 = true)
    (n_super : PySem.W.nsIn K mainGlobals "super" = some none)
    (n_any : PySem.W.nsIn K cStatics "thirdparty.any" = some none)
    (top_super : (P.main.scope.names.lookup ("super" : Str)).isSome = false)
    (hs_InvalidNumber : PySem.W.mroIn K C7 (.ref C7) = some true)
    (st_InvalidNumber : PySem.W.findIn K (.ref C7) "__setattr__" = some (some (.builtin "object.__setattr__")))
    (tk_InvalidNumber : PySem.W.takerIn K C7 "value" = some none)
    (in_InvalidNumber : PySem.W.findIn K (.ref C7) "__init__" = some (some (.ref fx7)))
    (fn_InvalidNumber : PySem.W.isFn K (.ref fx7) = true)
    (sb_InvalidNumber : PySem.W.subIn K (.ref C7) (.type "IndexError") = some true)
    (sp_InvalidNumber : PySem.W.ks_superIn K C7 C7 "__init__" = some (some (.builtin "IndexError.__init__")))
    (ei_InvalidNumber : PySem.W.excInitIn K C7 [.type "IndexError", .type "LookupError", .type "Exception", .type "BaseException", .type "object"] "IndexError.__new__" = true)
    (eo_InvalidNumber : PySem.W.excOver K C7 [.type "IndexError", .type "LookupError", .type "Exception", .type "BaseException", .type "object"] = true)
    (lx_InvalidNumber : K.lookup fx7 = some ⟨ocx7, odx7, .func (PySem.W.ksFn "__init__" "InvalidNumber.__init__" (defArgs (inClass (top 9) 0)) (defBody (inClass (top 9) 0)) (defScope (inClass (top 9) 0)) .none kVx7 dcx7 pmx7 anx7 (.ref cdx7) ctx7 ccx7), slx7⟩)
    (cx_InvalidNumber : PySem.W.codeIn K (.ref cdx7) "InvalidNumber.__init__" = true)
    (co_InvalidNumber : K.lookup cdx7 = some ⟨cclx7, cddx7, .fields vsx7, ccsx7⟩)
    (vs_InvalidNumber : vsx7[2]? = some (.str flx7 tfx7))
    (fi_InvalidNumber : ((P.main.file : Str) == flx7) = true)
    (ce_InvalidNumber : K.lookup ccx7 = some ⟨clx7, cldx7, .cell (some (.ref C7)), cslx7⟩)
    (a0 : PySem.W.nsIn K mainGlobals "_law_dice" = some (some (.ref f0)))
    (l0 : K.lookup f0 = some ⟨oc0, od0, .func (PySem.W.fnOf "_law_dice" "_law_dice" (defArgs s__law_dice) (defBody s__law_dice) (defScope s__law_dice) .none kV0 dc0 pm0 an0 cd0 ct0), sl0⟩)
    (c0 : PySem.W.codeIn K cd0 "_law_dice" = true)
    (k0 : PySem.W.keepIn K (.ref f0) = true)
    (a1 : PySem.W.findIn K (.ref C1) "text" = some (some (.ref p1)))
    (b1 : PySem.W.specialIn K (.ref p1) "__get__" = some (some (.builtin "property.__get__")))
    (t1 : PySem.W.takesIn K (.ref p1) = some true)
    (r1 : PySem.W.recIn K p1 "property" = some (.ref f1 :: rs1))
    (l1 : K.lookup f1 = some ⟨oc1, od1, .func (PySem.W.fnOf "text" "Way.text" (defArgs s_Way_text) (defBody s_Way_text) (defScope s_Way_text) .none kV1 dc1 pm1 an1 cd1 ct1), sl1⟩)
    (c1 : PySem.W.codeIn K cd1 "Way.text" = true)
    (k1 : PySem.W.keepIn K (.ref f1) = true)
    (a2 : PySem.W.nsIn K mainGlobals "require_way" = some (some (.ref f2)))
    (l2 : K.lookup f2 = some ⟨oc2, od2, .func (PySem.W.fnOf "require_way" "require_way" (defArgs s_require_way) (defBody s_require_way) (defScope s_require_way) .none kV2 dc2 pm2 an2 cd2 ct2), sl2⟩)
    (c2 : PySem.W.codeIn K cd2 "require_way" = true)
    (k2 : PySem.W.keepIn K (.ref f2) = true)
    (a3 : PySem.W.nsIn K mainGlobals "can_step" = some (some (.ref f3)))
    (l3 : K.lookup f3 = some ⟨oc3, od3, .func (PySem.W.fnOf "can_step" "can_step" (defArgs s_can_step) (defBody s_can_step) (defScope s_can_step) .none kV3 dc3 pm3 an3 cd3 ct3), sl3⟩)
    (c3 : PySem.W.codeIn K cd3 "can_step" = true)
    (k3 : PySem.W.keepIn K (.ref f3) = true)
    (a4 : PySem.W.nsIn K mainGlobals "ends_of" = some (some (.ref f4)))
    (l4 : K.lookup f4 = some ⟨oc4, od4, .func (PySem.W.fnOf "ends_of" "ends_of" (defArgs s_ends_of) (defBody s_ends_of) (defScope s_ends_of) .none kV4 dc4 pm4 an4 cd4 ct4), sl4⟩)
    (c4 : PySem.W.codeIn K cd4 "ends_of" = true)
    (k4 : PySem.W.keepIn K (.ref f4) = true)
    (a5 : PySem.W.nsIn K mainGlobals "way_index" = some (some (.ref f5)))
    (l5 : K.lookup f5 = some ⟨oc5, od5, .func (PySem.W.fnOf "way_index" "way_index" (defArgs s_way_index) (defBody s_way_index) (defScope s_way_index) .none kV5 dc5 pm5 an5 cd5 ct5), sl5⟩)
    (c5 : PySem.W.codeIn K cd5 "way_index" = true)
    (k5 : PySem.W.keepIn K (.ref f5) = true)
    (a6 : PySem.W.nsIn K mainGlobals "_law_roll" = some (some (.ref f6)))
    (l6 : K.lookup f6 = some ⟨oc6, od6, .func (PySem.W.fnOf "_law_roll" "_law_roll" (defArgs s__law_roll) (defBody s__law_roll) (defScope s__law_roll) .none kV6 dc6 pm6 an6 cd6 ct6), sl6⟩)
    (c6 : PySem.W.codeIn K cd6 "_law_roll" = true)
    (k6 : PySem.W.keepIn K (.ref f6) = true)
    (a7 : PySem.W.nsIn K mainGlobals "_law_any_slope" = some (some (.ref f7)))
    (l7 : K.lookup f7 = some ⟨oc7, od7, .func (PySem.W.fnOf "_law_any_slope" "_law_any_slope" (defArgs s__law_any_slope) (defBody s__law_any_slope) (defScope s__law_any_slope) .none kV7 dc7 pm7 an7 cd7 ct7), sl7⟩)
    (c7 : PySem.W.codeIn K cd7 "_law_any_slope" = true)
    (k7 : PySem.W.keepIn K (.ref f7) = true)
    (a8 : PySem.W.nsIn K mainGlobals "_law_index" = some (some (.ref f8)))
    (l8 : K.lookup f8 = some ⟨oc8, od8, .func (PySem.W.fnOf "_law_index" "_law_index" (defArgs s__law_index) (defBody s__law_index) (defScope s__law_index) .none kV8 dc8 pm8 an8 cd8 ct8), sl8⟩)
    (c8 : PySem.W.codeIn K cd8 "_law_index" = true)
    (k8 : PySem.W.keepIn K (.ref f8) = true)
    (a9 : PySem.W.nsIn K mainGlobals "_law_pick" = some (some (.ref f9)))
    (l9 : K.lookup f9 = some ⟨oc9, od9, .func (PySem.W.fnOf "_law_pick" "_law_pick" (defArgs s__law_pick) (defBody s__law_pick) (defScope s__law_pick) .none kV9 dc9 pm9 an9 cd9 ct9), sl9⟩)
    (c9 : PySem.W.codeIn K cd9 "_law_pick" = true)
    (k9 : PySem.W.keepIn K (.ref f9) = true)
    (a10 : PySem.W.nsIn K mainGlobals "is_integer" = some (some (.ref f10)))
    (l10 : K.lookup f10 = some ⟨oc10, od10, .func (PySem.W.fnOf "is_integer" "is_integer" (defArgs s_is_integer) (defBody s_is_integer) (defScope s_is_integer) .none kV10 dc10 pm10 an10 cd10 ct10), sl10⟩)
    (c10 : PySem.W.codeIn K cd10 "is_integer" = true)
    (k10 : PySem.W.keepIn K (.ref f10) = true)
    (a11 : PySem.W.nsIn K mainGlobals "is_from" = some (some (.ref f11)))
    (l11 : K.lookup f11 = some ⟨oc11, od11, .func (PySem.W.fnOf "is_from" "is_from" (defArgs s_is_from) (defBody s_is_from) (defScope s_is_from) .none kV11 dc11 pm11 an11 cd11 ct11), sl11⟩)
    (c11 : PySem.W.codeIn K cd11 "is_from" = true)
    (k11 : PySem.W.keepIn K (.ref f11) = true)
    (a12 : PySem.W.nsIn K mainGlobals "require_from" = some (some (.ref f12)))
    (l12 : K.lookup f12 = some ⟨oc12, od12, .func (PySem.W.fnOf "require_from" "require_from" (defArgs s_require_from) (defBody s_require_from) (defScope s_require_from) .none kV12 dc12 pm12 an12 cd12 ct12), sl12⟩)
    (c12 : PySem.W.codeIn K cd12 "require_from" = true)
    (k12 : PySem.W.keepIn K (.ref f12) = true)
    (a13 : PySem.W.findIn K (.ref C0) "__init__" = some (some (.ref f13)))
    (i13 : PySem.W.isFn K (.ref f13) = true)
    (l13 : K.lookup f13 = some ⟨oc13, od13, .func (PySem.W.fnOf "__init__" "Slope.__init__" (defArgs s_Slope_init) (defBody s_Slope_init) (defScope s_Slope_init) .none kV13 dc13 pm13 an13 cd13 ct13), sl13⟩)
    (c13 : PySem.W.codeIn K cd13 "Slope.__init__" = true)
    (k13 : PySem.W.keepIn K (.ref f13) = true)
    (a14 : PySem.W.nsIn K mainGlobals "_law_ends" = some (some (.ref f14)))
    (l14 : K.lookup f14 = some ⟨oc14, od14, .func (PySem.W.fnOf "_law_ends" "_law_ends" (defArgs s__law_ends) (defBody s__law_ends) (defScope s__law_ends) .none kV14 dc14 pm14 an14 cd14 ct14), sl14⟩)
    (c14 : PySem.W.codeIn K cd14 "_law_ends" = true)
    (k14 : PySem.W.keepIn K (.ref f14) = true)
    (a15 : PySem.W.nsIn K mainGlobals "_law_way" = some (some (.ref f15)))
    (l15 : K.lookup f15 = some ⟨oc15, od15, .func (PySem.W.fnOf "_law_way" "_law_way" (defArgs s__law_way) (defBody s__law_way) (defScope s__law_way) .none kV15 dc15 pm15 an15 cd15 ct15), sl15⟩)
    (c15 : PySem.W.codeIn K cd15 "_law_way" = true)
    (k15 : PySem.W.keepIn K (.ref f15) = true)
    (a16 : PySem.W.nsIn K mainGlobals "require_slope" = some (some (.ref f16)))
    (l16 : K.lookup f16 = some ⟨oc16, od16, .func (PySem.W.fnOf "require_slope" "require_slope" (defArgs s_require_slope) (defBody s_require_slope) (defScope s_require_slope) .none kV16 dc16 pm16 an16 cd16 ct16), sl16⟩)
    (c16 : PySem.W.codeIn K cd16 "require_slope" = true)
    (k16 : PySem.W.keepIn K (.ref f16) = true)
    (a17 : PySem.W.nsIn K mainGlobals "is_text_of" = some (some (.ref f17)))
    (l17 : K.lookup f17 = some ⟨oc17, od17, .func (PySem.W.fnOf "is_text_of" "is_text_of" (defArgs s_is_text_of) (defBody s_is_text_of) (defScope s_is_text_of) .none kV17 dc17 pm17 an17 cd17 ct17), sl17⟩)
    (c17 : PySem.W.codeIn K cd17 "is_text_of" = true)
    (k17 : PySem.W.keepIn K (.ref f17) = true)
    (a18 : PySem.W.nsIn K mainGlobals "levels_of" = some (some (.ref f18)))
    (l18 : K.lookup f18 = some ⟨oc18, od18, .func (PySem.W.fnOf "levels_of" "levels_of" (defArgs s_levels_of) (defBody s_levels_of) (defScope s_levels_of) .none kV18 dc18 pm18 an18 cd18 ct18), sl18⟩)
    (c18 : PySem.W.codeIn K cd18 "levels_of" = true)
    (k18 : PySem.W.keepIn K (.ref f18) = true)
    (a19 : PySem.W.nsIn K mainGlobals "is_way_text" = some (some (.ref f19)))
    (l19 : K.lookup f19 = some ⟨oc19, od19, .func (PySem.W.fnOf "is_way_text" "is_way_text" (defArgs s_is_way_text) (defBody s_is_way_text) (defScope s_is_way_text) .none kV19 dc19 pm19 an19 cd19 ct19), sl19⟩)
    (c19 : PySem.W.codeIn K cd19 "is_way_text" = true)
    (k19 : PySem.W.keepIn K (.ref f19) = true)
    (a20 : PySem.W.findIn K (.ref C1) "__init__" = some (some (.ref f20)))
    (i20 : PySem.W.isFn K (.ref f20) = true)
    (l20 : K.lookup f20 = some ⟨oc20, od20, .func (PySem.W.fnOf "__init__" "Way.__init__" (defArgs s_Way_init) (defBody s_Way_init) (defScope s_Way_init) .none kV20 dc20 pm20 an20 cd20 ct20), sl20⟩)
    (c20 : PySem.W.codeIn K cd20 "Way.__init__" = true)
    (k20 : PySem.W.keepIn K (.ref f20) = true)
    (a21 : PySem.W.findIn K (.ref C1) "__eq__" = some (some (.ref f21)))
    (i21 : PySem.W.isFn K (.ref f21) = true)
    (l21 : K.lookup f21 = some ⟨oc21, od21, .func (PySem.W.fnOf "__eq__" "Way.__eq__" (defArgs s_Way_eq) (defBody s_Way_eq) (defScope s_Way_eq) .none kV21 dc21 pm21 an21 cd21 ct21), sl21⟩)
    (c21 : PySem.W.codeIn K cd21 "Way.__eq__" = true)
    (k21 : PySem.W.keepIn K (.ref f21) = true)
    (a22 : PySem.W.nsIn K mainGlobals "count_of_ways" = some (some (.ref f22)))
    (l22 : K.lookup f22 = some ⟨oc22, od22, .func (PySem.W.fnOf "count_of_ways" "count_of_ways" (defArgs s_count_of_ways) (defBody s_count_of_ways) (defScope s_count_of_ways) .none kV22 dc22 pm22 an22 cd22 ct22), sl22⟩)
    (c22 : PySem.W.codeIn K cd22 "count_of_ways" = true)
    (k22 : PySem.W.keepIn K (.ref f22) = true)
    (a23 : PySem.W.nsIn K mainGlobals "way_at" = some (some (.ref f23)))
    (l23 : K.lookup f23 = some ⟨oc23, od23, .func (PySem.W.fnOf "way_at" "way_at" (defArgs s_way_at) (defBody s_way_at) (defScope s_way_at) .none kV23 dc23 pm23 an23 cd23 ct23), sl23⟩)
    (c23 : PySem.W.codeIn K cd23 "way_at" = true)
    (k23 : PySem.W.keepIn K (.ref f23) = true)
    (a24 : PySem.W.nsIn K mainGlobals "_law_first_fault" = some (some (.ref f24)))
    (l24 : K.lookup f24 = some ⟨oc24, od24, .func (PySem.W.fnOf "_law_first_fault" "_law_first_fault" (defArgs s__law_first_fault) (defBody s__law_first_fault) (defScope s__law_first_fault) .none kV24 dc24 pm24 an24 cd24 ct24), sl24⟩)
    (c24 : PySem.W.codeIn K cd24 "_law_first_fault" = true)
    (k24 : PySem.W.keepIn K (.ref f24) = true)
    (a25 : PySem.W.nsIn K mainGlobals "way_count" = some (some (.ref f25)))
    (l25 : K.lookup f25 = some ⟨oc25, od25, .func (PySem.W.fnOf "way_count" "way_count" (defArgs s_way_count) (defBody s_way_count) (defScope s_way_count) .none kV25 dc25 pm25 an25 cd25 ct25), sl25⟩)
    (c25 : PySem.W.codeIn K cd25 "way_count" = true)
    (k25 : PySem.W.keepIn K (.ref f25) = true)
    (a26 : PySem.W.nsIn K mainGlobals "highest" = some (some (.ref f26)))
    (l26 : K.lookup f26 = some ⟨oc26, od26, .func (PySem.W.fnOf "highest" "highest" (defArgs s_highest) (defBody s_highest) (defScope s_highest) .none kV26 dc26 pm26 an26 cd26 ct26), sl26⟩)
    (c26 : PySem.W.codeIn K cd26 "highest" = true)
    (k26 : PySem.W.keepIn K (.ref f26) = true)
    (a27 : PySem.W.nsIn K mainGlobals "lowest" = some (some (.ref f27)))
    (l27 : K.lookup f27 = some ⟨oc27, od27, .func (PySem.W.fnOf "lowest" "lowest" (defArgs s_lowest) (defBody s_lowest) (defScope s_lowest) .none kV27 dc27 pm27 an27 cd27 ct27), sl27⟩)
    (c27 : PySem.W.codeIn K cd27 "lowest" = true)
    (k27 : PySem.W.keepIn K (.ref f27) = true)
    (a28 : PySem.W.nsIn K mainGlobals "is_way" = some (some (.ref f28)))
    (l28 : K.lookup f28 = some ⟨oc28, od28, .func (PySem.W.fnOf "is_way" "is_way" (defArgs s_is_way) (defBody s_is_way) (defScope s_is_way) .none kV28 dc28 pm28 an28 cd28 ct28), sl28⟩)
    (c28 : PySem.W.codeIn K cd28 "is_way" = true)
    (k28 : PySem.W.keepIn K (.ref f28) = true)
    (a29 : PySem.W.findIn K (.ref C1) "__lt__" = some (some (.ref f29)))
    (i29 : PySem.W.isFn K (.ref f29) = true)
    (l29 : K.lookup f29 = some ⟨oc29, od29, .func (PySem.W.fnOf "__lt__" "Way.__lt__" (defArgs s_Way_lt) (defBody s_Way_lt) (defScope s_Way_lt) .none kV29 dc29 pm29 an29 cd29 ct29), sl29⟩)
    (c29 : PySem.W.codeIn K cd29 "Way.__lt__" = true)
    (k29 : PySem.W.keepIn K (.ref f29) = true)
    (a30 : PySem.W.nsIn K mainGlobals "_law_right" = some (some (.ref f30)))
    (l30 : K.lookup f30 = some ⟨oc30, od30, .func (PySem.W.fnOf "_law_right" "_law_right" (defArgs s__law_right) (defBody s__law_right) (defScope s__law_right) .none kV30 dc30 pm30 an30 (.ref cc30) ct30), sl30⟩)
    (c30 : PySem.W.codeIn K (.ref cc30) "_law_right" = true)
    (tc30 : K.lookup cc30 = some ⟨tcl30, tcd30, .fields tv30, tsl30⟩)
    (tp30 : tv30[11]? = some (.ref PT30))
    (np30 : K.lookup PT30 = none)
    (k30 : PySem.W.keepIn K (.ref f30) = true)
    (a31 : PySem.W.nsIn K mainGlobals "law" = some (some (.ref f31)))
    (l31 : K.lookup f31 = some ⟨oc31, od31, .func (PySem.W.fnOf "law" "law" (defArgs s_law) (defBody s_law) (defScope s_law) .none kV31 dc31 pm31 an31 cd31 ct31), sl31⟩)
    (c31 : PySem.W.codeIn K cd31 "law" = true)
    (k31 : PySem.W.keepIn K (.ref f31) = true)
    (pg_Slope : PySem.W.plainGet K C0 Str.empty = true)
    (ic_Slope : PySem.W.isClsIn K C0 = true)
    (po_Slope : PySem.W.plainOver K C0 = true)
    (sa_Slope : PySem.W.findIn K (.ref C0) "__setattr__" = some (some (.builtin "object.__setattr__")))
    (ca_Slope : PySem.W.findIn K (.ref C0) "__class__" = some (some (.builtin "object.__class__")))
    (cn_Slope : PySem.W.specialIn K (.builtin "object.__class__") "__get__" = some (some (.builtin "getset_descriptor.__get__")))
    (ct_Slope : PySem.W.takesIn K (.builtin "object.__class__") = some true)
    (cm_Slope : PySem.W.mroIn K C0 (.type "object") = some true)
    (mk_Slope : PySem.W.makesIn K C0 = true)
    (kc_Slope : PySem.W.keepIn K (.ref C0) = true)
    (pg_Way : PySem.W.plainGet K C1 Str.empty = true)
    (ic_Way : PySem.W.isClsIn K C1 = true)
    (po_Way : PySem.W.plainOver K C1 = true)
    (sa_Way : PySem.W.findIn K (.ref C1) "__setattr__" = some (some (.builtin "object.__setattr__")))
    (ca_Way : PySem.W.findIn K (.ref C1) "__class__" = some (some (.builtin "object.__class__")))
    (cn_Way : PySem.W.specialIn K (.builtin "object.__class__") "__get__" = some (some (.builtin "getset_descriptor.__get__")))
    (ct_Way : PySem.W.takesIn K (.builtin "object.__class__") = some true)
    (cm_Way : PySem.W.mroIn K C1 (.type "object") = some true)
    (mk_Way : PySem.W.makesIn K C1 = true)
    (kc_Way : PySem.W.keepIn K (.ref C1) = true)
    (ne_Way : PySem.W.findIn K (.ref C1) "__ne__" = some (some (.builtin "object.__ne__")))
    (z_comb : PySem.W.nsIn K mainGlobals "comb" = some (some (.builtin "math.comb")))
    (z_gcd : PySem.W.nsIn K mainGlobals "gcd" = some (some (.builtin "math.gcd")))
    (z_GREATEST : PySem.W.nsIn K mainGlobals "GREATEST" = some (some (.int (1000000000000000000000000000000000000000000000000000000000000) t_GREATEST)))
    (z_MAX_SIDE : PySem.W.nsIn K mainGlobals "MAX_SIDE" = some (some (.int (60) t_MAX_SIDE)))
    (z_RISE : PySem.W.nsIn K mainGlobals "RISE" = some (some (.str "r" t_RISE)))
    (z_STEP : PySem.W.nsIn K mainGlobals "STEP" = some (some (.str "s" t_STEP)))
    (su_2_7 : PySem.W.subIn K (.ref C2) (.ref C7) = some false)
    (su_3_7 : PySem.W.subIn K (.ref C3) (.ref C7) = some false)
    (su_4_7 : PySem.W.subIn K (.ref C4) (.ref C7) = some false)
    (su_5_7 : PySem.W.subIn K (.ref C5) (.ref C7) = some false)
    (su_6_7 : PySem.W.subIn K (.ref C6) (.ref C7) = some false)
    (su_7_7 : PySem.W.subIn K (.ref C7) (.ref C7) = some true)
    (su_8_7 : PySem.W.subIn K (.ref C8) (.ref C7) = some false)
    (su_2_5 : PySem.W.subIn K (.ref C2) (.ref C5) = some false)
    (su_3_5 : PySem.W.subIn K (.ref C3) (.ref C5) = some false)
    (su_4_5 : PySem.W.subIn K (.ref C4) (.ref C5) = some false)
    (su_5_5 : PySem.W.subIn K (.ref C5) (.ref C5) = some true)
    (su_6_5 : PySem.W.subIn K (.ref C6) (.ref C5) = some false)
    (su_7_5 : PySem.W.subIn K (.ref C7) (.ref C5) = some false)
    (su_8_5 : PySem.W.subIn K (.ref C8) (.ref C5) = some false)
    (su_2_2 : PySem.W.subIn K (.ref C2) (.ref C2) = some true)
    (su_3_2 : PySem.W.subIn K (.ref C3) (.ref C2) = some false)
    (su_4_2 : PySem.W.subIn K (.ref C4) (.ref C2) = some false)
    (su_5_2 : PySem.W.subIn K (.ref C5) (.ref C2) = some false)
    (su_6_2 : PySem.W.subIn K (.ref C6) (.ref C2) = some false)
    (su_7_2 : PySem.W.subIn K (.ref C7) (.ref C2) = some false)
    (su_8_2 : PySem.W.subIn K (.ref C8) (.ref C2) = some false)
    (su_2_4 : PySem.W.subIn K (.ref C2) (.ref C4) = some false)
    (su_3_4 : PySem.W.subIn K (.ref C3) (.ref C4) = some false)
    (su_4_4 : PySem.W.subIn K (.ref C4) (.ref C4) = some true)
    (su_5_4 : PySem.W.subIn K (.ref C5) (.ref C4) = some false)
    (su_6_4 : PySem.W.subIn K (.ref C6) (.ref C4) = some false)
    (su_7_4 : PySem.W.subIn K (.ref C7) (.ref C4) = some false)
    (su_8_4 : PySem.W.subIn K (.ref C8) (.ref C4) = some false)
    (su_2_3 : PySem.W.subIn K (.ref C2) (.ref C3) = some false)
    (su_3_3 : PySem.W.subIn K (.ref C3) (.ref C3) = some true)
    (su_4_3 : PySem.W.subIn K (.ref C4) (.ref C3) = some false)
    (su_5_3 : PySem.W.subIn K (.ref C5) (.ref C3) = some false)
    (su_6_3 : PySem.W.subIn K (.ref C6) (.ref C3) = some false)
    (su_7_3 : PySem.W.subIn K (.ref C7) (.ref C3) = some false)
    (su_8_3 : PySem.W.subIn K (.ref C8) (.ref C3) = some false)
    (su_2_6 : PySem.W.subIn K (.ref C2) (.ref C6) = some false)
    (su_3_6 : PySem.W.subIn K (.ref C3) (.ref C6) = some false)
    (su_4_6 : PySem.W.subIn K (.ref C4) (.ref C6) = some false)
    (su_5_6 : PySem.W.subIn K (.ref C5) (.ref C6) = some false)
    (su_6_6 : PySem.W.subIn K (.ref C6) (.ref C6) = some true)
    (su_7_6 : PySem.W.subIn K (.ref C7) (.ref C6) = some false)
    (su_8_6 : PySem.W.subIn K (.ref C8) (.ref C6) = some false)
    (su_2_8 : PySem.W.subIn K (.ref C2) (.ref C8) = some false)
    (su_3_8 : PySem.W.subIn K (.ref C3) (.ref C8) = some false)
    (su_4_8 : PySem.W.subIn K (.ref C4) (.ref C8) = some false)
    (su_5_8 : PySem.W.subIn K (.ref C5) (.ref C8) = some false)
    (su_6_8 : PySem.W.subIn K (.ref C6) (.ref C8) = some false)
    (su_7_8 : PySem.W.subIn K (.ref C7) (.ref C8) = some false)
    (su_8_8 : PySem.W.subIn K (.ref C8) (.ref C8) = some true)
    (z_abs : PySem.W.nsIn K mainGlobals "abs" = some none)
    (z_bool : PySem.W.nsIn K mainGlobals "bool" = some none)
    (z_int : PySem.W.nsIn K mainGlobals "int" = some none)
    (z_isinstance : PySem.W.nsIn K mainGlobals "isinstance" = some none)
    (z_len : PySem.W.nsIn K mainGlobals "len" = some none)
    (z_max : PySem.W.nsIn K mainGlobals "max" = some none)
    (z_min : PySem.W.nsIn K mainGlobals "min" = some none)
    (z_range : PySem.W.nsIn K mainGlobals "range" = some none)
    (z_repr : PySem.W.nsIn K mainGlobals "repr" = some none)
    (z_str : PySem.W.nsIn K mainGlobals "str" = some none)
    (z_sum : PySem.W.nsIn K mainGlobals "sum" = some none)
    (sf_s_Slope_own_common : PySem.W.findIn K (.ref C0) "own_common" = some (some (.ref p_s_Slope_own_common)))
    (sg_s_Slope_own_common : PySem.W.specialIn K (.ref p_s_Slope_own_common) "__get__" = some (some (.builtin "member_descriptor.__get__")))
    (st_s_Slope_own_common : PySem.W.takesIn K (.ref p_s_Slope_own_common) = some true)
    (sy_s_Slope_own_common : PySem.W.typeIn K (.ref p_s_Slope_own_common) = some (.type "member_descriptor"))
    (si_s_Slope_own_common : PySem.W.slotIn K p_s_Slope_own_common C0 = some 0)
    (sf_s_Slope_own_rises : PySem.W.findIn K (.ref C0) "own_rises" = some (some (.ref p_s_Slope_own_rises)))
    (sg_s_Slope_own_rises : PySem.W.specialIn K (.ref p_s_Slope_own_rises) "__get__" = some (some (.builtin "member_descriptor.__get__")))
    (st_s_Slope_own_rises : PySem.W.takesIn K (.ref p_s_Slope_own_rises) = some true)
    (sy_s_Slope_own_rises : PySem.W.typeIn K (.ref p_s_Slope_own_rises) = some (.type "member_descriptor"))
    (si_s_Slope_own_rises : PySem.W.slotIn K p_s_Slope_own_rises C0 = some 1)
    (sf_s_Slope_own_steps : PySem.W.findIn K (.ref C0) "own_steps" = some (some (.ref p_s_Slope_own_steps)))
    (sg_s_Slope_own_steps : PySem.W.specialIn K (.ref p_s_Slope_own_steps) "__get__" = some (some (.builtin "member_descriptor.__get__")))
    (st_s_Slope_own_steps : PySem.W.takesIn K (.ref p_s_Slope_own_steps) = some true)
    (sy_s_Slope_own_steps : PySem.W.typeIn K (.ref p_s_Slope_own_steps) = some (.type "member_descriptor"))
    (si_s_Slope_own_steps : PySem.W.slotIn K p_s_Slope_own_steps C0 = some 2)
    (sf_s_Way_own_key : PySem.W.findIn K (.ref C1) "own_key" = some (some (.ref p_s_Way_own_key)))
    (sg_s_Way_own_key : PySem.W.specialIn K (.ref p_s_Way_own_key) "__get__" = some (some (.builtin "member_descriptor.__get__")))
    (st_s_Way_own_key : PySem.W.takesIn K (.ref p_s_Way_own_key) = some true)
    (sy_s_Way_own_key : PySem.W.typeIn K (.ref p_s_Way_own_key) = some (.type "member_descriptor"))
    (si_s_Way_own_key : PySem.W.slotIn K p_s_Way_own_key C1 = some 0)
    (sf_s_Way_own_slope : PySem.W.findIn K (.ref C1) "own_slope" = some (some (.ref p_s_Way_own_slope)))
    (sg_s_Way_own_slope : PySem.W.specialIn K (.ref p_s_Way_own_slope) "__get__" = some (some (.builtin "member_descriptor.__get__")))
    (st_s_Way_own_slope : PySem.W.takesIn K (.ref p_s_Way_own_slope) = some true)
    (sy_s_Way_own_slope : PySem.W.typeIn K (.ref p_s_Way_own_slope) = some (.type "member_descriptor"))
    (si_s_Way_own_slope : PySem.W.slotIn K p_s_Way_own_slope C1 = some 1)
    (sf_s_Way_own_text : PySem.W.findIn K (.ref C1) "own_text" = some (some (.ref p_s_Way_own_text)))
    (sg_s_Way_own_text : PySem.W.specialIn K (.ref p_s_Way_own_text) "__get__" = some (some (.builtin "member_descriptor.__get__")))
    (st_s_Way_own_text : PySem.W.takesIn K (.ref p_s_Way_own_text) = some true)
    (sy_s_Way_own_text : PySem.W.typeIn K (.ref p_s_Way_own_text) = some (.type "member_descriptor"))
    (si_s_Way_own_text : PySem.W.slotIn K p_s_Way_own_text C1 = some 2)
    (u_Slope_bool : PySem.W.kitOne K (.type "bool") (.ref C0) = some false)
    (u_Slope_int : PySem.W.kitOne K (.type "int") (.ref C0) = some false)
    (u_Slope_str : PySem.W.kitOne K (.type "str") (.ref C0) = some false)
    (u_Slope_list : PySem.W.kitOne K (.type "list") (.ref C0) = some false)
    (u_Slope_tuple : PySem.W.kitOne K (.type "tuple") (.ref C0) = some false)
    (u_Slope_NoneType : PySem.W.kitOne K (.type "NoneType") (.ref C0) = some false)
    (v_Slope_0 : PySem.W.kitOne K (.ref C0) (.ref C0) = some true)
    (v_Slope_1 : PySem.W.kitOne K (.ref C1) (.ref C0) = some false)
    (u_Way_bool : PySem.W.kitOne K (.type "bool") (.ref C1) = some false)
    (u_Way_int : PySem.W.kitOne K (.type "int") (.ref C1) = some false)
    (u_Way_str : PySem.W.kitOne K (.type "str") (.ref C1) = some false)
    (u_Way_list : PySem.W.kitOne K (.type "list") (.ref C1) = some false)
    (u_Way_tuple : PySem.W.kitOne K (.type "tuple") (.ref C1) = some false)
    (u_Way_NoneType : PySem.W.kitOne K (.type "NoneType") (.ref C1) = some false)
    (v_Way_0 : PySem.W.kitOne K (.ref C0) (.ref C1) = some false)
    (v_Way_1 : PySem.W.kitOne K (.ref C1) (.ref C1) = some true)
    (u_bool_bool : PySem.W.kitOne K (.type "bool") (.type "bool") = some true)
    (u_bool_int : PySem.W.kitOne K (.type "int") (.type "bool") = some false)
    (u_bool_str : PySem.W.kitOne K (.type "str") (.type "bool") = some false)
    (u_bool_list : PySem.W.kitOne K (.type "list") (.type "bool") = some false)
    (u_bool_tuple : PySem.W.kitOne K (.type "tuple") (.type "bool") = some false)
    (u_bool_NoneType : PySem.W.kitOne K (.type "NoneType") (.type "bool") = some false)
    (v_bool_0 : PySem.W.kitOne K (.ref C0) (.type "bool") = some false)
    (v_bool_1 : PySem.W.kitOne K (.ref C1) (.type "bool") = some false)
    (u_int_bool : PySem.W.kitOne K (.type "bool") (.type "int") = some true)
    (u_int_int : PySem.W.kitOne K (.type "int") (.type "int") = some true)
    (u_int_str : PySem.W.kitOne K (.type "str") (.type "int") = some false)
    (u_int_list : PySem.W.kitOne K (.type "list") (.type "int") = some false)
    (u_int_tuple : PySem.W.kitOne K (.type "tuple") (.type "int") = some false)
    (u_int_NoneType : PySem.W.kitOne K (.type "NoneType") (.type "int") = some false)
    (v_int_0 : PySem.W.kitOne K (.ref C0) (.type "int") = some false)
    (v_int_1 : PySem.W.kitOne K (.ref C1) (.type "int") = some false)
    (u_str_bool : PySem.W.kitOne K (.type "bool") (.type "str") = some false)
    (u_str_int : PySem.W.kitOne K (.type "int") (.type "str") = some false)
    (u_str_str : PySem.W.kitOne K (.type "str") (.type "str") = some true)
    (u_str_list : PySem.W.kitOne K (.type "list") (.type "str") = some false)
    (u_str_tuple : PySem.W.kitOne K (.type "tuple") (.type "str") = some false)
    (u_str_NoneType : PySem.W.kitOne K (.type "NoneType") (.type "str") = some false)
    (v_str_0 : PySem.W.kitOne K (.ref C0) (.type "str") = some false)
    (v_str_1 : PySem.W.kitOne K (.ref C1) (.type "str") = some false) :
    ∃ (fd : FuncData) (cs : List (Addr × Addr × Str)), (∀ p ∈ cs, ∃ x ∈ (["_law_right"] : List Str), PySem.W.tabIn K x = some (p.1, p.2.1)) ∧ (∀ p ∈ cs, K.lookup p.2.1 = none) ∧ (∀ (s : Shared) (u : Value), BindsTo s fd ⟨[u], []⟩ [("_law_script", u)]) ∧ ∀ base : Heap, K.In base → base.Ns mainGlobals mg → (∀ p ∈ cs, LamX.TabB base mg p.1 p.2.1) → FnG P w K mg base (L2.CX P w) 10 fa fd ["_law_script"] (spLaw K (cs.map fun p => (p.2.1, p.2.2)) m_law) := by
  have e := hfa.symm.trans (PySem.W.mg_of KX G a31)
  cases e
  have hc_Slope : SlX.SCls K C0 ∧ SlX.SIsi K C0 := ⟨⟨pg_Slope, ic_Slope, po_Slope, sa_Slope⟩, ⟨ca_Slope, cn_Slope, ct_Slope, cm_Slope⟩⟩
  have hc_Way : SlX.SCls K C1 ∧ SlX.SIsi K C1 := ⟨⟨pg_Way, ic_Way, po_Way, sa_Way⟩, ⟨ca_Way, cn_Way, ct_Way, cm_Way⟩⟩
  have hs_Slope_own_common : ∃ p, SlX.Slot1 K C0 "own_common" p 0 := ⟨_, ⟨sf_s_Slope_own_common, sg_s_Slope_own_common, st_s_Slope_own_common, sy_s_Slope_own_common, si_s_Slope_own_common, by decide⟩⟩
  have hs_Slope_own_rises : ∃ p, SlX.Slot1 K C0 "own_rises" p 1 := ⟨_, ⟨sf_s_Slope_own_rises, sg_s_Slope_own_rises, st_s_Slope_own_rises, sy_s_Slope_own_rises, si_s_Slope_own_rises, by decide⟩⟩
  have hs_Slope_own_steps : ∃ p, SlX.Slot1 K C0 "own_steps" p 2 := ⟨_, ⟨sf_s_Slope_own_steps, sg_s_Slope_own_steps, st_s_Slope_own_steps, sy_s_Slope_own_steps, si_s_Slope_own_steps, by decide⟩⟩
  have hs_Way_own_key : ∃ p, SlX.Slot1 K C1 "own_key" p 0 := ⟨_, ⟨sf_s_Way_own_key, sg_s_Way_own_key, st_s_Way_own_key, sy_s_Way_own_key, si_s_Way_own_key, by decide⟩⟩
  have hs_Way_own_slope : ∃ p, SlX.Slot1 K C1 "own_slope" p 1 := ⟨_, ⟨sf_s_Way_own_slope, sg_s_Way_own_slope, st_s_Way_own_slope, sy_s_Way_own_slope, si_s_Way_own_slope, by decide⟩⟩
  have hs_Way_own_text : ∃ p, SlX.Slot1 K C1 "own_text" p 2 := ⟨_, ⟨sf_s_Way_own_text, sg_s_Way_own_text, st_s_Way_own_text, sy_s_Way_own_text, si_s_Way_own_text, by decide⟩⟩
  have T : Tx K mg ⟨fun n => [C0, C1, C2, C3, C4, C5, C6, C7, C8].getD n 0, fun n => (["", "", "", "", "", "", "index", "value", "reason"] : List Str).getD n "", [(PT30, lamName "_law_right")]⟩ := {
    c_Slope := hc_Slope,
    c_Way := hc_Way,
    N_Way := ⟨ne_Way, cm_Way⟩,
    b_comb := PySem.W.mg_of KX G z_comb,
    b_gcd := PySem.W.mg_of KX G z_gcd,
    f_own_common := sf_of (mcons ⟨hc_Slope.1, hs_Slope_own_common⟩ mnil),
    f_own_key := sf_of (mcons ⟨hc_Way.1, hs_Way_own_key⟩ mnil),
    f_own_rises := sf_of (mcons ⟨hc_Slope.1, hs_Slope_own_rises⟩ mnil),
    f_own_slope := sf_of (mcons ⟨hc_Way.1, hs_Way_own_slope⟩ mnil),
    f_own_steps := sf_of (mcons ⟨hc_Slope.1, hs_Slope_own_steps⟩ mnil),
    f_own_text := sf_of (mcons ⟨hc_Way.1, hs_Way_own_text⟩ mnil),
    g_GREATEST := ⟨_, PySem.W.mg_of KX G z_GREATEST⟩,
    g_MAX_SIDE := ⟨_, PySem.W.mg_of KX G z_MAX_SIDE⟩,
    g_RISE := ⟨_, PySem.W.mg_of KX G z_RISE⟩,
    g_STEP := ⟨_, PySem.W.mg_of KX G z_STEP⟩,
    k_InvalidNumber := PySem.W.mg_of KX G a_InvalidNumber,
    k_InvalidOperation := PySem.W.mg_of KX G a_InvalidOperation,
    k_InvalidSlope := PySem.W.mg_of KX G a_InvalidSlope,
    k_InvalidText := PySem.W.mg_of KX G a_InvalidText,
    k_InvalidWay := PySem.W.mg_of KX G a_InvalidWay,
    k_ParseError := PySem.W.mg_of KX G a_ParseError,
    k_Refused := PySem.W.mg_of KX G a_Refused,
    k_Slope := PySem.W.mg_of KX G a_Slope,
    k_Way := PySem.W.mg_of KX G a_Way,
    m_InvalidNumber := xm_of ex_InvalidNumber ty_InvalidNumber ic_InvalidNumber (mcons su_2_7 (mcons su_3_7 (mcons su_4_7 (mcons su_5_7 (mcons su_6_7 (mcons su_7_7 (mcons su_8_7 mnil))))))),
    m_InvalidOperation := xm_of ex_InvalidOperation ty_InvalidOperation ic_InvalidOperation (mcons su_2_5 (mcons su_3_5 (mcons su_4_5 (mcons su_5_5 (mcons su_6_5 (mcons su_7_5 (mcons su_8_5 mnil))))))),
    m_InvalidSlope := xm_of ex_InvalidSlope ty_InvalidSlope ic_InvalidSlope (mcons su_2_2 (mcons su_3_2 (mcons su_4_2 (mcons su_5_2 (mcons su_6_2 (mcons su_7_2 (mcons su_8_2 mnil))))))),
    m_InvalidText := xm_of ex_InvalidText ty_InvalidText ic_InvalidText (mcons su_2_4 (mcons su_3_4 (mcons su_4_4 (mcons su_5_4 (mcons su_6_4 (mcons su_7_4 (mcons su_8_4 mnil))))))),
    m_InvalidWay := xm_of ex_InvalidWay ty_InvalidWay ic_InvalidWay (mcons su_2_3 (mcons su_3_3 (mcons su_4_3 (mcons su_5_3 (mcons su_6_3 (mcons su_7_3 (mcons su_8_3 mnil))))))),
    m_ParseError := xm_of ex_ParseError ty_ParseError ic_ParseError (mcons su_2_6 (mcons su_3_6 (mcons su_4_6 (mcons su_5_6 (mcons su_6_6 (mcons su_7_6 (mcons su_8_6 mnil))))))),
    m_Refused := xm_of ex_Refused ty_Refused ic_Refused (mcons su_2_8 (mcons su_3_8 (mcons su_4_8 (mcons su_5_8 (mcons su_6_8 (mcons su_7_8 (mcons su_8_8 mnil))))))),
    n_abs := PySem.W.mg_none_of KX G z_abs,
    n_bool := PySem.W.mg_none_of KX G z_bool,
    n_int := PySem.W.mg_none_of KX G z_int,
    n_isinstance := PySem.W.mg_none_of KX G z_isinstance,
    n_len := PySem.W.mg_none_of KX G z_len,
    n_max := PySem.W.mg_none_of KX G z_max,
    n_min := PySem.W.mg_none_of KX G z_min,
    n_range := PySem.W.mg_none_of KX G z_range,
    n_repr := PySem.W.mg_none_of KX G z_repr,
    n_str := PySem.W.mg_none_of KX G z_str,
    n_sum := PySem.W.mg_none_of KX G z_sum,
    s_Slope_own_common := hs_Slope_own_common,
    s_Slope_own_rises := hs_Slope_own_rises,
    s_Slope_own_steps := hs_Slope_own_steps,
    s_Way_own_key := hs_Way_own_key,
    s_Way_own_slope := hs_Way_own_slope,
    s_Way_own_text := hs_Way_own_text,
    u_InvalidNumber := ⟨rfl, ⟨ga_InvalidNumber, gg_InvalidNumber, ex_InvalidNumber, hd_InvalidNumber⟩, gf_InvalidNumber⟩,
    u_ParseError := ⟨rfl, ⟨ga_ParseError, gg_ParseError, ex_ParseError, hd_ParseError⟩, gf_ParseError⟩,
    u_Refused := ⟨rfl, ⟨ga_Refused, gg_Refused, ex_Refused, hd_Refused⟩, gf_Refused⟩,
    y_InvalidSlope := ⟨PySem.W.mg_of KX G a_InvalidSlope, kc_InvalidSlope, ex_InvalidSlope, ty_InvalidSlope, _, _, _, _, PySem.F.excBase_ValueError, xe_InvalidSlope⟩,
    y_InvalidWay := ⟨PySem.W.mg_of KX G a_InvalidWay, kc_InvalidWay, ex_InvalidWay, ty_InvalidWay, _, _, _, _, PySem.F.excBase_ValueError, xe_InvalidWay⟩,
    i_Slope := isiF_of (mcons u_Slope_bool (mcons u_Slope_int (mcons u_Slope_str (mcons u_Slope_list (mcons u_Slope_tuple (mcons u_Slope_NoneType mnil)))))) (mcons ⟨v_Slope_0, hc_Slope.1, hc_Slope.2⟩ (mcons ⟨v_Slope_1, hc_Way.1, hc_Way.2⟩ mnil)),
    i_Way := isiF_of (mcons u_Way_bool (mcons u_Way_int (mcons u_Way_str (mcons u_Way_list (mcons u_Way_tuple (mcons u_Way_NoneType mnil)))))) (mcons ⟨v_Way_0, hc_Slope.1, hc_Slope.2⟩ (mcons ⟨v_Way_1, hc_Way.1, hc_Way.2⟩ mnil)),
    i_bool := isiF_of (mcons u_bool_bool (mcons u_bool_int (mcons u_bool_str (mcons u_bool_list (mcons u_bool_tuple (mcons u_bool_NoneType mnil)))))) (mcons ⟨v_bool_0, hc_Slope.1, hc_Slope.2⟩ (mcons ⟨v_bool_1, hc_Way.1, hc_Way.2⟩ mnil)),
    i_int := isiF_of (mcons u_int_bool (mcons u_int_int (mcons u_int_str (mcons u_int_list (mcons u_int_tuple (mcons u_int_NoneType mnil)))))) (mcons ⟨v_int_0, hc_Slope.1, hc_Slope.2⟩ (mcons ⟨v_int_1, hc_Way.1, hc_Way.2⟩ mnil)),
    i_str := isiF_of (mcons u_str_bool (mcons u_str_int (mcons u_str_str (mcons u_str_list (mcons u_str_tuple (mcons u_str_NoneType mnil)))))) (mcons ⟨v_str_0, hc_Slope.1, hc_Slope.2⟩ (mcons ⟨v_str_1, hc_Way.1, hc_Way.2⟩ mnil)) }
  have F0 := fun_mk (st := s__law_dice) l0 c0 k0
  have B0 := F0.binds (ps := ["_law_script", "_law_spot"]) fun _ _ _ _ _ _ us hl => match us, hl with | [_, _], _ => rfl
  have F1 := fun_mk (st := s_Way_text) l1 c1 k1
  have B1 := F1.binds (ps := ["self"]) fun _ _ _ _ _ _ us hl => match us, hl with | [_], _ => rfl
  have F2 := fun_mk (st := s_require_way) l2 c2 k2
  have B2 := F2.binds (ps := ["value"]) fun _ _ _ _ _ _ us hl => match us, hl with | [_], _ => rfl
  have F3 := fun_mk (st := s_can_step) l3 c3 k3
  have B3 := F3.binds (ps := ["slope", "rises", "steps"]) fun _ _ _ _ _ _ us hl => match us, hl with | [_, _, _], _ => rfl
  have F4 := fun_mk (st := s_ends_of) l4 c4 k4
  have B4 := F4.binds (ps := ["slope"]) fun _ _ _ _ _ _ us hl => match us, hl with | [_], _ => rfl
  have F5 := fun_mk (st := s_way_index) l5 c5 k5
  have B5 := F5.binds (ps := ["way"]) fun _ _ _ _ _ _ us hl => match us, hl with | [_], _ => rfl
  have F6 := fun_mk (st := s__law_roll) l6 c6 k6
  have B6 := F6.binds (ps := ["_law_dice_here", "_law_total"]) fun _ _ _ _ _ _ us hl => match us, hl with | [_, _], _ => rfl
  have F7 := fun_mk (st := s__law_any_slope) l7 c7 k7
  have B7 := F7.binds (ps := ["_law_dice_here", "_law_most"]) fun _ _ _ _ _ _ us hl => match us, hl with | [_, _], _ => rfl
  have F8 := fun_mk (st := s__law_index) l8 c8 k8
  have B8 := F8.binds (ps := ["_law_ends_here", "_law_rises", "_law_steps", "_law_text"]) fun _ _ _ _ _ _ us hl => match us, hl with | [_, _, _, _], _ => rfl
  have F9 := fun_mk (st := s__law_pick) l9 c9 k9
  have B9 := F9.binds (ps := ["_law_dice_here", "_law_items"]) fun _ _ _ _ _ _ us hl => match us, hl with | [_, _], _ => rfl
  have F10 := fun_mk (st := s_is_integer) l10 c10 k10
  have B10 := F10.binds (ps := ["value"]) fun _ _ _ _ _ _ us hl => match us, hl with | [_], _ => rfl
  have F11 := fun_mk (st := s_is_from) l11 c11 k11
  have B11 := F11.binds (ps := ["value", "least", "most"]) fun _ _ _ _ _ _ us hl => match us, hl with | [_, _, _], _ => rfl
  have F12 := fun_mk (st := s_require_from) l12 c12 k12
  have B12 := F12.binds (ps := ["value", "least", "most"]) fun _ _ _ _ _ _ us hl => match us, hl with | [_, _, _], _ => rfl
  have F13 := fun_mk (st := s_Slope_init) l13 c13 k13
  have B13 := F13.binds (ps := ["self", "rises", "steps"]) fun _ _ _ _ _ _ us hl => match us, hl with | [_, _, _], _ => rfl
  have F14 := fun_mk (st := s__law_ends) l14 c14 k14
  have B14 := F14.binds (ps := ["_law_rises", "_law_steps"]) fun _ _ _ _ _ _ us hl => match us, hl with | [_, _], _ => rfl
  have F15 := fun_mk (st := s__law_way) l15 c15 k15
  have B15 := F15.binds (ps := ["_law_dice_here", "_law_rises", "_law_steps"]) fun _ _ _ _ _ _ us hl => match us, hl with | [_, _, _], _ => rfl
  have F16 := fun_mk (st := s_require_slope) l16 c16 k16
  have B16 := F16.binds (ps := ["value"]) fun _ _ _ _ _ _ us hl => match us, hl with | [_], _ => rfl
  have F17 := fun_mk (st := s_is_text_of) l17 c17 k17
  have B17 := F17.binds (ps := ["slope", "value"]) fun _ _ _ _ _ _ us hl => match us, hl with | [_, _], _ => rfl
  have F18 := fun_mk (st := s_levels_of) l18 c18 k18
  have B18 := F18.binds (ps := ["slope", "text"]) fun _ _ _ _ _ _ us hl => match us, hl with | [_, _], _ => rfl
  have F19 := fun_mk (st := s_is_way_text) l19 c19 k19
  have B19 := F19.binds (ps := ["slope", "value"]) fun _ _ _ _ _ _ us hl => match us, hl with | [_, _], _ => rfl
  have F20 := fun_mk (st := s_Way_init) l20 c20 k20
  have B20 := F20.binds (ps := ["self", "slope", "text"]) fun _ _ _ _ _ _ us hl => match us, hl with | [_, _, _], _ => rfl
  have F21 := fun_mk (st := s_Way_eq) l21 c21 k21
  have B21 := F21.binds (ps := ["self", "other"]) fun _ _ _ _ _ _ us hl => match us, hl with | [_, _], _ => rfl
  have F22 := fun_mk (st := s_count_of_ways) l22 c22 k22
  have B22 := F22.binds (ps := ["slope"]) fun _ _ _ _ _ _ us hl => match us, hl with | [_], _ => rfl
  have F23 := fun_mk (st := s_way_at) l23 c23 k23
  have B23 := F23.binds (ps := ["slope", "index"]) fun _ _ _ _ _ _ us hl => match us, hl with | [_, _], _ => rfl
  have F24 := fun_mk (st := s__law_first_fault) l24 c24 k24
  have B24 := F24.binds (ps := ["_law_call"]) fun _ _ _ _ _ _ us hl => match us, hl with | [_], _ => rfl
  have F25 := fun_mk (st := s_way_count) l25 c25 k25
  have B25 := F25.binds (ps := ["slope"]) fun _ _ _ _ _ _ us hl => match us, hl with | [_], _ => rfl
  have F26 := fun_mk (st := s_highest) l26 c26 k26
  have B26 := F26.binds (ps := ["slope"]) fun _ _ _ _ _ _ us hl => match us, hl with | [_], _ => rfl
  have F27 := fun_mk (st := s_lowest) l27 c27 k27
  have B27 := F27.binds (ps := ["slope"]) fun _ _ _ _ _ _ us hl => match us, hl with | [_], _ => rfl
  have F28 := fun_mk (st := s_is_way) l28 c28 k28
  have B28 := F28.binds (ps := ["slope", "value"]) fun _ _ _ _ _ _ us hl => match us, hl with | [_, _], _ => rfl
  have F29 := fun_mk (st := s_Way_lt) l29 c29 k29
  have B29 := F29.binds (ps := ["self", "other"]) fun _ _ _ _ _ _ us hl => match us, hl with | [_, _], _ => rfl
  have F30 := fun_mk (st := s__law_right) l30 c30 k30
  have B30 := F30.binds (ps := ["_law_dice_here"]) fun _ _ _ _ _ _ us hl => match us, hl with | [_], _ => rfl
  have F31 := fun_mk (st := s_law) l31 c31 k31
  have B31 := F31.binds (ps := ["_law_script"]) fun _ _ _ _ _ _ us hl => match us, hl with | [_], _ => rfl
  have TI30 : PySem.W.tabIn K "_law_right" = some (cc30, PT30) := by
    unfold PySem.W.tabIn
    rw [a30]
    dsimp only
    rw [l30]
    dsimp only [PySem.W.fnOf]
    rw [tc30]
    dsimp only
    rw [tp30]
  refine ⟨PySem.W.fnOf "law" "law" (defArgs s_law) (defBody s_law) (defScope s_law) .none kV31 dc31 pm31 an31 cd31 ct31, [(cc30, PT30, lamName "_law_right")], (mcons ⟨_, by simp, TI30⟩ mnil), (mcons np30 mnil), fun s v => .of_eq rfl, fun base _ _ tabs => ?_⟩
  have X_InvalidNumber : SupC P K mg "InvalidNumber" C7 "value" := ⟨PySem.W.mg_of KX G a_InvalidNumber, kc_InvalidNumber, ex_InvalidNumber, ty_InvalidNumber, PySem.W.mg_none_of KX G n_super, top_super, n_any, Option.isSome_iff_exists.mp ic_InvalidNumber, hs_InvalidNumber, st_InvalidNumber, tk_InvalidNumber, hd_InvalidNumber, _, _, _, _, _, bx_IndexError, in_InvalidNumber, fn_InvalidNumber, sp_InvalidNumber, sb_InvalidNumber, ei_InvalidNumber, eo_InvalidNumber,
    SupF.mk lx_InvalidNumber cx_InvalidNumber (fun _ _ _ => .of_eq rfl) rfl rfl (by decide) (fun _ => rfl) co_InvalidNumber vs_InvalidNumber fi_InvalidNumber ce_InvalidNumber rfl rfl rfl rfl rfl rfl rfl (by decide) (by decide) (by decide)⟩
  have D__law_dice := dfO_of (ok__law_dice (P := P) (w := w) (base := base) F0 T) B0 (PySem.W.mg_of KX G a0) k0
  have P_Way_text := pf_of (cl := 1) (ok_Way_text (P := P) (w := w) (base := base) F1 T) B1 hc_Way.1 a1 b1 t1 r1
  have D_require_way := df_of (ok_require_way (P := P) (w := w) (base := base) F2 T) B2 (PySem.W.mg_of KX G a2) k2
  have D_can_step := df_of (ok_can_step (P := P) (w := w) (base := base) F3 T) B3 (PySem.W.mg_of KX G a3) k3
  have D_ends_of := df_of (ok_ends_of (P := P) (w := w) (base := base) F4 T D_can_step) B4 (PySem.W.mg_of KX G a4) k4
  have D_way_index := df_of (ok_way_index (P := P) (w := w) (base := base) F5 T D_require_way D_ends_of) B5 (PySem.W.mg_of KX G a5) k5
  have D__law_roll := df_of (ok__law_roll (P := P) (w := w) (base := base) F6 T) B6 (PySem.W.mg_of KX G a6) k6
  have D__law_any_slope := df_of (ok__law_any_slope (P := P) (w := w) (base := base) F7 T D__law_roll) B7 (PySem.W.mg_of KX G a7) k7
  have D__law_index := df_of (ok__law_index (P := P) (w := w) (base := base) F8 T) B8 (PySem.W.mg_of KX G a8) k8
  have D__law_pick := df_of (ok__law_pick (P := P) (w := w) (base := base) F9 T D__law_roll) B9 (PySem.W.mg_of KX G a9) k9
  have D_is_integer := df_of (ok_is_integer (P := P) (w := w) (base := base) F10 T) B10 (PySem.W.mg_of KX G a10) k10
  have D_is_from := df_of (ok_is_from (P := P) (w := w) (base := base) F11 T D_is_integer) B11 (PySem.W.mg_of KX G a11) k11
  have D_require_from := df_of (ok_require_from (P := P) (w := w) (base := base) F12 T D_is_from X_InvalidNumber) B12 (PySem.W.mg_of KX G a12) k12
  have C_Slope := ck_of (cl := 0) (ok_Slope_init (P := P) (w := w) (base := base) F13 T D_require_from) B13 (PySem.W.mg_of KX G a_Slope) ⟨mk_Slope, a13, i13, kc_Slope⟩
  have D__law_ends := df_of (ok__law_ends (P := P) (w := w) (base := base) F14 T) B14 (PySem.W.mg_of KX G a14) k14
  have D__law_way := df_of (ok__law_way (P := P) (w := w) (base := base) F15 T D__law_roll) B15 (PySem.W.mg_of KX G a15) k15
  have D_require_slope := df_of (ok_require_slope (P := P) (w := w) (base := base) F16 T) B16 (PySem.W.mg_of KX G a16) k16
  have D_is_text_of := df_of (ok_is_text_of (P := P) (w := w) (base := base) F17 T) B17 (PySem.W.mg_of KX G a17) k17
  have D_levels_of := df_of (ok_levels_of (P := P) (w := w) (base := base) F18 T) B18 (PySem.W.mg_of KX G a18) k18
  have D_is_way_text := df_of (ok_is_way_text (P := P) (w := w) (base := base) F19 T D_is_text_of D_levels_of) B19 (PySem.W.mg_of KX G a19) k19
  have C_Way := ck_of (cl := 1) (ok_Way_init (P := P) (w := w) (base := base) F20 T D_require_slope D_is_way_text) B20 (PySem.W.mg_of KX G a_Way) ⟨mk_Way, a20, i20, kc_Way⟩
  have O_Way_eq := of_of (cl := 1) (m := "__eq__") (ok_Way_eq (P := P) (w := w) (base := base) F21 T) B21 hc_Way.1 a21 i21
  have D_count_of_ways := df_of (ok_count_of_ways (P := P) (w := w) (base := base) F22 T) B22 (PySem.W.mg_of KX G a22) k22
  have D_way_at := df_of (ok_way_at (P := P) (w := w) (base := base) F23 T D_require_slope D_require_from C_Way D_ends_of D_count_of_ways) B23 (PySem.W.mg_of KX G a23) k23
  have Q__law_first_fault := told__law_first_fault (P := P) (w := w) (base := base) F24 B24 (PySem.W.mg_of KX G a24) k24 T
  have D_way_count := df_of (ok_way_count (P := P) (w := w) (base := base) F25 T D_require_slope D_count_of_ways) B25 (PySem.W.mg_of KX G a25) k25
  have D_highest := df_of (ok_highest (P := P) (w := w) (base := base) F26 T D_require_slope C_Way) B26 (PySem.W.mg_of KX G a26) k26
  have D_lowest := df_of (ok_lowest (P := P) (w := w) (base := base) F27 T D_require_slope C_Way D_can_step) B27 (PySem.W.mg_of KX G a27) k27
  have D_is_way := df_of (ok_is_way (P := P) (w := w) (base := base) F28 T D_require_slope D_is_way_text) B28 (PySem.W.mg_of KX G a28) k28
  have O_Way_lt := of_of (cl := 1) (m := "__lt__") (ok_Way_lt (P := P) (w := w) (base := base) F29 T) B29 hc_Way.1 a29 i29
  have D__law_right := df_of (ok__law_right (P := P) (w := w) (base := base) F30 rfl (tabs (cc30, PT30, lamName "_law_right") (by simp)) (by simp) (by simp) T D__law_any_slope D__law_index D__law_pick C_Slope D__law_ends D__law_way C_Way O_Way_eq D__law_roll D_way_at Q__law_first_fault D_way_count D_way_index D_highest D_lowest D_is_way O_Way_lt P_Way_text) B30 (PySem.W.mg_of KX G a30) k30
  exact ((ok_law (P := P) (w := w) (base := base) F31 T D__law_dice P_Way_text D_way_index D__law_right D_way_at C_Way C_Slope)).imp fun vs H Q E h => h _ rfl
end K04
open PySem PySem.W PyProof.Rows
set_option maxRecDepth 100000 in
set_option maxHeartbeats 0 in
theorem PySem.Challenge.cw_slantways_k04_whole_ways_by_number_holds : PySem.Challenge.rw_slantways_k04_whole_ways_by_number.Holds := by
  w_on; o_law; k_head; (case hw => w_witness2)
  k_fill
  refine L2.DL.walk_ofT (xs := ["_law_right"]) (l := PySem.Challenge.rw_slantways_k04_whole_ways_by_number) (k := 10) K04.good rfl rfl ⟨rfl, by decide, by decide⟩ (by first | rfl | decide +kernel) (fun w h Y => PySem.W.km_in_of Y) ?F
  case F =>
    intro w mg fa h KX G hmg
    refine' K04.all_mk KX G hmg ?a_Slope ?a_Way ?a_InvalidSlope ?kc_InvalidSlope ?ic_InvalidSlope ?ex_InvalidSlope ?ty_InvalidSlope ?xe_InvalidSlope ?a_InvalidWay ?kc_InvalidWay ?ic_InvalidWay ?ex_InvalidWay ?ty_InvalidWay ?xe_InvalidWay ?a_InvalidText ?kc_InvalidText ?ic_InvalidText ?ex_InvalidText ?ty_InvalidText ?a_InvalidOperation ?kc_InvalidOperation ?ic_InvalidOperation ?ex_InvalidOperation ?ty_InvalidOperation ?a_ParseError ?kc_ParseError ?ic_ParseError ?ex_ParseError ?ty_ParseError ?ga_ParseError ?gg_ParseError ?gf_ParseError ?hd_ParseError ?a_InvalidNumber ?kc_InvalidNumber ?ic_InvalidNumber ?ex_InvalidNumber ?ty_InvalidNumber ?ga_InvalidNumber ?gg_InvalidNumber ?gf_InvalidNumber ?hd_InvalidNumber ?a_Refused ?kc_Refused ?ic_Refused ?ex_Refused ?ty_Refused ?ga_Refused ?gg_Refused ?gf_Refused ?hd_Refused ?n_super ?n_any ?top_super ?hs_InvalidNumber ?st_InvalidNumber ?tk_InvalidNumber ?in_InvalidNumber ?fn_InvalidNumber ?sb_InvalidNumber ?sp_InvalidNumber ?ei_InvalidNumber ?eo_InvalidNumber ?lx_InvalidNumber ?cx_InvalidNumber ?co_InvalidNumber ?vs_InvalidNumber ?fi_InvalidNumber ?ce_InvalidNumber ?a0 ?l0 ?c0 ?k0 ?a1 ?b1 ?t1 ?r1 ?l1 ?c1 ?k1 ?a2 ?l2 ?c2 ?k2 ?a3 ?l3 ?c3 ?k3 ?a4 ?l4 ?c4 ?k4 ?a5 ?l5 ?c5 ?k5 ?a6 ?l6 ?c6 ?k6 ?a7 ?l7 ?c7 ?k7 ?a8 ?l8 ?c8 ?k8 ?a9 ?l9 ?c9 ?k9 ?a10 ?l10 ?c10 ?k10 ?a11 ?l11 ?c11 ?k11 ?a12 ?l12 ?c12 ?k12 ?a13 ?i13 ?l13 ?c13 ?k13 ?a14 ?l14 ?c14 ?k14 ?a15 ?l15 ?c15 ?k15 ?a16 ?l16 ?c16 ?k16 ?a17 ?l17 ?c17 ?k17 ?a18 ?l18 ?c18 ?k18 ?a19 ?l19 ?c19 ?k19 ?a20 ?i20 ?l20 ?c20 ?k20 ?a21 ?i21 ?l21 ?c21 ?k21 ?a22 ?l22 ?c22 ?k22 ?a23 ?l23 ?c23 ?k23 ?a24 ?l24 ?c24 ?k24 ?a25 ?l25 ?c25 ?k25 ?a26 ?l26 ?c26 ?k26 ?a27 ?l27 ?c27 ?k27 ?a28 ?l28 ?c28 ?k28 ?a29 ?i29 ?l29 ?c29 ?k29 ?a30 ?l30 ?c30 ?tc30 ?tp30 ?np30 ?k30 ?a31 ?l31 ?c31 ?k31 ?pg_Slope ?ic_Slope ?po_Slope ?sa_Slope ?ca_Slope ?cn_Slope ?ct_Slope ?cm_Slope ?mk_Slope ?kc_Slope ?pg_Way ?ic_Way ?po_Way ?sa_Way ?ca_Way ?cn_Way ?ct_Way ?cm_Way ?mk_Way ?kc_Way ?ne_Way ?z_comb ?z_gcd ?z_GREATEST ?z_MAX_SIDE ?z_RISE ?z_STEP ?su_2_7 ?su_3_7 ?su_4_7 ?su_5_7 ?su_6_7 ?su_7_7 ?su_8_7 ?su_2_5 ?su_3_5 ?su_4_5 ?su_5_5 ?su_6_5 ?su_7_5 ?su_8_5 ?su_2_2 ?su_3_2 ?su_4_2 ?su_5_2 ?su_6_2 ?su_7_2 ?su_8_2 ?su_2_4 ?su_3_4 ?su_4_4 ?su_5_4 ?su_6_4 ?su_7_4 ?su_8_4 ?su_2_3 ?su_3_3 ?su_4_3 ?su_5_3 ?su_6_3 ?su_7_3 ?su_8_3 ?su_2_6 ?su_3_6 ?su_4_6 ?su_5_6 ?su_6_6 ?su_7_6 ?su_8_6 ?su_2_8 ?su_3_8 ?su_4_8 ?su_5_8 ?su_6_8 ?su_7_8 ?su_8_8 ?z_abs ?z_bool ?z_int ?z_isinstance ?z_len ?z_max ?z_min ?z_range ?z_repr ?z_str ?z_sum ?sf_s_Slope_own_common ?sg_s_Slope_own_common ?st_s_Slope_own_common ?sy_s_Slope_own_common ?si_s_Slope_own_common ?sf_s_Slope_own_rises ?sg_s_Slope_own_rises ?st_s_Slope_own_rises ?sy_s_Slope_own_rises ?si_s_Slope_own_rises ?sf_s_Slope_own_steps ?sg_s_Slope_own_steps ?st_s_Slope_own_steps ?sy_s_Slope_own_steps ?si_s_Slope_own_steps ?sf_s_Way_own_key ?sg_s_Way_own_key ?st_s_Way_own_key ?sy_s_Way_own_key ?si_s_Way_own_key ?sf_s_Way_own_slope ?sg_s_Way_own_slope ?st_s_Way_own_slope ?sy_s_Way_own_slope ?si_s_Way_own_slope ?sf_s_Way_own_text ?sg_s_Way_own_text ?st_s_Way_own_text ?sy_s_Way_own_text ?si_s_Way_own_text ?u_Slope_bool ?u_Slope_int ?u_Slope_str ?u_Slope_list ?u_Slope_tuple ?u_Slope_NoneType ?v_Slope_0 ?v_Slope_1 ?u_Way_bool ?u_Way_int ?u_Way_str ?u_Way_list ?u_Way_tuple ?u_Way_NoneType ?v_Way_0 ?v_Way_1 ?u_bool_bool ?u_bool_int ?u_bool_str ?u_bool_list ?u_bool_tuple ?u_bool_NoneType ?v_bool_0 ?v_bool_1 ?u_int_bool ?u_int_int ?u_int_str ?u_int_list ?u_int_tuple ?u_int_NoneType ?v_int_0 ?v_int_1 ?u_str_bool ?u_str_int ?u_str_str ?u_str_list ?u_str_tuple ?u_str_NoneType ?v_str_0 ?v_str_1
    (case a_Slope => k_is); (case a_Way => k_is); (case a_InvalidSlope => k_is); (case kc_InvalidSlope => k_is); (case ic_InvalidSlope => k_is); (case ex_InvalidSlope => k_is)
    (case ty_InvalidSlope => k_is); (case xe_InvalidSlope => k_exc); (case a_InvalidWay => k_is); (case kc_InvalidWay => k_is); (case ic_InvalidWay => k_is); (case ex_InvalidWay => k_is)
    (case ty_InvalidWay => k_is); (case xe_InvalidWay => k_exc); (case a_InvalidText => k_is); (case kc_InvalidText => k_is); (case ic_InvalidText => k_is); (case ex_InvalidText => k_is)
    (case ty_InvalidText => k_is); (case a_InvalidOperation => k_is); (case kc_InvalidOperation => k_is); (case ic_InvalidOperation => k_is); (case ex_InvalidOperation => k_is); (case ty_InvalidOperation => k_is)
    (case a_ParseError => k_is); (case kc_ParseError => k_is); (case ic_ParseError => k_is); (case ex_ParseError => k_is); (case ty_ParseError => k_is); (case ga_ParseError => k_is)
    (case gg_ParseError => k_is); (case gf_ParseError => k_is); (case hd_ParseError => k_is); (case a_InvalidNumber => k_is); (case kc_InvalidNumber => k_is); (case ic_InvalidNumber => k_is)
    (case ex_InvalidNumber => k_is); (case ty_InvalidNumber => k_is); (case ga_InvalidNumber => k_is); (case gg_InvalidNumber => k_is); (case gf_InvalidNumber => k_is); (case hd_InvalidNumber => k_is)
    (case a_Refused => k_is); (case kc_Refused => k_is); (case ic_Refused => k_is); (case ex_Refused => k_is); (case ty_Refused => k_is); (case ga_Refused => k_is)
    (case gg_Refused => k_is); (case gf_Refused => k_is); (case hd_Refused => k_is); (case n_super => k_is); (case n_any => k_is); (case top_super => first | rfl | decide +kernel)
    (case hs_InvalidNumber => k_is); (case st_InvalidNumber => k_is); (case tk_InvalidNumber => k_is); (case in_InvalidNumber => k_is); (case fn_InvalidNumber => k_is); (case sb_InvalidNumber => k_is)
    (case sp_InvalidNumber => ks_is); (case ei_InvalidNumber => kx_is); (case eo_InvalidNumber => kx_is); (case lx_InvalidNumber => k_is); (case cx_InvalidNumber => k_is); (case co_InvalidNumber => k_is)
    (case vs_InvalidNumber => exact rfl); (case fi_InvalidNumber => first | rfl | decide +kernel); (case ce_InvalidNumber => k_is); (case a0 => k_is); (case l0 => k_is); (case c0 => k_is)
    (case k0 => k_is); (case a1 => k_is); (case b1 => k_is); (case t1 => k_is); (case r1 => k_is); (case l1 => k_is)
    (case c1 => k_is); (case k1 => k_is); (case a2 => k_is); (case l2 => k_is); (case c2 => k_is); (case k2 => k_is)
    (case a3 => k_is); (case l3 => k_is); (case c3 => k_is); (case k3 => k_is); (case a4 => k_is); (case l4 => k_is)
    (case c4 => k_is); (case k4 => k_is); (case a5 => k_is); (case l5 => k_is); (case c5 => k_is); (case k5 => k_is)
    (case a6 => k_is); (case l6 => k_is); (case c6 => k_is); (case k6 => k_is); (case a7 => k_is); (case l7 => k_is)
    (case c7 => k_is); (case k7 => k_is); (case a8 => k_is); (case l8 => k_is); (case c8 => k_is); (case k8 => k_is)
    (case a9 => k_is); (case l9 => k_is); (case c9 => k_is); (case k9 => k_is); (case a10 => k_is); (case l10 => k_is)
    (case c10 => k_is); (case k10 => k_is); (case a11 => k_is); (case l11 => k_is); (case c11 => k_is); (case k11 => k_is)
    (case a12 => k_is); (case l12 => k_is); (case c12 => k_is); (case k12 => k_is); (case a13 => k_is); (case i13 => k_is)
    (case l13 => k_is); (case c13 => k_is); (case k13 => k_is); (case a14 => k_is); (case l14 => k_is); (case c14 => k_is)
    (case k14 => k_is); (case a15 => k_is); (case l15 => k_is); (case c15 => k_is); (case k15 => k_is); (case a16 => k_is)
    (case l16 => k_is); (case c16 => k_is); (case k16 => k_is); (case a17 => k_is); (case l17 => k_is); (case c17 => k_is)
    (case k17 => k_is); (case a18 => k_is); (case l18 => k_is); (case c18 => k_is); (case k18 => k_is); (case a19 => k_is)
    (case l19 => k_is); (case c19 => k_is); (case k19 => k_is); (case a20 => k_is); (case i20 => k_is); (case l20 => k_is)
    (case c20 => k_is); (case k20 => k_is); (case a21 => k_is); (case i21 => k_is); (case l21 => k_is); (case c21 => k_is)
    (case k21 => k_is); (case a22 => k_is); (case l22 => k_is); (case c22 => k_is); (case k22 => k_is); (case a23 => k_is)
    (case l23 => k_is); (case c23 => k_is); (case k23 => k_is); (case a24 => k_is); (case l24 => k_is); (case c24 => k_is)
    (case k24 => k_is); (case a25 => k_is); (case l25 => k_is); (case c25 => k_is); (case k25 => k_is); (case a26 => k_is)
    (case l26 => k_is); (case c26 => k_is); (case k26 => k_is); (case a27 => k_is); (case l27 => k_is); (case c27 => k_is)
    (case k27 => k_is); (case a28 => k_is); (case l28 => k_is); (case c28 => k_is); (case k28 => k_is); (case a29 => k_is)
    (case i29 => k_is); (case l29 => k_is); (case c29 => k_is); (case k29 => k_is); (case a30 => k_is); (case l30 => k_is)
    (case c30 => k_is); (case tc30 => k_is); (case tp30 => exact rfl); (case np30 => first | k_is | rfl | decide +kernel); (case k30 => k_is); (case a31 => k_is)
    (case l31 => k_is); (case c31 => k_is); (case k31 => k_is); (case pg_Slope => k_is); (case ic_Slope => k_is); (case po_Slope => k_is)
    (case sa_Slope => k_is); (case ca_Slope => k_is); (case cn_Slope => k_is); (case ct_Slope => k_is); (case cm_Slope => k_is); (case mk_Slope => k_is)
    (case kc_Slope => k_is); (case pg_Way => k_is); (case ic_Way => k_is); (case po_Way => k_is); (case sa_Way => k_is); (case ca_Way => k_is)
    (case cn_Way => k_is); (case ct_Way => k_is); (case cm_Way => k_is); (case mk_Way => k_is); (case kc_Way => k_is); (case ne_Way => k_is)
    (case z_comb => k_is); (case z_gcd => k_is); (case z_GREATEST => k_is); (case z_MAX_SIDE => k_is); (case z_RISE => k_is); (case z_STEP => k_is)
    (case su_2_7 => k_is); (case su_3_7 => k_is); (case su_4_7 => k_is); (case su_5_7 => k_is); (case su_6_7 => k_is); (case su_7_7 => k_is)
    (case su_8_7 => k_is); (case su_2_5 => k_is); (case su_3_5 => k_is); (case su_4_5 => k_is); (case su_5_5 => k_is); (case su_6_5 => k_is)
    (case su_7_5 => k_is); (case su_8_5 => k_is); (case su_2_2 => k_is); (case su_3_2 => k_is); (case su_4_2 => k_is); (case su_5_2 => k_is)
    (case su_6_2 => k_is); (case su_7_2 => k_is); (case su_8_2 => k_is); (case su_2_4 => k_is); (case su_3_4 => k_is); (case su_4_4 => k_is)
    (case su_5_4 => k_is); (case su_6_4 => k_is); (case su_7_4 => k_is); (case su_8_4 => k_is); (case su_2_3 => k_is); (case su_3_3 => k_is)
    (case su_4_3 => k_is); (case su_5_3 => k_is); (case su_6_3 => k_is); (case su_7_3 => k_is); (case su_8_3 => k_is); (case su_2_6 => k_is)
    (case su_3_6 => k_is); (case su_4_6 => k_is); (case su_5_6 => k_is); (case su_6_6 => k_is); (case su_7_6 => k_is); (case su_8_6 => k_is)
    (case su_2_8 => k_is); (case su_3_8 => k_is); (case su_4_8 => k_is); (case su_5_8 => k_is); (case su_6_8 => k_is); (case su_7_8 => k_is)
    (case su_8_8 => k_is); (case z_abs => k_is); (case z_bool => k_is); (case z_int => k_is); (case z_isinstance => k_is); (case z_len => k_is)
    (case z_max => k_is); (case z_min => k_is); (case z_range => k_is); (case z_repr => k_is); (case z_str => k_is); (case z_sum => k_is)
    (case sf_s_Slope_own_common => k_is); (case sg_s_Slope_own_common => k_is); (case st_s_Slope_own_common => k_is); (case sy_s_Slope_own_common => k_is); (case si_s_Slope_own_common => k_is); (case sf_s_Slope_own_rises => k_is)
    (case sg_s_Slope_own_rises => k_is); (case st_s_Slope_own_rises => k_is); (case sy_s_Slope_own_rises => k_is); (case si_s_Slope_own_rises => k_is); (case sf_s_Slope_own_steps => k_is); (case sg_s_Slope_own_steps => k_is)
    (case st_s_Slope_own_steps => k_is); (case sy_s_Slope_own_steps => k_is); (case si_s_Slope_own_steps => k_is); (case sf_s_Way_own_key => k_is); (case sg_s_Way_own_key => k_is); (case st_s_Way_own_key => k_is)
    (case sy_s_Way_own_key => k_is); (case si_s_Way_own_key => k_is); (case sf_s_Way_own_slope => k_is); (case sg_s_Way_own_slope => k_is); (case st_s_Way_own_slope => k_is); (case sy_s_Way_own_slope => k_is)
    (case si_s_Way_own_slope => k_is); (case sf_s_Way_own_text => k_is); (case sg_s_Way_own_text => k_is); (case st_s_Way_own_text => k_is); (case sy_s_Way_own_text => k_is); (case si_s_Way_own_text => k_is)
    (case u_Slope_bool => kit_is); (case u_Slope_int => kit_is); (case u_Slope_str => kit_is); (case u_Slope_list => kit_is); (case u_Slope_tuple => kit_is); (case u_Slope_NoneType => kit_is)
    (case v_Slope_0 => kit_is); (case v_Slope_1 => kit_is); (case u_Way_bool => kit_is); (case u_Way_int => kit_is); (case u_Way_str => kit_is); (case u_Way_list => kit_is)
    (case u_Way_tuple => kit_is); (case u_Way_NoneType => kit_is); (case v_Way_0 => kit_is); (case v_Way_1 => kit_is); (case u_bool_bool => kit_is); (case u_bool_int => kit_is)
    (case u_bool_str => kit_is); (case u_bool_list => kit_is); (case u_bool_tuple => kit_is); (case u_bool_NoneType => kit_is); (case v_bool_0 => kit_is); (case v_bool_1 => kit_is)
    (case u_int_bool => kit_is); (case u_int_int => kit_is); (case u_int_str => kit_is); (case u_int_list => kit_is); (case u_int_tuple => kit_is); (case u_int_NoneType => kit_is)
    (case v_int_0 => kit_is); (case v_int_1 => kit_is); (case u_str_bool => kit_is); (case u_str_int => kit_is); (case u_str_str => kit_is); (case u_str_list => kit_is)
    (case u_str_tuple => kit_is); (case u_str_NoneType => kit_is); (case v_str_0 => kit_is); (case v_str_1 => kit_is)
