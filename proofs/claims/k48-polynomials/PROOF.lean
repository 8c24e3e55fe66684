import PyProof.Rows.All
import Wide.All
import OpenK.AllK
import Wide.FinOn
import HandS.ForMost
import HandS.ForExc
import HandS.Slots
import HandS.SlotsOwn
import HandS.Walk
import HandS.Gcd
import HandS.TryMany
import HandS.Lambda
import HandS.Flow
import HandS.Wide
import HandS.IsInst
import HandS.CallSlots
import HandS.TupAny
import HandS.Style
import PyProof.StrOps2
import HandS.StrMore
import KE.KMathGC
import HandS.Defaults
import HandS.RevRange
import PyProof.ListStr
import HandS.AnyAll
import HandS.Sort
import KE.KRevSl
import HandS.Zip
import KE.GoesMore
import KE.GoesZip
import KE.DataCmp
import KE.KExcSuper
import KE.KSuper
import HandS.ExcField
import KE.KExcLine
import KE.RegKSuper
import HandS.ExcOwn
import PyProof.ReprRoads
import PyProof.StrLawsRepr
import PyProof.ReprLen
import HandS.Conv
import KE.DataMinMax
import KE.GoesEnum
import HandS.EndTab
import HandS.EndOwn
import HandS.DictComp
import HandS.ClsMeth
import HandS.HeadNt
import PyProof.Rows.StrOr
import PySem.Challenge.RW_slantways_k48_whole_polynomials
set_option Elab.async false
set_option linter.all false
set_option maxRecDepth 100000
set_option maxHeartbeats 4000000
namespace L2.DL
open PySem PySem.Spec PyProof.Rows
/-! ### data by value -/
inductive D where
  | non | bl (b : Bool) | int (i : Int) | str (x : Str) | ty (n : String) | glb (a : Nat)
  | lst (xs : List D) | ro (xs : List D) | tup (xs : List D) | obj (c : Nat) (fs : List D) | dct (kvs : List (Key × D))
  deriving Inhabited
/-- the addresses of classes and defs by their numbers; the field of an exception class -/
structure Cl where
  cls : Nat → Addr
  xf : Nat → Str
  /-- the tables of code objects, with the names of what is made there -/
  tb : List (Addr × Str)
/-- no table -/
def NT (o : HO) : Prop := ∀ ps, o ≠ .tbl ps
def NoT (H : Hp) : Prop := ∀ b ps, H b ≠ some (.tbl ps)
/-- a table: its code objects stand among the data -/
def TabG (G H : Hp) (P : Addr) (q : Str) : Prop := ∃ ps : Array Value, H P = some (.tbl ps) ∧ TriplesOk ps.toList ∧ ∀ (pos : Pos) (cv : Value), codeAmong pos ps.toList = some cv → ∃ a, cv = .ref a ∧ G a = some (LamX.CodeO a q)
def Tbs (c : Cl) (G H : Hp) : Prop := ∀ p ∈ c.tb, TabG G H p.1 p.2
structure Tb (c : Cl) (F G H : Hp) : Prop where
  tabs : Tbs c G H
  nf : NoT F
  ng : NoT G
mutual
inductive Rep (K : PySem.W.Frag) (c : Cl) (G : Hp) : V → D → Prop
  | non : Rep K c G .non .non
  | bl (b : Bool) : Rep K c G (.bl b) (.bl b)
  | int (i : Int) : Rep K c G (.int i) (.int i)
  | str (x : Str) : Rep K c G (.str x) (.str x)
  | ty (n : String) : Rep K c G (.ty n) (.ty n)
  | glb (a : Nat) : Rep K c G (.ref (c.cls a)) (.glb a)
  | lst {a vs ds} : G a = some (.lst vs) → Reps K c G vs ds → Rep K c G (.ref a) (.lst ds)
  | ro {a vs ds} : SqL K G a vs → Reps K c G vs ds → Rep K c G (.ref a) (.ro ds)
  | tup {a vs ds} : SqT K G a vs → Reps K c G vs ds → Rep K c G (.ref a) (.tup ds)
  | obj {a dx vs ds n} : SlX.Slt G a (c.cls n) dx (vs.map some) → Reps K c G vs ds → Rep K c G (.ref a) (.obj n ds)
  | dct {a kvs kds} : Rd G a (.dK kvs) → RepK K c G kvs kds → Rep K c G (.ref a) (.dct kds)
inductive Reps (K : PySem.W.Frag) (c : Cl) (G : Hp) : List V → List D → Prop
  | nil : Reps K c G [] []
  | cons {v d vs ds} : Rep K c G v d → Reps K c G vs ds → Reps K c G (v :: vs) (d :: ds)
inductive RepK (K : PySem.W.Frag) (c : Cl) (G : Hp) : List (Key × V) → List (Key × D) → Prop
  | nil : RepK K c G [] []
  | cons {k v d vs ds} : Rep K c G v d → RepK K c G vs ds → RepK K c G ((k, v) :: vs) ((k, d) :: ds)
end
theorem Same.seqT {K : PySem.W.Frag} {H H' : Hp} {a : Addr} {xs : List V} (e : Same H H') (h : SqT K H a xs) : SqT K H' a xs := by
  rcases h with (h | ⟨o, h⟩) | h
  · exact .inl (.inl (e _ _ h))
  · exact .inl (.inr ⟨o, e _ _ h⟩)
  · exact .inr h
theorem Same.rd {H H' : Hp} {a : Addr} {u : HO} (e : Same H H') (h : Rd H a u) : Rd H' a u := by
  rcases h with h | ⟨o, h⟩
  · exact .inl (e _ _ h)
  · exact .inr ⟨o, e _ _ h⟩
theorem Same.slt {H H' : Hp} {a C dx : Addr} {vs : List (Option V)} (e : Same H H') (h : SlX.Slt H a C dx vs) : SlX.Slt H' a C dx vs := by
  rcases h with ⟨h, r⟩ | ⟨h, r⟩
  · exact .inl ⟨e _ _ h, r⟩
  · exact .inr ⟨e _ _ h, e _ _ r⟩
section
variable {K : PySem.W.Frag} {c : Cl} {G G' : Hp}
mutual
theorem Rep.mono (e : Same G G') : ∀ {v d}, Rep K c G v d → Rep K c G' v d
  | _, _, .non => .non
  | _, _, .bl b => .bl b
  | _, _, .int b => .int b
  | _, _, .str b => .str b
  | _, _, .ty b => .ty b
  | _, _, .glb b => .glb b
  | _, _, .lst h r => .lst (e _ _ h) (Reps.mono e r)
  | _, _, .ro h r => .ro (e.seq h) (Reps.mono e r)
  | _, _, .tup h r => .tup (Same.seqT e h) (Reps.mono e r)
  | _, _, .obj h r => .obj (Same.slt e h) (Reps.mono e r)
  | _, _, .dct h r => .dct (Same.rd e h) (RepK.mono e r)
theorem Reps.mono (e : Same G G') : ∀ {v d}, Reps K c G v d → Reps K c G' v d
  | _, _, .nil => .nil
  | _, _, .cons h r => .cons (Rep.mono e h) (Reps.mono e r)
theorem RepK.mono (e : Same G G') : ∀ {v d}, RepK K c G v d → RepK K c G' v d
  | _, _, .nil => .nil
  | _, _, .cons h r => .cons (Rep.mono e h) (RepK.mono e r)
end
theorem Reps.length : ∀ {vs : List V} {ds : List D}, Reps K c G vs ds → vs.length = ds.length
  | _, _, .nil => rfl
  | _, _, .cons _ r => by simp [Reps.length r]
theorem Reps.get : ∀ {vs : List V} {ds : List D} {i : Nat} {d : D}, Reps K c G vs ds → ds[i]? = some d → ∃ v, vs[i]? = some v ∧ Rep K c G v d
  | _, _, _, _, .nil, e => by simp at e
  | _, _, 0, _, .cons r _, e => by simp at e; subst e; exact ⟨_, rfl, r⟩
  | _, _, i + 1, _, .cons _ t, e => by
    obtain ⟨v, h1, h2⟩ := Reps.get (i := i) t (by simpa using e)
    exact ⟨v, by simpa using h1, h2⟩
theorem Reps.get' : ∀ {vs : List V} {ds : List D} {i : Nat} {v : V}, Reps K c G vs ds → vs[i]? = some v → ∃ d, ds[i]? = some d ∧ Rep K c G v d
  | _, _, _, _, .nil, e => by simp at e
  | _, _, 0, _, .cons r _, e => by simp at e; subst e; exact ⟨_, rfl, r⟩
  | _, _, i + 1, _, .cons _ t, e => by
    obtain ⟨v, h1, h2⟩ := Reps.get' (i := i) t (by simpa using e)
    exact ⟨v, by simpa using h1, h2⟩
theorem Reps.append : ∀ {vs ws : List V} {ds es : List D}, Reps K c G vs ds → Reps K c G ws es → Reps K c G (vs ++ ws) (ds ++ es)
  | _, _, _, _, .nil, s => s
  | _, _, _, _, .cons r t, s => .cons r (Reps.append t s)
theorem Reps.set {v : V} {d : D} (h : Rep K c G v d) : ∀ {vs : List V} {ds : List D} (i : Nat), Reps K c G vs ds → Reps K c G (vs.set i v) (ds.set i d)
  | _, _, _, .nil => .nil
  | _, _, 0, .cons _ t => .cons h t
  | _, _, i + 1, .cons q t => .cons q (Reps.set h i t)
theorem Reps.take : ∀ {vs : List V} {ds : List D} (n : Nat), Reps K c G vs ds → Reps K c G (vs.take n) (ds.take n)
  | _, _, 0, _ => .nil
  | _, _, _ + 1, .nil => .nil
  | _, _, n + 1, .cons r t => .cons r (Reps.take n t)
theorem Reps.drop : ∀ {vs : List V} {ds : List D} (n : Nat), Reps K c G vs ds → Reps K c G (vs.drop n) (ds.drop n)
  | _, _, 0, r => r
  | _, _, _ + 1, .nil => .nil
  | _, _, n + 1, .cons _ t => Reps.drop n t
end
/-! ### the state: slots -/
/-- a thing of one's own that may change -/
inductive Cell where
  | lst (xs : List D) | dct (kvs : List (Key × D)) | ob (c : Nat) (fs : List (Option D))
/-- what stands in a slot: nothing that is known, data, a thing that may change (lent by the caller or not) -/
inductive Sl where
  | no | val (d : D) | cell (lent : Bool) (c : Cell)
abbrev Ev := List Sl
inductive RepO (K : PySem.W.Frag) (c : Cl) (G : Hp) : List (Option V) → List (Option D) → Prop
  | nil : RepO K c G [] []
  | none {vs ds} : RepO K c G vs ds → RepO K c G (none :: vs) (none :: ds)
  | some {v d vs ds} : Rep K c G v d → RepO K c G vs ds → RepO K c G (some v :: vs) (some d :: ds)
inductive CellAt (K : PySem.W.Frag) (c : Cl) (G H : Hp) : List Addr → V → Cell → Prop
  | lst {p vs xs} : H p = some (.lst vs) → Reps K c G vs xs → CellAt K c G H [p] (.ref p) (.lst xs)
  | dct {p kvs kds} : H p = some (.dK kvs) → RepK K c G kvs kds → CellAt K c G H [p] (.ref p) (.dct kds)
  | ob {a dx n vs fs} : SlX.Slt H a (c.cls n) dx vs → dx ≠ a → (∃ o, H dx = some o ∧ NT o) → RepO K c G vs fs → CellAt K c G H [a, dx] (.ref a) (.ob n fs)
inductive Slr (K : PySem.W.Frag) (c : Cl) (G H : Hp) : List Addr → Option V → Sl → Prop
  | no {x} : Slr K c G H [] x .no
  | val {v d} : Rep K c G v d → Slr K c G H [] (some v) (.val d)
  | cell {p v l z} : CellAt K c G H p v z → Slr K c G H p (some v) (.cell l z)
inductive Rels (K : PySem.W.Frag) (c : Cl) (G H : Hp) : List (List Addr) → St → Ev → Prop
  | nil : Rels K c G H [] [] []
  | cons {p P x σ s env} : Slr K c G H p x s → Rels K c G H P σ env → Rels K c G H (p :: P) (x :: σ) (s :: env)
/-- F: the frame, what stays; G: what the data stand in -/
structure Rel (K : PySem.W.Frag) (c : Cl) (F G H : Hp) (P : List (List Addr)) (σ : St) (env : Ev) : Prop where
  fs : Same F H
  gs : Same G H
  all : Rels K c G H P σ env
  out : ∀ b, b ∈ P.flatten → F b = none ∧ G b = none
  nd : P.flatten.Nodup
  tb : Tb c F G H
structure Ext (F G G' : Hp) : Prop where
  same : Same G G'
  fresh : ∀ b, G b = none → F b ≠ none → G' b = none
/-- what was lent stays so, and where it is -/
structure Keep (P P' : List (List Addr)) (env env' : Ev) : Prop where
  len : env'.length = env.length
  at_ : ∀ (i : Nat) (z : Cell), env[i]? = some (Sl.cell true z) → P'[i]? = P[i]? ∧ ∃ z' : Cell, env'[i]? = some (Sl.cell true z')
theorem Ext.refl (F G : Hp) : Ext F G G := ⟨Same.refl G, fun _ h _ => h⟩
theorem Ext.trans {F G G1 G2 : Hp} (a : Ext F G G1) (b : Ext F G1 G2) : Ext F G G2 := ⟨a.same.trans b.same, fun x h f => b.fresh x (a.fresh x h f) f⟩
theorem Keep.refl (P : List (List Addr)) (env : Ev) : Keep P P env env := ⟨rfl, fun _ z h => ⟨rfl, z, h⟩⟩
theorem Keep.trans {P P1 P2 : List (List Addr)} {e e1 e2 : Ev} (a : Keep P P1 e e1) (b : Keep P1 P2 e1 e2) : Keep P P2 e e2 := ⟨b.len.trans a.len, fun i z h => by
  obtain ⟨q, z1, h1⟩ := a.at_ i z h
  obtain ⟨q2, z2, h2⟩ := b.at_ i z1 h1
  exact ⟨q2.trans q, z2, h2⟩⟩
section
variable {K : PySem.W.Frag} {c : Cl} {F G G' H H' : Hp} {P : List (List Addr)} {σ : St} {env : Ev}
theorem RepO.mono (e : Same G G') : ∀ {v d}, RepO K c G v d → RepO K c G' v d
  | _, _, .nil => .nil
  | _, _, .none r => .none (RepO.mono e r)
  | _, _, .some h r => .some (Rep.mono e h) (RepO.mono e r)
theorem slt_move {a C dx : Addr} {vs : List (Option V)} (h1 : ∀ o, H a = some o → H' a = some o) (h2 : ∀ o, H dx = some o → H' dx = some o) (h : SlX.Slt H a C dx vs) : SlX.Slt H' a C dx vs := by
  rcases h with ⟨h, r⟩ | ⟨h, r⟩
  · exact .inl ⟨h1 _ h, r⟩
  · exact .inr ⟨h1 _ h, h2 _ r⟩
theorem CellAt.move {p : List Addr} {v : V} {z : Cell} (x : CellAt K c G H p v z) (e : Same G G') (k : ∀ b, b ∈ p → ∀ o, H b = some o → H' b = some o) : CellAt K c G' H' p v z := by
  cases x with
  | lst h r => exact .lst (k _ (by simp) _ h) (r.mono e)
  | dct h r => exact .dct (k _ (by simp) _ h) (r.mono e)
  | ob h n q r =>
    obtain ⟨o, q1, q2⟩ := q
    exact .ob (slt_move (k _ (by simp)) (k _ (by simp)) h) n ⟨o, k _ (by simp) o q1, q2⟩ (r.mono e)
theorem Slr.move {p : List Addr} {x : Option V} {s : Sl} (h : Slr K c G H p x s) (e : Same G G') (k : ∀ b, b ∈ p → ∀ o, H b = some o → H' b = some o) : Slr K c G' H' p x s := by
  cases h with
  | no => exact .no
  | val r => exact .val (r.mono e)
  | cell r => exact .cell (r.move e k)
theorem Rels.move (h : Rels K c G H P σ env) (e : Same G G') (k : ∀ b, b ∈ P.flatten → ∀ o, H b = some o → H' b = some o) : Rels K c G' H' P σ env := by
  induction h with
  | nil => exact .nil
  | cons r _ ih =>
    refine .cons (r.move e fun b hb => k b (by simp [hb])) (ih fun b hb => k b ?_)
    rw [List.flatten_cons]
    exact List.mem_append_right _ hb
theorem Rels.len (h : Rels K c G H P σ env) : σ.length = env.length ∧ P.length = env.length := by
  induction h with
  | nil => exact ⟨rfl, rfl⟩
  | cons _ _ ih => simp [ih.1, ih.2]
theorem Rels.get (h : Rels K c G H P σ env) : ∀ {i : Nat} {s : Sl}, env[i]? = some s → ∃ p x, P[i]? = some p ∧ σ[i]? = some x ∧ Slr K c G H p x s := by
  induction h with
  | nil => intro i s e; simp at e
  | cons r _ ih =>
    intro i s e
    cases i with
    | zero => simp at e; subst e; exact ⟨_, _, rfl, rfl, r⟩
    | succ i => simpa using ih (by simpa using e)
theorem Rels.set {p : List Addr} {x : Option V} {s : Sl} (h : Rels K c G H P σ env) : ∀ (i : Nat), Slr K c G H p x s → Rels K c G H (P.set i p) (σ.set i x) (env.set i s) := by
  induction h with
  | nil => intro i _; exact .nil
  | cons r t ih =>
    intro i q
    cases i with
    | zero => exact .cons q t
    | succ i => exact .cons r (ih i q)
theorem mem_flat {P : List (List Addr)} {i : Nat} {p : List Addr} (e : P[i]? = some p) {b : Addr} (hb : b ∈ p) : b ∈ P.flatten :=
  List.mem_flatten.mpr ⟨p, List.mem_of_getElem? e, hb⟩
theorem flat_set {P : List (List Addr)} {i : Nat} {q : List Addr} {b : Addr} (hb : b ∈ (P.set i q).flatten) : b ∈ q ∨ b ∈ P.flatten := by
  obtain ⟨l, hl, hb⟩ := List.mem_flatten.mp hb
  rcases List.mem_or_eq_of_mem_set hl with h | h
  · exact .inr (List.mem_flatten.mpr ⟨l, h, hb⟩)
  · exact .inl (by rw [h] at hb; exact hb)
theorem nd_set_nil {P : List (List Addr)} (h : P.flatten.Nodup) (i : Nat) : (P.set i []).flatten.Nodup := by
  induction P generalizing i with
  | nil => exact h
  | cons p P ih =>
    rw [List.flatten_cons] at h
    have h' := List.nodup_append.mp h
    cases i with
    | zero => rw [List.set_cons_zero, List.flatten_cons, List.nil_append]; exact h'.2.1
    | succ i =>
      rw [List.set_cons_succ, List.flatten_cons]
      refine List.nodup_append.mpr ⟨h'.1, ih h'.2.1 i, fun a ha b hb => ?_⟩
      rcases flat_set hb with z | z
      · simp at z
      · exact h'.2.2 a ha b z
theorem nd_set_new {P : List (List Addr)} {q : List Addr} (h : P.flatten.Nodup) (hq : q.Nodup) (hn : ∀ b, b ∈ q → b ∉ P.flatten) (i : Nat) : (P.set i q).flatten.Nodup := by
  induction P generalizing i with
  | nil => exact h
  | cons p P ih =>
    rw [List.flatten_cons] at h hn
    have h' := List.nodup_append.mp h
    cases i with
    | zero =>
      rw [List.set_cons_zero, List.flatten_cons]
      refine List.nodup_append.mpr ⟨hq, h'.2.1, fun a ha b hb e => ?_⟩
      subst e
      exact hn a ha (List.mem_append_right _ hb)
    | succ i =>
      rw [List.set_cons_succ, List.flatten_cons]
      refine List.nodup_append.mpr ⟨h'.1, ih h'.2.1 (fun b hb z => hn b hb (List.mem_append_right _ z)) i, fun a ha b hb e => ?_⟩
      subst e
      rcases flat_set hb with z | z
      · exact hn a z (List.mem_append_left _ ha)
      · exact h'.2.2 a ha a z rfl
theorem nd_at {P : List (List Addr)} (h : P.flatten.Nodup) : ∀ {i j : Nat} {p q : List Addr} {b : Addr}, P[i]? = some p → P[j]? = some q → b ∈ p → b ∈ q → i = j := by
  induction P with
  | nil => intro i j p q b e; simp at e
  | cons a P ih =>
    intro i j p q b e1 e2 h1 h2
    rw [List.flatten_cons] at h
    have h' := List.nodup_append.mp h
    cases i with
    | zero =>
      cases j with
      | zero => rfl
      | succ j =>
        simp at e1 e2; subst e1
        exact (h'.2.2 b h1 b (mem_flat e2 h2) rfl).elim
    | succ i =>
      cases j with
      | zero =>
        simp at e1 e2; subst e2
        exact (h'.2.2 b h2 b (mem_flat e1 h1) rfl).elim
      | succ j =>
        simp at e1 e2
        rw [ih h'.2.1 e1 e2 h1 h2]
end
/-! ### mirrors -/
inductive Exn where
  | own (c : Nat) (d : Option D) | ty (n : String)
inductive Res (α : Type) where
  | ok (a : α) (e : Ev) | exc (x : Exn) (e : Ev) | bad
abbrev M (α : Type) := Ev → Res α
inductive Fl where
  | next | ret (d : D) | brk | cont | retO (z : Cell)
abbrev MS := Ev → Res Fl
def M.ret {α : Type} (a : α) : M α := fun e => .ok a e
def M.bind {α β : Type} (m : M α) (f : α → M β) : M β := fun e => match m e with
  | .ok a e' => f a e'
  | .exc x e' => .exc x e'
  | .bad => .bad
def M.opt {α : Type} : Option α → M α
  | some a => fun e => .ok a e
  | none => fun _ => .bad
inductive RepX (K : PySem.W.Frag) (c : Cl) (G H : Hp) : Value → Option Addr → Exn → Prop
  | own0 {n dd} : RepX K c G H (.ref (c.cls n)) dd (.own n none)
  | own1 {n dx v d} : H dx = some (.xd [(c.xf n, v)]) → Rep K c G v d → RepX K c G H (.ref (c.cls n)) (some dx) (.own n (some d))
  | ty {n dd} : RepX K c G H (.type n) dd (.ty n)
def Fl.fin (K : PySem.W.Frag) (c : Cl) (F G H : Hp) (P : List (List Addr)) (σ : St) (D : Ends) : Fl → Prop
  | .next => D.nx σ H
  | .ret d => ∀ v, Rep K c G v d → D.rt v H
  | .brk => D.bk σ H
  | .cont => D.ct σ H
  | .retO z => ∀ v p, CellAt K c G H p v z → p.Nodup → (∀ b, b ∈ p → F b = none ∧ G b = none ∧ b ∉ P.flatten) → D.rt v H
section
variable (K : PySem.W.Frag) (c : Cl) (W : WX)
def Post {α : Type} (F G : Hp) (P : List (List Addr)) (σ : St) (env : Ev) (r : Res α) (k : α → Hp → Hp → List (List Addr) → Prop) : Prop :=
  match r with
  | .ok a env' => ∀ G' H' P', Ext F G G' → Keep P P' env env' → Rel K c F G' H' P' σ env' → k a G' H' P'
  | .exc x env' => ∀ G' H' P' cv dd, Ext F G G' → Keep P P' env env' → Rel K c F G' H' P' σ env' → RepX K c G' H' cv dd x → W cv dd σ H'
  | .bad => False
def tE (m : M D) : TE := fun σ H Q => ∃ F G P env, Rel K c F G H P σ env ∧ Post K c W F G P σ env (m env) fun d G' H' _ => ∀ v, Rep K c G' v d → Q v H'
def tA (m : M (List D)) : TA := fun σ H Q => ∃ F G P env, Rel K c F G H P σ env ∧ Post K c W F G P σ env (m env) fun ds G' H' _ => ∀ vs, Reps K c G' vs ds → Q vs H'
def tT (m : M Bool) : TT := fun σ H Q => ∃ F G P env, Rel K c F G H P σ env ∧ Post K c W F G P σ env (m env) fun b _ H' _ => Q b H'
/-- a new thing that may change -/
def tO (m : M Cell) : TE := fun σ H Q => ∃ F G P env, Rel K c F G H P σ env ∧ Post K c W F G P σ env (m env) fun z G' H' P' => ∀ v p, CellAt K c G' H' p v z → p.Nodup → (∀ b, b ∈ p → F b = none ∧ G' b = none ∧ b ∉ P'.flatten) → Q v H'
def PostS (F G : Hp) (P : List (List Addr)) (env : Ev) (r : Res Fl) (D : Ends) : Prop :=
  match r with
  | .ok f env' => ∀ G' H' P' σ', Ext F G G' → Keep P P' env env' → Rel K c F G' H' P' σ' env' → f.fin K c F G' H' P' σ' D
  | .exc x env' => ∀ G' H' P' σ' cv dd, Ext F G G' → Keep P P' env env' → Rel K c F G' H' P' σ' env' → RepX K c G' H' cv dd x → W cv dd σ' H'
  | .bad => False
def tS (m : MS) : TS := fun D σ H => ∃ F G P env, Rel K c F G H P σ env ∧ PostS K c W F G P env (m env) D
end
section
variable {K : PySem.W.Frag} {c : Cl} {W : WX} {F G G1 H : Hp} {P P1 : List (List Addr)} {σ : St} {env env1 : Ev}
theorem Post.chain {α : Type} {r : Res α} {k : α → Hp → Hp → List (List Addr) → Prop} (h : Post K c W F G P σ env r k) (e : Ext F G G1) (q : Keep P P1 env env1) : Post K c W F G1 P1 σ env1 r k := by
  cases r with
  | ok a env' => exact fun G' H' P' e1 q1 r => h G' H' P' (e.trans e1) (q.trans q1) r
  | exc x env' => exact fun G' H' P' cv dd e1 q1 r => h G' H' P' cv dd (e.trans e1) (q.trans q1) r
  | bad => exact h
theorem Post.imp {α : Type} {r : Res α} {k k' : α → Hp → Hp → List (List Addr) → Prop} (h : Post K c W F G P σ env r k) (i : ∀ a G' H' P', Ext F G G' → k a G' H' P' → k' a G' H' P') : Post K c W F G P σ env r k' := by
  cases r with
  | ok a env' => exact fun G' H' P' e1 q1 r => i _ _ _ _ e1 (h G' H' P' e1 q1 r)
  | exc x env' => exact h
  | bad => exact h
theorem PostS.chain {r : Res Fl} {D : Ends} (h : PostS K c W F G P env r D) (e : Ext F G G1) (q : Keep P P1 env env1) : PostS K c W F G1 P1 env1 r D := by
  cases r with
  | ok a env' => exact fun G' H' P' σ' e1 q1 r => h G' H' P' σ' (e.trans e1) (q.trans q1) r
  | exc x env' => exact fun G' H' P' σ' cv dd e1 q1 r => h G' H' P' σ' cv dd (e.trans e1) (q.trans q1) r
  | bad => exact h
/-- one computation, then a further one -/
theorem Post.bind {α β : Type} {m : M α} {f : α → M β} {k : β → Hp → Hp → List (List Addr) → Prop} (h : Post K c W F G P σ env (M.bind m f env) k) :
    Post K c W F G P σ env (m env) fun a G' H' P' => ∃ env', Rel K c F G' H' P' σ env' ∧ Post K c W F G' P' σ env' (f a env') k := by
  unfold M.bind at h
  cases e : m env with
  | ok a env' =>
    rw [e] at h
    exact fun G' H' P' e1 q1 r => ⟨env', r, h.chain e1 q1⟩
  | exc x env' => rw [e] at h; exact h
  | bad => rw [e] at h; exact h
theorem Post.bindS {α : Type} {m : M α} {f : α → MS} {D : Ends} (h : PostS K c W F G P env (M.bind m f env) D) :
    Post K c W F G P σ env (m env) fun a G' H' P' => ∃ env', Rel K c F G' H' P' σ env' ∧ PostS K c W F G' P' env' (f a env') D := by
  unfold M.bind at h
  cases e : m env with
  | ok a env' =>
    rw [e] at h
    exact fun G' H' P' e1 q1 r => ⟨env', r, h.chain e1 q1⟩
  | exc x env' => rw [e] at h; exact fun G' H' P' cv dd e1 q1 r => h G' H' P' σ cv dd e1 q1 r
  | bad => rw [e] at h; exact h
/-- behind a pure operation -/
structure Pure (c : Cl) (H G H' G' : Hp) : Prop where
  same : Same G G'
  hs : LamX.ExtN H H'
  gs : Same G' H'
  fresh : ∀ b o, H b = some o → NT o → G b = none → G' b = none
  tabs : Tbs c G H → Tbs c G' H'
  ng : NoT G → NoT G'
/-- tables and steps -/
theorem Tbs.same {c : Cl} {G H H' : Hp} (t : Tbs c G H) (s : Same H H') : Tbs c G H' := fun p hp => by
  obtain ⟨ps, h1, h2, h3⟩ := t p hp
  exact ⟨ps, s _ _ h1, h2, h3⟩
theorem Tbs.mono {c : Cl} {G G' H : Hp} (t : Tbs c G H) (s : Same G G') : Tbs c G' H := fun p hp => by
  obtain ⟨ps, h1, h2, h3⟩ := t p hp
  exact ⟨ps, h1, h2, fun pos cv e => by
    obtain ⟨a, e1, e2⟩ := h3 pos cv e
    exact ⟨a, e1, s _ _ e2⟩⟩
theorem Tbs.upd {c : Cl} {G H : Hp} {a : Addr} {o : HO} (t : Tbs c G H) (h : ∀ ps, H a ≠ some (.tbl ps)) : Tbs c G (upd H a o) := fun p hp => by
  obtain ⟨ps, h1, h2, h3⟩ := t p hp
  exact ⟨ps, by rw [upd_ne fun z => h ps (by rw [← z]; exact h1)]; exact h1, h2, h3⟩
theorem Tb.same {c : Cl} {F G H H' : Hp} (t : Tb c F G H) (s : Same H H') : Tb c F G H' := ⟨t.tabs.same s, t.nf, t.ng⟩
theorem Tb.upd {c : Cl} {F G H : Hp} {a : Addr} {o : HO} (t : Tb c F G H) (h : ∀ ps, H a ≠ some (.tbl ps)) : Tb c F G (upd H a o) := ⟨t.tabs.upd h, t.nf, t.ng⟩
theorem Same.ext {H H' : Hp} (s : Same H H') : LamX.ExtN H H' := .of s
theorem ext_nt {F H H' : Hp} (s : Same F H) (n : NoT F) (e : LamX.ExtN H H') : Same F H' := fun b o h => e b o (s b o h) fun ps z => n b ps (by rw [h, z])
/-- all but the tables -/
def nt (H : Hp) : Hp := fun b => match H b with
  | some (.tbl _) => none
  | x => x
theorem nt_not (H : Hp) : NoT (nt H) := fun b ps h => by
  unfold nt at h
  split at h
  · cases h
  · rename_i h2
    exact h2 _ h
theorem nt_same (H : Hp) : Same (nt H) H := fun b o h => by
  unfold nt at h
  split at h
  · cases h
  · exact h
theorem nt_at {H : Hp} {b : Addr} {o : HO} (h : H b = some o) (n : NT o) : nt H b = some o := by
  unfold nt
  split
  · rename_i ps h2
    rw [h] at h2
    exact absurd (Option.some.inj h2) (n ps)
  · exact h
theorem nt_none {H : Hp} {b : Addr} (h : H b = none) : nt H b = none := by
  unfold nt
  rw [h]
theorem same_nt {G H : Hp} (s : Same G H) (n : NoT G) : Same G (nt H) := fun b o h => nt_at (s b o h) fun ps z => n b ps (by rw [h, z])
theorem nt_ext {H H' : Hp} (s : Same (nt H) H') : LamX.ExtN H H' := fun b o h n => s b o (nt_at h n)
theorem some_ne {H : Hp} {b : Addr} {o : HO} (h : H b = some o) : H b ≠ none := by rw [h]; exact fun z => nomatch z
theorem cell_obj {G H : Hp} {p : List Addr} {v : V} {z : Cell} (x : CellAt K c G H p v z) : ∀ b, b ∈ p → ∃ o, H b = some o ∧ NT o := by
  cases x with
  | lst h r => intro b hb; obtain rfl : b = _ := by simpa using hb
               exact ⟨_, h, fun _ z => nomatch z⟩
  | dct h r => intro b hb; obtain rfl : b = _ := by simpa using hb
               exact ⟨_, h, fun _ z => nomatch z⟩
  | ob h n q r =>
    rename_i a dx _ _ _
    intro b hb
    rcases (by simpa using hb : b = a ∨ b = dx) with rfl | rfl
    · rcases h with ⟨h1, _⟩ | ⟨h1, h2⟩
      · exact ⟨_, h1, fun _ z => nomatch z⟩
      · exact ⟨_, h1, fun _ z => by unfold SlX.SlO at z; nomatch z⟩
    · exact q
theorem cell_there {G H : Hp} {p : List Addr} {v : V} {z : Cell} (x : CellAt K c G H p v z) : ∀ b, b ∈ p → H b ≠ none := fun b hb => by
  obtain ⟨o, h, _⟩ := cell_obj x b hb
  exact some_ne h
/-- what is one's own stands there, and is no table -/
theorem Rels.obj {G H : Hp} {P : List (List Addr)} {σ : St} {env : Ev} (R : Rels K c G H P σ env) : ∀ b, b ∈ P.flatten → ∃ o, H b = some o ∧ NT o := fun b hb => by
  obtain ⟨q, hq, hb⟩ := List.mem_flatten.mp hb
  obtain ⟨i, hi, e⟩ := List.mem_iff_getElem.mp hq
  have hl := R.len
  have e1 : P[i]? = some q := by rw [List.getElem?_eq_getElem hi, e]
  obtain ⟨s, hs⟩ : ∃ s, env[i]? = some s := ⟨env[i]'(by omega), by simp [show i < env.length by omega]⟩
  obtain ⟨p', x, e2, _, r⟩ := R.get hs
  rw [e1] at e2; cases e2
  cases r with
  | no => cases hb
  | val _ => cases hb
  | cell z => exact cell_obj z b hb
end
end L2.DL
set_option Elab.async false
set_option linter.all false
set_option maxRecDepth 100000
set_option maxHeartbeats 4000000
namespace L2.DL
open PySem PySem.Spec PyProof.Rows
theorem PE.weak {X : Cx} {e : Expr} {t t' : TE} (h : PE X e t) (w : ∀ σ H Q, t' σ H Q → t σ H Q) : PE X e t' := ⟨fun pins s σ H Q I q => h.run pins s σ H Q I (w σ H Q q)⟩
theorem PT.weak {X : Cx} {e : Expr} {t t' : TT} (h : PT X e t) (w : ∀ σ H Q, t' σ H Q → t σ H Q) : PT X e t' := ⟨fun pins s σ H Q I q => h.run pins s σ H Q I (w σ H Q q)⟩
theorem PW.weak {X : Cx} {e : Expr} {t t' : TT} (h : PW X e t) (w : ∀ σ H Q, t' σ H Q → t σ H Q) : PW X e t' := ⟨fun wh pins s σ H Q I q => h.run wh pins s σ H Q I (w σ H Q q)⟩
theorem PA.weak {X : Cx} {e : List Expr} {t t' : TA} (h : PA X e t) (w : ∀ σ H Q, t' σ H Q → t σ H Q) : PA X e t' := ⟨fun ps pins s σ H Q I q => h.run ps pins s σ H Q I (w σ H Q q)⟩
theorem PS.weak {X : Cx} {e : Stmt} {t t' : TS} (h : PS X e t) (w : ∀ D σ H, t' D σ H → t D σ H) : PS X e t' := ⟨fun pins s σ H D I q => h.run pins s σ H D I (w D σ H q)⟩
theorem PSs.weak {X : Cx} {e : List Stmt} {t t' : TS} (h : PSs X e t) (w : ∀ D σ H, t' D σ H → t D σ H) : PSs X e t' := ⟨fun pins s σ H D I q => h.run pins s σ H D I (w D σ H q)⟩
section
variable {K : PySem.W.Frag} {c : Cl} {W : WX} {F G H H' : Hp} {P : List (List Addr)} {σ : St} {env : Ev}
theorem Post.here {α : Type} {a : α} {k : α → Hp → Hp → List (List Addr) → Prop} (R : Rel K c F G H P σ env) (h : Post K c W F G P σ env (.ok a env) k) : k a G H P :=
  h G H P (Ext.refl _ _) (Keep.refl _ _) R
/-! ### pure steps -/
theorem Pure.refl (h : Same G H) : Pure c H G H G := ⟨Same.refl _, LamX.ExtN.refl _, h, fun _ _ _ _ h => h, id, id⟩
theorem none_of {p : Addr} (h : Same G H) (n : H p = none) : G p = none := by
  cases e : G p with
  | none => rfl
  | some o => rw [h _ _ e] at n; cases n
theorem same_new {p : Addr} {o : HO} (n : H p = none) : Same H (upd H p o) := fun b q h => by rw [upd_ne (ne_of_none h n)]; exact h
theorem same_upd {p : Addr} {o : HO} (h : Same G H) (n : G p = none) : Same (upd G p o) (upd H p o) := fun b q e => by
  by_cases hb : b = p
  · subst hb; rw [upd_same] at e ⊢; exact e
  · rw [upd_ne hb] at e ⊢; exact h _ _ e
theorem not_upd {p : Addr} {o : HO} (h : NoT G) (ho : NT o) : NoT (upd G p o) := fun b ps e => by
  by_cases hb : b = p
  · subst hb; rw [upd_same] at e; exact ho ps (Option.some.inj e)
  · rw [upd_ne hb] at e; exact h b ps e
theorem Pure.new {p : Addr} (o : HO) (h : Same G H) (n : H p = none) (ho : NT o := by exact fun _ z => nomatch z) : Pure c H G (upd H p o) (upd G p o) :=
  ⟨same_new (none_of h n), Same.ext (same_new n), same_upd h (none_of h n), fun b o' hn _ hb => by
    have : b ≠ p := fun e => by rw [e, n] at hn; cases hn
    rw [upd_ne this]; exact hb, fun t => (t.same (same_new n)).mono (same_new (none_of h n)), fun hg => not_upd hg ho⟩
theorem Rel.pure {G' : Hp} (R : Rel K c F G H P σ env) (p : Pure c H G H' G') : Ext F G G' ∧ Rel K c F G' H' P σ env := by
  have fr : ∀ b, b ∈ P.flatten → G' b = none := fun b hb => by
    obtain ⟨o, h1, h2⟩ := R.all.obj b hb
    exact p.fresh b o h1 h2 (R.out b hb).2
  have fs : Same F H' := ext_nt R.fs R.tb.nf p.hs
  refine ⟨⟨p.same, fun b h1 h2 => ?_⟩, ⟨fs, p.gs, R.all.move p.same fun b hb o h => ?_, fun b hb => ⟨(R.out b hb).1, fr b hb⟩, R.nd, ⟨p.tabs R.tb.tabs, R.tb.nf, p.ng R.tb.ng⟩⟩⟩
  · cases e : F b with
    | none => exact absurd e h2
    | some o => exact p.fresh b o (R.fs b o e) (fun ps z => R.tb.nf b ps (by rw [e, z])) h1
  · obtain ⟨o', h1, h2⟩ := R.all.obj b hb
    rw [h] at h1
    cases h1
    exact p.hs b o h h2
end
/-! ### constants and names -/
def Cell.frz : Cell → Option D
  | .lst xs => some (.lst xs)
  | .dct kvs => some (.dct kvs)
  | .ob n fs => if fs.all (·.isSome) then some (.obj n (fs.filterMap id)) else none
def mC (d : D) : M D := fun env => .ok d env
def mName (i : Nat) : M D := fun env => match env[i]? with
  | some (.val d) => .ok d env
  | some (.cell false z) => match z.frz with
    | some d => .ok d (env.set i (.val d))
    | none => .bad
  | _ => .bad
section
variable {X : Cx} {c : Cl} {W : WX} {pos : Pos}
theorem de_const {e : Expr} {v : V} {d : D} (h : PE X e (tC v)) (r : ∀ G, Rep X.K c G v d) : PE X e (tE X.K c W (mC d)) :=
  PE.weak h fun σ H Q ⟨F, G, P, env, R, h⟩ => Post.here R h _ (r G)
theorem de_int {i : Int} {j} : PE X (.Constant (.int i) j pos) (tE X.K c W (mC (.int i))) := de_const pe_int fun _ => .int i
theorem de_bl {b : Bool} {j} : PE X (.Constant (.bool b) j pos) (tE X.K c W (mC (.bl b))) := de_const pe_bl fun _ => .bl b
theorem de_non {j} : PE X (.Constant .none j pos) (tE X.K c W (mC .non)) := de_const pe_non fun _ => .non
theorem de_str {x : Str} {j} : PE X (.Constant (.str x) j pos) (tE X.K c W (mC (.str x))) := de_const pe_str fun _ => .str x
/-- a module's own constant -/
theorem de_gint {x : Str} {i : Int} {t : Tok} (hg : Gl X x) (hm : X.mg x = some (.int i t)) (hd : (x == ("__debug__" : Str)) = false := by decide) : PE X (.Name x pos) (tE X.K c W (mC (.int i))) := de_const (pe_glob (v := .int i) hg hm ⟨_, rfl⟩ hd) fun _ => .int i
theorem de_gstr {x z : Str} {t : Tok} (hg : Gl X x) (hm : X.mg x = some (.str z t)) (hd : (x == ("__debug__" : Str)) = false := by decide) : PE X (.Name x pos) (tE X.K c W (mC (.str z))) := de_const (pe_glob (v := .str z) hg hm ⟨_, rfl⟩ hd) fun _ => .str z
end
section
variable {K : PySem.W.Frag} {c : Cl} {W : WX} {F G H H' : Hp} {P : List (List Addr)} {σ : St} {env : Ev}
/-- a part of the heap is data from now on -/
def frzH (G H : Hp) (p : List Addr) : Hp := fun b => if b ∈ p then H b else G b
theorem repO_all : ∀ {vs : List (Option V)} {fs : List (Option D)}, RepO K c G vs fs → fs.all (·.isSome) = true → ∃ us, vs = us.map some ∧ Reps K c G us (fs.filterMap id)
  | _, _, .nil, _ => ⟨[], rfl, .nil⟩
  | _, _, .none r, h => by simp at h
  | _, _, .some h r, q => by
    obtain ⟨us, e, s⟩ := repO_all r (by simpa using q)
    exact ⟨_ :: us, by rw [e]; rfl, .cons h s⟩
theorem CellAt.frz {p : List Addr} {v : V} {z : Cell} {d : D} (x : CellAt K c G H p v z) (hg : Same G H) (hn : ∀ b, b ∈ p → G b = none) (e : z.frz = some d) :
    Same G (frzH G H p) ∧ Same (frzH G H p) H ∧ Rep K c (frzH G H p) v d := by
  have s1 : Same G (frzH G H p) := fun b o h => by
    unfold frzH
    rw [if_neg (fun hb => by rw [hn b hb] at h; cases h)]; exact h
  have s2 : Same (frzH G H p) H := fun b o h => by
    unfold frzH at h
    split at h
    · exact h
    · exact hg _ _ h
  refine ⟨s1, s2, ?_⟩
  cases x with
  | lst h r =>
    cases e
    exact .lst (by unfold frzH; rw [if_pos (by simp)]; exact h) (r.mono s1)
  | dct h r =>
    cases e
    exact .dct (.inl (by unfold frzH; rw [if_pos (by simp)]; exact h)) (r.mono s1)
  | ob h n q r =>
    simp only [Cell.frz] at e
    split at e
    · rename_i ha
      cases e
      obtain ⟨us, e1, rr⟩ := repO_all r ha
      subst e1
      refine .obj (slt_move (fun o ho => ?_) (fun o ho => ?_) h) (rr.mono s1)
      · unfold frzH; rw [if_pos (by simp)]; exact ho
      · unfold frzH; rw [if_pos (by simp)]; exact ho
    · cases e
theorem not_frz {p : List Addr} {v : V} {z : Cell} (h : NoT G) (x : CellAt K c G H p v z) : NoT (frzH G H p) := fun b ps e => by
  unfold frzH at e
  split at e
  · rename_i hb
    obtain ⟨o, h1, h2⟩ := cell_obj x b hb
    rw [h1] at e
    exact h2 ps (Option.some.inj e)
  · exact h b ps e
theorem Rel.freeze {i : Nat} {z : Cell} {d : D} (R : Rel K c F G H P σ env) (e : env[i]? = some (.cell false z)) (q : z.frz = some d) :
    ∃ v G' P', σ[i]? = some (some v) ∧ Ext F G G' ∧ Keep P P' env (env.set i (.val d)) ∧ Rel K c F G' H P' σ (env.set i (.val d)) ∧ Rep K c G' v d := by
  obtain ⟨p, x, e1, e2, r⟩ := R.all.get e
  cases r with
  | cell r =>
    rename_i v
    obtain ⟨s1, s2, rr⟩ := r.frz R.gs (fun b hb => (R.out b (mem_flat e1 hb)).2) q
    have hσ : σ.set i (some v) = σ := by
      apply List.ext_getElem?
      intro j
      by_cases hj : i = j
      · subst hj
        rw [List.getElem?_set_self (by have := List.getElem?_eq_some_iff.mp e2; exact this.1), e2]
      · rw [List.getElem?_set_ne hj]
    refine ⟨v, _, P.set i [], e2, ⟨s1, fun b h1 h2 => ?_⟩, ⟨by simp, fun j z' hj => ?_⟩, ⟨R.fs, s2, ?_, fun b hb => ?_, nd_set_nil R.nd i, ⟨R.tb.tabs.mono s1, R.tb.nf, not_frz R.tb.ng r⟩⟩, rr⟩
    · unfold frzH
      split
      · rename_i hb
        exact absurd (R.out b (mem_flat e1 hb)).1 h2
      · exact h1
    · have hij : i ≠ j := fun h => by rw [← h, e] at hj; cases hj
      rw [List.getElem?_set_ne hij, List.getElem?_set_ne hij]
      exact ⟨rfl, z', hj⟩
    · have := (R.all.move s1 (fun b _ o h => h)).set (p := []) (x := some v) (s := .val d) i (.val rr)
      rw [hσ] at this
      exact this
    · rcases flat_set hb with hb' | hb'
      · cases hb'
      · refine ⟨(R.out b hb').1, ?_⟩
        unfold frzH
        split
        · rename_i hp
          -- b is in p and elsewhere
          exfalso
          obtain ⟨l, hl, hbl⟩ := List.mem_flatten.mp hb
          obtain ⟨j, hj, ej⟩ := List.mem_iff_getElem.mp hl
          have ej' : (P.set i [])[j]? = some l := by rw [List.getElem?_eq_getElem hj, ej]
          by_cases hij : i = j
          · subst hij
            rw [List.getElem?_set_self (by simpa using hj)] at ej'
            cases ej'
            cases hbl
          · rw [List.getElem?_set_ne hij] at ej'
            exact hij (nd_at R.nd e1 ej' hp hbl)
        · exact (R.out b hb').2
end
section
variable {X : Cx} {c : Cl} {W : WX} {pos : Pos}
theorem de_name (i : Nat) {x : Str} (hN : X.N[i]? = some x := by rfl) (hv : Vis X.env.scope x := by first | exact Or.inl rfl | exact Or.inr (Or.inl rfl) | exact Or.inr (Or.inr rfl)) (hd : (x == ("__debug__" : Str)) = false := by decide)
    (hcd : (x == ("__classdict__" : Str)) = false := by decide) : PE X (.Name x pos) (tE X.K c W (mName i)) := by
  refine PE.weak (pe_var (i := i) hN hv hd hcd) fun σ H Q h => ?_
  obtain ⟨F, G, P, env, R, h⟩ := h
  unfold mName at h
  cases e : env[i]? with
  | none => rw [e] at h; exact h.elim
  | some s =>
    rw [e] at h
    cases s with
    | no => exact h.elim
    | val d =>
      obtain ⟨p, x, e1, e2, r⟩ := R.all.get e
      cases r with
      | val r => exact ⟨_, e2, Post.here R h _ r⟩
    | cell l z =>
      cases l with
      | true => exact h.elim
      | false =>
        cases q : z.frz with
        | none => simp only [q] at h; exact h.elim
        | some d =>
          simp only [q] at h
          obtain ⟨v, G', P', e2, x1, k1, R1, r⟩ := R.freeze e q
          exact ⟨v, e2, h G' H P' x1 k1 R1 v r⟩
end
/-! ### operations on data -/
def OpD (X : Cx) (c : Cl) (f : Value → Value → Sem Value) (g : D → D → Option D) : Prop :=
  OpR X f fun x y H Q => ∃ G dx dy d, Same G H ∧ (Tbs c G H ∧ NoT G) ∧ Rep X.K c G x dx ∧ Rep X.K c G y dy ∧ g dx dy = some d ∧ ∀ G' H' v, Pure c H G H' G' → Rep X.K c G' v d → Q v H'
def mBin (g : D → D → Option D) (a b : M D) : M D := M.bind a fun x => M.bind b fun y => M.opt (g x y)
section
variable {X : Cx} {c : Cl} {W : WX} {pos : Pos} {a b : Expr} {ma mb : M D}
theorem Post.opt {K : PySem.W.Frag} {F G : Hp} {P : List (List Addr)} {σ : St} {env : Ev} {α : Type} {o : Option α} {k : α → Hp → Hp → List (List Addr) → Prop}
    (h : Post K c W F G P σ env (M.opt o env) k) : ∃ d, o = some d ∧ Post K c W F G P σ env (.ok d env) k := by
  cases o with
  | none => exact h.elim
  | some d => exact ⟨d, rfl, h⟩
theorem two_pure {K : PySem.W.Frag} {σ : St} {H : Hp} {Q : VK} {g : D → D → Option D} (h : tE K c W (mBin g ma mb) σ H Q) :
    tE K c W ma σ H fun x H1 => tE K c W mb σ H1 fun y H2 => ∃ G dx dy d, Same G H2 ∧ (Tbs c G H2 ∧ NoT G) ∧ Rep K c G x dx ∧ Rep K c G y dy ∧ g dx dy = some d ∧ ∀ G' H' v, Pure c H2 G H' G' → Rep K c G' v d → Q v H' := by
  obtain ⟨F, G, P, env, R, h⟩ := h
  refine ⟨F, G, P, env, R, (Post.bind h).imp fun x G1 H1 P1 _ ⟨env1, R1, h1⟩ v1 r1 => ⟨F, G1, P1, env1, R1, (Post.bind h1).imp fun y G2 H2 P2 x2 ⟨env2, R2, h2⟩ v2 r2 => ?_⟩⟩
  obtain ⟨d, e, h2⟩ := Post.opt h2
  refine ⟨G2, x, y, d, R2.gs, ⟨R2.tb.tabs, R2.tb.ng⟩, r1.mono x2.same, r2, e, fun G' H' v p r => ?_⟩
  obtain ⟨x3, R3⟩ := R2.pure p
  exact h2 G' H' P2 x3 (Keep.refl _ _) R3 v r
theorem de_bin {op : Operator} {g : D → D → Option D} (ho : OpD X c (binaryOp op) g) (ha : PE X a (tE X.K c W ma)) (hb : PE X b (tE X.K c W mb)) : PE X (.BinOp a op b pos) (tE X.K c W (mBin g ma mb)) :=
  PE.weak (pe_op ho ha hb) fun _ _ _ h => two_pure h
theorem de_cmp {op : CmpOp} {g : D → D → Option D} (ho : OpD X c (compareOp op) g) (ha : PE X a (tE X.K c W ma)) (hb : PE X b (tE X.K c W mb)) (hm : behindInMarks op b = false := by first | exact nomark _ | rfl) : PE X (.Compare a [op] [b] pos) (tE X.K c W (mBin g ma mb)) :=
  PE.weak (pe_cmpR ho ha hb hm) fun _ _ _ h => two_pure h
end
end L2.DL
set_option Elab.async false
set_option linter.all false
set_option maxRecDepth 100000
set_option maxHeartbeats 4000000
namespace L2.DL
open PySem PySem.Spec PyProof.Rows
/-! ### tests -/
def D.tru : D → Option Bool
  | .non => some false
  | .bl b => some b
  | .int i => some (i != 0)
  | .str y => if y.length ≤ 16777216 then some ((y.length : Int) != 0) else none
  | .lst xs => some (!xs.isEmpty)
  | .ro xs => some (!xs.isEmpty)
  | .tup xs => some (!xs.isEmpty)
  | _ => none
def D.isB : D → Option Bool
  | .bl b => some b
  | _ => none
def mTru (m : M D) : M Bool := M.bind m fun x => M.opt x.tru
def mTest (m : M D) : M Bool := M.bind m fun x => M.opt x.isB
def mAndT (a b : M Bool) : M Bool := M.bind a fun x => if x = true then b else M.ret false
def mOrT (a b : M Bool) : M Bool := M.bind a fun x => if x = true then M.ret true else b
def mNotT (a : M Bool) : M Bool := M.bind a fun x => M.ret (!x)
def mOfT (a : M Bool) : M D := M.bind a fun x => M.ret (.bl x)
def mIf {α : Type} (t : M Bool) (a b : M α) : M α := M.bind t fun x => if x = true then a else b
/-- and, or as values -/
def mAnd (a b : M D) : M D := M.bind a fun x => M.bind (M.opt x.tru) fun k => if k = true then b else M.ret x
def mOr (a b : M D) : M D := M.bind a fun x => M.bind (M.opt x.tru) fun k => if k = true then M.ret x else b
def mNot (a : M D) : M D := M.bind a fun x => M.bind (M.opt x.tru) fun k => M.ret (.bl (!k))
section
variable {K : PySem.W.Frag} {c : Cl} {W : WX} {F G H H' : Hp} {P : List (List Addr)} {σ : St} {env : Ev}
theorem isEmpty_reps {vs : List V} {ds : List D} (r : Reps K c G vs ds) : (!vs.isEmpty) = !ds.isEmpty := by cases r <;> rfl
theorem tru_rep (hs : Same G H) {v : V} {d : D} {k : Bool} (r : Rep K c G v d) (e : d.tru = some k) : TruV K v H k := by
  cases r with
  | non => cases e; rfl
  | bl b => cases e; rfl
  | int i => cases e; rfl
  | str x =>
    simp only [D.tru] at e
    split at e
    · rename_i h
      cases e
      exact ⟨by rw [sizeLine_eq]; exact h, rfl⟩
    · cases e
  | ty n => cases e
  | glb a => cases e
  | lst h r => cases e; exact .inl ⟨_, SqL.of (hs _ _ h), (isEmpty_reps r).symm⟩
  | ro h r => cases e; exact .inl ⟨_, hs.seq h, (isEmpty_reps r).symm⟩
  | tup h r => cases e; exact .inr (.inl ⟨_, Same.seqT hs h, (isEmpty_reps r).symm⟩)
  | obj _ _ => cases e
  | dct _ _ => cases e
theorem isB_rep {v : V} {d : D} {k : Bool} (r : Rep K c G v d) (e : d.isB = some k) : v = .bl k := by
  cases r with
  | bl b => cases e; rfl
  | _ => cases e
end
section
variable {X : Cx} {c : Cl} {W : WX} {pos : Pos} {a b t : Expr} {rest : List Expr} {ma mb : M D} {ta tb : M Bool}
theorem dt_val (h : PE X a (tE X.K c W ma)) (he : ∀ whole, isTrue a X.env whole = (do let v ← whole; standAt a.pos; holding [v] (truthy v)) := by intro _; rfl) : PT X a (tT X.K c W (mTru ma)) := by
  refine PT.weak (pt_truth h he) fun σ H Q h => ?_
  obtain ⟨F, G, P, env, R, h⟩ := h
  refine ⟨F, G, P, env, R, (Post.bind h).imp fun x G1 H1 P1 _ ⟨env1, R1, h1⟩ v r => ?_⟩
  obtain ⟨k, e, h1⟩ := Post.opt h1
  exact ⟨k, tru_rep R1.gs r e, Post.here R1 h1⟩
theorem test_imp {K : PySem.W.Frag} {σ : St} {H : Hp} {Q : Bool → Hp → Prop} (h : tT K c W (mTest ma) σ H Q) : tE K c W ma σ H fun x H' => ∃ k, x = .bl k ∧ Q k H' := by
  obtain ⟨F, G, P, env, R, h⟩ := h
  refine ⟨F, G, P, env, R, (Post.bind h).imp fun x G1 H1 P1 _ ⟨env1, R1, h1⟩ v r => ?_⟩
  obtain ⟨k, e, h1⟩ := Post.opt h1
  exact ⟨k, isB_rep r e, Post.here R1 h1⟩
theorem dt_cmp {op : CmpOp} {g : D → D → Option D} (ho : OpD X c (compareOp op) g) (ha : PE X a (tE X.K c W ma)) (hb : PE X b (tE X.K c W mb)) (hm : behindInMarks op b = false := by first | exact nomark _ | rfl) :
    PT X (.Compare a [op] [b] pos) (tT X.K c W (mTest (mBin g ma mb))) := by
  refine PT.weak (pt_cmpR ho ha hb hm) fun σ H Q h => ?_
  show tOp _ _ _ σ H _
  exact two_pure (test_imp h)
theorem dt_and1 (ha : PT X a (tT X.K c W ta)) : PW X (.BoolOp .And [a] pos) (tT X.K c W ta) := pw_and1 ha
theorem dt_or1 (ha : PT X a (tT X.K c W ta)) : PW X (.BoolOp .Or [a] pos) (tT X.K c W ta) := pw_or1 ha
theorem dt_and (ha : PT X a (tT X.K c W ta)) (hb : PW X (.BoolOp .And (b :: rest) pos) (tT X.K c W tb)) : PW X (.BoolOp .And (a :: b :: rest) pos) (tT X.K c W (mAndT ta tb)) := by
  refine PW.weak (pw_and ha hb) fun σ H Q h => ?_
  obtain ⟨F, G, P, env, R, h⟩ := h
  refine ⟨F, G, P, env, R, (Post.bind h).imp fun x G1 H1 P1 _ ⟨env1, R1, h1⟩ => ?_⟩
  cases x with
  | true => exact ⟨F, G1, P1, env1, R1, h1⟩
  | false => exact Post.here R1 h1
theorem dt_or (ha : PT X a (tT X.K c W ta)) (hb : PW X (.BoolOp .Or (b :: rest) pos) (tT X.K c W tb)) : PW X (.BoolOp .Or (a :: b :: rest) pos) (tT X.K c W (mOrT ta tb)) := by
  refine PW.weak (pw_or ha hb) fun σ H Q h => ?_
  obtain ⟨F, G, P, env, R, h⟩ := h
  refine ⟨F, G, P, env, R, (Post.bind h).imp fun x G1 H1 P1 _ ⟨env1, R1, h1⟩ => ?_⟩
  cases x with
  | true => exact Post.here R1 h1
  | false => exact ⟨F, G1, P1, env1, R1, h1⟩
theorem dt_not (ha : PT X a (tT X.K c W ta)) : PT X (.UnaryOp .Not a pos) (tT X.K c W (mNotT ta)) := by
  refine PT.weak (pt_not ha) fun σ H Q h => ?_
  obtain ⟨F, G, P, env, R, h⟩ := h
  exact ⟨F, G, P, env, R, (Post.bind h).imp fun x G1 H1 P1 _ ⟨env1, R1, h1⟩ => Post.here R1 h1⟩
theorem de_if {x y : Expr} {mx my : M D} (ht : PT X t (tT X.K c W ta)) (hx : PE X x (tE X.K c W mx)) (hy : PE X y (tE X.K c W my)) : PE X (.IfExp t x y pos) (tE X.K c W (mIf ta mx my)) := by
  refine PE.weak (pe_ifExp ht hx hy) fun σ H Q h => ?_
  obtain ⟨F, G, P, env, R, h⟩ := h
  refine ⟨F, G, P, env, R, (Post.bind h).imp fun x G1 H1 P1 _ ⟨env1, R1, h1⟩ => ?_⟩
  cases x with
  | true => exact ⟨F, G1, P1, env1, R1, h1⟩
  | false => exact ⟨F, G1, P1, env1, R1, h1⟩
/-- and, or, not as values -/
theorem de_one {op} (h : PE X a (tE X.K c W ma)) : PE X (.BoolOp op [a] pos) (tE X.K c W ma) := pe_one h
theorem de_and (ha : PE X a (tE X.K c W ma)) (hb : PE X (.BoolOp .And (b :: rest) pos) (tE X.K c W mb)) : PE X (.BoolOp .And (a :: b :: rest) pos) (tE X.K c W (mAnd ma mb)) := by
  refine PE.weak (pe_andT ha hb) fun σ H Q h => ?_
  obtain ⟨F, G, P, env, R, h⟩ := h
  refine ⟨F, G, P, env, R, (Post.bind h).imp fun x G1 H1 P1 _ ⟨env1, R1, h1⟩ v r => ?_⟩
  cases e : x.tru with
  | none => rw [e] at h1; exact h1.elim
  | some k =>
    rw [e] at h1
    refine ⟨k, tru_rep R1.gs r e, ?_⟩
    cases k with
    | true => exact ⟨F, G1, P1, env1, R1, h1⟩
    | false => exact Post.here R1 h1 v r
theorem de_or (ha : PE X a (tE X.K c W ma)) (hb : PE X (.BoolOp .Or (b :: rest) pos) (tE X.K c W mb)) : PE X (.BoolOp .Or (a :: b :: rest) pos) (tE X.K c W (mOr ma mb)) := by
  refine PE.weak (pe_orT ha hb) fun σ H Q h => ?_
  obtain ⟨F, G, P, env, R, h⟩ := h
  refine ⟨F, G, P, env, R, (Post.bind h).imp fun x G1 H1 P1 _ ⟨env1, R1, h1⟩ v r => ?_⟩
  cases e : x.tru with
  | none => rw [e] at h1; exact h1.elim
  | some k =>
    rw [e] at h1
    refine ⟨k, tru_rep R1.gs r e, ?_⟩
    cases k with
    | true => exact Post.here R1 h1 v r
    | false => exact ⟨F, G1, P1, env1, R1, h1⟩
theorem de_not (ha : PE X a (tE X.K c W ma)) : PE X (.UnaryOp .Not a pos) (tE X.K c W (mNot ma)) := by
  refine PE.weak (pe_notT ha) fun σ H Q h => ?_
  obtain ⟨F, G, P, env, R, h⟩ := h
  refine ⟨F, G, P, env, R, (Post.bind h).imp fun x G1 H1 P1 _ ⟨env1, R1, h1⟩ v r => ?_⟩
  cases e : x.tru with
  | none => rw [e] at h1; exact h1.elim
  | some k =>
    rw [e] at h1
    exact ⟨k, tru_rep R1.gs r e, Post.here R1 h1 _ (.bl _)⟩
/-- a op b op' c -/
def mChain (g g' : D → D → Option D) (a b d : M D) : M D := M.bind a fun x => M.bind b fun y => M.bind (M.opt (g x y)) fun z => M.bind (M.opt z.isB) fun k => if k = true then M.bind d fun w => M.opt (g' y w) else M.ret (.bl false)
theorem de_chain {op op' : CmpOp} {g g' : D → D → Option D} {d : Expr} {md : M D} (ho : OpD X c (compareOp op) g) (ho' : OpD X c (compareOp op') g') (ha : PE X a (tE X.K c W ma)) (hb : PE X b (tE X.K c W mb)) (hd : PE X d (tE X.K c W md))
    (hm : lastMarks [op, op'] [b, d] = false := by with_unfolding_all rfl) : PE X (.Compare a [op, op'] [b, d] pos) (tE X.K c W (mChain g g' ma mb md)) := by
  refine PE.weak (pe_chain ho ho' ha hb hd hm) fun σ H Q h => ?_
  obtain ⟨F, G, P, env, R, h⟩ := h
  refine ⟨F, G, P, env, R, (Post.bind h).imp fun x G1 H1 P1 _ ⟨env1, R1, h1⟩ v1 r1 => ⟨F, G1, P1, env1, R1, (Post.bind h1).imp fun y G2 H2 P2 x2 ⟨env2, R2, h2⟩ v2 r2 => ?_⟩⟩
  cases e : g x y with
  | none => rw [e] at h2; exact h2.elim
  | some z =>
    rw [e] at h2
    refine ⟨G2, x, y, z, R2.gs, ⟨R2.tb.tabs, R2.tb.ng⟩, r1.mono x2.same, r2, e, fun G3 H3 v3 p r3 => ?_⟩
    obtain ⟨x3, R3⟩ := R2.pure p
    have h2 : Post X.K c W F G2 P2 σ env2 (M.bind (M.opt z.isB) (fun k => if k = true then M.bind md fun w => M.opt (g' y w) else M.ret (.bl false)) env2) _ := h2
    cases q : z.isB with
    | none => rw [q] at h2; exact h2.elim
    | some k =>
      rw [q] at h2
      refine ⟨k, isB_rep r3 q, ?_⟩
      cases k with
      | false => exact h2 G3 H3 P2 x3 (Keep.refl _ _) R3 _ (.bl false)
      | true =>
        have h3 : Post X.K c W F G2 P2 σ env2 (M.bind md (fun w => M.opt (g' y w)) env2) _ := h2
        refine ⟨F, G3, P2, env2, R3, (Post.bind (h3.chain x3 (Keep.refl _ _))).imp fun w G4 H4 P4 x4 ⟨env4, R4, h4⟩ v4 r4 => ?_⟩
        obtain ⟨d4, e4, h4⟩ := Post.opt h4
        refine ⟨G4, y, w, d4, R4.gs, ⟨R4.tb.tabs, R4.tb.ng⟩, r2.mono (x3.same.trans x4.same), r4, e4, fun G5 H5 v5 p5 r5 => ?_⟩
        obtain ⟨x5, R5⟩ := R4.pure p5
        exact h4 G5 H5 P4 x5 (Keep.refl _ _) R5 v5 r5
end
/-! ### arithmetic -/
section
variable {X : Cx} {c : Cl}
theorem opd_of {f : Value → Value → Sem Value} {g : D → D → Option D}
    (h : ∀ (G H : Hp) (x y : V) (dx dy d : D), Same G H → Rep X.K c G x dx → Rep X.K c G y dy → g dx dy = some d → ∃ r : R2, OpR X f r ∧ ∀ Q : VK, (∀ G' H' v, Pure c H G H' G' → Rep X.K c G' v d → Q v H') → r x y H Q) : OpD X c f g := by
  intro pins s σ H x y v u Q I rx ry hq
  obtain ⟨G, dx, dy, d, hs, _, r1, r2, e, q⟩ := hq
  obtain ⟨r, ho, hr⟩ := h G H x y dx dy d hs r1 r2 e
  exact ho pins s σ H x y v u Q I rx ry (hr Q q)
theorem opd_ofT {f : Value → Value → Sem Value} {g : D → D → Option D}
    (h : ∀ (G H : Hp) (x y : V) (dx dy d : D), Same G H → (Tbs c G H ∧ NoT G) → Rep X.K c G x dx → Rep X.K c G y dy → g dx dy = some d → ∃ r : R2, OpR X f r ∧ ∀ Q : VK, (∀ G' H' v, Pure c H G H' G' → Rep X.K c G' v d → Q v H') → r x y H Q) : OpD X c f g := by
  intro pins s σ H x y v u Q I rx ry hq
  obtain ⟨G, dx, dy, d, hs, ht, r1, r2, e, q⟩ := hq
  obtain ⟨r, ho, hr⟩ := h G H x y dx dy d hs ht r1 r2 e
  exact ho pins s σ H x y v u Q I rx ry (hr Q q)
def wB : Nat := 2 ^ 65536
def dSub : D → D → Option D
  | .int a, .int b => some (.int (a - b))
  | _, _ => none
theorem do_sub : OpD X c (binaryOp .Sub) dSub := opd_of fun G H x y dx dy d hs r1 r2 e => by
  cases r1 with
  | int i =>
    cases r2 with
    | int j => cases e; exact ⟨_, op_sub, fun Q q => ⟨i, j, rfl, rfl, q G H _ (Pure.refl hs) (.int _)⟩⟩
    | _ => cases e
  | _ => cases e
def dMod : D → D → Option D
  | .int a, .int b => if 0 < b then some (.int (a % b)) else if b < 0 then some (.int (a.fmod b)) else none
  | _, _ => none
theorem do_mod : OpD X c (binaryOp .Mod) dMod := opd_of fun G H x y dx dy d hs r1 r2 e => by
  cases r1 with
  | int i =>
    cases r2 with
    | int j =>
      simp only [dMod] at e
      split at e
      · rename_i h
        cases e; exact ⟨_, op_mod, fun Q q => ⟨i, j, rfl, rfl, h, q G H _ (Pure.refl hs) (.int _)⟩⟩
      · split at e
        · cases e; exact ⟨_, op_modN, fun Q q => ⟨i, j, rfl, rfl, (by show j ≠ 0; omega), q G H _ (Pure.refl hs) (.int _)⟩⟩
        · cases e
    | _ => cases e
  | _ => cases e
def dDiv : D → D → Option D
  | .int a, .int b => if 0 < b ∧ b.natAbs.log2 < 9000 then some (.int (a / b)) else if b < 0 ∧ b.natAbs < 1073741824 then some (.int (a.fdiv b)) else none
  | _, _ => none
theorem do_div : OpD X c (binaryOp .FloorDiv) dDiv := opd_of fun G H x y dx dy d hs r1 r2 e => by
  cases r1 with
  | int i =>
    cases r2 with
    | int j =>
      simp only [dDiv] at e
      split at e
      · rename_i h
        cases e; exact ⟨_, op_fdivW, fun Q q => ⟨i, j, rfl, rfl, h, q G H _ (Pure.refl hs) (.int _)⟩⟩
      · split at e
        · rename_i h
          cases e; exact ⟨_, op_fdivN, fun Q q => ⟨i, j, rfl, rfl, (⟨by omega, h.2⟩ : j ≠ 0 ∧ _), q G H _ (Pure.refl hs) (.int _)⟩⟩
        · cases e
    | _ => cases e
  | _ => cases e
def dPow : D → D → Option D
  | .int a, .int b => if 0 ≤ b ∧ b ≤ 1000000 ∧ a.natAbs < 2 ^ 64 then some (.int (a ^ b.toNat)) else none
  | _, _ => none
theorem do_pow : OpD X c (binaryOp .Pow) dPow := opd_of fun G H x y dx dy d hs r1 r2 e => by
  cases r1 with
  | int i =>
    cases r2 with
    | int j =>
      simp only [dPow] at e
      split at e
      · rename_i h
        cases e; exact ⟨_, op_pow, fun Q q => ⟨i, j, rfl, rfl, h, q G H _ (Pure.refl hs) (.int _)⟩⟩
      · cases e
    | _ => cases e
  | _ => cases e
def dNeg : D → Option D
  | .int a => some (.int (-a))
  | _ => none
def mUn (g : D → Option D) (a : M D) : M D := M.bind a fun x => M.opt (g x)
theorem de_neg {W : WX} {a : Expr} {ma : M D} {pos : Pos} (ha : PE X a (tE X.K c W ma)) : PE X (.UnaryOp .USub a pos) (tE X.K c W (mUn dNeg ma)) := by
  refine PE.weak (pe_un un_neg ha) fun σ H Q h => ?_
  obtain ⟨F, G, P, env, R, h⟩ := h
  refine ⟨F, G, P, env, R, (Post.bind h).imp fun x G1 H1 P1 _ ⟨env1, R1, h1⟩ v r => ?_⟩
  obtain ⟨d, e, h1⟩ := Post.opt h1
  cases r with
  | int i => cases e; exact ⟨i, rfl, Post.here R1 h1 _ (.int _)⟩
  | _ => cases e
/-! ### order -/
def dLt : D → D → Option D
  | .int a, .int b => some (.bl (decide (a < b)))
  | .str a, .str b => some (.bl (decide (a.cps.toList < b.cps.toList)))
  | _, _ => none
theorem do_lt : OpD X c (compareOp .Lt) dLt := opd_of fun G H x y dx dy d hs r1 r2 e => by
  cases r1 with
  | int i =>
    cases r2 with
    | int j => cases e; exact ⟨_, op_lt, fun Q q => ⟨i, j, rfl, rfl, q G H _ (Pure.refl hs) (.bl _)⟩⟩
    | _ => cases e
  | str i =>
    cases r2 with
    | str j => cases e; exact ⟨_, op_lt_str, fun Q q => ⟨i, j, rfl, rfl, q G H _ (Pure.refl hs) (.bl _)⟩⟩
    | _ => cases e
  | _ => cases e
def dLe : D → D → Option D
  | .int a, .int b => some (.bl (decide (a ≤ b)))
  | _, _ => none
theorem do_le : OpD X c (compareOp .LtE) dLe := opd_of fun G H x y dx dy d hs r1 r2 e => by
  cases r1 with
  | int i =>
    cases r2 with
    | int j => cases e; exact ⟨_, op_le, fun Q q => ⟨i, j, rfl, rfl, q G H _ (Pure.refl hs) (.bl _)⟩⟩
    | _ => cases e
  | _ => cases e
def dGt : D → D → Option D
  | .int a, .int b => some (.bl (decide (b < a)))
  | _, _ => none
theorem do_gt : OpD X c (compareOp .Gt) dGt := opd_of fun G H x y dx dy d hs r1 r2 e => by
  cases r1 with
  | int i =>
    cases r2 with
    | int j => cases e; exact ⟨_, op_gt, fun Q q => ⟨i, j, rfl, rfl, q G H _ (Pure.refl hs) (.bl _)⟩⟩
    | _ => cases e
  | _ => cases e
def dGe : D → D → Option D
  | .int a, .int b => some (.bl (decide (b ≤ a)))
  | _, _ => none
theorem do_ge : OpD X c (compareOp .GtE) dGe := opd_of fun G H x y dx dy d hs r1 r2 e => by
  cases r1 with
  | int i =>
    cases r2 with
    | int j => cases e; exact ⟨_, op_ge, fun Q q => ⟨i, j, rfl, rfl, q G H _ (Pure.refl hs) (.bl _)⟩⟩
    | _ => cases e
  | _ => cases e
end
end L2.DL
set_option Elab.async false
set_option linter.all false
set_option maxRecDepth 100000
set_option maxHeartbeats 4000000
namespace L2.DL
open PySem PySem.Spec PyProof.Rows
section
variable {X : Cx} {c : Cl}
def dAdd : D → D → Option D
  | .int a, .int b => some (.int (a + b))
  | .str a, .str b => if a.length + b.length ≤ 16777216 then some (.str (a ++ b)) else none
  | .lst a, .lst b => if a.length + b.length ≤ 16777216 then some (.lst (a ++ b)) else none
  | .tup a, .tup b => if a.length + b.length ≤ 16777216 then some (.tup (a ++ b)) else none
  | .int a, .bl b => some (.int (a + b2i b))
  | _, _ => none
theorem do_add : OpD X c (binaryOp .Add) dAdd := opd_of fun G H x y dx dy d hs r1 r2 e => by
  cases r1 with
  | int i =>
    cases r2 with
    | int j => cases e; exact ⟨_, op_add, fun Q q => ⟨i, j, rfl, rfl, q G H _ (Pure.refl hs) (.int _)⟩⟩
    | bl j => cases e; exact ⟨_, op_add_ib, fun Q q => ⟨i, j, rfl, rfl, q G H _ (Pure.refl hs) (.int _)⟩⟩
    | _ => cases e
  | str i =>
    cases r2 with
    | str j =>
      simp only [dAdd] at e
      split at e
      · rename_i h
        cases e
        exact ⟨_, op_add_str, fun Q q => ⟨i, j, rfl, rfl, by rw [sizeLine_eq]; exact h, q G H _ (Pure.refl hs) (.str _)⟩⟩
      · cases e
    | _ => cases e
  | lst h1 s1 =>
    cases r2 with
    | lst h2 s2 =>
      simp only [dAdd] at e
      split at e
      · rename_i h
        cases e
        refine ⟨_, op_cat, fun Q q => ⟨_, _, _, _, rfl, rfl, hs _ _ h1, hs _ _ h2, by rw [s1.length, s2.length, sizeLine_eq]; exact h, fun p n => ?_⟩⟩
        exact q _ _ _ (Pure.new _ hs n) (.lst upd_same ((s1.append s2).mono (same_new (none_of hs n))))
      · cases e
    | _ => cases e
  | tup h1 s1 =>
    cases r2 with
    | tup h2 s2 =>
      simp only [dAdd] at e
      split at e
      · rename_i h
        cases e
        refine ⟨_, op_catA, fun Q q => ⟨_, _, _, _, rfl, rfl, Same.seqT hs h1, Same.seqT hs h2, by rw [s1.length, s2.length, sizeLine_eq]; exact h, fun z => ?_, fun z1 z2 => ?_, fun z1 z2 p n => ?_⟩⟩
        · subst z
          cases s1
          exact q G H _ (Pure.refl hs) (.tup h2 s2)
        · subst z2
          cases s2
          exact q G H _ (Pure.refl hs) (.tup h1 (by rw [List.append_nil]; exact s1))
        · exact q _ _ _ (Pure.new _ hs n) (.tup (SqT.of upd_same) ((s1.append s2).mono (same_new (none_of hs n))))
      · cases e
    | _ => cases e
  | _ => cases e
/-! ### times -/
theorem Reps.rep {K : PySem.W.Frag} {G : Hp} {vs : List V} {ds : List D} (r : Reps K c G vs ds) : ∀ n : Nat, Reps K c G (List.replicate n vs).flatten (List.replicate n ds).flatten
  | 0 => .nil
  | n + 1 => by rw [List.replicate_succ, List.replicate_succ, List.flatten_cons, List.flatten_cons]; exact r.append (Reps.rep r n)
def strRep (x : Str) (n : Nat) : Str := ⟨(List.replicate n x.cps.toList).flatten.toArray⟩
theorem strRep_fold (x : Str) (n : Nat) : (List.replicate n x.cps).foldl (· ++ ·) #[] = (strRep x n).cps := by
  have : ∀ (n : Nat) (a : Array Nat), (List.replicate n x.cps).foldl (· ++ ·) a = a ++ (List.replicate n x.cps.toList).flatten.toArray := by
    intro n
    induction n with
    | zero => intro a; simp
    | succ n ih => intro a; rw [List.replicate_succ, List.foldl_cons, ih, List.replicate_succ, List.flatten_cons, Array.append_assoc]; congr 1; apply Array.ext'; simp
  rw [this n #[]]
  simp [strRep]
def rMulS : R2 := fun x y H Q => ∃ z n, x = .str z ∧ y = .int n ∧ n ≤ 1000000 ∧ -1000000 ≤ n ∧ z.length ≤ 10 ∧ Q (.str (strRep z n.toNat)) H
theorem op_mulS : OpR X (binaryOp .Mult) rMulS := by
  intro pins s σ H x y v u Q I rx ry h
  obtain ⟨z, n, rfl, rfl, h1, h0, h2, q⟩ := h
  obtain ⟨t, rfl⟩ := rx
  obtain ⟨t', rfl⟩ := ry
  have hb : z.length * n.toNat ≤ 10000000 := by
    have : z.length * n.toNat ≤ 10 * 1000000 := Nat.mul_le_mul h2 (by omega)
    omega
  have hl : Builtin.Str.tooLong (z.length * n.toNat) = false := by
    unfold Builtin.Str.tooLong
    have : sizeLine = 16777216 := sizeLine_eq
    first
    | exact decide_eq_false (by omega)
    | (simp; omega)
  refine PySem.P.mul_str (by rw [decide_eq_false (by omega), decide_eq_false (by omega)]; rfl) (fun g1 g2 g3 => ?_) (fun _ _ => hl) ?_
  · have hn : 0 < n := by omega
    have h3 : n * (z.length : Int) ≤ 10000000 := by
      have e1 : n * (z.length : Int) = ((z.length * n.toNat : Nat) : Int) := by
        rw [Nat.mul_comm, Int.natCast_mul, Int.toNat_of_nonneg (by omega)]
      rw [e1]; omega
    have h4 : (z.length : Int) ≤ (2 ^ 63 - 1) / n := (Int.le_ediv_iff_mul_le hn).mpr (by rw [Int.mul_comm]; omega)
    omega
  · by_cases g1 : n < 1
    · rw [if_pos g1]
      have e : strRep z n.toNat = Str.empty := by
        have : n.toNat = 0 := by omega
        rw [this]; rfl
      rw [e] at q
      exact ⟨by decide, ⟨.str Str.empty, H, I.tok _, ⟨_, rfl⟩, q⟩⟩
    · rw [if_neg g1]
      by_cases g2 : (n == 1 || z.length == 0) = true
      · rw [if_pos g2]
        have e : strRep z n.toNat = z := by
          rcases Bool.or_eq_true_iff.mp g2 with g | g
          · have : n = 1 := by simpa using g
            subst this
            show (⟨_⟩ : Str) = z
            have : (List.replicate (1 : Int).toNat z.cps.toList).flatten = z.cps.toList := by simp [show (1 : Int).toNat = 1 from rfl]
            rw [this]
          · have hz : z.cps.toList = [] := by
              have : z.cps.size = 0 := by simpa [Str.length] using g
              exact List.eq_nil_of_length_eq_zero (by simpa using this)
            obtain ⟨a⟩ := z
            simp only at hz
            have : a = #[] := by simpa using congrArg List.toArray hz
            subst this
            simp [strRep]
        rw [e] at q
        exact ⟨.str z, H, I, ⟨_, rfl⟩, q⟩
      · rw [if_neg g2, strRep_fold]
        refine ⟨?_, ⟨.str (strRep z n.toNat), H, I.tok _, ⟨_, rfl⟩, q⟩⟩
        have e : (strRep z n.toNat).length = z.length * n.toNat := by
          simp [strRep, Str.length, Nat.mul_comm]
        first
        | (rw [e]; have : sizeLine = 16777216 := sizeLine_eq; omega)
        | (show (strRep z n.toNat).length ≤ sizeLine; rw [e, sizeLine_eq]; omega)
def dMul : D → D → Option D
  | .int a, .int b => if a.natAbs.log2 + b.natAbs.log2 < 1000000 then some (.int (a * b)) else none
  | .str a, .int b => if b ≤ 1000000 ∧ -1000000 ≤ b ∧ a.length ≤ 10 then some (.str (strRep a b.toNat)) else none
  | .lst a, .int b => if -(2 ^ 63) ≤ b ∧ b < 2 ^ 63 ∧ a.length * b.toNat ≤ 16777216 then some (.lst (List.replicate b.toNat a).flatten) else none
  | _, _ => none
theorem do_mul : OpD X c (binaryOp .Mult) dMul := opd_of fun G H x y dx dy d hs r1 r2 e => by
  cases r1 with
  | int i =>
    cases r2 with
    | int j =>
      simp only [dMul] at e
      split at e
      · rename_i h
        cases e; exact ⟨_, op_mulW, fun Q q => ⟨i, j, rfl, rfl, h, q G H _ (Pure.refl hs) (.int _)⟩⟩
      · cases e
    | _ => cases e
  | str i =>
    cases r2 with
    | int j =>
      simp only [dMul] at e
      split at e
      · rename_i h
        cases e; exact ⟨_, op_mulS, fun Q q => ⟨i, j, rfl, rfl, h.1, h.2.1, h.2.2, q G H _ (Pure.refl hs) (.str _)⟩⟩
      · cases e
    | _ => cases e
  | lst h1 s1 =>
    cases r2 with
    | int j =>
      simp only [dMul] at e
      split at e
      · rename_i h
        cases e
        refine ⟨_, op_rep, fun Q q => ⟨_, j, _, rfl, rfl, hs _ _ h1, h.1, h.2.1, by rw [s1.length, sizeLine_eq]; exact h.2.2, fun p n => ?_⟩⟩
        exact q _ _ _ (Pure.new _ hs n) (.lst upd_same ((s1.rep _).mono (same_new (none_of hs n))))
      · cases e
    | _ => cases e
  | _ => cases e
/-! ### equality of data -/
mutual
def D.py : D → Option PyData
  | .non => some .none
  | .bl b => some (.bool b)
  | .int i => some (.int i)
  | .str x => some (.str x)
  | .lst xs => (D.pys xs).map .list
  | .ro xs => (D.pys xs).map .list
  | .tup xs => (D.pys xs).map .tuple
  | _ => none
def D.pys : List D → Option (List PyData)
  | [] => some []
  | x :: xs => (D.py x).bind fun y => (D.pys xs).map (y :: ·)
end
mutual
theorem dp_rep {K : PySem.W.Frag} {G H : Hp} (hs : Same G H) : ∀ {v : V} {d : D} {p : PyData}, Rep K c G v d → d.py = some p → Dp K H v p
  | _, _, _, .non, e => by simp only [D.py] at e; cases e; exact .non
  | _, _, _, .bl b, e => by simp only [D.py] at e; cases e; exact .bl b
  | _, _, _, .int b, e => by simp only [D.py] at e; cases e; exact .int b
  | _, _, _, .str b, e => by simp only [D.py] at e; cases e; exact .str b
  | _, _, _, .ty b, e => by simp only [D.py] at e; cases e
  | _, _, _, .glb b, e => by simp only [D.py] at e; cases e
  | _, _, _, .obj _ _, e => by simp only [D.py] at e; cases e
  | _, _, _, .dct _ _, e => by simp only [D.py] at e; cases e
  | _, _, _, .lst h r, e => by
    simp only [D.py] at e
    obtain ⟨ps, e1, e2⟩ := Option.map_eq_some_iff.mp e
    cases e2
    exact .lst (SqL.of (hs _ _ h)) (dps_rep hs r e1)
  | _, _, _, .ro h r, e => by
    simp only [D.py] at e
    obtain ⟨ps, e1, e2⟩ := Option.map_eq_some_iff.mp e
    cases e2
    exact .lst (hs.seq h) (dps_rep hs r e1)
  | _, _, _, .tup h r, e => by
    simp only [D.py] at e
    obtain ⟨ps, e1, e2⟩ := Option.map_eq_some_iff.mp e
    cases e2
    exact .tup (Same.seqT hs h) (dps_rep hs r e1)
theorem dps_rep {K : PySem.W.Frag} {G H : Hp} (hs : Same G H) : ∀ {v : List V} {d : List D} {p : List PyData}, Reps K c G v d → D.pys d = some p → DpAll K H v p
  | _, _, _, .nil, e => by simp only [D.pys] at e; cases e; exact .nil
  | _, _, _, .cons h r, e => by
    simp only [D.pys] at e
    obtain ⟨y, e1, e2⟩ := Option.bind_eq_some_iff.mp e
    obtain ⟨ys, e3, e4⟩ := Option.map_eq_some_iff.mp e2
    cases e4
    exact .cons (dp_rep hs h e1) (dps_rep hs r e3)
end
def dEqv (x y : D) : Option Bool := match x, y with
  | .int a, .int b => some (decide (a = b))
  | .str a, .str b => some (decide (a = b))
  | .bl a, .bl b => some (decide (a = b))
  | x, y => x.py.bind fun a => y.py.bind fun b => if SeqAt.shaped a && SeqAt.shaped b then some (PyData.eqv a b) else none
def dEq (x y : D) : Option D := (dEqv x y).map .bl
def dNe (x y : D) : Option D := (dEqv x y).map fun b => .bl (!b)
theorem eqD_gen {K : PySem.W.Frag} {G H : Hp} (hs : Same G H) {x y : V} {dx dy : D} {b : Bool} (r1 : Rep K c G x dx) (r2 : Rep K c G y dy)
    (e : (dx.py.bind fun a => dy.py.bind fun b => if SeqAt.shaped a && SeqAt.shaped b then some (PyData.eqv a b) else none) = some b) :
    ∃ p q, Dp K H x p ∧ Dp K H y q ∧ SeqAt.shaped p = true ∧ SeqAt.shaped q = true ∧ PyData.eqv p q = b := by
  obtain ⟨p, e1, e⟩ := Option.bind_eq_some_iff.mp e
  obtain ⟨q, e2, e⟩ := Option.bind_eq_some_iff.mp e
  split at e
  · rename_i h
    obtain ⟨h1, h2⟩ := Bool.and_eq_true_iff.mp h
    exact ⟨p, q, dp_rep hs r1 e1, dp_rep hs r2 e2, h1, h2, Option.some.inj e⟩
  · cases e
theorem eqv_cases {K : PySem.W.Frag} {G H : Hp} (hs : Same G H) {x y : V} {dx dy : D} {b : Bool} (r1 : Rep K c G x dx) (r2 : Rep K c G y dy) (e : dEqv dx dy = some b) :
    (scal x y = true ∧ decide (x = y) = b) ∨ ∃ p q, Dp K H x p ∧ Dp K H y q ∧ SeqAt.shaped p = true ∧ SeqAt.shaped q = true ∧ PyData.eqv p q = b := by
  unfold dEqv at e
  split at e
  · cases r1; cases r2; cases e; exact .inl ⟨rfl, by simp⟩
  · cases r1; cases r2; cases e; exact .inl ⟨rfl, by simp⟩
  · cases r1; cases r2; cases e; exact .inl ⟨rfl, by simp⟩
  · exact .inr (eqD_gen hs r1 r2 e)
theorem do_eq (hu : X.A.units + 64 < cLine) : OpD X c (compareOp .Eq) dEq := opd_of fun G H x y dx dy d hs r1 r2 e => by
  obtain ⟨b, e1, e2⟩ := Option.map_eq_some_iff.mp e
  subst e2
  rcases eqv_cases hs r1 r2 e1 with ⟨h1, h2⟩ | ⟨p, q, h1, h2, h3, h4, h5⟩
  · exact ⟨_, op_eq, fun Q k => ⟨h1, by rw [h2]; exact k G H _ (Pure.refl hs) (.bl _)⟩⟩
  · exact ⟨_, op_eqD hu, fun Q k => ⟨p, q, h1, h2, h3, h4, by rw [h5]; exact k G H _ (Pure.refl hs) (.bl _)⟩⟩
theorem do_ne (hu : X.A.units + 64 < cLine) : OpD X c (compareOp .NotEq) dNe := opd_of fun G H x y dx dy d hs r1 r2 e => by
  obtain ⟨b, e1, e2⟩ := Option.map_eq_some_iff.mp e
  subst e2
  rcases eqv_cases hs r1 r2 e1 with ⟨h1, h2⟩ | ⟨p, q, h1, h2, h3, h4, h5⟩
  · exact ⟨_, op_ne, fun Q k => ⟨h1, by rw [h2]; exact k G H _ (Pure.refl hs) (.bl _)⟩⟩
  · exact ⟨_, op_neD hu, fun Q k => ⟨p, q, h1, h2, h3, h4, by rw [h5]; exact k G H _ (Pure.refl hs) (.bl _)⟩⟩
end
end L2.DL
set_option Elab.async false
set_option linter.all false
set_option maxRecDepth 100000
set_option maxHeartbeats 4000000
namespace L2.DL
open PySem PySem.Spec PyProof.Rows
/-! ### lists of arguments, displays -/
def mNil : M (List D) := M.ret []
def mCons (a : M D) (b : M (List D)) : M (List D) := M.bind a fun x => M.bind b fun xs => M.ret (x :: xs)
section
variable {X : Cx} {c : Cl} {W : WX} {pos : Pos} {e a b : Expr} {es : List Expr} {ma mb : M D} {ms : M (List D)}
theorem da_nil : PA X [] (tA X.K c W mNil) := PA.weak pa_nil fun σ H Q ⟨F, G, P, env, R, h⟩ => Post.here R h _ .nil
theorem da_cons (ha : PE X e (tE X.K c W ma)) (hr : PA X es (tA X.K c W ms)) (hs : starEach (e :: es) X.env = (false, eval e X.env) :: starEach es X.env := by rfl) : PA X (e :: es) (tA X.K c W (mCons ma ms)) := by
  refine PA.weak (pa_cons ha hr hs) fun σ H Q h => ?_
  obtain ⟨F, G, P, env, R, h⟩ := h
  refine ⟨F, G, P, env, R, (Post.bind h).imp fun x G1 H1 P1 _ ⟨env1, R1, h1⟩ v r => ⟨F, G1, P1, env1, R1, (Post.bind h1).imp fun ds G2 H2 P2 x2 ⟨env2, R2, h2⟩ vs rs => ?_⟩⟩
  exact Post.here R2 h2 _ (.cons (r.mono x2.same) rs)
/-- a tuple of written items -/
def mTup (ms : M (List D)) : M D := M.bind ms fun xs => if xs.length ≤ 16777216 then M.ret (.tup xs) else fun _ => .bad
theorem new_val {K : PySem.W.Frag} {F G H : Hp} {P : List (List Addr)} {σ : St} {env : Ev} {Q : VK} {d : D} {p : Addr} {o : HO} (R : Rel K c F G H P σ env) (h : Post K c W F G P σ env (.ok d env) fun d G' H' _ => ∀ v, Rep K c G' v d → Q v H') (n : H p = none)
    (r : Rep K c (upd G p o) (.ref p) d) (ho : NT o := by exact fun _ z => nomatch z) : Q (.ref p) (upd H p o) := by
  obtain ⟨x3, R3⟩ := R.pure (Pure.new o R.gs n ho)
  exact h _ _ _ x3 (Keep.refl _ _) R3 _ r
theorem de_tup {x1} (h : PA X es (tA X.K c W ms)) : PE X (.Tuple es x1 pos) (tE X.K c W (mTup ms)) := by
  refine PE.weak (pe_tup h) fun σ H Q h => ?_
  obtain ⟨F, G, P, env, R, h⟩ := h
  refine ⟨F, G, P, env, R, (Post.bind h).imp fun ds G1 H1 P1 _ ⟨env1, R1, h1⟩ vs rs => ?_⟩
  split at h1
  · rename_i hl
    refine ⟨by rw [rs.length, sizeLine_eq]; exact hl, fun p n => new_val R1 h1 n (.tup (SqT.of upd_same) (rs.mono (same_new (none_of R1.gs n))))⟩
  · exact h1.elim
/-- a list of written items, a thing of its own -/
def mLst (ms : M (List D)) : M Cell := M.bind ms fun xs => if xs.length ≤ 16777216 then M.ret (.lst xs) else fun _ => .bad
theorem new_cell {K : PySem.W.Frag} {F G H : Hp} {P : List (List Addr)} {σ : St} {env : Ev} {Q : VK} {z : Cell} {p : Addr} {o : HO} (R : Rel K c F G H P σ env)
    (h : Post K c W F G P σ env (.ok z env) fun z G' H' P' => ∀ v p, CellAt K c G' H' p v z → p.Nodup → (∀ b, b ∈ p → F b = none ∧ G' b = none ∧ b ∉ P'.flatten) → Q v H') (n : H p = none)
    (r : CellAt K c G (upd H p o) [p] (.ref p) z) : Q (.ref p) (upd H p o) := by
  have hs := same_new (o := o) n
  have nG := none_of R.gs n
  have nF := none_of R.fs n
  have nP : p ∉ P.flatten := fun hb => by
    obtain ⟨q, hq, hb⟩ := List.mem_flatten.mp hb
    obtain ⟨i, hi, e⟩ := List.mem_iff_getElem.mp hq
    have hl := R.all.len
    have e1 : P[i]? = some q := by rw [List.getElem?_eq_getElem hi, e]
    obtain ⟨s, hs⟩ : ∃ s, env[i]? = some s := ⟨env[i]'(by omega), by simp [show i < env.length by omega]⟩
    obtain ⟨p', x, e2, _, r⟩ := R.all.get hs
    rw [e1] at e2; cases e2
    cases r with
    | no => cases hb
    | val _ => cases hb
    | cell z => exact cell_there z p hb n
  refine h G (upd H p o) P (Ext.refl _ _) (Keep.refl _ _) ⟨R.fs.trans hs, R.gs.trans hs, R.all.move (Same.refl _) fun b _ o h => hs b o h, R.out, R.nd, R.tb.same hs⟩ _ [p] r (by simp) fun b hb => ?_
  obtain rfl : b = p := by simpa using hb
  exact ⟨nF, nG, nP⟩
theorem do_lst (h : PA X es (tA X.K c W ms)) : PE X (.List es pos) (tO X.K c W (mLst ms)) := by
  refine PE.weak (pe_lst h) fun σ H Q h => ?_
  obtain ⟨F, G, P, env, R, h⟩ := h
  refine ⟨F, G, P, env, R, (Post.bind h).imp fun ds G1 H1 P1 _ ⟨env1, R1, h1⟩ vs rs => ?_⟩
  split at h1
  · rename_i hl
    refine ⟨by rw [rs.length, sizeLine_eq]; exact hl, fun p n => new_cell R1 h1 n (.lst upd_same rs)⟩
  · exact h1.elim
/-- a thing of its own becomes data -/
def mFrz (m : M Cell) : M D := M.bind m fun z => M.opt z.frz
theorem de_frz (h : PE X e (tO X.K c W (m := mz))) : PE X e (tE X.K c W (mFrz mz)) := by
  refine PE.weak h fun σ H Q h => ?_
  obtain ⟨F, G, P, env, R, h⟩ := h
  refine ⟨F, G, P, env, R, (Post.bind h).imp fun z G1 H1 P1 _ ⟨env1, R1, h1⟩ v p ca nd out => ?_⟩
  obtain ⟨d, e, h1⟩ := Post.opt h1
  obtain ⟨s1, s2, rr⟩ := ca.frz R1.gs (fun b hb => (out b hb).2.1) e
  have hfr : ∀ b, b ∉ p → frzH G1 H1 p b = G1 b := fun b hb => by unfold frzH; rw [if_neg hb]
  refine h1 (frzH G1 H1 p) H1 P1 ⟨s1, fun b g1 g2 => ?_⟩ (Keep.refl _ _) ⟨R1.fs, s2, R1.all.move s1 fun b _ o h => h, fun b hb => ⟨(R1.out b hb).1, ?_⟩, R1.nd, ⟨R1.tb.tabs.mono s1, R1.tb.nf, not_frz R1.tb.ng ca⟩⟩ v rr
  · by_cases hb : b ∈ p
    · exact absurd (out b hb).1 g2
    · rw [hfr b hb]; exact g1
  · rw [hfr b fun z => (out b z).2.2 hb]; exact (R1.out b hb).2
end
/-! ### calls of built-ins on data -/
def CallD (X : Cx) (c : Cl) (f : Value) (g : List D → Option D) : Prop :=
  CallR X f fun xs H Q => ∃ G ds d, Same G H ∧ Reps X.K c G xs ds ∧ g ds = some d ∧ ∀ G' H' v, Pure c H G H' G' → Rep X.K c G' v d → Q v H'
def mFn (g : List D → Option D) (ms : M (List D)) : M D := M.bind ms fun ds => M.opt (g ds)
section
variable {X : Cx} {c : Cl} {W : WX} {pos : Pos} {e a b : Expr} {es : List Expr} {ma mb : M D} {ms : M (List D)} {x : Str} {p : Pos} {id T : String} {g : List D → Option D}
theorem fn_imp {K : PySem.W.Frag} {σ : St} {H : Hp} {Q : VK} (h : tE K c W (mFn g ms) σ H Q) : tA K c W ms σ H fun xs H1 => ∃ G ds d, Same G H1 ∧ Reps K c G xs ds ∧ g ds = some d ∧ ∀ G' H' v, Pure c H1 G H' G' → Rep K c G' v d → Q v H' := by
  obtain ⟨F, G, P, env, R, h⟩ := h
  refine ⟨F, G, P, env, R, (Post.bind h).imp fun ds G1 H1 P1 _ ⟨env1, R1, h1⟩ vs rs => ?_⟩
  obtain ⟨d, e, h1⟩ := Post.opt h1
  refine ⟨G1, ds, d, R1.gs, rs, e, fun G' H' v p r => ?_⟩
  obtain ⟨x3, R3⟩ := R1.pure p
  exact h1 G' H' P1 x3 (Keep.refl _ _) R3 v r
theorem de_callB (hc : CallD X c (.builtin id) g) (hg : Gl X x) (hm : X.mg x = none) (hv : bootBuiltins x = some (.builtin id)) (ha : PA X (e :: es) (tA X.K c W ms)) (hn : x ≠ "__name__" := by decide) (hdb : (x == ("__debug__" : Str)) = false := by decide)
    (he : starEach (e :: es) X.env = (false, eval e X.env) :: starEach es X.env := by rfl) (hpl : (backTo pos (starEach es X.env)).any (·.1) = false := by rfl) : PE X (.Call (.Name x p) (e :: es) [] pos) (tE X.K c W (mFn g ms)) :=
  PE.weak (pe_callB hc hg hm hv ha hn hdb he hpl) fun _ _ _ h => fn_imp h
theorem de_callTy (hc : CallD X c (.type T) g) (hg : Gl X x) (hm : X.mg x = none) (hv : bootBuiltins x = some (.type T)) (ha : PA X (e :: es) (tA X.K c W ms)) (hn : x ≠ "__name__" := by decide) (hdb : (x == ("__debug__" : Str)) = false := by decide)
    (he : starEach (e :: es) X.env = (false, eval e X.env) :: starEach es X.env := by rfl) (hpl : (backTo pos (starEach es X.env)).any (·.1) = false := by rfl) : PE X (.Call (.Name x p) (e :: es) [] pos) (tE X.K c W (mFn g ms)) :=
  PE.weak (pe_callTy hc hg hm hv ha hn hdb he hpl) fun _ _ _ h => fn_imp h
theorem de_callM (hc : CallD X c (.builtin id) g) (hg : Gl X x) (hm : X.mg x = some (.builtin id)) (ha : PA X (e :: es) (tA X.K c W ms)) (hdb : (x == ("__debug__" : Str)) = false := by decide)
    (he : starEach (e :: es) X.env = (false, eval e X.env) :: starEach es X.env := by rfl) (hpl : (backTo pos (starEach es X.env)).any (·.1) = false := by rfl) : PE X (.Call (.Name x p) (e :: es) [] pos) (tE X.K c W (mFn g ms)) :=
  PE.weak (pe_callBfun hc hg hm ha hdb he hpl) fun _ _ _ h => fn_imp h
end
section
variable {X : Cx} {c : Cl}
theorem calld_of {f : Value} {g : List D → Option D}
    (h : ∀ (G H : Hp) (xs : List V) (ds : List D) (d : D), Same G H → Reps X.K c G xs ds → g ds = some d → ∃ r : List V → Hp → VK → Prop, CallR X f r ∧ ∀ Q : VK, (∀ G' H' v, Pure c H G H' G' → Rep X.K c G' v d → Q v H') → r xs H Q) : CallD X c f g := by
  intro pins s σ H xs us Q I rx hq
  obtain ⟨G, ds, d, hs, r1, e, q⟩ := hq
  obtain ⟨r, ho, hr⟩ := h G H xs ds d hs r1 e
  exact ho pins s σ H xs us Q I rx (hr Q q)
theorem Reps.one {K : PySem.W.Frag} {G : Hp} {xs : List V} {d : D} (r : Reps K c G xs [d]) : ∃ x, xs = [x] ∧ Rep K c G x d := by
  cases r with
  | cons h t => cases t; exact ⟨_, rfl, h⟩
theorem Reps.two {K : PySem.W.Frag} {G : Hp} {xs : List V} {d d' : D} (r : Reps K c G xs [d, d']) : ∃ x y, xs = [x, y] ∧ Rep K c G x d ∧ Rep K c G y d' := by
  cases r with
  | cons h t =>
    obtain ⟨y, rfl, q⟩ := t.one
    exact ⟨_, _, rfl, h, q⟩
/-- len -/
def fLen : List D → Option D
  | [.str x] => if x.length ≤ 16777216 then some (.int x.length) else none
  | [.lst xs] => some (.int xs.length)
  | [.ro xs] => some (.int xs.length)
  | [.tup xs] => some (.int xs.length)
  | _ => none
theorem cd_len : CallD X c (.builtin "len") fLen := calld_of fun G H xs ds d hs rs e => by
  unfold fLen at e
  split at e
  · obtain ⟨x, rfl, r⟩ := rs.one
    cases r
    split at e
    · rename_i h
      cases e
      exact ⟨_, call_len, fun Q q => ⟨.str _, _, rfl, ⟨by rw [sizeLine_eq]; exact h, rfl⟩, q G H _ (Pure.refl hs) (.int _)⟩⟩
    · cases e
  · obtain ⟨x, rfl, r⟩ := rs.one
    cases r with
    | lst h s => cases e; exact ⟨_, call_len, fun Q q => ⟨_, _, rfl, .inl ⟨_, SqL.of (hs _ _ h), s.length.symm⟩, q G H _ (Pure.refl hs) (.int _)⟩⟩
  · obtain ⟨x, rfl, r⟩ := rs.one
    cases r with
    | ro h s => cases e; exact ⟨_, call_len, fun Q q => ⟨_, _, rfl, .inl ⟨_, hs.seq h, s.length.symm⟩, q G H _ (Pure.refl hs) (.int _)⟩⟩
  · obtain ⟨x, rfl, r⟩ := rs.one
    cases r with
    | tup h s => cases e; exact ⟨_, call_len, fun Q q => ⟨_, _, rfl, .inr ⟨_, Same.seqT hs h, s.length.symm⟩, q G H _ (Pure.refl hs) (.int _)⟩⟩
  · cases e
def fAbs : List D → Option D
  | [.int i] => some (.int (if i < 0 then -i else i))
  | _ => none
theorem cd_abs : CallD X c (.builtin "abs") fAbs := calld_of fun G H xs ds d hs rs e => by
  unfold fAbs at e
  split at e
  · obtain ⟨x, rfl, r⟩ := rs.one
    cases r; cases e
    exact ⟨_, call_abs, fun Q q => ⟨_, rfl, q G H _ (Pure.refl hs) (.int _)⟩⟩
  · cases e
def fInt : List D → Option D
  | [.int i] => some (.int i)
  | [.bl k] => some (.int (if k then 1 else 0))
  | _ => none
theorem cd_int : CallD X c (.type "int") fInt := calld_of fun G H xs ds d hs rs e => by
  unfold fInt at e
  split at e
  · obtain ⟨x, rfl, r⟩ := rs.one
    cases r; cases e
    exact ⟨_, call_int1, fun Q q => .inl ⟨_, rfl, q G H _ (Pure.refl hs) (.int _)⟩⟩
  · obtain ⟨x, rfl, r⟩ := rs.one
    cases r; cases e
    exact ⟨_, call_int1, fun Q q => .inr ⟨_, rfl, q G H _ (Pure.refl hs) (.int _)⟩⟩
  · cases e
/-- a list of ints -/
def D.ints : List D → Option (List Int)
  | [] => some []
  | .int i :: r => (D.ints r).map (i :: ·)
  | _ :: _ => none
theorem ints_rep {K : PySem.W.Frag} {G : Hp} : ∀ {vs : List V} {ds : List D} {ns : List Int}, Reps K c G vs ds → D.ints ds = some ns → vs = ns.map V.int ∧ ds = ns.map D.int
  | _, _, _, .nil, e => by simp only [D.ints] at e; cases e; exact ⟨rfl, rfl⟩
  | _, _, _, .cons h r, e => by
    cases h with
    | int i =>
      simp only [D.ints] at e
      obtain ⟨ms, e1, e2⟩ := Option.map_eq_some_iff.mp e
      cases e2
      obtain ⟨h1, h2⟩ := ints_rep r e1
      exact ⟨by rw [h1]; rfl, by rw [h2]; rfl⟩
    | _ => simp only [D.ints] at e; cases e
theorem ints_map (ns : List Int) : D.ints (ns.map D.int) = some ns := by
  induction ns with
  | nil => rfl
  | cons n r ih => show (D.ints (r.map D.int)).map _ = _; rw [ih]; rfl
/-- the items of a list or a tuple -/
def D.items : D → Option (List D)
  | .lst xs => some xs
  | .ro xs => some xs
  | _ => none
theorem items_rep {K : PySem.W.Frag} {G H : Hp} (hs : Same G H) {v : V} {d : D} {xs : List D} (r : Rep K c G v d) (e : d.items = some xs) : ∃ a vs, v = .ref a ∧ SqL K H a vs ∧ Reps K c G vs xs := by
  cases r with
  | lst h s => cases e; exact ⟨_, _, rfl, SqL.of (hs _ _ h), s⟩
  | ro h s => cases e; exact ⟨_, _, rfl, hs.seq h, s⟩
  | _ => cases e
def fSum : List D → Option D
  | [x] => x.items.bind fun xs => (D.ints xs).map fun ns => .int ns.sum
  | _ => none
theorem cd_sum (hc : X.calm = true) : CallD X c (.builtin "sum") fSum := calld_of fun G H xs ds d hs rs e => by
  unfold fSum at e
  split at e
  · obtain ⟨x, rfl, r⟩ := rs.one
    obtain ⟨ys, e1, e⟩ := Option.bind_eq_some_iff.mp e
    obtain ⟨ns, e2, e⟩ := Option.map_eq_some_iff.mp e
    cases e
    obtain ⟨a, vs, rfl, h, s⟩ := items_rep hs r e1
    obtain ⟨h1, _⟩ := ints_rep s e2
    subst h1
    exact ⟨_, cr_sum hc, fun Q q => ⟨_, _, rfl, h, q G H _ (Pure.refl hs) (.int _)⟩⟩
  · cases e
def maxI : Int → List Int → Int
  | a, [] => a
  | a, b :: r => maxI (if b > a then b else a) r
def minI : Int → List Int → Int
  | a, [] => a
  | a, b :: r => minI (if b < a then b else a) r
theorem maxI_spec : ∀ (r : List Int) (a : Int), maxI a r ∈ a :: r ∧ ∀ y, y ∈ a :: r → y ≤ maxI a r
  | [], a => ⟨by simp [maxI], fun y hy => by simp at hy; simp [maxI, hy]⟩
  | b :: r, a => by
    show maxI (if b > a then b else a) r ∈ a :: b :: r ∧ ∀ y, y ∈ a :: b :: r → y ≤ maxI (if b > a then b else a) r
    have ht : ∃ t, (if b > a then b else a) = t ∧ (a ≤ t ∧ b ≤ t) ∧ (t = a ∨ t = b) := by
      by_cases h : b > a
      · exact ⟨b, if_pos h, by omega, .inr rfl⟩
      · exact ⟨a, if_neg h, by omega, .inl rfl⟩
    obtain ⟨t, et, h0, ho⟩ := ht
    rw [et]
    obtain ⟨h1, h2⟩ := maxI_spec r t
    have h3 := h2 t (by simp)
    refine ⟨?_, fun y hy => ?_⟩
    · rcases List.mem_cons.mp h1 with h | h
      · rw [h]; rcases ho with z | z <;> simp [z]
      · exact List.mem_cons_of_mem _ (List.mem_cons_of_mem _ h)
    · rcases List.mem_cons.mp hy with h | h
      · omega
      · rcases List.mem_cons.mp h with h | h
        · omega
        · exact h2 y (List.mem_cons_of_mem _ h)
theorem minI_spec : ∀ (r : List Int) (a : Int), minI a r ∈ a :: r ∧ ∀ y, y ∈ a :: r → minI a r ≤ y
  | [], a => ⟨by simp [minI], fun y hy => by simp at hy; simp [minI, hy]⟩
  | b :: r, a => by
    show minI (if b < a then b else a) r ∈ a :: b :: r ∧ ∀ y, y ∈ a :: b :: r → minI (if b < a then b else a) r ≤ y
    have ht : ∃ t, (if b < a then b else a) = t ∧ (t ≤ a ∧ t ≤ b) ∧ (t = a ∨ t = b) := by
      by_cases h : b < a
      · exact ⟨b, if_pos h, by omega, .inr rfl⟩
      · exact ⟨a, if_neg h, by omega, .inl rfl⟩
    obtain ⟨t, et, h0, ho⟩ := ht
    rw [et]
    obtain ⟨h1, h2⟩ := minI_spec r t
    have h3 := h2 t (by simp)
    refine ⟨?_, fun y hy => ?_⟩
    · rcases List.mem_cons.mp h1 with h | h
      · rw [h]; rcases ho with z | z <;> simp [z]
      · exact List.mem_cons_of_mem _ (List.mem_cons_of_mem _ h)
    · rcases List.mem_cons.mp hy with h | h
      · omega
      · rcases List.mem_cons.mp h with h | h
        · omega
        · exact h2 y (List.mem_cons_of_mem _ h)
def fMax : List D → Option D
  | [.int a, .int b] => some (.int (if b > a then b else a))
  | [x] => x.items.bind fun xs => (D.ints xs).bind fun ns => match ns with | [] => none | n :: r => some (.int (maxI n r))
  | _ => none
def fMin : List D → Option D
  | [.int a, .int b] => some (.int (if b < a then b else a))
  | [x] => x.items.bind fun xs => (D.ints xs).bind fun ns => match ns with | [] => none | n :: r => some (.int (minI n r))
  | _ => none
theorem cd_max (hc : X.calm = true) : CallD X c (.builtin "max") fMax := calld_of fun G H xs ds d hs rs e => by
  unfold fMax at e
  split at e
  · obtain ⟨x, y, rfl, r1, r2⟩ := rs.two
    cases r1; cases r2; cases e
    exact ⟨_, call_max2 hc, fun Q q => ⟨_, _, rfl, q G H _ (Pure.refl hs) (.int _)⟩⟩
  · obtain ⟨x, rfl, r⟩ := rs.one
    obtain ⟨ys, e1, e⟩ := Option.bind_eq_some_iff.mp e
    obtain ⟨ns, e2, e⟩ := Option.bind_eq_some_iff.mp e
    obtain ⟨a, vs, rfl, h, s⟩ := items_rep hs r e1
    obtain ⟨h1, _⟩ := ints_rep s e2
    subst h1
    cases ns with
    | nil => cases e
    | cons n ns =>
      cases e
      refine ⟨_, cr_max hc, fun Q q => ⟨_, _, rfl, h, by simp, fun m h1 h2 => ?_⟩⟩
      obtain ⟨g1, g2⟩ := maxI_spec ns n
      have : m = maxI n ns := Int.le_antisymm (g2 m h1) (h2 _ g1)
      rw [this]
      exact q G H _ (Pure.refl hs) (.int _)
  · cases e
theorem cd_min (hc : X.calm = true) : CallD X c (.builtin "min") fMin := calld_of fun G H xs ds d hs rs e => by
  unfold fMin at e
  split at e
  · obtain ⟨x, y, rfl, r1, r2⟩ := rs.two
    cases r1; cases r2; cases e
    exact ⟨_, call_min2 hc, fun Q q => ⟨_, _, rfl, q G H _ (Pure.refl hs) (.int _)⟩⟩
  · obtain ⟨x, rfl, r⟩ := rs.one
    obtain ⟨ys, e1, e⟩ := Option.bind_eq_some_iff.mp e
    obtain ⟨ns, e2, e⟩ := Option.bind_eq_some_iff.mp e
    obtain ⟨a, vs, rfl, h, s⟩ := items_rep hs r e1
    obtain ⟨h1, _⟩ := ints_rep s e2
    subst h1
    cases ns with
    | nil => cases e
    | cons n ns =>
      cases e
      refine ⟨_, cr_min hc, fun Q q => ⟨_, _, rfl, h, by simp, fun m h1 h2 => ?_⟩⟩
      obtain ⟨g1, g2⟩ := minI_spec ns n
      have : m = minI n ns := Int.le_antisymm (h2 _ g1) (g2 m h1)
      rw [this]
      exact q G H _ (Pure.refl hs) (.int _)
  · cases e
def fGcd : List D → Option D
  | [.int a, .int b] => some (.int ((Nat.gcd a.natAbs b.natAbs : Nat) : Int))
  | _ => none
theorem cd_gcd : CallD X c (.builtin "math.gcd") fGcd := calld_of fun G H xs ds d hs rs e => by
  unfold fGcd at e
  split at e
  · obtain ⟨x, y, rfl, r1, r2⟩ := rs.two
    cases r1; cases r2; cases e
    exact ⟨_, cr_gcd, fun Q q => ⟨_, _, rfl, q G H _ (Pure.refl hs) (.int _)⟩⟩
  · cases e
/-- tuple(x) -/
def fTuple : List D → Option D
  | [.lst xs] => some (.tup xs)
  | [.ro xs] => some (.tup xs)
  | [.tup xs] => some (.tup xs)
  | _ => none
theorem cd_tuple : CallD X c (.type "tuple") fTuple := calld_of fun G H xs ds d hs rs e => by
  unfold fTuple at e
  split at e
  · obtain ⟨x, rfl, r⟩ := rs.one
    cases r with
    | lst h s =>
      cases e
      exact ⟨_, call_tuple_of, fun Q q => ⟨_, _, rfl, .inl ⟨SqL.of (hs _ _ h), fun p n => q _ _ _ (Pure.new _ hs n) (.tup (SqT.of upd_same) (s.mono (same_new (none_of hs n))))⟩⟩⟩
  · obtain ⟨x, rfl, r⟩ := rs.one
    cases r with
    | ro h s =>
      cases e
      exact ⟨_, call_tuple_of, fun Q q => ⟨_, _, rfl, .inl ⟨hs.seq h, fun p n => q _ _ _ (Pure.new _ hs n) (.tup (SqT.of upd_same) (s.mono (same_new (none_of hs n))))⟩⟩⟩
  · obtain ⟨x, rfl, r⟩ := rs.one
    cases r with
    | tup h s => cases e; exact ⟨_, call_tuple_of, fun Q q => ⟨_, _, rfl, .inr ⟨Same.seqT hs h, q G H _ (Pure.refl hs) (.tup h s)⟩⟩⟩
  · cases e
end
end L2.DL
set_option Elab.async false
set_option linter.all false
set_option maxRecDepth 100000
set_option maxHeartbeats 4000000
namespace L2.DL
open PySem PySem.Spec PyProof.Rows
/-! ### room, and nothing that is being shown: repr may be asked -/
structure RoomG (k : Nat) (A : Around) : Prop where
  room : Room k A
  gd : A.guards = some []
theorem RoomG.mono {j k : Nat} {A : Around} (r : RoomG k A) (h : j ≤ k) : RoomG j A := ⟨r.room.mono h, r.gd⟩
theorem RoomG.deeper {k : Nat} {A : Around} (r : RoomG (k + 1) A) (env : Env) : RoomG k (A.deeper env) := ⟨r.room.deeper env, r.gd⟩
theorem RoomG.in1 {k : Nat} {A : Around} (r : RoomG (k + 1) A) : RoomG k A.in1 := ⟨r.room.in1, by rw [Around.in1_guards]; exact r.gd⟩
theorem make_guards {A : Around} {C : Addr} {us : List Value} {kw : List (Str × Value)} : (A.under (.builtin "type.__call__" ⟨.ref C :: us, kw⟩)).guards = A.guards := by
  first | rfl | (have h : (Code.builtin "type.__call__" ⟨.ref C :: us, kw⟩).guards = [] := by first | rfl | simp [Code.guards, Code.isGuard, guardIds]
                 show pushGuards (Code.builtin "type.__call__" ⟨.ref C :: us, kw⟩).guards A.guards = A.guards
                 rw [h]; cases A.guards <;> rfl)
theorem RoomG.make {k : Nat} {A : Around} (r : RoomG (k + 1) A) (C : Addr) (us : List Value) (kw : List (Str × Value)) : RoomG k (A.under (.builtin "type.__call__" ⟨.ref C :: us, kw⟩)) :=
  ⟨r.room.make C us kw, by rw [make_guards]; exact r.gd⟩
theorem RoomG.depth {k : Nat} {A : Around} (r : RoomG k A) : A.depth < recursionLimit := r.room.depth
theorem RoomG.units {k : Nat} {A : Around} (r : RoomG k A) : A.units + 64 < cLine := r.room.units
theorem RoomG.hd {k : Nat} {A : Around} (r : RoomG k A) : A.handled = none := r.room.hd
theorem roomG_caller {k : Nat} (r : Room k callerA) : RoomG k callerA := ⟨r, rfl⟩
/-- what repr asks for, also where an exception is being handled -/
structure Sh (A : Around) : Prop where
  units : A.units + 64 < cLine
  gd : A.guards = some []
theorem RoomG.sh {k : Nat} {A : Around} (r : RoomG k A) : Sh A := ⟨r.units, r.gd⟩
theorem RoomG.shM {k : Nat} {A : Around} {v : Option Value} (r : RoomG k A) : Sh (A.mark v) := ⟨by have := r.units; simp only [Around.mark_units]; exact this, by
  have := r.gd
  first | exact this | simpa using this⟩
/-- the promise of a def, wherever nothing is being shown -/
structure FnG (P : Program) (w : World) (K : PySem.W.Frag) (mg : Str → Option Value) (base : Heap) (CX : CXT) (k : Nat) (f : Addr) (fd : FuncData) (ps : List Str) (sp : Sp) : Prop where
  len : ∀ vs H Q E, sp vs H Q E → vs.length = ps.length
  run : ∀ (A : Around) (outer : List Env) (s : Shared) (H : Hp) (args : Args) (us : List Value) (vs : List V) (Q : VK) (E : XK), RoomG k A → Env0 P w K mg base A outer s H → BindsTo s fd args (ps.zip us) → Vals vs us → sp vs H Q E →
    codeAny (model P w) A (.call (.ref f) args) (CR CX outer P w H s Q E) s
section
variable {P : Program} {w : World} {K : PySem.W.Frag} {mg : Str → Option Value} {base : Heap} {CX : CXT} {j k : Nat} {f : Addr} {fd : FuncData} {ps : List Str} {sp sp' : Sp}
theorem FnG.imp (F : FnG P w K mg base CX k f fd ps sp) (h : ∀ vs H Q E, sp' vs H Q E → sp vs H Q E) : FnG P w K mg base CX k f fd ps sp' :=
  ⟨fun vs H Q E q => F.len vs H Q E (h _ _ _ _ q), fun A outer s H args us vs Q E g e b v q => F.run A outer s H args us vs Q E g e b v (h _ _ _ _ q)⟩
def FnRG (P : Program) (w : World) (K : PySem.W.Frag) (mg : Str → Option Value) (base : Heap) (CX : CXT) (k : Nat) (f : Addr) (sp : Sp) : Prop :=
  ∀ (A : Around) (outer : List Env) (s : Shared) (H : Hp) (us : List Value) (vs : List V) (Q : VK) (E : XK), RoomG k A → Env0 P w K mg base A outer s H → Vals vs us → sp vs H Q E →
    codeAny (model P w) A (.call (.ref f) ⟨us, []⟩) (CR CX outer P w H s Q E) s
theorem FnRG.mono (F : FnRG P w K mg base CX j f sp) (h : j ≤ k) : FnRG P w K mg base CX k f sp := fun A outer s H us vs Q E g => F A outer s H us vs Q E (g.mono h)
theorem FnRG.imp (F : FnRG P w K mg base CX k f sp) (h : ∀ vs H Q E, sp' vs H Q E → sp vs H Q E) : FnRG P w K mg base CX k f sp' := fun A outer s H us vs Q E g e v q => F A outer s H us vs Q E g e v (h _ _ _ _ q)
theorem FnG.raw {ds : List Value} {dvs : List V} (F : FnG P w K mg base CX k f fd ps sp) (hb : Binds K fd ps ds) (hd : Vals dvs ds) : FnRG P w K mg base CX k f (fun vs H Q E => sp (vs ++ dvs) H Q E) := by
  intro A outer s H us vs Q E g e v q
  have v2 : Vals (vs ++ dvs) (us ++ ds) := v.append hd
  have n2 : (us ++ ds).length = ps.length := v2.length.symm.trans (F.len _ _ _ _ q)
  exact F.run A outer s H ⟨us, []⟩ (us ++ ds) (vs ++ dvs) Q E g e (hb s us (e.mod.kin.keeps fun b o x => (e.bs b o x).1) n2) v2 q
/-- a def as it stands, with defaults or without -/
structure FunV (K : PySem.W.Frag) (x qual : Str) (st : Stmt) (f : Addr) (fd : FuncData) : Prop where
  ex : ∃ (oc : Value) (od : Option Addr) (dV kV doc pm : Value) (an : Option Addr) (cdv ct : Value) (osl : Array (Option Value)),
    fd = PySem.W.fnOf x qual (defArgs st) (defBody st) (defScope st) dV kV doc pm an cdv ct ∧ K.lookup f = some ⟨oc, od, .func fd, osl⟩ ∧ PySem.W.codeIn K cdv qual = true
  kp : PySem.W.keepIn K (.ref f) = true
theorem fun_mkV {x qual : Str} {st : Stmt} {f : Addr} {oc : Value} {od an : Option Addr} {osl : Array (Option Value)} {dV kV doc pm cdv ct : Value} (l : K.lookup f = some ⟨oc, od, .func (PySem.W.fnOf x qual (defArgs st) (defBody st) (defScope st) dV kV doc pm an cdv ct), osl⟩)
    (c : PySem.W.codeIn K cdv qual = true) (k : PySem.W.keepIn K (.ref f) = true) : FunV K x qual st f (PySem.W.fnOf x qual (defArgs st) (defBody st) (defScope st) dV kV doc pm an cdv ct) := ⟨⟨oc, od, dV, kV, doc, pm, an, cdv, ct, osl, rfl, l, c⟩, k⟩
theorem bindsD {T : Addr} {o : Obj} {its : Array Value} {m : Nat} (lT : K.lookup T = some o) (oT : o.data = .seq its m)
    (h : ∀ us : List Value, us.length = ps.length → ∃ k, bindArgs fd ⟨us, []⟩ = seqItems? (.ref T) >>= k ∧ k (some its) = pure (ps.zip us)) : Binds K fd ps [] := fun s us X hl => by
  rw [List.append_nil] at hl ⊢
  obtain ⟨k, e1, e2⟩ := h us hl
  refine BindsTo.of_looks fun M => ?_
  rw [e1]
  exact looks_items X lT oT (.of_pure e2)
/-- a def's body, walked in any such place -/
theorem fng_of {x qual : Str} {st : Stmt} {N : List Str} (F : FunV K x qual st f fd) (S : FnScope N ps (defScope st)) (len : ∀ vs H Q E, sp vs H Q E → vs.length = ps.length)
    (hbody : ∀ (cdv : Value), fd.code = cdv → ∀ (A : Around) (outer : List Env) (s : Shared) (H : Hp) (vs : List V) (Q : VK) (E : XK), RoomG k (A.deeper (envOfC qual (defScope st) s.heap.objs.size f cdv)) → sp vs H Q E →
      ∃ t, PSs (cxOf (L2.CX P w) P w K mg base N qual (defScope st) f cdv A outer s H E) (defBody st) t ∧ t { nx := fun _ H' => Q .non H', rt := Q } (start N vs) H) : FnG P w K mg base (L2.CX P w) (k + 1) f fd ps sp := by
  obtain ⟨oc, od, dV, kV, doc, pm, an, cdv, ct, osl, rfl, lk, hcd⟩ := F.ex
  refine ⟨len, ?_⟩
  intro A outer s H args us vs Q E g e bnd v q
  have inK : K.In s.heap := e.mod.kin.keeps fun b o x => (e.bs b o x).1
  have nolim : s.heap.NoLimit := e.mod.nolimit.keeps fun b o x => (e.bs b o x).1
  have kinds : ∀ y ∈ ps.zip us, (defScope st).names.lookup y.1 = some .local ∨ ((defScope st).names.lookup y.1 = some .cell ∧ ((cellsFrom (s.heap.objs.size + 1) (defScope st).names []).lookup y.1).isSome = true) := by
    rintro ⟨n, u⟩ hy
    exact (S.par n (List.of_mem_zip hy).1).imp id fun c => ⟨c, PySem.W.cellsFrom_some _ _ _ (.inl c)⟩
  apply codeAny_call_function g.depth (inK _ _ lk) rfl S.co S.gen rfl (PySem.W.codeRec_of inK hcd)
  apply bnd
  apply wpAny_newFunctionEnv_cells S.kind kinds
  intro env hen s1 hcall
  subst hen
  refine ⟨nolim.keeps hcall.toInCall.keep, codeAny_func ?_⟩
  obtain ⟨t, walk, now⟩ := hbody cdv rfl A outer s H vs Q E (g.deeper _) q
  have I := inv_start (CX := L2.CX P w) (cd := cdv) S g.hd e (len _ _ _ _ q) v hcall (E := E)
  refine wpAny_mono (walk.run [] s1 (start N vs) H _ I now) (fun fl s2 out => ?_) (fun _ _ z => z)
  cases fl with
  | ret u =>
    obtain ⟨y, _, H2, J, ry, hq⟩ := out
    exact ⟨y, H2, J.os, J.bare, J.base, J.hok, ry, hq⟩
  | next =>
    obtain ⟨_, H2, J, hq⟩ := out
    exact ⟨V.non, H2, J.os, J.bare, J.base, J.hok, rfl, hq⟩
  | brk => obtain ⟨_, _, _, z⟩ := out; exact z.elim
  | cont => obtain ⟨_, _, _, z⟩ := out; exact z.elim
end
/-- the law's def called with the script -/
theorem law_runs {P : Program} {w : World} {K : PySem.W.Frag} {mg mb : Str → Option Value} {k : Nat} {fa a : Addr} {fd : FuncData} {x : Str} {sp : Sp} {s₁ : Shared} {vs : List Value} {ns : List Int}
    (inK : K.In s₁.heap) (gl : s₁.heap.Ns mainGlobals mg) (bl : s₁.heap.Ns builtinsNs mb) (boot : ∀ y : Str, y ≠ "__name__" → mb y = bootBuiltins y) (nolim : s₁.heap.NoLimit) (nog : s₁.gens = #[])
    (at_ : s₁.heap.get? a = some { cls := .type "list", data := .seq vs.toArray }) (hints : IntsAre vs ns) (few : ns.length ≤ sizeLine) (room : Room k callerA)
    (F : ∀ base : Heap, K.In base → base.Ns mainGlobals mg → FnG P w K mg base (L2.CX P w) k fa fd [x] sp) (bnd : ∀ (s : Shared) (u : Value), BindsTo s fd ⟨[u], []⟩ [(x, u)])
    (told : ∀ H : Hp, Only H → SqL K H a (ns.map V.int) → sp [.ref a] H (fun v _ => v = .bl true) fun _ _ _ => False) :
    codeAny (model P w) callerA (.call (.ref fa) ⟨[.ref a], []⟩) (fun r s' => r = .ok (.ret (.bool true)) ∧ OldK s₁.heap s'.heap ∧ s'.os = s₁.os ∧ AllBare s'.gens) s₁ := by
  have vals := vals_ints hints
  have lens := hints.length
  have main : ∀ H : Hp, Only H → SqL K H a (ns.map V.int) → HOk P w H s₁.heap → (∀ b, H b ≠ none → b = a) → (H a ≠ none → K.lookup a = none) →
      codeAny (model P w) callerA (.call (.ref fa) ⟨[.ref a], []⟩) (fun r s' => r = .ok (.ret (.bool true)) ∧ OldK s₁.heap s'.heap ∧ s'.os = s₁.os ∧ AllBare s'.gens) s₁ := by
    intro H only seq hok one free
    have keepT : ∀ {b : Addr} {o : Obj}, s₁.heap.get? b = some o → H b = none → (hidT s₁.heap H).get? b = some o := fun e n => hidT_get e n
    have offDict : ∀ {b : Addr} {o : Obj} {es : Array DictEntry} {ep : Nat}, s₁.heap.get? b = some o → o.data = .dict es ep → H b = none := by
      intro b o es ep e d
      refine Classical.byContradiction fun hne => ?_
      have hb := one b hne
      subst hb
      rw [at_] at e
      injection e with e
      rw [← e] at d
      cases d
    have nsT : ∀ {b : Addr} {m : Str → Option Value}, s₁.heap.Ns b m → (hidT s₁.heap H).Ns b m := by
      rintro b m ⟨o, es, ep, e, d, rest⟩
      exact ⟨o, es, ep, keepT e (offDict e d), d, rest⟩
    have inT : K.In (hidT s₁.heap H) := by
      intro b o e
      refine keepT (inK b o e) (Classical.byContradiction fun hne => ?_)
      have hb := one b hne
      subst hb
      rw [free hne] at e
      cases e
    have modT : Mod K mg (hidT s₁.heap H) := ⟨inT, nsT gl, ⟨mb, nsT bl, boot⟩, by obtain ⟨mc, h1, h2⟩ := nolim; exact ⟨mc, nsT h1, h2⟩⟩
    have nofr : ∀ b ∈ frs ([] : List Env), H b = none := fun b hb => absurd (show b ∈ ([] : List Addr) from hb) (by simp)
    have e0 : Env0 P w K mg (hidT s₁.heap H) callerA [] s₁ H := ⟨rfl, modT, fun b o e => of_hidT e, Nat.le_of_eq (hidT_size _ _), trivial, nofr, hok, .of_eq nog⟩
    have go := (F _ inT (nsT gl)).run callerA [] s₁ H ⟨[.ref a], []⟩ [.ref a] [.ref a] _ _ (roomG_caller room) e0 (bnd s₁ (.ref a)) (.cons rfl .nil) (told H only seq)
    refine codeAny_mono go fun r s' res => ?_
    match r, res with
    | .error er, res =>
      obtain ⟨_, _, _, _, _, _, _, _, _, _, _, _, z⟩ := res
      exact z.elim
    | .ok .next, res => exact res.elim
    | .ok .brk, res => exact res.elim
    | .ok .cont, res => exact res.elim
    | .ok (.ret u), res =>
      obtain ⟨v, H', os, bare, un, hok', rv, q⟩ := res
      have hv : v = .bl true := q
      subst hv
      have hu : u = Value.bool true := rv
      subst hu
      refine ⟨rfl, OldK.of_keep fun b o e => ?_, os, bare⟩
      cases hb : H b with
      | none => exact un.keep b o e hb (fun z => absurd (show b ∈ ([] : List Addr) from z) (by simp)) (by simp)
      | some t =>
        obtain z | ⟨ob, xs, z⟩ := only b
        · rw [hb] at z; cases z
        · have e1 := (hok b _ z).1
          have e2 := (hok' b _ (un.frzs b ob _ z)).1
          rw [e] at e1
          injection e1 with e1
          rw [e1]
          exact e2
  cases own : K.lookup a with
  | some o =>
    have e := inK a o own
    rw [at_] at e
    injection e with e
    subst e
    exact main (fun _ => none) (fun _ => .inl rfl) (.inr ⟨_, vs.toArray, _, own, rfl, rfl, rfl, by rw [List.size_toArray, lens]; exact few, by simpa using vals⟩) (fun b u z => by cases (show (none : Option HO) = some u from z)) (fun b z => (z rfl).elim) (fun z => (z rfl).elim)
  | none =>
    let H1 : Hp := fun b => if b = a then some (.frz { cls := .type "list", data := .seq vs.toArray } (.lst (ns.map V.int))) else none
    have on : H1 a = some (.frz { cls := .type "list", data := .seq vs.toArray } (.lst (ns.map V.int))) := if_pos rfl
    have off : ∀ b, b ≠ a → H1 b = none := fun b hb => if_neg hb
    refine main H1 (fun b => ?_) (.inl (.inr ⟨_, on⟩)) (fun b u z => ?_) (fun b z => ?_) fun _ => own
    · by_cases hb : b = a
      · subst hb; exact .inr ⟨_, _, on⟩
      · exact .inl (off b hb)
    · by_cases hb : b = a
      · subst hb
        rw [on] at z
        injection z with z
        subst z
        exact ⟨at_, by rw [List.length_map]; exact few, vs, _, vals, at_⟩
      · rw [off b hb] at z; cases z
    · exact Classical.byContradiction fun hb => z (off b hb)
end L2.DL
set_option Elab.async false
set_option linter.all false
set_option maxRecDepth 100000
set_option maxHeartbeats 4000000
namespace L2.DL
open PySem PySem.Spec PyProof.Rows
/-! ### statements' mirrors -/
def M.next : MS := fun e => .ok .next e
def mSeq (a b : MS) : MS := fun e => match a e with
  | .ok .next e' => b e'
  | r => r
def mRet (m : M D) : MS := M.bind m fun d => M.ret (.ret d)
def mExpr (m : M D) : MS := M.bind m fun _ => M.ret .next
/-- store data in a slot (nothing lent there) -/
def setSl (i : Nat) (s : Sl) : Ev → Option Ev := fun e => match e[i]? with
  | some (.cell true _) => none
  | some _ => some (e.set i s)
  | none => none
def M.upd (f : Ev → Option Ev) : MS := fun e => match f e with
  | some e' => .ok .next e'
  | none => .bad
def mSet (i : Nat) (m : M D) : MS := M.bind m fun d => M.upd (setSl i (.val d))
def mSetO (i : Nat) (m : M Cell) : MS := M.bind m fun z => M.upd (setSl i (.cell false z))
section
variable {K : PySem.W.Frag} {c : Cl} {W : WX} {F G G1 H H1 : Hp} {P P1 : List (List Addr)} {σ : St} {env env1 : Ev}
theorem PostS.here {f : Fl} {D : Ends} (R : Rel K c F G H P σ env) (h : PostS K c W F G P env (.ok f env) D) : f.fin K c F G H P σ D := h G H P σ (Ext.refl _ _) (Keep.refl _ _) R
theorem no_alias (R : Rel K c F G H P σ env) {i : Nat} : ∀ b, b ∈ (P.set i []).flatten → b ∈ P.flatten := fun b hb => by
  rcases flat_set hb with h | h
  · cases h
  · exact h
/-- a value is stored in a slot -/
theorem Rel.setV {i : Nat} {v : V} {d : D} {e' : Ev} (R : Rel K c F G H P σ env) (r : Rep K c G v d) (h : setSl i (.val d) env = some e') :
    e' = env.set i (.val d) ∧ Keep P (P.set i []) env e' ∧ Rel K c F G H (P.set i []) (σ.set i (some v)) e' := by
  unfold setSl at h
  cases e : env[i]? with
  | none => rw [e] at h; cases h
  | some s =>
    have hl : ∀ z, s ≠ .cell true z := fun z hz => by rw [e, hz] at h; cases h
    have e2 : e' = env.set i (.val d) := by
      rw [e] at h
      cases s with
      | no => injection h with h; exact h.symm
      | val _ => injection h with h; exact h.symm
      | cell l z =>
        cases l with
        | true => exact absurd rfl (hl z)
        | false => injection h with h; exact h.symm
    subst e2
    refine ⟨rfl, ⟨by simp, fun j z hj => ?_⟩, ⟨R.fs, R.gs, R.all.set i (.val r), fun b hb => R.out b (no_alias R b hb), nd_set_nil R.nd i, R.tb⟩⟩
    have hij : i ≠ j := fun h => by rw [← h, e] at hj; exact hl z (Option.some.inj hj)
    rw [List.getElem?_set_ne hij, List.getElem?_set_ne hij]
    exact ⟨rfl, z, hj⟩
theorem Rel.setC {i : Nat} {v : V} {z : Cell} {p : List Addr} {e' : Ev} (R : Rel K c F G H P σ env) (r : CellAt K c G H p v z) (nd : p.Nodup) (out : ∀ b, b ∈ p → F b = none ∧ G b = none ∧ b ∉ P.flatten) (h : setSl i (.cell false z) env = some e') :
    Keep P (P.set i p) env e' ∧ Rel K c F G H (P.set i p) (σ.set i (some v)) e' := by
  unfold setSl at h
  cases e : env[i]? with
  | none => rw [e] at h; cases h
  | some s =>
    have hl : ∀ z, s ≠ .cell true z := fun z hz => by rw [e, hz] at h; cases h
    have e2 : e' = env.set i (.cell false z) := by
      rw [e] at h
      cases s with
      | no => injection h with h; exact h.symm
      | val _ => injection h with h; exact h.symm
      | cell l z =>
        cases l with
        | true => exact absurd rfl (hl z)
        | false => injection h with h; exact h.symm
    subst e2
    refine ⟨⟨by simp, fun j z' hj => ?_⟩, ⟨R.fs, R.gs, R.all.set i (.cell r), fun b hb => ?_, nd_set_new R.nd nd (fun b hb => (out b hb).2.2) i, R.tb⟩⟩
    · have hij : i ≠ j := fun h => by rw [← h, e] at hj; exact hl z' (Option.some.inj hj)
      rw [List.getElem?_set_ne hij, List.getElem?_set_ne hij]
      exact ⟨rfl, z', hj⟩
    · rcases flat_set hb with h' | h'
      · exact ⟨(out b h').1, (out b h').2.1⟩
      · exact R.out b h'
end
section
variable {X : Cx} {c : Cl} {W : WX} {pos : Pos} {st : Stmt} {rest : List Stmt} {e : Expr} {m : M D} {mz : M Cell} {ma mb : MS}
theorem ds_nil : PSs X [] (tS X.K c W M.next) := PSs.weak pss_nil fun D σ H ⟨F, G, P, env, R, h⟩ => PostS.here R h
theorem ds_cons (h1 : PS X st (tS X.K c W ma)) (h2 : PSs X rest (tS X.K c W mb)) : PSs X (st :: rest) (tS X.K c W (mSeq ma mb)) := by
  refine PSs.weak (pss_cons h1 h2) fun D σ H h => ?_
  obtain ⟨F, G, P, env, R, h⟩ := h
  refine ⟨F, G, P, env, R, ?_⟩
  unfold mSeq at h
  cases e : ma env with
  | bad => rw [e] at h; exact h
  | exc x env' => rw [e] at h; exact h
  | ok f env' =>
    rw [e] at h
    cases f with
    | next => exact fun G' H' P' σ' x k R' => ⟨F, G', P', env', R', h.chain x k⟩
    | ret d => exact h
    | brk => exact h
    | cont => exact h
    | retO z => exact h
theorem ds_one (h1 : PS X st (tS X.K c W ma)) : PSs X [st] (tS X.K c W ma) := pss_one h1
theorem ds_ret (he : PE X e (tE X.K c W m)) : PS X (.Return (some e) pos) (tS X.K c W (mRet m)) := by
  refine PS.weak (ps_ret he) fun D σ H h => ?_
  obtain ⟨F, G, P, env, R, h⟩ := h
  exact ⟨F, G, P, env, R, (Post.bindS h).imp fun d G1 H1 P1 _ ⟨env1, R1, h1⟩ => PostS.here R1 h1⟩
/-- return x, x a new thing of one's own -/
def mRetO (m : M Cell) : MS := M.bind m fun z => M.ret (.retO z)
theorem ds_retO (he : PE X e (tO X.K c W mz)) : PS X (.Return (some e) pos) (tS X.K c W (mRetO mz)) := by
  refine PS.weak (ps_ret he) fun D σ H h => ?_
  obtain ⟨F, G, P, env, R, h⟩ := h
  exact ⟨F, G, P, env, R, (Post.bindS h).imp fun d G1 H1 P1 _ ⟨env1, R1, h1⟩ v p => PostS.here R1 h1 v p⟩
theorem ds_retN : PS X (.Return none pos) (tS X.K c W (M.ret (.ret .non))) := PS.weak ps_retN fun D σ H ⟨F, G, P, env, R, h⟩ => PostS.here R h _ .non
theorem ds_expr (he : PE X e (tE X.K c W m)) (hs : swapsWith e none pos.line X.env = pure false := by rfl) : PS X (.Expr e pos) (tS X.K c W (mExpr m)) := by
  refine PS.weak (ps_expr he hs) fun D σ H h => ?_
  obtain ⟨F, G, P, env, R, h⟩ := h
  exact ⟨F, G, P, env, R, (Post.bindS h).imp fun d G1 H1 P1 _ ⟨env1, R1, h1⟩ v r => PostS.here R1 h1⟩
theorem ds_pass : PS X (.Pass pos) (tS X.K c W M.next) := PS.weak ps_pass fun D σ H ⟨F, G, P, env, R, h⟩ => PostS.here R h
theorem ds_break : PS X (.Break pos) (tS X.K c W (M.ret .brk)) := PS.weak ps_break fun D σ H ⟨F, G, P, env, R, h⟩ => PostS.here R h
theorem ds_continue : PS X (.Continue pos) (tS X.K c W (M.ret .cont)) := PS.weak ps_continue fun D σ H ⟨F, G, P, env, R, h⟩ => PostS.here R h
theorem ds_if {t : Expr} {p q : List Stmt} {mt : M Bool} (ht : PT X t (tT X.K c W mt)) (hp : PSs X p (tS X.K c W ma)) (hq : PSs X q (tS X.K c W mb)) : PS X (.If t p q pos) (tS X.K c W (mIf mt ma mb)) := by
  refine PS.weak (ps_if ht hp hq) fun D σ H h => ?_
  obtain ⟨F, G, P, env, R, h⟩ := h
  refine ⟨F, G, P, env, R, (Post.bindS h).imp fun b G1 H1 P1 _ ⟨env1, R1, h1⟩ => ?_⟩
  cases b with
  | true => exact ⟨F, G1, P1, env1, R1, h1⟩
  | false => exact ⟨F, G1, P1, env1, R1, h1⟩
theorem ds_set {i : Nat} {x : Str} {pos' : Pos} (hN : X.N.Nodup) (he : PE X e (tE X.K c W m)) (hi : X.N[i]? = some x := by rfl) (hx : Loc X.env.scope x := by first | exact .inl rfl | exact .inr rfl) (hs : swapsWith e (some (.Name x pos')) pos.line X.env = pure false := by rfl)
    (hf : X.fn x = true ∨ X.env.scope.names.lookup x = some .local := by first | exact .inl rfl | exact .inr rfl) : PS X (.Assign [.Name x pos'] e pos) (tS X.K c W (mSet i m)) := by
  refine PS.weak (ps_set hN hi hx he hs hf) fun D σ H h => ?_
  obtain ⟨F, G, P, env, R, h⟩ := h
  refine ⟨F, G, P, env, R, (Post.bindS h).imp fun d G1 H1 P1 _ ⟨env1, R1, h1⟩ v r => ?_⟩
  unfold M.upd at h1
  cases q : setSl i (.val d) env1 with
  | none => rw [q] at h1; exact h1.elim
  | some e1 =>
    rw [q] at h1
    obtain ⟨_, k, R2⟩ := R1.setV r q
    exact PostS.here R2 (h1.chain (Ext.refl _ _) k)
theorem ds_setO {i : Nat} {x : Str} {pos' : Pos} (hN : X.N.Nodup) (he : PE X e (tO X.K c W mz)) (hi : X.N[i]? = some x := by rfl) (hx : Loc X.env.scope x := by first | exact .inl rfl | exact .inr rfl) (hs : swapsWith e (some (.Name x pos')) pos.line X.env = pure false := by rfl)
    (hf : X.fn x = true ∨ X.env.scope.names.lookup x = some .local := by first | exact .inl rfl | exact .inr rfl) : PS X (.Assign [.Name x pos'] e pos) (tS X.K c W (mSetO i mz)) := by
  refine PS.weak (ps_set hN hi hx he hs hf) fun D σ H h => ?_
  obtain ⟨F, G, P, env, R, h⟩ := h
  refine ⟨F, G, P, env, R, (Post.bindS h).imp fun z G1 H1 P1 _ ⟨env1, R1, h1⟩ v p ca nd out => ?_⟩
  unfold M.upd at h1
  cases q : setSl i (.cell false z) env1 with
  | none => rw [q] at h1; exact h1.elim
  | some e1 =>
    rw [q] at h1
    obtain ⟨k, R2⟩ := R1.setC ca nd out q
    exact PostS.here R2 (h1.chain (Ext.refl _ _) k)
end
/-! ### defs -/
abbrev Fn := List Sl → Res D
def outs : List Sl → Ev → List Sl
  | .cell true _ :: r, .cell true z :: e => .cell true z :: outs r e
  | _ :: r, _ :: e => .no :: outs r e
  | _, _ => []
/-- a def of n slots with a body -/
def mDef (n : Nat) (b : MS) : Fn := fun sls => match b (sls ++ List.replicate (n - sls.length) .no) with
  | .ok (.ret d) e => .ok d (outs sls e)
  | .ok .next e => .ok .non (outs sls e)
  | .ok _ _ => .bad
  | .exc x e => .exc x (outs sls e)
  | .bad => .bad
/-- .. that returns a new thing of its own -/
abbrev FnO := List D → Res Cell
def mDefO (n : Nat) (b : MS) : FnO := fun ds => match b (ds.map .val ++ List.replicate (n - ds.length) .no) with
  | .ok (.retO z) e => .ok z e
  | .exc x e => .exc x e
  | _ => .bad
def spO (K : PySem.W.Frag) (c : Cl) (n : Nat) (f : FnO) : Sp := fun vs H Q E => ∃ G ds, vs.length = n ∧ Same G H ∧ Reps K c G vs ds ∧ (Tbs c G H ∧ NoT G) ∧ match f ds with
  | .ok z _ => ∀ G' H' v p, Pure c H G H' G' → CellAt K c G' H' p v z → p.Nodup → (∀ b, b ∈ p → nt H b = none ∧ G' b = none) → Q v H'
  | .exc x _ => ∀ G' H' cv dd, Pure c H G H' G' → RepX K c G' H' cv dd x → E cv dd H'
  | .bad => False
def isArg : Sl → Bool
  | .val _ => true
  | .cell true _ => true
  | _ => false
def spD (K : PySem.W.Frag) (c : Cl) (n : Nat) (f : Fn) : Sp := fun vs H Q E => ∃ F G P sls, vs.length = n ∧ Rel K c F G H P (vs.map some) sls ∧ sls.all isArg = true ∧
  Post K c (fun cv dd _ H' => E cv dd H') F G P (vs.map some) sls (f sls) fun d G' H' _ => ∀ v, Rep K c G' v d → Q v H'
section
variable {K : PySem.W.Frag} {c : Cl} {W : WX} {F G G1 H H1 : Hp} {P P1 : List (List Addr)} {σ : St} {env env1 : Ev}
theorem rels_vals0 {vs : List V} {ds : List D} (r : Reps K c G vs ds) : Rels K c G H (ds.map fun _ => []) (vs.map some) (ds.map .val) := by
  cases r with
  | nil => exact .nil
  | cons h t => exact .cons (.val h) (rels_vals0 t)
theorem flat_nil0 {α : Type} (ds : List α) : (ds.map fun _ => ([] : List Addr)).flatten = [] := by
  induction ds with
  | nil => rfl
  | cons _ _ ih => rw [List.map_cons, List.flatten_cons, ih]; rfl
theorem rels_more (R : Rels K c G H P σ env) : ∀ n, Rels K c G H (P ++ List.replicate n []) (σ ++ List.replicate n none) (env ++ List.replicate n .no) := by
  intro n
  induction R with
  | nil =>
    induction n with
    | zero => exact .nil
    | succ n ih => exact .cons .no ih
  | cons r _ ih => exact .cons r ih
theorem flat_more {P : List (List Addr)} {n : Nat} : (P ++ List.replicate n []).flatten = P.flatten := by
  rw [List.flatten_append]
  have : (List.replicate n ([] : List Addr)).flatten = [] := by induction n with
    | zero => rfl
    | succ n ih => rw [List.replicate_succ, List.flatten_cons, ih]; rfl
  rw [this, List.append_nil]
theorem Rel.more (R : Rel K c F G H P σ env) (n : Nat) : Rel K c F G H (P ++ List.replicate n []) (σ ++ List.replicate n none) (env ++ List.replicate n .no) :=
  ⟨R.fs, R.gs, rels_more R.all n, fun b hb => R.out b (by rw [flat_more] at hb; exact hb), by rw [flat_more]; exact R.nd, R.tb⟩
theorem cellAt_val {G G' H H' : Hp} {p : List Addr} {v v' : V} {z z' : Cell} (x : CellAt K c G H p v z) (y : CellAt K c G' H' p v' z') : v = v' := by
  cases x <;> cases y <;> rfl
/-- what comes back of the arguments -/
def Pouts : List Sl → List (List Addr) → List (List Addr)
  | .cell true _ :: r, p :: P => p :: Pouts r P
  | _ :: r, _ :: P => [] :: Pouts r P
  | _, _ => []
theorem pouts_sub : ∀ {sls : List Sl} {P : List (List Addr)} {b : Addr}, b ∈ (Pouts sls P).flatten → b ∈ P.flatten
  | [], _, _, h => by simp [Pouts] at h
  | s :: r, [], _, h => by cases s with
    | cell l z => cases l <;> simp [Pouts] at h
    | _ => simp [Pouts] at h
  | s :: r, p :: P, b, h => by
    have key : b ∈ p ∨ b ∈ (Pouts r P).flatten := by
      cases s with
      | cell l z =>
        cases l with
        | true => simpa [Pouts] using h
        | false => exact .inr (by simpa [Pouts] using h)
      | _ => exact .inr (by simpa [Pouts] using h)
    rw [List.flatten_cons]
    rcases key with k | k
    · exact List.mem_append_left _ k
    · exact List.mem_append_right _ (pouts_sub k)
theorem pouts_nd : ∀ {sls : List Sl} {P : List (List Addr)}, P.flatten.Nodup → (Pouts sls P).flatten.Nodup
  | [], _, h => by simp [Pouts]
  | s :: r, [], _ => by cases s with
    | cell l z => cases l <;> simp [Pouts]
    | _ => simp [Pouts]
  | s :: r, p :: P, h => by
    rw [List.flatten_cons] at h
    have h' := List.nodup_append.mp h
    have ih := pouts_nd (sls := r) h'.2.1
    cases s with
    | cell l z =>
      cases l with
      | true =>
        show (p :: Pouts r P).flatten.Nodup
        rw [List.flatten_cons]
        exact List.nodup_append.mpr ⟨h'.1, ih, fun a ha b hb => h'.2.2 a ha b (pouts_sub hb)⟩
      | false => simpa [Pouts] using ih
    | _ => simpa [Pouts] using ih
theorem outs_get : ∀ {sls : List Sl} {e : Ev} {i : Nat} {z : Cell}, (outs sls e)[i]? = some (.cell true z) → ∃ z0 : Cell, sls[i]? = some (.cell true z0) ∧ e[i]? = some (.cell true z)
  | [], _, i, z, h => by simp [outs] at h
  | s :: r, [], i, z, h => by
    cases s with
    | cell l z => cases l <;> simp [outs] at h
    | _ => simp [outs] at h
  | s :: r, t :: e, i, z, h => by
    cases i with
    | zero =>
      cases s with
      | cell l z0 =>
        cases l with
        | true =>
          cases t with
          | cell l2 z2 =>
            cases l2 with
            | true => simp [outs] at h; subst h; exact ⟨z0, rfl, rfl⟩
            | false => simp [outs] at h
          | _ => simp [outs] at h
        | false => simp [outs] at h
      | _ => simp [outs] at h
    | succ i =>
      have h' : (outs r e)[i]? = some (.cell true z) := by
        cases s with
        | cell l z0 =>
          cases l with
          | true =>
            cases t with
            | cell l2 z2 => cases l2 <;> simpa [outs] using h
            | _ => simpa [outs] using h
          | false => simpa [outs] using h
        | _ => simpa [outs] using h
      simpa using outs_get h'
theorem Rel.toPure {G' H' : Hp} (R : Rel K c (nt H) G' H' P σ env) (x : Ext (nt H) G G') : Pure c H G H' G' :=
  ⟨x.same, nt_ext R.fs, R.gs, fun b o h n g => x.fresh b g (by rw [nt_at h n]; exact fun z => nomatch z), fun _ => R.tb.tabs, fun _ => R.tb.ng⟩
/-- at a def's end, seen from the caller -/
theorem rels_outs {G0 H0 G' H' : Hp} : ∀ {sls : List Sl} {vs : List V} {P P' : List (List Addr)} {σ' : St} {e : Ev}, Rels K c G0 H0 P (vs.map some) sls → Rels K c G' H' P' σ' e → sls.length ≤ e.length →
    (∀ (i : Nat) (z : Cell), sls[i]? = some (.cell true z) → P'[i]? = P[i]? ∧ ∃ z' : Cell, e[i]? = some (.cell true z')) → Rels K c G' H' (Pouts sls P') (vs.map some) (outs sls e)
  | [], [], _, _, _, _, _, _, _, _ => by simp only [outs, Pouts, List.map_nil]; exact .nil
  | [], _ :: _, _, _, _, _, h, _, _, _ => by cases h
  | _ :: _, [], _, _, _, _, h, _, _, _ => by cases h
  | s :: r, v :: vs, P, P', σ', e, h, h2, hl, k => by
    cases h2 with
    | nil => simp at hl
    | cons q2 t2 =>
      rename_i p2 P2 x2 σ2 s2 e2
      cases h with
      | cons q1 t1 =>
        rename_i p1 P1
        have ih := rels_outs t1 t2 (by simpa using hl) fun i z hi => by simpa using k (i + 1) z (by simpa using hi)
        have k0 := fun z (hz : s = .cell true z) => k 0 z (by rw [hz]; rfl)
        cases s with
        | no => exact .cons .no ih
        | val d => exact .cons .no ih
        | cell l z =>
          cases l with
          | false => exact .cons .no ih
          | true =>
            obtain ⟨e1, z', e2'⟩ := k0 z rfl
            have e1 : p2 = p1 := by simpa using e1
            have e2' : s2 = .cell true z' := by simpa using e2'
            subst e1 e2'
            cases q1 with
            | cell c1 =>
              cases q2 with
              | cell c2 =>
                have := cellAt_val c1 c2
                subst this
                exact .cons (.cell c2) ih
theorem outs_at : ∀ {sls : List Sl} {e : Ev} {i : Nat} {z z' : Cell}, sls[i]? = some (.cell true z) → e[i]? = some (.cell true z') → (outs sls e)[i]? = some (.cell true z')
  | [], _, i, z, _, h, _ => by simp at h
  | s :: r, [], i, z, _, _, h => by simp at h
  | s :: r, t :: e, i, z, z', h, h2 => by
    cases i with
    | zero =>
      simp at h h2
      subst h h2
      rfl
    | succ i =>
      have ih := outs_at (sls := r) (e := e) (i := i) (by simpa using h) (by simpa using h2)
      cases s with
      | cell l z =>
        cases l with
        | true => cases t with
          | cell l2 z2 => cases l2 <;> simpa [outs] using ih
          | _ => simpa [outs] using ih
        | false => simpa [outs] using ih
      | _ => simpa [outs] using ih
theorem pouts_get : ∀ {sls : List Sl} {P : List (List Addr)} {i : Nat} {z : Cell} {q : Option (List Addr)}, sls[i]? = some (.cell true z) → P[i]? = q → (Pouts sls P)[i]? = P[i]?
  | [], _, i, z, _, h, _ => by simp at h
  | s :: r, [], i, z, _, h, _ => by
    cases s with
    | cell l z => cases l <;> simp [Pouts]
    | _ => simp [Pouts]
  | s :: r, t :: e, i, z, _, h, h2 => by
    cases i with
    | zero =>
      simp at h
      subst h
      rfl
    | succ i =>
      have ih := pouts_get (sls := r) (P := e) (i := i) (by simpa using h) rfl
      cases s with
      | cell l z =>
        cases l with
        | true => simpa [Pouts] using ih
        | false => simpa [Pouts] using ih
      | _ => simpa [Pouts] using ih
theorem outs_len : ∀ {sls : List Sl} {e : Ev}, sls.length ≤ e.length → (outs sls e).length = sls.length
  | [], _, _ => by simp [outs]
  | s :: r, [], h => by simp at h
  | s :: r, t :: e, h => by
    have ih := outs_len (sls := r) (e := e) (by simpa using h)
    cases s with
    | cell l z =>
      cases l with
      | true => cases t with
        | cell l2 z2 => cases l2 <;> simp [outs, ih]
        | _ => simp [outs, ih]
      | false => simp [outs, ih]
    | _ => simp [outs, ih]
end
section
variable {P : Program} {w : World} {K : PySem.W.Frag} {mg : Str → Option Value} {base : Heap} {c : Cl}
/-- THE RULE for a def, the code object in hand -/
theorem dokG {x qual : Str} {st : Stmt} {f : Addr} {fd : FuncData} {N ps : List Str} {k : Nat} {b : MS} (F : FunV K x qual st f fd) (S : FnScope N ps (defScope st)) (n : Nat := ps.length) (hn : n = ps.length := by rfl) (hN : ps.length ≤ N.length := by decide)
    (hbody : ∀ (cdv : Value), fd.code = cdv → ∀ (A : Around) (outer : List Env) (s : Shared) (H : Hp) (E : XK), RoomG k (A.deeper (envOfC qual (defScope st) s.heap.objs.size f cdv)) → ∀ W : WX, Takes (cxOf (L2.CX P w) P w K mg base N qual (defScope st) f cdv A outer s H E) W →
      PSs (cxOf (L2.CX P w) P w K mg base N qual (defScope st) f cdv A outer s H E) (defBody st) (tS K c W b)) : FnG P w K mg base (L2.CX P w) (k + 1) f fd ps (spD K c n (mDef N.length b)) := by
  refine fng_of F S (fun vs H Q E h => ?_) (fun cdv cdE A outer s H vs Q E hr h => ?_)
  · obtain ⟨_, _, _, _, e, _⟩ := h
    rw [e, hn]
  · obtain ⟨Fh, G, Pp, sls, hl, R, ha, h⟩ := h
    have hls : sls.length = vs.length := by have := R.all.len.1; simpa using this.symm
    have tk : Takes (cxOf (L2.CX P w) P w K mg base N qual (defScope st) f cdv A outer s H E) (fun cv dd _ H' => E cv dd H') := takes_of rfl rfl rfl rfl
    refine ⟨_, hbody cdv cdE A outer s H E hr _ tk, ?_⟩
    have R1 := R.more (N.length - sls.length)
    refine ⟨Fh, G, _, _, by unfold start; rw [← hls]; exact R1, ?_⟩
    unfold mDef at h
    have fin : ∀ {G' H' : Hp} {P' : List (List Addr)} {σ' : St} {e : Ev}, Keep (Pp ++ List.replicate (N.length - sls.length) []) P' (sls ++ List.replicate (N.length - sls.length) .no) e → Rel K c Fh G' H' P' σ' e →
        Keep Pp (Pouts sls P') sls (outs sls e) ∧ Rel K c Fh G' H' (Pouts sls P') (vs.map some) (outs sls e) := by
      intro G' H' P' σ' e kp R'
      have hle : sls.length ≤ e.length := by rw [kp.len]; simp
      have kk : ∀ (i : Nat) (z : Cell), sls[i]? = some (.cell true z) → P'[i]? = Pp[i]? ∧ ∃ z' : Cell, e[i]? = some (.cell true z') := fun i z hz => by
        have hi : i < sls.length := (List.getElem?_eq_some_iff.mp hz).1
        obtain ⟨q1, z', q2⟩ := kp.at_ i z (by rw [List.getElem?_append_left hi]; exact hz)
        have hp : i < Pp.length := by have := R.all.len.2; omega
        rw [List.getElem?_append_left hp] at q1
        exact ⟨q1, z', q2⟩
      refine ⟨⟨outs_len hle, fun i z hz => ?_⟩, ⟨R'.fs, R'.gs, rels_outs R.all R'.all hle kk, fun b hb => R'.out b (pouts_sub hb), pouts_nd R'.nd, R'.tb⟩⟩
      obtain ⟨q1, z', q2⟩ := kk i z hz
      have hi : i < sls.length := (List.getElem?_eq_some_iff.mp hz).1
      have hp : i < P'.length := by have := R'.all.len.2; omega
      exact ⟨(pouts_get hz rfl).trans q1, z', outs_at hz q2⟩
    cases hb : b (sls ++ List.replicate (N.length - sls.length) .no) with
    | bad => rw [hb] at h; exact h
    | exc x e =>
      rw [hb] at h
      intro G' H' P' σ' cv dd x1 k1 R' rx
      obtain ⟨k2, R2⟩ := fin k1 R'
      exact h G' H' _ cv dd x1 k2 R2 rx
    | ok fl e =>
      rw [hb] at h
      intro G' H' P' σ' x1 k1 R'
      obtain ⟨k2, R2⟩ := fin k1 R'
      cases fl with
      | next => exact h G' H' _ x1 k2 R2 _ .non
      | ret d => exact fun v r => h G' H' _ x1 k2 R2 v r
      | brk => exact h.elim
      | cont => exact h.elim
      | retO z => exact h.elim
/-- THE RULE for a def -/
theorem dok {x qual : Str} {st : Stmt} {f : Addr} {fd : FuncData} {N ps : List Str} {k : Nat} {b : MS} (F : FunV K x qual st f fd) (S : FnScope N ps (defScope st)) (n : Nat := ps.length) (hn : n = ps.length := by rfl) (hN : ps.length ≤ N.length := by decide)
    (hbody : ∀ (cdv : Value) (A : Around) (outer : List Env) (s : Shared) (H : Hp) (E : XK), RoomG k (A.deeper (envOfC qual (defScope st) s.heap.objs.size f cdv)) → ∀ W : WX, Takes (cxOf (L2.CX P w) P w K mg base N qual (defScope st) f cdv A outer s H E) W →
      PSs (cxOf (L2.CX P w) P w K mg base N qual (defScope st) f cdv A outer s H E) (defBody st) (tS K c W b)) : FnG P w K mg base (L2.CX P w) (k + 1) f fd ps (spD K c n (mDef N.length b)) :=
  dokG F S n hn hN fun cdv _ => hbody cdv
/-- .. whose code object is known -/
theorem dokC {x qual : Str} {st : Stmt} {f cd : Addr} {fd : FuncData} {N ps : List Str} {k : Nat} {b : MS} (F : FunV K x qual st f fd) (own : fd.code = .ref cd) (S : FnScope N ps (defScope st)) (n : Nat := ps.length) (hn : n = ps.length := by rfl) (hN : ps.length ≤ N.length := by decide)
    (hbody : ∀ (A : Around) (outer : List Env) (s : Shared) (H : Hp) (E : XK), RoomG k (A.deeper (envOfC qual (defScope st) s.heap.objs.size f (.ref cd))) → ∀ W : WX, Takes (cxOf (L2.CX P w) P w K mg base N qual (defScope st) f (.ref cd) A outer s H E) W →
      PSs (cxOf (L2.CX P w) P w K mg base N qual (defScope st) f (.ref cd) A outer s H E) (defBody st) (tS K c W b)) : FnG P w K mg base (L2.CX P w) (k + 1) f fd ps (spD K c n (mDef N.length b)) :=
  dokG F S n hn hN fun cdv e => by
    rw [own] at e
    subst e
    exact hbody
/-- .. of a def that returns a new thing of its own -/
theorem dokO {x qual : Str} {st : Stmt} {f : Addr} {fd : FuncData} {N ps : List Str} {k : Nat} {b : MS} (F : FunV K x qual st f fd) (S : FnScope N ps (defScope st)) (n : Nat := ps.length) (hn : n = ps.length := by rfl) (hN : ps.length ≤ N.length := by decide)
    (hbody : ∀ (cdv : Value) (A : Around) (outer : List Env) (s : Shared) (H : Hp) (E : XK), RoomG k (A.deeper (envOfC qual (defScope st) s.heap.objs.size f cdv)) → ∀ W : WX, Takes (cxOf (L2.CX P w) P w K mg base N qual (defScope st) f cdv A outer s H E) W →
      PSs (cxOf (L2.CX P w) P w K mg base N qual (defScope st) f cdv A outer s H E) (defBody st) (tS K c W b)) : FnG P w K mg base (L2.CX P w) (k + 1) f fd ps (spO K c n (mDefO N.length b)) := by
  refine fng_of F S (fun vs H Q E h => ?_) (fun cdv cdE A outer s H vs Q E hr h => ?_)
  · obtain ⟨_, _, e, _⟩ := h
    rw [e, hn]
  · obtain ⟨G, ds, hl, hs, r, ⟨ht1, ht2⟩, h⟩ := h
    have hds : ds.length = vs.length := r.length.symm
    have tk : Takes (cxOf (L2.CX P w) P w K mg base N qual (defScope st) f cdv A outer s H E) (fun cv dd _ H' => E cv dd H') := takes_of rfl rfl rfl rfl
    refine ⟨_, hbody cdv A outer s H E hr _ tk, ?_⟩
    have R0 : Rel K c (nt H) G H (ds.map fun _ => []) (vs.map some) (ds.map .val) := ⟨nt_same H, hs, rels_vals0 r, fun b hb => (by rw [flat_nil0] at hb; cases hb), (by rw [flat_nil0]; exact List.nodup_nil), ⟨ht1, nt_not H, ht2⟩⟩
    have R1 := R0.more (N.length - ds.length)
    refine ⟨nt H, G, _, _, by unfold start; rw [← hds]; exact R1, ?_⟩
    unfold mDefO at h
    cases hb : b (ds.map .val ++ List.replicate (N.length - ds.length) .no) with
    | bad => rw [hb] at h; exact h
    | exc x e =>
      rw [hb] at h
      exact fun G' H' P' σ' cv dd x1 k1 R' rx => h G' H' cv dd (R'.toPure x1) rx
    | ok fl e =>
      rw [hb] at h
      intro G' H' P' σ' x1 k1 R'
      cases fl with
      | next => exact h.elim
      | ret d => exact h.elim
      | brk => exact h.elim
      | cont => exact h.elim
      | retO z => exact fun v p ca nd out => h G' H' v p (R'.toPure x1) ca nd fun b hb => ⟨(out b hb).1, (out b hb).2.1⟩
end
end L2.DL
set_option Elab.async false
set_option linter.all false
set_option maxRecDepth 100000
set_option maxHeartbeats 4000000
namespace L2.DL
open PySem PySem.Spec PyProof.Rows
/-! ### calls of defs -/
/-- f(..), all arguments data -/
def mCall (f : Fn) (ms : M (List D)) : M D := M.bind ms fun ds env => match f (ds.map .val) with
  | .ok d _ => .ok d env
  | .exc x _ => .exc x env
  | .bad => .bad
/-- f(x, ..), the thing in slot i lent -/
def mCallL (f : Fn) (i : Nat) (ms : M (List D)) : M D := fun env => match env[i]? with
  | some (.cell _ _) => M.bind ms (fun ds env => match env[i]? with
    | some (.cell l z) => match f (.cell true z :: ds.map .val) with
      | .ok d (.cell true z' :: _) => .ok d (env.set i (.cell l z'))
      | .exc x (.cell true z' :: _) => .exc x (env.set i (.cell l z'))
      | _ => .bad
    | _ => .bad) env
  | _ => .bad
section
variable {K : PySem.W.Frag} {c : Cl} {W : WX} {F G G1 H H1 : Hp} {P P1 : List (List Addr)} {σ : St} {env env1 : Ev}
theorem rels_vals {vs : List V} {ds : List D} (r : Reps K c G vs ds) : Rels K c G H (ds.map fun _ => []) (vs.map some) (ds.map .val) := by
  cases r with
  | nil => exact .nil
  | cons h t => exact .cons (.val h) (rels_vals t)
theorem flat_nil {α : Type} (ds : List α) : (ds.map fun _ => ([] : List Addr)).flatten = [] := by
  induction ds with
  | nil => rfl
  | cons _ _ ih => rw [List.map_cons, List.flatten_cons, ih]; rfl
theorem all_vals (ds : List D) : (ds.map Sl.val).all isArg = true := by
  induction ds with
  | nil => rfl
  | cons _ _ ih => exact ih
/-- the promise, all arguments data: a pure step -/
theorem spD_vals {n : Nat} {f : Fn} {vs : List V} {ds : List D} {Q : VK} {E : XK} (hs : Same G H) (ht : Tbs c G H ∧ NoT G) (r : Reps K c G vs ds) (hn : ds.length = n)
    (h : match f (ds.map .val) with
      | .ok d _ => ∀ G' H' v, Pure c H G H' G' → Rep K c G' v d → Q v H'
      | .exc x _ => ∀ G' H' cv dd, Pure c H G H' G' → RepX K c G' H' cv dd x → E cv dd H'
      | .bad => False) : spD K c n f vs H Q E := by
  refine ⟨nt H, G, ds.map fun _ => [], ds.map .val, r.length.trans hn, ⟨nt_same H, hs, rels_vals r, fun b hb => ?_, ?_, ⟨ht.1, nt_not H, ht.2⟩⟩, all_vals ds, ?_⟩
  · rw [flat_nil] at hb; cases hb
  · rw [flat_nil]; exact List.nodup_nil
  · cases e : f (ds.map .val) with
    | bad => rw [e] at h; exact h
    | ok d s =>
      rw [e] at h
      exact fun G' H' P' x _ R v r => h G' H' v (R.toPure x) r
    | exc x s =>
      rw [e] at h
      exact fun G' H' P' cv dd x _ R r => h G' H' cv dd (R.toPure x) r
theorem call_vals {n : Nat} {f : Fn} {vs : List V} {ds : List D} {Q : VK} (R : Rel K c F G H P σ env) (r : Reps K c G vs ds) (hn : ds.length = n)
    (h : Post K c W F G P σ env (match f (ds.map .val) with | .ok d _ => .ok d env | .exc x _ => .exc x env | .bad => .bad) fun d G' H' _ => ∀ v, Rep K c G' v d → Q v H') :
    spD K c n f vs H Q (WE W σ) := by
  refine spD_vals R.gs ⟨R.tb.tabs, R.tb.ng⟩ r hn ?_
  cases e : f (ds.map .val) with
  | bad => rw [e] at h; exact h
  | ok d s =>
    rw [e] at h
    intro G' H' v p r
    obtain ⟨x, R'⟩ := R.pure p
    exact h G' H' P x (Keep.refl _ _) R' v r
  | exc x s =>
    rw [e] at h
    intro G' H' cv dd p r
    obtain ⟨x, R'⟩ := R.pure p
    exact h G' H' P cv dd x (Keep.refl _ _) R' r
/-- .. the first argument a thing that is lent -/
theorem call_lent {n : Nat} {f : Fn} {vs : List V} {ds : List D} {Q : VK} {i : Nat} {l : Bool} {z : Cell} {v0 : V} (R : Rel K c F G H P σ env) (r : Reps K c G vs ds) (hn : ds.length + 1 = n) (e : env[i]? = some (.cell l z)) (hv : σ[i]? = some (some v0))
    (h : Post K c W F G P σ env (match f (.cell true z :: ds.map .val) with
      | .ok d (.cell true z' :: _) => .ok d (env.set i (.cell l z'))
      | .exc x (.cell true z' :: _) => .exc x (env.set i (.cell l z'))
      | _ => .bad) fun d G' H' _ => ∀ v, Rep K c G' v d → Q v H') : spD K c n f (v0 :: vs) H Q (WE W σ) := by
  obtain ⟨p, x, e1, e2, ca⟩ := R.all.get e
  rw [hv] at e2
  cases e2
  cases ca with
  | cell ca =>
    -- the frame: all but what is lent
    have out : ∀ b, b ∈ p → F b = none ∧ G b = none := fun b hb => R.out b (mem_flat e1 hb)
    let Fc : Hp := fun b => if b ∈ p then none else nt H b
    have fcN : ∀ b, b ∈ p → Fc b = none := fun b hb => if_pos hb
    have fcH : ∀ b, b ∉ p → Fc b = nt H b := fun b hb => if_neg hb
    have sFc : Same Fc H := fun b o h => by
      by_cases hb : b ∈ p
      · rw [fcN b hb] at h; cases h
      · rw [fcH b hb] at h; exact nt_same H b o h
    have nFc : NoT Fc := fun b ps h => by
      by_cases hb : b ∈ p
      · rw [fcN b hb] at h; cases h
      · rw [fcH b hb] at h; exact nt_not H b ps h
    have fcF : ∀ b o, b ∉ p → F b = some o → Fc b = some o := fun b o hb h => by
      rw [fcH b hb]
      exact nt_at (R.fs b o h) fun ps z => R.tb.nf b ps (by rw [h, z])
    have fcP : ∀ b o, b ∉ p → b ∈ P.flatten → H b = some o → Fc b = some o := fun b o hb hP h => by
      obtain ⟨o', h1, h2⟩ := R.all.obj b hP
      rw [h] at h1
      cases h1
      rw [fcH b hb]
      exact nt_at h h2
    have ndp : p.Nodup := by
      obtain ⟨hi, e'⟩ := List.getElem?_eq_some_iff.mp e1
      subst e'
      exact List.Nodup.sublist (List.sublist_flatten_of_mem (List.getElem_mem hi)) R.nd
    have fl : (p :: ds.map fun _ => ([] : List Addr)).flatten = p := by rw [List.flatten_cons, flat_nil, List.append_nil]
    have Rc : Rel K c Fc G H (p :: ds.map fun _ => []) ((v0 :: vs).map some) (.cell true z :: ds.map .val) :=
      ⟨sFc, R.gs, .cons (.cell ca) (rels_vals r), fun b hb => by rw [fl] at hb; exact ⟨fcN b hb, (out b hb).2⟩, by rw [fl]; exact ndp, ⟨R.tb.tabs, nFc, R.tb.ng⟩⟩
    refine ⟨Fc, G, _, _, by simpa using by rw [r.length]; exact hn, Rc, all_vals ds, ?_⟩
    -- back at the caller
    have back : ∀ {G' H' : Hp} {P' : List (List Addr)} {s' : List Sl} {z' : Cell}, Ext Fc G G' → Keep (p :: ds.map fun _ => []) P' (.cell true z :: ds.map .val) (.cell true z' :: s') → Rel K c Fc G' H' P' ((v0 :: vs).map some) (.cell true z' :: s') →
        Ext F G G' ∧ Keep P P env (env.set i (.cell l z')) ∧ Rel K c F G' H' P σ (env.set i (.cell l z')) := by
      intro G' H' P' s' z' x k R'
      have ca' : CellAt K c G' H' p v0 z' ∧ ∀ b, b ∈ p → G' b = none := by
        have q := (k.at_ 0 z rfl).1
        cases hP : P' with
        | nil => rw [hP] at q; cases q
        | cons p' P'' =>
          rw [hP] at q R'
          have : p' = p := by simpa using q
          subst this
          obtain ⟨_, _, a1, a2, a3⟩ := R'.all.get (i := 0) (s := .cell true z') rfl
          simp at a1 a2
          subst a1 a2
          cases a3 with
          | cell q => exact ⟨q, fun b hb => (R'.out b (by rw [List.flatten_cons]; exact List.mem_append_left _ hb)).2⟩
      have there : ∀ b, b ∈ P.flatten → H b ≠ none := fun b hb => by
        obtain ⟨q, hq, hb⟩ := List.mem_flatten.mp hb
        obtain ⟨j, hj, ej⟩ := List.mem_iff_getElem.mp hq
        have hl := R.all.len
        have ej1 : P[j]? = some q := by rw [List.getElem?_eq_getElem hj, ej]
        obtain ⟨s, hs⟩ : ∃ s, env[j]? = some s := ⟨env[j]'(by omega), by simp [show j < env.length by omega]⟩
        obtain ⟨p', x, e2, _, r⟩ := R.all.get hs
        rw [ej1] at e2; cases e2
        cases r with
        | no => cases hb
        | val _ => cases hb
        | cell z => exact cell_there z b hb
      have notp : ∀ b o, F b = some o → b ∉ p := fun b o h hb => by rw [(out b hb).1] at h; cases h
      refine ⟨⟨x.same, fun b h1 h2 => ?_⟩, ⟨by simp, fun j z1 hj => ⟨rfl, ?_⟩⟩, ⟨fun b o h => ?_, R'.gs, ?_, fun b hb => ⟨(R.out b hb).1, ?_⟩, R.nd, ⟨R'.tb.tabs, R.tb.nf, R'.tb.ng⟩⟩⟩
      · cases eF : F b with
        | none => exact absurd eF h2
        | some o =>
          refine x.fresh b h1 ?_
          rw [fcF b o (notp b o eF) eF]
          exact fun z => nomatch z
      · by_cases hij : i = j
        · subst hij
          rw [e] at hj
          cases hj
          exact ⟨z', by rw [List.getElem?_set_self (by have := List.getElem?_eq_some_iff.mp e; exact this.1)]⟩
        · rw [List.getElem?_set_ne hij]; exact ⟨z1, hj⟩
      · exact R'.fs b o (fcF b o (notp b o h) h)
      · -- the slots
        have mv : ∀ (j : Nat) (pj : List Addr), j ≠ i → P[j]? = some pj → ∀ b, b ∈ pj → ∀ o, H b = some o → H' b = some o := fun j pj hj hp b hb o ho => by
          exact R'.fs b o (fcP b o (fun hbp => hj (nd_at R.nd hp e1 hb hbp)) (mem_flat hp hb) ho)
        have gen : ∀ {P : List (List Addr)} {σ : St} {env : Ev}, Rels K c G H P σ env → ∀ i, P[i]? = some p → σ[i]? = some (some v0) → (∀ (j : Nat) (pj : List Addr), j ≠ i → P[j]? = some pj → ∀ b, b ∈ pj → ∀ o, H b = some o → H' b = some o) →
            Rels K c G' H' P σ (env.set i (.cell l z')) := by
          intro P σ env h
          induction h with
          | nil => intro i hi; simp at hi
          | cons q t ih =>
            intro i hp hσ mv
            cases i with
            | zero =>
              simp at hp hσ
              subst hp hσ
              refine .cons (.cell ca'.1) (t.move x.same fun b hb o ho => ?_)
              obtain ⟨pj, hm, hb⟩ := List.mem_flatten.mp hb
              obtain ⟨j, hj, ej⟩ := List.mem_iff_getElem.mp hm
              exact mv (j + 1) pj (by omega) (by rw [List.getElem?_cons_succ, List.getElem?_eq_getElem hj, ej]) b hb o ho
            | succ i =>
              refine .cons (q.move x.same fun b hb o ho => mv 0 _ (by omega) rfl b hb o ho) (ih i (by simpa using hp) (by simpa using hσ) fun j pj hj hpj => mv (j + 1) pj (by omega) (by simpa using hpj))
        exact gen R.all i e1 hv mv
      · by_cases hbp : b ∈ p
        · exact ca'.2 b hbp
        · obtain ⟨o', h1, _⟩ := R.all.obj b hb
          exact x.fresh b (R.out b hb).2 (by rw [fcP b o' hbp hb h1]; exact fun z => nomatch z)
    cases q : f (.cell true z :: ds.map .val) with
    | bad => rw [q] at h; exact h
    | ok d s =>
      rw [q] at h
      intro G' H' P' x k R' v rr
      match s, h, k, R' with
      | [], h, _, _ => exact h.elim
      | .no :: _, h, _, _ => exact h.elim
      | .val _ :: _, h, _, _ => exact h.elim
      | .cell false _ :: _, h, _, _ => exact h.elim
      | .cell true z' :: s', h, k, R' =>
        obtain ⟨a1, a2, a3⟩ := back x k R'
        exact h G' H' P a1 a2 a3 v rr
    | exc xx s =>
      rw [q] at h
      intro G' H' P' cv dd x k R' rr
      match s, h, k, R' with
      | [], h, _, _ => exact h.elim
      | .no :: _, h, _, _ => exact h.elim
      | .val _ :: _, h, _, _ => exact h.elim
      | .cell false _ :: _, h, _, _ => exact h.elim
      | .cell true z' :: s', h, k, R' =>
        obtain ⟨a1, a2, a3⟩ := back x k R'
        exact h G' H' P cv dd a1 a2 a3 rr
end
/-- how many arguments there are -/
def ML (n : Nat) (ms : M (List D)) : Prop := ∀ env ds env', ms env = .ok ds env' → ds.length = n
theorem ml_nil : ML 0 mNil := fun env ds env' h => by cases h; rfl
theorem ml_cons {n : Nat} {m : M D} {ms : M (List D)} (h : ML n ms) : ML (n + 1) (mCons m ms) := fun env ds env' e => by
  unfold mCons M.bind at e
  cases q1 : m env with
  | bad => rw [q1] at e; cases e
  | exc x e1 => rw [q1] at e; cases e
  | ok x e1 =>
    rw [q1] at e
    dsimp only at e
    cases q2 : ms e1 with
    | bad => rw [q2] at e; cases e
    | exc x e1 => rw [q2] at e; cases e
    | ok xs e2 =>
      rw [q2] at e
      cases e
      exact congrArg (· + 1) (h _ _ _ q2)
/-- what a call needs of a def: its place, its promise (K, mg ..: the module's) -/
structure Df (P : Program) (w : World) (K : PySem.W.Frag) (mg : Str → Option Value) (base : Heap) (c : Cl) (x : Str) (k n : Nat) (fn : Fn) : Prop where
  ex : ∃ f : Addr, FnRG P w K mg base (L2.CX P w) k f (spD K c n fn) ∧ mg x = some (.ref f) ∧ PySem.W.keepIn K (.ref f) = true
theorem run_R {X : Cx} {pins : List (Addr × Obj)} {σ : St} {H : Hp} {s : Shared} {k : Nat} {f : Addr} {sp : Sp} {E : XK} {Q : VK} {us : List Value} {vs : List V} (F : FnRG X.prog X.w X.K X.mg X.base (L2.CX X.prog X.w) k f sp) (hr : RoomG k X.A) (hx : PassesAt (L2.CX X.prog X.w) X σ E) (I : Inv X pins σ H s)
    (r : Vals vs us) (h : sp vs H Q E) : wpAny (model X.prog X.w) X.A (call (.ref f) us) (EP X pins σ Q) X.xe s := by
  refine wpAny_call (codeAny_mono (F X.A X.stack s H us vs Q E hr I.env0 r h) fun r s' hq => ?_)
  cases r with
  | error e => exact hx pins H s e s' I hq
  | ok fl =>
    cases fl with
    | ret u => exact I.after hq
    | next => exact False.elim hq
    | brk => exact False.elim hq
    | cont => exact False.elim hq
section
variable {X : Cx} {c : Cl} {W : WX} {pos p : Pos} {e : Expr} {es : List Expr} {ms : M (List D)} {x : Str} {k n : Nat} {fn : Fn} {t : TA}
theorem pe_callR {f : Addr} {sp : Sp} {E : St → XK} (F : FnRG X.prog X.w X.K X.mg X.base (L2.CX X.prog X.w) k f sp) (hr : RoomG k X.A) (hg : Gl X x) (hm : X.mg x = some (.ref f)) (hk : PySem.W.keepIn X.K (.ref f) = true) (hx : ∀ σ, PassesAt (L2.CX X.prog X.w) X σ (E σ))
    (ha : PA X (e :: es) t) (hdb : (x == ("__debug__" : Str)) = false := by decide) (he : starEach (e :: es) X.env = (false, eval e X.env) :: starEach es X.env := by rfl) (hpl : (backTo pos (starEach es X.env)).any (·.1) = false := by rfl) :
    PE X (.Call (.Name x p) (e :: es) [] pos) (tCallS sp E t) := by
  refine ⟨fun pins s σ H Q I h => ?_⟩
  refine wpAny_Call_Name_kw (ld_glob I hg hm ?_ hdb)
  refine PySem.W.callWith_K (h₀ := X.base) I.ok.mod.kin hk (thn (ha.run pos pins s σ H _ I h) fun us s1 ⟨vs, H1, I1, r, q⟩ => ⟨I1.kIn, ?_⟩) he hpl
  exact run_R F hr (hx σ) I1 r q
theorem de_call (Fd : Df X.prog X.w X.K X.mg X.base c x k n fn) (tk : Takes X W) (hr : RoomG k X.A) (hl : ML n ms) (ha : PA X (e :: es) (tA X.K c W ms)) (hg : Gl X x := by rfl) (hdb : (x == ("__debug__" : Str)) = false := by decide)
    (he : starEach (e :: es) X.env = (false, eval e X.env) :: starEach es X.env := by rfl) (hpl : (backTo pos (starEach es X.env)).any (·.1) = false := by rfl) :
    PE X (.Call (.Name x p) (e :: es) [] pos) (tE X.K c W (mCall fn ms)) := by
  obtain ⟨f, Fk, hm, hk⟩ := Fd.ex
  refine PE.weak (pe_callR (E := WE W) Fk hr hg hm hk (fun σ => passAt tk σ) ha hdb he hpl) fun σ H Q h => ?_
  obtain ⟨F, G, P, env, R, h⟩ := h
  unfold mCall M.bind at h
  refine ⟨F, G, P, env, R, ?_⟩
  cases q : ms env with
  | bad => rw [q] at h; exact h
  | exc xx e1 => rw [q] at h; exact h
  | ok ds e1 =>
    rw [q] at h
    exact fun G1 H1 P1 x1 k1 R1 vs rs => call_vals R1 rs (hl env ds e1 q) (Post.chain h x1 k1)
/-- f() -/
theorem de_call0 (Fd : Df X.prog X.w X.K X.mg X.base c x k 0 fn) (tk : Takes X W) (hr : RoomG k X.A) (hg : Gl X x := by rfl) (hdb : (x == ("__debug__" : Str)) = false := by decide) : PE X (.Call (.Name x p) [] [] pos) (tE X.K c W (mCall fn mNil)) := by
  obtain ⟨f, Fk, hm, hk⟩ := Fd.ex
  refine ⟨fun pins s σ H Q I h => ?_⟩
  refine wpAny_Call_Name_kw (ld_glob I hg hm ?_ hdb)
  obtain ⟨F, G, P, env, R, h⟩ := h
  exact PySem.W.callWith_K0 I.kIn hk (run_R (us := []) Fk hr (passAt tk σ) I .nil (call_vals R .nil rfl h))
theorem de_callL {i : Nat} {y : Str} {py : Pos} (Fd : Df X.prog X.w X.K X.mg X.base c x k (n + 1) fn) (tk : Takes X W) (hr : RoomG k X.A) (hl : ML n ms) (ha : PA X es (tA X.K c W ms)) (hg : Gl X x := by rfl)
    (hN : X.N[i]? = some y := by rfl) (hv : Vis X.env.scope y := by first | exact Or.inl rfl | exact Or.inr (Or.inl rfl) | exact Or.inr (Or.inr rfl)) (hdb : (x == ("__debug__" : Str)) = false := by decide) (hdy : (y == ("__debug__" : Str)) = false := by decide) (hcy : (y == ("__classdict__" : Str)) = false := by decide)
    (he : starEach (.Name y py :: es) X.env = (false, eval (.Name y py) X.env) :: starEach es X.env := by rfl) (hpl : (backTo pos (starEach es X.env)).any (·.1) = false := by rfl) :
    PE X (.Call (.Name x p) (.Name y py :: es) [] pos) (tE X.K c W (mCallL fn i ms)) := by
  obtain ⟨f, Fk, hm, hk⟩ := Fd.ex
  refine PE.weak (pe_callR (E := WE W) Fk hr hg hm hk (fun σ => passAt tk σ) (pa_cons (pe_var (i := i) hN hv hdy hcy) ha he) hdb he hpl) fun σ H Q h => ?_
  obtain ⟨F, G, P, env, R, h⟩ := h
  unfold mCallL at h
  cases e0 : env[i]? with
  | none => rw [e0] at h; exact h.elim
  | some s0 =>
    rw [e0] at h
    cases s0 with
    | no => exact h.elim
    | val _ => exact h.elim
    | cell l0 z0 =>
      obtain ⟨p0, x0, _, hσ, r0⟩ := R.all.get e0
      cases r0 with
      | cell r0 =>
        rename_i v0
        refine ⟨v0, hσ, F, G, P, env, R, ?_⟩
        have h : Post X.K c W F G P σ env (M.bind ms _ env) _ := h
        unfold M.bind at h
        cases q : ms env with
        | bad => rw [q] at h; exact h
        | exc xx e1 => rw [q] at h; exact h
        | ok ds e1 =>
          rw [q] at h
          intro G1 H1 P1 x1 k1 R1 vs rs
          have h := Post.chain h x1 k1
          dsimp only at h
          cases e2 : e1[i]? with
          | none => rw [e2] at h; exact h.elim
          | some s2 =>
            rw [e2] at h
            cases s2 with
            | no => exact h.elim
            | val _ => exact h.elim
            | cell l z => exact call_lent R1 rs (by rw [hl env ds e1 q]) e2 hσ h
end
/-- a def that returns a new thing of its own -/
structure DfO (P : Program) (w : World) (K : PySem.W.Frag) (mg : Str → Option Value) (base : Heap) (c : Cl) (x : Str) (k n : Nat) (fn : FnO) : Prop where
  ex : ∃ f : Addr, FnRG P w K mg base (L2.CX P w) k f (spO K c n fn) ∧ mg x = some (.ref f) ∧ PySem.W.keepIn K (.ref f) = true
def mCallO (f : FnO) (ms : M (List D)) : M Cell := M.bind ms fun ds env => match f ds with
  | .ok z _ => .ok z env
  | .exc x _ => .exc x env
  | .bad => .bad
section
variable {X : Cx} {c : Cl} {W : WX} {pos p : Pos} {e : Expr} {es : List Expr} {ms : M (List D)} {x : Str} {k n : Nat} {fn : FnO} {t : TA}
theorem do_call (Fd : DfO X.prog X.w X.K X.mg X.base c x k n fn) (tk : Takes X W) (hr : RoomG k X.A) (hl : ML n ms) (ha : PA X (e :: es) (tA X.K c W ms)) (hg : Gl X x := by rfl) (hdb : (x == ("__debug__" : Str)) = false := by decide)
    (he : starEach (e :: es) X.env = (false, eval e X.env) :: starEach es X.env := by rfl) (hpl : (backTo pos (starEach es X.env)).any (·.1) = false := by rfl) :
    PE X (.Call (.Name x p) (e :: es) [] pos) (tO X.K c W (mCallO fn ms)) := by
  obtain ⟨f, Fk, hm, hk⟩ := Fd.ex
  refine PE.weak (pe_callR (E := WE W) Fk hr hg hm hk (fun σ => passAt tk σ) ha hdb he hpl) fun σ H Q h => ?_
  obtain ⟨F, G, P, env, R, h⟩ := h
  unfold mCallO M.bind at h
  refine ⟨F, G, P, env, R, ?_⟩
  cases q : ms env with
  | bad => rw [q] at h; exact h
  | exc xx e1 => rw [q] at h; exact h
  | ok ds e1 =>
    rw [q] at h
    intro G1 H1 P1 x1 k1 R1 vs rs
    have h := Post.chain h x1 k1
    dsimp only at h
    refine ⟨G1, ds, by rw [rs.length, hl env ds e1 q], R1.gs, rs, ⟨R1.tb.tabs, R1.tb.ng⟩, ?_⟩
    cases q2 : fn ds with
    | bad => rw [q2] at h; exact h
    | exc xx s =>
      rw [q2] at h
      intro G' H' cv dd pu rx
      obtain ⟨x2, R2⟩ := R1.pure pu
      exact h G' H' P1 cv dd x2 (Keep.refl _ _) R2 rx
    | ok z s =>
      rw [q2] at h
      intro G' H' v p pu ca nd out
      obtain ⟨x2, R2⟩ := R1.pure pu
      refine h G' H' P1 x2 (Keep.refl _ _) R2 v p ca nd fun b hb => ⟨none_of (same_nt R1.fs R1.tb.nf) (out b hb).1, (out b hb).2, fun hb2 => ?_⟩
      obtain ⟨q, hq, hb2⟩ := List.mem_flatten.mp hb2
      obtain ⟨i, hi, e⟩ := List.mem_iff_getElem.mp hq
      have hl := R1.all.len
      have e1' : P1[i]? = some q := by rw [List.getElem?_eq_getElem hi, e]
      obtain ⟨s, hs⟩ : ∃ s, e1[i]? = some s := ⟨e1[i]'(by omega), by simp [show i < e1.length by omega]⟩
      obtain ⟨p', x, e2, _, r⟩ := R1.all.get hs
      rw [e1'] at e2; cases e2
      cases r with
      | no => cases hb2
      | val _ => cases hb2
      | cell z =>
        obtain ⟨o', h1, h2⟩ := cell_obj z b hb2
        have := (out b hb).1
        rw [nt_at h1 h2] at this
        cases this
end
/-! ### instances with slots -/
/-- a class of one's own: its place, its __init__ -/
structure Ck (P : Program) (w : World) (K : PySem.W.Frag) (mg : Str → Option Value) (base : Heap) (c : Cl) (x : Str) (cl : Nat) (k n : Nat) (fn : Fn) : Prop where
  at_ : mg x = some (.ref (c.cls cl))
  ex : ∃ f : Addr, Mk K (c.cls cl) f ∧ FnRG P w K mg base (L2.CX P w) k f (spD K c (n + 1) fn)
/-- C(..) -/
def mMake (cl : Nat) (f : Fn) (ms : M (List D)) : M D := M.bind ms fun ds env => match f (.cell true (.ob cl []) :: ds.map .val) with
  | .ok .non (.cell true z :: _) => match z.frz with
    | some d => .ok d env
    | none => .bad
  | .exc x (.cell true _ :: _) => .exc x env
  | _ => .bad
section
variable {K : PySem.W.Frag} {c : Cl} {W : WX} {F G G1 H H1 : Hp} {P P1 : List (List Addr)} {σ : St} {env env1 : Ev}
theorem make_vals {n cl : Nat} {f : Fn} {vs : List V} {ds : List D} {Q : VK} {x dx : Addr} (R : Rel K c F G H P σ env) (r : Reps K c G vs ds) (hn : ds.length = n) (nx : H x = none) (nd : H dx = none) (ne : dx ≠ x)
    (h : Post K c W F G P σ env (match f (.cell true (.ob cl []) :: ds.map .val) with
      | .ok .non (.cell true z :: _) => match z.frz with
        | some d => .ok d env
        | none => .bad
      | .exc x (.cell true _ :: _) => .exc x env
      | _ => .bad) fun d G' H' _ => ∀ v, Rep K c G' v d → Q v H') :
    spD K c (n + 1) f (.ref x :: vs) (upd (upd H dx (.own x)) x (.ins (c.cls cl) dx [])) (fun v H2 => v = .non ∧ Q (.ref x) H2) (WE W σ) := by
  have h0 : Same H (upd (upd H dx (.own x)) x (.ins (c.cls cl) dx [])) := fun b o e => by
    rw [upd_ne (ne_of_none e nx), upd_ne (ne_of_none e nd)]; exact e
  have fl : ([x, dx] :: ds.map fun _ => ([] : List Addr)).flatten = [x, dx] := by rw [List.flatten_cons, flat_nil, List.append_nil]
  have two : ∀ b, b ∈ [x, dx] → H b = none := fun b hb => by
    rcases (by simpa using hb : b = x ∨ b = dx) with e | e
    · rw [e]; exact nx
    · rw [e]; exact nd
  have Rc : Rel K c (nt H) G (upd (upd H dx (.own x)) x (.ins (c.cls cl) dx [])) ([x, dx] :: ds.map fun _ => []) ((.ref x :: vs).map some) (.cell true (.ob cl []) :: ds.map .val) := by
    refine ⟨(nt_same H).trans h0, R.gs.trans h0, .cons (.cell (.ob (.inl ⟨upd_same, rfl⟩) ne ?_ .nil)) (rels_vals r), fun b hb => ?_, ?_, ⟨R.tb.tabs.same h0, nt_not H, R.tb.ng⟩⟩
    · exact ⟨.own x, by rw [upd_ne ne, upd_same], fun _ z => nomatch z⟩
    · rw [fl] at hb; exact ⟨nt_none (two b hb), none_of R.gs (two b hb)⟩
    · rw [fl]; simp; exact fun e => ne e.symm
  refine ⟨nt H, G, _, _, by simpa using by rw [r.length]; exact hn, Rc, all_vals ds, ?_⟩
  cases q : f (.cell true (.ob cl []) :: ds.map .val) with
  | bad => rw [q] at h; exact h
  | ok d s =>
    rw [q] at h
    intro G' H' P' xx k R' v rr
    cases rr with
    | non =>
      refine ⟨rfl, ?_⟩
      match s, h, k, R' with
      | [], h, _, _ => exact h.elim
      | .no :: _, h, _, _ => exact h.elim
      | .val _ :: _, h, _, _ => exact h.elim
      | .cell false _ :: _, h, _, _ => exact h.elim
      | .cell true z :: s', h, k, R' =>
        dsimp only at h
        cases ez : z.frz with
        | none => rw [ez] at h; exact h.elim
        | some d =>
          rw [ez] at h
          have q0 := (k.at_ 0 _ rfl).1
          cases hP : P' with
          | nil => rw [hP] at q0; cases q0
          | cons p' P'' =>
            rw [hP] at q0 R'
            have : p' = [x, dx] := by simpa using q0
            subst this
            obtain ⟨_, x', a1, a2, a3⟩ := R'.all.get (i := 0) (s := .cell true z) rfl
            simp at a1 a2
            subst a1 a2
            cases a3 with
            | cell ca =>
              have oo : ∀ b, b ∈ [x, dx] → G' b = none := fun b hb => (R'.out b (by rw [List.flatten_cons]; exact List.mem_append_left _ hb)).2
              obtain ⟨s1, s2, rr⟩ := ca.frz R'.gs oo ez
              obtain ⟨e1, R1⟩ := R.pure (G' := frzH G' H' [x, dx]) (H' := H') ⟨xx.same.trans s1, nt_ext R'.fs, s2, fun b o h1 hnt h2 => by
                unfold frzH
                rw [if_neg fun hb => by rw [two b hb] at h1; cases h1]
                exact xx.fresh b h2 (by rw [nt_at h1 hnt]; exact fun z => nomatch z), fun _ => R'.tb.tabs.mono s1, fun _ => not_frz R'.tb.ng ca⟩
              exact h _ _ P e1 (Keep.refl _ _) R1 _ rr
    | _ => exact h.elim
  | exc xn s =>
    rw [q] at h
    intro G' H' P' cv dd xx k R' rr
    match s, h with
    | [], h => exact h.elim
    | .no :: _, h => exact h.elim
    | .val _ :: _, h => exact h.elim
    | .cell false _ :: _, h => exact h.elim
    | .cell true z :: s', h =>
      obtain ⟨e1, R1⟩ := R.pure (G' := G') (H' := H') (R'.toPure xx)
      exact h G' H' P cv dd e1 (Keep.refl _ _) R1 rr
end
section
variable {X : Cx} {c : Cl} {W : WX} {pos p : Pos} {e : Expr} {es : List Expr} {ms : M (List D)} {x : Str} {k n cl : Nat} {fn : Fn} {t : TA}
theorem run_makeD {pins : List (Addr × Obj)} {σ : St} {H : Hp} {s : Shared} {Q : VK} {us : List Value} {vs : List V} {C f : Addr} {sp : Sp} {E : XK} (M : Mk X.K C f) (F : FnRG X.prog X.w X.K X.mg X.base (L2.CX X.prog X.w) k f sp) (hr : RoomG (k + 1) X.A) (hx : PassesAt (L2.CX X.prog X.w) X σ E) (I : Inv X pins σ H s) (r : Vals vs us)
    (h : ∀ x dx, H x = none → H dx = none → dx ≠ x → sp (.ref x :: vs) (upd (upd H dx (.own x)) x (.ins C dx [])) (fun v H2 => v = .non ∧ Q (.ref x) H2) E) :
    wpAny (model X.prog X.w) X.A (call (.ref C) us) (EP X pins σ Q) X.xe s := by
  have hq := h (s.heap.objs.size + 1) s.heap.objs.size (I.hok.fresh (Nat.le_succ _)) (I.hok.fresh (Nat.le_refl _)) (Nat.ne_of_lt (Nat.lt_succ_self _))
  have I2 := Inv.made (C := C) I
  have r2 : Vals (V.ref (s.heap.objs.size + 1) :: vs) (Value.ref (s.heap.objs.size + 1) :: us) := .cons rfl r
  refine wpAny_call (make_map (f := f) I.kIn M.makes M.init (beq_iff_eq.mp M.fn) (codeAny_mono (F _ X.stack _ _ (Value.ref (s.heap.objs.size + 1) :: us) _ _ E (hr.make C us [])
    (I2.env0.make C us []) r2 hq) fun r s' hq' => ?_))
  cases r with
  | error e => exact hx pins _ _ e s' I2 hq'
  | ok fl =>
    cases fl with
    | ret u =>
      obtain ⟨v, H', I3, rv, ev, q3⟩ := I2.after hq'
      subst ev
      exact ⟨rv, ⟨V.ref (s.heap.objs.size + 1), H', I3, rfl, q3⟩⟩
    | next => exact False.elim hq'
    | brk => exact False.elim hq'
    | cont => exact False.elim hq'
theorem de_make (Ckk : Ck X.prog X.w X.K X.mg X.base c x cl k n fn) (tk : Takes X W) (hr : RoomG (k + 1) X.A) (hl : ML n ms) (ha : PA X (e :: es) (tA X.K c W ms)) (hg : Gl X x := by rfl) (hdb : (x == ("__debug__" : Str)) = false := by decide)
    (he : starEach (e :: es) X.env = (false, eval e X.env) :: starEach es X.env := by rfl) (hpl : (backTo pos (starEach es X.env)).any (·.1) = false := by rfl) :
    PE X (.Call (.Name x p) (e :: es) [] pos) (tE X.K c W (mMake cl fn ms)) := by
  obtain ⟨hm, f, Mk, Fk⟩ := Ckk
  refine ⟨fun pins s σ H Q I h => ?_⟩
  refine wpAny_Call_Name_kw (ld_glob I hg hm ?_ hdb)
  obtain ⟨F, G, P, env, R, h⟩ := h
  unfold mMake M.bind at h
  have ht : tA X.K c W ms σ H fun vs H1 => ∀ x dx, H1 x = none → H1 dx = none → dx ≠ x → spD X.K c (n + 1) fn (.ref x :: vs) (upd (upd H1 dx (.own x)) x (.ins (c.cls cl) dx [])) (fun v H2 => v = .non ∧ Q (.ref x) H2) (WE W σ) := by
    refine ⟨F, G, P, env, R, ?_⟩
    cases q : ms env with
    | bad => rw [q] at h; exact h
    | exc xx e1 => rw [q] at h; exact h
    | ok ds e1 =>
      rw [q] at h
      exact fun G1 H1 P1 x1 k1 R1 vs rs xa dx nx nd ne => make_vals R1 rs (hl env ds e1 q) nx nd ne (Post.chain h x1 k1)
  refine PySem.W.callWith_K (h₀ := X.base) I.ok.mod.kin Mk.kp (thn (ha.run pos pins s σ H _ I ht) fun us s1 ⟨vs, H1, I1, r, q⟩ => ⟨I1.kIn, ?_⟩) he hpl
  exact run_makeD Mk Fk hr (passAt tk σ) I1 r q
/-- the slot f of the classes of a table: at these places -/
structure Sf (K : PySem.W.Frag) (c : Cl) (f : Str) (tb : List (Nat × Nat)) : Prop where
  at_ : ∀ n i, tb.lookup n = some i → SlX.SCls K (c.cls n) ∧ ∃ p, SlX.Slot1 K (c.cls n) f p i
def mAttr (tb : List (Nat × Nat)) (m : M D) : M D := M.bind m fun d => match d with
  | .obj n fs => match tb.lookup n with
    | some i => M.opt fs[i]?
    | none => fun _ => .bad
  | _ => fun _ => .bad
theorem de_attr {f : Str} {tb : List (Nat × Nat)} {m : M D} (S : Sf X.K c f tb) (he : PE X e (tE X.K c W m)) (hb : attributeBase e f X.env (eval e X.env) = eval e X.env := by rfl) : PE X (.Attribute e f pos) (tE X.K c W (mAttr tb m)) := by
  refine PE.weak (SlX.pe_sl he hb) fun σ H Q h => ?_
  obtain ⟨F, G, P, env, R, h⟩ := h
  refine ⟨F, G, P, env, R, (Post.bind h).imp fun d G1 H1 P1 _ ⟨env1, R1, h1⟩ v r => ?_⟩
  cases r with
  | @obj a dx vs fs n h0 rs =>
    dsimp only at h1
    cases e1 : tb.lookup n with
    | none => rw [e1] at h1; exact h1.elim
    | some i =>
      rw [e1] at h1
      obtain ⟨d, e2, h1⟩ := Post.opt h1
      obtain ⟨hc, p, hs⟩ := S.at_ n i e1
      obtain ⟨v, e3, rv⟩ := rs.get e2
      exact ⟨a, _, dx, p, _, i, v, rfl, Same.slt R1.gs h0, hc, hs, by rw [List.getElem?_map, e3]; rfl, Post.here R1 h1 v rv⟩
  | _ => exact h1.elim
/-- self.f = e, in __init__ (self in slot j) -/
def putO (i : Nat) (d : D) (fs : List (Option D)) : List (Option D) := (fs ++ List.replicate (i + 1 - fs.length) none).set i (some d)
def mSetF (j cl i : Nat) (m : M D) : MS := M.bind m fun d env => match env[j]? with
  | some (.cell l (.ob n fs)) => if n = cl then .ok .next (env.set j (.cell l (.ob cl (putO i d fs)))) else .bad
  | _ => .bad
theorem repO_len {K : PySem.W.Frag} {G : Hp} {vs : List (Option V)} {fs : List (Option D)} (r : RepO K c G vs fs) : vs.length = fs.length := by
  induction r with
  | nil => rfl
  | none _ ih => simp [ih]
  | some _ _ ih => simp [ih]
theorem repO_app {K : PySem.W.Frag} {G : Hp} {vs : List (Option V)} {fs : List (Option D)} (r : RepO K c G vs fs) : ∀ n, RepO K c G (vs ++ List.replicate n none) (fs ++ List.replicate n none) := by
  intro n
  induction r with
  | nil =>
    induction n with
    | zero => exact .nil
    | succ n ih => exact .none ih
  | none _ ih => exact .none ih
  | some h _ ih => exact .some h ih
theorem repO_set {K : PySem.W.Frag} {G : Hp} {v : V} {d : D} (h : Rep K c G v d) {vs : List (Option V)} {fs : List (Option D)} (r : RepO K c G vs fs) : ∀ i, RepO K c G (vs.set i (some v)) (fs.set i (some d)) := by
  induction r with
  | nil => intro i; exact .nil
  | none t ih =>
    intro i
    cases i with
    | zero => exact .some h t
    | succ i => exact .none (ih i)
  | some q t ih =>
    intro i
    cases i with
    | zero => exact .some h t
    | succ i => exact .some q (ih i)
theorem ds_setF {j i : Nat} {y f : Str} {py pos' : Pos} {value : Expr} {m : M D} (hc : SlX.SCls X.K (c.cls cl)) (hs : ∃ p, SlX.Slot1 X.K (c.cls cl) f p i) (hv : PE X value (tE X.K c W m)) (hN : X.N[j]? = some y := by rfl)
    (hvs : Vis X.env.scope y := by first | exact Or.inl rfl | exact Or.inr (Or.inl rfl) | exact Or.inr (Or.inr rfl)) (hdy : (y == ("__debug__" : Str)) = false := by decide) (hcy : (y == ("__classdict__" : Str)) = false := by decide)
    (hsw : swapsWith value (some (.Attribute (.Name y py) f pos')) pos.line X.env = pure false := by rfl) : PS X (.Assign [.Attribute (.Name y py) f pos'] value pos) (tS X.K c W (mSetF j cl i m)) := by
  obtain ⟨p, hs⟩ := hs
  refine PS.weak (SlX.ps_sl (pe_var (i := j) hN hvs hdy hcy) hv hsw) fun D σ H h => ?_
  obtain ⟨F, G, P, env, R, h⟩ := h
  refine ⟨F, G, P, env, R, (Post.bindS h).imp fun d G1 H1 P1 _ ⟨env1, R1, h1⟩ v r => ?_⟩
  cases e : env1[j]? with
  | none => rw [e] at h1; exact h1.elim
  | some s =>
    rw [e] at h1
    cases s with
    | no => exact h1.elim
    | val _ => exact h1.elim
    | cell l z =>
      cases z with
      | lst _ => exact h1.elim
      | dct _ => exact h1.elim
      | ob n fs =>
        dsimp only at h1
        split at h1
        · rename_i hn
          subst hn
          obtain ⟨q, x, e1, e2, ca⟩ := R1.all.get e
          cases ca with
          | cell ca =>
            cases ca with
            | ob hslt hne hdn ro =>
              rename_i a dx vs
              refine ⟨_, e2, a, _, dx, p, vs, i, rfl, hslt, hc, hs, ?_⟩
              have out : ∀ b, b ∈ [a, dx] → F b = none ∧ G1 b = none := fun b hb => R1.out b (mem_flat e1 hb)
              have nn : ∀ b, b ∉ [a, dx] → SlX.slH H1 a (c.cls n) dx (SlX.putS i v vs) b = H1 b := fun b hb => SlX.slH_ne (fun z => hb (by simp [z])) (fun z => hb (by simp [z]))
              have sm : ∀ {F : Hp}, Same F H1 → (∀ b, b ∈ [a, dx] → F b = none) → Same F (SlX.slH H1 a (c.cls n) dx (SlX.putS i v vs)) := fun {F} h1 h2 b o ho => by
                rw [nn b fun z => by rw [h2 b z] at ho; cases ho]
                exact h1 b o ho
              have hσ : σ.set j (some (.ref a)) = σ := by
                apply List.ext_getElem?
                intro t
                by_cases hj : j = t
                · subst hj
                  rw [List.getElem?_set_self (by have := List.getElem?_eq_some_iff.mp e2; exact this.1), e2]
                · rw [List.getElem?_set_ne hj]
              have hP : P1.set j [a, dx] = P1 := by
                apply List.ext_getElem?
                intro t
                by_cases hj : j = t
                · subst hj
                  rw [List.getElem?_set_self (by have := List.getElem?_eq_some_iff.mp e1; exact this.1), e1]
                · rw [List.getElem?_set_ne hj]
              have ca' : CellAt X.K c G1 (SlX.slH H1 a (c.cls n) dx (SlX.putS i v vs)) [a, dx] (.ref a) (.ob n (putO i d fs)) := by
                refine .ob (SlX.slH_slt hne) hne ?_ ?_
                · exact ⟨.xd [], by unfold SlX.slH; rw [upd_ne hne, upd_same], fun _ z => nomatch z⟩
                · unfold SlX.putS putO
                  rw [repO_len ro]
                  exact repO_set r (repO_app ro _) i
              have R2 : Rel X.K c F G1 (SlX.slH H1 a (c.cls n) dx (SlX.putS i v vs)) P1 σ (env1.set j (.cell l (.ob n (putO i d fs)))) := by
                have n1 : ∀ ps, H1 a ≠ some (.tbl ps) := fun ps z => by
                  obtain ⟨o, o1, o2⟩ := R1.all.obj a (mem_flat e1 (by simp))
                  rw [z] at o1; cases o1; exact o2 ps rfl
                have n2 : ∀ ps, H1 dx ≠ some (.tbl ps) := fun ps z => by
                  obtain ⟨o, o1, o2⟩ := R1.all.obj dx (mem_flat e1 (by simp))
                  rw [z] at o1; cases o1; exact o2 ps rfl
                have tb2 : Tb c F G1 (SlX.slH H1 a (c.cls n) dx (SlX.putS i v vs)) := by
                  unfold SlX.slH
                  exact (R1.tb.upd n2).upd fun ps => by rw [upd_ne (Ne.symm hne)]; exact n1 ps
                refine ⟨sm R1.fs fun b hb => (out b hb).1, sm R1.gs fun b hb => (out b hb).2, ?_, R1.out, R1.nd, tb2⟩
                -- the others
                have gen : ∀ {P : List (List Addr)} {σ : St} {env : Ev}, Rels X.K c G1 H1 P σ env → ∀ j, P[j]? = some [a, dx] → σ[j]? = some (some (.ref a)) → (∀ (t : Nat) (pt : List Addr), t ≠ j → P[t]? = some pt → ∀ b, b ∈ pt → b ∉ [a, dx]) →
                    Rels X.K c G1 (SlX.slH H1 a (c.cls n) dx (SlX.putS i v vs)) P σ (env.set j (.cell l (.ob n (putO i d fs)))) := by
                  intro P σ env h
                  induction h with
                  | nil => intro j hj; simp at hj
                  | cons q t ih =>
                    intro j hp hσ mv
                    cases j with
                    | zero =>
                      simp at hp hσ
                      subst hp hσ
                      refine .cons (.cell ca') (t.move (Same.refl _) fun b hb o ho => ?_)
                      obtain ⟨pj, hm, hb⟩ := List.mem_flatten.mp hb
                      obtain ⟨u, hu, eu⟩ := List.mem_iff_getElem.mp hm
                      rw [nn b (mv (u + 1) pj (by omega) (by rw [List.getElem?_cons_succ, List.getElem?_eq_getElem hu, eu]) b hb)]
                      exact ho
                    | succ j =>
                      refine .cons (q.move (Same.refl _) fun b hb o ho => by rw [nn b (mv 0 _ (by omega) rfl b hb)]; exact ho) (ih j (by simpa using hp) (by simpa using hσ) fun t pt ht hpt => mv (t + 1) pt (by omega) (by simpa using hpt))
                exact gen R1.all j e1 e2 fun t pt ht hpt b hb hb2 => ht (nd_at R1.nd hpt e1 hb hb2)
              refine PostS.here R2 (h1.chain (Ext.refl _ _) ⟨by simp, fun t z ht => ⟨rfl, ?_⟩⟩)
              by_cases hj : j = t
              · subst hj
                rw [e] at ht
                cases ht
                exact ⟨_, by rw [List.getElem?_set_self (by have := List.getElem?_eq_some_iff.mp e; exact this.1)]⟩
              · rw [List.getElem?_set_ne hj]; exact ⟨z, ht⟩
        · exact h1.elim
end
end L2.DL
set_option Elab.async false
set_option linter.all false
set_option maxRecDepth 100000
set_option maxHeartbeats 4000000
namespace L2.DL
open PySem PySem.Spec PyProof.Rows
/-! ### while -/
def whileN : Nat → M Bool → MS → MS
  | 0, _, _ => fun _ => .bad
  | n + 1, t, b => fun e => match t e with
    | .ok true e1 => match b e1 with
      | .ok .next e2 => whileN n t b e2
      | .ok .cont e2 => whileN n t b e2
      | .ok .brk e2 => .ok .next e2
      | .ok (.ret d) e2 => .ok (.ret d) e2
      | .ok (.retO d) e2 => .ok (.retO d) e2
      | .exc x e2 => .exc x e2
      | .bad => .bad
    | .ok false e1 => .ok .next e1
    | .exc x e1 => .exc x e1
    | .bad => .bad
/-- 2^40 turns at most -/
def mWhile (t : M Bool) (b : MS) : MS := whileN 1099511627776 t b
section
variable {X : Cx} {c : Cl} {W : WX} {pos : Pos}
theorem ds_while {t : Expr} {body : List Stmt} {mt : M Bool} {mb : MS} (hp : PassesOwn (model X.prog X.w) X.A X.env X.xe) (ht : PT X t (tT X.K c W mt)) (hb : PSs X body (tS X.K c W mb)) : PS X (.While t body [] pos) (tS X.K c W (mWhile mt mb)) := by
  refine PS.weak (ps_while hp ht hb) fun D σ H h => ?_
  refine ⟨fun n σ H => ∃ F G P env, Rel X.K c F G H P σ env ∧ PostS X.K c W F G P env (whileN n mt mb env) D, ⟨_, h⟩, ?_⟩
  rintro n σ H ⟨F, G, P, env, R, h⟩
  cases n with
  | zero => exact h.elim
  | succ n =>
    refine ⟨F, G, P, env, R, ?_⟩
    unfold whileN at h
    cases q : mt env with
    | bad => rw [q] at h; exact h
    | exc x e1 => rw [q] at h; exact fun G' H' P' cv dd x1 k1 R1 => h G' H' P' σ cv dd x1 k1 R1
    | ok k e1 =>
      rw [q] at h
      intro G1 H1 P1 x1 k1 R1
      cases k with
      | false => exact PostS.here R1 (h.chain x1 k1)
      | true =>
        rw [if_pos rfl]
        refine ⟨fun σ' H' => ∃ F G P env, Rel X.K c F G H' P σ' env ∧ PostS X.K c W F G P env (whileN n mt mb env) D, fun σ' H' w => ⟨n, Nat.lt_succ_self _, w⟩, F, G1, P1, e1, R1, ?_⟩
        have h := PostS.chain h x1 k1
        dsimp only at h
        cases q2 : mb e1 with
        | bad => rw [q2] at h; exact h
        | exc x e2 => rw [q2] at h; exact h
        | ok f e2 =>
          rw [q2] at h
          cases f with
          | next => exact fun G' H' P' σ' x2 k2 R2 => ⟨F, G', P', e2, R2, h.chain x2 k2⟩
          | cont => exact fun G' H' P' σ' x2 k2 R2 => ⟨F, G', P', e2, R2, h.chain x2 k2⟩
          | brk => exact fun G' H' P' σ' x2 k2 R2 => h G' H' P' σ' x2 k2 R2
          | ret d => exact fun G' H' P' σ' x2 k2 R2 => h G' H' P' σ' x2 k2 R2
          | retO d => exact fun G' H' P' σ' x2 k2 R2 => h G' H' P' σ' x2 k2 R2
end
/-! ### targets -/
/-- data goes into a target -/
def PostU (K : PySem.W.Frag) (c : Cl) (ts : List Nat) (σ : St) (F G : Hp) (P : List (List Addr)) (env : Ev) (r : Option Ev) (Q : St → Hp → Prop) : Prop :=
  match r with
  | some env' => ∀ G' H' P' σ', Ext F G G' → Keep P P' env env' → Rel K c F G' H' P' σ' env' → (∀ j, j ∉ ts → σ'[j]? = σ[j]?) → Q σ' H'
  | none => False
/-- a target's mirror -/
abbrev TgM := D → Ev → Option Ev
abbrev TgMs := List D → Ev → Option Ev
def tG (K : PySem.W.Frag) (c : Cl) (ts : List Nat) (m : TgM) : TG := fun v σ H Q => ∃ F G P env d, Rel K c F G H P σ env ∧ Rep K c G v d ∧ PostU K c ts σ F G P env (m d env) Q
def tGs (K : PySem.W.Frag) (c : Cl) (ts : List Nat) (m : TgMs) : TGs := fun vs σ H Q => ∃ F G P env ds, Rel K c F G H P σ env ∧ Reps K c G vs ds ∧ PostU K c ts σ F G P env (m ds env) Q
def gSet (i : Nat) : TgM := fun d => setSl i (.val d)
def gsNil : TgMs
  | [], e => some e
  | _, _ => none
def gsCons (t : TgM) (u : TgMs) : TgMs
  | d :: ds, e => match t d e with
    | some e' => u ds e'
    | none => none
  | _, _ => none
/-- (a, b, ..): a tuple is taken apart -/
def gTupD (n : Nat) (u : TgMs) : TgM
  | .tup ds, e => if ds.length = n then u ds e else none
  | _, _ => none
section
variable {X : Cx} {c : Cl} {W : WX} {pos : Pos}
theorem PG.weak {e : Expr} {t t' : TG} (h : PG X e t) (w : ∀ v σ H Q, t' v σ H Q → t v σ H Q) : PG X e t' := ⟨fun pins s σ H v u Q I r q => h.run pins s σ H v u Q I r (w v σ H Q q)⟩
theorem PGs.weak {e : List Expr} {t t' : TGs} (h : PGs X e t) (w : ∀ v σ H Q, t' v σ H Q → t v σ H Q) : PGs X e t' := ⟨fun pins s σ H v u Q I r q => h.run pins s σ H v u Q I r (w v σ H Q q)⟩
theorem PostU.chain {K : PySem.W.Frag} {F G G1 : Hp} {P P1 : List (List Addr)} {env env1 : Ev} {r : Option Ev} {Q : St → Hp → Prop} {ts ts' : List Nat} {σ σ1 : St} (h : PostU K c ts σ F G P env r Q) (e : Ext F G G1) (q : Keep P P1 env env1)
    (hs : ∀ j, j ∉ ts → σ1[j]? = σ[j]?) (ht : ∀ j, j ∈ ts' → j ∈ ts) : PostU K c ts' σ1 F G1 P1 env1 r Q := by
  cases r with
  | some env' => exact fun G' H' P' σ' e1 q1 r a => h G' H' P' σ' (e.trans e1) (q.trans q1) r fun j hj => (a j fun z => hj (ht j z)).trans (hs j hj)
  | none => exact h.elim
theorem dg_name {i : Nat} {x : Str} (hN : X.N.Nodup) (hi : X.N[i]? = some x := by rfl) (hx : Loc X.env.scope x := by first | exact .inl rfl | exact .inr rfl) (hf : X.fn x = true ∨ X.env.scope.names.lookup x = some .local := by first | exact .inl rfl | exact .inr rfl) : PG X (.Name x pos) (tG X.K c [i] (gSet i)) := by
  refine PG.weak (pg_name hN hi hx hf) fun v σ H Q h => ?_
  obtain ⟨F, G, P, env, d, R, r, h⟩ := h
  unfold gSet at h
  cases q : setSl i (.val d) env with
  | none => rw [q] at h; exact h.elim
  | some e1 =>
    rw [q] at h
    obtain ⟨_, k, R2⟩ := R.setV r q
    exact h G H _ _ (Ext.refl _ _) k R2 fun j hj => List.getElem?_set_ne fun z => hj (by simp [z])
theorem dgs_nil : PGs X [] (tGs X.K c [] gsNil) := by
  refine PGs.weak pgs_nil fun vs σ H Q h => ?_
  obtain ⟨F, G, P, env, ds, R, r, h⟩ := h
  cases r with
  | nil => exact ⟨rfl, h G H P σ (Ext.refl _ _) (Keep.refl _ _) R fun _ _ => rfl⟩
  | cons _ _ => exact h.elim
theorem dgs_cons {e : Expr} {es : List Expr} {mt : TgM} {mu : TgMs} {ts us : List Nat} (h1 : PG X e (tG X.K c ts mt)) (h2 : PGs X es (tGs X.K c us mu)) (hs : (assignEach (e :: es) X.env).map (·.2) = assign e X.env :: (assignEach es X.env).map (·.2) := by rfl) : PGs X (e :: es) (tGs X.K c (ts ++ us) (gsCons mt mu)) := by
  refine PGs.weak (pgs_cons h1 h2 hs) fun vs σ H Q h => ?_
  obtain ⟨F, G, P, env, ds, R, r, h⟩ := h
  cases r with
  | nil => exact h.elim
  | cons q t =>
    rename_i v d vs ds
    refine ⟨v, vs, rfl, F, G, P, env, d, R, q, ?_⟩
    unfold gsCons at h
    cases e1 : mt d env with
    | none => simp only [e1] at h; exact h.elim
    | some env1 =>
      simp only [e1] at h
      exact fun G' H' P' σ' x k R' a => ⟨F, G', P', env1, ds, R', t.mono x.same, h.chain x k (fun j hj => a j fun z => hj (List.mem_append_left _ z)) fun j hj => List.mem_append_right _ hj⟩
theorem dg_tup {es : List Expr} {kk n : Nat} {mu : TgMs} {ts : List Nat} (h : PGs X es (tGs X.K c ts mu)) (hc : X.calm = true := by rfl) (hn : (assignEach es X.env).length = n := by rfl) (hst : (assignEach es X.env).findIdx? (·.1) = none := by rfl) : PG X (.Tuple es kk pos) (tG X.K c ts (gTupD n mu)) := by
  refine PG.weak (pg_tup hc h hn hst) fun v σ H Q h => ?_
  obtain ⟨F, G, P, env, d, R, r, h⟩ := h
  cases r with
  | tup hq rs =>
    rename_i a vs ds
    have h : PostU X.K c ts σ F G P env (if ds.length = n then mu ds env else none) Q := h
    split at h
    · rename_i hl
      exact ⟨a, vs, rfl, Same.seqT R.gs hq, by rw [rs.length, hl], F, G, P, env, ds, R, rs, h⟩
    · exact h.elim
  | _ => exact h.elim
/-- target = e -/
def mAsg (m : M D) (g : TgM) : MS := M.bind m fun d => M.upd (g d)
theorem ds_asg {tg e : Expr} {m : M D} {g : TgM} {ts : List Nat} (he : PE X e (tE X.K c W m)) (hg : PG X tg (tG X.K c ts g)) (hs : swapsWithSole [tg] e pos.line X.env = pure false := by rfl) (hw : swappedStores [tg] e X.env = pure none := by rfl)
    (h1 : (assignEach [tg] X.env).map (·.2) = [assign tg X.env] := by rfl) : PS X (.Assign [tg] e pos) (tS X.K c W (mAsg m g)) := by
  refine PS.weak (ps_asg he hg hs hw h1) fun D σ H h => ?_
  obtain ⟨F, G, P, env, R, h⟩ := h
  refine ⟨F, G, P, env, R, (Post.bindS h).imp fun d G1 H1 P1 _ ⟨env1, R1, h1⟩ v r => ⟨F, G1, P1, env1, d, R1, r, ?_⟩⟩
  unfold M.upd at h1
  cases q : g d env1 with
  | none => rw [q] at h1; exact h1.elim
  | some e1 =>
    rw [q] at h1
    exact fun G' H' P' σ' x k R' _ => PostS.here R' (h1.chain x k)
end
/-! ### what is walked -/
section
variable {X : Cx} {tg : Expr}
def iAny (K : PySem.W.Frag) (tl : TE) : TI := fun σ H R => tl σ H fun x H1 => (∃ a xs, x = .ref a ∧ SqL K H1 a xs ∧ R (Itl K a) H1) ∨ (∃ a xs, x = .ref a ∧ SqT K H1 a xs ∧ R (Itt K a) H1) ∨ ∃ z, x = .str z ∧ R (Its z) H1
theorem pi_any {l : Expr} {tl : TE} (hl : PE X l tl) : PI X tg l (iAny X.K tl) := by
  refine ⟨fun pins s σ H R I h => ?_⟩
  refine thn (hl.run pins s σ H _ I h) fun v s1 ⟨x, H1, I1, r1, q1⟩ => ?_
  rcases q1 with ⟨a, xs, e, hq, q⟩ | ⟨a, xs, e, hq, q⟩ | ⟨z, e, q⟩
  · subst e
    cases r1
    obtain ⟨its, rv, p, hz⟩ := I1.list hq
    refine wpAny_pyIter_list p.isList ?_
    refine ⟨s1.heap.objs.size, [s1.heap.objs.size], _, _, H1, rfl, I1.kept (t' := s1.toks) fun b o e => Heap.get?_push_of_some _ e, turn_list a _, ⟨_, Heap.get?_push_size _ rfl, rfl, rfl⟩, fun b hb => ?_, q⟩
    have e : b = s1.heap.objs.size := by simpa using hb
    subst e
    exact I1.fpOk (Nat.le_refl _) (I1.hok.fresh (Nat.le_refl _))
  · subst e
    cases r1
    obtain ⟨its, rv, p, hz⟩ := I1.tuple hq
    refine wpAny_pyIter_tuple (show s1.heap.IsTuple a its.toArray from p) ?_
    refine ⟨s1.heap.objs.size, [s1.heap.objs.size], _, _, H1, rfl, I1.kept (t' := s1.toks) fun b o e => Heap.get?_push_of_some _ e, turn_tuple a _, ⟨_, Heap.get?_push_size _ rfl, rfl, rfl⟩, fun b hb => ?_, q⟩
    have e : b = s1.heap.objs.size := by simpa using hb
    subst e
    exact I1.fpOk (Nat.le_refl _) (I1.hok.fresh (Nat.le_refl _))
  · subst e
    obtain ⟨t, rfl⟩ := r1
    cases ha : z.cps.all (· < 128)
    · exact wpAny_pyIter_wide ha (pi_one (tk := s1.toks) I1 _ (turn_str _ z t "str_iterator" (.inr rfl)) ⟨_, Heap.get?_push_size _ rfl, rfl, rfl⟩ q)
    · exact wpAny_pyIter_ascii ha (pi_one (tk := s1.toks) I1 _ (turn_str _ z t "str_ascii_iterator" (.inl rfl)) ⟨_, Heap.get?_push_size _ rfl, rfl, rfl⟩ q)
end
/-- the items come one by one, while G0 stands -/
structure Gives (K : PySem.W.Frag) (c : Cl) (G0 : Hp) (J : It) (ds : List D) : Prop where
  ex : ∃ (Gp : Hp → Prop) (Y : Nat → Hp → V → Hp → Prop), Walk J ds.length Gp Y ∧ (∀ H, Same G0 H → Gp H) ∧
    ∀ i H x H' G, i < ds.length → Same G0 G → Same G H → Y i H x H' → ∃ G' d, ds[i]? = some d ∧ Pure c H G H' G' ∧ Rep K c G' x d
def tI (K : PySem.W.Frag) (c : Cl) (W : WX) (m : M (List D)) : TI := fun σ H R => ∃ F G P env, Rel K c F G H P σ env ∧ Post K c W F G P σ env (m env) fun ds G' H' _ => ∀ J, Gives K c G' J ds → R J H'
def strItems (z : Str) : List D := z.cps.toList.map fun k => .str ⟨#[k]⟩
/-- the items of a list, a tuple, a text -/
def D.its : D → Option (List D)
  | .lst xs => some xs
  | .ro xs => some xs
  | .tup xs => some xs
  | .str z => some (strItems z)
  | _ => none
def mIter (m : M D) : M (List D) := M.bind m fun d => M.opt d.its
section
variable {X : Cx} {c : Cl} {W : WX} {pos : Pos} {tg : Expr}
theorem PI.weak {e : Expr} {t t' : TI} (h : PI X tg e t) (w : ∀ σ H Q, t' σ H Q → t σ H Q) : PI X tg e t' := ⟨fun pins s σ H Q I q => h.run pins s σ H Q I (w σ H Q q)⟩
theorem gives_list {K : PySem.W.Frag} {G0 : Hp} {a : Addr} {vs : List V} {ds : List D} (h : SqL K G0 a vs) (r : Reps K c G0 vs ds) : Gives K c G0 (Itl K a) ds := by
  rw [show ds = ds from rfl]
  refine ⟨⟨fun H => SqL K H a vs, YAt vs, by rw [← r.length]; exact walk_list, fun H hs => hs.seq h, fun i H x H' G _ g1 g2 y => ?_⟩⟩
  obtain ⟨e, y⟩ := y
  subst e
  obtain ⟨d, e1, rd⟩ := r.get' y
  exact ⟨G, d, e1, Pure.refl g2, rd.mono g1⟩
theorem gives_tup {K : PySem.W.Frag} {G0 : Hp} {a : Addr} {vs : List V} {ds : List D} (h : SqT K G0 a vs) (r : Reps K c G0 vs ds) : Gives K c G0 (Itt K a) ds := by
  refine ⟨⟨fun H => SqT K H a vs, YAt vs, by rw [← r.length]; exact walk_tup, fun H hs => Same.seqT hs h, fun i H x H' G _ g1 g2 y => ?_⟩⟩
  obtain ⟨e, y⟩ := y
  subst e
  obtain ⟨d, e1, rd⟩ := r.get' y
  exact ⟨G, d, e1, Pure.refl g2, rd.mono g1⟩
theorem gives_str {K : PySem.W.Frag} {G0 : Hp} {z : Str} : Gives K c G0 (Its z) (strItems z) := by
  refine ⟨⟨fun _ => True, fun i H v H' => H' = H ∧ ∃ k, z.cps[i]? = some k ∧ v = .str ⟨#[k]⟩, ?_, fun _ _ => trivial, ?_⟩⟩
  · have : (strItems z).length = z.cps.size := by simp [strItems]
    rw [this]
    exact walk_str
  · intro i H x H' G _ g1 g2 y
    obtain ⟨e, k, e1, e2⟩ := y
    subst e e2
    refine ⟨G, .str ⟨#[k]⟩, ?_, Pure.refl g2, .str _⟩
    unfold strItems
    rw [List.getElem?_map, Array.getElem?_toList, e1]
    rfl
theorem di_any {e : Expr} {m : M D} (he : PE X e (tE X.K c W m)) : PI X tg e (tI X.K c W (mIter m)) := by
  refine PI.weak (pi_any he) fun σ H R h => ?_
  obtain ⟨F, G, P, env, Rl, h⟩ := h
  refine ⟨F, G, P, env, Rl, (Post.bind h).imp fun d G1 H1 P1 _ ⟨env1, R1, h1⟩ v r => ?_⟩
  obtain ⟨ds, e, h1⟩ := Post.opt h1
  have h2 := Post.here R1 h1
  cases r with
  | lst hq rs => cases e; exact .inl ⟨_, _, rfl, SqL.of (R1.gs _ _ hq), h2 _ (gives_list (SqL.of hq) rs)⟩
  | ro hq rs => cases e; exact .inl ⟨_, _, rfl, R1.gs.seq hq, h2 _ (gives_list hq rs)⟩
  | tup hq rs => cases e; exact .inr (.inl ⟨_, _, rfl, Same.seqT R1.gs hq, h2 _ (gives_tup hq rs)⟩)
  | str z => cases e; exact .inr (.inr ⟨_, rfl, h2 _ gives_str⟩)
  | _ => cases e
/-- range(n), range(a, b) -/
def rangeD (a b : Int) : List D := (List.range (b - a).toNat).map fun i => .int (a + (i : Nat))
def fRange : List D → Option (List D)
  | [.int n] => if -4611686018427387904 ≤ n ∧ n < 4611686018427387904 then some (rangeD 0 n) else none
  | [.int a, .int b] => if -4611686018427387904 ≤ a ∧ a < 4611686018427387904 ∧ -4611686018427387904 ≤ b ∧ b < 4611686018427387904 then some (rangeD a b) else none
  | _ => none
def mRange (ms : M (List D)) : M (List D) := M.bind ms fun ds => M.opt (fRange ds)
theorem gives_range {K : PySem.W.Frag} {G0 : Hp} {a b : Int} : Gives K c G0 (Itr a (b - a).toNat) (rangeD a b) := by
  refine ⟨⟨fun _ => True, YFn fun i => .int (a + i), ?_, fun _ _ => trivial, ?_⟩⟩
  · have : (rangeD a b).length = (b - a).toNat := by simp [rangeD]
    rw [this]
    exact walk_range
  · intro i H x H' G hi g1 g2 y
    obtain ⟨e1, e2⟩ := y
    subst e1 e2
    refine ⟨G, .int (a + (i : Nat)), ?_, Pure.refl g2, .int _⟩
    unfold rangeD at hi ⊢
    rw [List.length_map, List.length_range] at hi
    rw [List.getElem?_map, List.getElem?_range hi]
    rfl
theorem di_range1 {a : Expr} {p : Pos} {ms : M (List D)} (hm : X.mg "range" = none) (ha : PA X [a] (tA X.K c W ms)) (hl : ML 1 ms) (hg : Gl X "range" := by rfl) (hs : starEach [a] X.env = [(false, eval a X.env)] := by rfl) : PI X tg (.Call (.Name "range" p) [a] [] pos) (tI X.K c W (mRange ms)) := by
  refine PI.weak (pi_range1 hg hm ha hs) fun σ H R h => ?_
  obtain ⟨F, G, P, env, Rl, h⟩ := h
  refine ⟨F, G, P, env, Rl, ?_⟩
  have hl := hl env
  unfold mRange at h
  have h := Post.bind h
  cases q : ms env with
  | bad => rw [q] at h; exact h
  | exc x e => rw [q] at h; exact h
  | ok ds e1 =>
    have hl := hl ds e1 q
    rw [q] at h
    intro G1 H1 P1 x1 k1 R1 vs rs
    obtain ⟨env1, R1', h1⟩ := h G1 H1 P1 x1 k1 R1
    obtain ⟨is, e, h1⟩ := Post.opt h1
    match ds, rs, hl, e with
    | [d], rs, _, e =>
      obtain ⟨v, rfl, r⟩ := rs.one
      cases r with
      | int n =>
        simp only [fRange] at e
        split at e
        · rename_i hb
          cases e
          refine ⟨n, rfl, by omega, by omega, ?_⟩
          have g := gives_range (c := c) (K := X.K) (G0 := G1) (a := 0) (b := n)
          rw [show (n - 0).toNat = n.toNat by rw [Int.sub_zero]] at g
          exact Post.here R1' h1 _ g
        · cases e
      | _ => cases e
theorem di_range2 {a b : Expr} {p : Pos} {ms : M (List D)} (hm : X.mg "range" = none) (ha : PA X [a, b] (tA X.K c W ms)) (hl : ML 2 ms) (hg : Gl X "range" := by rfl) (hs : starEach [a, b] X.env = [(false, eval a X.env), (false, eval b X.env)] := by rfl) (hs2 : starEach [b] X.env = [(false, eval b X.env)] := by rfl) :
    PI X tg (.Call (.Name "range" p) [a, b] [] pos) (tI X.K c W (mRange ms)) := by
  refine PI.weak (pi_range2 hg hm ha hs hs2) fun σ H R h => ?_
  obtain ⟨F, G, P, env, Rl, h⟩ := h
  refine ⟨F, G, P, env, Rl, ?_⟩
  have hl := hl env
  unfold mRange at h
  have h := Post.bind h
  cases q : ms env with
  | bad => rw [q] at h; exact h
  | exc x e => rw [q] at h; exact h
  | ok ds e1 =>
    have hl := hl ds e1 q
    rw [q] at h
    intro G1 H1 P1 x1 k1 R1 vs rs
    obtain ⟨env1, R1', h1⟩ := h G1 H1 P1 x1 k1 R1
    obtain ⟨is, e, h1⟩ := Post.opt h1
    match ds, rs, hl, e with
    | [d, d'], rs, _, e =>
      obtain ⟨v, v', rfl, r, r'⟩ := rs.two
      cases r with
      | int n =>
        cases r' with
        | int m =>
          simp only [fRange] at e
          split at e
          · rename_i hb
            cases e
            exact ⟨n, m, rfl, ⟨by omega, by omega, by omega, by omega⟩, Post.here R1' h1 _ gives_range⟩
          · cases e
        | _ => cases e
      | _ => cases e
end
/-! ### for -/
def forL (tg : TgM) (b : MS) : List D → MS
  | [] => M.next
  | d :: ds => fun e => match tg d e with
    | some e1 => match b e1 with
      | .ok .next e2 => forL tg b ds e2
      | .ok .cont e2 => forL tg b ds e2
      | .ok .brk e2 => .ok .next e2
      | .ok (.ret d) e2 => .ok (.ret d) e2
      | .ok (.retO d) e2 => .ok (.retO d) e2
      | .exc x e2 => .exc x e2
      | .bad => .bad
    | none => .bad
def mFor (mi : M (List D)) (tg : TgM) (b : MS) : MS := M.bind mi fun ds => forL tg b ds
section
variable {X : Cx} {c : Cl} {W : WX} {pos : Pos} {tg iter : Expr} {body : List Stmt} {mi : M (List D)} {mt : TgM} {mb : MS} {ts : List Nat}
theorem ds_for (hp : PassesOwn (model X.prog X.w) X.A X.env X.xe) (hi : PI X tg iter (tI X.K c W mi)) (hg : PG X tg (tG X.K c ts mt)) (hb : PSs X body (tS X.K c W mb)) (hc : X.calm = true := by rfl)
    (hs : ∀ x, foldedSetIterable iter X.env x = pure x := by intro _; rfl) : PS X (.For tg iter body [] pos) (tS X.K c W (mFor mi mt mb)) := by
  refine PS.weak (ps_for hp hc hi hg hb hs) fun D σ H h => ?_
  obtain ⟨F, G, P, env, R, h⟩ := h
  refine ⟨F, G, P, env, R, (Post.bindS h).imp fun ds G1 H1 P1 _ ⟨env1, R1, h1⟩ J gv => ?_⟩
  obtain ⟨Gp, Y, wk, hG, hY⟩ := gv.ex
  refine for_it wk (fun i σ H => ∃ G P env, Rel X.K c F G H P σ env ∧ Same G1 G ∧ PostS X.K c W F G P env (forL mt mb (ds.drop i) env) D) ⟨G1, P1, env1, R1, Same.refl _, h1⟩ ?_ ?_ ?_
  · rintro i σ H _ ⟨G, P, env, R, hs, _⟩
    exact hG H (hs.trans R.gs)
  · rintro i x σ H H' hi ⟨G, P, env, R, hs, h⟩ y
    obtain ⟨G', d, e1, pu, rd⟩ := hY i H x H' G hi hs R.gs y
    have ed : ds.drop i = d :: ds.drop (i + 1) := by
      have : ds[i]'hi = d := by
        rw [List.getElem?_eq_getElem hi] at e1
        exact Option.some.inj e1
      rw [List.drop_eq_getElem_cons hi, this]
    rw [ed] at h
    obtain ⟨x1, R'⟩ := R.pure pu
    refine ⟨F, G', P, env, d, R', rd, ?_⟩
    have h := h.chain x1 (Keep.refl _ _)
    unfold forL at h
    cases q : mt d env with
    | none => rw [q] at h; exact h.elim
    | some e1 =>
      rw [q] at h
      intro G2 H2 P2 σ2 x2 k2 R2 _
      refine ⟨F, G2, P2, e1, R2, ?_⟩
      have h := PostS.chain h x2 k2
      dsimp only at h
      cases q2 : mb e1 with
      | bad => rw [q2] at h; exact h
      | exc x e2 => rw [q2] at h; exact h
      | ok f e2 =>
        rw [q2] at h
        cases f with
        | next => exact fun G3 H3 P3 σ3 x3 k3 R3 => ⟨G3, P3, e2, R3, hs.trans (x1.same.trans (x2.same.trans x3.same)), h.chain x3 k3⟩
        | cont => exact fun G3 H3 P3 σ3 x3 k3 R3 => ⟨G3, P3, e2, R3, hs.trans (x1.same.trans (x2.same.trans x3.same)), h.chain x3 k3⟩
        | brk => exact fun G3 H3 P3 σ3 x3 k3 R3 => h G3 H3 P3 σ3 x3 k3 R3
        | ret d => exact fun G3 H3 P3 σ3 x3 k3 R3 => h G3 H3 P3 σ3 x3 k3 R3
        | retO d => exact fun G3 H3 P3 σ3 x3 k3 R3 => h G3 H3 P3 σ3 x3 k3 R3
  · rintro σ H ⟨G, P, env, R, hs, h⟩
    rw [List.drop_length] at h
    exact PostS.here R h
end
/-! ### list comprehensions -/
/-- the block's own names forgotten -/
def wipeE : List Nat → Ev → Ev
  | [], e => e
  | v :: vs, e => (wipeE vs e).set v .no
def noCells (vs : List Nat) (e : Ev) : Bool := vs.all fun v => match e[v]? with
  | some (.cell _ _) => false
  | _ => true
/-- for each item: the target, the test, the element -/
def lcL (vs : List Nat) (tg : TgM) (t : M Bool) (el : M D) : List D → List D → M Cell
  | [], acc => fun e => .ok (.lst acc) e
  | d :: ds, acc => fun e => match tg d e with
    | some e1 => match t e1 with
      | .ok true e2 => match el e2 with
        | .ok y e3 => if acc.length < 16777216 ∧ noCells vs e3 = true then lcL vs tg t el ds (acc ++ [y]) (wipeE vs e3) else .bad
        | _ => .bad
      | .ok false e2 => if noCells vs e2 = true then lcL vs tg t el ds acc (wipeE vs e2) else .bad
      | _ => .bad
    | none => .bad
def mLc (mi : M (List D)) (vs : List Nat) (tg : TgM) (t : M Bool) (el : M D) : M Cell := M.bind mi fun ds e => if noCells vs e then lcL vs tg t el ds [] (wipeE vs e) else .bad
def mYes : M Bool := M.ret true
abbrev W0 : WX := fun _ _ _ _ => False
section
variable {K : PySem.W.Frag} {c : Cl} {W : WX} {F G G1 H H1 : Hp} {P P1 : List (List Addr)} {σ : St} {env env1 : Ev}
def wipeP : List Nat → List (List Addr) → List (List Addr)
  | [], e => e
  | v :: vs, e => (wipeP vs e).set v []
theorem Rels.wipe (R : Rels K c G H P σ env) : ∀ vs, Rels K c G H (wipeP vs P) (L2.wipe σ vs) (wipeE vs env)
  | [] => R
  | v :: vs => (Rels.wipe R vs).set v .no
theorem wipeP_sub : ∀ {vs : List Nat} {P : List (List Addr)} {b : Addr}, b ∈ (wipeP vs P).flatten → b ∈ P.flatten
  | [], _, _, h => h
  | v :: vs, P, b, h => by
    rcases flat_set h with h | h
    · cases h
    · exact wipeP_sub h
theorem wipeP_nd : ∀ {vs : List Nat} {P : List (List Addr)}, P.flatten.Nodup → (wipeP vs P).flatten.Nodup
  | [], _, h => h
  | v :: vs, _, h => nd_set_nil (wipeP_nd h) v
theorem Rel.wipe (R : Rel K c F G H P σ env) (vs : List Nat) : Rel K c F G H (wipeP vs P) (L2.wipe σ vs) (wipeE vs env) :=
  ⟨R.fs, R.gs, R.all.wipe vs, fun b hb => R.out b (wipeP_sub hb), wipeP_nd R.nd, R.tb⟩
theorem wipeE_len : ∀ (vs : List Nat) (e : Ev), (wipeE vs e).length = e.length
  | [], _ => rfl
  | v :: vs, e => by simp [wipeE, wipeE_len vs e]
theorem wipeE_get : ∀ {vs : List Nat} {e : Ev} {i : Nat} {s : Sl}, (wipeE vs e)[i]? = some s → s ≠ .no → e[i]? = some s ∧ i ∉ vs
  | [], e, i, s, h, _ => ⟨h, by simp⟩
  | v :: vs, e, i, s, h, hs => by
    unfold wipeE at h
    by_cases hv : v = i
    · subst hv
      by_cases hl : v < (wipeE vs e).length
      · rw [List.getElem?_set_self hl] at h
        exact absurd (Option.some.inj h).symm hs
      · rw [List.getElem?_eq_none (by simpa using hl)] at h
        cases h
    · rw [List.getElem?_set_ne hv] at h
      obtain ⟨h1, h2⟩ := wipeE_get h hs
      exact ⟨h1, by simp only [List.mem_cons, not_or]; exact ⟨fun e => hv e.symm, h2⟩⟩
theorem wipeE_of : ∀ {vs : List Nat} {e : Ev} {i : Nat} {s : Sl}, e[i]? = some s → i ∉ vs → (wipeE vs e)[i]? = some s
  | [], e, i, s, h, _ => h
  | v :: vs, e, i, s, h, hs => by
    unfold wipeE
    rw [List.getElem?_set_ne fun z => hs (by simp [z])]
    exact wipeE_of h fun z => hs (List.mem_cons_of_mem _ z)
theorem wipeP_of : ∀ {vs : List Nat} {e : List (List Addr)} {i : Nat}, i ∉ vs → (wipeP vs e)[i]? = e[i]?
  | [], e, i, _ => rfl
  | v :: vs, e, i, hs => by
    unfold wipeP
    rw [List.getElem?_set_ne fun z => hs (by simp [z])]
    exact wipeP_of fun z => hs (List.mem_cons_of_mem _ z)
theorem Keep.wipe {vs : List Nat} (h : noCells vs env = true) : Keep P (wipeP vs P) env (wipeE vs env) := ⟨wipeE_len vs env, fun i z hz => by
  have hi : i ∉ vs := fun hm => by
    have := List.all_eq_true.mp h i hm
    rw [hz] at this
    cases this
  exact ⟨wipeP_of hi, z, wipeE_of hz hi⟩⟩
/-- back from the block's slots to those around -/
theorem Rels.unwipe {σ' : St} (R : Rels K c G H P σ env) : σ'.length = σ.length → (∀ (i : Nat) (s : Sl), env[i]? = some s → s ≠ .no → σ'[i]? = σ[i]?) → Rels K c G H P σ' env := by
  induction R generalizing σ' with
  | nil => intro hl _; cases σ' with
    | nil => exact .nil
    | cons _ _ => simp at hl
  | cons r _ ih =>
    intro hl h
    cases σ' with
    | nil => simp at hl
    | cons x σ' =>
      refine .cons ?_ (ih (by simpa using hl) fun i s hi hs => by simpa using h (i + 1) s (by simpa using hi) hs)
      cases r with
      | no => exact .no
      | val r =>
        have := h 0 _ rfl (fun z => nomatch z)
        simp at this
        subst this
        exact .val r
      | cell r =>
        have := h 0 _ rfl (fun z => nomatch z)
        simp at this
        subst this
        exact .cell r
theorem wipe_at : ∀ {vs : List Nat} {σ : St} {i : Nat}, i ∉ vs → (L2.wipe σ vs)[i]? = σ[i]?
  | [], _, _, _ => rfl
  | v :: vs, σ, i, h => by
    unfold L2.wipe
    rw [List.getElem?_set_ne fun z => h (by simp [z])]
    exact wipe_at fun z => h (List.mem_cons_of_mem _ z)
theorem wipe_in : ∀ {vs : List Nat} {σ : St} {i : Nat}, i ∈ vs → (L2.wipe σ vs)[i]? = if i < σ.length then some none else none
  | [], _, _, h => nomatch h
  | v :: vs, σ, i, h => by
    unfold L2.wipe
    by_cases hv : v = i
    · subst hv
      by_cases hl : v < σ.length
      · rw [List.getElem?_set_self (by rw [wipe_length]; exact hl), if_pos hl]
      · rw [List.getElem?_eq_none (by simp [wipe_length]; omega), if_neg hl]
    · rw [List.getElem?_set_ne hv]
      rcases List.mem_cons.mp h with z | z
      · exact absurd z.symm hv
      · exact wipe_in z
theorem wipe_eq {vs : List Nat} {σ σ' : St} (hl : σ'.length = σ.length) (h : ∀ j, j ∉ vs → σ'[j]? = (L2.wipe σ vs)[j]?) : L2.wipe σ' vs = L2.wipe σ vs := by
  apply List.ext_getElem?
  intro i
  by_cases hi : i ∈ vs
  · rw [wipe_in hi, wipe_in hi, hl]
  · rw [wipe_at hi, h i hi]
end
section
variable {X : Cx} {c : Cl} {W : WX} {pos : Pos} {tg iter elt : Expr} {ifs : List Expr} {scope : Scope} {own : List (Str × Nat)} {mi : M (List D)} {mt : TgM} {mtt : M Bool} {me : M D} {ts : List Nat}
def tTs (K : PySem.W.Frag) (c : Cl) (W : WX) (m : M Bool) : TT := tT K c W m
theorem dts_nil : PTs X [] (tT X.K c W mYes) := by
  refine ⟨fun pins s σ H Q I h => pts_nil.run pins s σ H Q I ?_⟩
  obtain ⟨F, G, P, env, R, h⟩ := h
  exact Post.here R h
theorem dts_one {t : Expr} {m : M Bool} (h : PT X t (tT X.K c W m)) : PTs X [t] (tT X.K c W m) := pts_one h
theorem lc_read {K : PySem.W.Frag} {wi : TI} {vs : List Nat} {σ : St} {H : Hp} {Q : VK} (hsub : ∀ t, t ∈ ts → t ∈ vs)
    (h : tO K c W (mLc mi vs mt mtt me) σ H Q) : tLc (tI K c W mi) (tG K c ts mt) (tT K c W0 mtt) (tE K c W0 me) vs σ H Q := by
  obtain ⟨F, G, P, env, R, h⟩ := h
  refine ⟨F, G, P, env, R, (Post.bind h).imp fun ds G1 H1 P1 _ ⟨env1, R1, h1⟩ J gv La nD => ?_⟩
  obtain ⟨Gp, Y, wk, hG, hY⟩ := gv.ex
  have h1 : Post K c W F G1 P1 σ env1 (if noCells vs env1 = true then lcL vs mt mtt me ds [] (wipeE vs env1) else .bad) _ := h1
  split at h1
  rotate_left
  · exact h1.elim
  rename_i hno
  have hσ : ∀ j, j ∉ vs → (L2.wipe σ vs)[j]? = σ[j]? := fun j hj => wipe_at hj
  have nF := none_of R1.fs nD
  have nG := none_of R1.gs nD
  have nP : La ∉ P1.flatten := fun hb => by
    obtain ⟨q, hq, hb⟩ := List.mem_flatten.mp hb
    obtain ⟨i, hi, e⟩ := List.mem_iff_getElem.mp hq
    have hl := R1.all.len
    have e1 : P1[i]? = some q := by rw [List.getElem?_eq_getElem hi, e]
    obtain ⟨s, hs⟩ : ∃ s, env1[i]? = some s := ⟨env1[i]'(by omega), by simp [show i < env1.length by omega]⟩
    obtain ⟨p', x, e2, _, r⟩ := R1.all.get hs
    rw [e1] at e2; cases e2
    cases r with
    | no => cases hb
    | val _ => cases hb
    | cell z => exact cell_there z La hb nD
  have wE : ∀ (e : Ev) (j : Nat), j ∈ vs → ∀ s : Sl, (wipeE vs e)[j]? = some s → s = .no := fun e j hj s hs => by
    cases s with
    | no => rfl
    | val _ => exact absurd hj (wipeE_get hs (fun z => nomatch z)).2
    | cell _ _ => exact absurd hj (wipeE_get hs (fun z => nomatch z)).2
  have xF : ∀ {va : List V} {G G' : Hp}, Ext (upd F La (.lst va)) G G' → Ext F G G' := fun {va G G'} x => ⟨x.same, fun b h1 h2 => x.fresh b h1 (by
    by_cases hb : b = La
    · subst hb; rw [upd_same]; exact fun z => nomatch z
    · rw [upd_ne hb]; exact h2)⟩
  -- what holds between two turns
  refine lc_it wk (fun i H => ∃ (G : Hp) (P : List (List Addr)) (env : Ev) (acc : List D) (va : List V), Rel K c (upd F La (.lst va)) G H P (L2.wipe σ vs) env ∧ Same G1 G ∧ G La = none ∧ Reps K c G va acc ∧ (∀ (j : Nat), j ∈ vs → ∀ s : Sl, env[j]? = some s → s = .no) ∧
    Post K c W F G P σ env (lcL vs mt mtt me (ds.drop i) acc env) (fun z G' H' P' => ∀ v p, CellAt K c G' H' p v z → p.Nodup → (∀ b, b ∈ p → F b = none ∧ G' b = none ∧ b ∉ P'.flatten) → Q v H')) ?_ ?_ ?_ ?_
  · have R2 := R1.wipe vs
    refine ⟨G1, _, _, [], [], ⟨same_upd R2.fs nF, R2.gs.trans (same_new nD), R2.all.move (Same.refl _) fun b _ o h => same_new nD b o h, fun b hb => ⟨?_, (R2.out b hb).2⟩, R2.nd, ⟨R2.tb.tabs.same (same_new nD), not_upd R2.tb.nf (fun _ z => nomatch z), R2.tb.ng⟩⟩, Same.refl _, nG, .nil, wE env1, ?_⟩
    · rw [upd_ne fun z => nP (by rw [← z]; exact wipeP_sub hb)]
      exact (R2.out b hb).1
    · exact Post.chain h1 (Ext.refl _ _) (Keep.wipe hno)
  · rintro i H _ ⟨G, P, env, acc, va, R, hs, _⟩
    exact hG H (hs.trans R.gs)
  · rintro i x H H' hi ⟨G, P, env, acc, va, R, hs, gD, ra, hn, h⟩ y
    obtain ⟨G', d, e1, pu, rd⟩ := hY i H x H' G hi hs R.gs y
    have ed : ds.drop i = d :: ds.drop (i + 1) := by
      have : ds[i]'hi = d := by
        rw [List.getElem?_eq_getElem hi] at e1
        exact Option.some.inj e1
      rw [List.drop_eq_getElem_cons hi, this]
    rw [ed] at h
    obtain ⟨x1, R'⟩ := R.pure pu
    have fD : (upd F La (.lst va)) La ≠ none := by rw [upd_same]; exact fun z => nomatch z
    refine ⟨_, G', P, env, d, R', rd, ?_⟩
    have h := h.chain (xF x1) (Keep.refl _ _)
    unfold lcL at h
    cases q : mt d env with
    | none => rw [q] at h; exact h.elim
    | some e1 =>
      rw [q] at h
      intro G2 H2 P2 σ2 x2 k2 R2 ag
      have hw : L2.wipe σ2 vs = L2.wipe σ vs := by
        refine wipe_eq ?_ fun j hj => ag j fun z => hj (hsub j z)
        have l1 := R2.all.len.1
        have l2 := R'.all.len.1
        rw [wipe_length] at l2
        rw [l1, k2.len, ← l2]
      refine ⟨hw, _, G2, P2, e1, R2, ?_⟩
      have h := Post.chain h (xF x2) k2
      dsimp only at h
      cases q2 : mtt e1 with
      | bad => rw [q2] at h; exact h.elim
      | exc xx e2 => rw [q2] at h; exact h.elim
      | ok k e2 =>
        rw [q2] at h
        intro G3 H3 P3 x3 k3 R3
        have h := Post.chain h (xF x3) k3
        cases k with
        | false =>
          refine iteF ?_
          dsimp only at h
          split at h
          rotate_left
          · exact h.elim
          rename_i hno3
          have R4 := R3.wipe vs
          rw [hw] at R4
          exact ⟨G3, _, _, acc, va, R4, hs.trans (x1.same.trans (x2.same.trans x3.same)), x3.fresh La (x2.fresh La (x1.fresh La gD fD) fD) fD, ra.mono (x1.same.trans (x2.same.trans x3.same)), wE e2, Post.chain h (Ext.refl _ _) (Keep.wipe hno3)⟩
        | true =>
          refine iteT ?_
          dsimp only at h
          refine ⟨_, G3, P3, e2, R3, ?_⟩
          cases q3 : me e2 with
          | bad => rw [q3] at h; exact h.elim
          | exc xx e2 => rw [q3] at h; exact h.elim
          | ok yd e3 =>
            rw [q3] at h
            intro G4 H4 P4 x4 k4 R4 v rv
            have h := Post.chain h (xF x4) k4
            dsimp only at h
            split at h
            rotate_left
            · exact h.elim
            rename_i hlen4
            obtain ⟨hlen, hno4⟩ := hlen4
            have R5 := R4.wipe vs
            rw [hw] at R5
            have sg := x1.same.trans (x2.same.trans (x3.same.trans x4.same))
            have gD4 := x4.fresh La (x3.fresh La (x2.fresh La (x1.fresh La gD fD) fD) fD) fD
            have nPD : ∀ b, b ∈ (wipeP vs P4).flatten → b ≠ La := fun b hb z => by
              have := (R5.out b hb).1
              rw [z] at this
              exact fD this
            refine ⟨va, R4.fs La _ upd_same, by rw [ra.length, sizeLine_eq]; exact hlen, G4, _, _, acc ++ [yd], va ++ [v], ⟨fun b o ho => ?_, fun b o ho => ?_, R5.all.move (Same.refl _) fun b hb o ho => by rw [upd_ne (nPD b hb)]; exact ho, fun b hb => ⟨?_, (R5.out b hb).2⟩, R5.nd, ⟨R5.tb.tabs.upd (fun ps z => by have := R5.fs La _ upd_same; rw [z] at this; cases this), not_upd R1.tb.nf (fun _ z => nomatch z), R5.tb.ng⟩⟩, hs.trans sg, gD4, (ra.mono sg).append (.cons rv .nil), wE e3, Post.chain h (Ext.refl _ _) (Keep.wipe hno4)⟩
            · by_cases hb : b = La
              · subst hb; rw [upd_same] at ho ⊢; exact ho
              · rw [upd_ne hb] at ho ⊢; exact R5.fs b o (by rw [upd_ne hb]; exact ho)
            · rw [upd_ne fun z => by rw [z, gD4] at ho; cases ho]
              exact R5.gs b o ho
            · rw [upd_ne (nPD b hb)]
              have := (R5.out b hb).1
              rw [upd_ne (nPD b hb)] at this
              exact this
  · rintro H ⟨G, P, env, acc, va, R, hs, gD, ra, hn, h⟩
    rw [List.drop_length] at h
    have fD : (upd F La (.lst va)) La ≠ none := by rw [upd_same]; exact fun z => nomatch z
    have nPD : ∀ b, b ∈ P.flatten → b ≠ La := fun b hb z => by
      have := (R.out b hb).1
      rw [z] at this
      exact fD this
    have lσ : σ.length = (L2.wipe σ vs).length := (wipe_length σ vs).symm
    have R' : Rel K c F G H P σ env := ⟨fun b o ho => R.fs b o (by rw [upd_ne fun z => by rw [z, nF] at ho; cases ho]; exact ho), R.gs, R.all.unwipe lσ fun i s hi hs => (wipe_at fun z => hs (hn i z s hi)).symm,
      fun b hb => ⟨by have := (R.out b hb).1; rw [upd_ne (nPD b hb)] at this; exact this, (R.out b hb).2⟩, R.nd, ⟨R.tb.tabs, R1.tb.nf, R.tb.ng⟩⟩
    refine Post.here R' h (.ref La) [La] (.lst (R.fs La _ upd_same) ra) (by simp) fun b hb => ?_
    obtain rfl : b = La := by simpa using hb
    exact ⟨nF, gD, fun z => nPD b z rfl⟩
end
end L2.DL
set_option Elab.async false
set_option linter.all false
set_option maxRecDepth 100000
set_option maxHeartbeats 4000000
namespace L2.DL
open PySem PySem.Spec PyProof.Rows
section
variable {X : Cx} {c : Cl} {W : WX} {pos : Pos} {tg iter elt : Expr} {ifs : List Expr} {scope : Scope} {own : List (Str × Nat)} {mi : M (List D)} {mt : TgM} {mtt : M Bool} {me : M D} {ts : List Nat}
theorem do_lc (hN : X.N.Nodup) (hi : PI X tg iter (tI X.K c W mi)) (ok : BlkOk X.N X.env.scope scope own)
    (hg : ∀ (s : Shared) (H : Hp) (C : Addr) (cl : List (Str × Addr)) (fp : List Addr), PG (X.blk s H scope (compEnvC scope cl C X.env) fp) tg (tG X.K c ts mt)) (ht : ∀ (s : Shared) (H : Hp) (C : Addr) (cl : List (Str × Addr)) (fp : List Addr), PTs (X.blk s H scope (compEnvC scope cl C X.env) fp) ifs (tT X.K c W0 mtt))
    (he : ∀ (s : Shared) (H : Hp) (C : Addr) (cl : List (Str × Addr)) (fp : List Addr), PE (X.blk s H scope (compEnvC scope cl C X.env) fp) elt (tE X.K c W0 me)) (hsub : ∀ t, t ∈ ts → t ∈ own.map (·.2) := by decide) (hc : X.calm = true := by rfl) (hs : ∀ x, foldedSetIterable iter X.env x = pure x := by intro _; rfl) :
    PE X (.ListComp elt [⟨tg, iter, ifs, 0⟩] scope pos) (tO X.K c W (mLc mi (own.map (·.2)) mt mtt me)) :=
  PE.weak (pe_lc hc hN hi ok hg ht he hs) fun σ H Q h => lc_read (wi := tI X.K c W mi) hsub h
/-- y = [..] -/
theorem setLc_post {i : Nat} {mz : M Cell} {D : Ends} {σ : St} {H : Hp} (h : tS X.K c W (mSetO i mz) D σ H) : tO X.K c W mz σ H fun x H1 => gName i x σ H1 D.nx := by
  obtain ⟨F, G, P, env, R, h⟩ := h
  refine ⟨F, G, P, env, R, (Post.bindS h).imp fun z G1 H1 P1 _ ⟨env1, R1, h1⟩ v p ca nd out => ?_⟩
  unfold M.upd at h1
  cases q : setSl i (.cell false z) env1 with
  | none => rw [q] at h1; exact h1.elim
  | some e1 =>
    rw [q] at h1
    obtain ⟨k, R2⟩ := R1.setC ca nd out q
    exact PostS.here R2 (h1.chain (Ext.refl _ _) k)
theorem ds_setLc {i : Nat} {y : Str} {py spos : Pos} (hN : X.N.Nodup) (hi : PI X tg iter (tI X.K c W mi)) (ok : BlkOk X.N X.env.scope scope own)
    (hg : ∀ (s : Shared) (H : Hp) (C : Addr) (cl : List (Str × Addr)) (fp : List Addr), PG (X.blk s H scope (compEnvC scope cl C X.env) fp) tg (tG X.K c ts mt)) (ht : ∀ (s : Shared) (H : Hp) (C : Addr) (cl : List (Str × Addr)) (fp : List Addr), PTs (X.blk s H scope (compEnvC scope cl C X.env) fp) ifs (tT X.K c W0 mtt))
    (he : ∀ (s : Shared) (H : Hp) (C : Addr) (cl : List (Str × Addr)) (fp : List Addr), PE (X.blk s H scope (compEnvC scope cl C X.env) fp) elt (tE X.K c W0 me))
    (hsw : swapsWith (.ListComp elt [⟨tg, iter, ifs, 0⟩] scope pos) (some (.Name y py)) spos.line X.env = pure true)
    (hsub : ∀ t, t ∈ ts → t ∈ own.map (·.2) := by decide) (hy : X.N[i]? = some y := by rfl) (hyl : X.env.scope.names.lookup y = some .local := by rfl) (hc : X.calm = true := by rfl) (hs : ∀ x, foldedSetIterable iter X.env x = pure x := by intro _; rfl) :
    PS X (.Assign [.Name y py] (.ListComp elt [⟨tg, iter, ifs, 0⟩] scope pos) spos) (tS X.K c W (mSetO i (mLc mi (own.map (·.2)) mt mtt me))) :=
  PS.weak (ps_setLc hc hN hy hyl hsw hi ok hg ht he hs) fun D σ H h => lc_read (wi := tI X.K c W mi) hsub (setLc_post h)
end
/-! ### things of one's own: append, pop, len, an item, an item stored -/
section
variable {K : PySem.W.Frag} {c : Cl} {W : WX} {F G G1 H H1 : Hp} {P P1 : List (List Addr)} {σ : St} {env env1 : Ev}
/-- the list in slot i becomes another one -/
theorem Rel.relst {i : Nat} {l : Bool} {xs ys : List D} {p : Addr} {us : List V} (R : Rel K c F G H P σ env) (e : env[i]? = some (.cell l (.lst xs))) (e1 : P[i]? = some [p]) (e2 : σ[i]? = some (some (.ref p))) (r : Reps K c G us ys) :
    Keep P P env (env.set i (.cell l (.lst ys))) ∧ Rel K c F G (upd H p (.lst us)) P σ (env.set i (.cell l (.lst ys))) := by
  have out := R.out p (mem_flat e1 (by simp))
  have nn : ∀ {A : Hp}, Same A H → A p = none → Same A (upd H p (.lst us)) := fun {A} h n b o ho => by
    rw [upd_ne fun z => by rw [z, n] at ho; cases ho]
    exact h b o ho
  refine ⟨⟨by simp, fun j z hj => ⟨rfl, ?_⟩⟩, ⟨nn R.fs out.1, nn R.gs out.2, ?_, R.out, R.nd, R.tb.upd fun ps z => by
      obtain ⟨o, o1, o2⟩ := R.all.obj p (mem_flat e1 (by simp))
      rw [z] at o1; cases o1; exact o2 ps rfl⟩⟩
  · by_cases hij : i = j
    · subst hij
      rw [e] at hj
      cases hj
      exact ⟨_, by rw [List.getElem?_set_self (by have := List.getElem?_eq_some_iff.mp e; exact this.1)]⟩
    · rw [List.getElem?_set_ne hij]; exact ⟨z, hj⟩
  · have gen : ∀ {P : List (List Addr)} {σ : St} {env : Ev}, Rels K c G H P σ env → ∀ i, P[i]? = some [p] → σ[i]? = some (some (.ref p)) → (∀ (t : Nat) (pt : List Addr), t ≠ i → P[t]? = some pt → ∀ b, b ∈ pt → b ≠ p) →
        Rels K c G (upd H p (.lst us)) P σ (env.set i (.cell l (.lst ys))) := by
      intro P σ env h
      induction h with
      | nil => intro j hj; simp at hj
      | cons q t ih =>
        intro j hp hσ mv
        cases j with
        | zero =>
          simp at hp hσ
          subst hp hσ
          refine .cons (.cell (.lst upd_same r)) (t.move (Same.refl _) fun b hb o ho => ?_)
          obtain ⟨pj, hm, hb⟩ := List.mem_flatten.mp hb
          obtain ⟨u, hu, eu⟩ := List.mem_iff_getElem.mp hm
          rw [upd_ne (mv (u + 1) pj (by omega) (by rw [List.getElem?_cons_succ, List.getElem?_eq_getElem hu, eu]) b hb)]
          exact ho
        | succ j =>
          refine .cons (q.move (Same.refl _) fun b hb o ho => by rw [upd_ne (mv 0 _ (by omega) rfl b hb)]; exact ho) (ih j (by simpa using hp) (by simpa using hσ) fun t pt ht hpt => mv (t + 1) pt (by omega) (by simpa using hpt))
    exact gen R.all i e1 e2 fun t pt ht hpt b hb hb2 => ht (nd_at R.nd hpt e1 hb (by simp [hb2]))
theorem Rel.cellL {i : Nat} {l : Bool} {xs : List D} (R : Rel K c F G H P σ env) (e : env[i]? = some (.cell l (.lst xs))) : ∃ p vs, P[i]? = some [p] ∧ σ[i]? = some (some (.ref p)) ∧ H p = some (.lst vs) ∧ Reps K c G vs xs := by
  obtain ⟨q, x, e1, e2, ca⟩ := R.all.get e
  cases ca with
  | cell ca => cases ca with
    | lst h r => exact ⟨_, _, e1, e2, h, r⟩
end
/-- x.append(e), x in slot i -/
def mAppend (i : Nat) (m : M D) : M D := fun env => match env[i]? with
  | some (.cell _ (.lst _)) => M.bind m (fun d env => match env[i]? with
    | some (.cell l (.lst xs)) => if xs.length < 16777216 then .ok .non (env.set i (.cell l (.lst (xs ++ [d])))) else .bad
    | _ => .bad) env
  | _ => .bad
/-- x.pop(), x.pop(e) -/
def mPop (i : Nat) : M D := fun env => match env[i]? with
  | some (.cell l (.lst xs)) => match xs[xs.length - 1]? with
    | some d => .ok d (env.set i (.cell l (.lst xs.dropLast)))
    | none => .bad
  | _ => .bad
def mPopAt (i : Nat) (m : M D) : M D := fun env => match env[i]? with
  | some (.cell _ (.lst _)) => M.bind m (fun d env => match d, env[i]? with
    | .int k, some (.cell l (.lst xs)) => match ixN xs.length k with
      | some j => match xs[j]? with
        | some d => if xs.length ≤ 16777216 then .ok d (env.set i (.cell l (.lst (xs.eraseIdx j)))) else .bad
        | none => .bad
      | none => .bad
    | _, _ => .bad) env
  | _ => .bad
/-- len(x), x in slot i -/
def mLenC (i : Nat) : M D := fun env => match env[i]? with
  | some (.cell _ (.lst xs)) => .ok (.int xs.length) env
  | _ => .bad
/-- x[e] -/
def mIxC (i : Nat) (m : M D) : M D := fun env => match env[i]? with
  | some (.cell _ (.lst _)) => M.bind m (fun d env => match d, env[i]? with
    | .int k, some (.cell _ (.lst xs)) => match atI xs k with
      | some d => .ok d env
      | none => .bad
    | _, _ => .bad) env
  | _ => .bad
/-- x[k] = e -/
def mSetIx (i : Nat) (mk m : M D) : MS := M.bind m fun d => fun env => match env[i]? with
  | some (.cell _ (.lst _)) => M.bind mk (fun k env => match k, env[i]? with
    | .int k, some (.cell l (.lst xs)) => match ixN xs.length k with
      | some j => .ok .next (env.set i (.cell l (.lst (xs.set j d))))
      | none => .bad
    | _, _ => .bad) env
  | _ => .bad
section
variable {X : Cx} {c : Cl} {W : WX} {pos p apos : Pos} {e : Expr} {m mk : M D} {i : Nat} {y : Str} {py : Pos}
theorem tyV_list {K : PySem.W.Frag} {H : Hp} {p : Addr} {vs : List V} (h : H p = some (.lst vs)) : tyV K "list" (.ref p) H := Or.inl ⟨rfl, _, SqL.of h⟩
theorem atI_reps {K : PySem.W.Frag} {G : Hp} {vs : List V} {ds : List D} {k : Int} {d : D} (r : Reps K c G vs ds) (e : atI ds k = some d) : ∃ v, atI vs k = some v ∧ Rep K c G v d := by
  unfold atI at e ⊢
  rw [r.length]
  obtain ⟨j, e1, e2⟩ := Option.bind_eq_some_iff.mp e
  obtain ⟨v, e3, rv⟩ := r.get e2
  exact ⟨v, by rw [e1]; exact e3, rv⟩
theorem de_append {call : Expr} (hb : PE X call (tBM X.K "list" rAppend (tVar i) (tCons (tE X.K c W m) tNil))) : PE X call (tE X.K c W (mAppend i m)) := by
  refine PE.weak hb fun σ H Q h => ?_
  obtain ⟨F, G, P, env, R, h⟩ := h
  unfold mAppend at h
  cases e0 : env[i]? with
  | none => rw [e0] at h; exact h.elim
  | some s0 =>
    rw [e0] at h
    match s0, e0, h with
    | .no, _, h => exact h.elim
    | .val _, _, h => exact h.elim
    | .cell _ (.dct _), _, h => exact h.elim
    | .cell _ (.ob _ _), _, h => exact h.elim
    | .cell l0 (.lst xs0), e0, h =>
      obtain ⟨p0, vs0, _, hσ, h0, _⟩ := R.cellL e0
      refine ⟨_, hσ, tyV_list h0, F, G, P, env, R, (Post.bind h).imp fun d G1 H1 P1 _ ⟨env1, R1, h1⟩ v r => ?_⟩
      try dsimp only at h1
      cases e2 : env1[i]? with
      | none => rw [e2] at h1; exact h1.elim
      | some s2 =>
        rw [e2] at h1
        match s2, e2, h1 with
        | .no, _, h => exact h.elim
        | .val _, _, h => exact h.elim
        | .cell _ (.dct _), _, h => exact h.elim
        | .cell _ (.ob _ _), _, h => exact h.elim
        | .cell l (.lst xs), e2, h1 =>
          obtain ⟨p1, vs1, a1, a2, a3, a4⟩ := R1.cellL e2
          rw [hσ] at a2
          cases a2
          have h1 : Post X.K c W F G1 P1 σ env1 (if xs.length < 16777216 then Res.ok DL.D.non (env1.set i (.cell l (.lst (xs ++ [d])))) else .bad) _ := h1
          split at h1
          · rename_i hl
            obtain ⟨k, R2⟩ := R1.relst e2 a1 hσ (a4.append (.cons r .nil))
            exact ⟨p0, vs1, v, rfl, rfl, a3, by rw [a4.length, sizeLine_eq]; exact hl, h1 _ _ _ (Ext.refl _ _) k R2 _ (Rep.non (K := X.K) (c := c) (G := G1))⟩
          · exact h1.elim
theorem ixN_lt {n : Nat} {k : Int} {j : Nat} (h : ixN n k = some j) : j < n := (ixN_seq h).2.1
theorem Reps.eraseIdx {K : PySem.W.Frag} {G : Hp} : ∀ {vs : List V} {ds : List D} (j : Nat), Reps K c G vs ds → Reps K c G (vs.eraseIdx j) (ds.eraseIdx j)
  | _, _, _, .nil => .nil
  | _, _, 0, .cons _ t => t
  | _, _, j + 1, .cons h t => .cons h (Reps.eraseIdx j t)
theorem de_popAt {call : Expr} (hb : PE X call (tBM X.K "list" rPopAt (tVar i) (tCons (tE X.K c W m) tNil))) : PE X call (tE X.K c W (mPopAt i m)) := by
  refine PE.weak hb fun σ H Q h => ?_
  obtain ⟨F, G, P, env, R, h⟩ := h
  unfold mPopAt at h
  cases e0 : env[i]? with
  | none => rw [e0] at h; exact h.elim
  | some s0 =>
    rw [e0] at h
    match s0, e0, h with
    | .no, _, h => exact h.elim
    | .val _, _, h => exact h.elim
    | .cell _ (.dct _), _, h => exact h.elim
    | .cell _ (.ob _ _), _, h => exact h.elim
    | .cell l0 (.lst xs0), e0, h =>
      obtain ⟨p0, vs0, _, hσ, h0, _⟩ := R.cellL e0
      refine ⟨_, hσ, tyV_list h0, F, G, P, env, R, (Post.bind h).imp fun d G1 H1 P1 _ ⟨env1, R1, h1⟩ v r => ?_⟩
      try dsimp only at h1
      cases e2 : env1[i]? with
      | none => rw [e2] at h1; cases r <;> exact h1.elim
      | some s2 =>
        rw [e2] at h1
        cases r with
        | int k =>
          match s2, e2, h1 with
          | .no, _, h => exact h.elim
          | .val _, _, h => exact h.elim
          | .cell _ (.dct _), _, h => exact h.elim
          | .cell _ (.ob _ _), _, h => exact h.elim
          | .cell l (.lst xs), e2, h1 =>
            obtain ⟨p1, vs1, a1, a2, a3, a4⟩ := R1.cellL e2
            rw [hσ] at a2
            cases a2
            try dsimp only at h1
            cases ej : ixN xs.length k with
            | none => rw [ej] at h1; exact h1.elim
            | some j =>
              rw [ej] at h1
              try dsimp only at h1
              cases ex : xs[j]? with
              | none => rw [ex] at h1; exact h1.elim
              | some d =>
                rw [ex] at h1
                obtain ⟨v, ev, rv⟩ := a4.get ex
                have er : Reps X.K c G1 (vs1.eraseIdx j) (xs.eraseIdx j) := Reps.eraseIdx j a4
                have h1 : Post X.K c W F G1 P1 σ env1 (if xs.length ≤ 16777216 then .ok d (env1.set i (.cell l (.lst (xs.eraseIdx j)))) else .bad) _ := h1
                split at h1
                rotate_left
                · exact h1.elim
                rename_i hl
                obtain ⟨k2, R2⟩ := R1.relst e2 a1 hσ er
                obtain ⟨q1, q2, q3, q4⟩ := ixN_seq ej
                exact ⟨p0, vs1, k, j, v, rfl, rfl, a3, by omega, by omega, by rw [a4.length]; exact q1, ev, h1 _ _ _ (Ext.refl _ _) k2 R2 _ rv⟩
        | _ => exact h1.elim
theorem de_pop {call : Expr} (hb : PE X call (tBM0 X.K "list" rPop (tVar i))) : PE X call (tE X.K c W (mPop i)) := by
  refine PE.weak hb fun σ H Q h => ?_
  obtain ⟨F, G, P, env, R, h⟩ := h
  unfold mPop at h
  cases e0 : env[i]? with
  | none => rw [e0] at h; exact h.elim
  | some s0 =>
    rw [e0] at h
    match s0, e0, h with
    | .no, _, h => exact h.elim
    | .val _, _, h => exact h.elim
    | .cell _ (.dct _), _, h => exact h.elim
    | .cell _ (.ob _ _), _, h => exact h.elim
    | .cell l (.lst xs), e0, h =>
      obtain ⟨p0, vs, a1, hσ, a3, a4⟩ := R.cellL e0
      try dsimp only at h
      cases ex : xs[xs.length - 1]? with
      | none => rw [ex] at h; exact h.elim
      | some d =>
        rw [ex] at h
        obtain ⟨v, ev, rv⟩ := a4.get ex
        have er : Reps X.K c G vs.dropLast xs.dropLast := by
          rw [List.dropLast_eq_take, List.dropLast_eq_take, a4.length]
          exact a4.take _
        obtain ⟨k2, R2⟩ := R.relst e0 a1 hσ er
        exact ⟨_, hσ, tyV_list a3, p0, vs, v, rfl, rfl, a3, by rw [a4.length]; exact ev, h _ _ _ (Ext.refl _ _) k2 R2 _ rv⟩
/-- len(x) of a thing of one's own -/
theorem de_lenC {call : Expr} (hb : PE X call (tCB (fun xs H Q => ∃ x n, xs = [x] ∧ LenV X.K x H n ∧ Q (.int n) H) (tCons (tVar i) tNil))) : PE X call (tE X.K c W (mLenC i)) := by
  refine PE.weak hb fun σ H Q h => ?_
  obtain ⟨F, G, P, env, R, h⟩ := h
  unfold mLenC at h
  cases e0 : env[i]? with
  | none => rw [e0] at h; exact h.elim
  | some s0 =>
    rw [e0] at h
    match s0, e0, h with
    | .no, _, h => exact h.elim
    | .val _, _, h => exact h.elim
    | .cell _ (.dct _), _, h => exact h.elim
    | .cell _ (.ob _ _), _, h => exact h.elim
    | .cell l (.lst xs), e0, h =>
      obtain ⟨p0, vs, a1, hσ, a3, a4⟩ := R.cellL e0
      exact ⟨_, hσ, _, _, rfl, .inl ⟨_, SqL.of a3, a4.length.symm⟩, Post.here R h _ (.int _)⟩
/-- x[e] of a thing of one's own -/
theorem de_ixC {call : Expr} (hb : PE X call (tOp (rIxL X.K) (tVar i) (tE X.K c W m))) : PE X call (tE X.K c W (mIxC i m)) := by
  refine PE.weak hb fun σ H Q h => ?_
  obtain ⟨F, G, P, env, R, h⟩ := h
  unfold mIxC at h
  cases e0 : env[i]? with
  | none => rw [e0] at h; exact h.elim
  | some s0 =>
    rw [e0] at h
    match s0, e0, h with
    | .no, _, h => exact h.elim
    | .val _, _, h => exact h.elim
    | .cell _ (.dct _), _, h => exact h.elim
    | .cell _ (.ob _ _), _, h => exact h.elim
    | .cell l0 (.lst xs0), e0, h =>
      obtain ⟨p0, vs0, _, hσ, h0, _⟩ := R.cellL e0
      refine ⟨_, hσ, F, G, P, env, R, (Post.bind h).imp fun d G1 H1 P1 _ ⟨env1, R1, h1⟩ v r => ?_⟩
      try dsimp only at h1
      cases e2 : env1[i]? with
      | none => rw [e2] at h1; cases r <;> exact h1.elim
      | some s2 =>
        rw [e2] at h1
        cases r with
        | int k =>
          match s2, e2, h1 with
          | .no, _, h => exact h.elim
          | .val _, _, h => exact h.elim
          | .cell _ (.dct _), _, h => exact h.elim
          | .cell _ (.ob _ _), _, h => exact h.elim
          | .cell l (.lst xs), e2, h1 =>
            obtain ⟨p1, vs1, a1, a2, a3, a4⟩ := R1.cellL e2
            rw [hσ] at a2
            cases a2
            try dsimp only at h1
            cases ej : atI xs k with
            | none => rw [ej] at h1; exact h1.elim
            | some d =>
              rw [ej] at h1
              obtain ⟨v, ev, rv⟩ := atI_reps a4 ej
              exact ⟨p0, vs1, k, v, rfl, rfl, SqL.of a3, ev, Post.here R1 h1 _ rv⟩
        | _ => exact h1.elim
/-- x[k] = e of a thing of one's own -/
theorem ds_setIx {st : Stmt} (hb : PS X st (tAsg (tE X.K c W m) (gSub (tVar i) (tE X.K c W mk) rSetL))) : PS X st (tS X.K c W (mSetIx i mk m)) := by
  refine PS.weak hb fun D σ H h => ?_
  obtain ⟨F, G, P, env, R, h⟩ := h
  refine ⟨F, G, P, env, R, (Post.bindS h).imp fun dv G0 H0 P0 _ ⟨env0, R0, h⟩ vv rvv => ?_⟩
  cases e0 : env0[i]? with
  | none =>
    rw [e0] at h
    exact h.elim
  | some s0 =>
    try dsimp only at h
    rw [e0] at h
    match s0, e0, h with
    | .no, _, h => exact h.elim
    | .val _, _, h => exact h.elim
    | .cell _ (.dct _), _, h => exact h.elim
    | .cell _ (.ob _ _), _, h => exact h.elim
    | .cell l0 (.lst xs0), e0, h =>
      obtain ⟨p0, vs0, _, hσ, h0, _⟩ := R0.cellL e0
      refine ⟨_, hσ, F, G0, P0, env0, R0, (Post.bindS h).imp fun d G1 H1 P1 x1 ⟨env1, R1, h1⟩ v r => ?_⟩
      try dsimp only at h1
      cases e2 : env1[i]? with
      | none => rw [e2] at h1; cases r <;> exact h1.elim
      | some s2 =>
        rw [e2] at h1
        cases r with
        | int k =>
          match s2, e2, h1 with
          | .no, _, h => exact h.elim
          | .val _, _, h => exact h.elim
          | .cell _ (.dct _), _, h => exact h.elim
          | .cell _ (.ob _ _), _, h => exact h.elim
          | .cell l (.lst xs), e2, h1 =>
            obtain ⟨p1, vs1, a1, a2, a3, a4⟩ := R1.cellL e2
            rw [hσ] at a2
            cases a2
            try dsimp only at h1
            cases ej : ixN xs.length k with
            | none => rw [ej] at h1; exact h1.elim
            | some j =>
              rw [ej] at h1
              obtain ⟨k2, R2⟩ := R1.relst e2 a1 hσ (a4.set (rvv.mono x1.same) j)
              exact ⟨p0, vs1, k, j, rfl, rfl, a3, by rw [a4.length]; exact ej, PostS.here R2 (h1.chain (Ext.refl _ _) k2)⟩
        | _ => exact h1.elim
end
/-! ### items and slices of data -/
def dIx : D → D → Option D
  | .lst xs, .int k => atI xs k
  | .ro xs, .int k => atI xs k
  | .tup xs, .int k => atI xs k
  | .str z, .int k => if z.length ≤ 16777216 then (atI z.cps.toList k).map fun n => .str ⟨#[n]⟩ else none
  | _, _ => none
def cutD (xs : List D) (lo hi : Option Int) : List D := (xs.drop (HT.sIx xs.length 0 lo)).take (HT.sIx xs.length xs.length hi - HT.sIx xs.length 0 lo)
def dSl (lo hi : Option Int) : D → Option D
  | .lst xs => some (.lst (cutD xs lo hi))
  | .ro xs => some (.lst (cutD xs lo hi))
  | .tup xs => some (.tup (cutD xs lo hi))
  | .str z => if z.length ≤ 16777216 then some (.str (cutS z lo hi)) else none
  | _ => none
/-- a slice's part -/
def mPart : Option (M D) → M (Option Int)
  | none => M.ret none
  | some m => M.bind m fun d => match d with
    | .int k => M.ret (some k)
    | _ => fun _ => .bad
def mSl (m : M D) (lo hi : Option (M D)) : M D := M.bind m fun d => M.bind (mPart lo) fun l => M.bind (mPart hi) fun h => M.opt (dSl l h d)
section
variable {X : Cx} {c : Cl} {W : WX} {pos : Pos} {e a b : Expr} {m ma mb : M D}
theorem cutD_reps {K : PySem.W.Frag} {G : Hp} {vs : List V} {ds : List D} (r : Reps K c G vs ds) (lo hi : Option Int) : Reps K c G (cutV vs lo hi) (cutD ds lo hi) := by
  unfold cutV cutD
  rw [r.length]
  exact (r.drop _).take _
theorem cutV_whole {xs : List V} {lo hi : Option Int} (hw : HT.sIx xs.length 0 lo = 0 ∧ HT.sIx xs.length xs.length hi = xs.length) : cutV xs lo hi = xs := by
  unfold cutV
  rw [hw.1, hw.2]
  simp
theorem de_ix (ha : PE X a (tE X.K c W ma)) (hb : PE X b (tE X.K c W mb)) (hs : PlainIx b := by exact fun _ _ => rfl) : PE X (.Subscript a b pos) (tE X.K c W (mBin dIx ma mb)) := by
  refine PE.weak (pe_ix ix_seq ha hb hs) fun σ H Q h => ?_
  obtain ⟨F, G, P, env, R, h⟩ := h
  refine ⟨F, G, P, env, R, (Post.bind h).imp fun x G1 H1 P1 _ ⟨env1, R1, h1⟩ v1 r1 => ⟨F, G1, P1, env1, R1, (Post.bind h1).imp fun y G2 H2 P2 x2 ⟨env2, R2, h2⟩ v2 r2 => ?_⟩⟩
  obtain ⟨d, e, h2⟩ := Post.opt h2
  have h3 := Post.here R2 h2
  have r1 := r1.mono x2.same
  cases r2 with
  | int k =>
    cases r1 with
    | lst hq rs =>
      obtain ⟨v, ev, rv⟩ := atI_reps rs e
      exact .inl ⟨_, _, k, v, rfl, rfl, SqL.of (R2.gs _ _ hq), ev, h3 v rv⟩
    | ro hq rs =>
      obtain ⟨v, ev, rv⟩ := atI_reps rs e
      exact .inl ⟨_, _, k, v, rfl, rfl, R2.gs.seq hq, ev, h3 v rv⟩
    | tup hq rs =>
      obtain ⟨v, ev, rv⟩ := atI_reps rs e
      exact .inr (.inl ⟨_, _, k, v, rfl, rfl, Same.seqT R2.gs hq, ev, h3 v rv⟩)
    | str z =>
      simp only [dIx] at e
      split at e
      · rename_i hl
        obtain ⟨n, e1, e2⟩ := Option.map_eq_some_iff.mp e
        cases e2
        exact .inr (.inr ⟨z, k, n, rfl, rfl, by rw [sizeLine_eq]; exact hl, e1, h3 _ (.str _)⟩)
      · cases e
    | _ => cases e
  | _ => cases r1 <;> cases e
def tPO (K : PySem.W.Frag) (c : Cl) (W : WX) (m : Option (M D)) : TO := fun σ H Q => ∃ F G P env, Rel K c F G H P σ env ∧ Post K c W F G P σ env (mPart m env) fun o _ H' _ => Q o H'
theorem dp_none : PO X none (tPO X.K c W none) := by
  refine ⟨fun pins s σ H Q I h => po_none.run pins s σ H Q I ?_⟩
  obtain ⟨F, G, P, env, R, h⟩ := h
  exact Post.here R h
theorem dp_some (h : PE X e (tE X.K c W m)) : PO X (some e) (tPO X.K c W (some m)) := by
  refine ⟨fun pins s σ H Q I hw => (po_some h).run pins s σ H Q I ?_⟩
  obtain ⟨F, G, P, env, R, hw⟩ := hw
  refine ⟨F, G, P, env, R, (Post.bind hw).imp fun d G1 H1 P1 _ ⟨env1, R1, h1⟩ v r => ?_⟩
  cases r with
  | int k => exact ⟨k, rfl, Post.here R1 h1⟩
  | _ => exact h1.elim
theorem sl_any : SlR X (fun x lo hi H Q => rSlL X.K x lo hi H Q ∨ (rSlA X.K x lo hi H Q ∨ rSlS x lo hi H Q)) := sl_list.or (sl_tupA.or sl_str)
theorem de_sl {lo hi : Option Expr} {ml mh : Option (M D)} {p2 : Pos} (he : PE X e (tE X.K c W m)) (hl : PO X lo (tPO X.K c W ml)) (hh : PO X hi (tPO X.K c W mh)) : PE X (.Subscript e (.Slice lo hi none p2) pos) (tE X.K c W (mSl m ml mh)) := by
  refine PE.weak (pe_slice sl_any he hl hh) fun σ H Q h => ?_
  obtain ⟨F, G, P, env, R, h⟩ := h
  refine ⟨F, G, P, env, R, (Post.bind h).imp fun x G1 H1 P1 _ ⟨env1, R1, h1⟩ v1 r1 => ⟨F, G1, P1, env1, R1, (Post.bind h1).imp fun l G2 H2 P2 x2 ⟨env2, R2, h2⟩ => ⟨F, G2, P2, env2, R2, (Post.bind h2).imp fun u G3 H3 P3 x3 ⟨env3, R3, h3⟩ => ?_⟩⟩⟩
  obtain ⟨d, e, h3⟩ := Post.opt h3
  have r1 := r1.mono (x2.same.trans x3.same)
  cases r1 with
  | lst hq rs => cases e; exact .inl ⟨_, _, rfl, SqL.of (R3.gs _ _ hq), fun p n => new_val R3 h3 n (.lst upd_same ((cutD_reps rs l u).mono (same_new (none_of R3.gs n))))⟩
  | ro hq rs => cases e; exact .inl ⟨_, _, rfl, R3.gs.seq hq, fun p n => new_val R3 h3 n (.lst upd_same ((cutD_reps rs l u).mono (same_new (none_of R3.gs n))))⟩
  | tup hq rs =>
    cases e
    refine .inr (.inl ⟨_, _, rfl, Same.seqT R3.gs hq, fun hw => ?_, fun _ p n => new_val R3 h3 n (.tup (SqT.of upd_same) ((cutD_reps rs l u).mono (same_new (none_of R3.gs n))))⟩)
    refine Post.here R3 h3 _ (.tup hq ?_)
    exact (cutV_whole hw) ▸ cutD_reps rs l u
  | str z =>
    simp only [dSl] at e
    split at e
    · rename_i hl
      cases e
      exact .inr (.inr ⟨z, rfl, by rw [sizeLine_eq]; exact hl, Post.here R3 h3 _ (.str _)⟩)
    · cases e
  | _ => cases e
end
end L2.DL
set_option Elab.async false
set_option linter.all false
set_option maxRecDepth 100000
set_option maxHeartbeats 4000000
namespace L2.DL
open PySem PySem.Spec PyProof.Rows
theorem ds_never {X : Cx} {st : Stmt} {c : Cl} {W : WX} : PS X st (tS X.K c W fun _ => .bad) := ⟨fun _ _ _ _ _ _ ⟨_, _, _, _, _, h⟩ => h.elim⟩
theorem de_never {X : Cx} {e : Expr} {c : Cl} {W : WX} : PE X e (tE X.K c W fun _ => .bad) := ⟨fun _ _ _ _ _ _ ⟨_, _, _, _, _, h⟩ => h.elim⟩
/-! ### a, b = x, y -/
abbrev PV := Sum D Cell
def mInl (m : M D) : M PV := M.bind m fun d => M.ret (.inl d)
def mInr (m : M Cell) : M PV := M.bind m fun d => M.ret (.inr d)
def pvNil : M (List PV) := M.ret []
def pvCons (a : M PV) (b : M (List PV)) : M (List PV) := M.bind a fun x => M.bind b fun xs => M.ret (x :: xs)
def setPV (i : Nat) : PV → Ev → Option Ev
  | .inl d => setSl i (.val d)
  | .inr z => setSl i (.cell false z)
def setPVs : List Nat → List PV → Ev → Option Ev
  | [], [], e => some e
  | i :: is, p :: ps, e => match setPV i p e with
    | some e' => setPVs is ps e'
    | none => none
  | _, _, _ => none
def mPar (is : List Nat) (ms : M (List PV)) : MS := M.bind ms fun ps => M.upd (setPVs is ps)
inductive PVs (K : PySem.W.Frag) (c : Cl) (G H : Hp) : List V → List PV → List (List Addr) → Prop
  | nil : PVs K c G H [] [] []
  | inl {v d vs ps P} : Rep K c G v d → PVs K c G H vs ps P → PVs K c G H (v :: vs) (.inl d :: ps) ([] :: P)
  | inr {v z vs ps P p} : CellAt K c G H p v z → PVs K c G H vs ps P → PVs K c G H (v :: vs) (.inr z :: ps) (p :: P)
def tP (K : PySem.W.Frag) (c : Cl) (W : WX) (m : M PV) : TE := fun σ H Q => ∃ F G P env, Rel K c F G H P σ env ∧ Post K c W F G P σ env (m env) fun pv G' H' P' => ∀ v p, (match pv with | .inl d => Rep K c G' v d ∧ p = [] | .inr z => CellAt K c G' H' p v z) → p.Nodup → (∀ b, b ∈ p → F b = none ∧ G' b = none ∧ b ∉ P'.flatten) → Q v H'
def tPs (K : PySem.W.Frag) (c : Cl) (W : WX) (m : M (List PV)) : TA := fun σ H Q => ∃ F G P env, Rel K c F G H P σ env ∧ Post K c W F G P σ env (m env) fun pvs G' H' P' => ∀ vs PP, PVs K c G' H' vs pvs PP → PP.flatten.Nodup → (∀ b, b ∈ PP.flatten → F b = none ∧ G' b = none ∧ b ∉ P'.flatten) → Q vs H'
section
variable {K : PySem.W.Frag} {c : Cl} {W : WX} {F G G' G1 H H' H1 : Hp} {P P1 : List (List Addr)} {σ : St} {env env1 : Ev}
theorem PVs.move {vs : List V} {ps : List PV} {PP : List (List Addr)} (h : PVs K c G H vs ps PP) (e : Same G G') (k : ∀ b, b ∈ PP.flatten → ∀ o, H b = some o → H' b = some o) : PVs K c G' H' vs ps PP := by
  induction h with
  | nil => exact .nil
  | inl r _ ih => exact .inl (r.mono e) (ih fun b hb => k b (by rw [List.flatten_cons]; exact List.mem_append_right _ hb))
  | inr r _ ih => exact .inr (r.move e fun b hb => k b (by rw [List.flatten_cons]; exact List.mem_append_left _ hb)) (ih fun b hb => k b (by rw [List.flatten_cons]; exact List.mem_append_right _ hb))
/-- store them, from the left -/
theorem Rel.setPVs : ∀ {is : List Nat} {ps : List PV} {vs : List V} {PP : List (List Addr)} {P : List (List Addr)} {σ : St} {env e' : Ev}, Rel K c F G H P σ env → PVs K c G H vs ps PP → PP.flatten.Nodup → (∀ b, b ∈ PP.flatten → F b = none ∧ G b = none ∧ b ∉ P.flatten) → setPVs is ps env = some e' →
    ∃ P', Keep P P' env e' ∧ Rel K c F G H P' ((is.zip vs).foldl (fun σ x => σ.set x.1 (some x.2)) σ) e'
  | [], [], vs, _, P, σ, env, e', R, h, _, _, q => by
    cases h
    cases q
    exact ⟨P, Keep.refl _ _, R⟩
  | [], _ :: _, _, _, _, _, _, _, _, _, _, _, q => by cases q
  | _ :: _, [], _, _, _, _, _, _, _, _, _, _, q => by cases q
  | i :: is, p :: ps, vs, PP, P, σ, env, e', R, h, nd, out, q => by
    unfold DL.setPVs at q
    cases q1 : setPV i p env with
    | none => rw [q1] at q; cases q
    | some e1 =>
      rw [q1] at q
      cases h with
      | inl r t =>
        rename_i v d vs PP
        obtain ⟨_, k1, R1⟩ := R.setV r q1
        have nd' : PP.flatten.Nodup := by simpa using nd
        obtain ⟨P', k2, R2⟩ := Rel.setPVs R1 t nd' (fun b hb => by
          obtain ⟨a1, a2, a3⟩ := out b (by simpa using hb)
          exact ⟨a1, a2, fun z => a3 (no_alias R b z)⟩) q
        exact ⟨P', k1.trans k2, R2⟩
      | inr r t =>
        rename_i v z vs PP pp
        rw [List.flatten_cons] at nd out
        have nd' := List.nodup_append.mp nd
        obtain ⟨k1, R1⟩ := R.setC r nd'.1 (fun b hb => out b (List.mem_append_left _ hb)) q1
        obtain ⟨P', k2, R2⟩ := Rel.setPVs R1 t nd'.2.1 (fun b hb => by
          obtain ⟨a1, a2, a3⟩ := out b (List.mem_append_right _ hb)
          refine ⟨a1, a2, fun z => ?_⟩
          rcases flat_set z with z | z
          · exact nd'.2.2 b z b hb rfl
          · exact a3 z) q
        exact ⟨P', k1.trans k2, R2⟩
def hold (F H : Hp) (p : List Addr) : Hp := fun b => if b ∈ p then H b else F b
theorem hold_ext {p : List Addr} (hp : ∀ b, b ∈ p → F b = none) (h : Ext (hold F H p) G G') : Ext F G G' := ⟨h.same, fun b h1 h2 => h.fresh b h1 (by
  unfold hold
  rw [if_neg fun hb => h2 (hp b hb)]
  exact h2)⟩
theorem hold_rel {p : List Addr} (hp : ∀ b, b ∈ p → F b = none) (h : Rel K c (hold F H p) G H' P σ env) : Rel K c F G H' P σ env :=
  ⟨fun b o ho => h.fs b o (by unfold hold; rw [if_neg fun hb => by rw [hp b hb] at ho; cases ho]; exact ho), h.gs, h.all, fun b hb => ⟨by
    have := (h.out b hb).1
    unfold hold at this
    split at this
    · rename_i hb2; exact hp b hb2
    · exact this, (h.out b hb).2⟩, h.nd, ⟨h.tb.tabs, fun b ps z => h.tb.nf b ps (by unfold hold; rw [if_neg fun hb => by rw [hp b hb] at z; cases z]; exact z), h.tb.ng⟩⟩
theorem rel_hold {p : List Addr} (R : Rel K c F G H P σ env) (hp : ∀ b, b ∈ p → b ∉ P.flatten) (hnt : ∀ b, b ∈ p → ∀ ps, H b ≠ some (.tbl ps)) : Rel K c (hold F H p) G H P σ env :=
  ⟨fun b o ho => by
    unfold hold at ho
    split at ho
    · exact ho
    · exact R.fs b o ho, R.gs, R.all, fun b hb => ⟨by unfold hold; rw [if_neg fun h => hp b h hb]; exact (R.out b hb).1, (R.out b hb).2⟩, R.nd, ⟨R.tb.tabs, fun b ps z => by
    unfold hold at z
    split at z
    · rename_i hb; exact hnt b hb ps z
    · exact R.tb.nf b ps z, R.tb.ng⟩⟩
theorem Post.hold {α : Type} {p : List Addr} {r : Res α} {k k' : α → Hp → Hp → List (List Addr) → Prop} (hp : ∀ b, b ∈ p → F b = none) (h : Post K c W F G P σ env r k)
    (hk : ∀ a G' H' P' env', Ext (DL.hold F H p) G G' → Rel K c (DL.hold F H p) G' H' P' σ env' → k a G' H' P' → k' a G' H' P') : Post K c W (DL.hold F H p) G P σ env r k' := by
  cases r with
  | ok a env' => exact fun G' H' P' x q R => hk a G' H' P' env' x R (h G' H' P' (hold_ext hp x) q (hold_rel hp R))
  | exc x env' => exact fun G' H' P' cv dd x q R r => h G' H' P' cv dd (hold_ext hp x) q (hold_rel hp R) r
  | bad => exact h
end
section
variable {X : Cx} {c : Cl} {W : WX} {pos : Pos} {e : Expr} {es : List Expr} {m : M D} {mz : M Cell} {mp : M PV} {mps : M (List PV)}
theorem dp_inl (h : PE X e (tE X.K c W m)) : PE X e (tP X.K c W (mInl m)) := PE.weak h fun σ H Q h => by
  obtain ⟨F, G, P, env, R, h⟩ := h
  exact ⟨F, G, P, env, R, (Post.bind h).imp fun d G1 H1 P1 _ ⟨env1, R1, h1⟩ v r => Post.here R1 h1 v [] ⟨r, rfl⟩ List.nodup_nil (fun b hb => nomatch hb)⟩
theorem dp_inr (h : PE X e (tO X.K c W mz)) : PE X e (tP X.K c W (mInr mz)) := PE.weak h fun σ H Q h => by
  obtain ⟨F, G, P, env, R, h⟩ := h
  exact ⟨F, G, P, env, R, (Post.bind h).imp fun d G1 H1 P1 _ ⟨env1, R1, h1⟩ v p ca nd out => Post.here R1 h1 v p ca nd out⟩
theorem dps_nil : PA X [] (tPs X.K c W pvNil) := PA.weak pa_nil fun σ H Q ⟨F, G, P, env, R, h⟩ => Post.here R h _ _ .nil List.nodup_nil (fun b hb => nomatch hb)
theorem cellAt_nodup {K : PySem.W.Frag} {G H : Hp} {p : List Addr} {v : V} {z : Cell} (x : CellAt K c G H p v z) : p.Nodup := by
  cases x with
  | lst _ _ => simp
  | dct _ _ => simp
  | ob _ n _ _ => simp; exact fun z => n z.symm
theorem dps_cons (h1 : PE X e (tP X.K c W mp)) (h2 : PA X es (tPs X.K c W mps)) (hs : starEach (e :: es) X.env = (false, eval e X.env) :: starEach es X.env := by rfl) : PA X (e :: es) (tPs X.K c W (pvCons mp mps)) := by
  refine PA.weak (pa_cons h1 h2 hs) fun σ H Q h => ?_
  obtain ⟨F, G, P, env, R, h⟩ := h
  refine ⟨F, G, P, env, R, (Post.bind h).imp fun x G1 H1 P1 _ ⟨env1, R1, h1⟩ v p rv nd out => ?_⟩
  have hp : ∀ b, b ∈ p → F b = none := fun b hb => (out b hb).1
  have h1' := Post.bind h1
  refine ⟨hold F H1 p, G1, P1, env1, rel_hold R1 (fun b hb => (out b hb).2.2) (by
    cases x with
    | inl d => intro b hb; rw [rv.2] at hb; cases hb
    | inr z => intro b hb ps e; obtain ⟨o, o1, o2⟩ := cell_obj rv b hb; rw [e] at o1; cases o1; exact o2 ps rfl), Post.hold (H := H1) (p := p) hp h1' fun pvs G2 H2 P2 env2 x2 R2 h2 vs PP pv nd2 out2 => ?_⟩
  obtain ⟨env2', R2', h2⟩ := h2
  have hH : ∀ b, b ∈ p → ∀ o, H1 b = some o → H2 b = some o := fun b hb o ho => R2.fs b o (by unfold hold; rw [if_pos hb]; exact ho)
  have pnot : ∀ b, b ∈ p → H1 b ≠ none := by
    cases x with
    | inl d => intro b hb; rw [rv.2] at hb; cases hb
    | inr z => exact cell_there rv
  have pG : ∀ b, b ∈ p → G2 b = none := fun b hb => x2.fresh b (out b hb).2.1 (by unfold hold; rw [if_pos hb]; exact pnot b hb)
  have pP : ∀ b, b ∈ p → b ∉ P2.flatten := fun b hb hb2 => by
    have := (R2.out b hb2).1
    unfold hold at this
    rw [if_pos hb] at this
    exact pnot b hb this
  have pPP : ∀ b, b ∈ p → b ∉ PP.flatten := fun b hb hb2 => by
    have := (out2 b hb2).1
    unfold hold at this
    rw [if_pos hb] at this
    exact pnot b hb this
  have outF : ∀ b, b ∈ PP.flatten → F b = none := fun b hb => by
    have := (out2 b hb).1
    unfold hold at this
    rw [if_neg fun z => pPP b z hb] at this
    exact this
  have h3 := Post.here R2' h2
  cases x with
  | inl d =>
    obtain ⟨rd, e⟩ := rv
    subst e
    exact h3 _ ([] :: PP) (.inl (rd.mono x2.same) pv) (by simpa using nd2) fun b hb => by
      have hb : b ∈ PP.flatten := by simpa using hb
      exact ⟨outF b hb, (out2 b hb).2⟩
  | inr z =>
    refine h3 _ (p :: PP) (.inr (CellAt.move rv x2.same hH) pv) ?_ fun b hb => ?_
    · rw [List.flatten_cons]
      exact List.nodup_append.mpr ⟨nd, nd2, fun a ha b hb e => pPP a ha (e ▸ hb)⟩
    · rw [List.flatten_cons] at hb
      rcases List.mem_append.mp hb with hb | hb
      · exact ⟨hp b hb, pG b hb, pP b hb⟩
      · exact ⟨outF b hb, (out2 b hb).2⟩
theorem par_post {is : List Nat} {σ : St} {H : Hp} {D : Ends} (h : tS X.K c W (mPar is mps) D σ H) : tPs X.K c W mps σ H fun vs H1 => vs.length = is.length ∧ D.nx ((is.zip vs).foldl (fun σ x => σ.set x.1 (some x.2)) σ) H1 := by
  obtain ⟨F, G, P, env, R, h⟩ := h
  refine ⟨F, G, P, env, R, (Post.bindS h).imp fun ps G1 H1 P1 _ ⟨env1, R1, h1⟩ vs PP pv nd out => ?_⟩
  unfold M.upd at h1
  cases q : setPVs is ps env1 with
  | none => rw [q] at h1; exact h1.elim
  | some e1 =>
    rw [q] at h1
    obtain ⟨P', k, R2⟩ := Rel.setPVs R1 pv nd out q
    refine ⟨?_, PostS.here R2 (h1.chain (Ext.refl _ _) k)⟩
    have : ∀ {is : List Nat} {ps : List PV} {vs : List V} {PP : List (List Addr)} {e e' : Ev}, PVs X.K c G1 H1 vs ps PP → setPVs is ps e = some e' → vs.length = is.length := by
      intro is
      induction is with
      | nil => intro ps vs PP e e' pv q; cases pv <;> first | rfl | (unfold setPVs at q; cases q)
      | cons i is ih =>
        intro ps vs PP e e' pv q
        cases pv with
        | nil => unfold setPVs at q; cases q
        | inl _ t =>
          unfold setPVs at q
          split at q
          · rw [List.length_cons, List.length_cons, ih t q]
          · cases q
        | inr _ t =>
          unfold setPVs at q
          split at q
          · rw [List.length_cons, List.length_cons, ih t q]
          · cases q
    exact this pv q
theorem ds_par2 {i j : Nat} {x y : Str} {a b : Expr} {px py pt : Pos} {kt k2 pt2} (hN : X.N.Nodup) (ha : PA X [a, b] (tPs X.K c W mps)) (hij : i ≠ j := by decide) (hc : X.calm = true := by rfl) (hi : X.N[i]? = some x := by rfl) (hj : X.N[j]? = some y := by rfl)
    (hx : X.env.scope.names.lookup x = some .local := by rfl) (hy : X.env.scope.names.lookup y = some .local := by rfl)
    (hw : swappedStores [.Tuple [.Name x px, .Name y py] kt pt] (.Tuple [a, b] k2 pt2) X.env = pure (some [x, y]) := by rfl)
    (hs : swapsWithSole [.Tuple [.Name x px, .Name y py] kt pt] (.Tuple [a, b] k2 pt2) pos.line X.env = pure false := by rfl) :
    PS X (.Assign [.Tuple [.Name x px, .Name y py] kt pt] (.Tuple [a, b] k2 pt2) pos) (tS X.K c W (mPar [i, j] mps)) := by
  refine PS.weak (ps_par hc hN hi hj hij hx hy ha hw hs) fun D σ H h => ?_
  have h := par_post h
  obtain ⟨F, G, P, env, R, h⟩ := h
  refine ⟨F, G, P, env, R, h.imp fun ps G' H' P' _ q vs PP pv nd out => ?_⟩
  obtain ⟨hl, q⟩ := q vs PP pv nd out
  match vs, hl, q with
  | [v, w], _, q => exact ⟨v, w, rfl, q⟩
theorem ds_par3 {i j l : Nat} {x y z : Str} {a b d : Expr} {px py pz pt : Pos} {kt k2 pt2} (hN : X.N.Nodup) (ha : PA X [a, b, d] (tPs X.K c W mps)) (hij : i ≠ j := by decide) (hil : i ≠ l := by decide) (hjl : j ≠ l := by decide) (hc : X.calm = true := by rfl) (hi : X.N[i]? = some x := by rfl) (hj : X.N[j]? = some y := by rfl) (hl : X.N[l]? = some z := by rfl)
    (hx : X.env.scope.names.lookup x = some .local := by rfl) (hy : X.env.scope.names.lookup y = some .local := by rfl) (hz : X.env.scope.names.lookup z = some .local := by rfl)
    (hw : swappedStores [.Tuple [.Name x px, .Name y py, .Name z pz] kt pt] (.Tuple [a, b, d] k2 pt2) X.env = pure (some [x, y, z]) := by rfl)
    (hs : swapsWithSole [.Tuple [.Name x px, .Name y py, .Name z pz] kt pt] (.Tuple [a, b, d] k2 pt2) pos.line X.env = pure false := by rfl) :
    PS X (.Assign [.Tuple [.Name x px, .Name y py, .Name z pz] kt pt] (.Tuple [a, b, d] k2 pt2) pos) (tS X.K c W (mPar [i, j, l] mps)) := by
  refine PS.weak (ps_par3 hc hN hi hj hl hij hil hjl hx hy hz ha hw hs) fun D σ H h => ?_
  have h := par_post h
  obtain ⟨F, G, P, env, R, h⟩ := h
  refine ⟨F, G, P, env, R, h.imp fun ps G' H' P' _ q vs PP pv nd out => ?_⟩
  obtain ⟨hl, q⟩ := q vs PP pv nd out
  match vs, hl, q with
  | [u, v, w], _, q => exact ⟨u, v, w, rfl, q⟩
end
/-! ### x += e -/
def mAug (i : Nat) (g : D → D → Option D) (m : M D) : MS := fun env => match env[i]? with
  | some (.val d0) => M.bind m (fun d => M.bind (M.opt (g d0 d)) fun r => M.upd (setSl i (.val r))) env
  | _ => .bad
def dAddI : D → D → Option D
  | .int a, .int b => some (.int (a + b))
  | .str a, .str b => if a.length + b.length ≤ 16777216 then some (.str (a ++ b)) else none
  | _, _ => none
section
variable {X : Cx} {c : Cl} {W : WX} {pos : Pos} {e : Expr} {m : M D}
theorem do_iadd : OpD X c (inplaceOp .Add) dAddI := opd_of fun G H x y dx dy d hs r1 r2 e => by
  cases r1 with
  | int i =>
    cases r2 with
    | int j => cases e; exact ⟨_, iop_add, fun Q q => ⟨i, j, rfl, rfl, q G H _ (Pure.refl hs) (.int _)⟩⟩
    | _ => cases e
  | str i =>
    cases r2 with
    | str j =>
      simp only [dAddI] at e
      split at e
      · rename_i h
        cases e
        exact ⟨_, iop_add_str, fun Q q => ⟨i, j, rfl, rfl, by rw [sizeLine_eq]; exact h, q G H _ (Pure.refl hs) (.str _)⟩⟩
      · cases e
    | _ => cases e
  | _ => cases e
theorem do_isub : OpD X c (inplaceOp .Sub) dSub := opd_of fun G H x y dx dy d hs r1 r2 e => by
  cases r1 with
  | int i =>
    cases r2 with
    | int j => cases e; exact ⟨_, iop_sub, fun Q q => ⟨i, j, rfl, rfl, q G H _ (Pure.refl hs) (.int _)⟩⟩
    | _ => cases e
  | _ => cases e
theorem ds_aug {i : Nat} {x : Str} {pos' : Pos} {op : Operator} {g : D → D → Option D} (hN : X.N.Nodup) (ho : OpD X c (inplaceOp op) g) (he : PE X e (tE X.K c W m)) (hi : X.N[i]? = some x := by rfl) (hx : Loc X.env.scope x := by first | exact .inl rfl | exact .inr rfl)
    (hf : X.fn x = true ∨ X.env.scope.names.lookup x = some .local := by first | exact .inl rfl | exact .inr rfl) : PS X (.AugAssign (.Name x pos') op e pos) (tS X.K c W (mAug i g m)) := by
  refine PS.weak (ps_aug hN hi hx he ho hf) fun D σ H h => ?_
  obtain ⟨F, G, P, env, R, h⟩ := h
  unfold mAug at h
  cases e0 : env[i]? with
  | none => rw [e0] at h; exact h.elim
  | some s0 =>
    rw [e0] at h
    match s0, e0, h with
    | .no, _, h => exact h.elim
    | .cell _ _, _, h => exact h.elim
    | .val d0, e0, h =>
      obtain ⟨p, x, e1, e2, r⟩ := R.all.get e0
      cases r with
      | val r =>
        refine ⟨_, e2, F, G, P, env, R, (Post.bindS h).imp fun d G1 H1 P1 x1 ⟨env1, R1, h1⟩ v rv => ?_⟩
        cases q : g d0 d with
        | none => rw [q] at h1; exact h1.elim
        | some dr =>
          rw [q] at h1
          refine ⟨G1, d0, d, dr, R1.gs, ⟨R1.tb.tabs, R1.tb.ng⟩, r.mono x1.same, rv, q, fun G2 H2 v2 pu r2 => ?_⟩
          obtain ⟨x2, R2⟩ := R1.pure pu
          have h1 : PostS X.K c W F G1 P1 env1 (M.upd (setSl i (.val dr)) env1) D := h1
          have h1 := h1.chain x2 (Keep.refl _ _)
          unfold M.upd at h1
          cases q : setSl i (.val dr) env1 with
          | none => rw [q] at h1; exact h1.elim
          | some e1 =>
            rw [q] at h1
            obtain ⟨_, k, R3⟩ := R2.setV r2 q
            exact PostS.here R3 (h1.chain (Ext.refl _ _) k)
end
/-! ### isinstance -/
inductive Tg where
  | b (n : String) | o (k : Nat)
  deriving DecidableEq
def D.tg : D → Option Tg
  | .non => some (.b "NoneType")
  | .bl _ => some (.b "bool")
  | .int _ => some (.b "int")
  | .str _ => some (.b "str")
  | .lst _ => some (.b "list")
  | .tup _ => some (.b "tuple")
  | .dct _ => some (.b "dict")
  | .obj k _ => some (.o k)
  | _ => none
def Tg.v (c : Cl) : Tg → Value
  | .b n => .type n
  | .o k => .ref (c.cls k)
/-- what is known of isinstance with one class -/
structure IsiF (K : PySem.W.Frag) (c : Cl) (u : Value) (g : Tg → Option Bool) : Prop where
  at_ : ∀ t b, g t = some b → PySem.W.kitOne K (t.v c) u = some b
  ob : ∀ k b, g (.o k) = some b → SlX.SCls K (c.cls k) ∧ SlX.SIsi K (c.cls k)
def mIsi (g : Tg → Option Bool) (m : M D) : M D := M.bind m fun d => M.opt ((d.tg.bind g).map .bl)
section
variable {X : Cx} {c : Cl} {W : WX} {pos p : Pos} {e : Expr} {m : M D} {x : Str}
theorem rd_tyx {K : PySem.W.Frag} {H : Hp} {a : Addr} {vs : List V} (h : SqT K H a vs) : TyX K H (.ref a) (.type "tuple") := by
  rcases h with (h | ⟨o, h⟩) | ⟨o, its, n, h, hc, _⟩
  · exact .base (.tup h)
  · exact .fTuple h
  · exact .kTuple h hc
theorem isi_rep {K : PySem.W.Frag} {G H : Hp} (hs : Same G H) {v : V} {d : D} {t : Tg} (r : Rep K c G v d) (e : d.tg = some t) : (TyX K H v (t.v c) ∧ ∀ k, t ≠ .o k) ∨ ∃ k a dx vs, t = .o k ∧ v = .ref a ∧ SlX.Slt H a (c.cls k) dx vs := by
  cases r with
  | non => cases e; exact .inl ⟨.base .non, fun _ z => nomatch z⟩
  | bl b => cases e; exact .inl ⟨.base (.bl b), fun _ z => nomatch z⟩
  | int b => cases e; exact .inl ⟨.base (.int b), fun _ z => nomatch z⟩
  | str b => cases e; exact .inl ⟨.base (.str b), fun _ z => nomatch z⟩
  | ty n => cases e
  | glb a => cases e
  | lst h _ => cases e; exact .inl ⟨.base (.lst (hs _ _ h)), fun _ z => nomatch z⟩
  | ro h _ => cases e
  | tup h _ => cases e; exact .inl ⟨rd_tyx (Same.seqT hs h), fun _ z => nomatch z⟩
  | obj h _ => cases e; exact .inr ⟨_, _, _, _, rfl, rfl, Same.slt hs h⟩
  | dct h _ =>
    cases e
    rcases Same.rd hs h with h | ⟨o, h⟩
    · exact .inl ⟨.base (.dK h), fun _ z => nomatch z⟩
    · exact .inl ⟨.fDict h, fun _ z => nomatch z⟩
theorem rel_clsV {cv : V} {u : Value} (k : ClsV cv u) : RelV cv u := by cases k <;> rfl
theorem de_isi {cv : V} {u : Value} {g : Tg → Option Bool} {t : Expr} (F : IsiF X.K c u g) (hk : ClsV cv u) (he : PE X e (tE X.K c W m)) (ht : PE X t (tC cv)) (hm : X.mg "isinstance" = none) (hg : Gl X "isinstance" := by rfl)
    (hn : ("isinstance" : Str) ≠ "__name__" := by decide) (hdb : (("isinstance" : Str) == ("__debug__" : Str)) = false := by decide) (he1 : starEach (e :: [t]) X.env = (false, eval e X.env) :: starEach [t] X.env := by rfl) (he2 : starEach [t] X.env = (false, eval t X.env) :: starEach [] X.env := by rfl)
    (hpl : (backTo pos (starEach [t] X.env)).any (·.1) = false := by rfl) : PE X (.Call (.Name "isinstance" p) [e, t] [] pos) (tE X.K c W (mIsi g m)) := by
  have hc : CallR X (.builtin "isinstance") (fun xs H Q => rIsi X.K xs H Q ∨ SlX.rIsiSl X.K u xs H Q) := by
    intro pins s σ H xs us Q I r h
    rcases h with h | h
    · exact call_isi pins s σ H xs us Q I r h
    · exact SlX.call_isiSl u pins s σ H xs us Q I r h
  refine PE.weak (pe_callB hc hg hm (by decide +kernel) (pa_cons he (pa_cons ht pa_nil he2) he1) hn hdb he1 hpl) fun σ H Q h => ?_
  obtain ⟨F0, G, P, env, R, h⟩ := h
  refine ⟨F0, G, P, env, R, (Post.bind h).imp fun d G1 H1 P1 _ ⟨env1, R1, h1⟩ v r => ?_⟩
  obtain ⟨d2, e, h1⟩ := Post.opt h1
  obtain ⟨b, e1, e2⟩ := Option.map_eq_some_iff.mp e
  subst e2
  obtain ⟨tt, e3, e4⟩ := Option.bind_eq_some_iff.mp e1
  have fin := Post.here R1 h1 _ (.bl b)
  rcases isi_rep R1.gs r e3 with ⟨h1, _⟩ | ⟨k, a, dx, vs, rfl, rfl, hsl⟩
  · exact .inl ⟨v, cv, _, u, b, rfl, hk, h1, F.at_ _ _ e4, fin⟩
  · obtain ⟨h1, h2⟩ := F.ob k b e4
    exact .inr ⟨a, _, dx, vs, cv, b, rfl, rel_clsV hk, fun w rw => hk.eq rw, hsl, h1, h2, F.at_ _ _ e4, fin⟩
end
/-! ### methods of texts -/
def rS (K : PySem.W.Frag) (c : Cl) (g : Str → List D → Option D) : V → List V → Hp → VK → Prop := fun x xs H Q => ∃ G z ds d, x = .str z ∧ Same G H ∧ Reps K c G xs ds ∧ g z ds = some d ∧ ∀ G' H' v, Pure c H G H' G' → Rep K c G' v d → Q v H'
def MtS (X : Cx) (c : Cl) (id : String) (g : Str → List D → Option D) : Prop := MtR X id (rS X.K c g)
def mMeth (g : Str → List D → Option D) (m : M D) (ms : M (List D)) : M D := M.bind m fun x => match x with
  | .str z => M.bind ms fun ds => M.opt (g z ds)
  | _ => fun _ => .bad
section
variable {X : Cx} {c : Cl} {W : WX} {call : Expr} {m : M D} {ms : M (List D)} {g : Str → List D → Option D}
theorem mts_of {id : String} (h : ∀ (G H : Hp) (z : Str) (xs : List V) (ds : List D) (d : D), Same G H → Reps X.K c G xs ds → g z ds = some d → ∃ r : V → List V → Hp → VK → Prop, MtR X id r ∧ ∀ Q : VK, (∀ G' H' v, Pure c H G H' G' → Rep X.K c G' v d → Q v H') → r (.str z) xs H Q) : MtS X c id g := by
  intro pins s σ H x xs v us Q I rx rxs hq
  obtain ⟨G, z, ds, d, rfl, hs, r2, e, q⟩ := hq
  obtain ⟨r, ho, hr⟩ := h G H z xs ds d hs r2 e
  exact ho pins s σ H _ xs v us Q I rx rxs (hr Q q)
theorem de_meth (hb : PE X call (tBM X.K "str" (rS X.K c g) (tE X.K c W m) (tA X.K c W ms))) : PE X call (tE X.K c W (mMeth g m ms)) := by
  refine PE.weak hb fun σ H Q h => ?_
  obtain ⟨F, G, P, env, R, h⟩ := h
  refine ⟨F, G, P, env, R, (Post.bind h).imp fun x G1 H1 P1 _ ⟨env1, R1, h1⟩ v r => ?_⟩
  cases r with
  | str z =>
    refine ⟨rfl, F, G1, P1, env1, R1, (Post.bind h1).imp fun ds G2 H2 P2 x2 ⟨env2, R2, h2⟩ vs rs => ?_⟩
    obtain ⟨d, e, h2⟩ := Post.opt h2
    refine ⟨G2, z, ds, d, rfl, R2.gs, rs, e, fun G' H' v p r => ?_⟩
    obtain ⟨x3, R3⟩ := R2.pure p
    exact h2 G' H' P2 x3 (Keep.refl _ _) R3 v r
  | _ => exact h1.elim
def sCount (z : Str) : List D → Option D
  | [.str b] => some (.int (Txt.count z b))
  | _ => none
theorem mt_countD : MtS X c "str.count" sCount := mts_of fun G H z xs ds d hs rs e => by
  unfold sCount at e
  split at e
  · obtain ⟨x, rfl, r⟩ := rs.one
    cases r; cases e
    exact ⟨_, mt_count, fun Q q => ⟨_, _, rfl, rfl, q G H _ (Pure.refl hs) (.int _)⟩⟩
  · cases e
def sFind (z : Str) : List D → Option D
  | [.str b, .int i] => some (.int (Txt.find3 z b i))
  | _ => none
theorem mt_findD : MtS X c "str.find" sFind := mts_of fun G H z xs ds d hs rs e => by
  unfold sFind at e
  split at e
  · obtain ⟨x, y, rfl, r1, r2⟩ := rs.two
    cases r1; cases r2; cases e
    exact ⟨_, mt_find3, fun Q q => ⟨_, _, _, rfl, rfl, q G H _ (Pure.refl hs) (.int _)⟩⟩
  · cases e
def D.strs : List D → Option (List Str)
  | [] => some []
  | .str i :: r => (D.strs r).map (i :: ·)
  | _ :: _ => none
theorem strs_rep {K : PySem.W.Frag} {G : Hp} : ∀ {vs : List V} {ds : List D} {ns : List Str}, Reps K c G vs ds → D.strs ds = some ns → vs = ns.map V.str
  | _, _, _, .nil, e => by simp only [D.strs] at e; cases e; rfl
  | _, _, _, .cons h r, e => by
    cases h with
    | str i =>
      simp only [D.strs] at e
      obtain ⟨ms, e1, e2⟩ := Option.map_eq_some_iff.mp e
      cases e2
      rw [strs_rep r e1]
      rfl
    | _ => simp only [D.strs] at e; cases e
def D.seq : D → Option (List D)
  | .lst xs => some xs
  | .ro xs => some xs
  | .tup xs => some xs
  | _ => none
theorem seq_rep {K : PySem.W.Frag} {G H : Hp} (hs : Same G H) {v : V} {d : D} {xs : List D} (r : Rep K c G v d) (e : d.seq = some xs) : ∃ a vs, v = .ref a ∧ (SqL K H a vs ∨ SqT K H a vs) ∧ Reps K c G vs xs := by
  cases r with
  | lst h s => cases e; exact ⟨_, _, rfl, .inl (SqL.of (hs _ _ h)), s⟩
  | ro h s => cases e; exact ⟨_, _, rfl, .inl (hs.seq h), s⟩
  | tup h s => cases e; exact ⟨_, _, rfl, .inr (Same.seqT hs h), s⟩
  | _ => cases e
def sJoin (z : Str) : List D → Option D
  | [x] => x.seq.bind fun xs => (D.strs xs).bind fun ys => if (ys.map (·.length)).sum + ys.length * z.length ≤ 16777216 then some (.str (Txt.join z ys)) else none
  | _ => none
theorem mt_joinD : MtS X c "str.join" sJoin := mts_of fun G H z xs ds d hs rs e => by
  unfold sJoin at e
  split at e
  · obtain ⟨x, rfl, r⟩ := rs.one
    obtain ⟨xs, e1, e⟩ := Option.bind_eq_some_iff.mp e
    obtain ⟨ys, e2, e⟩ := Option.bind_eq_some_iff.mp e
    split at e
    · rename_i hl
      cases e
      obtain ⟨a, vs, rfl, h, s⟩ := seq_rep hs r e1
      have h1 := strs_rep s e2
      subst h1
      exact ⟨_, mt_join, fun Q q => ⟨_, _, _, rfl, rfl, h, hl, q G H _ (Pure.refl hs) (.str _)⟩⟩
    · cases e
  · cases e
end
/-! ### list(x): a new thing of one's own -/
def fList (d : D) : Option (List D) := match d with
  | .lst xs => some xs
  | .ro xs => some xs
  | .tup xs => some xs
  | .str z => if z.length ≤ 16777216 then some (strItems z) else none
  | _ => none
def mList (m : M D) : M Cell := M.bind m fun d => M.bind (M.opt (fList d)) fun xs => M.ret (.lst xs)
section
variable {X : Cx} {c : Cl} {W : WX} {pos p : Pos} {e : Expr} {m : M D}
theorem call_listS : CallR X (.type "list") (fun xs H Q => ∃ z, xs = [.str z] ∧ z.length ≤ sizeLine ∧ X.calm = true ∧ ∀ l, H l = none → Q (.ref l) (upd H l (.lst (z.cps.toList.map fun k => .str ⟨#[k]⟩)))) := by
  intro pins s σ H xs us Q I r h
  obtain ⟨z, rfl, hz, hc, q⟩ := h
  obtain ⟨u, rfl, rx⟩ := vals1 r
  obtain ⟨t, rfl⟩ := rx
  refine call_list_str (I.ok.hd hc) z t (fun h' tk acc c' hk hS ha => ?_) hz
  have hf : H s.heap.objs.size = none := I.hok.fresh (Nat.le_refl _)
  have hlen : acc.toList.length = z.cps.size := by rw [Array.length_toList]; exact ha.1
  refine ⟨.ref s.heap.objs.size, upd H s.heap.objs.size (.lst (z.cps.toList.map fun k => .str ⟨#[k]⟩)), I.laid (t' := tk) hk (Nat.le_refl _) ?_, rfl, q _ hf⟩
  refine ⟨by rw [List.length_map, Array.length_toList]; exact hz, acc.toList, c', ?_, by rw [Array.toArray_toList]; exact hS⟩
  refine vals_of_idx _ _ (by rw [List.length_map, hlen, Array.length_toList]) fun j u hu => ?_
  rw [Array.getElem?_toList] at hu
  obtain ⟨k, t2, e1, e2⟩ := ha.2 j u hu
  refine ⟨.str ⟨#[k]⟩, ?_, ⟨t2, e2⟩⟩
  rw [List.getElem?_map, Array.getElem?_toList, e1]
  rfl
theorem do_list (hm : X.mg "list" = none) (he : PE X e (tE X.K c W m)) (hg : Gl X "list" := by rfl) (hc : X.calm = true := by rfl) (he1 : starEach [e] X.env = (false, eval e X.env) :: starEach [] X.env := by rfl) (hpl : (backTo pos (starEach [] X.env)).any (·.1) = false := by rfl) :
    PE X (.Call (.Name "list" p) [e] [] pos) (tO X.K c W (mList m)) := by
  have hcr : CallR X (.type "list") (fun xs H Q => (∃ p ys, xs = [.ref p] ∧ (SqL X.K H p ys ∨ SqT X.K H p ys) ∧ ∀ l, H l = none → Q (.ref l) (upd H l (.lst ys))) ∨
      (∃ z, xs = [.str z] ∧ z.length ≤ sizeLine ∧ X.calm = true ∧ ∀ l, H l = none → Q (.ref l) (upd H l (.lst (z.cps.toList.map fun k => .str ⟨#[k]⟩))))) := by
    intro pins s σ H xs us Q I r h
    rcases h with h | h
    · exact call_list_of pins s σ H xs us Q I r h
    · exact call_listS pins s σ H xs us Q I r h
  refine PE.weak (pe_callTy hcr hg hm (by decide +kernel) (pa_cons he pa_nil he1) (by decide) (by decide) he1 hpl) fun σ H Q h => ?_
  obtain ⟨F, G, P, env, R, h⟩ := h
  refine ⟨F, G, P, env, R, (Post.bind h).imp fun x G1 H1 P1 _ ⟨env1, R1, h1⟩ v r => ?_⟩
  cases e : fList x with
  | none => rw [e] at h1; exact h1.elim
  | some xs =>
  rw [e] at h1
  have h1 : Post X.K c W F G1 P1 σ env1 (Res.ok (Cell.lst xs) env1) fun z G' H' P' => ∀ v p, CellAt X.K c G' H' p v z → p.Nodup → (∀ b, b ∈ p → F b = none ∧ G' b = none ∧ b ∉ P'.flatten) → Q v H' := h1
  cases r with
  | lst h s => cases e; exact .inl ⟨_, _, rfl, .inl (SqL.of (R1.gs _ _ h)), fun p n => new_cell R1 h1 n (.lst upd_same s)⟩
  | ro h s => cases e; exact .inl ⟨_, _, rfl, .inl (R1.gs.seq h), fun p n => new_cell R1 h1 n (.lst upd_same s)⟩
  | tup h s => cases e; exact .inl ⟨_, _, rfl, .inr (Same.seqT R1.gs h), fun p n => new_cell R1 h1 n (.lst upd_same s)⟩
  | str z =>
    simp only [fList] at e
    split at e
    · rename_i hl
      cases e
      refine .inr ⟨z, rfl, by rw [sizeLine_eq]; exact hl, hc, fun p n => new_cell R1 h1 n (.lst upd_same ?_)⟩
      unfold strItems
      generalize z.cps.toList = l
      induction l with
      | nil => exact .nil
      | cons a l ih => exact .cons (.str _) ih
    · cases e
  | _ => cases e
end
/-! ### enumerate -/
def enumD : Nat → List D → List D
  | _, [] => []
  | n, d :: ds => .tup [.int n, d] :: enumD (n + 1) ds
def mEnum (m : M D) : M (List D) := M.bind m fun d => M.bind (M.opt d.items) fun xs => M.ret (enumD 0 xs)
section
variable {X : Cx} {c : Cl} {W : WX} {pos p tpos : Pos} {e : Expr} {elts : List Expr} {kk : Nat} {m : M D}
theorem enumD_len : ∀ (n : Nat) (ds : List D), (enumD n ds).length = ds.length
  | _, [] => rfl
  | n, _ :: ds => by simp [enumD, enumD_len (n + 1) ds]
theorem enumD_get : ∀ (n : Nat) (ds : List D) (i : Nat), (enumD n ds)[i]? = ds[i]?.map fun d => .tup [.int ((n + i : Nat) : Int), d]
  | _, [], i => by simp [enumD]
  | n, d :: ds, 0 => by simp [enumD]
  | n, d :: ds, i + 1 => by
    simp only [enumD, List.getElem?_cons_succ]
    rw [enumD_get (n + 1) ds i]
    congr 1
    funext d
    rw [show n + 1 + i = n + (i + 1) by omega]
theorem gives_enum {K : PySem.W.Frag} {G0 : Hp} {a : Addr} {vs : List V} {ds : List D} (h : SqL K G0 a vs) (r : Reps K c G0 vs ds) : Gives K c G0 (Ite K a) (enumD 0 ds) := by
  refine ⟨⟨fun H => SqL K H a vs, _, by rw [enumD_len, ← r.length]; exact walk_enum, fun H hs => hs.seq h, fun i H x H' G _ g1 g2 y => ?_⟩⟩
  obtain ⟨T, x1, y1, e1, e2, e3, e4, e5⟩ := y
  subst e1 e3
  obtain ⟨d, e6, rd⟩ := r.get' e5
  cases e4
  refine ⟨upd G T (.tup [.int (i : Nat), y1]), .tup [.int ((0 + i : Nat) : Int), d], by rw [enumD_get, e6]; rfl, Pure.new _ g2 e2, ?_⟩
  rw [Nat.zero_add]
  exact .tup (SqT.of upd_same) (.cons (.int _) (.cons (rd.mono (g1.trans (same_new (none_of g2 e2)))) .nil))
theorem di_enum (hm : X.mg "enumerate" = none) (he : PE X e (tE X.K c W m)) (hg : Gl X "enumerate" := by rfl) (he1 : starEach [e] X.env = (false, eval e X.env) :: starEach [] X.env := by rfl) (hs : starEach [e] X.env = [(false, eval e X.env)] := by rfl) :
    PI X (.Tuple elts kk tpos) (.Call (.Name "enumerate" p) [e] [] pos) (tI X.K c W (mEnum m)) := by
  refine PI.weak (pi_enum hg hm (pa_cons he pa_nil he1) hs) fun σ H R h => ?_
  obtain ⟨F, G, P, env, Rl, h⟩ := h
  refine ⟨F, G, P, env, Rl, (Post.bind h).imp fun x G1 H1 P1 _ ⟨env1, R1, h1⟩ v r => ?_⟩
  cases e : x.items with
  | none => rw [e] at h1; exact h1.elim
  | some xs =>
    rw [e] at h1
    have h2 : Post X.K c W F G1 P1 σ env1 (.ok (enumD 0 xs) env1) _ := h1
    cases r with
    | lst h s => cases e; exact ⟨_, _, rfl, SqL.of (R1.gs _ _ h), Post.here R1 h2 _ (gives_enum (SqL.of h) s)⟩
    | ro h s => cases e; exact ⟨_, _, rfl, R1.gs.seq h, Post.here R1 h2 _ (gives_enum h s)⟩
    | _ => cases e
end
/-- the getter runs -/
theorem get_propG {X : Cx} {pins : List (Addr × Obj)} {σ : St} {H : Hp} {s : Shared} {a C dx p g : Addr} {vs : List (Option V)} {f : Str} {n : Nat} {sp : Sp} {E : XK} {b : Bool} {Q : VK} (I : Inv X pins σ H s) (h : SlX.Slt H a C dx vs) (c : SlX.SCls X.K C) (f1 : PySem.W.findIn X.K (.ref C) f = some (some (.ref p)))
    (f2 : PySem.W.specialIn X.K (.ref p) "__get__" = some (some (.builtin "property.__get__"))) (f3 : PySem.W.takesIn X.K (.ref p) = some true) (f4 : ∃ rest, PySem.W.recIn X.K p "property" = some (.ref g :: rest)) (Fg : FnRG X.prog X.w X.K X.mg X.base (L2.CX X.prog X.w) n g sp) (hr : RoomG (n + 1) X.A)
    (no : ∀ (H : Hp) (s : Shared) (e : Value) (s' : Shared), L2.CX X.prog X.w X.stack H s E e s' → False) (q : sp [.ref a] H Q E) : wpAny (model X.prog X.w) X.A (getAttr (.ref a) f b) (EP X pins σ Q) X.xe s := by
  obtain ⟨sl, od, _, inst, _⟩ := SlX.slt_inst I h
  obtain ⟨more, rec⟩ := f4
  have J : Inv X pins σ H { s with toks := s.toks + 1 } := I.tok (s.toks + 1)
  have pg := PySem.W.plainGet_of (c.get f)
  apply PySem.W.get_bind I.kIn inst pg.1 (PySem.W.findObj_data c.ic f1 f2 f3) pg.2
  apply wpAny_call
  apply PySem.W.prop_get (s := { s with toks := s.toks + 1 }) I.kIn rec
  have go := Fg X.A.in1 X.stack { s with toks := s.toks + 1 } H [.ref a] [.ref a] Q E hr.in1 J.env0.in1 (.cons rfl .nil) q
  refine codeAny_mono go fun res s2 out => ?_
  match res, out with
  | .error e, out => exact (no _ _ _ _ out).elim
  | .ok .next, out => exact out.elim
  | .ok .brk, out => exact out.elim
  | .ok .cont, out => exact out.elim
  | .ok (.ret u), out =>
    obtain ⟨v, H2, J2, rv, hq⟩ := J.after out
    exact wpAny_of_eq (PySem.W.handedOut_of (handed_of rv)) ⟨v, H2, J2, rv, hq⟩
theorem pe_propG {X : Cx} {e : Expr} {f : Str} {pos : Pos} {ta : TE} {C p g : Addr} {n : Nat} {sp : Sp} {E : XK} (he : PE X e ta) (c : SlX.SCls X.K C) (f1 : PySem.W.findIn X.K (.ref C) f = some (some (.ref p))) (f2 : PySem.W.specialIn X.K (.ref p) "__get__" = some (some (.builtin "property.__get__")))
    (f3 : PySem.W.takesIn X.K (.ref p) = some true) (f4 : ∃ rest, PySem.W.recIn X.K p "property" = some (.ref g :: rest)) (Fg : FnRG X.prog X.w X.K X.mg X.base (L2.CX X.prog X.w) n g sp) (hr : RoomG (n + 1) X.A)
    (no : ∀ (H : Hp) (s : Shared) (e : Value) (s' : Shared), L2.CX X.prog X.w X.stack H s E e s' → False) (hb : attributeBase e f X.env (eval e X.env) = eval e X.env := by rfl) : PE X (.Attribute e f pos) (SlX.tPropSl C sp E ta) := by
  constructor
  intro pins s σ H Q I h
  refine attr_of hb (thn (he.run pins s σ H _ I h) fun u s1 z => ?_)
  obtain ⟨x, H1, I1, rx, a, dx, vs, ex, hs, q⟩ := z
  subst ex
  cases (show u = Value.ref a from rx)
  exact get_propG I1 hs c f1 f2 f3 f4 Fg hr no q
/-! ### properties -/
/-- a property of a class: its getter's mirror; it raises nothing -/
structure Pf (P : Program) (w : World) (K : PySem.W.Frag) (mg : Str → Option Value) (base : Heap) (c : Cl) (cl : Nat) (f : Str) (k : Nat) (fn : Fn) : Prop where
  sc : SlX.SCls K (c.cls cl)
  ex : ∃ p g : Addr, PySem.W.findIn K (.ref (c.cls cl)) f = some (some (.ref p)) ∧ PySem.W.specialIn K (.ref p) "__get__" = some (some (.builtin "property.__get__")) ∧ PySem.W.takesIn K (.ref p) = some true ∧
    (∃ rest, PySem.W.recIn K p "property" = some (.ref g :: rest)) ∧ FnRG P w K mg base (L2.CX P w) k g (spD K c 1 fn)
def mProp (cl : Nat) (fn : Fn) (m : M D) : M D := M.bind m fun d env => match d with
  | .obj n _ => if n = cl then match fn [.val d] with
    | .ok d' _ => .ok d' env
    | _ => .bad
    else .bad
  | _ => .bad
section
variable {X : Cx} {c : Cl} {W : WX} {pos : Pos} {e : Expr} {m : M D} {f : Str} {cl k : Nat} {fn : Fn}
theorem de_prop (Pr : Pf X.prog X.w X.K X.mg X.base c cl f k fn) (hr : RoomG (k + 1) X.A) (he : PE X e (tE X.K c W m)) (hb : attributeBase e f X.env (eval e X.env) = eval e X.env := by rfl) : PE X (.Attribute e f pos) (tE X.K c W (mProp cl fn m)) := by
  obtain ⟨sc, p, g, f1, f2, f3, f4, Fg⟩ := Pr
  have hx : ∀ (H : Hp) (s : Shared) (e : Value) (s' : Shared), L2.CX X.prog X.w X.stack H s E0 e s' → False := fun _ _ _ _ h => by
    obtain ⟨_, _, _, _, _, _, _, _, _, _, _, _, z⟩ := h
    exact z.elim
  refine PE.weak (pe_propG he sc f1 f2 f3 f4 Fg hr hx hb) fun σ H Q h => ?_
  obtain ⟨F, G, P, env, R, h⟩ := h
  refine ⟨F, G, P, env, R, (Post.bind h).imp fun x G1 H1 P1 _ ⟨env1, R1, h1⟩ v r => ?_⟩
  cases r with
  | @obj a dx vs fs n hsl rs =>
    dsimp only at h1
    split at h1
    · rename_i hn
      subst hn
      refine ⟨a, dx, _, rfl, Same.slt R1.gs hsl, spD_vals (ds := [.obj n fs]) R1.gs ⟨R1.tb.tabs, R1.tb.ng⟩ (.cons (.obj hsl rs) .nil) rfl ?_⟩
      show match fn [Sl.val (D.obj n fs)] with | .ok d _ => _ | .exc x _ => _ | .bad => False
      cases q : fn [.val (.obj n fs)] with
      | bad => rw [q] at h1; exact h1.elim
      | exc x s => rw [q] at h1; exact h1.elim
      | ok d s =>
        rw [q] at h1
        intro G' H' v pu rv
        obtain ⟨x, R'⟩ := R1.pure pu
        exact h1 G' H' P1 x (Keep.refl _ _) R' v rv
    · exact h1.elim
  | _ => exact h1.elim
end
end L2.DL
set_option Elab.async false
set_option linter.all false
set_option maxRecDepth 100000
set_option maxHeartbeats 4000000
namespace L2.DL
open PySem PySem.Spec PyProof.Rows
section
variable {P : Program} {w : World} {K : PySem.W.Frag} {mg : Str → Option Value} {base : Heap} {c : Cl}
/-! ### from a def's theorem to what its callers ask -/
theorem df_of {x : Str} {k n : Nat} {fn : Fn} {f : Addr} {fd : FuncData} {ps : List Str} (F : FnG P w K mg base (L2.CX P w) k f fd ps (spD K c n fn)) (hb : Binds K fd ps []) (hm : mg x = some (.ref f)) (hk : PySem.W.keepIn K (.ref f) = true) : Df P w K mg base c x k n fn :=
  ⟨f, (F.raw hb .nil).imp fun vs H Q E h => by simpa using h, hm, hk⟩
theorem dfO_of {x : Str} {k n : Nat} {fn : FnO} {f : Addr} {fd : FuncData} {ps : List Str} (F : FnG P w K mg base (L2.CX P w) k f fd ps (spO K c n fn)) (hb : Binds K fd ps []) (hm : mg x = some (.ref f)) (hk : PySem.W.keepIn K (.ref f) = true) : DfO P w K mg base c x k n fn :=
  ⟨f, (F.raw hb .nil).imp fun vs H Q E h => by simpa using h, hm, hk⟩
theorem ck_of {x : Str} {cl k n : Nat} {fn : Fn} {f : Addr} {fd : FuncData} {ps : List Str} (F : FnG P w K mg base (L2.CX P w) k f fd ps (spD K c (n + 1) fn)) (hb : Binds K fd ps []) (hm : mg x = some (.ref (c.cls cl))) (M : Mk K (c.cls cl) f) : Ck P w K mg base c x cl k n fn :=
  ⟨hm, f, M, (F.raw hb .nil).imp fun vs H Q E h => by simpa using h⟩
theorem pf_of {x : Str} {cl k : Nat} {fn : Fn} {p f : Addr} {rest : List Value} {fd : FuncData} {ps : List Str} (F : FnG P w K mg base (L2.CX P w) k f fd ps (spD K c 1 fn)) (hb : Binds K fd ps []) (sc : SlX.SCls K (c.cls cl))
    (h1 : PySem.W.findIn K (.ref (c.cls cl)) x = some (some (.ref p))) (h2 : PySem.W.specialIn K (.ref p) "__get__" = some (some (.builtin "property.__get__"))) (h3 : PySem.W.takesIn K (.ref p) = some true) (h4 : PySem.W.recIn K p "property" = some (.ref f :: rest)) : Pf P w K mg base c cl x k fn :=
  ⟨sc, p, f, h1, h2, h3, ⟨rest, h4⟩, (F.raw hb .nil).imp fun vs H Q E h => by simpa using h⟩
theorem mnil {α : Type} {Q : α → Prop} : ∀ p ∈ ([] : List α), Q p := fun _ h => by cases h
theorem mcons {α : Type} {Q : α → Prop} {a : α} {l : List α} (h : Q a) (t : ∀ p ∈ l, Q p) : ∀ p ∈ a :: l, Q p := fun p hp => by
  rcases List.mem_cons.mp hp with e | e
  · rw [e]; exact h
  · exact t p e
/-- isinstance by two tables -/
def isiT (tb : List (String × Bool)) (to : List (Nat × Bool)) : Tg → Option Bool
  | .b n => tb.lookup n
  | .o k => to.lookup k
theorem isiF_of {u : Value} {tb : List (String × Bool)} {to : List (Nat × Bool)} (h1 : ∀ p ∈ tb, PySem.W.kitOne K (.type p.1) u = some p.2) (h2 : ∀ p ∈ to, PySem.W.kitOne K (.ref (c.cls p.1)) u = some p.2 ∧ SlX.SCls K (c.cls p.1) ∧ SlX.SIsi K (c.cls p.1)) : IsiF K c u (isiT tb to) := by
  have key : ∀ {α β : Type} [BEq α] [LawfulBEq α] {l : List (α × β)} {a : α} {b : β}, l.lookup a = some b → (a, b) ∈ l := by
    intro α β _ _ l
    induction l with
    | nil => intro a b h; cases h
    | cons q l ih =>
      intro a b h
      obtain ⟨q1, q2⟩ := q
      rw [List.lookup_cons] at h
      by_cases e : a = q1
      · subst e
        simp at h
        subst h
        exact List.mem_cons_self
      · rw [beq_false_of_ne e] at h
        exact List.mem_cons_of_mem _ (ih h)
  refine ⟨fun t b h => ?_, fun k b h => (h2 _ (key h)).2⟩
  cases t with
  | b n => exact h1 _ (key h)
  | o k => exact (h2 _ (key h)).1
theorem sf_of {f : Str} {tb : List (Nat × Nat)} (h : ∀ q ∈ tb, SlX.SCls K (c.cls q.1) ∧ ∃ p, SlX.Slot1 K (c.cls q.1) f p q.2) : Sf K c f tb := by
  have key : ∀ {l : List (Nat × Nat)} {a b : Nat}, l.lookup a = some b → (a, b) ∈ l := by
    intro l
    induction l with
    | nil => intro a b h; cases h
    | cons q l ih =>
      intro a b h
      obtain ⟨q1, q2⟩ := q
      rw [List.lookup_cons] at h
      by_cases e : a = q1
      · subst e
        simp at h
        subst h
        exact List.mem_cons_self
      · rw [beq_false_of_ne e] at h
        exact List.mem_cons_of_mem _ (ih h)
  exact ⟨fun n i e => h _ (key e)⟩
end
/-- what is left: the mirror of the law answers True -/
def Good (m : Fn) : Prop := ∀ ns : List Int, ns.length ≤ 63 → ∃ e, m [.val (.ro (ns.map .int))] = .ok (.bl true) e
theorem reps_ints {K : PySem.W.Frag} {c : Cl} {G : Hp} : ∀ ns : List Int, Reps K c G (ns.map V.int) (ns.map D.int)
  | [] => .nil
  | _ :: ns => .cons (.int _) (reps_ints ns)
/-- the law's promise, whatever the numbers of the classes -/
def spLaw (K : PySem.W.Frag) (T : List (Addr × Str)) (m : Fn) : Sp := fun vs H Q E => ∀ c : Cl, c.tb = T → spD K c 1 m vs H Q E
/-- the end -/
theorem walk_of {l : PySem.W.OpenLaw} {k : Nat} {q : Program} {loose : List Str} {XP : (Str → Option Value) → Heap → Prop} {YP : World → Heap → Prop} {d : DefRec} {K : Params → PySem.W.Frag} {m : Fn} (g : Good m)
    (hn : l.most = some 63) (hdf : d.params.defaults = []) (hr : Room k callerA)
    (hY : ∀ (w : World) (h : Heap), YP w h → (K w.params).In h)
    (F : ∀ (w : World) (mg : Str → Option Value) (fa : Addr) (h : Heap), (K w.params).In h → h.Ns mainGlobals mg → mg d.name = some (.ref fa) →
      ∃ fd : FuncData, (∀ (s : Shared) (u : Value), BindsTo s fd ⟨[u], []⟩ [("_law_script", u)]) ∧
        ∀ base : Heap, (K w.params).In base → base.Ns mainGlobals mg → FnG l.prog w (K w.params) mg base (L2.CX l.prog w) k fa fd ["_law_script"] (spLaw (K w.params) [] m)) :
    PySem.W.WalkO q loose XP YP l.row.toRowW d [] (fun f vs => PySem.call f vs) := by
  refine Att.attach_call hn hdf fun w s₀ s₁ mg mb fa o pm cd doc a vs ns Top_ Y _ _ _ hmg at_ hints few nog => ?_
  have inK := hY w _ Y
  obtain ⟨fd, bnd, all⟩ := F w mg fa _ inK Top_.T.g hmg
  refine law_runs (k := k) inK Top_.T.g Top_.T.b Top_.T.builtins Top_.T.nolimit nog at_ hints (Nat.le_trans few (by decide)) hr all bnd fun H hO hS => ?_
  · obtain ⟨e, he⟩ := g ns few
    intro c hc
    have nH : NoT H := fun b ps z => by
      rcases hO b with h | ⟨o, xs, h⟩
      · rw [h] at z; cases z
      · rw [h] at z; cases z
    refine ⟨H, H, [[]], [.val (.ro (ns.map .int))], rfl, ⟨Same.refl H, Same.refl H, .cons (.val (.ro hS (reps_ints ns))) .nil, fun b hb => (by simp at hb), (by simp), ⟨(fun p hp => absurd (by rw [hc] at hp; exact hp) (List.not_mem_nil)), nH, nH⟩⟩, rfl, ?_⟩
    rw [he]
    intro G' H' P' x k R v r
    cases r
    rfl
end L2.DL
set_option Elab.async false
set_option linter.all false
set_option maxRecDepth 100000
set_option maxHeartbeats 4000000
namespace L2.DL
open PySem PySem.Spec PyProof.Rows
/-! ### reckoning with mirrors -/
def Res.bnd {α β : Type} (r : Res α) (f : α → M β) : Res β := match r with
  | .ok a e => f a e
  | .exc x e => .exc x e
  | .bad => .bad
def Res.sq (r : Res Fl) (b : MS) : Res Fl := match r with
  | .ok .next e => b e
  | r => r
/-- it ends well, with .. -/
def Wp {α : Type} (r : Res α) (Q : α → Ev → Prop) : Prop := match r with
  | .ok a e => Q a e
  | _ => False
section
variable {α β : Type} {a : α} {d : D} {e : Ev} {Q : α → Ev → Prop}
@[simp] theorem wp_ok : Wp (.ok a e) Q = Q a e := rfl
@[simp] theorem wp_bad : Wp (.bad : Res α) Q = False := rfl
@[simp] theorem wp_exc {x : Exn} : Wp (.exc x e : Res α) Q = False := rfl
theorem wp_bnd {r : Res α} {f : α → M β} {Q : β → Ev → Prop} : Wp (r.bnd f) Q = Wp r fun a e => Wp (f a e) Q := by
  cases r <;> rfl
theorem wp_mono {r : Res α} {Q R : α → Ev → Prop} (h : Wp r Q) (k : ∀ a e, Q a e → R a e) : Wp r R := by
  cases r with
  | ok a e => exact k a e h
  | exc x e => exact h
  | bad => exact h
theorem wp_eq {r : Res α} {Q : α → Ev → Prop} (h : Wp r Q) : ∃ a e, r = .ok a e ∧ Q a e := by
  cases r with
  | ok a e => exact ⟨a, e, rfl, h⟩
  | exc x e => exact h.elim
  | bad => exact h.elim
@[simp] theorem bnd_ok {f : α → M β} : Res.bnd (.ok a e) f = f a e := rfl
@[simp] theorem bnd_bad {f : α → M β} : Res.bnd .bad f = .bad := rfl
@[simp] theorem bnd_exc {f : α → M β} {x : Exn} : Res.bnd (.exc x e) f = .exc x e := rfl
@[simp] theorem bnd_ite {f : α → M β} {p : Prop} [Decidable p] {x y : Res α} : Res.bnd (if p then x else y) f = if p then x.bnd f else y.bnd f := by split <;> rfl
@[simp] theorem sq_ite {f : MS} {p : Prop} [Decidable p] {x y : Res Fl} : Res.sq (if p then x else y) f = if p then x.sq f else y.sq f := by split <;> rfl
@[simp] theorem ite_app {p : Prop} [Decidable p] {x y : M α} : (if p then x else y) e = if p then x e else y e := by split <;> rfl
@[simp] theorem sq_next {b : MS} : Res.sq (.ok .next e) b = b e := rfl
@[simp] theorem sq_ret {b : MS} {d : D} : Res.sq (.ok (.ret d) e) b = .ok (.ret d) e := rfl
@[simp] theorem sq_retO {b : MS} {z : Cell} : Res.sq (.ok (.retO z) e) b = .ok (.retO z) e := rfl
@[simp] theorem sq_brk {b : MS} : Res.sq (.ok .brk e) b = .ok .brk e := rfl
@[simp] theorem sq_cont {b : MS} : Res.sq (.ok .cont e) b = .ok .cont e := rfl
@[simp] theorem sq_bad {b : MS} : Res.sq .bad b = .bad := rfl
@[simp] theorem ev_ret : M.ret a e = .ok a e := rfl
@[simp] theorem ev_bind {m : M α} {f : α → M β} : M.bind m f e = (m e).bnd f := rfl
@[simp] theorem ev_some : M.opt (some a) e = .ok a e := rfl
@[simp] theorem ev_none : M.opt (none : Option α) e = .bad := rfl
@[simp] theorem opt_ite {p : Prop} [Decidable p] {x y : Option α} : M.opt (if p then x else y) e = if p then M.opt x e else M.opt y e := by split <;> rfl
@[simp] theorem ev_next : M.next e = .ok .next e := rfl
@[simp] theorem ev_C : mC d e = .ok d e := rfl
def nameR (s : Option Sl) (i : Nat) (e : Ev) : Res D := match s with
  | some (.val d) => .ok d e
  | some (.cell false z) => match z.frz with
    | some d => .ok d (e.set i (.val d))
    | none => .bad
  | _ => .bad
@[simp] theorem ev_name {i : Nat} : mName i e = nameR e[i]? i e := rfl
@[simp] theorem name_val {i : Nat} : nameR (some (.val d)) i e = .ok d e := rfl
@[simp] theorem name_lst {i : Nat} {xs : List D} : nameR (some (.cell false (.lst xs))) i e = .ok (.lst xs) (e.set i (.val (.lst xs))) := rfl
@[simp] theorem ev_bin {g : D → D → Option D} {x y : M D} : mBin g x y e = (x e).bnd fun a e => (y e).bnd fun b e => M.opt (g a b) e := rfl
@[simp] theorem ev_un {g : D → Option D} {x : M D} : mUn g x e = (x e).bnd fun a e => M.opt (g a) e := rfl
@[simp] theorem ev_tru {x : M D} : mTru x e = (x e).bnd fun a e => M.opt a.tru e := rfl
@[simp] theorem ev_test {x : M D} : mTest x e = (x e).bnd fun a e => M.opt a.isB e := rfl
@[simp] theorem ev_andT {x y : M Bool} : mAndT x y e = (x e).bnd fun a e => if a = true then y e else .ok false e := by
  show Res.bnd _ _ = _
  congr 1; funext a e; split <;> rfl
@[simp] theorem ev_orT {x y : M Bool} : mOrT x y e = (x e).bnd fun a e => if a = true then .ok true e else y e := by
  show Res.bnd _ _ = _
  congr 1; funext a e; split <;> rfl
@[simp] theorem ev_notT {x : M Bool} : mNotT x e = (x e).bnd fun a e => .ok (!a) e := rfl
@[simp] theorem ev_ofT {x : M Bool} : mOfT x e = (x e).bnd fun a e => .ok (.bl a) e := rfl
@[simp] theorem ev_if {t : M Bool} {x y : M α} : mIf t x y e = (t e).bnd fun a e => if a = true then x e else y e := by
  show Res.bnd _ _ = _
  congr 1; funext a e; split <;> rfl
@[simp] theorem ev_and {x y : M D} : mAnd x y e = (x e).bnd fun a e => Res.bnd (M.opt a.tru e) fun k e => if k = true then y e else .ok a e := by
  show Res.bnd _ _ = _
  congr 1; funext a e; show Res.bnd _ _ = _; congr 1; funext k e; split <;> rfl
@[simp] theorem ev_or {x y : M D} : mOr x y e = (x e).bnd fun a e => Res.bnd (M.opt a.tru e) fun k e => if k = true then .ok a e else y e := by
  show Res.bnd _ _ = _
  congr 1; funext a e; show Res.bnd _ _ = _; congr 1; funext k e; split <;> rfl
@[simp] theorem ev_not {x : M D} : mNot x e = (x e).bnd fun a e => Res.bnd (M.opt a.tru e) fun k e => .ok (.bl (!k)) e := rfl
@[simp] theorem ev_chain {g g' : D → D → Option D} {x y z : M D} : mChain g g' x y z e = (x e).bnd fun a e => (y e).bnd fun b e => (M.opt (g a b) e).bnd fun u e => (M.opt u.isB e).bnd fun k e => if k = true then (z e).bnd fun w e => M.opt (g' b w) e else .ok (.bl false) e := by
  show Res.bnd _ _ = _
  congr 1; funext a e; show Res.bnd _ _ = _; congr 1; funext b e; show Res.bnd _ _ = _; congr 1; funext u e; show Res.bnd _ _ = _; congr 1; funext k e; split <;> rfl
@[simp] theorem tru_bl {b : Bool} : D.tru (.bl b) = some b := rfl
@[simp] theorem tru_int {b : Int} : D.tru (.int b) = some (b != 0) := rfl
@[simp] theorem isB_bl {b : Bool} : D.isB (.bl b) = some b := rfl
@[simp] theorem ev_nil : mNil e = .ok [] e := rfl
@[simp] theorem ev_cons {x : M D} {y : M (List D)} : mCons x y e = (x e).bnd fun a e => (y e).bnd fun b e => .ok (a :: b) e := rfl
@[simp] theorem ev_tup {x : M (List D)} : mTup x e = (x e).bnd fun xs e => if xs.length ≤ 16777216 then .ok (.tup xs) e else .bad := by
  show Res.bnd _ _ = _
  congr 1; funext a e; split <;> rfl
@[simp] theorem ev_lst {x : M (List D)} : mLst x e = (x e).bnd fun xs e => if xs.length ≤ 16777216 then .ok (.lst xs) e else .bad := by
  show Res.bnd _ _ = _
  congr 1; funext a e; split <;> rfl
@[simp] theorem ev_frz {x : M Cell} : mFrz x e = (x e).bnd fun z e => M.opt z.frz e := rfl
@[simp] theorem frz_lst {xs : List D} : Cell.frz (.lst xs) = some (.lst xs) := rfl
@[simp] theorem ev_fn {g : List D → Option D} {x : M (List D)} : mFn g x e = (x e).bnd fun ds e => M.opt (g ds) e := rfl
@[simp] theorem ev_seq {x y : MS} : mSeq x y e = (x e).sq y := by
  show (match x e with | .ok .next e' => y e' | r => r) = (match x e with | .ok .next e => y e | r => r)
  rfl
@[simp] theorem ev_mret {x : M D} : mRet x e = (x e).bnd fun d e => .ok (.ret d) e := rfl
@[simp] theorem ev_retO {x : M Cell} : mRetO x e = (x e).bnd fun d e => .ok (.retO d) e := rfl
@[simp] theorem ev_expr {x : M D} : mExpr x e = (x e).bnd fun _ e => .ok .next e := rfl
def updR (o : Option Ev) : Res Fl := match o with
  | some e' => .ok .next e'
  | none => .bad
@[simp] theorem updR_some : updR (some e) = .ok .next e := rfl
@[simp] theorem ev_upd {f : Ev → Option Ev} : M.upd f e = updR (f e) := rfl
def setR (s : Option Sl) (i : Nat) (v : Sl) (e : Ev) : Option Ev := match s with
  | some (.cell true _) => none
  | some _ => some (e.set i v)
  | none => none
@[simp] theorem ev_setSl {i : Nat} {v : Sl} : setSl i v e = setR e[i]? i v e := rfl
@[simp] theorem setR_no {i : Nat} {v : Sl} : setR (some .no) i v e = some (e.set i v) := rfl
@[simp] theorem setR_val {i : Nat} {v : Sl} : setR (some (.val d)) i v e = some (e.set i v) := rfl
@[simp] theorem setR_cell {i : Nat} {v : Sl} {z : Cell} : setR (some (.cell false z)) i v e = some (e.set i v) := rfl
@[simp] theorem ev_set {i : Nat} {x : M D} : mSet i x e = (x e).bnd fun d e => updR (setR e[i]? i (.val d) e) := rfl
@[simp] theorem ev_setO {i : Nat} {x : M Cell} : mSetO i x e = (x e).bnd fun d e => updR (setR e[i]? i (.cell false d) e) := rfl
@[simp] theorem outs_nil {e : Ev} : outs [] e = [] := by simp [outs]
@[simp] theorem outs_val {d : D} {r : List Sl} {s : Sl} {e : Ev} : outs (.val d :: r) (s :: e) = .no :: outs r e := rfl
@[simp] theorem outs_no {r : List Sl} {s : Sl} {e : Ev} : outs (.no :: r) (s :: e) = .no :: outs r e := rfl
@[simp] theorem outs_cell {z z' : Cell} {r : List Sl} {e : Ev} : outs (.cell true z :: r) (.cell true z' :: e) = .cell true z' :: outs r e := rfl
def endR (sls : List Sl) (r : Res Fl) : Res D := match r with
  | .ok (.ret d) e => .ok d (outs sls e)
  | .ok .next e => .ok .non (outs sls e)
  | .ok _ _ => .bad
  | .exc x e => .exc x (outs sls e)
  | .bad => .bad
@[simp] theorem ev_def {n : Nat} {b : MS} {sls : List Sl} : mDef n b sls = endR sls (b (sls ++ List.replicate (n - sls.length) .no)) := rfl
@[simp] theorem end_ret {sls : List Sl} : endR sls (.ok (.ret d) e) = .ok d (outs sls e) := rfl
@[simp] theorem end_next {sls : List Sl} : endR sls (.ok .next e) = .ok .non (outs sls e) := rfl
@[simp] theorem end_bad {sls : List Sl} : endR sls .bad = .bad := rfl
@[simp] theorem end_ite {p : Prop} [Decidable p] {x y : Res Fl} {sls : List Sl} : endR sls (if p then x else y) = if p then endR sls x else endR sls y := by split <;> rfl
def endO (r : Res Fl) : Res Cell := match r with
  | .ok (.retO z) e => .ok z e
  | .exc x e => .exc x e
  | _ => .bad
@[simp] theorem ev_defO {n : Nat} {b : MS} {ds : List D} : mDefO n b ds = endO (b (ds.map .val ++ List.replicate (n - ds.length) .no)) := by
  show (match b (ds.map .val ++ List.replicate (n - ds.length) .no) with | .ok (.retO z) e => Res.ok z e | .exc x e => .exc x e | _ => .bad) = _
  rfl
@[simp] theorem endO_ret {z : Cell} : endO (.ok (.retO z) e) = .ok z e := rfl
def callR (r : Res D) (e : Ev) : Res D := match r with
  | .ok d _ => .ok d e
  | .exc x _ => .exc x e
  | .bad => .bad
@[simp] theorem ev_call {f : Fn} {x : M (List D)} : mCall f x e = (x e).bnd fun ds e => callR (f (ds.map .val)) e := rfl
@[simp] theorem callR_ok {e1 : Ev} : callR (.ok d e1) e = .ok d e := rfl
@[simp] theorem callR_ite {p : Prop} [Decidable p] {x y : Res D} : callR (if p then x else y) e = if p then callR x e else callR y e := by split <;> rfl
theorem wp_callR {r : Res D} {Q : D → Ev → Prop} : Wp (callR r e) Q = Wp r fun d _ => Q d e := by cases r <;> rfl
def callOR (r : Res Cell) (e : Ev) : Res Cell := match r with
  | .ok z _ => .ok z e
  | .exc x _ => .exc x e
  | .bad => .bad
@[simp] theorem ev_callO {f : FnO} {x : M (List D)} : mCallO f x e = (x e).bnd fun ds e => callOR (f ds) e := rfl
@[simp] theorem callOR_ok {z : Cell} {e1 : Ev} : callOR (.ok z e1) e = .ok z e := rfl
def lentR (r : Res D) (i : Nat) (l : Bool) (e : Ev) : Res D := match r with
  | .ok d (.cell true z' :: _) => .ok d (e.set i (.cell l z'))
  | .exc x (.cell true z' :: _) => .exc x (e.set i (.cell l z'))
  | _ => .bad
def lentF (f : Fn) (s : Option Sl) (ds : List D) (i : Nat) (e : Ev) : Res D := match s with
  | some (.cell l z) => lentR (f (.cell true z :: ds.map .val)) i l e
  | _ => .bad
def lentG (f : Fn) (s : Option Sl) (x : M (List D)) (i : Nat) (e : Ev) : Res D := match s with
  | some (.cell _ _) => (x e).bnd fun ds e => lentF f e[i]? ds i e
  | _ => .bad
@[simp] theorem ev_callL {f : Fn} {i : Nat} {x : M (List D)} : mCallL f i x e = lentG f e[i]? x i e := by
  cases he : e[i]? with
  | none => unfold mCallL; rw [he]; rfl
  | some s =>
    cases s with
    | no => unfold mCallL; rw [he]; rfl
    | val d => unfold mCallL; rw [he]; rfl
    | cell l z =>
      unfold mCallL
      rw [he]
      show Res.bnd (x e) _ = Res.bnd (x e) _
      refine congrArg (Res.bnd (x e)) (funext fun ds => funext fun e1 => ?_)
      unfold lentF
      cases e1[i]? with
      | none => rfl
      | some s1 =>
        cases s1 with
        | no => rfl
        | val d => rfl
        | cell l1 z1 =>
          dsimp only
          generalize f (.cell true z1 :: ds.map .val) = r
          cases r with
          | bad => rfl
          | ok d q =>
            cases q with
            | nil => rfl
            | cons a t =>
              cases a with
              | no => rfl
              | val d => rfl
              | cell k z => cases k <;> rfl
          | exc d q =>
            cases q with
            | nil => rfl
            | cons a t =>
              cases a with
              | no => rfl
              | val d => rfl
              | cell k z => cases k <;> rfl
@[simp] theorem lentG_cell {f : Fn} {i : Nat} {l : Bool} {z : Cell} {x : M (List D)} : lentG f (some (.cell l z)) x i e = (x e).bnd fun ds e => lentF f e[i]? ds i e := rfl
@[simp] theorem lentF_cell {f : Fn} {i : Nat} {l : Bool} {z : Cell} {ds : List D} : lentF f (some (.cell l z)) ds i e = lentR (f (.cell true z :: ds.map .val)) i l e := rfl
@[simp] theorem lentR_ok {i : Nat} {l : Bool} {z : Cell} {r : List Sl} : lentR (.ok d (.cell true z :: r)) i l e = .ok d (e.set i (.cell l z)) := rfl
def makeR (cl : Nat) (r : Res D) (e : Ev) : Res D := match r with
  | .ok .non (.cell true z :: _) => M.opt z.frz e
  | .exc x (.cell true _ :: _) => .exc x e
  | _ => .bad
@[simp] theorem ev_make {cl : Nat} {f : Fn} {x : M (List D)} : mMake cl f x e = (x e).bnd fun ds e => makeR cl (f (.cell true (.ob cl []) :: ds.map .val)) e := by
  show Res.bnd _ _ = _
  refine congrArg (Res.bnd (x e)) (funext fun ds => funext fun e1 => ?_)
  generalize f (.cell true (.ob cl []) :: ds.map .val) = r
  unfold makeR
  cases r with
  | bad => rfl
  | ok d q =>
    cases q with
    | nil => cases d <;> rfl
    | cons a t =>
      cases a with
      | no => cases d <;> rfl
      | val v => cases d <;> rfl
      | cell k z =>
        cases k with
        | false => cases d <;> rfl
        | true =>
          cases d with
          | non => show (match Cell.frz _ with | some d => Res.ok d e1 | none => .bad) = M.opt _ e1; cases Cell.frz z <;> rfl
          | _ => rfl
  | exc d q =>
    cases q with
    | nil => rfl
    | cons a t =>
      cases a with
      | no => rfl
      | val d => rfl
      | cell k z => cases k <;> rfl
@[simp] theorem makeR_ok {cl : Nat} {z : Cell} {r : List Sl} : makeR cl (.ok .non (.cell true z :: r)) e = M.opt z.frz e := rfl
def attrR (tb : List (Nat × Nat)) (d : D) (e : Ev) : Res D := match d with
  | .obj n fs => match tb.lookup n with
    | some i => M.opt fs[i]? e
    | none => .bad
  | _ => .bad
@[simp] theorem ev_attr {tb : List (Nat × Nat)} {x : M D} : mAttr tb x e = (x e).bnd fun d e => attrR tb d e := by
  show Res.bnd _ _ = _
  congr 1; funext d e
  unfold attrR
  cases d with
  | obj n fs => dsimp only; cases tb.lookup n <;> rfl
  | _ => rfl
@[simp] theorem attrR_obj {tb : List (Nat × Nat)} {n : Nat} {fs : List D} : attrR tb (.obj n fs) e = match tb.lookup n with
    | some i => M.opt fs[i]? e
    | none => .bad := rfl
def setFR (s : Option Sl) (j cl i : Nat) (d : D) (e : Ev) : Res Fl := match s with
  | some (.cell l (.ob n fs)) => if n = cl then .ok .next (e.set j (.cell l (.ob cl (putO i d fs)))) else .bad
  | _ => .bad
@[simp] theorem ev_setF {j cl i : Nat} {x : M D} : mSetF j cl i x e = (x e).bnd fun d e => setFR e[j]? j cl i d e := rfl
@[simp] theorem setFR_ob {j cl i : Nat} {fs : List (Option D)} {l : Bool} : setFR (some (.cell l (.ob cl fs))) j cl i d e = .ok .next (e.set j (.cell l (.ob cl (putO i d fs)))) := if_pos rfl
@[simp] theorem ev_asg {x : M D} {g : TgM} : mAsg x g e = (x e).bnd fun d e => updR (g d e) := rfl
@[simp] theorem ev_gSet {i : Nat} : gSet i d e = setR e[i]? i (.val d) e := rfl
@[simp] theorem ev_gTup {n : Nat} {u : TgMs} {ds : List D} : gTupD n u (.tup ds) e = if ds.length = n then u ds e else none := rfl
@[simp] theorem ev_gsNil : gsNil [] e = some e := rfl
def gsR (o : Option Ev) (u : TgMs) (ds : List D) : Option Ev := match o with
  | some e' => u ds e'
  | none => none
@[simp] theorem ev_gsCons {t : TgM} {u : TgMs} {ds : List D} : gsCons t u (d :: ds) e = gsR (t d e) u ds := rfl
@[simp] theorem gsR_some {u : TgMs} {ds : List D} : gsR (some e) u ds = u ds e := rfl
@[simp] theorem ev_iter {x : M D} : mIter x e = (x e).bnd fun d e => M.opt d.its e := rfl
@[simp] theorem ev_range {x : M (List D)} : mRange x e = (x e).bnd fun d e => M.opt (fRange d) e := rfl
@[simp] theorem ev_for {mi : M (List D)} {tg : TgM} {b : MS} : mFor mi tg b e = (mi e).bnd fun ds e => forL tg b ds e := rfl
@[simp] theorem ev_yes : mYes e = .ok true e := rfl
@[simp] theorem ev_lc {mi : M (List D)} {vs : List Nat} {tg : TgM} {t : M Bool} {el : M D} : mLc mi vs tg t el e = (mi e).bnd fun ds e => if noCells vs e then lcL vs tg t el ds [] (wipeE vs e) else .bad := rfl
def appR (s : Option Sl) (i : Nat) (d : D) (e : Ev) : Res D := match s with
  | some (.cell l (.lst xs)) => if xs.length < 16777216 then .ok .non (e.set i (.cell l (.lst (xs ++ [d])))) else .bad
  | _ => .bad
def isL (s : Option Sl) : Bool := match s with
  | some (.cell _ (.lst _)) => true
  | _ => false
@[simp] theorem isL_lst {l : Bool} {xs : List D} : isL (some (.cell l (.lst xs))) = true := rfl
theorem isL_spec {s : Option Sl} (h : isL s = true) : ∃ l xs, s = some (.cell l (.lst xs)) := by
  cases s with
  | none => cases h
  | some s =>
    cases s with
    | no => cases h
    | val d => cases h
    | cell l z => cases z with
      | lst xs => exact ⟨l, xs, rfl⟩
      | dct _ => cases h
      | ob _ _ => cases h
theorem ev_append {i : Nat} {x : M D} (h : isL e[i]? = true) : mAppend i x e = (x e).bnd fun d e => appR e[i]? i d e := by
  obtain ⟨l, xs, he⟩ := isL_spec h
  unfold mAppend
  rw [he]
  show Res.bnd (x e) _ = _
  refine congrArg (Res.bnd (x e)) (funext fun ds => funext fun e1 => ?_)
  cases e1[i]? with
  | none => rfl
  | some s1 =>
    cases s1 with
    | no => rfl
    | val d => rfl
    | cell l1 z1 => cases z1 <;> rfl
@[simp] theorem appR_lst {i : Nat} {l : Bool} {xs : List D} : appR (some (.cell l (.lst xs))) i d e = if xs.length < 16777216 then .ok .non (e.set i (.cell l (.lst (xs ++ [d])))) else .bad := rfl
def lenR (s : Option Sl) (e : Ev) : Res D := match s with
  | some (.cell _ (.lst xs)) => .ok (.int xs.length) e
  | _ => .bad
@[simp] theorem ev_lenC {i : Nat} : mLenC i e = lenR e[i]? e := rfl
@[simp] theorem lenR_lst {l : Bool} {xs : List D} : lenR (some (.cell l (.lst xs))) e = .ok (.int xs.length) e := rfl
def popAtR (s : Option Sl) (i : Nat) (d : D) (e : Ev) : Res D := match d, s with
    | .int k, some (.cell l (.lst xs)) => match ixN xs.length k with
      | some j => match xs[j]? with
        | some d => if xs.length ≤ 16777216 then .ok d (e.set i (.cell l (.lst (xs.eraseIdx j)))) else .bad
        | none => .bad
      | none => .bad
    | _, _ => .bad
theorem ev_popAt {i : Nat} {x : M D} (h : isL e[i]? = true) : mPopAt i x e = (x e).bnd fun d e => popAtR e[i]? i d e := by
  obtain ⟨l, xs, he⟩ := isL_spec h
  unfold mPopAt
  rw [he]
  show Res.bnd (x e) _ = _
  refine congrArg (Res.bnd (x e)) (funext fun d => funext fun e1 => ?_)
  cases d with
  | int k =>
    cases e1[i]? with
    | none => rfl
    | some s1 =>
      cases s1 with
      | no => rfl
      | val d => rfl
      | cell l1 z1 => cases z1 <;> rfl
  | _ => rfl
def ixR (s : Option Sl) (d : D) (e : Ev) : Res D := match d, s with
    | .int k, some (.cell _ (.lst xs)) => M.opt (atI xs k) e
    | _, _ => .bad
theorem ev_ixC {i : Nat} {x : M D} (h : isL e[i]? = true) : mIxC i x e = (x e).bnd fun d e => ixR e[i]? d e := by
  obtain ⟨l, xs, he⟩ := isL_spec h
  unfold mIxC
  rw [he]
  show Res.bnd (x e) _ = _
  refine congrArg (Res.bnd (x e)) (funext fun d => funext fun e1 => ?_)
  cases d with
  | int k =>
    cases e1[i]? with
    | none => rfl
    | some s1 =>
      cases s1 with
      | no => rfl
      | val d => rfl
      | cell l1 z1 =>
        cases z1 with
        | lst xs => show (match atI xs k with | some d => Res.ok d e1 | none => .bad) = M.opt (atI xs k) e1; cases atI xs k <;> rfl
        | _ => rfl
  | _ => rfl
@[simp] theorem ixR_lst {l : Bool} {xs : List D} {k : Int} : ixR (some (.cell l (.lst xs))) (.int k) e = M.opt (atI xs k) e := rfl
def setIxR (s : Option Sl) (i : Nat) (d k : D) (e : Ev) : Res Fl := match k, s with
    | .int k, some (.cell l (.lst xs)) => match ixN xs.length k with
      | some j => .ok .next (e.set i (.cell l (.lst (xs.set j d))))
      | none => .bad
    | _, _ => .bad
def setIxG (s : Option Sl) (i : Nat) (d : D) (mk : M D) (e : Ev) : Res Fl := if isL s = true then (mk e).bnd fun k e => setIxR e[i]? i d k e else .bad
@[simp] theorem ev_setIx {i : Nat} {mk x : M D} : mSetIx i mk x e = (x e).bnd fun d e => setIxG e[i]? i d mk e := by
  show Res.bnd _ _ = _
  congr 1
  funext d e
  unfold setIxG isL
  cases e[i]? with
  | none => rfl
  | some s =>
    cases s with
    | cell l z => cases z <;> rfl
    | _ => rfl
@[simp] theorem setIxG_lst {i : Nat} {l : Bool} {xs : List D} {mk : M D} : setIxG (some (.cell l (.lst xs))) i d mk e = (mk e).bnd fun k e => setIxR e[i]? i d k e := rfl
@[simp] theorem setIxR_lst {i : Nat} {l : Bool} {xs : List D} {k : Int} : setIxR (some (.cell l (.lst xs))) i d (.int k) e = match ixN xs.length k with
      | some j => .ok .next (e.set i (.cell l (.lst (xs.set j d))))
      | none => .bad := rfl
@[simp] theorem ev_part_none : mPart none e = .ok none e := rfl
def partR (d : D) (e : Ev) : Res (Option Int) := match d with
  | .int k => .ok (some k) e
  | _ => .bad
@[simp] theorem ev_part_some {m : M D} : mPart (some m) e = (m e).bnd fun d e => partR d e := by
  show Res.bnd _ _ = _
  congr 1; funext d e; cases d <;> rfl
@[simp] theorem partR_int {k : Int} : partR (.int k) e = .ok (some k) e := rfl
@[simp] theorem ev_sl {m : M D} {lo hi : Option (M D)} : mSl m lo hi e = (m e).bnd fun d e => (mPart lo e).bnd fun l e => (mPart hi e).bnd fun h e => M.opt (dSl l h d) e := rfl
@[simp] theorem ev_inl {m : M D} : mInl m e = (m e).bnd fun d e => .ok (.inl d) e := rfl
@[simp] theorem ev_inr {m : M Cell} : mInr m e = (m e).bnd fun d e => .ok (.inr d) e := rfl
@[simp] theorem ev_pvNil : pvNil e = .ok [] e := rfl
@[simp] theorem ev_pvCons {m : M PV} {ms : M (List PV)} : pvCons m ms e = (m e).bnd fun d e => (ms e).bnd fun ds e => .ok (d :: ds) e := rfl
@[simp] theorem ev_par {is : List Nat} {ms : M (List PV)} : mPar is ms e = (ms e).bnd fun ps e => updR (setPVs is ps e) := rfl
def pvsR (o : Option Ev) (is : List Nat) (ps : List PV) : Option Ev := match o with
  | some e' => setPVs is ps e'
  | none => none
@[simp] theorem pvs_nil : setPVs [] [] e = some e := rfl
@[simp] theorem pvs_cons {i : Nat} {is : List Nat} {p : PV} {ps : List PV} : setPVs (i :: is) (p :: ps) e = pvsR (setPV i p e) is ps := rfl
@[simp] theorem pvsR_some {is : List Nat} {ps : List PV} : pvsR (some e) is ps = setPVs is ps e := rfl
@[simp] theorem pv_inl {i : Nat} : setPV i (.inl d) e = setR e[i]? i (.val d) e := rfl
@[simp] theorem pv_inr {i : Nat} {z : Cell} : setPV i (.inr z) e = setR e[i]? i (.cell false z) e := rfl
def augR (s : Option Sl) (i : Nat) (g : D → D → Option D) (m : M D) (e : Ev) : Res Fl := match s with
  | some (.val d0) => (m e).bnd fun d e => (M.opt (g d0 d) e).bnd fun r e => updR (setR e[i]? i (.val r) e)
  | _ => .bad
@[simp] theorem ev_aug {i : Nat} {g : D → D → Option D} {m : M D} : mAug i g m e = augR e[i]? i g m e := rfl
@[simp] theorem augR_val {i : Nat} {g : D → D → Option D} {m : M D} {d0 : D} : augR (some (.val d0)) i g m e = (m e).bnd fun d e => (M.opt (g d0 d) e).bnd fun r e => updR (setR e[i]? i (.val r) e) := rfl
@[simp] theorem ev_isi {g : Tg → Option Bool} {m : M D} : mIsi g m e = (m e).bnd fun d e => M.opt ((d.tg.bind g).map .bl) e := rfl
def methR (g : Str → List D → Option D) (d : D) (ms : M (List D)) (e : Ev) : Res D := match d with
  | .str z => (ms e).bnd fun ds e => M.opt (g z ds) e
  | _ => .bad
@[simp] theorem ev_meth {g : Str → List D → Option D} {m : M D} {ms : M (List D)} : mMeth g m ms e = (m e).bnd fun d e => methR g d ms e := by
  show Res.bnd _ _ = _
  congr 1; funext d e; cases d <;> rfl
@[simp] theorem methR_str {g : Str → List D → Option D} {z : Str} {ms : M (List D)} : methR g (.str z) ms e = (ms e).bnd fun ds e => M.opt (g z ds) e := rfl
@[simp] theorem ev_list {m : M D} : mList m e = (m e).bnd fun d e => (M.opt (fList d) e).bnd fun xs e => .ok (.lst xs) e := rfl
@[simp] theorem ev_enum {m : M D} : mEnum m e = (m e).bnd fun d e => (M.opt d.items e).bnd fun xs e => .ok (enumD 0 xs) e := rfl
def propR (cl : Nat) (fn : Fn) (d : D) (e : Ev) : Res D := match d with
  | .obj n _ => if n = cl then match fn [.val d] with
    | .ok d' _ => .ok d' e
    | _ => .bad
    else .bad
  | _ => .bad
@[simp] theorem ev_prop {cl : Nat} {fn : Fn} {m : M D} : mProp cl fn m e = (m e).bnd fun d e => propR cl fn d e := rfl
@[simp] theorem propR_obj {cl : Nat} {fn : Fn} {fs : List D} {d' : D} {e1 : Ev} (h : fn [.val (.obj cl fs)] = .ok d' e1) : propR cl fn (.obj cl fs) e = .ok d' e := by
  show (if cl = cl then _ else _) = _
  rw [if_pos rfl, h]
/-! operations -/
@[simp] theorem dSub_int {a b : Int} : dSub (.int a) (.int b) = some (.int (a - b)) := rfl
@[simp] theorem dAdd_int {a b : Int} : dAdd (.int a) (.int b) = some (.int (a + b)) := rfl
@[simp] theorem dAddI_int {a b : Int} : dAddI (.int a) (.int b) = some (.int (a + b)) := rfl
@[simp] theorem dAdd_str {a b : Str} : dAdd (.str a) (.str b) = if a.length + b.length ≤ 16777216 then some (.str (a ++ b)) else none := rfl
@[simp] theorem dAdd_lst {a b : List D} : dAdd (.lst a) (.lst b) = if a.length + b.length ≤ 16777216 then some (.lst (a ++ b)) else none := rfl
@[simp] theorem dAdd_tup {a b : List D} : dAdd (.tup a) (.tup b) = if a.length + b.length ≤ 16777216 then some (.tup (a ++ b)) else none := rfl
@[simp] theorem dMul_int {a b : Int} : dMul (.int a) (.int b) = if a.natAbs.log2 + b.natAbs.log2 < 1000000 then some (.int (a * b)) else none := rfl
@[simp] theorem dMul_str {a : Str} {b : Int} : dMul (.str a) (.int b) = if b ≤ 1000000 ∧ -1000000 ≤ b ∧ a.length ≤ 10 then some (.str (strRep a b.toNat)) else none := rfl
@[simp] theorem dMul_lst {a : List D} {b : Int} : dMul (.lst a) (.int b) = if -(2 ^ 63) ≤ b ∧ b < 2 ^ 63 ∧ a.length * b.toNat ≤ 16777216 then some (.lst (List.replicate b.toNat a).flatten) else none := rfl
@[simp] theorem dNeg_int {a : Int} : dNeg (.int a) = some (.int (-a)) := rfl
@[simp] theorem dLt_int {a b : Int} : dLt (.int a) (.int b) = some (.bl (decide (a < b))) := rfl
@[simp] theorem dLe_int {a b : Int} : dLe (.int a) (.int b) = some (.bl (decide (a ≤ b))) := rfl
@[simp] theorem dGt_int {a b : Int} : dGt (.int a) (.int b) = some (.bl (decide (b < a))) := rfl
@[simp] theorem dGe_int {a b : Int} : dGe (.int a) (.int b) = some (.bl (decide (b ≤ a))) := rfl
@[simp] theorem dEq_int {a b : Int} : dEq (.int a) (.int b) = some (.bl (decide (a = b))) := rfl
@[simp] theorem dNe_int {a b : Int} : dNe (.int a) (.int b) = some (.bl (!decide (a = b))) := rfl
@[simp] theorem dEq_str {a b : Str} : dEq (.str a) (.str b) = some (.bl (decide (a = b))) := rfl
@[simp] theorem dNe_str {a b : Str} : dNe (.str a) (.str b) = some (.bl (!decide (a = b))) := rfl
@[simp] theorem dEq_bl {a b : Bool} : dEq (.bl a) (.bl b) = some (.bl (decide (a = b))) := rfl
theorem dMod_pos {a b : Int} (h : 0 < b) : dMod (.int a) (.int b) = some (.int (a % b)) := if_pos h
theorem dDiv_pos {a b : Int} (h : 0 < b) (h2 : b.natAbs.log2 < 9000) : dDiv (.int a) (.int b) = some (.int (a / b)) := if_pos ⟨h, h2⟩
theorem dPow_nn {a b : Int} (h : 0 ≤ b) (h2 : b ≤ 1000000) (h3 : a.natAbs < 2 ^ 64) : dPow (.int a) (.int b) = some (.int (a ^ b.toNat)) := if_pos ⟨h, h2, h3⟩
@[simp] theorem fLen_str {x : Str} : fLen [.str x] = if x.length ≤ 16777216 then some (.int x.length) else none := rfl
@[simp] theorem fLen_lst {x : List D} : fLen [.lst x] = some (.int x.length) := rfl
@[simp] theorem fLen_ro {x : List D} : fLen [.ro x] = some (.int x.length) := rfl
@[simp] theorem fLen_tup {x : List D} : fLen [.tup x] = some (.int x.length) := rfl
@[simp] theorem fAbs_int {i : Int} : fAbs [.int i] = some (.int (if i < 0 then -i else i)) := rfl
@[simp] theorem fInt_int {i : Int} : fInt [.int i] = some (.int i) := rfl
@[simp] theorem fInt_bl {k : Bool} : fInt [.bl k] = some (.int (if k then 1 else 0)) := rfl
@[simp] theorem fMax_int {a b : Int} : fMax [.int a, .int b] = some (.int (if b > a then b else a)) := rfl
@[simp] theorem fMin_int {a b : Int} : fMin [.int a, .int b] = some (.int (if b < a then b else a)) := rfl
@[simp] theorem fGcd_int {a b : Int} : fGcd [.int a, .int b] = some (.int ((Nat.gcd a.natAbs b.natAbs : Nat) : Int)) := rfl
@[simp] theorem fTuple_lst {xs : List D} : fTuple [.lst xs] = some (.tup xs) := rfl
@[simp] theorem fTuple_tup {xs : List D} : fTuple [.tup xs] = some (.tup xs) := rfl
@[simp] theorem its_lst {xs : List D} : D.its (.lst xs) = some xs := rfl
@[simp] theorem its_ro {xs : List D} : D.its (.ro xs) = some xs := rfl
@[simp] theorem its_tup {xs : List D} : D.its (.tup xs) = some xs := rfl
@[simp] theorem its_str {z : Str} : D.its (.str z) = some (strItems z) := rfl
@[simp] theorem items_lst {xs : List D} : D.items (.lst xs) = some xs := rfl
@[simp] theorem items_ro {xs : List D} : D.items (.ro xs) = some xs := rfl
@[simp] theorem seq_lst {xs : List D} : D.seq (.lst xs) = some xs := rfl
@[simp] theorem fList_lst {xs : List D} : fList (.lst xs) = some xs := rfl
@[simp] theorem fList_tup {xs : List D} : fList (.tup xs) = some xs := rfl
@[simp] theorem fList_str {z : Str} : fList (.str z) = if z.length ≤ 16777216 then some (strItems z) else none := rfl
@[simp] theorem ints_nil : D.ints [] = some [] := rfl
end
/-! loops -/
/-- with an invariant over the items that are left; R: what a return gives -/
theorem wp_forL {tg : TgM} {b : MS} {I : List D → Ev → Prop} {Q : Fl → Ev → Prop} (hq : ∀ e, I [] e → Q .next e)
    (h : ∀ d ds e, I (d :: ds) e → ∃ e1, tg d e = some e1 ∧ Wp (b e1) fun fl e2 => match fl with
      | .next => I ds e2
      | .cont => I ds e2
      | .brk => Q .next e2
      | fl => Q fl e2) : ∀ (ds : List D) (e : Ev), I ds e → Wp (forL tg b ds e) Q := by
  intro ds
  induction ds with
  | nil => intro e hi; exact hq e hi
  | cons d ds ih =>
    intro e hi
    obtain ⟨e1, h1, h2⟩ := h d ds e hi
    show Wp (match tg d e with | some e1 => _ | none => _) Q
    rw [h1]
    dsimp only
    cases hb : b e1 with
    | bad => rw [hb] at h2; exact h2
    | exc x e2 => rw [hb] at h2; exact h2
    | ok fl e2 =>
      rw [hb] at h2
      cases fl with
      | next => exact ih e2 h2
      | cont => exact ih e2 h2
      | brk => exact h2
      | ret d => exact h2
      | retO z => exact h2
end L2.DL
set_option Elab.async false
set_option linter.all false
set_option maxRecDepth 100000
set_option maxHeartbeats 4000000
namespace L2.DL
open PySem PySem.Spec PyProof.Rows PySem.Builtin PySem.Builtin.Str
/-! ### strings as lists of signs -/
def S (l : List Nat) : Str := ⟨l.toArray⟩
@[simp] theorem S_len {l : List Nat} : (S l).length = l.length := by show l.toArray.size = _; simp
@[simp] theorem S_app {a b : List Nat} : S a ++ S b = S (a ++ b) := by
  show (⟨a.toArray ++ b.toArray⟩ : Str) = ⟨(a ++ b).toArray⟩
  simp
@[simp] theorem S_items {l : List Nat} : strItems (S l) = l.map fun k => .str (S [k]) := by
  show List.map _ (l.toArray.toList) = _
  rfl
@[simp] theorem S_inj {a b : List Nat} : S a = S b ↔ a = b := by
  constructor
  · intro h
    have := congrArg (fun s : Str => s.cps.toList) h
    simpa [S] using this
  · intro h; rw [h]
@[simp] theorem S_eta {s : Str} : S s.cps.toList = s := by
  cases s; simp [S]
@[simp] theorem S_rep {n : Nat} {l : List Nat} : strRep (S l) n = S (List.replicate n l).flatten := rfl
@[simp] theorem S_cps {l : List Nat} : (S l).cps.toList = l := by simp [S]
theorem S_cut_from {l : List Nat} {k : Nat} (h : k ≤ l.length) : cutS (S l) (some (k : Int)) none = S (l.drop k) := by
  unfold cutS
  rw [S_cps, S_len, HT.sIx_nat, HT.sIx_none, Nat.min_eq_left h]
  show S _ = S _
  rw [S_inj, List.take_of_length_le (by simp)]
theorem S_cut_to {l : List Nat} {k : Nat} (h : k ≤ l.length) : cutS (S l) none (some (k : Int)) = S (l.take k) := by
  unfold cutS
  rw [S_cps, S_len, HT.sIx_nat, HT.sIx_none, Nat.min_eq_left h]
  show S _ = S _
  rw [S_inj]
  simp
theorem L_cut_from {l : List D} {k : Nat} (h : k ≤ l.length) : cutD l (some (k : Int)) none = l.drop k := by
  unfold cutD
  rw [HT.sIx_nat, HT.sIx_none, Nat.min_eq_left h, List.take_of_length_le (by simp)]
theorem L_cut_to {l : List D} {k : Nat} (h : k ≤ l.length) : cutD l none (some (k : Int)) = l.take k := by
  unfold cutD
  rw [HT.sIx_nat, HT.sIx_none, Nat.min_eq_left h]
  simp
theorem S_count {l : List Nat} {c : Nat} : Txt.count (S l) (S [c]) = (l.count c : Int) := by
  rw [show S [c] = ⟨#[c]⟩ from rfl, count_cnt, S_cps]
  induction l with
  | nil => rfl
  | cons n r ih =>
    rw [cnt_cons, ih, List.count_cons]
    by_cases h : n = c <;> simp [h] <;> omega
theorem S_join {l : List Nat} : Txt.join (S []) (l.map fun k => S [k]) = S l := by
  show glued _ _ = _
  unfold glued
  have key : ∀ (l : List Nat) (acc : Array Nat), (l.map fun k => S [k]).foldl (fun acc p => acc ++ (S []).cps ++ p.cps) acc = acc ++ l.toArray := by
    intro l
    induction l with
    | nil => intro acc; simp
    | cons n r ih =>
      intro acc
      rw [List.map_cons, List.foldl_cons, ih]
      simp [S]
  cases l with
  | nil => rfl
  | cons n r =>
    simp only [List.map_cons, List.drop_succ_cons, List.drop_zero, List.headD_cons]
    rw [key]
    simp [S]
@[simp] theorem strs_map {l : List Nat} : D.strs (l.map fun k => .str (S [k])) = some (l.map fun k => S [k]) := by
  induction l with
  | nil => rfl
  | cons n r ih => show (D.strs (r.map _)).map _ = _; rw [ih]; rfl
theorem S_sumlen {l : List Nat} : ((l.map fun k => S [k]).map (·.length)).sum = l.length := by
  induction l with
  | nil => rfl
  | cons n r ih => rw [List.map_cons, List.map_cons, List.sum_cons, ih]; simp; omega
theorem sJoin_signs {l : List Nat} (h : l.length ≤ 16777216) : sJoin (S []) [.lst (l.map fun k => .str (S [k]))] = some (.str (S l)) := by
  show ((D.strs (l.map fun k => .str (S [k]))).bind _) = _
  rw [strs_map]
  show (if ((l.map fun k => S [k]).map (·.length)).sum + (l.map fun k => S [k]).length * (S []).length ≤ 16777216 then _ else _) = _
  rw [if_pos, S_join]
  rw [S_sumlen, S_len]
  simpa using h
@[simp] theorem sCount_sign {l : List Nat} {c : Nat} : sCount (S l) [.str (S [c])] = some (.int (l.count c : Int)) := by
  show some (D.int (Txt.count _ _)) = _
  rw [S_count]
/-- does y stand in x at i -/
def atL (x y : List Nat) (i : Nat) : Prop := (x.drop i).take y.length = y
theorem at_iff {x y : List Nat} {i : Nat} : StrLaws.At (S x) (S y) x.length i ↔ i + y.length ≤ x.length ∧ atL x y i := by
  unfold StrLaws.At atL subAt
  rw [S_len]
  apply and_congr_right
  intro h
  rw [beq_iff_eq]
  constructor
  · intro h
    have := congrArg Array.toList h
    simp [S] at this
    exact this
  · intro h
    apply Array.ext'
    simp [S]
    exact h
theorem S_find1 {x y : List Nat} {p : Nat} (hp : 1 ≤ p) (h1 : p + y.length ≤ x.length) (h2 : atL x y p) (h3 : ∀ k, 1 ≤ k → k < p → ¬ atL x y k) : sFind (S x) [.str (S y), .int 1] = some (.int p) := by
  show some (D.int (Txt.find3 _ _ 1)) = _
  unfold Txt.find3
  have hf : fromIndex (S x).length 1 = 1 := rfl
  rw [hf]
  have key := StrLaws.occ_head_from (S x) (S y) 1 1 (Nat.le_refl _)
  have hat : StrLaws.At (S x) (S y) (S x).length p := by rw [S_len]; exact at_iff.mpr ⟨h1, h2⟩
  rcases key with ⟨_, hn⟩ | ⟨i, r, e, hi, ha, hn⟩
  · exact absurd hat (hn p hp)
  · rw [e]
    rw [S_len] at ha hn
    have hi2 := at_iff.mp ha
    have : i = p := by
      rcases Nat.lt_trichotomy i p with h | h | h
      · exact absurd hi2.2 (h3 i hi h)
      · exact h
      · exact absurd (at_iff.mpr ⟨h1, h2⟩) (hn p hp h)
    rw [this]
end L2.DL
namespace L2.DL
open PySem PySem.Spec PyProof.Rows PySem.Builtin PySem.Builtin.Str
theorem pys_ints {ns : List Int} : D.pys (ns.map .int) = some (ns.map .int) := by
  induction ns with
  | nil => simp [D.pys]
  | cons n ns ih => rw [List.map_cons, D.pys]; simp [D.py, ih]
theorem lay_ints {ns : List Int} : PyData.canLayAll0 (ns.map .int) = true := by
  induction ns with
  | nil => simp [PyData.canLayAll0]
  | cons n ns ih => simp [PyData.canLayAll0, PyData.canLay0, ih]
theorem depth_ints {ns : List Int} : PyData.depthAll (ns.map .int) = 0 := by
  induction ns with
  | nil => simp [PyData.depthAll]
  | cons n ns ih => simp [PyData.depthAll, PyData.depth, ih]
theorem eqv_ints {ns ms : List Int} : PyData.eqvAll (ns.map .int) (ms.map .int) = decide (ns = ms) := by
  induction ns generalizing ms with
  | nil => cases ms <;> simp [PyData.eqvAll]
  | cons n ns ih =>
    cases ms with
    | nil => simp [PyData.eqvAll]
    | cons m ms =>
      simp only [List.map_cons, PyData.eqvAll, PyData.eqv, ih, List.cons.injEq]
      by_cases h : n = m <;> simp [h]
@[simp] theorem dEq_tups {a b : List Int} : dEq (.tup (a.map .int)) (.tup (b.map .int)) = some (.bl (decide (a = b))) := by
  have h : dEqv (.tup (a.map .int)) (.tup (b.map .int)) = some (decide (a = b)) := by
    show ((D.py (.tup (a.map .int))).bind fun p => (D.py (.tup (b.map .int))).bind fun q => if SeqAt.shaped p && SeqAt.shaped q then some (PyData.eqv p q) else none) = _
    simp [D.py, pys_ints, SeqAt.shaped, PyData.canLay0, lay_ints, PyData.depth, depth_ints, PyData.eqv, eqv_ints]
  unfold dEq
  rw [h]
  rfl
@[simp] theorem dNe_tups {a b : List Int} : dNe (.tup (a.map .int)) (.tup (b.map .int)) = some (.bl (!decide (a = b))) := by
  have h : dEqv (.tup (a.map .int)) (.tup (b.map .int)) = some (decide (a = b)) := by
    show ((D.py (.tup (a.map .int))).bind fun p => (D.py (.tup (b.map .int))).bind fun q => if SeqAt.shaped p && SeqAt.shaped q then some (PyData.eqv p q) else none) = _
    simp [D.py, pys_ints, SeqAt.shaped, PyData.canLay0, lay_ints, PyData.depth, depth_ints, PyData.eqv, eqv_ints]
  unfold dNe
  rw [h]
  rfl
/-! ### comprehensions whose parts are pure -/
theorem lc_pure {vs : List Nat} {tg : TgM} {t : M Bool} {el : M D} {e : Ev} {p : D → Bool} {f : D → D} : ∀ (ds acc : List D), acc.length + ds.length ≤ 16777216 →
    (∀ d ∈ ds, ∃ e1 e2, tg d e = some e1 ∧ t e1 = .ok (p d) e2 ∧ (p d = true → ∃ e3, el e2 = .ok (f d) e3 ∧ noCells vs e3 = true ∧ wipeE vs e3 = e) ∧ (p d = false → noCells vs e2 = true ∧ wipeE vs e2 = e)) →
    lcL vs tg t el ds acc e = .ok (.lst (acc ++ (ds.filter p).map f)) e := by
  intro ds
  induction ds with
  | nil => intro acc _ _; simp [lcL]
  | cons d ds ih =>
    intro acc hl h
    obtain ⟨e1, e2, h1, h2, h3, h4⟩ := h d List.mem_cons_self
    simp only [List.length_cons] at hl
    unfold lcL
    rw [h1]
    dsimp only
    rw [h2]
    cases hp : p d with
    | true =>
      obtain ⟨e3, k1, k2, k3⟩ := h3 hp
      dsimp only
      rw [k1]
      dsimp only
      rw [if_pos ⟨by omega, k2⟩, k3, ih (acc ++ [f d]) (by simp; omega) fun d' hd => h d' (List.mem_cons_of_mem _ hd)]
      simp [List.filter_cons, hp]
    | false =>
      obtain ⟨k2, k3⟩ := h4 hp
      dsimp only
      rw [if_pos k2, k3, ih acc (by omega) fun d' hd => h d' (List.mem_cons_of_mem _ hd)]
      simp [List.filter_cons, hp]
/-! ### turned lists -/
def r1 {α : Type} : List α → List α
  | [] => []
  | x :: t => t ++ [x]
def it {α : Type} : Nat → List α → List α
  | 0, l => l
  | k + 1, l => it k (r1 l)
theorem r1_len {α : Type} {l : List α} : (r1 l).length = l.length := by cases l <;> simp [r1]
theorem it_len {α : Type} : ∀ (k : Nat) (l : List α), (it k l).length = l.length
  | 0, _ => rfl
  | k + 1, l => by show (it k (r1 l)).length = _; rw [it_len k, r1_len]
theorem it_add {α : Type} : ∀ (a b : Nat) (l : List α), it b (it a l) = it (a + b) l
  | 0, b, l => by rw [Nat.zero_add]; rfl
  | a + 1, b, l => by
    show it b (it a (r1 l)) = _
    rw [it_add a b, Nat.add_right_comm]
    rfl
theorem it_comm {α : Type} (a b : Nat) (l : List α) : it b (it a l) = it a (it b l) := by rw [it_add, it_add, Nat.add_comm]
theorem it_is {α : Type} : ∀ (k : Nat) (l : List α), k ≤ l.length → it k l = l.drop k ++ l.take k
  | 0, l, _ => by simp [it]
  | k + 1, [], h => by simp at h
  | k + 1, x :: t, h => by
    show it k (t ++ [x]) = _
    rw [it_is k (t ++ [x]) (by simp at h ⊢; omega)]
    simp at h
    rw [List.drop_append_of_le_length h, List.take_append_of_le_length h]
    simp
theorem it_all {α : Type} (l : List α) : it l.length l = l := by rw [it_is _ _ (Nat.le_refl _)]; simp
theorem it_mul {α : Type} {p : Nat} {l : List α} (h : it p l = l) : ∀ q, it (q * p) l = l
  | 0 => by rw [Nat.zero_mul]; rfl
  | q + 1 => by rw [Nat.succ_mul, ← it_add, it_mul h q, h]
/-- the least turn that gives the list again -/
structure IsPer {α : Type} (l : List α) (p : Nat) : Prop where
  pos : 1 ≤ p
  le : p ≤ l.length
  eq : it p l = l
  least : ∀ k, 1 ≤ k → k < p → it k l ≠ l
theorem isPer_ex {α : Type} {l : List α} (h : 1 ≤ l.length) : ∃ p, IsPer l p := by
  have key : ∀ n, (∃ k, 1 ≤ k ∧ k ≤ n ∧ it k l = l) → ∃ p, 1 ≤ p ∧ p ≤ n ∧ it p l = l ∧ ∀ k, 1 ≤ k → k < p → it k l ≠ l := by
    intro n
    induction n with
    | zero => rintro ⟨k, h1, h2, _⟩; omega
    | succ n ih =>
      rintro ⟨k, h1, h2, h3⟩
      by_cases hx : ∃ k, 1 ≤ k ∧ k ≤ n ∧ it k l = l
      · obtain ⟨p, a, b, c, d⟩ := ih hx
        exact ⟨p, a, by omega, c, d⟩
      · refine ⟨n + 1, by omega, Nat.le_refl _, ?_, fun j hj1 hj2 e => hx ⟨j, hj1, by omega, e⟩⟩
        have : k = n + 1 := by
          rcases Nat.lt_or_ge n k with h | h
          · omega
          · exact absurd ⟨k, h1, h, h3⟩ hx
        rw [← this]; exact h3
  obtain ⟨p, a, b, c, d⟩ := key l.length ⟨l.length, h, Nat.le_refl _, it_all l⟩
  exact ⟨p, a, b, c, d⟩
theorem isPer_dvd {α : Type} {l : List α} {p : Nat} (h : IsPer l p) : l.length % p = 0 := by
  have hp : 0 < p := h.pos
  rcases Nat.eq_zero_or_pos (l.length % p) with e | e
  · exact e
  · exfalso
    refine h.least (l.length % p) e (Nat.mod_lt _ hp) ?_
    have h1 : it (l.length / p * p + l.length % p) l = l := by
      rw [Nat.div_add_mod' l.length p]; exact it_all l
    rw [← it_add, it_mul h.eq] at h1
    exact h1
theorem it_back {α : Type} {l : List α} {k : Nat} (hk : k ≤ l.length) {x : Nat} : it x (it k l) = it k l ↔ it x l = l := by
  constructor
  · intro h
    have h2 := congrArg (it (l.length - k)) h
    rw [it_comm x, it_add k, show k + (l.length - k) = l.length by omega, it_all] at h2
    exact h2
  · intro h
    rw [it_comm, h]
theorem isPer_it {α : Type} {l : List α} {p k : Nat} (h : IsPer l p) (hk : k ≤ l.length) : IsPer (it k l) p :=
  ⟨h.pos, by rw [it_len]; exact h.le, (it_back hk).mpr h.eq, fun j h1 h2 e => h.least j h1 h2 ((it_back hk).mp e)⟩
theorem isPer_at {l : List Nat} {k : Nat} (hk : k ≤ l.length) : atL (l ++ l) l k ↔ it k l = l := by
  unfold atL
  rw [it_is k l hk, List.drop_append_of_le_length hk]
  rw [List.take_append]
  rw [List.take_of_length_le (by simp)]
  have : l.length - (l.drop k).length = k := by simp; omega
  rw [this]
theorem isPer_find {l : List Nat} {p : Nat} (h : IsPer l p) : sFind (S (l ++ l)) [.str (S l), .int 1] = some (.int p) :=
  S_find1 h.pos (by rw [List.length_append]; have := h.le; omega) ((isPer_at h.le).mpr h.eq) fun k h1 h2 e => h.least k h1 h2 ((isPer_at (by have := h.le; omega)).mp e)
theorem per_take {α : Type} {l : List α} {p : Nat} (h : it p l = l) (hp : p ≤ l.length) : ∀ j, j * p + p ≤ l.length → l.take (j * p + p) = l.take p ++ l.take (j * p) := by
  intro j hj
  have e : l.drop p ++ l.take p = l := by rw [← it_is p l hp]; exact h
  have h1 : (l.drop p).take (j * p) = l.take (j * p) := by
    have h2 : l.take (j * p) = (l.drop p ++ l.take p).take (j * p) := by rw [e]
    rw [h2, List.take_append_of_le_length (by simp; omega)]
  rw [Nat.add_comm, List.take_add, h1]
theorem per_count {l : List Nat} {p c : Nat} (h : it p l = l) (hp : p ≤ l.length) : ∀ j, j * p ≤ l.length → (l.take (j * p)).count c = j * (l.take p).count c := by
  intro j
  induction j with
  | zero => intro _; simp
  | succ j ih =>
    intro hj
    rw [Nat.succ_mul] at hj ⊢
    rw [per_take h hp j hj, List.count_append, ih (by omega), Nat.succ_mul, Nat.add_comm]
theorem per_dvd {l : List Nat} {p : Nat} (h : IsPer l p) (c : Nat) : l.count c = l.length / p * (l.take p).count c := by
  have h0 := isPer_dvd h
  have h1 : l.length / p * p = l.length := by rw [Nat.div_mul_cancel (Nat.dvd_of_mod_eq_zero h0)]
  have := per_count (c := c) h.eq h.le (l.length / p) (by omega)
  rw [h1, List.take_length] at this
  exact this
theorem fRange_n {n : Nat} (h : n ≤ 1000000) : fRange [.int n] = some ((List.range n).map fun i => .int (i : Nat)) := by
  show (if -4611686018427387904 ≤ (n : Int) ∧ (n : Int) < 4611686018427387904 then some (rangeD 0 n) else none) = _
  rw [if_pos ⟨by omega, by omega⟩]
  simp [rangeD]
theorem fRange_1 {n : Nat} (h : n ≤ 1000000) : fRange [.int 1, .int ((n : Int) + 1)] = some ((List.range n).map fun i => .int ((i + 1 : Nat) : Int)) := by
  show (if -4611686018427387904 ≤ (1 : Int) ∧ (1 : Int) < 4611686018427387904 ∧ -4611686018427387904 ≤ (n : Int) + 1 ∧ (n : Int) + 1 < 4611686018427387904 then some (rangeD 1 (n + 1)) else none) = _
  rw [if_pos ⟨by omega, by omega, by omega, by omega⟩]
  have : ((n : Int) + 1 - 1).toNat = n := by omega
  simp only [rangeD, this, Option.some.injEq]
  apply List.map_congr_left
  intro i _
  rw [show (1 : Int) + (i : Nat) = ((i + 1 : Nat) : Int) by omega]
theorem forL_next {tg : TgM} {b : MS} {d : D} {ds : List D} {e e1 e2 : Ev} (h1 : tg d e = some e1) (h2 : b e1 = .ok .next e2) : forL tg b (d :: ds) e = forL tg b ds e2 := by
  show (match tg d e with | some e1 => _ | none => _) = _
  rw [h1]
  dsimp only
  rw [h2]
theorem forL_ret {tg : TgM} {b : MS} {d r : D} {ds : List D} {e e1 e2 : Ev} (h1 : tg d e = some e1) (h2 : b e1 = .ok (.ret r) e2) : forL tg b (d :: ds) e = .ok (.ret r) e2 := by
  show (match tg d e with | some e1 => _ | none => _) = _
  rw [h1]
  dsimp only
  rw [h2]
@[simp] theorem forL_nil {tg : TgM} {b : MS} {e : Ev} : forL tg b [] e = .ok .next e := rfl
/-- .. where test and item leave everything as it is -/
theorem lc_same {vs : List Nat} {tg : TgM} {t : M Bool} {el : M D} {e : Ev} {p : D → Bool} {f : D → D} (E : D → Ev) (ds : List D) (hl : ds.length ≤ 16777216)
    (h : ∀ d ∈ ds, tg d e = some (E d) ∧ t (E d) = .ok (p d) (E d) ∧ (p d = true → el (E d) = .ok (f d) (E d)) ∧ noCells vs (E d) = true ∧ wipeE vs (E d) = e) : lcL vs tg t el ds [] e = .ok (.lst ((ds.filter p).map f)) e := by
  have := lc_pure (vs := vs) (tg := tg) (t := t) (el := el) (e := e) (p := p) (f := f) ds [] (by simpa using hl) fun d hd => by
    obtain ⟨h1, h2, h3, h4, h5⟩ := h d hd
    exact ⟨E d, E d, h1, h2, fun hp => ⟨E d, h3 hp, h4, h5⟩, fun _ => ⟨h4, h5⟩⟩
  simpa using this
end L2.DL
set_option Elab.async false
set_option linter.all false
set_option maxRecDepth 100000
set_option maxHeartbeats 4000000
namespace L2.DL
open PySem PySem.Spec PyProof.Rows
/-! ### math.comb -/
def rComb : List V → Hp → VK → Prop := fun vs H Q => ∃ a b : Int, vs = [.int a, .int b] ∧ 0 ≤ a ∧ 0 ≤ b ∧ a ≤ 18000 ∧ Q (.int (PySem.W.mcComb a b)) H
theorem cr_comb {X : Cx} : CallR X (.builtin "math.comb") rComb := by
  intro pins s σ H vs us Q I r h
  obtain ⟨a, b, rfl, ha, hb, h1, q⟩ := h
  obtain ⟨t, u, rfl⟩ := Vals.int2 r
  exact PySem.W.mc_comb ha hb (by omega) (.inr h1) fun _ => ⟨.int _, H, I.tok _, ⟨_, rfl⟩, q⟩
def fComb : List D → Option D
  | [.int a, .int b] => if 0 ≤ a ∧ 0 ≤ b ∧ a ≤ 18000 then some (.int (PySem.W.mcComb a b)) else none
  | _ => none
theorem cd_comb {X : Cx} {c : Cl} : CallD X c (.builtin "math.comb") fComb := calld_of fun G H xs ds d hs rs e => by
  unfold fComb at e
  split at e
  · split at e
    · rename_i hc
      obtain ⟨x, y, rfl, r1, r2⟩ := rs.two
      cases r1; cases r2; cases e
      exact ⟨_, cr_comb, fun Q q => ⟨_, _, rfl, hc.1, hc.2.1, hc.2.2, q G H _ (Pure.refl hs) (.int _)⟩⟩
    · cases e
  · cases e
/-! ### all, any over a list of truth values -/
def D.bools : List D → Option (List Bool)
  | [] => some []
  | .bl b :: r => (D.bools r).map (b :: ·)
  | _ :: _ => none
theorem bools_rep {K : PySem.W.Frag} {c : Cl} {G : Hp} : ∀ {vs : List V} {ds : List D} {bs : List Bool}, Reps K c G vs ds → D.bools ds = some bs → vs = bs.map V.bl := by
  intro vs ds
  induction ds generalizing vs with
  | nil => intro bs r e; cases r; cases e; rfl
  | cons d ds ih =>
    intro bs r e
    cases r with
    | cons h t =>
      cases d with
      | bl b =>
        unfold D.bools at e
        obtain ⟨bs', e1, rfl⟩ := Option.map_eq_some_iff.mp e
        cases h
        rw [ih t e1]
        rfl
      | _ => cases e
def fAll : List D → Option D
  | [x] => x.items.bind fun xs => (D.bools xs).map fun bs => .bl (bs.all id)
  | _ => none
def fAny : List D → Option D
  | [x] => x.items.bind fun xs => (D.bools xs).map fun bs => .bl (bs.any id)
  | _ => none
section
variable {X : Cx} {c : Cl}
theorem cd_all (hc : X.calm = true) : CallD X c (.builtin "all") fAll := calld_of fun G H xs ds d hs rs e => by
  unfold fAll at e
  split at e
  · obtain ⟨x, rfl, r⟩ := rs.one
    obtain ⟨ys, e1, e⟩ := Option.bind_eq_some_iff.mp e
    obtain ⟨bs, e2, e⟩ := Option.map_eq_some_iff.mp e
    cases e
    obtain ⟨a, vs, rfl, h, s⟩ := items_rep hs r e1
    have h1 := bools_rep s e2
    subst h1
    exact ⟨_, cr_all hc, fun Q q => ⟨_, _, rfl, h, q G H _ (Pure.refl hs) (.bl _)⟩⟩
  · cases e
theorem cd_any (hc : X.calm = true) : CallD X c (.builtin "any") fAny := calld_of fun G H xs ds d hs rs e => by
  unfold fAny at e
  split at e
  · obtain ⟨x, rfl, r⟩ := rs.one
    obtain ⟨ys, e1, e⟩ := Option.bind_eq_some_iff.mp e
    obtain ⟨bs, e2, e⟩ := Option.map_eq_some_iff.mp e
    cases e
    obtain ⟨a, vs, rfl, h, s⟩ := items_rep hs r e1
    have h1 := bools_rep s e2
    subst h1
    exact ⟨_, cr_any hc, fun Q q => ⟨_, _, rfl, h, q G H _ (Pure.refl hs) (.bl _)⟩⟩
  · cases e
end
/-! ### methods of own classes with slots -/
structure Mf (P : Program) (w : World) (K : PySem.W.Frag) (mg : Str → Option Value) (base : Heap) (c : Cl) (cl : Nat) (m : Str) (k n : Nat) (fn : Fn) : Prop where
  sc : SlX.SCls K (c.cls cl)
  ex : ∃ f : Addr, Meth K (c.cls cl) m f ∧ FnRG P w K mg base (L2.CX P w) k f (spD K c n fn)
theorem mf_of {P : Program} {w : World} {K : PySem.W.Frag} {mg : Str → Option Value} {base : Heap} {c : Cl} {m : Str} {cl k n : Nat} {fn : Fn} {f : Addr} {fd : FuncData} {ps : List Str} (F : FnG P w K mg base (L2.CX P w) k f fd ps (spD K c n fn)) (hb : Binds K fd ps []) (sc : SlX.SCls K (c.cls cl)) (M : Meth K (c.cls cl) m f) : Mf P w K mg base c cl m k n fn :=
  ⟨sc, f, M, (F.raw hb .nil).imp fun vs H Q E h => by simpa using h⟩
/-- o.m(..) -/
def mMth (cl : Nat) (fn : Fn) (o : M D) (ms : M (List D)) : M D := M.bind o fun x => match x with
  | .obj n fs => if n = cl then M.bind ms fun ds env => match fn (.val (.obj n fs) :: ds.map .val) with
    | .ok d _ => .ok d env
    | .exc x _ => .exc x env
    | .bad => .bad
    else fun _ => .bad
  | _ => fun _ => .bad
section
variable {X : Cx} {c : Cl} {W : WX} {pos p apos : Pos} {e o : Expr} {es : List Expr} {ms : M (List D)} {mo : M D} {m : Str} {cl k n : Nat} {fn : Fn} {t : TA} {ta : TE}
def tMthS (C : Addr) (sp : Sp) (E : St → XK) (ta : TE) (t : TA) : TE := fun σ H Q => ta σ H fun x H1 => ∃ a dx vs, x = .ref a ∧ SlX.Slt H1 a C dx vs ∧ t σ H1 fun ws H2 => sp (x :: ws) H2 Q (E σ)
theorem pe_mthR {C g : Addr} {sp : Sp} {E : St → XK} {pl : Sem Bool} (he : PE X o ta) (sc : SlX.SCls X.K C) (hm : Meth X.K C m g) (F : FnRG X.prog X.w X.K X.mg X.base (L2.CX X.prog X.w) k g sp) (hr : RoomG k X.A) (hx : ∀ σ, PassesAt (L2.CX X.prog X.w) X σ (E σ)) (ha : PA X (e :: es) t)
    (hst : starEach (e :: es) X.env = (false, eval e X.env) :: starEach es X.env := by rfl) (hpl : (backTo pos (starEach es X.env)).any (·.1) = false := by rfl)
    (ht : eval (.Call (.Attribute o m apos) (e :: es) [] pos) X.env = (do
      let ov ← eval o X.env
      standAt apos.atName
      let (f, first) ← holding [ov] (getMethod ov m pl)
      callWith pos f first (backTo pos (starEach (e :: es) X.env)) (backToKw pos (keywordEach [] X.env))) := by rfl) :
    PE X (.Call (.Attribute o m apos) (e :: es) [] pos) (tMthS C sp E ta t) := by
  refine ⟨fun pins s σ H Q I h => ?_⟩
  refine PySem.W.methodCall_KW (pl := pl) (thn (he.run pins s σ H _ I h) fun u s1 ⟨x, H1, I1, rx, a, dx, vs, ex, hsl, q⟩ => ?_) ht
  subst ex
  obtain rfl : u = Value.ref a := rx
  refine SlX.getmethsl_ok I1 hsl sc hm ?_
  refine PySem.W.callWith_K (first := [.ref a]) (h₀ := X.base) I.ok.mod.kin hm.kp (thn (ha.run pos pins s1 σ H1 _ I1 q) fun us s2 ⟨ws, H2, I2, r, q2⟩ => ⟨I2.kIn, ?_⟩) hst hpl
  exact run_R (us := .ref a :: us) (vs := .ref a :: ws) F hr (hx σ) I2 (.cons rfl r) q2
theorem pe_mthR0 {C g : Addr} {sp : Sp} {E : St → XK} {pl : Sem Bool} (he : PE X o ta) (sc : SlX.SCls X.K C) (hm : Meth X.K C m g) (F : FnRG X.prog X.w X.K X.mg X.base (L2.CX X.prog X.w) k g sp) (hr : RoomG k X.A) (hx : ∀ σ, PassesAt (L2.CX X.prog X.w) X σ (E σ))
    (ht : eval (.Call (.Attribute o m apos) [] [] pos) X.env = (do
      let ov ← eval o X.env
      standAt apos.atName
      let (f, first) ← holding [ov] (getMethod ov m pl)
      callWith pos f first (backTo pos (starEach [] X.env)) (backToKw pos (keywordEach [] X.env))) := by rfl) :
    PE X (.Call (.Attribute o m apos) [] [] pos) (tMthS C sp E ta tNil) := by
  refine ⟨fun pins s σ H Q I h => ?_⟩
  refine PySem.W.methodCall_KW (pl := pl) (thn (he.run pins s σ H _ I h) fun u s1 ⟨x, H1, I1, rx, a, dx, vs, ex, hsl, q⟩ => ?_) ht
  subst ex
  obtain rfl : u = Value.ref a := rx
  refine SlX.getmethsl_ok I1 hsl sc hm ?_
  exact PySem.W.callWith_K0 (first := [.ref a]) I1.kIn hm.kp (run_R (us := [.ref a]) (vs := [.ref a]) F hr (hx σ) I1 (.cons rfl .nil) q)
theorem call_obj {F G H : Hp} {P : List (List Addr)} {σ : St} {env : Ev} {vs : List V} {v : V} {fs ds : List D} {Q : VK} {n : Nat} (R : Rel X.K c F G H P σ env) (r0 : Rep X.K c G v (.obj cl fs)) (r : Reps X.K c G vs ds) (hn : ds.length + 1 = n)
    (h : Post X.K c W F G P σ env (match fn (.val (.obj cl fs) :: ds.map .val) with | .ok d _ => .ok d env | .exc x _ => .exc x env | .bad => .bad) fun d G' H' _ => ∀ v, Rep X.K c G' v d → Q v H') :
    spD X.K c n fn (v :: vs) H Q (WE W σ) := call_vals (ds := .obj cl fs :: ds) R (.cons r0 r) hn h
theorem de_mth {pl : Sem Bool} (Mt : Mf X.prog X.w X.K X.mg X.base c cl m k (n + 1) fn) (tk : Takes X W) (hr : RoomG k X.A) (hl : ML n ms) (he : PE X o (tE X.K c W mo)) (ha : PA X (e :: es) (tA X.K c W ms))
    (hst : starEach (e :: es) X.env = (false, eval e X.env) :: starEach es X.env := by rfl) (hpl : (backTo pos (starEach es X.env)).any (·.1) = false := by rfl)
    (ht : eval (.Call (.Attribute o m apos) (e :: es) [] pos) X.env = (do
      let ov ← eval o X.env
      standAt apos.atName
      let (f, first) ← holding [ov] (getMethod ov m pl)
      callWith pos f first (backTo pos (starEach (e :: es) X.env)) (backToKw pos (keywordEach [] X.env))) := by rfl) :
    PE X (.Call (.Attribute o m apos) (e :: es) [] pos) (tE X.K c W (mMth cl fn mo ms)) := by
  obtain ⟨sc, g, hm, Fg⟩ := Mt
  refine PE.weak (pe_mthR (pl := pl) (E := WE W) he sc hm Fg hr (fun σ => passAt tk σ) ha hst hpl ht) fun σ H Q h => ?_
  obtain ⟨F, G, P, env, R, h⟩ := h
  refine ⟨F, G, P, env, R, (Post.bind h).imp fun x G1 H1 P1 _ ⟨env1, R1, h1⟩ v r => ?_⟩
  cases r with
  | @obj a dx vs fs n' hsl rs =>
    dsimp only at h1
    split at h1
    · rename_i hn
      subst hn
      refine ⟨a, dx, _, rfl, Same.slt R1.gs hsl, F, G1, P1, env1, R1, ?_⟩
      have h1 : Post X.K c W F G1 P1 σ env1 (M.bind ms _ env1) _ := h1
      unfold M.bind at h1
      cases q : ms env1 with
      | bad => rw [q] at h1; exact h1
      | exc xx e1 => rw [q] at h1; exact h1
      | ok ds e1 =>
        rw [q] at h1
        exact fun G2 H2 P2 x2 k2 R2 ws rw2 => call_obj R2 (.obj (Same.slt x2.same hsl) (rs.mono x2.same)) rw2 (by rw [hl _ _ _ q]) (Post.chain h1 x2 k2)
    · exact h1.elim
  | _ => exact h1.elim
theorem de_mth0 {pl : Sem Bool} (Mt : Mf X.prog X.w X.K X.mg X.base c cl m k 1 fn) (tk : Takes X W) (hr : RoomG k X.A) (he : PE X o (tE X.K c W mo))
    (ht : eval (.Call (.Attribute o m apos) [] [] pos) X.env = (do
      let ov ← eval o X.env
      standAt apos.atName
      let (f, first) ← holding [ov] (getMethod ov m pl)
      callWith pos f first (backTo pos (starEach [] X.env)) (backToKw pos (keywordEach [] X.env))) := by rfl) :
    PE X (.Call (.Attribute o m apos) [] [] pos) (tE X.K c W (mMth cl fn mo mNil)) := by
  obtain ⟨sc, g, hm, Fg⟩ := Mt
  refine PE.weak (pe_mthR0 (pl := pl) (E := WE W) he sc hm Fg hr (fun σ => passAt tk σ) ht) fun σ H Q h => ?_
  obtain ⟨F, G, P, env, R, h⟩ := h
  refine ⟨F, G, P, env, R, (Post.bind h).imp fun x G1 H1 P1 _ ⟨env1, R1, h1⟩ v r => ?_⟩
  cases r with
  | @obj a dx vs fs n' hsl rs =>
    dsimp only at h1
    split at h1
    · rename_i hn
      subst hn
      exact ⟨a, dx, _, rfl, Same.slt R1.gs hsl, call_obj R1 (.obj hsl rs) .nil rfl h1⟩
    · exact h1.elim
  | _ => exact h1.elim
end
/-! ### == < .. by an own def -/
/-- the class's own def for a comparison -/
structure Of (P : Program) (w : World) (K : PySem.W.Frag) (mg : Str → Option Value) (base : Heap) (c : Cl) (cl : Nat) (m : Str) (k : Nat) (fn : Fn) : Prop where
  sc : SlX.SCls K (c.cls cl)
  nf : PySem.W.notFirst K (c.cls cl) (.ref (c.cls cl)) = true
  ex : ∃ f : Addr, PySem.W.findIn K (.ref (c.cls cl)) m = some (some (.ref f)) ∧ PySem.W.isFn K (.ref f) = true ∧ FnRG P w K mg base (L2.CX P w) k f (spD K c 2 fn)
theorem of_of {P : Program} {w : World} {K : PySem.W.Frag} {mg : Str → Option Value} {base : Heap} {c : Cl} {m : Str} {cl k : Nat} {fn : Fn} {f : Addr} {fd : FuncData} {ps : List Str} (F : FnG P w K mg base (L2.CX P w) k f fd ps (spD K c 2 fn)) (hb : Binds K fd ps []) (sc : SlX.SCls K (c.cls cl))
    (h1 : PySem.W.findIn K (.ref (c.cls cl)) m = some (some (.ref f))) (h2 : PySem.W.isFn K (.ref f) = true) : Of P w K mg base c cl m k fn :=
  ⟨sc, by unfold PySem.W.notFirst; simp, f, h1, h2, (F.raw hb .nil).imp fun vs H Q E h => by simpa using h⟩
/-- x op y: two instances of the class at cl by fn, others by g -/
def dOwn (cl : Nat) (fn : Fn) (g : D → D → Option D) (x y : D) : Option D := match x, y with
  | .obj n fs, .obj m gs => if n = cl ∧ m = cl then match fn [.val (.obj n fs), .val (.obj m gs)] with
    | .ok d _ => some d
    | _ => none
    else none
  | x, y => g x y
section
variable {X : Cx} {c : Cl} {cl k : Nat} {fn : Fn} {g : D → D → Option D}
theorem passE0 {CX : CXT} (h : ∀ (H : Hp) (s : Shared) (e : Value) (s' : Shared), CX X.stack H s E0 e s' → False) : Passes CX X E0 := fun _ _ H s e s' _ z => (h H s e s' z).elim
theorem cx_E0 {H : Hp} {s : Shared} {e : Value} {s' : Shared} (h : L2.CX X.prog X.w X.stack H s E0 e s') : False := by
  obtain ⟨_, _, _, _, _, _, _, _, _, _, _, _, z⟩ := h
  exact z.elim
/-- the callee runs, its answer in hand -/
theorem run_atG {X : Cx} {pins : List (Addr × Obj)} {σ : St} {H : Hp} {s : Shared} {n : Nat} {g : Addr} {sp : Sp} {E : XK} {A : Around} {Q : VK} {us : List Value} {ws : List V} (Fg : FnRG X.prog X.w X.K X.mg X.base (L2.CX X.prog X.w) n g sp) (hr : RoomG n A) (e0 : Env0 X.prog X.w X.K X.mg X.base A X.stack s H)
    (hx : Passes (L2.CX X.prog X.w) X E) (I : Inv X pins σ H s) (r : Vals ws us) (h : sp ws H Q E) :
    codeAny (model X.prog X.w) A (.call (.ref g) ⟨us, []⟩) (fun r s' => match r with | .ok (.ret v) => EP X pins σ Q v s' | .ok _ => False | .error e => X.xe e s') s := by
  have go := Fg A X.stack s H us ws Q E hr e0 r h
  refine codeAny_mono go fun res s2 out => ?_
  match res, out with
  | .error e, out => exact hx pins σ H s e s2 I out
  | .ok .next, out => exact out.elim
  | .ok .brk, out => exact out.elim
  | .ok .cont, out => exact out.elim
  | .ok (.ret u), out => exact I.after out
theorem op_ownG {X : Cx} {C g : Addr} {n : Nat} {sp : Sp} {E : XK} {op : CmpOp} (hop : ∀ a b, compareOp op a b = richCompare op a b) (f1 : PySem.W.findIn X.K (.ref C) (cmpInfo op).2.1 = some (some (.ref g))) (f2 : PySem.W.isFn X.K (.ref g) = true)
    (Fg : FnRG X.prog X.w X.K X.mg X.base (L2.CX X.prog X.w) n g sp) (hr : RoomG n X.A) (hx : Passes (L2.CX X.prog X.w) X E) : OpR X (compareOp op) (SlX.rOwn X.K C sp E) := by
  intro pins s σ H x y v u Q I rx ry h
  obtain ⟨a, da, vs, b, C2, db, ws, hx1, hy1, sa, sb, nf, q⟩ := h
  subst hx1 hy1
  cases (show v = Value.ref a from rx)
  cases (show u = Value.ref b from ry)
  obtain ⟨_, _, _, ia, _⟩ := SlX.slt_inst I sa
  obtain ⟨_, _, _, ib, _⟩ := SlX.slt_inst I sb
  obtain ⟨m, fr⟩ := I.fr
  have run := wpAny_call (run_atG (us := [.ref a, .ref b]) (ws := [.ref a, .ref b]) Fg hr I.env0 hx I (.cons rfl (.cons rfl .nil)) q)
  rw [hop]
  apply PySem.W.cmp_K (op := op) (tb := .ref C2) hr.room.units0 fr I.ok.mod.kin ia ib.type nf f1 f2
  exact wpAny_mono run (fun u2 s2 out => by
    obtain ⟨z, H2, J, rz, qz⟩ := out
    exact SlX.cmpback rz ⟨z, H2, J, rz, qz⟩) fun _ _ z => z
theorem do_own {op : CmpOp} (hop : ∀ a b, compareOp op a b = richCompare op a b) (O : Of X.prog X.w X.K X.mg X.base c cl (cmpInfo op).2.1 k fn) (hr : RoomG k X.A) (ho : OpD X c (compareOp op) g) : OpD X c (compareOp op) (dOwn cl fn g) := opd_ofT fun G H x y dx dy d hs ht r1 r2 e => by
  obtain ⟨sc, nf, f, f1, f2, Ff⟩ := O
  have other : g dx dy = some d → ∃ r : R2, OpR X (compareOp op) r ∧ ∀ Q : VK, (∀ G' H' v, Pure c H G H' G' → Rep X.K c G' v d → Q v H') → r x y H Q := fun e => ⟨_, ho, fun Q q => ⟨G, dx, dy, d, hs, ht, r1, r2, e, q⟩⟩
  cases r1 with
  | @obj a da vs fs n h1 s1 =>
    cases r2 with
    | @obj b db ws gs n2 h2 s2 =>
      unfold dOwn at e
      dsimp only at e
      split at e
      · rename_i hn
        obtain ⟨rfl, rfl⟩ := hn
        refine ⟨_, op_ownG hop f1 f2 Ff hr (passE0 fun _ _ _ _ z => cx_E0 z), fun Q q => ⟨a, da, _, b, _, db, _, rfl, rfl, Same.slt hs h1, Same.slt hs h2, nf, ?_⟩⟩
        refine spD_vals (ds := [.obj n2 fs, .obj n2 gs]) hs ht (.cons (.obj h1 s1) (.cons (.obj h2 s2) .nil)) rfl ?_
        show match fn [Sl.val (D.obj n2 fs), Sl.val (D.obj n2 gs)] with | .ok d _ => _ | .exc x _ => _ | .bad => False
        cases q1 : fn [.val (.obj n2 fs), .val (.obj n2 gs)] with
        | bad => rw [q1] at e; cases e
        | exc x s => rw [q1] at e; cases e
        | ok d' s => rw [q1] at e; cases e; exact fun G' H' v pu rv => q G' H' v pu rv
      · cases e
    | _ => exact other e
  | _ => exact other (by unfold dOwn at e; exact e)
end
end L2.DL
set_option Elab.async false
set_option linter.all false
set_option maxRecDepth 100000
set_option maxHeartbeats 4000000
namespace L2.DL
open PySem PySem.Spec PyProof.Rows
/-! ### != by object.__ne__, the class's own __eq__ below it -/
section
variable {M : Model} {prog : Program} {w : World} {A : Around} {E : Value → Shared → Prop} {s : Shared} {K : PySem.W.Frag} {x C f : Addr} {ox : Obj} {od : Option Obj} {b tb : Value}
theorem entry_neOwn {Q : Fin → Shared → Prop} (hu : A.units < cLine) (X : K.In s.heap) (I : PySem.W.InstAt s.heap x ox C od) (he : PySem.W.findIn K (.ref C) "__eq__" = some (some (.ref f))) (hf : PySem.W.isFn K (.ref f) = true)
    (h : wpAny (model prog w) A (call (.ref f) [.ref x, b]) (fun v s' => ∃ r, v = .bool r ∧ Q (.done (.ret (.bool (!r)))) s') E s) :
    wpAny (model prog w) A (Builtin.«object.__ne__» ⟨[.ref x, b], []⟩) Q E s := by
  unfold Builtin.«object.__ne__»
  repeat (first
    | with_reducible refine wpAny_cRoomFor hu ?_
    | (refine wpAny_bind (m := callSpecialIfBound? (.ref x) (Str.ofString "__eq__") [b])
        (PySem.W.ifBound_K X I he hf (wpAny_mono h (fun r s' hr => by
          obtain ⟨r', rfl, hq⟩ := hr
          repeat (first | exact hq | exact wpAny_pure hq | exact wpAny_truthy_bool hq | (refine wpAny_bind (m := truthy (.bool _)) (wpAny_truthy_bool ?_)) | wp_step)) fun _ _ e => e)))
    | wp_step)
theorem call_neOwn {Q : Value → Shared → Prop} (hu : A.units + 1 < cLine) (X : K.In s.heap) (I : PySem.W.InstAt s.heap x ox C od) (hm : PySem.W.mroIn K C (.type "object") = some true) (he : PySem.W.findIn K (.ref C) "__eq__" = some (some (.ref f))) (hf : PySem.W.isFn K (.ref f) = true)
    (h : wpAny (model prog w) A.in1 (call (.ref f) [.ref x, b]) (fun v s' => ∃ r, v = .bool r ∧ Q (.bool (!r)) s') E s) :
    wpAny (model prog w) A (call (.builtin "object.__ne__") [.ref x, b]) Q E s :=
  wpAny_call (codeAny_call_builtin F.cmp_object.ne.plain F.cmpEntry_ne (PySem.W.check_slot F.cmpKind_ne F.cmpSplit_ne (I.type.andThen (PySem.W.looks_mroIn X hm)) (F.cmpArgs_ne _ _) (entry_neOwn (A := A.in1) hu X I he hf (wpAny_mono h (fun v s' hv => hv) fun _ _ e => e))))
theorem ifBound_ne {args : List Value} {Q : Option Value → Shared → Prop} (X : K.In s.heap) (I : PySem.W.InstAt s.heap x ox C od) (hs : PySem.W.findIn K (.ref C) "__ne__" = some (some (.builtin "object.__ne__")))
    (h : wpAny M A (call (.builtin "object.__ne__") (.ref x :: args)) (fun v => Q (some v)) E s) : wpAny M A (callSpecialIfBound? (.ref x) "__ne__" args) Q E s := by
  simp only [callSpecialIfBound?, bindSpecialIfBound?]
  refine wpAny_holding (wpAny_bind (wpAny_bind (wpAny_bind (I.type.here ((PySem.W.looks_findIn X hs).here ?_)))))
  refine wpAny_bind (wpAny_askSetting (wpAny_ite ?_))
  have fin : wpAny M A (call (.builtin "object.__ne__") ([.ref x] ++ args) >>= fun v => pure (some v)) Q E s := wpAny_bind (wpAny_mono h (fun v s' h' => wpAny_pure h') fun _ _ h' => h')
  split
  · exact wpAny_bind (wpAny_of_eq (F.cmp_object.ne.bind _) (wpAny_pure (by exact fin)))
  · exact wpAny_tryCatch (wpAny_bind (wpAny_of_eq (F.cmp_object.ne.bind _) (wpAny_pure (by exact fin))))
theorem rc_neOwn {Q : Value → Shared → Prop} (hu : A.units + 1 < cLine) (X : K.In s.heap) (I : PySem.W.InstAt s.heap x ox C od) (hb : PySem.W.Looks (model prog w) s.heap (typeOf b) tb) (hn : PySem.W.notFirst K C tb = true) (hm : PySem.W.mroIn K C (.type "object") = some true)
    (hs : PySem.W.findIn K (.ref C) "__ne__" = some (some (.builtin "object.__ne__"))) (he : PySem.W.findIn K (.ref C) "__eq__" = some (some (.ref f))) (hf : PySem.W.isFn K (.ref f) = true)
    (h : wpAny (model prog w) A.in1 (call (.ref f) [.ref x, b]) (fun v s' => ∃ r, v = .bool r ∧ Q (.bool (!r)) s') E s) : wpAny (model prog w) A (richCompare .NotEq (.ref x) b) Q E s := by
  have one : wpAny (model prog w) A (tryCompare (.ref x) "__ne__" b) (fun r s' => ∃ v, r = some v ∧ Q v s') E s := by
    unfold tryCompare
    refine wpAny_bind (ifBound_ne X I hs (call_neOwn hu X I hm he hf (wpAny_mono h (fun v s' hv => ?_) fun _ _ e => e)))
    obtain ⟨r, rfl, hq⟩ := hv
    exact ⟨r, rfl, wpAny_pure ⟨_, rfl, hq⟩⟩
  unfold richCompare
  simp only [oneThing_ref, cmpInfo_NotEq]
  refine wpAny_holding (wpAny_bind (wpAny_cRoomFor (by omega) ?_))
  refine wpAny_bind (I.type.here (wpAny_bind (hb.here ?_)))
  split
  · rename_i q
    have e : PySem.W.subIn K tb (.ref C) = some false := by
      rcases Bool.or_eq_true_iff.mp hn with e | e
      · rw [beq_iff_eq.mp e] at q; simp at q
      · exact beq_iff_eq.mp e
    refine wpAny_bind ((PySem.W.looks_subIn X e).here ?_)
    simp only [Bool.false_eq_true, if_false]
    refine wpAny_bind (wpAny_mono one (fun r s' z => ?_) fun _ _ e => e)
    obtain ⟨v, rfl, hq⟩ := z
    exact wpAny_pure hq
  · refine wpAny_bind (wpAny_pure ?_)
    simp only [Bool.false_eq_true, if_false]
    refine wpAny_bind (wpAny_mono one (fun r s' z => ?_) fun _ _ e => e)
    obtain ⟨v, rfl, hq⟩ := z
    exact wpAny_pure hq
end
def rNeOwn (K : PySem.W.Frag) (C : Addr) (sp : Sp) (E : XK) : R2 := fun x y H Q => ∃ a dx vs b C' dy ws, x = .ref a ∧ y = .ref b ∧ SlX.Slt H a C dx vs ∧ SlX.Slt H b C' dy ws ∧ PySem.W.notFirst K C (.ref C') = true ∧ sp [x, y] H (fun v H' => ∃ r, v = .bl r ∧ Q (.bl (!r)) H') E
theorem op_neOwn {X : Cx} {C g : Addr} {sp : Sp} {E : XK} {n : Nat} (hm : PySem.W.mroIn X.K C (.type "object") = some true) (hs : PySem.W.findIn X.K (.ref C) "__ne__" = some (some (.builtin "object.__ne__"))) (he : PySem.W.findIn X.K (.ref C) "__eq__" = some (some (.ref g))) (hf : PySem.W.isFn X.K (.ref g) = true)
    (F : FnRG X.prog X.w X.K X.mg X.base (L2.CX X.prog X.w) n g sp) (hr : RoomG (n + 1) X.A) (hx : Passes (L2.CX X.prog X.w) X E) : OpR X (compareOp .NotEq) (rNeOwn X.K C sp E) := by
  intro pins s σ H x y v u Q I rx ry h
  obtain ⟨a, dx, vs, b, C', dy, ws, rfl, rfl, ha, hb, hn, q⟩ := h
  cases (show v = Value.ref a from rx)
  cases (show u = Value.ref b from ry)
  obtain ⟨sl, od, _, J, _⟩ := SlX.slt_inst I ha
  obtain ⟨sl', od', _, J', _⟩ := SlX.slt_inst I hb
  have hu := hr.units
  show wpAny (model X.prog X.w) X.A (richCompare .NotEq (.ref a) (.ref b)) _ _ s
  refine rc_neOwn (tb := .ref C') (by omega) I.kIn J J'.type hn hm hs he hf ?_
  refine wpAny_mono (wpAny_call (run_atG (us := [.ref a, .ref b]) (ws := [.ref a, .ref b]) F hr.in1 I.env0.in1 hx I (.cons rfl (.cons rfl .nil)) q)) (fun w s' z => ?_) fun _ _ x => x
  obtain ⟨z', H', I', rz, r, er, qz⟩ := z
  subst er
  cases (show w = Value.bool r from rz)
  exact ⟨r, rfl, .bl _, H', I', rfl, qz⟩
/-- the class has no __ne__ of its own -/
structure Nf (K : PySem.W.Frag) (c : Cl) (cl : Nat) : Prop where
  ne : PySem.W.findIn K (.ref (c.cls cl)) "__ne__" = some (some (.builtin "object.__ne__"))
  mo : PySem.W.mroIn K (c.cls cl) (.type "object") = some true
def dOwnNe (cl : Nat) (fn : Fn) (g : D → D → Option D) (x y : D) : Option D := match x, y with
  | .obj n fs, .obj m gs => if n = cl ∧ m = cl then match fn [.val (.obj n fs), .val (.obj m gs)] with
    | .ok (.bl b) _ => some (.bl (!b))
    | _ => none
    else none
  | x, y => g x y
section
variable {X : Cx} {c : Cl} {cl k : Nat} {fn : Fn} {g : D → D → Option D}
theorem do_ownNe (O : Of X.prog X.w X.K X.mg X.base c cl "__eq__" k fn) (N : Nf X.K c cl) (hr : RoomG (k + 1) X.A) (ho : OpD X c (compareOp .NotEq) g) : OpD X c (compareOp .NotEq) (dOwnNe cl fn g) := opd_ofT fun G H x y dx dy d hs ht r1 r2 e => by
  obtain ⟨sc, nf, f, f1, f2, Ff⟩ := O
  have other : g dx dy = some d → ∃ r : R2, OpR X (compareOp .NotEq) r ∧ ∀ Q : VK, (∀ G' H' v, Pure c H G H' G' → Rep X.K c G' v d → Q v H') → r x y H Q := fun e => ⟨_, ho, fun Q q => ⟨G, dx, dy, d, hs, ht, r1, r2, e, q⟩⟩
  cases r1 with
  | @obj a da vs fs n h1 s1 =>
    cases r2 with
    | @obj b db ws gs n2 h2 s2 =>
      unfold dOwnNe at e
      dsimp only at e
      split at e
      · rename_i hn
        obtain ⟨rfl, rfl⟩ := hn
        refine ⟨_, op_neOwn N.mo N.ne f1 f2 Ff hr (passE0 fun _ _ _ _ z => cx_E0 z), fun Q q => ⟨a, da, _, b, _, db, _, rfl, rfl, Same.slt hs h1, Same.slt hs h2, nf, ?_⟩⟩
        refine spD_vals (ds := [.obj n2 fs, .obj n2 gs]) hs ht (.cons (.obj h1 s1) (.cons (.obj h2 s2) .nil)) rfl ?_
        show match fn [Sl.val (D.obj n2 fs), Sl.val (D.obj n2 gs)] with | .ok d _ => _ | .exc x _ => _ | .bad => False
        cases q1 : fn [.val (.obj n2 fs), .val (.obj n2 gs)] with
        | bad => rw [q1] at e; cases e
        | exc x s => rw [q1] at e; cases e
        | ok d' s =>
          rw [q1] at e
          cases d' with
          | bl r =>
            cases e
            intro G' H' v pu rv
            cases rv
            exact ⟨r, rfl, q G' H' _ pu (.bl _)⟩
          | _ => cases e
      · cases e
    | _ => exact other e
  | _ => exact other (by unfold dOwnNe at e; exact e)
end
@[simp] theorem ev_mth {cl : Nat} {fn : Fn} {o : M D} {ms : M (List D)} {e : Ev} : mMth cl fn o ms e = (o e).bnd fun x e => match x with
  | .obj n fs => if n = cl then (ms e).bnd fun ds e => callR (fn (.val (.obj n fs) :: ds.map .val)) e else .bad
  | _ => .bad := by
  show Res.bnd _ _ = _
  refine congrArg (Res.bnd (o e)) (funext fun x => funext fun e1 => ?_)
  cases x with
  | obj n fs =>
    dsimp only
    split <;> rfl
  | _ => rfl
end L2.DL
set_option Elab.async false
set_option linter.all false
set_option maxRecDepth 100000
set_option maxHeartbeats 4000000
namespace L2.DL
open PySem PySem.Spec PyProof.Rows
/-! ### x[::-1] -/
def dRev : D → Option D
  | .lst xs => some (.lst xs.reverse)
  | .ro xs => some (.lst xs.reverse)
  | .str z => if z.length ≤ 16777216 then some (.str ⟨z.cps.toList.reverse.toArray⟩) else none
  | .tup xs => some (.tup xs.reverse)
  | _ => none
def mRev (m : M D) : M D := M.bind m fun d => M.opt (dRev d)
@[simp] theorem ev_rev {m : M D} {e : Ev} : mRev m e = (m e).bnd fun d e => M.opt (dRev d) e := rfl
theorem rev_pick (z : Str) : ((Builtin.Str.strSliceIndices none none (-1) z.length).filterMap (z.cps[·]?)).toArray = z.cps.toList.reverse.toArray := by
  have h1 : Builtin.Str.strSliceIndices none none (-1) z.length = sliceRange ((z.length : Int) - 1) (-1) (-1) := rfl
  have h2 : ∀ (a : Array Nat), ((List.range a.size).map fun k => a.size - 1 - k).filterMap (a[·]?) = a.toList.reverse := by
    intro a
    rw [PySem.W.krv_range, List.filterMap_reverse]
    congr 1
    have key : ∀ (l : List Nat) (n : Nat), (List.range n).filterMap (l[·]?) = l.take n := by
      intro l n
      induction n with
      | zero => simp
      | succ n ih =>
        rw [List.range_succ, List.filterMap_append, ih, List.take_succ]
        congr 1
    have h3 := key a.toList a.size
    rw [List.take_of_length_le (by simp)] at h3
    simpa using h3
  rw [h1, PySem.W.krv_sliceRange]
  show (List.filterMap _ (List.map (fun k => z.cps.size - 1 - k) (List.range z.cps.size))).toArray = _
  rw [h2]
section
variable {prog : Program} {w : World} {A : Around} {E : Value → Shared → Prop} {s : Shared}
theorem places_rev (n : Nat) : Builtin.Slice.slicePlaces ((n : Int) - 1) (-1) (-1) = n := by
  unfold Builtin.Slice.slicePlaces
  simp
  split <;> omega
theorem applied_rev {sl : Addr} {vl vu vs : Value} {n : Nat} {Q : Int × Int × Nat → Shared → Prop} (hs : s.heap.IsSliceOf sl vl vu vs) (pl : IsPart vl none) (pu : IsPart vu none) (ps : IsPart vs (some (-1)))
    (h : Q ((n : Int) - 1, -1, n) s) : wpAny (model prog w) A (Builtin.Slice.sliceApplied (.ref sl) (pure (n : Int))) Q E s := by
  obtain ⟨os, at_, cs, ds⟩ := id hs
  unfold Builtin.Slice.sliceApplied Builtin.Slice.sliceFields
  refine wpAny_bind (wpAny_bind (wpAny_field at_ ds (x := vl) rfl (wpAny_bind (wpAny_field at_ ds (x := vu) rfl (wpAny_bind (wpAny_field at_ ds (x := vs) rfl (wpAny_pure ?_)))))))
  refine wpAny_bind (HT.slicePart_ ps ?_)
  show wpAny _ _ (if ((-1 : Int) == 0) = true then _ else _) _ _ s
  rw [if_neg (by decide)]
  refine wpAny_bind (HT.slicePart_ pl (wpAny_bind (HT.slicePart_ pu (wpAny_bind (wpAny_pure ?_)))))
  show wpAny _ _ (pure ((n : Int) - 1, (-1 : Int), Builtin.Slice.slicePlaces ((n : Int) - 1) (-1) (-1))) _ _ s
  rw [places_rev]
  exact wpAny_pure h
theorem pick_rev (xs : Array Value) : ((List.range xs.size).filterMap fun (m : Nat) => xs[((xs.size : Int) - 1 + (m : Int) * (-1)).toNat]?).toArray = xs.toList.reverse.toArray := by
  have := PySem.W.krv_pick xs
  unfold slicePick at this
  rw [PySem.W.krv_bounds] at this
  have e : sliceRange ((xs.size : Int) - 1) (-1) (-1) = (List.range xs.size).map fun k => xs.size - 1 - k := PySem.W.krv_sliceRange _
  have this : ((sliceRange ((xs.size : Int) - 1) (-1) (-1)).filterMap (xs[·]?)).toArray = _ := this
  rw [e, List.filterMap_map] at this
  rw [← this]
  congr 2
  funext m
  have : ((xs.size : Int) - 1 + (m : Int) * (-1)).toNat = xs.size - 1 - m := by omega
  rw [this]
  rfl
theorem getItem_tuple_rev {t sl : Addr} {items : Array Value} {vl vu vs : Value} {Q : Value → Shared → Prop} (ht : IsTup s.heap t items) (hs : s.heap.IsSliceOf sl vl vu vs) (pl : IsPart vl none) (pu : IsPart vu none) (ps : IsPart vs (some (-1)))
    (h : Q (.ref s.heap.objs.size) { s with heap := s.heap.push { cls := .type "tuple", data := .seq items.toList.reverse.toArray } }) (hsz : items.size ≤ sizeLine) : wpAny (model prog w) A (getItem (.ref t) (.ref sl)) Q E s := by
  have ok : sizeOk (.seq items.toList.reverse.toArray) := by
    show (items.toList.reverse.toArray).size ≤ sizeLine
    rw [List.size_toArray, List.length_reverse]
    exact hsz
  obtain ⟨os, at_, cs, ds⟩ := id hs
  have isS : s.TypeIs (.ref sl) "slice" := ⟨os, at_, cs⟩
  unfold getItem
  try with_reducible refine wpAny_holding ?_
  first | refine wpAny_bind (wpAny_pure ?_) | skip
  refine wpAny_bind (wpAny_sequenceKey ht.typeIs (by decide) ?_)
  refine wpAny_bind (wpAny_callSpecial?_slot (name := Str.ofString "__getitem__") ht.typeIs PyProof.Rows.slot_tuple_getitem (wpAny_call_entry PyProof.Rows.slot_tuple_getitem ht.typeIs entry_tuple_getitem ?_ (args_tuple_getitem _ _)))
  show wpAny _ _ (Builtin.Tuple.tupleItemsOf (.ref t) >>= _) _ _ s
  refine wpAny_bind (tupleItemsOf_ ht (wpAny_bind (wpAny_typeOf isS ?_)))
  rw [if_pos (by decide)]
  refine wpAny_bind (applied_rev hs pl pu ps ?_)
  have part : ¬ ((((items.size : Int) - 1) == 0 && (-1 : Int) == 1 && items.size == items.size) = true) := by simp
  show wpAny _ _ (if ((((items.size : Int) - 1) == 0 && (-1 : Int) == 1 && items.size == items.size)) = true then _ else _) _ _ s
  rw [if_neg part, pick_rev]
  first
    | exact wpAny_bind (m := Builtin.Tuple.tupleExact _) (wpAny_newObj_type (wpAny_pure ⟨_, rfl, wpAny_pure h⟩) ok)
    | exact wpAny_bind (m := Builtin.Tuple.tupleExact _) (wpAny_newObj_type (wpAny_bind (wpAny_pure (wpAny_pure ⟨_, rfl, wpAny_pure h⟩))) ok)
    | exact wpAny_bind (wpAny_bind (m := Builtin.Tuple.tupleExact _) (wpAny_newObj_type (wpAny_pure (wpAny_pure ⟨_, rfl, wpAny_pure h⟩)) ok))
    | exact wpAny_bind (wpAny_bind (m := Builtin.Tuple.tupleExact _) (wpAny_newObj_type (wpAny_pure ⟨_, rfl, wpAny_pure h⟩) ok))
end
def tRevD (K : PySem.W.Frag) (te : TE) : TE := fun σ H Q => te σ H fun x H1 => (∃ a xs, x = .ref a ∧ SqL K H1 a xs ∧ ∀ p, H1 p = none → Q (.ref p) (upd H1 p (.lst xs.reverse))) ∨ (∃ z, x = .str z ∧ z.length ≤ 16777216 ∧ Q (.str ⟨z.cps.toList.reverse.toArray⟩) H1) ∨ ∃ a xs, x = .ref a ∧ SqT K H1 a xs ∧ ∀ p, H1 p = none → Q (.ref p) (upd H1 p (.tup xs.reverse))
section
variable {X : Cx} {c : Cl} {W : WX} {e : Expr} {te : TE} {k : Nat} {p1 p2 p3 pos : Pos} {m : M D}
theorem pe_revD (he : PE X e te) : PE X (.Subscript e (.Slice none none (some (.UnaryOp .USub (.Constant (.int 1) k p1) p2)) p3) pos) (tRevD X.K te) := by
  refine ⟨fun pins s σ H Q I h => ?_⟩
  refine Subscript_ (thn (he.run pins s σ H _ I h) fun v s1 ⟨x, H1, I1, r1, q1⟩ => ?_)
  have hst : PO X (some (.UnaryOp .USub (.Constant (.int 1) k p1) p2)) (tPart (tUn (rU fun i => .int (-i)) (tC (.int 1)))) := po_some (pe_un un_neg pe_int)
  refine wpAny_Slice (thn (po_none.run pins s1 σ H1 (fun o H2 => o = none ∧ H2 = H1) I1 ⟨rfl, rfl⟩) fun vl s2 ⟨l, H2, I2, pl, el, e2⟩ => ?_)
  subst el e2
  refine thn (po_none.run pins s2 σ H2 (fun o H3 => o = none ∧ H3 = H2) I2 ⟨rfl, rfl⟩) fun vu s3 ⟨u, H3, I3, pu, eu, e3⟩ => ?_
  subst eu e3
  refine thn (hst.run pins s3 σ H3 (fun o H4 => o = some (-1) ∧ H4 = H3) I3 ⟨1, rfl, -1, rfl, rfl, rfl⟩) fun vs s4 ⟨o, H4, I4, ps, eo, e4⟩ => ?_
  subst eo e4
  have I5 : Inv X pins σ H4 { s4 with heap := s4.heap.push { cls := .type "slice", data := .fields #[vl, vu, vs] } } := I4.kept (t' := s4.toks) fun b ob q => Heap.get?_push_of_some _ q
  rcases q1 with ⟨a, xs, ex, hx, q⟩ | ⟨z, ex, hz, q⟩ | ⟨a, xs, ex, hx, q⟩
  · subst ex
    cases r1
    obtain ⟨its, r, ht, hz⟩ := I5.list hx
    have hlen := r.length
    show wpAny (model X.prog X.w) X.A (subscriptTail e (.Slice none none (some (.UnaryOp .USub (.Constant (.int 1) k p1) p2)) p3) (.ref a) (.ref s4.heap.objs.size)) (EP X pins σ Q) X.xe { s4 with heap := s4.heap.push { cls := .type "slice", data := .fields #[vl, vu, vs] } }
    refine tail_any (ops := [.ref a, .ref s4.heap.objs.size]) ht.isList.typeIs (PySem.slot_list_getitem.lookup) ?_ (by with_unfolding_all rfl)
    refine wpAny_getItem_list_slice ht.isList (Heap.IsSliceOf.new _ vl vu vs) pl pu ps (by decide) ?_ (by rw [List.size_toArray]; omega)
    rw [PySem.W.krv_pick]
    refine ⟨.ref _, _, I5.laid (t' := s4.toks) (o := .lst xs.reverse) (fun b ob q => Heap.get?_push_of_some _ q) (Nat.le_refl _) ?_, rfl, q _ (I5.hok.fresh (Nat.le_refl _))⟩
    exact ⟨by rw [List.length_reverse]; exact hz, _, 0, r.reverse, Heap.get?_push_size _ rfl⟩
  · subst ex
    obtain ⟨t, rfl⟩ := r1
    obtain ⟨os, hos, hcs, hds⟩ := Heap.IsSliceOf.new s4.heap vl vu vs
    obtain ⟨l, rfl, el⟩ := IsPart.raw pl
    obtain ⟨u, rfl, eu⟩ := IsPart.raw pu
    obtain ⟨w, rfl, ew⟩ := IsPart.raw ps
    cases l with
    | some _ => cases el
    | none =>
      cases u with
      | some _ => cases eu
      | none =>
        cases w with
        | none => cases ew
        | some w =>
          obtain ⟨w1, w2⟩ := w
          obtain rfl : w1 = (-1 : Int) := by simpa using ew
          show wpAny (model X.prog X.w) X.A (subscriptTail e (.Slice none none (some (.UnaryOp .USub (.Constant (.int 1) k p1) p2)) p3) (.str z t) (.ref s4.heap.objs.size)) (EP X pins σ Q) X.xe _
          refine tail_any (ops := [.ref s4.heap.objs.size, .str z t]) (typeIs_str _ _ _) F.slot_str_getitem.lookup ?_ (by with_unfolding_all rfl)
          refine wpAny_getItem_str_slice (l := none) (u := none) (st := some (-1, w2)) ⟨os, hos, hcs, hds⟩ rfl ?_
          show Made.post (if ((-1 : Int) == 1 && (slicePicked z none none (some (-1, w2))).length == z.length) = true then Made.val (.str z t) else Made.str ⟨((Builtin.Str.strSliceIndices none none (-1) z.length).filterMap (z.cps[·]?)).toArray⟩) (EP X pins σ Q) _
          rw [if_neg (by simp), rev_pick]
          exact ⟨by show (z.cps.toList.reverse.toArray).size ≤ _; rw [List.size_toArray, List.length_reverse]; exact hz, .str _, H4, I5.tok _, ⟨_, rfl⟩, q⟩
  · subst ex
    cases r1
    obtain ⟨its, r, ht, hz⟩ := I5.tuple hx
    have hlen := r.length
    show wpAny (model X.prog X.w) X.A (subscriptTail e (.Slice none none (some (.UnaryOp .USub (.Constant (.int 1) k p1) p2)) p3) (.ref a) (.ref s4.heap.objs.size)) (EP X pins σ Q) X.xe { s4 with heap := s4.heap.push { cls := .type "slice", data := .fields #[vl, vu, vs] } }
    refine tail_any (ops := [.ref a, .ref s4.heap.objs.size]) ht.typeIs (PyProof.Rows.slot_tuple_getitem.lookup) ?_ (by with_unfolding_all rfl)
    refine getItem_tuple_rev ht (Heap.IsSliceOf.new _ vl vu vs) pl pu ps ?_ (by rw [List.size_toArray]; omega)
    refine ⟨.ref _, _, I5.laid (t' := s4.toks) (o := .tup xs.reverse) (fun b ob q => Heap.get?_push_of_some _ q) (Nat.le_refl _) ?_, rfl, q _ (I5.hok.fresh (Nat.le_refl _))⟩
    exact ⟨by rw [List.length_reverse]; exact hz, _, r.reverse, ⟨_, Heap.get?_push_size _ rfl, rfl, _, rfl⟩⟩
theorem de_rev (he : PE X e (tE X.K c W m)) : PE X (.Subscript e (.Slice none none (some (.UnaryOp .USub (.Constant (.int 1) k p1) p2)) p3) pos) (tE X.K c W (mRev m)) := by
  refine PE.weak (pe_revD he) fun σ H Q h => ?_
  obtain ⟨F, G, P, env, Rl, h⟩ := h
  refine ⟨F, G, P, env, Rl, (Post.bind h).imp fun x G1 H1 P1 _ ⟨env1, R1, h1⟩ v r => ?_⟩
  cases e : dRev x with
  | none => rw [e] at h1; exact h1.elim
  | some d =>
    rw [e] at h1
    have h2 : Post X.K c W F G1 P1 σ env1 (.ok d env1) _ := h1
    have rv : ∀ {vs : List V} {ds : List D}, Reps X.K c G1 vs ds → Reps X.K c G1 vs.reverse ds.reverse := by
      intro vs ds r
      induction r using Reps.rec (motive_1 := fun _ _ _ => True) (motive_3 := fun _ _ _ => True) with
      | nil => exact .nil
      | cons h t _ ih => rw [List.reverse_cons, List.reverse_cons]; exact ih.append (.cons h .nil)
      | _ => trivial
    have new : ∀ {vs : List V} {ds : List D}, Reps X.K c G1 vs ds → d = .lst ds.reverse → ∀ p, H1 p = none → Q (.ref p) (upd H1 p (.lst vs.reverse)) := fun {vs ds} r ed p hp => by
      subst ed
      obtain ⟨x2, R2⟩ := R1.pure (Pure.new (.lst vs.reverse) R1.gs hp)
      exact h2 _ _ P1 x2 (Keep.refl _ _) R2 _ (.lst upd_same ((rv r).mono (same_new (none_of R1.gs hp))))
    cases r with
    | lst h s => cases e; exact .inl ⟨_, _, rfl, SqL.of (R1.gs _ _ h), new s rfl⟩
    | ro h s => cases e; exact .inl ⟨_, _, rfl, R1.gs.seq h, new s rfl⟩
    | str z =>
      unfold dRev at e
      dsimp only at e
      split at e
      · rename_i hz
        cases e
        exact .inr (.inl ⟨z, rfl, hz, Post.here R1 h2 _ (.str _)⟩)
      · cases e
    | tup h s =>
      cases e
      exact .inr (.inr ⟨_, _, rfl, Same.seqT R1.gs h, fun p hp => by
        obtain ⟨x2, R2⟩ := R1.pure (Pure.new (.tup _) R1.gs hp)
        exact h2 _ _ P1 x2 (Keep.refl _ _) R2 _ (.tup (SqT.of upd_same) ((rv s).mono (same_new (none_of R1.gs hp))))⟩)
    | _ => cases e
end
/-! ### f(g(..)), what g makes lent to f -/
def mCallN (f : Fn) (mo : M Cell) : M D := M.bind mo fun z env => match f [.cell true z] with
  | .ok d _ => .ok d env
  | .exc x _ => .exc x env
  | .bad => .bad
@[simp] theorem ev_callN {f : Fn} {mo : M Cell} {e : Ev} : mCallN f mo e = (mo e).bnd fun z e => callR (f [.cell true z]) e := rfl
section
variable {X : Cx} {c : Cl} {W : WX} {pos p : Pos} {e : Expr} {mo : M Cell} {x : Str} {k : Nat} {fn : Fn} {F G H : Hp} {P : List (List Addr)} {σ : St} {env : Ev}
theorem call_new {K : PySem.W.Frag} {q : List Addr} {z : Cell} {v0 : V} {Q : VK} (R : Rel K c F G H P σ env) (ca : CellAt K c G H q v0 z) (nd : q.Nodup) (out : ∀ b, b ∈ q → F b = none ∧ G b = none ∧ b ∉ P.flatten)
    (h : Post K c W F G P σ env (match fn [.cell true z] with | .ok d _ => .ok d env | .exc x _ => .exc x env | .bad => .bad) fun d G' H' _ => ∀ v, Rep K c G' v d → Q v H') : spD K c 1 fn [v0] H Q (WE W σ) := by
  let Fc : Hp := fun b => if b ∈ q then none else nt H b
  have fcN : ∀ b, b ∈ q → Fc b = none := fun b hb => if_pos hb
  have fcH : ∀ b, b ∉ q → Fc b = nt H b := fun b hb => if_neg hb
  have sFc : Same Fc H := fun b o h => by
    by_cases hb : b ∈ q
    · rw [fcN b hb] at h; cases h
    · rw [fcH b hb] at h; exact nt_same H b o h
  have nFc : NoT Fc := fun b ps h => by
    by_cases hb : b ∈ q
    · rw [fcN b hb] at h; cases h
    · rw [fcH b hb] at h; exact nt_not H b ps h
  have fcF : ∀ b o, b ∉ q → F b = some o → Fc b = some o := fun b o hb h => by
    rw [fcH b hb]
    exact nt_at (R.fs b o h) fun ps z => R.tb.nf b ps (by rw [h, z])
  have fcP : ∀ b o, b ∉ q → b ∈ P.flatten → H b = some o → Fc b = some o := fun b o hb hP h => by
    obtain ⟨o', h1, h2⟩ := R.all.obj b hP
    rw [h] at h1
    cases h1
    rw [fcH b hb]
    exact nt_at h h2
  have fl : ([q] : List (List Addr)).flatten = q := by rw [List.flatten_cons]; exact List.append_nil q
  have Rc : Rel K c Fc G H [q] ([v0].map some) [.cell true z] :=
    ⟨sFc, R.gs, .cons (.cell ca) .nil, fun b hb => by rw [fl] at hb; exact ⟨fcN b hb, (out b hb).2.1⟩, by rw [fl]; exact nd, ⟨R.tb.tabs, nFc, R.tb.ng⟩⟩
  refine ⟨Fc, G, _, _, rfl, Rc, rfl, ?_⟩
  have there : ∀ b, b ∈ P.flatten → H b ≠ none := fun b hb => by
    obtain ⟨q, hq, hb⟩ := List.mem_flatten.mp hb
    obtain ⟨j, hj, ej⟩ := List.mem_iff_getElem.mp hq
    have hl := R.all.len
    have ej1 : P[j]? = some q := by rw [List.getElem?_eq_getElem hj, ej]
    obtain ⟨s, hs⟩ : ∃ s, env[j]? = some s := ⟨env[j]'(by omega), by simp [show j < env.length by omega]⟩
    obtain ⟨p', x, e2, _, r⟩ := R.all.get hs
    rw [ej1] at e2; cases e2
    cases r with
    | no => cases hb
    | val _ => cases hb
    | cell z => exact cell_there z b hb
  have notq : ∀ b o, F b = some o → b ∉ q := fun b o h hb => by rw [(out b hb).1] at h; cases h
  have back : ∀ {G' H' : Hp} {P' : List (List Addr)} {σ' : St} {s' : List Sl}, Ext Fc G G' → Rel K c Fc G' H' P' σ' s' → Ext F G G' ∧ Rel K c F G' H' P σ env := by
    intro G' H' P' σ' s' x R'
    refine ⟨⟨x.same, fun b h1 h2 => ?_⟩, ⟨fun b o h => R'.fs b o (fcF b o (notq b o h) h), R'.gs, ?_, fun b hb => ⟨(R.out b hb).1, ?_⟩, R.nd, ⟨R'.tb.tabs, R.tb.nf, R'.tb.ng⟩⟩⟩
    · cases eF : F b with
      | none => exact absurd eF h2
      | some o =>
        refine x.fresh b h1 ?_
        rw [fcF b o (notq b o eF) eF]
        exact fun z => nomatch z
    · exact R.all.move x.same fun b hb o ho => R'.fs b o (fcP b o (fun hbq => (out b hbq).2.2 hb) hb ho)
    · obtain ⟨o', h1, _⟩ := R.all.obj b hb
      exact x.fresh b (R.out b hb).2 (by rw [fcP b o' (fun hbq => (out b hbq).2.2 hb) hb h1]; exact fun z => nomatch z)
  cases e : fn [.cell true z] with
  | bad => rw [e] at h; exact h
  | ok d s =>
    rw [e] at h
    intro G' H' P' x _ R' v rv
    obtain ⟨a1, a2⟩ := back x R'
    exact h G' H' P a1 (Keep.refl _ _) a2 v rv
  | exc xx s =>
    rw [e] at h
    intro G' H' P' cv dd x _ R' rx
    obtain ⟨a1, a2⟩ := back x R'
    exact h G' H' P cv dd a1 (Keep.refl _ _) a2 rx
/-- one argument from a judgement of new own things -/
def tA1O (K : PySem.W.Frag) (c : Cl) (W : WX) (m : M Cell) : TA := fun σ H Q => ∃ F G P env, Rel K c F G H P σ env ∧ Post K c W F G P σ env (m env) fun z G' H' P' => ∀ v p, CellAt K c G' H' p v z → p.Nodup → (∀ b, b ∈ p → F b = none ∧ G' b = none ∧ b ∉ P'.flatten) → Q [v] H'
theorem de_callN (Fd : Df X.prog X.w X.K X.mg X.base c x k 1 fn) (tk : Takes X W) (hr : RoomG k X.A) (ha : PE X e (tO X.K c W mo)) (hg : Gl X x := by rfl) (hdb : (x == ("__debug__" : Str)) = false := by decide)
    (he1 : starEach [e] X.env = (false, eval e X.env) :: starEach [] X.env := by rfl) (hpl : (backTo pos (starEach [] X.env)).any (·.1) = false := by rfl) :
    PE X (.Call (.Name x p) [e] [] pos) (tE X.K c W (mCallN fn mo)) := by
  obtain ⟨f, Fk, hm, hk⟩ := Fd.ex
  refine PE.weak (pe_callR (E := WE W) Fk hr hg hm hk (fun σ => passAt tk σ) (pa_cons ha pa_nil he1) hdb he1 hpl) fun σ H Q h => ?_
  obtain ⟨F, G, P, env, R, h⟩ := h
  refine ⟨F, G, P, env, R, ?_⟩
  unfold mCallN M.bind at h
  cases q : mo env with
  | bad => rw [q] at h; exact h
  | exc xx e1 => rw [q] at h; exact h
  | ok z e1 =>
    rw [q] at h
    exact fun G1 H1 P1 x1 k1 R1 v q ca nd out => call_new R1 ca nd out (Post.chain h x1 k1)
end
end L2.DL
set_option Elab.async false
set_option linter.all false
set_option maxRecDepth 100000
set_option maxHeartbeats 4000000
namespace L2.DL
open PySem PySem.Spec PyProof.Rows
/-! ### a, b, .. = x, y, .. through a tuple (four names and more, or a captured one among them) -/
def gN : List Nat → TGs
  | [] => fun vs σ H Q => vs = [] ∧ Q σ H
  | i :: is => fun vs σ H Q => ∃ v r, vs = v :: r ∧ gN is r (σ.set i (some v)) H Q
section
variable {X : Cx} {c : Cl} {W : WX} {pos px : Pos} {es ts : List Expr} {mps : M (List PV)} {is : List Nat}
theorem gn_nil : PGs X [] (gN []) := pgs_nil
theorem gn_cons {i : Nat} {x : Str} (hN : X.N.Nodup) (h : PGs X ts (gN is)) (hi : X.N[i]? = some x := by rfl) (hx : Loc X.env.scope x := by first | exact .inl rfl | exact .inr rfl) (hf : X.fn x = true ∨ X.env.scope.names.lookup x = some .local := by first | exact .inl rfl | exact .inr rfl)
    (hs : (assignEach (.Name x px :: ts) X.env).map (·.2) = assign (.Name x px) X.env :: (assignEach ts X.env).map (·.2) := by rfl) : PGs X (.Name x px :: ts) (gN (i :: is)) :=
  pgs_cons (pg_name (i := i) hN hi hx hf) h hs
theorem gn_run : ∀ {is : List Nat} {vs : List V} {σ : St} {H : Hp} {Q : St → Hp → Prop}, vs.length = is.length → Q ((is.zip vs).foldl (fun σ x => σ.set x.1 (some x.2)) σ) H → gN is vs σ H Q
  | [], [], _, _, _, _, h => ⟨rfl, h⟩
  | [], _ :: _, _, _, _, h, _ => by cases h
  | _ :: _, [], _, _, _, h, _ => by cases h
  | i :: is, v :: vs, σ, H, Q, hl, h => ⟨v, vs, rfl, gn_run (by simpa using hl) h⟩
theorem pvs_there {K : PySem.W.Frag} {G H : Hp} {vs : List V} {ps : List PV} {PP : List (List Addr)} (h : PVs K c G H vs ps PP) : ∀ b, b ∈ PP.flatten → H b ≠ none := by
  induction h with
  | nil => intro b hb; simp at hb
  | inl _ _ ih => intro b hb; exact ih b (by simpa using hb)
  | inr r _ ih =>
    intro b hb
    rw [List.flatten_cons] at hb
    rcases List.mem_append.mp hb with hb | hb
    · exact cell_there r b hb
    · exact ih b hb
theorem parT_post {σ : St} {H : Hp} {D : Ends} (h : tS X.K c W (mPar is mps) D σ H) : tPs X.K c W mps σ H fun vs H1 => vs.length = is.length ∧ ∀ p, H1 p = none → D.nx ((is.zip vs).foldl (fun σ x => σ.set x.1 (some x.2)) σ) (upd H1 p (.tup vs)) := by
  obtain ⟨F, G, P, env, R, h⟩ := h
  refine ⟨F, G, P, env, R, (Post.bindS h).imp fun ps G1 H1 P1 _ ⟨env1, R1, h1⟩ vs PP pv nd out => ?_⟩
  unfold M.upd at h1
  cases q : setPVs is ps env1 with
  | none => rw [q] at h1; exact h1.elim
  | some e1 =>
    rw [q] at h1
    have len : ∀ {is : List Nat} {ps : List PV} {vs : List V} {PP : List (List Addr)} {e e' : Ev}, PVs X.K c G1 H1 vs ps PP → setPVs is ps e = some e' → vs.length = is.length := by
      intro is
      induction is with
      | nil => intro ps vs PP e e' pv q; cases pv <;> first | rfl | (unfold setPVs at q; cases q)
      | cons i is ih =>
        intro ps vs PP e e' pv q
        cases pv with
        | nil => unfold setPVs at q; cases q
        | inl _ t =>
          unfold setPVs at q
          split at q
          · rw [List.length_cons, List.length_cons, ih t q]
          · cases q
        | inr _ t =>
          unfold setPVs at q
          split at q
          · rw [List.length_cons, List.length_cons, ih t q]
          · cases q
    refine ⟨len pv q, fun p hp => ?_⟩
    obtain ⟨x2, R2⟩ := R1.pure (Pure.new (.tup vs) R1.gs hp)
    have sH : Same H1 (upd H1 p (.tup vs)) := same_new hp
    have pv2 : PVs X.K c (upd G1 p (.tup vs)) (upd H1 p (.tup vs)) vs ps PP := pv.move (same_new (none_of R1.gs hp)) fun b _ o ho => sH b o ho
    have out2 : ∀ b, b ∈ PP.flatten → F b = none ∧ upd G1 p (.tup vs) b = none ∧ b ∉ P1.flatten := fun b hb => by
      obtain ⟨a1, a2, a3⟩ := out b hb
      refine ⟨a1, ?_, a3⟩
      have ne : b ≠ p := fun e => pvs_there pv b hb (by rw [e]; exact hp)
      rw [upd_ne ne]
      exact a2
    obtain ⟨P', k, R3⟩ := Rel.setPVs R2 pv2 nd out2 q
    exact PostS.here R3 (h1.chain x2 k)
theorem ds_parT {x1 kt : Nat} {pt pt2 : Pos} (ha : PA X es (tPs X.K c W mps)) (hg : PGs X ts (gN is)) (hlen : is.length ≤ sizeLine := by decide) (hc : X.calm = true := by rfl) (hn : (assignEach ts X.env).length = is.length := by rfl) (hst : (assignEach ts X.env).findIdx? (·.1) = none := by rfl)
    (hs : swapsWithSole [.Tuple ts kt pt] (.Tuple es x1 pt2) pos.line X.env = pure false := by rfl) (hw : swappedStores [.Tuple ts kt pt] (.Tuple es x1 pt2) X.env = pure none := by rfl)
    (h1 : (assignEach [.Tuple ts kt pt] X.env).map (·.2) = [assign (.Tuple ts kt pt) X.env] := by rfl) : PS X (.Assign [.Tuple ts kt pt] (.Tuple es x1 pt2) pos) (tS X.K c W (mPar is mps)) := by
  refine PS.weak (ps_asg (pe_tup ha) (pg_tup hc hg hn hst) hs hw h1) fun D σ H h => ?_
  have h := parT_post h
  obtain ⟨F, G, P, env, R, h⟩ := h
  refine ⟨F, G, P, env, R, h.imp fun ps G' H' P' _ q vs PP pv nd out => ?_⟩
  obtain ⟨hl, q⟩ := q vs PP pv nd out
  exact ⟨by rw [hl]; exact hlen, fun p hp => ⟨p, vs, rfl, SqT.of upd_same, hl, gn_run hl (q p hp)⟩⟩
end
end L2.DL
set_option Elab.async false
set_option linter.all false
set_option maxRecDepth 100000
set_option maxHeartbeats 4000000
namespace L2.DL
open PySem PySem.Spec PyProof.Rows
def mthR (cl : Nat) (fn : Fn) (x : D) (ms : M (List D)) (e : Ev) : Res D := match x with
  | .obj n fs => if n = cl then (ms e).bnd fun ds e => callR (fn (.val (.obj n fs) :: ds.map .val)) e else .bad
  | _ => .bad
theorem ev_mth2 {cl : Nat} {fn : Fn} {o : M D} {ms : M (List D)} {e : Ev} : mMth cl fn o ms e = (o e).bnd fun x e => mthR cl fn x ms e := by
  rw [ev_mth]
  refine congrArg (Res.bnd (o e)) (funext fun x => funext fun e1 => ?_)
  cases x <;> rfl
theorem mthR_obj {cl : Nat} {fn : Fn} {fs : List D} {ms : M (List D)} {e : Ev} : mthR cl fn (.obj cl fs) ms e = (ms e).bnd fun ds e => callR (fn (.val (.obj cl fs) :: ds.map .val)) e := if_pos rfl
end L2.DL
set_option Elab.async false
set_option linter.all false
set_option maxRecDepth 100000
set_option maxHeartbeats 4000000
namespace L2.DL
open PySem PySem.Spec PyProof.Rows
/-! ### zip of three tuples -/
def Itz3 (K : PySem.W.Frag) (a b c : Addr) : It :=
  ⟨fun i H => ∃ (xs ys zs : List V) (x y u : V), SqT K H a xs ∧ SqT K H b ys ∧ SqT K H c zs ∧ xs[i]? = some x ∧ ys[i]? = some y ∧ zs[i]? = some u,
    fun i H v H' => ∃ T x y u, v = .ref T ∧ H T = none ∧ H' = upd H T (.tup [x, y, u]) ∧ (∀ xs, SqT K H a xs → xs[i]? = some x) ∧ (∀ ys, SqT K H b ys → ys[i]? = some y) ∧ ∀ zs, SqT K H c zs → zs[i]? = some u,
    fun i H => ∃ xs ys zs : List V, SqT K H a xs ∧ SqT K H b ys ∧ SqT K H c zs ∧ i ≤ xs.length ∧ i ≤ ys.length ∧ i ≤ zs.length ∧ (i = xs.length ∨ i = ys.length ∨ i = zs.length)⟩
structure Apart3 (z TI TO i1 i2 i3 a b c : Addr) : Prop where
  nd : [z, TI, TO, i1, i2, i3].Nodup
  old : ∀ x, x ∈ [a, b, c] → x ∉ [z, TI, TO, i1, i2, i3]
theorem Apart3.sep {z TI TO i1 i2 i3 a b c : Addr} (D : Apart3 z TI TO i1 i2 i3 a b c) : ZipSep3 z TI TO i1 i2 i3 [i1, a] [i2, b] [i3, c] := by
  obtain ⟨nd, old⟩ := D
  have oa := old a (by simp)
  have ob := old b (by simp)
  have oc := old c (by simp)
  simp only [List.nodup_cons, List.mem_cons, List.not_mem_nil, or_false, not_or, List.nodup_nil, not_false_eq_true, and_true] at nd oa ob oc
  obtain ⟨⟨n1, n2, n3, n4, n5⟩, ⟨n6, n7, n8, n9⟩, ⟨n10, n11, n12⟩, ⟨n13, n14⟩, n15⟩ := nd
  obtain ⟨a1, a2, a3, a4, a5, a6⟩ := oa
  obtain ⟨b1, b2, b3, b4, b5, b6⟩ := ob
  obtain ⟨c1, c2, c3, c4, c5, c6⟩ := oc
  have s1 : ∀ {x y : Addr}, ¬ x = y → ¬ y = x := fun h e => h e.symm
  constructor <;> first
    | exact List.mem_cons_self
    | assumption
    | (apply s1; assumption)
    | (simp only [List.mem_cons, List.not_mem_nil, or_false, not_or]; exact ⟨by first | assumption | (apply s1; assumption), by first | assumption | (apply s1; assumption)⟩)
theorem turn_zip3 {P : Program} {w : World} {K : PySem.W.Frag} {elts : List Expr} {kk : Nat} {tpos : Pos} {a b c z TI TO i1 i2 i3 : Addr} (D : Apart3 z TI TO i1 i2 i3 a b c) :
    Turn P w K (.Tuple elts kk tpos) (Itz3 K a b c) [z, TI, TO, i1, i2, i3] z (fun i h => IsZip h z TI TO .none ∧ IsTupOf3 h TI (.ref i1) (.ref i2) (.ref i3) ∧ (∃ x y u, IsTupOf3 h TO x y u) ∧ h.IsTupleIter i1 a i ∧ h.IsTupleIter i2 b i ∧ h.IsTupleIter i3 c i) where
  mem := by simp
  obj := fun i h st q hq => by
    obtain ⟨hz, hTI, ⟨x, y, u, hTO⟩, ⟨o1, e1, _, d1⟩, ⟨o2, e2, _, d2⟩, ⟨o3, e3, _, d3⟩⟩ := st
    have e' : q = z ∨ q = TI ∨ q = TO ∨ q = i1 ∨ q = i2 ∨ q = i3 := by simpa using hq
    rcases e' with q | q | q | q | q | q
    · rw [q]; exact ⟨_, hz, fun v q => nomatch q⟩
    · rw [q]; exact ⟨_, hTI, fun v q => nomatch q⟩
    · rw [q]; exact ⟨_, hTO, fun v q => nomatch q⟩
    · rw [q]; exact ⟨o1, e1, fun v q => by rw [d1] at q; cases q⟩
    · rw [q]; exact ⟨o2, e2, fun v q => by rw [d2] at q; cases q⟩
    · rw [q]; exact ⟨o3, e3, fun v q => by rw [d3] at q; cases q⟩
  keep := fun i h h' st k => by
    obtain ⟨hz, hTI, ⟨x, y, u, hTO⟩, h1, h2, h3⟩ := st
    exact ⟨k z (by simp) _ hz, k TI (by simp) _ hTI, ⟨x, y, u, k TO (by simp) _ hTO⟩, h1.at fun o q => k i1 (by simp) o q, h2.at fun o q => k i2 (by simp) o q, h3.at fun o q => k i3 (by simp) o q⟩
  item := by
    intro X hP hw hK hc i pins s σ H E I hf st hg
    subst hP hw hK
    have S := D.sep
    obtain ⟨hz, hTI, ⟨x0, y0, u0, hTO⟩, h1, h2, h3⟩ := st
    obtain ⟨xs, ys, zs, x, y, u, hqx, hqy, hqz, hx, hy, hu⟩ := hg
    obtain ⟨its, rv, p, _⟩ := I.tuple hqx
    obtain ⟨its2, rv2, p2, _⟩ := I.tuple hqy
    obtain ⟨its3, rv3, p3, _⟩ := I.tuple hqz
    obtain ⟨v1, hv1, r1⟩ := rv.get hx
    obtain ⟨v2, hv2, r2⟩ := rv2.get hy
    obtain ⟨v3, hv3, r3⟩ := rv3.get hu
    have hh : X.A.in1.handled = none := I.ok.hd hc
    have hzl : z < s.heap.objs.size := Heap.lt_size hz
    have D1 := Draws.tuple (prog := X.prog) (w := X.w) hh i1 a (fun e => D.old a (by simp) (by rw [e]; simp)) its.toArray
    have D2 := Draws.tuple (prog := X.prog) (w := X.w) hh i2 b (fun e => D.old b (by simp) (by rw [e]; simp)) its2.toArray
    have D3 := Draws.tuple (prog := X.prog) (w := X.w) hh i3 c (fun e => D.old c (by simp) (by rw [e]; simp)) its3.toArray
    have hT : s.TypeIs (.ref z) "zip" := ⟨_, hz, rfl⟩
    have lt1 : i < its.toArray.size := by have := (List.getElem?_eq_some_iff.mp hv1).1; simpa using this
    have lt2 : i < its2.toArray.size := by have := (List.getElem?_eq_some_iff.mp hv2).1; simpa using this
    have lt3 : i < its3.toArray.size := by have := (List.getElem?_eq_some_iff.mp hv3).1; simpa using this
    unfold pyNext
    refine wpAny_bind (wpAny_attempt (wpAny_callSpecial?_slot (name := Str.ofString "__next__") hT F.slot_zip_next
      (wpAny_call_entry F.slot_zip_next hT F.entry_zip_next
        (zipD3_next_item S D1 D2 D3 hz hTI hTO ⟨h1, p⟩ ⟨h2, p2⟩ ⟨h3, p3⟩ lt1 lt2 lt3 fun x1 x2 x3 h' tk e1 e2 e3 z' TO' s1 s2 s3 hT' hsz hk => wpAny_pure ?_) (F.args_zip_next_1 _))))
    obtain rfl : x1 = v1 := by have : some v1 = some x1 := by rw [← hv1]; simpa using e1
                               exact (Option.some.inj this).symm
    obtain rfl : x2 = v2 := by have : some v2 = some x2 := by rw [← hv2]; simpa using e2
                               exact (Option.some.inj this).symm
    obtain rfl : x3 = v3 := by have : some v3 = some x3 := by rw [← hv3]; simpa using e3
                               exact (Option.some.inj this).symm
    refine ⟨_, rfl, wpAny_letOwnedTupleGo_zip (s := { s with heap := h', toks := tk }) z' fun h'' z'' sb => ?_⟩
    have hT2 : h''.get? s.heap.objs.size = some { cls := .type "tuple", data := .seq #[x1, x2, x3] } := (sb.2 _ (Nat.ne_of_gt hzl)).trans hT'
    have new : ObjOk X.prog X.w (upd H s.heap.objs.size (.tup [x, y, u])) h'' s.heap.objs.size (.tup [x, y, u]) :=
      ⟨by show 3 ≤ sizeLine; decide, [x1, x2, x3], .cons r1 (.cons r2 (.cons r3 .nil)), ⟨_, hT2, rfl, _, rfl⟩⟩
    have I1 : Inv X pins σ (upd H s.heap.objs.size (.tup [x, y, u])) { s with heap := h'', toks := tk } :=
      I.turnedNew (t' := tk) (ch := [z, TI, TO, i1, i2, i3]) (fun c o hb q => (sb.2 c (fun q' => hb (by simp [q']))).trans (hk c o (fun q' => hb (by simp [q'])) (fun q' => hb (by simp [q'])) (fun q' => hb (by simp [q'])) (fun q' => hb (by simp [q'])) (fun q' => hb (by simp [q'])) q)) hf (Nat.le_refl _) new
    refine ⟨.ref s.heap.objs.size, _, I1, rfl, ⟨_, x, y, u, rfl, I.hok.fresh (Nat.le_refl _), rfl, fun l hl => by rw [I.tuple_inj hl hqx]; exact hx, fun l hl => by rw [I.tuple_inj hl hqy]; exact hy, fun l hl => by rw [I.tuple_inj hl hqz]; exact hu⟩, ⟨z'', ?_, ⟨x1, x2, x3, ?_⟩, ?_, ?_, ?_⟩, fun q hqm => ?_⟩
    · exact (sb.2 _ S.TIz).trans (hk _ _ S.TIz S.TITO S.TIi1 S.TIi2 S.TIi3 hTI)
    · exact (sb.2 _ S.TOz).trans TO'
    · exact s1.1.at fun o q => (sb.2 _ (Ne.symm S.zi1)).trans q
    · exact s2.1.at fun o q => (sb.2 _ (Ne.symm S.zi2)).trans q
    · exact s3.1.at fun o q => (sb.2 _ (Ne.symm S.zi3)).trans q
    · have hlt : q < s.heap.objs.size := by
        have e' : q = z ∨ q = TI ∨ q = TO ∨ q = i1 ∨ q = i2 ∨ q = i3 := by simpa using hqm
        rcases e' with q | q | q | q | q | q
        · rw [q]; exact hzl
        · rw [q]; exact Heap.lt_size hTI
        · rw [q]; exact Heap.lt_size hTO
        · rw [q]; obtain ⟨_, e1, _⟩ := h1; exact Heap.lt_size e1
        · rw [q]; obtain ⟨_, e2, _⟩ := h2; exact Heap.lt_size e2
        · rw [q]; obtain ⟨_, e3, _⟩ := h3; exact Heap.lt_size e3
      rw [upd_ne (Nat.ne_of_lt hlt)]
      exact (hf q hqm).1
  done := by
    intro X hP hw hK hc i pins s σ H E I hf st hg
    subst hP hw hK
    have S := D.sep
    obtain ⟨hz, hTI, ⟨x0, y0, u0, hTO⟩, h1, h2, h3⟩ := st
    obtain ⟨xs, ys, zs, hqx, hqy, hqz, l1, l2, l3, hend⟩ := hg
    obtain ⟨its, rv, p, _⟩ := I.tuple hqx
    obtain ⟨its2, rv2, p2, _⟩ := I.tuple hqy
    obtain ⟨its3, rv3, p3, _⟩ := I.tuple hqz
    have e1 := rv.length
    have e2 := rv2.length
    have e3 := rv3.length
    have hh : X.A.in1.handled = none := I.ok.hd hc
    have D1 := Draws.tuple (prog := X.prog) (w := X.w) hh i1 a (fun e => D.old a (by simp) (by rw [e]; simp)) its.toArray
    have D2 := Draws.tuple (prog := X.prog) (w := X.w) hh i2 b (fun e => D.old b (by simp) (by rw [e]; simp)) its2.toArray
    have D3 := Draws.tuple (prog := X.prog) (w := X.w) hh i3 c (fun e => D.old c (by simp) (by rw [e]; simp)) its3.toArray
    have hT : s.TypeIs (.ref z) "zip" := ⟨_, hz, rfl⟩
    unfold pyNext
    refine wpAny_bind (wpAny_attempt (wpAny_callSpecial?_slot (name := Str.ofString "__next__") hT F.slot_zip_next
      (wpAny_call_entry F.slot_zip_next hT F.entry_zip_next (zipD3_next_end S D1 D2 D3 hz hTI hTO ⟨h1, p⟩ ⟨h2, p2⟩ ⟨h3, p3⟩ (by simp; omega) (by simp; omega) (by simp; omega) (by simp; omega) fun h' tk e hk he => ?_) (F.args_zip_next_1 _))))
    obtain ⟨o, ho, hc⟩ := he
    refine wpAny_bind (wpAny_isInstance (T := "StopIteration") (b := true) ⟨o, ho, hc⟩ isSubtype_stop ?_)
    exact wpAny_pure ⟨rfl, I.turnedL (t' := tk) (ch := [z, TI, TO, i1, i2, i3]) (fun c o hb q =>
      hk c o (fun q' => hb (by simp [q'])) (fun q' => hb (by simp [q'])) (fun q' => hb (by simp [q'])) (fun q' => hb (by simp [q'])) (fun q' => hb (by simp [q'])) q) hf⟩
  self := fun A i s Q E st h => wpAny_pyIter_zip st.1 h
theorem walk_zip3 {K : PySem.W.Frag} {a b c : Addr} {xs ys zs : List V} {n : Nat} (hn : n = min (min xs.length ys.length) zs.length) :
    Walk (Itz3 K a b c) n (fun H => SqT K H a xs ∧ SqT K H b ys ∧ SqT K H c zs) (fun i H v H' => ∃ T x y u, v = .ref T ∧ H T = none ∧ H' = upd H T (.tup [x, y, u]) ∧ xs[i]? = some x ∧ ys[i]? = some y ∧ zs[i]? = some u) := by
  subst hn
  refine ⟨fun i _ hi q => ?_, fun _ q => ⟨xs, ys, zs, q.1, q.2.1, q.2.2, by omega, by omega, by omega, by omega⟩, fun i H v H' _ q y => ?_⟩
  · have h1 : i < xs.length := by omega
    have h2 : i < ys.length := by omega
    have h3 : i < zs.length := by omega
    exact ⟨xs, ys, zs, xs[i], ys[i], zs[i], q.1, q.2.1, q.2.2, by simp [h1], by simp [h2], by simp [h3]⟩
  · obtain ⟨T, x, y, u, h1, h2, h3, h4, h5, h6⟩ := y
    exact ⟨T, x, y, u, h1, h2, h3, h4 xs q.1, h5 ys q.2.1, h6 zs q.2.2⟩
def iZip3 (K : PySem.W.Frag) (ta : TA) : TI := fun σ H R => ta σ H fun vs H1 => ∃ a b c xs ys zs, vs = [.ref a, .ref b, .ref c] ∧ SqT K H1 a xs ∧ SqT K H1 b ys ∧ SqT K H1 c zs ∧ R (Itz3 K a b c) H1
theorem pi_zip3 {X : Cx} {e e2 e3 : Expr} {ta : TA} {p pos tpos : Pos} {elts : List Expr} {kk : Nat} (hg : Gl X "zip") (hm : X.mg "zip" = none) (ha : PA X [e, e2, e3] ta)
    (hs : starEach [e, e2, e3] X.env = (false, eval e X.env) :: starEach [e2, e3] X.env := by rfl) (hpl : (backTo pos (starEach [e2, e3] X.env)).any (·.1) = false := by rfl) :
    PI X (.Tuple elts kk tpos) (.Call (.Name "zip" p) [e, e2, e3] [] pos) (iZip3 X.K ta) := by
  refine ⟨fun pins s σ H R I h => ?_⟩
  refine Call_ (ld_blt I hg hm PyProof.Rows.boot_zip (PyProof.Rows.callWith_type1 (thn (ha.run pos pins s σ H _ I h) fun us s1 ⟨vs, H1, I1, r1, q1⟩ => ?_) hs hpl))
  obtain ⟨a, b, c, xs, ys, zs, ex, hqx, hqy, hqz, q⟩ := q1
  subst ex
  cases r1 with
  | cons r rr =>
    cases rr with
    | cons r' rr =>
      cases rr with
      | cons r'' rr =>
        cases rr
        cases r
        cases r'
        cases r''
        obtain ⟨its, rv, p1, _⟩ := I1.tuple hqx
        obtain ⟨its2, rv2, p2, _⟩ := I1.tuple hqy
        obtain ⟨its3, rv3, p3, _⟩ := I1.tuple hqz
        have la : a < s1.heap.objs.size := by obtain ⟨o, ho, _⟩ := id p1; exact Heap.lt_size ho
        have lb : b < s1.heap.objs.size := by obtain ⟨o, ho, _⟩ := id p2; exact Heap.lt_size ho
        have lc : c < s1.heap.objs.size := by obtain ⟨o, ho, _⟩ := id p3; exact Heap.lt_size ho
        refine zip_begins3 (begins_tuple a its.toArray) (begins_tuple b its2.toArray) (begins_tuple c its3.toArray) (show s1.heap.IsTuple a its.toArray from p1) (show s1.heap.IsTuple b its2.toArray from p2) (show s1.heap.IsTuple c its3.toArray from p3) fun h' hz hTI hTO h1 h2 h3 hsz hk => wpAny_pyIter_zip hz ?_
        have I2 : Inv X pins σ H1 { s1 with heap := h' } := I1.kept (t' := s1.toks) hk
        generalize hN : s1.heap.objs.size = N at *
        have ap : Apart3 (N + 5) (N + 3) (N + 4) N (N + 1) (N + 2) a b c := ⟨by simp, fun x hx => by
          simp only [List.mem_cons, List.not_mem_nil, or_false] at hx ⊢
          have hx : (x : Nat) < N := by rcases hx with rfl | rfl | rfl <;> assumption
          intro e
          have hx : @LT.lt Nat _ x N := hx
          rcases e with e | e | e | e | e | e <;> (have e : @Eq Nat x _ := e; omega)⟩
        refine ⟨N + 5, [N + 5, N + 3, N + 4, N, N + 1, N + 2], _, _, H1, rfl, I2, turn_zip3 ap, ⟨hz, hTI, ⟨_, _, _, hTO⟩, ⟨_, h1, rfl, rfl⟩, ⟨_, h2, rfl, rfl⟩, ⟨_, h3, rfl, rfl⟩⟩, fun q hqm => ?_, q⟩
        have hle : N ≤ q := by
          have e' : q = N + 5 ∨ q = N + 3 ∨ q = N + 4 ∨ q = N ∨ q = N + 1 ∨ q = N + 2 := by simpa using hqm
          show @LE.le Nat _ N q
          rcases e' with e | e | e | e | e | e <;> (have e : @Eq Nat q _ := e; omega)
        exact I1.fpOk (by rw [hN]; exact hle) (I1.hok.fresh (by rw [hN]; exact hle))
def zip3D : List D → List D → List D → List D
  | x :: xs, y :: ys, z :: zs => .tup [x, y, z] :: zip3D xs ys zs
  | _, _, _ => []
def fZip3 : List D → Option (List D)
  | [.tup xs, .tup ys, .tup zs] => some (zip3D xs ys zs)
  | _ => none
def mZip3 (ms : M (List D)) : M (List D) := M.bind ms fun ds => M.opt (fZip3 ds)
@[simp] theorem ev_zip3 {ms : M (List D)} {e : Ev} : mZip3 ms e = (ms e).bnd fun ds e => M.opt (fZip3 ds) e := rfl
theorem zip3D_len : ∀ (xs ys zs : List D), (zip3D xs ys zs).length = min (min xs.length ys.length) zs.length
  | [], _, _ => by simp [zip3D]
  | _ :: _, [], _ => by simp [zip3D]
  | _ :: _, _ :: _, [] => by simp [zip3D]
  | x :: xs, y :: ys, z :: zs => by simp only [zip3D, List.length_cons, zip3D_len xs ys zs]; omega
theorem zip3D_get : ∀ (xs ys zs : List D) (i : Nat) (x y z : D), xs[i]? = some x → ys[i]? = some y → zs[i]? = some z → (zip3D xs ys zs)[i]? = some (.tup [x, y, z])
  | [], _, _, i, _, _, _, h, _, _ => by simp at h
  | _ :: _, [], _, i, _, _, _, _, h, _ => by simp at h
  | _ :: _, _ :: _, [], i, _, _, _, _, _, h => by simp at h
  | a :: xs, b :: ys, c :: zs, 0, x, y, z, h1, h2, h3 => by simp at h1 h2 h3; subst h1 h2 h3; rfl
  | a :: xs, b :: ys, c :: zs, i + 1, x, y, z, h1, h2, h3 => by simpa [zip3D] using zip3D_get xs ys zs i x y z (by simpa using h1) (by simpa using h2) (by simpa using h3)
theorem gives_zip3 {K : PySem.W.Frag} {c : Cl} {G0 : Hp} {a b d : Addr} {vs ws us : List V} {ds es fs : List D} (h1 : SqT K G0 a vs) (h2 : SqT K G0 b ws) (h3 : SqT K G0 d us) (r1 : Reps K c G0 vs ds) (r2 : Reps K c G0 ws es) (r3 : Reps K c G0 us fs) : Gives K c G0 (Itz3 K a b d) (zip3D ds es fs) := by
  refine ⟨⟨fun H => SqT K H a vs ∧ SqT K H b ws ∧ SqT K H d us, _, walk_zip3 (by rw [zip3D_len, r1.length, r2.length, r3.length]), fun H hs => ⟨Same.seqT hs h1, Same.seqT hs h2, Same.seqT hs h3⟩, fun i H x H' G _ g1 g2 y => ?_⟩⟩
  obtain ⟨T, x1, y1, u1, e1, e2, e3, e4, e5, e6⟩ := y
  subst e1 e3
  obtain ⟨d1, f1, q1⟩ := r1.get' e4
  obtain ⟨d2, f2, q2⟩ := r2.get' e5
  obtain ⟨d3, f3, q3⟩ := r3.get' e6
  refine ⟨upd G T (.tup [x1, y1, u1]), .tup [d1, d2, d3], zip3D_get _ _ _ _ _ _ _ f1 f2 f3, Pure.new _ g2 e2, ?_⟩
  have m := g1.trans (same_new (none_of g2 e2) (o := .tup [x1, y1, u1]))
  exact .tup (SqT.of upd_same) (.cons (q1.mono m) (.cons (q2.mono m) (.cons (q3.mono m) .nil)))
theorem di_zip3 {X : Cx} {c : Cl} {W : WX} {pos p tpos : Pos} {e e2 e3 : Expr} {elts : List Expr} {kk : Nat} {ms : M (List D)} (hm : X.mg "zip" = none) (ha : PA X [e, e2, e3] (tA X.K c W ms)) (hg : Gl X "zip" := by rfl)
    (hs : starEach [e, e2, e3] X.env = (false, eval e X.env) :: starEach [e2, e3] X.env := by rfl) (hpl : (backTo pos (starEach [e2, e3] X.env)).any (·.1) = false := by rfl) :
    PI X (.Tuple elts kk tpos) (.Call (.Name "zip" p) [e, e2, e3] [] pos) (tI X.K c W (mZip3 ms)) := by
  refine PI.weak (pi_zip3 hg hm ha hs hpl) fun σ H R h => ?_
  obtain ⟨F, G, P, env, Rl, h⟩ := h
  refine ⟨F, G, P, env, Rl, (Post.bind h).imp fun ds G1 H1 P1 _ ⟨env1, R1, h1⟩ vs r => ?_⟩
  cases q : fZip3 ds with
  | none => rw [q] at h1; exact h1.elim
  | some items =>
    rw [q] at h1
    have h2 : Post X.K c W F G1 P1 σ env1 (.ok items env1) _ := h1
    unfold fZip3 at q
    split at q
    · cases q
      cases r with
      | cons a1 t1 =>
        cases t1 with
        | cons a2 t2 =>
          cases t2 with
          | cons a3 t3 =>
            cases t3
            cases a1 with
            | tup s1 r1 =>
              cases a2 with
              | tup s2 r2 =>
                cases a3 with
                | tup s3 r3 => exact ⟨_, _, _, _, _, _, rfl, Same.seqT R1.gs s1, Same.seqT R1.gs s2, Same.seqT R1.gs s3, Post.here R1 h2 _ (gives_zip3 s1 s2 s3 r1 r2 r3)⟩
    · cases q
/-! ### zip of two lists, of two tuples -/
theorem walk_zipT {K : PySem.W.Frag} {a b : Addr} {xs ys : List V} {n : Nat} (hn : n = min xs.length ys.length) : Walk (RZ.ItzT K a b) n (fun H => SqT K H a xs ∧ SqT K H b ys) (YPair (fun i => xs[i]?) (fun i => ys[i]?)) := by
  subst hn
  refine ⟨fun i _ hi q => ?_, fun _ q => ⟨xs, ys, q.1, q.2, by omega⟩, fun i H v H' _ q y => ?_⟩
  · have h1 : i < xs.length := by omega
    have h2 : i < ys.length := by omega
    exact ⟨xs, ys, xs[i], ys[i], q.1, q.2, by simp [h1], by simp [h2]⟩
  · obtain ⟨T, x, z, h1, h2, h3, h4, h5⟩ := y
    exact ⟨T, x, z, h1, h2, h3, h4 xs q.1, h5 ys q.2⟩
def zip2D : List D → List D → List D
  | x :: xs, y :: ys => .tup [x, y] :: zip2D xs ys
  | _, _ => []
def fZip2 : List D → Option (List D)
  | [.tup xs, .tup ys] => some (zip2D xs ys)
  | [x, y] => x.items.bind fun xs => y.items.map fun ys => zip2D xs ys
  | _ => none
def mZip2 (ms : M (List D)) : M (List D) := M.bind ms fun ds => M.opt (fZip2 ds)
@[simp] theorem ev_zip2 {ms : M (List D)} {e : Ev} : mZip2 ms e = (ms e).bnd fun ds e => M.opt (fZip2 ds) e := rfl
theorem zip2D_len : ∀ (xs ys : List D), (zip2D xs ys).length = min xs.length ys.length
  | [], _ => by simp [zip2D]
  | _ :: _, [] => by simp [zip2D]
  | x :: xs, y :: ys => by simp only [zip2D, List.length_cons, zip2D_len xs ys]; omega
theorem zip2D_get : ∀ (xs ys : List D) (i : Nat) (x y : D), xs[i]? = some x → ys[i]? = some y → (zip2D xs ys)[i]? = some (.tup [x, y])
  | [], _, i, _, _, h, _ => by simp at h
  | _ :: _, [], i, _, _, _, h => by simp at h
  | a :: xs, b :: ys, 0, x, y, h1, h2 => by simp at h1 h2; subst h1 h2; rfl
  | a :: xs, b :: ys, i + 1, x, y, h1, h2 => by simpa [zip2D] using zip2D_get xs ys i x y (by simpa using h1) (by simpa using h2)
theorem gives_pair {K : PySem.W.Frag} {c : Cl} {G0 : Hp} {J : It} {Gp : Hp → Prop} {vs ws : List V} {ds es : List D} (hw : Walk J (zip2D ds es).length Gp (YPair (fun i => vs[i]?) (fun i => ws[i]?))) (hG : ∀ H, Same G0 H → Gp H) (r1 : Reps K c G0 vs ds) (r2 : Reps K c G0 ws es) : Gives K c G0 J (zip2D ds es) := by
  refine ⟨⟨Gp, _, hw, hG, fun i H x H' G _ g1 g2 y => ?_⟩⟩
  obtain ⟨T, x1, y1, e1, e2, e3, e4, e5⟩ := y
  subst e1 e3
  obtain ⟨d1, f1, q1⟩ := r1.get' e4
  obtain ⟨d2, f2, q2⟩ := r2.get' e5
  refine ⟨upd G T (.tup [x1, y1]), .tup [d1, d2], zip2D_get _ _ _ _ _ f1 f2, Pure.new _ g2 e2, ?_⟩
  have m := g1.trans (same_new (none_of g2 e2) (o := .tup [x1, y1]))
  exact .tup (SqT.of upd_same) (.cons (q1.mono m) (.cons (q2.mono m) .nil))
theorem di_zip2 {X : Cx} {c : Cl} {W : WX} {pos p tpos : Pos} {e e2 : Expr} {elts : List Expr} {kk : Nat} {ms : M (List D)} (hm : X.mg "zip" = none) (ha : PA X [e, e2] (tA X.K c W ms)) (hg : Gl X "zip" := by rfl)
    (hs : starEach [e, e2] X.env = (false, eval e X.env) :: starEach [e2] X.env := by rfl) (hpl : (backTo pos (starEach [e2] X.env)).any (·.1) = false := by rfl) :
    PI X (.Tuple elts kk tpos) (.Call (.Name "zip" p) [e, e2] [] pos) (tI X.K c W (mZip2 ms)) := by
  refine PI.weak (RZ.pi_zipA hg hm ha hs hpl) fun σ H R h => ?_
  obtain ⟨F, G, P, env, Rl, h⟩ := h
  refine ⟨F, G, P, env, Rl, (Post.bind h).imp fun ds G1 H1 P1 _ ⟨env1, R1, h1⟩ vs r => ?_⟩
  cases q : fZip2 ds with
  | none => rw [q] at h1; exact h1.elim
  | some items =>
    rw [q] at h1
    have h2 : Post X.K c W F G1 P1 σ env1 (.ok items env1) _ := h1
    unfold fZip2 at q
    split at q
    · cases q
      cases r with
      | cons a1 t1 =>
        cases t1 with
        | cons a2 t2 =>
          cases t2
          cases a1 with
          | tup s1 r1 =>
            cases a2 with
            | tup s2 r2 => exact ⟨_, _, _, _, rfl, .inr ⟨Same.seqT R1.gs s1, Same.seqT R1.gs s2, Post.here R1 h2 _ (gives_pair (walk_zipT (by rw [zip2D_len, r1.length, r2.length])) (fun H hs => ⟨Same.seqT hs s1, Same.seqT hs s2⟩) r1 r2)⟩⟩
    · cases r with
      | cons a1 t1 =>
        cases t1 with
        | cons a2 t2 =>
          cases t2
          obtain ⟨xs, e1, q⟩ := Option.bind_eq_some_iff.mp q
          obtain ⟨ys, e2, q⟩ := Option.map_eq_some_iff.mp q
          subst q
          obtain ⟨l1, w1, rfl, s1, r1⟩ := items_rep (Same.refl G1) a1 e1
          obtain ⟨l2, w2, rfl, s2, r2⟩ := items_rep (Same.refl G1) a2 e2
          exact ⟨_, _, _, _, rfl, .inl ⟨R1.gs.seq s1, R1.gs.seq s2, Post.here R1 h2 _ (gives_pair (walk_zip (by rw [zip2D_len, r1.length, r2.length])) (fun H hs => ⟨hs.seq s1, hs.seq s2⟩) r1 r2)⟩⟩
    · cases q
end L2.DL
set_option Elab.async false
set_option linter.all false
set_option maxRecDepth 100000
set_option maxHeartbeats 4000000
namespace L2.DL
open PySem PySem.Spec PyProof.Rows
section
variable {X : Cx} {c : Cl} {W : WX} {pos : Pos} {a b d : Expr} {ma mb md : M D}
/-- a op b op' d, asked for its truth -/
theorem dt_chain {op op' : CmpOp} {g g' : D → D → Option D} (ho : OpD X c (compareOp op) g) (ho' : OpD X c (compareOp op') g') (ha : PE X a (tE X.K c W ma)) (hb : PE X b (tE X.K c W mb)) (hd : PE X d (tE X.K c W md))
    (hm : lastMarks [op, op'] [b, d] = false := by with_unfolding_all rfl) : PT X (.Compare a [op, op'] [b, d] pos) (tT X.K c W (mTest (mChain g g' ma mb md))) := by
  refine PT.weak (pt_chain ho ho' ha hb hd hm) fun σ H Q h => ?_
  show tChain _ _ _ _ _ σ H _
  have h := test_imp h
  obtain ⟨F, G, P, env, R, h⟩ := h
  refine ⟨F, G, P, env, R, (Post.bind h).imp fun x G1 H1 P1 _ ⟨env1, R1, h1⟩ v1 r1 => ⟨F, G1, P1, env1, R1, (Post.bind h1).imp fun y G2 H2 P2 x2 ⟨env2, R2, h2⟩ v2 r2 => ?_⟩⟩
  cases e : g x y with
  | none => rw [e] at h2; exact h2.elim
  | some z =>
    rw [e] at h2
    refine ⟨G2, x, y, z, R2.gs, ⟨R2.tb.tabs, R2.tb.ng⟩, r1.mono x2.same, r2, e, fun G3 H3 v3 p r3 => ?_⟩
    obtain ⟨x3, R3⟩ := R2.pure p
    have h2 : Post X.K c W F G2 P2 σ env2 (M.bind (M.opt z.isB) (fun k => if k = true then M.bind md fun w => M.opt (g' y w) else M.ret (.bl false)) env2) _ := h2
    cases q : z.isB with
    | none => rw [q] at h2; exact h2.elim
    | some k =>
      rw [q] at h2
      refine ⟨k, isB_rep r3 q, ?_⟩
      cases k with
      | false => exact h2 G3 H3 P2 x3 (Keep.refl _ _) R3 _ (.bl false)
      | true =>
        have h3 : Post X.K c W F G2 P2 σ env2 (M.bind md (fun w => M.opt (g' y w)) env2) _ := h2
        refine ⟨F, G3, P2, env2, R3, (Post.bind (h3.chain x3 (Keep.refl _ _))).imp fun w G4 H4 P4 x4 ⟨env4, R4, h4⟩ v4 r4 => ?_⟩
        obtain ⟨d4, e4, h4⟩ := Post.opt h4
        refine ⟨G4, y, w, d4, R4.gs, ⟨R4.tb.tabs, R4.tb.ng⟩, r2.mono (x3.same.trans x4.same), r4, e4, fun G5 H5 v5 p5 r5 => ?_⟩
        obtain ⟨x5, R5⟩ := R4.pure p5
        exact h4 G5 H5 P4 x5 (Keep.refl _ _) R5 v5 r5
end
end L2.DL
set_option Elab.async false
set_option linter.all false
set_option maxRecDepth 100000
set_option maxHeartbeats 4000000
namespace L2.DL
open PySem PySem.Spec PyProof.Rows
/-! ### < <= > >= of tuples and lists of alike things -/
def isNone : PyData → Bool
  | .none => true
  | _ => false
def dCmpD (f : PyData → PyData → Bool) (x y : D) : Option D := x.py.bind fun p => y.py.bind fun q => if (PySem.W.alike p q && !isNone p && decide (min p.depth q.depth ≤ 64)) = true then some (.bl (f p q)) else none
section
variable {X : Cx} {c : Cl}
theorem cmpD_of {op : CmpOp} {f : PyData → PyData → Bool} (hu : X.A.units + 64 < cLine)
    (h : ∀ {s : Shared} {a b : Value} {da db : PyData} {as bs : List Addr} {Q : Value → Shared → Prop} {E : Value → Shared → Prop}, Reads s.heap a da as → Reads s.heap b db bs → PySem.W.alike da db = true → da ≠ .none → X.A.units + min da.depth db.depth < cLine → Q (.bool (f da db)) s → wpAny (model X.prog X.w) X.A (compareOp op a b) Q E s) :
    OpD X c (compareOp op) (dCmpD f) := by
  intro pins s σ H x y v u Q I rx ry hh
  obtain ⟨G, dx, dy, d, hs, _, r1, r2, e, k⟩ := hh
  unfold dCmpD at e
  obtain ⟨p, e1, e⟩ := Option.bind_eq_some_iff.mp e
  obtain ⟨q, e2, e⟩ := Option.bind_eq_some_iff.mp e
  split at e
  · rename_i hc
    cases e
    rw [Bool.and_eq_true, Bool.and_eq_true] at hc
    obtain ⟨⟨h1, h2⟩, h3⟩ := hc
    have h3 := of_decide_eq_true h3
    obtain ⟨as, q1⟩ := Dp.reads I p x v (dp_rep hs r1 e1) rx
    obtain ⟨bs, q2⟩ := Dp.reads I q y u (dp_rep hs r2 e2) ry
    exact h q1 q2 h1 (fun z => by rw [z] at h2; cases h2) (by omega) ⟨.bl _, H, I, rfl, k G H _ (Pure.refl hs) (.bl _)⟩
  · cases e
def dAlt (g h : D → D → Option D) (x y : D) : Option D := match g x y with
  | some d => some d
  | none => h x y
theorem do_alt {f : Value → Value → Sem Value} {g h : D → D → Option D} (h1 : OpD X c f g) (h2 : OpD X c f h) : OpD X c f (dAlt g h) := opd_ofT fun G H x y dx dy d hs ht r1 r2 e => by
  unfold dAlt at e
  cases q : g dx dy with
  | some d' => rw [q] at e; cases e; exact ⟨_, h1, fun Q k => ⟨G, dx, dy, _, hs, ht, r1, r2, q, k⟩⟩
  | none => rw [q] at e; exact ⟨_, h2, fun Q k => ⟨G, dx, dy, d, hs, ht, r1, r2, e, k⟩⟩
abbrev dLtX : D → D → Option D := dAlt dLt (dCmpD PySem.W.dataLt)
abbrev dGtX : D → D → Option D := dAlt dGt (dCmpD fun p q => PySem.W.dataLt q p)
abbrev dLeX : D → D → Option D := dAlt dLe (dCmpD fun p q => !PySem.W.dataLt q p)
theorem do_ltX (hu : X.A.units + 64 < cLine) : OpD X c (compareOp .Lt) dLtX := do_alt do_lt (cmpD_of hu fun ra rb h hn hu hq => PySem.W.lt_data ra rb h hn hu hq)
theorem do_gtX (hu : X.A.units + 64 < cLine) : OpD X c (compareOp .Gt) dGtX := do_alt do_gt (cmpD_of hu fun ra rb h hn hu hq => PySem.W.gt_data ra rb h hn hu hq)
theorem do_leX (hu : X.A.units + 64 < cLine) : OpD X c (compareOp .LtE) dLeX := do_alt do_le (cmpD_of hu fun ra rb h hn hu hq => PySem.W.le_data ra rb h hn hu hq)
end
end L2.DL
set_option Elab.async false
set_option linter.all false
set_option maxRecDepth 100000
set_option maxHeartbeats 4000000
namespace L2.DL
open PySem PySem.Spec PyProof.Rows
/-! ### exceptions of the program whose __init__ says super().__init__('..') and keeps one value -/
/-- what is asked of the built-in class below -/
structure Bx (B newId initId : String) (bmB : List Value) : Prop where
  call : ExcBaseFacts B newId initId bmB
  store : StoreFacts B bmB "object.__setattr__" "object"
  sup : PySem.W.KxsFacts B initId
theorem bx_IndexError : Bx "IndexError" "IndexError.__new__" "IndexError.__init__" [.type "IndexError", .type "LookupError", .type "Exception", .type "BaseException", .type "object"] :=
  ⟨PySem.F.excBase_IndexError, PySem.F.store_IndexError, PySem.W.kxs_IndexError⟩
theorem bx_OverflowError : Bx "OverflowError" "OverflowError.__new__" "OverflowError.__init__" [.type "OverflowError", .type "ArithmeticError", .type "Exception", .type "BaseException", .type "object"] :=
  ⟨PySem.F.excBase_OverflowError, PySem.F.store_OverflowError, PySem.W.kxs_OverflowError⟩
theorem bx_ArithmeticError : Bx "ArithmeticError" "ArithmeticError.__new__" "ArithmeticError.__init__" [.type "ArithmeticError", .type "Exception", .type "BaseException", .type "object"] :=
  ⟨PySem.F.excBase_ArithmeticError, PySem.F.store_ArithmeticError, PySem.W.kxs_ArithmeticError⟩
theorem bx_ValueError : Bx "ValueError" "ValueError.__new__" "ValueError.__init__" [.type "ValueError", .type "Exception", .type "BaseException", .type "object"] :=
  ⟨PySem.F.excBase_ValueError, PySem.F.store_ValueError, PySem.W.kxs_ValueError⟩
theorem bx_LookupError : Bx "LookupError" "LookupError.__new__" "LookupError.__init__" [.type "LookupError", .type "Exception", .type "BaseException", .type "object"] :=
  ⟨PySem.F.excBase_LookupError, PySem.F.store_LookupError, PySem.W.kxs_LookupError⟩
/-- a dict of one entry, by its name -/
theorem ns_one {h : Heap} {dx : Addr} {f : Str} {hs : Int} {tk : Tok} {u : Value} {n : Nat} (e : h.get? dx = some (PySem.W.dictOf [⟨hs, .str f tk, u⟩] n)) : h.Ns1 dx (fun y => if y = f then some u else none) := by
  refine ⟨_, _, _, e, rfl, ?_, ?_, fun y => ?_⟩
  · intro q hq
    simp at hq
    subst hq
    exact ⟨_, _, rfl⟩
  · simp [UniqKeys]
  · unfold nsFind findBy
    by_cases hy : y = f
    · subst hy; simp [Value.isStr]
    · simp [Value.isStr, hy, Ne.symm hy]
section
open PySem.W
variable {prog : Program} {w : World} {A : Around} {K : Frag} {mg mb : Str → Option Value} {R : Result → Shared → Prop} {hp h1 : Heap} {g : Array GenState} {d : Drawn} {t : Nat} {os : OsState} {e tt C fI cc cda : Addr} {u : Value} {B newId initId : String} {bmB : List Value}
  {qual f self_ val txt : Str} {params : Arguments} {scope : Scope} {body : List Stmt} {dV kV doc pm ct oc : Value} {an od : Option Addr} {osl : Array (Option Value)} {ccl cl : Value} {cdd cld : Option Addr} {ccs csl : Array (Option Value)} {vs : Array Value} {file : Str} {tf : Tok} {cdD : ClassData} {ar : Arg}
theorem sup_init {p0 p1 p2 p3 p4 p5 p6 p7 p8 p9 : Pos} {k3 : Nat} {pl : Env → Sem Bool} (BX : Bx B newId initId bmB) (X : K.In hp) (hg : hp.Ns mainGlobals mg) (hb : hp.Ns builtinsNs mb) (hbb : ∀ x : Str, x ≠ "__name__" → mb x = bootBuiltins x) (hms : mg "super" = none) (hlim : hp.NoLimit) (room : A.depth < recursionLimit)
    (lk : K.lookup fI = some ⟨oc, od, .func (ksFn "__init__" qual params [.Expr (.Call (.Attribute (.Call (.Name "super" p0) [] [] p1) "__init__" p2) [.Constant (.str txt) k3 p3] [] p4) p5, .Assign [.Attribute (.Name self_ p6) f p7] (.Name val p8) p9] scope dV kV doc pm an (.ref cda) ct cc), osl⟩)
    (hcd : codeIn K (.ref cda) qual = true) (hbind : ∀ (s : Shared) (a b : Value), BindsTo s (ksFn "__init__" qual params [.Expr (.Call (.Attribute (.Call (.Name "super" p0) [] [] p1) "__init__" p2) [.Constant (.str txt) k3 p3] [] p4) p5, .Assign [.Attribute (.Name self_ p6) f p7] (.Name val p8) p9] scope dV kV doc pm an (.ref cda) ct cc) ⟨[a, b], []⟩ [(self_, a), (val, b)])
    (hp0 : (params.posonlyargs ++ params.args).head? = some ar) (har : ar.arg = self_) (hsv : self_ ≠ val)
    (hev : ∀ env : Env, eval (.Call (.Attribute (.Call (.Name "super" p0) [] [] p1) "__init__" p2) [.Constant (.str txt) k3 p3] [] p4) env = (do
      let ov ← attributeBase (.Call (.Name "super" p0) [] [] p1) "__init__" env (eval (.Call (.Name "super" p0) [] [] p1) env)
      standAt p2.atName
      let (f, first) ← holding [ov] (getMethod ov "__init__" (pl env))
      callWith p4 f first (backTo p4 (starEach [.Constant (.str txt) k3 p3] env)) []))
    (hcode : K.lookup cda = some ⟨ccl, cdd, .fields vs, ccs⟩) (hvs : vs[2]? = some (.str file tf)) (hfile : ((prog.main.file : Str) == file) = true)
    (hcell : K.lookup cc = some ⟨cl, cld, .cell (some (.ref C)), csl⟩) (hD : clsIn K C = some cdD) (hsub : mroIn K C (.ref C) = some true)
    (hks : scope.names.lookup ("super" : Str) = some .globalImplicit) (hkc : scope.names.lookup ("__class__" : Str) = some .free) (hka : scope.names.lookup self_ = some .local) (hkv : scope.names.lookup val = some .local) (hk : scope.kind = .function) (hco : scope.isCoroutine = false) (hgen : scope.isGenerator = false)
    (hnc : ∀ x ∈ scope.names, x.2 ≠ .cell) (hd1 : (self_ == ("__debug__" : Str)) = false) (hd2 : (val == ("__debug__" : Str)) = false)
    (htop : (prog.main.scope.names.lookup ("super" : Str)).isSome = false) (hst : nsIn K cStatics "thirdparty.any" = some none) (hm : ks_superIn K C C "__init__" = some (some (.builtin initId))) (hB : subIn K (.ref C) (.type B) = some true)
    (exI : excInitIn K C bmB newId = true) (ovC : excOver K C bmB = true) (hsa : findIn K (.ref C) "__setattr__" = some (some (.builtin "object.__setattr__"))) (htk : takerIn K C f = some none) (hh : hasDictIn K C = true)
    (k1 : ∀ b o, hp.get? b = some o → h1.get? b = some o) (hsz : hp.objs.size ≤ h1.objs.size) (en : hp.get? e = none) (he : h1.get? e = some (excObj C tt none .none))
    (hq : ∀ h2 t2 dx tk2, (∀ b o, hp.get? b = some o → h2.get? b = some o) → h2.get? e = some (excObj C t2 (some dx) .none) → hp.get? dx = none → e < dx → h2.Ns1 dx (fun y => if y = f then some u else none) → R (.ok (.ret .none)) ⟨h2, g, d, tk2, os⟩) :
    codeAny (model prog w) A (.call (.ref fI) ⟨[.ref e, u], []⟩) R ⟨h1, g, d, t, os⟩ := by
  have X1 : K.In h1 := X.keeps k1
  have hlim1 : h1.NoLimit := hlim.keeps k1
  refine ks_codeAny_call_defAt (binds := [(self_, .ref e), (val, u)]) room (X1 _ _ lk) rfl hlim1 (codeRec_of X1 hcd) rfl (hbind _ _ _) hnc ?_ (fun h₂ hns hk₁ => ?_) hco hgen hk
  · intro x hx
    simp at hx
    rcases hx with rfl | rfl
    · exact hka
    · exact hkv
  have k2 : ∀ b o, hp.get? b = some o → h₂.get? b = some o := fun b o z => hk₁ b o (k1 b o z)
  have eL : e ≠ h1.objs.size := Nat.ne_of_lt (Heap.lt_size he)
  have F0 : Fr hp h1.objs.size h₂ (fun y => ([(self_, Value.ref e), (val, u)] : List (Str × Value)).reverse.lookup y) := ⟨hns, k2, hsz⟩
  have N0 : News hp h1.objs.size h₂ [(e, excObj C tt none .none)] := fun p hp' => by
    simp at hp'
    subst hp'
    exact ⟨hk₁ _ _ he, eL, en⟩
  have mself : ([(self_, Value.ref e), (val, u)] : List (Str × Value)).reverse.lookup self_ = some (.ref e) := by
    simp [List.lookup, beq_false_of_ne hsv]
  have mval : ([(self_, Value.ref e), (val, u)] : List (Str × Value)).reverse.lookup val = some u := by
    simp [List.lookup]
  have henv : callEnv (ksFn "__init__" qual params [.Expr (.Call (.Attribute (.Call (.Name "super" p0) [] [] p1) "__init__" p2) [.Constant (.str txt) k3 p3] [] p4) p5, .Assign [.Attribute (.Name self_ p6) f p7] (.Name val p8) p9] scope dV kV doc pm an (.ref cda) ct cc) h1.objs.size fI = ksEnv qual scope h1.objs.size fI (.ref cda) cc := rfl
  rw [henv]
  refine ks_wpAt_execs_cons (ks_wpAt_Expr_any (ks_wpAt_MethodCall (he := hev _) ?_) (hi := by simp [interactive, hk]))
  obtain ⟨oD, hD1, hD2⟩ : ∃ oD, hp.get? C = some oD ∧ oD.data = .cls cdD := by
    unfold clsIn at hD
    split at hD
    · rename_i c d cd' sl ho
      cases hD
      exact ⟨_, X _ _ ho, rfl⟩
    · cases hD
  have inst : ∀ {h : Heap} {t : Addr}, h.get? e = some (excObj C t none .none) → InstAt h e (excObj C t none .none) C none := fun z => ⟨z, rfl, rfl, trivial⟩
  refine ks_wpAt_super_base (env := ksEnv qual scope h1.objs.size fI (.ref cda) cc) hks hkc (by decide) rfl (k2 _ _ (X _ _ lk)) rfl hp0 rfl (k2 _ _ (X _ _ hcode)) rfl hvs hfile htop ?_
  refine ks_loadName_global hk hks (Calls.loadGlobal_builtin (env := ksEnv qual scope h1.objs.size fI (.ref cda) cc) (hg.keeps k2) hms (hb.keeps k2) ((hbb _ (by decide +kernel)).trans (show bootBuiltins "super" = some (.type "super") from by first | rfl | kernel_rfl)) ⟨rfl, ?_⟩)
  refine wpAny_loadName_free hk hkc rfl ⟨_, k2 _ _ (X _ _ hcell), rfl⟩ ?_
  refine wpAny_loadName_local hk (by rw [har]; exact hka) F0.ns (by rw [har]; exact mself) ?_
  refine ks_wpAny_isType_cls (k2 _ _ hD1) hD2 ⟨rfl, ?_⟩
  refine ks_wpAny_call_super (k2 _ _ hD1) hD2 (hk₁ _ _ he) rfl (fun c z => by cases z) (looks_mroIn (X.keeps k2) hsub) (fun h3 so3 k3' => ?_)
  obtain ⟨F3, N3, l3⟩ := ks_newsPush (s := ⟨h₂, g, d, t, os⟩) F0 N0 rfl so3 k3'
  have i3 := inst (N3 (e, excObj C tt none .none) (.tail _ (.head _))).1
  refine kxs_method BX.sup F3 X N3 (.head _) i3 hst hm hB (by decide) (fun q h4 F4 N4 l4 => ?_)
  refine kxs_callWith1 N4 (.head _) (Calls.spliced_cons (wpAny_Constant_str (k := k3) (pos := p3) (Calls.spliced_nil ⟨kxs_at N4 (.head _), ?_⟩)))
  have ne4 : q ≠ e := fun z => by
    have := l4 (e, excObj C tt none .none) (.tail _ (.head _))
    rw [z] at this
    exact absurd this (Nat.lt_irrefl _)
  have nes : h₂.objs.size ≠ e := fun z => by
    have := l3 (e, excObj C tt none .none) (.head _)
    rw [← z] at this
    exact absurd this (Nat.lt_irrefl _)
  refine kxs_call F4 X N4 BX.call exI (.head _) (.tail ne4 (.tail nes (.head (by simp)))) (by simp [sizeLine_eq]) (fun t5 h5 F5 N5 l5 => ?_)
  dsimp only
  refine ks_wpAt_execs_cons (ks_wpAt_Assign_Attr (wpAt_of_wpAny ?_))
  refine wpAny_Name (wpAny_loadName_local hk hkv F5.ns mval ?_) hd2
  refine wpAny_Name (wpAny_loadName_local hk hka F5.ns mself ?_) hd1
  have ne5 : t5 ≠ e := fun z => by
    have := l5 (e, excObj C tt none .none) (.tail _ (.tail _ (.head _)))
    rw [z] at this
    exact absurd this (Nat.lt_irrefl _)
  refine set_exc0 BX.store F5 X N5 (.tail _ (.tail _ (.tail _ (.head _)))) hsa ovC htk hh rfl (.tail ne5 (.tail ne4 (.tail nes (.head (by simp))))) (by simp [putL]) (fun dx h6 F6 N6 l6 => ?_)
  refine wpAt_of_wpAny (wpAny_execs_nil ?_)
  exact hq _ t5 dx _ F6.keep (N6 (e, excObj C t5 (some dx) .none) (.tail _ (.tail _ (.tail _ (.tail _ (.head _)))))).1 (N6 _ (.head _)).2.2 (l6 (e, excObj C t5 none .none) (.tail _ (.tail _ (.tail _ (.head _))))) (ns_one (N6 _ (.head _)).1)
end
/-! ### a try of several clauses, each with or without a name -/
/-- a clause: its class, the slot of its name, its suite's reading -/
abbrev Clause := Value × Option Nat × (Addr → Value → Option Addr → TS)
/-- the ends of a suite whose name in slot j is gone behind it -/
def _root_.L2.Ends.off (D : Ends) : Option Nat → Ends
  | none => D
  | some j => { nx := fun τ G => D.nx (τ.set j none) G, rt := D.rt, bk := fun τ G => D.bk (τ.set j none) G, ct := fun τ G => D.ct (τ.set j none) G }
def put? (τ : St) (a : Addr) : Option Nat → St
  | none => τ
  | some j => τ.set j (some (.ref a))
def wClauses (K : PySem.W.Frag) (Wo : WX) (D : Ends) : List Clause → WX
  | [] => Wo
  | cl :: more => fun cv dd τ G => ∃ hit, PySem.W.exmOne K cv cl.1 = some hit ∧ (hit = true → ∀ a, G a = none → cl.2.2 a cv dd (D.off cl.2.1) (put? τ a cl.2.1) G) ∧ (hit = false → wClauses K Wo D more cv dd τ G)
/-- where the name of a clause lies -/
def NameAt (X : Cx) (nm : Option Str) : Option Nat → Prop
  | none => nm = none
  | some j => ∃ y, nm = some y ∧ X.N.Nodup ∧ X.N[j]? = some y ∧ X.env.kindOf y = some .local
inductive ClausesOk (X : Cx) : List ExceptHandler → List Clause → Prop
  | nil : ClausesOk X [] []
  | cons {x : Str} {cv : Value} {j : Option Nat} {nm : Option Str} {ts : Addr → Value → Option Addr → TS} {st : Stmt} {sts : List Stmt} {p q : Pos} {hs : List ExceptHandler} {l : List Clause} (known : Names X x cv) (named : NameAt X nm j)
      (suite : ∀ (a : Addr) (o : Obj) (cls : Value) (dd : Option Addr) (pn : List (Addr × Obj)), Zc cls dd o → (∃ vs, o.data = .fields vs) → PSs (X.suite a ((a, o) :: pn)) (st :: sts) (ts a cls dd)) (more : ClausesOk X hs l) :
      ClausesOk X (.ExceptHandler (some (.Name x p)) nm (st :: sts) q :: hs) ((cv, j, ts) :: l)
theorem ps_try_clauses {X : Cx} {body : List Stmt} {h₁ : ExceptHandler} {hs : List ExceptHandler} {l : List Clause} {pos : Pos} {tb : WX → TS} {Wo : WX} (stk : X.stack = X.env :: X.outer) (frm : X.env.frame = some X.env.locals) (tk : Takes X Wo)
    (hbody : ∀ (W' : WX) (pn : List (Addr × Obj)) (xe : Value → Shared → Prop), Takes (X.tr pn xe) W' → PassesOwn (model X.prog X.w) X.A X.env xe → PSs (X.tr pn xe) body (tb W'))
    (hcl : ClausesOk X (h₁ :: hs) l) : PS X (.Try body (h₁ :: hs) [] [] pos) (fun D τ G => tb (wClauses X.K Wo D l) D τ G) := by
  constructor
  intro pins s τ G D I hread
  have XO := I.ok
  have fr2 : X.A.frames = some (X.env :: X.outer) := by rw [XO.frames, stk]
  apply wpAny_Try_except
  have run := (hbody (wClauses X.K Wo D l) (X.pn ++ pins) (fun ev s₁ => wpAny (model X.prog X.w) X.A (noteFrame ev X.env)
      (fun _ s₂ => wpAny (model X.prog X.w) X.A (setFlight ev none) (fun _ s₃ => wpAny (model X.prog X.w) X.A (handleBy ev X.env (h₁ :: hs)) (SP X pins D) X.xe s₃) X.xe s₂) X.xe s₁)
    (fun uv sv raised => by
      obtain ⟨a, B, sI, pins2, τ2, G2, cv, dd, rfl, J2, nb, up, sky, nG, os, ag, wish⟩ := raised
      have J := J2.ofTry XO
      have sky2 : Sky B (X.env :: X.outer) a (Zc cv dd) X.env.locals sv.heap := by rw [← stk]; exact sky
      refine Sky.land Zc.steady fr2 frm sky2 fun h3 held up3 => ?_
      have J3 : Inv X pins τ2 G2 { sv with heap := h3 } := J.landed nb held.1 (up.trans up3) os ag
      obtain ⟨o3, vs3, at3, z3, d3⟩ := held.there
      have apart : ∀ {h : Heap} {o : Obj} {vs : Array Value}, h.FunFrames B (X.env :: X.outer) → h.get? a = some o → o.data = .fields vs → a ∉ frs (X.env :: X.outer) := by
        intro h o vs ff g1 g2 hm
        obtain ⟨_, o2, g3, nf⟩ := ff.mem hm
        rw [g1] at g3
        injection g3 with g3
        subst g3
        exact nf _ g2
      have away := apart held.2.2.1 at3 d3
      have nLoc : a ≠ X.env.locals := by
        intro z
        exact away (List.mem_filterMap.mpr ⟨X.env, List.mem_cons_self, by rw [frm, z]⟩)
      have nFs : a ∉ X.fs := by
        intro hm
        obtain ⟨en, hen, q⟩ := List.mem_filterMap.mp hm
        exact away (List.mem_filterMap.mpr ⟨en, List.mem_cons_of_mem _ hen, q⟩)
      have S3 := J3.suite at3 d3 nG nLoc nFs
      have walk : ∀ {hs' : List ExceptHandler} {l' : List Clause}, ClausesOk X hs' l' → wClauses X.K Wo D l' cv dd τ2 G2 → wpAny (model X.prog X.w) X.A (handleBy (.ref a) X.env hs') (SP X pins D) X.xe { sv with heap := h3 } := by
        intro hs' l' ok
        induction ok with
        | nil =>
          intro wish
          apply wpAny_handleBy_nil
          obtain ⟨r1, r2, r3, o4, vs4, T, oT, ts4, g4, zz, dd4, ix, hT⟩ := id held
          unfold PySem.passOn
          refine wpAny_bind (wpAny_field g4 dd4 ix ?_)
          rw [if_neg (show ¬ ((Value.ref T == Value.none) = true) from by simp)]
          have out : wpAny (model X.prog X.w) X.A (setFlight (.ref a) X.env.frame) (fun _ s4 => wpAny (model X.prog X.w) X.A (throw (.ref a) : Sem Flow) (SP X pins D) X.xe s4) X.xe { sv with heap := h3 } := by
            rw [frm]
            exact HandSPX.setFlight_upZ held fun h4 fly up4 => wpAny_throw (tk _ _ ⟨a, B, sI, pins, τ2, G2, cv, dd, rfl, J, nb, (up.trans up3).trans up4, .inr (.inr (by rw [stk]; exact fly)), nG, os, ag, wish⟩)
          first
            | exact wpAny_bind (wpAny_pure (wpAny_bind out))
            | exact wpAny_bind out
        | @cons x cv' j nm ts st sts p q hs2 l2 known named suite more ih =>
          intro wish
          obtain ⟨hit, e1, yes, no⟩ := wish
          refine wpAny_handleBy_cons (codeAny_handlers_test ?_) (by intro z; cases z)
          have LT : PySem.W.Looks (model X.prog X.w) h3 (typeOf (.ref a)) cv := fun A Q E s k q => wpAny_typeOf_ref (k _ _ at3) (by rw [z3.1]; exact q)
          have LM := PySem.W.exm_one (M := model X.prog X.w) J3.kIn LT e1
          have look : ∀ {Q E : Value → Shared → Prop}, Q cv' { sv with heap := h3 } → wpAny (model X.prog X.w) (X.A.mark (some (.ref a))) (eval (.Name x p) X.env) Q E { sv with heap := h3 } := by
            intro Q E hQ
            obtain ⟨hg, nodbg, m1 | ⟨m1, m2, m3⟩⟩ := known
            · exact ld_glob (X := X.suite a ((a, o3) :: (X.pn ++ pins))) S3 hg m1 hQ nodbg
            · exact ld_blt (X := X.suite a ((a, o3) :: (X.pn ++ pins))) S3 hg m1 m2 hQ m3 nodbg
          refine look (LM.here ?_)
          cases hit with
          | false => exact ih (no rfl)
          | true =>
            cases j with
            | none =>
              cases named
              refine codeAny_handlers_suite (HandSPX.lands_againZ held fun h4 fly4 up4 => ?_)
              have J4 : Inv X pins τ2 G2 { sv with heap := h4 } := J.landed nb fly4.1 ((up.trans up3).trans up4) os ag
              obtain ⟨o4, vs4, at4, z4, d4⟩ := fly4.there
              refine wpAny_mono ((suite a o4 cv dd (X.pn ++ pins) z4 ⟨_, d4⟩).run [] _ _ G2 _ (J4.suite at4 d4 nG nLoc nFs) (yes rfl a nG)) (fun fl s6 done => ?_) (fun _ _ z => z.elim)
              cases fl with
              | ret u =>
                obtain ⟨v6, τ6, G6, S6, r6, q6⟩ := done
                exact ⟨_, _, _, S6.unsuite XO, r6, q6⟩
              | next =>
                obtain ⟨τ6, G6, S6, q6⟩ := done
                exact ⟨_, _, S6.unsuite XO, q6⟩
              | brk =>
                obtain ⟨τ6, G6, S6, q6⟩ := done
                exact ⟨_, _, S6.unsuite XO, q6⟩
              | cont =>
                obtain ⟨τ6, G6, S6, q6⟩ := done
                exact ⟨_, _, S6.unsuite XO, q6⟩
            | some j =>
              obtain ⟨y, rfl, nod, jy, loc⟩ := named
              refine codeAny_handlers_suite_as (HandSPX.lands_againZ held fun h4 fly4 up4 => ?_)
              have J4 : Inv X pins τ2 G2 { sv with heap := h4 } := J.landed nb fly4.1 ((up.trans up3).trans up4) os ag
              obtain ⟨o4, vs4, at4, z4, d4⟩ := fly4.there
              refine store_ok (X := X.suite a ((a, o4) :: (X.pn ++ pins))) (v := .ref a) (J4.suite at4 d4 nG nLoc nFs) nod jy (.inl loc) rfl (fun s5 S5 => ?_) (.inr loc)
              refine wpAny_mono ((suite a o4 cv dd (X.pn ++ pins) z4 ⟨_, d4⟩).run [] s5 _ G2 _ S5 (yes rfl a nG)) (fun fl s6 done => ?_) (fun _ _ z => z.elim)
              have gone : ∀ {τ6 : St} {G6 : Hp} {Q : Shared → Prop}, Inv (X.suite a ((a, o4) :: (X.pn ++ pins))) [] τ6 G6 s6 → (∀ s7, Inv X pins (τ6.set j none) G6 s7 → Q s7) →
                  wpAny (model X.prog X.w) X.A (do bindName X.env y .none; unbindBehindTheSuite X.env y q) (fun _ s7 => Q s7) X.xe s6 := fun S6 hQ => gone_ok (S6.unsuite XO) nod jy loc hQ
              cases fl with
              | ret u =>
                obtain ⟨v6, τ6, G6, S6, r6, q6⟩ := done
                exact gone S6 fun s7 J7 => ⟨_, _, _, J7, r6, q6⟩
              | next =>
                obtain ⟨τ6, G6, S6, q6⟩ := done
                exact gone S6 fun s7 J7 => ⟨_, _, J7, q6⟩
              | brk =>
                obtain ⟨τ6, G6, S6, q6⟩ := done
                exact gone S6 fun s7 J7 => ⟨_, _, J7, q6⟩
              | cont =>
                obtain ⟨τ6, G6, S6, q6⟩ := done
                exact gone S6 fun s7 J7 => ⟨_, _, J7, q6⟩
      exact walk hcl wish)
    PassesOwn.looking).run [] s τ G D (I.toTry _) hread
  refine wpAny_mono run (fun fl s1 done => ?_) (fun _ _ z => z)
  cases fl with
  | next =>
    obtain ⟨τ', G', J', q⟩ := done
    exact wpAny_execs_nil ⟨τ', G', J'.ofTry XO, q⟩
  | brk =>
    obtain ⟨τ', G', J', q⟩ := done
    exact ⟨τ', G', J'.ofTry XO, q⟩
  | cont =>
    obtain ⟨τ', G', J', q⟩ := done
    exact ⟨τ', G', J'.ofTry XO, q⟩
  | ret u =>
    obtain ⟨v, τ', G', J', r, q⟩ := done
    exact ⟨v, τ', G', J'.ofTry XO, r, q⟩
/-! ### C(v), C such an exception class -/
/-- what stands in the text of __init__ -/
inductive SupF (P : Program) (K : PySem.W.Frag) (C : Addr) (f : Str) (initId B : String) (fI : Addr) : Prop
  | mk {cc cda : Addr} {qual self_ val txt : Str} {params : Arguments} {scope : Scope} {dV kV doc pm ct oc : Value} {an od : Option Addr} {osl : Array (Option Value)} {ccl cl : Value} {cdd cld : Option Addr} {ccs csl : Array (Option Value)} {vs : Array Value} {file : Str} {tf : Tok} {ar : Arg}
      {p0 p1 p2 p3 p4 p5 p6 p7 p8 p9 : Pos} {k3 : Nat} {pl : Env → Sem Bool}
      (lk : K.lookup fI = some ⟨oc, od, .func (PySem.W.ksFn "__init__" qual params [.Expr (.Call (.Attribute (.Call (.Name "super" p0) [] [] p1) "__init__" p2) [.Constant (.str txt) k3 p3] [] p4) p5, .Assign [.Attribute (.Name self_ p6) f p7] (.Name val p8) p9] scope dV kV doc pm an (.ref cda) ct cc), osl⟩)
      (hcd : PySem.W.codeIn K (.ref cda) qual = true)
      (hbind : ∀ (s : Shared) (a b : Value), BindsTo s (PySem.W.ksFn "__init__" qual params [.Expr (.Call (.Attribute (.Call (.Name "super" p0) [] [] p1) "__init__" p2) [.Constant (.str txt) k3 p3] [] p4) p5, .Assign [.Attribute (.Name self_ p6) f p7] (.Name val p8) p9] scope dV kV doc pm an (.ref cda) ct cc) ⟨[a, b], []⟩ [(self_, a), (val, b)])
      (hp0 : (params.posonlyargs ++ params.args).head? = some ar) (har : ar.arg = self_) (hsv : self_ ≠ val)
      (hev : ∀ env : Env, eval (.Call (.Attribute (.Call (.Name "super" p0) [] [] p1) "__init__" p2) [.Constant (.str txt) k3 p3] [] p4) env = (do
        let ov ← attributeBase (.Call (.Name "super" p0) [] [] p1) "__init__" env (eval (.Call (.Name "super" p0) [] [] p1) env)
        standAt p2.atName
        let (f, first) ← holding [ov] (getMethod ov "__init__" (pl env))
        callWith p4 f first (backTo p4 (starEach [.Constant (.str txt) k3 p3] env)) []))
      (hcode : K.lookup cda = some ⟨ccl, cdd, .fields vs, ccs⟩) (hvs : vs[2]? = some (.str file tf)) (hfile : ((P.main.file : Str) == file) = true)
      (hcell : K.lookup cc = some ⟨cl, cld, .cell (some (.ref C)), csl⟩)
      (hks : scope.names.lookup ("super" : Str) = some .globalImplicit) (hkc : scope.names.lookup ("__class__" : Str) = some .free) (hka : scope.names.lookup self_ = some .local) (hkv : scope.names.lookup val = some .local) (hk : scope.kind = .function) (hco : scope.isCoroutine = false) (hgen : scope.isGenerator = false)
      (hnc : ∀ x ∈ scope.names, x.2 ≠ .cell) (hd1 : (self_ == ("__debug__" : Str)) = false) (hd2 : (val == ("__debug__" : Str)) = false) : SupF P K C f initId B fI
/-- .. and of the class -/
structure SupC (P : Program) (K : PySem.W.Frag) (mg : Str → Option Value) (x : Str) (C : Addr) (f : Str) : Prop where
  gC : mg x = some (.ref C)
  kC : PySem.W.keepIn K (.ref C) = true
  exC : PySem.W.subIn K (.ref C) (.type "BaseException") = some true
  tyC : PySem.W.typeIn K (.ref C) = some (.type "type")
  hms : mg "super" = none
  htop : (P.main.scope.names.lookup ("super" : Str)).isSome = false
  hst : PySem.W.nsIn K cStatics "thirdparty.any" = some none
  cd : ∃ cdD, PySem.W.clsIn K C = some cdD
  hsub : PySem.W.mroIn K C (.ref C) = some true
  hsa : PySem.W.findIn K (.ref C) "__setattr__" = some (some (.builtin "object.__setattr__"))
  htk : PySem.W.takerIn K C f = some none
  hh : PySem.W.hasDictIn K C = true
  own : ∃ (B newId initId : String) (bmB : List Value) (fI : Addr), Bx B newId initId bmB ∧ PySem.W.findIn K (.ref C) "__init__" = some (some (.ref fI)) ∧ PySem.W.isFn K (.ref fI) = true ∧ PySem.W.ks_superIn K C C "__init__" = some (some (.builtin initId)) ∧
    PySem.W.subIn K (.ref C) (.type B) = some true ∧ PySem.W.excInitIn K C bmB newId = true ∧ PySem.W.excOver K C bmB = true ∧ SupF P K C f initId B fI
section
open PySem.W
variable {X : Cx} {x f : Str} {C : Addr} {e : Expr} {te : TE} {p pos : Pos} {k : Nat}
theorem relO_one {f : Str} {v : V} {u : Value} (r : RelV v u) : ∀ y, RelO (([(f, v)] : List (Str × V)).lookup y) (if y = f then some u else none) := fun y => by
  by_cases h : y = f
  · subst h
    simp only [List.lookup, beq_self_eq_true, if_true]
    exact r
  · have : (y == f) = false := by simpa using h
    rw [if_neg h]
    simp only [List.lookup, this]
    exact True.intro
theorem pmk_sup (S : SupC X.prog X.K X.mg x C f) (hr : Room (k + 1) X.A) (hg : Gl X x) (he : PE X e te) (hdb : (x == ("__debug__" : Str)) = false := by decide) (hs : starEach [e] X.env = (false, eval e X.env) :: starEach [] X.env := by rfl) :
    PMk X (.Call (.Name x p) [e] [] pos) (fun σ H Q => te σ H fun v H1 => ∀ d, H1 d = none → Q (.ref C) (some d) (upd H1 d (.xd [(f, v)]))) := by
  intro pins s σ H Q I h
  refine wpAny_Call_Name_kw (ld_glob I hg S.gC ?_ hdb)
  refine callWith_K (h₀ := X.base) I.ok.mod.kin S.kC ?_ hs (by rfl)
  rw [hs]
  show wpAny _ _ (spliced ((false, eval e X.env) :: backTo pos (starEach [] X.env))) _ _ s
  refine Calls.spliced_cons (thn (he.run pins s σ H _ I h) fun u s1 ⟨v, H1, I1, r1, q1⟩ => ?_)
  refine Calls.spliced_nil ⟨I1.kIn, ?_⟩
  show wpAny _ _ (call (.ref C) [u]) _ _ _
  obtain ⟨B, newId, initId, bmB, fI, BX, hi, isf, hsup, hB, exI, ovC, SF⟩ := S.own
  obtain ⟨cdD, hD⟩ := S.cd
  obtain ⟨mb, hmb, hbb⟩ := I1.ok.mod.blt
  have X1 : X.K.In s1.heap := I1.kIn
  obtain ⟨nm, N', qn, bs, bm, hdct, sn, sub, ab, col, dd, k0, k1, k2, k3, k5, hC, hT⟩ := excInit_of X1 exI
  obtain ⟨oI, hoI, hcI⟩ : ∃ oI, s1.heap.get? fI = some oI ∧ oI.cls = .type "function" := by
    obtain ⟨o, ho, hc⟩ := Option.map_eq_some_iff.mp (show (X.K.lookup fI).map (·.cls) = some (.type "function") from beq_iff_eq.mp isf)
    exact ⟨o, X1 _ _ ho, hc⟩
  have hi' : Looks (model X.prog X.w) s1.heap (typeLookup (.ref C) "__init__") (some (.ref fI)) := looks_findIn X1 hi
  have bk := I1.bk
  have nl := I1.nolimit
  have hok1 := I1.hok
  obtain ⟨hp, g, d, tk, os⟩ := s1
  have up1 : ∀ b o, hp.get? b = some o → ((hp.push (kdv_tup [u])).push (PX.excO C hp.objs.size)).get? b = some o := fun b o z => Heap.get?_push_of_some _ (Heap.get?_push_of_some _ z)
  have he1 : ((hp.push (kdv_tup [u])).push (PX.excO C hp.objs.size)).get? (hp.objs.size + 1) = some (excObj C hp.objs.size none .none) := by heap_get
  have en : hp.get? (hp.objs.size + 1) = none := by
    cases z : hp.get? (hp.objs.size + 1) with
    | none => rfl
    | some o => exact absurd (Heap.lt_size z) (by show ¬ (hp.objs.size + 1 < hp.objs.size); omega)
  have gl : hp.Ns mainGlobals X.mg := I1.ok.mod.glob.keeps bk
  have bl : hp.Ns builtinsNs mb := hmb.keeps bk
  cases SF with
  | mk lk hcd hbind hp0 har hsv hev hcode hvs hfile hcell hks hkc hka hkv hk hco hgen hnc hd1 hd2 =>
  refine wpAny_call (PX.call_own BX.call hT hC hi' (fun self => exc_bind hoI hcI self) (by simp [sizeLine_eq]) ?_)
  refine sup_init BX X1 gl bl hbb S.hms nl (hr.make C [u] []).depth lk hcd hbind hp0 har hsv hev hcode hvs hfile hcell hD S.hsub hks hkc hka hkv hk hco hgen hnc hd1 hd2 S.htop S.hst hsup hB exI ovC S.hsa S.htk S.hh up1 ?_ en he1
    (fun h2 t2 dx tk2 keep hx fresh lt ns => ?_)
  · simp [Heap.size_push]
    omega
  · refine ⟨rfl, ?_⟩
    obtain ⟨G, g1, g2⟩ := restrict h2 fun b => decide (b ≠ hp.objs.size + 1)
    have gk : ∀ b, b ≠ hp.objs.size + 1 → G.get? b = h2.get? b := fun b hb => g1 b (decide_eq_true hb)
    have ge : G.get? (hp.objs.size + 1) = none := g2 _ (by simp)
    have kG : ∀ b o, hp.get? b = some o → G.get? b = some o := fun b o z => (gk b (fun y => by rw [y, en] at z; cases z)).trans (keep b o z)
    have dxl : hp.objs.size ≤ dx := Nat.le_trans (Nat.le_succ _) (Nat.le_of_lt lt)
    have ne : dx ≠ hp.objs.size + 1 := Nat.ne_of_gt lt
    have nsG : G.Ns1 dx (fun y => if y = f then some u else none) := ns.at fun o z => (gk dx ne).trans z
    have J := I1.laid (a := dx) (o := .xd [(f, v)]) (t' := tk2) kG dxl ⟨_, nsG, relO_one r1⟩
    have na : H1 (hp.objs.size + 1) = none := hok1.fresh (Nat.le_succ _)
    exact ⟨hp.objs.size + 1, _, _, ⟨G, g, d, tk2, os⟩, _, .ref C, some dx, rfl, J, (fun b o z => by
      by_cases hb : b = hp.objs.size + 1
      · rw [hb, ge] at z; cases z
      · exact (gk b hb).symm.trans z), ge, hx, ⟨rfl, rfl⟩, rfl, rfl, (by rw [upd_ne (Ne.symm ne)]; exact na), rfl, I1.bare, raises_own S.exC S.tyC, q1 dx (hok1.fresh dxl)⟩
end
end L2.DL
set_option Elab.async false
set_option linter.all false
set_option maxRecDepth 100000
set_option maxHeartbeats 4000000
namespace L2.DL
open PySem PySem.Spec PyProof.Rows
/-! ### raise, by data -/
def mRaise (n : Nat) (m : M D) : MS := M.bind m fun d env => .exc (.own n (some d)) env
def mRaise0 (n : Nat) : MS := fun env => .exc (.own n none) env
/-- a class without __init__ of its own -/
structure OwnX (K : PySem.W.Frag) (mg : Str → Option Value) (x : Str) (C : Addr) : Prop where
  gC : mg x = some (.ref C)
  kC : PySem.W.keepIn K (.ref C) = true
  exC : PySem.W.subIn K (.ref C) (.type "BaseException") = some true
  tyC : PySem.W.typeIn K (.ref C) = some (.type "type")
  own : ∃ (B newId initId : String) (bmB : List Value), ExcBaseFacts B newId initId bmB ∧ PySem.W.excIn K C bmB newId = true
section
variable {X : Cx} {c : Cl} {W : WX} {pos p pos' p2 : Pos} {x t : Str} {e : Expr} {m : M D} {n k j : Nat}
theorem ds_raise (S : SupC X.prog X.K X.mg x (c.cls n) (c.xf n)) (tk : Takes X W) (hr : RoomG (k + 1) X.A) (he : PE X e (tE X.K c W m)) (hc : X.calm = true := by rfl) (hg : Gl X x := by rfl) (hdb : (x == ("__debug__" : Str)) = false := by decide)
    (hs : starEach [e] X.env = (false, eval e X.env) :: starEach [] X.env := by rfl) : PS X (.Raise (some (.Call (.Name x p) [e] [] pos)) none pos') (tS X.K c W (mRaise n m)) := by
  refine PS.weak (ps_raise hc tk (pmk_sup S hr.room hg he hdb hs)) fun D σ H h => ?_
  obtain ⟨F, G, P, env, R, h⟩ := h
  refine ⟨F, G, P, env, R, (Post.bindS h).imp fun d G1 H1 P1 _ ⟨env1, R1, h1⟩ v r a n0 => ?_⟩
  obtain ⟨x1, R2⟩ := R1.pure (G' := G1) (H' := upd H1 a (.xd [(c.xf n, v)])) ⟨Same.refl _, Same.ext (same_new n0), R1.gs.trans (same_new n0), fun _ _ _ _ q => q, fun t => t.same (same_new n0), id⟩
  exact h1 _ _ P1 σ _ _ x1 (Keep.refl _ _) R2 (.own1 upd_same r)
theorem ds_raise0 (S : OwnX X.K X.mg x (c.cls n)) (tk : Takes X W) (hc : X.calm = true := by rfl) (hg : Gl X x := by rfl) (hdb : (x == ("__debug__" : Str)) = false := by decide) :
    PS X (.Raise (some (.Call (.Name x p) [.Constant (.str t) j p2] [] pos)) none pos') (tS X.K c W (mRaise0 n)) := by
  obtain ⟨B, newId, initId, bmB, F, q⟩ := S.own
  refine PS.weak (ps_raise hc tk (pmk_own F q S.gC S.kC (raises_own S.exC S.tyC) hg hdb)) fun D σ H h => ?_
  obtain ⟨F, G, P, env, R, h⟩ := h
  exact h G H P σ _ _ (Ext.refl _ _) (Keep.refl _ _) R .own0
end
/-! ### the suites of a try: what a suite returns, by what the exception keeps -/
abbrev Sv := Nat → Option D → Option D
abbrev Svs := Nat → Option D → Option (List D)
/-- the exception in hand: a, its class, its dict; what it keeps -/
def xHere (c : Cl) (K : PySem.W.Frag) (cv : Value) (dd : Option Addr) (G H : Hp) (n : Nat) (od : Option D) : Prop :=
  cv = .ref (c.cls n) ∧ ∀ d, od = some d → ∃ dx v, dd = some dx ∧ H dx = some (.xd [(c.xf n, v)]) ∧ Rep K c G v d
def tX (K : PySem.W.Frag) (c : Cl) (i : Option Nat) (a : Addr) (cv : Value) (dd : Option Addr) (sv : Sv) : TE := fun σ H Q => (∀ j, i = some j → σ[j]? = some (some (.ref a))) ∧ ∃ G n od w, Same G H ∧ (Tbs c G H ∧ NoT G) ∧ xHere c K cv dd G H n od ∧ sv n od = some w ∧ ∀ G' H' v, Pure c H G H' G' → Rep K c G' v w → Q v H'
def tXA (K : PySem.W.Frag) (c : Cl) (i : Option Nat) (a : Addr) (cv : Value) (dd : Option Addr) (sv : Nat → Option D → Option (List D)) : TA := fun σ H Q => (∀ j, i = some j → σ[j]? = some (some (.ref a))) ∧ ∃ G n od w, Same G H ∧ (Tbs c G H ∧ NoT G) ∧ xHere c K cv dd G H n od ∧ sv n od = some w ∧ ∀ G' H' v, Pure c H G H' G' → Reps K c G' v w → Q v H'
theorem xHere.mono {c : Cl} {K : PySem.W.Frag} {cv : Value} {dd : Option Addr} {G H G' H' : Hp} {n : Nat} {od : Option D} (h : xHere c K cv dd G H n od) (g : Same G G') (s : LamX.ExtN H H') : xHere c K cv dd G' H' n od :=
  ⟨h.1, fun d e => by
    obtain ⟨dx, v, h1, h2, h3⟩ := h.2 d e
    exact ⟨dx, v, h1, s _ _ h2 (fun _ z => nomatch z), h3.mono g⟩⟩
theorem Pure.trans {c : Cl} {H G H1 G1 H2 G2 : Hp} (p : Pure c H G H1 G1) (q : Pure c H1 G1 H2 G2) : Pure c H G H2 G2 :=
  ⟨p.same.trans q.same, p.hs.trans q.hs, q.gs, fun b o h1 h2 h3 => q.fresh b o (p.hs b o h1 h2) h2 (p.fresh b o h1 h2 h3), fun t => q.tabs (p.tabs t), fun n => q.ng (p.ng n)⟩
section
variable {X : Cx} {c : Cl} {i : Option Nat} {a : Addr} {cv : Value} {dd : Option Addr} {o : Obj} {pn : List (Addr × Obj)} {pos pp : Pos} {e : Expr} {es : List Expr}
/-- e.f -/
theorem sx_field {n j : Nat} {y : Str} (T : XfC X.K (c.cls n)) (hno : PySem.W.findIn X.K (.ref (c.cls n)) (c.xf n) = some none) (hz : Zc cv dd o) (hf : ∃ vs, o.data = .fields vs) (hN : X.N[j]? = some y := by rfl)
    (hv : Vis X.env.scope y := by first | exact Or.inl rfl | exact Or.inr (Or.inl rfl) | exact Or.inr (Or.inr rfl)) (hdy : (y == ("__debug__" : Str)) = false := by decide) (hcy : (y == ("__classdict__" : Str)) = false := by decide)
    (hb : attributeBase (.Name y pp) (c.xf n) X.env (eval (.Name y pp) X.env) = eval (.Name y pp) X.env := by rfl) :
    PE (X.suite a ((a, o) :: pn)) (.Attribute (.Name y pp) (c.xf n) pos) (tX X.K c (some j) a cv dd fun m od => if m = n then od else none) := by
  refine PE.weak (pe_xf (e := .Name y pp) (T := T) hno hz hf (pe_var (X := X.suite a ((a, o) :: pn)) (i := j) hN hv hdy hcy) hb) fun σ H Q h => ?_
  obtain ⟨ha, G, m, od, w, hs, ht, hx, e1, q⟩ := h
  dsimp only at e1
  split at e1
  · rename_i hm
    subst hm
    obtain ⟨dx, v, h1, h2, h3⟩ := hx.2 w e1
    exact ⟨.ref a, ha j rfl, rfl, hx.1, dx, _, v, h1, h2, by simp [List.lookup], q G H v (Pure.refl hs) h3⟩
  · cases e1
theorem sx_fieldF {n j : Nat} {y f : Str} (hx : c.xf n = f) (T : XfC X.K (c.cls n)) (hno : PySem.W.findIn X.K (.ref (c.cls n)) (c.xf n) = some none) (hz : Zc cv dd o) (hf : ∃ vs, o.data = .fields vs) (hN : X.N[j]? = some y := by rfl)
    (hv : Vis X.env.scope y := by first | exact Or.inl rfl | exact Or.inr (Or.inl rfl) | exact Or.inr (Or.inr rfl)) (hdy : (y == ("__debug__" : Str)) = false := by decide) (hcy : (y == ("__classdict__" : Str)) = false := by decide)
    (hb : attributeBase (.Name y pp) f X.env (eval (.Name y pp) X.env) = eval (.Name y pp) X.env := by rfl) :
    PE (X.suite a ((a, o) :: pn)) (.Attribute (.Name y pp) f pos) (tX X.K c (some j) a cv dd fun m od => if m = n then od else none) := by
  subst hx
  exact sx_field T hno hz hf hN hv hdy hcy hb
theorem sx_str {x : Str} {k : Nat} : PE (X.suite a ((a, o) :: pn)) (.Constant (.str x) k pos) (tX X.K c i a cv dd fun _ _ => some (.str x)) := by
  refine PE.weak pe_str fun σ H Q h => ?_
  obtain ⟨_, G, n, od, w, hs, ht, hx, e, q⟩ := h
  cases e
  exact q G H _ (Pure.refl hs) (.str x)
theorem sx_true {k : Nat} : PE (X.suite a ((a, o) :: pn)) (.Constant (.bool true) k pos) (tX X.K c i a cv dd fun _ _ => some (.bl true)) := by
  refine PE.weak pe_bl fun σ H Q h => ?_
  obtain ⟨_, G, n, od, w, hs, ht, hx, e, q⟩ := h
  cases e
  exact q G H _ (Pure.refl hs) (.bl true)
theorem sx_false {k : Nat} : PE (X.suite a ((a, o) :: pn)) (.Constant (.bool false) k pos) (tX X.K c i a cv dd fun _ _ => some (.bl false)) := by
  refine PE.weak pe_bl fun σ H Q h => ?_
  obtain ⟨_, G, n, od, w, hs, ht, hx, e, q⟩ := h
  cases e
  exact q G H _ (Pure.refl hs) (.bl false)
theorem sx_non {k : Nat} : PE (X.suite a ((a, o) :: pn)) (.Constant .none k pos) (tX X.K c i a cv dd fun _ _ => some .non) := by
  refine PE.weak pe_non fun σ H Q h => ?_
  obtain ⟨_, G, n, od, w, hs, ht, hx, e, q⟩ := h
  cases e
  exact q G H _ (Pure.refl hs) .non
theorem sx_nil : PA (X.suite a ((a, o) :: pn)) [] (tXA X.K c i a cv dd fun _ _ => some []) := by
  refine PA.weak pa_nil fun σ H Q h => ?_
  obtain ⟨_, G, n, od, w, hs, ht, hx, e, q⟩ := h
  cases e
  exact q G H _ (Pure.refl hs) .nil
theorem sx_cons {s1 : Sv} {s2 : Nat → Option D → Option (List D)} (h1 : PE (X.suite a ((a, o) :: pn)) e (tX X.K c i a cv dd s1)) (h2 : PA (X.suite a ((a, o) :: pn)) es (tXA X.K c i a cv dd s2))
    (hs : starEach (e :: es) X.env = (false, eval e X.env) :: starEach es X.env := by rfl) : PA (X.suite a ((a, o) :: pn)) (e :: es) (tXA X.K c i a cv dd fun n od => (s1 n od).bind fun d => (s2 n od).map (d :: ·)) := by
  refine PA.weak (pa_cons h1 h2 hs) fun σ H Q h => ?_
  obtain ⟨ha, G, n, od, w, hs, ht, hx, e1, q⟩ := h
  obtain ⟨d, e2, e3⟩ := Option.bind_eq_some_iff.mp e1
  obtain ⟨ds, e4, e5⟩ := Option.map_eq_some_iff.mp e3
  subst e5
  exact ⟨ha, G, n, od, d, hs, ht, hx, e2, fun G1 H1 v p r => ⟨ha, G1, n, od, ds, p.gs, ⟨p.tabs ht.1, p.ng ht.2⟩, hx.mono p.same p.hs, e4, fun G2 H2 vs p2 rs => q G2 H2 _ (p.trans p2) (.cons (r.mono p2.same) rs)⟩⟩
theorem sx_tup {x1 : Nat} {s2 : Nat → Option D → Option (List D)} (h2 : PA (X.suite a ((a, o) :: pn)) es (tXA X.K c i a cv dd s2)) : PE (X.suite a ((a, o) :: pn)) (.Tuple es x1 pos) (tX X.K c i a cv dd fun n od => (s2 n od).bind fun ds => if ds.length ≤ 16777216 then some (.tup ds) else none) := by
  refine PE.weak (pe_tup h2) fun σ H Q h => ?_
  obtain ⟨ha, G, n, od, w, hs, ht, hx, e1, q⟩ := h
  obtain ⟨ds, e2, e3⟩ := Option.bind_eq_some_iff.mp e1
  split at e3
  · rename_i hl
    cases e3
    exact ⟨ha, G, n, od, ds, hs, ht, hx, e2, fun G1 H1 vs p rs => ⟨by rw [rs.length, sizeLine_eq]; exact hl, fun b nb => q _ _ _ (p.trans (Pure.new (.tup vs) p.gs nb)) (.tup (SqT.of upd_same) (rs.mono (same_new (none_of p.gs nb))))⟩⟩
  · cases e3
/-- return e -/
theorem sx_ret {sv : Sv} (h : PE (X.suite a ((a, o) :: pn)) e (tX X.K c i a cv dd sv)) : PSs (X.suite a ((a, o) :: pn)) [.Return (some e) pos] (fun D σ H => tX X.K c i a cv dd sv σ H D.rt) := pss_one (ps_ret h)
end
/-! ### try, by data -/
def mTry (b : MS) (cs : List (Option Nat × (Nat → Option Bool) × Sv)) : MS := fun env => match b env with
  | .exc (.own n od) env' => go n od env' cs
  | .exc (.ty _) _ => .bad
  | r => r
where go (n : Nat) (od : Option D) (env : Ev) : List (Option Nat × (Nat → Option Bool) × Sv) → Res Fl
  | [] => .exc (.own n od) env
  | (j, h, s) :: r => match h n with
    | some true => if (∀ i ∈ j, i < env.length) then match s n od with
      | some w => .ok (.ret w) env
      | none => .bad
      else .bad
    | some false => go n od env r
    | none => .bad
/-- a clause and its reading -/
structure ClD (X : Cx) (c : Cl) (cl : Clause) (h : Nat → Option Bool) (s : Sv) : Prop where
  hit : ∀ n b, h n = some b → PySem.W.exmOne X.K (.ref (c.cls n)) cl.1 = some b
  ok : ∀ (a : Addr) (cv : Value) (dd : Option Addr) (D : Ends) (σ : St) (H : Hp), tX X.K c cl.2.1 a cv dd s (put? σ a cl.2.1) H D.rt → cl.2.2 a cv dd (D.off cl.2.1) (put? σ a cl.2.1) H
theorem off_rt {D : Ends} {j : Option Nat} : (D.off j).rt = D.rt := by cases j <;> rfl
inductive ClsD (X : Cx) (c : Cl) : List Clause → List (Option Nat × (Nat → Option Bool) × Sv) → Prop
  | nil : ClsD X c [] []
  | cons {cl h s l r} : ClD X c cl h s → ClsD X c l r → ClsD X c (cl :: l) ((cl.2.1, h, s) :: r)
theorem ds_try {X : Cx} {c : Cl} {W : WX} {body : List Stmt} {h₁ : ExceptHandler} {hs : List ExceptHandler} {l : List Clause} {cs : List (Option Nat × (Nat → Option Bool) × Sv)} {pos : Pos} {mb : MS} (stk : X.stack = X.env :: X.outer) (frm : X.env.frame = some X.env.locals) (tk : Takes X W)
    (hbody : ∀ (W' : WX) (pn : List (Addr × Obj)) (xe : Value → Shared → Prop), Takes (X.tr pn xe) W' → PassesOwn (model X.prog X.w) X.A X.env xe → PSs (X.tr pn xe) body (tS X.K c W' mb))
    (hcl : ClausesOk X (h₁ :: hs) l) (hd : ClsD X c l cs) : PS X (.Try body (h₁ :: hs) [] [] pos) (tS X.K c W (mTry mb cs)) := by
  refine PS.weak (ps_try_clauses stk frm tk hbody hcl) fun D σ H h => ?_
  obtain ⟨F, G, P, env, R, h⟩ := h
  refine ⟨F, G, P, env, R, ?_⟩
  unfold mTry at h
  cases hb : mb env with
  | bad => rw [hb] at h; exact h
  | ok f e => rw [hb] at h; exact h
  | exc xx e =>
    rw [hb] at h
    cases xx with
    | ty _ => exact h.elim
    | own n od =>
      dsimp only at h
      intro G' H' P' σ' cv dd x1 k1 R1 rx
      -- what is in hand
      have hx : xHere c X.K cv dd G' H' n od := by
        cases rx with
        | own0 => exact ⟨rfl, fun d z => by cases z⟩
        | own1 h2 r2 => exact ⟨rfl, fun d z => by cases z; exact ⟨_, _, rfl, h2, r2⟩⟩
      have hσ : σ'.length = e.length := R1.all.len.1
      clear hb hcl
      induction hd with
      | nil => exact h G' H' P' σ' cv dd x1 k1 R1 rx
      | @cons cl hh s l r hc _ ih =>
        unfold mTry.go at h
        cases e1 : hh n with
        | none => rw [e1] at h; exact h.elim
        | some b =>
          have := hc.hit n b e1
          rw [← hx.1] at this
          refine ⟨b, this, fun hb2 a ha => ?_, fun hb2 => ?_⟩
          · subst hb2
            rw [e1] at h
            dsimp only at h
            split at h
            · rename_i hj
              cases e2 : s n od with
              | none => rw [e2] at h; exact h.elim
              | some w =>
                rw [e2] at h
                refine hc.ok a cv dd D σ' H' ⟨fun j ej => ?_, G', n, od, w, R1.gs, ⟨R1.tb.tabs, R1.tb.ng⟩, hx, e2, fun G2 H2 v p rv => ?_⟩
                · rw [ej]
                  exact List.getElem?_set_self (by rw [hσ]; exact hj j ej)
                · obtain ⟨x2, R2⟩ := R1.pure p
                  exact h G2 H2 P' σ' (x1.trans x2) k1 R2 v rv
            · exact h.elim
          · subst hb2
            rw [e1] at h
            exact ih h
/-- which exceptions a clause takes -/
structure Xm (K : PySem.W.Frag) (c : Cl) (m : Nat) (tb : List (Nat × Bool)) : Prop where
  at_ : ∀ n b, tb.lookup n = some b → PySem.W.exmOne K (.ref (c.cls n)) (.ref (c.cls m)) = some b
theorem xm_of {K : PySem.W.Frag} {c : Cl} {m : Nat} {tb : List (Nat × Bool)} (h1 : PySem.W.subIn K (.ref (c.cls m)) (.type "BaseException") = some true) (h2 : PySem.W.typeIn K (.ref (c.cls m)) = some (.type "type")) (h3 : PySem.W.isClsIn K (c.cls m) = true)
    (h4 : ∀ q ∈ tb, PySem.W.subIn K (.ref (c.cls q.1)) (.ref (c.cls m)) = some q.2) : Xm K c m tb := ⟨fun n b e => by
  have key : ∀ {l : List (Nat × Bool)} {a : Nat} {b : Bool}, l.lookup a = some b → (a, b) ∈ l := by
    intro l
    induction l with
    | nil => intro a b h; cases h
    | cons q l ih =>
      intro a b h
      obtain ⟨q1, q2⟩ := q
      rw [List.lookup_cons] at h
      by_cases e : a = q1
      · subst e
        simp at h
        subst h
        exact List.mem_cons_self
      · rw [beq_false_of_ne e] at h
        exact List.mem_cons_of_mem _ (ih h)
  have := h4 _ (key e)
  have h5 : (PySem.W.clsIn K (c.cls m)).isSome = true := by
    unfold PySem.W.isClsIn at h3
    first | exact h3 | (revert h3; cases PySem.W.clsIn K (c.cls m) <;> simp)
  unfold PySem.W.exmOne PySem.W.kitCls
  simp only [h1, h2, h5, beq_self_eq_true, Bool.and_self, if_true]
  exact this⟩
/-- the clauses of a try -/
def TryD (X : Cx) (c : Cl) (hs : List ExceptHandler) (cs : List (Option Nat × (Nat → Option Bool) × Sv)) : Prop := ∃ l, ClausesOk X hs l ∧ ClsD X c l cs
theorem td_nil {X : Cx} {c : Cl} : TryD X c [] [] := ⟨[], .nil, .nil⟩
theorem td_cons {X : Cx} {c : Cl} {m : Nat} {tb : List (Nat × Bool)} {x : Str} {nm : Option Str} {j : Option Nat} {e : Expr} {p q pr : Pos} {sv : Sv} {hs : List ExceptHandler} {cs : List (Option Nat × (Nat → Option Bool) × Sv)} (xm : Xm X.K c m tb) (known : Names X x (.ref (c.cls m))) (named : NameAt X nm j)
    (suite : ∀ (a : Addr) (o : Obj) (cls : Value) (dd : Option Addr) (pn : List (Addr × Obj)), Zc cls dd o → (∃ vs, o.data = .fields vs) → PE (X.suite a ((a, o) :: pn)) e (tX X.K c j a cls dd sv)) (more : TryD X c hs cs) :
    TryD X c (.ExceptHandler (some (.Name x p)) nm [.Return (some e) pr] q :: hs) ((j, fun n => tb.lookup n, sv) :: cs) := by
  obtain ⟨l, h1, h2⟩ := more
  refine ⟨(.ref (c.cls m), j, fun a cls dd D σ H => tX X.K c j a cls dd sv σ H D.rt) :: l, .cons known named (fun a o cls dd pn hz hf => sx_ret (suite a o cls dd pn hz hf)) h1, .cons ⟨xm.at_, fun a cv dd D σ H h => ?_⟩ h2⟩
  show tX X.K c j a cv dd sv (put? σ a j) H (D.off j).rt
  rw [off_rt]
  exact h
theorem ds_tryD {X : Cx} {c : Cl} {W : WX} {body : List Stmt} {h₁ : ExceptHandler} {hs : List ExceptHandler} {cs : List (Option Nat × (Nat → Option Bool) × Sv)} {pos : Pos} {mb : MS} (tk : Takes X W) (td : TryD X c (h₁ :: hs) cs)
    (hbody : ∀ (W' : WX) (pn : List (Addr × Obj)) (xe : Value → Shared → Prop), Takes (X.tr pn xe) W' → PassesOwn (model X.prog X.w) X.A X.env xe → PSs (X.tr pn xe) body (tS X.K c W' mb))
    (stk : X.stack = X.env :: X.outer := by rfl) (frm : X.env.frame = some X.env.locals := by rfl) : PS X (.Try body (h₁ :: hs) [] [] pos) (tS X.K c W (mTry mb cs)) := by
  obtain ⟨l, h1, h2⟩ := td
  exact ds_try stk frm tk hbody h1 h2
end L2.DL
set_option Elab.async false
set_option linter.all false
set_option maxRecDepth 100000
set_option maxHeartbeats 4000000
namespace L2.DL
open PySem PySem.Spec PyProof.Rows
/-! ### repr of data -/
mutual
def toPy : D → Option PyData
  | .non => some .none
  | .bl b => some (.bool b)
  | .int i => some (.int i)
  | .str x => some (.str x)
  | .lst xs => (toPys xs).map .list
  | .tup xs => (toPys xs).map .tuple
  | _ => none
def toPys : List D → Option (List PyData)
  | [] => some []
  | x :: xs => (toPy x).bind fun y => (toPys xs).map (y :: ·)
end
mutual
/-- a bound of the text's length -/
def plen : PyData → Nat
  | .none => 4
  | .bool _ => 5
  | .int _ => 1921
  | .str x => if x.cps.toList.all (fun c => decide (c < 16 ^ 8)) then 10 * x.length + 2 else 16777217
  | .list xs => plens xs + 3
  | .tuple xs => plens xs + 3
  | .dict _ => 16777217
def plens : List PyData → Nat
  | [] => 0
  | x :: xs => plen x + 2 + plens xs
end
def canShow (d : PyData) : Bool := d.showable && !d.hasDict && decide (d.depth ≤ 40) && decide (plen d ≤ 16777216)
def dRepr (d : D) : Option D := (toPy d).bind fun p => if canShow p then some (.str p.shown) else none
mutual
theorem plen_ok : ∀ d : PyData, d.showable = true → d.hasDict = false → plen d ≤ 16777216 → d.shown.length ≤ plen d
  | .none, _, _, _ => by rw [PyData.shown_none]; decide
  | .bool b, _, _, _ => by rw [PyData.shown_bool]; cases b <;> decide
  | .int i, h, _, _ => by
    rw [PyData.shown_int]
    have : i.natAbs.log2 < 1920 := by simpa [PyData.showable] using h
    exact PyProof.Rows.int_text_len_1921 this
  | .str x, _, _, h => by
    rw [PyData.shown_str]
    unfold plen at h ⊢
    split at h
    · rename_i hc
      rw [if_pos hc]
      exact StrLaws.reprText_len x fun c hc2 => of_decide_eq_true (List.all_eq_true.mp hc c hc2)
    · omega
  | .list xs, h1, h2, h3 => by
    unfold plen at h3 ⊢
    have := plens_ok xs (by simpa [PyData.showable] using h1) (by simpa [PyData.hasDict] using h2) (by omega)
    have e : (PyData.list xs).shown = listText (PyData.shownAll xs) := by simp only [PyData.shown]
    rw [e]
    have := listText_len_le (PyData.shownAll xs)
    have := PyData.shownAll_length xs
    omega
  | .tuple xs, h1, h2, h3 => by
    unfold plen at h3 ⊢
    have := plens_ok xs (by simpa [PyData.showable] using h1) (by simpa [PyData.hasDict] using h2) (by omega)
    have e : (PyData.tuple xs).shown = tupleText (PyData.shownAll xs) := by simp only [PyData.shown]
    rw [e]
    have := tupleText_len_le (PyData.shownAll xs)
    have := PyData.shownAll_length xs
    omega
  | .dict _, _, h, _ => by simp [PyData.hasDict] at h
theorem plens_ok : ∀ xs : List PyData, PyData.showableAll xs = true → PyData.hasDictAll xs = false → plens xs ≤ 16777216 → ((PyData.shownAll xs).map (·.length)).sum + 2 * xs.length ≤ plens xs
  | [], _, _, _ => by simp [PyData.shownAll, plens]
  | x :: xs, h1, h2, h3 => by
    simp only [PyData.showableAll, Bool.and_eq_true] at h1
    simp only [PyData.hasDictAll, Bool.or_eq_false_iff] at h2
    unfold plens at h3 ⊢
    have a := plen_ok x h1.1 h2.1 (by omega)
    have b := plens_ok xs h1.2 h2.2 (by omega)
    simp only [PyData.shownAll, List.map_cons, List.sum_cons, List.length_cons]
    omega
end
section
variable {X : Cx} {c : Cl} {pins : List (Addr × Obj)} {σ : St} {H G : Hp} {s : Shared}
mutual
theorem reads_of (I : Inv X pins σ H s) (hs : Same G H) : ∀ {v : V} {d : D} {p : PyData} {u : Value}, Rep X.K c G v d → toPy d = some p → RelV v u → ∃ as, Reads s.heap u p as
  | _, _, _, _, .non, e, r => by
    unfold toPy at e; cases e
    cases (show _ = Value.none from r)
    exact ⟨_, .none⟩
  | _, _, _, _, .bl b, e, r => by
    unfold toPy at e; cases e
    cases (show _ = Value.bool b from r)
    exact ⟨_, .bool b⟩
  | _, _, _, _, .int i, e, r => by
    unfold toPy at e; cases e
    obtain ⟨t, rfl⟩ := r
    exact ⟨_, .int i t⟩
  | _, _, _, _, .str x, e, r => by
    unfold toPy at e; cases e
    obtain ⟨t, rfl⟩ := r
    exact ⟨_, .str x t⟩
  | _, _, _, _, .ty n, e, r => by unfold toPy at e; cases e
  | _, _, _, _, .glb n, e, r => by unfold toPy at e; cases e
  | _, _, _, _, .ro h rs, e, r => by unfold toPy at e; cases e
  | _, _, _, _, .obj h rs, e, r => by unfold toPy at e; cases e
  | _, _, _, _, .dct h rs, e, r => by unfold toPy at e; cases e
  | _, _, _, _, .lst (a := a) h rs, e, r => by
    unfold toPy at e
    obtain ⟨ps, e1, e2⟩ := Option.map_eq_some_iff.mp e
    subst e2
    cases (show _ = Value.ref a from r)
    obtain ⟨_, its, n, rv, at_⟩ := I.hok a _ (hs _ _ h)
    obtain ⟨as, ra⟩ := reads_all I hs rs e1 rv
    exact ⟨_, .list at_ rfl rfl ra⟩
  | _, _, _, _, .tup (a := a) h rs, e, r => by
    unfold toPy at e
    obtain ⟨ps, e1, e2⟩ := Option.map_eq_some_iff.mp e
    subst e2
    cases (show _ = Value.ref a from r)
    obtain ⟨its, rv, ⟨o, at_, hc, n, hd⟩, _⟩ := I.tuple (Same.seqT hs h)
    obtain ⟨as, ra⟩ := reads_all I hs rs e1 rv
    exact ⟨_, .tuple at_ hc hd ra⟩
theorem reads_all (I : Inv X pins σ H s) (hs : Same G H) : ∀ {vs : List V} {ds : List D} {ps : List PyData} {us : List Value}, Reps X.K c G vs ds → toPys ds = some ps → Vals vs us → ∃ as, ReadsAll s.heap us ps as
  | _, _, _, _, .nil, e, r => by
    unfold toPys at e; cases e
    cases r
    exact ⟨_, .nil⟩
  | _, _, _, _, .cons h t, e, r => by
    unfold toPys at e
    obtain ⟨p, e1, e2⟩ := Option.bind_eq_some_iff.mp e
    obtain ⟨ps, e3, e4⟩ := Option.map_eq_some_iff.mp e2
    subst e4
    cases r with
    | cons r1 r2 =>
      obtain ⟨as, a1⟩ := reads_of I hs h e1 r1
      obtain ⟨bs, a2⟩ := reads_all I hs t e3 r2
      exact ⟨_, .cons a1 a2⟩
end
end
def fRepr : List D → Option D
  | [d] => dRepr d
  | _ => none
theorem cd_repr {X : Cx} {c : Cl} (hr : Sh X.A) : CallD X c (.builtin "repr") fRepr := calld_of fun G H xs ds d hs rs e => by
  refine ⟨fun xs' H' Q => xs' = xs ∧ H' = H ∧ ∀ w, d = .str w → Q (.str w) H, ?_, fun Q q => ⟨rfl, rfl, fun w hw => q G H _ (Pure.refl hs) (by rw [hw]; exact .str w)⟩⟩
  rintro pins s σ _ _ us Q I r ⟨rfl, rfl, q⟩
  cases rs with
  | nil => simp [fRepr] at e
  | cons h t =>
    cases t with
    | cons _ _ => simp [fRepr] at e
    | nil =>
      rename_i v dd
      unfold fRepr dRepr at e
      dsimp only at e
      obtain ⟨p, e1, e2⟩ := Option.bind_eq_some_iff.mp e
      split at e2
      · rename_i hc
        cases e2
        obtain ⟨u, rfl, ru⟩ := r.one
        obtain ⟨as, rd⟩ := reads_of I hs h e1 ru
        unfold canShow at hc
        simp only [Bool.and_eq_true, Bool.not_eq_true', decide_eq_true_eq] at hc
        obtain ⟨⟨⟨c1, c2⟩, c3⟩, c4⟩ := hc
        have len : p.shown.length ≤ sizeLine := by
          rw [sizeLine_eq]
          exact Nat.le_trans (plen_ok p c1 c2 c4) c4
        have q := q _ rfl
        have un := hr.units
        cases rd with
        | none => exact P.repr_of_none ⟨.str (PyData.shown .none), _, I.tok _, ⟨_, by rw [PyData.shown_none]⟩, q⟩
        | bool b => exact P.repr_of_bool ⟨.str (PyData.shown (.bool b)), _, I.tok _, ⟨_, by rw [PyData.shown_bool]⟩, q⟩
        | int i t => exact P.repr_of_int (by simpa [PyData.showable] using c1) ⟨.str (PyData.shown (.int i)), _, I.tok _, ⟨_, by rw [PyData.shown_int]⟩, q⟩
        | str x t => exact P.repr_of_str ⟨.str (PyData.shown (.str x)), _, I.tok _, ⟨_, by rw [PyData.shown_str]⟩, q⟩ (by rw [← PyData.shown_str]; exact len)
        | list a1 a2 a3 a4 =>
          exact repr_of_reads' (.list a1 a2 a3 a4) c1 (fun z => by rw [c2] at z; cases z) hr.gd (by omega) (fun _ _ z => z) (fun h' u tk k => ⟨.str (PyData.shown _), _, I.kept (t' := tk) k, ⟨_, rfl⟩, q⟩) len
        | tuple a1 a2 a3 a4 =>
          exact repr_of_reads' (.tuple a1 a2 a3 a4) c1 (fun z => by rw [c2] at z; cases z) hr.gd (by omega) (fun _ _ z => z) (fun h' u tk k => ⟨.str (PyData.shown _), _, I.kept (t' := tk) k, ⟨_, rfl⟩, q⟩) len
        | dict => simp [PyData.hasDict] at c2
      · cases e2
end L2.DL
set_option Elab.async false
set_option linter.all false
set_option maxRecDepth 100000
set_option maxHeartbeats 4000000
namespace L2.DL
open PySem PySem.Spec PyProof.Rows
/-! ### list * int and list + list as things of one's own -/
def mRepO (ma mb : M D) : M Cell := M.bind ma fun a => M.bind mb fun b => match a, b with
  | .lst xs, .int n => if -(2 ^ 63) ≤ n ∧ n < 2 ^ 63 ∧ xs.length * n.toNat ≤ 16777216 then M.ret (.lst (List.replicate n.toNat xs).flatten) else fun _ => .bad
  | _, _ => fun _ => .bad
def mCatO (ma mb : M D) : M Cell := M.bind ma fun a => M.bind mb fun b => match a, b with
  | .lst xs, .lst ys => if xs.length + ys.length ≤ 16777216 then M.ret (.lst (xs ++ ys)) else fun _ => .bad
  | _, _ => fun _ => .bad
section
variable {X : Cx} {c : Cl} {W : WX} {pos : Pos} {a b : Expr} {ma mb : M D}
theorem do_repO (ha : PE X a (tE X.K c W ma)) (hb : PE X b (tE X.K c W mb)) : PE X (.BinOp a .Mult b pos) (tO X.K c W (mRepO ma mb)) := by
  refine PE.weak (pe_op op_rep ha hb) fun σ H Q h => ?_
  obtain ⟨F, G, P, env, R, h⟩ := h
  refine ⟨F, G, P, env, R, (Post.bind h).imp fun d G1 H1 P1 x1 ⟨env1, R1, h1⟩ v r => ⟨F, G1, P1, env1, R1, (Post.bind h1).imp fun d2 G2 H2 P2 x2 ⟨env2, R2, h2⟩ w r2 => ?_⟩⟩
  cases r with
  | lst e1 rs =>
    cases r2 with
    | int n =>
      dsimp only at h2
      split at h2
      · rename_i hc
        exact ⟨_, n, _, rfl, rfl, R2.gs _ _ (x2.same _ _ e1), hc.1, hc.2.1, by rw [rs.length, sizeLine_eq]; exact hc.2.2, fun p n0 => new_cell R2 h2 n0 (.lst upd_same ((rs.mono x2.same).rep _))⟩
      · exact h2.elim
    | _ => exact h2.elim
  | _ => cases r2 <;> exact h2.elim
theorem do_catO (ha : PE X a (tE X.K c W ma)) (hb : PE X b (tE X.K c W mb)) : PE X (.BinOp a .Add b pos) (tO X.K c W (mCatO ma mb)) := by
  refine PE.weak (pe_op op_cat ha hb) fun σ H Q h => ?_
  obtain ⟨F, G, P, env, R, h⟩ := h
  refine ⟨F, G, P, env, R, (Post.bind h).imp fun d G1 H1 P1 x1 ⟨env1, R1, h1⟩ v r => ⟨F, G1, P1, env1, R1, (Post.bind h1).imp fun d2 G2 H2 P2 x2 ⟨env2, R2, h2⟩ w r2 => ?_⟩⟩
  cases r with
  | lst e1 rs =>
    cases r2 with
    | lst e2 rs2 =>
      dsimp only at h2
      split at h2
      · rename_i hc
        exact ⟨_, _, _, _, rfl, rfl, R2.gs _ _ (x2.same _ _ e1), R2.gs _ _ e2, by rw [rs.length, rs2.length, sizeLine_eq]; exact hc, fun p n0 => new_cell R2 h2 n0 (.lst upd_same ((rs.mono x2.same).append rs2))⟩
      · exact h2.elim
    | _ => exact h2.elim
  | _ => cases r2 <;> exact h2.elim
end
end L2.DL
set_option Elab.async false
set_option linter.all false
set_option maxRecDepth 100000
set_option maxHeartbeats 4000000
namespace L2.DL
open PySem PySem.Spec PyProof.Rows
/-! ### range(a, b, -1), list(range(..)) -/
def rangeDn (a b : Int) : List D := (List.range (a - b).toNat).map fun i => .int (a - (i : Nat))
def fDown : List D → Option (List D)
  | [.int a, .int b, .int k] => if k = -1 ∧ -4611686018427387904 ≤ a ∧ a < 4611686018427387904 ∧ -4611686018427387904 ≤ b ∧ b < 4611686018427387904 then some (rangeDn a b) else none
  | _ => none
def mDown (ms : M (List D)) : M (List D) := M.bind ms fun ds => M.opt (fDown ds)
section
variable {X : Cx} {c : Cl} {W : WX} {tg : Expr} {pos : Pos}
theorem gives_down {K : PySem.W.Frag} {G0 : Hp} {a b : Int} : Gives K c G0 (Itc a (-1) (a - b).toNat) (rangeDn a b) := by
  refine ⟨⟨fun _ => True, YFn fun i => .int (a + (i : Nat) * (-1)), ?_, fun _ _ => trivial, ?_⟩⟩
  · have : (rangeDn a b).length = (a - b).toNat := by simp [rangeDn]
    rw [this]
    exact walk_rangeC
  · intro i H x H' G hi g1 g2 y
    obtain ⟨e1, e2⟩ := y
    subst e1 e2
    refine ⟨G, .int (a - (i : Nat)), ?_, Pure.refl g2, ?_⟩
    · unfold rangeDn at hi ⊢
      rw [List.length_map, List.length_range] at hi
      rw [List.getElem?_map, List.getElem?_range hi]
      rfl
    · have : a + (i : Nat) * (-1) = a - (i : Nat) := by omega
      show Rep K c G (.int (a + (i : Nat) * (-1))) _
      rw [this]
      exact .int _
theorem di_down {a b d : Expr} {p : Pos} {ms : M (List D)} (hm : X.mg "range" = none) (ha : PA X [a, b, d] (tA X.K c W ms)) (hg : Gl X "range" := by rfl) (hs : starEach [a, b, d] X.env = (false, eval a X.env) :: starEach [b, d] X.env := by rfl) (hpl : (backTo pos (starEach [b, d] X.env)).any (·.1) = false := by rfl) :
    PI X tg (.Call (.Name "range" p) [a, b, d] [] pos) (tI X.K c W (mDown ms)) := by
  refine PI.weak (pi_range3 hg hm ha hs hpl) fun σ H R h => ?_
  obtain ⟨F, G, P, env, Rl, h⟩ := h
  refine ⟨F, G, P, env, Rl, ?_⟩
  unfold mDown at h
  refine (Post.bind h).imp fun ds G1 H1 P1 _ ⟨env1, R1', h1⟩ vs rs => ?_
  obtain ⟨is, e, h1⟩ := Post.opt h1
  have h2 := Post.here R1' h1
  match ds, rs, e with
  | [], _, e => simp [fDown] at e
  | [_], _, e => simp [fDown] at e
  | [_, _], _, e => simp [fDown] at e
  | [d1, d2, d3], rs, e =>
    cases rs with
    | cons r1 rs =>
      cases rs with
      | cons r2 rs =>
        cases rs with
        | cons r3 rs =>
          cases rs
          cases r1 with
          | int n =>
            cases r2 with
            | int m =>
              cases r3 with
              | int k =>
                simp only [fDown] at e
                split at e
                · rename_i hb
                  cases e
                  obtain ⟨rfl, b1, b2, b3, b4⟩ := hb
                  exact ⟨n, m, -1, _, rfl, RgC.neg (by omega) (by omega) (by omega) (by omega), h2 _ gives_down⟩
                · cases e
              | _ => cases e
            | _ => cases e
          | _ => cases e
  | _ :: _ :: _ :: _ :: _, _, e => simp [fDown] at e
def smallRg (a b : Int) : Prop := -4611686018427387904 ≤ a ∧ a < 4611686018427387904 ∧ -4611686018427387904 ≤ b ∧ b < 4611686018427387904 ∧ (b - a).toNat ≤ 16777216
instance {a b : Int} : Decidable (smallRg a b) := by unfold smallRg; infer_instance
def mLstRg1 (ma : M D) : M Cell := M.bind ma fun a => match a with
  | .int n => if smallRg 0 n then M.ret (.lst (rangeD 0 n)) else fun _ => .bad
  | _ => fun _ => .bad
def mLstRg2 (ma mb : M D) : M Cell := M.bind ma fun a => M.bind mb fun b => match a, b with
  | .int m, .int n => if smallRg m n then M.ret (.lst (rangeD m n)) else fun _ => .bad
  | _, _ => fun _ => .bad
theorem reps_rg {K : PySem.W.Frag} {G : Hp} {a b : Int} : Reps K c G (rgV a b) (rangeD a b) := by
  unfold rgV rangeD
  generalize (b - a).toNat = n
  suffices ∀ l : List Nat, Reps K c G (l.map fun i => V.int (a + (i : Nat))) (l.map fun i => D.int (a + (i : Nat))) from this _
  intro l
  induction l with
  | nil => exact .nil
  | cons x l ih => exact .cons (.int _) ih
theorem do_lstRg1 {e : Expr} {p pp pr : Pos} {ma : M D} (hl : X.mg "list" = none) (hm : X.mg "range" = none) (ha : PE X e (tE X.K c W ma)) (hc : X.calm = true := by rfl) (hg : Gl X "list" := by rfl) (hg2 : Gl X "range" := by rfl)
    (n1 : starEach [e] X.env = (false, eval e X.env) :: starEach [] X.env := by rfl) (n2 : starEach [.Call (.Name "range" pp) [e] [] pr] X.env = (false, eval (.Call (.Name "range" pp) [e] [] pr) X.env) :: starEach [] X.env := by rfl) :
    PE X (.Call (.Name "list" p) [.Call (.Name "range" pp) [e] [] pr] [] pos) (tO X.K c W (mLstRg1 ma)) := by
  refine PE.weak (pe_listRg hc hg hl (prg_1 hg2 hm ha n1) n2) fun σ H Q h => ?_
  obtain ⟨F, G, P, env, R, h⟩ := h
  refine ⟨F, G, P, env, R, (Post.bind h).imp fun d G1 H1 P1 x1 ⟨env1, R1, h1⟩ v r => ?_⟩
  cases r with
  | int n =>
    dsimp only at h1
    split at h1
    · rename_i hb
      exact ⟨n, rfl, ⟨by omega, by omega, by have := hb.2.2.1; omega, by have := hb.2.2.2.1; omega, by have := hb.2.2.2.2; omega⟩, fun q n0 => new_cell R1 h1 n0 (.lst upd_same reps_rg)⟩
    · exact h1.elim
  | _ => exact h1.elim
theorem do_lstRg2 {e f : Expr} {p pp pr : Pos} {ma mb : M D} (hl : X.mg "list" = none) (hm : X.mg "range" = none) (ha : PE X e (tE X.K c W ma)) (hb : PE X f (tE X.K c W mb)) (hc : X.calm = true := by rfl) (hg : Gl X "list" := by rfl) (hg2 : Gl X "range" := by rfl)
    (n0 : starEach [e, f] X.env = (false, eval e X.env) :: starEach [f] X.env := by rfl) (n1 : starEach [f] X.env = (false, eval f X.env) :: starEach [] X.env := by rfl) (np : (backTo pr (starEach [f] X.env)).any (·.1) = false := by rfl)
    (n2 : starEach [.Call (.Name "range" pp) [e, f] [] pr] X.env = (false, eval (.Call (.Name "range" pp) [e, f] [] pr) X.env) :: starEach [] X.env := by rfl) :
    PE X (.Call (.Name "list" p) [.Call (.Name "range" pp) [e, f] [] pr] [] pos) (tO X.K c W (mLstRg2 ma mb)) := by
  refine PE.weak (pe_listRg hc hg hl (prg_2 hg2 hm ha hb n0 n1 np) n2) fun σ H Q h => ?_
  obtain ⟨F, G, P, env, R, h⟩ := h
  refine ⟨F, G, P, env, R, (Post.bind h).imp fun d G1 H1 P1 x1 ⟨env1, R1, h1⟩ v r => ⟨F, G1, P1, env1, R1, (Post.bind h1).imp fun d2 G2 H2 P2 x2 ⟨env2, R2, h2⟩ w r2 => ?_⟩⟩
  cases r with
  | int m =>
    cases r2 with
    | int n =>
      dsimp only at h2
      split at h2
      · rename_i hb
        exact ⟨m, n, rfl, rfl, ⟨by have := hb.1; omega, by have := hb.2.1; omega, by have := hb.2.2.1; omega, by have := hb.2.2.2.1; omega, by have := hb.2.2.2.2; omega⟩, fun q n0 => new_cell R2 h2 n0 (.lst upd_same reps_rg)⟩
      · exact h2.elim
    | _ => exact h2.elim
  | _ => cases r2 <;> exact h2.elim
end
end L2.DL
set_option Elab.async false
set_option linter.all false
set_option maxRecDepth 100000
set_option maxHeartbeats 4000000
namespace L2.DL
open PySem PySem.Spec PyProof.Rows
/-! ### min of a tuple of ints -/
def fMinA : List D → Option D
  | [.tup xs] => (D.ints xs).bind fun ns => match ns with | [] => none | n :: r => some (.int (minI n r))
  | ds => fMin ds
theorem readsAll_ints {h : Heap} : ∀ {us : List Value} {ns : List Int}, Vals (ns.map V.int) us → ReadsAll h us (ns.map PyData.int) []
  | _, [], r => by cases r; exact .nil
  | _, n :: ns, r => by
    cases r with
    | cons r1 r2 =>
      obtain ⟨t, rfl⟩ := r1
      exact .cons (as := []) (.int n t) (readsAll_ints r2)
theorem alike_ints (ns : List Int) : PySem.W.AlikeAll (ns.map PyData.int) := by
  refine ⟨fun x hx y hy => ?_, fun x hx => ?_⟩
  · obtain ⟨a, _, rfl⟩ := List.mem_map.mp hx
    obtain ⟨b, _, rfl⟩ := List.mem_map.mp hy
    simp [PySem.W.alike]
  · obtain ⟨a, _, rfl⟩ := List.mem_map.mp hx
    exact fun z => nomatch z
theorem minD_ints : ∀ (r : List Int) (n : Int), PySem.W.minD (.int n) (r.map .int) = .int (minI n r)
  | [], n => rfl
  | b :: r, n => by
    have ih := minD_ints r (if b < n then b else n)
    unfold PySem.W.minD at ih ⊢
    rw [List.map_cons, List.foldl_cons, PySem.W.dataLt_int]
    unfold minI
    rw [← ih]
    congr 1
    by_cases h : b < n <;> simp [h]
theorem depth_intsA : ∀ ns : List Int, PyData.depthAll (ns.map PyData.int) = 0
  | [] => rfl
  | n :: ns => by
    have := depth_intsA ns
    simp only [List.map_cons, PyData.depthAll, PyData.depth, this]
    rfl
theorem cd_minA {X : Cx} {c : Cl} {k : Nat} (hr : RoomG k X.A) (hc : X.calm = true) : CallD X c (.builtin "min") fMinA := calld_of fun G H xs ds d hs rs e => by
  have other : fMin ds = some d → ∃ r : List V → Hp → VK → Prop, CallR X (.builtin "min") r ∧ ∀ Q : VK, (∀ G' H' v, Pure c H G H' G' → Rep X.K c G' v d → Q v H') → r xs H Q := fun e => ⟨_, cd_min (c := c) hc, fun Q q => ⟨G, ds, d, hs, rs, e, q⟩⟩
  match ds, rs, e with
  | [.tup ys], rs, e =>
    unfold fMinA at e
    dsimp only at e
    obtain ⟨ns, e1, e2⟩ := Option.bind_eq_some_iff.mp e
    refine ⟨fun xs' H' Q => xs' = xs ∧ H' = H ∧ ∀ m, d = .int m → Q (.int m) H, ?_, fun Q q => ⟨rfl, rfl, fun m hm => q G H _ (Pure.refl hs) (by rw [hm]; exact .int m)⟩⟩
    rintro pins s σ _ _ us Q I r ⟨rfl, rfl, q⟩
    cases rs with
    | cons h t =>
      cases t
      cases h with
      | @tup a vs _ h1 h2 =>
        obtain ⟨g1, _⟩ := ints_rep h2 e1
        subst g1
        obtain ⟨u, rfl, ru⟩ := r.one
        cases (show u = Value.ref a from ru)
        obtain ⟨its, rv, ⟨o, at_, hcl, n, hd⟩, _⟩ := I.tuple (Same.seqT hs h1)
        match ns, e2, rv with
        | [], e2, _ => cases e2
        | m :: ms, e2, rv =>
          cases e2
          have un := hr.units
          have rd := readsAll_ints (h := s.heap) rv
          refine PySem.W.min_tuple_data (x := .int m) (xs := ms.map .int) (I.ok.hd hc) ⟨o, at_, hcl, n, hd⟩ rd (alike_ints (m :: ms)) (by have := depth_intsA (m :: ms); rw [List.map_cons] at this; omega) (fun i v h' tk bs hv hrd hk => ?_)
          rw [minD_ints] at hrd
          cases hrd
          exact ⟨.int _, _, I.kept (t' := tk) hk, ⟨_, rfl⟩, q _ rfl⟩
  | [], rs, e => exact other e
  | [.non], rs, e => exact other e
  | [.bl _], rs, e => exact other e
  | [.int _], rs, e => exact other e
  | [.str _], rs, e => exact other e
  | [.ty _], rs, e => exact other e
  | [.glb _], rs, e => exact other e
  | [.lst _], rs, e => exact other e
  | [.ro _], rs, e => exact other e
  | [.obj _ _], rs, e => exact other e
  | [.dct _], rs, e => exact other e
  | a :: b :: r, rs, e =>
    have e1 : fMinA (a :: b :: r) = fMin (a :: b :: r) := by cases a <;> rfl
    exact other (e1.symm.trans e)
end L2.DL
set_option Elab.async false
set_option linter.all false
set_option maxRecDepth 100000
set_option maxHeartbeats 4000000
namespace L2.DL
open PySem PySem.Spec PyProof.Rows
/-! ### reckoning with what D22 .. D26 brought -/
variable {e e1 : Ev} {d : D} {x : Exn} {n : Nat}
@[simp] theorem ev_raise {m : M D} : mRaise n m e = (m e).bnd fun d e => .exc (.own n (some d)) e := rfl
@[simp] theorem ev_raise0 : mRaise0 n e = .exc (.own n none) e := rfl
@[simp] theorem sq_exc {b : MS} : Res.sq (.exc x e) b = .exc x e := rfl
@[simp] theorem end_exc {sls : List Sl} : endR sls (.exc x e) = .exc x (outs sls e) := rfl
@[simp] theorem callR_exc : callR (.exc x e1) e = .exc x e := rfl
def tryR (r : Res Fl) (cs : List (Option Nat × (Nat → Option Bool) × Sv)) : Res Fl := match r with
  | .exc (.own n od) e => mTry.go n od e cs
  | .exc (.ty _) _ => .bad
  | r => r
@[simp] theorem ev_try {b : MS} {cs : List (Option Nat × (Nat → Option Bool) × Sv)} : mTry b cs e = tryR (b e) cs := rfl
@[simp] theorem tryR_ok {f : Fl} {cs : List (Option Nat × (Nat → Option Bool) × Sv)} : tryR (.ok f e) cs = .ok f e := rfl
@[simp] theorem tryR_own {od : Option D} {cs : List (Option Nat × (Nat → Option Bool) × Sv)} : tryR (.exc (.own n od) e) cs = mTry.go n od e cs := rfl
def repR (a b : D) (e : Ev) : Res Cell := match a, b with
  | .lst xs, .int n => if -(2 ^ 63) ≤ n ∧ n < 2 ^ 63 ∧ xs.length * n.toNat ≤ 16777216 then .ok (.lst (List.replicate n.toNat xs).flatten) e else .bad
  | _, _ => .bad
@[simp] theorem ev_repO {a b : M D} : mRepO a b e = (a e).bnd fun x e => (b e).bnd fun y e => repR x y e := by
  unfold mRepO
  rw [ev_bind]
  congr 1; funext x e
  rw [ev_bind]
  congr 1; funext y e
  cases x <;> cases y <;> first | rfl | (simp only [repR]; split <;> rfl)
def catR (a b : D) (e : Ev) : Res Cell := match a, b with
  | .lst xs, .lst ys => if xs.length + ys.length ≤ 16777216 then .ok (.lst (xs ++ ys)) e else .bad
  | _, _ => .bad
@[simp] theorem ev_catO {a b : M D} : mCatO a b e = (a e).bnd fun x e => (b e).bnd fun y e => catR x y e := by
  unfold mCatO
  rw [ev_bind]
  congr 1; funext x e
  rw [ev_bind]
  congr 1; funext y e
  cases x <;> cases y <;> first | rfl | (simp only [catR]; split <;> rfl)
@[simp] theorem catR_lst {xs ys : List D} : catR (.lst xs) (.lst ys) e = if xs.length + ys.length ≤ 16777216 then .ok (.lst (xs ++ ys)) e else .bad := rfl
@[simp] theorem repR_lst {xs : List D} {k : Int} : repR (.lst xs) (.int k) e = if -(2 ^ 63) ≤ k ∧ k < 2 ^ 63 ∧ xs.length * k.toNat ≤ 16777216 then .ok (.lst (List.replicate k.toNat xs).flatten) e else .bad := rfl
@[simp] theorem ev_down {ms : M (List D)} : mDown ms e = (ms e).bnd fun ds e => M.opt (fDown ds) e := rfl
def lrR1 (a : D) (e : Ev) : Res Cell := match a with
  | .int n => if smallRg 0 n then .ok (.lst (rangeD 0 n)) e else .bad
  | _ => .bad
@[simp] theorem ev_lr1 {a : M D} : mLstRg1 a e = (a e).bnd fun x e => lrR1 x e := by
  unfold mLstRg1
  rw [ev_bind]
  congr 1; funext x e
  cases x <;> first | rfl | (simp only [lrR1]; split <;> rfl)
def lrR2 (a b : D) (e : Ev) : Res Cell := match a, b with
  | .int m, .int n => if smallRg m n then .ok (.lst (rangeD m n)) e else .bad
  | _, _ => .bad
@[simp] theorem ev_lr2 {a b : M D} : mLstRg2 a b e = (a e).bnd fun x e => (b e).bnd fun y e => lrR2 x y e := by
  unfold mLstRg2
  rw [ev_bind]
  congr 1; funext x e
  rw [ev_bind]
  congr 1; funext y e
  cases x <;> cases y <;> first | rfl | (simp only [lrR2]; split <;> rfl)
@[simp] theorem lrR2_int {a b : Int} : lrR2 (.int a) (.int b) e = if smallRg a b then .ok (.lst (rangeD a b)) e else .bad := rfl
@[simp] theorem lrR1_int {a : Int} : lrR1 (.int a) e = if smallRg 0 a then .ok (.lst (rangeD 0 a)) e else .bad := rfl
theorem toPys_ints : ∀ ns : List Int, toPys (ns.map .int) = some (ns.map .int)
  | [] => rfl
  | n :: ns => by
    have := toPys_ints ns
    simp only [List.map_cons, toPys, toPy, this, Option.bind_some, Option.map_some]
theorem plens_ints : ∀ ns : List Int, plens (ns.map .int) = 1923 * ns.length
  | [] => rfl
  | n :: ns => by
    have := plens_ints ns
    simp only [List.map_cons, plens, plen, this, List.length_cons]
    omega
theorem noDict_ints : ∀ ns : List Int, PyData.hasDictAll (ns.map .int) = false
  | [] => rfl
  | n :: ns => by
    have := noDict_ints ns
    simp only [List.map_cons, PyData.hasDictAll, PyData.hasDict, this]
    rfl
/-- repr of a tuple of ints, of some text of its own -/
theorem fRepr_ints {ns : List Int} (h : ∀ n ∈ ns, n.natAbs.log2 < 1920) (hl : ns.length ≤ 8000) : fRepr [.tup (ns.map .int)] = some (.str (PyData.shown (.tuple (ns.map .int)))) := by
  show dRepr (.tup (ns.map .int)) = _
  unfold dRepr
  have e : toPy (.tup (ns.map .int)) = some (.tuple (ns.map .int)) := by
    simp only [toPy, toPys_ints, Option.map_some]
  rw [e]
  have c : canShow (.tuple (ns.map .int)) = true := by
    unfold canShow
    simp only [PyData.showable, PyData.hasDict, PyData.depth, plen, PyData.showableAll_ints ns h, noDict_ints, depth_intsA, plens_ints, Bool.not_false, Bool.true_and]
    simp
    omega
  simp only [Option.bind_some, c, if_true]
end L2.DL
set_option Elab.async false
set_option linter.all false
set_option maxRecDepth 100000
set_option maxHeartbeats 4000000
namespace L2.DL
open PySem PySem.Spec PyProof.Rows
/-! ### enumerate of a tuple -/
theorem meets_enum1 {v : Value} {o : Obj} {J : Heap → Prop} (B : Begins v o J) :
    Meets (Builtin.«enumerate.__new__» ⟨[.type "enumerate", v], []⟩) (fun _ R s => J s.heap ∧
      R (.ok (.ret (.ref (s.heap.push o).objs.size))) { s with heap := (s.heap.push o).push { cls := .type "enumerate", data := .fields #[.none, .bool false, .ref s.heap.objs.size, rawInt 0, .none, .none] } }) :=
  .of_wp fun prog w A R s h => by
    obtain ⟨hp, g, d, tk, os⟩ := s
    obtain ⟨h1, h⟩ := h
    have sub := sub_enumerate
    have begin_ : ∀ {A' : Around} {E : Value → Shared → Prop} {Q : Value → Shared → Prop}, Q (.ref hp.objs.size) ⟨hp.push o, g, d, tk, os⟩ → wpAny (model prog w) A' (pyIter v) Q E ⟨hp, g, d, tk, os⟩ :=
      fun q => B.iter prog w _ _ ⟨hp, g, d, tk, os⟩ _ h1 q
    wp_walk using begin_
    refine wpAny_stack_any fun st => wpAny_pure ?_
    split
    · rename_i c _ _ _ _ _
      cases (c == Value.type "enumerate")
      · wp_walk using begin_
        exact ⟨_, rfl, h⟩
      · wp_walk using begin_
        exact ⟨_, rfl, h⟩
    · wp_walk using begin_
      exact ⟨_, rfl, h⟩
theorem call_enum1 {prog : Program} {w : World} {A : Around} {E : Value → Shared → Prop} {s : Shared} {v : Value} {o : Obj} {J : Heap → Prop} {Q : Value → Shared → Prop} (B : Begins v o J) (h1 : J s.heap)
    (h : ∀ h', IsEnum h' (s.heap.objs.size + 1) s.heap.objs.size 0 .none → h'.get? s.heap.objs.size = some o → (∀ b o, s.heap.get? b = some o → h'.get? b = some o) → Q (.ref (s.heap.objs.size + 1)) { s with heap := h' }) :
    wpAny (model prog w) A (call (.type "enumerate") [v]) Q E s := by
  refine callType_new F.called_enumerate (by decide) (F.typeCall_enumerate_1 _) (F.newCall_enumerate_1 _) (fun obj => F.args_object_init_2 obj _) F.entry_enumerate_new (meets_enum1 B) ⟨h1, ?_⟩
  have sz : (s.heap.push o).objs.size = s.heap.objs.size + 1 := Heap.size_push ..
  show _ ∧ _
  rw [sz]
  have there : IsEnum ((s.heap.push o).push { cls := .type "enumerate", data := .fields #[.none, .bool false, .ref s.heap.objs.size, rawInt 0, .none, .none] }) (s.heap.objs.size + 1) s.heap.objs.size 0 .none := by
    have := Heap.get?_push_size (s.heap.push o) (o := { cls := .type "enumerate", data := .fields #[.none, .bool false, .ref s.heap.objs.size, rawInt 0, .none, .none] }) rfl
    rw [sz] at this
    exact this
  exact ⟨⟨_, there, rfl⟩, h _ there (Heap.get?_push_of_some _ (Heap.get?_push_size _ B.free)) fun b o x => Heap.get?_push_of_some _ (Heap.get?_push_of_some _ x)⟩
/-- the tuple at a, its items in new pairs -/
def IteT (K : PySem.W.Frag) (a : Addr) : It :=
  ⟨fun i H => ∃ (xs : List V) (x : V), SqT K H a xs ∧ xs[i]? = some x,
    fun i H v H' => ∃ T x, v = .ref T ∧ H T = none ∧ H' = upd H T (.tup [.int (i : Nat), x]) ∧ ∀ xs, SqT K H a xs → xs[i]? = some x,
    fun i H => ∃ xs : List V, SqT K H a xs ∧ i = xs.length⟩
theorem turn_enumT {P : Program} {w : World} {K : PySem.W.Frag} {elts : List Expr} {kk : Nat} {tpos : Pos} {a e it : Addr} (ha : a ≠ it) (hea : e ≠ a) :
    Turn P w K (.Tuple elts kk tpos) (IteT K a) [e, it] e (fun i h => (∃ old, IsEnum h e it (i : Int) old) ∧ h.IsTupleIter it a i ∧ e ≠ it) where
  mem := by simp
  obj := fun i h st q hq => by
    obtain ⟨⟨old, he⟩, ⟨o, ho, _, hd⟩, _⟩ := st
    have e' : q = e ∨ q = it := by simpa using hq
    rcases e' with z | z
    · rw [z]; exact ⟨_, he, fun v q => nomatch q⟩
    · rw [z]; exact ⟨o, ho, fun v q => by rw [hd] at q; cases q⟩
  keep := fun i h h' st k => by
    obtain ⟨⟨old, he⟩, hi, hne⟩ := st
    exact ⟨⟨old, k e (by simp) _ he⟩, hi.at fun o q => k it (by simp) o q, hne⟩
  item := by
    intro X hP hw hK hc i pins s σ H E I hf st hg
    subst hP hw hK
    obtain ⟨⟨old, he⟩, hit, hne⟩ := st
    obtain ⟨xs, x, hq, hx⟩ := hg
    obtain ⟨its, rv, p, hz⟩ := I.tuple hq
    obtain ⟨u, hu, ru⟩ := rv.get hx
    have hel : e < s.heap.objs.size := Heap.lt_size he
    have hil : it < s.heap.objs.size := by obtain ⟨_, q, _⟩ := hit; exact Heap.lt_size q
    have hh : X.A.in1.handled = none := I.ok.hd hc
    have D1 := Draws.tuple (prog := X.prog) (w := X.w) hh it a ha its.toArray
    have lt1 : i < its.toArray.size := by have := (List.getElem?_eq_some_iff.mp hu).1; simpa using this
    refine wpAny_pyNext_enum_itemD D1 he ⟨hit, p⟩ lt1 hne (by simp [hne, hea]) fun x1 h' tk e1 ho hs' hT hsz hk => ?_
    obtain rfl : x1 = u := by
      have : some u = some x1 := by rw [← hu]; simpa using e1
      exact (Option.some.inj this).symm
    refine ⟨_, rfl, wpAny_letOwnedTupleGo_enum (s := { s with heap := h', toks := tk + 1 }) ho fun h'' he' sb => ?_⟩
    have hT2 : h''.get? s.heap.objs.size = some { cls := .type "tuple", data := .seq #[.int i tk, x1] } := (sb.2 _ (Nat.ne_of_gt hel)).trans hT
    have new : ObjOk X.prog X.w (upd H s.heap.objs.size (.tup [.int (i : Nat), x])) h'' s.heap.objs.size (.tup [.int (i : Nat), x]) :=
      ⟨by show 2 ≤ sizeLine; decide, [.int i tk, x1], .cons ⟨_, rfl⟩ (.cons ru .nil), ⟨_, hT2, rfl, _, rfl⟩⟩
    have I1 : Inv X pins σ (upd H s.heap.objs.size (.tup [.int (i : Nat), x])) { s with heap := h'', toks := tk + 1 } :=
      I.turnedNew (t' := tk + 1) (ch := [e, it]) (fun b ob hb q => (sb.2 b (fun z => hb (by simp [z]))).trans (hk b ob (fun z => hb (by simp [z])) (fun z => hb (by simp [z])) q)) hf (Nat.le_refl _) new
    refine ⟨.ref s.heap.objs.size, _, I1, rfl, ⟨_, x, rfl, I.hok.fresh (Nat.le_refl _), rfl, fun ys hy => by rw [I.tuple_inj hy hq]; exact hx⟩, ⟨⟨x1, ?_⟩, hs'.1.at fun o q => (sb.2 it (Ne.symm hne)).trans q, hne⟩, fun b hb => ?_⟩
    · have e1 : ((i + 1 : Nat) : Int) = (i : Int) + 1 := by omega
      rw [e1]; exact he'
    · have hb' : b < s.heap.objs.size := by
        have e' : b = e ∨ b = it := by simpa using hb
        rcases e' with z | z
        · rw [z]; exact hel
        · rw [z]; exact hil
      rw [upd_ne (Nat.ne_of_lt hb')]
      exact (hf b hb).1
  done := by
    intro X hP hw hK hc i pins s σ H E I hf st hg
    subst hP hw hK
    obtain ⟨⟨old, he⟩, hit, hne⟩ := st
    obtain ⟨xs, hq, hx⟩ := hg
    obtain ⟨its, rv, p, hz⟩ := I.tuple hq
    obtain ⟨f0, f1, f2, f3, f4, f5⟩ := hf it (by simp)
    have hl := rv.length
    have hh : X.A.in1.handled = none := I.ok.hd hc
    have D1 := Draws.tuple (prog := X.prog) (w := X.w) hh it a ha its.toArray
    have ei : i = its.toArray.size := by simp; omega
    subst ei
    exact wpAny_pyNext_enum_endD D1 he ⟨hit, p⟩ fun h' eb => ⟨rfl, I.turned (t' := s.toks) (fun b o hb q => eb b o hb q) f0 f1 f3 f4 f5⟩
  self := fun A i s Q E st h => let ⟨⟨_, he⟩, _⟩ := st; wpAny_pyIter_enum he h
theorem walk_enumT {K : PySem.W.Frag} {a : Addr} {xs : List V} : Walk (IteT K a) xs.length (fun H => SqT K H a xs) (fun i H v H' => ∃ T x, v = .ref T ∧ H T = none ∧ H' = upd H T (.tup [.int (i : Nat), x]) ∧ xs[i]? = some x) := by
  refine ⟨fun i _ hi q => ⟨xs, xs[i], q, by simp [hi]⟩, fun _ q => ⟨xs, q, rfl⟩, fun i H v H' _ q y => ?_⟩
  obtain ⟨T, x, h1, h2, h3, h4⟩ := y
  exact ⟨T, x, h1, h2, h3, h4 xs q⟩
theorem gives_enumT {c : Cl} {K : PySem.W.Frag} {G0 : Hp} {a : Addr} {vs : List V} {ds : List D} (h : SqT K G0 a vs) (r : Reps K c G0 vs ds) : Gives K c G0 (IteT K a) (enumD 0 ds) := by
  refine ⟨⟨fun H => SqT K H a vs, _, by rw [enumD_len, ← r.length]; exact walk_enumT, fun H hs => Same.seqT hs h, fun i H x H' G _ g1 g2 y => ?_⟩⟩
  obtain ⟨T, y1, e1, e2, e3, e5⟩ := y
  subst e1 e3
  obtain ⟨d, e6, rd⟩ := r.get' e5
  refine ⟨upd G T (.tup [.int (i : Nat), y1]), .tup [.int ((0 + i : Nat) : Int), d], by rw [enumD_get, e6]; rfl, Pure.new _ g2 e2, ?_⟩
  rw [Nat.zero_add]
  exact .tup (SqT.of upd_same) (.cons (.int _) (.cons (rd.mono (g1.trans (same_new (none_of g2 e2)))) .nil))
def iEnumT (K : PySem.W.Frag) (ta : TA) : TI := fun σ H R => ta σ H fun vs H1 => ∃ a xs, vs = [.ref a] ∧ SqT K H1 a xs ∧ R (IteT K a) H1
theorem pi_enumT {X : Cx} {e : Expr} {ta : TA} {p pos tpos : Pos} {elts : List Expr} {kk : Nat} (hg : Gl X "enumerate") (hm : X.mg "enumerate" = none) (ha : PA X [e] ta) (hs : starEach [e] X.env = [(false, eval e X.env)] := by rfl) :
    PI X (.Tuple elts kk tpos) (.Call (.Name "enumerate" p) [e] [] pos) (iEnumT X.K ta) := by
  refine ⟨fun pins s σ H R I h => ?_⟩
  refine Call_ (ld_blt I hg hm boot_enumerate (PyProof.Rows.callWith_type1 (thn (ha.run pos pins s σ H _ I h) fun us s1 ⟨vs, H1, I1, r1, q1⟩ => ?_) hs rfl))
  obtain ⟨a, xs, ex, hq, q⟩ := q1
  subst ex
  cases r1 with
  | cons r rr =>
    cases rr
    cases r
    obtain ⟨its, rv, p', hz⟩ := I1.tuple hq
    have hal : a < s1.heap.objs.size := p'.lt
    refine call_enum1 (begins_tuple a its.toArray) p' fun h' he hit hk => wpAny_pyIter_enum he ?_
    have I2 : Inv X pins σ H1 { s1 with heap := h' } := I1.kept (t' := s1.toks) hk
    refine ⟨s1.heap.objs.size + 1, [s1.heap.objs.size + 1, s1.heap.objs.size], _, _, H1, rfl, I2, turn_enumT (a := a) (e := s1.heap.objs.size + 1) (it := s1.heap.objs.size) (Nat.ne_of_lt hal) (Nat.ne_of_gt (Nat.lt_succ_of_lt hal)), ⟨⟨.none, he⟩, ⟨_, hit, rfl, rfl⟩, Nat.succ_ne_self _⟩, fun b hb => ?_, q⟩
    have e' : b = s1.heap.objs.size + 1 ∨ b = s1.heap.objs.size := by simpa using hb
    have hle : s1.heap.objs.size ≤ b := by
      rcases e' with z | z
      · rw [z]; exact Nat.le_add_right _ _
      · rw [z]; exact Nat.le_refl _
    exact I1.fpOk hle (I1.hok.fresh hle)
/-- enumerate of a list or of a tuple -/
def mEnumA (m : M D) : M (List D) := M.bind m fun d => match d with
  | .tup xs => M.ret (enumD 0 xs)
  | d => M.bind (M.opt d.items) fun xs => M.ret (enumD 0 xs)
theorem PI.or {X : Cx} {tg e : Expr} {t1 t2 : TI} (h1 : PI X tg e t1) (h2 : PI X tg e t2) : PI X tg e (fun σ H R => t1 σ H R ∨ t2 σ H R) :=
  ⟨fun pins s σ H R I h => h.elim (h1.run pins s σ H R I) (h2.run pins s σ H R I)⟩
section
variable {X : Cx} {c : Cl} {W : WX} {p pos tpos : Pos} {e : Expr} {m : M D} {elts : List Expr} {kk : Nat}
theorem di_enumA (hm : X.mg "enumerate" = none) (he : PE X e (tE X.K c W m)) (hg : Gl X "enumerate" := by rfl) (he1 : starEach [e] X.env = (false, eval e X.env) :: starEach [] X.env := by rfl) (hs : starEach [e] X.env = [(false, eval e X.env)] := by rfl) :
    PI X (.Tuple elts kk tpos) (.Call (.Name "enumerate" p) [e] [] pos) (tI X.K c W (mEnumA m)) := by
  refine PI.weak (PI.or (pi_enum hg hm (pa_cons he pa_nil he1) hs) (pi_enumT hg hm (pa_cons he pa_nil he1) hs)) fun σ H R h => ?_
  obtain ⟨F, G, P, env, Rl, h⟩ := h
  by_cases ht : ∃ xs e1, m env = .ok (.tup xs) e1
  · obtain ⟨xs, e1, hx⟩ := ht
    refine .inr ⟨F, G, P, env, Rl, ?_⟩
    have h := Post.bind h
    rw [hx] at h ⊢
    refine fun G1 H1 P1 x1 k1 R1 v r => ?_
    obtain ⟨env1, R1', h1⟩ := h G1 H1 P1 x1 k1 R1
    have h2 : Post X.K c W F G1 P1 σ env1 (.ok (enumD 0 xs) env1) _ := h1
    cases r with
    | tup h3 s => exact ⟨_, _, rfl, Same.seqT R1.gs h3, Post.here R1' h2 _ (gives_enumT h3 s)⟩
  · refine .inl ⟨F, G, P, env, Rl, ?_⟩
    have h := Post.bind h
    cases hx : m env with
    | bad => rw [hx] at h; exact h
    | exc x e1 => rw [hx] at h; exact h
    | ok d e1 =>
      rw [hx] at h
      refine fun G1 H1 P1 x1 k1 R1 v r => ?_
      obtain ⟨env1, R1', h1⟩ := h G1 H1 P1 x1 k1 R1
      have h1' : Post X.K c W F G1 P1 σ env1 (M.bind (M.opt d.items) (fun xs => M.ret (enumD 0 xs)) env1) (fun ds G' H' _ => ∀ J, Gives X.K c G' J ds → R J H') := by
        cases d with
        | tup xs => exact absurd ⟨xs, e1, hx⟩ ht
        | _ => exact h1
      cases e2 : d.items with
      | none => rw [e2] at h1'; exact h1'.elim
      | some xs =>
        rw [e2] at h1'
        have h2 : Post X.K c W F G1 P1 σ env1 (.ok (enumD 0 xs) env1) _ := h1'
        cases r with
        | lst h3 s => cases e2; exact ⟨_, _, rfl, SqL.of (R1.gs _ _ h3), Post.here R1' h2 _ (gives_enum (SqL.of h3) s)⟩
        | ro h3 s => cases e2; exact ⟨_, _, rfl, R1.gs.seq h3, Post.here R1' h2 _ (gives_enum h3 s)⟩
        | _ => cases e2
end
def enumR (d : D) (e : Ev) : Res (List D) := match d with
  | .tup xs => .ok (enumD 0 xs) e
  | d => (M.opt d.items e).bnd fun xs e => .ok (enumD 0 xs) e
@[simp] theorem ev_enumA {m : M D} {e : Ev} : mEnumA m e = (m e).bnd fun d e => enumR d e := by
  show Res.bnd _ _ = _
  congr 1; funext d e; cases d <;> rfl
@[simp] theorem enumR_tup {xs : List D} {e : Ev} : enumR (.tup xs) e = .ok (enumD 0 xs) e := rfl
@[simp] theorem enumR_lst {xs : List D} {e : Ev} : enumR (.lst xs) e = .ok (enumD 0 xs) e := rfl
end L2.DL
set_option Elab.async false
set_option linter.all false
set_option maxRecDepth 100000
set_option maxHeartbeats 4000000
namespace L2.DL
open PySem PySem.Spec PyProof.Rows
/-! ### more suites: x + y, f(x) of a built-in -/
section
variable {X : Cx} {c : Cl} {i : Option Nat} {a : Addr} {cv : Value} {dd : Option Addr} {o : Obj} {pn : List (Addr × Obj)} {pos pp : Pos} {e e' : Expr} {s1 s2 : Sv}
theorem sx_bin {op : Operator} {g : D → D → Option D} (ho : OpD (X.suite a ((a, o) :: pn)) c (binaryOp op) g) (h1 : PE (X.suite a ((a, o) :: pn)) e (tX X.K c i a cv dd s1)) (h2 : PE (X.suite a ((a, o) :: pn)) e' (tX X.K c i a cv dd s2)) :
    PE (X.suite a ((a, o) :: pn)) (.BinOp e op e' pos) (tX X.K c i a cv dd fun n od => (s1 n od).bind fun x => (s2 n od).bind fun y => g x y) := by
  refine PE.weak (pe_op ho h1 h2) fun σ H Q h => ?_
  obtain ⟨ha, G, n, od, w, hs, ht, hx, e1, q⟩ := h
  obtain ⟨x, ex, e1⟩ := Option.bind_eq_some_iff.mp e1
  obtain ⟨y, ey, e1⟩ := Option.bind_eq_some_iff.mp e1
  refine ⟨ha, G, n, od, x, hs, ht, hx, ex, fun G1 H1 v p r => ⟨ha, G1, n, od, y, p.gs, ⟨p.tabs ht.1, p.ng ht.2⟩, hx.mono p.same p.hs, ey, fun G2 H2 v2 p2 r2 => ?_⟩⟩
  exact ⟨G2, x, y, w, p2.gs, ⟨p2.tabs (p.tabs ht.1), p2.ng (p.ng ht.2)⟩, r.mono p2.same, r2, e1, fun G3 H3 v3 p3 r3 => q G3 H3 v3 ((p.trans p2).trans p3) r3⟩
theorem sx_callB {x : Str} {p : Pos} {id : String} {g : List D → Option D} (hc : CallD (X.suite a ((a, o) :: pn)) c (.builtin id) g) (hg : Gl (X.suite a ((a, o) :: pn)) x) (hm : X.mg x = none) (hv : bootBuiltins x = some (.builtin id)) (h1 : PE (X.suite a ((a, o) :: pn)) e (tX X.K c i a cv dd s1))
    (hn : x ≠ "__name__" := by decide) (hdb : (x == ("__debug__" : Str)) = false := by decide)
    (he : starEach [e] X.env = (false, eval e X.env) :: starEach [] X.env := by rfl) (hpl : (backTo pos (starEach [] X.env)).any (·.1) = false := by rfl) :
    PE (X.suite a ((a, o) :: pn)) (.Call (.Name x p) [e] [] pos) (tX X.K c i a cv dd fun n od => (s1 n od).bind fun d => g [d]) := by
  refine PE.weak (pe_callB (X := X.suite a ((a, o) :: pn)) hc hg hm hv (pa_cons h1 pa_nil he) hn hdb he hpl) fun σ H Q h => ?_
  obtain ⟨ha, G, n, od, w, hs, ht, hx, e1, q⟩ := h
  obtain ⟨d, ed, e1⟩ := Option.bind_eq_some_iff.mp e1
  exact ⟨ha, G, n, od, d, hs, ht, hx, ed, fun G1 H1 v p r => ⟨G1, [d], w, p.gs, .cons r .nil, e1, fun G2 H2 v2 p2 r2 => q G2 H2 v2 (p.trans p2) r2⟩⟩
end
/-! ### a lambda handed to a def of one's own -/
section
variable {X : Cx} {pins : List (Addr × Obj)} {σ : L2.St} {F G H : Hp} {s : Shared} {c : Cl}
/-- a lambda made: the table may have grown -/
theorem lam_new {cd P : Addr} {args : Arguments} {body : Expr} {sc : Scope} {at_ : Pos} {Er Qr : Value → Shared → Prop} (I : Inv X pins σ H s) (tbb : LamX.TabB X.base X.mg cd P) (own : X.env.code = .ref cd) (gs : Same G H) (tb : Tb c F G H)
    (listed : (P, X.env.qual ++ "<lambda>") ∈ c.tb) (only : ∀ p ∈ c.tb, p.1 = P → p.2 = X.env.qual ++ "<lambda>") (nodef : defaultsOf args X.env = ([], [])) (free : ∀ y ∈ sc.names, y.2 = .free → ∃ b, X.env.cells.lookup y.1 = some b)
    (goal : ∀ (f a : Addr) (pm ctv : Value) (H1 G1 : Hp) (s1 : Shared), Inv X pins σ H1 s1 → LamX.ExtN H H1 → Same G G1 → Same G1 H1 → (∀ b, H b ≠ none → G b = none → G1 b = none) → Tb c F G1 H1 →
      s1.heap.get? f = some (PySem.W.kla_obj "<lambda>" (X.env.qual ++ "<lambda>") args body sc (cloFrom X.env.cells sc.names []) pm a ctv) → H1 f = none → f ∉ frs X.stack → G1 a = some (LamX.CodeO a (X.env.qual ++ "<lambda>")) → Qr (.ref f) s1) :
    wpAny (model X.prog X.w) X.A (eval (.Lambda args body sc at_) X.env) Qr Er s := by
  obtain ⟨rows, atP, trip, known⟩ := tb.tabs _ listed
  apply PySem.W.kla_eval nodef
  have base : s.heap.BuiltinsAt X.mg P := tbb.bm.keeps I.bk
  have conc : s.heap.get? P = some { cls := .none, data := .fields rows } := I.hok P _ atP
  have offstack : ∀ {f : Addr}, s.heap.objs.size ≤ f → f ∉ frs X.stack := fun {f} big z => by
    cases List.mem_cons.mp (I.stkSub _ z) with
    | inl e =>
      have small := I.lt
      rw [← e] at small
      exact Nat.lt_irrefl _ (Nat.lt_of_lt_of_le small big)
    | inr e => exact absurd e (I.nofs big)
  cases look : codeAmong at_ rows.toList with
  | some there =>
    obtain ⟨a, rfl, ga⟩ := known at_ there look
    apply PySem.W.kla_makeFunctionHit (mg := X.mg) (c := cd) (P := P) (ps := rows) (closure_ok free) I.ok.glob (I.mod.glob.keeps I.bk) own (tbb.code.keeps I.bk) conc trip look base
    intro ctv h1 tk grow big
    have J := I.kept (t' := tk) (h' := h1.push (PySem.W.kla_obj "<lambda>" (X.env.qual ++ "<lambda>") args body sc (cloFrom X.env.cells sc.names []) ((X.mg "__name__").getD .none) a ctv)) fun b o e => Heap.get?_push_of_some _ (grow b o e)
    exact goal h1.objs.size a _ ctv H G _ J (LamX.ExtN.refl H) (Same.refl G) gs (fun _ _ n => n) tb (Heap.get?_push_size _ rfl) (I.hok.fresh big) (offstack big) ga
  | none =>
    apply PySem.W.kla_makeFunction (mg := X.mg) (c := cd) (P := P) (ps := rows) (closure_ok free) I.ok.glob (I.mod.glob.keeps I.bk) own (tbb.code.keeps I.bk) conc trip look tbb.gP base
    intro a ctv h1 tk grow far near record wrote
    obtain ⟨a2, oc, vs, t, same, hoc, hd, hv⟩ := record
    cases same
    have big : s.heap.objs.size ≤ h1.objs.size := Nat.le_trans far (Nat.le_of_lt near)
    have newA : H a = none := I.hok.fresh far
    have J := LamX.inv_table (t' := tk) (more := #[rawInt at_.line, rawInt at_.col, .ref a]) (h' := h1.push (PySem.W.kla_obj "<lambda>" (X.env.qual ++ "<lambda>") args body sc (cloFrom X.env.cells sc.names []) ((X.mg "__name__").getD .none) a ctv)) I atP
      (fun b o hb e => Heap.get?_push_of_some _ (grow b o hb e)) (Heap.get?_push_of_some _ wrote) far ⟨oc, vs, t, Heap.get?_push_of_some _ hoc, hd, hv⟩
    have kept : LamX.ExtN H (upd (upd H P (.tbl (rows ++ #[rawInt at_.line, rawInt at_.col, .ref a]))) a (LamX.CodeO a (X.env.qual ++ "<lambda>"))) := by
      intro b o e n
      have b1 : b ≠ a := ne_of_none e newA
      have b2 : b ≠ P := fun z => n rows (by rw [z, atP] at e; exact (Option.some.inj e).symm)
      rw [upd_ne b1, upd_ne b2]
      exact e
    have newG : G a = none := none_of gs newA
    have gg : Same G (upd G a (LamX.CodeO a (X.env.qual ++ "<lambda>"))) := same_new newG
    have gh : Same (upd G a (LamX.CodeO a (X.env.qual ++ "<lambda>"))) (upd (upd H P (.tbl (rows ++ #[rawInt at_.line, rawInt at_.col, .ref a]))) a (LamX.CodeO a (X.env.qual ++ "<lambda>"))) := by
      intro b o e
      by_cases hb : b = a
      · subst hb
        rw [upd_same] at e ⊢
        exact e
      · rw [upd_ne hb] at e ⊢
        have e2 := gs b o e
        rw [upd_ne fun z => by rw [z, atP] at e2; exact tb.ng b rows (by rw [e]; exact e2.symm)]
        exact e2
    have asList : (rows ++ #[rawInt at_.line, rawInt at_.col, Value.ref a]).toList = rows.toList ++ [rawInt at_.line, rawInt at_.col, Value.ref a] := by simp
    have tb1 : Tb c F (upd G a (LamX.CodeO a (X.env.qual ++ "<lambda>"))) (upd (upd H P (.tbl (rows ++ #[rawInt at_.line, rawInt at_.col, .ref a]))) a (LamX.CodeO a (X.env.qual ++ "<lambda>"))) := by
      refine ⟨fun p hp => ?_, tb.nf, not_upd tb.ng fun ps => LamX.codeO_ne ps⟩
      by_cases hP : p.1 = P
      · rw [only p hp hP, hP]
        refine ⟨_, by rw [upd_ne (ne_of_none atP newA), upd_same], by rw [asList]; exact PySem.TriplesOk_snoc _ _ _ _ trip, fun q w e => ?_⟩
        rw [asList] at e
        cases LamX.among_app _ trip e with
        | inl z =>
          obtain ⟨b, e1, e2⟩ := known q w z
          exact ⟨b, e1, gg _ _ e2⟩
        | inr z => exact ⟨a, z, upd_same⟩
      · obtain ⟨ps, a1, a2, a3⟩ := tb.tabs p hp
        refine ⟨ps, by rw [upd_ne (ne_of_none a1 newA), upd_ne hP]; exact a1, a2, fun q w e => ?_⟩
        obtain ⟨b, e1, e2⟩ := a3 q w e
        exact ⟨b, e1, gg _ _ e2⟩
    have fr : h1.objs.size ≠ a := Nat.ne_of_gt near
    have fP : h1.objs.size ≠ P := Nat.ne_of_gt (Nat.lt_of_lt_of_le (Heap.lt_size conc) big)
    exact goal h1.objs.size a _ ctv _ _ _ J kept gg gh (fun b hb n => by rw [upd_ne fun z => hb (by rw [z]; exact newA)]; exact n) tb1 (Heap.get?_push_size _ rfl) (by rw [upd_ne fr, upd_ne fP]; exact I.hok.fresh big) (offstack big) upd_same
end
end L2.DL
set_option Elab.async false
set_option linter.all false
set_option maxRecDepth 100000
set_option maxHeartbeats 4000000
namespace L2.DL
open PySem PySem.Spec PyProof.Rows
/-! ### the lambda called, in the def that got it -/
section
variable {X : Cx} {pins : List (Addr × Obj)} {σ : L2.St} {H : Hp} {s : Shared}
theorem act_lam {Eg : XK} {Ng : List Str} {qg : Str} {sg : Scope} {g f b : Addr} {cdg pm ctv : Value} {args : Arguments} {body : Expr} {sc : Scope} {k : Nat} {y : Str} {pn : List (Addr × Obj)} {xe : Value → Shared → Prop} {W : WX} {t : XK → TE} {p1 p2 : Pos}
    (I : Inv X pins σ H s) (L : LamX.LamS X.env.scope sc) (isF : s.heap.get? f = some (PySem.W.kla_obj "<lambda>" (X.env.qual ++ "<lambda>") args body sc (cloFrom X.env.cells sc.names []) pm b ctv)) (newF : H f = none) (offF : f ∉ frs X.stack)
    (noargs : bindArgs (PySem.W.kla_fn "<lambda>" (X.env.qual ++ "<lambda>") args body sc (cloFrom X.env.cells sc.names []) pm (.ref b) ctv) ⟨[], []⟩ = pure [])
    (tk : Takes ((cxOf (L2.CX X.prog X.w) X.prog X.w X.K X.mg X.base Ng qg sg g cdg X.A X.stack s H Eg).tr pn xe) W) (room : RoomG (k + 1) (X.A.deeper (envOfC qg sg s.heap.objs.size g cdg)))
    (walk : ∀ (A : Around) (outer : List Env) (s : Shared) (H : Hp) (E : XK), RoomG k (A.deeper (LamX.lamEnv X sc s.heap.objs.size f b)) → PE (LamX.lamCx X A outer s H E sc f b) body (t E))
    (hN : Ng[0]? = some y) (hv : Vis sg y) (nd : (y == ("__debug__" : Str)) = false := by decide) (nc : (y == ("__classdict__" : Str)) = false := by decide) :
    PE ((cxOf (L2.CX X.prog X.w) X.prog X.w X.K X.mg X.base Ng qg sg g cdg X.A X.stack s H Eg).tr pn xe) (.Call (.Name y p1) [] [] p2)
      (fun τ HZ Q => τ[0]? = some (some (.ref f)) ∧ HZ b = some (LamX.CodeO b (X.env.qual ++ "<lambda>")) ∧ t (fun cls d H' => W cls d τ H') σ HZ Q) := by
  constructor
  intro pinsZ sZ τ HZ Q IZ ⟨held, coded, wish⟩
  apply wpAny_Call_Name_kw
  refine thn ((pe_var (pos := p1) (i := 0) hN hv nd nc).run pinsZ sZ τ HZ (fun v H1 => v = .ref f ∧ H1 = HZ) IZ ⟨.ref f, held, rfl, rfl⟩) fun u s1 ⟨v, H1, I1, r1, q1, q2⟩ => ?_
  subst q1
  subst q2
  cases (show u = Value.ref f from r1)
  have still := I1.base.keep f _ isF newF offF (fun z => by cases (show f ∈ ([] : List Addr) from z))
  apply PySem.W.callWith_F0 ⟨_, _, _, _, still⟩
  have moved : Un (frs X.stack) [] H H1 s.heap s1.heap := I1.base
  obtain ⟨⟨oc, vs, tt, c1, c2, c3⟩, _, _⟩ := I1.hok b _ coded
  have go : codeAny (model X.prog X.w) (X.A.deeper (envOfC qg sg s.heap.objs.size g cdg)) (.call (.ref f) ⟨[], []⟩) (CR (L2.CX X.prog X.w) (envOfC qg sg s.heap.objs.size g cdg :: X.stack) X.prog X.w H1 s1 Q (fun cls d H' => W cls d τ H')) s1 := by
    apply PySem.W.kla_callFunE room.depth still rfl L.co L.gen rfl ⟨b, oc, vs, tt, rfl, c1, c2, c3⟩
    rw [noargs]
    apply wpAny_pure
    apply wpAny_newFunctionEnv (fun z hz => (L.own z hz).2) (fun z hz => absurd hz (by simp)) _ L.kind
    intro h1 loc step
    refine ⟨I1.nolimit.fresh _ step, ?_⟩
    show codeAny _ _ (.expr body (LamX.lamEnv X sc s1.heap.objs.size f b)) _ _
    have up : ∀ d o, s1.heap.get? d = some o → h1.get? d = some o := fun d o e => step.extBut d o (Nat.ne_of_lt (Heap.lt_size e)) (Heap.get?_push_of_some _ e)
    have J : Inv (LamX.lamCx X (X.A.deeper (envOfC qg sg s.heap.objs.size g cdg)) (envOfC qg sg s.heap.objs.size g cdg :: X.stack) s1 H1 (fun cls d H' => W cls d τ H') sc f b) [] σ H1 { s1 with heap := h1, toks := s1.toks + ([] : List (Str × Value)).length } :=
      LamX.lam_start2 I L I1.env0 room.hd moved loc up
    apply PySem.W.kla_codeExpr
    refine wpAny_mono ((walk _ _ s1 H1 _ (room.deeper _)).run [] _ _ H1 Q J wish) (fun w s2 out => ?_) fun _ _ z => z
    obtain ⟨x, H2, J2, rx, qx⟩ := out
    exact ⟨x, H2, J2.os, J2.bare, J2.base, J2.hok, rx, qx⟩
  apply wpAny_call
  refine codeAny_mono go fun r s2 out => ?_
  match r, out with
  | .error e, out => exact passAt tk τ pinsZ H1 s1 e s2 I1 out
  | .ok .next, out => exact out.elim
  | .ok .brk, out => exact out.elim
  | .ok .cont, out => exact out.elim
  | .ok (.ret u), out => exact I1.after out
end
/-! ### told(lambda: e), by data -/
/-- what the def makes of the answer: its own word, or what was answered; by its clauses for an exception -/
def lamGo (n : Nat) (od : Option D) (e : Ev) : List (Option Nat × (Nat → Option Bool) × Sv) → Res D
  | [] => .bad
  | (_, h, s) :: r => match h n with
    | some true => match s n od with
      | some w => .ok w e
      | none => .bad
    | some false => lamGo n od e r
    | none => .bad
def lamR (kd : Option D) (cs : List (Option Nat × (Nat → Option Bool) × Sv)) : Res D → Res D
  | .ok d e => .ok (kd.getD d) e
  | .exc (.own n od) e => lamGo n od e cs
  | _ => .bad
def mLam (kd : Option D) (cs : List (Option Nat × (Nat → Option Bool) × Sv)) (th : M D) : M D := fun e => lamR kd cs (th e)
/-- the body of the try, f() called first -/
def BodyT (y : Str) (bs : List Stmt) (kv : Option V) : Prop := ∃ p1 p2, ∀ (Z : Cx) (t : TE), PE Z (.Call (.Name y p1) [] [] p2) t → PSs Z bs (fun D σ H => t σ H fun v H' => D.rt (kv.getD v) H')
theorem bt_ret {y : Str} {p1 p2 p3 : Pos} : BodyT y [.Return (some (.Call (.Name y p1) [] [] p2)) p3] none := ⟨p1, p2, fun Z t h => pss_one (ps_ret h)⟩
theorem bt_const {y z : Str} {p1 p2 p3 p4 p5 : Pos} {j : Nat} : BodyT y [.Expr (.Call (.Name y p1) [] [] p2) p3, .Return (some (.Constant (.str z) j p4)) p5] (some (.str z)) := ⟨p1, p2, fun Z t h => by
  refine PSs.weak (pss_cons (ps_expr h (by rfl)) (pss_one (ps_ret pe_str))) fun D σ H q => ?_
  exact q⟩
theorem clauses_at {X : Cx} {hs : List ExceptHandler} {l : List Clause} (h : ClausesOk X hs l) : ∀ q ∈ l, ∀ i, q.2.1 = some i → i < X.N.length := by
  induction h with
  | nil => intro q hq; cases hq
  | @cons x cv j nm ts st sts p q' hs l known named suite more ih =>
    intro q hq i e
    rcases List.mem_cons.mp hq with rfl | hq
    · have e' : j = some i := e
      subst e'
      obtain ⟨y, _, _, h3, _⟩ := named
      exact (List.getElem?_eq_some_iff.mp h3).1
    · exact ih q hq i e
/-- a def that calls what it got -/
structure ToldF (P : Program) (w : World) (K : PySem.W.Frag) (mg : Str → Option Value) (base : Heap) (c : Cl) (x : Str) (k : Nat) (kd : Option D) (cs : List (Option Nat × (Nat → Option Bool) × Sv)) : Prop where
  ex : ∃ (g : Addr) (qual y : Str) (st : Stmt) (fd : FuncData) (Ng : List Str) (bs : List Stmt) (h₁ : ExceptHandler) (hs : List ExceptHandler) (pos : Pos) (kv : Option V), mg x = some (.ref g) ∧ PySem.W.keepIn K (.ref g) = true ∧ FunV K x qual st g fd ∧ FnScope Ng [y] (defScope st) ∧ Binds K fd [y] [] ∧
    defBody st = [.Try bs (h₁ :: hs) [] [] pos] ∧ BodyT y bs kv ∧ Ng[0]? = some y ∧ Vis (defScope st) y ∧ (y == ("__debug__" : Str)) = false ∧ (y == ("__classdict__" : Str)) = false ∧ (∀ G v d, Rep K c G v d → Rep K c G (kv.getD v) (kd.getD d)) ∧
    ∀ (cdv : Value) (A : Around) (outer : List Env) (s : Shared) (H : Hp) (E : XK), RoomG k (A.deeper (envOfC qual (defScope st) s.heap.objs.size g cdv)) → TryD (cxOf (L2.CX P w) P w K mg base Ng qual (defScope st) g cdv A outer s H E) c (h₁ :: hs) cs
section
variable {X : Cx} {c : Cl} {W : WX} {x : Str} {k : Nat} {kd : Option D} {cs : List (Option Nat × (Nat → Option Bool) × Sv)} {th : M D} {cd P : Addr} {args : Arguments} {body : Expr} {sc : Scope} {p lp pos : Pos}
theorem de_lam (T : ToldF X.prog X.w X.K X.mg X.base c x k kd cs) (tbb : LamX.TabB X.base X.mg cd P) (own : X.env.code = .ref cd) (listed : (P, X.env.qual ++ "<lambda>") ∈ c.tb) (only : ∀ p ∈ c.tb, p.1 = P → p.2 = X.env.qual ++ "<lambda>") (room : RoomG (k + 2) X.A)
    (L : LamX.LamS X.env.scope sc) (nodef : defaultsOf args X.env = ([], [])) (noargs : ∀ (q : Str) (cl : List (Str × Addr)) (pm cv ctv : Value), bindArgs (PySem.W.kla_fn "<lambda>" q args body sc cl pm cv ctv) ⟨[], []⟩ = pure [])
    (walk : ∀ (A : Around) (outer : List Env) (s : Shared) (H : Hp) (E : XK) (f b : Addr), RoomG k (A.deeper (LamX.lamEnv X sc s.heap.objs.size f b)) → PE (LamX.lamCx X A outer s H E sc f b) body (tE X.K c (fun cv dd _ H' => E cv dd H') th))
    (hg : Gl X x := by rfl) (hdb : (x == ("__debug__" : Str)) = false := by decide) : PE X (.Call (.Name x p) [.Lambda args body sc lp] [] pos) (tE X.K c W (mLam kd cs th)) := by
  obtain ⟨g, qual, y, st, fd, Ng, bs, h₁, hs, tpos, kv, hm, hk, Fd, S, bnd, hst, ⟨p1, p2, bt⟩, hN0, hv, nd, nc, hkv, td⟩ := T.ex
  obtain ⟨oc, od, dV0, kV, doc, pm0, an, cdv, ct, osl, rfl, lk, hcd⟩ := Fd.ex
  constructor
  intro pins s σ H Q I ⟨F, G, P0, env, R, wish0⟩
  apply wpAny_Call_Name_kw
  refine ld_glob I hg hm ?_ hdb
  refine PySem.W.callWith_K (h₀ := X.base) I.ok.mod.kin hk ?_ (by rfl) (by rfl)
  show wpAny _ _ (spliced ((false, eval (.Lambda args body sc lp) X.env) :: backTo pos (starEach [] X.env))) _ _ s
  refine Calls.spliced_cons (lam_new I tbb own R.gs R.tb listed only nodef (L.has I.ok) fun f b pm ctv H1 G1 s1 J ext gg gh fresh tb1 isF newF offF ga => ?_)
  refine Calls.spliced_nil ⟨J.kIn, ?_⟩
  have R1 : Rel X.K c F G1 H1 P0 σ env := by
    refine ⟨ext_nt R.fs R.tb.nf ext, gh, R.all.move gg fun d hd o e => ?_, fun d hd => ⟨(R.out d hd).1, ?_⟩, R.nd, tb1⟩
    · obtain ⟨o', e1, e2⟩ := R.all.obj d hd
      rw [e] at e1
      cases e1
      exact ext d o e e2
    · obtain ⟨o', e1, _⟩ := R.all.obj d hd
      exact fresh d (by rw [e1]; exact fun z => nomatch z) (R.out d hd).2
  have X1 : Ext F G G1 := ⟨gg, fun d n1 n2 => by
    cases e : F d with
    | none => exact absurd e n2
    | some o => exact fresh d (by rw [R.fs d o e]; exact fun z => nomatch z) n1⟩
  have wish := wish0.chain X1 (Keep.refl P0 env)
  clear wish0
  have go : codeAny (model X.prog X.w) X.A (.call (.ref g) ⟨[.ref f], []⟩) (CR (L2.CX X.prog X.w) X.stack X.prog X.w H1 s1 Q E0) s1 := by
    refine LamX.run_ofS (N := Ng) (ps := [y]) (us := [.ref f]) (vs := [.ref f]) lk hcd S room.room J.env0 (bnd s1 [.ref f] J.kIn rfl) (.cons rfl .nil) rfl fun _ => ?_
    have room' := room.deeper (envOfC qual (defScope st) s1.heap.objs.size g cdv)
    obtain ⟨l, cok, csd⟩ := td cdv X.A X.stack s1 H1 E0 (room'.mono (Nat.le_succ k))
    have run := pss_one (ps_try_clauses (pos := tpos) (X := cxOf (L2.CX X.prog X.w) X.prog X.w X.K X.mg X.base Ng qual (defScope st) g cdv X.A X.stack s1 H1 E0) (Wo := fun _ _ _ _ => False)
      (tb := fun W' D τ HZ => τ[0]? = some (some (.ref f)) ∧ HZ b = some (LamX.CodeO b (X.env.qual ++ "<lambda>")) ∧ tE X.K c (fun cv dd _ H' => W' cv dd τ H') th σ HZ fun v H' => D.rt (kv.getD v) H') rfl rfl LamX.takes0
      (fun W' pn xe tk _ => bt _ _ (act_lam (t := fun E => tE X.K c (fun cv dd _ H' => E cv dd H') th) J L isF newF offF (noargs _ _ _ _ _) tk room' (fun A outer s H E r => walk A outer s H E f b r) hN0 hv nd nc)) cok)
    rw [← hst] at run
    refine ⟨_, run, ?_⟩
    have len : (L2.start Ng [V.ref f]).length = Ng.length := by
      unfold L2.start
      have : 0 < Ng.length := (List.getElem?_eq_some_iff.mp hN0).1
      simp
      omega
    refine ⟨by unfold L2.start; rfl, gh _ _ ga, F, G1, P0, env, R1, ?_⟩
    unfold mLam at wish
    cases q : th env with
    | bad => rw [q] at wish; exact wish
    | ok d e =>
      rw [q] at wish
      exact fun G' H' P' x1 k1 R' v r => wish G' H' P' x1 k1 R' _ (hkv G' v d r)
    | exc xx e =>
      rw [q] at wish
      cases xx with
      | ty _ => exact wish.elim
      | own n od2 =>
        intro G' H' P' cv dd x1 k1 R' rx
        have hx : xHere c X.K cv dd G' H' n od2 := by
          cases rx with
          | own0 => exact ⟨rfl, fun d z => by cases z⟩
          | own1 h2 r2 => exact ⟨rfl, fun d z => by cases z; exact ⟨_, _, rfl, h2, r2⟩⟩
        have at_ := clauses_at cok
        clear run cok T td
        replace wish : Post X.K c W F G1 P0 σ env (lamGo n od2 e cs) _ := wish
        induction csd with
        | nil => exact wish.elim
        | @cons cl hh sv l r hc _ ih =>
          unfold lamGo at wish
          cases e1 : hh n with
          | none => rw [e1] at wish; exact wish.elim
          | some hit =>
            have hit1 := hc.hit n hit e1
            rw [← hx.1] at hit1
            refine ⟨hit, hit1, fun yes a na => ?_, fun no => ?_⟩
            · subst yes
              rw [e1] at wish
              dsimp only at wish
              cases e2 : sv n od2 with
              | none => rw [e2] at wish; exact wish.elim
              | some w =>
                rw [e2] at wish
                refine hc.ok a cv dd _ _ H' ⟨fun j ej => ?_, G', n, od2, w, R'.gs, ⟨R'.tb.tabs, R'.tb.ng⟩, hx, e2, fun G2 H2 v pu rv => ?_⟩
                · rw [ej]
                  exact List.getElem?_set_self (by rw [len]; exact at_ cl List.mem_cons_self j ej)
                · obtain ⟨x2, R2⟩ := R'.pure pu
                  exact wish G2 H2 P' (x1.trans x2) k1 R2 v rv
            · subst no
              rw [e1] at wish
              exact ih (fun q hq => at_ q (List.mem_cons_of_mem _ hq)) wish
  refine wpAny_call (codeAny_mono go fun r s2 out => ?_)
  match r, out with
  | .error e, out => exact (cx_E0 out).elim
  | .ok .next, out => exact out.elim
  | .ok .brk, out => exact out.elim
  | .ok .cont, out => exact out.elim
  | .ok (.ret u), out => exact J.after out
end
end L2.DL
set_option Elab.async false
set_option linter.all false
set_option maxRecDepth 100000
set_option maxHeartbeats 4000000
namespace L2.DL
open PySem PySem.Spec PyProof.Rows
/-! ### the end, with tables -/
/-- the modules' dict stands, and nobody set how long numbers may be as texts -/
def Sy (h : Heap) : Prop := (∃ mm, h.Ns sysModules mm) ∧ ∃ mc, h.Ns cStatics mc ∧ mc "sys.int_max_str_digits" = none
def TabsIn (cs : List (Addr × Addr)) (b : Addr) : Prop := ∃ p ∈ cs, p.2 = b
theorem law_runsT {P : Program} {w : World} {K : PySem.W.Frag} {mg mb : Str → Option Value} {k : Nat} {fa a : Addr} {fd : FuncData} {x : Str} {sp : Sp} {s₁ : Shared} {vs : List Value} {ns : List Int} {cs : List (Addr × Addr)}
    (inK : K.In s₁.heap) (gl : s₁.heap.Ns mainGlobals mg) (sysm : Sy s₁.heap) (bl : s₁.heap.Ns builtinsNs mb) (boot : ∀ y : Str, y ≠ "__name__" → mb y = bootBuiltins y) (nolim : s₁.heap.NoLimit) (nog : s₁.gens = #[])
    (empty : ∀ p ∈ cs, s₁.heap.get? p.2 = some (PySem.W.tabObj #[])) (offK : ∀ p ∈ cs, K.lookup p.2 = none) (heads : ∀ p ∈ cs, PySem.W.CodeHd s₁.heap p.1 p.2)
    (bmain : ∃ (bm : Addr) (ob : Obj), mg "__builtins__" = some (.ref bm) ∧ bm ≠ builtinsNs ∧ s₁.heap.get? bm = some ob ∧ ob.cls = .type "module" ∧ ob.dict = some builtinsNs ∧ ob.data = .plain)
    (at_ : s₁.heap.get? a = some { cls := .type "list", data := .seq vs.toArray }) (hints : IntsAre vs ns) (few : ns.length ≤ sizeLine) (room : Room k callerA)
    (F : ∀ base : Heap, K.In base → base.Ns mainGlobals mg → (∀ p ∈ cs, LamX.TabB base mg p.1 p.2) → Sy base → FnG P w K mg base (L2.CX P w) k fa fd [x] sp) (bnd : ∀ (s : Shared) (u : Value), BindsTo s fd ⟨[u], []⟩ [(x, u)])
    (told : ∀ H : Hp, (∀ p ∈ cs, H p.2 = some (.tbl #[])) → SqL K H a (ns.map V.int) → sp [.ref a] H (fun v _ => v = .bl true) fun _ _ _ => False) :
    codeAny (model P w) callerA (.call (.ref fa) ⟨[.ref a], []⟩) (fun r s' => r = .ok (.ret (.bool true)) ∧ OldK s₁.heap s'.heap ∧ s'.os = s₁.os ∧ AllBare s'.gens) s₁ := by
  have vals := vals_ints hints
  have lens := hints.length
  have isTab : ∀ {b : Addr}, TabsIn cs b → s₁.heap.get? b = some (PySem.W.tabObj #[]) := by
    rintro b ⟨p, hp, rfl⟩
    exact empty p hp
  have aNot : ¬ TabsIn cs a := fun z => by
    have e := isTab z
    rw [at_] at e
    injection e with e
    injection e with _ _ e
    cases e
  have main : ∀ H : Hp, (∀ p ∈ cs, H p.2 = some (.tbl #[])) → (∀ b u, H b = some u → TabsIn cs b ∨ (b = a ∧ K.lookup a = none ∧ ∃ o xs, u = .frz o (.lst xs))) → SqL K H a (ns.map V.int) → HOk P w H s₁.heap →
      codeAny (model P w) callerA (.call (.ref fa) ⟨[.ref a], []⟩) (fun r s' => r = .ok (.ret (.bool true)) ∧ OldK s₁.heap s'.heap ∧ s'.os = s₁.os ∧ AllBare s'.gens) s₁ := by
    intro H tabs only seq hok
    have keepT : ∀ {b : Addr} {o : Obj}, s₁.heap.get? b = some o → H b = none → (hidT s₁.heap H).get? b = some o := fun e n => hidT_get e n
    -- what is neither a list nor an empty table is not known
    have other : ∀ {b : Addr} {o : Obj}, s₁.heap.get? b = some o → (∀ us n, o.data ≠ .seq us n) → o.data ≠ .fields #[] → H b = none := by
      intro b o e n1 n2
      cases hb : H b with
      | none => rfl
      | some u =>
        rcases only b u hb with z | ⟨z, _⟩
        · have e2 := isTab z
          rw [e] at e2
          injection e2 with e2
          rw [e2] at n2
          exact absurd rfl n2
        · subst z
          rw [at_] at e
          injection e with e
          rw [← e] at n1
          exact absurd rfl (n1 _ _)
    have dictOff : ∀ {b : Addr} {o : Obj} {es : Array DictEntry} {ep : Nat}, s₁.heap.get? b = some o → o.data = .dict es ep → H b = none := fun e d =>
      other e (fun us n z => by rw [d] at z; cases z) (fun z => by rw [d] at z; cases z)
    have nsT : ∀ {b : Addr} {m : Str → Option Value}, s₁.heap.Ns b m → (hidT s₁.heap H).Ns b m := by
      rintro b m ⟨o, es, ep, e, d, rest⟩
      exact ⟨o, es, ep, keepT e (dictOff e d), d, rest⟩
    have inT : K.In (hidT s₁.heap H) := by
      intro b o e
      refine keepT (inK b o e) ?_
      cases hb : H b with
      | none => rfl
      | some u =>
        rcases only b u hb with ⟨p, hp, rfl⟩ | ⟨rfl, z, _⟩
        · rw [offK p hp] at e; cases e
        · rw [z] at e; cases e
    have modT : Mod K mg (hidT s₁.heap H) := ⟨inT, nsT gl, ⟨mb, nsT bl, boot⟩, by obtain ⟨mc, h1, h2⟩ := nolim; exact ⟨mc, nsT h1, h2⟩⟩
    have tabB : ∀ p ∈ cs, LamX.TabB (hidT s₁.heap H) mg p.1 p.2 := by
      intro p hp
      have e1 := empty p hp
      refine ⟨?_, ?_, ?_⟩
      · obtain ⟨o, us, file, tf, flags, tg, inF, text, tt, g1, g2, g3, rest⟩ := heads p hp
        refine ⟨o, us, file, tf, flags, tg, inF, text, tt, keepT g1 (other g1 (fun vs n z => by rw [g3] at z; cases z) fun z => ?_), g2, g3, rest⟩
        rw [g3] at z
        cases z
        have := rest.1
        simp at this
      · obtain ⟨bm, ob, b1, b2, b3, b4, b5, b6⟩ := bmain
        refine ⟨bm, ob, b1, b2, fun z => ?_, fun z => ?_, keepT b3 (other b3 (fun vs n z => by rw [b6] at z; cases z) fun z => by rw [b6] at z; cases z), b4, b5, b6⟩
        · obtain ⟨o, es, ep, e, d, _⟩ := gl
          rw [z, e] at b3
          injection b3 with b3
          rw [b3, b6] at d
          cases d
        · rw [z, e1] at b3
          injection b3 with b3
          rw [← b3] at b6
          cases b6
      · intro z
        obtain ⟨o, es, ep, e, d, _⟩ := gl
        rw [z, e1] at e
        injection e with e
        rw [← e] at d
        cases d
    have nofr : ∀ b ∈ frs ([] : List Env), H b = none := fun b hb => absurd (show b ∈ ([] : List Addr) from hb) (by simp)
    have e0 : Env0 P w K mg (hidT s₁.heap H) callerA [] s₁ H := ⟨rfl, modT, fun b o e => of_hidT e, Nat.le_of_eq (hidT_size _ _), trivial, nofr, hok, .of_eq nog⟩
    have go := (F _ inT (nsT gl) tabB ⟨sysm.1.imp fun _ z => nsT z, sysm.2.imp fun _ z => ⟨nsT z.1, z.2⟩⟩).run callerA [] s₁ H ⟨[.ref a], []⟩ [.ref a] [.ref a] _ _ (roomG_caller room) e0 (bnd s₁ (.ref a)) (.cons rfl .nil) (told H tabs seq)
    refine codeAny_mono go fun r s' res => ?_
    match r, res with
    | .error er, res =>
      obtain ⟨_, _, _, _, _, _, _, _, _, _, _, _, z⟩ := res
      exact z.elim
    | .ok .next, res => exact res.elim
    | .ok .brk, res => exact res.elim
    | .ok .cont, res => exact res.elim
    | .ok (.ret u), res =>
      obtain ⟨v, H', os, bare, un, hok', rv, q⟩ := res
      have hv : v = .bl true := q
      subst hv
      have hu : u = Value.bool true := rv
      subst hu
      have grew : ∀ p ∈ cs, ∃ more : Array Value, s'.heap.get? p.2 = some (PySem.W.tabObj more) := by
        intro p hp
        obtain ⟨more, z⟩ := un.tbls p.2 #[] (tabs p hp)
        exact ⟨_, hok' p.2 _ z⟩
      have stays : ∀ b o, ¬ TabsIn cs b → s₁.heap.get? b = some o → s'.heap.get? b = some o := by
        intro b o nb e
        cases hb : H b with
        | none => exact un.keep b o e hb (fun z => absurd (show b ∈ ([] : List Addr) from z) (by simp)) (by simp)
        | some u =>
          rcases only b u hb with z | ⟨_, _, ob, xs, z⟩
          · exact absurd z nb
          · subst z
            have e1 := (hok b _ hb).1
            have e2 := (hok' b _ (un.frzs b ob _ hb)).1
            rw [e] at e1
            injection e1 with e1
            rw [e1]
            exact e2
      refine ⟨rfl, ⟨fun b o e => ?_, fun b o e => ?_⟩, os, bare⟩
      · by_cases hb : TabsIn cs b
        · obtain ⟨p, hp, rfl⟩ := hb
          obtain ⟨more, hm⟩ := grew p hp
          rw [empty p hp] at e
          injection e with e
          subst e
          exact .inr (.inl ⟨((heads p hp).tab (empty p hp)).isCodeTable, rfl, #[], more, rfl, by rw [Array.empty_append]; exact hm⟩)
        · exact .inl (stays b o hb e)
      · by_cases hb : TabsIn cs b
        · obtain ⟨p, hp, rfl⟩ := hb
          obtain ⟨more, hm⟩ := grew p hp
          exact ⟨_, hm⟩
        · exact ⟨o, stays b o hb e⟩
  haveI dec : ∀ b, Decidable (TabsIn cs b) := fun b => Classical.propDecidable _
  let own : Option HO := match K.lookup a with
    | some _ => none
    | none => some (.frz { cls := .type "list", data := .seq vs.toArray } (.lst (ns.map V.int)))
  let H1 : Hp := fun b => if b = a then own else if TabsIn cs b then some (.tbl #[]) else none
  have hA : H1 a = own := if_pos rfl
  have hT1 : ∀ b, b ≠ a → TabsIn cs b → H1 b = some (.tbl #[]) := fun b h1 h2 => (if_neg h1).trans (if_pos h2)
  have hN : ∀ b, b ≠ a → ¬ TabsIn cs b → H1 b = none := fun b h1 h2 => (if_neg h1).trans (if_neg h2)
  have tabs1 : ∀ p ∈ cs, H1 p.2 = some (.tbl #[]) := fun p hp => hT1 _ (fun z => aNot ⟨p, hp, z⟩) ⟨p, hp, rfl⟩
  refine main H1 tabs1 (fun b u z => ?_) ?_ (fun b u z => ?_)
  · by_cases hb : b = a
    · subst hb
      rw [hA] at z
      cases hk : K.lookup b with
      | some o => simp only [own, hk] at z; cases z
      | none =>
        simp only [own, hk] at z
        injection z with z
        exact .inr ⟨rfl, rfl, _, _, z.symm⟩
    · by_cases ht : TabsIn cs b
      · exact .inl ht
      · rw [hN b hb ht] at z; cases z
  · cases hk : K.lookup a with
    | some o =>
      have e := inK a o hk
      rw [at_] at e
      injection e with e
      subst e
      exact .inr ⟨_, vs.toArray, _, hk, rfl, rfl, rfl, by rw [List.size_toArray, lens]; exact few, by simpa using vals⟩
    | none => exact .inl (.inr ⟨{ cls := .type "list", data := .seq vs.toArray }, by rw [hA]; simp only [own, hk]⟩)
  · by_cases hb : b = a
    · subst hb
      rw [hA] at z
      cases hk : K.lookup b with
      | some o => simp only [own, hk] at z; cases z
      | none =>
        simp only [own, hk] at z
        injection z with z
        subst z
        exact ⟨at_, by rw [List.length_map]; exact few, vs, _, vals, at_⟩
    · by_cases ht : TabsIn cs b
      · rw [hT1 b hb ht] at z
        injection z with z
        subst z
        exact isTab ht
      · rw [hN b hb ht] at z; cases z
/-- what a lambda in a def is called -/
abbrev lamName (qual : Str) : Str := (envOfC qual default 0 0 .none).qual ++ "<lambda>"
section
variable {P : Program} {w : World} {K : PySem.W.Frag} {mg : Str → Option Value} {base : Heap} {c : Cl}
theorem sqL_nt {H : Hp} {a : Addr} {xs : List V} (h : SqL K H a xs) : SqL K (nt H) a xs := by
  rcases h with (h | ⟨o, h⟩) | h
  · exact .inl (.inl (nt_at h fun _ z => nomatch z))
  · exact .inl (.inr ⟨o, nt_at h fun _ z => nomatch z⟩)
  · exact .inr h
/-- the end, tables of some of the law's own defs in use -/
theorem walk_ofT {l : PySem.W.OpenLaw} {k : Nat} {q : Program} {loose : List Str} {XP : (Str → Option Value) → Heap → Prop} {YP : World → Heap → Prop} {d : DefRec} {K : Params → PySem.W.Frag} {m : Fn} {xs : List Str} (g : Good m)
    (hn : l.most = some 63) (hdf : d.params.defaults = []) (hr : Room k callerA) (recs : (xs.all fun x => ((recsOf q).find? fun r => r.name == x).isSome) = true) (im : importsNone q = true)
    (hY : ∀ (w : World) (h : Heap), YP w h → (K w.params).In h)
    (F : ∀ (w : World) (mg : Str → Option Value) (fa : Addr) (h : Heap), (K w.params).In h → h.Ns mainGlobals mg → mg d.name = some (.ref fa) →
      ∃ (fd : FuncData) (cs : List (Addr × Addr × Str)), (∀ p ∈ cs, ∃ x ∈ xs, PySem.W.tabIn (K w.params) x = some (p.1, p.2.1)) ∧ (∀ p ∈ cs, (K w.params).lookup p.2.1 = none) ∧ (∀ (s : Shared) (u : Value), BindsTo s fd ⟨[u], []⟩ [("_law_script", u)]) ∧
        ∀ base : Heap, (K w.params).In base → base.Ns mainGlobals mg → (∀ p ∈ cs, LamX.TabB base mg p.1 p.2.1) → Sy base → FnG l.prog w (K w.params) mg base (L2.CX l.prog w) k fa fd ["_law_script"] (spLaw (K w.params) (cs.map fun p => (p.2.1, p.2.2)) m)) :
    PySem.W.WalkO q loose XP YP l.row.toRowW d [] (fun f vs => PySem.call f vs) := by
  refine Att.attach_callB hn hdf fun w s₀ s₁ mg mb fa o pm cd doc a vs ns Top_ Y _ _ _ hmg at_ hints few _ nog => ?_
  have inK := hY w _ Y
  obtain ⟨fd, cs, tabs, offK, bnd, all⟩ := F w mg fa _ inK Top_.T.g hmg
  have both : ∀ p ∈ cs.map (fun p => (p.1, p.2.1)), PySem.W.CodeHd s₁.heap p.1 p.2 ∧ s₁.heap.get? p.2 = some (PySem.W.tabObj #[]) := by
    intro p hp
    obtain ⟨r, hr2, rfl⟩ := List.mem_map.mp hp
    obtain ⟨x, hx, e⟩ := tabs r hr2
    obtain ⟨dx, hd⟩ := Option.isSome_iff_exists.mp (List.all_eq_true.mp recs x hx)
    exact PySem.W.tab_of Top_.T inK hd e
  refine law_runsT (k := k) (cs := cs.map fun p => (p.1, p.2.1)) inK Top_.T.g ⟨(Top_.T.seer im).mods.imp fun _ z => z.1, Top_.T.nodigits⟩ Top_.T.b Top_.T.builtins Top_.T.nolimit nog (fun p hp => (both p hp).2) (fun p hp => ?_) (fun p hp => (both p hp).1) Top_.T.bmain at_ hints (Nat.le_trans few (by decide)) hr
    (fun base b1 b2 b3 b4 => all base b1 b2 (fun p hp => b3 (p.1, p.2.1) (List.mem_map.mpr ⟨p, hp, rfl⟩)) b4) bnd fun H hT hS => ?_
  · obtain ⟨r, hr2, rfl⟩ := List.mem_map.mp hp
    exact offK r hr2
  · obtain ⟨e, he⟩ := g ns few
    intro c hc
    have tb : Tbs c (nt H) H := by
      intro p hp
      rw [hc] at hp
      obtain ⟨r, hr2, rfl⟩ := List.mem_map.mp hp
      exact ⟨#[], hT (r.1, r.2.1) (List.mem_map.mpr ⟨r, hr2, rfl⟩), True.intro, fun pos cv z => by
        have z : codeAmong pos [] = some cv := z
        simp [codeAmong] at z⟩
    refine ⟨nt H, nt H, [[]], [.val (.ro (ns.map .int))], rfl, ⟨nt_same H, nt_same H, .cons (.val (.ro (sqL_nt hS) (reps_ints ns))) .nil, fun b hb => (by simp at hb), (by simp), ⟨tb, nt_not H, nt_not H⟩⟩, rfl, ?_⟩
    rw [he]
    intro G' H' P' x k R v r
    cases r
    rfl
end
end L2.DL
set_option Elab.async false
set_option linter.all false
set_option maxRecDepth 100000
set_option maxHeartbeats 4000000
namespace L2.DL
open PySem PySem.Spec PyProof.Rows
/-! ### in, not in, is None -/
def flatD : D → Bool
  | .non => true
  | .bl _ => true
  | .int _ => true
  | .str _ => true
  | _ => false
def eqFD : D → D → Bool
  | .non, .non => true
  | .bl a, .bl b => a == b
  | .bl a, .int b => (if a then 1 else 0) == b
  | .int a, .bl b => a == (if b then 1 else 0)
  | .int a, .int b => a == b
  | .str a, .str b => a == b
  | _, _ => false
def keyD : D → Option Key
  | .int i => some (.inl i)
  | .str x => some (.inr x)
  | _ => none
def valD (kds : List (Key × D)) (k : Key) : Option D := (kds.find? fun kv => decide (kv.1 = k)).map (·.2)
def D.seqA : D → Option (List D)
  | .lst xs => some xs
  | .ro xs => some xs
  | .tup xs => some xs
  | _ => none
def dInB (x y : D) : Option Bool := match y with
  | .dct kvs => (keyD x).map fun k => (valD kvs k).isSome
  | y => y.seqA.bind fun ys => if flatD x && ys.all flatD then some (ys.any fun z => eqFD z x) else none
def dIn (x y : D) : Option D := (dInB x y).map .bl
def dNotIn (x y : D) : Option D := (dInB x y).map fun b => .bl (!b)
def dIsN (x y : D) : Option D := match y with
  | .non => some (.bl (match x with | .non => true | _ => false))
  | _ => none
def dIsNotN (x y : D) : Option D := match y with
  | .non => some (.bl (match x with | .non => false | _ => true))
  | _ => none
section
variable {K : PySem.W.Frag} {c : Cl} {G H : Hp}
theorem flat_rep {v : V} {d : D} (r : Rep K c G v d) (h : flatD d = true) : flatV v = true := by
  cases r <;> first | rfl | (cases h)
theorem flats_rep : ∀ {vs : List V} {ds : List D}, Reps K c G vs ds → ds.all flatD = true → vs.all flatV = true
  | _, _, .nil, _ => rfl
  | _, _, .cons h t, e => by
    simp only [List.all_cons, Bool.and_eq_true] at e ⊢
    exact ⟨flat_rep h e.1, flats_rep t e.2⟩
theorem eqF_rep {v w : V} {d e : D} (r : Rep K c G v d) (q : Rep K c G w e) (h1 : flatD d = true) (h2 : flatD e = true) : eqV v w = eqFD d e := by
  cases r <;> first | (cases h1; done) | (cases q <;> first | rfl | (cases h2; done))
theorem in_rep {x : V} {dx : D} (rx : Rep K c G x dx) (hx : flatD dx = true) : ∀ {vs : List V} {ds : List D}, Reps K c G vs ds → ds.all flatD = true → inV x vs = ds.any fun z => eqFD z dx
  | _, _, .nil, _ => rfl
  | _, _, .cons h t, e => by
    simp only [List.all_cons, Bool.and_eq_true] at e
    have := in_rep rx hx t e.2
    unfold inV at this ⊢
    rw [List.any_cons, List.any_cons, this, eqF_rep h rx e.1 hx]
theorem valK_rep (k : Key) : ∀ {vs : List (Key × V)} {ds : List (Key × D)}, RepK K c G vs ds → (valV vs k = none ∧ valD ds k = none) ∨ ∃ v d, valV vs k = some v ∧ valD ds k = some d ∧ Rep K c G v d
  | _, _, .nil => .inl ⟨rfl, rfl⟩
  | _, _, .cons (k := k0) h t => by
    by_cases e : k0 = k
    · exact .inr ⟨_, _, by simp [valV, List.find?_cons, e], by simp [valD, List.find?_cons, e], h⟩
    · rcases valK_rep k t with ⟨a, b⟩ | ⟨v, d, a, b, r⟩
      · exact .inl ⟨by simpa [valV, List.find?_cons, e] using a, by simpa [valD, List.find?_cons, e] using b⟩
      · exact .inr ⟨v, d, by simpa [valV, List.find?_cons, e] using a, by simpa [valD, List.find?_cons, e] using b, r⟩
theorem key_rep {v : V} {d : D} {k : Key} (r : Rep K c G v d) (e : keyD d = some k) : v = kV k := by
  cases r <;> first | (cases e; rfl) | (cases e; done)
theorem seqA_rep (hs : Same G H) {v : V} {d : D} {xs : List D} (r : Rep K c G v d) (e : d.seqA = some xs) : ∃ a vs, v = .ref a ∧ (SqL K H a vs ∨ SqT K H a vs) ∧ Reps K c G vs xs := by
  cases r with
  | lst h s => cases e; exact ⟨_, _, rfl, .inl (SqL.of (hs _ _ h)), s⟩
  | ro h s => cases e; exact ⟨_, _, rfl, .inl (hs.seq h), s⟩
  | tup h s => cases e; exact ⟨_, _, rfl, .inr (Same.seqT hs h), s⟩
  | _ => cases e
end
section
variable {X : Cx} {c : Cl}
def rDIn (neg : Bool) : R2 := fun x y H Q => ∃ a o, y = .ref a ∧ DGet H a x o ∧ Q (.bl (if neg then !o.isSome else o.isSome)) H
theorem op_dIn (hu : X.A.units + 1 < cLine) : OpR X (compareOp .In) (rDIn false) := by
  intro pins s σ H x y v u Q I rx ry h
  obtain ⟨a, o, rfl, g, q⟩ := h
  cases ry
  exact d_in hu I g rx fun s' I' => ⟨.bl o.isSome, H, I', rfl, q⟩
theorem op_dNotIn (hu : X.A.units + 1 < cLine) : OpR X (compareOp .NotIn) (rDIn true) := by
  intro pins s σ H x y v u Q I rx ry h
  obtain ⟨a, o, rfl, g, q⟩ := h
  cases ry
  exact d_notIn hu I g rx fun s' I' => ⟨.bl (!o.isSome), H, I', rfl, q⟩
theorem in_gen {op : CmpOp} {neg : Bool} (h1 : OpR X (compareOp op) (rIn X.K neg)) (h2 : OpR X (compareOp op) (rDIn neg)) : OpD X c (compareOp op) fun x y => (dInB x y).map fun b => .bl (if neg then !b else b) := opd_of fun G H x y dx dy d hs r1 r2 e => by
  obtain ⟨b, e1, e2⟩ := Option.map_eq_some_iff.mp e
  subst e2
  have sq : (dy.seqA.bind fun ys => if flatD dx && ys.all flatD then some (ys.any fun z => eqFD z dx) else none) = some b →
      ∃ r : R2, OpR X (compareOp op) r ∧ ∀ Q : VK, (∀ G' H' v, Pure c H G H' G' → Rep X.K c G' v (D.bl (if neg then !b else b)) → Q v H') → r x y H Q := by
    intro e1
    obtain ⟨ys, e2, e3⟩ := Option.bind_eq_some_iff.mp e1
    split at e3
    · rename_i hf
      cases e3
      simp only [Bool.and_eq_true] at hf
      obtain ⟨a, vs, rfl, hq, rs⟩ := seqA_rep hs r2 e2
      exact ⟨_, h1, fun Q k => ⟨a, vs, rfl, hq, flat_rep r1 hf.1, flats_rep rs hf.2, by rw [in_rep r1 hf.1 rs hf.2]; exact k G H _ (Pure.refl hs) (.bl _)⟩⟩
    · cases e3
  cases r2 with
  | dct hd rk =>
    simp only [dInB] at e1
    obtain ⟨k, e2, e3⟩ := Option.map_eq_some_iff.mp e1
    subst e3
    obtain rfl := key_rep r1 e2
    refine ⟨_, h2, fun Q q => ⟨_, _, rfl, .inl ⟨_, k, Same.rd hs hd, rfl, rfl⟩, ?_⟩⟩
    rename_i kvs kds
    have this : (valV kvs k).isSome = (valD kds k).isSome := by
      rcases valK_rep k rk with ⟨a, b⟩ | ⟨v, d, a, b, _⟩ <;> rw [a, b] <;> rfl
    rw [this]
    exact q G H _ (Pure.refl hs) (.bl _)
  | _ => exact sq e1
theorem do_in (hu : X.A.units + 64 < cLine) : OpD X c (compareOp .In) dIn := by
  have := in_gen (c := c) (neg := false) (op_in_seq (X := X)) (op_dIn (by omega))
  exact this
theorem do_notIn (hu : X.A.units + 64 < cLine) : OpD X c (compareOp .NotIn) dNotIn := by
  have := in_gen (c := c) (neg := true) (op_notIn_seq (X := X)) (op_dNotIn (by omega))
  exact this
theorem do_isN : OpD X c (compareOp .Is) dIsN := opd_of fun G H x y dx dy d hs r1 r2 e => by
  cases r2 with
  | non =>
    cases e
    refine ⟨_, op_isN, fun Q k => ⟨rfl, ?_⟩⟩
    cases r1 <;> exact k G H _ (Pure.refl hs) (.bl _)
  | _ => cases e
theorem do_isNotN : OpD X c (compareOp .IsNot) dIsNotN := opd_of fun G H x y dx dy d hs r1 r2 e => by
  cases r2 with
  | non =>
    cases e
    refine ⟨_, op_notN, fun Q k => ⟨rfl, ?_⟩⟩
    cases r1 <;> exact k G H _ (Pure.refl hs) (.bl _)
  | _ => cases e
end
/-! ### x.extend(e), x in slot i, e a list -/
def mExtend (i : Nat) (m : M D) : M D := fun env => match env[i]? with
  | some (.cell _ (.lst _)) => M.bind m (fun d env => match d, env[i]? with
    | .lst ys, some (.cell l (.lst xs)) => if xs.length + ys.length ≤ 16777216 then .ok .non (env.set i (.cell l (.lst (xs ++ ys)))) else .bad
    | _, _ => .bad) env
  | _ => .bad
section
variable {X : Cx} {c : Cl} {W : WX} {m : M D} {i : Nat}
theorem de_extend {call : Expr} (hb : PE X call (tBM X.K "list" rExtend (tVar i) (tCons (tE X.K c W m) tNil))) : PE X call (tE X.K c W (mExtend i m)) := by
  refine PE.weak hb fun σ H Q h => ?_
  obtain ⟨F, G, P, env, R, h⟩ := h
  unfold mExtend at h
  cases e0 : env[i]? with
  | none => rw [e0] at h; exact h.elim
  | some s0 =>
    rw [e0] at h
    match s0, e0, h with
    | .no, _, h => exact h.elim
    | .val _, _, h => exact h.elim
    | .cell _ (.dct _), _, h => exact h.elim
    | .cell _ (.ob _ _), _, h => exact h.elim
    | .cell l0 (.lst xs0), e0, h =>
      obtain ⟨p0, vs0, _, hσ, h0, _⟩ := R.cellL e0
      refine ⟨_, hσ, tyV_list h0, F, G, P, env, R, (Post.bind h).imp fun d G1 H1 P1 _ ⟨env1, R1, h1⟩ v r => ?_⟩
      cases r with
      | @lst b ws ys hb rb =>
        try dsimp only at h1
        cases e2 : env1[i]? with
        | none => rw [e2] at h1; exact h1.elim
        | some s2 =>
          rw [e2] at h1
          match s2, e2, h1 with
          | .no, _, h => exact h.elim
          | .val _, _, h => exact h.elim
          | .cell _ (.dct _), _, h => exact h.elim
          | .cell _ (.ob _ _), _, h => exact h.elim
          | .cell l (.lst xs), e2, h1 =>
            obtain ⟨p1, vs1, a1, a2, a3, a4⟩ := R1.cellL e2
            rw [hσ] at a2
            cases a2
            have h1 : Post X.K c W F G1 P1 σ env1 (if xs.length + ys.length ≤ 16777216 then Res.ok DL.D.non (env1.set i (.cell l (.lst (xs ++ ys)))) else .bad) _ := h1
            split at h1
            · rename_i hl
              obtain ⟨k, R2⟩ := R1.relst e2 a1 hσ (a4.append rb)
              exact ⟨p0, b, vs1, ws, rfl, rfl, a3, R1.gs _ _ hb, by rw [a4.length, rb.length, sizeLine_eq]; exact hl, h1 _ _ _ (Ext.refl _ _) k R2 _ (Rep.non (K := X.K) (c := c) (G := G1))⟩
            · exact h1.elim
      | _ => exact h1.elim
end
end L2.DL
set_option Elab.async false
set_option linter.all false
set_option maxRecDepth 100000
set_option maxHeartbeats 4000000
namespace L2.DL
open PySem PySem.Spec PyProof.Rows
/-! ### sorted(ints), sorted(texts) -/
def insI (a : Int) : List Int → List Int
  | [] => [a]
  | b :: r => if a ≤ b then a :: b :: r else b :: insI a r
def isort : List Int → List Int
  | [] => []
  | a :: r => insI a (isort r)
theorem insI_perm (a : Int) : ∀ l : List Int, (insI a l).Perm (a :: l)
  | [] => List.Perm.refl _
  | b :: r => by
    unfold insI
    split
    · exact List.Perm.refl _
    · exact ((insI_perm a r).cons b).trans (List.Perm.swap a b r)
theorem isort_perm : ∀ l : List Int, (isort l).Perm l
  | [] => List.Perm.refl _
  | a :: r => (insI_perm a (isort r)).trans ((isort_perm r).cons a)
theorem insI_sorted (a : Int) : ∀ l : List Int, l.Pairwise (· ≤ ·) → (insI a l).Pairwise (· ≤ ·)
  | [], _ => by simp [insI]
  | b :: r, h => by
    have h' := List.pairwise_cons.mp h
    unfold insI
    split
    · rename_i hab
      refine List.pairwise_cons.mpr ⟨fun x hx => ?_, h⟩
      rcases List.mem_cons.mp hx with e | hx
      · omega
      · have := h'.1 x hx; omega
    · rename_i hab
      refine List.pairwise_cons.mpr ⟨fun x hx => ?_, insI_sorted a r h'.2⟩
      rcases List.mem_cons.mp ((insI_perm a r).mem_iff.mp hx) with e | hx
      · omega
      · exact h'.1 x hx
theorem isort_sorted : ∀ l : List Int, (isort l).Pairwise (· ≤ ·)
  | [] => List.Pairwise.nil
  | a :: r => insI_sorted a _ (isort_sorted r)
theorem sorted_uniqI : ∀ {l m : List Int}, l.Perm m → l.Pairwise (· ≤ ·) → m.Pairwise (· ≤ ·) → l = m
  | [], m, p, _, _ => by rw [List.Perm.nil_eq p]
  | a :: l, [], p, _, _ => by have := p.length_eq; simp at this
  | a :: l, b :: m, p, h1, h2 => by
    have h1' := List.pairwise_cons.mp h1
    have h2' := List.pairwise_cons.mp h2
    have e : a = b := by
      have ha : a ∈ b :: m := p.mem_iff.mp (by simp)
      have hb : b ∈ a :: l := p.mem_iff.mpr (by simp)
      rcases List.mem_cons.mp ha with e | ha
      · exact e
      · rcases List.mem_cons.mp hb with e | hb
        · exact e.symm
        · have := h2'.1 a ha; have := h1'.1 b hb; omega
    subst e
    rw [sorted_uniqI (List.perm_cons a |>.mp p) h1'.2 h2'.2]
/-- a ≤ b of texts, by their signs -/
def leS (a b : Str) : Bool := !ltCps b.cps.toList a.cps.toList
theorem ltCps_irr : ∀ l : List Nat, ltCps l l = false
  | [] => rfl
  | a :: r => by simp [ltCps, ltCps_irr r]
theorem ltCps_tr : ∀ {a b c : List Nat}, ltCps b a = false → ltCps c b = false → ltCps c a = false
  | [], b, [], _, _ => rfl
  | [], [], c :: cs, _, h => by simp [ltCps]
  | [], b :: bs, c :: cs, _, h => by simp [ltCps]
  | a :: as, b, [], h1, h2 => by
    cases b with
    | nil => simp [ltCps] at h1
    | cons b bs => simp [ltCps] at h2
  | a :: as, [], c :: cs, h1, _ => by simp [ltCps] at h1
  | a :: as, b :: bs, c :: cs, h1, h2 => by
    simp only [ltCps, Bool.or_eq_false_iff, decide_eq_false_iff_not, Bool.and_eq_false_iff, beq_eq_false_iff_ne] at h1 h2 ⊢
    refine ⟨by omega, ?_⟩
    rcases h1.2 with e1 | e1
    · exact .inl (by omega)
    · rcases h2.2 with e2 | e2
      · exact .inl (by omega)
      · exact .inr (ltCps_tr e1 e2)
theorem ltCps_anti : ∀ {a b : List Nat}, ltCps a b = false → ltCps b a = false → a = b
  | [], [], _, _ => rfl
  | [], b :: bs, h, _ => by simp [ltCps] at h
  | a :: as, [], _, h => by simp [ltCps] at h
  | a :: as, b :: bs, h1, h2 => by
    simp only [ltCps, Bool.or_eq_false_iff, decide_eq_false_iff_not, Bool.and_eq_false_iff, beq_eq_false_iff_ne] at h1 h2
    have e : a = b := by omega
    subst e
    rcases h1.2 with e1 | e1
    · exact absurd rfl e1
    · rcases h2.2 with e2 | e2
      · exact absurd rfl e2
      · rw [ltCps_anti e1 e2]
theorem leS_anti {a b : Str} (h1 : leS a b = true) (h2 : leS b a = true) : a = b := by
  unfold leS at h1 h2
  have := ltCps_anti (by simpa using h2) (by simpa using h1)
  cases a; cases b
  rename_i x y
  have : x = y := by
    have := congrArg List.toArray this
    simpa using this
  rw [this]
theorem leS_tr {a b d : Str} (h1 : leS a b = true) (h2 : leS b d = true) : leS a d = true := by
  unfold leS at *
  have := ltCps_tr (a := a.cps.toList) (b := b.cps.toList) (c := d.cps.toList) (by simpa using h1) (by simpa using h2)
  simp [this]
theorem ltCps_as : ∀ {a b : List Nat}, ltCps a b = true → ltCps b a = false
  | [], [], h => by simp [ltCps] at h
  | [], b :: bs, _ => rfl
  | a :: as, [], h => by simp [ltCps] at h
  | a :: as, b :: bs, h => by
    simp only [ltCps, Bool.or_eq_true, decide_eq_true_eq, Bool.and_eq_true, beq_iff_eq] at h
    simp only [ltCps, Bool.or_eq_false_iff, decide_eq_false_iff_not, Bool.and_eq_false_iff, beq_eq_false_iff_ne]
    rcases h with h | ⟨h1, h2⟩
    · exact ⟨by omega, .inl (by omega)⟩
    · exact ⟨by omega, .inr (ltCps_as h2)⟩
theorem leS_tot (a b : Str) (h : ¬ leS a b = true) : leS b a = true := by
  unfold leS at *
  simp only [Bool.not_eq_true, Bool.not_eq_false'] at h
  simp [ltCps_as h]
def insS (a : Str) : List Str → List Str
  | [] => [a]
  | b :: r => if leS a b then a :: b :: r else b :: insS a r
def ssort : List Str → List Str
  | [] => []
  | a :: r => insS a (ssort r)
theorem insS_perm (a : Str) : ∀ l : List Str, (insS a l).Perm (a :: l)
  | [] => List.Perm.refl _
  | b :: r => by
    unfold insS
    split
    · exact List.Perm.refl _
    · exact ((insS_perm a r).cons b).trans (List.Perm.swap a b r)
theorem ssort_perm : ∀ l : List Str, (ssort l).Perm l
  | [] => List.Perm.refl _
  | a :: r => (insS_perm a (ssort r)).trans ((ssort_perm r).cons a)
theorem insS_sorted (a : Str) : ∀ l : List Str, l.Pairwise (fun x y => leS x y = true) → (insS a l).Pairwise (fun x y => leS x y = true)
  | [], _ => by simp [insS]
  | b :: r, h => by
    have h' := List.pairwise_cons.mp h
    unfold insS
    split
    · rename_i hab
      refine List.pairwise_cons.mpr ⟨fun x hx => ?_, h⟩
      rcases List.mem_cons.mp hx with e | hx
      · rw [e]; exact hab
      · exact leS_tr hab (h'.1 x hx)
    · rename_i hab
      refine List.pairwise_cons.mpr ⟨fun x hx => ?_, insS_sorted a r h'.2⟩
      rcases List.mem_cons.mp ((insS_perm a r).mem_iff.mp hx) with e | hx
      · rw [e]; exact leS_tot a b hab
      · exact h'.1 x hx
theorem ssort_sorted : ∀ l : List Str, (ssort l).Pairwise (fun x y => leS x y = true)
  | [] => List.Pairwise.nil
  | a :: r => insS_sorted a _ (ssort_sorted r)
theorem sorted_uniqS : ∀ {l m : List Str}, l.Perm m → l.Pairwise (fun x y => leS x y = true) → m.Pairwise (fun x y => leS x y = true) → l = m
  | [], m, p, _, _ => by rw [List.Perm.nil_eq p]
  | a :: l, [], p, _, _ => by have := p.length_eq; simp at this
  | a :: l, b :: m, p, h1, h2 => by
    have h1' := List.pairwise_cons.mp h1
    have h2' := List.pairwise_cons.mp h2
    have e : a = b := by
      have ha : a ∈ b :: m := p.mem_iff.mp (by simp)
      have hb : b ∈ a :: l := p.mem_iff.mpr (by simp)
      rcases List.mem_cons.mp ha with e | ha
      · exact e
      · rcases List.mem_cons.mp hb with e | hb
        · exact e.symm
        · exact leS_anti (h1'.1 b hb) (h2'.1 a ha)
    subst e
    rw [sorted_uniqS (List.perm_cons a |>.mp p) h1'.2 h2'.2]
theorem risingS_pw : ∀ (p : Str) (l : List Str), risingS p l = true → (p :: l).Pairwise (fun x y => leS x y = true)
  | p, [], _ => by simp
  | p, x :: r, h => by
    simp only [risingS, Bool.and_eq_true] at h
    have ih := risingS_pw x r h.2
    have hp : leS p x = true := h.1
    refine List.pairwise_cons.mpr ⟨fun y hy => ?_, ih⟩
    rcases List.mem_cons.mp hy with e | hy
    · rw [e]; exact hp
    · exact leS_tr hp ((List.pairwise_cons.mp ih).1 y hy)
theorem sortedS_pw : ∀ {l : List Str}, sortedS l = true → l.Pairwise (fun x y => leS x y = true)
  | [], _ => List.Pairwise.nil
  | x :: r, h => risingS_pw x r h
def D.strsA : List D → Option (List Str)
  | [] => some []
  | .str x :: r => (D.strsA r).map (x :: ·)
  | _ => none
theorem strsA_rep {K : PySem.W.Frag} {c : Cl} {G : Hp} : ∀ {vs : List V} {ds : List D} {xs : List Str}, Reps K c G vs ds → D.strsA ds = some xs → vs = xs.map V.str ∧ ds = xs.map D.str
  | _, _, _, .nil, e => by simp only [D.strsA] at e; cases e; exact ⟨rfl, rfl⟩
  | _, _, _, .cons h t, e => by
    cases h with
    | str x =>
      simp only [D.strsA] at e
      obtain ⟨ys, e1, e2⟩ := Option.map_eq_some_iff.mp e
      cases e2
      obtain ⟨a, b⟩ := strsA_rep t e1
      exact ⟨by rw [a]; rfl, by rw [b]; rfl⟩
    | _ => simp [D.strsA] at e
def fSorted : List D → Option D
  | [x] => x.items.bind fun xs => if xs.length < 64 then match D.ints xs with
    | some ns => some (.lst ((isort ns).map .int))
    | none => (D.strsA xs).map fun ys => .lst ((ssort ys).map .str)
    else none
  | _ => none
section
variable {X : Cx} {c : Cl}
theorem repsA_ints {K : PySem.W.Frag} {G : Hp} : ∀ ns : List Int, Reps K c G (ns.map V.int) (ns.map D.int)
  | [] => .nil
  | n :: ns => .cons (.int n) (repsA_ints ns)
theorem repsA_strs {K : PySem.W.Frag} {G : Hp} : ∀ ns : List Str, Reps K c G (ns.map V.str) (ns.map D.str)
  | [] => .nil
  | n :: ns => .cons (.str n) (repsA_strs ns)
theorem cd_sorted : CallD X c (.builtin "sorted") fSorted := calld_of fun G H xs ds d hs rs e => by
  unfold fSorted at e
  split at e
  · obtain ⟨x, rfl, r⟩ := rs.one
    obtain ⟨ys, e1, e⟩ := Option.bind_eq_some_iff.mp e
    split at e
    · rename_i hlen
      obtain ⟨a, vs, rfl, h, s⟩ := items_rep hs r e1
      split at e
      · rename_i ns e2
        cases e
        obtain ⟨h1, h2⟩ := ints_rep s e2
        subst h1
        refine ⟨_, cr_sorted, fun Q q => ⟨a, ns, rfl, h, ?_, fun ns' p hp hw n => ?_⟩⟩
        · have := s.length; simp at this; omega
        · have : ns' = isort ns := sorted_uniqI (hp.trans (isort_perm ns).symm) hw (isort_sorted ns)
          subst this
          exact q _ _ _ (Pure.new _ hs n) (.lst upd_same (repsA_ints _))
      · obtain ⟨ys', e2, e3⟩ := Option.map_eq_some_iff.mp e
        cases e3
        obtain ⟨h1, h2⟩ := strsA_rep s e2
        subst h1
        refine ⟨_, cr_sortedS, fun Q q => ⟨a, ys', rfl, h, ?_, fun ns' p hp hw n => ?_⟩⟩
        · have := s.length; simp at this; omega
        · have : ns' = ssort ys' := sorted_uniqS (hp.trans (ssort_perm ys').symm) (sortedS_pw hw) (ssort_sorted ys')
          subst this
          exact q _ _ _ (Pure.new _ hs n) (.lst upd_same (repsA_strs _))
    · cases e
  · cases e
end
/-! ### list(range(a, b, k)), k above 0 -/
def rangeUp (a b k : Int) : List D := (List.range ((b - a + k - 1) / k).toNat).map fun i => .int (a + (i : Nat) * k)
def fLRg3 (e : Ev) : List D → Res Cell
  | [.int a, .int b, .int k] => if 0 < k ∧ k < 1073741824 ∧ -1152921504606846976 ≤ a ∧ a < 1152921504606846976 ∧ -1152921504606846976 ≤ b ∧ b < 1152921504606846976 ∧ ((b - a + k - 1) / k).toNat ≤ 16777216 then .ok (.lst (rangeUp a b k)) e else .bad
  | _ => .bad
def mLstRg3 (ms : M (List D)) : M Cell := M.bind ms fun ds e => fLRg3 e ds
theorem rangeSize_up {a b k : Int} (hk : 0 < k) : Builtin.Range.rangeSize a b k = (((b - a + k - 1) / k).toNat : Int) := by
  unfold Builtin.Range.rangeSize
  rw [if_pos hk]
  split
  · rename_i h
    have e : (b - a + k - 1) / k = (b - a - 1) / k + 1 := by
      rw [show b - a + k - 1 = (b - a - 1) + k by omega, Int.add_ediv_of_dvd_right (Int.dvd_refl k), Int.ediv_self (by omega)]
    have : 0 ≤ (b - a - 1) / k := Int.ediv_nonneg (by omega) (by omega)
    omega
  · rename_i h
    have : (b - a + k - 1) / k ≤ 0 := by
      have : b - a + k - 1 ≤ k - 1 := by omega
      have h2 : (b - a + k - 1) / k ≤ (k - 1) / k := Int.ediv_le_ediv hk this
      have h3 : (k - 1) / k = 0 := Int.ediv_eq_zero_of_lt (by omega) (by omega)
      omega
    omega
theorem small_up {a b k : Int} (hk : 0 < k) (hk2 : k < 1073741824) (h1 : -1152921504606846976 ≤ a) (h2 : a < 1152921504606846976) (h3 : -1152921504606846976 ≤ b) (h4 : b < 1152921504606846976) : Builtin.Range.small a b k = true := by
  have hz : Builtin.Range.rangeSize a b k = if a < b then (b - a - 1) / k + 1 else 0 := by
    unfold Builtin.Range.rangeSize
    rw [if_pos hk]
  have q0 : a < b → 0 ≤ (b - a - 1) / k := fun h => Int.ediv_nonneg (by omega) (by omega)
  have q1 : a < b → (b - a - 1) / k ≤ b - a - 1 := fun h => Int.ediv_le_self _ (by omega)
  have q2 : a < b → (b - a - 1) / k * k ≤ b - a - 1 := fun h => Int.ediv_mul_le _ (by omega)
  have q3 : ((b - a - 1) / k + 1) * k = (b - a - 1) / k * k + k := by rw [Int.add_mul, Int.one_mul]
  unfold Builtin.Range.small
  rw [hz]
  simp only [Builtin.Range.rangeFitsLong, Bool.and_eq_true, Bool.or_eq_true, decide_eq_true_eq, beq_iff_eq, hk, if_true]
  split <;> omega
section
variable {X : Cx} {c : Cl} {W : WX} {pos : Pos}
theorem vals_rgK {a k : Int} {n : Nat} {acc : Array Value} (h : ItemsOf (fun i v => ∃ t, v = .int (a + i * k) t) acc n) : Vals ((List.range n).map fun i => V.int (a + (i : Nat) * k)) acc.toList := by
  have e : acc.toList.length = n := by rw [Array.length_toList]; exact h.1
  rw [← e]
  refine vals_of_get acc.toList _ fun j u hj => ?_
  obtain ⟨t, rfl⟩ := h.2 j u (by rw [← hj, Array.getElem?_toList])
  exact ⟨t, rfl⟩
theorem reps_rgK {K : PySem.W.Frag} {G : Hp} {a k : Int} : ∀ l : List Nat, Reps K c G (l.map fun i => V.int (a + (i : Nat) * k)) (l.map fun i => D.int (a + (i : Nat) * k))
  | [] => .nil
  | x :: l => .cons (.int _) (reps_rgK l)
def tLstRg3 (ta : TA) : TE := fun σ H Q => ta σ H fun vs H1 => ∃ (a b k : Int) (n : Nat), vs = [.int a, .int b, .int k] ∧ RgC a b k n ∧ n ≤ 16777216 ∧ ∀ q, H1 q = none → Q (.ref q) (upd H1 q (.lst ((List.range n).map fun i => V.int (a + (i : Nat) * k))))
theorem pe_listRg3 {ea eb ec : Expr} {ta : TA} {p pp pr : Pos} (hc : X.calm = true) (hg : Gl X "list") (hm : X.mg "list" = none) (hg2 : Gl X "range") (hm2 : X.mg "range" = none) (ha : PA X [ea, eb, ec] ta)
    (hs : starEach [ea, eb, ec] X.env = (false, eval ea X.env) :: starEach [eb, ec] X.env := by rfl) (hpl : (backTo pr (starEach [eb, ec] X.env)).any (·.1) = false := by rfl)
    (na : starEach [.Call (.Name "range" pp) [ea, eb, ec] [] pr] X.env = (false, eval (.Call (.Name "range" pp) [ea, eb, ec] [] pr) X.env) :: starEach [] X.env := by rfl) :
    PE X (.Call (.Name "list" p) [.Call (.Name "range" pp) [ea, eb, ec] [] pr] [] pos) (tLstRg3 ta) := by
  refine ⟨fun pins s σ H Q I h => ?_⟩
  refine Call_ (ld_blt I hg hm boot_list (PyProof.Rows.callWith_type1 (args_cons ?_ na) na))
  refine Call_ (ld_blt (I.tok _) hg2 hm2 boot_range (PyProof.Rows.callWith_type1 (thn (ha.run pr pins _ σ H _ (I.tok _) h) fun us s1 ⟨vs, H1, I1, r1, q1⟩ => ?_) hs hpl))
  obtain ⟨i, j, k, n, e, ⟨c0, c1, c2, c3⟩, hn, q⟩ := q1
  subst e
  cases r1 with
  | cons r rr =>
    cases rr with
    | cons r' rr =>
      cases rr with
      | cons r'' rr =>
        cases rr
        obtain ⟨t, rfl⟩ := r
        obtain ⟨t', rfl⟩ := r'
        obtain ⟨t'', rfl⟩ := r''
        refine call_range_3 c0 ?_ (.inl (PyProof.noPylong_small c1))
        refine args_nil ?_
        have I2 : Inv X pins σ H1 { s1 with heap := s1.heap.push { cls := .type "range", data := .fields #[.int i t, .int j t', .int k t''] } } := I1.kept (t' := s1.toks) fun b o e => Heap.get?_push_of_some _ e
        refine call_list_range (n := n) (I2.ok.hd hc) (IsRange.new _ _ _ _ _ _ _) c2 c3 hn fun h' tk acc c' hk e' hi => ?_
        refine ⟨.ref _, upd H1 _ (.lst ((List.range n).map fun l => V.int (i + (l : Nat) * k))), I2.laid hk (Nat.le_refl _) (show ObjOk X.prog X.w _ _ _ (.lst _) from ⟨?_, acc.toList, c', vals_rgK hi, ?_⟩), rfl, q _ (I2.hok.fresh (Nat.le_refl _))⟩
        · rw [List.length_map, List.length_range, sizeLine_eq]; exact hn
        · rw [Array.toArray_toList]; exact e'
theorem do_lstRg3 {ea eb ec : Expr} {ms : M (List D)} {p pp pr : Pos} (hm : X.mg "list" = none) (hm2 : X.mg "range" = none) (ha : PA X [ea, eb, ec] (tA X.K c W ms)) (hc : X.calm = true := by rfl) (hg : Gl X "list" := by rfl) (hg2 : Gl X "range" := by rfl)
    (hs : starEach [ea, eb, ec] X.env = (false, eval ea X.env) :: starEach [eb, ec] X.env := by rfl) (hpl : (backTo pr (starEach [eb, ec] X.env)).any (·.1) = false := by rfl)
    (na : starEach [.Call (.Name "range" pp) [ea, eb, ec] [] pr] X.env = (false, eval (.Call (.Name "range" pp) [ea, eb, ec] [] pr) X.env) :: starEach [] X.env := by rfl) :
    PE X (.Call (.Name "list" p) [.Call (.Name "range" pp) [ea, eb, ec] [] pr] [] pos) (tO X.K c W (mLstRg3 ms)) := by
  refine PE.weak (pe_listRg3 hc hg hm hg2 hm2 ha hs hpl na) fun σ H Q h => ?_
  obtain ⟨F, G, P, env, R, h⟩ := h
  refine ⟨F, G, P, env, R, (Post.bind h).imp fun ds G1 H1 P1 x1 ⟨env1, R1, h1⟩ vs rs => ?_⟩
  match ds, rs, h1 with
  | [], _, h1 => exact h1.elim
  | [_], _, h1 => simp only [fLRg3] at h1; exact h1.elim
  | [_, _], _, h1 => simp only [fLRg3] at h1; exact h1.elim
  | _ :: _ :: _ :: _ :: _, _, h1 => simp only [fLRg3] at h1; exact h1.elim
  | [d1, d2, d3], rs, h1 =>
    cases rs with
    | cons r1 rs =>
      cases rs with
      | cons r2 rs =>
        cases rs with
        | cons r3 rs =>
          cases rs
          cases r1 with
          | int a =>
            cases r2 with
            | int b =>
              cases r3 with
              | int k =>
                simp only [fLRg3] at h1
                split at h1
                · rename_i hb
                  obtain ⟨b0, b1, b2, b3, b4, b5, b6⟩ := hb
                  exact ⟨a, b, k, _, rfl, ⟨by omega, by omega, small_up b0 b1 b2 b3 b4 b5, rangeSize_up b0⟩, b6, fun q n0 => new_cell R1 h1 n0 (.lst upd_same (reps_rgK _))⟩
                · exact h1.elim
              | _ => simp only [fLRg3] at h1; exact h1.elim
            | _ => simp only [fLRg3] at h1; exact h1.elim
          | _ => simp only [fLRg3] at h1; exact h1.elim
end
end L2.DL
set_option Elab.async false
set_option linter.all false
set_option maxRecDepth 100000
set_option maxHeartbeats 4000000
namespace L2.DL
open PySem PySem.Spec PyProof.Rows
/-! ### {k: v for x in ..}, keys ints or texts -/
def putD (kvs : List (Key × D)) (k : Key) (v : D) : List (Key × D) :=
  if kvs.any (fun kv => decide (kv.1 = k)) then kvs.map fun kv => if kv.1 = k then (kv.1, v) else kv else kvs ++ [(k, v)]
def dcL (vs : List Nat) (tg : TgM) (t : M Bool) (ek el : M D) : List D → List (Key × D) → M Cell
  | [], acc => fun e => .ok (.dct acc) e
  | d :: ds, acc => fun e => match tg d e with
    | some e1 => match t e1 with
      | .ok true e2 => match ek e2 with
        | .ok kd e3 => match el e3 with
          | .ok y e4 => match keyD kd with
            | some k => if acc.length < 16777216 ∧ noCells vs e4 = true then dcL vs tg t ek el ds (putD acc k y) (wipeE vs e4) else .bad
            | none => .bad
          | _ => .bad
        | _ => .bad
      | .ok false e2 => if noCells vs e2 = true then dcL vs tg t ek el ds acc (wipeE vs e2) else .bad
      | _ => .bad
    | none => .bad
def mDc (mi : M (List D)) (vs : List Nat) (tg : TgM) (t : M Bool) (ek el : M D) : M Cell := M.bind mi fun ds e => if noCells vs e then dcL vs tg t ek el ds [] (wipeE vs e) else .bad
theorem dc_it {J : It} {n : Nat} {G : Hp → Prop} {Y : Nat → Hp → V → Hp → Prop} (w : Walk J n G Y) {g : TG} {tt : TT} {tk tv : TE} {vs : List Nat} {σ : St} {H1 : Hp} {D : Addr} {Qd : Hp → Prop} (Pv : Nat → Hp → Prop) (h0 : Pv 0 (upd H1 D (.dK []))) (hG : ∀ i H, i ≤ n → Pv i H → G H)
    (hs : ∀ i x H H', i < n → Pv i H → Y i H x H' → g x (wipe σ vs) H' fun σ2 H2 => wipe σ2 vs = wipe σ vs ∧ tt σ2 H2 fun b H3 =>
      if b = true then tk σ2 H3 fun y H4 => tv σ2 H4 fun z H5 => ∃ kvs k, y = kV k ∧ H5 D = some (.dK kvs) ∧ kvs.length < sizeLine ∧ Pv (i + 1) (upd H5 D (.dK (putK kvs k z))) else Pv (i + 1) H3) (hd : ∀ H, Pv n H → Qd H) :
    ∃ W : Nat → Nat → Hp → Prop, (∃ m, W 0 m (upd H1 D (.dK []))) ∧ ∀ i m H, W i m H →
      (J.stop i H ∧ Qd H) ∨ (J.go i H ∧ ∃ Nx : Hp → Prop, (∀ H', Nx H' → ∃ m', m' < m ∧ W (i + 1) m' H') ∧ ∀ x H', J.yld i H x H' → g x (wipe σ vs) H' fun σ2 H2 => wipe σ2 vs = wipe σ vs ∧ tt σ2 H2 fun b H3 =>
        if b = true then tk σ2 H3 fun y H4 => tv σ2 H4 fun z H5 => ∃ kvs k, y = kV k ∧ H5 D = some (.dK kvs) ∧ kvs.length < sizeLine ∧ Nx (upd H5 D (.dK (putK kvs k z))) else Nx H3) := by
  refine ⟨fun i m H => m = n - i ∧ i ≤ n ∧ Pv i H, ⟨n, by simp, Nat.zero_le _, h0⟩, ?_⟩
  rintro i m H ⟨rfl, hi, p⟩
  have q := hG i H hi p
  by_cases hlt : i < n
  · refine .inr ⟨w.goes i H hlt q, Pv (i + 1), fun H' p' => ⟨n - (i + 1), by omega, rfl, hlt, p'⟩, fun x H' y => hs i x H H' hlt p (w.yields i H x H' hlt q y)⟩
  · have e : i = n := by omega
    subst e
    exact .inl ⟨w.stops H q, hd H p⟩
section
variable {K : PySem.W.Frag} {c : Cl} {G : Hp}
theorem RepK.any {k : Key} : ∀ {vs : List (Key × V)} {ds : List (Key × D)}, RepK K c G vs ds → (vs.any fun kv => decide (kv.1 = k)) = ds.any fun kv => decide (kv.1 = k)
  | _, _, .nil => rfl
  | _, _, .cons h t => by rw [List.any_cons, List.any_cons, RepK.any t]
theorem RepK.map {k : Key} {v : V} {d : D} (h : Rep K c G v d) : ∀ {vs : List (Key × V)} {ds : List (Key × D)}, RepK K c G vs ds → RepK K c G (vs.map fun kv => if kv.1 = k then (kv.1, v) else kv) (ds.map fun kv => if kv.1 = k then (kv.1, d) else kv)
  | _, _, .nil => .nil
  | _, _, .cons (k := k0) q t => by
    rw [List.map_cons, List.map_cons]
    by_cases e : k0 = k
    · simp only [e, if_true]
      exact .cons h (RepK.map h t)
    · simp only [e, if_false]
      exact .cons q (RepK.map h t)
theorem RepK.app {k : Key} {v : V} {d : D} (h : Rep K c G v d) : ∀ {vs : List (Key × V)} {ds : List (Key × D)}, RepK K c G vs ds → RepK K c G (vs ++ [(k, v)]) (ds ++ [(k, d)])
  | _, _, .nil => .cons h .nil
  | _, _, .cons q t => .cons q (RepK.app h t)
theorem RepK.put {k : Key} {v : V} {d : D} (h : Rep K c G v d) {vs : List (Key × V)} {ds : List (Key × D)} (r : RepK K c G vs ds) : RepK K c G (putK vs k v) (putD ds k d) := by
  unfold putK putD
  rw [r.any]
  split
  · exact r.map h
  · exact r.app h
theorem RepK.length : ∀ {vs : List (Key × V)} {ds : List (Key × D)}, RepK K c G vs ds → vs.length = ds.length
  | _, _, .nil => rfl
  | _, _, .cons _ r => by simp [RepK.length r]
end
section
variable {X : Cx} {c : Cl} {W : WX} {pos : Pos} {tg iter ekx elt : Expr} {ifs : List Expr} {scope : Scope} {own : List (Str × Nat)} {mi : M (List D)} {mt : TgM} {mtt : M Bool} {mk me : M D} {ts : List Nat}
theorem dc_read {K : PySem.W.Frag} {vs : List Nat} {σ : St} {H : Hp} {Q : VK} (hsub : ∀ t, t ∈ ts → t ∈ vs)
    (h : tO K c W (mDc mi vs mt mtt mk me) σ H Q) : tDc (tI K c W mi) (tG K c ts mt) (tT K c W0 mtt) (tE K c W0 mk) (tE K c W0 me) vs σ H Q := by
  obtain ⟨F, G, P, env, R, h⟩ := h
  refine ⟨F, G, P, env, R, (Post.bind h).imp fun ds G1 H1 P1 _ ⟨env1, R1, h1⟩ J gv La nD => ?_⟩
  obtain ⟨Gp, Y, wk, hG, hY⟩ := gv.ex
  have h1 : Post K c W F G1 P1 σ env1 (if noCells vs env1 = true then dcL vs mt mtt mk me ds [] (wipeE vs env1) else .bad) _ := h1
  split at h1
  rotate_left
  · exact h1.elim
  rename_i hno
  have hσ : ∀ j, j ∉ vs → (L2.wipe σ vs)[j]? = σ[j]? := fun j hj => wipe_at hj
  have nF := none_of R1.fs nD
  have nG := none_of R1.gs nD
  have nP : La ∉ P1.flatten := fun hb => by
    obtain ⟨q, hq, hb⟩ := List.mem_flatten.mp hb
    obtain ⟨i, hi, e⟩ := List.mem_iff_getElem.mp hq
    have hl := R1.all.len
    have e1 : P1[i]? = some q := by rw [List.getElem?_eq_getElem hi, e]
    obtain ⟨s, hs⟩ : ∃ s, env1[i]? = some s := ⟨env1[i]'(by omega), by simp [show i < env1.length by omega]⟩
    obtain ⟨p', x, e2, _, r⟩ := R1.all.get hs
    rw [e1] at e2; cases e2
    cases r with
    | no => cases hb
    | val _ => cases hb
    | cell z => exact cell_there z La hb nD
  have wE : ∀ (e : Ev) (j : Nat), j ∈ vs → ∀ s : Sl, (wipeE vs e)[j]? = some s → s = .no := fun e j hj s hs => by
    cases s with
    | no => rfl
    | val _ => exact absurd hj (wipeE_get hs (fun z => nomatch z)).2
    | cell _ _ => exact absurd hj (wipeE_get hs (fun z => nomatch z)).2
  have xF : ∀ {va : List (Key × V)} {G G' : Hp}, Ext (upd F La (.dK va)) G G' → Ext F G G' := fun {va G G'} x => ⟨x.same, fun b h1 h2 => x.fresh b h1 (by
    by_cases hb : b = La
    · subst hb; rw [upd_same]; exact fun z => nomatch z
    · rw [upd_ne hb]; exact h2)⟩
  refine dc_it wk (fun i H => ∃ (G : Hp) (P : List (List Addr)) (env : Ev) (acc : List (Key × D)) (va : List (Key × V)), Rel K c (upd F La (.dK va)) G H P (L2.wipe σ vs) env ∧ Same G1 G ∧ G La = none ∧ RepK K c G va acc ∧ (∀ (j : Nat), j ∈ vs → ∀ s : Sl, env[j]? = some s → s = .no) ∧
    Post K c W F G P σ env (dcL vs mt mtt mk me (ds.drop i) acc env) (fun z G' H' P' => ∀ v p, CellAt K c G' H' p v z → p.Nodup → (∀ b, b ∈ p → F b = none ∧ G' b = none ∧ b ∉ P'.flatten) → Q v H')) ?_ ?_ ?_ ?_
  · have R2 := R1.wipe vs
    refine ⟨G1, _, _, [], [], ⟨same_upd R2.fs nF, R2.gs.trans (same_new nD), R2.all.move (Same.refl _) fun b _ o h => same_new nD b o h, fun b hb => ⟨?_, (R2.out b hb).2⟩, R2.nd, ⟨R2.tb.tabs.same (same_new nD), not_upd R2.tb.nf (fun _ z => nomatch z), R2.tb.ng⟩⟩, Same.refl _, nG, .nil, wE env1, ?_⟩
    · rw [upd_ne fun z => nP (by rw [← z]; exact wipeP_sub hb)]
      exact (R2.out b hb).1
    · exact Post.chain h1 (Ext.refl _ _) (Keep.wipe hno)
  · rintro i H _ ⟨G, P, env, acc, va, R, hs, _⟩
    exact hG H (hs.trans R.gs)
  · rintro i x H H' hi ⟨G, P, env, acc, va, R, hs, gD, ra, hn, h⟩ y
    obtain ⟨G', d, e1, pu, rd⟩ := hY i H x H' G hi hs R.gs y
    have ed : ds.drop i = d :: ds.drop (i + 1) := by
      have : ds[i]'hi = d := by
        rw [List.getElem?_eq_getElem hi] at e1
        exact Option.some.inj e1
      rw [List.drop_eq_getElem_cons hi, this]
    rw [ed] at h
    obtain ⟨x1, R'⟩ := R.pure pu
    have fD : (upd F La (.dK va)) La ≠ none := by rw [upd_same]; exact fun z => nomatch z
    refine ⟨_, G', P, env, d, R', rd, ?_⟩
    have h := h.chain (xF x1) (Keep.refl _ _)
    unfold dcL at h
    cases q : mt d env with
    | none => rw [q] at h; exact h.elim
    | some e1 =>
      rw [q] at h
      intro G2 H2 P2 σ2 x2 k2 R2 ag
      have hw : L2.wipe σ2 vs = L2.wipe σ vs := by
        refine wipe_eq ?_ fun j hj => ag j fun z => hj (hsub j z)
        have l1 := R2.all.len.1
        have l2 := R'.all.len.1
        rw [wipe_length] at l2
        rw [l1, k2.len, ← l2]
      refine ⟨hw, _, G2, P2, e1, R2, ?_⟩
      have h := Post.chain h (xF x2) k2
      dsimp only at h
      cases q2 : mtt e1 with
      | bad => rw [q2] at h; exact h.elim
      | exc xx e2 => rw [q2] at h; exact h.elim
      | ok k e2 =>
        rw [q2] at h
        intro G3 H3 P3 x3 k3 R3
        have h := Post.chain h (xF x3) k3
        cases k with
        | false =>
          refine iteF ?_
          dsimp only at h
          split at h
          rotate_left
          · exact h.elim
          rename_i hno3
          have R4 := R3.wipe vs
          rw [hw] at R4
          have sg := x1.same.trans (x2.same.trans x3.same)
          exact ⟨G3, _, _, acc, va, R4, hs.trans sg, x3.fresh La (x2.fresh La (x1.fresh La gD fD) fD) fD, ra.mono sg, wE e2, Post.chain h (Ext.refl _ _) (Keep.wipe hno3)⟩
        | true =>
          refine iteT ?_
          dsimp only at h
          refine ⟨_, G3, P3, e2, R3, ?_⟩
          cases q3 : mk e2 with
          | bad => rw [q3] at h; exact h.elim
          | exc xx e2 => rw [q3] at h; exact h.elim
          | ok kd e3 =>
            rw [q3] at h
            intro G4 H4 P4 x4 k4 R4 kv rk
            have h := Post.chain h (xF x4) k4
            dsimp only at h
            refine ⟨_, G4, P4, e3, R4, ?_⟩
            cases q4 : me e3 with
            | bad => rw [q4] at h; exact h.elim
            | exc xx e2 => rw [q4] at h; exact h.elim
            | ok yd e4 =>
              rw [q4] at h
              intro G5 H5 P5 x5 k5 R5 v rv
              have h := Post.chain h (xF x5) k5
              dsimp only at h
              cases q5 : keyD kd with
              | none => rw [q5] at h; exact h.elim
              | some key =>
                rw [q5] at h
                dsimp only at h
                split at h
                rotate_left
                · exact h.elim
                rename_i hlen4
                obtain ⟨hlen, hno4⟩ := hlen4
                have R6 := R5.wipe vs
                rw [hw] at R6
                have sg := x1.same.trans (x2.same.trans (x3.same.trans (x4.same.trans x5.same)))
                have gD5 := x5.fresh La (x4.fresh La (x3.fresh La (x2.fresh La (x1.fresh La gD fD) fD) fD) fD) fD
                have nPD : ∀ b, b ∈ (wipeP vs P5).flatten → b ≠ La := fun b hb z => by
                  have := (R6.out b hb).1
                  rw [z] at this
                  exact fD this
                have ra' := ra.mono sg
                refine ⟨va, key, key_rep rk q5, R5.fs La _ upd_same, by rw [ra.length, sizeLine_eq]; exact hlen, G5, _, _, putD acc key yd, putK va key v, ⟨fun b o ho => ?_, fun b o ho => ?_, R6.all.move (Same.refl _) fun b hb o ho => by rw [upd_ne (nPD b hb)]; exact ho, fun b hb => ⟨?_, (R6.out b hb).2⟩, R6.nd, ⟨R6.tb.tabs.upd (fun ps z => by have := R6.fs La _ upd_same; rw [z] at this; cases this), not_upd R1.tb.nf (fun _ z => nomatch z), R6.tb.ng⟩⟩, hs.trans sg, gD5, ra'.put rv, wE e4, Post.chain h (Ext.refl _ _) (Keep.wipe hno4)⟩
                · by_cases hb : b = La
                  · subst hb; rw [upd_same] at ho ⊢; exact ho
                  · rw [upd_ne hb] at ho ⊢; exact R6.fs b o (by rw [upd_ne hb]; exact ho)
                · rw [upd_ne fun z => by rw [z, gD5] at ho; cases ho]
                  exact R6.gs b o ho
                · rw [upd_ne (nPD b hb)]
                  have := (R6.out b hb).1
                  rw [upd_ne (nPD b hb)] at this
                  exact this
  · rintro H ⟨G, P, env, acc, va, R, hs, gD, ra, hn, h⟩
    rw [List.drop_length] at h
    have fD : (upd F La (.dK va)) La ≠ none := by rw [upd_same]; exact fun z => nomatch z
    have nPD : ∀ b, b ∈ P.flatten → b ≠ La := fun b hb z => by
      have := (R.out b hb).1
      rw [z] at this
      exact fD this
    have lσ : σ.length = (L2.wipe σ vs).length := (wipe_length σ vs).symm
    have R' : Rel K c F G H P σ env := ⟨fun b o ho => R.fs b o (by rw [upd_ne fun z => by rw [z, nF] at ho; cases ho]; exact ho), R.gs, R.all.unwipe lσ fun i s hi hs => (wipe_at fun z => hs (hn i z s hi)).symm,
      fun b hb => ⟨by have := (R.out b hb).1; rw [upd_ne (nPD b hb)] at this; exact this, (R.out b hb).2⟩, R.nd, ⟨R.tb.tabs, R1.tb.nf, R.tb.ng⟩⟩
    refine Post.here R' h (.ref La) [La] (.dct (R.fs La _ upd_same) ra) (by simp) fun b hb => ?_
    obtain rfl : b = La := by simpa using hb
    exact ⟨nF, gD, fun z => nPD b z rfl⟩
theorem do_dc (hN : X.N.Nodup) (hi : PI X tg iter (tI X.K c W mi)) (ok : BlkOk X.N X.env.scope scope own)
    (hg : ∀ (s : Shared) (H : Hp) (C : Addr) (cl : List (Str × Addr)) (fp : List Addr), PG (X.blk s H scope (compEnvC scope cl C X.env) fp) tg (tG X.K c ts mt)) (ht : ∀ (s : Shared) (H : Hp) (C : Addr) (cl : List (Str × Addr)) (fp : List Addr), PTs (X.blk s H scope (compEnvC scope cl C X.env) fp) ifs (tT X.K c W0 mtt))
    (hk : ∀ (s : Shared) (H : Hp) (C : Addr) (cl : List (Str × Addr)) (fp : List Addr), PE (X.blk s H scope (compEnvC scope cl C X.env) fp) ekx (tE X.K c W0 mk))
    (he : ∀ (s : Shared) (H : Hp) (C : Addr) (cl : List (Str × Addr)) (fp : List Addr), PE (X.blk s H scope (compEnvC scope cl C X.env) fp) elt (tE X.K c W0 me)) (hsub : ∀ t, t ∈ ts → t ∈ own.map (·.2) := by decide) (hc : X.calm = true := by rfl) (hs : ∀ x, foldedSetIterable iter X.env x = pure x := by intro _; rfl) :
    PE X (.DictComp ekx elt [⟨tg, iter, ifs, 0⟩] scope pos) (tO X.K c W (mDc mi (own.map (·.2)) mt mtt mk me)) :=
  PE.weak (pe_dc hc hN hi ok hg ht hk he hs) fun σ H Q h => dc_read hsub h
/-- {} -/
def mDct0 : M Cell := M.ret (.dct [])
theorem do_dct0 : PE X (.Dict [] [] pos) (tO X.K c W mDct0) := by
  refine PE.weak pe_dnewK fun σ H Q h => ?_
  obtain ⟨F, G, P, env, R, h⟩ := h
  exact fun p n => new_cell R h n (.dct upd_same .nil)
end
/-! ### C.m(..), m a classmethod; cls(..) -/
structure Cmf (P : Program) (w : World) (K : PySem.W.Frag) (mg : Str → Option Value) (base : Heap) (c : Cl) (x m : Str) (cl k n : Nat) (fn : Fn) : Prop where
  ex : ∃ p g : Addr, FnRG P w K mg base (L2.CX P w) k g (spD K c n fn) ∧ mg x = some (.ref (c.cls cl)) ∧ ClX.CRead K (c.cls cl) (.type "type") ∧ ClX.CMet K (c.cls cl) (.type "type") m p g
def mCons1 (d : D) (ms : M (List D)) : M (List D) := M.bind ms fun ds => M.ret (d :: ds)
section
variable {X : Cx} {c : Cl} {W : WX} {pos apos p : Pos} {e o : Expr} {es : List Expr} {ms : M (List D)} {x m : Str} {k n cl : Nat} {fn : Fn} {pl : Sem Bool}
theorem run_RC {f : Addr} {sp : Sp} {E : XK} {Q : VK} {us : List Value} {vs : List V} {pins : List (Addr × Obj)} {σ : St} {H : Hp} {s : Shared} (F : FnRG X.prog X.w X.K X.mg X.base (L2.CX X.prog X.w) k f sp) (hr : RoomG k X.A) (hx : PassesAt (L2.CX X.prog X.w) X σ E) (I : Inv X pins σ H s)
    (r : Vals vs us) (h : sp vs H Q E) : codeAny (model X.prog X.w) X.A (.call (.ref f) ⟨us, []⟩) (fun r s' => match r with | .ok (.ret v) => EP X pins σ Q v s' | .ok _ => False | .error e => X.xe e s') s := by
  refine codeAny_mono (F X.A X.stack s H us vs Q E hr I.env0 r h) fun r s' hq => ?_
  cases r with
  | error e => exact hx pins H s e s' I hq
  | ok fl =>
    cases fl with
    | ret u => exact I.after hq
    | next => exact False.elim hq
    | brk => exact False.elim hq
    | cont => exact False.elim hq
theorem run_cmG {g C q : Addr} {sp : Sp} {E : XK} {Q : VK} {us : List Value} {vs : List V} {pins : List (Addr × Obj)} {σ : St} {H : Hp} {s : Shared} (F : FnRG X.prog X.w X.K X.mg X.base (L2.CX X.prog X.w) k g sp) (hr : RoomG k X.A) (hx : PassesAt (L2.CX X.prog X.w) X σ E) (I : Inv X ((q, PySem.W.methodObj (.ref g) (.ref C)) :: pins) σ H s)
    (r : Vals vs us) (h : sp (.ref C :: vs) H Q E) : wpAny (model X.prog X.w) X.A (call (.ref q) us) (EP X pins σ Q) X.xe s := by
  have z : wpAny (model X.prog X.w) X.A (call (.ref q) us) (EP X ((q, PySem.W.methodObj (.ref g) (.ref C)) :: pins) σ Q) X.xe s :=
    wpAny_call (PySem.W.method_call (ClX.pin_at I) (run_RC (us := .ref C :: us) (vs := .ref C :: vs) F hr hx I (.cons rfl r) h))
  exact thn z fun _ _ y => ClX.unpinE y
theorem de_cmeth (Fd : Cmf X.prog X.w X.K X.mg X.base c x m cl k (n + 1) fn) (tk : Takes X W) (hr : RoomG k X.A) (hl : ML n ms) (ha : PA X (e :: es) (tA X.K c W ms)) (hg : Gl X x := by rfl) (hdb : (x == ("__debug__" : Str)) = false := by decide)
    (hst : starEach (e :: es) X.env = (false, eval e X.env) :: starEach es X.env := by rfl) (hpl : (backTo pos (starEach es X.env)).any (·.1) = false := by rfl)
    (ht : eval (.Call (.Attribute (.Name x p) m apos) (e :: es) [] pos) X.env = (do
      let ov ← eval (.Name x p) X.env
      standAt apos.atName
      let (f, first) ← holding [ov] (getMethod ov m pl)
      callWith pos f first (backTo pos (starEach (e :: es) X.env)) (backToKw pos (keywordEach [] X.env))) := by rfl) :
    PE X (.Call (.Attribute (.Name x p) m apos) (e :: es) [] pos) (tE X.K c W (mCall fn (mCons1 (.glb cl) ms))) := by
  obtain ⟨q, g, Fk, hm, r, cm⟩ := Fd.ex
  refine ⟨fun pins s σ H Q I h => ?_⟩
  have he : PE X (.Name x p) (tC (.ref (c.cls cl))) := pe_glob hg hm rfl hdb
  refine PySem.W.methodCall_KW (pl := pl) (thn (he.run pins s σ H (fun y H1 => y = V.ref (c.cls cl) ∧ H1 = H) I ⟨rfl, rfl⟩) fun u s1 ⟨y, H1, I1, rx, ex, eH⟩ => ?_) ht
  subst ex eH
  obtain rfl : u = Value.ref (c.cls cl) := rx
  refine ClX.getmethcm_ok I1 r cm fun s2 I2 => ?_
  obtain ⟨F, G, P, env, R, h⟩ := h
  have h : Post X.K c W F G P σ env (M.bind (mCons1 (.glb cl) ms) _ env) _ := h
  have ht2 : tA X.K c W ms σ H1 fun vs H2 => spD X.K c (n + 1) fn (.ref (c.cls cl) :: vs) H2 Q (WE W σ) := by
    refine ⟨F, G, P, env, R, ?_⟩
    unfold mCons1 M.bind at h
    cases q : ms env with
    | bad => simp only [q] at h; exact h
    | exc xx e1 => simp only [q] at h; exact h
    | ok ds e1 =>
      simp only [q] at h
      exact fun G1 H1 P1 x1 k1 R1 vs rs => call_vals R1 (.cons (.glb cl) rs) (by rw [List.length_cons, hl env ds e1 q]) (Post.chain h x1 k1)
  refine ClX.callwith_cm I2 (ClX.base_none I1 (Nat.le_refl _)) cm.fi (thn (ha.run pos _ s2 σ H1 _ I2 ht2) fun us s3 ⟨vs, H2, I3, rv, q2⟩ => ⟨⟨ClX.pin_at I3, I3.kIn⟩, ?_⟩) hst hpl
  exact run_cmG Fk hr (passAt tk σ) I3 rv q2
/-- x(..), the class in slot i -/
def mMakeV (i cl : Nat) (f : Fn) (ms : M (List D)) : M D := fun env => match env[i]? with
  | some (.val (.glb n)) => if n = cl then mMake cl f ms env else .bad
  | _ => .bad
theorem de_makeV {i : Nat} {y : Str} {py : Pos} (Ckk : Ck X.prog X.w X.K X.mg X.base c x cl k n fn) (tk : Takes X W) (hr : RoomG (k + 1) X.A) (hl : ML n ms) (ha : PA X (e :: es) (tA X.K c W ms))
    (hN : X.N[i]? = some y := by rfl) (hv : Vis X.env.scope y := by first | exact Or.inl rfl | exact Or.inr (Or.inl rfl) | exact Or.inr (Or.inr rfl)) (hdy : (y == ("__debug__" : Str)) = false := by decide) (hcy : (y == ("__classdict__" : Str)) = false := by decide)
    (he : starEach (e :: es) X.env = (false, eval e X.env) :: starEach es X.env := by rfl) (hpl : (backTo pos (starEach es X.env)).any (·.1) = false := by rfl) :
    PE X (.Call (.Name y py) (e :: es) [] pos) (tE X.K c W (mMakeV i cl fn ms)) := by
  obtain ⟨hm, f, Mk, Fk⟩ := Ckk
  refine ⟨fun pins s σ H Q I h => ?_⟩
  obtain ⟨F, G, P, env, R, h⟩ := h
  unfold mMakeV at h
  cases e0 : env[i]? with
  | none => rw [e0] at h; exact h.elim
  | some s0 =>
    rw [e0] at h
    match s0, e0, h with
    | .no, _, h => exact h.elim
    | .cell _ _, _, h => exact h.elim
    | .val d, e0, h =>
      obtain ⟨p0, x0, _, hσ, r0⟩ := R.all.get e0
      cases r0 with
      | val r0 =>
        cases r0 with
        | glb a =>
          have h : Post X.K c W F G P σ env (if a = cl then mMake cl fn ms env else .bad) _ := h
          split at h
          rotate_left
          · exact h.elim
          rename_i ea
          subst ea
          have hv1 : PE X (.Name y py) (tVar i) := pe_var (i := i) hN hv hdy hcy
          refine wpAny_Call_Name_kw (thn (hv1.run pins s σ H (fun z H1 => z = V.ref (c.cls a) ∧ H1 = H) I ⟨_, hσ, rfl, rfl⟩) fun u s1 ⟨z, H1, I1, rx, ex, eH⟩ => ?_)
          subst ex eH
          obtain rfl : u = Value.ref (c.cls a) := rx
          unfold mMake M.bind at h
          have ht : tA X.K c W ms σ H1 fun vs H1 => ∀ x dx, H1 x = none → H1 dx = none → dx ≠ x → spD X.K c (n + 1) fn (.ref x :: vs) (upd (upd H1 dx (.own x)) x (.ins (c.cls a) dx [])) (fun v H2 => v = .non ∧ Q (.ref x) H2) (WE W σ) := by
            refine ⟨F, G, P, env, R, ?_⟩
            cases q : ms env with
            | bad => rw [q] at h; exact h
            | exc xx e1 => rw [q] at h; exact h
            | ok ds e1 =>
              rw [q] at h
              exact fun G1 H1 P1 x1 k1 R1 vs rs xa dx nx nd ne => make_vals R1 rs (hl env ds e1 q) nx nd ne (Post.chain h x1 k1)
          refine PySem.W.callWith_K (h₀ := X.base) I1.ok.mod.kin Mk.kp (thn (ha.run pos pins s1 σ H1 _ I1 ht) fun us s2 ⟨vs, H2, I2, r, q⟩ => ⟨I2.kIn, ?_⟩) he hpl
          exact run_makeD Mk Fk hr (passAt tk σ) I2 r q
        | _ => exact h.elim
theorem cmf_of {P : Program} {w : World} {K : PySem.W.Frag} {mg : Str → Option Value} {base : Heap} {c : Cl} {x m : Str} {cl k n : Nat} {fn : Fn} {f p : Addr} {fd : FuncData} {ps : List Str} {rs : List Value}
    (F : FnG P w K mg base (L2.CX P w) k f fd ps (spD K c n fn)) (B : Binds K fd ps []) (hm : mg x = some (.ref (c.cls cl)))
    (rd : PySem.W.readsIn K (c.cls cl) (.type "type") = true) (at_ : PySem.W.findCls K (.ref (c.cls cl)) (.type "type") m = some (.get (.builtin "classmethod.__get__") (.ref p) .none (.ref (c.cls cl))))
    (rc : PySem.W.recIn K p "classmethod" = some (.ref f :: rs)) (fi : PySem.W.fnIn K f = true) : Cmf P w K mg base c x m cl k n fn := by
  refine ⟨p, f, (F.raw B .nil).imp fun vs H Q E h => by simpa using h, hm, ⟨rd, ?_⟩, ⟨at_, ⟨rs, rc⟩, fi⟩⟩
  have h := rd
  unfold PySem.W.readsIn at h
  simp only [Bool.and_eq_true, beq_iff_eq] at h
  obtain ⟨⟨⟨⟨_, h2⟩, h3⟩, _⟩, _⟩ := h
  unfold PySem.W.specialIn
  rw [h2, Option.bind_some]
  exact h3
end
end L2.DL
set_option Elab.async false
set_option linter.all false
set_option maxRecDepth 100000
set_option maxHeartbeats 4000000
namespace L2.DL
open PySem PySem.Spec PyProof.Rows
/-! ### len(x) by an own __len__ -/
structure Lf (P : Program) (w : World) (K : PySem.W.Frag) (mg : Str → Option Value) (base : Heap) (c : Cl) (cl k : Nat) (fn : Fn) : Prop where
  sc : SlX.SCls K (c.cls cl)
  ex : ∃ f : Addr, PySem.W.findIn K (.ref (c.cls cl)) "__len__" = some (some (.ref f)) ∧ PySem.W.isFn K (.ref f) = true ∧ FnRG P w K mg base (L2.CX P w) k f (spD K c 1 fn)
theorem lf_of {P : Program} {w : World} {K : PySem.W.Frag} {mg : Str → Option Value} {base : Heap} {c : Cl} {cl k : Nat} {fn : Fn} {f : Addr} {fd : FuncData} {ps : List Str} (F : FnG P w K mg base (L2.CX P w) k f fd ps (spD K c 1 fn)) (hb : Binds K fd ps []) (sc : SlX.SCls K (c.cls cl))
    (h1 : PySem.W.findIn K (.ref (c.cls cl)) "__len__" = some (some (.ref f))) (h2 : PySem.W.isFn K (.ref f) = true) : Lf P w K mg base c cl k fn :=
  ⟨sc, f, h1, h2, (F.raw hb .nil).imp fun vs H Q E h => by simpa using h⟩
def rLenO (C : Addr) (sp : Sp) (E : XK) : List V → Hp → VK → Prop := fun xs H Q => ∃ a dx vs, xs = [V.ref a] ∧ SlX.Slt H a C dx vs ∧ sp [.ref a] H (fun v H' => ∃ n : Int, v = .int n ∧ 0 ≤ n ∧ n < 9223372036854775808 ∧ Q (.int n) H') E
theorem call_lenO {X : Cx} {C g : Addr} {sp : Sp} {E : XK} {n : Nat} (h1 : PySem.W.findIn X.K (.ref C) "__len__" = some (some (.ref g))) (h2 : PySem.W.isFn X.K (.ref g) = true)
    (F : FnRG X.prog X.w X.K X.mg X.base (L2.CX X.prog X.w) n g sp) (hr : RoomG (n + 1) X.A) (hx : Passes (L2.CX X.prog X.w) X E) : CallR X (.builtin "len") (rLenO C sp E) := by
  intro pins s σ H xs us Q I r h
  obtain ⟨a, dx, vs, rfl, ha, q⟩ := h
  obtain ⟨u, rfl, ru⟩ := vals1 r
  obtain rfl : u = Value.ref a := ru
  obtain ⟨sl, od, _, J, _⟩ := SlX.slt_inst I ha
  obtain ⟨m, fr⟩ := I.fr
  refine PySem.W.len_K fr I.ok.mod.kin J h1 h2 ?_
  refine wpAny_mono (wpAny_call (run_atG (us := [.ref a]) (ws := [.ref a]) F hr.in1 I.env0.in1 hx I (.cons rfl .nil) q)) (fun w s' z => ?_) fun _ _ x => x
  obtain ⟨z', H', I', rz, n, er, n0, n1, qz⟩ := z
  subst er
  obtain ⟨t, rfl⟩ := (show ∃ t, w = Value.int n t from rz)
  exact ⟨⟨n0, by omega⟩, .int n, H', I'.tok _, ⟨_, rfl⟩, qz⟩
def lenO (cl : Nat) (fn : Fn) (d : D) : Option D := match d with
  | .obj n fs => if n = cl then match fn [.val (.obj n fs)] with
    | .ok (.int i) _ => if 0 ≤ i ∧ i < 9223372036854775808 then some (.int i) else none
    | _ => none
    else none
  | _ => none
def mLenO (cl : Nat) (fn : Fn) (m : M D) : M D := M.bind m fun d => M.opt (lenO cl fn d)
section
variable {X : Cx} {c : Cl} {W : WX} {pos p : Pos} {e : Expr} {m : M D} {cl k : Nat} {fn : Fn}
theorem de_lenO (L : Lf X.prog X.w X.K X.mg X.base c cl k fn) (hr : RoomG (k + 1) X.A) (hm : X.mg "len" = none) (he : PE X e (tE X.K c W m)) (hg : Gl X "len" := by rfl)
    (hs : starEach [e] X.env = (false, eval e X.env) :: starEach [] X.env := by rfl) (hpl : (backTo pos (starEach [] X.env)).any (·.1) = false := by rfl) :
    PE X (.Call (.Name "len" p) [e] [] pos) (tE X.K c W (mLenO cl fn m)) := by
  obtain ⟨sc, g, h1, h2, F⟩ := L
  refine PE.weak (pe_callB (call_lenO h1 h2 F hr (passE0 fun _ _ _ _ z => cx_E0 z)) hg hm PySem.boot_len (pa_cons he pa_nil hs) (by decide) (by decide) hs hpl) fun σ H Q h => ?_
  obtain ⟨F0, G, P, env, R, h⟩ := h
  refine ⟨F0, G, P, env, R, (Post.bind h).imp fun d G1 H1 P1 _ ⟨env1, R1, h1⟩ v r => ?_⟩
  obtain ⟨d', e1, h1⟩ := Post.opt h1
  cases r with
  | @obj a dx vs fs n' hsl rs =>
    unfold lenO at e1
    dsimp only at e1
    split at e1
    · rename_i hn
      subst hn
      refine ⟨a, dx, _, rfl, Same.slt R1.gs hsl, ?_⟩
      refine spD_vals (ds := [.obj n' fs]) R1.gs ⟨R1.tb.tabs, R1.tb.ng⟩ (.cons (.obj hsl rs) .nil) rfl ?_
      show match fn [Sl.val (D.obj n' fs)] with | .ok d _ => _ | .exc x _ => _ | .bad => False
      cases q1 : fn [.val (.obj n' fs)] with
      | bad => rw [q1] at e1; cases e1
      | exc x s => rw [q1] at e1; cases e1
      | ok d2 s =>
        rw [q1] at e1
        cases d2 with
        | int i =>
          dsimp only at e1
          split at e1
          · rename_i hb
            cases e1
            intro G' H' v pu rv
            cases rv
            obtain ⟨x3, R3⟩ := R1.pure pu
            exact ⟨i, rfl, hb.1, hb.2, h1 G' H' P1 x3 (Keep.refl _ _) R3 _ (.int i)⟩
          · cases e1
        | _ => cases e1
    · cases e1
  | _ => cases e1
end
end L2.DL
set_option Elab.async false
set_option linter.all false
set_option maxRecDepth 100000
set_option maxHeartbeats 4000000
namespace L2.DL
open PySem PySem.Spec PyProof.Rows
/-! ### zip of two of lists, tuples, texts -/
inductive Zs | l (a : Addr) | t (a : Addr) | s (x : Str)
def Zs.v : Zs → V
  | .l a => .ref a
  | .t a => .ref a
  | .s x => .str x
def Zs.val (t : Tok) : Zs → Value
  | .l a => .ref a
  | .t a => .ref a
  | .s x => .str x t
def Zs.old : Zs → List Addr
  | .l a => [a]
  | .t a => [a]
  | .s _ => []
def Zs.it (t : Tok) : Zs → Heap → Addr → Nat → Prop
  | .l a, h, it, i => h.IsListIter it a i
  | .t a, h, it, i => h.IsTupleIter it a i
  | .s x, h, it, i => h.IsStrIter it (strIterType x) x t i
def Zs.seq (K : PySem.W.Frag) (H : Hp) : Zs → List V → Prop
  | .l a, xs => SqL K H a xs
  | .t a, xs => SqT K H a xs
  | .s x, xs => xs = x.cps.toList.map fun c => V.str ⟨#[c]⟩
def Zs.obj0 (t : Tok) : Zs → Obj
  | .l a => { cls := .type "list_iterator", data := .fields #[.ref a, .int 0 0] }
  | .t a => { cls := .type "tuple_iterator", data := .fields #[.ref a, .int 0 0] }
  | .s x => { cls := .type (strIterType x), data := .fields #[.str x t, .int 0 0] }
theorem Zs.rel {k : Zs} {u : Value} (r : RelV k.v u) : ∃ t, u = k.val t := by
  cases k with
  | l a => exact ⟨0, r⟩
  | t a => exact ⟨0, r⟩
  | s x => obtain ⟨t, rfl⟩ := r; exact ⟨t, rfl⟩
theorem Zs.live {k : Zs} {t : Tok} {h : Heap} {it : Addr} {i : Nat} (st : k.it t h it i) : ∃ o, h.get? it = some o ∧ ∀ v, o.data ≠ .cell v := by
  cases k with
  | l a => obtain ⟨o, e, _, d⟩ := st; exact ⟨o, e, fun v q => by rw [d] at q; cases q⟩
  | t a => obtain ⟨o, e, _, d⟩ := st; exact ⟨o, e, fun v q => by rw [d] at q; cases q⟩
  | s x => obtain ⟨o, e, _, d⟩ := st; exact ⟨o, e, fun v q => by rw [d] at q; cases q⟩
theorem Zs.at {k : Zs} {t : Tok} {h h' : Heap} {it : Addr} {i : Nat} (st : k.it t h it i) (e : ∀ o, h.get? it = some o → h'.get? it = some o) : k.it t h' it i := by
  cases k with
  | l a => exact Heap.IsListIter.at st e
  | t a => exact Heap.IsTupleIter.at st e
  | s x => obtain ⟨o, ho, r⟩ := st; exact ⟨o, e o ho, r⟩
theorem Zs.init {k : Zs} {t : Tok} {h : Heap} {it : Addr} (e : h.get? it = some (k.obj0 t)) : k.it t h it 0 := by
  cases k with
  | l a => exact ⟨_, e, rfl, rfl⟩
  | t a => exact ⟨_, e, rfl, rfl⟩
  | s x => exact ⟨_, e, rfl, rfl⟩
section
variable {X : Cx} {pins : List (Addr × Obj)} {σ : St} {H : Hp} {s : Shared}
theorem vals_get' {xs : List V} {us : List Value} {i : Nat} {u : Value} (rv : Vals xs us) (h : us[i]? = some u) : ∃ x, xs[i]? = some x ∧ RelV x u := by
  have hi : i < xs.length := by rw [rv.length]; exact (List.getElem?_eq_some_iff.mp h).1
  have e : xs[i]? = some xs[i] := by simp [hi]
  obtain ⟨v, hv, r⟩ := rv.get e
  rw [h] at hv
  cases hv
  exact ⟨_, e, r⟩
theorem Zs.inj {k : Zs} {xs ys : List V} (I : Inv X pins σ H s) (h : k.seq X.K H xs) (h' : k.seq X.K H ys) : xs = ys := by
  cases k with
  | l a => exact I.list_inj h h'
  | t a => exact I.tuple_inj h h'
  | s x => exact h.trans h'.symm
theorem Zs.draw {k : Zs} {t : Tok} {xs : List V} {it : Addr} (hh : X.A.in1.handled = none) (I : Inv X pins σ H s) (h : k.seq X.K H xs) (hne : ∀ a, a ∈ k.old → a ≠ it) :
    ∃ (P : Nat → Value → Prop) (St : Nat → Heap → Prop), Draws X.prog X.w X.A.in1 it (it :: k.old) xs.length P St ∧ (∀ i, k.it t s.heap it i → St i s.heap) ∧ (∀ i h', St i h' → k.it t h' it i) ∧ ∀ i u, P i u → ∃ x, xs[i]? = some x ∧ RelV x u := by
  cases k with
  | l a =>
    obtain ⟨its, rv, p, _⟩ := I.list h
    have D := Draws.list (prog := X.prog) (w := X.w) hh it a (hne a (by simp [Zs.old])) its.toArray
    have e : its.toArray.size = xs.length := by rw [List.size_toArray]; exact rv.length.symm
    rw [e] at D
    refine ⟨_, _, D, fun i st => ⟨st, p.isList⟩, fun i h' st => st.1, fun i u hu => ?_⟩
    exact vals_get' rv (by simpa using hu)
  | t a =>
    obtain ⟨its, rv, p, _⟩ := I.tuple h
    have D := Draws.tuple (prog := X.prog) (w := X.w) hh it a (hne a (by simp [Zs.old])) its.toArray
    have e : its.toArray.size = xs.length := by rw [List.size_toArray]; exact rv.length.symm
    rw [e] at D
    refine ⟨_, _, D, fun i st => ⟨st, p⟩, fun i h' st => st.1, fun i u hu => ?_⟩
    exact vals_get' rv (by simpa using hu)
  | s x =>
    have D := Draws.text (prog := X.prog) (w := X.w) hh it x t
    have hx : xs = x.cps.toList.map fun c => V.str ⟨#[c]⟩ := h
    have e : x.cps.size = xs.length := by rw [hx, List.length_map, Array.length_toList]
    rw [e] at D
    refine ⟨_, _, D, fun i st => st, fun i h' st => st, fun i u hu => ?_⟩
    obtain ⟨c, v, h1, rfl⟩ := hu
    refine ⟨.str ⟨#[c]⟩, ?_, ⟨v, rfl⟩⟩
    rw [hx, List.getElem?_map, Array.getElem?_toList, h1]
    rfl
theorem Zs.begins {k : Zs} {t : Tok} {xs : List V} (I : Inv X pins σ H s) (h : k.seq X.K H xs) : ∃ Hc, Begins (k.val t) (k.obj0 t) Hc ∧ Hc s.heap ∧ ∀ a, a ∈ k.old → a < s.heap.objs.size := by
  cases k with
  | l a =>
    obtain ⟨its, rv, p, _⟩ := I.list h
    exact ⟨_, begins_list a its.toArray, p.isList, fun b hb => by obtain rfl : b = a := by simpa [Zs.old] using hb
                                                                  exact p.lt⟩
  | t a =>
    obtain ⟨its, rv, p, _⟩ := I.tuple h
    obtain ⟨o, ho, _⟩ := id p
    exact ⟨_, begins_tuple a its.toArray, p, fun b hb => by obtain rfl : b = a := by simpa [Zs.old] using hb
                                                            exact Heap.lt_size ho⟩
  | s x => exact ⟨_, begins_text x t, trivial, fun b hb => by simp [Zs.old] at hb⟩
end
def ItzG (K : PySem.W.Frag) (k1 k2 : Zs) : It :=
  ⟨fun i H => ∃ (xs ys : List V) (x y : V), k1.seq K H xs ∧ k2.seq K H ys ∧ xs[i]? = some x ∧ ys[i]? = some y,
    fun i H v H' => ∃ T x y, v = .ref T ∧ H T = none ∧ H' = upd H T (.tup [x, y]) ∧ (∀ xs, k1.seq K H xs → xs[i]? = some x) ∧ ∀ ys, k2.seq K H ys → ys[i]? = some y,
    fun i H => ∃ xs ys : List V, k1.seq K H xs ∧ k2.seq K H ys ∧ i ≤ xs.length ∧ i ≤ ys.length ∧ (i = xs.length ∨ i = ys.length)⟩
structure ApartG (z TI TO i1 i2 : Addr) (k1 k2 : Zs) : Prop where
  nd : [z, TI, TO, i1, i2].Nodup
  o1 : ∀ x, x ∈ k1.old → x ∉ [z, TI, TO, i1, i2]
  o2 : ∀ x, x ∈ k2.old → x ∉ [z, TI, TO, i1, i2]
theorem ApartG.sep {z TI TO i1 i2 : Addr} {k1 k2 : Zs} (D : ApartG z TI TO i1 i2 k1 k2) : ZipSep2 z TI TO i1 i2 (i1 :: k1.old) (i2 :: k2.old) := by
  obtain ⟨nd, o1, o2⟩ := D
  simp only [List.nodup_cons, List.mem_cons, List.not_mem_nil, or_false, not_or, List.nodup_nil, not_false_eq_true, and_true] at nd
  obtain ⟨⟨n1, n2, n3, n4⟩, ⟨n6, n7, n8⟩, ⟨n10, n11⟩, n13⟩ := nd
  have a1 : ∀ y, y ∈ [z, TI, TO, i1, i2] → y ∉ k1.old := fun y hy h => o1 y h hy
  have a2 : ∀ y, y ∈ [z, TI, TO, i1, i2] → y ∉ k2.old := fun y hy h => o2 y h hy
  have s1 : ∀ {x y : Addr}, ¬ x = y → ¬ y = x := fun h e => h e.symm
  refine ⟨s1 n1, s1 n2, n6, n7, List.mem_cons_self, ?_, ?_, n8, List.mem_cons_self, ?_, ?_, ?_, ?_⟩ <;> (rw [List.mem_cons, not_or]; refine ⟨?_, ?_⟩) <;> first
    | assumption
    | (apply s1; assumption)
    | exact a1 _ (by simp)
    | exact a2 _ (by simp)
theorem turn_zipG {P : Program} {w : World} {K : PySem.W.Frag} {elts : List Expr} {kk : Nat} {tpos : Pos} {k1 k2 : Zs} {t1 t2 : Tok} {z TI TO i1 i2 : Addr} (D : ApartG z TI TO i1 i2 k1 k2) :
    Turn P w K (.Tuple elts kk tpos) (ItzG K k1 k2) [z, TI, TO, i1, i2] z (fun i h => IsZip h z TI TO .none ∧ IsTupOf2 h TI (.ref i1) (.ref i2) ∧ (∃ x y, IsTupOf2 h TO x y) ∧ k1.it t1 h i1 i ∧ k2.it t2 h i2 i) where
  mem := by simp
  obj := fun i h st q hq => by
    obtain ⟨hz, hTI, ⟨x, y, hTO⟩, h1, h2⟩ := st
    have e' : q = z ∨ q = TI ∨ q = TO ∨ q = i1 ∨ q = i2 := by simpa using hq
    rcases e' with q | q | q | q | q
    · rw [q]; exact ⟨_, hz, fun v q => nomatch q⟩
    · rw [q]; exact ⟨_, hTI, fun v q => nomatch q⟩
    · rw [q]; exact ⟨_, hTO, fun v q => nomatch q⟩
    · rw [q]; exact Zs.live h1
    · rw [q]; exact Zs.live h2
  keep := fun i h h' st k => by
    obtain ⟨hz, hTI, ⟨x, y, hTO⟩, h1, h2⟩ := st
    exact ⟨k z (by simp) _ hz, k TI (by simp) _ hTI, ⟨x, y, k TO (by simp) _ hTO⟩, Zs.at h1 fun o q => k i1 (by simp) o q, Zs.at h2 fun o q => k i2 (by simp) o q⟩
  item := by
    intro X hP hw hK hc i pins s σ H E I hf st hg
    subst hP hw hK
    have S := D.sep
    obtain ⟨hz, hTI, ⟨x0, y0, hTO⟩, h1, h2⟩ := st
    obtain ⟨xs, ys, x, y, hqx, hqy, hx, hy⟩ := hg
    have hh : X.A.in1.handled = none := I.ok.hd hc
    have hzl : z < s.heap.objs.size := Heap.lt_size hz
    obtain ⟨P1, St1, D1, a1, b1, c1⟩ := Zs.draw (t := t1) (it := i1) hh I hqx fun a ha e => D.o1 a ha (by rw [e]; simp)
    obtain ⟨P2, St2, D2, a2, b2, c2⟩ := Zs.draw (t := t2) (it := i2) hh I hqy fun a ha e => D.o2 a ha (by rw [e]; simp)
    have hT : s.TypeIs (.ref z) "zip" := ⟨_, hz, rfl⟩
    have lt1 : i < xs.length := (List.getElem?_eq_some_iff.mp hx).1
    have lt2 : i < ys.length := (List.getElem?_eq_some_iff.mp hy).1
    have l1 : ∃ o, s.heap.get? i1 = some o := let ⟨o, e, _⟩ := Zs.live h1; ⟨o, e⟩
    have l2 : ∃ o, s.heap.get? i2 = some o := let ⟨o, e, _⟩ := Zs.live h2; ⟨o, e⟩
    unfold pyNext
    refine wpAny_bind (wpAny_attempt (wpAny_callSpecial?_slot (name := Str.ofString "__next__") hT F.slot_zip_next
      (wpAny_call_entry F.slot_zip_next hT F.entry_zip_next
        (zipD2_next_item S D1 D2 hz hTI hTO (a1 i h1) (a2 i h2) lt1 lt2 fun x1 x2 h' tk e1 e2 z' TO' s1 s2 hT' hsz hk => wpAny_pure ?_) (F.args_zip_next_1 _))))
    obtain ⟨y1, f1, r1⟩ := c1 i x1 e1
    obtain ⟨y2, f2, r2⟩ := c2 i x2 e2
    rw [hx] at f1
    rw [hy] at f2
    cases f1
    cases f2
    refine ⟨_, rfl, wpAny_letOwnedTupleGo_zip (s := { s with heap := h', toks := tk }) z' fun h'' z'' sb => ?_⟩
    have hT2 : h''.get? s.heap.objs.size = some { cls := .type "tuple", data := .seq #[x1, x2] } := (sb.2 _ (Nat.ne_of_gt hzl)).trans hT'
    have new : ObjOk X.prog X.w (upd H s.heap.objs.size (.tup [x, y])) h'' s.heap.objs.size (.tup [x, y]) :=
      ⟨by show 2 ≤ sizeLine; decide, [x1, x2], .cons r1 (.cons r2 .nil), ⟨_, hT2, rfl, _, rfl⟩⟩
    have I1 : Inv X pins σ (upd H s.heap.objs.size (.tup [x, y])) { s with heap := h'', toks := tk } :=
      I.turnedNew (t' := tk) (ch := [z, TI, TO, i1, i2]) (fun c o hb q => (sb.2 c (fun q' => hb (by simp [q']))).trans (hk c o (fun q' => hb (by simp [q'])) (fun q' => hb (by simp [q'])) (fun q' => hb (by simp [q'])) (fun q' => hb (by simp [q'])) q)) hf (Nat.le_refl _) new
    refine ⟨.ref s.heap.objs.size, _, I1, rfl, ⟨_, x, y, rfl, I.hok.fresh (Nat.le_refl _), rfl, fun l hl => by rw [Zs.inj I hl hqx]; exact hx, fun l hl => by rw [Zs.inj I hl hqy]; exact hy⟩, ⟨z'', ?_, ⟨x1, x2, ?_⟩, ?_, ?_⟩, fun q hqm => ?_⟩
    · exact (sb.2 _ S.TIz).trans (hk _ _ S.TIz S.TITO S.TIi1 S.TIi2 hTI)
    · exact (sb.2 _ S.TOz).trans TO'
    · exact Zs.at (b1 _ _ s1) fun o q => (sb.2 _ (Ne.symm S.zi1)).trans q
    · exact Zs.at (b2 _ _ s2) fun o q => (sb.2 _ (Ne.symm S.zi2)).trans q
    · have hlt : q < s.heap.objs.size := by
        have e' : q = z ∨ q = TI ∨ q = TO ∨ q = i1 ∨ q = i2 := by simpa using hqm
        rcases e' with q | q | q | q | q
        · rw [q]; exact hzl
        · rw [q]; exact Heap.lt_size hTI
        · rw [q]; exact Heap.lt_size hTO
        · rw [q]; obtain ⟨_, e1⟩ := l1; exact Heap.lt_size e1
        · rw [q]; obtain ⟨_, e2⟩ := l2; exact Heap.lt_size e2
      rw [upd_ne (Nat.ne_of_lt hlt)]
      exact (hf q hqm).1
  done := by
    intro X hP hw hK hc i pins s σ H E I hf st hg
    subst hP hw hK
    have S := D.sep
    obtain ⟨hz, hTI, ⟨x0, y0, hTO⟩, h1, h2⟩ := st
    obtain ⟨xs, ys, hqx, hqy, l1, l2, hend⟩ := hg
    have hh : X.A.in1.handled = none := I.ok.hd hc
    obtain ⟨P1, St1, D1, a1, b1, c1⟩ := Zs.draw (t := t1) (it := i1) hh I hqx fun a ha e => D.o1 a ha (by rw [e]; simp)
    obtain ⟨P2, St2, D2, a2, b2, c2⟩ := Zs.draw (t := t2) (it := i2) hh I hqy fun a ha e => D.o2 a ha (by rw [e]; simp)
    have hT : s.TypeIs (.ref z) "zip" := ⟨_, hz, rfl⟩
    unfold pyNext
    refine wpAny_bind (wpAny_attempt (wpAny_callSpecial?_slot (name := Str.ofString "__next__") hT F.slot_zip_next
      (wpAny_call_entry F.slot_zip_next hT F.entry_zip_next (zipD2_next_end S D1 D2 hz hTI hTO (a1 i h1) (a2 i h2) l1 l2 hend fun h' tk e hk he => ?_) (F.args_zip_next_1 _))))
    obtain ⟨o, ho, hc⟩ := he
    refine wpAny_bind (wpAny_isInstance (T := "StopIteration") (b := true) ⟨o, ho, hc⟩ isSubtype_stop ?_)
    exact wpAny_pure ⟨rfl, I.turnedL (t' := tk) (ch := [z, TI, TO, i1, i2]) (fun c o hb q =>
      hk c o (fun q' => hb (by simp [q'])) (fun q' => hb (by simp [q'])) (fun q' => hb (by simp [q'])) (fun q' => hb (by simp [q'])) q) hf⟩
  self := fun A i s Q E st h => wpAny_pyIter_zip st.1 h
theorem walk_zipG {K : PySem.W.Frag} {k1 k2 : Zs} {xs ys : List V} {n : Nat} (hn : n = min xs.length ys.length) : Walk (ItzG K k1 k2) n (fun H => k1.seq K H xs ∧ k2.seq K H ys) (YPair (fun i => xs[i]?) (fun i => ys[i]?)) := by
  subst hn
  refine ⟨fun i _ hi q => ?_, fun _ q => ⟨xs, ys, q.1, q.2, by omega, by omega, by omega⟩, fun i H v H' _ q y => ?_⟩
  · have h1 : i < xs.length := by omega
    have h2 : i < ys.length := by omega
    exact ⟨xs, ys, xs[i], ys[i], q.1, q.2, by simp [h1], by simp [h2]⟩
  · obtain ⟨T, x, z, h1, h2, h3, h4, h5⟩ := y
    exact ⟨T, x, z, h1, h2, h3, h4 xs q.1, h5 ys q.2⟩
def iZipG (K : PySem.W.Frag) (ta : TA) : TI := fun σ H R => ta σ H fun vs H1 => ∃ k1 k2 xs ys, vs = [Zs.v k1, Zs.v k2] ∧ k1.seq K H1 xs ∧ k2.seq K H1 ys ∧ R (ItzG K k1 k2) H1
theorem pi_zipG {X : Cx} {e e2 : Expr} {ta : TA} {p pos tpos : Pos} {elts : List Expr} {kk : Nat} (hg : Gl X "zip") (hm : X.mg "zip" = none) (ha : PA X [e, e2] ta)
    (hs : starEach [e, e2] X.env = (false, eval e X.env) :: starEach [e2] X.env := by rfl) (hpl : (backTo pos (starEach [e2] X.env)).any (·.1) = false := by rfl) :
    PI X (.Tuple elts kk tpos) (.Call (.Name "zip" p) [e, e2] [] pos) (iZipG X.K ta) := by
  refine ⟨fun pins s σ H R I h => ?_⟩
  refine Call_ (ld_blt I hg hm PyProof.Rows.boot_zip (PyProof.Rows.callWith_type1 (thn (ha.run pos pins s σ H _ I h) fun us s1 ⟨vs, H1, I1, r1, q1⟩ => ?_) hs hpl))
  obtain ⟨k1, k2, xs, ys, ex, hqx, hqy, q⟩ := q1
  subst ex
  cases r1 with
  | cons r rr =>
    cases rr with
    | cons r' rr =>
      cases rr
      obtain ⟨t1, rfl⟩ := Zs.rel r
      obtain ⟨t2, rfl⟩ := Zs.rel r'
      obtain ⟨Hc1, B1, g1, lo1⟩ := Zs.begins (t := t1) I1 hqx
      obtain ⟨Hc2, B2, g2, lo2⟩ := Zs.begins (t := t2) I1 hqy
      refine zip_begins2 B1 B2 g1 g2 fun h' hz hTI hTO h1 h2 hsz hk => wpAny_pyIter_zip hz ?_
      have I2 : Inv X pins σ H1 { s1 with heap := h' } := I1.kept (t' := s1.toks) hk
      generalize hN : s1.heap.objs.size = N at *
      have ap : ApartG (N + 4) (N + 2) (N + 3) N (N + 1) k1 k2 := ⟨by simp, fun x hx => by
        have hx : @LT.lt Nat _ x N := lo1 x hx
        simp only [List.mem_cons, List.not_mem_nil, or_false]
        intro e
        rcases e with e | e | e | e | e <;> (have e : @Eq Nat x _ := e; omega), fun x hx => by
        have hx : @LT.lt Nat _ x N := lo2 x hx
        simp only [List.mem_cons, List.not_mem_nil, or_false]
        intro e
        rcases e with e | e | e | e | e <;> (have e : @Eq Nat x _ := e; omega)⟩
      refine ⟨N + 4, [N + 4, N + 2, N + 3, N, N + 1], _, _, H1, rfl, I2, turn_zipG (t1 := t1) (t2 := t2) ap, ⟨hz, hTI, ⟨_, _, hTO⟩, Zs.init h1, Zs.init h2⟩, fun q hqm => ?_, q⟩
      have hle : N ≤ q := by
        have e' : q = N + 4 ∨ q = N + 2 ∨ q = N + 3 ∨ q = N ∨ q = N + 1 := by simpa using hqm
        show @LE.le Nat _ N q
        rcases e' with e | e | e | e | e <;> (have e : @Eq Nat q _ := e; omega)
      exact I1.fpOk (by rw [hN]; exact hle) (I1.hok.fresh (by rw [hN]; exact hle))
/-- what a loop over it gives -/
def D.zsrc : D → Option (List D)
  | .lst xs => some xs
  | .ro xs => some xs
  | .tup xs => some xs
  | .str x => some (x.cps.toList.map fun c => .str ⟨#[c]⟩)
  | _ => none
def fZipG : List D → Option (List D)
  | [x, y] => x.zsrc.bind fun xs => y.zsrc.map fun ys => zip2D xs ys
  | _ => none
def mZipG (ms : M (List D)) : M (List D) := M.bind ms fun ds => M.opt (fZipG ds)
@[simp] theorem ev_zipG {ms : M (List D)} {e : Ev} : mZipG ms e = (ms e).bnd fun ds e => M.opt (fZipG ds) e := rfl
@[simp] theorem fZipG_ls {xs : List D} {x : Str} : fZipG [.lst xs, .str x] = some (zip2D xs (x.cps.toList.map fun c => .str ⟨#[c]⟩)) := rfl
@[simp] theorem fZipG_tt {xs ys : List D} : fZipG [.tup xs, .tup ys] = some (zip2D xs ys) := rfl
@[simp] theorem fZipG_ll {xs ys : List D} : fZipG [.lst xs, .lst ys] = some (zip2D xs ys) := rfl
theorem zsrc_rep {K : PySem.W.Frag} {c : Cl} {G : Hp} {v : V} {d : D} {xs : List D} (r : Rep K c G v d) (e : d.zsrc = some xs) : ∃ (k : Zs) (vs : List V), v = k.v ∧ (∀ H, Same G H → k.seq K H vs) ∧ Reps K c G vs xs := by
  cases r with
  | @lst a vs ds h s => cases e; exact ⟨.l a, vs, rfl, fun H hs => SqL.of (hs _ _ h), s⟩
  | @ro a vs ds h s => cases e; exact ⟨.l a, vs, rfl, fun H hs => hs.seq h, s⟩
  | @tup a vs ds h s => cases e; exact ⟨.t a, vs, rfl, fun H hs => Same.seqT hs h, s⟩
  | str x =>
    cases e
    refine ⟨.s x, _, rfl, fun H hs => rfl, ?_⟩
    suffices ∀ l : List Nat, Reps K c G (l.map fun c => V.str ⟨#[c]⟩) (l.map fun c => D.str ⟨#[c]⟩) from this _
    intro l
    induction l with
    | nil => exact .nil
    | cons a l ih => exact .cons (.str _) ih
  | _ => cases e
theorem di_zipG {X : Cx} {c : Cl} {W : WX} {pos p tpos : Pos} {e e2 : Expr} {elts : List Expr} {kk : Nat} {ms : M (List D)} (hm : X.mg "zip" = none) (ha : PA X [e, e2] (tA X.K c W ms)) (hg : Gl X "zip" := by rfl)
    (hs : starEach [e, e2] X.env = (false, eval e X.env) :: starEach [e2] X.env := by rfl) (hpl : (backTo pos (starEach [e2] X.env)).any (·.1) = false := by rfl) :
    PI X (.Tuple elts kk tpos) (.Call (.Name "zip" p) [e, e2] [] pos) (tI X.K c W (mZipG ms)) := by
  refine PI.weak (pi_zipG hg hm ha hs hpl) fun σ H R h => ?_
  obtain ⟨F, G, P, env, Rl, h⟩ := h
  refine ⟨F, G, P, env, Rl, (Post.bind h).imp fun ds G1 H1 P1 _ ⟨env1, R1, h1⟩ vs r => ?_⟩
  obtain ⟨items, q, h2⟩ := Post.opt h1
  match ds, r, q with
  | [], _, q => cases q
  | [_], _, q => cases q
  | _ :: _ :: _ :: _, _, q => cases q
  | [d1, d2], r, q =>
    obtain ⟨v1, v2, rfl, r1, r2⟩ := r.two
    obtain ⟨xs, e1, q⟩ := Option.bind_eq_some_iff.mp q
    obtain ⟨ys, e2, q⟩ := Option.map_eq_some_iff.mp q
    subst q
    obtain ⟨k1, us, rfl, s1, q1⟩ := zsrc_rep r1 e1
    obtain ⟨k2, ws, rfl, s2, q2⟩ := zsrc_rep r2 e2
    exact ⟨k1, k2, us, ws, rfl, s1 _ R1.gs, s2 _ R1.gs, Post.here R1 h2 _ (gives_pair (walk_zipG (by rw [zip2D_len, q1.length, q2.length])) (fun H hs => ⟨s1 H hs, s2 H hs⟩) q1 q2)⟩
end L2.DL
set_option Elab.async false
set_option linter.all false
set_option maxRecDepth 100000
set_option maxHeartbeats 4000000
namespace L2.DL
open PySem PySem.Spec PyProof.Rows
/-! ### what all laws have: slots that may be set, lists of integers, loops by invariants, dice -/
def Fr (q : Sl) : Prop := q = .no ∨ ∃ d, q = .val d
theorem fr_no : Fr .no := .inl rfl
theorem fr_val {d : D} : Fr (.val d) := .inr ⟨d, rfl⟩
theorem set_fr {q : Sl} (h : Fr q) {i : Nat} {v : Sl} {e : Ev} : setR (some q) i v e = some (e.set i v) := by
  rcases h with rfl | ⟨d, rfl⟩ <;> rfl
theorem atI_get {xs : List D} {i : Nat} {d : D} (h : xs[i]? = some d) : atI xs (i : Int) = some d := by
  have hi : i < xs.length := (List.getElem?_eq_some_iff.mp h).1
  unfold atI ixN
  rw [if_pos (by omega), if_pos (by omega)]
  simpa using h
theorem atI_last {xs : List D} {d : D} (h : xs[xs.length - 1]? = some d) : atI xs (-1) = some d := by
  have hi : xs.length - 1 < xs.length := (List.getElem?_eq_some_iff.mp h).1
  unfold atI ixN
  rw [if_neg (by omega), if_pos (by omega)]
  rw [show ((-1 : Int) + (xs.length : Int)).toNat = xs.length - 1 by omega]
  simpa using h
theorem ixN_nat {n k : Nat} (h : k < n) : ixN n (k : Int) = some k := by
  unfold ixN
  simp [h]
abbrev Zl (l : List Int) : List D := l.map D.int
def gt (l : List Int) (k : Nat) : Int := l.getD k 0
theorem gt_eq {l : List Int} {k : Nat} (h : k < l.length) : l[k]? = some (gt l k) := by simp [gt, h]
theorem gt_over {l : List Int} {k : Nat} (h : l.length ≤ k) : gt l k = 0 := by simp [gt, h]
@[simp] theorem gt_nil {k : Nat} : gt [] k = 0 := by simp [gt]
@[simp] theorem gt_zero {a : Int} {l : List Int} : gt (a :: l) 0 = a := by simp [gt]
@[simp] theorem gt_succ {a : Int} {l : List Int} {k : Nat} : gt (a :: l) (k + 1) = gt l k := by simp [gt]
theorem gt_left {a b : List Int} {k : Nat} (h : k < a.length) : gt (a ++ b) k = gt a k := by simp [gt, List.getD_eq_getElem?_getD, List.getElem?_append_left h]
theorem gt_right {a b : List Int} {k : Nat} (h : a.length ≤ k) : gt (a ++ b) k = gt b (k - a.length) := by simp [gt, List.getD_eq_getElem?_getD, List.getElem?_append_right h]
theorem gt_take {a : List Int} {k m : Nat} : gt (a.take m) k = if k < m then gt a k else 0 := by
  by_cases h : k < m <;> simp [gt, List.getD_eq_getElem?_getD, List.getElem?_take, h]
theorem gt_drop {a : List Int} {k m : Nat} : gt (a.drop m) k = gt a (m + k) := by simp [gt, List.getD_eq_getElem?_getD]
theorem gt_rep {n k : Nat} : gt (List.replicate n 0) k = 0 := by simp [gt, List.getD_eq_getElem?_getD, List.getElem?_replicate]; split <;> rfl
theorem gt_set {F : List Int} {k j : Nat} {x : Int} (h : k < F.length) : gt (F.set k x) j = if k = j then x else gt F j := by
  simp only [gt, List.getD_eq_getElem?_getD, List.getElem?_set]
  by_cases hj : k = j
  · subst hj
    simp [h]
  · simp [hj]
theorem gt_mem {l : List Int} {x : Int} (h : x ∈ l) : ∃ k, k < l.length ∧ gt l k = x := by
  obtain ⟨k, hk, e⟩ := List.mem_iff_getElem.mp h
  exact ⟨k, hk, by simp [gt, hk, e]⟩
theorem mem_gt {l : List Int} {k : Nat} (h : k < l.length) : gt l k ∈ l := List.mem_of_getElem? (gt_eq h)
theorem gt_ext {a b : List Int} (hl : a.length = b.length) (h : ∀ k, k < a.length → gt a k = gt b k) : a = b := by
  apply List.ext_getElem?
  intro k
  by_cases hk : k < a.length
  · rw [gt_eq hk, gt_eq (by omega), h k hk]
  · rw [List.getElem?_eq_none (by omega), List.getElem?_eq_none (by omega)]
theorem zl_get {l : List Int} {k : Nat} (h : k < l.length) : (Zl l)[k]? = some (.int (gt l k)) := by simp [gt, h]
theorem ix_lst {l : List Int} {k : Nat} (h : k < l.length) : dIx (.lst (Zl l)) (.int (k : Int)) = some (.int (gt l k)) := atI_get (zl_get h)
theorem ix_tup {l : List Int} {k : Nat} (h : k < l.length) : dIx (.tup (Zl l)) (.int (k : Int)) = some (.int (gt l k)) := atI_get (zl_get h)
theorem ix_c {l : List Int} {k : Nat} (h : k < l.length) : atI (Zl l) (k : Int) = some (.int (gt l k)) := atI_get (zl_get h)
theorem ix_last {l : List Int} (h : 0 < l.length) : atI (Zl l) (-1) = some (.int (gt l (l.length - 1))) := atI_last (by rw [List.length_map]; exact zl_get (by omega))
theorem Zl_set {l : List Int} {k : Nat} {x : Int} : (Zl l).set k (.int x) = Zl (l.set k x) := by simp [Zl, List.map_set]
theorem Zl_app {l m : List Int} : Zl l ++ Zl m = Zl (l ++ m) := by simp [Zl]
theorem Zl_take {l : List Int} {n : Nat} : (Zl l).take n = Zl (l.take n) := by simp [Zl, List.map_take]
theorem Zl_len {l : List Int} : (Zl l).length = l.length := List.length_map _
/-! bounds -/
def Bd (n : Nat) (x : Int) : Prop := x.natAbs < 2 ^ n
theorem Bd.mono {n m : Nat} {x : Int} (h : Bd n x) (k : n ≤ m) : Bd m x := Nat.lt_of_lt_of_le h (Nat.pow_le_pow_right (by omega) k)
theorem bd_zero {n : Nat} : Bd n 0 := Nat.two_pow_pos n
theorem Bd.mul {n m : Nat} {x y : Int} (h : Bd n x) (k : Bd m y) : Bd (n + m) (x * y) := by
  unfold Bd at *
  rw [Int.natAbs_mul, Nat.pow_add]
  exact Nat.mul_lt_mul'' h k
theorem Bd.add {n : Nat} {x y : Int} (h : Bd n x) (k : Bd n y) : Bd (n + 1) (x + y) := by
  unfold Bd at *
  rw [Nat.pow_succ]
  omega
theorem Bd.sub {n : Nat} {x y : Int} (h : Bd n x) (k : Bd n y) : Bd (n + 1) (x - y) := by
  unfold Bd at *
  rw [Nat.pow_succ]
  omega
theorem Bd.log {n : Nat} {x : Int} (h : Bd n x) : x.natAbs.log2 ≤ n := by
  by_cases e : x.natAbs = 0
  · rw [e]; simp
  · exact Nat.le_of_lt ((Nat.log2_lt e).mpr h)
theorem bd_mul_ok {n m : Nat} {x y : Int} (h : Bd n x) (k : Bd m y) (q : n + m < 1000000) : dMul (.int x) (.int y) = some (.int (x * y)) := by
  rw [dMul_int, if_pos]
  have := h.log
  have := k.log
  omega
theorem bd_gt {n : Nat} {l : List Int} (h : ∀ x ∈ l, Bd n x) (k : Nat) : Bd n (gt l k) := by
  by_cases hk : k < l.length
  · exact h _ (mem_gt hk)
  · rw [gt_over (by omega)]; exact bd_zero
/-! loops -/
/-- with an invariant, by the number of items that are done -/
theorem forL_inv {α : Type} {tg : TgM} {b : MS} (f : α → D) (I : Nat → Ev → Prop) : ∀ (xs : List α) (n : Nat) (e : Ev),
    (∀ i x e, xs[i]? = some x → I (n + i) e → ∃ e1 e2, tg (f x) e = some e1 ∧ b e1 = .ok .next e2 ∧ I (n + i + 1) e2) → I n e → ∃ e', forL tg b (xs.map f) e = .ok .next e' ∧ I (n + xs.length) e'
  | [], n, e, _, hi => ⟨e, rfl, hi⟩
  | x :: xs, n, e, h, hi => by
    obtain ⟨e1, e2, h1, h2, h3⟩ := h 0 x e rfl hi
    obtain ⟨e', h4, h5⟩ := forL_inv f I xs (n + 1) e2 (fun i y e hy hi => by
      have := h (i + 1) y e (by simpa using hy) (by rw [show n + (i + 1) = n + 1 + i by omega]; exact hi)
      rwa [show n + (i + 1) = n + 1 + i by omega] at this) h3
    refine ⟨e', ?_, ?_⟩
    · rw [List.map_cons, forL_next h1 h2, h4]
    · rwa [List.length_cons, show n + (xs.length + 1) = n + 1 + xs.length by omega]
theorem forL_inv0 {α : Type} {tg : TgM} {b : MS} (f : α → D) (I : Nat → Ev → Prop) (xs : List α) {e : Ev} (h0 : I 0 e)
    (h : ∀ i x e, xs[i]? = some x → I i e → ∃ e1 e2, tg (f x) e = some e1 ∧ b e1 = .ok .next e2 ∧ I (i + 1) e2) : ∃ e', forL tg b (xs.map f) e = .ok .next e' ∧ I xs.length e' := by
  obtain ⟨e', h1, h2⟩ := forL_inv f I xs 0 e (fun i x e hx hi => by
    rw [Nat.zero_add] at hi ⊢
    exact h i x e hx hi) h0
  exact ⟨e', h1, by simpa using h2⟩
/-- over range(n) -/
theorem forL_rg {tg : TgM} {b : MS} (I : Nat → Ev → Prop) (n : Nat) {e : Ev} (h0 : I 0 e)
    (h : ∀ i e, i < n → I i e → ∃ e1 e2, tg (.int (i : Nat)) e = some e1 ∧ b e1 = .ok .next e2 ∧ I (i + 1) e2) : ∃ e', forL tg b ((List.range n).map fun i => .int (i : Nat)) e = .ok .next e' ∧ I n e' := by
  obtain ⟨e', h1, h2⟩ := forL_inv0 (tg := tg) (b := b) (fun i : Nat => D.int (i : Nat)) I (List.range n) h0 (fun i x e hx hi => by
    have hl := (List.getElem?_eq_some_iff.mp hx).1
    rw [List.length_range] at hl
    rw [List.getElem?_range hl] at hx
    cases hx
    exact h i e hl hi)
  exact ⟨e', h1, by simpa using h2⟩
theorem enumD_map {α : Type} (f : α → D) : ∀ (xs : List α) (n : Nat), enumD n (xs.map f) = (xs.zipIdx n).map fun p => .tup [.int (p.2 : Nat), f p.1]
  | [], _ => rfl
  | x :: xs, n => by
    show .tup [.int n, f x] :: enumD (n + 1) (xs.map f) = _
    rw [enumD_map f xs (n + 1)]
    rfl
/-- over enumerate(integers) -/
theorem forL_enum {tg : TgM} {b : MS} (I : Nat → Ev → Prop) (l : List Int) {e : Ev} (h0 : I 0 e)
    (h : ∀ i e, i < l.length → I i e → ∃ e1 e2, tg (.tup [.int (i : Nat), .int (gt l i)]) e = some e1 ∧ b e1 = .ok .next e2 ∧ I (i + 1) e2) : ∃ e', forL tg b (enumD 0 (Zl l)) e = .ok .next e' ∧ I l.length e' := by
  rw [enumD_map]
  obtain ⟨e', h1, h2⟩ := forL_inv0 (tg := tg) (b := b) (fun p : Int × Nat => D.tup [.int (p.2 : Nat), .int p.1]) I (l.zipIdx 0) h0 (fun i x e hx hi => by
    have hl := (List.getElem?_eq_some_iff.mp hx).1
    rw [List.length_zipIdx] at hl
    rw [List.getElem?_zipIdx, gt_eq hl] at hx
    cases hx
    have := h i e hl hi
    simpa using this)
  exact ⟨e', h1, by simpa using h2⟩
/-- over the integers of a list -/
theorem forL_ints {tg : TgM} {b : MS} (I : Nat → Ev → Prop) (l : List Int) {e : Ev} (h0 : I 0 e)
    (h : ∀ i e, i < l.length → I i e → ∃ e1 e2, tg (.int (gt l i)) e = some e1 ∧ b e1 = .ok .next e2 ∧ I (i + 1) e2) : ∃ e', forL tg b (Zl l) e = .ok .next e' ∧ I l.length e' :=
  forL_inv0 (tg := tg) (b := b) D.int I l h0 (fun i x e hx hi => by
    have hl := (List.getElem?_eq_some_iff.mp hx).1
    rw [gt_eq hl] at hx
    cases hx
    exact h i e hl hi)
/-- a comprehension whose element changes the state -/
theorem lcL_inv {α : Type} {vs : List Nat} {tg : TgM} {el : M D} (f : α → D) (I : Nat → Ev → List D → Prop) : ∀ (xs : List α) (n : Nat) (e : Ev) (acc : List D), acc.length + xs.length ≤ 16777216 →
    (∀ i x e acc, xs[i]? = some x → I (n + i) e acc → ∃ e1 e3 y, tg (f x) e = some e1 ∧ el e1 = .ok y e3 ∧ noCells vs e3 = true ∧ I (n + i + 1) (wipeE vs e3) (acc ++ [y])) → I n e acc →
    ∃ e' acc', lcL vs tg mYes el (xs.map f) acc e = .ok (.lst acc') e' ∧ I (n + xs.length) e' acc'
  | [], n, e, acc, _, _, hi => ⟨e, acc, rfl, hi⟩
  | x :: xs, n, e, acc, hl, h, hi => by
    obtain ⟨e1, e3, y, h1, h2, h3, h4⟩ := h 0 x e acc rfl hi
    rw [List.length_cons] at hl
    obtain ⟨e', acc', h5, h6⟩ := lcL_inv f I xs (n + 1) (wipeE vs e3) (acc ++ [y]) (by rw [List.length_append, List.length_singleton]; omega) (fun i z e acc hy hi => by
      have := h (i + 1) z e acc (by simpa using hy) (by rw [show n + (i + 1) = n + 1 + i by omega]; exact hi)
      rwa [show n + (i + 1) = n + 1 + i by omega] at this) h4
    refine ⟨e', acc', ?_, ?_⟩
    · rw [List.map_cons, ← h5]
      show (match tg (f x) e with | some e1 => _ | none => _) = _
      rw [h1]
      dsimp only [mYes]
      show (match el e1 with | .ok y e3 => _ | _ => _) = _
      rw [h2]
      dsimp only
      rw [if_pos ⟨by omega, h3⟩]
    · rwa [List.length_cons, show n + (xs.length + 1) = n + 1 + xs.length by omega]
theorem lcL_rgI {vs : List Nat} {tg : TgM} {el : M D} (I : Nat → Ev → List D → Prop) (n : Nat) {e : Ev} (hn : n ≤ 16777216) (h0 : I 0 e [])
    (h : ∀ i e acc, i < n → I i e acc → ∃ e1 e3 y, tg (.int (i : Nat)) e = some e1 ∧ el e1 = .ok y e3 ∧ noCells vs e3 = true ∧ I (i + 1) (wipeE vs e3) (acc ++ [y])) :
    ∃ e' acc', lcL vs tg mYes el ((List.range n).map fun i => .int (i : Nat)) [] e = .ok (.lst acc') e' ∧ I n e' acc' := by
  obtain ⟨e', acc', h1, h2⟩ := lcL_inv (vs := vs) (tg := tg) (el := el) (fun i : Nat => D.int (i : Nat)) I (List.range n) 0 e [] (by simpa using hn) (fun i x e acc hx hi => by
    have hl := (List.getElem?_eq_some_iff.mp hx).1
    rw [List.length_range] at hl
    rw [List.getElem?_range hl] at hx
    cases hx
    rw [Nat.zero_add] at hi ⊢
    exact h i e acc hl hi) h0
  exact ⟨e', acc', h1, by simpa using h2⟩
theorem lc_rg {v : Nat} {el : M D} {e : Ev} {n : Nat} {f : Nat → D} (hn : n ≤ 16777216) (hv : e[v]? = some .no)
    (h : ∀ i, i < n → el (e.set v (.val (.int (i : Nat)))) = .ok (f i) (e.set v (.val (.int (i : Nat))))) :
    lcL [v] (gSet v) mYes el ((List.range n).map fun i => .int (i : Nat)) [] e = .ok (.lst ((List.range n).map f)) e := by
  have hlt : v < e.length := (List.getElem?_eq_some_iff.mp hv).1
  have hs : e.set v .no = e := by
    apply List.ext_getElem?
    intro k
    rw [List.getElem?_set]
    by_cases hk : v = k
    · subst hk; rw [if_pos rfl, if_pos hlt, hv]
    · rw [if_neg hk]
  have key := lc_same (vs := [v]) (tg := gSet v) (t := mYes) (el := el) (e := e) (p := fun _ => true) (f := fun d => match d with | .int k => f k.toNat | d => d)
    (fun d => e.set v (.val d)) ((List.range n).map fun i => .int (i : Nat)) (by simpa using hn) (fun d hd => by
      obtain ⟨i, hi, rfl⟩ := List.mem_map.mp hd
      have hi := List.mem_range.mp hi
      refine ⟨?_, rfl, fun _ => ?_, ?_, ?_⟩
      · rw [ev_gSet, hv]; rfl
      · rw [h i hi]; simp
      · simp [noCells, List.getElem?_set, hlt]
      · show ((e.set v _).set v .no) = e
        rw [List.set_set, hs])
  rw [key, List.filter_eq_self.mpr (fun _ _ => rfl), List.map_map]
  congr 2
/-- over all items of a list, with an element that changes nothing -/
theorem lc_all {α : Type} {v : Nat} {el : M D} {e : Ev} (xs : List α) (f g : α → D) (hn : xs.length ≤ 16777216) (hv : e[v]? = some .no)
    (h : ∀ x, x ∈ xs → el (e.set v (.val (f x))) = .ok (g x) (e.set v (.val (f x)))) :
    lcL [v] (gSet v) mYes el (xs.map f) [] e = .ok (.lst (xs.map g)) e := by
  have hlt : v < e.length := (List.getElem?_eq_some_iff.mp hv).1
  have hs : e.set v .no = e := by
    apply List.ext_getElem?
    intro k
    rw [List.getElem?_set]
    by_cases hk : v = k
    · subst hk; rw [if_pos rfl, if_pos hlt, hv]
    · rw [if_neg hk]
  obtain ⟨e', acc', h1, h2, h3⟩ := lcL_inv (vs := [v]) (tg := gSet v) (el := el) f (fun i e' acc => e' = e ∧ acc = (xs.take i).map g) xs 0 e [] (by simpa using hn) (fun i x e' acc hx hi => by
    obtain ⟨rfl, rfl⟩ := hi
    refine ⟨_, _, _, by rw [ev_gSet, hv]; rfl, h x (List.mem_of_getElem? hx), ?_, ?_, ?_⟩
    · simp [noCells, List.getElem?_set, hlt]
    · show ((e'.set v _).set v .no) = e'
      rw [List.set_set, hs]
    · rw [Nat.zero_add, List.take_add_one, hx]
      simp) ⟨rfl, by simp⟩
  subst h2 h3
  rw [h1]
  simp
/-! dice -/
def Dice (m : Int) (z : Cell) : Prop := ∃ a b k : Int, z = .lst [.int a, .int b, .int k] ∧ 0 ≤ k ∧ k ≤ m
theorem Dice.mono {m n : Int} {z : Cell} (h : Dice m z) (hn : m ≤ n) : Dice n z := by
  obtain ⟨a, b, k, h1, h2, h3⟩ := h
  exact ⟨a, b, k, h1, h2, by omega⟩
theorem log_small {a : Int} {n : Nat} (h : a.natAbs < 2 ^ n) (hn : 0 < n) : a.natAbs.log2 < n := by
  by_cases e : a.natAbs = 0
  · rw [e]; simpa using hn
  · exact (Nat.log2_lt e).mpr h
theorem at_map {ns : List Int} {i : Nat} (h : i < ns.length) : atI (ns.map D.int) (i : Int) = some (.int ns[i]) := by
  unfold atI ixN
  simp [h]
theorem by_wp {g : Cell → Fl} {r : Res Fl} {Q : Cell → Prop} (h : Wp r fun fl _ => ∃ z, fl = g z ∧ Q z) : ∃ z e, r = .ok (g z) e ∧ Q z := by
  obtain ⟨a, e, h1, z, rfl, h2⟩ := wp_eq h
  exact ⟨z, e, h1, h2⟩
def dice0 : FnO := mDefO 4 (mSeq (mSet 2 (mIf (mTest (mBin dLt (mName 1) (mFn fLen (mCons (mName 0) mNil)))) (mFn fInt (mCons (mBin dIx (mName 0) (mName 1)) mNil)) (mBin dAdd (mBin dMul (mC (.int 97)) (mName 1)) (mC (.int 53)))))
  (mSeq (mSet 3 (mBin dMod (mFn fMax (mCons (mC (.int 0)) (mCons (mBin dSub (mFn fAbs (mCons (mName 2) mNil)) (mBin dPow (mC (.int 10)) (mC (.int 16)))) mNil))) (mBin dMul (mBin dPow (mC (.int 10)) (mC (.int 60))) (mBin dPow (mC (.int 10)) (mC (.int 60))))))
  (mRetO (mLst (mCons (mName 3) (mCons (mBin dAdd (mBin dAdd (mBin dAdd (mBin dMul (mBin dMod (mFn fAbs (mCons (mName 2) mNil)) (mC (.int 1152921504606846577))) (mC (.int 67))) (mBin dMul (mC (.int 773)) (mName 1))) (mBin dMul (mC (.int 43)) (mFn fInt (mCons (mBin dLt (mName 2) (mC (.int 0))) mNil)))) (mC (.int 11))) (mCons (mC (.int 0)) mNil)))))))
def roll0 : Fn := mDef 5 (mSeq (mIf (mTest (mBin dGt (mIxC 0 (mC (.int 0))) (mC (.int 0))))
  (mSeq (mSet 2 (mBin dMod (mFn fInt (mCons (mIxC 0 (mC (.int 0))) mNil)) (mName 1)))
  (mSeq (mSetIx 0 (mC (.int 0)) (mBin dDiv (mIxC 0 (mC (.int 0))) (mName 1)))
  (mRet (mName 2))))
  M.next)
  (mSeq (mSetIx 0 (mC (.int 2)) (mBin dAdd (mIxC 0 (mC (.int 2))) (mC (.int 1))))
  (mSeq (mSet 3 (mBin dMod (mFn fInt (mCons (mBin dAdd (mIxC 0 (mC (.int 1))) (mBin dMul (mC (.int 104395301)) (mIxC 0 (mC (.int 2))))) mNil)) (mC (.int 2305843009213693613))))
  (mSeq (mSet 4 (mBin dAdd (mBin dMul (mBin dMod (mFn fInt (mCons (mBin dAdd (mBin dMul (mName 3) (mName 3)) (mBin dMul (mC (.int 107)) (mIxC 0 (mC (.int 2))))) mNil)) (mC (.int 2305843009213693519))) (mC (.int 3021377))) (mName 3)))
  (mRet (mBin dMod (mFn fInt (mCons (mBin dDiv (mName 4) (mC (.int 65536))) mNil)) (mName 1)))))))
def pick0 (r : Fn) : Fn := mDef 2 (mRet (mBin dIx (mName 1) (mCallL r 0 (mCons (mFn fLen (mCons (mName 1) mNil)) mNil))))
theorem dice0_ok {ns : List Int} {i : Nat} (hi : i < 64) : ∃ z e, dice0 [.ro (ns.map .int), .int i] = .ok z e ∧ Dice 0 z := by
  have hp : dPow (.int 10) (.int 16) = some (.int (10 ^ 16)) := dPow_nn (by decide) (by decide) (by decide)
  have hp2 : dPow (.int 10) (.int 60) = some (.int (10 ^ 60)) := dPow_nn (by decide) (by decide) (by decide)
  have hl : (10 ^ 60 : Int).natAbs.log2 + (10 ^ 60 : Int).natAbs.log2 < 1000000 := by
    have h := log_small (a := 10 ^ 60) (n := 256) (by decide) (by decide)
    omega
  have hM : dMul (.int (10 ^ 60)) (.int (10 ^ 60)) = some (.int (10 ^ 60 * 10 ^ 60)) := dMul_int.trans (if_pos hl)
  have hm : ∀ x : Int, dMod (.int x) (.int (10 ^ 60 * 10 ^ 60)) = some (.int (x % (10 ^ 60 * 10 ^ 60))) := fun x => dMod_pos (by decide)
  have hm2 : ∀ x : Int, dMod (.int x) (.int 1152921504606846577) = some (.int (x % 1152921504606846577)) := fun x => dMod_pos (by decide)
  have l1 : ∀ x : Int, dMul (.int (x % 1152921504606846577)) (.int 67) = some (.int (x % 1152921504606846577 * 67)) := fun x => if_pos (by
    have h1 := log_small (a := 67) (n := 64) (by decide) (by decide)
    have h2 := log_small (a := x % 1152921504606846577) (n := 64) (by omega) (by decide)
    omega)
  have l2 : dMul (.int 773) (.int i) = some (.int (773 * i)) := if_pos (by
    have h1 := log_small (a := 773) (n := 64) (by decide) (by decide)
    have h2 := log_small (a := i) (n := 64) (by omega) (by decide)
    omega)
  have l3 : dMul (.int 97) (.int i) = some (.int (97 * i)) := if_pos (by
    have h1 := log_small (a := 97) (n := 64) (by decide) (by decide)
    have h2 := log_small (a := i) (n := 64) (by omega) (by decide)
    omega)
  have l4 : ∀ x : Int, x = 0 ∨ x = 1 → dMul (.int 43) (.int x) = some (.int (43 * x)) := fun x hx => by
    rcases hx with rfl | rfl <;> rfl
  have key : ∀ (c : Int), ∃ z e, (mSeq (mSet 3 (mBin dMod (mFn fMax (mCons (mC (.int 0)) (mCons (mBin dSub (mFn fAbs (mCons (mName 2) mNil)) (mBin dPow (mC (.int 10)) (mC (.int 16)))) mNil))) (mBin dMul (mBin dPow (mC (.int 10)) (mC (.int 60))) (mBin dPow (mC (.int 10)) (mC (.int 60))))))
  (mRetO (mLst (mCons (mName 3) (mCons (mBin dAdd (mBin dAdd (mBin dAdd (mBin dMul (mBin dMod (mFn fAbs (mCons (mName 2) mNil)) (mC (.int 1152921504606846577))) (mC (.int 67))) (mBin dMul (mC (.int 773)) (mName 1))) (mBin dMul (mC (.int 43)) (mFn fInt (mCons (mBin dLt (mName 2) (mC (.int 0))) mNil)))) (mC (.int 11))) (mCons (mC (.int 0)) mNil))))))
      [.val (.ro (ns.map .int)), .val (.int i), .val (.int c), .no] = .ok (.retO z) e ∧ Dice 0 z := by
    intro c
    obtain ⟨x, hx⟩ : ∃ x : Int, x = if c < 0 then 1 else 0 := ⟨_, rfl⟩
    have hx' := l4 x (by rw [hx]; split <;> simp)
    refine by_wp ?_
    simp -implicitDefEqProofs only [ev_seq, ev_set, ev_bin, ev_fn, ev_cons, ev_C, ev_name, ev_nil, ev_retO, ev_lst, List.getElem?_cons_succ, List.getElem?_cons_zero, name_val, bnd_ok, fAbs_int, ev_some, hp, hp2, hM, dSub_int, fMax_int, hm, setR_no, updR_some, sq_next, List.set_cons_succ, List.set_cons_zero, hm2, l1, l2, dAdd_int, dLt_int, fInt_bl, decide_eq_true_eq, ← hx, hx', List.length_cons, List.length_nil, wp_ok]
    simp -implicitDefEqProofs only [show (0 + 1 + 1 + 1 ≤ 16777216) = True from by decide, if_true, wp_ok, bnd_ok]
    exact ⟨_, rfl, _, _, _, rfl, Int.le_refl _, Int.le_refl _⟩
  by_cases h : i < ns.length
  · obtain ⟨z, e, h1, h2⟩ := key ns[i]
    refine ⟨z, e, ?_, h2⟩
    unfold dice0
    rw [ev_defO]
    simp -implicitDefEqProofs only [List.map_cons, List.map_nil, List.length_cons, List.length_nil]
    show endO ((mSeq _ _) [.val (.ro (ns.map .int)), .val (.int i), .no, .no]) = _
    rw [ev_seq]
    have e1 : (mSet 2 (mIf (mTest (mBin dLt (mName 1) (mFn fLen (mCons (mName 0) mNil)))) (mFn fInt (mCons (mBin dIx (mName 0) (mName 1)) mNil)) (mBin dAdd (mBin dMul (mC (.int 97)) (mName 1)) (mC (.int 53))))) [.val (.ro (ns.map .int)), .val (.int i), .no, .no] = .ok .next [.val (.ro (ns.map .int)), .val (.int i), .val (.int ns[i]), .no] := by
      have hat : dIx (.ro (ns.map .int)) (.int i) = some (.int ns[i]) := at_map h
      simp -implicitDefEqProofs [h, hat]
    rw [e1, sq_next, h1]
    rfl
  · obtain ⟨z, e, h1, h2⟩ := key (97 * i + 53)
    refine ⟨z, e, ?_, h2⟩
    unfold dice0
    rw [ev_defO]
    simp -implicitDefEqProofs only [List.map_cons, List.map_nil, List.length_cons, List.length_nil]
    show endO ((mSeq _ _) [.val (.ro (ns.map .int)), .val (.int i), .no, .no]) = _
    rw [ev_seq]
    have e1 : (mSet 2 (mIf (mTest (mBin dLt (mName 1) (mFn fLen (mCons (mName 0) mNil)))) (mFn fInt (mCons (mBin dIx (mName 0) (mName 1)) mNil)) (mBin dAdd (mBin dMul (mC (.int 97)) (mName 1)) (mC (.int 53))))) [.val (.ro (ns.map .int)), .val (.int i), .no, .no] = .ok .next [.val (.ro (ns.map .int)), .val (.int i), .val (.int (97 * i + 53)), .no] := by
      simp -implicitDefEqProofs [h, l3]
    rw [e1, sq_next, h1]
    rfl
theorem roll0_ok {z : Cell} {m t : Int} (h : Dice m z) (hm : m < 1000000) (h0 : 0 < t) (h1 : Bd 300 t) : ∃ r z', roll0 [.cell true z, .val (.int t)] = .ok (.int r) [.cell true z', .no] ∧ 0 ≤ r ∧ r < t ∧ Dice (m + 1) z' := by
  obtain ⟨a, b, k, rfl, k0, k1⟩ := h
  have ht : t.natAbs.log2 < 9000 := Nat.lt_of_le_of_lt h1.log (by decide)
  by_cases ha : 0 < a
  · refine ⟨a % t, .lst [.int (a / t), .int b, .int k], ?_, Int.emod_nonneg _ (by omega), Int.emod_lt_of_pos _ h0, _, _, _, rfl, k0, by omega⟩
    simp -implicitDefEqProofs [roll0, ev_ixC, atI, ixN, ha, dMod_pos h0, dDiv_pos h0 ht]
  · have e1 : ∀ x, dMod (.int x) (.int 2305843009213693613) = some (.int (x % 2305843009213693613)) := fun x => dMod_pos (by decide)
    have e2 : ∀ x, dMod (.int x) (.int 2305843009213693519) = some (.int (x % 2305843009213693519)) := fun x => dMod_pos (by decide)
    have e3 : ∀ x, dDiv (.int x) (.int 65536) = some (.int (x / 65536)) := fun x => dDiv_pos (by decide) (by decide)
    have l1 : (104395301 : Int).natAbs.log2 + (k + 1).natAbs.log2 < 1000000 := by
      have h1 := log_small (a := 104395301) (n := 64) (by decide) (by decide)
      have h2 := log_small (a := k + 1) (n := 64) (by omega) (by decide)
      omega
    have l2 : (107 : Int).natAbs.log2 + (k + 1).natAbs.log2 < 1000000 := by
      have h1 := log_small (a := 107) (n := 64) (by decide) (by decide)
      have h2 := log_small (a := k + 1) (n := 64) (by omega) (by decide)
      omega
    have l3 : ∀ x : Int, (x % 2305843009213693613).natAbs.log2 + (x % 2305843009213693613).natAbs.log2 < 1000000 := fun x => by
      have h2 := log_small (a := x % 2305843009213693613) (n := 64) (by omega) (by decide)
      omega
    have l4 : ∀ x : Int, (x % 2305843009213693519).natAbs.log2 + (3021377 : Int).natAbs.log2 < 1000000 := fun x => by
      have h1 := log_small (a := 3021377) (n := 64) (by decide) (by decide)
      have h2 := log_small (a := x % 2305843009213693519) (n := 64) (by omega) (by decide)
      omega
    obtain ⟨one, ho⟩ : ∃ one, one = (b + 104395301 * (k + 1)) % 2305843009213693613 := ⟨_, rfl⟩
    obtain ⟨u, hu⟩ : ∃ u, u = (one * one + 107 * (k + 1)) % 2305843009213693519 := ⟨_, rfl⟩
    have l3' : one.natAbs.log2 + one.natAbs.log2 < 1000000 := by rw [ho]; exact l3 _
    have l4' : u.natAbs.log2 + (3021377 : Int).natAbs.log2 < 1000000 := by rw [hu]; exact l4 _
    have l5 : Nat.log2 104395301 + (k + 1).natAbs.log2 < 1000000 := l1
    have l6 : Nat.log2 107 + (k + 1).natAbs.log2 < 1000000 := l2
    have l7 : u.natAbs.log2 + Nat.log2 3021377 < 1000000 := l4'
    refine ⟨((u * 3021377 + one) / 65536) % t, .lst [.int a, .int b, .int (k + 1)], ?_, Int.emod_nonneg _ (by omega), Int.emod_lt_of_pos _ h0, _, _, _, rfl, by omega, by omega⟩
    simp -implicitDefEqProofs [roll0, ev_ixC, atI, ixN, ha, dMod_pos h0, e1, e2, e3, l5, l6, ← ho, ← hu, l3', l7]
theorem bd_of {n : Nat} {t : Int} {k : Nat} (h : t.natAbs ≤ k) (hk : k < 2 ^ n) : Bd n t := Nat.lt_of_le_of_lt h hk
theorem bd_small {n : Nat} {t : Int} (h : t.natAbs < 1000000) (hn : 20 ≤ n) : Bd n t := Bd.mono (n := 20) (Nat.lt_trans h (by decide)) hn
theorem roll0_sm {z : Cell} {m t : Int} (h : Dice m z) (hm : m < 1000000) (h0 : 0 < t) (h1 : t < 1000000) : ∃ r z', roll0 [.cell true z, .val (.int t)] = .ok (.int r) [.cell true z', .no] ∧ 0 ≤ r ∧ r < t ∧ Dice (m + 1) z' :=
  roll0_ok h hm h0 (bd_small (by omega) (by decide))
theorem pick0_ok {z : Cell} {m : Int} {xs : List D} (h : Dice m z) (hm : m < 900000) (h0 : 0 < xs.length) (h1 : xs.length < 1000) :
    ∃ d z', pick0 roll0 [.cell true z, .val (.lst xs)] = .ok d [.cell true z', .no] ∧ d ∈ xs ∧ Dice (m + 1) z' := by
  obtain ⟨k, z', e, k0, k1, hd⟩ := roll0_sm (t := (xs.length : Int)) h (by omega) (by omega) (by omega)
  obtain ⟨k, rfl⟩ := Int.eq_ofNat_of_zero_le k0
  have hk : k < xs.length := by omega
  refine ⟨xs[k], z', ?_, List.getElem_mem hk, hd⟩
  have hix : dIx (.lst xs) (.int (k : Int)) = some xs[k] := atI_get (by simp [hk])
  simp -implicitDefEqProofs [pick0, e, hix]
end L2.DL
set_option Elab.async false
set_option linter.all false
set_option maxRecDepth 100000
set_option maxHeartbeats 4000000
namespace L2.DL
open PySem PySem.Spec PyProof.Rows
/-! ### repr of data -/
mutual
def toPyE : D → Option PyData
  | .non => some .none
  | .bl b => some (.bool b)
  | .int i => some (.int i)
  | .str x => some (.str x)
  | .lst xs => (toPysE xs).map .list
  | .tup xs => (toPysE xs).map .tuple
  | .dct [] => some (.dict [])
  | _ => none
def toPysE : List D → Option (List PyData)
  | [] => some []
  | x :: xs => (toPyE x).bind fun y => (toPysE xs).map (y :: ·)
end
mutual
/-- a bound of the text's length -/
def plenE : PyData → Nat
  | .none => 4
  | .bool _ => 5
  | .int _ => 1921
  | .str x => if x.cps.toList.all (fun c => decide (c < 16 ^ 8)) then 10 * x.length + 2 else 16777217
  | .list xs => plensE xs + 3
  | .tuple xs => plensE xs + 3
  | .dict [] => 2
  | .dict _ => 16777217
def plensE : List PyData → Nat
  | [] => 0
  | x :: xs => plenE x + 2 + plensE xs
end
def canShowE (d : PyData) : Bool := d.showable && decide (d.depth ≤ 40) && decide (plenE d ≤ 16777216)
def dReprE (d : D) : Option D := (toPyE d).bind fun p => if canShowE p then some (.str p.shown) else none
mutual
theorem plen_okE : ∀ d : PyData, d.showable = true → plenE d ≤ 16777216 → d.shown.length ≤ plenE d
  | .none, _, _ => by rw [PyData.shown_none]; decide
  | .bool b, _, _ => by rw [PyData.shown_bool]; cases b <;> decide
  | .int i, h, _ => by
    rw [PyData.shown_int]
    have : i.natAbs.log2 < 1920 := by simpa [PyData.showable] using h
    exact PyProof.Rows.int_text_len_1921 this
  | .str x, _, h => by
    rw [PyData.shown_str]
    unfold plenE at h ⊢
    split at h
    · rename_i hc
      rw [if_pos hc]
      exact StrLaws.reprText_len x fun c hc2 => of_decide_eq_true (List.all_eq_true.mp hc c hc2)
    · omega
  | .list xs, h1, h3 => by
    unfold plenE at h3 ⊢
    have := plens_okE xs (by simpa [PyData.showable] using h1) (by omega)
    have e : (PyData.list xs).shown = listText (PyData.shownAll xs) := by simp only [PyData.shown]
    rw [e]
    have := listText_len_le (PyData.shownAll xs)
    have := PyData.shownAll_length xs
    omega
  | .tuple xs, h1, h3 => by
    unfold plenE at h3 ⊢
    have := plens_okE xs (by simpa [PyData.showable] using h1) (by omega)
    have e : (PyData.tuple xs).shown = tupleText (PyData.shownAll xs) := by simp only [PyData.shown]
    rw [e]
    have := tupleText_len_le (PyData.shownAll xs)
    have := PyData.shownAll_length xs
    omega
  | .dict [], _, _ => by decide
  | .dict (_ :: _), _, h => by unfold plenE at h; omega
theorem plens_okE : ∀ xs : List PyData, PyData.showableAll xs = true → plensE xs ≤ 16777216 → ((PyData.shownAll xs).map (·.length)).sum + 2 * xs.length ≤ plensE xs
  | [], _, _ => by simp [PyData.shownAll, plensE]
  | x :: xs, h1, h3 => by
    simp only [PyData.showableAll, Bool.and_eq_true] at h1
    unfold plensE at h3 ⊢
    have a := plen_okE x h1.1 (by omega)
    have b := plens_okE xs h1.2 (by omega)
    simp only [PyData.shownAll, List.map_cons, List.sum_cons, List.length_cons]
    omega
end
section
variable {X : Cx} {c : Cl} {pins : List (Addr × Obj)} {σ : St} {H G : Hp} {s : Shared}
mutual
theorem reads_ofE (I : Inv X pins σ H s) (hs : Same G H) (hy : H sysModules = none) : ∀ {v : V} {d : D} {p : PyData} {u : Value}, Rep X.K c G v d → toPyE d = some p → RelV v u → ∃ as, Reads s.heap u p as ∧ sysModules ∉ as
  | _, _, _, _, .non, e, r => by
    unfold toPyE at e; cases e
    cases (show _ = Value.none from r)
    exact ⟨_, .none, by simp⟩
  | _, _, _, _, .bl b, e, r => by
    unfold toPyE at e; cases e
    cases (show _ = Value.bool b from r)
    exact ⟨_, .bool b, by simp⟩
  | _, _, _, _, .int i, e, r => by
    unfold toPyE at e; cases e
    obtain ⟨t, rfl⟩ := r
    exact ⟨_, .int i t, by simp⟩
  | _, _, _, _, .str x, e, r => by
    unfold toPyE at e; cases e
    obtain ⟨t, rfl⟩ := r
    exact ⟨_, .str x t, by simp⟩
  | _, _, _, _, .ty n, e, r => by unfold toPyE at e; cases e
  | _, _, _, _, .glb n, e, r => by unfold toPyE at e; cases e
  | _, _, _, _, .ro h rs, e, r => by unfold toPyE at e; cases e
  | _, _, _, _, .obj h rs, e, r => by unfold toPyE at e; cases e
  | _, _, _, _, .dct (a := a) h rs, e, r => by
    cases rs with
    | cons _ _ => unfold toPyE at e; cases e
    | nil =>
      unfold toPyE at e; cases e
      cases (show _ = Value.ref a from r)
      obtain ⟨_, z, vs, kv, o, es, ep, at_, ex, dt, _, pr, _⟩ := dk_rd I.hok (Same.rd hs h)
      cases kv
      have he : es.toList = [] := by
        generalize es.toList = l at pr
        cases pr
        rfl
      refine ⟨_, .dict (as := []) (bs := []) at_ ex.1 dt (by rw [he]; exact .nil) (by rw [he]; exact .nil), fun q => ?_⟩
      rcases List.mem_cons.mp q with q | q
      · rw [q] at z; simp at z
      · cases q
  | _, _, _, _, .lst (a := a) h rs, e, r => by
    unfold toPyE at e
    obtain ⟨ps, e1, e2⟩ := Option.map_eq_some_iff.mp e
    subst e2
    cases (show _ = Value.ref a from r)
    obtain ⟨_, its, n, rv, at_⟩ := I.hok a _ (hs _ _ h)
    obtain ⟨as, ra, rn⟩ := reads_allE I hs hy rs e1 rv
    refine ⟨_, .list at_ rfl rfl ra, fun z => ?_⟩
    rcases List.mem_cons.mp z with z | z
    · have q := hs _ _ h
      rw [← z, hy] at q
      cases q
    · exact rn z
  | _, _, _, _, .tup (a := a) h rs, e, r => by
    unfold toPyE at e
    obtain ⟨ps, e1, e2⟩ := Option.map_eq_some_iff.mp e
    subst e2
    cases (show _ = Value.ref a from r)
    obtain ⟨its, rv, ⟨o, at_, hc, n, hd⟩, _⟩ := I.tuple (Same.seqT hs h)
    obtain ⟨as, ra, rn⟩ := reads_allE I hs hy rs e1 rv
    exact ⟨_, .tuple at_ hc hd ra, rn⟩
theorem reads_allE (I : Inv X pins σ H s) (hs : Same G H) (hy : H sysModules = none) : ∀ {vs : List V} {ds : List D} {ps : List PyData} {us : List Value}, Reps X.K c G vs ds → toPysE ds = some ps → Vals vs us → ∃ as, ReadsAll s.heap us ps as ∧ sysModules ∉ as
  | _, _, _, _, .nil, e, r => by
    unfold toPysE at e; cases e
    cases r
    exact ⟨_, .nil, by simp⟩
  | _, _, _, _, .cons h t, e, r => by
    unfold toPysE at e
    obtain ⟨p, e1, e2⟩ := Option.bind_eq_some_iff.mp e
    obtain ⟨ps, e3, e4⟩ := Option.map_eq_some_iff.mp e2
    subst e4
    cases r with
    | cons r1 r2 =>
      obtain ⟨as, a1, n1⟩ := reads_ofE I hs hy h e1 r1
      obtain ⟨bs, a2, n2⟩ := reads_allE I hs hy t e3 r2
      exact ⟨_, .cons a1 a2, fun z => (List.mem_append.mp z).elim n1 n2⟩
end
end
def fReprE : List D → Option D
  | [d] => dReprE d
  | _ => none
theorem cd_reprE {X : Cx} {c : Cl} (hr : Sh X.A) (sy : Sy X.base) : CallD X c (.builtin "repr") fReprE := calld_of fun G H xs ds d hs rs e => by
  refine ⟨fun xs' H' Q => xs' = xs ∧ H' = H ∧ ∀ w, d = .str w → Q (.str w) H, ?_, fun Q q => ⟨rfl, rfl, fun w hw => q G H _ (Pure.refl hs) (by rw [hw]; exact .str w)⟩⟩
  rintro pins s σ _ _ us Q I r ⟨rfl, rfl, q⟩
  cases rs with
  | nil => simp [fReprE] at e
  | cons h t =>
    cases t with
    | cons _ _ => simp [fReprE] at e
    | nil =>
      rename_i v dd
      unfold fReprE dReprE at e
      dsimp only at e
      obtain ⟨p, e1, e2⟩ := Option.bind_eq_some_iff.mp e
      split at e2
      · rename_i hc
        cases e2
        obtain ⟨u, rfl, ru⟩ := r.one
        obtain ⟨⟨_, oo, _, _, eo, _⟩, _⟩ := sy
        obtain ⟨as, rd, rn⟩ := reads_ofE I hs (I.bs _ _ eo).2 h e1 ru
        unfold canShowE at hc
        simp only [Bool.and_eq_true, decide_eq_true_eq] at hc
        obtain ⟨⟨c1, c3⟩, c4⟩ := hc
        have len : p.shown.length ≤ sizeLine := by
          rw [sizeLine_eq]
          exact Nat.le_trans (plen_okE p c1 c4) c4
        have q := q _ rfl
        have un := hr.units
        cases rd with
        | none => exact P.repr_of_none ⟨.str (PyData.shown .none), _, I.tok _, ⟨_, by rw [PyData.shown_none]⟩, q⟩
        | bool b => exact P.repr_of_bool ⟨.str (PyData.shown (.bool b)), _, I.tok _, ⟨_, by rw [PyData.shown_bool]⟩, q⟩
        | int i t => exact P.repr_of_int (by simpa [PyData.showable] using c1) ⟨.str (PyData.shown (.int i)), _, I.tok _, ⟨_, by rw [PyData.shown_int]⟩, q⟩
        | str x t => exact P.repr_of_str ⟨.str (PyData.shown (.str x)), _, I.tok _, ⟨_, by rw [PyData.shown_str]⟩, q⟩ (by rw [← PyData.shown_str]; exact len)
        | list a1 a2 a3 a4 =>
          exact repr_of_reads' (.list a1 a2 a3 a4) c1 (fun _ => rn) hr.gd (by omega) (fun _ _ z => z) (fun h' u tk k => ⟨.str (PyData.shown _), _, I.kept (t' := tk) k, ⟨_, rfl⟩, q⟩) len
        | tuple a1 a2 a3 a4 =>
          exact repr_of_reads' (.tuple a1 a2 a3 a4) c1 (fun _ => rn) hr.gd (by omega) (fun _ _ z => z) (fun h' u tk k => ⟨.str (PyData.shown _), _, I.kept (t' := tk) k, ⟨_, rfl⟩, q⟩) len
        | dict a1 a2 a3 a4 a5 =>
          exact repr_of_reads' (.dict a1 a2 a3 a4 a5) c1 (fun _ => rn) hr.gd (by omega) (fun _ _ z => z) (fun h' u tk k => ⟨.str (PyData.shown _), _, I.kept (t' := tk) k, ⟨_, rfl⟩, q⟩) len
      · cases e2
/-! ### tuples of great integers -/
section
variable {prog : Program} {w : World} {A : Around} {E : Value → Shared → Prop} {s : Shared} {a : Int} {t : Tok}
theorem call_int_great {Q : Value → Shared → Prop} (hn : s.heap.NoDigits) (hlt : a.natAbs < 10 ^ 4300) (h : Q (.str (toString a) s.toks) { s with toks := s.toks + 1 }) :
    wpAny (model prog w) A (call (.builtin "int.__repr__") [.int a t]) Q E s := by
  refine wpAny_call_entry F.slot_int_repr (typeIs_int s a t) F.entry_int_repr (?_ : wpAny _ _ (Builtin.«int.__repr__» _) _ _ s) (F.args_int_repr_1 _)
  unfold Builtin.«int.__repr__»; show wpAny _ _ (do let r ← Builtin.overDigitLimit? a; _) _ _ s
  refine wpAny_bind (overDigitLimit_any hn (fun _ => ?_) fun hge => absurd hlt (Nat.not_lt.mpr hge))
  refine wpAny_bind (wpAny_mkStr (wpAny_pure ?_) (int_text_fits10 hlt))
  exact ⟨_, rfl, h⟩
theorem reprK_great {h₀ : Heap} {as : List Addr} {d : Nat} (hn : h₀.NoDigits) (hlt : a.natAbs < 10 ^ 4300) (hd : 1 ≤ d) : ReprK prog w as h₀ d (.int a t) (toString a) :=
  fun base hb A g E s Q hg hcl hu hk hQ => by
    rw [pyReprUnder_leaf (v := .int a t) (by omega) (fun _ e => nomatch e)]
    unfold pyRepr
    exact wpAny_bind (wpAny_pyReprObj_slot (by omega) (typeIs_int s a t) F.slot_int_repr.toG (call_int_great (hn.keeps hk) hlt ⟨_, _, rfl, wpAny_pure (hQ s.heap _ fun _ _ e => e)⟩))
theorem reprAll_great {h₀ : Heap} {as : List Addr} {d : Nat} (hn : h₀.NoDigits) (hd : 1 ≤ d) : ∀ {us : List Value} {ns : List Int}, Vals (ns.map V.int) us → (∀ n ∈ ns, n.natAbs < 10 ^ 4300) → ReprAllK prog w as h₀ d us (ns.map fun n => (Str.ofString (toString n)))
  | _, [], .nil, _ => .nil
  | _, n :: ns, .cons r rs, h => by
    obtain ⟨t, rfl⟩ := r
    exact .cons (reprK_great hn (h n List.mem_cons_self) hd) (reprAll_great hn hd rs fun k hk => h k (List.mem_cons_of_mem _ hk))
end
theorem len_great {n : Int} (h : n.natAbs.log2 < 6000) : (Str.ofString (toString n)).length ≤ 6001 := by
  rw [PySem.ofString_length]
  exact int_text_length_le (by decide) h
theorem lens_great : ∀ {ns : List Int}, (∀ n ∈ ns, n.natAbs.log2 < 6000) → (((ns.map fun n => Str.ofString (toString n))).map (·.length)).sum ≤ 6001 * ns.length
  | [], _ => by simp
  | n :: ns, h => by
    have a := len_great (h n List.mem_cons_self)
    have b := lens_great (ns := ns) fun k hk => h k (List.mem_cons_of_mem _ hk)
    simp only [List.map_cons, List.sum_cons, List.length_cons]
    omega
theorem lt_great {n : Int} (h : n.natAbs.log2 < 6000) : n.natAbs < 10 ^ 4300 :=
  Nat.lt_of_lt_of_le (lt_of_log2 h) (Nat.le_trans (Nat.pow_le_pow_right (by decide) (by decide)) pow_lo)
def okN (ns : List Int) : Bool := ns.all (fun n => decide (n.natAbs.log2 < 6000)) && decide (ns.length ≤ 1000)
def dReprN (d : D) : Option D := match d with
  | .tup xs => (D.ints xs).bind fun ns => if okN ns = true then some (.str (tupleText (ns.map fun n => Str.ofString (toString n)))) else none
  | _ => none
def fReprN (ds : List D) : Option D := match fReprE ds with
  | some d => some d
  | none => match ds with
    | [d] => dReprN d
    | _ => none
theorem fReprN_E {ds : List D} {d : D} (h : fReprE ds = some d) : fReprN ds = some d := by
  unfold fReprN
  rw [h]
theorem ints_of : ∀ ns : List Int, D.ints (ns.map D.int) = some ns
  | [] => rfl
  | n :: ns => by
    show (D.ints (ns.map D.int)).map (n :: ·) = _
    rw [ints_of ns]
    rfl
theorem fReprE_str {ds : List D} {d : D} (h : fReprE ds = some d) : ∃ x, d = .str x := by
  unfold fReprE dReprE at h
  split at h
  · obtain ⟨p, _, e2⟩ := Option.bind_eq_some_iff.mp h
    split at e2
    · cases e2; exact ⟨_, rfl⟩
    · cases e2
  · cases h
/-- a tuple of integers has a text -/
theorem fReprN_ints {ns : List Int} (h : ∀ n ∈ ns, n.natAbs.log2 < 6000) (hl : ns.length ≤ 1000) : ∃ x, fReprN [.tup (ns.map .int)] = some (.str x) := by
  cases e : fReprE [.tup (ns.map .int)] with
  | some d =>
    obtain ⟨x, rfl⟩ := fReprE_str e
    exact ⟨x, fReprN_E e⟩
  | none =>
    unfold fReprN
    rw [e]
    dsimp only [dReprN]
    rw [ints_of]
    have ok : okN ns = true := by
      unfold okN
      rw [decide_eq_true hl, Bool.and_true, List.all_eq_true]
      exact fun n hn => decide_eq_true (h n hn)
    exact ⟨_, by rw [Option.bind_some, if_pos ok]⟩
theorem cd_reprN {X : Cx} {c : Cl} (hr : Sh X.A) (sy : Sy X.base) : CallD X c (.builtin "repr") fReprN := by
  intro pins s σ H xs us Q I rx hq
  obtain ⟨G, ds, d, hs, rs, e, q⟩ := hq
  unfold fReprN at e
  cases e0 : fReprE ds with
  | some d' =>
    rw [e0] at e
    cases e
    exact cd_reprE hr sy pins s σ H xs us Q I rx ⟨G, ds, d, hs, rs, e0, q⟩
  | none =>
    rw [e0] at e
    dsimp only at e
    cases rs with
    | nil => cases e
    | cons h t =>
      cases t with
      | cons _ _ => cases e
      | nil =>
        dsimp only [dReprN] at e
        cases h with
        | tup hS hR =>
          dsimp only at e
          obtain ⟨ns, e1, e2⟩ := Option.bind_eq_some_iff.mp e
          obtain ⟨v1, _⟩ := ints_rep hR e1
          split at e2
          · rename_i ok
            cases e2
            subst v1
            unfold okN at ok
            rw [Bool.and_eq_true, List.all_eq_true, decide_eq_true_eq] at ok
            have hb : ∀ n ∈ ns, n.natAbs.log2 < 6000 := fun n hn => of_decide_eq_true (ok.1 n hn)
            obtain ⟨u, rfl, ru⟩ := rx.one
            cases (show _ = Value.ref _ from ru)
            obtain ⟨its, rv, ⟨o, at_, oc, n, od⟩, _⟩ := I.tuple (Same.seqT hs hS)
            have nd : s.heap.NoDigits := (show X.base.NoDigits from sy.2).keeps I.bk
            have un := hr.units
            have len := tupleText_len_le (ns.map fun n => Str.ofString (toString n))
            have len2 := lens_great hb
            rw [List.length_map] at len
            refine call_repr_slot (by omega) ⟨o, at_, oc⟩ F.slot_tuple_repr (call_tuple_reprK (as := []) (d := 1) (h₀ := s.heap) at_ oc od (by simp) (reprAll_great nd (Nat.le_refl _) rv fun n hn => lt_great (hb n hn)) hr.gd (fun b _ => Clear.nil b) (by show X.A.units + 1 + (1 + 1) < cLine; omega) (fun _ _ z => z) (fun h' u tk k => ?_) (by rw [sizeLine_eq]; omega))
            exact ⟨_, _, rfl, .str _, H, I.kept (t' := tk) k, ⟨_, rfl⟩, q G H _ (Pure.refl hs) (.str _)⟩
          · cases e2
        | _ => cases e
end L2.DL
set_option Elab.async false
set_option linter.all false
set_option maxRecDepth 100000
set_option maxHeartbeats 4000000
namespace L2.DL
open PySem PySem.Spec PyProof.Rows
/-! ### a list of one's own compared, and one's own still -/
def cmpR (g : D → D → Option D) (s : Option Sl) (b : D) (e : Ev) : Res D := match s with
  | some (.cell _ (.lst xs)) => match g (.lst xs) b with
    | some (.bl k) => .ok (.bl k) e
    | _ => .bad
  | _ => .bad
def mCmpC (g : D → D → Option D) (i : Nat) (m : M D) : M D := fun env => match env[i]? with
  | some (.cell _ (.lst _)) => (m env).bnd fun b e => cmpR g e[i]? b e
  | _ => .bad
theorem ev_cmpC {g : D → D → Option D} {i : Nat} {m : M D} {e : Ev} (h : isL e[i]? = true) : mCmpC g i m e = (m e).bnd fun b e => cmpR g e[i]? b e := by
  obtain ⟨l, xs, he⟩ := isL_spec h
  unfold mCmpC
  rw [he]
@[simp] theorem cmpR_lst {g : D → D → Option D} {l : Bool} {xs : List D} {b : D} {e : Ev} : cmpR g (some (.cell l (.lst xs))) b e = match g (.lst xs) b with
    | some (.bl k) => .ok (.bl k) e
    | _ => .bad := rfl
section
variable {X : Cx} {c : Cl} {W : WX} {pos : Pos} {a b : Expr} {m : M D} {i : Nat}
/-- what was known with the list among the data is known without it -/
theorem peek_pure {c : Cl} {G H H' G' : Hp} {p : Addr} {vs : List V} (hp : G p = none) (q : Pure c H (upd G p (.lst vs)) H' G') : Pure c H G H' (fun b => if b = p then none else G' b) := by
  have up : upd G p (.lst vs) p = some (.lst vs) := if_pos rfl
  have un : ∀ b, b ≠ p → upd G p (.lst vs) b = G b := fun b h => if_neg h
  have gp : G' p = some (.lst vs) := q.same p _ up
  refine ⟨fun b o h => ?_, q.hs, fun b o h => ?_, fun b o h1 h2 h3 => ?_, fun t => ?_, fun n => fun b ps z => ?_⟩
  · have e : b ≠ p := fun z => by rw [z, hp] at h; cases h
    show (if b = p then none else G' b) = some o
    rw [if_neg e]
    exact q.same b o (by rw [un b e]; exact h)
  · split at h
    · cases h
    · exact q.gs b o h
  · split
    · rfl
    · rename_i e
      exact q.fresh b o h1 h2 (by rw [un b e]; exact h3)
  · have t1 : Tbs c (upd G p (.lst vs)) H := t.mono fun b o h => by
      have e : b ≠ p := fun z => by rw [z, hp] at h; cases h
      rw [un b e]; exact h
    have t2 := q.tabs t1
    intro x hx
    obtain ⟨ps, h1, h2, h3⟩ := t2 x hx
    refine ⟨ps, h1, h2, fun pos cv z => ?_⟩
    obtain ⟨a, e1, e2⟩ := h3 pos cv z
    refine ⟨a, e1, ?_⟩
    have e : a ≠ p := fun z => by
      rw [z, gp] at e2
      injection e2 with e2
      cases e2
    show (if a = p then none else G' a) = _
    rw [if_neg e]
    exact e2
  · split at z
    · cases z
    · rename_i e
      refine q.ng (fun b ps z => ?_) b ps z
      by_cases e : b = p
      · rw [e, up] at z
        injection z with z
        cases z
      · rw [un b e] at z
        exact n b ps z
theorem upd_cell {G H : Hp} {p : Addr} {vs : List V} (s : Same G H) (h : H p = some (.lst vs)) : Same (upd G p (.lst vs)) H := fun b o e => by
  by_cases z : b = p
  · subst z
    rw [show upd G b (.lst vs) b = some (.lst vs) from if_pos rfl] at e
    rw [h, ← e]
  · rw [show upd G p (.lst vs) b = G b from if_neg z] at e
    exact s b o e
theorem into_cell {G : Hp} {p : Addr} {vs : List V} (hp : G p = none) : Same G (upd G p (.lst vs)) := fun b o e => by
  have z : b ≠ p := fun z => by rw [z, hp] at e; cases e
  rw [show upd G p (.lst vs) b = G b from if_neg z]
  exact e
theorem cmp_two {f : Value → Value → Sem Value} {g : D → D → Option D} {σ : St} {H : Hp} {Q : VK} (h : tE X.K c W (mCmpC g i m) σ H Q) :
    tOp (fun x y H Q => ∃ G dx dy d, Same G H ∧ (Tbs c G H ∧ NoT G) ∧ Rep X.K c G x dx ∧ Rep X.K c G y dy ∧ g dx dy = some d ∧ ∀ G' H' v, Pure c H G H' G' → Rep X.K c G' v d → Q v H') (tVar i) (tE X.K c W m) σ H Q := by
  obtain ⟨F, G, P, env, R, h⟩ := h
  unfold mCmpC at h
  cases e0 : env[i]? with
  | none => rw [e0] at h; exact h.elim
  | some s0 =>
    rw [e0] at h
    match s0, e0, h with
    | .no, _, h => exact h.elim
    | .val _, _, h => exact h.elim
    | .cell _ (.dct _), _, h => exact h.elim
    | .cell _ (.ob _ _), _, h => exact h.elim
    | .cell l0 (.lst xs0), e0, h =>
      obtain ⟨p0, vs0, _, hσ, h0, _⟩ := R.cellL e0
      refine ⟨_, hσ, F, G, P, env, R, (Post.bind (f := fun b e => cmpR g e[i]? b e) (m := m) h).imp fun d G1 H1 P1 _ ⟨env1, R1, h1⟩ v r => ?_⟩
      try dsimp only at h1
      unfold cmpR at h1
      cases e2 : env1[i]? with
      | none => rw [e2] at h1; exact h1.elim
      | some s2 =>
        rw [e2] at h1
        match s2, e2, h1 with
        | .no, _, h => exact h.elim
        | .val _, _, h => exact h.elim
        | .cell _ (.dct _), _, h => exact h.elim
        | .cell _ (.ob _ _), _, h => exact h.elim
        | .cell l (.lst xs), e2, h1 =>
          obtain ⟨p1, vs1, a1, a2, a3, a4⟩ := R1.cellL e2
          rw [hσ] at a2
          cases a2
          dsimp only at h1
          have gp : G1 p0 = none := (R1.out p0 (mem_flat a1 (by simp))).2
          cases ej : g (.lst xs) d with
          | none => rw [ej] at h1; exact h1.elim
          | some w =>
            rw [ej] at h1
            cases w with
            | bl k =>
              dsimp only at h1
              have ic : Same G1 (upd G1 p0 (.lst vs1)) := into_cell gp
              refine ⟨upd G1 p0 (.lst vs1), .lst xs, d, .bl k, upd_cell R1.gs a3, ⟨R1.tb.tabs.mono ic, fun b ps z => ?_⟩, .lst (if_pos rfl) (a4.mono ic), r.mono ic, ej, fun G' H' v p rv => ?_⟩
              · by_cases e : b = p0
                · rw [e, show upd G1 p0 (.lst vs1) p0 = some (.lst vs1) from if_pos rfl] at z
                  injection z with z
                  cases z
                · rw [show upd G1 p0 (.lst vs1) b = G1 b from if_neg e] at z
                  exact R1.tb.ng b ps z
              · cases rv
                obtain ⟨x3, R3⟩ := R1.pure (peek_pure gp p)
                exact h1 _ H' P1 x3 (Keep.refl _ _) R3 _ (.bl k)
            | _ => exact h1.elim
theorem de_cmpC {op : CmpOp} {g : D → D → Option D} (ho : OpD X c (compareOp op) g) (hv : PE X a (tVar i)) (hb : PE X b (tE X.K c W m)) (hm : behindInMarks op b = false := by first | exact nomark _ | rfl) : PE X (.Compare a [op] [b] pos) (tE X.K c W (mCmpC g i m)) :=
  PE.weak (pe_cmpR ho hv hb hm) fun _ _ _ h => cmp_two (f := compareOp op) h
theorem dt_cmpC {op : CmpOp} {g : D → D → Option D} (ho : OpD X c (compareOp op) g) (hv : PE X a (tVar i)) (hb : PE X b (tE X.K c W m)) (hm : behindInMarks op b = false := by first | exact nomark _ | rfl) :
    PT X (.Compare a [op] [b] pos) (tT X.K c W (mTest (mCmpC g i m))) := by
  refine PT.weak (pt_cmpR ho hv hb hm) fun σ H Q h => ?_
  exact cmp_two (f := compareOp op) (test_imp h)
end
theorem dEqv_lsts {a b : List Int} : dEqv (.lst (a.map .int)) (.lst (b.map .int)) = some (decide (a = b)) := by
  show ((D.py (.lst (a.map .int))).bind fun p => (D.py (.lst (b.map .int))).bind fun q => if SeqAt.shaped p && SeqAt.shaped q then some (PyData.eqv p q) else none) = _
  simp [D.py, pys_ints, SeqAt.shaped, PyData.canLay0, lay_ints, PyData.depth, depth_ints, PyData.eqv, eqv_ints]
@[simp] theorem dEq_lsts {a b : List Int} : dEq (.lst (a.map .int)) (.lst (b.map .int)) = some (.bl (decide (a = b))) := by
  unfold dEq
  rw [dEqv_lsts]
  rfl
@[simp] theorem dNe_lsts {a b : List Int} : dNe (.lst (a.map .int)) (.lst (b.map .int)) = some (.bl (!decide (a = b))) := by
  unfold dNe
  rw [dEqv_lsts]
  rfl
def popR (s : Option Sl) (i : Nat) (e : Ev) : Res D := match s with
  | some (.cell l (.lst xs)) => match xs[xs.length - 1]? with
    | some d => .ok d (e.set i (.cell l (.lst xs.dropLast)))
    | none => .bad
  | _ => .bad
theorem ev_pop {i : Nat} {e : Ev} : mPop i e = popR e[i]? i e := rfl
@[simp] theorem popR_lst {i : Nat} {l : Bool} {xs : List D} {e : Ev} : popR (some (.cell l (.lst xs))) i e = match xs[xs.length - 1]? with
    | some d => .ok d (e.set i (.cell l (.lst xs.dropLast)))
    | none => .bad := rfl
end L2.DL
set_option Elab.async false
set_option linter.all false
set_option maxRecDepth 100000
set_option maxHeartbeats 4000000
namespace K48
open PySem PySem.Spec PyProof.Rows L2 L2.DL
abbrev g_isi_bool : Tg → Option Bool := isiT [("bool", true), ("int", false), ("str", false), ("list", false), ("tuple", false), ("NoneType", false), ("dict", false)] []
abbrev g_isi_int : Tg → Option Bool := isiT [("bool", true), ("int", true), ("str", false), ("list", false), ("tuple", false), ("NoneType", false), ("dict", false)] []
abbrev g_isi_tuple : Tg → Option Bool := isiT [("bool", false), ("int", false), ("str", false), ("list", false), ("tuple", true), ("NoneType", false), ("dict", false)] []
/-- _law_roll(_law_dice_here, _law_total); slots: 0 _law_dice_here 1 _law_total 2 _law_found 3 _law_one 4 _law_two -/
def m__law_roll : Fn := mDef 5 (mSeq (mIf (mTest (mBin dGt (mIxC 0 (mC (.int 0))) (mC (.int 0))))
  (mSeq (mSet 2 (mBin dMod (mFn fInt (mCons (mIxC 0 (mC (.int 0))) mNil)) (mName 1)))
  (mSeq (mSetIx 0 (mC (.int 0)) (mBin dDiv (mIxC 0 (mC (.int 0))) (mName 1)))
  (mRet (mName 2))))
  M.next)
  (mSeq (mSetIx 0 (mC (.int 2)) (mBin dAdd (mIxC 0 (mC (.int 2))) (mC (.int 1))))
  (mSeq (mSet 3 (mBin dMod (mFn fInt (mCons (mBin dAdd (mIxC 0 (mC (.int 1))) (mBin dMul (mC (.int 104395301)) (mIxC 0 (mC (.int 2))))) mNil)) (mC (.int 2305843009213693613))))
  (mSeq (mSet 4 (mBin dAdd (mBin dMul (mBin dMod (mFn fInt (mCons (mBin dAdd (mBin dMul (mName 3) (mName 3)) (mBin dMul (mC (.int 107)) (mIxC 0 (mC (.int 2))))) mNil)) (mC (.int 2305843009213693519))) (mC (.int 3021377))) (mName 3)))
  (mRet (mBin dMod (mFn fInt (mCons (mBin dDiv (mName 4) (mC (.int 65536))) mNil)) (mName 1)))))))
/-- _law_pick(_law_dice_here, _law_items); slots: 0 _law_dice_here 1 _law_items -/
def m__law_pick : Fn := mDef 2 (mRet (mBin dIx (mName 1) (mCallL m__law_roll 0 (mCons (mFn fLen (mCons (mName 1) mNil)) mNil))))
/-- the clauses of _law_told -/
def cs__law_told : List (Option Nat × (Nat → Option Bool) × Sv) := [(none, (fun n => ([(0, true), (1, false), (2, false)] : List (Nat × Bool)).lookup n), (fun _ _ => some (.str "operation") : Sv)),
  ((some 1), (fun n => ([(0, false), (1, true), (2, false)] : List (Nat × Bool)).lookup n), (fun n od => ((fun n od => ((fun _ _ => some (.str "number") : Sv) n od).bind fun d => ((fun n od => ((fun m od => if m = 1 then od else none : Sv) n od).bind fun d => ((fun _ _ => some [] : Svs) n od).map (d :: ·) : Svs) n od).map (d :: ·) : Svs) n od).bind fun ds => if ds.length ≤ 16777216 then some (.tup ds) else none : Sv)),
  ((some 1), (fun n => ([(0, false), (1, false), (2, true)] : List (Nat × Bool)).lookup n), (fun m od => if m = 2 then od else none : Sv))]
/-- _law_trimmed(_law_numbers); slots: 0 _law_numbers 1 _law_found 2 _law_turn -/
def m__law_trimmed : Fn := mDef 3 (mSeq (mSetO 1 (mList (mName 0)))
  (mSeq (mFor (mRange (mCons (mFn fLen (mCons (mName 0) mNil)) mNil)) (gSet 2)
  (mIf (mAndT (mTest (mCmpC dNe 1 (mFrz (mLst mNil)))) (mTest (mBin dEq (mIxC 1 (mUn dNeg (mC (.int 1)))) (mC (.int 0)))))
  (mExpr (mPop 1))
  M.next))
  (mRet (mFn fTuple (mCons (mName 1) mNil)))))
/-- _law_poly(_law_dice_here, _law_most); slots: 0 _law_dice_here 1 _law_most 2 _law_size 3 _law_found 4 _law_at -/
def m__law_poly : Fn := mDef 5 (mSeq (mSet 2 (mCallL m__law_pick 0 (mCons (mFrz (mLst (mCons (mC (.int 2)) (mCons (mC (.int 50)) (mCons (mBin dPow (mC (.int 10)) (mC (.int 30))) (mCons (mBin dSub (mBin dPow (mC (.int 10)) (mC (.int 60))) (mC (.int 1))) mNil)))))) mNil)))
  (mSeq (mSetO 3 (mLc (mRange (mCons (mCallL m__law_roll 0 (mCons (mBin dAdd (mName 1) (mC (.int 1))) mNil)) mNil)) [4] (gSet 4) mYes (mBin dMul (mCallL m__law_roll 0 (mCons (mName 2) mNil)) (mIf (mTest (mBin dEq (mCallL m__law_roll 0 (mCons (mC (.int 2)) mNil)) (mC (.int 0)))) (mC (.int 1)) (mUn dNeg (mC (.int 1)))))))
  (mRet (mCall m__law_trimmed (mCons (mName 3) mNil)))))
/-- _law_no_int(_law_dice_here); slots: 0 _law_dice_here -/
def m__law_no_int : Fn := mDef 1 (mRet (mCallL m__law_pick 0 (mCons (mFrz (mLst (mCons (mC .non) (mCons (mC (.bl true)) (mCons (mC (.bl false)) (mCons (mC (.str "1")) (mCons (mC (.str "")) (mCons (mTup (mCons (mC (.int 1)) mNil)) (mCons (mFrz (mLst (mCons (mC (.int 1)) mNil))) (mCons (mBin dPow (mC (.int 10)) (mC (.int 60))) (mCons (mBin dSub (mC (.int 0)) (mBin dPow (mC (.int 10)) (mC (.int 60)))) (mCons (mFrz mDct0) mNil)))))))))))) mNil)))
/-- _law_wrong(_law_dice_here); slots: 0 _law_dice_here 1 _law_menu 2 _law_at -/
def m__law_wrong : Fn := mDef 3 (mSeq (mSet 1 (mFrz (mLst (mCons (mC .non) (mCons (mFrz (mLst (mCons (mC (.int 1)) mNil))) (mCons (mTup (mCons (mC (.int 0)) mNil)) (mCons (mTup (mCons (mC (.int 1)) (mCons (mC (.int 0)) mNil))) (mCons (mTup (mCons (mC (.int 1)) (mCons (mC (.bl true)) mNil))) (mCons (mTup (mCons (mC (.int 1)) (mCons (mC .non) mNil))) (mCons (mC (.str "11")) (mCons (mC (.int 5)) (mCons (mTup (mCons (mC (.int 1)) (mCons (mBin dPow (mC (.int 10)) (mC (.int 60))) mNil))) (mCons (mTup (mCons (mTup (mCons (mC (.int 1)) mNil)) mNil)) (mCons (mTup (mCons (mC (.int 1)) (mCons (mC (.str "2")) mNil))) (mCons (mTup (mCons (mC (.bl true)) mNil)) mNil)))))))))))))))
  (mRet (mCallL m__law_pick 0 (mCons (mBin dAdd (mName 1) (mFrz (mLst (mCons (mFn fTuple (mCons (mFrz (mLc (mRange (mCons (mC (.int 401)) mNil)) [2] (gSet 2) mYes (mC (.int 1)))) mNil)) mNil)))) mNil))))
/-- is_integer(value); slots: 0 value -/
def m_is_integer : Fn := mDef 1 (mRet (mAnd (mIsi g_isi_int (mName 0)) (mAnd (mNot (mIsi g_isi_bool (mName 0))) (mChain dLt dLt (mUn dNeg (mC (.int 1000000000000000000000000000000000000000000000000000000000000))) (mName 0) (mC (.int 1000000000000000000000000000000000000000000000000000000000000))))))
/-- are_integers(value); slots: 0 value 1 one -/
def m_are_integers : Fn := mDef 2 (mRet (mAnd (mIsi g_isi_tuple (mName 0)) (mFn fAll (mCons (mFrz (mLc (mIter (mName 0)) [1] (gSet 1) mYes (mCall m_is_integer (mCons (mName 1) mNil)))) mNil))))
/-- is_polynomial(value); slots: 0 value -/
def m_is_polynomial : Fn := mDef 1 (mRet (mAnd (mCall m_are_integers (mCons (mName 0) mNil)) (mAnd (mBin dLe (mFn fLen (mCons (mName 0) mNil)) (mC (.int 400))) (mOr (mBin dEq (mName 0) (mTup mNil)) (mBin dNe (mBin dIx (mName 0) (mUn dNeg (mC (.int 1)))) (mC (.int 0)))))))
/-- require_polynomial(value); slots: 0 value -/
def m_require_polynomial : Fn := mDef 1 (mIf (mNotT (mTru (mCall m_is_polynomial (mCons (mName 0) mNil))))
  (mRaise0 0)
  M.next)
/-- without_zeros(numbers); slots: 0 numbers 1 size -/
def m_without_zeros : Fn := mDef 2 (mSeq (mSet 1 (mFn fLen (mCons (mName 0) mNil)))
  (mSeq (mWhile (mAndT (mTest (mBin dGt (mName 1) (mC (.int 0)))) (mTest (mBin dEq (mBin dIx (mName 0) (mBin dSub (mName 1) (mC (.int 1)))) (mC (.int 0)))))
  (mAug 1 dSub (mC (.int 1))))
  (mRet (mFn fTuple (mCons (mSl (mName 0) none (some (mName 1))) mNil)))))
/-- product_of(one, other); slots: 0 one 1 other 2 found 3 at 4 number 5 spot 6 second -/
def m_product_of : Fn := mDef 7 (mSeq (mIf (mOrT (mTest (mBin dEq (mName 0) (mTup mNil))) (mTest (mBin dEq (mName 1) (mTup mNil))))
  (mRet (mTup mNil))
  M.next)
  (mSeq (mSetO 2 (mRepO (mFrz (mLst (mCons (mC (.int 0)) mNil))) (mBin dSub (mBin dAdd (mFn fLen (mCons (mName 0) mNil)) (mFn fLen (mCons (mName 1) mNil))) (mC (.int 1)))))
  (mSeq (mFor (mEnumA (mName 0)) (gTupD 2 (gsCons (gSet 3) (gsCons (gSet 4) gsNil)))
  (mFor (mEnumA (mName 1)) (gTupD 2 (gsCons (gSet 5) (gsCons (gSet 6) gsNil)))
  (mSetIx 2 (mBin dAdd (mName 3) (mName 5)) (mBin dAdd (mIxC 2 (mBin dAdd (mName 3) (mName 5))) (mBin dMul (mName 4) (mName 6))))))
  (mRet (mCall m_without_zeros (mCons (mName 2) mNil))))))
/-- times(one, other); slots: 0 one 1 other -/
def m_times : Fn := mDef 2 (mSeq (mExpr (mCall m_require_polynomial (mCons (mName 0) mNil)))
  (mSeq (mExpr (mCall m_require_polynomial (mCons (mName 1) mNil)))
  (mRet (mCall m_product_of (mCons (mName 0) (mCons (mName 1) mNil))))))
/-- division_of(one, other); slots: 0 one 1 other 2 left 3 size 4 whole 5 at 6 spot 7 number -/
def m_division_of : Fn := mDef 8 (mSeq (mPar [2, 3] (pvCons (mInr (mList (mName 0))) (pvCons (mInl (mFn fLen (mCons (mName 1) mNil))) pvNil)))
  (mSeq (mSetO 4 (mRepO (mFrz (mLst (mCons (mC (.int 0)) mNil))) (mFn fMax (mCons (mC (.int 0)) (mCons (mBin dAdd (mBin dSub (mFn fLen (mCons (mName 0) mNil)) (mName 3)) (mC (.int 1))) mNil)))))
  (mSeq (mFor (mDown (mCons (mBin dSub (mLenC 4) (mC (.int 1))) (mCons (mUn dNeg (mC (.int 1))) (mCons (mUn dNeg (mC (.int 1))) mNil)))) (gSet 5)
  (mSeq (mSetIx 4 (mName 5) (mBin dMul (mIxC 2 (mBin dSub (mBin dAdd (mName 5) (mName 3)) (mC (.int 1)))) (mBin dIx (mName 1) (mUn dNeg (mC (.int 1))))))
  (mFor (mEnumA (mName 1)) (gTupD 2 (gsCons (gSet 6) (gsCons (gSet 7) gsNil)))
  (mSetIx 2 (mBin dAdd (mName 5) (mName 6)) (mBin dSub (mIxC 2 (mBin dAdd (mName 5) (mName 6))) (mBin dMul (mIxC 4 (mName 5)) (mName 7)))))))
  (mRet (mTup (mCons (mCall m_without_zeros (mCons (mName 4) mNil)) (mCons (mCall m_without_zeros (mCons (mName 2) mNil)) mNil)))))))
/-- divided(one, other); slots: 0 one 1 other -/
def m_divided : Fn := mDef 2 (mSeq (mExpr (mCall m_require_polynomial (mCons (mName 0) mNil)))
  (mSeq (mExpr (mCall m_require_polynomial (mCons (mName 1) mNil)))
  (mSeq (mIf (mTest (mBin dEq (mName 1) (mTup mNil)))
  (mRaise 2 (mTup (mCons (mC (.str "zero")) mNil)))
  M.next)
  (mSeq (mIf (mTest (mBin dNotIn (mBin dIx (mName 1) (mUn dNeg (mC (.int 1)))) (mTup (mCons (mC (.int 1)) (mCons (mUn dNeg (mC (.int 1))) mNil)))))
  (mRaise 2 (mTup (mCons (mC (.str "lead")) (mCons (mBin dIx (mName 1) (mUn dNeg (mC (.int 1)))) mNil))))
  M.next)
  (mRet (mCall m_division_of (mCons (mName 0) (mCons (mName 1) mNil))))))))
/-- require_integer(value); slots: 0 value -/
def m_require_integer : Fn := mDef 1 (mIf (mNotT (mTru (mCall m_is_integer (mCons (mName 0) mNil))))
  (mRaise 1 (mName 0))
  M.next)
/-- value_at(polynomial, x); slots: 0 polynomial 1 x 2 found 3 number -/
def m_value_at : Fn := mDef 4 (mSeq (mExpr (mCall m_require_polynomial (mCons (mName 0) mNil)))
  (mSeq (mExpr (mCall m_require_integer (mCons (mName 1) mNil)))
  (mSeq (mSet 2 (mC (.int 0)))
  (mSeq (mFor (mIter (mRev (mName 0))) (gSet 3)
  (mSet 2 (mBin dAdd (mBin dMul (mName 2) (mName 1)) (mName 3))))
  (mRet (mName 2))))))
/-- _law_errors(_law_dice_here, _law_one); slots: 0 _law_dice_here 1 _law_one 2 _law_bad 3 _law_other 4 _law_x 5 _law_told_here -/
def m__law_errors : Fn := mDef 6 (mSeq (mPar [2, 3] (pvCons (mInl (mCallL m__law_wrong 0 mNil)) (pvCons (mInl (mCallL m__law_wrong 0 mNil)) pvNil)))
  (mSeq (mSet 4 (mCallL m__law_no_int 0 mNil))
  (mSeq (mSetO 5 (mLst (mCons (mLam none cs__law_told (mCall m_times (mCons (mName 2) (mCons (mName 1) mNil)))) mNil)))
  (mSeq (mExpr (mAppend 5 (mLam none cs__law_told (mCall m_times (mCons (mName 1) (mCons (mName 2) mNil))))))
  (mSeq (mExpr (mAppend 5 (mLam none cs__law_told (mCall m_divided (mCons (mName 1) (mCons (mName 2) mNil))))))
  (mSeq (mExpr (mAppend 5 (mLam none cs__law_told (mCall m_divided (mCons (mName 2) (mCons (mTup mNil) mNil))))))
  (mSeq (mExpr (mAppend 5 (mLam none cs__law_told (mCall m_value_at (mCons (mName 2) (mCons (mName 3) mNil))))))
  (mSeq (mExpr (mAppend 5 (mLam none cs__law_told (mCall m_divided (mCons (mName 1) (mCons (mTup mNil) mNil))))))
  (mSeq (mExpr (mAppend 5 (mLam none cs__law_told (mCall m_value_at (mCons (mName 1) (mCons (mName 4) mNil))))))
  (mRet (mBin dEq (mFn fReprN (mCons (mName 5) mNil)) (mFn fReprN (mCons (mFrz (mLst (mCons (mC (.str "operation")) (mCons (mC (.str "operation")) (mCons (mC (.str "operation")) (mCons (mC (.str "operation")) (mCons (mC (.str "operation")) (mCons (mTup (mCons (mC (.str "zero")) mNil)) (mCons (mTup (mCons (mC (.str "number")) (mCons (mName 4) mNil))) mNil))))))))) mNil)))))))))))))
/-- _law_added(_law_one, _law_other); slots: 0 _law_one 1 _law_other 2 _law_wide 3 _law_left 4 _law_at 5 _law_right_here 6 _law_first 7 _law_second -/
def m__law_added : Fn := mDef 8 (mSeq (mSet 2 (mFn fMax (mCons (mFn fLen (mCons (mName 0) mNil)) (mCons (mFn fLen (mCons (mName 1) mNil)) mNil))))
  (mSeq (mSet 3 (mBin dAdd (mFrz (mList (mName 0))) (mFrz (mLc (mRange (mCons (mBin dSub (mName 2) (mFn fLen (mCons (mName 0) mNil))) mNil)) [4] (gSet 4) mYes (mC (.int 0))))))
  (mSeq (mSet 5 (mBin dAdd (mFrz (mList (mName 1))) (mFrz (mLc (mRange (mCons (mBin dSub (mName 2) (mFn fLen (mCons (mName 1) mNil))) mNil)) [4] (gSet 4) mYes (mC (.int 0))))))
  (mRet (mCall m__law_trimmed (mCons (mFrz (mLc (mZipG (mCons (mName 3) (mCons (mName 5) mNil))) [6, 7] (gTupD 2 (gsCons (gSet 6) (gsCons (gSet 7) gsNil))) mYes (mBin dAdd (mName 6) (mName 7)))) mNil))))))
/-- _law_poly_times(_law_one, _law_other); slots: 0 _law_one 1 _law_other 2 _law_found 3 _law_at 4 _law_first 5 _law_spot 6 _law_second -/
def m__law_poly_times : Fn := mDef 7 (mSeq (mSetO 2 (mLc (mRange (mCons (mBin dAdd (mFn fLen (mCons (mName 0) mNil)) (mFn fLen (mCons (mName 1) mNil))) mNil)) [3] (gSet 3) mYes (mC (.int 0))))
  (mSeq (mFor (mEnumA (mName 0)) (gTupD 2 (gsCons (gSet 3) (gsCons (gSet 4) gsNil)))
  (mFor (mEnumA (mName 1)) (gTupD 2 (gsCons (gSet 5) (gsCons (gSet 6) gsNil)))
  (mSetIx 2 (mBin dAdd (mName 3) (mName 5)) (mBin dAdd (mIxC 2 (mBin dAdd (mName 3) (mName 5))) (mBin dMul (mName 4) (mName 6))))))
  (mRet (mCall m__law_trimmed (mCons (mName 2) mNil)))))
/-- _law_poly_rest(_law_one, _law_other); slots: 0 _law_one 1 _law_other 2 _law_left 3 _law_at 4 _law_lead 5 _law_spot 6 _law_factor -/
def m__law_poly_rest : Fn := mDef 7 (mSeq (mSetO 2 (mList (mName 0)))
  (mSeq (mFor (mDown (mCons (mBin dSub (mFn fLen (mCons (mName 0) mNil)) (mFn fLen (mCons (mName 1) mNil))) (mCons (mUn dNeg (mC (.int 1))) (mCons (mUn dNeg (mC (.int 1))) mNil)))) (gSet 3)
  (mSeq (mSet 4 (mIxC 2 (mBin dSub (mBin dAdd (mName 3) (mFn fLen (mCons (mName 1) mNil))) (mC (.int 1)))))
  (mFor (mEnumA (mName 1)) (gTupD 2 (gsCons (gSet 5) (gsCons (gSet 6) gsNil)))
  (mSetIx 2 (mBin dAdd (mName 3) (mName 5)) (mBin dSub (mIxC 2 (mBin dAdd (mName 3) (mName 5))) (mBin dMul (mName 4) (mName 6)))))))
  (mRet (mCall m__law_trimmed (mCons (mSl (mName 2) none (some (mFn fMax (mCons (mC (.int 0)) (mCons (mBin dSub (mFn fLen (mCons (mName 1) mNil)) (mC (.int 1))) mNil))))) mNil)))))
/-- _law_worth(_law_poly_here, _law_x); slots: 0 _law_poly_here 1 _law_x 2 _law_found 3 _law_factor -/
def m__law_worth : Fn := mDef 4 (mSeq (mSet 2 (mC (.int 0)))
  (mSeq (mFor (mIter (mRev (mName 0))) (gSet 3)
  (mSet 2 (mBin dAdd (mBin dMul (mName 2) (mName 1)) (mName 3))))
  (mRet (mName 2))))
/-- _law_right(_law_dice_here); slots: 0 _law_dice_here 1 _law_one 2 _law_other 3 _law_lead 4 _law_second 5 _law_told_here 6 _law_whole 7 _law_rest 8 _law_signed 9 _law_factor 10 _law_x -/
def m__law_right : Fn := mDef 11 (mSeq (mPar [1, 2] (pvCons (mInl (mCallL m__law_poly 0 (mCons (mC (.int 12)) mNil))) (pvCons (mInl (mCallL m__law_poly 0 (mCons (mCallL m__law_pick 0 (mCons (mFrz (mLst (mCons (mC (.int 4)) (mCons (mC (.int 12)) mNil)))) mNil)) mNil))) pvNil)))
  (mSeq (mIf (mOrT (mTest (mBin dNe (mFn fReprN (mCons (mCall m_times (mCons (mName 1) (mCons (mName 2) mNil))) mNil)) (mFn fReprN (mCons (mCall m__law_poly_times (mCons (mName 1) (mCons (mName 2) mNil))) mNil)))) (mTest (mBin dNe (mCall m_times (mCons (mName 2) (mCons (mName 1) mNil))) (mCall m_times (mCons (mName 1) (mCons (mName 2) mNil))))))
  (mRet (mC (.bl false)))
  M.next)
  (mSeq (mSet 3 (mCallL m__law_pick 0 (mCons (mFrz (mLst (mCons (mC (.int 1)) (mCons (mUn dNeg (mC (.int 1))) (mCons (mC (.int 1)) (mCons (mC (.int 2)) (mCons (mUn dNeg (mC (.int 3))) mNil))))))) mNil)))
  (mSeq (mSet 4 (mBin dAdd (mName 2) (mTup (mCons (mName 3) mNil))))
  (mSeq (mSet 5 (mLam none cs__law_told (mCall m_divided (mCons (mName 1) (mCons (mName 4) mNil)))))
  (mSeq (mIf (mTest (mBin dNotIn (mName 3) (mTup (mCons (mC (.int 1)) (mCons (mUn dNeg (mC (.int 1))) mNil)))))
  (mRet (mAnd (mBin dEq (mName 5) (mTup (mCons (mC (.str "lead")) (mCons (mName 3) mNil)))) (mCallL m__law_errors 0 (mCons (mName 1) mNil))))
  M.next)
  (mSeq (mIf (mOrT (mNotT (mTru (mIsi g_isi_tuple (mName 5)))) (mTest (mBin dNe (mFn fLen (mCons (mName 5) mNil)) (mC (.int 2)))))
  (mRet (mC (.bl false)))
  M.next)
  (mSeq (mAsg (mName 5) (gTupD 2 (gsCons (gSet 6) (gsCons (gSet 7) gsNil))))
  (mSeq (mSet 8 (mFn fTuple (mCons (mFrz (mLc (mIter (mName 4)) [9] (gSet 9) mYes (mBin dMul (mName 3) (mName 9)))) mNil)))
  (mSeq (mIf (mOrT (mTest (mBin dNe (mFn fReprN (mCons (mName 7) mNil)) (mFn fReprN (mCons (mCall m__law_poly_rest (mCons (mName 1) (mCons (mName 8) mNil))) mNil)))) (mTest (mBin dNe (mFn fReprN (mCons (mName 6) mNil)) (mFn fReprN (mCons (mCall m__law_trimmed (mCons (mName 6) mNil)) mNil)))))
  (mRet (mC (.bl false)))
  M.next)
  (mSeq (mIf (mOrT (mTest (mBin dNe (mCall m__law_added (mCons (mCall m__law_poly_times (mCons (mName 6) (mCons (mName 4) mNil))) (mCons (mName 7) mNil))) (mName 1))) (mTest (mBin dGe (mFn fLen (mCons (mName 7) mNil)) (mFn fLen (mCons (mName 4) mNil)))))
  (mRet (mC (.bl false)))
  M.next)
  (mSeq (mSet 10 (mCallL m__law_pick 0 (mCons (mFrz (mLst (mCons (mC (.int 0)) (mCons (mC (.int 1)) (mCons (mUn dNeg (mC (.int 1))) (mCons (mC (.int 2)) (mCons (mBin dPow (mC (.int 10)) (mC (.int 20))) (mCons (mUn dNeg (mC (.int 7))) mNil)))))))) mNil)))
  (mRet (mAnd (mBin dEq (mFn fReprN (mCons (mCall m_value_at (mCons (mName 1) (mCons (mName 10) mNil))) mNil)) (mFn fReprN (mCons (mCall m__law_worth (mCons (mName 1) (mCons (mName 10) mNil))) mNil))) (mCallL m__law_errors 0 (mCons (mName 1) mNil))))))))))))))))
/-- _law_dice(_law_script, _law_spot); slots: 0 _law_script 1 _law_spot 2 _law_cell 3 _law_left -/
def m__law_dice : FnO := mDefO 4 (mSeq (mSet 2 (mIf (mTest (mBin dLt (mName 1) (mFn fLen (mCons (mName 0) mNil)))) (mFn fInt (mCons (mBin dIx (mName 0) (mName 1)) mNil)) (mBin dAdd (mBin dMul (mC (.int 97)) (mName 1)) (mC (.int 53)))))
  (mSeq (mSet 3 (mBin dMod (mFn fMax (mCons (mC (.int 0)) (mCons (mBin dSub (mFn fAbs (mCons (mName 2) mNil)) (mBin dPow (mC (.int 10)) (mC (.int 16)))) mNil))) (mBin dMul (mBin dPow (mC (.int 10)) (mC (.int 60))) (mBin dPow (mC (.int 10)) (mC (.int 60))))))
  (mRetO (mLst (mCons (mName 3) (mCons (mBin dAdd (mBin dAdd (mBin dAdd (mBin dMul (mBin dMod (mFn fAbs (mCons (mName 2) mNil)) (mC (.int 1152921504606846577))) (mC (.int 67))) (mBin dMul (mC (.int 773)) (mName 1))) (mBin dMul (mC (.int 43)) (mFn fInt (mCons (mBin dLt (mName 2) (mC (.int 0))) mNil)))) (mC (.int 11))) (mCons (mC (.int 0)) mNil)))))))
/-- law(_law_script); slots: 0 _law_script 1 _law_spot 2 _law_great 3 _law_at -/
def m_law : Fn := mDef 4 (mSeq (mFor (mRange (mCons (mFn fMax (mCons (mC (.int 1)) (mCons (mFn fMin (mCons (mC (.int 20)) (mCons (mFn fLen (mCons (mName 0) mNil)) mNil))) mNil))) mNil)) (gSet 1)
  (mIf (mNotT (mTru (mCallN m__law_right (mCallO m__law_dice (mCons (mName 0) (mCons (mName 1) mNil))))))
  (mRet (mC (.bl false)))
  M.next))
  (mSeq (mSet 2 (mFn fTuple (mCons (mFrz (mLc (mRange (mCons (mC (.int 400)) mNil)) [3] (gSet 3) mYes (mBin dAdd (mName 3) (mC (.int 1))))) mNil)))
  (mSeq (mIf (mOrT (mTest (mBin dNe (mCall m_times (mCons (mName 2) (mCons (mTup (mCons (mC (.int 1)) mNil)) mNil))) (mName 2))) (mOrT (mTest (mBin dNe (mCall m_times (mCons (mName 2) (mCons (mTup mNil) mNil))) (mTup mNil))) (mOrT (mTest (mBin dNe (mCall m_value_at (mCons (mName 2) (mCons (mC (.int 1)) mNil))) (mC (.int 80200)))) (mTest (mBin dNe (mCall m_value_at (mCons (mTup mNil) (mCons (mC (.int 5)) mNil))) (mC (.int 0)))))))
  (mRet (mC (.bl false)))
  M.next)
  (mRet (mAnd (mBin dEq (mCall m_divided (mCons (mName 2) (mCons (mTup (mCons (mC (.int 1)) mNil)) mNil))) (mTup (mCons (mName 2) (mCons (mTup mNil) mNil)))) (mBin dEq (mCall m_divided (mCons (mTup mNil) (mCons (mTup (mCons (mC (.int 0)) (mCons (mC (.int 1)) mNil))) mNil))) (mTup (mCons (mTup mNil) (mCons (mTup mNil) mNil)))))))))
end K48
set_option Elab.async false
set_option linter.all false
set_option maxRecDepth 100000
set_option maxHeartbeats 4000000
namespace K48
open PySem PySem.Spec PyProof.Rows L2 L2.DL
/-! sums -/
def sm : Nat → (Nat → Int) → Int
  | 0, _ => 0
  | n + 1, f => sm n f + f n
theorem sm_congr {n : Nat} {f g : Nat → Int} (h : ∀ i, i < n → f i = g i) : sm n f = sm n g := by
  induction n with
  | zero => rfl
  | succ n ih => simp only [sm]; rw [ih fun i hi => h i (by omega), h n (by omega)]
theorem sm_zero {n : Nat} {f : Nat → Int} (h : ∀ i, i < n → f i = 0) : sm n f = 0 := by
  induction n with
  | zero => rfl
  | succ n ih => simp only [sm]; rw [ih fun i hi => h i (by omega), h n (by omega)]; rfl
theorem sm_ext {n m : Nat} {f : Nat → Int} (hm : n ≤ m) (h : ∀ i, n ≤ i → i < m → f i = 0) : sm m f = sm n f := by
  induction m with
  | zero => rw [show n = 0 by omega]
  | succ m ih =>
    by_cases e : n = m + 1
    · rw [e]
    · simp only [sm]
      rw [ih (by omega) fun i h1 h2 => h i h1 (by omega), h m (by omega) (by omega)]
      omega
theorem sm_head {n : Nat} {f : Nat → Int} : sm (n + 1) f = f 0 + sm n (fun i => f (i + 1)) := by
  induction n with
  | zero => simp [sm]
  | succ n ih =>
    rw [sm, ih]
    simp only [sm]
    omega
theorem sm_rev {n : Nat} {f : Nat → Int} : sm n f = sm n (fun i => f (n - 1 - i)) := by
  induction n with
  | zero => rfl
  | succ n ih =>
    rw [sm_head (f := fun i => f (n + 1 - 1 - i)), sm, ih]
    have : sm n (fun i => f (n - 1 - i)) = sm n (fun i => f (n + 1 - 1 - (i + 1))) := sm_congr fun i hi => by
      congr 1; omega
    rw [this]
    simp only [Nat.add_sub_cancel, Nat.sub_zero]
    omega
/-- the factor at k of a product -/
def cv (f g : Nat → Int) (k : Nat) : Int := sm (k + 1) fun i => f i * g (k - i)
theorem cv_comm {f g : Nat → Int} {k : Nat} : cv f g k = cv g f k := by
  unfold cv
  rw [sm_rev]
  refine sm_congr fun i hi => ?_
  rw [show k + 1 - 1 - i = k - i by omega, show k - (k - i) = i by omega, Int.mul_comm]
theorem cv_congr {f g f' g' : Nat → Int} {k : Nat} (h1 : ∀ i, f i = f' i) (h2 : ∀ i, g i = g' i) : cv f g k = cv f' g' k :=
  sm_congr fun i _ => by rw [h1, h2]
/-- by the rows of the one -/
def pr (one other : List Int) (n k : Nat) : Int := sm n fun i => if i ≤ k then gt one i * gt other (k - i) else 0
theorem pr_cv {one other : List Int} {k : Nat} : pr one other one.length k = cv (gt one) (gt other) k := by
  unfold pr cv
  have h1 : sm (one.length + (k + 1)) (fun i => if i ≤ k then gt one i * gt other (k - i) else 0) = sm one.length fun i => if i ≤ k then gt one i * gt other (k - i) else 0 :=
    sm_ext (by omega) fun i hi _ => by
      rw [gt_over hi]
      split <;> simp
  have h2 : sm (one.length + (k + 1)) (fun i => if i ≤ k then gt one i * gt other (k - i) else 0) = sm (k + 1) fun i => if i ≤ k then gt one i * gt other (k - i) else 0 :=
    sm_ext (by omega) fun i hi _ => if_neg (by omega)
  rw [← h1, h2]
  exact sm_congr fun i hi => if_pos (by omega)
theorem cv_over {one other : List Int} {k : Nat} (h : one.length + other.length ≤ k + 1) : cv (gt one) (gt other) k = 0 :=
  sm_zero fun i hi => by
    by_cases hi2 : i < one.length
    · rw [gt_over (l := other) (by omega), Int.mul_zero]
    · rw [gt_over (l := one) (by omega), Int.zero_mul]
/-- times one -/
theorem cv_one {f : Nat → Int} {k : Nat} : cv f (gt [1]) k = f k := by
  unfold cv
  rw [sm, sm_zero fun i hi => ?_]
  · simp
  · rw [gt_over (by simp; omega), Int.mul_zero]
/-! zeros at the end taken away -/
def trim : List Int → List Int
  | [] => []
  | a :: l => if trim l = [] ∧ a = 0 then [] else a :: trim l
theorem gt_trim : ∀ (l : List Int) (k : Nat), gt (trim l) k = gt l k
  | [], _ => rfl
  | a :: l, k => by
    unfold trim
    split
    · rename_i h
      cases k with
      | zero => simp [h.2]
      | succ k =>
        have := gt_trim l k
        rw [h.1] at this
        simpa using this
    · cases k with
      | zero => simp
      | succ k => simpa using gt_trim l k
theorem trim_zero : ∀ {l : List Int}, (∀ k, gt l k = 0) → trim l = []
  | [], _ => rfl
  | a :: l, h => by
    unfold trim
    rw [if_pos]
    exact ⟨trim_zero fun k => by simpa using h (k + 1), by simpa using h 0⟩
theorem trim_ext : ∀ {a b : List Int}, (∀ k, gt a k = gt b k) → trim a = trim b
  | [], b, h => (trim_zero fun k => by rw [← h k]; simp).symm
  | x :: a, [], h => trim_zero fun k => by rw [h k]; simp
  | x :: a, y :: b, h => by
    have h0 : x = y := by simpa using h 0
    have h1 : trim a = trim b := trim_ext fun k => by simpa using h (k + 1)
    unfold trim
    rw [h0, h1]
theorem trim_trim {l : List Int} : trim (trim l) = trim l := trim_ext (gt_trim l)
theorem trim_len : ∀ {l : List Int} {n : Nat}, (∀ k, n ≤ k → gt l k = 0) → (trim l).length ≤ n
  | [], n, _ => by simp [trim]
  | a :: l, 0, h => by rw [trim_zero fun k => h k (Nat.zero_le k)]; simp
  | a :: l, n + 1, h => by
    have := trim_len (l := l) (n := n) fun k hk => by simpa using h (k + 1) (by omega)
    unfold trim
    split
    · simp
    · simp; exact this
theorem trim_le {l : List Int} : (trim l).length ≤ l.length := trim_len fun k hk => gt_over hk
theorem trim_sub : ∀ {l : List Int} {x : Int}, x ∈ trim l → x ∈ l
  | [], x, h => h
  | a :: l, x, h => by
    unfold trim at h
    split at h
    · cases h
    · rcases List.mem_cons.mp h with rfl | h
      · exact List.mem_cons_self
      · exact List.mem_cons_of_mem _ (trim_sub h)
/-- the last one is not 0 -/
theorem trim_last : ∀ {l : List Int}, trim l ≠ [] → gt (trim l) ((trim l).length - 1) ≠ 0
  | [], h => absurd rfl h
  | a :: l, h => by
    unfold trim at h ⊢
    split at h
    · exact absurd rfl h
    · rename_i q
      rw [if_neg q]
      by_cases e : trim l = []
      · rw [e]
        have : a ≠ 0 := fun z => q ⟨e, z⟩
        simpa using this
      · have ih := trim_last e
        have hl : 0 < (trim l).length := List.length_pos_iff.mpr e
        rw [List.length_cons, show (trim l).length + 1 - 1 = ((trim l).length - 1) + 1 by omega, gt_succ]
        exact ih
theorem trim_take : ∀ {l : List Int} {n : Nat}, n ≤ l.length → (∀ k, n ≤ k → gt l k = 0) → (n = 0 ∨ gt l (n - 1) ≠ 0) → trim l = l.take n
  | l, 0, _, h, _ => by rw [trim_zero fun k => h k (Nat.zero_le k)]; simp
  | [], n + 1, h, _, _ => by simp at h
  | a :: l, n + 1, hl, h, q => by
    have q : gt (a :: l) n ≠ 0 := by simpa using q
    have ih : trim l = l.take n := trim_take (by simpa using hl) (fun k hk => by simpa using h (k + 1) (by omega)) (by
      cases n with
      | zero => exact .inl rfl
      | succ n => exact .inr (by simpa using q))
    unfold trim
    rw [if_neg, ih, List.take_succ_cons]
    rintro ⟨z, rfl⟩
    cases n with
    | zero => simp at q
    | succ n =>
      have := gt_trim l n
      rw [z] at this
      simp at this q
      exact q this.symm
theorem trim_id {l : List Int} (h : l = [] ∨ gt l (l.length - 1) ≠ 0) : trim l = l := by
  have := trim_take (l := l) (n := l.length) (Nat.le_refl _) (fun k hk => gt_over hk) (by
    rcases h with rfl | h
    · exact .inl rfl
    · exact .inr h)
  simpa using this
/-! division -/
/-- one step: w times the other, moved by n, taken away -/
def away (f : Nat → Int) (w : Int) (other : List Int) (n k : Nat) : Int := f k - (if n ≤ k then w * gt other (k - n) else 0)
/-- the whole part with its places from n on set, the rest that is left -/
structure DivI (one other W : List Int) (f : Nat → Int) (n : Nat) : Prop where
  sum : ∀ k, gt one k = f k + cv (gt W) (gt other) k
  low : ∀ k, k < n → gt W k = 0
  top : ∀ k, n + other.length ≤ k + 1 → f k = 0
theorem cv_set {W other : List Int} {n k : Nat} {w : Int} (h : n < W.length) (h0 : gt W n = 0) : cv (gt (W.set n w)) (gt other) k = cv (gt W) (gt other) k + (if n ≤ k then w * gt other (k - n) else 0) := by
  unfold cv
  have key : ∀ m, sm m (fun i => gt (W.set n w) i * gt other (k - i)) = sm m (fun i => gt W i * gt other (k - i)) + (if n < m then w * gt other (k - n) else 0) := by
    intro m
    induction m with
    | zero => simp [sm]
    | succ m ih =>
      simp only [sm]
      rw [ih, gt_set h]
      by_cases e : n = m
      · subst e
        rw [if_pos rfl, if_neg (by omega), if_pos (by omega), h0]
        omega
      · rw [if_neg e]
        by_cases e2 : n < m
        · rw [if_pos e2, if_pos (by omega)]; omega
        · rw [if_neg e2, if_neg (by omega)]; omega
  rw [key]
  by_cases e : n ≤ k
  · rw [if_pos (by omega), if_pos e]
  · rw [if_neg (by omega), if_neg e]
theorem div_step {one other W : List Int} {f : Nat → Int} {n : Nat} {lead : Int} (I : DivI one other W f (n + 1)) (hn : n < W.length) (ho : 0 < other.length) (hlast : gt other (other.length - 1) = lead) (hlead : lead = 1 ∨ lead = -1) :
    DivI one other (W.set n (f (n + other.length - 1) * lead)) (away f (f (n + other.length - 1) * lead) other n) n := by
  refine ⟨fun k => ?_, fun k hk => ?_, fun k hk => ?_⟩
  · rw [cv_set hn (I.low n (by omega)), I.sum k]
    unfold away
    omega
  · rw [gt_set hn, if_neg (by omega)]
    exact I.low k (by omega)
  · unfold away
    rw [if_pos (by omega)]
    by_cases e : k = n + other.length - 1
    · subst e
      rw [show n + other.length - 1 - n = other.length - 1 by omega, hlast]
      rcases hlead with rfl | rfl <;> omega
    · rw [I.top k (by omega), gt_over (by omega)]
      simp
/-! value at -/
def worth (x : Int) : List Int → Int → Int
  | [], v => v
  | a :: l, v => worth x l (v * x + a)
end K48
set_option Elab.async false
set_option linter.all false
set_option maxRecDepth 100000
set_option maxHeartbeats 4000000
namespace K48
open PySem PySem.Spec PyProof.Rows L2 L2.DL
theorem roll_ok {z : Cell} {m t : Int} (h : Dice m z) (hm : m < 1000000) (h0 : 0 < t) (h1 : Bd 300 t) : ∃ r z', m__law_roll [.cell true z, .val (.int t)] = .ok (.int r) [.cell true z', .no] ∧ 0 ≤ r ∧ r < t ∧ Dice (m + 1) z' := roll0_ok h hm h0 h1
theorem pick_ok {z : Cell} {m : Int} {xs : List D} (h : Dice m z) (hm : m < 900000) (h0 : 0 < xs.length) (h1 : xs.length < 1000) :
    ∃ d z', m__law_pick [.cell true z, .val (.lst xs)] = .ok d [.cell true z', .no] ∧ d ∈ xs ∧ Dice (m + 1) z' := pick0_ok h hm h0 h1
/-! integers and polynomials -/
def Sm (v : Int) : Prop := -1000000000000000000000000000000000000000000000000000000000000 < v ∧ v < 1000000000000000000000000000000000000000000000000000000000000
theorem Sm.bd {v : Int} (h : Sm v) : Bd 200 v := by
  obtain ⟨h1, h2⟩ := h
  exact bd_of (k := 1000000000000000000000000000000000000000000000000000000000000) (by omega) (by decide)
theorem is_integer_ok {v : Int} (h : Sm v) : m_is_integer [.val (.int v)] = .ok (.bl true) [.no] := by
  obtain ⟨h1, h2⟩ := h
  simp -implicitDefEqProofs [m_is_integer, D.tg, isiT, List.lookup, h1, h2]
theorem bools_true : ∀ n, D.bools (List.replicate n (.bl true)) = some (List.replicate n true)
  | 0 => rfl
  | n + 1 => by rw [List.replicate_succ, List.replicate_succ, D.bools, bools_true n]; rfl
theorem are_integers_ok {f : List Int} (h : ∀ x ∈ f, Sm x) (hl : f.length ≤ 1000) : m_are_integers [.val (.tup (Zl f))] = .ok (.bl true) [.no] := by
  have key := lc_all (v := 1) (el := mCall m_is_integer (mCons (mName 1) mNil)) (e := [.val (.tup (Zl f)), .no]) f D.int (fun _ => .bl true) (by omega) rfl (fun x hx => by
      simp -implicitDefEqProofs [is_integer_ok (h x hx)])
  rw [List.map_const'] at key
  have al : fAll [.lst (List.replicate f.length (.bl true))] = some (.bl true) := by
    show (D.bools _).map _ = _
    rw [bools_true]
    simp
  simp -implicitDefEqProofs [m_are_integers, D.tg, isiT, List.lookup, noCells, wipeE, key, al]
structure Po (f : List Int) : Prop where
  sm : ∀ x ∈ f, Sm x
  l2 : f.length ≤ 400
  tr : trim f = f
theorem Po.bd {f : List Int} (h : Po f) : ∀ x ∈ f, Bd 200 x := fun x hx => (h.sm x hx).bd
theorem eq_nil {f : List Int} : dEq (.tup (Zl f)) (.tup []) = some (.bl (decide (f = []))) := dEq_tups (b := [])
theorem ix_neg {f : List Int} (h : f ≠ []) : dIx (.tup (Zl f)) (.int (-1)) = some (.int (gt f (f.length - 1))) := ix_last (List.length_pos_iff.mpr h)
theorem Po.last {f : List Int} (h : Po f) (n : f ≠ []) : gt f (f.length - 1) ≠ 0 := by
  have := trim_last (l := f) (by rw [h.tr]; exact n)
  rwa [h.tr] at this
theorem is_polynomial_ok {f : List Int} (h : Po f) : m_is_polynomial [.val (.tup (Zl f))] = .ok (.bl true) [.no] := by
  have hl := h.l2
  have hl2 : (f.length : Int) ≤ 400 := by omega
  by_cases n : f = []
  · subst n
    have a := are_integers_ok h.sm (by omega)
    have e := eq_nil (f := [])
    simp -implicitDefEqProofs [m_is_polynomial] at a e ⊢
    simp -implicitDefEqProofs [a, e]
  · have hla := h.last n
    simp -implicitDefEqProofs [m_is_polynomial, are_integers_ok h.sm (by omega), ix_neg n, eq_nil, n, hla, hl2]
theorem require_polynomial_ok {f : List Int} (h : Po f) : m_require_polynomial [.val (.tup (Zl f))] = .ok .non [.no] := by
  simp -implicitDefEqProofs [m_require_polynomial, is_polynomial_ok h]
theorem require_integer_ok {v : Int} (h : Sm v) : m_require_integer [.val (.int v)] = .ok .non [.no] := by
  simp -implicitDefEqProofs [m_require_integer, is_integer_ok h]
/-! zeros at the end -/
theorem cut_to {l : List Int} {k : Nat} (h : k ≤ l.length) : dSl none (some (k : Int)) (.lst (Zl l)) = some (.lst (Zl (l.take k))) := by
  show some (D.lst (cutD _ _ _)) = _
  rw [L_cut_to (by rw [Zl_len]; exact h), Zl_take]
abbrev WT : M Bool := (mAndT (mTest (mBin dGt (mName 1) (mC (.int 0)))) (mTest (mBin dEq (mBin dIx (mName 0) (mBin dSub (mName 1) (mC (.int 1)))) (mC (.int 0)))))
theorem wz_loop {F : List Int} : ∀ (n fuel : Nat), n ≤ F.length → n < fuel → (∀ k, n ≤ k → gt F k = 0) →
    whileN fuel WT (mAug 1 dSub (mC (.int 1))) [.val (.lst (Zl F)), .val (.int n)] = .ok .next [.val (.lst (Zl F)), .val (.int ((trim F).length : Nat))] := by
  intro n
  induction n with
  | zero =>
    intro fuel _ hf hz
    obtain ⟨f, rfl⟩ : ∃ f, fuel = f + 1 := ⟨fuel - 1, by omega⟩
    have ht : trim F = [] := trim_zero fun k => hz k (by omega)
    unfold whileN
    rw [ht]
    simp -implicitDefEqProofs
  | succ n ih =>
    intro fuel hn hf hz
    obtain ⟨f, rfl⟩ : ∃ f, fuel = f + 1 := ⟨fuel - 1, by omega⟩
    have ix : dIx (.lst (Zl F)) (.int (((n + 1 : Nat) : Int) - 1)) = some (.int (gt F n)) := by
      rw [show ((n + 1 : Nat) : Int) - 1 = (n : Int) by omega]
      exact ix_lst (by omega)
    have p0 : (0 : Int) < ((n + 1 : Nat) : Int) := by omega
    have test : WT [.val (.lst (Zl F)), .val (.int (n + 1 : Nat))] = .ok (decide (gt F n = 0)) [.val (.lst (Zl F)), .val (.int (n + 1 : Nat))] := by
      simp -implicitDefEqProofs only [ev_def, ev_defO, List.length_cons, List.length_nil, List.cons_append, List.nil_append, List.replicate_succ, List.replicate_zero, Nat.reduceAdd, Nat.reduceSub, Nat.reduceLeDiff, ev_seq, sq_next, sq_ret, sq_retO, sq_exc, ev_expr, ev_call, ev_callO, ev_callL, ev_callN, ev_cons, ev_nil, ev_name, List.getElem?_cons_succ, List.getElem?_cons_zero, name_val, name_lst, bnd_ok, bnd_exc, List.map_cons, List.map_nil, callR_ok, callR_exc, callOR_ok, lentG_cell, lentF_cell, lentR_ok, ev_set, ev_setO, ev_C, setR_no, setR_val, setR_cell, updR_some, List.set_cons_succ, List.set_cons_zero, ev_for, ev_iter, ev_some, its_tup, its_lst, its_ro, ev_mret, ev_retO, end_ret, end_next, end_exc, endO_ret, outs_val, outs_no, outs_cell, outs_nil, ev_if, ev_orT, ev_andT, ev_notT, ev_ofT, ev_tru, ev_test, ev_bin, ev_un, ev_and, ev_or, ev_not, ev_isi, isB_bl, tru_bl, if_true, if_false, Bool.false_eq_true, Bool.not_true, Bool.not_false, ev_next, ev_ret, ev_raise, ev_raise0, ev_tup, ev_lst, ev_frz, frz_lst, ev_fn, ev_setIx, setIxG_lst, setIxR_lst, isL_lst, ixR_lst, lenR_lst, ev_lenC, appR_lst, ev_par, ev_pvCons, ev_pvNil, ev_inl, ev_inr, pvs_cons, pvs_nil, pv_inl, pv_inr, pvsR_some, ev_aug, augR_val, ev_sl, ev_part_none, ev_part_some, partR_int, ev_range, ev_enumA, enumR_tup, enumR_lst, ev_gTup, ev_gsCons, ev_gSet, gsR_some, ev_gsNil, ev_lc, ev_list, ev_rev, fLen_lst, fLen_tup, fLen_ro, fTuple_lst, fTuple_tup, fList_lst, fList_tup, dAdd_int, dSub_int, dNeg_int, dLt_int, dLe_int, dGt_int, dGe_int, dEq_int, dNe_int, dAddI_int, ev_ixC, ev_append, ev_repO, repR_lst, ev_catO, catR_lst, ev_down, ev_lr1, ev_lr2, ev_cmpC, cmpR_lst, ev_pop, popR_lst, dEq_lsts, dNe_lsts, dEq_tups, dNe_tups, ix, p0, decide_true]
    unfold whileN
    rw [test]
    by_cases h : gt F n = 0
    · rw [decide_eq_true h]
      have body : (mAug 1 dSub (mC (.int 1))) [.val (.lst (Zl F)), .val (.int (n + 1 : Nat))] = .ok .next [.val (.lst (Zl F)), .val (.int n)] := by
        simp -implicitDefEqProofs only [ev_def, ev_defO, List.length_cons, List.length_nil, List.cons_append, List.nil_append, List.replicate_succ, List.replicate_zero, Nat.reduceAdd, Nat.reduceSub, Nat.reduceLeDiff, ev_seq, sq_next, sq_ret, sq_retO, sq_exc, ev_expr, ev_call, ev_callO, ev_callL, ev_callN, ev_cons, ev_nil, ev_name, List.getElem?_cons_succ, List.getElem?_cons_zero, name_val, name_lst, bnd_ok, bnd_exc, List.map_cons, List.map_nil, callR_ok, callR_exc, callOR_ok, lentG_cell, lentF_cell, lentR_ok, ev_set, ev_setO, ev_C, setR_no, setR_val, setR_cell, updR_some, List.set_cons_succ, List.set_cons_zero, ev_for, ev_iter, ev_some, its_tup, its_lst, its_ro, ev_mret, ev_retO, end_ret, end_next, end_exc, endO_ret, outs_val, outs_no, outs_cell, outs_nil, ev_if, ev_orT, ev_andT, ev_notT, ev_ofT, ev_tru, ev_test, ev_bin, ev_un, ev_and, ev_or, ev_not, ev_isi, isB_bl, tru_bl, if_true, if_false, Bool.false_eq_true, Bool.not_true, Bool.not_false, ev_next, ev_ret, ev_raise, ev_raise0, ev_tup, ev_lst, ev_frz, frz_lst, ev_fn, ev_setIx, setIxG_lst, setIxR_lst, isL_lst, ixR_lst, lenR_lst, ev_lenC, appR_lst, ev_par, ev_pvCons, ev_pvNil, ev_inl, ev_inr, pvs_cons, pvs_nil, pv_inl, pv_inr, pvsR_some, ev_aug, augR_val, ev_sl, ev_part_none, ev_part_some, partR_int, ev_range, ev_enumA, enumR_tup, enumR_lst, ev_gTup, ev_gsCons, ev_gSet, gsR_some, ev_gsNil, ev_lc, ev_list, ev_rev, fLen_lst, fLen_tup, fLen_ro, fTuple_lst, fTuple_tup, fList_lst, fList_tup, dAdd_int, dSub_int, dNeg_int, dLt_int, dLe_int, dGt_int, dGe_int, dEq_int, dNe_int, dAddI_int, ev_ixC, ev_append, ev_repO, repR_lst, ev_catO, catR_lst, ev_down, ev_lr1, ev_lr2, ev_cmpC, cmpR_lst, ev_pop, popR_lst, dEq_lsts, dNe_lsts, dEq_tups, dNe_tups, show ((n + 1 : Nat) : Int) - 1 = (n : Int) by omega]
      dsimp only
      rw [body]
      dsimp only
      exact ih f (by omega) (by omega) fun k hk => by
        by_cases e : k = n
        · rw [e]; exact h
        · exact hz k (by omega)
    · rw [decide_eq_false h]
      dsimp only
      rw [trim_take hn hz (.inr (by simpa using h)), List.length_take, Nat.min_eq_left hn]
theorem without_zeros_ok {F : List Int} (hl : F.length ≤ 1000000) : m_without_zeros [.val (.lst (Zl F))] = .ok (.tup (Zl (trim F))) [.no] := by
  have w := wz_loop (F := F) F.length 1099511627776 (Nat.le_refl _) (by omega) fun k hk => gt_over hk
  have c := cut_to (l := F) trim_le
  have e : F.take (trim F).length = trim F := by
    apply gt_ext
    · rw [List.length_take, Nat.min_eq_left trim_le]
    · intro k hk
      rw [List.length_take, Nat.min_eq_left trim_le] at hk
      rw [gt_take, if_pos hk, gt_trim]
  rw [e] at c
  unfold m_without_zeros mWhile
  simp -implicitDefEqProofs only [ev_def, ev_defO, List.length_cons, List.length_nil, List.cons_append, List.nil_append, List.replicate_succ, List.replicate_zero, Nat.reduceAdd, Nat.reduceSub, Nat.reduceLeDiff, ev_seq, sq_next, sq_ret, sq_retO, sq_exc, ev_expr, ev_call, ev_callO, ev_callL, ev_callN, ev_cons, ev_nil, ev_name, List.getElem?_cons_succ, List.getElem?_cons_zero, name_val, name_lst, bnd_ok, bnd_exc, List.map_cons, List.map_nil, callR_ok, callR_exc, callOR_ok, lentG_cell, lentF_cell, lentR_ok, ev_set, ev_setO, ev_C, setR_no, setR_val, setR_cell, updR_some, List.set_cons_succ, List.set_cons_zero, ev_for, ev_iter, ev_some, its_tup, its_lst, its_ro, ev_mret, ev_retO, end_ret, end_next, end_exc, endO_ret, outs_val, outs_no, outs_cell, outs_nil, ev_if, ev_orT, ev_andT, ev_notT, ev_ofT, ev_tru, ev_test, ev_bin, ev_un, ev_and, ev_or, ev_not, ev_isi, isB_bl, tru_bl, if_true, if_false, Bool.false_eq_true, Bool.not_true, Bool.not_false, ev_next, ev_ret, ev_raise, ev_raise0, ev_tup, ev_lst, ev_frz, frz_lst, ev_fn, ev_setIx, setIxG_lst, setIxR_lst, isL_lst, ixR_lst, lenR_lst, ev_lenC, appR_lst, ev_par, ev_pvCons, ev_pvNil, ev_inl, ev_inr, pvs_cons, pvs_nil, pv_inl, pv_inr, pvsR_some, ev_aug, augR_val, ev_sl, ev_part_none, ev_part_some, partR_int, ev_range, ev_enumA, enumR_tup, enumR_lst, ev_gTup, ev_gsCons, ev_gSet, gsR_some, ev_gsNil, ev_lc, ev_list, ev_rev, fLen_lst, fLen_tup, fLen_ro, fTuple_lst, fTuple_tup, fList_lst, fList_tup, dAdd_int, dSub_int, dNeg_int, dLt_int, dLe_int, dGt_int, dGe_int, dEq_int, dNe_int, dAddI_int, ev_ixC, ev_append, ev_repO, repR_lst, ev_catO, catR_lst, ev_down, ev_lr1, ev_lr2, ev_cmpC, cmpR_lst, ev_pop, popR_lst, dEq_lsts, dNe_lsts, dEq_tups, dNe_tups, Zl_len, w, c]
theorem Zl_drop {l : List Int} : (Zl l).dropLast = Zl l.dropLast := by simp [Zl, List.map_dropLast]
abbrev TB : MS := (mIf (mAndT (mTest (mCmpC dNe 1 (mFrz (mLst mNil)))) (mTest (mBin dEq (mIxC 1 (mUn dNeg (mC (.int 1)))) (mC (.int 0)))))
  (mExpr (mPop 1))
  M.next)
theorem tb_step {s0 q : Sl} {l : List Int} : TB [s0, .cell false (.lst (Zl l)), q] = .ok .next [s0, .cell false (.lst (Zl (if l ≠ [] ∧ gt l (l.length - 1) = 0 then l.dropLast else l))), q] := by
  have e0 : dNe (.lst (Zl l)) (.lst []) = some (.bl (!decide (l = []))) := dNe_lsts (b := [])
  by_cases h : l = []
  · subst h
    rw [if_neg (by simp)]
    have e1 : dNe (.lst []) (.lst []) = some (.bl false) := e0
    simp -implicitDefEqProofs only [ev_def, ev_defO, List.length_cons, List.length_nil, List.cons_append, List.nil_append, List.replicate_succ, List.replicate_zero, Nat.reduceAdd, Nat.reduceSub, Nat.reduceLeDiff, ev_seq, sq_next, sq_ret, sq_retO, sq_exc, ev_expr, ev_call, ev_callO, ev_callL, ev_callN, ev_cons, ev_nil, ev_name, List.getElem?_cons_succ, List.getElem?_cons_zero, name_val, name_lst, bnd_ok, bnd_exc, List.map_cons, List.map_nil, callR_ok, callR_exc, callOR_ok, lentG_cell, lentF_cell, lentR_ok, ev_set, ev_setO, ev_C, setR_no, setR_val, setR_cell, updR_some, List.set_cons_succ, List.set_cons_zero, ev_for, ev_iter, ev_some, its_tup, its_lst, its_ro, ev_mret, ev_retO, end_ret, end_next, end_exc, endO_ret, outs_val, outs_no, outs_cell, outs_nil, ev_if, ev_orT, ev_andT, ev_notT, ev_ofT, ev_tru, ev_test, ev_bin, ev_un, ev_and, ev_or, ev_not, ev_isi, isB_bl, tru_bl, if_true, if_false, Bool.false_eq_true, Bool.not_true, Bool.not_false, ev_next, ev_ret, ev_raise, ev_raise0, ev_tup, ev_lst, ev_frz, frz_lst, ev_fn, ev_setIx, setIxG_lst, setIxR_lst, isL_lst, ixR_lst, lenR_lst, ev_lenC, appR_lst, ev_par, ev_pvCons, ev_pvNil, ev_inl, ev_inr, pvs_cons, pvs_nil, pv_inl, pv_inr, pvsR_some, ev_aug, augR_val, ev_sl, ev_part_none, ev_part_some, partR_int, ev_range, ev_enumA, enumR_tup, enumR_lst, ev_gTup, ev_gsCons, ev_gSet, gsR_some, ev_gsNil, ev_lc, ev_list, ev_rev, fLen_lst, fLen_tup, fLen_ro, fTuple_lst, fTuple_tup, fList_lst, fList_tup, dAdd_int, dSub_int, dNeg_int, dLt_int, dLe_int, dGt_int, dGe_int, dEq_int, dNe_int, dAddI_int, ev_ixC, ev_append, ev_repO, repR_lst, ev_catO, catR_lst, ev_down, ev_lr1, ev_lr2, ev_cmpC, cmpR_lst, ev_pop, popR_lst, dEq_lsts, dNe_lsts, dEq_tups, dNe_tups, e1]
  · have hp := List.length_pos_iff.mpr h
    have ix := ix_last hp
    have gl : (Zl l)[(Zl l).length - 1]? = some (.int (gt l (l.length - 1))) := by rw [Zl_len]; exact zl_get (by omega)
    rw [decide_eq_false h] at e0
    by_cases h2 : gt l (l.length - 1) = 0
    · rw [if_pos ⟨h, h2⟩]
      simp -implicitDefEqProofs only [ev_def, ev_defO, List.length_cons, List.length_nil, List.cons_append, List.nil_append, List.replicate_succ, List.replicate_zero, Nat.reduceAdd, Nat.reduceSub, Nat.reduceLeDiff, ev_seq, sq_next, sq_ret, sq_retO, sq_exc, ev_expr, ev_call, ev_callO, ev_callL, ev_callN, ev_cons, ev_nil, ev_name, List.getElem?_cons_succ, List.getElem?_cons_zero, name_val, name_lst, bnd_ok, bnd_exc, List.map_cons, List.map_nil, callR_ok, callR_exc, callOR_ok, lentG_cell, lentF_cell, lentR_ok, ev_set, ev_setO, ev_C, setR_no, setR_val, setR_cell, updR_some, List.set_cons_succ, List.set_cons_zero, ev_for, ev_iter, ev_some, its_tup, its_lst, its_ro, ev_mret, ev_retO, end_ret, end_next, end_exc, endO_ret, outs_val, outs_no, outs_cell, outs_nil, ev_if, ev_orT, ev_andT, ev_notT, ev_ofT, ev_tru, ev_test, ev_bin, ev_un, ev_and, ev_or, ev_not, ev_isi, isB_bl, tru_bl, if_true, if_false, Bool.false_eq_true, Bool.not_true, Bool.not_false, ev_next, ev_ret, ev_raise, ev_raise0, ev_tup, ev_lst, ev_frz, frz_lst, ev_fn, ev_setIx, setIxG_lst, setIxR_lst, isL_lst, ixR_lst, lenR_lst, ev_lenC, appR_lst, ev_par, ev_pvCons, ev_pvNil, ev_inl, ev_inr, pvs_cons, pvs_nil, pv_inl, pv_inr, pvsR_some, ev_aug, augR_val, ev_sl, ev_part_none, ev_part_some, partR_int, ev_range, ev_enumA, enumR_tup, enumR_lst, ev_gTup, ev_gsCons, ev_gSet, gsR_some, ev_gsNil, ev_lc, ev_list, ev_rev, fLen_lst, fLen_tup, fLen_ro, fTuple_lst, fTuple_tup, fList_lst, fList_tup, dAdd_int, dSub_int, dNeg_int, dLt_int, dLe_int, dGt_int, dGe_int, dEq_int, dNe_int, dAddI_int, ev_ixC, ev_append, ev_repO, repR_lst, ev_catO, catR_lst, ev_down, ev_lr1, ev_lr2, ev_cmpC, cmpR_lst, ev_pop, popR_lst, dEq_lsts, dNe_lsts, dEq_tups, dNe_tups, e0, ix, decide_eq_true h2, gl, Zl_drop]
    · rw [if_neg (by simp [h2])]
      simp -implicitDefEqProofs only [ev_def, ev_defO, List.length_cons, List.length_nil, List.cons_append, List.nil_append, List.replicate_succ, List.replicate_zero, Nat.reduceAdd, Nat.reduceSub, Nat.reduceLeDiff, ev_seq, sq_next, sq_ret, sq_retO, sq_exc, ev_expr, ev_call, ev_callO, ev_callL, ev_callN, ev_cons, ev_nil, ev_name, List.getElem?_cons_succ, List.getElem?_cons_zero, name_val, name_lst, bnd_ok, bnd_exc, List.map_cons, List.map_nil, callR_ok, callR_exc, callOR_ok, lentG_cell, lentF_cell, lentR_ok, ev_set, ev_setO, ev_C, setR_no, setR_val, setR_cell, updR_some, List.set_cons_succ, List.set_cons_zero, ev_for, ev_iter, ev_some, its_tup, its_lst, its_ro, ev_mret, ev_retO, end_ret, end_next, end_exc, endO_ret, outs_val, outs_no, outs_cell, outs_nil, ev_if, ev_orT, ev_andT, ev_notT, ev_ofT, ev_tru, ev_test, ev_bin, ev_un, ev_and, ev_or, ev_not, ev_isi, isB_bl, tru_bl, if_true, if_false, Bool.false_eq_true, Bool.not_true, Bool.not_false, ev_next, ev_ret, ev_raise, ev_raise0, ev_tup, ev_lst, ev_frz, frz_lst, ev_fn, ev_setIx, setIxG_lst, setIxR_lst, isL_lst, ixR_lst, lenR_lst, ev_lenC, appR_lst, ev_par, ev_pvCons, ev_pvNil, ev_inl, ev_inr, pvs_cons, pvs_nil, pv_inl, pv_inr, pvsR_some, ev_aug, augR_val, ev_sl, ev_part_none, ev_part_some, partR_int, ev_range, ev_enumA, enumR_tup, enumR_lst, ev_gTup, ev_gsCons, ev_gSet, gsR_some, ev_gsNil, ev_lc, ev_list, ev_rev, fLen_lst, fLen_tup, fLen_ro, fTuple_lst, fTuple_tup, fList_lst, fList_tup, dAdd_int, dSub_int, dNeg_int, dLt_int, dLe_int, dGt_int, dGe_int, dEq_int, dNe_int, dAddI_int, ev_ixC, ev_append, ev_repO, repR_lst, ev_catO, catR_lst, ev_down, ev_lr1, ev_lr2, ev_cmpC, cmpR_lst, ev_pop, popR_lst, dEq_lsts, dNe_lsts, dEq_tups, dNe_tups, e0, ix, decide_eq_false h2]
theorem law_trimmed_of {s : D} {F : List Int} (hs : s = .lst (Zl F) ∨ s = .tup (Zl F)) (hl : F.length ≤ 1000000) : m__law_trimmed [.val s] = .ok (.tup (Zl (trim F))) [.no] := by
  obtain ⟨e', e1, m, q, rfl, hm, hz, hd, hq⟩ := forL_rg (tg := gSet 2) (b := TB) (fun i e => ∃ m q, e = [.val s, .cell false (.lst (Zl (F.take m))), q] ∧ m ≤ F.length ∧ (∀ k, m ≤ k → gt F k = 0) ∧ (m + i ≤ F.length ∨ m = 0 ∨ gt F (m - 1) ≠ 0) ∧ Fr q)
    F.length (e := [.val s, .cell false (.lst (Zl F)), .no]) ⟨F.length, .no, by rw [List.take_length], Nat.le_refl _, fun k hk => gt_over hk, .inl (by omega), fr_no⟩ (fun i e hi ⟨m, q, he, hm, hz, hd, hq⟩ => by
      subst he
      refine ⟨[.val s, .cell false (.lst (Zl (F.take m))), .val (.int i)], _, by simp -implicitDefEqProofs only [ev_def, ev_defO, List.length_cons, List.length_nil, List.cons_append, List.nil_append, List.replicate_succ, List.replicate_zero, Nat.reduceAdd, Nat.reduceSub, Nat.reduceLeDiff, ev_seq, sq_next, sq_ret, sq_retO, sq_exc, ev_expr, ev_call, ev_callO, ev_callL, ev_callN, ev_cons, ev_nil, ev_name, List.getElem?_cons_succ, List.getElem?_cons_zero, name_val, name_lst, bnd_ok, bnd_exc, List.map_cons, List.map_nil, callR_ok, callR_exc, callOR_ok, lentG_cell, lentF_cell, lentR_ok, ev_set, ev_setO, ev_C, setR_no, setR_val, setR_cell, updR_some, List.set_cons_succ, List.set_cons_zero, ev_for, ev_iter, ev_some, its_tup, its_lst, its_ro, ev_mret, ev_retO, end_ret, end_next, end_exc, endO_ret, outs_val, outs_no, outs_cell, outs_nil, ev_if, ev_orT, ev_andT, ev_notT, ev_ofT, ev_tru, ev_test, ev_bin, ev_un, ev_and, ev_or, ev_not, ev_isi, isB_bl, tru_bl, if_true, if_false, Bool.false_eq_true, Bool.not_true, Bool.not_false, ev_next, ev_ret, ev_raise, ev_raise0, ev_tup, ev_lst, ev_frz, frz_lst, ev_fn, ev_setIx, setIxG_lst, setIxR_lst, isL_lst, ixR_lst, lenR_lst, ev_lenC, appR_lst, ev_par, ev_pvCons, ev_pvNil, ev_inl, ev_inr, pvs_cons, pvs_nil, pv_inl, pv_inr, pvsR_some, ev_aug, augR_val, ev_sl, ev_part_none, ev_part_some, partR_int, ev_range, ev_enumA, enumR_tup, enumR_lst, ev_gTup, ev_gsCons, ev_gSet, gsR_some, ev_gsNil, ev_lc, ev_list, ev_rev, fLen_lst, fLen_tup, fLen_ro, fTuple_lst, fTuple_tup, fList_lst, fList_tup, dAdd_int, dSub_int, dNeg_int, dLt_int, dLe_int, dGt_int, dGe_int, dEq_int, dNe_int, dAddI_int, ev_ixC, ev_append, ev_repO, repR_lst, ev_catO, catR_lst, ev_down, ev_lr1, ev_lr2, ev_cmpC, cmpR_lst, ev_pop, popR_lst, dEq_lsts, dNe_lsts, dEq_tups, dNe_tups, set_fr hq], tb_step, ?_⟩
      by_cases h : m ≠ 0 ∧ gt F (m - 1) = 0
      · obtain ⟨h1, h2⟩ := h
        have hlen : (F.take m).length = m := by rw [List.length_take, Nat.min_eq_left hm]
        have c : F.take m ≠ [] ∧ gt (F.take m) ((F.take m).length - 1) = 0 := by
          refine ⟨fun z => ?_, ?_⟩
          · rw [z] at hlen; simp at hlen; omega
          · rw [hlen, gt_take, if_pos (by omega)]; exact h2
        rw [if_pos c]
        refine ⟨m - 1, .val (.int i), ?_, by omega, fun k hk => ?_, ?_, fr_val⟩
        · rw [List.dropLast_eq_take, hlen, List.take_take, Nat.min_eq_left (by omega)]
        · by_cases e : k = m - 1
          · rw [e]; exact h2
          · exact hz k (by omega)
        · rcases hd with hd | hd | hd
          · exact .inl (by omega)
          · omega
          · exact absurd h2 hd
      · have c : ¬ (F.take m ≠ [] ∧ gt (F.take m) ((F.take m).length - 1) = 0) := by
          rintro ⟨z1, z2⟩
          have hlen : (F.take m).length = m := by rw [List.length_take, Nat.min_eq_left hm]
          have h0 : m ≠ 0 := fun z => z1 (by rw [z]; simp)
          rw [hlen, gt_take, if_pos (by omega)] at z2
          exact h ⟨h0, z2⟩
        rw [if_neg c]
        refine ⟨m, .val (.int i), rfl, hm, hz, ?_, fr_val⟩
        by_cases h0 : m = 0
        · exact .inr (.inl h0)
        · exact .inr (.inr fun z => h ⟨h0, z⟩))
  have ht : F.take m = trim F := (trim_take hm hz (by
    rcases hd with hd | hd | hd
    · exact .inl (by omega)
    · exact .inl hd
    · exact .inr hd)).symm
  rw [ht] at e1
  have hr := fRange_n (n := F.length) hl
  unfold m__law_trimmed
  rcases hs with rfl | rfl <;> simp -implicitDefEqProofs only [ev_def, ev_defO, List.length_cons, List.length_nil, List.cons_append, List.nil_append, List.replicate_succ, List.replicate_zero, Nat.reduceAdd, Nat.reduceSub, Nat.reduceLeDiff, ev_seq, sq_next, sq_ret, sq_retO, sq_exc, ev_expr, ev_call, ev_callO, ev_callL, ev_callN, ev_cons, ev_nil, ev_name, List.getElem?_cons_succ, List.getElem?_cons_zero, name_val, name_lst, bnd_ok, bnd_exc, List.map_cons, List.map_nil, callR_ok, callR_exc, callOR_ok, lentG_cell, lentF_cell, lentR_ok, ev_set, ev_setO, ev_C, setR_no, setR_val, setR_cell, updR_some, List.set_cons_succ, List.set_cons_zero, ev_for, ev_iter, ev_some, its_tup, its_lst, its_ro, ev_mret, ev_retO, end_ret, end_next, end_exc, endO_ret, outs_val, outs_no, outs_cell, outs_nil, ev_if, ev_orT, ev_andT, ev_notT, ev_ofT, ev_tru, ev_test, ev_bin, ev_un, ev_and, ev_or, ev_not, ev_isi, isB_bl, tru_bl, if_true, if_false, Bool.false_eq_true, Bool.not_true, Bool.not_false, ev_next, ev_ret, ev_raise, ev_raise0, ev_tup, ev_lst, ev_frz, frz_lst, ev_fn, ev_setIx, setIxG_lst, setIxR_lst, isL_lst, ixR_lst, lenR_lst, ev_lenC, appR_lst, ev_par, ev_pvCons, ev_pvNil, ev_inl, ev_inr, pvs_cons, pvs_nil, pv_inl, pv_inr, pvsR_some, ev_aug, augR_val, ev_sl, ev_part_none, ev_part_some, partR_int, ev_range, ev_enumA, enumR_tup, enumR_lst, ev_gTup, ev_gsCons, ev_gSet, gsR_some, ev_gsNil, ev_lc, ev_list, ev_rev, fLen_lst, fLen_tup, fLen_ro, fTuple_lst, fTuple_tup, fList_lst, fList_tup, dAdd_int, dSub_int, dNeg_int, dLt_int, dLe_int, dGt_int, dGe_int, dEq_int, dNe_int, dAddI_int, ev_ixC, ev_append, ev_repO, repR_lst, ev_catO, catR_lst, ev_down, ev_lr1, ev_lr2, ev_cmpC, cmpR_lst, ev_pop, popR_lst, dEq_lsts, dNe_lsts, dEq_tups, dNe_tups, Zl_len, hr, e1]
theorem law_trimmed_ok {F : List Int} (hl : F.length ≤ 1000000) : m__law_trimmed [.val (.lst (Zl F))] = .ok (.tup (Zl (trim F))) [.no] := law_trimmed_of (.inl rfl) hl
theorem law_trimmed_tup {F : List Int} (hl : F.length ≤ 1000000) : m__law_trimmed [.val (.tup (Zl F))] = .ok (.tup (Zl (trim F))) [.no] := law_trimmed_of (.inr rfl) hl
end K48
set_option Elab.async false
set_option linter.all false
set_option maxRecDepth 100000
set_option maxHeartbeats 4000000
namespace K48
open PySem PySem.Spec PyProof.Rows L2 L2.DL
/-! products -/
abbrev IBd : MS := (mSetIx 2 (mBin dAdd (mName 3) (mName 5)) (mBin dAdd (mIxC 2 (mBin dAdd (mName 3) (mName 5))) (mBin dMul (mName 4) (mName 6))))
abbrev ILo : MS := (mFor (mEnumA (mName 1)) (gTupD 2 (gsCons (gSet 5) (gsCons (gSet 6) gsNil))) IBd)
theorem ib_step {s0 s1 : Sl} {F : List Int} {i m : Nat} {c x : Int} (h : i + m < F.length) (hm : dMul (.int c) (.int x) = some (.int (c * x))) :
    IBd [s0, s1, .cell false (.lst (Zl F)), .val (.int i), .val (.int c), .val (.int m), .val (.int x)] = .ok .next [s0, s1, .cell false (.lst (Zl (F.set (i + m) (gt F (i + m) + c * x)))), .val (.int i), .val (.int c), .val (.int m), .val (.int x)] := by
  have e1 : (i : Int) + (m : Int) = ((i + m : Nat) : Int) := by omega
  have h1 := ix_c (l := F) (k := i + m) h
  have h3 := ixN_nat (n := (Zl F).length) (k := i + m) (by rw [Zl_len]; exact h)
  simp -implicitDefEqProofs only [ev_def, ev_defO, List.length_cons, List.length_nil, List.cons_append, List.nil_append, List.replicate_succ, List.replicate_zero, Nat.reduceAdd, Nat.reduceSub, Nat.reduceLeDiff, ev_seq, sq_next, sq_ret, sq_retO, sq_exc, ev_expr, ev_call, ev_callO, ev_callL, ev_callN, ev_cons, ev_nil, ev_name, List.getElem?_cons_succ, List.getElem?_cons_zero, name_val, name_lst, bnd_ok, bnd_exc, List.map_cons, List.map_nil, callR_ok, callR_exc, callOR_ok, lentG_cell, lentF_cell, lentR_ok, ev_set, ev_setO, ev_C, setR_no, setR_val, setR_cell, updR_some, List.set_cons_succ, List.set_cons_zero, ev_for, ev_iter, ev_some, its_tup, its_lst, its_ro, ev_mret, ev_retO, end_ret, end_next, end_exc, endO_ret, outs_val, outs_no, outs_cell, outs_nil, ev_if, ev_orT, ev_andT, ev_notT, ev_ofT, ev_tru, ev_test, ev_bin, ev_un, ev_and, ev_or, ev_not, ev_isi, isB_bl, tru_bl, if_true, if_false, Bool.false_eq_true, Bool.not_true, Bool.not_false, ev_next, ev_ret, ev_raise, ev_raise0, ev_tup, ev_lst, ev_frz, frz_lst, ev_fn, ev_setIx, setIxG_lst, setIxR_lst, isL_lst, ixR_lst, lenR_lst, ev_lenC, appR_lst, ev_par, ev_pvCons, ev_pvNil, ev_inl, ev_inr, pvs_cons, pvs_nil, pv_inl, pv_inr, pvsR_some, ev_aug, augR_val, ev_sl, ev_part_none, ev_part_some, partR_int, ev_range, ev_enumA, enumR_tup, enumR_lst, ev_gTup, ev_gsCons, ev_gSet, gsR_some, ev_gsNil, ev_lc, ev_list, ev_rev, fLen_lst, fLen_tup, fLen_ro, fTuple_lst, fTuple_tup, fList_lst, fList_tup, dAdd_int, dSub_int, dNeg_int, dLt_int, dLe_int, dGt_int, dGe_int, dEq_int, dNe_int, dAddI_int, ev_ixC, ev_append, ev_repO, ev_catO, catR_lst, ev_down, ev_lr1, ev_lr2, ev_cmpC, cmpR_lst, ev_pop, popR_lst, dEq_lsts, dNe_lsts, dEq_tups, dNe_tups, e1, h1, hm, h3, Zl_set]
theorem row_ok {s0 q5 q6 : Sl} {other F : List Int} {i B C : Nat} {c : Int} (hF : i + other.length ≤ F.length) (hc : Bd B c) (ho : ∀ x ∈ other, Bd C x) (hB : B + C < 1000000) (h5 : Fr q5) (h6 : Fr q6) :
    ∃ F' q5' q6', ILo [s0, .val (.tup (Zl other)), .cell false (.lst (Zl F)), .val (.int i), .val (.int c), q5, q6] = .ok .next [s0, .val (.tup (Zl other)), .cell false (.lst (Zl F')), .val (.int i), .val (.int c), q5', q6']
      ∧ F'.length = F.length ∧ (∀ k, gt F' k = gt F k + if i ≤ k then c * gt other (k - i) else 0) ∧ Fr q5' ∧ Fr q6' := by
  obtain ⟨e', e1, F', q5', q6', rfl, hl, hk, f5, f6⟩ := forL_enum (tg := gTupD 2 (gsCons (gSet 5) (gsCons (gSet 6) gsNil))) (b := IBd)
    (fun j e => ∃ F' q5 q6, e = [s0, .val (.tup (Zl other)), .cell false (.lst (Zl F')), .val (.int i), .val (.int c), q5, q6] ∧ F'.length = F.length ∧ (∀ k, gt F' k = gt F k + if i ≤ k ∧ k < i + j then c * gt other (k - i) else 0) ∧ Fr q5 ∧ Fr q6)
    other (e := [s0, .val (.tup (Zl other)), .cell false (.lst (Zl F)), .val (.int i), .val (.int c), q5, q6]) ⟨F, q5, q6, rfl, rfl, fun k => by rw [if_neg (by omega)]; omega, h5, h6⟩ (fun j e hj ⟨F', q5, q6, he, hl, hk, h5, h6⟩ => by
      subst he
      refine ⟨[s0, .val (.tup (Zl other)), .cell false (.lst (Zl F')), .val (.int i), .val (.int c), .val (.int j), .val (.int (gt other j))], _, by simp -implicitDefEqProofs only [ev_def, ev_defO, List.length_cons, List.length_nil, List.cons_append, List.nil_append, List.replicate_succ, List.replicate_zero, Nat.reduceAdd, Nat.reduceSub, Nat.reduceLeDiff, ev_seq, sq_next, sq_ret, sq_retO, sq_exc, ev_expr, ev_call, ev_callO, ev_callL, ev_callN, ev_cons, ev_nil, ev_name, List.getElem?_cons_succ, List.getElem?_cons_zero, name_val, name_lst, bnd_ok, bnd_exc, List.map_cons, List.map_nil, callR_ok, callR_exc, callOR_ok, lentG_cell, lentF_cell, lentR_ok, ev_set, ev_setO, ev_C, setR_no, setR_val, setR_cell, updR_some, List.set_cons_succ, List.set_cons_zero, ev_for, ev_iter, ev_some, its_tup, its_lst, its_ro, ev_mret, ev_retO, end_ret, end_next, end_exc, endO_ret, outs_val, outs_no, outs_cell, outs_nil, ev_if, ev_orT, ev_andT, ev_notT, ev_ofT, ev_tru, ev_test, ev_bin, ev_un, ev_and, ev_or, ev_not, ev_isi, isB_bl, tru_bl, if_true, if_false, Bool.false_eq_true, Bool.not_true, Bool.not_false, ev_next, ev_ret, ev_raise, ev_raise0, ev_tup, ev_lst, ev_frz, frz_lst, ev_fn, ev_setIx, setIxG_lst, setIxR_lst, isL_lst, ixR_lst, lenR_lst, ev_lenC, appR_lst, ev_par, ev_pvCons, ev_pvNil, ev_inl, ev_inr, pvs_cons, pvs_nil, pv_inl, pv_inr, pvsR_some, ev_aug, augR_val, ev_sl, ev_part_none, ev_part_some, partR_int, ev_range, ev_enumA, enumR_tup, enumR_lst, ev_gTup, ev_gsCons, ev_gSet, gsR_some, ev_gsNil, ev_lc, ev_list, ev_rev, fLen_lst, fLen_tup, fLen_ro, fTuple_lst, fTuple_tup, fList_lst, fList_tup, dAdd_int, dSub_int, dNeg_int, dLt_int, dLe_int, dGt_int, dGe_int, dEq_int, dNe_int, dAddI_int, ev_ixC, ev_append, ev_repO, ev_catO, catR_lst, ev_down, ev_lr1, ev_lr2, ev_cmpC, cmpR_lst, ev_pop, popR_lst, dEq_lsts, dNe_lsts, dEq_tups, dNe_tups, set_fr h5, set_fr h6], ib_step (by omega) (bd_mul_ok hc (bd_gt ho j) hB), ?_⟩
      refine ⟨_, _, _, rfl, by rw [List.length_set, hl], fun k => ?_, fr_val, fr_val⟩
      rw [gt_set (by omega)]
      by_cases e : i + j = k
      · subst e
        rw [if_pos rfl, hk, if_neg (by omega), if_pos (by omega), show i + j - i = j by omega]
        omega
      · rw [if_neg e, hk]
        by_cases e2 : i ≤ k ∧ k < i + j
        · rw [if_pos e2, if_pos (by omega)]
        · rw [if_neg e2, if_neg (by omega)])
  refine ⟨F', q5', q6', ?_, hl, fun k => ?_, f5, f6⟩
  · simp -implicitDefEqProofs only [ev_def, ev_defO, List.length_cons, List.length_nil, List.cons_append, List.nil_append, List.replicate_succ, List.replicate_zero, Nat.reduceAdd, Nat.reduceSub, Nat.reduceLeDiff, ev_seq, sq_next, sq_ret, sq_retO, sq_exc, ev_expr, ev_call, ev_callO, ev_callL, ev_callN, ev_cons, ev_nil, ev_name, List.getElem?_cons_succ, List.getElem?_cons_zero, name_val, name_lst, bnd_ok, bnd_exc, List.map_cons, List.map_nil, callR_ok, callR_exc, callOR_ok, lentG_cell, lentF_cell, lentR_ok, ev_set, ev_setO, ev_C, setR_no, setR_val, setR_cell, updR_some, List.set_cons_succ, List.set_cons_zero, ev_for, ev_iter, ev_some, its_tup, its_lst, its_ro, ev_mret, ev_retO, end_ret, end_next, end_exc, endO_ret, outs_val, outs_no, outs_cell, outs_nil, ev_if, ev_orT, ev_andT, ev_notT, ev_ofT, ev_tru, ev_test, ev_bin, ev_un, ev_and, ev_or, ev_not, ev_isi, isB_bl, tru_bl, if_true, if_false, Bool.false_eq_true, Bool.not_true, Bool.not_false, ev_next, ev_ret, ev_raise, ev_raise0, ev_tup, ev_lst, ev_frz, frz_lst, ev_fn, ev_setIx, setIxG_lst, setIxR_lst, isL_lst, ixR_lst, lenR_lst, ev_lenC, appR_lst, ev_par, ev_pvCons, ev_pvNil, ev_inl, ev_inr, pvs_cons, pvs_nil, pv_inl, pv_inr, pvsR_some, ev_aug, augR_val, ev_sl, ev_part_none, ev_part_some, partR_int, ev_range, ev_enumA, enumR_tup, enumR_lst, ev_gTup, ev_gsCons, ev_gSet, gsR_some, ev_gsNil, ev_lc, ev_list, ev_rev, fLen_lst, fLen_tup, fLen_ro, fTuple_lst, fTuple_tup, fList_lst, fList_tup, dAdd_int, dSub_int, dNeg_int, dLt_int, dLe_int, dGt_int, dGe_int, dEq_int, dNe_int, dAddI_int, ev_ixC, ev_append, ev_repO, ev_catO, catR_lst, ev_down, ev_lr1, ev_lr2, ev_cmpC, cmpR_lst, ev_pop, popR_lst, dEq_lsts, dNe_lsts, dEq_tups, dNe_tups, e1]
  · rw [hk]
    by_cases e : i ≤ k
    · rw [if_pos e]
      by_cases e2 : k < i + other.length
      · rw [if_pos ⟨e, e2⟩]
      · rw [if_neg (by omega), gt_over (l := other) (by omega), Int.mul_zero]
    · rw [if_neg e, if_neg (by omega)]
abbrev OLo : MS := (mFor (mEnumA (mName 0)) (gTupD 2 (gsCons (gSet 3) (gsCons (gSet 4) gsNil))) ILo)
theorem rows_ok {one other : List Int} {n B C : Nat} {q3 q4 : Sl} (hF : one.length + other.length ≤ n + 1) (hc : ∀ x ∈ one, Bd B x) (ho : ∀ x ∈ other, Bd C x) (hB : B + C < 1000000) (h3 : Fr q3) :
    ∃ F a b c d, OLo [.val (.tup (Zl one)), .val (.tup (Zl other)), .cell false (.lst (Zl (List.replicate n 0))), q3, .no, .no, .no] = .ok .next [.val (.tup (Zl one)), .val (.tup (Zl other)), .cell false (.lst (Zl F)), a, b, c, d] ∧ F.length = n ∧ ∀ k, gt F k = cv (gt one) (gt other) k := by
  obtain ⟨e', e1, F', a, b, c, d, rfl, hl, hk, _⟩ := forL_enum (tg := gTupD 2 (gsCons (gSet 3) (gsCons (gSet 4) gsNil))) (b := ILo)
    (fun j e => ∃ F a b c d, e = [.val (.tup (Zl one)), .val (.tup (Zl other)), .cell false (.lst (Zl F)), a, b, c, d] ∧ F.length = n ∧ (∀ k, gt F k = pr one other j k) ∧ Fr a ∧ Fr b ∧ Fr c ∧ Fr d)
    one (e := [.val (.tup (Zl one)), .val (.tup (Zl other)), .cell false (.lst (Zl (List.replicate n 0))), q3, .no, .no, .no]) ⟨_, _, _, _, _, rfl, by simp, fun k => by rw [gt_rep]; rfl, h3, fr_no, fr_no, fr_no⟩ (fun j e hj ⟨F, a, b, c, d, he, hl, hk, fa, fb, fc, fd⟩ => by
      subst he
      obtain ⟨F', c', d', r, rl, rk, fc', fd'⟩ := row_ok (s0 := .val (.tup (Zl one))) (F := F) (i := j) (other := other) (by omega) (bd_gt hc j) ho hB fc fd
      refine ⟨[.val (.tup (Zl one)), .val (.tup (Zl other)), .cell false (.lst (Zl F)), .val (.int j), .val (.int (gt one j)), c, d], _, by simp -implicitDefEqProofs only [ev_def, ev_defO, List.length_cons, List.length_nil, List.cons_append, List.nil_append, List.replicate_succ, List.replicate_zero, Nat.reduceAdd, Nat.reduceSub, Nat.reduceLeDiff, ev_seq, sq_next, sq_ret, sq_retO, sq_exc, ev_expr, ev_call, ev_callO, ev_callL, ev_callN, ev_cons, ev_nil, ev_name, List.getElem?_cons_succ, List.getElem?_cons_zero, name_val, name_lst, bnd_ok, bnd_exc, List.map_cons, List.map_nil, callR_ok, callR_exc, callOR_ok, lentG_cell, lentF_cell, lentR_ok, ev_set, ev_setO, ev_C, setR_no, setR_val, setR_cell, updR_some, List.set_cons_succ, List.set_cons_zero, ev_for, ev_iter, ev_some, its_tup, its_lst, its_ro, ev_mret, ev_retO, end_ret, end_next, end_exc, endO_ret, outs_val, outs_no, outs_cell, outs_nil, ev_if, ev_orT, ev_andT, ev_notT, ev_ofT, ev_tru, ev_test, ev_bin, ev_un, ev_and, ev_or, ev_not, ev_isi, isB_bl, tru_bl, if_true, if_false, Bool.false_eq_true, Bool.not_true, Bool.not_false, ev_next, ev_ret, ev_raise, ev_raise0, ev_tup, ev_lst, ev_frz, frz_lst, ev_fn, ev_setIx, setIxG_lst, setIxR_lst, isL_lst, ixR_lst, lenR_lst, ev_lenC, appR_lst, ev_par, ev_pvCons, ev_pvNil, ev_inl, ev_inr, pvs_cons, pvs_nil, pv_inl, pv_inr, pvsR_some, ev_aug, augR_val, ev_sl, ev_part_none, ev_part_some, partR_int, ev_range, ev_enumA, enumR_tup, enumR_lst, ev_gTup, ev_gsCons, ev_gSet, gsR_some, ev_gsNil, ev_lc, ev_list, ev_rev, fLen_lst, fLen_tup, fLen_ro, fTuple_lst, fTuple_tup, fList_lst, fList_tup, dAdd_int, dSub_int, dNeg_int, dLt_int, dLe_int, dGt_int, dGe_int, dEq_int, dNe_int, dAddI_int, ev_ixC, ev_append, ev_repO, ev_catO, catR_lst, ev_down, ev_lr1, ev_lr2, ev_cmpC, cmpR_lst, ev_pop, popR_lst, dEq_lsts, dNe_lsts, dEq_tups, dNe_tups, set_fr fa, set_fr fb], r, F', _, _, _, _, rfl, by omega, fun k => ?_, fr_val, fr_val, fc', fd'⟩
      rw [rk, hk]
      rfl)
  refine ⟨F', a, b, c, d, ?_, hl, fun k => ?_⟩
  · simp -implicitDefEqProofs only [ev_def, ev_defO, List.length_cons, List.length_nil, List.cons_append, List.nil_append, List.replicate_succ, List.replicate_zero, Nat.reduceAdd, Nat.reduceSub, Nat.reduceLeDiff, ev_seq, sq_next, sq_ret, sq_retO, sq_exc, ev_expr, ev_call, ev_callO, ev_callL, ev_callN, ev_cons, ev_nil, ev_name, List.getElem?_cons_succ, List.getElem?_cons_zero, name_val, name_lst, bnd_ok, bnd_exc, List.map_cons, List.map_nil, callR_ok, callR_exc, callOR_ok, lentG_cell, lentF_cell, lentR_ok, ev_set, ev_setO, ev_C, setR_no, setR_val, setR_cell, updR_some, List.set_cons_succ, List.set_cons_zero, ev_for, ev_iter, ev_some, its_tup, its_lst, its_ro, ev_mret, ev_retO, end_ret, end_next, end_exc, endO_ret, outs_val, outs_no, outs_cell, outs_nil, ev_if, ev_orT, ev_andT, ev_notT, ev_ofT, ev_tru, ev_test, ev_bin, ev_un, ev_and, ev_or, ev_not, ev_isi, isB_bl, tru_bl, if_true, if_false, Bool.false_eq_true, Bool.not_true, Bool.not_false, ev_next, ev_ret, ev_raise, ev_raise0, ev_tup, ev_lst, ev_frz, frz_lst, ev_fn, ev_setIx, setIxG_lst, setIxR_lst, isL_lst, ixR_lst, lenR_lst, ev_lenC, appR_lst, ev_par, ev_pvCons, ev_pvNil, ev_inl, ev_inr, pvs_cons, pvs_nil, pv_inl, pv_inr, pvsR_some, ev_aug, augR_val, ev_sl, ev_part_none, ev_part_some, partR_int, ev_range, ev_enumA, enumR_tup, enumR_lst, ev_gTup, ev_gsCons, ev_gSet, gsR_some, ev_gsNil, ev_lc, ev_list, ev_rev, fLen_lst, fLen_tup, fLen_ro, fTuple_lst, fTuple_tup, fList_lst, fList_tup, dAdd_int, dSub_int, dNeg_int, dLt_int, dLe_int, dGt_int, dGe_int, dEq_int, dNe_int, dAddI_int, ev_ixC, ev_append, ev_repO, ev_catO, catR_lst, ev_down, ev_lr1, ev_lr2, ev_cmpC, cmpR_lst, ev_pop, popR_lst, dEq_lsts, dNe_lsts, dEq_tups, dNe_tups, e1]
  · rw [hk]; exact pr_cv
theorem rep_flat (n : Nat) : (List.replicate n [D.int 0]).flatten = Zl (List.replicate n 0) := by
  induction n with
  | zero => rfl
  | succ n ih => rw [List.replicate_succ, List.flatten_cons, ih]; rfl
/-- the product -/
def mulP (one other : List Int) : List Int := trim ((List.range (one.length + other.length)).map fun k => cv (gt one) (gt other) k)
theorem gt_rg {n : Nat} {f : Nat → Int} {k : Nat} : gt ((List.range n).map f) k = if k < n then f k else 0 := by
  by_cases h : k < n
  · simp [gt, List.getD_eq_getElem?_getD, h]
  · rw [if_neg h, gt_over (by simp; omega)]
theorem gt_mulP {one other : List Int} {k : Nat} : gt (mulP one other) k = cv (gt one) (gt other) k := by
  unfold mulP
  rw [gt_trim, gt_rg]
  by_cases h : k < one.length + other.length
  · rw [if_pos h]
  · rw [if_neg h, cv_over (by omega)]
theorem trim_mulP {one other : List Int} : trim (mulP one other) = mulP one other := trim_trim
theorem trim_eq_mulP {F one other : List Int} (h : ∀ k, gt F k = cv (gt one) (gt other) k) : trim F = mulP one other := by
  have := trim_ext (a := F) (b := mulP one other) fun k => by rw [h, gt_mulP]
  rw [this, trim_mulP]
theorem mulP_comm {one other : List Int} : mulP one other = mulP other one := by
  rw [← trim_mulP, ← trim_mulP (one := other)]
  exact trim_ext fun k => by rw [gt_mulP, gt_mulP, cv_comm]
theorem mulP_nil {one : List Int} : mulP one [] = [] := by
  unfold mulP
  refine trim_zero fun k => ?_
  rw [gt_rg]
  split
  · exact sm_zero fun i _ => by simp
  · rfl
theorem product_of_ok {one other : List Int} {B C : Nat} (hl : one.length + other.length ≤ 10000) (hc : ∀ x ∈ one, Bd B x) (ho : ∀ x ∈ other, Bd C x) (hB : B + C < 1000000) :
    m_product_of [.val (.tup (Zl one)), .val (.tup (Zl other))] = .ok (.tup (Zl (mulP one other))) [.no, .no] := by
  have e0 := eq_nil (f := one)
  have e1 := eq_nil (f := other)
  unfold m_product_of
  by_cases n1 : one = []
  · subst n1
    have z : mulP [] other = [] := by rw [mulP_comm, mulP_nil]
    rw [decide_eq_true rfl] at e0
    rw [z]
    simp -implicitDefEqProofs only [ev_def, ev_defO, List.length_cons, List.length_nil, List.cons_append, List.nil_append, List.replicate_succ, List.replicate_zero, Nat.reduceAdd, Nat.reduceSub, Nat.reduceLeDiff, ev_seq, sq_next, sq_ret, sq_retO, sq_exc, ev_expr, ev_call, ev_callO, ev_callL, ev_callN, ev_cons, ev_nil, ev_name, List.getElem?_cons_succ, List.getElem?_cons_zero, name_val, name_lst, bnd_ok, bnd_exc, List.map_cons, List.map_nil, callR_ok, callR_exc, callOR_ok, lentG_cell, lentF_cell, lentR_ok, ev_set, ev_setO, ev_C, setR_no, setR_val, setR_cell, updR_some, List.set_cons_succ, List.set_cons_zero, ev_for, ev_iter, ev_some, its_tup, its_lst, its_ro, ev_mret, ev_retO, end_ret, end_next, end_exc, endO_ret, outs_val, outs_no, outs_cell, outs_nil, ev_if, ev_orT, ev_andT, ev_notT, ev_ofT, ev_tru, ev_test, ev_bin, ev_un, ev_and, ev_or, ev_not, ev_isi, isB_bl, tru_bl, if_true, if_false, Bool.false_eq_true, Bool.not_true, Bool.not_false, ev_next, ev_ret, ev_raise, ev_raise0, ev_tup, ev_lst, ev_frz, frz_lst, ev_fn, ev_setIx, setIxG_lst, setIxR_lst, isL_lst, ixR_lst, lenR_lst, ev_lenC, appR_lst, ev_par, ev_pvCons, ev_pvNil, ev_inl, ev_inr, pvs_cons, pvs_nil, pv_inl, pv_inr, pvsR_some, ev_aug, augR_val, ev_sl, ev_part_none, ev_part_some, partR_int, ev_range, ev_enumA, enumR_tup, enumR_lst, ev_gTup, ev_gsCons, ev_gSet, gsR_some, ev_gsNil, ev_lc, ev_list, ev_rev, fLen_lst, fLen_tup, fLen_ro, fTuple_lst, fTuple_tup, fList_lst, fList_tup, dAdd_int, dSub_int, dNeg_int, dLt_int, dLe_int, dGt_int, dGe_int, dEq_int, dNe_int, dAddI_int, ev_ixC, ev_append, ev_repO, ev_catO, catR_lst, ev_down, ev_lr1, ev_lr2, ev_cmpC, cmpR_lst, ev_pop, popR_lst, dEq_lsts, dNe_lsts, dEq_tups, dNe_tups, List.map_nil] at e0 ⊢
    simp -implicitDefEqProofs only [ev_def, ev_defO, List.length_cons, List.length_nil, List.cons_append, List.nil_append, List.replicate_succ, List.replicate_zero, Nat.reduceAdd, Nat.reduceSub, Nat.reduceLeDiff, ev_seq, sq_next, sq_ret, sq_retO, sq_exc, ev_expr, ev_call, ev_callO, ev_callL, ev_callN, ev_cons, ev_nil, ev_name, List.getElem?_cons_succ, List.getElem?_cons_zero, name_val, name_lst, bnd_ok, bnd_exc, List.map_cons, List.map_nil, callR_ok, callR_exc, callOR_ok, lentG_cell, lentF_cell, lentR_ok, ev_set, ev_setO, ev_C, setR_no, setR_val, setR_cell, updR_some, List.set_cons_succ, List.set_cons_zero, ev_for, ev_iter, ev_some, its_tup, its_lst, its_ro, ev_mret, ev_retO, end_ret, end_next, end_exc, endO_ret, outs_val, outs_no, outs_cell, outs_nil, ev_if, ev_orT, ev_andT, ev_notT, ev_ofT, ev_tru, ev_test, ev_bin, ev_un, ev_and, ev_or, ev_not, ev_isi, isB_bl, tru_bl, if_true, if_false, Bool.false_eq_true, Bool.not_true, Bool.not_false, ev_next, ev_ret, ev_raise, ev_raise0, ev_tup, ev_lst, ev_frz, frz_lst, ev_fn, ev_setIx, setIxG_lst, setIxR_lst, isL_lst, ixR_lst, lenR_lst, ev_lenC, appR_lst, ev_par, ev_pvCons, ev_pvNil, ev_inl, ev_inr, pvs_cons, pvs_nil, pv_inl, pv_inr, pvsR_some, ev_aug, augR_val, ev_sl, ev_part_none, ev_part_some, partR_int, ev_range, ev_enumA, enumR_tup, enumR_lst, ev_gTup, ev_gsCons, ev_gSet, gsR_some, ev_gsNil, ev_lc, ev_list, ev_rev, fLen_lst, fLen_tup, fLen_ro, fTuple_lst, fTuple_tup, fList_lst, fList_tup, dAdd_int, dSub_int, dNeg_int, dLt_int, dLe_int, dGt_int, dGe_int, dEq_int, dNe_int, dAddI_int, ev_ixC, ev_append, ev_repO, ev_catO, catR_lst, ev_down, ev_lr1, ev_lr2, ev_cmpC, cmpR_lst, ev_pop, popR_lst, dEq_lsts, dNe_lsts, dEq_tups, dNe_tups, e0]
  · by_cases n2 : other = []
    · subst n2
      rw [decide_eq_false n1] at e0
      rw [decide_eq_true rfl] at e1
      rw [mulP_nil]
      simp -implicitDefEqProofs only [ev_def, ev_defO, List.length_cons, List.length_nil, List.cons_append, List.nil_append, List.replicate_succ, List.replicate_zero, Nat.reduceAdd, Nat.reduceSub, Nat.reduceLeDiff, ev_seq, sq_next, sq_ret, sq_retO, sq_exc, ev_expr, ev_call, ev_callO, ev_callL, ev_callN, ev_cons, ev_nil, ev_name, List.getElem?_cons_succ, List.getElem?_cons_zero, name_val, name_lst, bnd_ok, bnd_exc, List.map_cons, List.map_nil, callR_ok, callR_exc, callOR_ok, lentG_cell, lentF_cell, lentR_ok, ev_set, ev_setO, ev_C, setR_no, setR_val, setR_cell, updR_some, List.set_cons_succ, List.set_cons_zero, ev_for, ev_iter, ev_some, its_tup, its_lst, its_ro, ev_mret, ev_retO, end_ret, end_next, end_exc, endO_ret, outs_val, outs_no, outs_cell, outs_nil, ev_if, ev_orT, ev_andT, ev_notT, ev_ofT, ev_tru, ev_test, ev_bin, ev_un, ev_and, ev_or, ev_not, ev_isi, isB_bl, tru_bl, if_true, if_false, Bool.false_eq_true, Bool.not_true, Bool.not_false, ev_next, ev_ret, ev_raise, ev_raise0, ev_tup, ev_lst, ev_frz, frz_lst, ev_fn, ev_setIx, setIxG_lst, setIxR_lst, isL_lst, ixR_lst, lenR_lst, ev_lenC, appR_lst, ev_par, ev_pvCons, ev_pvNil, ev_inl, ev_inr, pvs_cons, pvs_nil, pv_inl, pv_inr, pvsR_some, ev_aug, augR_val, ev_sl, ev_part_none, ev_part_some, partR_int, ev_range, ev_enumA, enumR_tup, enumR_lst, ev_gTup, ev_gsCons, ev_gSet, gsR_some, ev_gsNil, ev_lc, ev_list, ev_rev, fLen_lst, fLen_tup, fLen_ro, fTuple_lst, fTuple_tup, fList_lst, fList_tup, dAdd_int, dSub_int, dNeg_int, dLt_int, dLe_int, dGt_int, dGe_int, dEq_int, dNe_int, dAddI_int, ev_ixC, ev_append, ev_repO, ev_catO, catR_lst, ev_down, ev_lr1, ev_lr2, ev_cmpC, cmpR_lst, ev_pop, popR_lst, dEq_lsts, dNe_lsts, dEq_tups, dNe_tups, List.map_nil] at e1 ⊢
      simp -implicitDefEqProofs only [ev_def, ev_defO, List.length_cons, List.length_nil, List.cons_append, List.nil_append, List.replicate_succ, List.replicate_zero, Nat.reduceAdd, Nat.reduceSub, Nat.reduceLeDiff, ev_seq, sq_next, sq_ret, sq_retO, sq_exc, ev_expr, ev_call, ev_callO, ev_callL, ev_callN, ev_cons, ev_nil, ev_name, List.getElem?_cons_succ, List.getElem?_cons_zero, name_val, name_lst, bnd_ok, bnd_exc, List.map_cons, List.map_nil, callR_ok, callR_exc, callOR_ok, lentG_cell, lentF_cell, lentR_ok, ev_set, ev_setO, ev_C, setR_no, setR_val, setR_cell, updR_some, List.set_cons_succ, List.set_cons_zero, ev_for, ev_iter, ev_some, its_tup, its_lst, its_ro, ev_mret, ev_retO, end_ret, end_next, end_exc, endO_ret, outs_val, outs_no, outs_cell, outs_nil, ev_if, ev_orT, ev_andT, ev_notT, ev_ofT, ev_tru, ev_test, ev_bin, ev_un, ev_and, ev_or, ev_not, ev_isi, isB_bl, tru_bl, if_true, if_false, Bool.false_eq_true, Bool.not_true, Bool.not_false, ev_next, ev_ret, ev_raise, ev_raise0, ev_tup, ev_lst, ev_frz, frz_lst, ev_fn, ev_setIx, setIxG_lst, setIxR_lst, isL_lst, ixR_lst, lenR_lst, ev_lenC, appR_lst, ev_par, ev_pvCons, ev_pvNil, ev_inl, ev_inr, pvs_cons, pvs_nil, pv_inl, pv_inr, pvsR_some, ev_aug, augR_val, ev_sl, ev_part_none, ev_part_some, partR_int, ev_range, ev_enumA, enumR_tup, enumR_lst, ev_gTup, ev_gsCons, ev_gSet, gsR_some, ev_gsNil, ev_lc, ev_list, ev_rev, fLen_lst, fLen_tup, fLen_ro, fTuple_lst, fTuple_tup, fList_lst, fList_tup, dAdd_int, dSub_int, dNeg_int, dLt_int, dLe_int, dGt_int, dGe_int, dEq_int, dNe_int, dAddI_int, ev_ixC, ev_append, ev_repO, ev_catO, catR_lst, ev_down, ev_lr1, ev_lr2, ev_cmpC, cmpR_lst, ev_pop, popR_lst, dEq_lsts, dNe_lsts, dEq_tups, dNe_tups, e0, e1]
    · rw [decide_eq_false n1] at e0
      rw [decide_eq_false n2] at e1
      have p1 := List.length_pos_iff.mpr n1
      have p2 := List.length_pos_iff.mpr n2
      obtain ⟨F, a, b, c, d, e, hF, hk⟩ := rows_ok (one := one) (other := other) (n := one.length + other.length - 1) (q3 := .no) (q4 := .no) (by omega) hc ho hB fr_no
      have w := without_zeros_ok (F := F) (by omega)
      rw [trim_eq_mulP hk] at w
      have cn : (one.length : Int) + (other.length : Int) - 1 = ((one.length + other.length - 1 : Nat) : Int) := by omega
      have ok : (-(2 ^ 63) ≤ ((one.length + other.length - 1 : Nat) : Int) ∧ ((one.length + other.length - 1 : Nat) : Int) < 2 ^ 63 ∧ [D.int 0].length * ((one.length + other.length - 1 : Nat) : Int).toNat ≤ 16777216) := ⟨by omega, by omega, by show 1 * _ ≤ _; omega⟩
      have rp : ∀ e, repR (.lst [.int 0]) (.int ((one.length + other.length - 1 : Nat) : Int)) e = .ok (.lst (Zl (List.replicate (one.length + other.length - 1) 0))) e := fun e => by
        rw [repR_lst, if_pos ok, Int.toNat_natCast, rep_flat]
      unfold OLo at e
      simp -implicitDefEqProofs only [ev_def, ev_defO, List.length_cons, List.length_nil, List.cons_append, List.nil_append, List.replicate_succ, List.replicate_zero, Nat.reduceAdd, Nat.reduceSub, Nat.reduceLeDiff, ev_seq, sq_next, sq_ret, sq_retO, sq_exc, ev_expr, ev_call, ev_callO, ev_callL, ev_callN, ev_cons, ev_nil, ev_name, List.getElem?_cons_succ, List.getElem?_cons_zero, name_val, name_lst, bnd_ok, bnd_exc, List.map_cons, List.map_nil, callR_ok, callR_exc, callOR_ok, lentG_cell, lentF_cell, lentR_ok, ev_set, ev_setO, ev_C, setR_no, setR_val, setR_cell, updR_some, List.set_cons_succ, List.set_cons_zero, ev_for, ev_iter, ev_some, its_tup, its_lst, its_ro, ev_mret, ev_retO, end_ret, end_next, end_exc, endO_ret, outs_val, outs_no, outs_cell, outs_nil, ev_if, ev_orT, ev_andT, ev_notT, ev_ofT, ev_tru, ev_test, ev_bin, ev_un, ev_and, ev_or, ev_not, ev_isi, isB_bl, tru_bl, if_true, if_false, Bool.false_eq_true, Bool.not_true, Bool.not_false, ev_next, ev_ret, ev_raise, ev_raise0, ev_tup, ev_lst, ev_frz, frz_lst, ev_fn, ev_setIx, setIxG_lst, setIxR_lst, isL_lst, ixR_lst, lenR_lst, ev_lenC, appR_lst, ev_par, ev_pvCons, ev_pvNil, ev_inl, ev_inr, pvs_cons, pvs_nil, pv_inl, pv_inr, pvsR_some, ev_aug, augR_val, ev_sl, ev_part_none, ev_part_some, partR_int, ev_range, ev_enumA, enumR_tup, enumR_lst, ev_gTup, ev_gsCons, ev_gSet, gsR_some, ev_gsNil, ev_lc, ev_list, ev_rev, fLen_lst, fLen_tup, fLen_ro, fTuple_lst, fTuple_tup, fList_lst, fList_tup, dAdd_int, dSub_int, dNeg_int, dLt_int, dLe_int, dGt_int, dGe_int, dEq_int, dNe_int, dAddI_int, ev_ixC, ev_append, ev_repO, ev_catO, catR_lst, ev_down, ev_lr1, ev_lr2, ev_cmpC, cmpR_lst, ev_pop, popR_lst, dEq_lsts, dNe_lsts, dEq_tups, dNe_tups, e0, e1, Zl_len, cn] at e ⊢
      simp -implicitDefEqProofs only [ev_def, ev_defO, List.length_cons, List.length_nil, List.cons_append, List.nil_append, List.replicate_succ, List.replicate_zero, Nat.reduceAdd, Nat.reduceSub, Nat.reduceLeDiff, ev_seq, sq_next, sq_ret, sq_retO, sq_exc, ev_expr, ev_call, ev_callO, ev_callL, ev_callN, ev_cons, ev_nil, ev_name, List.getElem?_cons_succ, List.getElem?_cons_zero, name_val, name_lst, bnd_ok, bnd_exc, List.map_cons, List.map_nil, callR_ok, callR_exc, callOR_ok, lentG_cell, lentF_cell, lentR_ok, ev_set, ev_setO, ev_C, setR_no, setR_val, setR_cell, updR_some, List.set_cons_succ, List.set_cons_zero, ev_for, ev_iter, ev_some, its_tup, its_lst, its_ro, ev_mret, ev_retO, end_ret, end_next, end_exc, endO_ret, outs_val, outs_no, outs_cell, outs_nil, ev_if, ev_orT, ev_andT, ev_notT, ev_ofT, ev_tru, ev_test, ev_bin, ev_un, ev_and, ev_or, ev_not, ev_isi, isB_bl, tru_bl, if_true, if_false, Bool.false_eq_true, Bool.not_true, Bool.not_false, ev_next, ev_ret, ev_raise, ev_raise0, ev_tup, ev_lst, ev_frz, frz_lst, ev_fn, ev_setIx, setIxG_lst, setIxR_lst, isL_lst, ixR_lst, lenR_lst, ev_lenC, appR_lst, ev_par, ev_pvCons, ev_pvNil, ev_inl, ev_inr, pvs_cons, pvs_nil, pv_inl, pv_inr, pvsR_some, ev_aug, augR_val, ev_sl, ev_part_none, ev_part_some, partR_int, ev_range, ev_enumA, enumR_tup, enumR_lst, ev_gTup, ev_gsCons, ev_gSet, gsR_some, ev_gsNil, ev_lc, ev_list, ev_rev, fLen_lst, fLen_tup, fLen_ro, fTuple_lst, fTuple_tup, fList_lst, fList_tup, dAdd_int, dSub_int, dNeg_int, dLt_int, dLe_int, dGt_int, dGe_int, dEq_int, dNe_int, dAddI_int, ev_ixC, ev_append, ev_repO, ev_catO, catR_lst, ev_down, ev_lr1, ev_lr2, ev_cmpC, cmpR_lst, ev_pop, popR_lst, dEq_lsts, dNe_lsts, dEq_tups, dNe_tups, rp, e, w]
theorem poly_times_ok {one other : List Int} {B C : Nat} (hl : one.length + other.length ≤ 10000) (hc : ∀ x ∈ one, Bd B x) (ho : ∀ x ∈ other, Bd C x) (hB : B + C < 1000000) :
    m__law_poly_times [.val (.tup (Zl one)), .val (.tup (Zl other))] = .ok (.tup (Zl (mulP one other))) [.no, .no] := by
  obtain ⟨F, a, b, c, d, e, hF, hk⟩ := rows_ok (one := one) (other := other) (n := one.length + other.length) (q3 := .no) (q4 := .no) (by omega) hc ho hB fr_no
  have w := law_trimmed_ok (F := F) (by omega)
  rw [trim_eq_mulP hk] at w
  have cn : (one.length : Int) + (other.length : Int) = ((one.length + other.length : Nat) : Int) := by omega
  have hr := fRange_n (n := one.length + other.length) (by omega)
  have lc := lc_rg (v := 3) (el := mC (.int 0)) (e := [.val (.tup (Zl one)), .val (.tup (Zl other)), .no, .no, .no, .no, .no]) (n := one.length + other.length) (f := fun _ => .int 0) (by omega) rfl (fun i _ => rfl)
  have rp : (List.range (one.length + other.length)).map (fun _ => D.int 0) = Zl (List.replicate (one.length + other.length) 0) := by
    rw [List.map_const', List.length_range]
    simp [Zl]
  rw [rp] at lc
  unfold OLo at e
  unfold m__law_poly_times
  simp -implicitDefEqProofs only [ev_def, ev_defO, List.length_cons, List.length_nil, List.cons_append, List.nil_append, List.replicate_succ, List.replicate_zero, Nat.reduceAdd, Nat.reduceSub, Nat.reduceLeDiff, ev_seq, sq_next, sq_ret, sq_retO, sq_exc, ev_expr, ev_call, ev_callO, ev_callL, ev_callN, ev_cons, ev_nil, ev_name, List.getElem?_cons_succ, List.getElem?_cons_zero, name_val, name_lst, bnd_ok, bnd_exc, List.map_cons, List.map_nil, callR_ok, callR_exc, callOR_ok, lentG_cell, lentF_cell, lentR_ok, ev_set, ev_setO, ev_C, setR_no, setR_val, setR_cell, updR_some, List.set_cons_succ, List.set_cons_zero, ev_for, ev_iter, ev_some, its_tup, its_lst, its_ro, ev_mret, ev_retO, end_ret, end_next, end_exc, endO_ret, outs_val, outs_no, outs_cell, outs_nil, ev_if, ev_orT, ev_andT, ev_notT, ev_ofT, ev_tru, ev_test, ev_bin, ev_un, ev_and, ev_or, ev_not, ev_isi, isB_bl, tru_bl, if_true, if_false, Bool.false_eq_true, Bool.not_true, Bool.not_false, ev_next, ev_ret, ev_raise, ev_raise0, ev_tup, ev_lst, ev_frz, frz_lst, ev_fn, ev_setIx, setIxG_lst, setIxR_lst, isL_lst, ixR_lst, lenR_lst, ev_lenC, appR_lst, ev_par, ev_pvCons, ev_pvNil, ev_inl, ev_inr, pvs_cons, pvs_nil, pv_inl, pv_inr, pvsR_some, ev_aug, augR_val, ev_sl, ev_part_none, ev_part_some, partR_int, ev_range, ev_enumA, enumR_tup, enumR_lst, ev_gTup, ev_gsCons, ev_gSet, gsR_some, ev_gsNil, ev_lc, ev_list, ev_rev, fLen_lst, fLen_tup, fLen_ro, fTuple_lst, fTuple_tup, fList_lst, fList_tup, dAdd_int, dSub_int, dNeg_int, dLt_int, dLe_int, dGt_int, dGe_int, dEq_int, dNe_int, dAddI_int, ev_ixC, ev_append, ev_repO, ev_catO, catR_lst, ev_down, ev_lr1, ev_lr2, ev_cmpC, cmpR_lst, ev_pop, popR_lst, dEq_lsts, dNe_lsts, dEq_tups, dNe_tups, Zl_len, cn, hr] at e ⊢
  simp -implicitDefEqProofs only [ev_def, ev_defO, List.length_cons, List.length_nil, List.cons_append, List.nil_append, List.replicate_succ, List.replicate_zero, Nat.reduceAdd, Nat.reduceSub, Nat.reduceLeDiff, ev_seq, sq_next, sq_ret, sq_retO, sq_exc, ev_expr, ev_call, ev_callO, ev_callL, ev_callN, ev_cons, ev_nil, ev_name, List.getElem?_cons_succ, List.getElem?_cons_zero, name_val, name_lst, bnd_ok, bnd_exc, List.map_cons, List.map_nil, callR_ok, callR_exc, callOR_ok, lentG_cell, lentF_cell, lentR_ok, ev_set, ev_setO, ev_C, setR_no, setR_val, setR_cell, updR_some, List.set_cons_succ, List.set_cons_zero, ev_for, ev_iter, ev_some, its_tup, its_lst, its_ro, ev_mret, ev_retO, end_ret, end_next, end_exc, endO_ret, outs_val, outs_no, outs_cell, outs_nil, ev_if, ev_orT, ev_andT, ev_notT, ev_ofT, ev_tru, ev_test, ev_bin, ev_un, ev_and, ev_or, ev_not, ev_isi, isB_bl, tru_bl, if_true, if_false, Bool.false_eq_true, Bool.not_true, Bool.not_false, ev_next, ev_ret, ev_raise, ev_raise0, ev_tup, ev_lst, ev_frz, frz_lst, ev_fn, ev_setIx, setIxG_lst, setIxR_lst, isL_lst, ixR_lst, lenR_lst, ev_lenC, appR_lst, ev_par, ev_pvCons, ev_pvNil, ev_inl, ev_inr, pvs_cons, pvs_nil, pv_inl, pv_inr, pvsR_some, ev_aug, augR_val, ev_sl, ev_part_none, ev_part_some, partR_int, ev_range, ev_enumA, enumR_tup, enumR_lst, ev_gTup, ev_gsCons, ev_gSet, gsR_some, ev_gsNil, ev_lc, ev_list, ev_rev, fLen_lst, fLen_tup, fLen_ro, fTuple_lst, fTuple_tup, fList_lst, fList_tup, dAdd_int, dSub_int, dNeg_int, dLt_int, dLe_int, dGt_int, dGe_int, dEq_int, dNe_int, dAddI_int, ev_ixC, ev_append, ev_repO, ev_catO, catR_lst, ev_down, ev_lr1, ev_lr2, ev_cmpC, cmpR_lst, ev_pop, popR_lst, dEq_lsts, dNe_lsts, dEq_tups, dNe_tups, hr, show noCells [3] [.val (.tup (Zl one)), .val (.tup (Zl other)), .no, .no, .no, .no, .no] = true from rfl, show wipeE [3] [.val (.tup (Zl one)), .val (.tup (Zl other)), .no, .no, .no, .no, .no] = [.val (.tup (Zl one)), .val (.tup (Zl other)), .no, .no, .no, .no, .no] from rfl, lc, e, w]
theorem times_ok {one other : List Int} (h1 : Po one) (h2 : Po other) : m_times [.val (.tup (Zl one)), .val (.tup (Zl other))] = .ok (.tup (Zl (mulP one other))) [.no, .no] := by
  have := h1.l2
  have := h2.l2
  have p := product_of_ok (one := one) (other := other) (by omega) h1.bd h2.bd (by decide)
  unfold m_times
  simp -implicitDefEqProofs only [ev_def, ev_defO, List.length_cons, List.length_nil, List.cons_append, List.nil_append, List.replicate_succ, List.replicate_zero, Nat.reduceAdd, Nat.reduceSub, Nat.reduceLeDiff, ev_seq, sq_next, sq_ret, sq_retO, sq_exc, ev_expr, ev_call, ev_callO, ev_callL, ev_callN, ev_cons, ev_nil, ev_name, List.getElem?_cons_succ, List.getElem?_cons_zero, name_val, name_lst, bnd_ok, bnd_exc, List.map_cons, List.map_nil, callR_ok, callR_exc, callOR_ok, lentG_cell, lentF_cell, lentR_ok, ev_set, ev_setO, ev_C, setR_no, setR_val, setR_cell, updR_some, List.set_cons_succ, List.set_cons_zero, ev_for, ev_iter, ev_some, its_tup, its_lst, its_ro, ev_mret, ev_retO, end_ret, end_next, end_exc, endO_ret, outs_val, outs_no, outs_cell, outs_nil, ev_if, ev_orT, ev_andT, ev_notT, ev_ofT, ev_tru, ev_test, ev_bin, ev_un, ev_and, ev_or, ev_not, ev_isi, isB_bl, tru_bl, if_true, if_false, Bool.false_eq_true, Bool.not_true, Bool.not_false, ev_next, ev_ret, ev_raise, ev_raise0, ev_tup, ev_lst, ev_frz, frz_lst, ev_fn, ev_setIx, setIxG_lst, setIxR_lst, isL_lst, ixR_lst, lenR_lst, ev_lenC, appR_lst, ev_par, ev_pvCons, ev_pvNil, ev_inl, ev_inr, pvs_cons, pvs_nil, pv_inl, pv_inr, pvsR_some, ev_aug, augR_val, ev_sl, ev_part_none, ev_part_some, partR_int, ev_range, ev_enumA, enumR_tup, enumR_lst, ev_gTup, ev_gsCons, ev_gSet, gsR_some, ev_gsNil, ev_lc, ev_list, ev_rev, fLen_lst, fLen_tup, fLen_ro, fTuple_lst, fTuple_tup, fList_lst, fList_tup, dAdd_int, dSub_int, dNeg_int, dLt_int, dLe_int, dGt_int, dGe_int, dEq_int, dNe_int, dAddI_int, ev_ixC, ev_append, ev_repO, ev_catO, catR_lst, ev_down, ev_lr1, ev_lr2, ev_cmpC, cmpR_lst, ev_pop, popR_lst, dEq_lsts, dNe_lsts, dEq_tups, dNe_tups, require_polynomial_ok h1, require_polynomial_ok h2, p]
end K48
set_option Elab.async false
set_option linter.all false
set_option maxRecDepth 100000
set_option maxHeartbeats 4000000
namespace K48
open PySem PySem.Spec PyProof.Rows L2 L2.DL
theorem fDown_n {n : Nat} (h : n ≤ 1000000) : fDown [.int ((n : Int) - 1), .int (-1), .int (-1)] = some ((List.range n).map fun i => .int ((n - 1 - i : Nat) : Int)) := by
  show (if _ then _ else _) = _
  rw [if_pos ⟨rfl, by omega, by omega, by omega, by omega⟩]
  unfold rangeDn
  rw [show ((n : Int) - 1 - (-1)).toNat = n by omega]
  congr 1
  apply List.map_congr_left
  intro i hi
  have := List.mem_range.mp hi
  show D.int _ = D.int _
  congr 1
  omega
theorem forL_dn {tg : TgM} {b : MS} (I : Nat → Ev → Prop) (n : Nat) {e : Ev} (h0 : I n e)
    (h : ∀ i e, i < n → I (i + 1) e → ∃ e1 e2, tg (.int (i : Nat)) e = some e1 ∧ b e1 = .ok .next e2 ∧ I i e2) : ∃ e', forL tg b ((List.range n).map fun i => .int ((n - 1 - i : Nat) : Int)) e = .ok .next e' ∧ I 0 e' := by
  obtain ⟨e', h1, h2⟩ := forL_inv0 (tg := tg) (b := b) (fun i : Nat => D.int ((n - 1 - i : Nat) : Int)) (fun i e => I (n - i) e) (List.range n) h0 (fun i x e hx hi => by
    have hl := (List.getElem?_eq_some_iff.mp hx).1
    rw [List.length_range] at hl
    rw [List.getElem?_range hl] at hx
    cases hx
    have := h (n - 1 - i) e (by omega) (by rw [show n - 1 - i + 1 = n - i by omega]; exact hi)
    rwa [show n - 1 - i = n - (i + 1) by omega] at this ⊢)
  exact ⟨e', h1, by simpa using h2⟩
/-! division -/
/-- what is left, step by step -/
def lf (one other : List Int) (lead : Int) (n : Nat) : Nat → Nat → Int
  | 0 => gt one
  | j + 1 => away (lf one other lead n j) (lf one other lead n j (n - 1 - j + other.length - 1) * lead) other (n - 1 - j)
abbrev DB : MS := (mSetIx 2 (mBin dAdd (mName 5) (mName 6)) (mBin dSub (mIxC 2 (mBin dAdd (mName 5) (mName 6))) (mBin dMul (mIxC 4 (mName 5)) (mName 7))))
theorem db_step {s0 s1 s3 : Sl} {L W : List Int} {i m : Nat} {x : Int} (h : i + m < L.length) (hw : i < W.length) (hm : dMul (.int (gt W i)) (.int x) = some (.int (gt W i * x))) :
    DB [s0, s1, .cell false (.lst (Zl L)), s3, .cell false (.lst (Zl W)), .val (.int i), .val (.int m), .val (.int x)] = .ok .next [s0, s1, .cell false (.lst (Zl (L.set (i + m) (gt L (i + m) - gt W i * x)))), s3, .cell false (.lst (Zl W)), .val (.int i), .val (.int m), .val (.int x)] := by
  have e1 : (i : Int) + (m : Int) = ((i + m : Nat) : Int) := by omega
  have h1 := ix_c (l := L) (k := i + m) h
  have h2 := ix_c (l := W) (k := i) hw
  have h3 := ixN_nat (n := (Zl L).length) (k := i + m) (by rw [Zl_len]; exact h)
  simp -implicitDefEqProofs only [ev_def, ev_defO, List.length_cons, List.length_nil, List.cons_append, List.nil_append, List.replicate_succ, List.replicate_zero, Nat.reduceAdd, Nat.reduceSub, Nat.reduceLeDiff, ev_seq, sq_next, sq_ret, sq_retO, sq_exc, ev_expr, ev_call, ev_callO, ev_callL, ev_callN, ev_cons, ev_nil, ev_name, List.getElem?_cons_succ, List.getElem?_cons_zero, name_val, name_lst, bnd_ok, bnd_exc, List.map_cons, List.map_nil, callR_ok, callR_exc, callOR_ok, lentG_cell, lentF_cell, lentR_ok, ev_set, ev_setO, ev_C, setR_no, setR_val, setR_cell, updR_some, List.set_cons_succ, List.set_cons_zero, ev_for, ev_iter, ev_some, its_tup, its_lst, its_ro, ev_mret, ev_retO, end_ret, end_next, end_exc, endO_ret, outs_val, outs_no, outs_cell, outs_nil, ev_if, ev_orT, ev_andT, ev_notT, ev_ofT, ev_tru, ev_test, ev_bin, ev_un, ev_and, ev_or, ev_not, ev_isi, isB_bl, tru_bl, if_true, if_false, Bool.false_eq_true, Bool.not_true, Bool.not_false, ev_next, ev_ret, ev_raise, ev_raise0, ev_tup, ev_lst, ev_frz, frz_lst, ev_fn, ev_setIx, setIxG_lst, setIxR_lst, isL_lst, ixR_lst, lenR_lst, ev_lenC, appR_lst, ev_par, ev_pvCons, ev_pvNil, ev_inl, ev_inr, pvs_cons, pvs_nil, pv_inl, pv_inr, pvsR_some, ev_aug, augR_val, ev_sl, ev_part_none, ev_part_some, partR_int, ev_range, ev_enumA, enumR_tup, enumR_lst, ev_gTup, ev_gsCons, ev_gSet, gsR_some, ev_gsNil, ev_lc, ev_list, ev_rev, fLen_lst, fLen_tup, fLen_ro, fTuple_lst, fTuple_tup, fList_lst, fList_tup, dAdd_int, dSub_int, dNeg_int, dLt_int, dLe_int, dGt_int, dGe_int, dEq_int, dNe_int, dAddI_int, ev_ixC, ev_append, ev_repO, ev_catO, catR_lst, ev_down, ev_lr1, ev_lr2, ev_cmpC, cmpR_lst, ev_pop, popR_lst, dEq_lsts, dNe_lsts, dEq_tups, dNe_tups, e1, h1, h2, hm, h3, Zl_set]
theorem drow_ok {s0 s3 q6 q7 : Sl} {other L W : List Int} {i B C : Nat} (hF : i + other.length ≤ L.length) (hw : i < W.length) (hc : Bd B (gt W i)) (ho : ∀ x ∈ other, Bd C x) (hB : B + C < 1000000) (h6 : Fr q6) (h7 : Fr q7) :
    ∃ L' q6' q7', forL (gTupD 2 (gsCons (gSet 6) (gsCons (gSet 7) gsNil))) DB (enumD 0 (Zl other)) [s0, .val (.tup (Zl other)), .cell false (.lst (Zl L)), s3, .cell false (.lst (Zl W)), .val (.int i), q6, q7] = .ok .next [s0, .val (.tup (Zl other)), .cell false (.lst (Zl L')), s3, .cell false (.lst (Zl W)), .val (.int i), q6', q7']
      ∧ L'.length = L.length ∧ (∀ k, gt L' k = away (gt L) (gt W i) other i k) ∧ Fr q6' ∧ Fr q7' := by
  obtain ⟨e', e1, L', q6', q7', rfl, hl, hk, f6, f7⟩ := forL_enum (tg := gTupD 2 (gsCons (gSet 6) (gsCons (gSet 7) gsNil))) (b := DB)
    (fun j e => ∃ L' q6 q7, e = [s0, .val (.tup (Zl other)), .cell false (.lst (Zl L')), s3, .cell false (.lst (Zl W)), .val (.int i), q6, q7] ∧ L'.length = L.length ∧ (∀ k, gt L' k = gt L k - if i ≤ k ∧ k < i + j then gt W i * gt other (k - i) else 0) ∧ Fr q6 ∧ Fr q7)
    other (e := [s0, .val (.tup (Zl other)), .cell false (.lst (Zl L)), s3, .cell false (.lst (Zl W)), .val (.int i), q6, q7]) ⟨L, q6, q7, rfl, rfl, fun k => by rw [if_neg (by omega)]; omega, h6, h7⟩ (fun j e hj ⟨L', q6, q7, he, hl, hk, h6, h7⟩ => by
      subst he
      refine ⟨[s0, .val (.tup (Zl other)), .cell false (.lst (Zl L')), s3, .cell false (.lst (Zl W)), .val (.int i), .val (.int j), .val (.int (gt other j))], _, by simp -implicitDefEqProofs only [ev_def, ev_defO, List.length_cons, List.length_nil, List.cons_append, List.nil_append, List.replicate_succ, List.replicate_zero, Nat.reduceAdd, Nat.reduceSub, Nat.reduceLeDiff, ev_seq, sq_next, sq_ret, sq_retO, sq_exc, ev_expr, ev_call, ev_callO, ev_callL, ev_callN, ev_cons, ev_nil, ev_name, List.getElem?_cons_succ, List.getElem?_cons_zero, name_val, name_lst, bnd_ok, bnd_exc, List.map_cons, List.map_nil, callR_ok, callR_exc, callOR_ok, lentG_cell, lentF_cell, lentR_ok, ev_set, ev_setO, ev_C, setR_no, setR_val, setR_cell, updR_some, List.set_cons_succ, List.set_cons_zero, ev_for, ev_iter, ev_some, its_tup, its_lst, its_ro, ev_mret, ev_retO, end_ret, end_next, end_exc, endO_ret, outs_val, outs_no, outs_cell, outs_nil, ev_if, ev_orT, ev_andT, ev_notT, ev_ofT, ev_tru, ev_test, ev_bin, ev_un, ev_and, ev_or, ev_not, ev_isi, isB_bl, tru_bl, if_true, if_false, Bool.false_eq_true, Bool.not_true, Bool.not_false, ev_next, ev_ret, ev_raise, ev_raise0, ev_tup, ev_lst, ev_frz, frz_lst, ev_fn, ev_setIx, setIxG_lst, setIxR_lst, isL_lst, ixR_lst, lenR_lst, ev_lenC, appR_lst, ev_par, ev_pvCons, ev_pvNil, ev_inl, ev_inr, pvs_cons, pvs_nil, pv_inl, pv_inr, pvsR_some, ev_aug, augR_val, ev_sl, ev_part_none, ev_part_some, partR_int, ev_range, ev_enumA, enumR_tup, enumR_lst, ev_gTup, ev_gsCons, ev_gSet, gsR_some, ev_gsNil, ev_lc, ev_list, ev_rev, fLen_lst, fLen_tup, fLen_ro, fTuple_lst, fTuple_tup, fList_lst, fList_tup, dAdd_int, dSub_int, dNeg_int, dLt_int, dLe_int, dGt_int, dGe_int, dEq_int, dNe_int, dAddI_int, ev_ixC, ev_append, ev_repO, ev_catO, catR_lst, ev_down, ev_lr1, ev_lr2, ev_cmpC, cmpR_lst, ev_pop, popR_lst, dEq_lsts, dNe_lsts, dEq_tups, dNe_tups, set_fr h6, set_fr h7], db_step (by omega) hw (bd_mul_ok hc (bd_gt ho j) hB), ?_⟩
      refine ⟨_, _, _, rfl, by rw [List.length_set, hl], fun k => ?_, fr_val, fr_val⟩
      rw [gt_set (by omega)]
      by_cases e : i + j = k
      · subst e
        rw [if_pos rfl, hk, if_neg (by omega), if_pos (by omega), show i + j - i = j by omega]
        omega
      · rw [if_neg e, hk]
        by_cases e2 : i ≤ k ∧ k < i + j
        · rw [if_pos e2, if_pos (by omega)]
        · rw [if_neg e2, if_neg (by omega)])
  refine ⟨L', q6', q7', e1, hl, fun k => ?_, f6, f7⟩
  rw [hk]
  unfold away
  by_cases e : i ≤ k
  · rw [if_pos e]
    by_cases e2 : k < i + other.length
    · rw [if_pos ⟨e, e2⟩]
    · rw [if_neg (by omega), gt_over (l := other) (by omega), Int.mul_zero]
  · rw [if_neg e, if_neg (by omega)]
theorem away_bd {f : Nat → Int} {w : Int} {other : List Int} {n B C : Nat} (hf : ∀ k, Bd (B + C) (f k)) (hw : Bd B w) (ho : ∀ x ∈ other, Bd C x) (k : Nat) : Bd (B + C + 1) (away f w other n k) := by
  unfold away
  split
  · exact (hf k).sub (hw.mul (bd_gt ho _))
  · rw [Int.sub_zero]; exact (hf k).mono (by omega)
theorem lead_bd {lead w : Int} {B : Nat} (hl : lead = 1 ∨ lead = -1) (h : Bd B w) : Bd B (w * lead) := by
  rcases hl with rfl | rfl
  · rw [Int.mul_one]; exact h
  · unfold Bd at *
    rw [Int.natAbs_mul]
    simpa using h
theorem lead_ok {lead w : Int} {B : Nat} (hl : lead = 1 ∨ lead = -1) (h : Bd B w) (hB : B < 900000) : dMul (.int w) (.int lead) = some (.int (w * lead)) :=
  bd_mul_ok (m := 8) h (by rcases hl with rfl | rfl <;> exact bd_of (k := 1) (by decide) (by decide)) (by omega)
abbrev DO : MS := (mSeq (mSetIx 4 (mName 5) (mBin dMul (mIxC 2 (mBin dSub (mBin dAdd (mName 5) (mName 3)) (mC (.int 1)))) (mBin dIx (mName 1) (mUn dNeg (mC (.int 1))))))
  (mFor (mEnumA (mName 1)) (gTupD 2 (gsCons (gSet 6) (gsCons (gSet 7) gsNil))) DB))
/-- the number of steps -/
abbrev dn (one other : List Int) : Nat := one.length + 1 - other.length
theorem div_out {one other : List Int} {lead : Int} (h1 : Po one) (h2 : Po other) (hn : other ≠ []) (hl : gt other (other.length - 1) = lead) (hlead : lead = 1 ∨ lead = -1) :
    ∃ L W q5 q6 q7, forL (gSet 5) DO ((List.range (dn one other)).map fun i => .int ((dn one other - 1 - i : Nat) : Int)) [.val (.tup (Zl one)), .val (.tup (Zl other)), .cell false (.lst (Zl one)), .val (.int other.length), .cell false (.lst (Zl (List.replicate (dn one other) 0))), .no, .no, .no]
      = .ok .next [.val (.tup (Zl one)), .val (.tup (Zl other)), .cell false (.lst (Zl L)), .val (.int other.length), .cell false (.lst (Zl W)), q5, q6, q7] ∧ L.length = one.length ∧ W.length = dn one other ∧ DivI one other W (gt L) 0 ∧ (∀ k, gt L k = lf one other lead (dn one other) (dn one other) k) ∧ (∀ k, Bd (200 + 201 * dn one other) (gt W k)) ∧ (∀ k, Bd (200 + 201 * dn one other) (gt L k)) := by
  have p := List.length_pos_iff.mpr hn
  have hdn : dn one other = one.length + 1 - other.length := rfl
  have := h1.l2
  have := h2.l2
  have ix := ix_neg hn
  rw [hl] at ix
  obtain ⟨e', e1, L, W, q5, q6, q7, rfl, hL, hW, hD, hlf, hbL, hbW, _⟩ := forL_dn (tg := gSet 5) (b := DO)
    (fun m e => ∃ L W q5 q6 q7, e = [.val (.tup (Zl one)), .val (.tup (Zl other)), .cell false (.lst (Zl L)), .val (.int other.length), .cell false (.lst (Zl W)), q5, q6, q7] ∧ L.length = one.length ∧ W.length = dn one other ∧ DivI one other W (gt L) m
      ∧ (∀ k, gt L k = lf one other lead (dn one other) (dn one other - m) k) ∧ (∀ k, Bd (200 + 201 * (dn one other - m)) (gt L k)) ∧ (∀ k, Bd (200 + 201 * dn one other) (gt W k)) ∧ Fr q5 ∧ Fr q6 ∧ Fr q7) (dn one other)
    (e := [.val (.tup (Zl one)), .val (.tup (Zl other)), .cell false (.lst (Zl one)), .val (.int other.length), .cell false (.lst (Zl (List.replicate (dn one other) 0))), .no, .no, .no])
    ⟨one, List.replicate (dn one other) 0, .no, .no, .no, rfl, rfl, List.length_replicate, ⟨fun k => by
        have z : cv (gt (List.replicate (dn one other) 0)) (gt other) k = 0 := sm_zero fun i _ => by rw [gt_rep, Int.zero_mul]
        rw [z]; omega, fun k _ => gt_rep, fun k hk => gt_over (by omega)⟩, fun k => by rw [Nat.sub_self]; rfl, fun k => by rw [Nat.sub_self]; exact bd_gt h1.bd k, fun k => by rw [gt_rep]; exact bd_zero, fr_no, fr_no, fr_no⟩
    (fun i e hi ⟨L, W, q5, q6, q7, he, hL, hW, hD, hlf, hbL, hbW, f5, f6, f7⟩ => by
      subst he
      have hi2 : i + other.length - 1 < L.length := by omega
      have hbl := hbL (i + other.length - 1)
      have wb := lead_bd hlead hbl
      have m1 := lead_ok hlead hbl (by omega)
      have gw : gt (W.set i (gt L (i + other.length - 1) * lead)) i = gt L (i + other.length - 1) * lead := by rw [gt_set (by omega), if_pos rfl]
      obtain ⟨L', q6', q7', r, rl, rk, f6', f7'⟩ := drow_ok (s0 := .val (.tup (Zl one))) (s3 := .val (.int other.length)) (other := other) (L := L) (W := W.set i (gt L (i + other.length - 1) * lead)) (i := i) (C := 200) (by omega) (by rw [List.length_set]; omega) (by rw [gw]; exact wb) h2.bd (by omega) f6 f7
      rw [gw] at rk
      have e1 : (i : Int) + (other.length : Int) - 1 = ((i + other.length - 1 : Nat) : Int) := by omega
      have g1 := ix_c (l := L) hi2
      have g2 := ixN_nat (n := (Zl W).length) (k := i) (by rw [Zl_len]; omega)
      refine ⟨[.val (.tup (Zl one)), .val (.tup (Zl other)), .cell false (.lst (Zl L)), .val (.int other.length), .cell false (.lst (Zl W)), .val (.int i), q6, q7], [.val (.tup (Zl one)), .val (.tup (Zl other)), .cell false (.lst (Zl L')), .val (.int other.length), .cell false (.lst (Zl (W.set i (gt L (i + other.length - 1) * lead)))), .val (.int i), q6', q7'], by simp -implicitDefEqProofs only [ev_def, ev_defO, List.length_cons, List.length_nil, List.cons_append, List.nil_append, List.replicate_succ, List.replicate_zero, Nat.reduceAdd, Nat.reduceSub, Nat.reduceLeDiff, ev_seq, sq_next, sq_ret, sq_retO, sq_exc, ev_expr, ev_call, ev_callO, ev_callL, ev_callN, ev_cons, ev_nil, ev_name, List.getElem?_cons_succ, List.getElem?_cons_zero, name_val, name_lst, bnd_ok, bnd_exc, List.map_cons, List.map_nil, callR_ok, callR_exc, callOR_ok, lentG_cell, lentF_cell, lentR_ok, ev_set, ev_setO, ev_C, setR_no, setR_val, setR_cell, updR_some, List.set_cons_succ, List.set_cons_zero, ev_for, ev_iter, ev_some, its_tup, its_lst, its_ro, ev_mret, ev_retO, end_ret, end_next, end_exc, endO_ret, outs_val, outs_no, outs_cell, outs_nil, ev_if, ev_orT, ev_andT, ev_notT, ev_ofT, ev_tru, ev_test, ev_bin, ev_un, ev_and, ev_or, ev_not, ev_isi, isB_bl, tru_bl, if_true, if_false, Bool.false_eq_true, Bool.not_true, Bool.not_false, ev_next, ev_ret, ev_raise, ev_raise0, ev_tup, ev_lst, ev_frz, frz_lst, ev_fn, ev_setIx, setIxG_lst, setIxR_lst, isL_lst, ixR_lst, lenR_lst, ev_lenC, appR_lst, ev_par, ev_pvCons, ev_pvNil, ev_inl, ev_inr, pvs_cons, pvs_nil, pv_inl, pv_inr, pvsR_some, ev_aug, augR_val, ev_sl, ev_part_none, ev_part_some, partR_int, ev_range, ev_enumA, enumR_tup, enumR_lst, ev_gTup, ev_gsCons, ev_gSet, gsR_some, ev_gsNil, ev_lc, ev_list, ev_rev, fLen_lst, fLen_tup, fLen_ro, fTuple_lst, fTuple_tup, fList_lst, fList_tup, dAdd_int, dSub_int, dNeg_int, dLt_int, dLe_int, dGt_int, dGe_int, dEq_int, dNe_int, dAddI_int, ev_ixC, ev_append, ev_repO, ev_catO, catR_lst, ev_down, ev_lr1, ev_lr2, ev_cmpC, cmpR_lst, ev_pop, popR_lst, dEq_lsts, dNe_lsts, dEq_tups, dNe_tups, set_fr f5], ?_, ?_⟩
      · simp -implicitDefEqProofs only [ev_def, ev_defO, List.length_cons, List.length_nil, List.cons_append, List.nil_append, List.replicate_succ, List.replicate_zero, Nat.reduceAdd, Nat.reduceSub, Nat.reduceLeDiff, ev_seq, sq_next, sq_ret, sq_retO, sq_exc, ev_expr, ev_call, ev_callO, ev_callL, ev_callN, ev_cons, ev_nil, ev_name, List.getElem?_cons_succ, List.getElem?_cons_zero, name_val, name_lst, bnd_ok, bnd_exc, List.map_cons, List.map_nil, callR_ok, callR_exc, callOR_ok, lentG_cell, lentF_cell, lentR_ok, ev_set, ev_setO, ev_C, setR_no, setR_val, setR_cell, updR_some, List.set_cons_succ, List.set_cons_zero, ev_for, ev_iter, ev_some, its_tup, its_lst, its_ro, ev_mret, ev_retO, end_ret, end_next, end_exc, endO_ret, outs_val, outs_no, outs_cell, outs_nil, ev_if, ev_orT, ev_andT, ev_notT, ev_ofT, ev_tru, ev_test, ev_bin, ev_un, ev_and, ev_or, ev_not, ev_isi, isB_bl, tru_bl, if_true, if_false, Bool.false_eq_true, Bool.not_true, Bool.not_false, ev_next, ev_ret, ev_raise, ev_raise0, ev_tup, ev_lst, ev_frz, frz_lst, ev_fn, ev_setIx, setIxG_lst, setIxR_lst, isL_lst, ixR_lst, lenR_lst, ev_lenC, appR_lst, ev_par, ev_pvCons, ev_pvNil, ev_inl, ev_inr, pvs_cons, pvs_nil, pv_inl, pv_inr, pvsR_some, ev_aug, augR_val, ev_sl, ev_part_none, ev_part_some, partR_int, ev_range, ev_enumA, enumR_tup, enumR_lst, ev_gTup, ev_gsCons, ev_gSet, gsR_some, ev_gsNil, ev_lc, ev_list, ev_rev, fLen_lst, fLen_tup, fLen_ro, fTuple_lst, fTuple_tup, fList_lst, fList_tup, dAdd_int, dSub_int, dNeg_int, dLt_int, dLe_int, dGt_int, dGe_int, dEq_int, dNe_int, dAddI_int, ev_ixC, ev_append, ev_repO, ev_catO, catR_lst, ev_down, ev_lr1, ev_lr2, ev_cmpC, cmpR_lst, ev_pop, popR_lst, dEq_lsts, dNe_lsts, dEq_tups, dNe_tups, e1, g1, ix, m1, g2, Zl_set, r]
      · have hs := div_step hD (by omega) p hl hlead
        have fe : gt L' = away (gt L) (gt L (i + other.length - 1) * lead) other i := funext rk
        refine ⟨L', _, _, _, _, rfl, by omega, by rw [List.length_set, hW], by rw [fe]; exact hs, fun k => ?_, fun k => ?_, fun k => ?_, fr_val, f6', f7'⟩
        · rw [rk, show dn one other - i = (dn one other - (i + 1)) + 1 by omega]
          show _ = away (lf one other lead (dn one other) (dn one other - (i + 1))) (lf one other lead (dn one other) (dn one other - (i + 1)) (dn one other - 1 - (dn one other - (i + 1)) + other.length - 1) * lead) other (dn one other - 1 - (dn one other - (i + 1))) k
          rw [show dn one other - 1 - (dn one other - (i + 1)) = i by omega, ← hlf]
          unfold away
          rw [hlf]
        · rw [rk]
          exact (away_bd (fun k => (hbL k).mono (by omega)) wb h2.bd k).mono (by omega)
        · by_cases ek : i = k
          · subst ek
            rw [gw]
            exact wb.mono (by omega)
          · rw [gt_set (by omega), if_neg ek]
            exact hbW k)
  refine ⟨L, W, q5, q6, q7, e1, hL, hW, hD, fun k => ?_, hbW, fun k => ?_⟩
  · rw [hlf, Nat.sub_zero]
  · exact (hbL k).mono (by omega)
theorem division_ok {one other : List Int} {lead : Int} (h1 : Po one) (h2 : Po other) (hn : other ≠ []) (hl : gt other (other.length - 1) = lead) (hlead : lead = 1 ∨ lead = -1) :
    ∃ W L, m_division_of [.val (.tup (Zl one)), .val (.tup (Zl other))] = .ok (.tup [.tup (Zl (trim W)), .tup (Zl (trim L))]) [.no, .no] ∧ L.length = one.length ∧ W.length = dn one other ∧ DivI one other W (gt L) 0 ∧ (∀ k, gt L k = lf one other lead (dn one other) (dn one other) k) ∧ (∀ k, Bd (200 + 201 * dn one other) (gt W k)) ∧ (∀ k, Bd (200 + 201 * dn one other) (gt L k)) := by
  obtain ⟨L, W, q5, q6, q7, e, hL, hW, hD, hlf, hb, hb2⟩ := div_out h1 h2 hn hl hlead
  have p := List.length_pos_iff.mpr hn
  have hdn : dn one other = one.length + 1 - other.length := rfl
  have := h1.l2
  have := h2.l2
  refine ⟨W, L, ?_, hL, hW, hD, hlf, hb, hb2⟩
  have w1 := without_zeros_ok (F := W) (by omega)
  have w2 := without_zeros_ok (F := L) (by omega)
  have hm : fMax [.int 0, .int ((one.length : Int) - (other.length : Int) + 1)] = some (.int (dn one other : Nat)) := by
    rw [fMax_int]
    congr 2
    split <;> omega
  have ok : (-(2 ^ 63) ≤ ((dn one other : Nat) : Int) ∧ ((dn one other : Nat) : Int) < 2 ^ 63 ∧ [D.int 0].length * ((dn one other : Nat) : Int).toNat ≤ 16777216) := ⟨by omega, by omega, by show 1 * _ ≤ _; omega⟩
  have rp : ∀ e, repR (.lst [.int 0]) (.int ((dn one other : Nat) : Int)) e = .ok (.lst (Zl (List.replicate (dn one other) 0))) e := fun e => by
    rw [repR_lst, if_pos ok, Int.toNat_natCast, rep_flat]
  have dw := fDown_n (n := dn one other) (by omega)
  have lr : (Zl (List.replicate (dn one other) 0)).length = dn one other := by simp
  unfold m_division_of
  simp -implicitDefEqProofs only [ev_def, ev_defO, List.length_cons, List.length_nil, List.cons_append, List.nil_append, List.replicate_succ, List.replicate_zero, Nat.reduceAdd, Nat.reduceSub, Nat.reduceLeDiff, ev_seq, sq_next, sq_ret, sq_retO, sq_exc, ev_expr, ev_call, ev_callO, ev_callL, ev_callN, ev_cons, ev_nil, ev_name, List.getElem?_cons_succ, List.getElem?_cons_zero, name_val, name_lst, bnd_ok, bnd_exc, List.map_cons, List.map_nil, callR_ok, callR_exc, callOR_ok, lentG_cell, lentF_cell, lentR_ok, ev_set, ev_setO, ev_C, setR_no, setR_val, setR_cell, updR_some, List.set_cons_succ, List.set_cons_zero, ev_for, ev_iter, ev_some, its_tup, its_lst, its_ro, ev_mret, ev_retO, end_ret, end_next, end_exc, endO_ret, outs_val, outs_no, outs_cell, outs_nil, ev_if, ev_orT, ev_andT, ev_notT, ev_ofT, ev_tru, ev_test, ev_bin, ev_un, ev_and, ev_or, ev_not, ev_isi, isB_bl, tru_bl, if_true, if_false, Bool.false_eq_true, Bool.not_true, Bool.not_false, ev_next, ev_ret, ev_raise, ev_raise0, ev_tup, ev_lst, ev_frz, frz_lst, ev_fn, ev_setIx, setIxG_lst, setIxR_lst, isL_lst, ixR_lst, lenR_lst, ev_lenC, appR_lst, ev_par, ev_pvCons, ev_pvNil, ev_inl, ev_inr, pvs_cons, pvs_nil, pv_inl, pv_inr, pvsR_some, ev_aug, augR_val, ev_sl, ev_part_none, ev_part_some, partR_int, ev_range, ev_enumA, enumR_tup, enumR_lst, ev_gTup, ev_gsCons, ev_gSet, gsR_some, ev_gsNil, ev_lc, ev_list, ev_rev, fLen_lst, fLen_tup, fLen_ro, fTuple_lst, fTuple_tup, fList_lst, fList_tup, dAdd_int, dSub_int, dNeg_int, dLt_int, dLe_int, dGt_int, dGe_int, dEq_int, dNe_int, dAddI_int, ev_ixC, ev_append, ev_repO, ev_catO, catR_lst, ev_down, ev_lr1, ev_lr2, ev_cmpC, cmpR_lst, ev_pop, popR_lst, dEq_lsts, dNe_lsts, dEq_tups, dNe_tups, Zl_len, hm, rp, lr, dw, e, w1, w2]
/-! the law's own rest -/
theorem sx_take {l : List D} {k : Nat} : L2.DL.cutD l none (some (k : Int)) = l.take k := by
  unfold L2.DL.cutD
  rw [HT.sIx_nat, HT.sIx_none, Nat.sub_zero, List.drop_zero]
  by_cases h : k ≤ l.length
  · rw [Nat.min_eq_left h]
  · rw [Nat.min_eq_right (by omega), List.take_of_length_le (Nat.le_refl _), List.take_of_length_le (by omega)]
theorem cut_any {l : List Int} {k : Nat} : dSl none (some (k : Int)) (.lst (Zl l)) = some (.lst (Zl (l.take k))) := by
  show some (D.lst (L2.DL.cutD _ _ _)) = _
  rw [sx_take, Zl_take]
abbrev RB : MS := (mSetIx 2 (mBin dAdd (mName 3) (mName 5)) (mBin dSub (mIxC 2 (mBin dAdd (mName 3) (mName 5))) (mBin dMul (mName 4) (mName 6))))
theorem rb_step {s0 s1 : Sl} {L : List Int} {i m : Nat} {c x : Int} (h : i + m < L.length) (hm : dMul (.int c) (.int x) = some (.int (c * x))) :
    RB [s0, s1, .cell false (.lst (Zl L)), .val (.int i), .val (.int c), .val (.int m), .val (.int x)] = .ok .next [s0, s1, .cell false (.lst (Zl (L.set (i + m) (gt L (i + m) - c * x)))), .val (.int i), .val (.int c), .val (.int m), .val (.int x)] := by
  have e1 : (i : Int) + (m : Int) = ((i + m : Nat) : Int) := by omega
  have h1 := ix_c (l := L) (k := i + m) h
  have h3 := ixN_nat (n := (Zl L).length) (k := i + m) (by rw [Zl_len]; exact h)
  simp -implicitDefEqProofs only [ev_def, ev_defO, List.length_cons, List.length_nil, List.cons_append, List.nil_append, List.replicate_succ, List.replicate_zero, Nat.reduceAdd, Nat.reduceSub, Nat.reduceLeDiff, ev_seq, sq_next, sq_ret, sq_retO, sq_exc, ev_expr, ev_call, ev_callO, ev_callL, ev_callN, ev_cons, ev_nil, ev_name, List.getElem?_cons_succ, List.getElem?_cons_zero, name_val, name_lst, bnd_ok, bnd_exc, List.map_cons, List.map_nil, callR_ok, callR_exc, callOR_ok, lentG_cell, lentF_cell, lentR_ok, ev_set, ev_setO, ev_C, setR_no, setR_val, setR_cell, updR_some, List.set_cons_succ, List.set_cons_zero, ev_for, ev_iter, ev_some, its_tup, its_lst, its_ro, ev_mret, ev_retO, end_ret, end_next, end_exc, endO_ret, outs_val, outs_no, outs_cell, outs_nil, ev_if, ev_orT, ev_andT, ev_notT, ev_ofT, ev_tru, ev_test, ev_bin, ev_un, ev_and, ev_or, ev_not, ev_isi, isB_bl, tru_bl, if_true, if_false, Bool.false_eq_true, Bool.not_true, Bool.not_false, ev_next, ev_ret, ev_raise, ev_raise0, ev_tup, ev_lst, ev_frz, frz_lst, ev_fn, ev_setIx, setIxG_lst, setIxR_lst, isL_lst, ixR_lst, lenR_lst, ev_lenC, appR_lst, ev_par, ev_pvCons, ev_pvNil, ev_inl, ev_inr, pvs_cons, pvs_nil, pv_inl, pv_inr, pvsR_some, ev_aug, augR_val, ev_sl, ev_part_none, ev_part_some, partR_int, ev_range, ev_enumA, enumR_tup, enumR_lst, ev_gTup, ev_gsCons, ev_gSet, gsR_some, ev_gsNil, ev_lc, ev_list, ev_rev, fLen_lst, fLen_tup, fLen_ro, fTuple_lst, fTuple_tup, fList_lst, fList_tup, dAdd_int, dSub_int, dNeg_int, dLt_int, dLe_int, dGt_int, dGe_int, dEq_int, dNe_int, dAddI_int, ev_ixC, ev_append, ev_repO, ev_catO, catR_lst, ev_down, ev_lr1, ev_lr2, ev_cmpC, cmpR_lst, ev_pop, popR_lst, dEq_lsts, dNe_lsts, dEq_tups, dNe_tups, e1, h1, hm, h3, Zl_set]
theorem rrow_ok {s0 q5 q6 : Sl} {other L : List Int} {i B C : Nat} {c : Int} (hF : i + other.length ≤ L.length) (hc : Bd B c) (ho : ∀ x ∈ other, Bd C x) (hB : B + C < 1000000) (h5 : Fr q5) (h6 : Fr q6) :
    ∃ L' q5' q6', forL (gTupD 2 (gsCons (gSet 5) (gsCons (gSet 6) gsNil))) RB (enumD 0 (Zl other)) [s0, .val (.tup (Zl other)), .cell false (.lst (Zl L)), .val (.int i), .val (.int c), q5, q6] = .ok .next [s0, .val (.tup (Zl other)), .cell false (.lst (Zl L')), .val (.int i), .val (.int c), q5', q6']
      ∧ L'.length = L.length ∧ (∀ k, gt L' k = away (gt L) c other i k) ∧ Fr q5' ∧ Fr q6' := by
  obtain ⟨e', e1, L', q6', q7', rfl, hl, hk, f6, f7⟩ := forL_enum (tg := gTupD 2 (gsCons (gSet 5) (gsCons (gSet 6) gsNil))) (b := RB)
    (fun j e => ∃ L' q5 q6, e = [s0, .val (.tup (Zl other)), .cell false (.lst (Zl L')), .val (.int i), .val (.int c), q5, q6] ∧ L'.length = L.length ∧ (∀ k, gt L' k = gt L k - if i ≤ k ∧ k < i + j then c * gt other (k - i) else 0) ∧ Fr q5 ∧ Fr q6)
    other (e := [s0, .val (.tup (Zl other)), .cell false (.lst (Zl L)), .val (.int i), .val (.int c), q5, q6]) ⟨L, q5, q6, rfl, rfl, fun k => by rw [if_neg (by omega)]; omega, h5, h6⟩ (fun j e hj ⟨L', q6, q7, he, hl, hk, h6, h7⟩ => by
      subst he
      refine ⟨[s0, .val (.tup (Zl other)), .cell false (.lst (Zl L')), .val (.int i), .val (.int c), .val (.int j), .val (.int (gt other j))], _, by simp -implicitDefEqProofs only [ev_def, ev_defO, List.length_cons, List.length_nil, List.cons_append, List.nil_append, List.replicate_succ, List.replicate_zero, Nat.reduceAdd, Nat.reduceSub, Nat.reduceLeDiff, ev_seq, sq_next, sq_ret, sq_retO, sq_exc, ev_expr, ev_call, ev_callO, ev_callL, ev_callN, ev_cons, ev_nil, ev_name, List.getElem?_cons_succ, List.getElem?_cons_zero, name_val, name_lst, bnd_ok, bnd_exc, List.map_cons, List.map_nil, callR_ok, callR_exc, callOR_ok, lentG_cell, lentF_cell, lentR_ok, ev_set, ev_setO, ev_C, setR_no, setR_val, setR_cell, updR_some, List.set_cons_succ, List.set_cons_zero, ev_for, ev_iter, ev_some, its_tup, its_lst, its_ro, ev_mret, ev_retO, end_ret, end_next, end_exc, endO_ret, outs_val, outs_no, outs_cell, outs_nil, ev_if, ev_orT, ev_andT, ev_notT, ev_ofT, ev_tru, ev_test, ev_bin, ev_un, ev_and, ev_or, ev_not, ev_isi, isB_bl, tru_bl, if_true, if_false, Bool.false_eq_true, Bool.not_true, Bool.not_false, ev_next, ev_ret, ev_raise, ev_raise0, ev_tup, ev_lst, ev_frz, frz_lst, ev_fn, ev_setIx, setIxG_lst, setIxR_lst, isL_lst, ixR_lst, lenR_lst, ev_lenC, appR_lst, ev_par, ev_pvCons, ev_pvNil, ev_inl, ev_inr, pvs_cons, pvs_nil, pv_inl, pv_inr, pvsR_some, ev_aug, augR_val, ev_sl, ev_part_none, ev_part_some, partR_int, ev_range, ev_enumA, enumR_tup, enumR_lst, ev_gTup, ev_gsCons, ev_gSet, gsR_some, ev_gsNil, ev_lc, ev_list, ev_rev, fLen_lst, fLen_tup, fLen_ro, fTuple_lst, fTuple_tup, fList_lst, fList_tup, dAdd_int, dSub_int, dNeg_int, dLt_int, dLe_int, dGt_int, dGe_int, dEq_int, dNe_int, dAddI_int, ev_ixC, ev_append, ev_repO, ev_catO, catR_lst, ev_down, ev_lr1, ev_lr2, ev_cmpC, cmpR_lst, ev_pop, popR_lst, dEq_lsts, dNe_lsts, dEq_tups, dNe_tups, set_fr h6, set_fr h7], rb_step (by omega) (bd_mul_ok hc (bd_gt ho j) hB), ?_⟩
      refine ⟨_, _, _, rfl, by rw [List.length_set, hl], fun k => ?_, fr_val, fr_val⟩
      rw [gt_set (by omega)]
      by_cases e : i + j = k
      · subst e
        rw [if_pos rfl, hk, if_neg (by omega), if_pos (by omega), show i + j - i = j by omega]
        omega
      · rw [if_neg e, hk]
        by_cases e2 : i ≤ k ∧ k < i + j
        · rw [if_pos e2, if_pos (by omega)]
        · rw [if_neg e2, if_neg (by omega)])
  refine ⟨L', q6', q7', e1, hl, fun k => ?_, f6, f7⟩
  rw [hk]
  unfold away
  by_cases e : i ≤ k
  · rw [if_pos e]
    by_cases e2 : k < i + other.length
    · rw [if_pos ⟨e, e2⟩]
    · rw [if_neg (by omega), gt_over (l := other) (by omega), Int.mul_zero]
  · rw [if_neg e, if_neg (by omega)]
/-- the second one, made to end with 1 -/
abbrev sg (lead : Int) (other : List Int) : List Int := other.map fun x => lead * x
theorem gt_sg {lead : Int} {other : List Int} {k : Nat} : gt (sg lead other) k = lead * gt other k := by
  simp only [gt, List.getD_eq_getElem?_getD, List.getElem?_map]
  cases other[k]? <;> simp
theorem away_sg {f : Nat → Int} {c lead : Int} {other : List Int} {n k : Nat} : away f c (sg lead other) n k = away f (c * lead) other n k := by
  unfold away
  rw [gt_sg, Int.mul_assoc]
theorem sg_bd {lead : Int} {other : List Int} (hlead : lead = 1 ∨ lead = -1) (h : ∀ x ∈ other, Bd 200 x) : ∀ x ∈ sg lead other, Bd 200 x := by
  intro x hx
  obtain ⟨y, hy, rfl⟩ := List.mem_map.mp hx
  rw [Int.mul_comm]
  exact lead_bd hlead (h y hy)
abbrev RO : MS := (mSeq (mSet 4 (mIxC 2 (mBin dSub (mBin dAdd (mName 3) (mFn fLen (mCons (mName 1) mNil))) (mC (.int 1)))))
  (mFor (mEnumA (mName 1)) (gTupD 2 (gsCons (gSet 5) (gsCons (gSet 6) gsNil))) RB))
theorem rest_ok {one other : List Int} {lead : Int} (h1 : Po one) (h2 : Po other) (hn : other ≠ []) (hlead : lead = 1 ∨ lead = -1) :
    ∃ L, m__law_poly_rest [.val (.tup (Zl one)), .val (.tup (Zl (sg lead other)))] = .ok (.tup (Zl (trim (L.take (other.length - 1))))) [.no, .no] ∧ ∀ k, gt L k = lf one other lead (dn one other) (dn one other) k := by
  have p := List.length_pos_iff.mpr hn
  have hdn : dn one other = one.length + 1 - other.length := rfl
  have := h1.l2
  have := h2.l2
  have sl : (sg lead other).length = other.length := List.length_map _
  have sb := sg_bd hlead h2.bd
  obtain ⟨e', e1, L, a, b, c, d, rfl, hL, hlf, _⟩ := forL_dn (tg := gSet 3) (b := RO)
    (fun m e => ∃ L a b c d, e = [.val (.tup (Zl one)), .val (.tup (Zl (sg lead other))), .cell false (.lst (Zl L)), a, b, c, d] ∧ L.length = one.length
      ∧ (∀ k, gt L k = lf one other lead (dn one other) (dn one other - m) k) ∧ (∀ k, Bd (200 + 201 * (dn one other - m)) (gt L k)) ∧ Fr a ∧ Fr b ∧ Fr c ∧ Fr d) (dn one other)
    (e := [.val (.tup (Zl one)), .val (.tup (Zl (sg lead other))), .cell false (.lst (Zl one)), .no, .no, .no, .no])
    ⟨one, .no, .no, .no, .no, rfl, rfl, fun k => by rw [Nat.sub_self]; rfl, fun k => by rw [Nat.sub_self]; exact bd_gt h1.bd k, fr_no, fr_no, fr_no, fr_no⟩
    (fun i e hi ⟨L, a, b, c, d, he, hL, hlf, hbL, fa, fb, fc, fd⟩ => by
      subst he
      have hi2 : i + other.length - 1 < L.length := by omega
      have hbl := hbL (i + other.length - 1)
      have wb := lead_bd hlead hbl
      obtain ⟨L', c', d', r, rl, rk, fc', fd'⟩ := rrow_ok (s0 := .val (.tup (Zl one))) (other := sg lead other) (L := L) (i := i) (C := 200) (by rw [sl]; omega) hbl sb (by omega) fc fd
      have e1 : (i : Int) + (other.length : Int) - 1 = ((i + other.length - 1 : Nat) : Int) := by omega
      have g1 := ix_c (l := L) hi2
      refine ⟨[.val (.tup (Zl one)), .val (.tup (Zl (sg lead other))), .cell false (.lst (Zl L)), .val (.int i), b, c, d], [.val (.tup (Zl one)), .val (.tup (Zl (sg lead other))), .cell false (.lst (Zl L')), .val (.int i), .val (.int (gt L (i + other.length - 1))), c', d'], by simp -implicitDefEqProofs only [ev_def, ev_defO, List.length_cons, List.length_nil, List.cons_append, List.nil_append, List.replicate_succ, List.replicate_zero, Nat.reduceAdd, Nat.reduceSub, Nat.reduceLeDiff, ev_seq, sq_next, sq_ret, sq_retO, sq_exc, ev_expr, ev_call, ev_callO, ev_callL, ev_callN, ev_cons, ev_nil, ev_name, List.getElem?_cons_succ, List.getElem?_cons_zero, name_val, name_lst, bnd_ok, bnd_exc, List.map_cons, List.map_nil, callR_ok, callR_exc, callOR_ok, lentG_cell, lentF_cell, lentR_ok, ev_set, ev_setO, ev_C, setR_no, setR_val, setR_cell, updR_some, List.set_cons_succ, List.set_cons_zero, ev_for, ev_iter, ev_some, its_tup, its_lst, its_ro, ev_mret, ev_retO, end_ret, end_next, end_exc, endO_ret, outs_val, outs_no, outs_cell, outs_nil, ev_if, ev_orT, ev_andT, ev_notT, ev_ofT, ev_tru, ev_test, ev_bin, ev_un, ev_and, ev_or, ev_not, ev_isi, isB_bl, tru_bl, if_true, if_false, Bool.false_eq_true, Bool.not_true, Bool.not_false, ev_next, ev_ret, ev_raise, ev_raise0, ev_tup, ev_lst, ev_frz, frz_lst, ev_fn, ev_setIx, setIxG_lst, setIxR_lst, isL_lst, ixR_lst, lenR_lst, ev_lenC, appR_lst, ev_par, ev_pvCons, ev_pvNil, ev_inl, ev_inr, pvs_cons, pvs_nil, pv_inl, pv_inr, pvsR_some, ev_aug, augR_val, ev_sl, ev_part_none, ev_part_some, partR_int, ev_range, ev_enumA, enumR_tup, enumR_lst, ev_gTup, ev_gsCons, ev_gSet, gsR_some, ev_gsNil, ev_lc, ev_list, ev_rev, fLen_lst, fLen_tup, fLen_ro, fTuple_lst, fTuple_tup, fList_lst, fList_tup, dAdd_int, dSub_int, dNeg_int, dLt_int, dLe_int, dGt_int, dGe_int, dEq_int, dNe_int, dAddI_int, ev_ixC, ev_append, ev_repO, ev_catO, catR_lst, ev_down, ev_lr1, ev_lr2, ev_cmpC, cmpR_lst, ev_pop, popR_lst, dEq_lsts, dNe_lsts, dEq_tups, dNe_tups, set_fr fa], ?_, ?_⟩
      · simp -implicitDefEqProofs only [ev_def, ev_defO, List.length_cons, List.length_nil, List.cons_append, List.nil_append, List.replicate_succ, List.replicate_zero, Nat.reduceAdd, Nat.reduceSub, Nat.reduceLeDiff, ev_seq, sq_next, sq_ret, sq_retO, sq_exc, ev_expr, ev_call, ev_callO, ev_callL, ev_callN, ev_cons, ev_nil, ev_name, List.getElem?_cons_succ, List.getElem?_cons_zero, name_val, name_lst, bnd_ok, bnd_exc, List.map_cons, List.map_nil, callR_ok, callR_exc, callOR_ok, lentG_cell, lentF_cell, lentR_ok, ev_set, ev_setO, ev_C, setR_no, setR_val, setR_cell, updR_some, List.set_cons_succ, List.set_cons_zero, ev_for, ev_iter, ev_some, its_tup, its_lst, its_ro, ev_mret, ev_retO, end_ret, end_next, end_exc, endO_ret, outs_val, outs_no, outs_cell, outs_nil, ev_if, ev_orT, ev_andT, ev_notT, ev_ofT, ev_tru, ev_test, ev_bin, ev_un, ev_and, ev_or, ev_not, ev_isi, isB_bl, tru_bl, if_true, if_false, Bool.false_eq_true, Bool.not_true, Bool.not_false, ev_next, ev_ret, ev_raise, ev_raise0, ev_tup, ev_lst, ev_frz, frz_lst, ev_fn, ev_setIx, setIxG_lst, setIxR_lst, isL_lst, ixR_lst, lenR_lst, ev_lenC, appR_lst, ev_par, ev_pvCons, ev_pvNil, ev_inl, ev_inr, pvs_cons, pvs_nil, pv_inl, pv_inr, pvsR_some, ev_aug, augR_val, ev_sl, ev_part_none, ev_part_some, partR_int, ev_range, ev_enumA, enumR_tup, enumR_lst, ev_gTup, ev_gsCons, ev_gSet, gsR_some, ev_gsNil, ev_lc, ev_list, ev_rev, fLen_lst, fLen_tup, fLen_ro, fTuple_lst, fTuple_tup, fList_lst, fList_tup, dAdd_int, dSub_int, dNeg_int, dLt_int, dLe_int, dGt_int, dGe_int, dEq_int, dNe_int, dAddI_int, ev_ixC, ev_append, ev_repO, ev_catO, catR_lst, ev_down, ev_lr1, ev_lr2, ev_cmpC, cmpR_lst, ev_pop, popR_lst, dEq_lsts, dNe_lsts, dEq_tups, dNe_tups, Zl_len, sl, e1, g1, set_fr fb, r]
      · refine ⟨L', _, _, _, _, rfl, by omega, fun k => ?_, fun k => ?_, fr_val, fr_val, fc', fd'⟩
        · rw [rk, away_sg, show dn one other - i = (dn one other - (i + 1)) + 1 by omega]
          show _ = away (lf one other lead (dn one other) (dn one other - (i + 1))) (lf one other lead (dn one other) (dn one other - (i + 1)) (dn one other - 1 - (dn one other - (i + 1)) + other.length - 1) * lead) other (dn one other - 1 - (dn one other - (i + 1))) k
          rw [show dn one other - 1 - (dn one other - (i + 1)) = i by omega, ← hlf]
          unfold away
          rw [hlf]
        · rw [rk, away_sg]
          exact (away_bd (fun k => (hbL k).mono (by omega)) wb h2.bd k).mono (by omega))
  refine ⟨L, ?_, fun k => by rw [hlf, Nat.sub_zero]⟩
  have dw : fDown [.int ((one.length : Int) - (other.length : Int)), .int (-1), .int (-1)] = some ((List.range (dn one other)).map fun i => .int ((dn one other - 1 - i : Nat) : Int)) := by
    by_cases h : other.length ≤ one.length
    · rw [← fDown_n (by omega)]
      congr 3
      omega
    · have : dn one other = 0 := by omega
      rw [this]
      show (if _ then _ else _) = _
      rw [if_pos ⟨rfl, by omega, by omega, by omega, by omega⟩]
      unfold rangeDn
      rw [show ((one.length : Int) - (other.length : Int) - (-1)).toNat = 0 by omega]
      rfl
  have hm : fMax [.int 0, .int ((other.length : Int) - 1)] = some (.int ((other.length - 1 : Nat) : Int)) := by
    rw [fMax_int]
    congr 2
    split <;> omega
  have w := law_trimmed_ok (F := L.take (other.length - 1)) (by simp; omega)
  have ct := cut_any (l := L) (k := other.length - 1)
  unfold m__law_poly_rest
  simp -implicitDefEqProofs only [ev_def, ev_defO, List.length_cons, List.length_nil, List.cons_append, List.nil_append, List.replicate_succ, List.replicate_zero, Nat.reduceAdd, Nat.reduceSub, Nat.reduceLeDiff, ev_seq, sq_next, sq_ret, sq_retO, sq_exc, ev_expr, ev_call, ev_callO, ev_callL, ev_callN, ev_cons, ev_nil, ev_name, List.getElem?_cons_succ, List.getElem?_cons_zero, name_val, name_lst, bnd_ok, bnd_exc, List.map_cons, List.map_nil, callR_ok, callR_exc, callOR_ok, lentG_cell, lentF_cell, lentR_ok, ev_set, ev_setO, ev_C, setR_no, setR_val, setR_cell, updR_some, List.set_cons_succ, List.set_cons_zero, ev_for, ev_iter, ev_some, its_tup, its_lst, its_ro, ev_mret, ev_retO, end_ret, end_next, end_exc, endO_ret, outs_val, outs_no, outs_cell, outs_nil, ev_if, ev_orT, ev_andT, ev_notT, ev_ofT, ev_tru, ev_test, ev_bin, ev_un, ev_and, ev_or, ev_not, ev_isi, isB_bl, tru_bl, if_true, if_false, Bool.false_eq_true, Bool.not_true, Bool.not_false, ev_next, ev_ret, ev_raise, ev_raise0, ev_tup, ev_lst, ev_frz, frz_lst, ev_fn, ev_setIx, setIxG_lst, setIxR_lst, isL_lst, ixR_lst, lenR_lst, ev_lenC, appR_lst, ev_par, ev_pvCons, ev_pvNil, ev_inl, ev_inr, pvs_cons, pvs_nil, pv_inl, pv_inr, pvsR_some, ev_aug, augR_val, ev_sl, ev_part_none, ev_part_some, partR_int, ev_range, ev_enumA, enumR_tup, enumR_lst, ev_gTup, ev_gsCons, ev_gSet, gsR_some, ev_gsNil, ev_lc, ev_list, ev_rev, fLen_lst, fLen_tup, fLen_ro, fTuple_lst, fTuple_tup, fList_lst, fList_tup, dAdd_int, dSub_int, dNeg_int, dLt_int, dLe_int, dGt_int, dGe_int, dEq_int, dNe_int, dAddI_int, ev_ixC, ev_append, ev_repO, ev_catO, catR_lst, ev_down, ev_lr1, ev_lr2, ev_cmpC, cmpR_lst, ev_pop, popR_lst, dEq_lsts, dNe_lsts, dEq_tups, dNe_tups, Zl_len, sl, dw, e1, hm, ct, w]
end K48
set_option Elab.async false
set_option linter.all false
set_option maxRecDepth 100000
set_option maxHeartbeats 4000000
namespace K48
open PySem PySem.Spec PyProof.Rows L2 L2.DL
/-! values -/
abbrev VB : MS := (mSet 2 (mBin dAdd (mBin dMul (mName 2) (mName 1)) (mName 3)))
theorem value_loop {s0 : Sl} {x : Int} (hx : Bd 70 x) : ∀ (l : List Int) (v : Int) (B : Nat) (q : Sl), (∀ y ∈ l, Bd 200 y) → Bd B v → 200 ≤ B → B + 71 * l.length < 900000 → Fr q →
    ∃ q', forL (gSet 3) VB (Zl l) [s0, .val (.int x), .val (.int v), q] = .ok .next [s0, .val (.int x), .val (.int (worth x l v)), q']
  | [], v, B, q, _, _, _, _, _ => ⟨q, rfl⟩
  | a :: l, v, B, q, hl, hv, h2, hB, hq => by
    rw [List.length_cons] at hB
    have m := bd_mul_ok hv hx (by omega)
    obtain ⟨q', e⟩ := value_loop hx l (v * x + a) (B + 71) (.val (.int a)) (fun y hy => hl y (List.mem_cons_of_mem _ hy)) ((hv.mul hx).add ((hl a List.mem_cons_self).mono (by omega))) (by omega) (by omega) fr_val
    refine ⟨q', ?_⟩
    rw [show Zl (a :: l) = .int a :: Zl l from rfl, forL_next (e1 := [s0, .val (.int x), .val (.int v), .val (.int a)]) (e2 := [s0, .val (.int x), .val (.int (v * x + a)), .val (.int a)]), e]
    · rfl
    · simp -implicitDefEqProofs only [ev_def, ev_defO, List.length_cons, List.length_nil, List.cons_append, List.nil_append, List.replicate_succ, List.replicate_zero, Nat.reduceAdd, Nat.reduceSub, Nat.reduceLeDiff, ev_seq, sq_next, sq_ret, sq_retO, sq_exc, ev_expr, ev_call, ev_callO, ev_callL, ev_callN, ev_cons, ev_nil, ev_name, List.getElem?_cons_succ, List.getElem?_cons_zero, name_val, name_lst, bnd_ok, bnd_exc, List.map_cons, List.map_nil, callR_ok, callR_exc, callOR_ok, lentG_cell, lentF_cell, lentR_ok, ev_set, ev_setO, ev_C, setR_no, setR_val, setR_cell, updR_some, List.set_cons_succ, List.set_cons_zero, ev_for, ev_iter, ev_some, its_tup, its_lst, its_ro, ev_mret, ev_retO, end_ret, end_next, end_exc, endO_ret, outs_val, outs_no, outs_cell, outs_nil, ev_if, ev_orT, ev_andT, ev_notT, ev_ofT, ev_tru, ev_test, ev_bin, ev_un, ev_and, ev_or, ev_not, ev_isi, isB_bl, tru_bl, if_true, if_false, Bool.false_eq_true, Bool.not_true, Bool.not_false, ev_next, ev_ret, ev_raise, ev_raise0, ev_tup, ev_lst, ev_frz, frz_lst, ev_fn, ev_setIx, setIxG_lst, setIxR_lst, isL_lst, ixR_lst, lenR_lst, ev_lenC, appR_lst, ev_par, ev_pvCons, ev_pvNil, ev_inl, ev_inr, pvs_cons, pvs_nil, pv_inl, pv_inr, pvsR_some, ev_aug, augR_val, ev_sl, ev_part_none, ev_part_some, partR_int, ev_range, ev_enumA, enumR_tup, enumR_lst, ev_gTup, ev_gsCons, ev_gSet, gsR_some, ev_gsNil, ev_lc, ev_list, ev_rev, fLen_lst, fLen_tup, fLen_ro, fTuple_lst, fTuple_tup, fList_lst, fList_tup, dAdd_int, dSub_int, dNeg_int, dLt_int, dLe_int, dGt_int, dGe_int, dEq_int, dNe_int, dAddI_int, ev_ixC, ev_append, ev_repO, ev_catO, catR_lst, ev_down, ev_lr1, ev_lr2, ev_cmpC, cmpR_lst, ev_pop, popR_lst, dEq_lsts, dNe_lsts, dEq_tups, dNe_tups, set_fr hq]
    · simp -implicitDefEqProofs only [ev_def, ev_defO, List.length_cons, List.length_nil, List.cons_append, List.nil_append, List.replicate_succ, List.replicate_zero, Nat.reduceAdd, Nat.reduceSub, Nat.reduceLeDiff, ev_seq, sq_next, sq_ret, sq_retO, sq_exc, ev_expr, ev_call, ev_callO, ev_callL, ev_callN, ev_cons, ev_nil, ev_name, List.getElem?_cons_succ, List.getElem?_cons_zero, name_val, name_lst, bnd_ok, bnd_exc, List.map_cons, List.map_nil, callR_ok, callR_exc, callOR_ok, lentG_cell, lentF_cell, lentR_ok, ev_set, ev_setO, ev_C, setR_no, setR_val, setR_cell, updR_some, List.set_cons_succ, List.set_cons_zero, ev_for, ev_iter, ev_some, its_tup, its_lst, its_ro, ev_mret, ev_retO, end_ret, end_next, end_exc, endO_ret, outs_val, outs_no, outs_cell, outs_nil, ev_if, ev_orT, ev_andT, ev_notT, ev_ofT, ev_tru, ev_test, ev_bin, ev_un, ev_and, ev_or, ev_not, ev_isi, isB_bl, tru_bl, if_true, if_false, Bool.false_eq_true, Bool.not_true, Bool.not_false, ev_next, ev_ret, ev_raise, ev_raise0, ev_tup, ev_lst, ev_frz, frz_lst, ev_fn, ev_setIx, setIxG_lst, setIxR_lst, isL_lst, ixR_lst, lenR_lst, ev_lenC, appR_lst, ev_par, ev_pvCons, ev_pvNil, ev_inl, ev_inr, pvs_cons, pvs_nil, pv_inl, pv_inr, pvsR_some, ev_aug, augR_val, ev_sl, ev_part_none, ev_part_some, partR_int, ev_range, ev_enumA, enumR_tup, enumR_lst, ev_gTup, ev_gsCons, ev_gSet, gsR_some, ev_gsNil, ev_lc, ev_list, ev_rev, fLen_lst, fLen_tup, fLen_ro, fTuple_lst, fTuple_tup, fList_lst, fList_tup, dAdd_int, dSub_int, dNeg_int, dLt_int, dLe_int, dGt_int, dGe_int, dEq_int, dNe_int, dAddI_int, ev_ixC, ev_append, ev_repO, ev_catO, catR_lst, ev_down, ev_lr1, ev_lr2, ev_cmpC, cmpR_lst, ev_pop, popR_lst, dEq_lsts, dNe_lsts, dEq_tups, dNe_tups, m]
theorem rev_tup {f : List Int} : dRev (.tup (Zl f)) = some (.tup (Zl f.reverse)) := by simp [dRev, Zl, List.map_reverse]
theorem value_at_ok {f : List Int} {x : Int} (h : Po f) (hs : Sm x) (hx : Bd 70 x) : m_value_at [.val (.tup (Zl f)), .val (.int x)] = .ok (.int (worth x f.reverse 0)) [.no, .no] := by
  have := h.l2
  obtain ⟨q', e⟩ := value_loop (s0 := .val (.tup (Zl f))) hx f.reverse 0 200 .no (fun y hy => h.bd y (List.mem_reverse.mp hy)) bd_zero (by omega) (by rw [List.length_reverse]; omega) fr_no
  unfold m_value_at
  simp -implicitDefEqProofs only [ev_def, ev_defO, List.length_cons, List.length_nil, List.cons_append, List.nil_append, List.replicate_succ, List.replicate_zero, Nat.reduceAdd, Nat.reduceSub, Nat.reduceLeDiff, ev_seq, sq_next, sq_ret, sq_retO, sq_exc, ev_expr, ev_call, ev_callO, ev_callL, ev_callN, ev_cons, ev_nil, ev_name, List.getElem?_cons_succ, List.getElem?_cons_zero, name_val, name_lst, bnd_ok, bnd_exc, List.map_cons, List.map_nil, callR_ok, callR_exc, callOR_ok, lentG_cell, lentF_cell, lentR_ok, ev_set, ev_setO, ev_C, setR_no, setR_val, setR_cell, updR_some, List.set_cons_succ, List.set_cons_zero, ev_for, ev_iter, ev_some, its_tup, its_lst, its_ro, ev_mret, ev_retO, end_ret, end_next, end_exc, endO_ret, outs_val, outs_no, outs_cell, outs_nil, ev_if, ev_orT, ev_andT, ev_notT, ev_ofT, ev_tru, ev_test, ev_bin, ev_un, ev_and, ev_or, ev_not, ev_isi, isB_bl, tru_bl, if_true, if_false, Bool.false_eq_true, Bool.not_true, Bool.not_false, ev_next, ev_ret, ev_raise, ev_raise0, ev_tup, ev_lst, ev_frz, frz_lst, ev_fn, ev_setIx, setIxG_lst, setIxR_lst, isL_lst, ixR_lst, lenR_lst, ev_lenC, appR_lst, ev_par, ev_pvCons, ev_pvNil, ev_inl, ev_inr, pvs_cons, pvs_nil, pv_inl, pv_inr, pvsR_some, ev_aug, augR_val, ev_sl, ev_part_none, ev_part_some, partR_int, ev_range, ev_enumA, enumR_tup, enumR_lst, ev_gTup, ev_gsCons, ev_gSet, gsR_some, ev_gsNil, ev_lc, ev_list, ev_rev, fLen_lst, fLen_tup, fLen_ro, fTuple_lst, fTuple_tup, fList_lst, fList_tup, dAdd_int, dSub_int, dNeg_int, dLt_int, dLe_int, dGt_int, dGe_int, dEq_int, dNe_int, dAddI_int, ev_ixC, ev_append, ev_repO, ev_catO, catR_lst, ev_down, ev_lr1, ev_lr2, ev_cmpC, cmpR_lst, ev_pop, popR_lst, dEq_lsts, dNe_lsts, dEq_tups, dNe_tups, require_polynomial_ok h, require_integer_ok hs, rev_tup, e]
theorem worth_ok {f : List Int} {x : Int} (h : Po f) (hx : Bd 70 x) : m__law_worth [.val (.tup (Zl f)), .val (.int x)] = .ok (.int (worth x f.reverse 0)) [.no, .no] := by
  have := h.l2
  obtain ⟨q', e⟩ := value_loop (s0 := .val (.tup (Zl f))) hx f.reverse 0 200 .no (fun y hy => h.bd y (List.mem_reverse.mp hy)) bd_zero (by omega) (by rw [List.length_reverse]; omega) fr_no
  unfold m__law_worth
  simp -implicitDefEqProofs only [ev_def, ev_defO, List.length_cons, List.length_nil, List.cons_append, List.nil_append, List.replicate_succ, List.replicate_zero, Nat.reduceAdd, Nat.reduceSub, Nat.reduceLeDiff, ev_seq, sq_next, sq_ret, sq_retO, sq_exc, ev_expr, ev_call, ev_callO, ev_callL, ev_callN, ev_cons, ev_nil, ev_name, List.getElem?_cons_succ, List.getElem?_cons_zero, name_val, name_lst, bnd_ok, bnd_exc, List.map_cons, List.map_nil, callR_ok, callR_exc, callOR_ok, lentG_cell, lentF_cell, lentR_ok, ev_set, ev_setO, ev_C, setR_no, setR_val, setR_cell, updR_some, List.set_cons_succ, List.set_cons_zero, ev_for, ev_iter, ev_some, its_tup, its_lst, its_ro, ev_mret, ev_retO, end_ret, end_next, end_exc, endO_ret, outs_val, outs_no, outs_cell, outs_nil, ev_if, ev_orT, ev_andT, ev_notT, ev_ofT, ev_tru, ev_test, ev_bin, ev_un, ev_and, ev_or, ev_not, ev_isi, isB_bl, tru_bl, if_true, if_false, Bool.false_eq_true, Bool.not_true, Bool.not_false, ev_next, ev_ret, ev_raise, ev_raise0, ev_tup, ev_lst, ev_frz, frz_lst, ev_fn, ev_setIx, setIxG_lst, setIxR_lst, isL_lst, ixR_lst, lenR_lst, ev_lenC, appR_lst, ev_par, ev_pvCons, ev_pvNil, ev_inl, ev_inr, pvs_cons, pvs_nil, pv_inl, pv_inr, pvsR_some, ev_aug, augR_val, ev_sl, ev_part_none, ev_part_some, partR_int, ev_range, ev_enumA, enumR_tup, enumR_lst, ev_gTup, ev_gsCons, ev_gSet, gsR_some, ev_gsNil, ev_lc, ev_list, ev_rev, fLen_lst, fLen_tup, fLen_ro, fTuple_lst, fTuple_tup, fList_lst, fList_tup, dAdd_int, dSub_int, dNeg_int, dLt_int, dLe_int, dGt_int, dGe_int, dEq_int, dNe_int, dAddI_int, ev_ixC, ev_append, ev_repO, ev_catO, catR_lst, ev_down, ev_lr1, ev_lr2, ev_cmpC, cmpR_lst, ev_pop, popR_lst, dEq_lsts, dNe_lsts, dEq_tups, dNe_tups, rev_tup, e]
theorem worth_bd {x : Int} (hx : Bd 70 x) : ∀ (l : List Int) (v : Int) (B : Nat), (∀ y ∈ l, Bd 200 y) → Bd B v → 200 ≤ B → Bd (B + 71 * l.length) (worth x l v)
  | [], v, B, _, hv, _ => hv
  | a :: l, v, B, hl, hv, h2 => by
    have := worth_bd hx l (v * x + a) (B + 71) (fun y hy => hl y (List.mem_cons_of_mem _ hy)) ((hv.mul hx).add ((hl a List.mem_cons_self).mono (by omega))) (by omega)
    rw [List.length_cons, show B + 71 * (l.length + 1) = B + 71 + 71 * l.length by omega]
    exact this
/-! sums -/
theorem zip2_Zl : ∀ (a b : List Int), zip2D (Zl a) (Zl b) = (List.zip a b).map fun p => D.tup [.int p.1, .int p.2]
  | [], _ => by simp [zip2D]
  | x :: a, [] => by simp [zip2D]
  | x :: a, y :: b => by
    show D.tup [.int x, .int y] :: zip2D (Zl a) (Zl b) = _
    rw [zip2_Zl a b]
    rfl
theorem gt_zip : ∀ (a b : List Int) (k : Nat), a.length = b.length → gt ((List.zip a b).map fun p => p.1 + p.2) k = gt a k + gt b k
  | [], [], k, _ => by simp
  | [], y :: b, k, h => by simp at h
  | x :: a, [], k, h => by simp at h
  | x :: a, y :: b, k, h => by
    cases k with
    | zero => simp
    | succ k =>
      have := gt_zip a b k (by simpa using h)
      simpa using this
theorem gt_pad {a : List Int} {n k : Nat} : gt (a ++ List.replicate n 0) k = gt a k := by
  by_cases h : k < a.length
  · exact gt_left h
  · rw [gt_right (by omega), gt_rep, gt_over (by omega)]
theorem added_ok {a b : List Int} (ha : a.length ≤ 1000) (hb : b.length ≤ 1000) : ∃ F, m__law_added [.val (.tup (Zl a)), .val (.tup (Zl b))] = .ok (.tup (Zl (trim F))) [.no, .no] ∧ ∀ k, gt F k = gt a k + gt b k := by
  obtain ⟨n, hn⟩ : ∃ n, n = max a.length b.length := ⟨_, rfl⟩
  have hm : fMax [.int (a.length : Nat), .int (b.length : Nat)] = some (.int (n : Nat)) := by
    rw [fMax_int]
    congr 2
    split <;> omega
  have c1 : (n : Int) - (a.length : Int) = ((n - a.length : Nat) : Int) := by omega
  have c2 : (n : Int) - (b.length : Int) = ((n - b.length : Nat) : Int) := by omega
  have r1 := fRange_n (n := n - a.length) (by omega)
  have r2 := fRange_n (n := n - b.length) (by omega)
  have rp : ∀ m : Nat, (List.range m).map (fun _ => D.int 0) = Zl (List.replicate m 0) := fun m => by
    rw [List.map_const', List.length_range]
    simp [Zl]
  have l1 := lc_rg (v := 4) (el := mC (.int 0)) (e := [.val (.tup (Zl a)), .val (.tup (Zl b)), .val (.int n), .no, .no, .no, .no, .no]) (n := n - a.length) (f := fun _ => .int 0) (by omega) rfl (fun i _ => rfl)
  have l2 := lc_rg (v := 4) (el := mC (.int 0)) (e := [.val (.tup (Zl a)), .val (.tup (Zl b)), .val (.int n), .val (.lst (Zl (a ++ List.replicate (n - a.length) 0))), .no, .no, .no, .no]) (n := n - b.length) (f := fun _ => .int 0) (by omega) rfl (fun i _ => rfl)
  rw [rp] at l1 l2
  have lA : (a ++ List.replicate (n - a.length) 0).length = n := by rw [List.length_append, List.length_replicate]; omega
  have lB : (b ++ List.replicate (n - b.length) 0).length = n := by rw [List.length_append, List.length_replicate]; omega
  have a1 : dAdd (.lst (Zl a)) (.lst (Zl (List.replicate (n - a.length) 0))) = some (.lst (Zl (a ++ List.replicate (n - a.length) 0))) := by
    rw [dAdd_lst, if_pos (by simp; omega), Zl_app]
  have a2 : dAdd (.lst (Zl b)) (.lst (Zl (List.replicate (n - b.length) 0))) = some (.lst (Zl (b ++ List.replicate (n - b.length) 0))) := by
    rw [dAdd_lst, if_pos (by simp; omega), Zl_app]
  generalize hA : a ++ List.replicate (n - a.length) 0 = A at *
  generalize hB : b ++ List.replicate (n - b.length) 0 = B at *
  have lz : (List.zip A B).length = n := by rw [List.length_zip, lA, lB, Nat.min_self]
  obtain ⟨e', acc, l3, he, hacc⟩ := lcL_inv (vs := [6, 7]) (tg := gTupD 2 (gsCons (gSet 6) (gsCons (gSet 7) gsNil))) (el := mBin dAdd (mName 6) (mName 7)) (fun p : Int × Int => D.tup [.int p.1, .int p.2])
    (fun i e acc => e = [.val (.tup (Zl a)), .val (.tup (Zl b)), .val (.int n), .val (.lst (Zl A)), .no, .val (.lst (Zl B)), .no, .no] ∧ acc = Zl (((List.zip A B).map fun p => p.1 + p.2).take i)) (List.zip A B) 0
    [.val (.tup (Zl a)), .val (.tup (Zl b)), .val (.int n), .val (.lst (Zl A)), .no, .val (.lst (Zl B)), .no, .no] [] (by rw [lz]; simp; omega) (fun i p e acc hp ⟨he, ha⟩ => by
      subst he ha
      refine ⟨[.val (.tup (Zl a)), .val (.tup (Zl b)), .val (.int n), .val (.lst (Zl A)), .no, .val (.lst (Zl B)), .val (.int p.1), .val (.int p.2)], [.val (.tup (Zl a)), .val (.tup (Zl b)), .val (.int n), .val (.lst (Zl A)), .no, .val (.lst (Zl B)), .val (.int p.1), .val (.int p.2)], .int (p.1 + p.2), by simp -implicitDefEqProofs only [ev_def, ev_defO, List.length_cons, List.length_nil, List.cons_append, List.nil_append, List.replicate_succ, List.replicate_zero, Nat.reduceAdd, Nat.reduceSub, Nat.reduceLeDiff, ev_seq, sq_next, sq_ret, sq_retO, sq_exc, ev_expr, ev_call, ev_callO, ev_callL, ev_callN, ev_cons, ev_nil, ev_name, List.getElem?_cons_succ, List.getElem?_cons_zero, name_val, name_lst, bnd_ok, bnd_exc, List.map_cons, List.map_nil, callR_ok, callR_exc, callOR_ok, lentG_cell, lentF_cell, lentR_ok, ev_set, ev_setO, ev_C, setR_no, setR_val, setR_cell, updR_some, List.set_cons_succ, List.set_cons_zero, ev_for, ev_iter, ev_some, its_tup, its_lst, its_ro, ev_mret, ev_retO, end_ret, end_next, end_exc, endO_ret, outs_val, outs_no, outs_cell, outs_nil, ev_if, ev_orT, ev_andT, ev_notT, ev_ofT, ev_tru, ev_test, ev_bin, ev_un, ev_and, ev_or, ev_not, ev_isi, isB_bl, tru_bl, if_true, if_false, Bool.false_eq_true, Bool.not_true, Bool.not_false, ev_next, ev_ret, ev_raise, ev_raise0, ev_tup, ev_lst, ev_frz, frz_lst, ev_fn, ev_setIx, setIxG_lst, setIxR_lst, isL_lst, ixR_lst, lenR_lst, ev_lenC, appR_lst, ev_par, ev_pvCons, ev_pvNil, ev_inl, ev_inr, pvs_cons, pvs_nil, pv_inl, pv_inr, pvsR_some, ev_aug, augR_val, ev_sl, ev_part_none, ev_part_some, partR_int, ev_range, ev_enumA, enumR_tup, enumR_lst, ev_gTup, ev_gsCons, ev_gSet, gsR_some, ev_gsNil, ev_lc, ev_list, ev_rev, fLen_lst, fLen_tup, fLen_ro, fTuple_lst, fTuple_tup, fList_lst, fList_tup, dAdd_int, dSub_int, dNeg_int, dLt_int, dLe_int, dGt_int, dGe_int, dEq_int, dNe_int, dAddI_int, ev_ixC, ev_append, ev_repO, ev_catO, catR_lst, ev_down, ev_lr1, ev_lr2, ev_cmpC, cmpR_lst, ev_pop, popR_lst, dEq_lsts, dNe_lsts, dEq_tups, dNe_tups], by simp -implicitDefEqProofs only [ev_def, ev_defO, List.length_cons, List.length_nil, List.cons_append, List.nil_append, List.replicate_succ, List.replicate_zero, Nat.reduceAdd, Nat.reduceSub, Nat.reduceLeDiff, ev_seq, sq_next, sq_ret, sq_retO, sq_exc, ev_expr, ev_call, ev_callO, ev_callL, ev_callN, ev_cons, ev_nil, ev_name, List.getElem?_cons_succ, List.getElem?_cons_zero, name_val, name_lst, bnd_ok, bnd_exc, List.map_cons, List.map_nil, callR_ok, callR_exc, callOR_ok, lentG_cell, lentF_cell, lentR_ok, ev_set, ev_setO, ev_C, setR_no, setR_val, setR_cell, updR_some, List.set_cons_succ, List.set_cons_zero, ev_for, ev_iter, ev_some, its_tup, its_lst, its_ro, ev_mret, ev_retO, end_ret, end_next, end_exc, endO_ret, outs_val, outs_no, outs_cell, outs_nil, ev_if, ev_orT, ev_andT, ev_notT, ev_ofT, ev_tru, ev_test, ev_bin, ev_un, ev_and, ev_or, ev_not, ev_isi, isB_bl, tru_bl, if_true, if_false, Bool.false_eq_true, Bool.not_true, Bool.not_false, ev_next, ev_ret, ev_raise, ev_raise0, ev_tup, ev_lst, ev_frz, frz_lst, ev_fn, ev_setIx, setIxG_lst, setIxR_lst, isL_lst, ixR_lst, lenR_lst, ev_lenC, appR_lst, ev_par, ev_pvCons, ev_pvNil, ev_inl, ev_inr, pvs_cons, pvs_nil, pv_inl, pv_inr, pvsR_some, ev_aug, augR_val, ev_sl, ev_part_none, ev_part_some, partR_int, ev_range, ev_enumA, enumR_tup, enumR_lst, ev_gTup, ev_gsCons, ev_gSet, gsR_some, ev_gsNil, ev_lc, ev_list, ev_rev, fLen_lst, fLen_tup, fLen_ro, fTuple_lst, fTuple_tup, fList_lst, fList_tup, dAdd_int, dSub_int, dNeg_int, dLt_int, dLe_int, dGt_int, dGe_int, dEq_int, dNe_int, dAddI_int, ev_ixC, ev_append, ev_repO, ev_catO, catR_lst, ev_down, ev_lr1, ev_lr2, ev_cmpC, cmpR_lst, ev_pop, popR_lst, dEq_lsts, dNe_lsts, dEq_tups, dNe_tups], rfl, rfl, ?_⟩
      rw [Nat.zero_add, List.take_add_one, List.getElem?_map, hp]
      simp [Zl]) ⟨rfl, by simp⟩
  rw [Nat.zero_add, List.take_of_length_le (by rw [List.length_map]; omega)] at hacc
  subst he hacc
  refine ⟨(List.zip A B).map fun p => p.1 + p.2, ?_, fun k => ?_⟩
  · have w := law_trimmed_ok (F := (List.zip A B).map fun p => p.1 + p.2) (by rw [List.length_map]; omega)
    unfold m__law_added
    simp -implicitDefEqProofs only [ev_def, ev_defO, List.length_cons, List.length_nil, List.cons_append, List.nil_append, List.replicate_succ, List.replicate_zero, Nat.reduceAdd, Nat.reduceSub, Nat.reduceLeDiff, ev_seq, sq_next, sq_ret, sq_retO, sq_exc, ev_expr, ev_call, ev_callO, ev_callL, ev_callN, ev_cons, ev_nil, ev_name, List.getElem?_cons_succ, List.getElem?_cons_zero, name_val, name_lst, bnd_ok, bnd_exc, List.map_cons, List.map_nil, callR_ok, callR_exc, callOR_ok, lentG_cell, lentF_cell, lentR_ok, ev_set, ev_setO, ev_C, setR_no, setR_val, setR_cell, updR_some, List.set_cons_succ, List.set_cons_zero, ev_for, ev_iter, ev_some, its_tup, its_lst, its_ro, ev_mret, ev_retO, end_ret, end_next, end_exc, endO_ret, outs_val, outs_no, outs_cell, outs_nil, ev_if, ev_orT, ev_andT, ev_notT, ev_ofT, ev_tru, ev_test, ev_bin, ev_un, ev_and, ev_or, ev_not, ev_isi, isB_bl, tru_bl, if_true, if_false, Bool.false_eq_true, Bool.not_true, Bool.not_false, ev_next, ev_ret, ev_raise, ev_raise0, ev_tup, ev_lst, ev_frz, frz_lst, ev_fn, ev_setIx, setIxG_lst, setIxR_lst, isL_lst, ixR_lst, lenR_lst, ev_lenC, appR_lst, ev_par, ev_pvCons, ev_pvNil, ev_inl, ev_inr, pvs_cons, pvs_nil, pv_inl, pv_inr, pvsR_some, ev_aug, augR_val, ev_sl, ev_part_none, ev_part_some, partR_int, ev_range, ev_enumA, enumR_tup, enumR_lst, ev_gTup, ev_gsCons, ev_gSet, gsR_some, ev_gsNil, ev_lc, ev_list, ev_rev, fLen_lst, fLen_tup, fLen_ro, fTuple_lst, fTuple_tup, fList_lst, fList_tup, dAdd_int, dSub_int, dNeg_int, dLt_int, dLe_int, dGt_int, dGe_int, dEq_int, dNe_int, dAddI_int, ev_ixC, ev_append, ev_repO, ev_catO, catR_lst, ev_down, ev_lr1, ev_lr2, ev_cmpC, cmpR_lst, ev_pop, popR_lst, dEq_lsts, dNe_lsts, dEq_tups, dNe_tups, Zl_len, hm, c1, c2, r1, r2, l1, a1]
    simp -implicitDefEqProofs only [ev_def, ev_defO, List.length_cons, List.length_nil, List.cons_append, List.nil_append, List.replicate_succ, List.replicate_zero, Nat.reduceAdd, Nat.reduceSub, Nat.reduceLeDiff, ev_seq, sq_next, sq_ret, sq_retO, sq_exc, ev_expr, ev_call, ev_callO, ev_callL, ev_callN, ev_cons, ev_nil, ev_name, List.getElem?_cons_succ, List.getElem?_cons_zero, name_val, name_lst, bnd_ok, bnd_exc, List.map_cons, List.map_nil, callR_ok, callR_exc, callOR_ok, lentG_cell, lentF_cell, lentR_ok, ev_set, ev_setO, ev_C, setR_no, setR_val, setR_cell, updR_some, List.set_cons_succ, List.set_cons_zero, ev_for, ev_iter, ev_some, its_tup, its_lst, its_ro, ev_mret, ev_retO, end_ret, end_next, end_exc, endO_ret, outs_val, outs_no, outs_cell, outs_nil, ev_if, ev_orT, ev_andT, ev_notT, ev_ofT, ev_tru, ev_test, ev_bin, ev_un, ev_and, ev_or, ev_not, ev_isi, isB_bl, tru_bl, if_true, if_false, Bool.false_eq_true, Bool.not_true, Bool.not_false, ev_next, ev_ret, ev_raise, ev_raise0, ev_tup, ev_lst, ev_frz, frz_lst, ev_fn, ev_setIx, setIxG_lst, setIxR_lst, isL_lst, ixR_lst, lenR_lst, ev_lenC, appR_lst, ev_par, ev_pvCons, ev_pvNil, ev_inl, ev_inr, pvs_cons, pvs_nil, pv_inl, pv_inr, pvsR_some, ev_aug, augR_val, ev_sl, ev_part_none, ev_part_some, partR_int, ev_range, ev_enumA, enumR_tup, enumR_lst, ev_gTup, ev_gsCons, ev_gSet, gsR_some, ev_gsNil, ev_lc, ev_list, ev_rev, fLen_lst, fLen_tup, fLen_ro, fTuple_lst, fTuple_tup, fList_lst, fList_tup, dAdd_int, dSub_int, dNeg_int, dLt_int, dLe_int, dGt_int, dGe_int, dEq_int, dNe_int, dAddI_int, ev_ixC, ev_append, ev_repO, ev_catO, catR_lst, ev_down, ev_lr1, ev_lr2, ev_cmpC, cmpR_lst, ev_pop, popR_lst, dEq_lsts, dNe_lsts, dEq_tups, dNe_tups, Zl_len, c2, r1, r2, show noCells [4] [.val (.tup (Zl a)), .val (.tup (Zl b)), .val (.int n), .no, .no, .no, .no, .no] = true from rfl, show wipeE [4] [.val (.tup (Zl a)), .val (.tup (Zl b)), .val (.int n), .no, .no, .no, .no, .no] = [.val (.tup (Zl a)), .val (.tup (Zl b)), .val (.int n), .no, .no, .no, .no, .no] from rfl, l1, a1,
      show noCells [4] [.val (.tup (Zl a)), .val (.tup (Zl b)), .val (.int n), .val (.lst (Zl A)), .no, .no, .no, .no] = true from rfl, show wipeE [4] [.val (.tup (Zl a)), .val (.tup (Zl b)), .val (.int n), .val (.lst (Zl A)), .no, .no, .no, .no] = [.val (.tup (Zl a)), .val (.tup (Zl b)), .val (.int n), .val (.lst (Zl A)), .no, .no, .no, .no] from rfl, l2, a2, ev_zipG, fZipG_ll, zip2_Zl,
      show noCells [6, 7] [.val (.tup (Zl a)), .val (.tup (Zl b)), .val (.int n), .val (.lst (Zl A)), .no, .val (.lst (Zl B)), .no, .no] = true from rfl, show wipeE [6, 7] [.val (.tup (Zl a)), .val (.tup (Zl b)), .val (.int n), .val (.lst (Zl A)), .no, .val (.lst (Zl B)), .no, .no] = [.val (.tup (Zl a)), .val (.tup (Zl b)), .val (.int n), .val (.lst (Zl A)), .no, .val (.lst (Zl B)), .no, .no] from rfl, l3, w]
  · rw [gt_zip A B k (by omega), ← hA, ← hB, gt_pad, gt_pad]
/-! drawn polynomials -/
theorem sm_mul {r t : Int} (h0 : 0 ≤ r) (h1 : r < t) (ht : t ≤ 999999999999999999999999999999999999999999999999999999999999) : Sm (r * 1) ∧ Sm (r * -1) := by
  unfold Sm
  omega
theorem poly_ok {z : Cell} {m : Int} {most : Nat} (h : Dice m z) (h0 : 0 ≤ m) (hm : m < 800000) (h1 : most ≤ 100) :
    ∃ f z', m__law_poly [.cell true z, .val (.int most)] = .ok (.tup (Zl f)) [.cell true z', .no] ∧ Po f ∧ f.length ≤ most ∧ Dice (m + 300) z' := by
  have p30 : dPow (.int 10) (.int 30) = some (.int (10 ^ 30)) := dPow_nn (by decide) (by decide) (by decide)
  have p60 : dPow (.int 10) (.int 60) = some (.int (10 ^ 60)) := dPow_nn (by decide) (by decide) (by decide)
  obtain ⟨d, z1, e1, hd, d1⟩ := pick_ok (xs := [.int 2, .int 50, .int (10 ^ 30), .int (10 ^ 60 - 1)]) h (by omega) (by simp) (by simp)
  obtain ⟨t, rfl, t0, t1, tb⟩ : ∃ t : Int, d = .int t ∧ 0 < t ∧ t ≤ 999999999999999999999999999999999999999999999999999999999999 ∧ Bd 300 t := by
    simp only [List.mem_cons, List.not_mem_nil, or_false] at hd
    rcases hd with rfl | rfl | rfl | rfl
    · exact ⟨_, rfl, by decide, by decide, bd_small (by decide) (by decide)⟩
    · exact ⟨_, rfl, by decide, by decide, bd_small (by decide) (by decide)⟩
    · exact ⟨_, rfl, by decide, by decide, bd_of (k := 10 ^ 30) (by decide) (by decide)⟩
    · exact ⟨_, rfl, by decide, by decide, bd_of (k := 10 ^ 60) (by decide) (by decide)⟩
  obtain ⟨n, z2, e2, n0, n1, d2⟩ := roll_ok (t := (most : Int) + 1) d1 (by omega) (by omega) (bd_small (by omega) (by decide))
  obtain ⟨n, rfl⟩ := Int.eq_ofNat_of_zero_le n0
  have hr := fRange_n (n := n) (by omega)
  obtain ⟨e', acc, e3, z3, xs, rfl, rfl, hl, hs, d3⟩ := lcL_rgI (vs := [4]) (tg := gSet 4) (el := mBin dMul (mCallL m__law_roll 0 (mCons (mName 2) mNil)) (mIf (mTest (mBin dEq (mCallL m__law_roll 0 (mCons (mC (.int 2)) mNil)) (mC (.int 0)))) (mC (.int 1)) (mUn dNeg (mC (.int 1)))))
    (fun i e acc => ∃ z' xs, e = [.cell true z', .val (.int most), .val (.int t), .no, .no] ∧ acc = Zl xs ∧ xs.length = i ∧ (∀ x ∈ xs, Sm x) ∧ Dice (m + 2 + 2 * i) z') n (e := [.cell true z2, .val (.int most), .val (.int t), .no, .no]) (by omega)
    ⟨z2, [], rfl, rfl, rfl, by simp, d2.mono (by omega)⟩ (fun i e acc hi ⟨z', xs, he, ha, hl, hs, hd⟩ => by
      subst he ha
      obtain ⟨r, z3, e3, r0, r1, d3⟩ := roll_ok (t := t) hd (by omega) t0 tb
      obtain ⟨r2, z4, e4, r20, r21, d4⟩ := roll_ok (t := 2) d3 (by omega) (by decide) (bd_small (by decide) (by decide))
      have sm := sm_mul r0 r1 t1
      have rb : Bd 300 r := bd_of (k := 10 ^ 60) (by omega) (by decide)
      have m1 := bd_mul_ok (m := 8) (y := 1) rb (bd_of (k := 1) (by decide) (by decide)) (by decide)
      have m2 := bd_mul_ok (m := 8) (y := -1) rb (bd_of (k := 1) (by decide) (by decide)) (by decide)
      by_cases h0 : r2 = 0
      · subst h0
        refine ⟨[.cell true z', .val (.int most), .val (.int t), .no, .val (.int i)], [.cell true z4, .val (.int most), .val (.int t), .no, .val (.int i)], .int (r * 1), by simp -implicitDefEqProofs only [ev_def, ev_defO, List.length_cons, List.length_nil, List.cons_append, List.nil_append, List.replicate_succ, List.replicate_zero, Nat.reduceAdd, Nat.reduceSub, Nat.reduceLeDiff, ev_seq, sq_next, sq_ret, sq_retO, sq_exc, ev_expr, ev_call, ev_callO, ev_callL, ev_callN, ev_cons, ev_nil, ev_name, List.getElem?_cons_succ, List.getElem?_cons_zero, name_val, name_lst, bnd_ok, bnd_exc, List.map_cons, List.map_nil, callR_ok, callR_exc, callOR_ok, lentG_cell, lentF_cell, lentR_ok, ev_set, ev_setO, ev_C, setR_no, setR_val, setR_cell, updR_some, List.set_cons_succ, List.set_cons_zero, ev_for, ev_iter, ev_some, its_tup, its_lst, its_ro, ev_mret, ev_retO, end_ret, end_next, end_exc, endO_ret, outs_val, outs_no, outs_cell, outs_nil, ev_if, ev_orT, ev_andT, ev_notT, ev_ofT, ev_tru, ev_test, ev_bin, ev_un, ev_and, ev_or, ev_not, ev_isi, isB_bl, tru_bl, if_true, if_false, Bool.false_eq_true, Bool.not_true, Bool.not_false, ev_next, ev_ret, ev_raise, ev_raise0, ev_tup, ev_lst, ev_frz, frz_lst, ev_fn, ev_setIx, setIxG_lst, setIxR_lst, isL_lst, ixR_lst, lenR_lst, ev_lenC, appR_lst, ev_par, ev_pvCons, ev_pvNil, ev_inl, ev_inr, pvs_cons, pvs_nil, pv_inl, pv_inr, pvsR_some, ev_aug, augR_val, ev_sl, ev_part_none, ev_part_some, partR_int, ev_range, ev_enumA, enumR_tup, enumR_lst, ev_gTup, ev_gsCons, ev_gSet, gsR_some, ev_gsNil, ev_lc, ev_list, ev_rev, fLen_lst, fLen_tup, fLen_ro, fTuple_lst, fTuple_tup, fList_lst, fList_tup, dAdd_int, dSub_int, dNeg_int, dLt_int, dLe_int, dGt_int, dGe_int, dEq_int, dNe_int, dAddI_int, ev_ixC, ev_append, ev_repO, ev_catO, catR_lst, ev_down, ev_lr1, ev_lr2, ev_cmpC, cmpR_lst, ev_pop, popR_lst, dEq_lsts, dNe_lsts, dEq_tups, dNe_tups], ?_, rfl, z4, xs ++ [r * 1], rfl, by simp [Zl], by simp [hl], ?_, d4.mono (by omega)⟩
        · simp -implicitDefEqProofs only [ev_def, ev_defO, List.length_cons, List.length_nil, List.cons_append, List.nil_append, List.replicate_succ, List.replicate_zero, Nat.reduceAdd, Nat.reduceSub, Nat.reduceLeDiff, ev_seq, sq_next, sq_ret, sq_retO, sq_exc, ev_expr, ev_call, ev_callO, ev_callL, ev_callN, ev_cons, ev_nil, ev_name, List.getElem?_cons_succ, List.getElem?_cons_zero, name_val, name_lst, bnd_ok, bnd_exc, List.map_cons, List.map_nil, callR_ok, callR_exc, callOR_ok, lentG_cell, lentF_cell, lentR_ok, ev_set, ev_setO, ev_C, setR_no, setR_val, setR_cell, updR_some, List.set_cons_succ, List.set_cons_zero, ev_for, ev_iter, ev_some, its_tup, its_lst, its_ro, ev_mret, ev_retO, end_ret, end_next, end_exc, endO_ret, outs_val, outs_no, outs_cell, outs_nil, ev_if, ev_orT, ev_andT, ev_notT, ev_ofT, ev_tru, ev_test, ev_bin, ev_un, ev_and, ev_or, ev_not, ev_isi, isB_bl, tru_bl, if_true, if_false, Bool.false_eq_true, Bool.not_true, Bool.not_false, ev_next, ev_ret, ev_raise, ev_raise0, ev_tup, ev_lst, ev_frz, frz_lst, ev_fn, ev_setIx, setIxG_lst, setIxR_lst, isL_lst, ixR_lst, lenR_lst, ev_lenC, appR_lst, ev_par, ev_pvCons, ev_pvNil, ev_inl, ev_inr, pvs_cons, pvs_nil, pv_inl, pv_inr, pvsR_some, ev_aug, augR_val, ev_sl, ev_part_none, ev_part_some, partR_int, ev_range, ev_enumA, enumR_tup, enumR_lst, ev_gTup, ev_gsCons, ev_gSet, gsR_some, ev_gsNil, ev_lc, ev_list, ev_rev, fLen_lst, fLen_tup, fLen_ro, fTuple_lst, fTuple_tup, fList_lst, fList_tup, dAdd_int, dSub_int, dNeg_int, dLt_int, dLe_int, dGt_int, dGe_int, dEq_int, dNe_int, dAddI_int, ev_ixC, ev_append, ev_repO, ev_catO, catR_lst, ev_down, ev_lr1, ev_lr2, ev_cmpC, cmpR_lst, ev_pop, popR_lst, dEq_lsts, dNe_lsts, dEq_tups, dNe_tups, e3, e4, decide_true, m1]
        · intro x hx
          rcases List.mem_append.mp hx with hx | hx
          · exact hs x hx
          · rw [List.mem_singleton.mp hx]; exact sm.1
      · refine ⟨[.cell true z', .val (.int most), .val (.int t), .no, .val (.int i)], [.cell true z4, .val (.int most), .val (.int t), .no, .val (.int i)], .int (r * -1), by simp -implicitDefEqProofs only [ev_def, ev_defO, List.length_cons, List.length_nil, List.cons_append, List.nil_append, List.replicate_succ, List.replicate_zero, Nat.reduceAdd, Nat.reduceSub, Nat.reduceLeDiff, ev_seq, sq_next, sq_ret, sq_retO, sq_exc, ev_expr, ev_call, ev_callO, ev_callL, ev_callN, ev_cons, ev_nil, ev_name, List.getElem?_cons_succ, List.getElem?_cons_zero, name_val, name_lst, bnd_ok, bnd_exc, List.map_cons, List.map_nil, callR_ok, callR_exc, callOR_ok, lentG_cell, lentF_cell, lentR_ok, ev_set, ev_setO, ev_C, setR_no, setR_val, setR_cell, updR_some, List.set_cons_succ, List.set_cons_zero, ev_for, ev_iter, ev_some, its_tup, its_lst, its_ro, ev_mret, ev_retO, end_ret, end_next, end_exc, endO_ret, outs_val, outs_no, outs_cell, outs_nil, ev_if, ev_orT, ev_andT, ev_notT, ev_ofT, ev_tru, ev_test, ev_bin, ev_un, ev_and, ev_or, ev_not, ev_isi, isB_bl, tru_bl, if_true, if_false, Bool.false_eq_true, Bool.not_true, Bool.not_false, ev_next, ev_ret, ev_raise, ev_raise0, ev_tup, ev_lst, ev_frz, frz_lst, ev_fn, ev_setIx, setIxG_lst, setIxR_lst, isL_lst, ixR_lst, lenR_lst, ev_lenC, appR_lst, ev_par, ev_pvCons, ev_pvNil, ev_inl, ev_inr, pvs_cons, pvs_nil, pv_inl, pv_inr, pvsR_some, ev_aug, augR_val, ev_sl, ev_part_none, ev_part_some, partR_int, ev_range, ev_enumA, enumR_tup, enumR_lst, ev_gTup, ev_gsCons, ev_gSet, gsR_some, ev_gsNil, ev_lc, ev_list, ev_rev, fLen_lst, fLen_tup, fLen_ro, fTuple_lst, fTuple_tup, fList_lst, fList_tup, dAdd_int, dSub_int, dNeg_int, dLt_int, dLe_int, dGt_int, dGe_int, dEq_int, dNe_int, dAddI_int, ev_ixC, ev_append, ev_repO, ev_catO, catR_lst, ev_down, ev_lr1, ev_lr2, ev_cmpC, cmpR_lst, ev_pop, popR_lst, dEq_lsts, dNe_lsts, dEq_tups, dNe_tups], ?_, rfl, z4, xs ++ [r * -1], rfl, by simp [Zl], by simp [hl], ?_, d4.mono (by omega)⟩
        · simp -implicitDefEqProofs only [ev_def, ev_defO, List.length_cons, List.length_nil, List.cons_append, List.nil_append, List.replicate_succ, List.replicate_zero, Nat.reduceAdd, Nat.reduceSub, Nat.reduceLeDiff, ev_seq, sq_next, sq_ret, sq_retO, sq_exc, ev_expr, ev_call, ev_callO, ev_callL, ev_callN, ev_cons, ev_nil, ev_name, List.getElem?_cons_succ, List.getElem?_cons_zero, name_val, name_lst, bnd_ok, bnd_exc, List.map_cons, List.map_nil, callR_ok, callR_exc, callOR_ok, lentG_cell, lentF_cell, lentR_ok, ev_set, ev_setO, ev_C, setR_no, setR_val, setR_cell, updR_some, List.set_cons_succ, List.set_cons_zero, ev_for, ev_iter, ev_some, its_tup, its_lst, its_ro, ev_mret, ev_retO, end_ret, end_next, end_exc, endO_ret, outs_val, outs_no, outs_cell, outs_nil, ev_if, ev_orT, ev_andT, ev_notT, ev_ofT, ev_tru, ev_test, ev_bin, ev_un, ev_and, ev_or, ev_not, ev_isi, isB_bl, tru_bl, if_true, if_false, Bool.false_eq_true, Bool.not_true, Bool.not_false, ev_next, ev_ret, ev_raise, ev_raise0, ev_tup, ev_lst, ev_frz, frz_lst, ev_fn, ev_setIx, setIxG_lst, setIxR_lst, isL_lst, ixR_lst, lenR_lst, ev_lenC, appR_lst, ev_par, ev_pvCons, ev_pvNil, ev_inl, ev_inr, pvs_cons, pvs_nil, pv_inl, pv_inr, pvsR_some, ev_aug, augR_val, ev_sl, ev_part_none, ev_part_some, partR_int, ev_range, ev_enumA, enumR_tup, enumR_lst, ev_gTup, ev_gsCons, ev_gSet, gsR_some, ev_gsNil, ev_lc, ev_list, ev_rev, fLen_lst, fLen_tup, fLen_ro, fTuple_lst, fTuple_tup, fList_lst, fList_tup, dAdd_int, dSub_int, dNeg_int, dLt_int, dLe_int, dGt_int, dGe_int, dEq_int, dNe_int, dAddI_int, ev_ixC, ev_append, ev_repO, ev_catO, catR_lst, ev_down, ev_lr1, ev_lr2, ev_cmpC, cmpR_lst, ev_pop, popR_lst, dEq_lsts, dNe_lsts, dEq_tups, dNe_tups, e3, e4, decide_eq_false h0, m2]
        · intro x hx
          rcases List.mem_append.mp hx with hx | hx
          · exact hs x hx
          · rw [List.mem_singleton.mp hx]; exact sm.2)
  have w := law_trimmed_ok (F := xs) (by omega)
  have tl := trim_le (l := xs)
  refine ⟨trim xs, z3, ?_, ⟨fun x hx => hs x (trim_sub hx), by omega, trim_trim⟩, by omega, d3.mono (by omega)⟩
  unfold m__law_poly
  simp -implicitDefEqProofs only [ev_def, ev_defO, List.length_cons, List.length_nil, List.cons_append, List.nil_append, List.replicate_succ, List.replicate_zero, Nat.reduceAdd, Nat.reduceSub, Nat.reduceLeDiff, ev_seq, sq_next, sq_ret, sq_retO, sq_exc, ev_expr, ev_call, ev_callO, ev_callL, ev_callN, ev_cons, ev_nil, ev_name, List.getElem?_cons_succ, List.getElem?_cons_zero, name_val, name_lst, bnd_ok, bnd_exc, List.map_cons, List.map_nil, callR_ok, callR_exc, callOR_ok, lentG_cell, lentF_cell, lentR_ok, ev_set, ev_setO, ev_C, setR_no, setR_val, setR_cell, updR_some, List.set_cons_succ, List.set_cons_zero, ev_for, ev_iter, ev_some, its_tup, its_lst, its_ro, ev_mret, ev_retO, end_ret, end_next, end_exc, endO_ret, outs_val, outs_no, outs_cell, outs_nil, ev_if, ev_orT, ev_andT, ev_notT, ev_ofT, ev_tru, ev_test, ev_bin, ev_un, ev_and, ev_or, ev_not, ev_isi, isB_bl, tru_bl, if_true, if_false, Bool.false_eq_true, Bool.not_true, Bool.not_false, ev_next, ev_ret, ev_raise, ev_raise0, ev_tup, ev_lst, ev_frz, frz_lst, ev_fn, ev_setIx, setIxG_lst, setIxR_lst, isL_lst, ixR_lst, lenR_lst, ev_lenC, appR_lst, ev_par, ev_pvCons, ev_pvNil, ev_inl, ev_inr, pvs_cons, pvs_nil, pv_inl, pv_inr, pvsR_some, ev_aug, augR_val, ev_sl, ev_part_none, ev_part_some, partR_int, ev_range, ev_enumA, enumR_tup, enumR_lst, ev_gTup, ev_gsCons, ev_gSet, gsR_some, ev_gsNil, ev_lc, ev_list, ev_rev, fLen_lst, fLen_tup, fLen_ro, fTuple_lst, fTuple_tup, fList_lst, fList_tup, dAdd_int, dSub_int, dNeg_int, dLt_int, dLe_int, dGt_int, dGe_int, dEq_int, dNe_int, dAddI_int, ev_ixC, ev_append, ev_repO, ev_catO, catR_lst, ev_down, ev_lr1, ev_lr2, ev_cmpC, cmpR_lst, ev_pop, popR_lst, dEq_lsts, dNe_lsts, dEq_tups, dNe_tups, p30, p60, e1, e2, hr, show noCells [4] [.cell true z2, .val (.int most), .val (.int t), .no, .no] = true from rfl, show wipeE [4] [.cell true z2, .val (.int most), .val (.int t), .no, .no] = [.cell true z2, .val (.int most), .val (.int t), .no, .no] from rfl, e3, w]
end K48
set_option Elab.async false
set_option linter.all false
set_option maxRecDepth 100000
set_option maxHeartbeats 4000000
namespace K48
open PySem PySem.Spec PyProof.Rows L2 L2.DL
theorem ev_lam {kd : Option D} {cs : List (Option Nat × (Nat → Option Bool) × Sv)} {th : M D} {e : Ev} : mLam kd cs th e = lamR kd cs (th e) := rfl
theorem lam_ok {d : D} {e : Ev} : lamR none cs__law_told (.ok d e) = .ok d e := rfl
theorem lam0 {e : Ev} : lamR none cs__law_told (.exc (.own 0 none) e) = .ok (.str "operation") e := rfl
theorem lam1 {d : D} {e : Ev} : lamR none cs__law_told (.exc (.own 1 (some d)) e) = .ok (.tup [.str "number", d]) e := rfl
theorem lam2 {d : D} {e : Ev} : lamR none cs__law_told (.exc (.own 2 (some d)) e) = .ok d e := rfl
theorem ev_dct0 {e : Ev} : mDct0 e = .ok (.dct []) e := rfl
theorem frz_dct {kds : List (Key × D)} : (Cell.dct kds).frz = some (.dct kds) := rfl
/-! what is no integer -/
def NI : List D := [.non, .bl true, .bl false, .str "1", .str "", .tup [.int 1], .lst [.int 1], .int (10 ^ 60), .int (0 - 10 ^ 60), .dct []]
theorem no_int_ok {z : Cell} {m : Int} (h : Dice m z) (hm : m < 800000) : ∃ d z', m__law_no_int [.cell true z] = .ok d [.cell true z'] ∧ d ∈ NI ∧ Dice (m + 1) z' := by
  have p60 : dPow (.int 10) (.int 60) = some (.int (10 ^ 60)) := dPow_nn (by decide) (by decide) (by decide)
  obtain ⟨d, z1, e1, hd, d1⟩ := pick_ok (xs := NI) h (by omega) (by decide) (by decide)
  refine ⟨d, z1, ?_, hd, d1⟩
  unfold NI at e1
  unfold m__law_no_int
  simp -implicitDefEqProofs only [ev_def, ev_defO, List.length_cons, List.length_nil, List.cons_append, List.nil_append, List.replicate_succ, List.replicate_zero, Nat.reduceAdd, Nat.reduceSub, Nat.reduceLeDiff, ev_seq, sq_next, sq_ret, sq_retO, sq_exc, ev_expr, ev_call, ev_callO, ev_callL, ev_callN, ev_cons, ev_nil, ev_name, List.getElem?_cons_succ, List.getElem?_cons_zero, name_val, name_lst, bnd_ok, bnd_exc, List.map_cons, List.map_nil, callR_ok, callR_exc, callOR_ok, lentG_cell, lentF_cell, lentR_ok, ev_set, ev_setO, ev_C, setR_no, setR_val, setR_cell, updR_some, List.set_cons_succ, List.set_cons_zero, ev_for, ev_iter, ev_some, its_tup, its_lst, its_ro, ev_mret, ev_retO, end_ret, end_next, end_exc, endO_ret, outs_val, outs_no, outs_cell, outs_nil, ev_if, ev_orT, ev_andT, ev_notT, ev_ofT, ev_tru, ev_test, ev_bin, ev_un, ev_and, ev_or, ev_not, ev_isi, isB_bl, tru_bl, if_true, if_false, Bool.false_eq_true, Bool.not_true, Bool.not_false, ev_next, ev_ret, ev_raise, ev_raise0, ev_tup, ev_lst, ev_frz, frz_lst, ev_fn, ev_setIx, setIxG_lst, setIxR_lst, isL_lst, ixR_lst, lenR_lst, ev_lenC, appR_lst, ev_par, ev_pvCons, ev_pvNil, ev_inl, ev_inr, pvs_cons, pvs_nil, pv_inl, pv_inr, pvsR_some, ev_aug, augR_val, ev_sl, ev_part_none, ev_part_some, partR_int, ev_range, ev_enumA, enumR_tup, enumR_lst, ev_gTup, ev_gsCons, ev_gSet, gsR_some, ev_gsNil, ev_lc, ev_list, ev_rev, fLen_lst, fLen_tup, fLen_ro, fTuple_lst, fTuple_tup, fList_lst, fList_tup, dAdd_int, dSub_int, dNeg_int, dLt_int, dLe_int, dGt_int, dGe_int, dEq_int, dNe_int, dAddI_int, ev_ixC, ev_append, ev_repO, ev_catO, catR_lst, ev_down, ev_lr1, ev_lr2, ev_cmpC, cmpR_lst, ev_pop, popR_lst, dEq_lsts, dNe_lsts, dEq_tups, dNe_tups, p60, ev_dct0, frz_dct, e1]
theorem no_int_req {d : D} (h : d ∈ NI) : m_require_integer [.val d] = .exc (.own 1 (some d)) [.no] := by
  unfold NI at h
  simp only [List.mem_cons, List.not_mem_nil, or_false] at h
  rcases h with rfl | rfl | rfl | rfl | rfl | rfl | rfl | rfl | rfl | rfl <;> rfl
/-! what is no polynomial -/
def WM : List D := [.non, .lst [.int 1], .tup [.int 0], .tup [.int 1, .int 0], .tup [.int 1, .bl true], .tup [.int 1, .non], .str "11", .int 5, .tup [.int 1, .int (10 ^ 60)], .tup [.tup [.int 1]], .tup [.int 1, .str "2"], .tup [.bl true], .tup (Zl (List.replicate 401 1))]
theorem wrong_ok {z : Cell} {m : Int} (h : Dice m z) (hm : m < 800000) : ∃ d z', m__law_wrong [.cell true z] = .ok d [.cell true z'] ∧ d ∈ WM ∧ Dice (m + 1) z' := by
  have p60 : dPow (.int 10) (.int 60) = some (.int (10 ^ 60)) := dPow_nn (by decide) (by decide) (by decide)
  obtain ⟨d, z1, e1, hd, d1⟩ := pick_ok (xs := WM) h (by omega) (by decide) (by decide)
  refine ⟨d, z1, ?_, hd, d1⟩
  unfold WM at e1
  have hr := fRange_n (n := 401) (by omega)
  have rp : (List.range 401).map (fun _ => D.int 1) = Zl (List.replicate 401 1) := by
    rw [List.map_const', List.length_range]
    simp [Zl]
  obtain ⟨mn, hmn⟩ : ∃ mn, mn = D.lst [.non, .lst [.int 1], .tup [.int 0], .tup [.int 1, .int 0], .tup [.int 1, .bl true], .tup [.int 1, .non], .str "11", .int 5, .tup [.int 1, .int (10 ^ 60)], .tup [.tup [.int 1]], .tup [.int 1, .str "2"], .tup [.bl true]] := ⟨_, rfl⟩
  have lc := lc_rg (v := 2) (el := mC (.int 1)) (e := [.cell true z, .val mn, .no]) (n := 401) (f := fun _ => .int 1) (by omega) rfl (fun i _ => rfl)
  rw [rp] at lc
  have ad : dAdd mn (.lst [.tup (Zl (List.replicate 401 1))]) = some (.lst [.non, .lst [.int 1], .tup [.int 0], .tup [.int 1, .int 0], .tup [.int 1, .bl true], .tup [.int 1, .non], .str "11", .int 5, .tup [.int 1, .int (10 ^ 60)], .tup [.tup [.int 1]], .tup [.int 1, .str "2"], .tup [.bl true], .tup (Zl (List.replicate 401 1))]) := by
    rw [hmn, dAdd_lst]
    simp only [List.length_cons, List.length_nil, Nat.reduceAdd, Nat.reduceLeDiff, if_true, List.cons_append, List.nil_append]
  generalize Zl (List.replicate 401 1) = T at *
  unfold m__law_wrong
  simp -implicitDefEqProofs only [ev_def, ev_defO, List.length_cons, List.length_nil, List.cons_append, List.nil_append, List.replicate_succ, List.replicate_zero, Nat.reduceAdd, Nat.reduceSub, Nat.reduceLeDiff, ev_seq, sq_next, sq_ret, sq_retO, sq_exc, ev_expr, ev_call, ev_callO, ev_callL, ev_callN, ev_cons, ev_nil, ev_name, List.getElem?_cons_succ, List.getElem?_cons_zero, name_val, name_lst, bnd_ok, bnd_exc, List.map_cons, List.map_nil, callR_ok, callR_exc, callOR_ok, lentG_cell, lentF_cell, lentR_ok, ev_set, ev_setO, ev_C, setR_no, setR_val, setR_cell, updR_some, List.set_cons_succ, List.set_cons_zero, ev_for, ev_iter, ev_some, its_tup, its_lst, its_ro, ev_mret, ev_retO, end_ret, end_next, end_exc, endO_ret, outs_val, outs_no, outs_cell, outs_nil, ev_if, ev_orT, ev_andT, ev_notT, ev_ofT, ev_tru, ev_test, ev_bin, ev_un, ev_and, ev_or, ev_not, ev_isi, isB_bl, tru_bl, if_true, if_false, Bool.false_eq_true, Bool.not_true, Bool.not_false, ev_next, ev_ret, ev_raise, ev_raise0, ev_tup, ev_lst, ev_frz, frz_lst, ev_fn, ev_setIx, setIxG_lst, setIxR_lst, isL_lst, ixR_lst, lenR_lst, ev_lenC, appR_lst, ev_par, ev_pvCons, ev_pvNil, ev_inl, ev_inr, pvs_cons, pvs_nil, pv_inl, pv_inr, pvsR_some, ev_aug, augR_val, ev_sl, ev_part_none, ev_part_some, partR_int, ev_range, ev_enumA, enumR_tup, enumR_lst, ev_gTup, ev_gsCons, ev_gSet, gsR_some, ev_gsNil, ev_lc, ev_list, ev_rev, fLen_lst, fLen_tup, fLen_ro, fTuple_lst, fTuple_tup, fList_lst, fList_tup, dAdd_int, dSub_int, dNeg_int, dLt_int, dLe_int, dGt_int, dGe_int, dEq_int, dNe_int, dAddI_int, ev_ixC, ev_append, ev_repO, ev_catO, catR_lst, ev_down, ev_lr1, ev_lr2, ev_cmpC, cmpR_lst, ev_pop, popR_lst, dEq_lsts, dNe_lsts, dEq_tups, dNe_tups, p60, hr, ← hmn]
  have hr2 : fRange [.int 401] = some ((List.range 401).map fun i => .int (i : Nat)) := hr
  simp -implicitDefEqProofs only [ev_def, ev_defO, List.length_cons, List.length_nil, List.cons_append, List.nil_append, List.replicate_succ, List.replicate_zero, Nat.reduceAdd, Nat.reduceSub, Nat.reduceLeDiff, ev_seq, sq_next, sq_ret, sq_retO, sq_exc, ev_expr, ev_call, ev_callO, ev_callL, ev_callN, ev_cons, ev_nil, ev_name, List.getElem?_cons_succ, List.getElem?_cons_zero, name_val, name_lst, bnd_ok, bnd_exc, List.map_cons, List.map_nil, callR_ok, callR_exc, callOR_ok, lentG_cell, lentF_cell, lentR_ok, ev_set, ev_setO, ev_C, setR_no, setR_val, setR_cell, updR_some, List.set_cons_succ, List.set_cons_zero, ev_for, ev_iter, ev_some, its_tup, its_lst, its_ro, ev_mret, ev_retO, end_ret, end_next, end_exc, endO_ret, outs_val, outs_no, outs_cell, outs_nil, ev_if, ev_orT, ev_andT, ev_notT, ev_ofT, ev_tru, ev_test, ev_bin, ev_un, ev_and, ev_or, ev_not, ev_isi, isB_bl, tru_bl, if_true, if_false, Bool.false_eq_true, Bool.not_true, Bool.not_false, ev_next, ev_ret, ev_raise, ev_raise0, ev_tup, ev_lst, ev_frz, frz_lst, ev_fn, ev_setIx, setIxG_lst, setIxR_lst, isL_lst, ixR_lst, lenR_lst, ev_lenC, appR_lst, ev_par, ev_pvCons, ev_pvNil, ev_inl, ev_inr, pvs_cons, pvs_nil, pv_inl, pv_inr, pvsR_some, ev_aug, augR_val, ev_sl, ev_part_none, ev_part_some, partR_int, ev_range, ev_enumA, enumR_tup, enumR_lst, ev_gTup, ev_gsCons, ev_gSet, gsR_some, ev_gsNil, ev_lc, ev_list, ev_rev, fLen_lst, fLen_tup, fLen_ro, fTuple_lst, fTuple_tup, fList_lst, fList_tup, dAdd_int, dSub_int, dNeg_int, dLt_int, dLe_int, dGt_int, dGe_int, dEq_int, dNe_int, dAddI_int, ev_ixC, ev_append, ev_repO, ev_catO, catR_lst, ev_down, ev_lr1, ev_lr2, ev_cmpC, cmpR_lst, ev_pop, popR_lst, dEq_lsts, dNe_lsts, dEq_tups, dNe_tups, hr2, show noCells [2] [.cell true z, .val mn, .no] = true from rfl, show wipeE [2] [.cell true z, .val mn, .no] = [.cell true z, .val mn, .no] from rfl, lc, ad, e1]
theorem wrong_req {d : D} (h : d ∈ WM) : m_require_polynomial [.val d] = .exc (.own 0 none) [.no] := by
  unfold WM at h
  simp only [List.mem_cons, List.not_mem_nil, or_false] at h
  rcases h with rfl | rfl | rfl | rfl | rfl | rfl | rfl | rfl | rfl | rfl | rfl | rfl | rfl
  all_goals rfl
/-! the errors -/
theorem fReprE_of {d : D} {p : PyData} (h : toPyE d = some p) (c : canShowE p = true) : fReprE [d] = some (.str p.shown) := by
  show (toPyE d).bind _ = _
  rw [h]
  exact if_pos c
theorem told_repr {d : D} (h : d ∈ NI) : ∃ x, fReprN [.lst [.str "operation", .str "operation", .str "operation", .str "operation", .str "operation", .tup [.str "zero"], .tup [.str "number", d]]] = some (.str x) := by
  unfold NI at h
  simp only [List.mem_cons, List.not_mem_nil, or_false] at h
  rcases h with rfl | rfl | rfl | rfl | rfl | rfl | rfl | rfl | rfl | rfl <;> exact ⟨_, fReprN_E (fReprE_of rfl (by decide +kernel))⟩
theorem eq_self_str {x : Str} : dEq (.str x) (.str x) = some (.bl true) := by rw [dEq_str, decide_eq_true rfl]
theorem lt_1 : (1 < 16777216) = True := by decide
theorem lt_2 : (2 < 16777216) = True := by decide
theorem lt_3 : (3 < 16777216) = True := by decide
theorem lt_4 : (4 < 16777216) = True := by decide
theorem lt_5 : (5 < 16777216) = True := by decide
theorem lt_6 : (6 < 16777216) = True := by decide
theorem lt_7 : (7 < 16777216) = True := by decide
theorem nil_po : Po [] := ⟨by simp, by simp, rfl⟩
theorem errors_ok {z : Cell} {m : Int} {one : List Int} (h : Dice m z) (hm : m < 700000) (h1 : Po one) : ∃ z', m__law_errors [.cell true z, .val (.tup (Zl one))] = .ok (.bl true) [.cell true z', .no] ∧ Dice (m + 3) z' := by
  obtain ⟨bad, z1, e1, b1, d1⟩ := wrong_ok h (by omega)
  obtain ⟨other, z2, e2, b2, d2⟩ := wrong_ok d1 (by omega)
  obtain ⟨x, z3, e3, b3, d3⟩ := no_int_ok d2 (by omega)
  refine ⟨z3, ?_, by rw [show m + 3 = m + 1 + 1 + 1 by omega]; exact d3⟩
  have r1 := wrong_req b1
  have r0 := require_polynomial_ok h1
  have rn := require_polynomial_ok nil_po
  rw [show Zl [] = [] from rfl] at rn
  have ri := no_int_req b3
  have t1 : m_times [.val bad, .val (.tup (Zl one))] = .exc (.own 0 none) [.no, .no] := by
    unfold m_times
    simp -implicitDefEqProofs only [ev_def, ev_defO, List.length_cons, List.length_nil, List.cons_append, List.nil_append, List.replicate_succ, List.replicate_zero, Nat.reduceAdd, Nat.reduceSub, Nat.reduceLeDiff, ev_seq, sq_next, sq_ret, sq_retO, sq_exc, ev_expr, ev_call, ev_callO, ev_callL, ev_callN, ev_cons, ev_nil, ev_name, List.getElem?_cons_succ, List.getElem?_cons_zero, name_val, name_lst, bnd_ok, bnd_exc, List.map_cons, List.map_nil, callR_ok, callR_exc, callOR_ok, lentG_cell, lentF_cell, lentR_ok, ev_set, ev_setO, ev_C, setR_no, setR_val, setR_cell, updR_some, List.set_cons_succ, List.set_cons_zero, ev_for, ev_iter, ev_some, its_tup, its_lst, its_ro, ev_mret, ev_retO, end_ret, end_next, end_exc, endO_ret, outs_val, outs_no, outs_cell, outs_nil, ev_if, ev_orT, ev_andT, ev_notT, ev_ofT, ev_tru, ev_test, ev_bin, ev_un, ev_and, ev_or, ev_not, ev_isi, isB_bl, tru_bl, if_true, if_false, Bool.false_eq_true, Bool.not_true, Bool.not_false, ev_next, ev_ret, ev_raise, ev_raise0, ev_tup, ev_lst, ev_frz, frz_lst, ev_fn, ev_setIx, setIxG_lst, setIxR_lst, isL_lst, ixR_lst, lenR_lst, ev_lenC, appR_lst, ev_par, ev_pvCons, ev_pvNil, ev_inl, ev_inr, pvs_cons, pvs_nil, pv_inl, pv_inr, pvsR_some, ev_aug, augR_val, ev_sl, ev_part_none, ev_part_some, partR_int, ev_range, ev_enumA, enumR_tup, enumR_lst, ev_gTup, ev_gsCons, ev_gSet, gsR_some, ev_gsNil, ev_lc, ev_list, ev_rev, fLen_lst, fLen_tup, fLen_ro, fTuple_lst, fTuple_tup, fList_lst, fList_tup, dAdd_int, dSub_int, dNeg_int, dLt_int, dLe_int, dGt_int, dGe_int, dEq_int, dNe_int, dAddI_int, ev_ixC, ev_append, ev_repO, ev_catO, catR_lst, ev_down, ev_lr1, ev_lr2, ev_cmpC, cmpR_lst, ev_pop, popR_lst, dEq_lsts, dNe_lsts, dEq_tups, dNe_tups, r1]
  have t2 : m_times [.val (.tup (Zl one)), .val bad] = .exc (.own 0 none) [.no, .no] := by
    unfold m_times
    simp -implicitDefEqProofs only [ev_def, ev_defO, List.length_cons, List.length_nil, List.cons_append, List.nil_append, List.replicate_succ, List.replicate_zero, Nat.reduceAdd, Nat.reduceSub, Nat.reduceLeDiff, ev_seq, sq_next, sq_ret, sq_retO, sq_exc, ev_expr, ev_call, ev_callO, ev_callL, ev_callN, ev_cons, ev_nil, ev_name, List.getElem?_cons_succ, List.getElem?_cons_zero, name_val, name_lst, bnd_ok, bnd_exc, List.map_cons, List.map_nil, callR_ok, callR_exc, callOR_ok, lentG_cell, lentF_cell, lentR_ok, ev_set, ev_setO, ev_C, setR_no, setR_val, setR_cell, updR_some, List.set_cons_succ, List.set_cons_zero, ev_for, ev_iter, ev_some, its_tup, its_lst, its_ro, ev_mret, ev_retO, end_ret, end_next, end_exc, endO_ret, outs_val, outs_no, outs_cell, outs_nil, ev_if, ev_orT, ev_andT, ev_notT, ev_ofT, ev_tru, ev_test, ev_bin, ev_un, ev_and, ev_or, ev_not, ev_isi, isB_bl, tru_bl, if_true, if_false, Bool.false_eq_true, Bool.not_true, Bool.not_false, ev_next, ev_ret, ev_raise, ev_raise0, ev_tup, ev_lst, ev_frz, frz_lst, ev_fn, ev_setIx, setIxG_lst, setIxR_lst, isL_lst, ixR_lst, lenR_lst, ev_lenC, appR_lst, ev_par, ev_pvCons, ev_pvNil, ev_inl, ev_inr, pvs_cons, pvs_nil, pv_inl, pv_inr, pvsR_some, ev_aug, augR_val, ev_sl, ev_part_none, ev_part_some, partR_int, ev_range, ev_enumA, enumR_tup, enumR_lst, ev_gTup, ev_gsCons, ev_gSet, gsR_some, ev_gsNil, ev_lc, ev_list, ev_rev, fLen_lst, fLen_tup, fLen_ro, fTuple_lst, fTuple_tup, fList_lst, fList_tup, dAdd_int, dSub_int, dNeg_int, dLt_int, dLe_int, dGt_int, dGe_int, dEq_int, dNe_int, dAddI_int, ev_ixC, ev_append, ev_repO, ev_catO, catR_lst, ev_down, ev_lr1, ev_lr2, ev_cmpC, cmpR_lst, ev_pop, popR_lst, dEq_lsts, dNe_lsts, dEq_tups, dNe_tups, r0, r1]
  have t3 : m_divided [.val (.tup (Zl one)), .val bad] = .exc (.own 0 none) [.no, .no] := by
    unfold m_divided
    simp -implicitDefEqProofs only [ev_def, ev_defO, List.length_cons, List.length_nil, List.cons_append, List.nil_append, List.replicate_succ, List.replicate_zero, Nat.reduceAdd, Nat.reduceSub, Nat.reduceLeDiff, ev_seq, sq_next, sq_ret, sq_retO, sq_exc, ev_expr, ev_call, ev_callO, ev_callL, ev_callN, ev_cons, ev_nil, ev_name, List.getElem?_cons_succ, List.getElem?_cons_zero, name_val, name_lst, bnd_ok, bnd_exc, List.map_cons, List.map_nil, callR_ok, callR_exc, callOR_ok, lentG_cell, lentF_cell, lentR_ok, ev_set, ev_setO, ev_C, setR_no, setR_val, setR_cell, updR_some, List.set_cons_succ, List.set_cons_zero, ev_for, ev_iter, ev_some, its_tup, its_lst, its_ro, ev_mret, ev_retO, end_ret, end_next, end_exc, endO_ret, outs_val, outs_no, outs_cell, outs_nil, ev_if, ev_orT, ev_andT, ev_notT, ev_ofT, ev_tru, ev_test, ev_bin, ev_un, ev_and, ev_or, ev_not, ev_isi, isB_bl, tru_bl, if_true, if_false, Bool.false_eq_true, Bool.not_true, Bool.not_false, ev_next, ev_ret, ev_raise, ev_raise0, ev_tup, ev_lst, ev_frz, frz_lst, ev_fn, ev_setIx, setIxG_lst, setIxR_lst, isL_lst, ixR_lst, lenR_lst, ev_lenC, appR_lst, ev_par, ev_pvCons, ev_pvNil, ev_inl, ev_inr, pvs_cons, pvs_nil, pv_inl, pv_inr, pvsR_some, ev_aug, augR_val, ev_sl, ev_part_none, ev_part_some, partR_int, ev_range, ev_enumA, enumR_tup, enumR_lst, ev_gTup, ev_gsCons, ev_gSet, gsR_some, ev_gsNil, ev_lc, ev_list, ev_rev, fLen_lst, fLen_tup, fLen_ro, fTuple_lst, fTuple_tup, fList_lst, fList_tup, dAdd_int, dSub_int, dNeg_int, dLt_int, dLe_int, dGt_int, dGe_int, dEq_int, dNe_int, dAddI_int, ev_ixC, ev_append, ev_repO, ev_catO, catR_lst, ev_down, ev_lr1, ev_lr2, ev_cmpC, cmpR_lst, ev_pop, popR_lst, dEq_lsts, dNe_lsts, dEq_tups, dNe_tups, r0, r1]
  have t4 : m_divided [.val bad, .val (.tup [])] = .exc (.own 0 none) [.no, .no] := by
    unfold m_divided
    simp -implicitDefEqProofs only [ev_def, ev_defO, List.length_cons, List.length_nil, List.cons_append, List.nil_append, List.replicate_succ, List.replicate_zero, Nat.reduceAdd, Nat.reduceSub, Nat.reduceLeDiff, ev_seq, sq_next, sq_ret, sq_retO, sq_exc, ev_expr, ev_call, ev_callO, ev_callL, ev_callN, ev_cons, ev_nil, ev_name, List.getElem?_cons_succ, List.getElem?_cons_zero, name_val, name_lst, bnd_ok, bnd_exc, List.map_cons, List.map_nil, callR_ok, callR_exc, callOR_ok, lentG_cell, lentF_cell, lentR_ok, ev_set, ev_setO, ev_C, setR_no, setR_val, setR_cell, updR_some, List.set_cons_succ, List.set_cons_zero, ev_for, ev_iter, ev_some, its_tup, its_lst, its_ro, ev_mret, ev_retO, end_ret, end_next, end_exc, endO_ret, outs_val, outs_no, outs_cell, outs_nil, ev_if, ev_orT, ev_andT, ev_notT, ev_ofT, ev_tru, ev_test, ev_bin, ev_un, ev_and, ev_or, ev_not, ev_isi, isB_bl, tru_bl, if_true, if_false, Bool.false_eq_true, Bool.not_true, Bool.not_false, ev_next, ev_ret, ev_raise, ev_raise0, ev_tup, ev_lst, ev_frz, frz_lst, ev_fn, ev_setIx, setIxG_lst, setIxR_lst, isL_lst, ixR_lst, lenR_lst, ev_lenC, appR_lst, ev_par, ev_pvCons, ev_pvNil, ev_inl, ev_inr, pvs_cons, pvs_nil, pv_inl, pv_inr, pvsR_some, ev_aug, augR_val, ev_sl, ev_part_none, ev_part_some, partR_int, ev_range, ev_enumA, enumR_tup, enumR_lst, ev_gTup, ev_gsCons, ev_gSet, gsR_some, ev_gsNil, ev_lc, ev_list, ev_rev, fLen_lst, fLen_tup, fLen_ro, fTuple_lst, fTuple_tup, fList_lst, fList_tup, dAdd_int, dSub_int, dNeg_int, dLt_int, dLe_int, dGt_int, dGe_int, dEq_int, dNe_int, dAddI_int, ev_ixC, ev_append, ev_repO, ev_catO, catR_lst, ev_down, ev_lr1, ev_lr2, ev_cmpC, cmpR_lst, ev_pop, popR_lst, dEq_lsts, dNe_lsts, dEq_tups, dNe_tups, r1]
  have t5 : m_value_at [.val bad, .val other] = .exc (.own 0 none) [.no, .no] := by
    unfold m_value_at
    simp -implicitDefEqProofs only [ev_def, ev_defO, List.length_cons, List.length_nil, List.cons_append, List.nil_append, List.replicate_succ, List.replicate_zero, Nat.reduceAdd, Nat.reduceSub, Nat.reduceLeDiff, ev_seq, sq_next, sq_ret, sq_retO, sq_exc, ev_expr, ev_call, ev_callO, ev_callL, ev_callN, ev_cons, ev_nil, ev_name, List.getElem?_cons_succ, List.getElem?_cons_zero, name_val, name_lst, bnd_ok, bnd_exc, List.map_cons, List.map_nil, callR_ok, callR_exc, callOR_ok, lentG_cell, lentF_cell, lentR_ok, ev_set, ev_setO, ev_C, setR_no, setR_val, setR_cell, updR_some, List.set_cons_succ, List.set_cons_zero, ev_for, ev_iter, ev_some, its_tup, its_lst, its_ro, ev_mret, ev_retO, end_ret, end_next, end_exc, endO_ret, outs_val, outs_no, outs_cell, outs_nil, ev_if, ev_orT, ev_andT, ev_notT, ev_ofT, ev_tru, ev_test, ev_bin, ev_un, ev_and, ev_or, ev_not, ev_isi, isB_bl, tru_bl, if_true, if_false, Bool.false_eq_true, Bool.not_true, Bool.not_false, ev_next, ev_ret, ev_raise, ev_raise0, ev_tup, ev_lst, ev_frz, frz_lst, ev_fn, ev_setIx, setIxG_lst, setIxR_lst, isL_lst, ixR_lst, lenR_lst, ev_lenC, appR_lst, ev_par, ev_pvCons, ev_pvNil, ev_inl, ev_inr, pvs_cons, pvs_nil, pv_inl, pv_inr, pvsR_some, ev_aug, augR_val, ev_sl, ev_part_none, ev_part_some, partR_int, ev_range, ev_enumA, enumR_tup, enumR_lst, ev_gTup, ev_gsCons, ev_gSet, gsR_some, ev_gsNil, ev_lc, ev_list, ev_rev, fLen_lst, fLen_tup, fLen_ro, fTuple_lst, fTuple_tup, fList_lst, fList_tup, dAdd_int, dSub_int, dNeg_int, dLt_int, dLe_int, dGt_int, dGe_int, dEq_int, dNe_int, dAddI_int, ev_ixC, ev_append, ev_repO, ev_catO, catR_lst, ev_down, ev_lr1, ev_lr2, ev_cmpC, cmpR_lst, ev_pop, popR_lst, dEq_lsts, dNe_lsts, dEq_tups, dNe_tups, r1]
  have e0 : dEq (.tup []) (.tup []) = some (.bl true) := eq_nil (f := [])
  have t6 : m_divided [.val (.tup (Zl one)), .val (.tup [])] = .exc (.own 2 (some (.tup [.str "zero"]))) [.no, .no] := by
    unfold m_divided
    simp -implicitDefEqProofs only [ev_def, ev_defO, List.length_cons, List.length_nil, List.cons_append, List.nil_append, List.replicate_succ, List.replicate_zero, Nat.reduceAdd, Nat.reduceSub, Nat.reduceLeDiff, ev_seq, sq_next, sq_ret, sq_retO, sq_exc, ev_expr, ev_call, ev_callO, ev_callL, ev_callN, ev_cons, ev_nil, ev_name, List.getElem?_cons_succ, List.getElem?_cons_zero, name_val, name_lst, bnd_ok, bnd_exc, List.map_cons, List.map_nil, callR_ok, callR_exc, callOR_ok, lentG_cell, lentF_cell, lentR_ok, ev_set, ev_setO, ev_C, setR_no, setR_val, setR_cell, updR_some, List.set_cons_succ, List.set_cons_zero, ev_for, ev_iter, ev_some, its_tup, its_lst, its_ro, ev_mret, ev_retO, end_ret, end_next, end_exc, endO_ret, outs_val, outs_no, outs_cell, outs_nil, ev_if, ev_orT, ev_andT, ev_notT, ev_ofT, ev_tru, ev_test, ev_bin, ev_un, ev_and, ev_or, ev_not, ev_isi, isB_bl, tru_bl, if_true, if_false, Bool.false_eq_true, Bool.not_true, Bool.not_false, ev_next, ev_ret, ev_raise, ev_raise0, ev_tup, ev_lst, ev_frz, frz_lst, ev_fn, ev_setIx, setIxG_lst, setIxR_lst, isL_lst, ixR_lst, lenR_lst, ev_lenC, appR_lst, ev_par, ev_pvCons, ev_pvNil, ev_inl, ev_inr, pvs_cons, pvs_nil, pv_inl, pv_inr, pvsR_some, ev_aug, augR_val, ev_sl, ev_part_none, ev_part_some, partR_int, ev_range, ev_enumA, enumR_tup, enumR_lst, ev_gTup, ev_gsCons, ev_gSet, gsR_some, ev_gsNil, ev_lc, ev_list, ev_rev, fLen_lst, fLen_tup, fLen_ro, fTuple_lst, fTuple_tup, fList_lst, fList_tup, dAdd_int, dSub_int, dNeg_int, dLt_int, dLe_int, dGt_int, dGe_int, dEq_int, dNe_int, dAddI_int, ev_ixC, ev_append, ev_repO, ev_catO, catR_lst, ev_down, ev_lr1, ev_lr2, ev_cmpC, cmpR_lst, ev_pop, popR_lst, dEq_lsts, dNe_lsts, dEq_tups, dNe_tups, r0, rn, e0]
  have t7 : m_value_at [.val (.tup (Zl one)), .val x] = .exc (.own 1 (some x)) [.no, .no] := by
    unfold m_value_at
    simp -implicitDefEqProofs only [ev_def, ev_defO, List.length_cons, List.length_nil, List.cons_append, List.nil_append, List.replicate_succ, List.replicate_zero, Nat.reduceAdd, Nat.reduceSub, Nat.reduceLeDiff, ev_seq, sq_next, sq_ret, sq_retO, sq_exc, ev_expr, ev_call, ev_callO, ev_callL, ev_callN, ev_cons, ev_nil, ev_name, List.getElem?_cons_succ, List.getElem?_cons_zero, name_val, name_lst, bnd_ok, bnd_exc, List.map_cons, List.map_nil, callR_ok, callR_exc, callOR_ok, lentG_cell, lentF_cell, lentR_ok, ev_set, ev_setO, ev_C, setR_no, setR_val, setR_cell, updR_some, List.set_cons_succ, List.set_cons_zero, ev_for, ev_iter, ev_some, its_tup, its_lst, its_ro, ev_mret, ev_retO, end_ret, end_next, end_exc, endO_ret, outs_val, outs_no, outs_cell, outs_nil, ev_if, ev_orT, ev_andT, ev_notT, ev_ofT, ev_tru, ev_test, ev_bin, ev_un, ev_and, ev_or, ev_not, ev_isi, isB_bl, tru_bl, if_true, if_false, Bool.false_eq_true, Bool.not_true, Bool.not_false, ev_next, ev_ret, ev_raise, ev_raise0, ev_tup, ev_lst, ev_frz, frz_lst, ev_fn, ev_setIx, setIxG_lst, setIxR_lst, isL_lst, ixR_lst, lenR_lst, ev_lenC, appR_lst, ev_par, ev_pvCons, ev_pvNil, ev_inl, ev_inr, pvs_cons, pvs_nil, pv_inl, pv_inr, pvsR_some, ev_aug, augR_val, ev_sl, ev_part_none, ev_part_some, partR_int, ev_range, ev_enumA, enumR_tup, enumR_lst, ev_gTup, ev_gsCons, ev_gSet, gsR_some, ev_gsNil, ev_lc, ev_list, ev_rev, fLen_lst, fLen_tup, fLen_ro, fTuple_lst, fTuple_tup, fList_lst, fList_tup, dAdd_int, dSub_int, dNeg_int, dLt_int, dLe_int, dGt_int, dGe_int, dEq_int, dNe_int, dAddI_int, ev_ixC, ev_append, ev_repO, ev_catO, catR_lst, ev_down, ev_lr1, ev_lr2, ev_cmpC, cmpR_lst, ev_pop, popR_lst, dEq_lsts, dNe_lsts, dEq_tups, dNe_tups, r0, ri]
  obtain ⟨tx, hx⟩ := told_repr b3
  unfold m__law_errors
  simp -implicitDefEqProofs only [ev_def, ev_defO, List.length_cons, List.length_nil, List.cons_append, List.nil_append, List.replicate_succ, List.replicate_zero, Nat.reduceAdd, Nat.reduceSub, Nat.reduceLeDiff, ev_seq, sq_next, sq_ret, sq_retO, sq_exc, ev_expr, ev_call, ev_callO, ev_callL, ev_callN, ev_cons, ev_nil, ev_name, List.getElem?_cons_succ, List.getElem?_cons_zero, name_val, name_lst, bnd_ok, bnd_exc, List.map_cons, List.map_nil, callR_ok, callR_exc, callOR_ok, lentG_cell, lentF_cell, lentR_ok, ev_set, ev_setO, ev_C, setR_no, setR_val, setR_cell, updR_some, List.set_cons_succ, List.set_cons_zero, ev_for, ev_iter, ev_some, its_tup, its_lst, its_ro, ev_mret, ev_retO, end_ret, end_next, end_exc, endO_ret, outs_val, outs_no, outs_cell, outs_nil, ev_if, ev_orT, ev_andT, ev_notT, ev_ofT, ev_tru, ev_test, ev_bin, ev_un, ev_and, ev_or, ev_not, ev_isi, isB_bl, tru_bl, if_true, if_false, Bool.false_eq_true, Bool.not_true, Bool.not_false, ev_next, ev_ret, ev_raise, ev_raise0, ev_tup, ev_lst, ev_frz, frz_lst, ev_fn, ev_setIx, setIxG_lst, setIxR_lst, isL_lst, ixR_lst, lenR_lst, ev_lenC, appR_lst, ev_par, ev_pvCons, ev_pvNil, ev_inl, ev_inr, pvs_cons, pvs_nil, pv_inl, pv_inr, pvsR_some, ev_aug, augR_val, ev_sl, ev_part_none, ev_part_some, partR_int, ev_range, ev_enumA, enumR_tup, enumR_lst, ev_gTup, ev_gsCons, ev_gSet, gsR_some, ev_gsNil, ev_lc, ev_list, ev_rev, fLen_lst, fLen_tup, fLen_ro, fTuple_lst, fTuple_tup, fList_lst, fList_tup, dAdd_int, dSub_int, dNeg_int, dLt_int, dLe_int, dGt_int, dGe_int, dEq_int, dNe_int, dAddI_int, ev_ixC, ev_append, ev_repO, ev_catO, catR_lst, ev_down, ev_lr1, ev_lr2, ev_cmpC, cmpR_lst, ev_pop, popR_lst, dEq_lsts, dNe_lsts, dEq_tups, dNe_tups, e1, e2, e3, ev_lam, t1, t2, t3, t4, t5, t6, t7, lam0, lam1, lam2, hx, eq_self_str, lt_1, lt_2, lt_3, lt_4, lt_5, lt_6, lt_7]
end K48
set_option Elab.async false
set_option linter.all false
set_option maxRecDepth 100000
set_option maxHeartbeats 4000000
namespace K48
open PySem PySem.Spec PyProof.Rows L2 L2.DL
theorem dice_ok {ns : List Int} {i : Nat} (hi : i < 64) : ∃ z e, m__law_dice [.ro (ns.map .int), .int i] = .ok z e ∧ Dice 0 z := dice0_ok hi
theorem ne_self_str {x : Str} : dNe (.str x) (.str x) = some (.bl false) := by rw [dNe_str, decide_eq_true rfl]; rfl
theorem ne_self_tup {a : List Int} : dNe (.tup (Zl a)) (.tup (Zl a)) = some (.bl false) := by rw [dNe_tups, decide_eq_true rfl]; rfl
theorem eq_pair {a b : List Int} : dEq (.tup [.tup (Zl a), .tup (Zl b)]) (.tup [.tup (Zl a), .tup (Zl b)]) = some (.bl true) := by
  have h : dEqv (.tup [.tup (Zl a), .tup (Zl b)]) (.tup [.tup (Zl a), .tup (Zl b)]) = some true := by
    show ((D.py (.tup [.tup (Zl a), .tup (Zl b)])).bind fun p => (D.py (.tup [.tup (Zl a), .tup (Zl b)])).bind fun q => if SeqAt.shaped p && SeqAt.shaped q then some (PyData.eqv p q) else none) = _
    simp [D.py, D.pys, pys_ints, SeqAt.shaped, PyData.canLay0, PyData.canLayAll0, lay_ints, PyData.depth, PyData.depthAll, depth_ints, PyData.eqv, PyData.eqvAll, eqv_ints]
  unfold dEq
  rw [h]
  rfl
/-! bounds of products -/
theorem sm_bd {n B : Nat} {f : Nat → Int} (h : ∀ i, i < n → Bd B (f i)) : Bd (B + n) (sm n f) := by
  induction n with
  | zero => exact bd_zero
  | succ n ih => exact (ih fun i hi => h i (by omega)).add ((h n (by omega)).mono (by omega))
theorem mulP_bd {one other : List Int} {B C : Nat} (h1 : ∀ x ∈ one, Bd B x) (h2 : ∀ x ∈ other, Bd C x) {x : Int} (hx : x ∈ mulP one other) : Bd (B + C + (one.length + other.length)) x := by
  obtain ⟨k, hk, rfl⟩ := gt_mem hx
  have hl : (mulP one other).length ≤ one.length + other.length := by
    unfold mulP
    have := trim_le (l := (List.range (one.length + other.length)).map fun k => cv (gt one) (gt other) k)
    simpa using this
  rw [gt_mulP]
  exact (sm_bd fun i _ => (bd_gt h1 i).mul (bd_gt h2 (k - i))).mono (by omega)
theorem mulP_len {one other : List Int} : (mulP one other).length ≤ one.length + other.length := by
  unfold mulP
  have := trim_le (l := (List.range (one.length + other.length)).map fun k => cv (gt one) (gt other) k)
  simpa using this
theorem repr_ints {l : List Int} {B : Nat} (h : ∀ x ∈ l, Bd B x) (hB : B < 6000) (hl : l.length ≤ 1000) : ∃ x, fReprN [.tup (Zl l)] = some (.str x) :=
  fReprN_ints (fun n hn => Nat.lt_of_le_of_lt (h n hn).log hB) hl
theorem repr_int {v : Int} {B : Nat} (h : Bd B v) (hB : B < 1920) : ∃ x, fReprN [.int v] = some (.str x) := by
  refine ⟨_, fReprN_E (fReprE_of (p := .int v) rfl ?_)⟩
  have := h.log
  simp [canShowE, PyData.showable, PyData.depth, plenE, show v.natAbs.log2 < 1920 by omega]
/-! divided -/
theorem notIn_lead {c : Int} (h : c = 1 ∨ c = -1) : dNotIn (.int c) (.tup [.int 1, .int (-1)]) = some (.bl false) := by rcases h with rfl | rfl <;> rfl
theorem notIn_other {c : Int} (h : c = 2 ∨ c = -3) : dNotIn (.int c) (.tup [.int 1, .int (-1)]) = some (.bl true) := by rcases h with rfl | rfl <;> rfl
theorem divided_ok {one other : List Int} {lead : Int} {d : D} (h1 : Po one) (h2 : Po other) (hn : other ≠ []) (hl : gt other (other.length - 1) = lead) (hlead : lead = 1 ∨ lead = -1)
    (e : m_division_of [.val (.tup (Zl one)), .val (.tup (Zl other))] = .ok d [.no, .no]) : m_divided [.val (.tup (Zl one)), .val (.tup (Zl other))] = .ok d [.no, .no] := by
  have ix := ix_neg hn
  rw [hl] at ix
  have e0 := eq_nil (f := other)
  rw [decide_eq_false hn] at e0
  unfold m_divided
  simp -implicitDefEqProofs only [ev_def, ev_defO, List.length_cons, List.length_nil, List.cons_append, List.nil_append, List.replicate_succ, List.replicate_zero, Nat.reduceAdd, Nat.reduceSub, Nat.reduceLeDiff, ev_seq, sq_next, sq_ret, sq_retO, sq_exc, ev_expr, ev_call, ev_callO, ev_callL, ev_callN, ev_cons, ev_nil, ev_name, List.getElem?_cons_succ, List.getElem?_cons_zero, name_val, name_lst, bnd_ok, bnd_exc, List.map_cons, List.map_nil, callR_ok, callR_exc, callOR_ok, lentG_cell, lentF_cell, lentR_ok, ev_set, ev_setO, ev_C, setR_no, setR_val, setR_cell, updR_some, List.set_cons_succ, List.set_cons_zero, ev_for, ev_iter, ev_some, its_tup, its_lst, its_ro, ev_mret, ev_retO, end_ret, end_next, end_exc, endO_ret, outs_val, outs_no, outs_cell, outs_nil, ev_if, ev_orT, ev_andT, ev_notT, ev_ofT, ev_tru, ev_test, ev_bin, ev_un, ev_and, ev_or, ev_not, ev_isi, isB_bl, tru_bl, if_true, if_false, Bool.false_eq_true, Bool.not_true, Bool.not_false, ev_next, ev_ret, ev_raise, ev_raise0, ev_tup, ev_lst, ev_frz, frz_lst, ev_fn, ev_setIx, setIxG_lst, setIxR_lst, isL_lst, ixR_lst, lenR_lst, ev_lenC, appR_lst, ev_par, ev_pvCons, ev_pvNil, ev_inl, ev_inr, pvs_cons, pvs_nil, pv_inl, pv_inr, pvsR_some, ev_aug, augR_val, ev_sl, ev_part_none, ev_part_some, partR_int, ev_range, ev_enumA, enumR_tup, enumR_lst, ev_gTup, ev_gsCons, ev_gSet, gsR_some, ev_gsNil, ev_lc, ev_list, ev_rev, fLen_lst, fLen_tup, fLen_ro, fTuple_lst, fTuple_tup, fList_lst, fList_tup, dAdd_int, dSub_int, dNeg_int, dLt_int, dLe_int, dGt_int, dGe_int, dEq_int, dNe_int, dAddI_int, ev_ixC, ev_append, ev_repO, ev_catO, catR_lst, ev_down, ev_lr1, ev_lr2, ev_cmpC, cmpR_lst, ev_pop, popR_lst, decide_true, decide_false, ev_asg, dEq_lsts, dNe_lsts, dEq_tups, dNe_tups, require_polynomial_ok h1, require_polynomial_ok h2, e0, ix, notIn_lead hlead, e]
theorem divided_lead {one other : List Int} {lead : Int} (h1 : Po one) (h2 : Po other) (hn : other ≠ []) (hl : gt other (other.length - 1) = lead) (hlead : lead = 2 ∨ lead = -3) :
    m_divided [.val (.tup (Zl one)), .val (.tup (Zl other))] = .exc (.own 2 (some (.tup [.str "lead", .int lead]))) [.no, .no] := by
  have ix := ix_neg hn
  rw [hl] at ix
  have e0 := eq_nil (f := other)
  rw [decide_eq_false hn] at e0
  unfold m_divided
  simp -implicitDefEqProofs only [ev_def, ev_defO, List.length_cons, List.length_nil, List.cons_append, List.nil_append, List.replicate_succ, List.replicate_zero, Nat.reduceAdd, Nat.reduceSub, Nat.reduceLeDiff, ev_seq, sq_next, sq_ret, sq_retO, sq_exc, ev_expr, ev_call, ev_callO, ev_callL, ev_callN, ev_cons, ev_nil, ev_name, List.getElem?_cons_succ, List.getElem?_cons_zero, name_val, name_lst, bnd_ok, bnd_exc, List.map_cons, List.map_nil, callR_ok, callR_exc, callOR_ok, lentG_cell, lentF_cell, lentR_ok, ev_set, ev_setO, ev_C, setR_no, setR_val, setR_cell, updR_some, List.set_cons_succ, List.set_cons_zero, ev_for, ev_iter, ev_some, its_tup, its_lst, its_ro, ev_mret, ev_retO, end_ret, end_next, end_exc, endO_ret, outs_val, outs_no, outs_cell, outs_nil, ev_if, ev_orT, ev_andT, ev_notT, ev_ofT, ev_tru, ev_test, ev_bin, ev_un, ev_and, ev_or, ev_not, ev_isi, isB_bl, tru_bl, if_true, if_false, Bool.false_eq_true, Bool.not_true, Bool.not_false, ev_next, ev_ret, ev_raise, ev_raise0, ev_tup, ev_lst, ev_frz, frz_lst, ev_fn, ev_setIx, setIxG_lst, setIxR_lst, isL_lst, ixR_lst, lenR_lst, ev_lenC, appR_lst, ev_par, ev_pvCons, ev_pvNil, ev_inl, ev_inr, pvs_cons, pvs_nil, pv_inl, pv_inr, pvsR_some, ev_aug, augR_val, ev_sl, ev_part_none, ev_part_some, partR_int, ev_range, ev_enumA, enumR_tup, enumR_lst, ev_gTup, ev_gsCons, ev_gSet, gsR_some, ev_gsNil, ev_lc, ev_list, ev_rev, fLen_lst, fLen_tup, fLen_ro, fTuple_lst, fTuple_tup, fList_lst, fList_tup, dAdd_int, dSub_int, dNeg_int, dLt_int, dLe_int, dGt_int, dGe_int, dEq_int, dNe_int, dAddI_int, ev_ixC, ev_append, ev_repO, ev_catO, catR_lst, ev_down, ev_lr1, ev_lr2, ev_cmpC, cmpR_lst, ev_pop, popR_lst, decide_true, decide_false, ev_asg, dEq_lsts, dNe_lsts, dEq_tups, dNe_tups, require_polynomial_ok h1, require_polynomial_ok h2, e0, ix, notIn_other hlead]
theorem po_snoc {f : List Int} {c : Int} (h : Po f) (hl : f.length ≤ 100) (hc : c = 1 ∨ c = -1 ∨ c = 2 ∨ c = -3) : Po (f ++ [c]) ∧ gt (f ++ [c]) ((f ++ [c]).length - 1) = c := by
  have g : gt (f ++ [c]) ((f ++ [c]).length - 1) = c := by
    rw [List.length_append, List.length_singleton, Nat.add_sub_cancel, gt_right (Nat.le_refl _), Nat.sub_self, gt_zero]
  refine ⟨⟨fun x hx => ?_, by simp; omega, trim_id (.inr ?_)⟩, g⟩
  · rcases List.mem_append.mp hx with hx | hx
    · exact h.sm x hx
    · rw [List.mem_singleton.mp hx]
      unfold Sm
      omega
  · rw [g]; omega
/-! one draw -/
def XS : List D := [.int 0, .int 1, .int (-1), .int 2, .int (10 ^ 20), .int (-7)]
theorem right_ok {z : Cell} {m : Int} (h : Dice m z) (h0 : 0 ≤ m) (hm : m < 100000) : ∃ z', m__law_right [.cell true z] = .ok (.bl true) [.cell true z'] := by
  obtain ⟨one, z1, e1, p1, l1, d1⟩ := poly_ok (most := 12) h h0 (by omega) (by omega)
  obtain ⟨md, z2, e2, hmd, d2⟩ := pick_ok (xs := [.int 4, .int 12]) d1 (by omega) (by decide) (by decide)
  obtain ⟨most, rfl, hmost⟩ : ∃ most : Nat, md = .int (most : Nat) ∧ most ≤ 12 := by
    simp only [List.mem_cons, List.not_mem_nil, or_false] at hmd
    rcases hmd with rfl | rfl
    · exact ⟨4, rfl, by decide⟩
    · exact ⟨12, rfl, by decide⟩
  obtain ⟨other, z3, e3, p2, l2, d3⟩ := poly_ok (most := most) d2 (by omega) (by omega) (by omega)
  have e1 : m__law_poly [.cell true z, .val (.int 12)] = .ok (.tup (Zl one)) [.cell true z1, .no] := e1
  obtain ⟨ld, z4, e4, hld, d4⟩ := pick_ok (xs := [.int 1, .int (-1), .int 1, .int 2, .int (-3)]) d3 (by omega) (by decide) (by decide)
  obtain ⟨lead, rfl, hlead⟩ : ∃ lead : Int, ld = .int lead ∧ (lead = 1 ∨ lead = -1 ∨ lead = 2 ∨ lead = -3) := by
    simp only [List.mem_cons, List.not_mem_nil, or_false] at hld
    rcases hld with rfl | rfl | rfl | rfl | rfl <;> exact ⟨_, rfl, by decide⟩
  obtain ⟨ps, gl⟩ := po_snoc p2 (by omega) hlead
  have sn : other ++ [lead] ≠ [] := by simp
  have sl : (other ++ [lead]).length = other.length + 1 := by simp
  obtain ⟨x1, r1⟩ := repr_ints (l := mulP one other) (B := 500) (fun x hx => (mulP_bd p1.bd p2.bd hx).mono (by omega)) (by decide) (by have := mulP_len (one := one) (other := other); omega)
  have t1 := times_ok p1 p2
  have t2 := times_ok p2 p1
  rw [mulP_comm] at t2
  have t3 := poly_times_ok (one := one) (other := other) (by omega) p1.bd p2.bd (by decide)
  have ad : dAdd (.tup (Zl other)) (.tup [.int lead]) = some (.tup (Zl (other ++ [lead]))) := by
    rw [dAdd_tup, if_pos (by simp; omega)]
    simp [Zl]
  by_cases hg : lead = 1 ∨ lead = -1
  · obtain ⟨W, L, dv, hL, hW, hD, hlf, hbW, hbL⟩ := division_ok p1 ps sn gl hg
    have hdn : dn one (other ++ [lead]) = one.length + 1 - (other ++ [lead]).length := rfl
    have td := divided_ok p1 ps sn gl hg dv
    obtain ⟨L', re, hlf'⟩ := rest_ok p1 ps sn hg
    have gLL : ∀ k, gt L' k = gt L k := fun k => by rw [hlf', hlf]
    have tl : trim (L'.take ((other ++ [lead]).length - 1)) = trim L := trim_ext fun k => by
      rw [gt_take]
      split
      · exact gLL k
      · exact (hD.top k (by omega)).symm
    rw [tl] at re
    have lL : (trim L).length ≤ (other ++ [lead]).length - 1 := trim_len fun k hk => hD.top k (by omega)
    have lW := trim_le (l := W)
    have bW : ∀ x ∈ trim W, Bd 4000 x := fun x hx => by
      obtain ⟨k, _, rfl⟩ := gt_mem hx
      rw [gt_trim]
      exact (hbW k).mono (by omega)
    have bL : ∀ x ∈ trim L, Bd 4000 x := fun x hx => by
      obtain ⟨k, _, rfl⟩ := gt_mem hx
      rw [gt_trim]
      exact (hbL k).mono (by omega)
    obtain ⟨x2, r2⟩ := repr_ints bL (by decide) (by omega)
    obtain ⟨x3, r3⟩ := repr_ints bW (by decide) (by omega)
    have w3 := law_trimmed_tup (F := trim W) (by omega)
    rw [trim_trim] at w3
    have pt := poly_times_ok (one := trim W) (other := other ++ [lead]) (by omega) bW ps.bd (by decide)
    have ml := mulP_len (one := trim W) (other := other ++ [lead])
    obtain ⟨F, ae, hF⟩ := added_ok (a := mulP (trim W) (other ++ [lead])) (b := trim L) (by omega) (by omega)
    have tF : trim F = one := by
      rw [← p1.tr]
      refine trim_ext fun k => ?_
      rw [hF, gt_mulP, gt_trim, hD.sum k, cv_congr (gt_trim W) (fun _ => rfl)]
      omega
    rw [tF] at ae
    have lcs := lc_all (v := 9) (el := mBin dMul (mName 3) (mName 9)) (e := [.cell true z4, .val (.tup (Zl one)), .val (.tup (Zl other)), .val (.int lead), .val (.tup (Zl (other ++ [lead]))), .val (.tup [.tup (Zl (trim W)), .tup (Zl (trim L))]), .val (.tup (Zl (trim W))), .val (.tup (Zl (trim L))), .no, .no, .no]) (other ++ [lead]) D.int (fun x => .int (lead * x)) (by omega) rfl (fun x hx => by
      have mm : dMul (.int lead) (.int x) = some (.int (lead * x)) := bd_mul_ok (n := 8) (by rcases hg with rfl | rfl <;> exact bd_of (k := 1) (by decide) (by decide)) (ps.bd x hx) (by decide)
      simp -implicitDefEqProofs only [ev_def, ev_defO, List.length_cons, List.length_nil, List.cons_append, List.nil_append, List.replicate_succ, List.replicate_zero, Nat.reduceAdd, Nat.reduceSub, Nat.reduceLeDiff, ev_seq, sq_next, sq_ret, sq_retO, sq_exc, ev_expr, ev_call, ev_callO, ev_callL, ev_callN, ev_cons, ev_nil, ev_name, List.getElem?_cons_succ, List.getElem?_cons_zero, name_val, name_lst, bnd_ok, bnd_exc, List.map_cons, List.map_nil, callR_ok, callR_exc, callOR_ok, lentG_cell, lentF_cell, lentR_ok, ev_set, ev_setO, ev_C, setR_no, setR_val, setR_cell, updR_some, List.set_cons_succ, List.set_cons_zero, ev_for, ev_iter, ev_some, its_tup, its_lst, its_ro, ev_mret, ev_retO, end_ret, end_next, end_exc, endO_ret, outs_val, outs_no, outs_cell, outs_nil, ev_if, ev_orT, ev_andT, ev_notT, ev_ofT, ev_tru, ev_test, ev_bin, ev_un, ev_and, ev_or, ev_not, ev_isi, isB_bl, tru_bl, if_true, if_false, Bool.false_eq_true, Bool.not_true, Bool.not_false, ev_next, ev_ret, ev_raise, ev_raise0, ev_tup, ev_lst, ev_frz, frz_lst, ev_fn, ev_setIx, setIxG_lst, setIxR_lst, isL_lst, ixR_lst, lenR_lst, ev_lenC, appR_lst, ev_par, ev_pvCons, ev_pvNil, ev_inl, ev_inr, pvs_cons, pvs_nil, pv_inl, pv_inr, pvsR_some, ev_aug, augR_val, ev_sl, ev_part_none, ev_part_some, partR_int, ev_range, ev_enumA, enumR_tup, enumR_lst, ev_gTup, ev_gsCons, ev_gSet, gsR_some, ev_gsNil, ev_lc, ev_list, ev_rev, fLen_lst, fLen_tup, fLen_ro, fTuple_lst, fTuple_tup, fList_lst, fList_tup, dAdd_int, dSub_int, dNeg_int, dLt_int, dLe_int, dGt_int, dGe_int, dEq_int, dNe_int, dAddI_int, ev_ixC, ev_append, ev_repO, ev_catO, catR_lst, ev_down, ev_lr1, ev_lr2, ev_cmpC, cmpR_lst, ev_pop, popR_lst, decide_true, decide_false, ev_asg, dEq_lsts, dNe_lsts, dEq_tups, dNe_tups, mm])
    have sgz : (other ++ [lead]).map (fun x => D.int (lead * x)) = Zl (sg lead (other ++ [lead])) := by simp [Zl, sg, List.map_map]
    rw [sgz] at lcs
    obtain ⟨xd, z5, e5, hxd, d5⟩ := pick_ok (xs := XS) d4 (by omega) (by decide) (by decide)
    obtain ⟨x, rfl, xs, xb⟩ : ∃ x : Int, xd = .int x ∧ Sm x ∧ Bd 70 x := by
      unfold XS at hxd
      simp only [List.mem_cons, List.not_mem_nil, or_false] at hxd
      rcases hxd with rfl | rfl | rfl | rfl | rfl | rfl <;> exact ⟨_, rfl, ⟨by decide, by decide⟩, bd_of (k := 10 ^ 20) (by decide) (by decide)⟩
    unfold XS at e5
    have p20 : dPow (.int 10) (.int 20) = some (.int (10 ^ 20)) := dPow_nn (by decide) (by decide) (by decide)
    have va := value_at_ok p1 xs xb
    have wo := worth_ok p1 xb
    obtain ⟨x4, r4⟩ := repr_int (v := worth x one.reverse 0) (B := 200 + 71 * one.reverse.length) (worth_bd xb one.reverse 0 200 (fun y hy => p1.bd y (List.mem_reverse.mp hy)) bd_zero (by omega)) (by rw [List.length_reverse]; omega)
    obtain ⟨z6, e6, d6⟩ := errors_ok d5 (by omega) p1
    refine ⟨z6, ?_⟩
    have gel : ¬ (((other ++ [lead]).length : Int) ≤ ((trim L).length : Int)) := by omega
    have it : ∀ xs, Option.map D.bl ((D.tg (.tup xs)).bind g_isi_tuple) = some (.bl true) := fun _ => rfl
    have two : ∀ a b : D, [a, b].length = 2 := fun _ _ => rfl
    unfold m__law_right
    simp -implicitDefEqProofs only [ev_def, ev_defO, List.length_cons, List.length_nil, List.cons_append, List.nil_append, List.replicate_succ, List.replicate_zero, Nat.reduceAdd, Nat.reduceSub, Nat.reduceLeDiff, ev_seq, sq_next, sq_ret, sq_retO, sq_exc, ev_expr, ev_call, ev_callO, ev_callL, ev_callN, ev_cons, ev_nil, ev_name, List.getElem?_cons_succ, List.getElem?_cons_zero, name_val, name_lst, bnd_ok, bnd_exc, List.map_cons, List.map_nil, callR_ok, callR_exc, callOR_ok, lentG_cell, lentF_cell, lentR_ok, ev_set, ev_setO, ev_C, setR_no, setR_val, setR_cell, updR_some, List.set_cons_succ, List.set_cons_zero, ev_for, ev_iter, ev_some, its_tup, its_lst, its_ro, ev_mret, ev_retO, end_ret, end_next, end_exc, endO_ret, outs_val, outs_no, outs_cell, outs_nil, ev_if, ev_orT, ev_andT, ev_notT, ev_ofT, ev_tru, ev_test, ev_bin, ev_un, ev_and, ev_or, ev_not, ev_isi, isB_bl, tru_bl, if_true, if_false, Bool.false_eq_true, Bool.not_true, Bool.not_false, ev_next, ev_ret, ev_raise, ev_raise0, ev_tup, ev_lst, ev_frz, frz_lst, ev_fn, ev_setIx, setIxG_lst, setIxR_lst, isL_lst, ixR_lst, lenR_lst, ev_lenC, appR_lst, ev_par, ev_pvCons, ev_pvNil, ev_inl, ev_inr, pvs_cons, pvs_nil, pv_inl, pv_inr, pvsR_some, ev_aug, augR_val, ev_sl, ev_part_none, ev_part_some, partR_int, ev_range, ev_enumA, enumR_tup, enumR_lst, ev_gTup, ev_gsCons, ev_gSet, gsR_some, ev_gsNil, ev_lc, ev_list, ev_rev, fLen_lst, fLen_tup, fLen_ro, fTuple_lst, fTuple_tup, fList_lst, fList_tup, dAdd_int, dSub_int, dNeg_int, dLt_int, dLe_int, dGt_int, dGe_int, dEq_int, dNe_int, dAddI_int, ev_ixC, ev_append, ev_repO, ev_catO, catR_lst, ev_down, ev_lr1, ev_lr2, ev_cmpC, cmpR_lst, ev_pop, popR_lst, decide_true, decide_false, ev_asg, dEq_lsts, dNe_lsts, dEq_tups, dNe_tups, e1, e2, e3, t1, t2, t3, r1, ne_self_str, e4, ad, ev_lam, td, lam_ok, notIn_lead hg, it]
    simp -implicitDefEqProofs only [ev_def, ev_defO, List.length_cons, List.length_nil, List.cons_append, List.nil_append, List.replicate_succ, List.replicate_zero, Nat.reduceAdd, Nat.reduceSub, Nat.reduceLeDiff, ev_seq, sq_next, sq_ret, sq_retO, sq_exc, ev_expr, ev_call, ev_callO, ev_callL, ev_callN, ev_cons, ev_nil, ev_name, List.getElem?_cons_succ, List.getElem?_cons_zero, name_val, name_lst, bnd_ok, bnd_exc, List.map_cons, List.map_nil, callR_ok, callR_exc, callOR_ok, lentG_cell, lentF_cell, lentR_ok, ev_set, ev_setO, ev_C, setR_no, setR_val, setR_cell, updR_some, List.set_cons_succ, List.set_cons_zero, ev_for, ev_iter, ev_some, its_tup, its_lst, its_ro, ev_mret, ev_retO, end_ret, end_next, end_exc, endO_ret, outs_val, outs_no, outs_cell, outs_nil, ev_if, ev_orT, ev_andT, ev_notT, ev_ofT, ev_tru, ev_test, ev_bin, ev_un, ev_and, ev_or, ev_not, ev_isi, isB_bl, tru_bl, if_true, if_false, Bool.false_eq_true, Bool.not_true, Bool.not_false, ev_next, ev_ret, ev_raise, ev_raise0, ev_tup, ev_lst, ev_frz, frz_lst, ev_fn, ev_setIx, setIxG_lst, setIxR_lst, isL_lst, ixR_lst, lenR_lst, ev_lenC, appR_lst, ev_par, ev_pvCons, ev_pvNil, ev_inl, ev_inr, pvs_cons, pvs_nil, pv_inl, pv_inr, pvsR_some, ev_aug, augR_val, ev_sl, ev_part_none, ev_part_some, partR_int, ev_range, ev_enumA, enumR_tup, enumR_lst, ev_gTup, ev_gsCons, ev_gSet, gsR_some, ev_gsNil, ev_lc, ev_list, ev_rev, fLen_lst, fLen_tup, fLen_ro, fTuple_lst, fTuple_tup, fList_lst, fList_tup, dAdd_int, dSub_int, dNeg_int, dLt_int, dLe_int, dGt_int, dGe_int, dEq_int, dNe_int, dAddI_int, ev_ixC, ev_append, ev_repO, ev_catO, catR_lst, ev_down, ev_lr1, ev_lr2, ev_cmpC, cmpR_lst, ev_pop, popR_lst, decide_true, decide_false, ev_asg, dEq_lsts, dNe_lsts, dEq_tups, dNe_tups, show ((2 : Nat) : Int) = 2 from rfl, show noCells [9] [.cell true z4, .val (.tup (Zl one)), .val (.tup (Zl other)), .val (.int lead), .val (.tup (Zl (other ++ [lead]))), .val (.tup [.tup (Zl (trim W)), .tup (Zl (trim L))]), .val (.tup (Zl (trim W))), .val (.tup (Zl (trim L))), .no, .no, .no] = true from rfl,
      show wipeE [9] [.cell true z4, .val (.tup (Zl one)), .val (.tup (Zl other)), .val (.int lead), .val (.tup (Zl (other ++ [lead]))), .val (.tup [.tup (Zl (trim W)), .tup (Zl (trim L))]), .val (.tup (Zl (trim W))), .val (.tup (Zl (trim L))), .no, .no, .no] = [.cell true z4, .val (.tup (Zl one)), .val (.tup (Zl other)), .val (.int lead), .val (.tup (Zl (other ++ [lead]))), .val (.tup [.tup (Zl (trim W)), .tup (Zl (trim L))]), .val (.tup (Zl (trim W))), .val (.tup (Zl (trim L))), .no, .no, .no] from rfl,
      lcs, re, r2, w3, r3, ne_self_str, pt, ae, Zl_len, gel, p20, e5, va, wo, r4, eq_self_str, e6]
  · have hb : lead = 2 ∨ lead = -3 := by omega
    have td := divided_lead p1 ps sn gl hb
    obtain ⟨z6, e6, d6⟩ := errors_ok d4 (by omega) p1
    refine ⟨z6, ?_⟩
    have es : dEq (.tup [.str "lead", .int lead]) (.tup [.str "lead", .int lead]) = some (.bl true) := by
      have h : dEqv (.tup [.str "lead", .int lead]) (.tup [.str "lead", .int lead]) = some true := by rcases hb with rfl | rfl <;> decide +kernel
      unfold dEq
      rw [h]
      rfl
    unfold m__law_right
    simp -implicitDefEqProofs only [ev_def, ev_defO, List.length_cons, List.length_nil, List.cons_append, List.nil_append, List.replicate_succ, List.replicate_zero, Nat.reduceAdd, Nat.reduceSub, Nat.reduceLeDiff, ev_seq, sq_next, sq_ret, sq_retO, sq_exc, ev_expr, ev_call, ev_callO, ev_callL, ev_callN, ev_cons, ev_nil, ev_name, List.getElem?_cons_succ, List.getElem?_cons_zero, name_val, name_lst, bnd_ok, bnd_exc, List.map_cons, List.map_nil, callR_ok, callR_exc, callOR_ok, lentG_cell, lentF_cell, lentR_ok, ev_set, ev_setO, ev_C, setR_no, setR_val, setR_cell, updR_some, List.set_cons_succ, List.set_cons_zero, ev_for, ev_iter, ev_some, its_tup, its_lst, its_ro, ev_mret, ev_retO, end_ret, end_next, end_exc, endO_ret, outs_val, outs_no, outs_cell, outs_nil, ev_if, ev_orT, ev_andT, ev_notT, ev_ofT, ev_tru, ev_test, ev_bin, ev_un, ev_and, ev_or, ev_not, ev_isi, isB_bl, tru_bl, if_true, if_false, Bool.false_eq_true, Bool.not_true, Bool.not_false, ev_next, ev_ret, ev_raise, ev_raise0, ev_tup, ev_lst, ev_frz, frz_lst, ev_fn, ev_setIx, setIxG_lst, setIxR_lst, isL_lst, ixR_lst, lenR_lst, ev_lenC, appR_lst, ev_par, ev_pvCons, ev_pvNil, ev_inl, ev_inr, pvs_cons, pvs_nil, pv_inl, pv_inr, pvsR_some, ev_aug, augR_val, ev_sl, ev_part_none, ev_part_some, partR_int, ev_range, ev_enumA, enumR_tup, enumR_lst, ev_gTup, ev_gsCons, ev_gSet, gsR_some, ev_gsNil, ev_lc, ev_list, ev_rev, fLen_lst, fLen_tup, fLen_ro, fTuple_lst, fTuple_tup, fList_lst, fList_tup, dAdd_int, dSub_int, dNeg_int, dLt_int, dLe_int, dGt_int, dGe_int, dEq_int, dNe_int, dAddI_int, ev_ixC, ev_append, ev_repO, ev_catO, catR_lst, ev_down, ev_lr1, ev_lr2, ev_cmpC, cmpR_lst, ev_pop, popR_lst, decide_true, decide_false, ev_asg, dEq_lsts, dNe_lsts, dEq_tups, dNe_tups, e1, e2, e3, t1, t2, t3, r1, ne_self_str, e4, ad, ev_lam, td, lam2, notIn_other hb, es, e6]
/-! the law -/
abbrev inB : MS := (mIf (mNotT (mTru (mCallN m__law_right (mCallO m__law_dice (mCons (mName 0) (mCons (mName 1) mNil))))))
  (mRet (mC (.bl false)))
  M.next)
theorem inL {ns : List Int} {n : Nat} (hn : n ≤ 63) : ∃ q, forL (gSet 1) inB ((List.range n).map fun i => .int (i : Nat)) [.val (.ro (ns.map .int)), .no, .no, .no] = .ok .next [.val (.ro (ns.map .int)), q, .no, .no] := by
  obtain ⟨e', e1, q, rfl, _⟩ := forL_rg (tg := gSet 1) (b := inB) (fun i e => ∃ q, e = [.val (.ro (ns.map .int)), q, .no, .no] ∧ Fr q) n (e := [.val (.ro (ns.map .int)), .no, .no, .no]) ⟨.no, rfl, fr_no⟩ (fun i e hi ⟨q, he, hq⟩ => by
    subst he
    obtain ⟨z, e0, e1, d1⟩ := dice_ok (ns := ns) (i := i) (by omega)
    obtain ⟨z', e2⟩ := right_ok d1 (by omega) (by omega)
    exact ⟨[.val (.ro (ns.map .int)), .val (.int i), .no, .no], [.val (.ro (ns.map .int)), .val (.int i), .no, .no], by simp -implicitDefEqProofs only [ev_def, ev_defO, List.length_cons, List.length_nil, List.cons_append, List.nil_append, List.replicate_succ, List.replicate_zero, Nat.reduceAdd, Nat.reduceSub, Nat.reduceLeDiff, ev_seq, sq_next, sq_ret, sq_retO, sq_exc, ev_expr, ev_call, ev_callO, ev_callL, ev_callN, ev_cons, ev_nil, ev_name, List.getElem?_cons_succ, List.getElem?_cons_zero, name_val, name_lst, bnd_ok, bnd_exc, List.map_cons, List.map_nil, callR_ok, callR_exc, callOR_ok, lentG_cell, lentF_cell, lentR_ok, ev_set, ev_setO, ev_C, setR_no, setR_val, setR_cell, updR_some, List.set_cons_succ, List.set_cons_zero, ev_for, ev_iter, ev_some, its_tup, its_lst, its_ro, ev_mret, ev_retO, end_ret, end_next, end_exc, endO_ret, outs_val, outs_no, outs_cell, outs_nil, ev_if, ev_orT, ev_andT, ev_notT, ev_ofT, ev_tru, ev_test, ev_bin, ev_un, ev_and, ev_or, ev_not, ev_isi, isB_bl, tru_bl, if_true, if_false, Bool.false_eq_true, Bool.not_true, Bool.not_false, ev_next, ev_ret, ev_raise, ev_raise0, ev_tup, ev_lst, ev_frz, frz_lst, ev_fn, ev_setIx, setIxG_lst, setIxR_lst, isL_lst, ixR_lst, lenR_lst, ev_lenC, appR_lst, ev_par, ev_pvCons, ev_pvNil, ev_inl, ev_inr, pvs_cons, pvs_nil, pv_inl, pv_inr, pvsR_some, ev_aug, augR_val, ev_sl, ev_part_none, ev_part_some, partR_int, ev_range, ev_enumA, enumR_tup, enumR_lst, ev_gTup, ev_gsCons, ev_gSet, gsR_some, ev_gsNil, ev_lc, ev_list, ev_rev, fLen_lst, fLen_tup, fLen_ro, fTuple_lst, fTuple_tup, fList_lst, fList_tup, dAdd_int, dSub_int, dNeg_int, dLt_int, dLe_int, dGt_int, dGe_int, dEq_int, dNe_int, dAddI_int, ev_ixC, ev_append, ev_repO, ev_catO, catR_lst, ev_down, ev_lr1, ev_lr2, ev_cmpC, cmpR_lst, ev_pop, popR_lst, decide_true, decide_false, ev_asg, dEq_lsts, dNe_lsts, dEq_tups, dNe_tups, set_fr hq], by simp -implicitDefEqProofs only [ev_def, ev_defO, List.length_cons, List.length_nil, List.cons_append, List.nil_append, List.replicate_succ, List.replicate_zero, Nat.reduceAdd, Nat.reduceSub, Nat.reduceLeDiff, ev_seq, sq_next, sq_ret, sq_retO, sq_exc, ev_expr, ev_call, ev_callO, ev_callL, ev_callN, ev_cons, ev_nil, ev_name, List.getElem?_cons_succ, List.getElem?_cons_zero, name_val, name_lst, bnd_ok, bnd_exc, List.map_cons, List.map_nil, callR_ok, callR_exc, callOR_ok, lentG_cell, lentF_cell, lentR_ok, ev_set, ev_setO, ev_C, setR_no, setR_val, setR_cell, updR_some, List.set_cons_succ, List.set_cons_zero, ev_for, ev_iter, ev_some, its_tup, its_lst, its_ro, ev_mret, ev_retO, end_ret, end_next, end_exc, endO_ret, outs_val, outs_no, outs_cell, outs_nil, ev_if, ev_orT, ev_andT, ev_notT, ev_ofT, ev_tru, ev_test, ev_bin, ev_un, ev_and, ev_or, ev_not, ev_isi, isB_bl, tru_bl, if_true, if_false, Bool.false_eq_true, Bool.not_true, Bool.not_false, ev_next, ev_ret, ev_raise, ev_raise0, ev_tup, ev_lst, ev_frz, frz_lst, ev_fn, ev_setIx, setIxG_lst, setIxR_lst, isL_lst, ixR_lst, lenR_lst, ev_lenC, appR_lst, ev_par, ev_pvCons, ev_pvNil, ev_inl, ev_inr, pvs_cons, pvs_nil, pv_inl, pv_inr, pvsR_some, ev_aug, augR_val, ev_sl, ev_part_none, ev_part_some, partR_int, ev_range, ev_enumA, enumR_tup, enumR_lst, ev_gTup, ev_gsCons, ev_gSet, gsR_some, ev_gsNil, ev_lc, ev_list, ev_rev, fLen_lst, fLen_tup, fLen_ro, fTuple_lst, fTuple_tup, fList_lst, fList_tup, dAdd_int, dSub_int, dNeg_int, dLt_int, dLe_int, dGt_int, dGe_int, dEq_int, dNe_int, dAddI_int, ev_ixC, ev_append, ev_repO, ev_catO, catR_lst, ev_down, ev_lr1, ev_lr2, ev_cmpC, cmpR_lst, ev_pop, popR_lst, decide_true, decide_false, ev_asg, dEq_lsts, dNe_lsts, dEq_tups, dNe_tups, e1, e2], _, rfl, fr_val⟩)
  exact ⟨q, e1⟩
def gr : List Int := (List.range 400).map fun i => ((i : Nat) : Int) + 1
theorem gr_len : gr.length = 400 := by simp [gr]
theorem gr_po : Po gr := ⟨fun x hx => by
    obtain ⟨i, hi, rfl⟩ := List.mem_map.mp hx
    have := List.mem_range.mp hi
    unfold Sm
    omega, by rw [gr_len]; omega, trim_id (.inr (by decide +kernel))⟩
theorem one_po : Po [1] := ⟨fun x hx => by rw [List.mem_singleton.mp hx]; exact ⟨by decide, by decide⟩, by simp, by decide⟩
theorem x_po : Po [0, 1] := ⟨fun x hx => by
    simp only [List.mem_cons, List.not_mem_nil, or_false] at hx
    rcases hx with rfl | rfl <;> exact ⟨by decide, by decide⟩, by simp, by decide⟩
theorem gr_one : mulP gr [1] = gr := by
  rw [← trim_mulP, trim_ext (b := gr) fun k => by rw [gt_mulP, cv_one], gr_po.tr]
theorem gr_worth : worth 1 gr.reverse 0 = 80200 := by decide +kernel
theorem gr_div : m_divided [.val (.tup (Zl gr)), .val (.tup (Zl [1]))] = .ok (.tup [.tup (Zl gr), .tup (Zl [])]) [.no, .no] := by
  obtain ⟨W, L, e, hL, hW, hD, _⟩ := division_ok gr_po one_po (by simp) (lead := 1) rfl (.inl rfl)
  have tL : trim L = [] := trim_zero fun k => hD.top k (by simp)
  have tW : trim W = gr := by
    rw [← gr_po.tr]
    refine trim_ext fun k => ?_
    rw [hD.sum k, cv_one, hD.top k (by simp)]
    omega
  rw [tL, tW] at e
  exact divided_ok gr_po one_po (by simp) rfl (.inl rfl) e
theorem nil_div : m_divided [.val (.tup (Zl [])), .val (.tup (Zl [0, 1]))] = .ok (.tup [.tup (Zl []), .tup (Zl [])]) [.no, .no] := by
  obtain ⟨W, L, e, hL, hW, hD, _⟩ := division_ok nil_po x_po (by simp) (lead := 1) rfl (.inl rfl)
  have tL : L = [] := List.length_eq_zero_iff.mp hL
  have tW : W = [] := List.length_eq_zero_iff.mp hW
  rw [tL, tW] at e
  exact divided_ok nil_po x_po (by simp) rfl (.inl rfl) e
theorem good : Good m_law := by
  intro ns hl
  obtain ⟨n, hn, hn2⟩ : ∃ n : Nat, n ≤ 63 ∧ (if (if (ns.length : Int) < 20 then (ns.length : Int) else 20) > 1 then (if (ns.length : Int) < 20 then (ns.length : Int) else 20) else 1) = n := by
    by_cases h : ns.length < 20
    · rw [if_pos (show (ns.length : Int) < 20 by omega)]
      by_cases h2 : ns.length > 1
      · exact ⟨ns.length, by omega, if_pos (by omega)⟩
      · exact ⟨1, by omega, if_neg (by omega)⟩
    · rw [if_neg (show ¬ (ns.length : Int) < 20 by omega)]
      exact ⟨20, by omega, rfl⟩
  obtain ⟨q, e1⟩ := inL (ns := ns) hn
  have hr := fRange_n (n := n) (by omega)
  have hmin : fMin [.int 20, .int (ns.length : Nat)] = some (.int (if (ns.length : Int) < 20 then (ns.length : Int) else 20)) := fMin_int
  have hmax : fMax [.int 1, .int (if (ns.length : Int) < 20 then (ns.length : Int) else 20)] = some (.int n) := by rw [fMax_int, hn2]
  have hr4 : fRange [.int 400] = some ((List.range 400).map fun i => .int (i : Nat)) := fRange_n (n := 400) (by omega)
  have lc := lc_rg (v := 3) (el := mBin dAdd (mName 3) (mC (.int 1))) (e := [.val (.ro (ns.map .int)), q, .no, .no]) (n := 400) (f := fun i => .int ((i : Nat) + 1)) (by omega) rfl (fun i _ => by simp -implicitDefEqProofs only [ev_def, ev_defO, List.length_cons, List.length_nil, List.cons_append, List.nil_append, List.replicate_succ, List.replicate_zero, Nat.reduceAdd, Nat.reduceSub, Nat.reduceLeDiff, ev_seq, sq_next, sq_ret, sq_retO, sq_exc, ev_expr, ev_call, ev_callO, ev_callL, ev_callN, ev_cons, ev_nil, ev_name, List.getElem?_cons_succ, List.getElem?_cons_zero, name_val, name_lst, bnd_ok, bnd_exc, List.map_cons, List.map_nil, callR_ok, callR_exc, callOR_ok, lentG_cell, lentF_cell, lentR_ok, ev_set, ev_setO, ev_C, setR_no, setR_val, setR_cell, updR_some, List.set_cons_succ, List.set_cons_zero, ev_for, ev_iter, ev_some, its_tup, its_lst, its_ro, ev_mret, ev_retO, end_ret, end_next, end_exc, endO_ret, outs_val, outs_no, outs_cell, outs_nil, ev_if, ev_orT, ev_andT, ev_notT, ev_ofT, ev_tru, ev_test, ev_bin, ev_un, ev_and, ev_or, ev_not, ev_isi, isB_bl, tru_bl, if_true, if_false, Bool.false_eq_true, Bool.not_true, Bool.not_false, ev_next, ev_ret, ev_raise, ev_raise0, ev_tup, ev_lst, ev_frz, frz_lst, ev_fn, ev_setIx, setIxG_lst, setIxR_lst, isL_lst, ixR_lst, lenR_lst, ev_lenC, appR_lst, ev_par, ev_pvCons, ev_pvNil, ev_inl, ev_inr, pvs_cons, pvs_nil, pv_inl, pv_inr, pvsR_some, ev_aug, augR_val, ev_sl, ev_part_none, ev_part_some, partR_int, ev_range, ev_enumA, enumR_tup, enumR_lst, ev_gTup, ev_gsCons, ev_gSet, gsR_some, ev_gsNil, ev_lc, ev_list, ev_rev, fLen_lst, fLen_tup, fLen_ro, fTuple_lst, fTuple_tup, fList_lst, fList_tup, dAdd_int, dSub_int, dNeg_int, dLt_int, dLe_int, dGt_int, dGe_int, dEq_int, dNe_int, dAddI_int, ev_ixC, ev_append, ev_repO, ev_catO, catR_lst, ev_down, ev_lr1, ev_lr2, ev_cmpC, cmpR_lst, ev_pop, popR_lst, decide_true, decide_false, ev_asg, dEq_lsts, dNe_lsts, dEq_tups, dNe_tups])
  have gz : (List.range 400).map (fun i => D.int ((i : Nat) + 1)) = Zl gr := by simp [gr, Zl, List.map_map]
  rw [gz] at lc
  have t1 := times_ok gr_po one_po
  rw [gr_one] at t1
  have t2 := times_ok gr_po nil_po
  rw [mulP_nil] at t2
  have s1 : Sm 1 := ⟨by decide, by decide⟩
  have s5 : Sm 5 := ⟨by decide, by decide⟩
  have v1 := value_at_ok gr_po s1 (bd_of (k := 1) (by decide) (by decide))
  rw [gr_worth] at v1
  have v2 := value_at_ok nil_po s5 (bd_of (k := 5) (by decide) (by decide))
  have v2 : m_value_at [.val (.tup []), .val (.int 5)] = .ok (.int 0) [.no, .no] := v2
  have d1 := gr_div
  have d2 := nil_div
  have ne1 := ne_self_tup (a := gr)
  have ne2 : dNe (.tup []) (.tup []) = some (.bl false) := ne_self_tup (a := [])
  have p1 := eq_pair (a := gr) (b := [])
  have p2 := eq_pair (a := []) (b := [])
  rw [show Zl [] = [] from rfl] at *
  rw [show Zl [1] = [.int 1] from rfl] at *
  rw [show Zl [0, 1] = [.int 0, .int 1] from rfl] at *
  generalize Zl gr = G at *
  have ll : (ns.map D.int).length = ns.length := List.length_map _
  refine (fun (h : Wp (m_law [.val (.ro (ns.map .int))]) fun d _ => d = .bl true) => ?_) ?_
  · obtain ⟨d, e, h1, rfl⟩ := wp_eq h
    exact ⟨e, h1⟩
  · unfold m_law
    simp -implicitDefEqProofs only [ev_def, ev_defO, List.length_cons, List.length_nil, List.cons_append, List.nil_append, List.replicate_succ, List.replicate_zero, Nat.reduceAdd, Nat.reduceSub, Nat.reduceLeDiff, ev_seq, sq_next, sq_ret, sq_retO, sq_exc, ev_expr, ev_call, ev_callO, ev_callL, ev_callN, ev_cons, ev_nil, ev_name, List.getElem?_cons_succ, List.getElem?_cons_zero, name_val, name_lst, bnd_ok, bnd_exc, List.map_cons, List.map_nil, callR_ok, callR_exc, callOR_ok, lentG_cell, lentF_cell, lentR_ok, ev_set, ev_setO, ev_C, setR_no, setR_val, setR_cell, updR_some, List.set_cons_succ, List.set_cons_zero, ev_for, ev_iter, ev_some, its_tup, its_lst, its_ro, ev_mret, ev_retO, end_ret, end_next, end_exc, endO_ret, outs_val, outs_no, outs_cell, outs_nil, ev_if, ev_orT, ev_andT, ev_notT, ev_ofT, ev_tru, ev_test, ev_bin, ev_un, ev_and, ev_or, ev_not, ev_isi, isB_bl, tru_bl, if_true, if_false, Bool.false_eq_true, Bool.not_true, Bool.not_false, ev_next, ev_ret, ev_raise, ev_raise0, ev_tup, ev_lst, ev_frz, frz_lst, ev_fn, ev_setIx, setIxG_lst, setIxR_lst, isL_lst, ixR_lst, lenR_lst, ev_lenC, appR_lst, ev_par, ev_pvCons, ev_pvNil, ev_inl, ev_inr, pvs_cons, pvs_nil, pv_inl, pv_inr, pvsR_some, ev_aug, augR_val, ev_sl, ev_part_none, ev_part_some, partR_int, ev_range, ev_enumA, enumR_tup, enumR_lst, ev_gTup, ev_gsCons, ev_gSet, gsR_some, ev_gsNil, ev_lc, ev_list, ev_rev, fLen_lst, fLen_tup, fLen_ro, fTuple_lst, fTuple_tup, fList_lst, fList_tup, dAdd_int, dSub_int, dNeg_int, dLt_int, dLe_int, dGt_int, dGe_int, dEq_int, dNe_int, dAddI_int, ev_ixC, ev_append, ev_repO, ev_catO, catR_lst, ev_down, ev_lr1, ev_lr2, ev_cmpC, cmpR_lst, ev_pop, popR_lst, decide_true, decide_false, ev_asg, dEq_lsts, dNe_lsts, dEq_tups, dNe_tups, ll, hmin, hmax, hr, e1, hr4, show noCells [3] [.val (.ro (ns.map .int)), q, .no, .no] = true from rfl, show wipeE [3] [.val (.ro (ns.map .int)), q, .no, .no] = [.val (.ro (ns.map .int)), q, .no, .no] from rfl, lc, t1, t2, v1, v2, ne1, ne2, d1, d2, p1, p2, wp_ok]
end K48
set_option Elab.async false
set_option linter.all false
set_option maxRecDepth 100000
set_option maxHeartbeats 4000000
namespace K48
open PySem PySem.Spec PyProof.Rows L2 L2.DL
def top (i : Nat) : Stmt := PySem.Challenge.pw_slantways_k48_whole_polynomials.main.body.getD i (.Pass ⟨0, 0, 0, 0⟩)
abbrev s__law_roll : Stmt := top 22
abbrev N__law_roll : List Str := ["_law_dice_here", "_law_total", "_law_found", "_law_one", "_law_two"]
theorem sc__law_roll : FnScope N__law_roll ["_law_dice_here", "_law_total"] (defScope s__law_roll) := ⟨rfl, rfl, rfl, by decide +kernel, rfl, by decide +kernel, by decide +kernel⟩
abbrev s__law_pick : Stmt := top 23
abbrev N__law_pick : List Str := ["_law_dice_here", "_law_items"]
theorem sc__law_pick : FnScope N__law_pick ["_law_dice_here", "_law_items"] (defScope s__law_pick) := ⟨rfl, rfl, rfl, by decide +kernel, rfl, by decide +kernel, by decide +kernel⟩
abbrev s__law_told : Stmt := top 31
abbrev N__law_told : List Str := ["_law_call", "e"]
theorem sc__law_told : FnScope N__law_told ["_law_call"] (defScope s__law_told) := ⟨rfl, rfl, rfl, by decide +kernel, rfl, by decide +kernel, by decide +kernel⟩
abbrev s__law_trimmed : Stmt := top 24
abbrev N__law_trimmed : List Str := ["_law_numbers", "_law_found", "_law_turn"]
theorem sc__law_trimmed : FnScope N__law_trimmed ["_law_numbers"] (defScope s__law_trimmed) := ⟨rfl, rfl, rfl, by decide +kernel, rfl, by decide +kernel, by decide +kernel⟩
abbrev s__law_poly : Stmt := top 28
abbrev N__law_poly : List Str := ["_law_dice_here", "_law_most", "_law_size", "_law_found", "_law_at"]
theorem sc__law_poly : FnScope N__law_poly ["_law_dice_here", "_law_most"] (defScope s__law_poly) := ⟨rfl, rfl, rfl, by decide +kernel, rfl, by decide +kernel, by decide +kernel⟩
abbrev s__law_no_int : Stmt := top 27
abbrev N__law_no_int : List Str := ["_law_dice_here"]
theorem sc__law_no_int : FnScope N__law_no_int ["_law_dice_here"] (defScope s__law_no_int) := ⟨rfl, rfl, rfl, by decide +kernel, rfl, by decide +kernel, by decide +kernel⟩
abbrev s__law_wrong : Stmt := top 32
abbrev N__law_wrong : List Str := ["_law_dice_here", "_law_menu", "_law_at"]
theorem sc__law_wrong : FnScope N__law_wrong ["_law_dice_here"] (defScope s__law_wrong) := ⟨rfl, rfl, rfl, by decide +kernel, rfl, by decide +kernel, by decide +kernel⟩
abbrev s_is_integer : Stmt := top 7
abbrev N_is_integer : List Str := ["value"]
theorem sc_is_integer : FnScope N_is_integer ["value"] (defScope s_is_integer) := ⟨rfl, rfl, rfl, by decide +kernel, rfl, by decide +kernel, by decide +kernel⟩
abbrev s_are_integers : Stmt := top 9
abbrev N_are_integers : List Str := ["value", "one"]
theorem sc_are_integers : FnScope N_are_integers ["value"] (defScope s_are_integers) := ⟨rfl, rfl, rfl, by decide +kernel, rfl, by decide +kernel, by decide +kernel⟩
abbrev s_is_polynomial : Stmt := top 13
abbrev N_is_polynomial : List Str := ["value"]
theorem sc_is_polynomial : FnScope N_is_polynomial ["value"] (defScope s_is_polynomial) := ⟨rfl, rfl, rfl, by decide +kernel, rfl, by decide +kernel, by decide +kernel⟩
abbrev s_require_polynomial : Stmt := top 14
abbrev N_require_polynomial : List Str := ["value"]
theorem sc_require_polynomial : FnScope N_require_polynomial ["value"] (defScope s_require_polynomial) := ⟨rfl, rfl, rfl, by decide +kernel, rfl, by decide +kernel, by decide +kernel⟩
abbrev s_without_zeros : Stmt := top 12
abbrev N_without_zeros : List Str := ["numbers", "size"]
theorem sc_without_zeros : FnScope N_without_zeros ["numbers"] (defScope s_without_zeros) := ⟨rfl, rfl, rfl, by decide +kernel, rfl, by decide +kernel, by decide +kernel⟩
abbrev s_product_of : Stmt := top 15
abbrev N_product_of : List Str := ["one", "other", "found", "at", "number", "spot", "second"]
theorem sc_product_of : FnScope N_product_of ["one", "other"] (defScope s_product_of) := ⟨rfl, rfl, rfl, by decide +kernel, rfl, by decide +kernel, by decide +kernel⟩
abbrev s_times : Stmt := top 17
abbrev N_times : List Str := ["one", "other"]
theorem sc_times : FnScope N_times ["one", "other"] (defScope s_times) := ⟨rfl, rfl, rfl, by decide +kernel, rfl, by decide +kernel, by decide +kernel⟩
abbrev s_division_of : Stmt := top 16
abbrev N_division_of : List Str := ["one", "other", "left", "size", "whole", "at", "spot", "number"]
theorem sc_division_of : FnScope N_division_of ["one", "other"] (defScope s_division_of) := ⟨rfl, rfl, rfl, by decide +kernel, rfl, by decide +kernel, by decide +kernel⟩
abbrev s_divided : Stmt := top 18
abbrev N_divided : List Str := ["one", "other"]
theorem sc_divided : FnScope N_divided ["one", "other"] (defScope s_divided) := ⟨rfl, rfl, rfl, by decide +kernel, rfl, by decide +kernel, by decide +kernel⟩
abbrev s_require_integer : Stmt := top 8
abbrev N_require_integer : List Str := ["value"]
theorem sc_require_integer : FnScope N_require_integer ["value"] (defScope s_require_integer) := ⟨rfl, rfl, rfl, by decide +kernel, rfl, by decide +kernel, by decide +kernel⟩
abbrev s_value_at : Stmt := top 19
abbrev N_value_at : List Str := ["polynomial", "x", "found", "number"]
theorem sc_value_at : FnScope N_value_at ["polynomial", "x"] (defScope s_value_at) := ⟨rfl, rfl, rfl, by decide +kernel, rfl, by decide +kernel, by decide +kernel⟩
abbrev s__law_errors : Stmt := top 33
abbrev N__law_errors : List Str := ["_law_dice_here", "_law_one", "_law_bad", "_law_other", "_law_x", "_law_told_here"]
theorem sc__law_errors : FnScope N__law_errors ["_law_dice_here", "_law_one"] (defScope s__law_errors) := ⟨rfl, rfl, rfl, by decide +kernel, rfl, by decide +kernel, by decide +kernel⟩
abbrev s__law_added : Stmt := top 29
abbrev N__law_added : List Str := ["_law_one", "_law_other", "_law_wide", "_law_left", "_law_at", "_law_right_here", "_law_first", "_law_second"]
theorem sc__law_added : FnScope N__law_added ["_law_one", "_law_other"] (defScope s__law_added) := ⟨rfl, rfl, rfl, by decide +kernel, rfl, by decide +kernel, by decide +kernel⟩
abbrev s__law_poly_times : Stmt := top 25
abbrev N__law_poly_times : List Str := ["_law_one", "_law_other", "_law_found", "_law_at", "_law_first", "_law_spot", "_law_second"]
theorem sc__law_poly_times : FnScope N__law_poly_times ["_law_one", "_law_other"] (defScope s__law_poly_times) := ⟨rfl, rfl, rfl, by decide +kernel, rfl, by decide +kernel, by decide +kernel⟩
abbrev s__law_poly_rest : Stmt := top 26
abbrev N__law_poly_rest : List Str := ["_law_one", "_law_other", "_law_left", "_law_at", "_law_lead", "_law_spot", "_law_factor"]
theorem sc__law_poly_rest : FnScope N__law_poly_rest ["_law_one", "_law_other"] (defScope s__law_poly_rest) := ⟨rfl, rfl, rfl, by decide +kernel, rfl, by decide +kernel, by decide +kernel⟩
abbrev s__law_worth : Stmt := top 30
abbrev N__law_worth : List Str := ["_law_poly_here", "_law_x", "_law_found", "_law_factor"]
theorem sc__law_worth : FnScope N__law_worth ["_law_poly_here", "_law_x"] (defScope s__law_worth) := ⟨rfl, rfl, rfl, by decide +kernel, rfl, by decide +kernel, by decide +kernel⟩
abbrev s__law_right : Stmt := top 34
abbrev N__law_right : List Str := ["_law_dice_here", "_law_one", "_law_other", "_law_lead", "_law_second", "_law_told_here", "_law_whole", "_law_rest", "_law_signed", "_law_factor", "_law_x"]
theorem sc__law_right : FnScope N__law_right ["_law_dice_here"] (defScope s__law_right) := ⟨rfl, rfl, rfl, by decide +kernel, rfl, by decide +kernel, by decide +kernel⟩
abbrev s__law_dice : Stmt := top 21
abbrev N__law_dice : List Str := ["_law_script", "_law_spot", "_law_cell", "_law_left"]
theorem sc__law_dice : FnScope N__law_dice ["_law_script", "_law_spot"] (defScope s__law_dice) := ⟨rfl, rfl, rfl, by decide +kernel, rfl, by decide +kernel, by decide +kernel⟩
abbrev s_law : Stmt := top 35
abbrev N_law : List Str := ["_law_script", "_law_spot", "_law_great", "_law_at"]
theorem sc_law : FnScope N_law ["_law_script"] (defScope s_law) := ⟨rfl, rfl, rfl, by decide +kernel, rfl, by decide +kernel, by decide +kernel⟩
structure Tx (K : PySem.W.Frag) (mg : Str → Option Value) (c : Cl) : Prop where
  g_GREATEST : ∃ t, mg "GREATEST" = some (.int (1000000000000000000000000000000000000000000000000000000000000) t)
  g_MAX_TERMS : ∃ t, mg "MAX_TERMS" = some (.int (400) t)
  k_InvalidNumber : mg "InvalidNumber" = some (.ref (c.cls 1))
  k_InvalidOperation : mg "InvalidOperation" = some (.ref (c.cls 0))
  k_Refused : mg "Refused" = some (.ref (c.cls 2))
  m_InvalidNumber : Xm K c 1 [(0, false), (1, true), (2, false)]
  m_InvalidOperation : Xm K c 0 [(0, true), (1, false), (2, false)]
  m_Refused : Xm K c 2 [(0, false), (1, false), (2, true)]
  n_abs : mg "abs" = none
  n_all : mg "all" = none
  n_bool : mg "bool" = none
  n_enumerate : mg "enumerate" = none
  n_int : mg "int" = none
  n_isinstance : mg "isinstance" = none
  n_len : mg "len" = none
  n_list : mg "list" = none
  n_max : mg "max" = none
  n_min : mg "min" = none
  n_range : mg "range" = none
  n_repr : mg "repr" = none
  n_tuple : mg "tuple" = none
  n_zip : mg "zip" = none
  u_InvalidNumber : c.xf 1 = "value" ∧ XfC K (c.cls 1) ∧ PySem.W.findIn K (.ref (c.cls 1)) (c.xf 1) = some none
  u_Refused : c.xf 2 = "reason" ∧ XfC K (c.cls 2) ∧ PySem.W.findIn K (.ref (c.cls 2)) (c.xf 2) = some none
  y_InvalidOperation : OwnX K mg "InvalidOperation" (c.cls 0)
  i_bool : IsiF K c (.type "bool") g_isi_bool
  i_int : IsiF K c (.type "int") g_isi_int
  i_tuple : IsiF K c (.type "tuple") g_isi_tuple
section
variable {P : Program} {w : World} {K : PySem.W.Frag} {mg : Str → Option Value} {base : Heap} {c : Cl}
theorem ok__law_roll {f : Addr} {fd : FuncData} (F : FunV K "_law_roll" "_law_roll" s__law_roll f fd) (T : Tx K mg c) (sy : Sy base)  : FnG P w K mg base (L2.CX P w) 1 f fd ["_law_dice_here", "_law_total"] (spD K c 2 m__law_roll) := by
  refine dok F sc__law_roll _ rfl (by decide) fun cdv A outer s H E hr W tk => ?_
  have hu := hr.units
  exact (ds_cons (ds_if (dt_cmp do_gt (de_ixC (pe_ix ix_list (pv 0) de_int (fun _ _ => rfl))) de_int)
  (ds_cons (ds_set (i := 2) sc__law_roll.nd (de_bin do_mod (de_callTy cd_int rfl T.n_int (by decide +kernel) (da_cons (de_ixC (pe_ix ix_list (pv 0) de_int (fun _ _ => rfl))) da_nil)) (de_name 1)))
  (ds_cons (ds_setIx (ps_asg (de_bin do_div (de_ixC (pe_ix ix_list (pv 0) de_int (fun _ _ => rfl))) (de_name 1)) (pg_sub (pv 0) de_int set_list)))
  (ds_one (ds_ret (de_name 2)))))
  ds_nil)
  (ds_cons (ds_setIx (ps_asg (de_bin do_add (de_ixC (pe_ix ix_list (pv 0) de_int (fun _ _ => rfl))) de_int) (pg_sub (pv 0) de_int set_list)))
  (ds_cons (ds_set (i := 3) sc__law_roll.nd (de_bin do_mod (de_callTy cd_int rfl T.n_int (by decide +kernel) (da_cons (de_bin do_add (de_ixC (pe_ix ix_list (pv 0) de_int (fun _ _ => rfl))) (de_bin do_mul de_int (de_ixC (pe_ix ix_list (pv 0) de_int (fun _ _ => rfl))))) da_nil)) de_int))
  (ds_cons (ds_set (i := 4) sc__law_roll.nd (de_bin do_add (de_bin do_mul (de_bin do_mod (de_callTy cd_int rfl T.n_int (by decide +kernel) (da_cons (de_bin do_add (de_bin do_mul (de_name 3) (de_name 3)) (de_bin do_mul de_int (de_ixC (pe_ix ix_list (pv 0) de_int (fun _ _ => rfl))))) da_nil)) de_int) de_int) (de_name 3)))
  (ds_one (ds_ret (de_bin do_mod (de_callTy cd_int rfl T.n_int (by decide +kernel) (da_cons (de_bin do_div (de_name 4) de_int) da_nil)) (de_name 1))))))))
theorem ok__law_pick {f : Addr} {fd : FuncData} (F : FunV K "_law_pick" "_law_pick" s__law_pick f fd) (T : Tx K mg c) (sy : Sy base) (D__law_roll : Df P w K mg base c "_law_roll" 1 2 m__law_roll) : FnG P w K mg base (L2.CX P w) 2 f fd ["_law_dice_here", "_law_items"] (spD K c 2 m__law_pick) := by
  refine dok F sc__law_pick _ rfl (by decide) fun cdv A outer s H E hr W tk => ?_
  have hu := hr.units
  exact (ds_one (ds_ret (de_ix (de_name 1) (de_callL (i := 0) D__law_roll tk (hr.mono (by decide)) (ml_cons ml_nil) (da_cons (de_callB cd_len rfl T.n_len (by decide +kernel) (da_cons (de_name 1) da_nil)) da_nil)))))
theorem told__law_told {f : Addr} {fd : FuncData} (F : FunV K "_law_told" "_law_told" s__law_told f fd) (B : Binds K fd ["_law_call"] []) (hm : mg "_law_told" = some (.ref f)) (hk : PySem.W.keepIn K (.ref f) = true) (T : Tx K mg c) : ToldF P w K mg base c "_law_told" 5 none cs__law_told :=
  ⟨f, _, _, _, fd, N__law_told, _, _, _, _, none, hm, hk, F, sc__law_told, B, rfl, bt_ret, rfl, .inl rfl, by decide, by decide, (fun _ _ _ h => h), fun cdv A outer s H E hr => (td_cons (m := 0) (j := none) T.m_InvalidOperation ⟨rfl, by decide, .inl T.k_InvalidOperation⟩ rfl (fun a o cls dd pn hz hf => sx_str) (td_cons (m := 1) (j := (some 1)) T.m_InvalidNumber ⟨rfl, by decide, .inl T.k_InvalidNumber⟩ ⟨_, rfl, sc__law_told.nd, rfl, rfl⟩ (fun a o cls dd pn hz hf => (sx_tup (sx_cons sx_str (sx_cons (sx_fieldF (n := 1) (j := 1) T.u_InvalidNumber.1 T.u_InvalidNumber.2.1 T.u_InvalidNumber.2.2 hz hf) sx_nil)))) (td_cons (m := 2) (j := (some 1)) T.m_Refused ⟨rfl, by decide, .inl T.k_Refused⟩ ⟨_, rfl, sc__law_told.nd, rfl, rfl⟩ (fun a o cls dd pn hz hf => (sx_fieldF (n := 2) (j := 1) T.u_Refused.1 T.u_Refused.2.1 T.u_Refused.2.2 hz hf)) td_nil)))⟩
theorem ok__law_trimmed {f : Addr} {fd : FuncData} (F : FunV K "_law_trimmed" "_law_trimmed" s__law_trimmed f fd) (T : Tx K mg c) (sy : Sy base)  : FnG P w K mg base (L2.CX P w) 1 f fd ["_law_numbers"] (spD K c 1 m__law_trimmed) := by
  refine dok F sc__law_trimmed _ rfl (by decide) fun cdv A outer s H E hr W tk => ?_
  have hu := hr.units
  exact (ds_cons (ds_setO (i := 1) sc__law_trimmed.nd (do_list T.n_list (de_name 0)))
  (ds_cons (ds_for (passes_of rfl) (di_range1 T.n_range (da_cons (de_callB cd_len rfl T.n_len (by decide +kernel) (da_cons (de_name 0) da_nil)) da_nil) (ml_cons ml_nil)) (dg_name (i := 2) sc__law_trimmed.nd)
  (ds_one (ds_if (PW.pt (dt_and (dt_cmpC (do_ne hu) (pv 1) (de_frz (do_lst da_nil))) (dt_and1 (dt_cmp (do_eq hu) (de_ixC (pe_ix ix_list (pv 1) (de_neg de_int) (fun _ _ => rfl))) de_int))))
  (ds_one (ds_expr (de_pop (pe_bm0 PySem.F.plainAttrs_list PySem.F.slot_list_pop PySem.F.type_list_pop mt_pop (pv 1)))))
  ds_nil)))
  (ds_one (ds_ret (de_callTy cd_tuple rfl T.n_tuple (by decide +kernel) (da_cons (de_name 1) da_nil))))))
theorem ok__law_poly {f : Addr} {fd : FuncData} (F : FunV K "_law_poly" "_law_poly" s__law_poly f fd) (T : Tx K mg c) (sy : Sy base) (D__law_pick : Df P w K mg base c "_law_pick" 2 2 m__law_pick) (D__law_trimmed : Df P w K mg base c "_law_trimmed" 1 1 m__law_trimmed) (D__law_roll : Df P w K mg base c "_law_roll" 1 2 m__law_roll) : FnG P w K mg base (L2.CX P w) 3 f fd ["_law_dice_here", "_law_most"] (spD K c 2 m__law_poly) := by
  refine dok F sc__law_poly _ rfl (by decide) fun cdv A outer s H E hr W tk => ?_
  have hu := hr.units
  exact (ds_cons (ds_set (i := 2) sc__law_poly.nd (de_callL (i := 0) D__law_pick tk (hr.mono (by decide)) (ml_cons ml_nil) (da_cons (de_frz (do_lst (da_cons de_int (da_cons de_int (da_cons (de_bin do_pow de_int de_int) (da_cons (de_bin do_sub (de_bin do_pow de_int de_int) de_int) da_nil)))))) da_nil)))
  (ds_cons (ds_setLc (i := 3) (own := [("_law_at", 4)]) sc__law_poly.nd (di_range1 T.n_range (da_cons (de_callL (i := 0) D__law_roll tk (hr.mono (by decide)) (ml_cons ml_nil) (da_cons (de_bin do_add (de_name 1) de_int) da_nil)) da_nil) (ml_cons ml_nil)) (blkOk_by (N := N__law_poly) (sc := defScope s__law_poly) (by decide +kernel)) (fun _ _ _ _ _ => (dg_name (i := 4) sc__law_poly.nd)) (fun _ _ _ _ _ => dts_nil) (fun _ _ _ _ _ => (de_bin do_mul (de_callL (i := 0) D__law_roll takes0 (hr.mono (by decide)) (ml_cons ml_nil) (da_cons (de_name 2) da_nil)) (de_if (dt_cmp (do_eq hu) (de_callL (i := 0) D__law_roll takes0 (hr.mono (by decide)) (ml_cons ml_nil) (da_cons de_int da_nil)) de_int) de_int (de_neg de_int)))) (sw_true rfl rfl rfl (by decide +kernel)))
  (ds_one (ds_ret (de_call D__law_trimmed tk (hr.mono (by decide)) (ml_cons ml_nil) (da_cons (de_name 3) da_nil))))))
theorem ok__law_no_int {f : Addr} {fd : FuncData} (F : FunV K "_law_no_int" "_law_no_int" s__law_no_int f fd) (T : Tx K mg c) (sy : Sy base) (D__law_pick : Df P w K mg base c "_law_pick" 2 2 m__law_pick) : FnG P w K mg base (L2.CX P w) 3 f fd ["_law_dice_here"] (spD K c 1 m__law_no_int) := by
  refine dok F sc__law_no_int _ rfl (by decide) fun cdv A outer s H E hr W tk => ?_
  have hu := hr.units
  exact (ds_one (ds_ret (de_callL (i := 0) D__law_pick tk (hr.mono (by decide)) (ml_cons ml_nil) (da_cons (de_frz (do_lst (da_cons de_non (da_cons de_bl (da_cons de_bl (da_cons de_str (da_cons de_str (da_cons (de_tup (da_cons de_int da_nil)) (da_cons (de_frz (do_lst (da_cons de_int da_nil))) (da_cons (de_bin do_pow de_int de_int) (da_cons (de_bin do_sub de_int (de_bin do_pow de_int de_int)) (da_cons (de_frz do_dct0) da_nil)))))))))))) da_nil))))
theorem ok__law_wrong {f : Addr} {fd : FuncData} (F : FunV K "_law_wrong" "_law_wrong" s__law_wrong f fd) (T : Tx K mg c) (sy : Sy base) (D__law_pick : Df P w K mg base c "_law_pick" 2 2 m__law_pick) : FnG P w K mg base (L2.CX P w) 3 f fd ["_law_dice_here"] (spD K c 1 m__law_wrong) := by
  refine dok F sc__law_wrong _ rfl (by decide) fun cdv A outer s H E hr W tk => ?_
  have hu := hr.units
  exact (ds_cons (ds_set (i := 1) sc__law_wrong.nd (de_frz (do_lst (da_cons de_non (da_cons (de_frz (do_lst (da_cons de_int da_nil))) (da_cons (de_tup (da_cons de_int da_nil)) (da_cons (de_tup (da_cons de_int (da_cons de_int da_nil))) (da_cons (de_tup (da_cons de_int (da_cons de_bl da_nil))) (da_cons (de_tup (da_cons de_int (da_cons de_non da_nil))) (da_cons de_str (da_cons de_int (da_cons (de_tup (da_cons de_int (da_cons (de_bin do_pow de_int de_int) da_nil))) (da_cons (de_tup (da_cons (de_tup (da_cons de_int da_nil)) da_nil)) (da_cons (de_tup (da_cons de_int (da_cons de_str da_nil))) (da_cons (de_tup (da_cons de_bl da_nil)) da_nil)))))))))))))))
  (ds_one (ds_ret (de_callL (i := 0) D__law_pick tk (hr.mono (by decide)) (ml_cons ml_nil) (da_cons (de_bin do_add (de_name 1) (de_frz (do_lst (da_cons (de_callTy cd_tuple rfl T.n_tuple (by decide +kernel) (da_cons (de_frz (do_lc (own := [("_law_at", 2)]) sc__law_wrong.nd (di_range1 T.n_range (da_cons de_int da_nil) (ml_cons ml_nil)) (blkOk_by (N := N__law_wrong) (sc := defScope s__law_wrong) (by decide +kernel)) (fun _ _ _ _ _ => (dg_name (i := 2) sc__law_wrong.nd)) (fun _ _ _ _ _ => dts_nil) (fun _ _ _ _ _ => de_int))) da_nil)) da_nil)))) da_nil)))))
theorem ok_is_integer {f : Addr} {fd : FuncData} (F : FunV K "is_integer" "is_integer" s_is_integer f fd) (T : Tx K mg c) (sy : Sy base)  : FnG P w K mg base (L2.CX P w) 1 f fd ["value"] (spD K c 1 m_is_integer) := by
  refine dok F sc_is_integer _ rfl (by decide) fun cdv A outer s H E hr W tk => ?_
  have hu := hr.units
  exact (ds_one (ds_ret (de_and (de_isi T.i_int (.ty _) (de_name 0) (pe_bltn (v := .ty "int") (u := .type "int") rfl T.n_int (by decide +kernel) rfl) T.n_isinstance) (de_and (de_not (de_isi T.i_bool (.ty _) (de_name 0) (pe_bltn (v := .ty "bool") (u := .type "bool") rfl T.n_bool (by decide +kernel) rfl) T.n_isinstance)) (de_one (de_chain do_lt do_lt (de_neg (de_gint rfl T.g_GREATEST.choose_spec)) (de_name 0) (de_gint rfl T.g_GREATEST.choose_spec)))))))
theorem ok_are_integers {f : Addr} {fd : FuncData} (F : FunV K "are_integers" "are_integers" s_are_integers f fd) (T : Tx K mg c) (sy : Sy base) (D_is_integer : Df P w K mg base c "is_integer" 1 1 m_is_integer) : FnG P w K mg base (L2.CX P w) 2 f fd ["value"] (spD K c 1 m_are_integers) := by
  refine dok F sc_are_integers _ rfl (by decide) fun cdv A outer s H E hr W tk => ?_
  have hu := hr.units
  exact (ds_one (ds_ret (de_and (de_isi T.i_tuple (.ty _) (de_name 0) (pe_bltn (v := .ty "tuple") (u := .type "tuple") rfl T.n_tuple (by decide +kernel) rfl) T.n_isinstance) (de_one (de_callB (cd_all rfl) rfl T.n_all (by decide +kernel) (da_cons (de_frz (do_lc (own := [("one", 1)]) sc_are_integers.nd (di_any (de_name 0)) (blkOk_by (N := N_are_integers) (sc := defScope s_are_integers) (by decide +kernel)) (fun _ _ _ _ _ => (dg_name (i := 1) sc_are_integers.nd)) (fun _ _ _ _ _ => dts_nil) (fun _ _ _ _ _ => (de_call D_is_integer takes0 (hr.mono (by decide)) (ml_cons ml_nil) (da_cons (de_name 1) da_nil))))) da_nil))))))
theorem ok_is_polynomial {f : Addr} {fd : FuncData} (F : FunV K "is_polynomial" "is_polynomial" s_is_polynomial f fd) (T : Tx K mg c) (sy : Sy base) (D_are_integers : Df P w K mg base c "are_integers" 2 1 m_are_integers) : FnG P w K mg base (L2.CX P w) 3 f fd ["value"] (spD K c 1 m_is_polynomial) := by
  refine dok F sc_is_polynomial _ rfl (by decide) fun cdv A outer s H E hr W tk => ?_
  have hu := hr.units
  exact (ds_one (ds_ret (de_and (de_call D_are_integers tk (hr.mono (by decide)) (ml_cons ml_nil) (da_cons (de_name 0) da_nil)) (de_and (de_cmp do_le (de_callB cd_len rfl T.n_len (by decide +kernel) (da_cons (de_name 0) da_nil)) (de_gint rfl T.g_MAX_TERMS.choose_spec)) (de_one (de_or (de_cmp (do_eq hu) (de_name 0) (de_tup da_nil)) (de_one (de_cmp (do_ne hu) (de_ix (de_name 0) (de_neg de_int)) de_int))))))))
theorem ok_require_polynomial {f : Addr} {fd : FuncData} (F : FunV K "require_polynomial" "require_polynomial" s_require_polynomial f fd) (T : Tx K mg c) (sy : Sy base) (D_is_polynomial : Df P w K mg base c "is_polynomial" 3 1 m_is_polynomial) : FnG P w K mg base (L2.CX P w) 4 f fd ["value"] (spD K c 1 m_require_polynomial) := by
  refine dok F sc_require_polynomial _ rfl (by decide) fun cdv A outer s H E hr W tk => ?_
  have hu := hr.units
  exact (ds_one (ds_if (dt_not (dt_val (de_call D_is_polynomial tk (hr.mono (by decide)) (ml_cons ml_nil) (da_cons (de_name 0) da_nil))))
  (ds_one (ds_raise0 (n := 0) T.y_InvalidOperation tk))
  ds_nil))
theorem ok_without_zeros {f : Addr} {fd : FuncData} (F : FunV K "without_zeros" "without_zeros" s_without_zeros f fd) (T : Tx K mg c) (sy : Sy base)  : FnG P w K mg base (L2.CX P w) 1 f fd ["numbers"] (spD K c 1 m_without_zeros) := by
  refine dok F sc_without_zeros _ rfl (by decide) fun cdv A outer s H E hr W tk => ?_
  have hu := hr.units
  exact (ds_cons (ds_set (i := 1) sc_without_zeros.nd (de_callB cd_len rfl T.n_len (by decide +kernel) (da_cons (de_name 0) da_nil)))
  (ds_cons (ds_while (passes_of rfl) (PW.pt (dt_and (dt_cmp do_gt (de_name 1) de_int) (dt_and1 (dt_cmp (do_eq hu) (de_ix (de_name 0) (de_bin do_sub (de_name 1) de_int)) de_int))))
  (ds_one (ds_aug (i := 1) sc_without_zeros.nd do_isub de_int)))
  (ds_one (ds_ret (de_callTy cd_tuple rfl T.n_tuple (by decide +kernel) (da_cons (de_sl (de_name 0) dp_none (dp_some (de_name 1))) da_nil))))))
theorem ok_product_of {f : Addr} {fd : FuncData} (F : FunV K "product_of" "product_of" s_product_of f fd) (T : Tx K mg c) (sy : Sy base) (D_without_zeros : Df P w K mg base c "without_zeros" 1 1 m_without_zeros) : FnG P w K mg base (L2.CX P w) 2 f fd ["one", "other"] (spD K c 2 m_product_of) := by
  refine dok F sc_product_of _ rfl (by decide) fun cdv A outer s H E hr W tk => ?_
  have hu := hr.units
  exact (ds_cons (ds_if (PW.pt (dt_or (dt_cmp (do_eq hu) (de_name 0) (de_tup da_nil)) (dt_or1 (dt_cmp (do_eq hu) (de_name 1) (de_tup da_nil)))))
  (ds_one (ds_ret (de_tup da_nil)))
  ds_nil)
  (ds_cons (ds_setO (i := 2) sc_product_of.nd (do_repO (de_frz (do_lst (da_cons de_int da_nil))) (de_bin do_sub (de_bin do_add (de_callB cd_len rfl T.n_len (by decide +kernel) (da_cons (de_name 0) da_nil)) (de_callB cd_len rfl T.n_len (by decide +kernel) (da_cons (de_name 1) da_nil))) de_int)))
  (ds_cons (ds_for (passes_of rfl) (di_enumA T.n_enumerate (de_name 0)) (dg_tup (dgs_cons (dg_name (i := 3) sc_product_of.nd) (dgs_cons (dg_name (i := 4) sc_product_of.nd) dgs_nil)))
  (ds_one (ds_for (passes_of rfl) (di_enumA T.n_enumerate (de_name 1)) (dg_tup (dgs_cons (dg_name (i := 5) sc_product_of.nd) (dgs_cons (dg_name (i := 6) sc_product_of.nd) dgs_nil)))
  (ds_one (ds_setIx (ps_asg (de_bin do_add (de_ixC (pe_ix ix_list (pv 2) (de_bin do_add (de_name 3) (de_name 5)) (fun _ _ => rfl))) (de_bin do_mul (de_name 4) (de_name 6))) (pg_sub (pv 2) (de_bin do_add (de_name 3) (de_name 5)) set_list)))))))
  (ds_one (ds_ret (de_call D_without_zeros tk (hr.mono (by decide)) (ml_cons ml_nil) (da_cons (de_name 2) da_nil)))))))
theorem ok_times {f : Addr} {fd : FuncData} (F : FunV K "times" "times" s_times f fd) (T : Tx K mg c) (sy : Sy base) (D_require_polynomial : Df P w K mg base c "require_polynomial" 4 1 m_require_polynomial) (D_product_of : Df P w K mg base c "product_of" 2 2 m_product_of) : FnG P w K mg base (L2.CX P w) 5 f fd ["one", "other"] (spD K c 2 m_times) := by
  refine dok F sc_times _ rfl (by decide) fun cdv A outer s H E hr W tk => ?_
  have hu := hr.units
  exact (ds_cons (ds_expr (de_call D_require_polynomial tk (hr.mono (by decide)) (ml_cons ml_nil) (da_cons (de_name 0) da_nil)))
  (ds_cons (ds_expr (de_call D_require_polynomial tk (hr.mono (by decide)) (ml_cons ml_nil) (da_cons (de_name 1) da_nil)))
  (ds_one (ds_ret (de_call D_product_of tk (hr.mono (by decide)) (ml_cons (ml_cons ml_nil)) (da_cons (de_name 0) (da_cons (de_name 1) da_nil)))))))
theorem ok_division_of {f : Addr} {fd : FuncData} (F : FunV K "division_of" "division_of" s_division_of f fd) (T : Tx K mg c) (sy : Sy base) (D_without_zeros : Df P w K mg base c "without_zeros" 1 1 m_without_zeros) : FnG P w K mg base (L2.CX P w) 2 f fd ["one", "other"] (spD K c 2 m_division_of) := by
  refine dok F sc_division_of _ rfl (by decide) fun cdv A outer s H E hr W tk => ?_
  have hu := hr.units
  exact (ds_cons (ds_par2 (i := 2) (j := 3) sc_division_of.nd (dps_cons (dp_inr (do_list T.n_list (de_name 0))) (dps_cons (dp_inl (de_callB cd_len rfl T.n_len (by decide +kernel) (da_cons (de_name 1) da_nil))) dps_nil)))
  (ds_cons (ds_setO (i := 4) sc_division_of.nd (do_repO (de_frz (do_lst (da_cons de_int da_nil))) (de_callB (cd_max rfl) rfl T.n_max (by decide +kernel) (da_cons de_int (da_cons (de_bin do_add (de_bin do_sub (de_callB cd_len rfl T.n_len (by decide +kernel) (da_cons (de_name 0) da_nil)) (de_name 3)) de_int) da_nil)))))
  (ds_cons (ds_for (passes_of rfl) (di_down T.n_range (da_cons (de_bin do_sub (de_lenC (i := 4) (pe_callB call_len rfl T.n_len PySem.boot_len (pa_cons (pv 4) pa_nil))) de_int) (da_cons (de_neg de_int) (da_cons (de_neg de_int) da_nil)))) (dg_name (i := 5) sc_division_of.nd)
  (ds_cons (ds_setIx (ps_asg (de_bin do_mul (de_ixC (pe_ix ix_list (pv 2) (de_bin do_sub (de_bin do_add (de_name 5) (de_name 3)) de_int) (fun _ _ => rfl))) (de_ix (de_name 1) (de_neg de_int))) (pg_sub (pv 4) (de_name 5) set_list)))
  (ds_one (ds_for (passes_of rfl) (di_enumA T.n_enumerate (de_name 1)) (dg_tup (dgs_cons (dg_name (i := 6) sc_division_of.nd) (dgs_cons (dg_name (i := 7) sc_division_of.nd) dgs_nil)))
  (ds_one (ds_setIx (ps_asg (de_bin do_sub (de_ixC (pe_ix ix_list (pv 2) (de_bin do_add (de_name 5) (de_name 6)) (fun _ _ => rfl))) (de_bin do_mul (de_ixC (pe_ix ix_list (pv 4) (de_name 5) (fun _ _ => rfl))) (de_name 7))) (pg_sub (pv 2) (de_bin do_add (de_name 5) (de_name 6)) set_list))))))))
  (ds_one (ds_ret (de_tup (da_cons (de_call D_without_zeros tk (hr.mono (by decide)) (ml_cons ml_nil) (da_cons (de_name 4) da_nil)) (da_cons (de_call D_without_zeros tk (hr.mono (by decide)) (ml_cons ml_nil) (da_cons (de_name 2) da_nil)) da_nil))))))))
theorem ok_divided {f : Addr} {fd : FuncData} (F : FunV K "divided" "divided" s_divided f fd) (T : Tx K mg c) (sy : Sy base) (D_require_polynomial : Df P w K mg base c "require_polynomial" 4 1 m_require_polynomial) (D_division_of : Df P w K mg base c "division_of" 2 2 m_division_of) (X_Refused : SupC P K mg "Refused" (c.cls 2) (c.xf 2)) : FnG P w K mg base (L2.CX P w) 5 f fd ["one", "other"] (spD K c 2 m_divided) := by
  refine dok F sc_divided _ rfl (by decide) fun cdv A outer s H E hr W tk => ?_
  have hu := hr.units
  exact (ds_cons (ds_expr (de_call D_require_polynomial tk (hr.mono (by decide)) (ml_cons ml_nil) (da_cons (de_name 0) da_nil)))
  (ds_cons (ds_expr (de_call D_require_polynomial tk (hr.mono (by decide)) (ml_cons ml_nil) (da_cons (de_name 1) da_nil)))
  (ds_cons (ds_if (dt_cmp (do_eq hu) (de_name 1) (de_tup da_nil))
  (ds_one (ds_raise (n := 2) (k := 0) X_Refused tk (hr.mono (by decide)) (de_tup (da_cons de_str da_nil))))
  ds_nil)
  (ds_cons (ds_if (dt_cmp (do_notIn hu) (de_ix (de_name 1) (de_neg de_int)) (de_tup (da_cons de_int (da_cons (de_neg de_int) da_nil))))
  (ds_one (ds_raise (n := 2) (k := 0) X_Refused tk (hr.mono (by decide)) (de_tup (da_cons de_str (da_cons (de_ix (de_name 1) (de_neg de_int)) da_nil)))))
  ds_nil)
  (ds_one (ds_ret (de_call D_division_of tk (hr.mono (by decide)) (ml_cons (ml_cons ml_nil)) (da_cons (de_name 0) (da_cons (de_name 1) da_nil)))))))))
theorem ok_require_integer {f : Addr} {fd : FuncData} (F : FunV K "require_integer" "require_integer" s_require_integer f fd) (T : Tx K mg c) (sy : Sy base) (D_is_integer : Df P w K mg base c "is_integer" 1 1 m_is_integer) (X_InvalidNumber : SupC P K mg "InvalidNumber" (c.cls 1) (c.xf 1)) : FnG P w K mg base (L2.CX P w) 2 f fd ["value"] (spD K c 1 m_require_integer) := by
  refine dok F sc_require_integer _ rfl (by decide) fun cdv A outer s H E hr W tk => ?_
  have hu := hr.units
  exact (ds_one (ds_if (dt_not (dt_val (de_call D_is_integer tk (hr.mono (by decide)) (ml_cons ml_nil) (da_cons (de_name 0) da_nil))))
  (ds_one (ds_raise (n := 1) (k := 0) X_InvalidNumber tk (hr.mono (by decide)) (de_name 0)))
  ds_nil))
theorem ok_value_at {f : Addr} {fd : FuncData} (F : FunV K "value_at" "value_at" s_value_at f fd) (T : Tx K mg c) (sy : Sy base) (D_require_polynomial : Df P w K mg base c "require_polynomial" 4 1 m_require_polynomial) (D_require_integer : Df P w K mg base c "require_integer" 2 1 m_require_integer) : FnG P w K mg base (L2.CX P w) 5 f fd ["polynomial", "x"] (spD K c 2 m_value_at) := by
  refine dok F sc_value_at _ rfl (by decide) fun cdv A outer s H E hr W tk => ?_
  have hu := hr.units
  exact (ds_cons (ds_expr (de_call D_require_polynomial tk (hr.mono (by decide)) (ml_cons ml_nil) (da_cons (de_name 0) da_nil)))
  (ds_cons (ds_expr (de_call D_require_integer tk (hr.mono (by decide)) (ml_cons ml_nil) (da_cons (de_name 1) da_nil)))
  (ds_cons (ds_set (i := 2) sc_value_at.nd de_int)
  (ds_cons (ds_for (passes_of rfl) (di_any (de_rev (de_name 0))) (dg_name (i := 3) sc_value_at.nd)
  (ds_one (ds_set (i := 2) sc_value_at.nd (de_bin do_add (de_bin do_mul (de_name 2) (de_name 1)) (de_name 3)))))
  (ds_one (ds_ret (de_name 2)))))))
theorem ok__law_errors {f cdc PT : Addr} {fd : FuncData} (F : FunV K "_law_errors" "_law_errors" s__law_errors f fd) (own : fd.code = .ref cdc) (tbb : LamX.TabB base mg cdc PT) (tbl : (PT, lamName "_law_errors") ∈ c.tb) (tbo : ∀ p ∈ c.tb, p.1 = PT → p.2 = lamName "_law_errors") (T : Tx K mg c) (sy : Sy base) (D__law_no_int : Df P w K mg base c "_law_no_int" 3 1 m__law_no_int) (D__law_wrong : Df P w K mg base c "_law_wrong" 3 1 m__law_wrong) (Q__law_told : ToldF P w K mg base c "_law_told" 5 none cs__law_told) (D_times : Df P w K mg base c "times" 5 2 m_times) (D_divided : Df P w K mg base c "divided" 5 2 m_divided) (D_value_at : Df P w K mg base c "value_at" 5 2 m_value_at) : FnG P w K mg base (L2.CX P w) 8 f fd ["_law_dice_here", "_law_one"] (spD K c 2 m__law_errors) := by
  refine dokC F own sc__law_errors _ rfl (by decide) fun A outer s H E hr W tk => ?_
  have hu := hr.units
  exact (ds_cons (ds_parT (is := [2, 3]) (dps_cons (dp_inl (de_callL (i := 0) D__law_wrong tk (hr.mono (by decide)) ml_nil da_nil)) (dps_cons (dp_inl (de_callL (i := 0) D__law_wrong tk (hr.mono (by decide)) ml_nil da_nil)) dps_nil)) (gn_cons (i := 2) sc__law_errors.nd (gn_cons (i := 3) sc__law_errors.nd gn_nil)))
  (ds_cons (ds_set (i := 4) sc__law_errors.nd (de_callL (i := 0) D__law_no_int tk (hr.mono (by decide)) ml_nil da_nil))
  (ds_cons (ds_setO (i := 5) sc__law_errors.nd (do_lst (da_cons (de_lam Q__law_told tbb rfl tbl tbo (hr.mono (by decide)) (LamX.lamS_by (by rfl)) rfl (fun _ _ _ _ _ => rfl) (fun A1 outer1 s1 H1 E1 f1 b1 hr => have hu := hr.units; (de_call D_times (takes_of rfl rfl rfl rfl) (hr.mono (by decide)) (ml_cons (ml_cons ml_nil)) (da_cons (de_name 2) (da_cons (de_name 1) da_nil))))) da_nil)))
  (ds_cons (ds_expr (de_append (pe_bm PySem.F.plainAttrs_list PySem.F.slot_list_append PySem.F.type_list_append mt_append (pv 5) (pa_cons (de_lam Q__law_told tbb rfl tbl tbo (hr.mono (by decide)) (LamX.lamS_by (by rfl)) rfl (fun _ _ _ _ _ => rfl) (fun A1 outer1 s1 H1 E1 f1 b1 hr => have hu := hr.units; (de_call D_times (takes_of rfl rfl rfl rfl) (hr.mono (by decide)) (ml_cons (ml_cons ml_nil)) (da_cons (de_name 1) (da_cons (de_name 2) da_nil))))) pa_nil))))
  (ds_cons (ds_expr (de_append (pe_bm PySem.F.plainAttrs_list PySem.F.slot_list_append PySem.F.type_list_append mt_append (pv 5) (pa_cons (de_lam Q__law_told tbb rfl tbl tbo (hr.mono (by decide)) (LamX.lamS_by (by rfl)) rfl (fun _ _ _ _ _ => rfl) (fun A1 outer1 s1 H1 E1 f1 b1 hr => have hu := hr.units; (de_call D_divided (takes_of rfl rfl rfl rfl) (hr.mono (by decide)) (ml_cons (ml_cons ml_nil)) (da_cons (de_name 1) (da_cons (de_name 2) da_nil))))) pa_nil))))
  (ds_cons (ds_expr (de_append (pe_bm PySem.F.plainAttrs_list PySem.F.slot_list_append PySem.F.type_list_append mt_append (pv 5) (pa_cons (de_lam Q__law_told tbb rfl tbl tbo (hr.mono (by decide)) (LamX.lamS_by (by rfl)) rfl (fun _ _ _ _ _ => rfl) (fun A1 outer1 s1 H1 E1 f1 b1 hr => have hu := hr.units; (de_call D_divided (takes_of rfl rfl rfl rfl) (hr.mono (by decide)) (ml_cons (ml_cons ml_nil)) (da_cons (de_name 2) (da_cons (de_tup da_nil) da_nil))))) pa_nil))))
  (ds_cons (ds_expr (de_append (pe_bm PySem.F.plainAttrs_list PySem.F.slot_list_append PySem.F.type_list_append mt_append (pv 5) (pa_cons (de_lam Q__law_told tbb rfl tbl tbo (hr.mono (by decide)) (LamX.lamS_by (by rfl)) rfl (fun _ _ _ _ _ => rfl) (fun A1 outer1 s1 H1 E1 f1 b1 hr => have hu := hr.units; (de_call D_value_at (takes_of rfl rfl rfl rfl) (hr.mono (by decide)) (ml_cons (ml_cons ml_nil)) (da_cons (de_name 2) (da_cons (de_name 3) da_nil))))) pa_nil))))
  (ds_cons (ds_expr (de_append (pe_bm PySem.F.plainAttrs_list PySem.F.slot_list_append PySem.F.type_list_append mt_append (pv 5) (pa_cons (de_lam Q__law_told tbb rfl tbl tbo (hr.mono (by decide)) (LamX.lamS_by (by rfl)) rfl (fun _ _ _ _ _ => rfl) (fun A1 outer1 s1 H1 E1 f1 b1 hr => have hu := hr.units; (de_call D_divided (takes_of rfl rfl rfl rfl) (hr.mono (by decide)) (ml_cons (ml_cons ml_nil)) (da_cons (de_name 1) (da_cons (de_tup da_nil) da_nil))))) pa_nil))))
  (ds_cons (ds_expr (de_append (pe_bm PySem.F.plainAttrs_list PySem.F.slot_list_append PySem.F.type_list_append mt_append (pv 5) (pa_cons (de_lam Q__law_told tbb rfl tbl tbo (hr.mono (by decide)) (LamX.lamS_by (by rfl)) rfl (fun _ _ _ _ _ => rfl) (fun A1 outer1 s1 H1 E1 f1 b1 hr => have hu := hr.units; (de_call D_value_at (takes_of rfl rfl rfl rfl) (hr.mono (by decide)) (ml_cons (ml_cons ml_nil)) (da_cons (de_name 1) (da_cons (de_name 4) da_nil))))) pa_nil))))
  (ds_one (ds_ret (de_cmp (do_eq hu) (de_callB (cd_reprN hr.sh sy) rfl T.n_repr (by decide +kernel) (da_cons (de_name 5) da_nil)) (de_callB (cd_reprN hr.sh sy) rfl T.n_repr (by decide +kernel) (da_cons (de_frz (do_lst (da_cons de_str (da_cons de_str (da_cons de_str (da_cons de_str (da_cons de_str (da_cons (de_tup (da_cons de_str da_nil)) (da_cons (de_tup (da_cons de_str (da_cons (de_name 4) da_nil))) da_nil))))))))) da_nil))))))))))))))
theorem ok__law_added {f : Addr} {fd : FuncData} (F : FunV K "_law_added" "_law_added" s__law_added f fd) (T : Tx K mg c) (sy : Sy base) (D__law_trimmed : Df P w K mg base c "_law_trimmed" 1 1 m__law_trimmed) : FnG P w K mg base (L2.CX P w) 2 f fd ["_law_one", "_law_other"] (spD K c 2 m__law_added) := by
  refine dok F sc__law_added _ rfl (by decide) fun cdv A outer s H E hr W tk => ?_
  have hu := hr.units
  exact (ds_cons (ds_set (i := 2) sc__law_added.nd (de_callB (cd_max rfl) rfl T.n_max (by decide +kernel) (da_cons (de_callB cd_len rfl T.n_len (by decide +kernel) (da_cons (de_name 0) da_nil)) (da_cons (de_callB cd_len rfl T.n_len (by decide +kernel) (da_cons (de_name 1) da_nil)) da_nil))))
  (ds_cons (ds_set (i := 3) sc__law_added.nd (de_bin do_add (de_frz (do_list T.n_list (de_name 0))) (de_frz (do_lc (own := [("_law_at", 4)]) sc__law_added.nd (di_range1 T.n_range (da_cons (de_bin do_sub (de_name 2) (de_callB cd_len rfl T.n_len (by decide +kernel) (da_cons (de_name 0) da_nil))) da_nil) (ml_cons ml_nil)) (blkOk_by (N := N__law_added) (sc := defScope s__law_added) (by decide +kernel)) (fun _ _ _ _ _ => (dg_name (i := 4) sc__law_added.nd)) (fun _ _ _ _ _ => dts_nil) (fun _ _ _ _ _ => de_int)))))
  (ds_cons (ds_set (i := 5) sc__law_added.nd (de_bin do_add (de_frz (do_list T.n_list (de_name 1))) (de_frz (do_lc (own := [("_law_at", 4)]) sc__law_added.nd (di_range1 T.n_range (da_cons (de_bin do_sub (de_name 2) (de_callB cd_len rfl T.n_len (by decide +kernel) (da_cons (de_name 1) da_nil))) da_nil) (ml_cons ml_nil)) (blkOk_by (N := N__law_added) (sc := defScope s__law_added) (by decide +kernel)) (fun _ _ _ _ _ => (dg_name (i := 4) sc__law_added.nd)) (fun _ _ _ _ _ => dts_nil) (fun _ _ _ _ _ => de_int)))))
  (ds_one (ds_ret (de_call D__law_trimmed tk (hr.mono (by decide)) (ml_cons ml_nil) (da_cons (de_frz (do_lc (own := [("_law_first", 6), ("_law_second", 7)]) sc__law_added.nd (di_zipG T.n_zip (da_cons (de_name 3) (da_cons (de_name 5) da_nil))) (blkOk_by (N := N__law_added) (sc := defScope s__law_added) (by decide +kernel)) (fun _ _ _ _ _ => (dg_tup (dgs_cons (dg_name (i := 6) sc__law_added.nd) (dgs_cons (dg_name (i := 7) sc__law_added.nd) dgs_nil)))) (fun _ _ _ _ _ => dts_nil) (fun _ _ _ _ _ => (de_bin do_add (de_name 6) (de_name 7))))) da_nil)))))))
theorem ok__law_poly_times {f : Addr} {fd : FuncData} (F : FunV K "_law_poly_times" "_law_poly_times" s__law_poly_times f fd) (T : Tx K mg c) (sy : Sy base) (D__law_trimmed : Df P w K mg base c "_law_trimmed" 1 1 m__law_trimmed) : FnG P w K mg base (L2.CX P w) 2 f fd ["_law_one", "_law_other"] (spD K c 2 m__law_poly_times) := by
  refine dok F sc__law_poly_times _ rfl (by decide) fun cdv A outer s H E hr W tk => ?_
  have hu := hr.units
  exact (ds_cons (ds_setLc (i := 2) (own := [("_law_at", 3)]) sc__law_poly_times.nd (di_range1 T.n_range (da_cons (de_bin do_add (de_callB cd_len rfl T.n_len (by decide +kernel) (da_cons (de_name 0) da_nil)) (de_callB cd_len rfl T.n_len (by decide +kernel) (da_cons (de_name 1) da_nil))) da_nil) (ml_cons ml_nil)) (blkOk_by (N := N__law_poly_times) (sc := defScope s__law_poly_times) (by decide +kernel)) (fun _ _ _ _ _ => (dg_name (i := 3) sc__law_poly_times.nd)) (fun _ _ _ _ _ => dts_nil) (fun _ _ _ _ _ => de_int) (sw_true rfl rfl rfl (by decide +kernel)))
  (ds_cons (ds_for (passes_of rfl) (di_enumA T.n_enumerate (de_name 0)) (dg_tup (dgs_cons (dg_name (i := 3) sc__law_poly_times.nd) (dgs_cons (dg_name (i := 4) sc__law_poly_times.nd) dgs_nil)))
  (ds_one (ds_for (passes_of rfl) (di_enumA T.n_enumerate (de_name 1)) (dg_tup (dgs_cons (dg_name (i := 5) sc__law_poly_times.nd) (dgs_cons (dg_name (i := 6) sc__law_poly_times.nd) dgs_nil)))
  (ds_one (ds_setIx (ps_asg (de_bin do_add (de_ixC (pe_ix ix_list (pv 2) (de_bin do_add (de_name 3) (de_name 5)) (fun _ _ => rfl))) (de_bin do_mul (de_name 4) (de_name 6))) (pg_sub (pv 2) (de_bin do_add (de_name 3) (de_name 5)) set_list)))))))
  (ds_one (ds_ret (de_call D__law_trimmed tk (hr.mono (by decide)) (ml_cons ml_nil) (da_cons (de_name 2) da_nil))))))
theorem ok__law_poly_rest {f : Addr} {fd : FuncData} (F : FunV K "_law_poly_rest" "_law_poly_rest" s__law_poly_rest f fd) (T : Tx K mg c) (sy : Sy base) (D__law_trimmed : Df P w K mg base c "_law_trimmed" 1 1 m__law_trimmed) : FnG P w K mg base (L2.CX P w) 2 f fd ["_law_one", "_law_other"] (spD K c 2 m__law_poly_rest) := by
  refine dok F sc__law_poly_rest _ rfl (by decide) fun cdv A outer s H E hr W tk => ?_
  have hu := hr.units
  exact (ds_cons (ds_setO (i := 2) sc__law_poly_rest.nd (do_list T.n_list (de_name 0)))
  (ds_cons (ds_for (passes_of rfl) (di_down T.n_range (da_cons (de_bin do_sub (de_callB cd_len rfl T.n_len (by decide +kernel) (da_cons (de_name 0) da_nil)) (de_callB cd_len rfl T.n_len (by decide +kernel) (da_cons (de_name 1) da_nil))) (da_cons (de_neg de_int) (da_cons (de_neg de_int) da_nil)))) (dg_name (i := 3) sc__law_poly_rest.nd)
  (ds_cons (ds_set (i := 4) sc__law_poly_rest.nd (de_ixC (pe_ix ix_list (pv 2) (de_bin do_sub (de_bin do_add (de_name 3) (de_callB cd_len rfl T.n_len (by decide +kernel) (da_cons (de_name 1) da_nil))) de_int) (fun _ _ => rfl))))
  (ds_one (ds_for (passes_of rfl) (di_enumA T.n_enumerate (de_name 1)) (dg_tup (dgs_cons (dg_name (i := 5) sc__law_poly_rest.nd) (dgs_cons (dg_name (i := 6) sc__law_poly_rest.nd) dgs_nil)))
  (ds_one (ds_setIx (ps_asg (de_bin do_sub (de_ixC (pe_ix ix_list (pv 2) (de_bin do_add (de_name 3) (de_name 5)) (fun _ _ => rfl))) (de_bin do_mul (de_name 4) (de_name 6))) (pg_sub (pv 2) (de_bin do_add (de_name 3) (de_name 5)) set_list))))))))
  (ds_one (ds_ret (de_call D__law_trimmed tk (hr.mono (by decide)) (ml_cons ml_nil) (da_cons (de_sl (de_name 2) dp_none (dp_some (de_callB (cd_max rfl) rfl T.n_max (by decide +kernel) (da_cons de_int (da_cons (de_bin do_sub (de_callB cd_len rfl T.n_len (by decide +kernel) (da_cons (de_name 1) da_nil)) de_int) da_nil))))) da_nil))))))
theorem ok__law_worth {f : Addr} {fd : FuncData} (F : FunV K "_law_worth" "_law_worth" s__law_worth f fd) (T : Tx K mg c) (sy : Sy base)  : FnG P w K mg base (L2.CX P w) 1 f fd ["_law_poly_here", "_law_x"] (spD K c 2 m__law_worth) := by
  refine dok F sc__law_worth _ rfl (by decide) fun cdv A outer s H E hr W tk => ?_
  have hu := hr.units
  exact (ds_cons (ds_set (i := 2) sc__law_worth.nd de_int)
  (ds_cons (ds_for (passes_of rfl) (di_any (de_rev (de_name 0))) (dg_name (i := 3) sc__law_worth.nd)
  (ds_one (ds_set (i := 2) sc__law_worth.nd (de_bin do_add (de_bin do_mul (de_name 2) (de_name 1)) (de_name 3)))))
  (ds_one (ds_ret (de_name 2)))))
theorem ok__law_right {f cdc PT : Addr} {fd : FuncData} (F : FunV K "_law_right" "_law_right" s__law_right f fd) (own : fd.code = .ref cdc) (tbb : LamX.TabB base mg cdc PT) (tbl : (PT, lamName "_law_right") ∈ c.tb) (tbo : ∀ p ∈ c.tb, p.1 = PT → p.2 = lamName "_law_right") (T : Tx K mg c) (sy : Sy base) (D__law_pick : Df P w K mg base c "_law_pick" 2 2 m__law_pick) (Q__law_told : ToldF P w K mg base c "_law_told" 5 none cs__law_told) (D__law_poly : Df P w K mg base c "_law_poly" 3 2 m__law_poly) (D__law_errors : Df P w K mg base c "_law_errors" 8 2 m__law_errors) (D_times : Df P w K mg base c "times" 5 2 m_times) (D_divided : Df P w K mg base c "divided" 5 2 m_divided) (D__law_added : Df P w K mg base c "_law_added" 2 2 m__law_added) (D__law_poly_times : Df P w K mg base c "_law_poly_times" 2 2 m__law_poly_times) (D__law_poly_rest : Df P w K mg base c "_law_poly_rest" 2 2 m__law_poly_rest) (D__law_trimmed : Df P w K mg base c "_law_trimmed" 1 1 m__law_trimmed) (D_value_at : Df P w K mg base c "value_at" 5 2 m_value_at) (D__law_worth : Df P w K mg base c "_law_worth" 1 2 m__law_worth) : FnG P w K mg base (L2.CX P w) 9 f fd ["_law_dice_here"] (spD K c 1 m__law_right) := by
  refine dokC F own sc__law_right _ rfl (by decide) fun A outer s H E hr W tk => ?_
  have hu := hr.units
  exact (ds_cons (ds_parT (is := [1, 2]) (dps_cons (dp_inl (de_callL (i := 0) D__law_poly tk (hr.mono (by decide)) (ml_cons ml_nil) (da_cons de_int da_nil))) (dps_cons (dp_inl (de_callL (i := 0) D__law_poly tk (hr.mono (by decide)) (ml_cons ml_nil) (da_cons (de_callL (i := 0) D__law_pick tk (hr.mono (by decide)) (ml_cons ml_nil) (da_cons (de_frz (do_lst (da_cons de_int (da_cons de_int da_nil)))) da_nil)) da_nil))) dps_nil)) (gn_cons (i := 1) sc__law_right.nd (gn_cons (i := 2) sc__law_right.nd gn_nil)))
  (ds_cons (ds_if (PW.pt (dt_or (dt_cmp (do_ne hu) (de_callB (cd_reprN hr.sh sy) rfl T.n_repr (by decide +kernel) (da_cons (de_call D_times tk (hr.mono (by decide)) (ml_cons (ml_cons ml_nil)) (da_cons (de_name 1) (da_cons (de_name 2) da_nil))) da_nil)) (de_callB (cd_reprN hr.sh sy) rfl T.n_repr (by decide +kernel) (da_cons (de_call D__law_poly_times tk (hr.mono (by decide)) (ml_cons (ml_cons ml_nil)) (da_cons (de_name 1) (da_cons (de_name 2) da_nil))) da_nil))) (dt_or1 (dt_cmp (do_ne hu) (de_call D_times tk (hr.mono (by decide)) (ml_cons (ml_cons ml_nil)) (da_cons (de_name 2) (da_cons (de_name 1) da_nil))) (de_call D_times tk (hr.mono (by decide)) (ml_cons (ml_cons ml_nil)) (da_cons (de_name 1) (da_cons (de_name 2) da_nil)))))))
  (ds_one (ds_ret de_bl))
  ds_nil)
  (ds_cons (ds_set (i := 3) sc__law_right.nd (de_callL (i := 0) D__law_pick tk (hr.mono (by decide)) (ml_cons ml_nil) (da_cons (de_frz (do_lst (da_cons de_int (da_cons (de_neg de_int) (da_cons de_int (da_cons de_int (da_cons (de_neg de_int) da_nil))))))) da_nil)))
  (ds_cons (ds_set (i := 4) sc__law_right.nd (de_bin do_add (de_name 2) (de_tup (da_cons (de_name 3) da_nil))))
  (ds_cons (ds_set (i := 5) sc__law_right.nd (de_lam Q__law_told tbb rfl tbl tbo (hr.mono (by decide)) (LamX.lamS_by (by rfl)) rfl (fun _ _ _ _ _ => rfl) (fun A1 outer1 s1 H1 E1 f1 b1 hr => have hu := hr.units; (de_call D_divided (takes_of rfl rfl rfl rfl) (hr.mono (by decide)) (ml_cons (ml_cons ml_nil)) (da_cons (de_name 1) (da_cons (de_name 4) da_nil))))))
  (ds_cons (ds_if (dt_cmp (do_notIn hu) (de_name 3) (de_tup (da_cons de_int (da_cons (de_neg de_int) da_nil))))
  (ds_one (ds_ret (de_and (de_cmp (do_eq hu) (de_name 5) (de_tup (da_cons de_str (da_cons (de_name 3) da_nil)))) (de_one (de_callL (i := 0) D__law_errors tk (hr.mono (by decide)) (ml_cons ml_nil) (da_cons (de_name 1) da_nil))))))
  ds_nil)
  (ds_cons (ds_if (PW.pt (dt_or (dt_not (dt_val (de_isi T.i_tuple (.ty _) (de_name 5) (pe_bltn (v := .ty "tuple") (u := .type "tuple") rfl T.n_tuple (by decide +kernel) rfl) T.n_isinstance))) (dt_or1 (dt_cmp (do_ne hu) (de_callB cd_len rfl T.n_len (by decide +kernel) (da_cons (de_name 5) da_nil)) de_int))))
  (ds_one (ds_ret de_bl))
  ds_nil)
  (ds_cons (ds_asg (de_name 5) (dg_tup (dgs_cons (dg_name (i := 6) sc__law_right.nd) (dgs_cons (dg_name (i := 7) sc__law_right.nd) dgs_nil))))
  (ds_cons (ds_set (i := 8) sc__law_right.nd (de_callTy cd_tuple rfl T.n_tuple (by decide +kernel) (da_cons (de_frz (do_lc (own := [("_law_factor", 9)]) sc__law_right.nd (di_any (de_name 4)) (blkOk_by (N := N__law_right) (sc := defScope s__law_right) (by decide +kernel)) (fun _ _ _ _ _ => (dg_name (i := 9) sc__law_right.nd)) (fun _ _ _ _ _ => dts_nil) (fun _ _ _ _ _ => (de_bin do_mul (de_name 3) (de_name 9))))) da_nil)))
  (ds_cons (ds_if (PW.pt (dt_or (dt_cmp (do_ne hu) (de_callB (cd_reprN hr.sh sy) rfl T.n_repr (by decide +kernel) (da_cons (de_name 7) da_nil)) (de_callB (cd_reprN hr.sh sy) rfl T.n_repr (by decide +kernel) (da_cons (de_call D__law_poly_rest tk (hr.mono (by decide)) (ml_cons (ml_cons ml_nil)) (da_cons (de_name 1) (da_cons (de_name 8) da_nil))) da_nil))) (dt_or1 (dt_cmp (do_ne hu) (de_callB (cd_reprN hr.sh sy) rfl T.n_repr (by decide +kernel) (da_cons (de_name 6) da_nil)) (de_callB (cd_reprN hr.sh sy) rfl T.n_repr (by decide +kernel) (da_cons (de_call D__law_trimmed tk (hr.mono (by decide)) (ml_cons ml_nil) (da_cons (de_name 6) da_nil)) da_nil))))))
  (ds_one (ds_ret de_bl))
  ds_nil)
  (ds_cons (ds_if (PW.pt (dt_or (dt_cmp (do_ne hu) (de_call D__law_added tk (hr.mono (by decide)) (ml_cons (ml_cons ml_nil)) (da_cons (de_call D__law_poly_times tk (hr.mono (by decide)) (ml_cons (ml_cons ml_nil)) (da_cons (de_name 6) (da_cons (de_name 4) da_nil))) (da_cons (de_name 7) da_nil))) (de_name 1)) (dt_or1 (dt_cmp do_ge (de_callB cd_len rfl T.n_len (by decide +kernel) (da_cons (de_name 7) da_nil)) (de_callB cd_len rfl T.n_len (by decide +kernel) (da_cons (de_name 4) da_nil))))))
  (ds_one (ds_ret de_bl))
  ds_nil)
  (ds_cons (ds_set (i := 10) sc__law_right.nd (de_callL (i := 0) D__law_pick tk (hr.mono (by decide)) (ml_cons ml_nil) (da_cons (de_frz (do_lst (da_cons de_int (da_cons de_int (da_cons (de_neg de_int) (da_cons de_int (da_cons (de_bin do_pow de_int de_int) (da_cons (de_neg de_int) da_nil)))))))) da_nil)))
  (ds_one (ds_ret (de_and (de_cmp (do_eq hu) (de_callB (cd_reprN hr.sh sy) rfl T.n_repr (by decide +kernel) (da_cons (de_call D_value_at tk (hr.mono (by decide)) (ml_cons (ml_cons ml_nil)) (da_cons (de_name 1) (da_cons (de_name 10) da_nil))) da_nil)) (de_callB (cd_reprN hr.sh sy) rfl T.n_repr (by decide +kernel) (da_cons (de_call D__law_worth tk (hr.mono (by decide)) (ml_cons (ml_cons ml_nil)) (da_cons (de_name 1) (da_cons (de_name 10) da_nil))) da_nil))) (de_one (de_callL (i := 0) D__law_errors tk (hr.mono (by decide)) (ml_cons ml_nil) (da_cons (de_name 1) da_nil))))))))))))))))))
theorem ok__law_dice {f : Addr} {fd : FuncData} (F : FunV K "_law_dice" "_law_dice" s__law_dice f fd) (T : Tx K mg c) (sy : Sy base)  : FnG P w K mg base (L2.CX P w) 1 f fd ["_law_script", "_law_spot"] (spO K c 2 m__law_dice) := by
  refine dokO F sc__law_dice _ rfl (by decide) fun cdv A outer s H E hr W tk => ?_
  have hu := hr.units
  exact (ds_cons (ds_set (i := 2) sc__law_dice.nd (de_if (dt_cmp do_lt (de_name 1) (de_callB cd_len rfl T.n_len (by decide +kernel) (da_cons (de_name 0) da_nil))) (de_callTy cd_int rfl T.n_int (by decide +kernel) (da_cons (de_ix (de_name 0) (de_name 1)) da_nil)) (de_bin do_add (de_bin do_mul de_int (de_name 1)) de_int)))
  (ds_cons (ds_set (i := 3) sc__law_dice.nd (de_bin do_mod (de_callB (cd_max rfl) rfl T.n_max (by decide +kernel) (da_cons de_int (da_cons (de_bin do_sub (de_callB cd_abs rfl T.n_abs (by decide +kernel) (da_cons (de_name 2) da_nil)) (de_bin do_pow de_int de_int)) da_nil))) (de_bin do_mul (de_bin do_pow de_int de_int) (de_bin do_pow de_int de_int))))
  (ds_one (ds_retO (do_lst (da_cons (de_name 3) (da_cons (de_bin do_add (de_bin do_add (de_bin do_add (de_bin do_mul (de_bin do_mod (de_callB cd_abs rfl T.n_abs (by decide +kernel) (da_cons (de_name 2) da_nil)) de_int) de_int) (de_bin do_mul de_int (de_name 1))) (de_bin do_mul de_int (de_callTy cd_int rfl T.n_int (by decide +kernel) (da_cons (de_cmp do_lt (de_name 2) de_int) da_nil)))) de_int) (da_cons de_int da_nil))))))))
theorem ok_law {f : Addr} {fd : FuncData} (F : FunV K "law" "law" s_law f fd) (T : Tx K mg c) (sy : Sy base) (D__law_right : Df P w K mg base c "_law_right" 9 1 m__law_right) (D_times : Df P w K mg base c "times" 5 2 m_times) (D_value_at : Df P w K mg base c "value_at" 5 2 m_value_at) (D_divided : Df P w K mg base c "divided" 5 2 m_divided) (D__law_dice : DfO P w K mg base c "_law_dice" 1 2 m__law_dice) : FnG P w K mg base (L2.CX P w) 10 f fd ["_law_script"] (spD K c 1 m_law) := by
  refine dok F sc_law _ rfl (by decide) fun cdv A outer s H E hr W tk => ?_
  have hu := hr.units
  exact (ds_cons (ds_for (passes_of rfl) (di_range1 T.n_range (da_cons (de_callB (cd_max rfl) rfl T.n_max (by decide +kernel) (da_cons de_int (da_cons (de_callB (cd_min rfl) rfl T.n_min (by decide +kernel) (da_cons de_int (da_cons (de_callB cd_len rfl T.n_len (by decide +kernel) (da_cons (de_name 0) da_nil)) da_nil))) da_nil))) da_nil) (ml_cons ml_nil)) (dg_name (i := 1) sc_law.nd)
  (ds_one (ds_if (dt_not (dt_val (de_callN D__law_right tk (hr.mono (by decide)) (do_call D__law_dice tk (hr.mono (by decide)) (ml_cons (ml_cons ml_nil)) (da_cons (de_name 0) (da_cons (de_name 1) da_nil))))))
  (ds_one (ds_ret de_bl))
  ds_nil)))
  (ds_cons (ds_set (i := 2) sc_law.nd (de_callTy cd_tuple rfl T.n_tuple (by decide +kernel) (da_cons (de_frz (do_lc (own := [("_law_at", 3)]) sc_law.nd (di_range1 T.n_range (da_cons de_int da_nil) (ml_cons ml_nil)) (blkOk_by (N := N_law) (sc := defScope s_law) (by decide +kernel)) (fun _ _ _ _ _ => (dg_name (i := 3) sc_law.nd)) (fun _ _ _ _ _ => dts_nil) (fun _ _ _ _ _ => (de_bin do_add (de_name 3) de_int)))) da_nil)))
  (ds_cons (ds_if (PW.pt (dt_or (dt_cmp (do_ne hu) (de_call D_times tk (hr.mono (by decide)) (ml_cons (ml_cons ml_nil)) (da_cons (de_name 2) (da_cons (de_tup (da_cons de_int da_nil)) da_nil))) (de_name 2)) (dt_or (dt_cmp (do_ne hu) (de_call D_times tk (hr.mono (by decide)) (ml_cons (ml_cons ml_nil)) (da_cons (de_name 2) (da_cons (de_tup da_nil) da_nil))) (de_tup da_nil)) (dt_or (dt_cmp (do_ne hu) (de_call D_value_at tk (hr.mono (by decide)) (ml_cons (ml_cons ml_nil)) (da_cons (de_name 2) (da_cons de_int da_nil))) de_int) (dt_or1 (dt_cmp (do_ne hu) (de_call D_value_at tk (hr.mono (by decide)) (ml_cons (ml_cons ml_nil)) (da_cons (de_tup da_nil) (da_cons de_int da_nil))) de_int))))))
  (ds_one (ds_ret de_bl))
  ds_nil)
  (ds_one (ds_ret (de_and (de_cmp (do_eq hu) (de_call D_divided tk (hr.mono (by decide)) (ml_cons (ml_cons ml_nil)) (da_cons (de_name 2) (da_cons (de_tup (da_cons de_int da_nil)) da_nil))) (de_tup (da_cons (de_name 2) (da_cons (de_tup da_nil) da_nil)))) (de_one (de_cmp (do_eq hu) (de_call D_divided tk (hr.mono (by decide)) (ml_cons (ml_cons ml_nil)) (da_cons (de_tup da_nil) (da_cons (de_tup (da_cons de_int (da_cons de_int da_nil))) da_nil))) (de_tup (da_cons (de_tup da_nil) (da_cons (de_tup da_nil) da_nil)))))))))))
end
end K48
set_option Elab.async false
set_option linter.all false
set_option maxRecDepth 100000
set_option maxHeartbeats 4000000
namespace K48
open PySem PySem.Spec PyProof.Rows L2 L2.DL
theorem all_mk {P : Program} {w : World} {K : PySem.W.Frag} {h : Heap} {mg : Str → Option Value} {fa : Addr} {C0 : Addr}
    {C1 : Addr}
    {C2 : Addr}
    {fx1 ccx1 cdx1 : Addr} {odx1 anx1 cddx1 cldx1 : Option Addr} {slx1 ccsx1 cslx1 : Array (Option Value)} {ocx1 kVx1 dcx1 pmx1 ctx1 cclx1 clx1 : Value} {vsx1 : Array Value} {flx1 : Str} {tfx1 : Tok}
    {fx2 ccx2 cdx2 : Addr} {odx2 anx2 cddx2 cldx2 : Option Addr} {slx2 ccsx2 cslx2 : Array (Option Value)} {ocx2 kVx2 dcx2 pmx2 ctx2 cclx2 clx2 : Value} {vsx2 : Array Value} {flx2 : Str} {tfx2 : Tok}
    {f0 : Addr} {od0 an0 : Option Addr} {sl0 : Array (Option Value)} {oc0 kV0 dc0 pm0 cd0 ct0 : Value}
    {f1 : Addr} {od1 an1 : Option Addr} {sl1 : Array (Option Value)} {oc1 kV1 dc1 pm1 cd1 ct1 : Value}
    {f2 : Addr} {od2 an2 : Option Addr} {sl2 : Array (Option Value)} {oc2 kV2 dc2 pm2 cd2 ct2 : Value}
    {f3 : Addr} {od3 an3 : Option Addr} {sl3 : Array (Option Value)} {oc3 kV3 dc3 pm3 cd3 ct3 : Value}
    {f4 : Addr} {od4 an4 : Option Addr} {sl4 : Array (Option Value)} {oc4 kV4 dc4 pm4 cd4 ct4 : Value}
    {f5 : Addr} {od5 an5 : Option Addr} {sl5 : Array (Option Value)} {oc5 kV5 dc5 pm5 cd5 ct5 : Value}
    {f6 : Addr} {od6 an6 : Option Addr} {sl6 : Array (Option Value)} {oc6 kV6 dc6 pm6 cd6 ct6 : Value}
    {f7 : Addr} {od7 an7 : Option Addr} {sl7 : Array (Option Value)} {oc7 kV7 dc7 pm7 cd7 ct7 : Value}
    {f8 : Addr} {od8 an8 : Option Addr} {sl8 : Array (Option Value)} {oc8 kV8 dc8 pm8 cd8 ct8 : Value}
    {f9 : Addr} {od9 an9 : Option Addr} {sl9 : Array (Option Value)} {oc9 kV9 dc9 pm9 cd9 ct9 : Value}
    {f10 : Addr} {od10 an10 : Option Addr} {sl10 : Array (Option Value)} {oc10 kV10 dc10 pm10 cd10 ct10 : Value}
    {f11 : Addr} {od11 an11 : Option Addr} {sl11 : Array (Option Value)} {oc11 kV11 dc11 pm11 cd11 ct11 : Value}
    {f12 : Addr} {od12 an12 : Option Addr} {sl12 : Array (Option Value)} {oc12 kV12 dc12 pm12 cd12 ct12 : Value}
    {f13 : Addr} {od13 an13 : Option Addr} {sl13 : Array (Option Value)} {oc13 kV13 dc13 pm13 cd13 ct13 : Value}
    {f14 : Addr} {od14 an14 : Option Addr} {sl14 : Array (Option Value)} {oc14 kV14 dc14 pm14 cd14 ct14 : Value}
    {f15 : Addr} {od15 an15 : Option Addr} {sl15 : Array (Option Value)} {oc15 kV15 dc15 pm15 cd15 ct15 : Value}
    {f16 : Addr} {od16 an16 : Option Addr} {sl16 : Array (Option Value)} {oc16 kV16 dc16 pm16 cd16 ct16 : Value}
    {f17 : Addr} {od17 an17 : Option Addr} {sl17 : Array (Option Value)} {oc17 kV17 dc17 pm17 cd17 ct17 : Value}
    {f18 : Addr} {od18 an18 : Option Addr} {sl18 : Array (Option Value)} {oc18 kV18 dc18 pm18 ct18 : Value}
    {cc18 PT18 : Addr} {tcl18 : Value} {tcd18 : Option Addr} {tv18 : Array Value} {tsl18 : Array (Option Value)}
    {f19 : Addr} {od19 an19 : Option Addr} {sl19 : Array (Option Value)} {oc19 kV19 dc19 pm19 cd19 ct19 : Value}
    {f20 : Addr} {od20 an20 : Option Addr} {sl20 : Array (Option Value)} {oc20 kV20 dc20 pm20 cd20 ct20 : Value}
    {f21 : Addr} {od21 an21 : Option Addr} {sl21 : Array (Option Value)} {oc21 kV21 dc21 pm21 cd21 ct21 : Value}
    {f22 : Addr} {od22 an22 : Option Addr} {sl22 : Array (Option Value)} {oc22 kV22 dc22 pm22 cd22 ct22 : Value}
    {f23 : Addr} {od23 an23 : Option Addr} {sl23 : Array (Option Value)} {oc23 kV23 dc23 pm23 ct23 : Value}
    {cc23 PT23 : Addr} {tcl23 : Value} {tcd23 : Option Addr} {tv23 : Array Value} {tsl23 : Array (Option Value)}
    {f24 : Addr} {od24 an24 : Option Addr} {sl24 : Array (Option Value)} {oc24 kV24 dc24 pm24 cd24 ct24 : Value}
    {f25 : Addr} {od25 an25 : Option Addr} {sl25 : Array (Option Value)} {oc25 kV25 dc25 pm25 cd25 ct25 : Value}
    {t_GREATEST : Tok}
    {t_MAX_TERMS : Tok} (KX : K.In h) (G : h.Ns mainGlobals mg) (hfa : mg "law" = some (.ref fa))
    (a_InvalidOperation : PySem.W.nsIn K mainGlobals "InvalidOperation" = some (some (.ref C0)))
    (kc_InvalidOperation : PySem.W.keepIn K (.ref C0) = true)
    (ic_InvalidOperation : PySem.W.isClsIn K C0 = true)
    (ex_InvalidOperation : PySem.W.subIn K (.ref C0) (.type "BaseException") = some true)
    (ty_InvalidOperation : PySem.W.typeIn K (.ref C0) = some (.type "type"))
    (xe_InvalidOperation : PySem.W.excIn K C0 [.type "ValueError", .type "Exception", .type "BaseException", .type "object"] "ValueError.__new__" = true)
    (a_InvalidNumber : PySem.W.nsIn K mainGlobals "InvalidNumber" = some (some (.ref C1)))
    (kc_InvalidNumber : PySem.W.keepIn K (.ref C1) = true)
    (ic_InvalidNumber : PySem.W.isClsIn K C1 = true)
    (ex_InvalidNumber : PySem.W.subIn K (.ref C1) (.type "BaseException") = some true)
    (ty_InvalidNumber : PySem.W.typeIn K (.ref C1) = some (.type "type"))
    (ga_InvalidNumber : PySem.W.findIn K (.ref C1) "__getattribute__" = some (some (.builtin "BaseException.__getattribute__")))
    (gg_InvalidNumber : PySem.W.findIn K (.ref C1) "__getattr__" = some none)
    (gf_InvalidNumber : PySem.W.findIn K (.ref C1) "value" = some none)
    (hd_InvalidNumber : PySem.W.hasDictIn K C1 = true)
    (a_Refused : PySem.W.nsIn K mainGlobals "Refused" = some (some (.ref C2)))
    (kc_Refused : PySem.W.keepIn K (.ref C2) = true)
    (ic_Refused : PySem.W.isClsIn K C2 = true)
    (ex_Refused : PySem.W.subIn K (.ref C2) (.type "BaseException") = some true)
    (ty_Refused : PySem.W.typeIn K (.ref C2) = some (.type "type"))
    (ga_Refused : PySem.W.findIn K (.ref C2) "__getattribute__" = some (some (.builtin "BaseException.__getattribute__")))
    (gg_Refused : PySem.W.findIn K (.ref C2) "__getattr__" = some none)
    (gf_Refused : PySem.W.findIn K (.ref C2) "reason" = some none)
    (hd_Refused : PySem.W.hasDictIn K C2 = true)
    (n_super : PySem.W.nsIn K mainGlobals "super" = some none)
    (n_any : PySem.W.nsIn K cStatics "thirdparty.any" = some none)
    (top_super : (P.main.scope.names.lookup ("super" : Str)).isSome = false)
    (hs_InvalidNumber : PySem.W.mroIn K C1 (.ref C1) = some true)
    (st_InvalidNumber : PySem.W.findIn K (.ref C1) "__setattr__" = some (some (.builtin "object.__setattr__")))
    (tk_InvalidNumber : PySem.W.takerIn K C1 "value" = some none)
    (in_InvalidNumber : PySem.W.findIn K (.ref C1) "__init__" = some (some (.ref fx1)))
    (fn_InvalidNumber : PySem.W.isFn K (.ref fx1) = true)
    (sb_InvalidNumber : PySem.W.subIn K (.ref C1) (.type "IndexError") = some true)
    (sp_InvalidNumber : PySem.W.ks_superIn K C1 C1 "__init__" = some (some (.builtin "IndexError.__init__")))
    (ei_InvalidNumber : PySem.W.excInitIn K C1 [.type "IndexError", .type "LookupError", .type "Exception", .type "BaseException", .type "object"] "IndexError.__new__" = true)
    (eo_InvalidNumber : PySem.W.excOver K C1 [.type "IndexError", .type "LookupError", .type "Exception", .type "BaseException", .type "object"] = true)
    (lx_InvalidNumber : K.lookup fx1 = some ⟨ocx1, odx1, .func (PySem.W.ksFn "__init__" "InvalidNumber.__init__" (defArgs (inClass (top 3) 0)) (defBody (inClass (top 3) 0)) (defScope (inClass (top 3) 0)) .none kVx1 dcx1 pmx1 anx1 (.ref cdx1) ctx1 ccx1), slx1⟩)
    (cx_InvalidNumber : PySem.W.codeIn K (.ref cdx1) "InvalidNumber.__init__" = true)
    (co_InvalidNumber : K.lookup cdx1 = some ⟨cclx1, cddx1, .fields vsx1, ccsx1⟩)
    (vs_InvalidNumber : vsx1[2]? = some (.str flx1 tfx1))
    (fi_InvalidNumber : ((P.main.file : Str) == flx1) = true)
    (ce_InvalidNumber : K.lookup ccx1 = some ⟨clx1, cldx1, .cell (some (.ref C1)), cslx1⟩)
    (hs_Refused : PySem.W.mroIn K C2 (.ref C2) = some true)
    (st_Refused : PySem.W.findIn K (.ref C2) "__setattr__" = some (some (.builtin "object.__setattr__")))
    (tk_Refused : PySem.W.takerIn K C2 "reason" = some none)
    (in_Refused : PySem.W.findIn K (.ref C2) "__init__" = some (some (.ref fx2)))
    (fn_Refused : PySem.W.isFn K (.ref fx2) = true)
    (sb_Refused : PySem.W.subIn K (.ref C2) (.type "ArithmeticError") = some true)
    (sp_Refused : PySem.W.ks_superIn K C2 C2 "__init__" = some (some (.builtin "ArithmeticError.__init__")))
    (ei_Refused : PySem.W.excInitIn K C2 [.type "ArithmeticError", .type "Exception", .type "BaseException", .type "object"] "ArithmeticError.__new__" = true)
    (eo_Refused : PySem.W.excOver K C2 [.type "ArithmeticError", .type "Exception", .type "BaseException", .type "object"] = true)
    (lx_Refused : K.lookup fx2 = some ⟨ocx2, odx2, .func (PySem.W.ksFn "__init__" "Refused.__init__" (defArgs (inClass (top 4) 0)) (defBody (inClass (top 4) 0)) (defScope (inClass (top 4) 0)) .none kVx2 dcx2 pmx2 anx2 (.ref cdx2) ctx2 ccx2), slx2⟩)
    (cx_Refused : PySem.W.codeIn K (.ref cdx2) "Refused.__init__" = true)
    (co_Refused : K.lookup cdx2 = some ⟨cclx2, cddx2, .fields vsx2, ccsx2⟩)
    (vs_Refused : vsx2[2]? = some (.str flx2 tfx2))
    (fi_Refused : ((P.main.file : Str) == flx2) = true)
    (ce_Refused : K.lookup ccx2 = some ⟨clx2, cldx2, .cell (some (.ref C2)), cslx2⟩)
    (a0 : PySem.W.nsIn K mainGlobals "_law_roll" = some (some (.ref f0)))
    (l0 : K.lookup f0 = some ⟨oc0, od0, .func (PySem.W.fnOf "_law_roll" "_law_roll" (defArgs s__law_roll) (defBody s__law_roll) (defScope s__law_roll) .none kV0 dc0 pm0 an0 cd0 ct0), sl0⟩)
    (c0 : PySem.W.codeIn K cd0 "_law_roll" = true)
    (k0 : PySem.W.keepIn K (.ref f0) = true)
    (a1 : PySem.W.nsIn K mainGlobals "_law_pick" = some (some (.ref f1)))
    (l1 : K.lookup f1 = some ⟨oc1, od1, .func (PySem.W.fnOf "_law_pick" "_law_pick" (defArgs s__law_pick) (defBody s__law_pick) (defScope s__law_pick) .none kV1 dc1 pm1 an1 cd1 ct1), sl1⟩)
    (c1 : PySem.W.codeIn K cd1 "_law_pick" = true)
    (k1 : PySem.W.keepIn K (.ref f1) = true)
    (a2 : PySem.W.nsIn K mainGlobals "_law_told" = some (some (.ref f2)))
    (l2 : K.lookup f2 = some ⟨oc2, od2, .func (PySem.W.fnOf "_law_told" "_law_told" (defArgs s__law_told) (defBody s__law_told) (defScope s__law_told) .none kV2 dc2 pm2 an2 cd2 ct2), sl2⟩)
    (c2 : PySem.W.codeIn K cd2 "_law_told" = true)
    (k2 : PySem.W.keepIn K (.ref f2) = true)
    (a3 : PySem.W.nsIn K mainGlobals "_law_trimmed" = some (some (.ref f3)))
    (l3 : K.lookup f3 = some ⟨oc3, od3, .func (PySem.W.fnOf "_law_trimmed" "_law_trimmed" (defArgs s__law_trimmed) (defBody s__law_trimmed) (defScope s__law_trimmed) .none kV3 dc3 pm3 an3 cd3 ct3), sl3⟩)
    (c3 : PySem.W.codeIn K cd3 "_law_trimmed" = true)
    (k3 : PySem.W.keepIn K (.ref f3) = true)
    (a4 : PySem.W.nsIn K mainGlobals "_law_poly" = some (some (.ref f4)))
    (l4 : K.lookup f4 = some ⟨oc4, od4, .func (PySem.W.fnOf "_law_poly" "_law_poly" (defArgs s__law_poly) (defBody s__law_poly) (defScope s__law_poly) .none kV4 dc4 pm4 an4 cd4 ct4), sl4⟩)
    (c4 : PySem.W.codeIn K cd4 "_law_poly" = true)
    (k4 : PySem.W.keepIn K (.ref f4) = true)
    (a5 : PySem.W.nsIn K mainGlobals "_law_no_int" = some (some (.ref f5)))
    (l5 : K.lookup f5 = some ⟨oc5, od5, .func (PySem.W.fnOf "_law_no_int" "_law_no_int" (defArgs s__law_no_int) (defBody s__law_no_int) (defScope s__law_no_int) .none kV5 dc5 pm5 an5 cd5 ct5), sl5⟩)
    (c5 : PySem.W.codeIn K cd5 "_law_no_int" = true)
    (k5 : PySem.W.keepIn K (.ref f5) = true)
    (a6 : PySem.W.nsIn K mainGlobals "_law_wrong" = some (some (.ref f6)))
    (l6 : K.lookup f6 = some ⟨oc6, od6, .func (PySem.W.fnOf "_law_wrong" "_law_wrong" (defArgs s__law_wrong) (defBody s__law_wrong) (defScope s__law_wrong) .none kV6 dc6 pm6 an6 cd6 ct6), sl6⟩)
    (c6 : PySem.W.codeIn K cd6 "_law_wrong" = true)
    (k6 : PySem.W.keepIn K (.ref f6) = true)
    (a7 : PySem.W.nsIn K mainGlobals "is_integer" = some (some (.ref f7)))
    (l7 : K.lookup f7 = some ⟨oc7, od7, .func (PySem.W.fnOf "is_integer" "is_integer" (defArgs s_is_integer) (defBody s_is_integer) (defScope s_is_integer) .none kV7 dc7 pm7 an7 cd7 ct7), sl7⟩)
    (c7 : PySem.W.codeIn K cd7 "is_integer" = true)
    (k7 : PySem.W.keepIn K (.ref f7) = true)
    (a8 : PySem.W.nsIn K mainGlobals "are_integers" = some (some (.ref f8)))
    (l8 : K.lookup f8 = some ⟨oc8, od8, .func (PySem.W.fnOf "are_integers" "are_integers" (defArgs s_are_integers) (defBody s_are_integers) (defScope s_are_integers) .none kV8 dc8 pm8 an8 cd8 ct8), sl8⟩)
    (c8 : PySem.W.codeIn K cd8 "are_integers" = true)
    (k8 : PySem.W.keepIn K (.ref f8) = true)
    (a9 : PySem.W.nsIn K mainGlobals "is_polynomial" = some (some (.ref f9)))
    (l9 : K.lookup f9 = some ⟨oc9, od9, .func (PySem.W.fnOf "is_polynomial" "is_polynomial" (defArgs s_is_polynomial) (defBody s_is_polynomial) (defScope s_is_polynomial) .none kV9 dc9 pm9 an9 cd9 ct9), sl9⟩)
    (c9 : PySem.W.codeIn K cd9 "is_polynomial" = true)
    (k9 : PySem.W.keepIn K (.ref f9) = true)
    (a10 : PySem.W.nsIn K mainGlobals "require_polynomial" = some (some (.ref f10)))
    (l10 : K.lookup f10 = some ⟨oc10, od10, .func (PySem.W.fnOf "require_polynomial" "require_polynomial" (defArgs s_require_polynomial) (defBody s_require_polynomial) (defScope s_require_polynomial) .none kV10 dc10 pm10 an10 cd10 ct10), sl10⟩)
    (c10 : PySem.W.codeIn K cd10 "require_polynomial" = true)
    (k10 : PySem.W.keepIn K (.ref f10) = true)
    (a11 : PySem.W.nsIn K mainGlobals "without_zeros" = some (some (.ref f11)))
    (l11 : K.lookup f11 = some ⟨oc11, od11, .func (PySem.W.fnOf "without_zeros" "without_zeros" (defArgs s_without_zeros) (defBody s_without_zeros) (defScope s_without_zeros) .none kV11 dc11 pm11 an11 cd11 ct11), sl11⟩)
    (c11 : PySem.W.codeIn K cd11 "without_zeros" = true)
    (k11 : PySem.W.keepIn K (.ref f11) = true)
    (a12 : PySem.W.nsIn K mainGlobals "product_of" = some (some (.ref f12)))
    (l12 : K.lookup f12 = some ⟨oc12, od12, .func (PySem.W.fnOf "product_of" "product_of" (defArgs s_product_of) (defBody s_product_of) (defScope s_product_of) .none kV12 dc12 pm12 an12 cd12 ct12), sl12⟩)
    (c12 : PySem.W.codeIn K cd12 "product_of" = true)
    (k12 : PySem.W.keepIn K (.ref f12) = true)
    (a13 : PySem.W.nsIn K mainGlobals "times" = some (some (.ref f13)))
    (l13 : K.lookup f13 = some ⟨oc13, od13, .func (PySem.W.fnOf "times" "times" (defArgs s_times) (defBody s_times) (defScope s_times) .none kV13 dc13 pm13 an13 cd13 ct13), sl13⟩)
    (c13 : PySem.W.codeIn K cd13 "times" = true)
    (k13 : PySem.W.keepIn K (.ref f13) = true)
    (a14 : PySem.W.nsIn K mainGlobals "division_of" = some (some (.ref f14)))
    (l14 : K.lookup f14 = some ⟨oc14, od14, .func (PySem.W.fnOf "division_of" "division_of" (defArgs s_division_of) (defBody s_division_of) (defScope s_division_of) .none kV14 dc14 pm14 an14 cd14 ct14), sl14⟩)
    (c14 : PySem.W.codeIn K cd14 "division_of" = true)
    (k14 : PySem.W.keepIn K (.ref f14) = true)
    (a15 : PySem.W.nsIn K mainGlobals "divided" = some (some (.ref f15)))
    (l15 : K.lookup f15 = some ⟨oc15, od15, .func (PySem.W.fnOf "divided" "divided" (defArgs s_divided) (defBody s_divided) (defScope s_divided) .none kV15 dc15 pm15 an15 cd15 ct15), sl15⟩)
    (c15 : PySem.W.codeIn K cd15 "divided" = true)
    (k15 : PySem.W.keepIn K (.ref f15) = true)
    (a16 : PySem.W.nsIn K mainGlobals "require_integer" = some (some (.ref f16)))
    (l16 : K.lookup f16 = some ⟨oc16, od16, .func (PySem.W.fnOf "require_integer" "require_integer" (defArgs s_require_integer) (defBody s_require_integer) (defScope s_require_integer) .none kV16 dc16 pm16 an16 cd16 ct16), sl16⟩)
    (c16 : PySem.W.codeIn K cd16 "require_integer" = true)
    (k16 : PySem.W.keepIn K (.ref f16) = true)
    (a17 : PySem.W.nsIn K mainGlobals "value_at" = some (some (.ref f17)))
    (l17 : K.lookup f17 = some ⟨oc17, od17, .func (PySem.W.fnOf "value_at" "value_at" (defArgs s_value_at) (defBody s_value_at) (defScope s_value_at) .none kV17 dc17 pm17 an17 cd17 ct17), sl17⟩)
    (c17 : PySem.W.codeIn K cd17 "value_at" = true)
    (k17 : PySem.W.keepIn K (.ref f17) = true)
    (a18 : PySem.W.nsIn K mainGlobals "_law_errors" = some (some (.ref f18)))
    (l18 : K.lookup f18 = some ⟨oc18, od18, .func (PySem.W.fnOf "_law_errors" "_law_errors" (defArgs s__law_errors) (defBody s__law_errors) (defScope s__law_errors) .none kV18 dc18 pm18 an18 (.ref cc18) ct18), sl18⟩)
    (c18 : PySem.W.codeIn K (.ref cc18) "_law_errors" = true)
    (tc18 : K.lookup cc18 = some ⟨tcl18, tcd18, .fields tv18, tsl18⟩)
    (tp18 : tv18[11]? = some (.ref PT18))
    (np18 : K.lookup PT18 = none)
    (k18 : PySem.W.keepIn K (.ref f18) = true)
    (a19 : PySem.W.nsIn K mainGlobals "_law_added" = some (some (.ref f19)))
    (l19 : K.lookup f19 = some ⟨oc19, od19, .func (PySem.W.fnOf "_law_added" "_law_added" (defArgs s__law_added) (defBody s__law_added) (defScope s__law_added) .none kV19 dc19 pm19 an19 cd19 ct19), sl19⟩)
    (c19 : PySem.W.codeIn K cd19 "_law_added" = true)
    (k19 : PySem.W.keepIn K (.ref f19) = true)
    (a20 : PySem.W.nsIn K mainGlobals "_law_poly_times" = some (some (.ref f20)))
    (l20 : K.lookup f20 = some ⟨oc20, od20, .func (PySem.W.fnOf "_law_poly_times" "_law_poly_times" (defArgs s__law_poly_times) (defBody s__law_poly_times) (defScope s__law_poly_times) .none kV20 dc20 pm20 an20 cd20 ct20), sl20⟩)
    (c20 : PySem.W.codeIn K cd20 "_law_poly_times" = true)
    (k20 : PySem.W.keepIn K (.ref f20) = true)
    (a21 : PySem.W.nsIn K mainGlobals "_law_poly_rest" = some (some (.ref f21)))
    (l21 : K.lookup f21 = some ⟨oc21, od21, .func (PySem.W.fnOf "_law_poly_rest" "_law_poly_rest" (defArgs s__law_poly_rest) (defBody s__law_poly_rest) (defScope s__law_poly_rest) .none kV21 dc21 pm21 an21 cd21 ct21), sl21⟩)
    (c21 : PySem.W.codeIn K cd21 "_law_poly_rest" = true)
    (k21 : PySem.W.keepIn K (.ref f21) = true)
    (a22 : PySem.W.nsIn K mainGlobals "_law_worth" = some (some (.ref f22)))
    (l22 : K.lookup f22 = some ⟨oc22, od22, .func (PySem.W.fnOf "_law_worth" "_law_worth" (defArgs s__law_worth) (defBody s__law_worth) (defScope s__law_worth) .none kV22 dc22 pm22 an22 cd22 ct22), sl22⟩)
    (c22 : PySem.W.codeIn K cd22 "_law_worth" = true)
    (k22 : PySem.W.keepIn K (.ref f22) = true)
    (a23 : PySem.W.nsIn K mainGlobals "_law_right" = some (some (.ref f23)))
    (l23 : K.lookup f23 = some ⟨oc23, od23, .func (PySem.W.fnOf "_law_right" "_law_right" (defArgs s__law_right) (defBody s__law_right) (defScope s__law_right) .none kV23 dc23 pm23 an23 (.ref cc23) ct23), sl23⟩)
    (c23 : PySem.W.codeIn K (.ref cc23) "_law_right" = true)
    (tc23 : K.lookup cc23 = some ⟨tcl23, tcd23, .fields tv23, tsl23⟩)
    (tp23 : tv23[11]? = some (.ref PT23))
    (np23 : K.lookup PT23 = none)
    (k23 : PySem.W.keepIn K (.ref f23) = true)
    (a24 : PySem.W.nsIn K mainGlobals "_law_dice" = some (some (.ref f24)))
    (l24 : K.lookup f24 = some ⟨oc24, od24, .func (PySem.W.fnOf "_law_dice" "_law_dice" (defArgs s__law_dice) (defBody s__law_dice) (defScope s__law_dice) .none kV24 dc24 pm24 an24 cd24 ct24), sl24⟩)
    (c24 : PySem.W.codeIn K cd24 "_law_dice" = true)
    (k24 : PySem.W.keepIn K (.ref f24) = true)
    (a25 : PySem.W.nsIn K mainGlobals "law" = some (some (.ref f25)))
    (l25 : K.lookup f25 = some ⟨oc25, od25, .func (PySem.W.fnOf "law" "law" (defArgs s_law) (defBody s_law) (defScope s_law) .none kV25 dc25 pm25 an25 cd25 ct25), sl25⟩)
    (c25 : PySem.W.codeIn K cd25 "law" = true)
    (k25 : PySem.W.keepIn K (.ref f25) = true)
    (dp18_23 : PT18 ≠ PT23)
    (z_GREATEST : PySem.W.nsIn K mainGlobals "GREATEST" = some (some (.int (1000000000000000000000000000000000000000000000000000000000000) t_GREATEST)))
    (z_MAX_TERMS : PySem.W.nsIn K mainGlobals "MAX_TERMS" = some (some (.int (400) t_MAX_TERMS)))
    (su_0_1 : PySem.W.subIn K (.ref C0) (.ref C1) = some false)
    (su_1_1 : PySem.W.subIn K (.ref C1) (.ref C1) = some true)
    (su_2_1 : PySem.W.subIn K (.ref C2) (.ref C1) = some false)
    (su_0_0 : PySem.W.subIn K (.ref C0) (.ref C0) = some true)
    (su_1_0 : PySem.W.subIn K (.ref C1) (.ref C0) = some false)
    (su_2_0 : PySem.W.subIn K (.ref C2) (.ref C0) = some false)
    (su_0_2 : PySem.W.subIn K (.ref C0) (.ref C2) = some false)
    (su_1_2 : PySem.W.subIn K (.ref C1) (.ref C2) = some false)
    (su_2_2 : PySem.W.subIn K (.ref C2) (.ref C2) = some true)
    (z_abs : PySem.W.nsIn K mainGlobals "abs" = some none)
    (z_all : PySem.W.nsIn K mainGlobals "all" = some none)
    (z_bool : PySem.W.nsIn K mainGlobals "bool" = some none)
    (z_enumerate : PySem.W.nsIn K mainGlobals "enumerate" = some none)
    (z_int : PySem.W.nsIn K mainGlobals "int" = some none)
    (z_isinstance : PySem.W.nsIn K mainGlobals "isinstance" = some none)
    (z_len : PySem.W.nsIn K mainGlobals "len" = some none)
    (z_list : PySem.W.nsIn K mainGlobals "list" = some none)
    (z_max : PySem.W.nsIn K mainGlobals "max" = some none)
    (z_min : PySem.W.nsIn K mainGlobals "min" = some none)
    (z_range : PySem.W.nsIn K mainGlobals "range" = some none)
    (z_repr : PySem.W.nsIn K mainGlobals "repr" = some none)
    (z_tuple : PySem.W.nsIn K mainGlobals "tuple" = some none)
    (z_zip : PySem.W.nsIn K mainGlobals "zip" = some none)
    (u_bool_bool : PySem.W.kitOne K (.type "bool") (.type "bool") = some true)
    (u_bool_int : PySem.W.kitOne K (.type "int") (.type "bool") = some false)
    (u_bool_str : PySem.W.kitOne K (.type "str") (.type "bool") = some false)
    (u_bool_list : PySem.W.kitOne K (.type "list") (.type "bool") = some false)
    (u_bool_tuple : PySem.W.kitOne K (.type "tuple") (.type "bool") = some false)
    (u_bool_NoneType : PySem.W.kitOne K (.type "NoneType") (.type "bool") = some false)
    (u_bool_dict : PySem.W.kitOne K (.type "dict") (.type "bool") = some false)
    (u_int_bool : PySem.W.kitOne K (.type "bool") (.type "int") = some true)
    (u_int_int : PySem.W.kitOne K (.type "int") (.type "int") = some true)
    (u_int_str : PySem.W.kitOne K (.type "str") (.type "int") = some false)
    (u_int_list : PySem.W.kitOne K (.type "list") (.type "int") = some false)
    (u_int_tuple : PySem.W.kitOne K (.type "tuple") (.type "int") = some false)
    (u_int_NoneType : PySem.W.kitOne K (.type "NoneType") (.type "int") = some false)
    (u_int_dict : PySem.W.kitOne K (.type "dict") (.type "int") = some false)
    (u_tuple_bool : PySem.W.kitOne K (.type "bool") (.type "tuple") = some false)
    (u_tuple_int : PySem.W.kitOne K (.type "int") (.type "tuple") = some false)
    (u_tuple_str : PySem.W.kitOne K (.type "str") (.type "tuple") = some false)
    (u_tuple_list : PySem.W.kitOne K (.type "list") (.type "tuple") = some false)
    (u_tuple_tuple : PySem.W.kitOne K (.type "tuple") (.type "tuple") = some true)
    (u_tuple_NoneType : PySem.W.kitOne K (.type "NoneType") (.type "tuple") = some false)
    (u_tuple_dict : PySem.W.kitOne K (.type "dict") (.type "tuple") = some false) :
    ∃ (fd : FuncData) (cs : List (Addr × Addr × Str)), (∀ p ∈ cs, ∃ x ∈ (["_law_errors", "_law_right"] : List Str), PySem.W.tabIn K x = some (p.1, p.2.1)) ∧ (∀ p ∈ cs, K.lookup p.2.1 = none) ∧ (∀ (s : Shared) (u : Value), BindsTo s fd ⟨[u], []⟩ [("_law_script", u)]) ∧ ∀ base : Heap, K.In base → base.Ns mainGlobals mg → (∀ p ∈ cs, LamX.TabB base mg p.1 p.2.1) → Sy base → FnG P w K mg base (L2.CX P w) 10 fa fd ["_law_script"] (spLaw K (cs.map fun p => (p.2.1, p.2.2)) m_law) := by
  have e := hfa.symm.trans (PySem.W.mg_of KX G a25)
  cases e
  have T : Tx K mg ⟨fun n => [C0, C1, C2].getD n 0, fun n => (["", "value", "reason"] : List Str).getD n "", [(PT18, lamName "_law_errors"), (PT23, lamName "_law_right")]⟩ := {
    g_GREATEST := ⟨_, PySem.W.mg_of KX G z_GREATEST⟩,
    g_MAX_TERMS := ⟨_, PySem.W.mg_of KX G z_MAX_TERMS⟩,
    k_InvalidNumber := PySem.W.mg_of KX G a_InvalidNumber,
    k_InvalidOperation := PySem.W.mg_of KX G a_InvalidOperation,
    k_Refused := PySem.W.mg_of KX G a_Refused,
    m_InvalidNumber := xm_of ex_InvalidNumber ty_InvalidNumber ic_InvalidNumber (mcons su_0_1 (mcons su_1_1 (mcons su_2_1 mnil))),
    m_InvalidOperation := xm_of ex_InvalidOperation ty_InvalidOperation ic_InvalidOperation (mcons su_0_0 (mcons su_1_0 (mcons su_2_0 mnil))),
    m_Refused := xm_of ex_Refused ty_Refused ic_Refused (mcons su_0_2 (mcons su_1_2 (mcons su_2_2 mnil))),
    n_abs := PySem.W.mg_none_of KX G z_abs,
    n_all := PySem.W.mg_none_of KX G z_all,
    n_bool := PySem.W.mg_none_of KX G z_bool,
    n_enumerate := PySem.W.mg_none_of KX G z_enumerate,
    n_int := PySem.W.mg_none_of KX G z_int,
    n_isinstance := PySem.W.mg_none_of KX G z_isinstance,
    n_len := PySem.W.mg_none_of KX G z_len,
    n_list := PySem.W.mg_none_of KX G z_list,
    n_max := PySem.W.mg_none_of KX G z_max,
    n_min := PySem.W.mg_none_of KX G z_min,
    n_range := PySem.W.mg_none_of KX G z_range,
    n_repr := PySem.W.mg_none_of KX G z_repr,
    n_tuple := PySem.W.mg_none_of KX G z_tuple,
    n_zip := PySem.W.mg_none_of KX G z_zip,
    u_InvalidNumber := ⟨rfl, ⟨ga_InvalidNumber, gg_InvalidNumber, ex_InvalidNumber, hd_InvalidNumber⟩, gf_InvalidNumber⟩,
    u_Refused := ⟨rfl, ⟨ga_Refused, gg_Refused, ex_Refused, hd_Refused⟩, gf_Refused⟩,
    y_InvalidOperation := ⟨PySem.W.mg_of KX G a_InvalidOperation, kc_InvalidOperation, ex_InvalidOperation, ty_InvalidOperation, _, _, _, _, PySem.F.excBase_ValueError, xe_InvalidOperation⟩,
    i_bool := isiF_of (mcons u_bool_bool (mcons u_bool_int (mcons u_bool_str (mcons u_bool_list (mcons u_bool_tuple (mcons u_bool_NoneType (mcons u_bool_dict mnil))))))) mnil,
    i_int := isiF_of (mcons u_int_bool (mcons u_int_int (mcons u_int_str (mcons u_int_list (mcons u_int_tuple (mcons u_int_NoneType (mcons u_int_dict mnil))))))) mnil,
    i_tuple := isiF_of (mcons u_tuple_bool (mcons u_tuple_int (mcons u_tuple_str (mcons u_tuple_list (mcons u_tuple_tuple (mcons u_tuple_NoneType (mcons u_tuple_dict mnil))))))) mnil }
  have F0 := fun_mkV (st := s__law_roll) l0 c0 k0
  have B0 : Binds K (PySem.W.fnOf "_law_roll" "_law_roll" (defArgs s__law_roll) (defBody s__law_roll) (defScope s__law_roll) .none kV0 dc0 pm0 an0 cd0 ct0) ["_law_dice_here", "_law_total"] [] := .all fun us hl => match us, hl with | [_, _], _ => rfl
  have F1 := fun_mkV (st := s__law_pick) l1 c1 k1
  have B1 : Binds K (PySem.W.fnOf "_law_pick" "_law_pick" (defArgs s__law_pick) (defBody s__law_pick) (defScope s__law_pick) .none kV1 dc1 pm1 an1 cd1 ct1) ["_law_dice_here", "_law_items"] [] := .all fun us hl => match us, hl with | [_, _], _ => rfl
  have F2 := fun_mkV (st := s__law_told) l2 c2 k2
  have B2 : Binds K (PySem.W.fnOf "_law_told" "_law_told" (defArgs s__law_told) (defBody s__law_told) (defScope s__law_told) .none kV2 dc2 pm2 an2 cd2 ct2) ["_law_call"] [] := .all fun us hl => match us, hl with | [_], _ => rfl
  have F3 := fun_mkV (st := s__law_trimmed) l3 c3 k3
  have B3 : Binds K (PySem.W.fnOf "_law_trimmed" "_law_trimmed" (defArgs s__law_trimmed) (defBody s__law_trimmed) (defScope s__law_trimmed) .none kV3 dc3 pm3 an3 cd3 ct3) ["_law_numbers"] [] := .all fun us hl => match us, hl with | [_], _ => rfl
  have F4 := fun_mkV (st := s__law_poly) l4 c4 k4
  have B4 : Binds K (PySem.W.fnOf "_law_poly" "_law_poly" (defArgs s__law_poly) (defBody s__law_poly) (defScope s__law_poly) .none kV4 dc4 pm4 an4 cd4 ct4) ["_law_dice_here", "_law_most"] [] := .all fun us hl => match us, hl with | [_, _], _ => rfl
  have F5 := fun_mkV (st := s__law_no_int) l5 c5 k5
  have B5 : Binds K (PySem.W.fnOf "_law_no_int" "_law_no_int" (defArgs s__law_no_int) (defBody s__law_no_int) (defScope s__law_no_int) .none kV5 dc5 pm5 an5 cd5 ct5) ["_law_dice_here"] [] := .all fun us hl => match us, hl with | [_], _ => rfl
  have F6 := fun_mkV (st := s__law_wrong) l6 c6 k6
  have B6 : Binds K (PySem.W.fnOf "_law_wrong" "_law_wrong" (defArgs s__law_wrong) (defBody s__law_wrong) (defScope s__law_wrong) .none kV6 dc6 pm6 an6 cd6 ct6) ["_law_dice_here"] [] := .all fun us hl => match us, hl with | [_], _ => rfl
  have F7 := fun_mkV (st := s_is_integer) l7 c7 k7
  have B7 : Binds K (PySem.W.fnOf "is_integer" "is_integer" (defArgs s_is_integer) (defBody s_is_integer) (defScope s_is_integer) .none kV7 dc7 pm7 an7 cd7 ct7) ["value"] [] := .all fun us hl => match us, hl with | [_], _ => rfl
  have F8 := fun_mkV (st := s_are_integers) l8 c8 k8
  have B8 : Binds K (PySem.W.fnOf "are_integers" "are_integers" (defArgs s_are_integers) (defBody s_are_integers) (defScope s_are_integers) .none kV8 dc8 pm8 an8 cd8 ct8) ["value"] [] := .all fun us hl => match us, hl with | [_], _ => rfl
  have F9 := fun_mkV (st := s_is_polynomial) l9 c9 k9
  have B9 : Binds K (PySem.W.fnOf "is_polynomial" "is_polynomial" (defArgs s_is_polynomial) (defBody s_is_polynomial) (defScope s_is_polynomial) .none kV9 dc9 pm9 an9 cd9 ct9) ["value"] [] := .all fun us hl => match us, hl with | [_], _ => rfl
  have F10 := fun_mkV (st := s_require_polynomial) l10 c10 k10
  have B10 : Binds K (PySem.W.fnOf "require_polynomial" "require_polynomial" (defArgs s_require_polynomial) (defBody s_require_polynomial) (defScope s_require_polynomial) .none kV10 dc10 pm10 an10 cd10 ct10) ["value"] [] := .all fun us hl => match us, hl with | [_], _ => rfl
  have F11 := fun_mkV (st := s_without_zeros) l11 c11 k11
  have B11 : Binds K (PySem.W.fnOf "without_zeros" "without_zeros" (defArgs s_without_zeros) (defBody s_without_zeros) (defScope s_without_zeros) .none kV11 dc11 pm11 an11 cd11 ct11) ["numbers"] [] := .all fun us hl => match us, hl with | [_], _ => rfl
  have F12 := fun_mkV (st := s_product_of) l12 c12 k12
  have B12 : Binds K (PySem.W.fnOf "product_of" "product_of" (defArgs s_product_of) (defBody s_product_of) (defScope s_product_of) .none kV12 dc12 pm12 an12 cd12 ct12) ["one", "other"] [] := .all fun us hl => match us, hl with | [_, _], _ => rfl
  have F13 := fun_mkV (st := s_times) l13 c13 k13
  have B13 : Binds K (PySem.W.fnOf "times" "times" (defArgs s_times) (defBody s_times) (defScope s_times) .none kV13 dc13 pm13 an13 cd13 ct13) ["one", "other"] [] := .all fun us hl => match us, hl with | [_, _], _ => rfl
  have F14 := fun_mkV (st := s_division_of) l14 c14 k14
  have B14 : Binds K (PySem.W.fnOf "division_of" "division_of" (defArgs s_division_of) (defBody s_division_of) (defScope s_division_of) .none kV14 dc14 pm14 an14 cd14 ct14) ["one", "other"] [] := .all fun us hl => match us, hl with | [_, _], _ => rfl
  have F15 := fun_mkV (st := s_divided) l15 c15 k15
  have B15 : Binds K (PySem.W.fnOf "divided" "divided" (defArgs s_divided) (defBody s_divided) (defScope s_divided) .none kV15 dc15 pm15 an15 cd15 ct15) ["one", "other"] [] := .all fun us hl => match us, hl with | [_, _], _ => rfl
  have F16 := fun_mkV (st := s_require_integer) l16 c16 k16
  have B16 : Binds K (PySem.W.fnOf "require_integer" "require_integer" (defArgs s_require_integer) (defBody s_require_integer) (defScope s_require_integer) .none kV16 dc16 pm16 an16 cd16 ct16) ["value"] [] := .all fun us hl => match us, hl with | [_], _ => rfl
  have F17 := fun_mkV (st := s_value_at) l17 c17 k17
  have B17 : Binds K (PySem.W.fnOf "value_at" "value_at" (defArgs s_value_at) (defBody s_value_at) (defScope s_value_at) .none kV17 dc17 pm17 an17 cd17 ct17) ["polynomial", "x"] [] := .all fun us hl => match us, hl with | [_, _], _ => rfl
  have F18 := fun_mkV (st := s__law_errors) l18 c18 k18
  have B18 : Binds K (PySem.W.fnOf "_law_errors" "_law_errors" (defArgs s__law_errors) (defBody s__law_errors) (defScope s__law_errors) .none kV18 dc18 pm18 an18 (.ref cc18) ct18) ["_law_dice_here", "_law_one"] [] := .all fun us hl => match us, hl with | [_, _], _ => rfl
  have F19 := fun_mkV (st := s__law_added) l19 c19 k19
  have B19 : Binds K (PySem.W.fnOf "_law_added" "_law_added" (defArgs s__law_added) (defBody s__law_added) (defScope s__law_added) .none kV19 dc19 pm19 an19 cd19 ct19) ["_law_one", "_law_other"] [] := .all fun us hl => match us, hl with | [_, _], _ => rfl
  have F20 := fun_mkV (st := s__law_poly_times) l20 c20 k20
  have B20 : Binds K (PySem.W.fnOf "_law_poly_times" "_law_poly_times" (defArgs s__law_poly_times) (defBody s__law_poly_times) (defScope s__law_poly_times) .none kV20 dc20 pm20 an20 cd20 ct20) ["_law_one", "_law_other"] [] := .all fun us hl => match us, hl with | [_, _], _ => rfl
  have F21 := fun_mkV (st := s__law_poly_rest) l21 c21 k21
  have B21 : Binds K (PySem.W.fnOf "_law_poly_rest" "_law_poly_rest" (defArgs s__law_poly_rest) (defBody s__law_poly_rest) (defScope s__law_poly_rest) .none kV21 dc21 pm21 an21 cd21 ct21) ["_law_one", "_law_other"] [] := .all fun us hl => match us, hl with | [_, _], _ => rfl
  have F22 := fun_mkV (st := s__law_worth) l22 c22 k22
  have B22 : Binds K (PySem.W.fnOf "_law_worth" "_law_worth" (defArgs s__law_worth) (defBody s__law_worth) (defScope s__law_worth) .none kV22 dc22 pm22 an22 cd22 ct22) ["_law_poly_here", "_law_x"] [] := .all fun us hl => match us, hl with | [_, _], _ => rfl
  have F23 := fun_mkV (st := s__law_right) l23 c23 k23
  have B23 : Binds K (PySem.W.fnOf "_law_right" "_law_right" (defArgs s__law_right) (defBody s__law_right) (defScope s__law_right) .none kV23 dc23 pm23 an23 (.ref cc23) ct23) ["_law_dice_here"] [] := .all fun us hl => match us, hl with | [_], _ => rfl
  have F24 := fun_mkV (st := s__law_dice) l24 c24 k24
  have B24 : Binds K (PySem.W.fnOf "_law_dice" "_law_dice" (defArgs s__law_dice) (defBody s__law_dice) (defScope s__law_dice) .none kV24 dc24 pm24 an24 cd24 ct24) ["_law_script", "_law_spot"] [] := .all fun us hl => match us, hl with | [_, _], _ => rfl
  have F25 := fun_mkV (st := s_law) l25 c25 k25
  have B25 : Binds K (PySem.W.fnOf "law" "law" (defArgs s_law) (defBody s_law) (defScope s_law) .none kV25 dc25 pm25 an25 cd25 ct25) ["_law_script"] [] := .all fun us hl => match us, hl with | [_], _ => rfl
  have TI18 : PySem.W.tabIn K "_law_errors" = some (cc18, PT18) := by
    unfold PySem.W.tabIn
    rw [a18]
    dsimp only
    rw [l18]
    dsimp only [PySem.W.fnOf]
    rw [tc18]
    dsimp only
    rw [tp18]
  have TI23 : PySem.W.tabIn K "_law_right" = some (cc23, PT23) := by
    unfold PySem.W.tabIn
    rw [a23]
    dsimp only
    rw [l23]
    dsimp only [PySem.W.fnOf]
    rw [tc23]
    dsimp only
    rw [tp23]
  refine ⟨PySem.W.fnOf "law" "law" (defArgs s_law) (defBody s_law) (defScope s_law) .none kV25 dc25 pm25 an25 cd25 ct25, [(cc18, PT18, lamName "_law_errors"), (cc23, PT23, lamName "_law_right")], (mcons ⟨_, by simp, TI18⟩ (mcons ⟨_, by simp, TI23⟩ mnil)), (mcons np18 (mcons np23 mnil)), fun s v => .of_eq rfl, fun base _ _ tabs sy => ?_⟩
  have X_InvalidNumber : SupC P K mg "InvalidNumber" C1 "value" := ⟨PySem.W.mg_of KX G a_InvalidNumber, kc_InvalidNumber, ex_InvalidNumber, ty_InvalidNumber, PySem.W.mg_none_of KX G n_super, top_super, n_any, Option.isSome_iff_exists.mp ic_InvalidNumber, hs_InvalidNumber, st_InvalidNumber, tk_InvalidNumber, hd_InvalidNumber, _, _, _, _, _, bx_IndexError, in_InvalidNumber, fn_InvalidNumber, sp_InvalidNumber, sb_InvalidNumber, ei_InvalidNumber, eo_InvalidNumber,
    SupF.mk lx_InvalidNumber cx_InvalidNumber (fun _ _ _ => .of_eq rfl) rfl rfl (by decide) (fun _ => rfl) co_InvalidNumber vs_InvalidNumber fi_InvalidNumber ce_InvalidNumber rfl rfl rfl rfl rfl rfl rfl (by decide) (by decide) (by decide)⟩
  have X_Refused : SupC P K mg "Refused" C2 "reason" := ⟨PySem.W.mg_of KX G a_Refused, kc_Refused, ex_Refused, ty_Refused, PySem.W.mg_none_of KX G n_super, top_super, n_any, Option.isSome_iff_exists.mp ic_Refused, hs_Refused, st_Refused, tk_Refused, hd_Refused, _, _, _, _, _, bx_ArithmeticError, in_Refused, fn_Refused, sp_Refused, sb_Refused, ei_Refused, eo_Refused,
    SupF.mk lx_Refused cx_Refused (fun _ _ _ => .of_eq rfl) rfl rfl (by decide) (fun _ => rfl) co_Refused vs_Refused fi_Refused ce_Refused rfl rfl rfl rfl rfl rfl rfl (by decide) (by decide) (by decide)⟩
  have D__law_roll := df_of (ok__law_roll (P := P) (w := w) (base := base) F0 T sy) B0 (PySem.W.mg_of KX G a0) k0
  have D__law_pick := df_of (ok__law_pick (P := P) (w := w) (base := base) F1 T sy D__law_roll) B1 (PySem.W.mg_of KX G a1) k1
  have Q__law_told := told__law_told (P := P) (w := w) (base := base) F2 B2 (PySem.W.mg_of KX G a2) k2 T
  have D__law_trimmed := df_of (ok__law_trimmed (P := P) (w := w) (base := base) F3 T sy) B3 (PySem.W.mg_of KX G a3) k3
  have D__law_poly := df_of (ok__law_poly (P := P) (w := w) (base := base) F4 T sy D__law_pick D__law_trimmed D__law_roll) B4 (PySem.W.mg_of KX G a4) k4
  have D__law_no_int := df_of (ok__law_no_int (P := P) (w := w) (base := base) F5 T sy D__law_pick) B5 (PySem.W.mg_of KX G a5) k5
  have D__law_wrong := df_of (ok__law_wrong (P := P) (w := w) (base := base) F6 T sy D__law_pick) B6 (PySem.W.mg_of KX G a6) k6
  have D_is_integer := df_of (ok_is_integer (P := P) (w := w) (base := base) F7 T sy) B7 (PySem.W.mg_of KX G a7) k7
  have D_are_integers := df_of (ok_are_integers (P := P) (w := w) (base := base) F8 T sy D_is_integer) B8 (PySem.W.mg_of KX G a8) k8
  have D_is_polynomial := df_of (ok_is_polynomial (P := P) (w := w) (base := base) F9 T sy D_are_integers) B9 (PySem.W.mg_of KX G a9) k9
  have D_require_polynomial := df_of (ok_require_polynomial (P := P) (w := w) (base := base) F10 T sy D_is_polynomial) B10 (PySem.W.mg_of KX G a10) k10
  have D_without_zeros := df_of (ok_without_zeros (P := P) (w := w) (base := base) F11 T sy) B11 (PySem.W.mg_of KX G a11) k11
  have D_product_of := df_of (ok_product_of (P := P) (w := w) (base := base) F12 T sy D_without_zeros) B12 (PySem.W.mg_of KX G a12) k12
  have D_times := df_of (ok_times (P := P) (w := w) (base := base) F13 T sy D_require_polynomial D_product_of) B13 (PySem.W.mg_of KX G a13) k13
  have D_division_of := df_of (ok_division_of (P := P) (w := w) (base := base) F14 T sy D_without_zeros) B14 (PySem.W.mg_of KX G a14) k14
  have D_divided := df_of (ok_divided (P := P) (w := w) (base := base) F15 T sy D_require_polynomial D_division_of X_Refused) B15 (PySem.W.mg_of KX G a15) k15
  have D_require_integer := df_of (ok_require_integer (P := P) (w := w) (base := base) F16 T sy D_is_integer X_InvalidNumber) B16 (PySem.W.mg_of KX G a16) k16
  have D_value_at := df_of (ok_value_at (P := P) (w := w) (base := base) F17 T sy D_require_polynomial D_require_integer) B17 (PySem.W.mg_of KX G a17) k17
  have D__law_errors := df_of (ok__law_errors (P := P) (w := w) (base := base) F18 rfl (tabs (cc18, PT18, lamName "_law_errors") (by simp)) (by simp) (by simp [dp18_23, dp18_23.symm]) T sy D__law_no_int D__law_wrong Q__law_told D_times D_divided D_value_at) B18 (PySem.W.mg_of KX G a18) k18
  have D__law_added := df_of (ok__law_added (P := P) (w := w) (base := base) F19 T sy D__law_trimmed) B19 (PySem.W.mg_of KX G a19) k19
  have D__law_poly_times := df_of (ok__law_poly_times (P := P) (w := w) (base := base) F20 T sy D__law_trimmed) B20 (PySem.W.mg_of KX G a20) k20
  have D__law_poly_rest := df_of (ok__law_poly_rest (P := P) (w := w) (base := base) F21 T sy D__law_trimmed) B21 (PySem.W.mg_of KX G a21) k21
  have D__law_worth := df_of (ok__law_worth (P := P) (w := w) (base := base) F22 T sy) B22 (PySem.W.mg_of KX G a22) k22
  have D__law_right := df_of (ok__law_right (P := P) (w := w) (base := base) F23 rfl (tabs (cc23, PT23, lamName "_law_right") (by simp)) (by simp) (by simp [dp18_23, dp18_23.symm]) T sy D__law_pick Q__law_told D__law_poly D__law_errors D_times D_divided D__law_added D__law_poly_times D__law_poly_rest D__law_trimmed D_value_at D__law_worth) B23 (PySem.W.mg_of KX G a23) k23
  have D__law_dice := dfO_of (ok__law_dice (P := P) (w := w) (base := base) F24 T sy) B24 (PySem.W.mg_of KX G a24) k24
  exact ((ok_law (P := P) (w := w) (base := base) F25 T sy D__law_right D_times D_value_at D_divided D__law_dice)).imp fun vs H Q E h => h _ rfl
end K48
open PySem PySem.W PyProof.Rows
set_option maxRecDepth 100000 in
set_option maxHeartbeats 0 in
theorem PySem.Challenge.cw_slantways_k48_whole_polynomials_holds : PySem.Challenge.rw_slantways_k48_whole_polynomials.Holds := by
  w_on; o_law; k_head; (case hw => w_witness2)
  k_fill
  refine L2.DL.walk_ofT (xs := ["_law_errors", "_law_right"]) (l := PySem.Challenge.rw_slantways_k48_whole_polynomials) (k := 10) K48.good rfl rfl ⟨rfl, by decide, by decide⟩ (by first | rfl | decide +kernel) (by first | rfl | decide +kernel) (fun w h Y => PySem.W.km_in_of Y) ?F
  case F =>
    intro w mg fa h KX G hmg
    refine' K48.all_mk KX G hmg ?a_InvalidOperation ?kc_InvalidOperation ?ic_InvalidOperation ?ex_InvalidOperation ?ty_InvalidOperation ?xe_InvalidOperation ?a_InvalidNumber ?kc_InvalidNumber ?ic_InvalidNumber ?ex_InvalidNumber ?ty_InvalidNumber ?ga_InvalidNumber ?gg_InvalidNumber ?gf_InvalidNumber ?hd_InvalidNumber ?a_Refused ?kc_Refused ?ic_Refused ?ex_Refused ?ty_Refused ?ga_Refused ?gg_Refused ?gf_Refused ?hd_Refused ?n_super ?n_any ?top_super ?hs_InvalidNumber ?st_InvalidNumber ?tk_InvalidNumber ?in_InvalidNumber ?fn_InvalidNumber ?sb_InvalidNumber ?sp_InvalidNumber ?ei_InvalidNumber ?eo_InvalidNumber ?lx_InvalidNumber ?cx_InvalidNumber ?co_InvalidNumber ?vs_InvalidNumber ?fi_InvalidNumber ?ce_InvalidNumber ?hs_Refused ?st_Refused ?tk_Refused ?in_Refused ?fn_Refused ?sb_Refused ?sp_Refused ?ei_Refused ?eo_Refused ?lx_Refused ?cx_Refused ?co_Refused ?vs_Refused ?fi_Refused ?ce_Refused ?a0 ?l0 ?c0 ?k0 ?a1 ?l1 ?c1 ?k1 ?a2 ?l2 ?c2 ?k2 ?a3 ?l3 ?c3 ?k3 ?a4 ?l4 ?c4 ?k4 ?a5 ?l5 ?c5 ?k5 ?a6 ?l6 ?c6 ?k6 ?a7 ?l7 ?c7 ?k7 ?a8 ?l8 ?c8 ?k8 ?a9 ?l9 ?c9 ?k9 ?a10 ?l10 ?c10 ?k10 ?a11 ?l11 ?c11 ?k11 ?a12 ?l12 ?c12 ?k12 ?a13 ?l13 ?c13 ?k13 ?a14 ?l14 ?c14 ?k14 ?a15 ?l15 ?c15 ?k15 ?a16 ?l16 ?c16 ?k16 ?a17 ?l17 ?c17 ?k17 ?a18 ?l18 ?c18 ?tc18 ?tp18 ?np18 ?k18 ?a19 ?l19 ?c19 ?k19 ?a20 ?l20 ?c20 ?k20 ?a21 ?l21 ?c21 ?k21 ?a22 ?l22 ?c22 ?k22 ?a23 ?l23 ?c23 ?tc23 ?tp23 ?np23 ?k23 ?a24 ?l24 ?c24 ?k24 ?a25 ?l25 ?c25 ?k25 ?dp18_23 ?z_GREATEST ?z_MAX_TERMS ?su_0_1 ?su_1_1 ?su_2_1 ?su_0_0 ?su_1_0 ?su_2_0 ?su_0_2 ?su_1_2 ?su_2_2 ?z_abs ?z_all ?z_bool ?z_enumerate ?z_int ?z_isinstance ?z_len ?z_list ?z_max ?z_min ?z_range ?z_repr ?z_tuple ?z_zip ?u_bool_bool ?u_bool_int ?u_bool_str ?u_bool_list ?u_bool_tuple ?u_bool_NoneType ?u_bool_dict ?u_int_bool ?u_int_int ?u_int_str ?u_int_list ?u_int_tuple ?u_int_NoneType ?u_int_dict ?u_tuple_bool ?u_tuple_int ?u_tuple_str ?u_tuple_list ?u_tuple_tuple ?u_tuple_NoneType ?u_tuple_dict
    (case a_InvalidOperation => k_is); (case kc_InvalidOperation => k_is); (case ic_InvalidOperation => k_is); (case ex_InvalidOperation => k_is); (case ty_InvalidOperation => k_is); (case xe_InvalidOperation => k_exc)
    (case a_InvalidNumber => k_is); (case kc_InvalidNumber => k_is); (case ic_InvalidNumber => k_is); (case ex_InvalidNumber => k_is); (case ty_InvalidNumber => k_is); (case ga_InvalidNumber => k_is)
    (case gg_InvalidNumber => k_is); (case gf_InvalidNumber => k_is); (case hd_InvalidNumber => k_is); (case a_Refused => k_is); (case kc_Refused => k_is); (case ic_Refused => k_is)
    (case ex_Refused => k_is); (case ty_Refused => k_is); (case ga_Refused => k_is); (case gg_Refused => k_is); (case gf_Refused => k_is); (case hd_Refused => k_is)
    (case n_super => k_is); (case n_any => k_is); (case top_super => first | rfl | decide +kernel); (case hs_InvalidNumber => k_is); (case st_InvalidNumber => k_is); (case tk_InvalidNumber => k_is)
    (case in_InvalidNumber => k_is); (case fn_InvalidNumber => k_is); (case sb_InvalidNumber => k_is); (case sp_InvalidNumber => ks_is); (case ei_InvalidNumber => kx_is); (case eo_InvalidNumber => kx_is)
    (case lx_InvalidNumber => k_is); (case cx_InvalidNumber => k_is); (case co_InvalidNumber => k_is); (case vs_InvalidNumber => exact rfl); (case fi_InvalidNumber => first | rfl | decide +kernel); (case ce_InvalidNumber => k_is)
    (case hs_Refused => k_is); (case st_Refused => k_is); (case tk_Refused => k_is); (case in_Refused => k_is); (case fn_Refused => k_is); (case sb_Refused => k_is)
    (case sp_Refused => ks_is); (case ei_Refused => kx_is); (case eo_Refused => kx_is); (case lx_Refused => k_is); (case cx_Refused => k_is); (case co_Refused => k_is)
    (case vs_Refused => exact rfl); (case fi_Refused => first | rfl | decide +kernel); (case ce_Refused => k_is); (case a0 => k_is); (case l0 => k_is); (case c0 => k_is)
    (case k0 => k_is); (case a1 => k_is); (case l1 => k_is); (case c1 => k_is); (case k1 => k_is); (case a2 => k_is)
    (case l2 => k_is); (case c2 => k_is); (case k2 => k_is); (case a3 => k_is); (case l3 => k_is); (case c3 => k_is)
    (case k3 => k_is); (case a4 => k_is); (case l4 => k_is); (case c4 => k_is); (case k4 => k_is); (case a5 => k_is)
    (case l5 => k_is); (case c5 => k_is); (case k5 => k_is); (case a6 => k_is); (case l6 => k_is); (case c6 => k_is)
    (case k6 => k_is); (case a7 => k_is); (case l7 => k_is); (case c7 => k_is); (case k7 => k_is); (case a8 => k_is)
    (case l8 => k_is); (case c8 => k_is); (case k8 => k_is); (case a9 => k_is); (case l9 => k_is); (case c9 => k_is)
    (case k9 => k_is); (case a10 => k_is); (case l10 => k_is); (case c10 => k_is); (case k10 => k_is); (case a11 => k_is)
    (case l11 => k_is); (case c11 => k_is); (case k11 => k_is); (case a12 => k_is); (case l12 => k_is); (case c12 => k_is)
    (case k12 => k_is); (case a13 => k_is); (case l13 => k_is); (case c13 => k_is); (case k13 => k_is); (case a14 => k_is)
    (case l14 => k_is); (case c14 => k_is); (case k14 => k_is); (case a15 => k_is); (case l15 => k_is); (case c15 => k_is)
    (case k15 => k_is); (case a16 => k_is); (case l16 => k_is); (case c16 => k_is); (case k16 => k_is); (case a17 => k_is)
    (case l17 => k_is); (case c17 => k_is); (case k17 => k_is); (case a18 => k_is); (case l18 => k_is); (case c18 => k_is)
    (case tc18 => k_is); (case tp18 => exact rfl); (case np18 => first | k_is | rfl | decide +kernel); (case k18 => k_is); (case a19 => k_is); (case l19 => k_is)
    (case c19 => k_is); (case k19 => k_is); (case a20 => k_is); (case l20 => k_is); (case c20 => k_is); (case k20 => k_is)
    (case a21 => k_is); (case l21 => k_is); (case c21 => k_is); (case k21 => k_is); (case a22 => k_is); (case l22 => k_is)
    (case c22 => k_is); (case k22 => k_is); (case a23 => k_is); (case l23 => k_is); (case c23 => k_is); (case tc23 => k_is)
    (case tp23 => exact rfl); (case np23 => first | k_is | rfl | decide +kernel); (case k23 => k_is); (case a24 => k_is); (case l24 => k_is); (case c24 => k_is)
    (case k24 => k_is); (case a25 => k_is); (case l25 => k_is); (case c25 => k_is); (case k25 => k_is); (case dp18_23 => decide)
    (case z_GREATEST => k_is); (case z_MAX_TERMS => k_is); (case su_0_1 => k_is); (case su_1_1 => k_is); (case su_2_1 => k_is); (case su_0_0 => k_is)
    (case su_1_0 => k_is); (case su_2_0 => k_is); (case su_0_2 => k_is); (case su_1_2 => k_is); (case su_2_2 => k_is); (case z_abs => k_is)
    (case z_all => k_is); (case z_bool => k_is); (case z_enumerate => k_is); (case z_int => k_is); (case z_isinstance => k_is); (case z_len => k_is)
    (case z_list => k_is); (case z_max => k_is); (case z_min => k_is); (case z_range => k_is); (case z_repr => k_is); (case z_tuple => k_is)
    (case z_zip => k_is); (case u_bool_bool => kit_is); (case u_bool_int => kit_is); (case u_bool_str => kit_is); (case u_bool_list => kit_is); (case u_bool_tuple => kit_is)
    (case u_bool_NoneType => kit_is); (case u_bool_dict => kit_is); (case u_int_bool => kit_is); (case u_int_int => kit_is); (case u_int_str => kit_is); (case u_int_list => kit_is)
    (case u_int_tuple => kit_is); (case u_int_NoneType => kit_is); (case u_int_dict => kit_is); (case u_tuple_bool => kit_is); (case u_tuple_int => kit_is); (case u_tuple_str => kit_is)
    (case u_tuple_list => kit_is); (case u_tuple_tuple => kit_is); (case u_tuple_NoneType => kit_is); (case u_tuple_dict => kit_is)
